import PyProof.Rows.All
import Wide.All
import OpenK.AllK
import Wide.FinOn
import Lean
import PySem.Challenge.RW_no0091_01
open PySem PySem.W PyProof.Rows
set_option Elab.async false
set_option compiler.extract_closed false
set_option maxRecDepth 100000
set_option maxHeartbeats 8000000
namespace Mine
/-- the part of the text that the head pins: all but the file's two names and the def that the law is about -/
def pinned : Program := view Challenge.pw_no0091_01 [1, 2, 3, 4, 5, 6, 7, 8, 11, 12, 13, 14, 15, 16, 17, 18]
/-- the head without its run of the top: the library's own way (in pieces) leaves 10 MB of twin facts behind, so the run is a premise here, and is shown below (left), in two checks of the kernel -/
local macro_rules | `(tactic| o_head $H) => do
  let hw := Lean.mkIdent `hw
  let hc := Lean.mkIdent `hc
  `(tactic| refine (fun (y : _) (x : _ ∧ _) => holds_open (q := pinned) (loose := [Str.ofString "MORE_BITS", Str.ofString "code_lengths_packed"]) (Xt := fun s => xlAt pinned [] s && recOk [] s) (XP := XL pinned []) (Yf := Hook.obs $H) (Ya := Hook.val $H) (YP := Hook.says $H) (N := 2192) x.1 (Hook.of $H) (Hook.keeps $H) (fun s e => xl_of s (Bool.and_eq_true_iff.mp e).1) XL.keeps (by rfl) (by rfl) (by rfl) (fun s e => recFacts_of (Bool.and_eq_true_iff.mp e).2) (by rfl) (by assumption) (by decide +kernel) ⟨rfl, rfl, rfl, rfl, rfl, by decide +kernel⟩ y x.2) ?$hw ?$hc)
open_top hd for PySem.Challenge.rw_no0091_01
/-- a top without lines of the opening: from the boot's state on, by the one row of the world that is asked -/
theorem left_boot {p q : Program} {loose : List Str} {Xt : Shared → Bool} {α : Type} {Yf : Shared → α} {Ya : World → α} {N : Nat} {g0 : Bool} (row : String)
    (e : opening p = plainProg p.main.scope.names) (hN : Nat.ble 600 N = true) (f : ∀ s, fenceModules? p s = some s)
    (hf : ∀ (w : World) (os : OsState), (topFrom treeTable p (w.withFollow row false) N ⟨boot_heap w.params, Array.mk [], boot_drawn, boot_toks, os⟩).map (fun s => (openSeen q loose (importedModules p.main.body) Xt g0 s, Yf s)) = some (openGood q loose, Ya (w.withFollow row false)))
    (ht : ∀ (w : World) (os : OsState), (topFrom treeTable p (w.withFollow row true) N ⟨boot_heap w.params, Array.mk [], boot_drawn, boot_toks, os⟩).map (fun s => (openSeen q loose (importedModules p.main.body) Xt g0 s, Yf s)) = some (openGood q loose, Ya (w.withFollow row true))) :
    LeftO p q loose Xt Yf Ya N g0 := by
  intro w
  obtain ⟨⟨h, gs, d, k, os⟩, e1, e2⟩ := Option.map_eq_some_iff.mp (boot_open e hN f w)
  obtain ⟨rfl, rfl, rfl, rfl⟩ : h = boot_heap w.params ∧ gs = Array.mk [] ∧ d = boot_drawn ∧ k = boot_toks := by simpa using e2
  unfold openEnds
  rw [e1]
  have e := World.withFollow_self w row
  cases hb : w.params.followText row <;> rw [hb] at e
  · have := hf w os
    rw [e] at this
    exact this
  · have := ht w os
    rw [e] at this
    exact this
noncomputable def hook : Hook := kHook Mine.hd.heap_39 [2, 3, 15, 16, 18, 19, 21, 22, 23, 25, 26, 28, 29, 37, 38, 40, 41, 43, 44, 45, 47, 48, 50, 51, 52, 53, 54, 55, 56, 66, 68, 69, 71, 72, 73, 75, 76, 78, 79, 80, 82, 83, 85, 86, 87, 89, 90, 92, 93, 94, 95, 96, 97, 98, 101, 102, 104, 105, 107, 108, 109, 111, 112, 114, 115, 116, 119, 120, 121, 123, 124, 126, 127, 128, 130, 131, 133, 134, 135, 137, 138, 140, 141, 142, 145, 146, 147, 149, 150, 152, 153, 154, 157, 158] (fun _ => by kernel_rfl)
theorem leftF : ∀ (w : World) (os : OsState), (topFrom treeTable Challenge.pw_no0091_01 (w.withFollow "special-get-raises" false) 2192 ⟨boot_heap w.params, Array.mk [], boot_drawn, boot_toks, os⟩).map (fun s => (openSeen pinned [Str.ofString "MORE_BITS", Str.ofString "code_lengths_packed"] (importedModules Challenge.pw_no0091_01.main.body) (fun s => xlAt pinned [] s && recOk [] s) true s, hook.obs s)) = some (openGood pinned [Str.ofString "MORE_BITS", Str.ofString "code_lengths_packed"], hook.val (w.withFollow "special-get-raises" false)) := by
  intro w os
  unfold topFrom openSeen openGood
  rw [Fast.te14082659384304107361, Fast.te14364793385576792824, Fast.te8920871248978507458, Fast.te5923862056798008813, Fast.te5160383126252970620, Fast.te3399658132070893891, Fast.te5991557255702980513, Fast.te10880121769531294198, Fast.te821141287760084731, Fast.te7409074990110511671, Fast.te13664370479719496447, Fast.te14722251495701143533, Fast.te10994771534591457954, Fast.te479339242167458305, Fast.te16090120013241838585, Fast.te3247288618530077131, Fast.te2386780881361962483, Fast.te11698064438423848299, Fast.te7317090234206586261, Fast.te7369524293546568484]
  kernel_rfl
theorem leftT : ∀ (w : World) (os : OsState), (topFrom treeTable Challenge.pw_no0091_01 (w.withFollow "special-get-raises" true) 2192 ⟨boot_heap w.params, Array.mk [], boot_drawn, boot_toks, os⟩).map (fun s => (openSeen pinned [Str.ofString "MORE_BITS", Str.ofString "code_lengths_packed"] (importedModules Challenge.pw_no0091_01.main.body) (fun s => xlAt pinned [] s && recOk [] s) true s, hook.obs s)) = some (openGood pinned [Str.ofString "MORE_BITS", Str.ofString "code_lengths_packed"], hook.val (w.withFollow "special-get-raises" true)) := by
  intro w os
  unfold topFrom openSeen openGood
  rw [Fast.te14082659384304107361, Fast.te14364793385576792824, Fast.te8920871248978507458, Fast.te5923862056798008813, Fast.te5160383126252970620, Fast.te3399658132070893891, Fast.te5991557255702980513, Fast.te10880121769531294198, Fast.te821141287760084731, Fast.te7409074990110511671, Fast.te13664370479719496447, Fast.te14722251495701143533, Fast.te10994771534591457954, Fast.te479339242167458305, Fast.te16090120013241838585, Fast.te3247288618530077131, Fast.te2386780881361962483, Fast.te11698064438423848299, Fast.te7317090234206586261, Fast.te7369524293546568484]
  kernel_rfl
theorem left : LeftO Challenge.pw_no0091_01 pinned [Str.ofString "MORE_BITS", Str.ofString "code_lengths_packed"] (fun s => xlAt pinned [] s && recOk [] s) hook.obs hook.val 2192 :=
  left_boot "special-get-raises" (by kernel_rfl) (by decide) (fun s => by kernel_rfl) leftF leftT
/-- the head's run leaves the lines for a top switched on; the walks below stand without them -/
theorem topOff : True := by
  w_top off
  trivial


/-- what a place in the call knows of its surroundings; `L` is the frame at hand -/
structure Cx (w : World) (D : Nat) (A : Around) (h₀ : Heap) (L : Addr) : Prop where
  ex : ∃ (A₀ : Around) (base : Heap) (env : Env) (outer : List Env) (gd : Option (List Code)) (d u : Nat) (loose : List Str) (mean : ExcName → Option Value) (mg mb : Str → Option Value),
    A = ⟨none, d, some (env :: outer), gd, u⟩ ∧ d ≤ D ∧ u ≤ D ∧ env.frame = some L ∧ env.scope.kind = .function ∧
    Below A₀ base outer h₀ ∧ (Mine.hd.heap_39 w.params).In h₀ ∧ Top pinned loose mean mg mb h₀

theorem Cx.here {w : World} {D : Nat} {A₀ : Around} {base : Heap} {env : Env} {outer : List Env} {gd : Option (List Code)} {d u : Nat} {loose : List Str} {mean : ExcName → Option Value} {mg mb : Str → Option Value} {h₀ : Heap} {L : Addr}
    (B : Below A₀ base outer h₀) (X : (Mine.hd.heap_39 w.params).In h₀) (T : Top pinned loose mean mg mb h₀)
    (hf : env.frame = some L) (hk : env.scope.kind = .function) (hd : d ≤ D) (hu : u ≤ D) : Cx w D ⟨none, d, some (env :: outer), gd, u⟩ h₀ L :=
  ⟨_, _, _, _, _, _, _, _, _, _, _, rfl, hd, hu, hf, hk, B, X, T⟩

abbrev Led := List (Addr × Obj)

noncomputable def Names (m : Str → Option Value) : List (Str × Value) → Prop
  | [] => True
  | p :: r => m p.1 = some p.2 ∧ Names m r
theorem Names.all {m : Str → Option Value} : ∀ {ps : List (Str × Value)}, Names m ps → ∀ p ∈ ps, m p.1 = some p.2
  | _ :: _, ⟨h, _⟩, _, .head _ => h
  | _ :: _, ⟨_, r⟩, _, .tail _ hp => r.all _ hp
theorem Names.eq {m : Str → Option Value} {ps : List (Str × Value)} (h : Names m ps) : kstB m ps = m := by
  funext z
  exact kstB_eq h.all fun _ => rfl
theorem frK {h₀ h : Heap} {L : Addr} {m : Str → Option Value} {ps : List (Str × Value)} (hm : Names m ps) (F : Fr h₀ L h m) : Fr h₀ L h (kstB m ps) := by
  rw [hm.eq]; exact F
theorem frKx {h₀ h : Heap} {L : Addr} {m : Str → Option Value} {ps : List (Str × Value)} {x : Str} {v : Value} (hm : Names m ps) (F : Fr h₀ L h (fun y => if y = x then some v else m y)) :
    Fr h₀ L h (fun y => if y = x then some v else kstB m ps y) := by
  rw [hm.eq]; exact F

theorem allLt_ne {d : Nat} {l : Led} : AllLt d l → ∀ p ∈ l, p.1 ≠ d := by
  induction l with
  | nil => intro _ p hp; cases hp
  | cons x r ih =>
    intro h p hp
    rcases List.mem_cons.mp hp with rfl | hp
    · exact Nat.ne_of_lt h.1
    · exact ih h.2 p hp
theorem all_ne_of_lt {d : Nat} {l : Led} (h : ∀ p ∈ l, p.1 < d) : ∀ p ∈ l, p.1 ≠ d := fun p hp => Nat.ne_of_lt (h p hp)

/-- a tuple of two ints -/
abbrev tup2 (x : Int) (t : Tok) (y : Int) (u : Tok) : Obj := { cls := .type "tuple", data := .seq [Value.int x t, Value.int y u].toArray }
inductive PairsAre (led : Led) : List Value → List (Int × Int) → Prop
  | nil : PairsAre led [] []
  | cons {a : Nat} {x y : Int} {t u : Tok} {vs : List Value} {ps : List (Int × Int)} : (a, tup2 x t y u) ∈ led → PairsAre led vs ps → PairsAre led (.ref a :: vs) ((x, y) :: ps)
theorem PairsAre.mono {led led' : Led} (h : ∀ p ∈ led, p ∈ led') {vs : List Value} {ps : List (Int × Int)} (k : PairsAre led vs ps) : PairsAre led' vs ps := by
  induction k with
  | nil => exact .nil
  | cons hm _ ih => exact .cons (h _ hm) ih
theorem PairsAre.append {led : Led} {vs ws : List Value} {ps qs : List (Int × Int)} (k : PairsAre led vs ps) (j : PairsAre led ws qs) : PairsAre led (vs ++ ws) (ps ++ qs) := by
  induction k with
  | nil => exact j
  | cons hm _ ih => exact .cons hm ih
theorem PairsAre.length {led : Led} {vs : List Value} {ps : List (Int × Int)} (k : PairsAre led vs ps) : vs.length = ps.length := by
  induction k with
  | nil => rfl
  | cons _ _ ih => simp [ih]
theorem PairsAre.get {led : Led} {vs : List Value} {ps : List (Int × Int)} (k : PairsAre led vs ps) : ∀ (i : Nat) (h : i < ps.length), ∃ a t u, vs[i]? = some (.ref a) ∧ (a, tup2 (ps[i]'h).1 t (ps[i]'h).2 u) ∈ led := by
  induction k with
  | nil => intro i h; exact absurd h (Nat.not_lt_zero _)
  | cons hm _ ih =>
    intro i h
    cases i with
    | zero => exact ⟨_, _, _, rfl, hm⟩
    | succ i => exact ih i (Nat.lt_of_succ_lt_succ h)
theorem PairsAre.rev {led : Led} {vs : List Value} {ps : List (Int × Int)} (k : PairsAre led vs ps) : PairsAre led vs.reverse ps.reverse := by
  induction k with
  | nil => exact .nil
  | cons hm _ ih => rw [List.reverse_cons, List.reverse_cons]; exact ih.append (.cons hm .nil)

theorem upd_mem {d : Addr} {o o' : Obj} {l l' : Led} (U : Upd d o o' l l') : ∀ p ∈ l', p = (d, o') ∨ (p ∈ l ∧ p.1 ≠ d) := by
  obtain ⟨pre, post, rfl, rfl, a, b⟩ := U.split
  intro p hp
  rcases List.mem_append.mp hp with h | h
  · exact .inr ⟨List.mem_append.mpr (.inl h), a p h⟩
  · rcases List.mem_cons.mp h with h | h
    · exact .inl h
    · exact .inr ⟨List.mem_append.mpr (.inr (.tail _ h)), b p h⟩
theorem upd_has {d : Addr} {o o' : Obj} {l l' : Led} (U : Upd d o o' l l') : (d, o) ∈ l := by
  obtain ⟨pre, post, rfl, rfl, a, b⟩ := U.split
  exact List.mem_append.mpr (.inr (.head _))
theorem upd_same {d : Addr} {o : Obj} {l l' : Led} (U : Upd d o o l l') : l' = l := by
  obtain ⟨pre, post, rfl, rfl, a, b⟩ := U.split
  rfl

section
variable {prog : Program} {w : World} {A : Around} {E : Value → Shared → Prop} {s : Shared} {h₀ : Heap} {L D : Addr} {m : Str → Option Value} {news news' : Led} {n : Nat}
theorem pop0 {i : Int} {u : Tok} {q : List Value} {y : Value} {Q : Value → Shared → Prop}
    (F : Fr h₀ L s.heap m) (N : News h₀ L s.heap news) (hi : i = 0) (U : Upd D (listOf (y :: q).toArray n) (listOf q.toArray (n + 1)) news news') (hz : q.length < 1000000)
    (h : ∀ h', Fr h₀ L h' m → News h₀ L h' news' → Q y { s with heap := h' }) : wpAny (model prog w) A (call (.builtin "list.pop") [.ref D, .int i u]) Q E s := by
  subst hi
  refine kl_popAt (its := (y :: q).toArray) (p := []) (q := q) (y := y) (k := 0) F N rfl ?_ rfl U ?_ h
  · simp [seqIndex?]
  · simp [sizeLine_eq]; omega

theorem intsGet {vs : List Value} {ns : List Int} (hI : IntsAre vs ns) {k : Nat} (h : k < ns.length) : ∃ t, vs[k]? = some (.int (ns.getD k 0) t) := by
  obtain ⟨t, ht⟩ := hI.get k (ns[k]'h) (by simp [h])
  exact ⟨t, by rw [ht]; simp [List.getD, h]⟩
/-- xs[i] of a list of ints of the ledger, 0 ≤ i < len -/
theorem item_ints {value slice : Expr} {l : Nat} {vs : List Value} {ns : List Int} {k : Int} {u : Tok} {Q : Value → Shared → Prop} (N : News h₀ L s.heap news) (hm : (l, listOf vs.toArray n) ∈ news) (hI : IntsAre vs ns)
    (h0 : 0 ≤ k) (hk : k < (ns.length : Int)) (hz : ns.length ≤ 1000000) (h : ∀ t, Q (.int (ns.getD k.toNat 0) t) s)
    (hs : subscripted slice false (.ref l) (.int k u) = operate [.ref l, .int k u] (getItem (.ref l) (.int k u)) := by with_unfolding_all rfl) :
    wpAny (model prog w) A (subscriptTail value slice (.ref l) (.int k u)) Q E s := by
  obtain ⟨t, ht⟩ := intsGet hI (k := k.toNat) (by omega)
  have hl : s.heap.IsList l vs.toArray := ⟨_, (N _ hm).1, rfl, n, rfl⟩
  exact tail_any hl.typeIs slot_list_getitem.lookup (wpAny_getItem_list hl h0 (by omega) (by simpa using ht) (h t)) hs
/-- xs[-1] of a list -/
theorem item_last {value slice : Expr} {l : Nat} {vs : List Value} {x : Value} {k : Int} {u : Tok} {Q : Value → Shared → Prop} (N : News h₀ L s.heap news) (hm : (l, listOf (vs ++ [x]).toArray n) ∈ news)
    (hk : k = -1) (h : Q x s)
    (hs : subscripted slice false (.ref l) (.int k u) = operate [.ref l, .int k u] (getItem (.ref l) (.int k u)) := by with_unfolding_all rfl) :
    wpAny (model prog w) A (subscriptTail value slice (.ref l) (.int k u)) Q E s := by
  subst hk
  have hl : s.heap.IsList l (vs ++ [x]).toArray := ⟨_, (N _ hm).1, rfl, n, rfl⟩
  refine tail_any hl.typeIs slot_list_getitem.lookup (wpAny_getItem_list_neg hl (by decide) (by rw [List.size_toArray, List.length_append, List.length_singleton]; omega) (by decide) ?_ h) hs
  have : (-1 + (((vs ++ [x]).toArray.size : Nat) : Int)).toNat = vs.length := by rw [List.size_toArray, List.length_append, List.length_singleton]; omega
  rw [this]; simp
theorem append_L {vs : List Value} {x : Value} {Q : Value → Shared → Prop} (F : Fr h₀ L s.heap m) (N : News h₀ L s.heap news) (U : Upd D (listOf vs.toArray n) (listOf (vs ++ [x]).toArray (n + 1)) news news') (hz : vs.length ≤ 1000000)
    (h : ∀ h', Fr h₀ L h' m → News h₀ L h' news' → Q .none { s with heap := h' }) : wpAny (model prog w) A (call (.builtin "list.append") [.ref D, x]) Q E s :=
  append_K F N (by rw [List.push_toArray]; exact U) h (by rw [List.size_toArray, sizeLine_eq]; omega)
end

/-- all but M stands as it stood -/
def Same (M : List Nat) (h h' : Heap) : Prop := ∀ a o, a ∉ M → h.get? a = some o → h'.get? a = some o
theorem Same.refl (M : List Nat) (h : Heap) : Same M h h := fun _ _ _ e => e
theorem Same.trans {M : List Nat} {h h' h'' : Heap} (a : Same M h h') (b : Same M h' h'') : Same M h h'' := fun x o hx e => b x o hx (a x o hx e)
theorem Same.wide {M M' : List Nat} {h h' : Heap} (a : Same M h h') (hs : ∀ x ∈ M, x ∈ M') : Same M' h h' := fun x o hx e => a x o (fun q => hx (hs x q)) e

theorem backFr {h₀ h h' : Heap} {L : Addr} {m : Str → Option Value} {M : List Nat} (F : Fr h₀ L h m) (S : Same M h h') (hM : ∀ a ∈ M, a ≠ L ∧ h₀.get? a = none) : Fr h₀ L h' m := by
  obtain ⟨oL, es, ep, hL, r⟩ := F.ns
  refine ⟨⟨oL, es, ep, S _ _ (fun q => (hM _ q).1 rfl) hL, r⟩, fun b o e => S _ _ (fun q => ?_) (F.keep b o e), F.above⟩
  rw [(hM _ q).2] at e; cases e
theorem newOf {h₀ h : Heap} {L : Addr} {m : Str → Option Value} (F : Fr h₀ L h m) {a : Nat} (ha : h.get? a = none) : a ≠ L ∧ h₀.get? a = none := by
  refine ⟨fun q => ?_, ?_⟩
  · obtain ⟨oL, es, ep, hL, r⟩ := F.ns
    rw [q, hL] at ha; cases ha
  · cases q : h₀.get? a with
    | none => rfl
    | some o => rw [F.keep _ _ q] at ha; cases ha

section
variable {w : World} {A₀ A : Around} {s : Shared} {base h₀ : Heap} {outer : List Env} {L : Addr} {m : Str → Option Value} {env : Env} {led : Led} {loose : List Str} {mean : ExcName → Option Value} {mg mb : Str → Option Value}
  {R : Result → Shared → Prop} {name qual : Str} {params : Arguments} {body : List Stmt} {scope : Scope} {dV kV doc pm cdv ct oc : Value} {an od : Option Addr} {osl : Array (Option Value)} {f : Addr} {args : Args} {binds : List (Str × Value)}

/-- a call of a def: its body from a frame of its own; what of the caller's heap is not in the ledger stands in the new ground -/
theorem enterP (B : Below A₀ base outer h₀) (X : (Mine.hd.heap_39 w.params).In h₀) (T : Top pinned loose mean mg mb h₀) (F : Fr h₀ L s.heap m) (N : News h₀ L s.heap led)
    (hA : A.frames = some (env :: outer)) (hf : env.frame = some L) (hke : env.scope.kind = .function)
    (ho : (Mine.hd.heap_39 w.params).lookup f = some ⟨oc, od, .func (fnOf name qual params body scope dV kV doc pm an cdv ct), osl⟩) (hcd : codeIn (Mine.hd.heap_39 w.params) cdv qual = true) (hroom : A.depth < recursionLimit)
    (hbind : BindsTo s (fnOf name qual params body scope dV kV doc pm an cdv ct) args binds) (hloc : ∀ y ∈ binds, scope.names.lookup y.1 = some .local)
    (h : ∀ (g : Heap) (L' : Addr) (h₁ : Heap) (tk : Nat), Fr g L' h₁ (fun y => binds.reverse.lookup y) → News g L' h₁ led → Below A base (env :: outer) g → (Mine.hd.heap_39 w.params).In g → Top pinned loose mean mg mb g →
      (∀ b o, s.heap.get? b = some o → b ∉ led.map (·.1) → g.get? b = some o) →
      wpAny (model Challenge.rw_no0091_01.row.prog w) (A.deeper (envOf qual scope L' f cdv)) (execs body (envOf qual scope L' f cdv))
        (fun fl s' => R (.ok (.ret (match fl with | .ret v => v | _ => .none))) s')
        (fun e s' => wpAny (model Challenge.rw_no0091_01.row.prog w) (A.deeper (envOf qual scope L' f cdv)) (leaving (envOf qual scope L' f cdv) e) (fun _ s'' => R (.error e) s'') (fun e' s'' => R (.error e') s'') s')
        { s with heap := h₁, toks := tk })
    (hco : scope.isCoroutine = false) (hgen : scope.isGenerator = false) (hk : scope.kind = .function)
    (hcell : ∀ x ∈ scope.names, x.2 ≠ .cell) : codeAny (model Challenge.rw_no0091_01.row.prog w) A (.call (.ref f) args) R s := by
  obtain ⟨FG, BG, st, _⟩ := groundX (R := R) B F N hA hf hke
  refine codeAny_call_def (fd := fnOf name qual params body scope dV kV doc pm an cdv ct) (body := body) (binds := binds) hroom ((X.keeps F.keep) _ _ ho) rfl (T.nolimit.keeps F.keep) (codeRec_of (X.keeps F.keep) hcd) rfl hbind hcell hloc (fun h₁ hns hk₁ => ?_) hco hgen hk
  exact h _ s.heap.objs.size h₁ _ ⟨hns, fun b o e => hk₁ b o (of_hideAll _ e), Nat.le_of_eq (hideAll_size _ _)⟩
    (fun p hp => ⟨hk₁ _ _ (N p hp).1, Nat.ne_of_lt (Heap.lt_size (N p hp).1), hideAll_none _ (List.mem_map_of_mem hp)⟩) BG (X.keeps st) (T.keeps st) (fun b o e hb => hideAll_get _ e hb)

/-- the same for a def that has cells -/
theorem enterC (B : Below A₀ base outer h₀) (X : (Mine.hd.heap_39 w.params).In h₀) (T : Top pinned loose mean mg mb h₀) (F : Fr h₀ L s.heap m) (N : News h₀ L s.heap led)
    (hA : A.frames = some (env :: outer)) (hf : env.frame = some L) (hke : env.scope.kind = .function)
    (ho : (Mine.hd.heap_39 w.params).lookup f = some ⟨oc, od, .func (fnOf name qual params body scope dV kV doc pm an cdv ct), osl⟩) (hcd : codeIn (Mine.hd.heap_39 w.params) cdv qual = true) (hroom : A.depth < recursionLimit)
    (hbind : BindsTo s (fnOf name qual params body scope dV kV doc pm an cdv ct) args binds)
    (hkind : (binds.all fun y => scope.names.lookup y.1 == some .local || scope.names.lookup y.1 == some .cell) = true)
    (hnd : ((cellsFrom 0 scope.names []).map (·.1)).Nodup)
    (h : ∀ (g : Heap) (L' : Addr) (h₁ : Heap) (tk : Nat) (cells : Led), Fr g L' h₁ (bindL (envOfC qual scope L' f cdv).kindOf binds fun _ => none) → News g L' h₁ (cells ++ led) →
      CellsAre (bindC (envOfC qual scope L' f cdv).kindOf binds fun _ => none) (cellsFrom (L' + 1) scope.names []) cells → Below A base (env :: outer) g → (Mine.hd.heap_39 w.params).In g → Top pinned loose mean mg mb g → (∀ p ∈ led, p.1 < L') →
      (∀ b o, s.heap.get? b = some o → b ∉ led.map (·.1) → g.get? b = some o) →
      wpAny (model Challenge.rw_no0091_01.row.prog w) (A.deeper (envOfC qual scope L' f cdv)) (execs body (envOfC qual scope L' f cdv))
        (fun fl s' => R (.ok (.ret (match fl with | .ret v => v | _ => .none))) s')
        (fun e s' => wpAny (model Challenge.rw_no0091_01.row.prog w) (A.deeper (envOfC qual scope L' f cdv)) (leaving (envOfC qual scope L' f cdv) e) (fun _ s'' => R (.error e) s'') (fun e' s'' => R (.error e') s'') s')
        { s with heap := h₁, toks := tk })
    (hco : scope.isCoroutine = false) (hgen : scope.isGenerator = false) (hk : scope.kind = .function) : codeAny (model Challenge.rw_no0091_01.row.prog w) A (.call (.ref f) args) R s := by
  obtain ⟨FG, BG, st, _⟩ := groundX (R := R) B F N hA hf hke
  refine codeAny_call_function (fd := fnOf name qual params body scope dV kV doc pm an cdv ct) (body := body) hroom ((X.keeps F.keep) _ _ ho) rfl hco hgen rfl (codeRec_of (X.keeps F.keep) hcd) (hbind _ _ _ _ ?_)
  refine wpAny_newFunctionEnv_cells hk (kindsX hkind _) fun env' he s' x => ?_
  subst he
  refine ⟨(T.nolimit.keeps F.keep).keeps x.toInCall.keep, codeAny_func ?_⟩
  obtain ⟨h₁, tk, rfl, _⟩ := x.done
  have hk₁ := x.toInCall.keep
  obtain ⟨cells, NC, Y⟩ := Cl.news (h₀ := s.heap) (Nat.le_refl _) fun n c hm => ⟨x.cell n c (lookup_of_mem_nodup (cellsFrom_names scope.names 0 (s.heap.objs.size + 1) [] [] rfl ▸ hnd) hm), x.above n c hm⟩
  refine h _ s.heap.objs.size h₁ tk cells ⟨x.toInCall.ns, fun b o e => hk₁ b o (of_hideAll _ e), Nat.le_of_eq (hideAll_size _ _)⟩ (fun p hp => ?_) Y BG (X.keeps st) (T.keeps st) (fun p hp => Heap.lt_size (N p hp).1) (fun b o e hb => hideAll_get _ e hb)
  rcases List.mem_append.mp hp with hp | hp
  · refine ⟨(NC p hp).1, (NC p hp).2.1, ?_⟩
    cases q : (hideAll s.heap (led.map (·.1))).get? p.1 with
    | none => rfl
    | some o => have := of_hideAll _ q; rw [(NC p hp).2.2] at this; cases this
  · exact ⟨hk₁ _ _ (N p hp).1, Nat.ne_of_lt (Heap.lt_size (N p hp).1), hideAll_none _ (List.mem_map_of_mem hp)⟩
end
theorem Cx.wide {w : World} {D D' : Nat} {A : Around} {h₀ : Heap} {L : Addr} (C : Cx w D A h₀ L) (h : D ≤ D') : Cx w D' A h₀ L := by
  obtain ⟨A₀, base, env, outer, gd, d, u, loose, mean, mg, mb, e, hd, hu, r⟩ := C.ex
  exact ⟨A₀, base, env, outer, gd, d, u, loose, mean, mg, mb, e, Nat.le_trans hd h, Nat.le_trans hu h, r⟩
theorem Cx.inX {w : World} {D : Nat} {A : Around} {h₀ : Heap} {L : Addr} (C : Cx w D A h₀ L) : (Mine.hd.heap_39 w.params).In h₀ := by
  obtain ⟨A₀, base, env, outer, gd, d, u, loose, mean, mg, mb, e, hd, hu, hf, hk, B, X, T⟩ := C.ex
  exact X
section
variable {w : World} {A : Around} {s : Shared} {h₀ : Heap} {L : Addr} {D : Nat} {m : Str → Option Value} {led : Led}
  {R : Result → Shared → Prop} {name qual : Str} {params : Arguments} {body : List Stmt} {scope : Scope} {dV kV doc pm cdv ct oc : Value} {an od : Option Addr} {osl : Array (Option Value)} {f : Addr} {args : Args} {binds : List (Str × Value)}
/-- a call of a def, all that its body does not look into behind names of its own -/
theorem enterP2 (C : Cx w D A h₀ L) (F : Fr h₀ L s.heap m) (N : News h₀ L s.heap led)
    (ho : (Mine.hd.heap_39 w.params).lookup f = some ⟨oc, od, .func (fnOf name qual params body scope dV kV doc pm an cdv ct), osl⟩) (hcd : codeIn (Mine.hd.heap_39 w.params) cdv qual = true) (hroom : D < recursionLimit)
    (hbind : BindsTo s (fnOf name qual params body scope dV kV doc pm an cdv ct) args binds) (hloc : ∀ y ∈ binds, scope.names.lookup y.1 = some .local)
    (h : ∀ (g : Heap) (L' : Addr) (h₁ : Heap) (tk d u : Nat) (fs : Option (List Env)) (gd : Option (List Code)) (gn : Array GenState) (dr : Drawn) (os : OsState) (Q' : Flow → Shared → Prop) (E' : Value → Shared → Prop) (loose : List Str) (mean : ExcName → Option Value) (mg mb : Str → Option Value),
      Fr g L' h₁ (fun y => binds.reverse.lookup y) → News g L' h₁ led → Cx w (D + 3) ⟨none, d, fs, gd, u + 3⟩ g L' → (Mine.hd.heap_39 w.params).In g → Top pinned loose mean mg mb g →
      PassesOwn (model Challenge.rw_no0091_01.row.prog w) ⟨none, d, fs, gd, u + 3⟩ (envOf qual scope L' f cdv) E' → u ≤ D →
      (∀ b o, s.heap.get? b = some o → b ∉ led.map (·.1) → g.get? b = some o) →
      (∀ v h' tk', R (.ok (.ret v)) { s with heap := h', toks := tk' } → Q' (.ret v) ⟨h', gn, dr, tk', os⟩) → (∀ h' tk', R (.ok (.ret .none)) { s with heap := h', toks := tk' } → Q' .next ⟨h', gn, dr, tk', os⟩) →
      wpAny (model Challenge.rw_no0091_01.row.prog w) ⟨none, d, fs, gd, u + 3⟩ (execs body (envOf qual scope L' f cdv)) Q' E' ⟨h₁, gn, dr, tk, os⟩)
    (hco : scope.isCoroutine = false) (hgen : scope.isGenerator = false) (hk : scope.kind = .function)
    (hcell : ∀ x ∈ scope.names, x.2 ≠ .cell) : codeAny (model Challenge.rw_no0091_01.row.prog w) A (.call (.ref f) args) R s := by
  obtain ⟨A₀, base, env, outer, gd, d, u, loose, mean, mg, mb, rfl, hd, hu, hfr, hke, B, X, T⟩ := C.ex
  refine enterP (R := R) B X T F N rfl hfr hke ho hcd (Nat.lt_of_le_of_lt hd hroom) hbind hloc (fun g L' h₁ tk F' N' B' X' T' st => ?_) hco hgen hk hcell
  exact h g L' h₁ tk _ _ _ _ s.gens s.drawn s.os _ _ loose mean mg mb F' N' (Cx.here B' X' T' rfl hk (Nat.le_trans (Nat.succ_le_succ hd) (by omega)) (Nat.add_le_add_right hu 3)) X' T' PassesOwn.leaving hu st (fun _ _ _ q => q) (fun _ _ q => q)
theorem enterC2 (C : Cx w D A h₀ L) (F : Fr h₀ L s.heap m) (N : News h₀ L s.heap led)
    (ho : (Mine.hd.heap_39 w.params).lookup f = some ⟨oc, od, .func (fnOf name qual params body scope dV kV doc pm an cdv ct), osl⟩) (hcd : codeIn (Mine.hd.heap_39 w.params) cdv qual = true) (hroom : D < recursionLimit)
    (hbind : BindsTo s (fnOf name qual params body scope dV kV doc pm an cdv ct) args binds)
    (hkind : (binds.all fun y => scope.names.lookup y.1 == some .local || scope.names.lookup y.1 == some .cell) = true)
    (hnd : ((cellsFrom 0 scope.names []).map (·.1)).Nodup)
    (h : ∀ (g : Heap) (L' : Addr) (h₁ : Heap) (tk d u : Nat) (fs : Option (List Env)) (gd : Option (List Code)) (gn : Array GenState) (dr : Drawn) (os : OsState) (Q' : Flow → Shared → Prop) (E' : Value → Shared → Prop) (loose : List Str) (mean : ExcName → Option Value) (mg mb : Str → Option Value) (cells : Led),
      Fr g L' h₁ (bindL (envOfC qual scope L' f cdv).kindOf binds fun _ => none) → News g L' h₁ (cells ++ led) →
      CellsAre (bindC (envOfC qual scope L' f cdv).kindOf binds fun _ => none) (cellsFrom (L' + 1) scope.names []) cells → Cx w (D + 3) ⟨none, d, fs, gd, u + 3⟩ g L' → (Mine.hd.heap_39 w.params).In g → Top pinned loose mean mg mb g →
      PassesOwn (model Challenge.rw_no0091_01.row.prog w) ⟨none, d, fs, gd, u + 3⟩ (envOfC qual scope L' f cdv) E' → u ≤ D → (∀ p ∈ led, p.1 < L') →
      (∀ b o, s.heap.get? b = some o → b ∉ led.map (·.1) → g.get? b = some o) →
      (∀ v h' tk', R (.ok (.ret v)) { s with heap := h', toks := tk' } → Q' (.ret v) ⟨h', gn, dr, tk', os⟩) → (∀ h' tk', R (.ok (.ret .none)) { s with heap := h', toks := tk' } → Q' .next ⟨h', gn, dr, tk', os⟩) →
      wpAny (model Challenge.rw_no0091_01.row.prog w) ⟨none, d, fs, gd, u + 3⟩ (execs body (envOfC qual scope L' f cdv)) Q' E' ⟨h₁, gn, dr, tk, os⟩)
    (hco : scope.isCoroutine = false) (hgen : scope.isGenerator = false) (hk : scope.kind = .function) : codeAny (model Challenge.rw_no0091_01.row.prog w) A (.call (.ref f) args) R s := by
  obtain ⟨A₀, base, env, outer, gd, d, u, loose, mean, mg, mb, rfl, hd, hu, hfr, hke, B, X, T⟩ := C.ex
  refine enterC (R := R) B X T F N rfl hfr hke ho hcd (Nat.lt_of_le_of_lt hd hroom) hbind hkind hnd (fun g L' h₁ tk cells F' N' Y' B' X' T' l1 st => ?_) hco hgen hk
  exact h g L' h₁ tk _ _ _ _ s.gens s.drawn s.os _ _ loose mean mg mb cells F' N' Y' (Cx.here B' X' T' rfl hk (Nat.le_trans (Nat.succ_le_succ hd) (by omega)) (Nat.add_le_add_right hu 3)) X' T' PassesOwn.leaving hu l1 st (fun _ _ _ q => q) (fun _ _ q => q)
end
theorem sameOf {h g h' : Heap} {L' : Addr} {m' : Str → Option Value} {led : Led} (st : ∀ b o, h.get? b = some o → b ∉ led.map (·.1) → g.get? b = some o) (F : Fr g L' h' m') : Same (led.map (·.1)) h h' :=
  fun a o ha e => F.keep _ _ (st a o e ha)
theorem freshOf {h g h' : Heap} {L' : Addr} {led news : Led} (st : ∀ b o, h.get? b = some o → b ∉ led.map (·.1) → g.get? b = some o) (N : News g L' h' news) {a : Nat} {o : Obj} (hm : (a, o) ∈ news) (ha : a ∉ led.map (·.1)) : h.get? a = none := by
  cases q : h.get? a with
  | none => rfl
  | some o' => have := st a o' q ha; rw [(N _ hm).2.2] at this; cases this

section
open PyProof.Rows.LCg
variable {prog : Program} {w : World} {A : Around} {E : Value → Shared → Prop} {s s₁ : Shared} {h₀ : Heap} {L : Addr} {m : Str → Option Value} {env : Env}
theorem compInv {elt : Expr} {x : Str} {scope : Scope} {cl : List (Str × Addr)} {S : Led → Prop} {P : Nat → Value → Prop} {Fin : List Value → Led → Prop} {n : Nat} (J : Nat → List Value → Led → Prop)
    (turn : ∀ i v (I : Nat) oI (C : Nat) oC (D : Nat) m₂ h tk (E' : Value → Shared → Prop) ys news, i < n → P i v → J i ys news → NsObj oC m₂ → m₂ x = some v → Fr h₀ L h m → News h₀ L h ((I, oI) :: (C, oC) :: (D, lst ys) :: news) → Off3 I C D news → ((@Ne Nat I C) ∧ (@Ne Nat I D) ∧ (@Ne Nat C D)) →
      wpAny (model prog w) A (eval elt (compEnvC scope cl C env)) (CompEnd h₀ L m { s with heap := h, toks := tk } I oI C oC D (lst ys) S (fun y news' => J (i + 1) (ys ++ [y]) news')) E' { s with heap := h, toks := tk })
    (fin : ∀ ys news, J n ys news → Fin ys news) : ∀ (k i : Nat) (ys : List Value) (news : Led), i + k = n → J i ys news → CompRest prog w A h₀ L m env elt x scope cl s S P Fin k i ys news := by
  intro k
  induction k with
  | zero => intro i ys news e hJ; exact fin ys news (by rw [← e]; exact hJ)
  | succ k ih =>
    intro i ys news e hJ v I oI C oC D m₂ h tk E' hv hC hx F N off ne
    refine wpAny_mono (turn i v I oI C oC D m₂ h tk E' ys news (by omega) hv hJ hC hx F N off ne) (fun y s' hy => ?_) fun _ _ e => e
    obtain ⟨h', tk', news', e1, F', N', o', S', J'⟩ := hy
    exact ⟨h', tk', news', e1, F', N', o', S', ih (i + 1) _ _ (by omega) J'⟩
theorem comp_rangeS {elt : Expr} {x : Str} {scope : Scope} {cl : List (Str × Addr)} {Fin : Shared → List Value → Led → Prop} {r : Addr} {a b : Int} {t u v : Tok} {n : Nat} {news : Led} (J : Nat → List Value → Led → Prop)
    (hh : A.handled = none) (F : Fr h₀ L s₁.heap m) (N : News h₀ L s₁.heap news) (hr : IsRange s₁.heap r a b 1 t u v) (hsm : Builtin.Range.small a b 1 = true) (hn : Builtin.Range.rangeSize a b 1 = ((n : Nat) : Int)) (hsz : n ≤ 1000000)
    (h0 : J 0 [] news)
    (turn : ∀ i t (I : Nat) oI (C : Nat) oC (D : Nat) m₂ h tk (E' : Value → Shared → Prop) ys news, i < n → J i ys news → NsObj oC m₂ → m₂ x = some (.int (a + (i : Int)) t) → Fr h₀ L h m → News h₀ L h ((I, oI) :: (C, oC) :: (D, lst ys) :: news) → Off3 I C D news → ((@Ne Nat I C) ∧ (@Ne Nat I D) ∧ (@Ne Nat C D)) →
      wpAny (model prog w) A (eval elt (compEnvC scope cl C env)) (CompEnd h₀ L m { s₁ with heap := h, toks := tk } I oI C oC D (lst ys) (fun _ => True) (fun y news' => J (i + 1) (ys ++ [y]) news')) E' { s₁ with heap := h, toks := tk })
    (fin : ∀ g ys news, J n ys news → Fin { s₁ with heap := g } ys news) :
    CompSrc prog w A h₀ L m env elt x scope cl Fin (.ref r) s₁ := by
  refine CompSrc.range hh F N hr hsm hn (by rw [sizeLine_eq]; omega) fun g => ?_
  refine compInv (n := n) J ?_ (fun ys nw hJ => fin g ys nw hJ) n 0 [] news (Nat.zero_add n) h0
  intro i v I oI C oC D m₂ h tk E' ys nw hi ⟨t', hv⟩ hJ hC hx F' N' off ne
  subst hv
  exact turn i t' I oI C oC D m₂ h tk E' ys nw hi hJ hC hx F' N' off ne
variable {hp : Heap} {gn : Array GenState} {dr : Drawn} {tk0 : Nat} {os : OsState}
theorem comp_range {elt : Expr} {x : Str} {scope : Scope} {cl : List (Str × Addr)} {Fin : Shared → List Value → Led → Prop} {r : Addr} {a b : Int} {t u v : Tok} {n : Nat} {news : Led} (J : Nat → List Value → Led → Prop)
    (hh : A.handled = none) (F : Fr h₀ L hp m) (N : News h₀ L hp news) (hr : IsRange hp r a b 1 t u v) (hsm : Builtin.Range.small a b 1 = true) (hn : Builtin.Range.rangeSize a b 1 = ((n : Nat) : Int)) (hsz : n ≤ 1000000)
    (h0 : J 0 [] news)
    (turn : ∀ i t (I : Nat) oI (C : Nat) oC (D : Nat) m₂ h tk (E' : Value → Shared → Prop) ys news, i < n → J i ys news → NsObj oC m₂ → m₂ x = some (.int (a + (i : Int)) t) → Fr h₀ L h m → News h₀ L h ((I, oI) :: (C, oC) :: (D, lst ys) :: news) → (∀ p ∈ news, p.1 ≠ I) → (∀ p ∈ news, p.1 ≠ C) → (∀ p ∈ news, p.1 ≠ D) → (@Ne Nat I C) → (@Ne Nat I D) → (@Ne Nat C D) →
      ∀ QC : Value → Shared → Prop, (∀ y s₂, CompEnd h₀ L m ⟨h, gn, dr, tk, os⟩ I oI C oC D (lst ys) (fun _ => True) (fun y news' => J (i + 1) (ys ++ [y]) news') y s₂ → QC y s₂) → wpAny (model prog w) A (eval elt (compEnvC scope cl C env)) QC E' ⟨h, gn, dr, tk, os⟩)
    (fin : ∀ g ys news, J n ys news → Fin ⟨g, gn, dr, tk0, os⟩ ys news) :
    CompSrc prog w A h₀ L m env elt x scope cl Fin (.ref r) ⟨hp, gn, dr, tk0, os⟩ :=
  comp_rangeS (s₁ := ⟨hp, gn, dr, tk0, os⟩) J hh F N hr hsm hn hsz h0 (fun i t I oI C oC D m₂ h tk E' ys news a b c d e f g k => turn i t I oI C oC D m₂ h tk E' ys news a b c d e f (fun p hp => (g.mem p hp).1) (fun p hp => (g.mem p hp).2.1) (fun p hp => (g.mem p hp).2.2) k.1 k.2.1 k.2.2 _ (fun _ _ q => q)) fin
end

/-- a goal that the walk is to leave as it stands -/
structure Stop (p : Prop) : Prop where
  go : p
theorem stop {p : Prop} (h : Stop p) : p := h.go
/-! splitting a hypothesis with one copy of the goal -/
theorem and2 {p1 p2 G : Prop} (k : p1 → p2 → G) (h : p1 ∧ p2) : G := k h.1 h.2
theorem and3 {p1 p2 p3 G : Prop} (k : p1 → p2 → p3 → G) (h : p1 ∧ p2 ∧ p3) : G := k h.1 h.2.1 h.2.2
theorem and4 {p1 p2 p3 p4 G : Prop} (k : p1 → p2 → p3 → p4 → G) (h : p1 ∧ p2 ∧ p3 ∧ p4) : G := k h.1 h.2.1 h.2.2.1 h.2.2.2
theorem and5 {p1 p2 p3 p4 p5 G : Prop} (k : p1 → p2 → p3 → p4 → p5 → G) (h : p1 ∧ p2 ∧ p3 ∧ p4 ∧ p5) : G := k h.1 h.2.1 h.2.2.1 h.2.2.2.1 h.2.2.2.2
theorem and6 {p1 p2 p3 p4 p5 p6 G : Prop} (k : p1 → p2 → p3 → p4 → p5 → p6 → G) (h : p1 ∧ p2 ∧ p3 ∧ p4 ∧ p5 ∧ p6) : G := k h.1 h.2.1 h.2.2.1 h.2.2.2.1 h.2.2.2.2.1 h.2.2.2.2.2
theorem and7 {p1 p2 p3 p4 p5 p6 p7 G : Prop} (k : p1 → p2 → p3 → p4 → p5 → p6 → p7 → G) (h : p1 ∧ p2 ∧ p3 ∧ p4 ∧ p5 ∧ p6 ∧ p7) : G := k h.1 h.2.1 h.2.2.1 h.2.2.2.1 h.2.2.2.2.1 h.2.2.2.2.2.1 h.2.2.2.2.2.2
theorem and8 {p1 p2 p3 p4 p5 p6 p7 p8 G : Prop} (k : p1 → p2 → p3 → p4 → p5 → p6 → p7 → p8 → G) (h : p1 ∧ p2 ∧ p3 ∧ p4 ∧ p5 ∧ p6 ∧ p7 ∧ p8) : G := k h.1 h.2.1 h.2.2.1 h.2.2.2.1 h.2.2.2.2.1 h.2.2.2.2.2.1 h.2.2.2.2.2.2.1 h.2.2.2.2.2.2.2
theorem and9 {p1 p2 p3 p4 p5 p6 p7 p8 p9 G : Prop} (k : p1 → p2 → p3 → p4 → p5 → p6 → p7 → p8 → p9 → G) (h : p1 ∧ p2 ∧ p3 ∧ p4 ∧ p5 ∧ p6 ∧ p7 ∧ p8 ∧ p9) : G := k h.1 h.2.1 h.2.2.1 h.2.2.2.1 h.2.2.2.2.1 h.2.2.2.2.2.1 h.2.2.2.2.2.2.1 h.2.2.2.2.2.2.2.1 h.2.2.2.2.2.2.2.2
theorem and10 {p1 p2 p3 p4 p5 p6 p7 p8 p9 p10 G : Prop} (k : p1 → p2 → p3 → p4 → p5 → p6 → p7 → p8 → p9 → p10 → G) (h : p1 ∧ p2 ∧ p3 ∧ p4 ∧ p5 ∧ p6 ∧ p7 ∧ p8 ∧ p9 ∧ p10) : G := k h.1 h.2.1 h.2.2.1 h.2.2.2.1 h.2.2.2.2.1 h.2.2.2.2.2.1 h.2.2.2.2.2.2.1 h.2.2.2.2.2.2.2.1 h.2.2.2.2.2.2.2.2.1 h.2.2.2.2.2.2.2.2.2
theorem and11 {p1 p2 p3 p4 p5 p6 p7 p8 p9 p10 p11 G : Prop} (k : p1 → p2 → p3 → p4 → p5 → p6 → p7 → p8 → p9 → p10 → p11 → G) (h : p1 ∧ p2 ∧ p3 ∧ p4 ∧ p5 ∧ p6 ∧ p7 ∧ p8 ∧ p9 ∧ p10 ∧ p11) : G := k h.1 h.2.1 h.2.2.1 h.2.2.2.1 h.2.2.2.2.1 h.2.2.2.2.2.1 h.2.2.2.2.2.2.1 h.2.2.2.2.2.2.2.1 h.2.2.2.2.2.2.2.2.1 h.2.2.2.2.2.2.2.2.2.1 h.2.2.2.2.2.2.2.2.2.2
theorem and12 {p1 p2 p3 p4 p5 p6 p7 p8 p9 p10 p11 p12 G : Prop} (k : p1 → p2 → p3 → p4 → p5 → p6 → p7 → p8 → p9 → p10 → p11 → p12 → G) (h : p1 ∧ p2 ∧ p3 ∧ p4 ∧ p5 ∧ p6 ∧ p7 ∧ p8 ∧ p9 ∧ p10 ∧ p11 ∧ p12) : G := k h.1 h.2.1 h.2.2.1 h.2.2.2.1 h.2.2.2.2.1 h.2.2.2.2.2.1 h.2.2.2.2.2.2.1 h.2.2.2.2.2.2.2.1 h.2.2.2.2.2.2.2.2.1 h.2.2.2.2.2.2.2.2.2.1 h.2.2.2.2.2.2.2.2.2.2.1 h.2.2.2.2.2.2.2.2.2.2.2
theorem ex1 {T1 : Type} {p : T1 → Prop} {G : Prop} (k : ∀ x1, p x1 → G) (h : ∃ x1, p x1) : G := let ⟨x1, h⟩ := h; k x1 h
theorem ex2 {T1 T2 : Type} {p : T1 → T2 → Prop} {G : Prop} (k : ∀ x1 x2, p x1 x2 → G) (h : ∃ x1 x2, p x1 x2) : G := let ⟨x1, x2, h⟩ := h; k x1 x2 h
theorem ex3 {T1 T2 T3 : Type} {p : T1 → T2 → T3 → Prop} {G : Prop} (k : ∀ x1 x2 x3, p x1 x2 x3 → G) (h : ∃ x1 x2 x3, p x1 x2 x3) : G := ex1 (fun x1 h => ex2 (k x1) h) h
theorem ex4 {T1 T2 T3 T4 : Type} {p : T1 → T2 → T3 → T4 → Prop} {G : Prop} (k : ∀ x1 x2 x3 x4, p x1 x2 x3 x4 → G) (h : ∃ x1 x2 x3 x4, p x1 x2 x3 x4) : G := ex2 (fun x1 x2 h => ex2 (k x1 x2) h) h
theorem ex5 {T1 T2 T3 T4 T5 : Type} {p : T1 → T2 → T3 → T4 → T5 → Prop} {G : Prop} (k : ∀ x1 x2 x3 x4 x5, p x1 x2 x3 x4 x5 → G) (h : ∃ x1 x2 x3 x4 x5, p x1 x2 x3 x4 x5) : G := ex2 (fun x1 x2 h => ex3 (k x1 x2) h) h
theorem ex6 {T1 T2 T3 T4 T5 T6 : Type} {p : T1 → T2 → T3 → T4 → T5 → T6 → Prop} {G : Prop} (k : ∀ x1 x2 x3 x4 x5 x6, p x1 x2 x3 x4 x5 x6 → G) (h : ∃ x1 x2 x3 x4 x5 x6, p x1 x2 x3 x4 x5 x6) : G := ex3 (fun x1 x2 x3 h => ex3 (k x1 x2 x3) h) h
theorem ex7 {T1 T2 T3 T4 T5 T6 T7 : Type} {p : T1 → T2 → T3 → T4 → T5 → T6 → T7 → Prop} {G : Prop} (k : ∀ x1 x2 x3 x4 x5 x6 x7, p x1 x2 x3 x4 x5 x6 x7 → G) (h : ∃ x1 x2 x3 x4 x5 x6 x7, p x1 x2 x3 x4 x5 x6 x7) : G := ex3 (fun x1 x2 x3 h => ex4 (k x1 x2 x3) h) h
theorem ex8 {T1 T2 T3 T4 T5 T6 T7 T8 : Type} {p : T1 → T2 → T3 → T4 → T5 → T6 → T7 → T8 → Prop} {G : Prop} (k : ∀ x1 x2 x3 x4 x5 x6 x7 x8, p x1 x2 x3 x4 x5 x6 x7 x8 → G) (h : ∃ x1 x2 x3 x4 x5 x6 x7 x8, p x1 x2 x3 x4 x5 x6 x7 x8) : G := ex4 (fun x1 x2 x3 x4 h => ex4 (k x1 x2 x3 x4) h) h
theorem stopE {p G : Prop} (k : p → G) (h : Stop p) : G := k h.go
/-- what a statement comes to, said ahead: the ways through it meet there -/
theorem join {M : Model} {A : Around} {c : Sem Flow} {E : Value → Shared → Prop} {s : Shared} {K : Flow → Shared → Prop} (J : Shared → Prop)
    (h1 : ∀ QQ : Flow → Shared → Prop, (∀ s', J s' → QQ .next s') → wpAny M A c (fun f s' => Stop (QQ f s')) E s) (h2 : ∀ s', J s' → K .next s') : wpAny M A c K E s :=
  wpAny_mono (h1 K h2) (fun _ _ q => q.go) fun _ _ e => e
/-- an if whose else is told ahead -/
theorem joinElse {M : Model} {A : Around} {env : Env} {test : Expr} {body orelse : List Stmt} {pos : Pos} {Q : Flow → Shared → Prop} {E : Value → Shared → Prop} {g hp : Heap} {L : Addr} {m : Str → Option Value} {led : Led} {gn : Array GenState} {dr : Drawn} {tk : Nat} {os : OsState}
    (P : Prop) (F : Fr g L hp m) (N : News g L hp led) (hE : ∀ h tk, Fr g L h m → News g L h led → P → wpAny M A (execs orelse env) Q E ⟨h, gn, dr, tk, os⟩)
    (h : ∀ KE : Shared → Prop, (∀ h' tk', Fr g L h' m → News g L h' led → P → KE ⟨h', gn, dr, tk', os⟩) → wpAny M A (isTrue test env (eval test env)) (fun b s₂ => if b = true then wpAny M A (execs body env) Q E s₂ else KE s₂) E ⟨hp, gn, dr, tk, os⟩) :
    wpAny M A (exec (.If test body orelse pos) env) Q E ⟨hp, gn, dr, tk, os⟩ :=
  wpAny_If (h _ fun h' tk' F' N' p => hE h' tk' F' N' p)
theorem frN {h₀ h : Heap} {L : Addr} {m : Str → Option Value} {ps : List (Str × Value)} {G : Prop} (F : Fr h₀ L h m) (hm : Names m ps) (k : ∀ m', Fr h₀ L h (kstB m' ps) → G) : G := k m (frK hm F)
theorem memHead {x : Addr × Obj} {l : Led} : x ∈ x :: l := .head _
theorem memTail {x y : Addr × Obj} {l : Led} (h : x ∈ l) : x ∈ y :: l := .tail _ h
theorem neOld {a b : Nat} {o : Obj} {l : Led} (h : ∀ p ∈ l, p.1 < b) (m : (a, o) ∈ l) : a ≠ b := Nat.ne_of_lt (h _ m)
theorem neNew {a b : Nat} {o : Obj} {l : Led} (h : ∀ p ∈ l, p.1 < a) (m : (b, o) ∈ l) : a ≠ b := Nat.ne_of_gt (h _ m)
theorem neOff {a b : Nat} {o : Obj} {l : Led} (h : ∀ p ∈ l, p.1 ≠ b) (m : (a, o) ∈ l) : a ≠ b := h _ m
theorem neOff' {a b : Nat} {o : Obj} {l : Led} (h : ∀ p ∈ l, p.1 ≠ a) (m : (b, o) ∈ l) : a ≠ b := Ne.symm (h _ m)
theorem ltOld {a b : Nat} {o : Obj} {l : Led} (h : ∀ p ∈ l, p.1 < b) (m : (a, o) ∈ l) : a < b := h _ m
-- RULES
local macro_rules | `(tactic| k_room) => `(tactic| (show (_ : Nat) < _; simp only [depth_deeper, depth_in1, depth_under_make, PySem.recursionLimit]; omega))
local macro_rules | `(tactic| walk_at "mem") => `(tactic| first | with_reducible exact memHead | (with_reducible refine memTail ?_; walk_at "mem"))
local macro_rules | `(tactic| k_ne) => `(tactic| (refine neN ?_; (try dsimp only); first | with_reducible assumption | (apply Ne.symm; with_reducible assumption) | (apply Nat.ne_of_lt; with_reducible assumption) | (apply Nat.ne_of_gt; with_reducible assumption) | exact neOld (by with_reducible assumption) (by walk_at "mem") | exact neNew (by with_reducible assumption) (by walk_at "mem") | exact neOff (by with_reducible assumption) (by walk_at "mem") | exact neOff' (by with_reducible assumption) (by walk_at "mem")))
local macro_rules | `(tactic| walk_at "len") => `(tactic| ((try simp only [List.length_append, List.length_cons, List.length_nil, List.length_replicate]); omega))
local macro_rules | `(tactic| k_lt $_) => `(tactic| skip)
local macro_rules | `(tactic| k_all) => `(tactic| first | assumption | exact allLt_ne (by assumption) | exact all_ne_of_lt (by assumption))
local macro_rules | `(tactic| walk_at "call builtin:list.pop") => `(tactic| (k_here; (with_reducible show wpAny _ _ (call (Value.builtin _) [Value.ref _, Value.int _ _]) _ _ _); k_dflt (refine' pop0 ?F ?N ?i ?U ?z ?_; (case F => k_asm); (case N => k_asm); (case i => rfl); (case U => k_upd); (case z => omega)); intro h' F' N'))
-- END RULES


section
variable {prog : Program} {w : World} {A : Around} {E : Value → Shared → Prop} {s : Shared} {env : Env} {h₀ : Heap} {L : Addr} {target : Expr} {body : List Stmt} {Q : Flow → Shared → Prop} {I n : Nat} {P : Nat → Value → Prop} {It : Nat → Obj → Prop} {K : Heap → Prop} {m : Str → Option Value} {nx₀ : Led} {h0 : Heap} {gn : Array GenState} {dr : Drawn} {tk0 : Nat} {os : OsState}

def ForAt (prog : Program) (w : World) (A : Around) (env : Env) (target : Expr) (body : List Stmt) (Q : Flow → Shared → Prop) (E : Value → Shared → Prop) (it : Value) (s : Shared) : Prop :=
  codeAny (model prog w) A (.forLoop target it body [] env) (fun r s' => match r with | .ok f => Q f s' | .error e => cameBackBy (model prog w) A env E e s') s
theorem forU {iter : Expr} {pos : Pos}
    (h : wpAny (model prog w) A (eval iter env) (fun x s₁ => wpAny (model prog w) A (pyIter x) (fun it s₂ => ForAt prog w A env target body Q E it s₂) E s₁) E s)
    (hs : ∀ x, foldedSetIterable iter env x = pure x := by intro _; rfl) :
    wpAny (model prog w) A (exec (.For target iter body [] pos) env) Q E s := wpAny_For h hs

def ForEnd (h₀ : Heap) (L : Addr) (J : (Str → Option Value) → Led → Prop) (I : Nat) (oI : Obj) (s₁ : Shared) (Q : Flow → Shared → Prop) (f : Flow) (s₂ : Shared) : Prop :=
  match f with
  | .ret v => Q (.ret v) s₂
  | .brk => Q .next s₂
  | _ => Stop (∃ h' tk m' nx, s₂ = { s₁ with heap := h', toks := tk } ∧ Fr h₀ L h' m' ∧ News h₀ L h' ((I, oI) :: nx) ∧ (∀ p ∈ nx, p.1 ≠ I) ∧ J m' nx)

/-- what the protocol of an iterator at I says -/
structure Iter (prog : Program) (w : World) (A : Around) (I n : Nat) (P : Nat → Value → Prop) (It : Nat → Obj → Prop) (K : Heap → Prop) : Prop where
  item : ∀ i (s : Shared) o (Q : Option Value → Shared → Prop) (E : Value → Shared → Prop), i < n → s.heap.get? I = some o → It i o → K s.heap →
    (∀ h' tk v o', h'.get? I = some o' → It (i + 1) o' → P i v → Heap.SameBut I s.heap h' → Q (some v) { s with heap := h', toks := tk }) → wpAny (model prog w) A (pyNext (.ref I)) Q E s
  done : ∀ (s : Shared) o (Q : Option Value → Shared → Prop) (E : Value → Shared → Prop), s.heap.get? I = some o → It n o → K s.heap →
    (∀ h', Heap.ExtBut I s.heap h' → Q none { s with heap := h' }) → wpAny (model prog w) A (pyNext (.ref I)) Q E s

theorem frBut {h h' : Heap} (F : Fr h₀ L h m) (hs : Heap.ExtBut I h h') (hIL : I ≠ L) (hI0 : h₀.get? I = none) : Fr h₀ L h' m := by
  obtain ⟨oL, es, ep, hL, r⟩ := F.ns
  refine ⟨⟨oL, es, ep, hs _ _ (fun q => hIL q.symm) hL, r⟩, fun b o e => hs _ _ (fun q => ?_) (F.keep b o e), F.above⟩
  rw [q, hI0] at e; cases e
theorem newsBut {h h' : Heap} {nx : Led} (N : News h₀ L h nx) (hs : Heap.ExtBut I h h') (off : ∀ p ∈ nx, p.1 ≠ I) : News h₀ L h' nx :=
  fun p hp => ⟨hs _ _ (off p hp) (N p hp).1, (N p hp).2⟩

theorem for_core {o₀ : Obj} (W : Iter prog w A I n P It K) (J : Nat → (Str → Option Value) → Led → Prop)
    (hgo : ∀ i v (s : Shared) o (Q : Unit → Shared → Prop) (E : Value → Shared → Prop), s.heap.get? I = some o → It (i + 1) o → P i v → Q () s → wpAny (model prog w) A (letOwnedTupleGo target (.ref I) v) Q E s)
    (ho : s.heap.get? I = some o₀) (hi0 : It 0 o₀) (F : Fr h₀ L s.heap m) (N : News h₀ L s.heap nx₀) (hIL : I ≠ L) (hI0 : h₀.get? I = none) (hoff : ∀ p ∈ nx₀, p.1 ≠ I) (hJ : J 0 m nx₀)
    (hK : ∀ i m₁ nx h, J i m₁ nx → Fr h₀ L h m₁ → News h₀ L h nx → K h)
    (turn : ∀ i v oI m₁ nx h tk, i < n → P i v → J i m₁ nx → (∀ p ∈ nx, p.1 ≠ I) → Fr h₀ L h m₁ → News h₀ L h ((I, oI) :: nx) →
      wpAny (model prog w) A (assign target env v) (fun _ s₂ => wpAny (model prog w) A (execs body env) (ForEnd h₀ L (J (i + 1)) I oI { s with heap := h, toks := tk } Q) E s₂) E { s with heap := h, toks := tk })
    (done : ∀ m₁ nx h tk, J n m₁ nx → Fr h₀ L h m₁ → News h₀ L h nx → Q .next { s with heap := h, toks := tk })
    (hE : PassesOwn (model prog w) A env E) :
    ForAt prog w A env target body Q E (.ref I) s := by
  refine codeAny_forLoop_any (fun k s' => ∃ i h' tk m' nx oI, s' = { s with heap := h', toks := tk } ∧ i ≤ n ∧ k = n - i ∧ h'.get? I = some oI ∧ It i oI ∧ Fr h₀ L h' m' ∧ News h₀ L h' nx ∧ (∀ p ∈ nx, p.1 ≠ I) ∧ J i m' nx) ?_ n
    ⟨0, s.heap, s.toks, m, nx₀, o₀, rfl, Nat.zero_le _, rfl, ho, hi0, F, N, hoff, hJ⟩
  rintro k s' ⟨i, h', tk, m', nx, oI, rfl, hi, rfl, hoI, hIt, F', N', off', J'⟩
  by_cases hlt : i < n
  · refine W.item i _ oI _ _ hlt hoI hIt (hK i m' nx h' J' F' N') fun h₁ tk₁ v o' ho' hIt' hP hs => ?_
    dsimp only at hs ⊢
    refine hgo i v _ o' _ _ ho' hIt' hP ?_
    have F₁ : Fr h₀ L h₁ m' := frBut F' hs.extBut hIL hI0
    have N₁ : News h₀ L h₁ nx := newsBut N' hs.extBut off'
    have N₂ : News h₀ L h₁ ((I, o') :: nx) := fun p hp => by
      rcases List.mem_cons.mp hp with rfl | hp
      · exact ⟨ho', hIL, hI0⟩
      · exact N₁ p hp
    refine wpAny_mono (wpAny_passesOwn hE (turn i v o' m' nx h₁ tk₁ hlt hP J' off' F₁ N₂)) (fun _ s₂ h₂ => ?_) fun _ _ e => e
    refine wpAny_mono (wpAny_passesOwn hE h₂) (fun f s₃ h₃ => ?_) fun _ _ e => e
    cases f with
    | ret v => exact h₃
    | brk => exact h₃
    | next =>
      obtain ⟨h₄, tk₄, m₄, nx₄, rfl, F₄, N₄, off₄, J₄⟩ := h₃.go
      refine ⟨n - (i + 1), by omega, i + 1, h₄, tk₄, m₄, nx₄, o', rfl, hlt, rfl, (N₄ _ (.head _)).1, hIt', F₄, fun p hp => N₄ p (.tail _ hp), off₄, J₄⟩
    | cont =>
      obtain ⟨h₄, tk₄, m₄, nx₄, rfl, F₄, N₄, off₄, J₄⟩ := h₃.go
      refine ⟨n - (i + 1), by omega, i + 1, h₄, tk₄, m₄, nx₄, o', rfl, hlt, rfl, (N₄ _ (.head _)).1, hIt', F₄, fun p hp => N₄ p (.tail _ hp), off₄, J₄⟩
  · obtain rfl : i = n := by omega
    refine W.done _ oI _ _ hoI hIt (hK i m' nx h' J' F' N') fun h₁ hs => wpAny_execs_nil ?_
    exact done m' nx h₁ tk J' (frBut F' hs hIL hI0) (newsBut N' hs off')

theorem Iter.range (hh : A.handled = none) (a c : Int) : Iter prog w A I n (fun i v => ∃ t, v = .int (a + (i : Int) * c) t)
    (fun i o => ∃ h : Heap, h.get? I = some o ∧ IsRangeIter h I (a + (i : Nat) * c) ((n : Int) - (i : Nat)) c) (fun _ => True) where
  item := fun i s o Q E hi ho hIt _ hQ => by
    obtain ⟨h, e, hr⟩ := hIt
    have hr' : IsRangeIter s.heap I (a + (i : Nat) * c) ((n : Int) - (i : Nat)) c := by
      unfold IsRangeIter at hr ⊢; rw [e] at hr; rw [ho]; exact hr
    refine wpAny_pyNext_range_item hr' (by omega) fun h' hit' hs' => ?_
    have e1 : a + ((i + 1 : Nat) : Int) * c = a + (i : Int) * c + c := by push_cast; rw [Int.add_mul, Int.one_mul, Int.add_assoc]
    have e2 : (n : Int) - ((i + 1 : Nat) : Int) = (n : Int) - (i : Int) - 1 := by push_cast; omega
    have hit2 : IsRangeIter h' I (a + ((i + 1 : Nat) : Int) * c) ((n : Int) - ((i + 1 : Nat) : Int)) c := by rw [e1, e2]; exact hit'
    exact hQ h' _ _ _ hit' ⟨h', hit', hit2⟩ ⟨_, rfl⟩ hs'
  done := fun s o Q E ho hIt _ hQ => by
    obtain ⟨h, e, hr⟩ := hIt
    have hr' : IsRangeIter s.heap I (a + (n : Nat) * c) ((n : Int) - (n : Nat)) c := by
      unfold IsRangeIter at hr ⊢; rw [e] at hr; rw [ho]; exact hr
    exact wpAny_pyNext_range_end hh hr' (by omega) fun h' he' => hQ h' he'

theorem Iter.list (hh : A.handled = none) (l : Nat) (hne : l ≠ I) (vs : List Value) : Iter prog w A I vs.length (fun i v => vs[i]? = some v)
    (fun i o => ∃ h : Heap, h.get? I = some o ∧ h.IsListIter I l i) (fun h => h.IsList l vs.toArray) where
  item := fun i s o Q E hi ho hIt hK hQ => by
    obtain ⟨h, e, hr⟩ := hIt
    have hr' : s.heap.IsListIter I l i := by
      obtain ⟨o', ho', r⟩ := hr; rw [e] at ho'; cases ho'; exact ⟨o, ho, r⟩
    refine wpAny_pyNext_list_item hr' hK (x := vs[i]'hi) (by simp [hi]) fun h' hit' hs' => ?_
    obtain ⟨o', ho', r⟩ := id hit'
    exact hQ h' _ _ o' ho' ⟨h', ho', hit'⟩ (by simp [hi]) hs'
  done := fun s o Q E ho hIt hK hQ => by
    obtain ⟨h, e, hr⟩ := hIt
    have hr' : s.heap.IsListIter I l vs.length := by
      obtain ⟨o', ho', r⟩ := hr; rw [e] at ho'; cases ho'; exact ⟨o, ho, r⟩
    exact wpAny_pyNext_list_end hh hr' hK (by simp) fun h' he' => hQ h' he'

theorem for_rangeS {r : Addr} {a b c : Int} {t u v : Tok} {x : Str} {px : Pos} (J : Nat → (Str → Option Value) → Led → Prop)
    (hh : A.handled = none) (hr : IsRange s.heap r a b c t u v) (hsm : Builtin.Range.small a b c = true) (hn : Builtin.Range.rangeSize a b c = (n : Int))
    (F : Fr h₀ L s.heap m) (N : News h₀ L s.heap nx₀) (hJ : J 0 m nx₀)
    (turn : ∀ (I : Nat) i t oI m₁ nx h tk, i < n → J i m₁ nx → (∀ p ∈ nx, p.1 ≠ I) → Fr h₀ L h m₁ → News h₀ L h ((I, oI) :: nx) →
      wpAny (model prog w) A (assign (.Name x px) env (.int (a + (i : Int) * c) t)) (fun _ s₂ => wpAny (model prog w) A (execs body env) (ForEnd h₀ L (J (i + 1)) I oI { s with heap := h, toks := tk } Q) E s₂) E { s with heap := h, toks := tk })
    (done : ∀ m₁ nx h tk, J n m₁ nx → Fr h₀ L h m₁ → News h₀ L h nx → Q .next { s with heap := h, toks := tk })
    (hE : PassesOwn (model prog w) A env E := by passes_own) :
    wpAny (model prog w) A (pyIter (.ref r)) (fun it s₂ => ForAt prog w A env (.Name x px) body Q E it s₂) E s := by
  refine wpAny_pyIter_range hr hsm ?_
  have hit : IsRangeIter (s.heap.push { cls := .type "range_iterator", data := .fields #[rawInt a, rawInt (Builtin.Range.rangeSize a b c), rawInt c] }) s.heap.objs.size (a + ((0 : Nat) : Int) * c) ((n : Int) - ((0 : Nat) : Int)) c := by
    have e1 : a + ((0 : Nat) : Int) * c = a := by simp
    have e2 : (n : Int) - ((0 : Nat) : Int) = Builtin.Range.rangeSize a b c := by rw [hn]; simp
    rw [e1, e2]
    exact Heap.get?_push_size _ rfl
  refine for_core (I := s.heap.objs.size) (n := n) (Iter.range hh a c) J (fun i v s' o Q' E' _ _ _ hq => wpAny_pure hq) hit ⟨_, hit, hit⟩ (F.push _) (fun p hp => ⟨Heap.get?_push_of_some _ (N p hp).1, (N p hp).2⟩) (Ne.symm (Nat.ne_of_lt F.ns.lt)) (next_is_new F) (fun p hp => Nat.ne_of_lt (Heap.lt_size (N p hp).1)) hJ (fun _ _ _ _ _ _ _ => trivial) ?_ ?_ hE
  · rintro i v oI m₁ nx h tk hi ⟨t', rfl⟩ J' off F' N'
    exact turn _ i t' oI m₁ nx h tk hi J' off F' N'
  · intro m₁ nx h tk J' F' N'
    exact done m₁ nx h tk J' F' N'

theorem for_listS {l : Nat} {vs : List Value} (J : Nat → (Str → Option Value) → Led → Prop)
    (hh : A.handled = none) (hl : s.heap.IsList l vs.toArray)
    (F : Fr h₀ L s.heap m) (N : News h₀ L s.heap nx₀) (hJ : J 0 m nx₀)
    (hK : ∀ i m₁ nx h, J i m₁ nx → Fr h₀ L h m₁ → News h₀ L h nx → h.IsList l vs.toArray)
    (hgo : ∀ (I : Nat) i v (s : Shared) (Q : Unit → Shared → Prop) (E : Value → Shared → Prop), s.heap.IsListIter I l (i + 1) → vs[i]? = some v → Q () s → wpAny (model prog w) A (letOwnedTupleGo target (.ref I) v) Q E s)
    (turn : ∀ (I : Nat) i v oI m₁ nx h tk, i < vs.length → vs[i]? = some v → J i m₁ nx → (∀ p ∈ nx, p.1 ≠ I) → Fr h₀ L h m₁ → News h₀ L h ((I, oI) :: nx) →
      wpAny (model prog w) A (assign target env v) (fun _ s₂ => wpAny (model prog w) A (execs body env) (ForEnd h₀ L (J (i + 1)) I oI { s with heap := h, toks := tk } Q) E s₂) E { s with heap := h, toks := tk })
    (done : ∀ m₁ nx h tk, J vs.length m₁ nx → Fr h₀ L h m₁ → News h₀ L h nx → Q .next { s with heap := h, toks := tk })
    (hE : PassesOwn (model prog w) A env E := by passes_own) :
    wpAny (model prog w) A (pyIter (.ref l)) (fun it s₂ => ForAt prog w A env target body Q E it s₂) E s := by
  refine wpAny_pyIter_list hl ?_
  have hne : l ≠ s.heap.objs.size := by obtain ⟨_, e, _⟩ := hl; exact Nat.ne_of_lt (Heap.lt_size e)
  have hg : (s.heap.push { cls := .type "list_iterator", data := .fields #[.ref l, .int 0 0] }).get? s.heap.objs.size = some { cls := .type "list_iterator", data := .fields #[.ref l, .int 0 0] } := Heap.get?_push_size _ rfl
  have hit : (s.heap.push { cls := .type "list_iterator", data := .fields #[.ref l, .int 0 0] }).IsListIter s.heap.objs.size l 0 := ⟨_, hg, rfl, rfl⟩
  refine for_core (I := s.heap.objs.size) (n := vs.length) (Iter.list hh l hne vs) J (fun i v s' o Q' E' ho hIt hP hq => ?_) hg ⟨_, hg, hit⟩ (F.push _) (fun p hp => ⟨Heap.get?_push_of_some _ (N p hp).1, (N p hp).2⟩) (Ne.symm (Nat.ne_of_lt F.ns.lt)) (next_is_new F) (fun p hp => Nat.ne_of_lt (Heap.lt_size (N p hp).1)) hJ hK ?_ ?_ hE
  · obtain ⟨h, e, hr⟩ := hIt
    refine hgo _ i v s' Q' E' ?_ hP hq
    obtain ⟨o', ho', r⟩ := hr; rw [e] at ho'; cases ho'; exact ⟨o, ho, r⟩
  · intro i v oI m₁ nx h tk hi hv J' off F' N'
    exact turn _ i v oI m₁ nx h tk hi hv J' off F' N'
  · intro m₁ nx h tk J' F' N'
    exact done m₁ nx h tk J' F' N'
theorem goName {I : Nat} {v : Value} {x : Str} {px : Pos} {Q : Unit → Shared → Prop} (h : Q () s) : wpAny (model prog w) A (letOwnedTupleGo (.Name x px) (.ref I) v) Q E s := wpAny_pure h

theorem off1 {I : Nat} {nx : Led} (h : ∀ p ∈ nx, p.1 ≠ I) : LCg.Off1 I nx := by
  induction nx with
  | nil => trivial
  | cons p r ih => exact ⟨h p (.head _), ih fun q hq => h q (.tail _ hq)⟩
theorem on1 {I : Nat} {nx : Led} (h : LCg.Off1 I nx) : ∀ p ∈ nx, p.1 ≠ I := by
  induction nx with
  | nil => intro p hp; cases hp
  | cons p r ih =>
    intro q hq
    rcases List.mem_cons.mp hq with rfl | hq
    · exact h.1
    · exact ih h.2 q hq
def WhEnd (h₀ : Heap) (L : Addr) (s : Shared) (J : Nat → (Str → Option Value) → Led → Prop) (n : Nat) (Q : Flow → Shared → Prop) (f : Flow) (s₂ : Shared) : Prop :=
  match f with
  | .ret v => Q (.ret v) s₂
  | .brk => Q .next s₂
  | _ => Stop (∃ h' tk m' nx k, s₂ = { s with heap := h', toks := tk } ∧ Fr h₀ L h' m' ∧ News h₀ L h' nx ∧ k < n ∧ J k m' nx)
theorem while_ruleS {test : Expr} {pos : Pos} (J : Nat → (Str → Option Value) → Led → Prop) (n₀ : Nat)
    (F : Fr h₀ L s.heap m) (N : News h₀ L s.heap nx₀) (hJ : J n₀ m nx₀)
    (turn : ∀ k m₁ nx h tk, Fr h₀ L h m₁ → News h₀ L h nx → J k m₁ nx →
      wpAny (model prog w) A (isTrue test env (eval test env)) (fun b s₂ =>
        if b = true then wpAny (model prog w) A (execs body env) (WhEnd h₀ L s J k Q) E s₂ else Q .next s₂) E { s with heap := h, toks := tk })
    (hE : PassesOwn (model prog w) A env E := by passes_own) :
    wpAny (model prog w) A (exec (.While test body [] pos) env) Q E s := by
  refine wpAny_While (codeAny_whileLoop (fun k s' => ∃ h tk m₁ nx, s' = { s with heap := h, toks := tk } ∧ Fr h₀ L h m₁ ∧ News h₀ L h nx ∧ J k m₁ nx) ?_ n₀ ⟨s.heap, s.toks, m, nx₀, rfl, F, N, hJ⟩)
  rintro k s' ⟨h, tk, m₁, nx, rfl, F₁, N₁, J₁⟩
  refine wpAny_mono (wpAny_passesOwn hE (turn k m₁ nx h tk F₁ N₁ J₁)) (fun b s₂ h₂ => ?_) fun _ _ e => e
  cases b with
  | false =>
    simp only [Bool.false_eq_true, if_false] at h₂ ⊢
    exact wpAny_execs_nil h₂
  | true =>
    simp only [if_true] at h₂ ⊢
    refine wpAny_mono (wpAny_passesOwn hE h₂) (fun f s₃ h₃ => ?_) fun _ _ e => e
    cases f with
    | ret v => exact h₃
    | brk => exact h₃
    | next =>
      obtain ⟨h₄, tk₄, m₄, nx₄, j, rfl, F₄, N₄, hj, J₄⟩ := h₃.go
      exact ⟨j, hj, h₄, tk₄, m₄, nx₄, rfl, F₄, N₄, J₄⟩
    | cont =>
      obtain ⟨h₄, tk₄, m₄, nx₄, j, rfl, F₄, N₄, hj, J₄⟩ := h₃.go
      exact ⟨j, hj, h₄, tk₄, m₄, nx₄, rfl, F₄, N₄, J₄⟩
end
section
variable {prog : Program} {w : World} {A : Around} {E : Value → Shared → Prop} {env : Env} {h₀ : Heap} {L : Addr} {target : Expr} {body : List Stmt} {Q : Flow → Shared → Prop} {n : Nat} {m : Str → Option Value} {nx₀ : Led} {hp : Heap} {gn : Array GenState} {dr : Drawn} {tk0 : Nat} {os : OsState}
/-- what a turn of a for has to come to -/
abbrev Ends (h₀ : Heap) (L : Addr) (J : (Str → Option Value) → Led → Prop) (I : Nat) (oI : Obj) (gn : Array GenState) (dr : Drawn) (os : OsState) (s₂ : Shared) : Prop :=
  Stop (∃ h' tk m' nx, s₂ = ⟨h', gn, dr, tk, os⟩ ∧ Fr h₀ L h' m' ∧ News h₀ L h' ((I, oI) :: nx) ∧ (∀ p ∈ nx, p.1 ≠ I) ∧ J m' nx)
abbrev EndsW (h₀ : Heap) (L : Addr) (J : Nat → (Str → Option Value) → Led → Prop) (n : Nat) (gn : Array GenState) (dr : Drawn) (os : OsState) (s₂ : Shared) : Prop :=
  Stop (∃ h' tk m' nx k, s₂ = ⟨h', gn, dr, tk, os⟩ ∧ Fr h₀ L h' m' ∧ News h₀ L h' nx ∧ k < n ∧ J k m' nx)
theorem for_range {r : Addr} {a b c : Int} {t u v : Tok} {x : Str} {px : Pos} (J : Nat → (Str → Option Value) → Led → Prop)
    (hh : A.handled = none) (hr : IsRange hp r a b c t u v) (hsm : Builtin.Range.small a b c = true) (hn : Builtin.Range.rangeSize a b c = (n : Int))
    (F : Fr h₀ L hp m) (N : News h₀ L hp nx₀) (hJ : J 0 m nx₀)
    (turn : ∀ (I : Nat) i t oI m₁ nx h tk, i < n → J i m₁ nx → (∀ p ∈ nx, p.1 ≠ I) → Fr h₀ L h m₁ → News h₀ L h ((I, oI) :: nx) → ∀ QQ : Flow → Shared → Prop, (∀ s₂, Ends h₀ L (J (i + 1)) I oI gn dr os s₂ → QQ .next s₂) → (∀ v s₂, Q (.ret v) s₂ → QQ (.ret v) s₂) →
      wpAny (model prog w) A (assign (.Name x px) env (.int (a + (i : Int) * c) t)) (fun _ s₂ => wpAny (model prog w) A (execs body env) QQ E s₂) E ⟨h, gn, dr, tk, os⟩)
    (done : ∀ m₁ nx h tk, J n m₁ nx → Fr h₀ L h m₁ → News h₀ L h nx → Q .next ⟨h, gn, dr, tk, os⟩)
    (hE : PassesOwn (model prog w) A env E := by passes_own) :
    wpAny (model prog w) A (pyIter (.ref r)) (fun it s₂ => ForAt prog w A env (.Name x px) body Q E it s₂) E ⟨hp, gn, dr, tk0, os⟩ :=
  for_rangeS (s := ⟨hp, gn, dr, tk0, os⟩) J hh hr hsm hn F N hJ (fun I i t oI m₁ nx h tk hi hJ off F N => turn I i t oI m₁ nx h tk hi hJ off F N _ (fun _ q => q) (fun _ _ q => q)) done hE
theorem for_list {l : Nat} {vs : List Value} (J : Nat → (Str → Option Value) → Led → Prop)
    (hh : A.handled = none) (hl : hp.IsList l vs.toArray)
    (F : Fr h₀ L hp m) (N : News h₀ L hp nx₀) (hJ : J 0 m nx₀)
    (hK : ∀ i m₁ nx h, J i m₁ nx → Fr h₀ L h m₁ → News h₀ L h nx → h.IsList l vs.toArray)
    (hgo : ∀ (I : Nat) i v (s : Shared) (Q : Unit → Shared → Prop) (E : Value → Shared → Prop), s.heap.IsListIter I l (i + 1) → vs[i]? = some v → Q () s → wpAny (model prog w) A (letOwnedTupleGo target (.ref I) v) Q E s)
    (turn : ∀ (I : Nat) i v oI m₁ nx h tk, i < vs.length → vs[i]? = some v → J i m₁ nx → (∀ p ∈ nx, p.1 ≠ I) → Fr h₀ L h m₁ → News h₀ L h ((I, oI) :: nx) → ∀ QQ : Flow → Shared → Prop, (∀ s₂, Ends h₀ L (J (i + 1)) I oI gn dr os s₂ → QQ .next s₂) → (∀ v s₂, Q (.ret v) s₂ → QQ (.ret v) s₂) →
      wpAny (model prog w) A (assign target env v) (fun _ s₂ => wpAny (model prog w) A (execs body env) QQ E s₂) E ⟨h, gn, dr, tk, os⟩)
    (done : ∀ m₁ nx h tk, J vs.length m₁ nx → Fr h₀ L h m₁ → News h₀ L h nx → Q .next ⟨h, gn, dr, tk, os⟩)
    (hE : PassesOwn (model prog w) A env E := by passes_own) :
    wpAny (model prog w) A (pyIter (.ref l)) (fun it s₂ => ForAt prog w A env target body Q E it s₂) E ⟨hp, gn, dr, tk0, os⟩ :=
  for_listS (s := ⟨hp, gn, dr, tk0, os⟩) J hh hl F N hJ hK hgo (fun I i v oI m₁ nx h tk hi hv hJ off F N => turn I i v oI m₁ nx h tk hi hv hJ off F N _ (fun _ q => q) (fun _ _ q => q)) done hE
theorem while_rule {test : Expr} {pos : Pos} (J : Nat → (Str → Option Value) → Led → Prop) (n₀ : Nat)
    (F : Fr h₀ L hp m) (N : News h₀ L hp nx₀) (hJ : J n₀ m nx₀)
    (turn : ∀ k m₁ nx h tk, Fr h₀ L h m₁ → News h₀ L h nx → J k m₁ nx → ∀ QQ : Flow → Shared → Prop, (∀ s₂, EndsW h₀ L J k gn dr os s₂ → QQ .next s₂) → (∀ v s₂, Q (.ret v) s₂ → QQ (.ret v) s₂) →
      wpAny (model prog w) A (isTrue test env (eval test env)) (fun b s₂ =>
        if b = true then wpAny (model prog w) A (execs body env) QQ E s₂ else Q .next s₂) E ⟨h, gn, dr, tk, os⟩)
    (hE : PassesOwn (model prog w) A env E := by passes_own) :
    wpAny (model prog w) A (exec (.While test body [] pos) env) Q E ⟨hp, gn, dr, tk0, os⟩ :=
  while_ruleS (s := ⟨hp, gn, dr, tk0, os⟩) J n₀ F N hJ (fun k m₁ nx h tk F N hJ => turn k m₁ nx h tk F N hJ _ (fun _ q => q) (fun _ _ q => q)) hE
/-- the end of a turn -/
theorem forEnd {I : Nat} {J : (Str → Option Value) → Led → Prop} {oI : Obj} {h' : Heap} {tk : Nat} {m' : Str → Option Value} {all : Led} (F : Fr h₀ L h' m') (N : News h₀ L h' all) (nx : Led)
    (sub : ∀ p ∈ (I, oI) :: nx, p ∈ all) (off : ∀ p ∈ nx, p.1 ≠ I) (hJ : J m' nx) : Ends h₀ L J I oI gn dr os ⟨h', gn, dr, tk, os⟩ :=
  ⟨_, _, _, nx, rfl, F, fun p hp => N p (sub p hp), off, hJ⟩
theorem whEnd {J : Nat → (Str → Option Value) → Led → Prop} {k j : Nat} {h' : Heap} {tk : Nat} {m' : Str → Option Value} {all : Led} (F : Fr h₀ L h' m') (N : News h₀ L h' all) (nx : Led)
    (sub : ∀ p ∈ nx, p ∈ all) (hk : j < k) (hJ : J j m' nx) : EndsW h₀ L J k gn dr os ⟨h', gn, dr, tk, os⟩ :=
  ⟨_, _, _, nx, j, rfl, F, fun p hp => N p (sub p hp), hk, hJ⟩
end
-- RULES
local macro_rules | `(tactic| walk_at "pyIter ref") => `(tactic| (refine stop ?_))
local macro_rules | `(tactic| walk_at "exec For Name Name cons nil") => `(tactic| (k_here; with_unfolding_all refine forU ?_))
local macro_rules | `(tactic| walk_at "exec For Name Call cons nil") => `(tactic| (k_here; with_unfolding_all refine forU ?_))
local macro_rules | `(tactic| walk_at "exec For Tuple Call cons nil") => `(tactic| (k_here; with_unfolding_all refine forU ?_))
local macro_rules | `(tactic| walk_at "exec For Tuple Attribute cons nil") => `(tactic| (k_here; with_unfolding_all refine forU ?_))
local macro_rules | `(tactic| walk_at "exec While Compare cons nil") => `(tactic| (refine stop ?_))
local macro_rules | `(tactic| walk_at "exec While BoolOp cons nil") => `(tactic| (refine stop ?_))
-- END RULES


theorem take_spec {w : World} {A : Around} {h₀ : Heap} {L : Addr} {m : Str → Option Value} {s : Shared} {R : Result → Shared → Prop}
    {b q : Nat} {c : Int} {t0 tm : Tok} {n0 nq : Nat} {vs : List Value} {ns : List Int} {many : Int}
    (C : Cx w 600 A h₀ L) (F : Fr h₀ L s.heap m) (N : News h₀ L s.heap [(b, listOf #[.ref q, .int c t0] n0), (q, listOf vs.toArray nq)])
    (hbq : b ≠ q) (hI : IntsAre vs ns) (hm : 0 < many) (hlen : ns.length ≤ 63)
    (k : ∀ h' tk v t c' t1 n1 n2 vs' ns', Same [b, q] s.heap h' → h'.get? b = some (listOf #[.ref q, .int c' t1] n1) → h'.get? q = some (listOf vs'.toArray n2) → IntsAre vs' ns' → ns'.length ≤ 63 → 0 ≤ v → v < many →
      R (.ok (.ret (.int v t))) { s with heap := h', toks := tk }) :
    codeAny (model Challenge.rw_no0091_01.row.prog w) A (.call (.ref 115) ⟨[.ref b, .int many tm], []⟩) R s := by
  have hvl := hI.length
  cases hI
  all_goals dsimp only [List.length_cons, List.length_nil] at hvl hlen
  all_goals (
    have hX := Cx.inX ‹Cx _ _ _ _ _›
    revert hX
    k_fill
    intro _
    refine' enterP2 ?zoC ?zoF ?zoN ?zok6 ?zok7 ?zok8 ?zok9 ?zokB ?_ ?zoc2 ?zoc3 ?zoc4 ?zoc5; (case zoC => assumption); (case zoF => assumption); (case zoN => assumption); (case zok6 => k_is); (case zok7 => k_is); (case zok8 => decide); (case zok9 => first | exact BindsTo.of_eq rfl | exact binds_K (by k_in) rfl (by k_is) rfl rfl rfl); (case zoc5 => decide); (case zokB => exact locs rfl); (case zoc2 => exact rfl); (case zoc3 => exact rfl); (case zoc4 => exact rfl)
    k_whole
    intro g1 L1 h1 tk1 d1 u1 fs1 gd1 gn1 dr1 os1 Q1 E1 lo1 me1 mg1 mb1 F1' N1' C1 X1 T1 hE1 hu1 st hQ hN
    (try dsimp only)
    skip)
  all_goals k_steps
  all_goals (rename News _ _ _ _ => N2; rename Fr g1 _ _ _ => F2; have S2 := sameOf st F2)
  · refine hQ _ _ _ (k _ _ _ _ _ _ _ _ _ _ S2 (N2.get (.head _)) (N2.get (.tail _ (.head _))) .nil (Nat.zero_le _) ?_ ?_)
    · rw [Int.fmod_eq_emod_of_nonneg _ (Int.le_of_lt hm)]; exact Int.emod_nonneg _ (by omega)
    · rw [Int.fmod_eq_emod_of_nonneg _ (Int.le_of_lt hm)]; exact Int.emod_lt_of_pos _ hm
  · refine hQ _ _ _ (k _ _ _ _ _ _ _ _ _ _ S2 (N2.get (.head _)) (N2.get (.tail _ (.head _))) (by assumption) (by omega) ?_ ?_)
    · rw [Int.fmod_eq_emod_of_nonneg _ (Int.le_of_lt hm)]; exact Int.emod_nonneg _ (by omega)
    · rw [Int.fmod_eq_emod_of_nonneg _ (Int.le_of_lt hm)]; exact Int.emod_lt_of_pos _ hm

theorem take_step {w : World} {A : Around} {h₀ : Heap} {L : Addr} {m : Str → Option Value} {s : Shared} {Q : Value → Shared → Prop} {E : Value → Shared → Prop} {news : Led} {n1 : Obj → Led} {n2 : Obj → Obj → Led}
    {b q : Nat} {c : Int} {t0 tm : Tok} {n0 nq : Nat} {vs : List Value} {ns : List Int} {many : Int}
    (C : Cx w 600 A h₀ L) (F : Fr h₀ L s.heap m) (N : News h₀ L s.heap news) (Ub : ∀ o, Upd b (listOf #[.ref q, .int c t0] n0) o news (n1 o)) (Uq : ∀ o o', Upd q (listOf vs.toArray nq) o' (n1 o) (n2 o o'))
    (hbq : b ≠ q) (hI : IntsAre vs ns) (hm : 0 < many) (hlen : ns.length ≤ 63)
    (k : ∀ h' tk v t c' t1 n1' n2' vs' ns', Fr h₀ L h' m → News h₀ L h' (n2 (listOf #[.ref q, .int c' t1] n1') (listOf vs'.toArray n2')) → IntsAre vs' ns' → ns'.length ≤ 63 → 0 ≤ v → v < many →
      Q (.int v t) { s with heap := h', toks := tk }) :
    wpAny (model Challenge.rw_no0091_01.row.prog w) A (call (.ref 115) [.ref b, .int many tm] []) Q E s := by
  have e1 := upd_same (Ub (listOf #[.ref q, .int c t0] n0))
  have hb := upd_has (Ub (listOf #[.ref q, .int c t0] n0))
  have hq := upd_has (Uq (listOf #[.ref q, .int c t0] n0) (listOf vs.toArray nq))
  rw [e1] at hq
  have hM : ∀ a ∈ [b, q], a ≠ L ∧ h₀.get? a = none := by
    intro a ha
    rcases List.mem_cons.mp ha with rfl | ha
    · exact (N _ hb).2
    · rw [List.mem_singleton.mp ha]; exact (N _ hq).2
  refine wpAny_call (take_spec (c := c) (t0 := t0) (n0 := n0) (nq := nq) C F ?_ hbq hI hm hlen ?_)
  · intro p hp
    rcases List.mem_cons.mp hp with rfl | hp
    · exact N _ hb
    · rw [List.mem_singleton.mp hp]; exact N _ hq
  · intro h' tk v t c' t1 n1' n2' vs' ns' S hb' hq' hI' hl' h0 h1
    refine k h' tk v t c' t1 n1' n2' vs' ns' (backFr F S hM) ?_ hI' hl' h0 h1
    intro p hp
    rcases upd_mem (Uq _ _) p hp with rfl | ⟨hp, hne⟩
    · exact ⟨hq', (N _ hq).2⟩
    · rcases upd_mem (Ub _) p hp with rfl | ⟨hp, hne'⟩
      · exact ⟨hb', (N _ hb).2⟩
      · exact ⟨S _ _ (by simp only [List.mem_cons, List.not_mem_nil, or_false, not_or]; exact ⟨hne', hne⟩) (N _ hp).1, (N _ hp).2⟩
-- RULES
local macro_rules | `(tactic| walk_at "call ref") => `(tactic| (k_here; refine stop ?_))
-- END RULES


-- RULES
local macro_rules | `(tactic| walk_at "CompSrc") => `(tactic| (refine stop ?_))
-- END RULES

theorem prices_spec {w : World} {A : Around} {h₀ : Heap} {L : Addr} {m : Str → Option Value} {s : Shared} {R : Result → Shared → Prop}
    {b q : Nat} {c : Int} {t0 : Tok} {n0 nq : Nat} {vs : List Value} {ns : List Int}
    (C : Cx w 550 A h₀ L) (F : Fr h₀ L s.heap m) (N : News h₀ L s.heap [(b, listOf #[.ref q, .int c t0] n0), (q, listOf vs.toArray nq)])
    (hbq : b ≠ q) (hI : IntsAre vs ns) (hlen : ns.length ≤ 63)
    (k : ∀ h' tk (p : Nat) pvs np (P : List Int) c' t1 n1 n2 vs' ns', Same [b, q] s.heap h' → h'.get? b = some (listOf #[.ref q, .int c' t1] n1) → h'.get? q = some (listOf vs'.toArray n2) →
      IntsAre vs' ns' → ns'.length ≤ 63 → s.heap.get? p = none → h'.get? p = some (listOf pvs.toArray np) → IntsAre pvs P → P.length = 19 →
      R (.ok (.ret (.ref p))) { s with heap := h', toks := tk }) :
    codeAny (model Challenge.rw_no0091_01.row.prog w) A (.call (.ref 120) ⟨[.ref b], []⟩) R s := by
  have hX := Cx.inX ‹Cx _ _ _ _ _›
  revert hX
  k_fill
  intro _
  refine' enterC2 ?zoC ?zoF ?zoN ?zok6 ?zok7 ?zok8 ?zok9 ?zokB ?zokD ?_ ?zoc2 ?zoc3 ?zoc4; (case zoC => assumption); (case zoF => assumption); (case zoN => assumption); (case zok6 => k_is); (case zok7 => k_is); (case zok8 => decide); (case zok9 => first | exact BindsTo.of_eq rfl | exact binds_K (by k_in) rfl (by k_is) rfl rfl rfl); (case zokB => exact rfl); (case zokD => decide +kernel); (case zoc2 => exact rfl); (case zoc3 => exact rfl); (case zoc4 => exact rfl)
  k_whole
  intro g1 L1 h1 tk1 d9 u9 fs1 gd1 gn1 dr1 os1 Q1 E1 lo1 me1 mg1 mb1 cells' F1' N' Y' C1 X1 T1 hE1 hu1 l1 st hQ hN
  replace l1 := allLt_of l1
  simp only [AllLt, and_true] at l1
  k_cells Y'
  (try simp only [List.cons_append, List.nil_append] at N')
  (try dsimp only)
  k_steps
  refine Stop.mk ?_
  refine take_step (Cx.wide (by k_asm) (by decide)) (by k_asm) (by k_asm) (fun o => by k_upd) (fun o o' => by k_upd) (by k_ne) (by assumption) (by first | decide | omega) (by omega) ?_
  intro h9 tk9 v9 t9 c9 t91 n91 n92 vs9 ns9 F9 N9 hI9 hl9 hv9 hw9
  (try dsimp only at N9)
  (try k_sweep)
  k_steps
  refine Stop.mk ?_
  refine take_step (Cx.wide (by k_asm) (by decide)) (by k_asm) (by k_asm) (fun o => by k_upd) (fun o o' => by k_upd) (by k_ne) (by assumption) (by first | decide | omega) (by omega) ?_
  intro h9 tk9 v9 t9 c9 t91 n91 n92 vs9 ns9 F9 N9 hI9 hl9 hv9 hw9
  (try dsimp only at N9)
  (try k_sweep)
  k_steps
  refine Stop.mk ?_
  refine take_step (Cx.wide (by k_asm) (by decide)) (by k_asm) (by k_asm) (fun o => by k_upd) (fun o o' => by k_upd) (by k_ne) (by assumption) (by first | decide | omega) (by omega) ?_
  intro h9 tk9 v9 t9 c9 t91 n91 n92 vs9 ns9 F9 N9 hI9 hl9 hv9 hw9
  (try dsimp only at N9)
  (try k_sweep)
  k_steps
  refine Stop.mk ?_
  rename News _ _ _ _ => N1
  rename Fr _ _ _ _ => F1
  rename IsRange _ _ _ _ _ _ _ _ => hr1
  refine comp_range (n := 16) (fun i ys nw => Stop (nw = _ ∧ ∃ zs, IntsAre ys zs ∧ zs.length = i)) rfl F1 N1 hr1 (by decide) (by decide) (by decide) ⟨rfl, [], .nil, rfl⟩ ?_ ?_
  · intro i t I oI C oC D m₂ h tk E' ys nw hi hJ hC hx F2 N2 of1 of2 of3 ne1 ne2 ne3 QC hEnd
    revert hJ
    refine stopE (and2 ?_)
    rintro rfl ⟨zs, hz, hzl⟩
    clear F1 N1 hr1
    k_steps
    refine hEnd _ _ ?_
    k_steps
    exact ⟨rfl, _, hz.append (.cons _ _ .nil), by rw [List.length_append, List.length_singleton, hzl]⟩
  · intro g ys nw hJ
    revert hJ
    refine stopE (and2 ?_)
    rintro rfl ⟨zs, hz, hzl⟩
    clear F1 N1 hr1
    k_steps
    refine Stop.mk ?_
    rename News _ _ _ _ => N1
    rename Fr _ _ _ _ => F1
    rename IsRange _ _ _ _ _ _ _ _ => hr1
    refine comp_range (n := 3) (fun i ys nw => Stop (∃ c' t1 n1 vs' n2 ns', nw = _ :: _ :: _ :: _ :: _ :: _ :: (b, listOf #[.ref q, .int c' t1] n1) :: (q, listOf vs'.toArray n2) :: [] ∧ IntsAre vs' ns' ∧ ns'.length ≤ 63 ∧ ∃ zs, IntsAre ys zs ∧ zs.length = i)) rfl F1 N1 hr1 (by decide) (by decide) (by decide)
      ⟨_, _, _, _, _, _, rfl, by assumption, by assumption, [], .nil, rfl⟩ ?_ ?_
    · intro i t I oI C oC D m₂ h tk E' ys nw hi hJ hC hx F2 N2 of1 of2 of3 ne1 ne2 ne3 QC hEnd
      revert hJ
      refine stopE (ex6 fun c' t1 n1 vs' n2 ns' => and4 ?_)
      rintro rfl hvs hns ⟨zs', hz', hzl'⟩
      clear F1 N1 hr1
      k_steps
      refine Stop.mk ?_
      refine take_step (Cx.wide (by k_asm) (by decide)) (by k_asm) (by k_asm) (fun o => by k_upd) (fun o o' => by k_upd) (by k_ne) (by assumption) (by first | decide | omega) (by omega) ?_
      intro h9 tk9 v9 t9 c9 t91 n91 n92 vs9 ns9 F9 N9 hI9 hl9 hv9 hw9
      (try dsimp only at N9)
      (try k_sweep)
      k_steps
      refine hEnd _ _ ?_
      k_steps
      refine ⟨_, _, _, _, _, _, rfl, by assumption, by assumption, _, hz'.append (.cons _ _ .nil), by rw [List.length_append, List.length_singleton, hzl']⟩
    · intro g ys nw hJ
      revert hJ
      refine stopE (ex6 fun c' t1 n1 vs' n2 ns' => and4 ?_)
      rintro rfl hvs hns ⟨zs', hz', hzl'⟩
      clear F1 N1 hr1
      k_steps
      rename News _ _ _ _ => N2
      rename Fr _ _ _ _ => F2
      rename IntsAre _ _ => hP
      refine hQ _ _ _ ?_
      refine k _ _ _ _ _ _ _ _ _ _ _ _ (sameOf st F2) (N2.get (by k_mem)) (N2.get (by k_mem)) hvs hns (freshOf st N2 (by k_mem) ?_) (N2.get (by k_mem)) hP (by rw [List.length_append, hzl, hzl'])
      intro hm
      simp only [List.map_cons, List.map_nil, List.mem_cons, List.not_mem_nil, or_false] at hm
      rcases hm with rfl | rfl
      · exact Nat.lt_irrefl _ (ltOld (by assumption) (by k_mem))
      · exact Nat.lt_irrefl _ (ltOld (by assumption) (by k_mem))


theorem mem_rep {n : Nat} {x y : Int} (h : x ∈ (List.replicate n [y]).flatten) : x = y := by
  obtain ⟨l, hl, hx⟩ := List.mem_flatten.mp h
  rw [(List.mem_replicate.mp hl).2] at hx
  exact List.mem_singleton.mp hx
theorem off2 {a b : Addr × Obj} {d : Nat} (h1 : a.1 ≠ d) (h2 : b.1 ≠ d) : ∀ p ∈ a :: b :: ([] : Led), p.1 ≠ d := by
  intro p hp
  rcases List.mem_cons.mp hp with rfl | hp
  · exact h1
  · rw [List.mem_singleton.mp hp]; exact h2
theorem row_len {a c i : Nat} (h : a ≤ 300 * i) (hc : c ≤ 300) : a + c ≤ 300 * (i + 1) := Nat.add_le_add h hc
theorem len_rep {n : Nat} {y : Int} : (List.replicate n [y]).flatten.length = n := by
  induction n with
  | zero => rfl
  | succ n ih => rw [List.replicate_succ, List.flatten_cons, List.length_append, ih]; simp; omega
theorem prodB {a b : Int} (h1 : 0 ≤ a) (h2 : a < 16) (h3 : 0 ≤ b) (h4 : b < 2) : 0 ≤ a * b ∧ a * b ≤ 15 := by
  rcases (by omega : b = 0 ∨ b = 1) with rfl | rfl
  · omega
  · omega
theorem row_spec {w : World} {A : Around} {h₀ : Heap} {L : Addr} {m : Str → Option Value} {s : Shared} {R : Result → Shared → Prop}
    {b q : Nat} {c : Int} {t0 t5 t6 : Tok} {n0 nq : Nat} {vs : List Value} {ns : List Int} {most far : Int}
    (C : Cx w 550 A h₀ L) (F : Fr h₀ L s.heap m) (N : News h₀ L s.heap [(b, listOf #[.ref q, .int c t0] n0), (q, listOf vs.toArray nq)])
    (hbq : b ≠ q) (hI : IntsAre vs ns) (hlen : ns.length ≤ 63) (hmost : 0 ≤ most) (hmost2 : most ≤ 400) (hfar : 0 < far) (hfar2 : far ≤ 300)
    (k : ∀ h' tk (p : Nat) pvs np (P : List Int) c' t1 n1 n2 vs' ns', Same [b, q] s.heap h' → h'.get? b = some (listOf #[.ref q, .int c' t1] n1) → h'.get? q = some (listOf vs'.toArray n2) →
      IntsAre vs' ns' → ns'.length ≤ 63 → s.heap.get? p = none → h'.get? p = some (listOf pvs.toArray np) → IntsAre pvs P → (P.length : Int) ≤ most → (∀ x ∈ P, 0 ≤ x ∧ x ≤ 15) →
      R (.ok (.ret (.ref p))) { s with heap := h', toks := tk }) :
    codeAny (model Challenge.rw_no0091_01.row.prog w) A (.call (.ref 127) ⟨[.ref b, .int most t5, .int far t6], []⟩) R s := by
  have hX := Cx.inX ‹Cx _ _ _ _ _›
  revert hX
  k_fill
  intro _
  refine' enterP2 ?zoC ?zoF ?zoN ?zok6 ?zok7 ?zok8 ?zok9 ?zokB ?_ ?zoc2 ?zoc3 ?zoc4 ?zoc5; (case zoC => assumption); (case zoF => assumption); (case zoN => assumption); (case zok6 => k_is); (case zok7 => k_is); (case zok8 => decide); (case zok9 => first | exact BindsTo.of_eq rfl | exact binds_K (by k_in) rfl (by k_is) rfl rfl rfl); (case zoc5 => decide); (case zokB => exact locs rfl); (case zoc2 => exact rfl); (case zoc3 => exact rfl); (case zoc4 => exact rfl)
  k_whole
  intro g1 L1 h1 tk1 d1 u1 fs1 gd1 gn1 dr1 os1 Q1 E1 lo1 me1 mg1 mb1 F1' N1' C1 X1 T1 hE1 hu1 st hQ hN
  (try dsimp only)
  k_steps
  refine Stop.mk ?_
  refine take_step (Cx.wide (by k_asm) (by decide)) (by k_asm) (by k_asm) (fun o => by k_upd) (fun o o' => by k_upd) (by k_ne) (by assumption) (by first | decide | omega) (by omega) ?_
  intro h9 tk9 v9 t9 c9 t91 n91 n92 vs9 ns9 F9 N9 hI9 hl9 hv9 hw9
  (try dsimp only at N9)
  (try k_sweep)
  k_steps
  refine Stop.mk ?_
  rename News _ _ _ _ => N1
  rename Fr _ _ _ _ => F1
  rename IsRange _ _ _ _ _ _ _ _ => hr1
  rename (0 ≤ _) => hv0
  rename (_ < (5 : Int)) => hv1
  refine for_range (fun i m nx => Stop (∃ (mk : Nat) (n3 : Nat) (c' : Int) (t1 : Tok) (n1 : Nat) (vs' : List Value) (n2 : Nat) (ns' : List Int) (ms : List Value) (P : List Int),
    nx = (mk, listOf ms.toArray n3) :: (b, listOf #[.ref q, .int c' t1] n1) :: (q, listOf vs'.toArray n2) :: [] ∧ Names m [(Str.ofString "made", .ref mk), (Str.ofString "box", .ref b), (Str.ofString "most", .int most t5), (Str.ofString "far", .int far t6)] ∧
    (∀ p ∈ (b, listOf #[.ref q, .int c' t1] n1) :: (q, listOf vs'.toArray n2) :: ([] : Led), p.1 ≠ mk) ∧ IntsAre vs' ns' ∧ ns'.length ≤ 63 ∧ IntsAre ms P ∧ (∀ x ∈ P, 0 ≤ x ∧ x ≤ 15) ∧ P.length ≤ 300 * i)) rfl hr1 (small_one (by decide) (by decide) (by omega) (by omega)) (rangeSize_nat _ _) F1 N1 ?_ ?_ ?_
  · exact ⟨_, _, _, _, _, _, _, _, _, _, rfl, ⟨rfl, rfl, rfl, rfl, trivial⟩, off2 (by k_ne) (by k_ne), by assumption, by assumption, .nil, by simp, by simp⟩
  · intro I i t oI m₁ nx h tk hi hJ off F2 N2 QQ hEnd hRet
    revert hJ
    refine stopE (ex8 fun mk n3 c' t1 n1 vs' n2 ns' => ex2 fun ms P => and8 ?_)
    rintro rfl hm hbq1 hI' hl' hP hP15 hPl
    have F3 := frK hm F2
    clear F2 F1 N1 hr1 hm
    k_steps
    refine Stop.mk ?_
    refine take_step (Cx.wide (by k_asm) (by decide)) (by k_asm) (by k_asm) (fun o => by k_upd) (fun o o' => by k_upd) (by k_ne) (by assumption) (by first | decide | omega) (by omega) ?_
    intro h9 tk9 v9 t9 c9 t91 n91 n92 vs9 ns9 F9 N9 hI9 hl9 hv9 hw9
    (try dsimp only at N9)
    (try k_sweep)
    k_steps
    refine Stop.mk ?_
    refine take_step (Cx.wide (by k_asm) (by decide)) (by k_asm) (by k_asm) (fun o => by k_upd) (fun o o' => by k_upd) (by k_ne) (by assumption) (by first | decide | omega) (by omega) ?_
    intro h9 tk9 v9 t9 c9 t91 n91 n92 vs9 ns9 F9 N9 hI9 hl9 hv9 hw9
    (try dsimp only at N9)
    (try k_sweep)
    k_steps
    all_goals (
      refine Stop.mk ?_
      refine take_step (Cx.wide (by k_asm) (by decide)) (by k_asm) (by k_asm) (fun o => by k_upd) (fun o o' => by k_upd) (by k_ne) (by assumption) (by first | decide | omega) (by omega) ?_
      intro h9 tk9 v9 t9 c9 t91 n91 n92 vs9 ns9 F9 N9 hI9 hl9 hv9 hw9
      (try dsimp only at N9)
      (try k_sweep)
      k_steps
      skip)
    all_goals (
      rename News _ _ _ _ => N4
      rename Fr _ _ _ _ => F4
      refine' hEnd _ <| forEnd F4 N4 _ ?sub ?off ⟨_, _, _, _, _, _, _, _, _, _, rfl, ⟨rfl, rfl, rfl, rfl, trivial⟩, ?e1, ?e3, ?e4, ?e5, ?e6, ?e7⟩
      (case sub => lcg_sub)
      (case off => exact on1 ⟨by k_ne, by k_ne, by k_ne, trivial⟩)
      (case e1 => exact off2 (by k_ne) (by k_ne))
      (case e3 => assumption)
      (case e4 => assumption)
      (case e5 => assumption)
      (case e6 =>
        intro x hx
        rcases List.mem_append.mp hx with hx | hx
        · exact hP15 x hx
        · rw [mem_rep hx]
          exact prodB (by assumption) (by assumption) (by assumption) (by assumption))
      (case e7 =>
        rw [List.length_append, len_rep]
        exact row_len hPl (by omega)))
  · intro m₁ nx h tk hJ F2 N2
    revert hJ
    refine stopE (ex8 fun mk n3 c' t1 n1 vs' n2 ns' => ex2 fun ms P => and8 ?_)
    rintro rfl hm hbq1 hI' hl' hP hP15 hPl
    have F3 := frK hm F2
    clear F2 F1 N1 hr1 hm
    k_steps
    rename News _ _ _ _ => N4
    rename Fr _ _ _ _ => F4
    rename IntsAre _ (List.take _ _) => hT
    refine hQ _ _ _ ?_
    refine k _ _ _ _ _ _ _ _ _ _ _ _ (sameOf st F4) (N4.get (by k_mem)) (N4.get (by k_mem)) hI' hl' (freshOf st N4 (by k_mem) ?_) (N4.get (by k_mem)) hT (by rw [List.length_take]; omega) (fun x hx => hP15 x (List.mem_of_mem_take hx))
    intro hm
    simp only [List.map_cons, List.map_nil, List.mem_cons, List.not_mem_nil, or_false] at hm
    rcases hm with rfl | rfl
    · exact Nat.lt_irrefl _ (ltOld (by assumption) (by k_mem))
    · exact Nat.lt_irrefl _ (ltOld (by assumption) (by k_mem))


section
variable {prog : Program} {w : World} {A : Around} {E : Value → Shared → Prop} {s : Shared} {h₀ : Heap} {L : Addr} {m : Str → Option Value}
/-- xs[i] of a list of ints of the ground, 0 ≤ i < len -/
theorem item_intsB {value slice : Expr} {l : Nat} {vs : List Value} {ns : List Int} {k : Int} {u : Tok} {Q : Value → Shared → Prop} (F : Fr h₀ L s.heap m) (hl : h₀.IsList l vs.toArray) (hI : IntsAre vs ns)
    (h0 : 0 ≤ k) (hk : k < (ns.length : Int)) (hz : ns.length ≤ 1000000) (h : ∀ t, Q (.int (ns.getD k.toNat 0) t) s)
    (hs : subscripted slice false (.ref l) (.int k u) = operate [.ref l, .int k u] (getItem (.ref l) (.int k u)) := by with_unfolding_all rfl) :
    wpAny (model prog w) A (subscriptTail value slice (.ref l) (.int k u)) Q E s := by
  obtain ⟨t, ht⟩ := intsGet hI (k := k.toNat) (by omega)
  have hl' : s.heap.IsList l vs.toArray := hl.at fun o e => F.keep l o e
  exact tail_any hl'.typeIs slot_list_getitem.lookup (wpAny_getItem_list hl' h0 (by omega) (by simpa using ht) (h t)) hs
end
-- RULES
local macro_rules | `(tactic| walk_at "subscriptTail") => `(tactic| (k_here; (with_reducible show wpAny _ _ (subscriptTail _ _ (Value.ref _) (Value.int _ _)) _ _ _); k_dflt (refine' item_intsB ?F ?hl ?I ?a ?b ?z ?_; (case F => k_asm); (case hl => assumption); (case I => assumption); (case a => omega); (case b => omega); (case z => omega)); intro t'))
-- END RULES
/-- how many items from place p on are alike -/
structure Alike (row : List Int) (p n : Nat) : Prop where
  le : p + n ≤ row.length
  same : ∀ j, j < n → row.getD (p + j) 0 = row.getD p 0
  stop : p + n < row.length → row.getD (p + n) 0 ≠ row.getD p 0

theorem alike_spec {w : World} {A : Around} {h₀ : Heap} {L : Addr} {m : Str → Option Value} {s : Shared} {R : Result → Shared → Prop}
    {l p : Nat} {t5 : Tok} {vs : List Value} {row : List Int}
    (C : Cx w 600 A h₀ L) (F : Fr h₀ L s.heap m) (N : News h₀ L s.heap []) (hl : s.heap.IsList l vs.toArray) (hI : IntsAre vs row) (hlen : row.length ≤ 1000) (hp : p ≤ row.length)
    (k : ∀ h' tk (n : Nat) t, Same [] s.heap h' → Alike row p n → R (.ok (.ret (.int (n : Int) t))) { s with heap := h', toks := tk }) :
    codeAny (model Challenge.rw_no0091_01.row.prog w) A (.call (.ref 141) ⟨[.ref l, .int (p : Int) t5], []⟩) R s := by
  have hX := Cx.inX ‹Cx _ _ _ _ _›
  revert hX
  k_fill
  intro _
  refine' enterP2 ?zoC ?zoF ?zoN ?zok6 ?zok7 ?zok8 ?zok9 ?zokB ?_ ?zoc2 ?zoc3 ?zoc4 ?zoc5; (case zoC => assumption); (case zoF => assumption); (case zoN => assumption); (case zok6 => k_is); (case zok7 => k_is); (case zok8 => decide); (case zok9 => first | exact BindsTo.of_eq rfl | exact binds_K (by k_in) rfl (by k_is) rfl rfl rfl); (case zoc5 => decide); (case zokB => exact locs rfl); (case zoc2 => exact rfl); (case zoc3 => exact rfl); (case zoc4 => exact rfl)
  k_whole
  intro g1 L1 h1 tk1 d1 u1 fs1 gd1 gn1 dr1 os1 Q1 E1 lo1 me1 mg1 mb1 F1' N1' C1 X1 T1 hE1 hu1 st hQ hN
  (try dsimp only)
  have hlg : (_ : Heap).IsList l vs.toArray := hl.at fun o e => st _ o e (by simp)
  all_goals k_steps
  refine Stop.mk ?_
  rename News _ _ _ [] => N1
  rename Fr _ _ _ _ => F1
  refine while_rule (fun k m nx => Stop (∃ (n : Nat) (t : Tok), nx = [] ∧ Names m [(Str.ofString "row", .ref l), (Str.ofString "place", .int (p : Int) t5), (Str.ofString "many", .int (n : Int) t)] ∧ p + n ≤ row.length ∧ (∀ j, j < n → row.getD (p + j) 0 = row.getD p 0) ∧ k = row.length - n)) row.length F1 N1
    ⟨0, _, rfl, ⟨rfl, rfl, rfl, trivial⟩, hp, by simp, rfl⟩ ?_
  intro kk m₁ nx h tk F2 N2 hJ QQ hEnd hRet
  revert hJ
  refine stopE (ex2 fun n t => and5 ?_)
  rintro rfl hm hn hsame rfl
  have F3 := frK hm F2
  clear F2 F1 N1 hm
  k_steps
  · rename News _ _ _ [] => N4
    rename Fr _ _ _ _ => F4
    rename (_ + _ < (_ : Int)) => hlt
    rename (row.getD _ 0 = _) => heq
    refine hEnd _ <| whEnd F4 N4 _ (by simp) (j := row.length - (n + 1)) (by omega) ⟨n + 1, _, rfl, ⟨rfl, rfl, rfl, trivial⟩, by omega, ?_, rfl⟩
    intro j hj
    rcases Nat.lt_succ_iff_lt_or_eq.mp hj with hj | rfl
    · exact hsame j hj
    · have e1 : ((p : Int) + (j : Int)).toNat = p + j := by omega
      have e2 : ((p : Int)).toNat = p := by omega
      rw [e1, e2] at heq
      exact heq
  · rename (row.getD _ 0 ≠ _) => hne
    have e1 : ((p : Int) + (n : Int)).toNat = p + n := by omega
    have e2 : ((p : Int)).toNat = p := by omega
    rw [e1, e2] at hne
    refine hQ _ _ _ ?_
    exact k _ _ _ _ (sameOf st F3) ⟨hn, hsame, fun _ => hne⟩
  · rename (¬ _) => hge
    refine hQ _ _ _ ?_
    exact k _ _ _ _ (sameOf st F3) ⟨hn, hsame, fun h => absurd h (by omega)⟩

theorem alike_step {w : World} {A : Around} {h₀ : Heap} {L : Addr} {m : Str → Option Value} {s : Shared} {Q : Value → Shared → Prop} {E : Value → Shared → Prop} {news : Led}
    {l : Nat} {x : Int} {t5 : Tok} {vs : List Value} {row : List Int}
    (C : Cx w 600 A h₀ L) (F : Fr h₀ L s.heap m) (N : News h₀ L s.heap news) (hl : s.heap.IsList l vs.toArray) (hI : IntsAre vs row) (hlen : row.length ≤ 1000) (hx : 0 ≤ x) (hp : x ≤ row.length)
    (k : ∀ h' tk (n : Nat) t, Fr h₀ L h' m → News h₀ L h' news → Alike row x.toNat n → Q (.int (n : Int) t) { s with heap := h', toks := tk }) :
    wpAny (model Challenge.rw_no0091_01.row.prog w) A (call (.ref 141) [.ref l, .int x t5] []) Q E s := by
  have e : x = ((x.toNat : Nat) : Int) := by omega
  rw [e]
  refine wpAny_call (alike_spec C F (fun _ hp => nomatch hp) hl hI hlen (by omega) fun h' tk n t S ha => ?_)
  refine k h' tk n t (backFr F S (fun _ h => nomatch h)) (fun p hp => ⟨S _ _ (fun h => nomatch h) (N p hp).1, (N p hp).2⟩) ?_
  exact ha


/-- what _law_longest tells at place p, and how far it goes -/
def pick (row : List Int) (p n : Nat) : (Int × Int) × Nat :=
  if row.getD p 0 = 0 ∧ 10 < n then ((18, (min 138 n : Nat) - 11), min 138 n)
  else if row.getD p 0 = 0 ∧ 2 < n then ((17, (n : Int) - 3), n)
  else if 0 < row.getD p 0 ∧ 0 < p ∧ row.getD (p - 1) 0 = row.getD p 0 ∧ 2 < n then ((16, (min 6 n : Nat) - 3), min 6 n)
  else ((row.getD p 0, 0), 1)
inductive Longest (row : List Int) : List (Int × Int) → Nat → Prop
  | nil : Longest row [] 0
  | snoc {ps : List (Int × Int)} {p n : Nat} : Longest row ps p → p < row.length → Alike row p n → Longest row (ps ++ [(pick row p n).1]) (p + (pick row p n).2)
abbrev Alike.n {row : List Int} {p n : Nat} (_ : Alike row p n) : Nat := n
theorem Alike.pos {row : List Int} {p n : Nat} (h : Alike row p n) (hp : p < row.length) : 0 < n := by
  rcases Nat.eq_zero_or_pos n with rfl | h1
  · exact absurd rfl (h.stop hp)
  · exact h1
section
variable {row : List Int} {ps : List (Int × Int)} {p n : Nat}
theorem L18 (hL : Longest row ps p) (hlt : p < row.length) (hA : Alike row p n) (h0 : row.getD p 0 = 0) (h1 : (10 : Int) < (n : Int)) :
    Longest row (ps ++ [(18, (if (n : Int) < 138 then (n : Int) else 138) - 11)]) (p + min 138 n) := by
  have h := Longest.snoc hL hlt hA
  have e : pick row p n = ((18, ((min 138 n : Nat) : Int) - 11), min 138 n) := by unfold pick; rw [if_pos ⟨h0, by omega⟩]
  rw [e] at h
  have e2 : ((min 138 n : Nat) : Int) - 11 = (if (n : Int) < 138 then (n : Int) else 138) - 11 := by split <;> omega
  rw [e2] at h
  exact h
theorem L17 (hL : Longest row ps p) (hlt : p < row.length) (hA : Alike row p n) (h0 : row.getD p 0 = 0) (h1 : ¬ (10 : Int) < (n : Int)) (h2 : (2 : Int) < (n : Int)) :
    Longest row (ps ++ [(17, (n : Int) - 3)]) (p + n) := by
  have h := Longest.snoc hL hlt hA
  have e : pick row p n = ((17, (n : Int) - 3), n) := by unfold pick; rw [if_neg (by omega), if_pos ⟨h0, by omega⟩]
  rw [e] at h
  exact h
theorem L16 (hL : Longest row ps p) (hlt : p < row.length) (hA : Alike row p n) (h0 : 0 < row.getD p 0) (h1 : (0 : Int) < (p : Int)) (h3 : row.getD ((p : Int) - 1).toNat 0 = row.getD p 0) (h2 : (2 : Int) < (n : Int)) :
    Longest row (ps ++ [(16, (if (n : Int) < 6 then (n : Int) else 6) - 3)]) (p + min 6 n) := by
  have h := Longest.snoc hL hlt hA
  have e0 : ((p : Int) - 1).toNat = p - 1 := by omega
  rw [e0] at h3
  have e : pick row p n = ((16, ((min 6 n : Nat) : Int) - 3), min 6 n) := by unfold pick; rw [if_neg (by omega), if_neg (by omega), if_pos ⟨h0, by omega, h3, by omega⟩]
  rw [e] at h
  have e2 : ((min 6 n : Nat) : Int) - 3 = (if (n : Int) < 6 then (n : Int) else 6) - 3 := by split <;> omega
  rw [e2] at h
  exact h
theorem L1 (hL : Longest row ps p) (hlt : p < row.length) (hA : Alike row p n) (h1 : ¬ (row.getD p 0 = 0 ∧ (2 : Int) < (n : Int))) (h2 : ¬ (0 < row.getD p 0 ∧ (0 : Int) < (p : Int) ∧ row.getD ((p : Int) - 1).toNat 0 = row.getD p 0 ∧ (2 : Int) < (n : Int))) :
    Longest row (ps ++ [(row.getD p 0, 0)]) (p + 1) := by
  have h := Longest.snoc hL hlt hA
  have e0 : ((p : Int) - 1).toNat = p - 1 := by omega
  rw [e0] at h2
  have e : pick row p n = ((row.getD p 0, 0), 1) := by
    unfold pick
    rw [if_neg (fun q => h1 ⟨q.1, by omega⟩), if_neg (fun q => h1 ⟨q.1, by omega⟩), if_neg (fun q => h2 ⟨q.1, by omega, q.2.2.1, by omega⟩)]
  rw [e] at h
  exact h
section
variable (hL : Longest row ps p) (hlt : p < row.length) (hA : Alike row (((p : Nat) : Int)).toNat n)
include hL hlt hA
theorem L18' (h0 : row.getD (((p : Nat) : Int)).toNat 0 = 0) (h1 : (10 : Int) < (n : Int)) : Longest row (ps ++ [(18, (if (n : Int) < 138 then (n : Int) else 138) - 11)]) (p + min 138 n) := by
  rw [Int.toNat_natCast] at *; exact L18 hL hlt hA h0 h1
theorem L17' (h0 : row.getD (((p : Nat) : Int)).toNat 0 = 0) (h1 : ¬ (10 : Int) < (n : Int)) (h2 : (2 : Int) < (n : Int)) : Longest row (ps ++ [(17, (n : Int) - 3)]) (p + n) := by
  rw [Int.toNat_natCast] at *; exact L17 hL hlt hA h0 h1 h2
theorem L16' (h0 : 0 < row.getD (((p : Nat) : Int)).toNat 0) (h1 : (0 : Int) < (p : Int)) (h3 : row.getD ((p : Int) - 1).toNat 0 = row.getD (((p : Nat) : Int)).toNat 0) (h2 : (2 : Int) < (n : Int)) : Longest row (ps ++ [(16, (if (n : Int) < 6 then (n : Int) else 6) - 3)]) (p + min 6 n) := by
  rw [Int.toNat_natCast] at *; exact L16 hL hlt hA h0 h1 h3 h2
theorem L1' (h1 : ¬ (row.getD (((p : Nat) : Int)).toNat 0 = 0 ∧ (2 : Int) < (n : Int))) (h2 : ¬ (0 < row.getD (((p : Nat) : Int)).toNat 0 ∧ (0 : Int) < (p : Int) ∧ row.getD ((p : Int) - 1).toNat 0 = row.getD (((p : Nat) : Int)).toNat 0 ∧ (2 : Int) < (n : Int))) :
    Longest row (ps ++ [(row.getD (((p : Nat) : Int)).toNat 0, 0)]) (p + 1) := by
  rw [Int.toNat_natCast] at *; exact L1 hL hlt hA h1 h2
end
end

theorem step138 (p n : Nat) : (p : Int) + (if (n : Int) < 138 then (n : Int) else 138) = ((p + min 138 n : Nat) : Int) := by split <;> omega
theorem step6 (p n : Nat) : (p : Int) + (if (n : Int) < 6 then (n : Int) else 6) = ((p + min 6 n : Nat) : Int) := by split <;> omega
def LongJ (row : List Int) (l k : Nat) (m : Str → Option Value) (nx : Led) : Prop :=
  Stop (∃ (mk n3 : Nat) (ms : List Value) (ps : List (Int × Int)) (tl : Led) (p : Nat) (pl : Int) (tp : Tok), nx = (mk, listOf ms.toArray n3) :: tl ∧ Names m [(Str.ofString "row", .ref l), (Str.ofString "made", .ref mk), (Str.ofString "place", .int pl tp)] ∧ pl = (p : Int) ∧
    (∀ q ∈ tl, q.1 ≠ mk) ∧ PairsAre tl ms ps ∧ Longest row ps p ∧ ps.length ≤ p ∧ ms.length ≤ 1000 ∧ k = row.length - p)
theorem longEnd {g h' : Heap} {L : Addr} {m' : Str → Option Value} {all tl : Led} {row : List Int} {l mk n3 p q t tk : Nat} {gn : Array GenState} {dr : Drawn} {os : OsState} {ms : List Value} {ps : List (Int × Int)} {a b pl : Int} {ta tb tp : Tok}
    (F : Fr g L h' m') (N : News g L h' all) (h1 : (mk, listOf (ms ++ [Value.ref t]).toArray n3) ∈ all) (h2 : (t, tup2 a ta b tb) ∈ all) (h3 : ∀ x ∈ tl, x ∈ all)
    (hm : Names m' [(Str.ofString "row", .ref l), (Str.ofString "made", .ref mk), (Str.ofString "place", .int pl tp)]) (hne : t ≠ mk) (hoff : ∀ x ∈ tl, x.1 ≠ mk) (hps : PairsAre tl ms ps) (hlen : row.length ≤ 1000) (hlt : p < row.length) (hpl : ps.length ≤ p)
    (hL : Longest row (ps ++ [(a, b)]) q) (hpq : p < q) (hq : pl = (q : Int)) : EndsW g L (LongJ row l) (row.length - p) gn dr os ⟨h', gn, dr, tk, os⟩ := by
  have e := hps.length
  refine whEnd F N ((mk, listOf (ms ++ [Value.ref t]).toArray n3) :: (t, tup2 a ta b tb) :: tl) ?_ (j := row.length - q) (by omega) ⟨mk, n3, ms ++ [.ref t], ps ++ [(a, b)], (t, tup2 a ta b tb) :: tl, q, pl, tp, rfl, hm, hq, ?_, (hps.mono fun _ h => .tail _ h).append (.cons (.head _) .nil), hL, ?_, ?_, rfl⟩
  · intro x hx
    rcases List.mem_cons.mp hx with rfl | hx
    · exact h1
    · rcases List.mem_cons.mp hx with rfl | hx
      · exact h2
      · exact h3 x hx
  · intro x hx
    rcases List.mem_cons.mp hx with rfl | hx
    · exact hne
    · exact hoff x hx
  · rw [List.length_append, List.length_singleton]; omega
  · rw [List.length_append, List.length_singleton]; omega
-- RULES
local macro_rules | `(tactic| walk_at "call builtin:list.append") => `(tactic| (k_here; (with_reducible show wpAny _ _ (call (Value.builtin _) [Value.ref _, _]) _ _ _); k_dflt (refine append_L (by k_asm) (by k_asm) (by k_upd) (by walk_at "len") ?_); intro h' F' N'; (try k_sweep)))
local macro_rules | `(tactic| walk_at "exec If") => `(tactic| (k_here; (with_reducible show wpAny _ _ (exec (Stmt.If _ (Stmt.Expr (Expr.Call _ [Expr.Tuple (Expr.Constant (Const.int 16) _ _ :: _) _ _] _ _) _ :: _) _ _) _) _ _ _); refine stop ?_))
local macro_rules | `(tactic| walk_at "exec If") => `(tactic| (k_here; (with_reducible show wpAny _ _ (exec (Stmt.If _ (Stmt.Expr (Expr.Call _ [Expr.Tuple (Expr.Constant (Const.int 18) _ _ :: _) _ _] _ _) _ :: _) _ _) _) _ _ _); refine stop ?_))
-- END RULES
theorem longest_spec {w : World} {A : Around} {h₀ : Heap} {L : Addr} {m : Str → Option Value} {s : Shared} {R : Result → Shared → Prop}
    {l : Nat} {vs : List Value} {row : List Int}
    (C : Cx w 550 A h₀ L) (F : Fr h₀ L s.heap m) (N : News h₀ L s.heap []) (hl : s.heap.IsList l vs.toArray) (hI : IntsAre vs row) (hlen : row.length ≤ 1000)
    (k : ∀ h' tk (a n : Nat) ws ps led p, Same [] s.heap h' → s.heap.get? a = none → h'.get? a = some (listOf ws.toArray n) → (∀ q ∈ led, h'.get? q.1 = some q.2 ∧ s.heap.get? q.1 = none) → PairsAre led ws ps → Longest row ps p → row.length ≤ p → ps.length ≤ 1000 →
      R (.ok (.ret (.ref a))) { s with heap := h', toks := tk }) :
    codeAny (model Challenge.rw_no0091_01.row.prog w) A (.call (.ref 153) ⟨[.ref l], []⟩) R s := by
  have hX := Cx.inX ‹Cx _ _ _ _ _›
  revert hX
  k_fill
  intro _
  refine' enterP2 ?zoC ?zoF ?zoN ?zok6 ?zok7 ?zok8 ?zok9 ?zokB ?_ ?zoc2 ?zoc3 ?zoc4 ?zoc5; (case zoC => assumption); (case zoF => assumption); (case zoN => assumption); (case zok6 => k_is); (case zok7 => k_is); (case zok8 => decide); (case zok9 => first | exact BindsTo.of_eq rfl | exact binds_K (by k_in) rfl (by k_is) rfl rfl rfl); (case zoc5 => decide); (case zokB => exact locs rfl); (case zoc2 => exact rfl); (case zoc3 => exact rfl); (case zoc4 => exact rfl)
  k_whole
  intro g1 L1 h1 tk1 d1 u1 fs1 gd1 gn1 dr1 os1 Q1 E1 lo1 me1 mg1 mb1 F1' N1' C1 X1 T1 hE1 hu1 st hQ hN
  (try dsimp only)
  have hlg : (_ : Heap).IsList l vs.toArray := hl.at fun o e => st _ o e (by simp)
  all_goals k_steps
  refine Stop.mk ?_
  rename News _ _ _ _ => N1
  rename Fr _ _ _ _ => F1
  refine while_rule (LongJ row l) row.length F1 (nx₀ := [(_, listOf ([] : List Value).toArray 0)]) (fun p hp => N1 p (.tail _ hp)) ?_ ?_
  · exact ⟨_, _, [], [], [], 0, _, _, rfl, ⟨rfl, rfl, rfl, trivial⟩, rfl, (fun _ h => nomatch h), .nil, .nil, Nat.le_refl _, Nat.zero_le _, rfl⟩
  intro kk m₁ nx h tk F2 N2 hJ QQ hEnd hRet
  revert hJ
  refine stopE (ex8 fun mk n3 ms ps tl p pl tp => and9 ?_)
  rintro rfl hm rfl hoff hps hL hpl hml rfl
  have F3 := frK hm F2
  clear F2 F1 N1 hm
  k_steps
  ·
    refine Stop.mk ?_
    refine alike_step (Cx.wide (by k_asm) (by decide)) (by k_asm) (by k_asm) (hlg.at fun o e => Fr.keep (by k_asm) _ o e) hI (by omega) (by omega) (by omega) ?_
    intro h9 tk9 n9 t9 F9 N9 hA9
    (try k_sweep)
    k_steps
    refine Stop.mk ?_
    rename News _ _ _ _ => N4
    rename Fr _ _ _ _ => F4
    rename Alike _ _ _ => hA
    rename ((p : Int) < (_ : Int)) => hp
    have hlt : p < row.length := Int.ofNat_lt.mp hp
    have hA1 := hA.le
    have hn := hA.pos hlt
    rw [Int.toNat_natCast] at hA1
    clear hp
    by_cases hx : row.getD (((p : Nat) : Int)).toNat 0 = 0
    · have hxb : (row.getD (((p : Nat) : Int)).toNat 0 == (0 : Int)) = true := beq_iff_eq.mpr hx
      refine wpAny_If ?_
      k_steps
      · rename News _ _ _ _ => N4
        rename Fr _ _ _ _ => F4
        refine hEnd _ (longEnd F4 N4 (by k_mem) (by k_mem) (fun q hq => .tail _ (.tail _ hq)) ⟨rfl, rfl, rfl, trivial⟩ (by k_ne) hoff hps hlen hlt hpl (L18' hL hlt hA hx (by assumption)) (Nat.lt_add_of_pos_right (Nat.lt_min.mpr ⟨by decide, hn⟩)) ?_)
        exact step138 p _
      · rename News _ _ _ _ => N4
        rename Fr _ _ _ _ => F4
        exact hEnd _ (longEnd F4 N4 (by k_mem) (by k_mem) (fun q hq => .tail _ (.tail _ hq)) ⟨rfl, rfl, rfl, trivial⟩ (by k_ne) hoff hps hlen hlt hpl (L17' hL hlt hA hx (by assumption) (by assumption)) (Nat.lt_add_of_pos_right hn) rfl)
      · rename (¬ (2 : Int) < _) => hn2
        refine Stop.mk (wpAny_If ?_)
        k_steps
        rename News _ _ _ _ => N4
        rename Fr _ _ _ _ => F4
        exact hEnd _ (longEnd F4 N4 (by k_mem) (by k_mem) (fun q hq => .tail _ (.tail _ hq)) ⟨rfl, rfl, rfl, trivial⟩ (by k_ne) hoff hps hlen hlt hpl (L1' hL hlt hA (fun q => hn2 q.2) (fun q => hn2 q.2.2.2)) (Nat.lt_succ_self _) rfl)
    · have hxb : (row.getD (((p : Nat) : Int)).toNat 0 == (0 : Int)) = false := beq_false_of_ne hx
      refine wpAny_If ?_
      k_steps
      refine Stop.mk ?_
      rename News _ _ _ _ => N5
      rename Fr _ _ _ _ => F5
      refine joinElse (¬ (0 < row.getD (((p : Nat) : Int)).toNat 0 ∧ (0 : Int) < (p : Int) ∧ row.getD ((p : Int) - 1).toNat 0 = row.getD (((p : Nat) : Int)).toNat 0 ∧ (2 : Int) < (Alike.n hA : Int))) F5 N5 ?_ ?_
      · intro h6 tk6 F6 N6 hno
        clear F5 N5
        k_steps
        rename News _ _ _ _ => N7
        rename Fr _ _ _ _ => F7
        exact hEnd _ (longEnd F7 N7 (by k_mem) (by k_mem) (fun q hq => .tail _ (.tail _ hq)) ⟨rfl, rfl, rfl, trivial⟩ (by k_ne) hoff hps hlen hlt hpl (L1' hL hlt hA (fun q => hx q.1) hno) (Nat.lt_succ_self _) rfl)
      · intro KE hKE
        k_steps
        · rename News _ _ _ _ => N7
          rename Fr _ _ _ _ => F7
          refine hEnd _ (longEnd F7 N7 (by k_mem) (by k_mem) (fun q hq => .tail _ (.tail _ hq)) ⟨rfl, rfl, rfl, trivial⟩ (by k_ne) hoff hps hlen hlt hpl (L16' hL hlt hA (by assumption) (by assumption) (by assumption) (by assumption)) (Nat.lt_add_of_pos_right (Nat.lt_min.mpr ⟨by decide, hn⟩)) ?_)
          exact step6 p _
        all_goals (
          rename News _ _ _ _ => N7
          rename Fr _ _ _ _ => F7
          refine hKE _ _ F7 N7 (fun q => ?_)
          first | exact (by assumption : ¬ _) q.2.2.2 | exact (by assumption : _ ≠ _) q.2.2.1 | exact (by assumption : ¬ _) q.2.1 | exact (by assumption : ¬ _) q.1)
  · rename News _ _ _ _ => N4
    rename (¬ _ < _) => hge
    have hml' := hps.length
    refine hQ _ _ _ ?_
    refine k _ _ _ _ _ _ _ _ (sameOf st F3) (freshOf st N4 (.head _) (by simp)) (N4.get (.head _)) (fun q hq => ⟨(N4 _ (.tail _ hq)).1, freshOf st N4 (o := q.2) (.tail _ hq) (by simp)⟩) hps hL (by omega) (by omega)


/-- one told symbol read -/
def rd1 (made : List Int) (p : Int × Int) : Option (List Int) :=
  if 0 ≤ p.1 ∧ p.1 ≤ 15 ∧ p.2 = 0 then some (made ++ [p.1])
  else if p.1 = 16 ∧ 0 ≤ p.2 ∧ p.2 < 4 then (match made.getLast? with | some y => some (made ++ List.replicate (3 + p.2).toNat y) | none => none)
  else if p.1 = 17 ∧ 0 ≤ p.2 ∧ p.2 < 8 then some (made ++ List.replicate (3 + p.2).toNat 0)
  else if p.1 = 18 ∧ 0 ≤ p.2 ∧ p.2 < 128 then some (made ++ List.replicate (11 + p.2).toNat 0)
  else none
noncomputable def rd : List (Int × Int) → List Int → Option (List Int)
  | [], m => some m
  | p :: ps, m => (rd1 m p).bind (rd ps)
theorem rd1_len {m m' : List Int} {p : Int × Int} (h : rd1 m p = some m') : m.length ≤ m'.length := by
  unfold rd1 at h
  split at h
  · cases h; simp
  · split at h
    · split at h
      · cases h; simp
      · cases h
    · split at h
      · cases h; simp
      · split at h
        · cases h; simp
        · cases h
theorem rd_len {ps : List (Int × Int)} : ∀ {m row : List Int}, rd ps m = some row → m.length ≤ row.length := by
  induction ps with
  | nil => intro m row h; cases h; exact Nat.le_refl _
  | cons p ps ih =>
    intro m row h
    obtain ⟨m', h1, h2⟩ := Option.bind_eq_some_iff.mp h
    exact Nat.le_trans (rd1_len h1) (ih h2)

theorem rd1_cases {made made' : List Int} {x y : Int} (h : rd1 made (x, y) = some made') :
    (0 ≤ x ∧ x ≤ 15 ∧ y = 0 ∧ made' = made ++ [x]) ∨ (x = 16 ∧ 0 ≤ y ∧ y < 4 ∧ ∃ init z, made = init ++ [z] ∧ made' = made ++ List.replicate (3 + y).toNat z) ∨
    (x = 17 ∧ 0 ≤ y ∧ y < 8 ∧ made' = made ++ List.replicate (3 + y).toNat 0) ∨ (x = 18 ∧ 0 ≤ y ∧ y < 128 ∧ made' = made ++ List.replicate (11 + y).toNat 0) := by
  unfold rd1 at h
  split at h
  · rename_i h1; cases h; exact .inl ⟨h1.1, h1.2.1, h1.2.2, rfl⟩
  · split at h
    · rename_i h1
      split at h
      · rename_i z hz
        cases h
        obtain ⟨init, rfl⟩ : ∃ init, made = init ++ [z] := by
          have := List.getLast?_eq_some_iff.mp hz
          obtain ⟨ys, e⟩ := this
          exact ⟨ys, e⟩
        exact .inr (.inl ⟨h1.1, h1.2.1, h1.2.2, init, z, rfl, rfl⟩)
      · cases h
    · split at h
      · rename_i h1; cases h; exact .inr (.inr (.inl ⟨h1.1, h1.2.1, h1.2.2, rfl⟩))
      · split at h
        · rename_i h1; cases h; exact .inr (.inr (.inr ⟨h1.1, h1.2.1, h1.2.2, rfl⟩))
        · cases h
theorem rd1_16 {made made' : List Int} {y : Int} (h : rd1 made (16, y) = some made') : 0 ≤ y ∧ y < 4 ∧ ∃ init z, made = init ++ [z] ∧ made' = made ++ List.replicate (3 + y).toNat z := by
  rcases rd1_cases h with ⟨_, h1, _⟩ | ⟨_, a, b, c⟩ | ⟨h1, _⟩ | ⟨h1, _⟩
  · exact absurd h1 (by decide)
  · exact ⟨a, b, c⟩
  · exact absurd h1 (by decide)
  · exact absurd h1 (by decide)
theorem rd1_other {made made' : List Int} {x y : Int} (h : rd1 made (x, y) = some made') (hx : x ≠ 16) : 0 ≤ x ∧ x ≤ 18 ∧ 0 ≤ y ∧ y < ([1, 4, 8, 128] : List Int).getD (if 0 < x - 15 then x - 15 else 0).toNat 0 ∧
    (x < 16 → made' = made ++ [x]) ∧ (¬ x < 16 → made' = made ++ List.replicate (([3, 11] : List Int).getD (x - 17).toNat 0 + y).toNat 0) := by
  rcases rd1_cases h with ⟨a, b, rfl, c⟩ | ⟨h1, _⟩ | ⟨rfl, a, b, c⟩ | ⟨rfl, a, b, c⟩
  · refine ⟨a, Int.le_trans b (by decide), by decide, ?_, fun _ => c, fun q => absurd (Int.lt_of_le_of_lt b (by decide)) q⟩
    rw [if_neg (Int.not_lt.mpr (Int.sub_nonpos_of_le b))]; decide
  · exact absurd h1 hx
  · exact ⟨by decide, by decide, a, b, fun q => absurd q (by decide), fun _ => c⟩
  · exact ⟨by decide, by decide, a, b, fun q => absurd q (by decide), fun _ => c⟩
theorem getD2 {a b : Int} (k : Nat) (ha : 0 ≤ a) (hb : 0 ≤ b) : 0 ≤ ([a, b] : List Int).getD k 0 := by
  match k with
  | 0 => exact ha
  | 1 => exact hb
  | _ + 2 => exact Int.le_refl _
theorem getD2' {a b c : Int} (k : Nat) (ha : a ≤ c) (hb : b ≤ c) (h0 : 0 ≤ c) : ([a, b] : List Int).getD k 0 ≤ c := by
  match k with
  | 0 => exact ha
  | 1 => exact hb
  | _ + 2 => exact h0
theorem getD4 (k : Nat) : ([1, 4, 8, 128] : List Int).getD k 0 ≤ 128 := by
  match k with
  | 0 => decide
  | 1 => decide
  | 2 => decide
  | 3 => decide
  | _ + 4 => exact (by decide : (0 : Int) ≤ 128)
theorem ints_snoc {ms : List Value} {init : List Int} {z : Int} (h : IntsAre ms (init ++ [z])) : ∃ ms0 t, ms = ms0 ++ [.int z t] ∧ IntsAre ms0 init := by
  induction init generalizing ms with
  | nil =>
    cases h with
    | cons n t r => cases r; exact ⟨[], t, rfl, .nil⟩
  | cons x xs ih =>
    cases h with
    | cons n t r =>
      obtain ⟨ms0, t', rfl, h0⟩ := ih r
      exact ⟨.int x t :: ms0, t', rfl, .cons _ _ h0⟩
theorem flat_rep {n : Nat} {z : Int} : (List.replicate n [z]).flatten = List.replicate n z := by
  induction n with
  | zero => rfl
  | succ n ih => rw [List.replicate_succ, List.flatten_cons, ih, List.replicate_succ]; rfl
-- RULES
local macro_rules | `(tactic| walk_at "subscriptTail") => `(tactic| (k_here; (with_reducible show wpAny _ _ (subscriptTail (Expr.List (Expr.Constant (Const.int 1) _ _ :: _) _ _) _ (Value.ref _) (Value.int _ _)) _ _ _); (refine' item_ints (ns := [1, 4, 8, 128]) ?N ?m ?I ?a ?b ?z ?_; (case N => k_asm); (case m => k_mem); (case I => exact .cons _ _ (.cons _ _ (.cons _ _ (.cons _ _ .nil)))); (case a => (split <;> omega)); (case b => (show _ < (4 : Int); split <;> omega)); (case z => decide)); intro t'))
local macro_rules | `(tactic| walk_at "subscriptTail") => `(tactic| (k_here; (with_reducible show wpAny _ _ (subscriptTail (Expr.List (Expr.Constant (Const.int 3) _ _ :: _) _ _) _ (Value.ref _) (Value.int _ _)) _ _ _); (refine' item_ints (ns := [3, 11]) ?N ?m ?I ?a ?b ?z ?_; (case N => k_asm); (case m => k_mem); (case I => exact .cons _ _ (.cons _ _ .nil)); (case a => omega); (case b => (show _ < (2 : Int); omega)); (case z => decide)); intro t'))
local macro_rules | `(tactic| walk_at "call builtin:isinstance") => `(tactic| (k_here; (with_reducible show wpAny _ _ (call (Value.builtin _) [Value.ref _, Value.type _]) _ _ _); refine IsiPair.isTuple_tuple (by assumption) (Fr.keep (by assumption)) ?_))
local macro_rules | `(tactic| walk_at "subscriptTail") => `(tactic| (k_here; (with_reducible show wpAny _ _ (subscriptTail _ _ (Value.ref _) (Value.int _ _)) _ _ _); k_dflt (refine' item_last ?N ?m ?k ?_; (case k => rfl); (case N => k_asm); (case m => k_mem))))
local macro_rules | `(tactic| walk_at "call builtin:len") => `(tactic| (k_here; (with_reducible show wpAny _ _ (call (Value.builtin "len") [Value.ref _]) _ _ _); k_dflt (refine' kun_lenT (k := 2) (IsTup.keeps ?t ?f) ?k2 ?k3 ?_; (case t => assumption); (case f => exact Fr.keep (by assumption)); (case k2 => exact rfl); (case k3 => decide); k_whole)))
-- END RULES
theorem read_spec {w : World} {A : Around} {h₀ : Heap} {L : Addr} {m : Str → Option Value} {s : Shared} {R : Result → Shared → Prop}
    {l : Nat} {vs : List Value} {ps : List (Int × Int)} {led : Led} {row : List Int}
    (C : Cx w 550 A h₀ L) (F : Fr h₀ L s.heap m) (N : News h₀ L s.heap []) (hl : s.heap.IsList l vs.toArray) (hps : PairsAre led vs ps) (hled : ∀ q ∈ led, s.heap.get? q.1 = some q.2)
    (hrd : rd ps [] = some row) (hlen : row.length ≤ 1000) (hpl : ps.length ≤ 1000)
    (k : ∀ h' tk (a n : Nat) ws, Same [] s.heap h' → s.heap.get? a = none → h'.get? a = some (listOf ws.toArray n) → IntsAre ws row →
      R (.ok (.ret (.ref a))) { s with heap := h', toks := tk }) :
    codeAny (model Challenge.rw_no0091_01.row.prog w) A (.call (.ref 134) ⟨[.ref l], []⟩) R s := by
  have hX := Cx.inX ‹Cx _ _ _ _ _›
  revert hX
  k_fill
  intro _
  refine' enterP2 ?zoC ?zoF ?zoN ?zok6 ?zok7 ?zok8 ?zok9 ?zokB ?_ ?zoc2 ?zoc3 ?zoc4 ?zoc5; (case zoC => assumption); (case zoF => assumption); (case zoN => assumption); (case zok6 => k_is); (case zok7 => k_is); (case zok8 => decide); (case zok9 => first | exact BindsTo.of_eq rfl | exact binds_K (by k_in) rfl (by k_is) rfl rfl rfl); (case zoc5 => decide); (case zokB => exact locs rfl); (case zoc2 => exact rfl); (case zoc3 => exact rfl); (case zoc4 => exact rfl)
  k_whole
  intro g1 L1 h1 tk1 d1 u1 fs1 gd1 gn1 dr1 os1 Q1 E1 lo1 me1 mg1 mb1 F1' N1' C1 X1 T1 hE1 hu1 st hQ hN
  (try dsimp only)
  have hlg : (_ : Heap).IsList l vs.toArray := hl.at fun o e => st _ o e (by simp)
  have hledg : ∀ q ∈ led, (_ : Heap).get? q.1 = some q.2 := fun q hq => st _ _ (hled q hq) (by simp)
  all_goals k_steps
  refine Stop.mk ?_
  rename News _ _ _ _ => N1
  rename Fr _ _ _ _ => F1
  refine for_list (vs := vs) (fun i m nx => Stop (∃ (mk n3 : Nat) (ms : List Value) (made : List Int), nx = (mk, listOf ms.toArray n3) :: [] ∧ Names m [(Str.ofString "told", .ref l), (Str.ofString "made", .ref mk)] ∧ IntsAre ms made ∧ rd (ps.drop i) made = some row)) rfl ?_ F1 N1 ?_ ?_ ?_ ?_ ?_
  · exact hlg.at fun o e => F1.keep _ o e
  · exact ⟨_, _, _, _, rfl, ⟨rfl, rfl, trivial⟩, .nil, hrd⟩
  · intro i m₁ nx h _ F2 _
    exact hlg.at fun o e => F2.keep _ o e
  · intro I i v s' Q' E' _ _ hq
    exact goName hq
  · intro I i v oI m₁ nx h tk hi hv hJ off F2 N2 QQ hEnd hRet
    revert hJ
    refine stopE (ex4 fun mk n3 ms made => and4 ?_)
    rintro rfl hm hms hr
    have hi' : i < ps.length := by rw [← hps.length]; exact hi
    obtain ⟨a, t, u', hva, hat⟩ := hps.get i hi'
    rw [hva] at hv
    cases hv
    have hT := hledg _ hat
    have hd := List.drop_eq_getElem_cons hi'
    rw [hd] at hr
    obtain ⟨made', hr1, hr2⟩ := Option.bind_eq_some_iff.mp hr
    have hml := rd_len hr2
    have hml0 := rd1_len hr1
    generalize ps[i] = xy at *
    obtain ⟨x, y⟩ := xy
    have F3 := frK hm F2
    clear F2 F1 N1 hm hd hva
    dsimp only at hT
    have hT1 : Heap.IsTuple _ a [Value.int x t, Value.int y u'].toArray := ⟨_, hT, rfl, _, rfl⟩
    have hT2 : IsTup _ a [Value.int x t, Value.int y u'].toArray := ⟨_, hT, rfl, _, rfl⟩
    clear hT
    by_cases hx16 : x = 16
    · subst hx16
      obtain ⟨hy0, hy1, init, z, rfl, rfl⟩ := rd1_16 hr1
      obtain ⟨ms0, tz, rfl, hms0⟩ := ints_snoc hms
      have hmsl := hms.length
      k_steps
      · exfalso
        rename (decide _ = true) => hno
        simp at hno
      · rename News _ _ _ _ => N4
        rename Fr _ _ _ _ => F4
        rename IntsAre _ (_ ++ _) => hI4
        rw [flat_rep] at hI4
        refine' hEnd _ <| forEnd F4 N4 _ ?sub ?off ⟨_, _, _, _, rfl, ⟨rfl, rfl, trivial⟩, hI4, hr2⟩
        (case sub => lcg_sub)
        (case off => exact on1 ⟨by k_ne, trivial⟩)
    · obtain ⟨hx0, hx1, hy0, hy1, hm1, hm2⟩ := rd1_other hr1 hx16
      have hn16 : (x == (16 : Int)) = false := beq_false_of_ne hx16
      have hg1 : 0 ≤ ([3, 11] : List Int).getD (x - 17).toNat 0 := getD2 _ (by decide) (by decide)
      have hg2 : ([3, 11] : List Int).getD (x - 17).toNat 0 ≤ 11 := getD2' _ (by decide) (by decide) (by decide)
      have hy2 : y < 128 := Int.lt_of_lt_of_le hy1 (getD4 _)
      have hmsl := hms.length
      k_steps
      · rename News _ _ _ _ => N4
        rename Fr _ _ _ _ => F4
        refine' hEnd _ <| forEnd F4 N4 _ ?sub ?off ⟨_, _, _, _, rfl, ⟨rfl, rfl, trivial⟩, hms.append (.cons _ _ .nil), hm1 (by assumption) ▸ hr2⟩
        (case sub => lcg_sub)
        (case off => exact on1 ⟨by k_ne, trivial⟩)
      · rename News _ _ _ _ => N4
        rename Fr _ _ _ _ => F4
        rename IntsAre _ (_ ++ _) => hI4
        rw [flat_rep] at hI4
        refine' hEnd _ <| forEnd F4 N4 _ ?sub ?off ⟨_, _, _, _, rfl, ⟨rfl, rfl, trivial⟩, hI4, hm2 (by assumption) ▸ hr2⟩
        (case sub => lcg_sub)
        (case off => exact on1 ⟨by k_ne, trivial⟩)
  · intro m₁ nx h tk hJ F2 N2
    revert hJ
    refine stopE (ex4 fun mk n3 ms made => and4 ?_)
    rintro rfl hm hms hr
    have F3 := frK hm F2
    clear F2 F1 N1 hm
    have e : ps.drop vs.length = [] := by rw [hps.length]; exact List.drop_length
    rw [e] at hr
    obtain rfl : made = row := Option.some.inj hr
    k_steps
    rename News _ _ _ _ => N4
    refine hQ _ _ _ ?_
    exact k _ _ _ _ _ (sameOf st F3) (freshOf st N4 (.head _) (by simp)) (N4.get (.head _)) hms


section
variable {prog : Program} {w : World} {A : Around} {E : Value → Shared → Prop} {s : Shared} {h₀ : Heap} {L D : Addr} {m : Str → Option Value} {news news' : Led} {n : Nat}
theorem truthy_snoc {vs : List Value} {x : Value} {Q : Bool → Shared → Prop} (N : News h₀ L s.heap news) (hm : (D, listOf (vs ++ [x]).toArray n) ∈ news) (hz : vs.length ≤ 1000000)
    (h : Q true { s with toks := s.toks + 1 + 1 }) : wpAny (model prog w) A (truthy (.ref D)) Q E s := by
  have hl : s.heap.IsList D (vs ++ [x]).toArray := ⟨_, (N _ hm).1, rfl, n, rfl⟩
  refine wpAny_truthy_list hl (by rw [List.size_toArray, List.length_append, List.length_singleton]; omega) ?_
  have e : (!(vs ++ [x]).toArray.isEmpty) = true := by simp
  rw [e]; exact h
theorem truthy_cons {vs : List Value} {x : Value} {Q : Bool → Shared → Prop} (N : News h₀ L s.heap news) (hm : (D, listOf (x :: vs).toArray n) ∈ news) (hz : vs.length ≤ 1000000)
    (h : Q true { s with toks := s.toks + 1 + 1 }) : wpAny (model prog w) A (truthy (.ref D)) Q E s := by
  have hl : s.heap.IsList D (x :: vs).toArray := ⟨_, (N _ hm).1, rfl, n, rfl⟩
  refine wpAny_truthy_list hl (by rw [List.size_toArray, List.length_cons]; omega) ?_
  have e : (!(x :: vs).toArray.isEmpty) = true := by simp
  rw [e]; exact h
theorem truthy_nil {Q : Bool → Shared → Prop} (N : News h₀ L s.heap news) (hm : (D, listOf ([] : List Value).toArray n) ∈ news)
    (h : Q false { s with toks := s.toks + 1 + 1 }) : wpAny (model prog w) A (truthy (.ref D)) Q E s := by
  have hl : s.heap.IsList D ([] : List Value).toArray := ⟨_, (N _ hm).1, rfl, n, rfl⟩
  refine wpAny_truthy_list hl (by simp) ?_
  exact h
theorem set_last {vs : List Value} {x v : Value} {k : Int} {t : Tok} {Q : Unit → Shared → Prop} (F : Fr h₀ L s.heap m) (N : News h₀ L s.heap news) (hk : k = -1) (U : Upd D (listOf (vs ++ [x]).toArray n) (listOf (vs ++ [v]).toArray n) news news')
    (h : ∀ h', Fr h₀ L h' m → News h₀ L h' news' → Q () { s with heap := h' }) : wpAny (model prog w) A (setItem (.ref D) (.int k t) v) Q E s := by
  subst hk
  obtain ⟨pre, post, rfl, rfl, a, b⟩ := U.split
  have z := N (D, listOf (vs ++ [x]).toArray n) (List.mem_append.mpr (.inr (.head _)))
  have hs : (vs ++ [x]).toArray.size = vs.length + 1 := by simp
  refine ki_setBack z.1 (by decide) (by rw [hs]; omega) (by decide) (h _ (F.change (Heap.SameBut.update ..) z.2.1 z.2.2) (ki_turn _ N a b ?_ ?_))
  · show (vs ++ [x]).toArray.setIfInBounds (-1 + ((vs ++ [x]).toArray.size : Int)).toNat v = (vs ++ [v]).toArray
    rw [hs, show (-1 + ((vs.length + 1 : Nat) : Int)).toNat = vs.length by omega]
    simp
  · simp
theorem set_at {vs : List Value} {v : Value} {k : Int} {t : Tok} {Q : Unit → Shared → Prop} (F : Fr h₀ L s.heap m) (N : News h₀ L s.heap news) (h0 : 0 ≤ k) (hk : k < (vs.length : Int)) (hz : vs.length ≤ 1000000) (U : Upd D (listOf vs.toArray n) (listOf (vs.set k.toNat v).toArray n) news news')
    (h : ∀ h', Fr h₀ L h' m → News h₀ L h' news' → Q () { s with heap := h' }) : wpAny (model prog w) A (setItem (.ref D) (.int k t) v) Q E s := by
  obtain ⟨pre, post, rfl, rfl, a, b⟩ := U.split
  have z := N (D, listOf vs.toArray n) (List.mem_append.mpr (.inr (.head _)))
  refine ki_setAt z.1 h0 (by omega) (by rw [List.size_toArray]; exact hk) (h _ (F.change (Heap.SameBut.update ..) z.2.1 z.2.2) (ki_turn _ N a b ?_ ?_))
  · show vs.toArray.setIfInBounds k.toNat v = (vs.set k.toNat v).toArray
    simp
  · simp
theorem finAll {h g h' : Heap} {L' : Addr} {all : Led} (st : ∀ b o, h.get? b = some o → b ∉ ([] : Led).map (·.1) → g.get? b = some o) (N : News g L' h' all) : ∀ q ∈ all, h'.get? q.1 = some q.2 ∧ h.get? q.1 = none :=
  fun q hq => ⟨(N _ hq).1, freshOf st N (o := q.2) hq (by simp)⟩
theorem PairsAre.rep {led : Led} {a : Nat} {x y : Int} {t u : Tok} (hm : (a, tup2 x t y u) ∈ led) (n : Nat) : PairsAre led (List.replicate n (.ref a)) (List.replicate n (x, y)) := by
  induction n with
  | zero => exact .nil
  | succ n ih => rw [List.replicate_succ, List.replicate_succ]; exact .cons hm ih
theorem fold_rep {v : Value} {k : Nat} {acc : Array Value} : List.foldl (fun x1 x2 => x1 ++ x2) acc (List.replicate k #[v]) = acc ++ (List.replicate k v).toArray := by
  induction k generalizing acc with
  | zero => simp
  | succ k ih => rw [List.replicate_succ, List.foldl_cons, ih, List.replicate_succ]; apply Array.toList_inj.mp; simp
theorem mul_one {l : Nat} {v : Value} {x : Int} {u : Tok} {Q : Value → Shared → Prop} (F : Fr h₀ L s.heap m) (N : News h₀ L s.heap news) (hm : (l, listOf #[v] n) ∈ news) (h0 : 0 ≤ x) (hx : x ≤ 1000000)
    (h : ∀ (D : Nat) h', Fr h₀ L h' m → News h₀ L h' ((D, listOf (List.replicate x.toNat v).toArray 0) :: news) → (∀ p ∈ news, p.1 < D) → Q (.ref D) { s with heap := h' }) :
    wpAny (model prog w) A (binaryOp .Mult (.ref l) (.int x u)) Q E s := by
  refine mul_list (items := #[v]) (k := n) F N (N _ hm).1 (by omega) (by omega) (by show 1 * x.toNat ≤ 2 ^ 24; omega) fun h' F' N' => h _ h' F' ?_ fun p hp => Heap.lt_size (N p hp).1
  have e : (List.foldl (fun x1 x2 => x1 ++ x2) #[] (List.replicate (if (#[v] : Array Value).isEmpty = true then 0 else x.toNat) #[v])) = (List.replicate x.toNat v).toArray := by
    rw [if_neg (by simp), fold_rep]; simp
  rw [e] at N'
  exact N'
theorem add_L {a b : Nat} {vs ws : List Value} {n2 : Nat} {Q : Value → Shared → Prop} (F : Fr h₀ L s.heap m) (N : News h₀ L s.heap news) (ha : (a, listOf vs.toArray n) ∈ news) (hb : (b, listOf ws.toArray n2) ∈ news) (hz1 : vs.length ≤ 1000000) (hz2 : ws.length ≤ 1000000)
    (h : ∀ (D : Nat) h', Fr h₀ L h' m → News h₀ L h' ((D, listOf (vs ++ ws).toArray 0) :: news) → (∀ p ∈ news, p.1 < D) → Q (.ref D) { s with heap := h' }) :
    wpAny (model prog w) A (binaryOp .Add (.ref a) (.ref b)) Q E s :=
  add_lists (hsz := by rw [sizeLine_eq]; omega) F N ⟨_, (N _ ha).1, rfl, n, rfl⟩ ⟨_, (N _ hb).1, rfl, n2, rfl⟩ fun h' F' N' => h _ h' F' N' fun p hp => Heap.lt_size (N p hp).1
end
-- RULES
local macro_rules | `(tactic| k_mem) => `(tactic| first | exact List.Mem.head _ | (refine' List.Mem.tail _ ?_; k_mem) | assumption)
local macro_rules | `(tactic| walk_at "truthy ref") => `(tactic| (k_here; k_dflt (first | refine truthy_snoc (by k_asm) (by k_mem) (by omega) ?_ | refine truthy_nil (by k_asm) (by k_mem) ?_); k_whole))
local macro_rules | `(tactic| walk_at "setItem ref int") => `(tactic| (k_here; k_dflt (first | refine set_last (by k_asm) (by k_asm) rfl (by k_upd) ?_ | refine set_at (by k_asm) (by k_asm) (by omega) (by omega) (by omega) (by k_upd) ?_); intro h' F' N'; (try k_sweep)))
local macro_rules | `(tactic| walk_at "binaryOp Mult ref int") => `(tactic| (k_here; k_dflt (refine mul_one (by k_asm) (by k_asm) (by k_mem) (by omega) (by omega) ?_); intro D' h' F' N' l1; (try k_sweep)))
local macro_rules | `(tactic| walk_at "binaryOp Add ref ref") => `(tactic| (k_here; k_dflt (refine add_L (by k_asm) (by k_asm) (by k_mem) (by k_mem) (by walk_at "len") (by walk_at "len") ?_); intro D' h' F' N' l1; (try k_sweep)))
local macro_rules | `(tactic| walk_at "subscriptTail") => `(tactic| (k_here; (with_reducible show wpAny _ _ (subscriptTail _ _ (Value.ref _) (Value.int _ _)) _ _ _); k_dflt (refine item_ints (by k_asm) (by k_mem) (by assumption) (by omega) (by omega) (by omega) ?_); intro t'))
-- END RULES


def runStep (acc : List (Int × Int)) (x : Int) : List (Int × Int) :=
  match acc.getLast? with
  | some p => if p.1 = x then acc.dropLast ++ [(x, p.2 + 1)] else acc ++ [(x, 1)]
  | none => acc ++ [(x, 1)]
def runsOf (row : List Int) : List (Int × Int) := row.foldl runStep []
theorem runStep_nil {x : Int} : runStep [] x = [(x, 1)] := rfl
theorem runStep_snoc {acc : List (Int × Int)} {y c x : Int} : runStep (acc ++ [(y, c)]) x = if y = x then acc ++ [(x, c + 1)] else acc ++ [(y, c)] ++ [(x, 1)] := by
  simp [runStep]
theorem pairs_snoc {led : Led} {ms : List Value} {init : List (Int × Int)} {z : Int × Int} (h : PairsAre led ms (init ++ [z])) : ∃ ms0 a t u, ms = ms0 ++ [.ref a] ∧ (a, tup2 z.1 t z.2 u) ∈ led ∧ PairsAre led ms0 init := by
  induction init generalizing ms with
  | nil =>
    cases h with
    | cons hm r => cases r; exact ⟨[], _, _, _, rfl, hm, .nil⟩
  | cons x xs ih =>
    cases h with
    | cons hm r =>
      obtain ⟨ms0, a, t, u, rfl, h1, h2⟩ := ih r
      exact ⟨_ :: ms0, a, t, u, rfl, h1, .cons hm h2⟩

theorem subEnd {a b c : Addr × Obj} {tl all : Led} (ha : a ∈ all) (hb : b ∈ all) (hc : c ∈ all) (ht : ∀ q ∈ tl, q ∈ all) : ∀ q ∈ a :: b :: c :: tl, q ∈ all := by
  intro q hq
  rcases List.mem_cons.mp hq with rfl | hq
  · exact ha
  · rcases List.mem_cons.mp hq with rfl | hq
    · exact hb
    · rcases List.mem_cons.mp hq with rfl | hq
      · exact hc
      · exact ht q hq
theorem offCons {a : Addr × Obj} {tl : Led} {d : Nat} (ha : a.1 ≠ d) (ht : ∀ q ∈ tl, q.1 ≠ d) : ∀ q ∈ a :: tl, q.1 ≠ d := by
  intro q hq
  rcases List.mem_cons.mp hq with rfl | hq
  · exact ha
  · exact ht q hq
theorem runs_spec {w : World} {A : Around} {h₀ : Heap} {L : Addr} {m : Str → Option Value} {s : Shared} {R : Result → Shared → Prop}
    {l : Nat} {vs : List Value} {row : List Int}
    (C : Cx w 550 A h₀ L) (F : Fr h₀ L s.heap m) (N : News h₀ L s.heap []) (hl : s.heap.IsList l vs.toArray) (hI : IntsAre vs row) (hlen : row.length ≤ 1000)
    (k : ∀ h' tk (a n : Nat) ws led, Same [] s.heap h' → s.heap.get? a = none → h'.get? a = some (listOf ws.toArray n) → (∀ q ∈ led, h'.get? q.1 = some q.2 ∧ s.heap.get? q.1 = none) → PairsAre led ws (runsOf row) →
      R (.ok (.ret (.ref a))) { s with heap := h', toks := tk }) :
    codeAny (model Challenge.rw_no0091_01.row.prog w) A (.call (.ref 22) ⟨[.ref l], []⟩) R s := by
  have hX := Cx.inX ‹Cx _ _ _ _ _›
  revert hX
  k_fill
  intro _
  refine' enterP2 ?zoC ?zoF ?zoN ?zok6 ?zok7 ?zok8 ?zok9 ?zokB ?_ ?zoc2 ?zoc3 ?zoc4 ?zoc5; (case zoC => assumption); (case zoF => assumption); (case zoN => assumption); (case zok6 => k_is); (case zok7 => k_is); (case zok8 => decide); (case zok9 => first | exact BindsTo.of_eq rfl | exact binds_K (by k_in) rfl (by k_is) rfl rfl rfl); (case zoc5 => decide); (case zokB => exact locs rfl); (case zoc2 => exact rfl); (case zoc3 => exact rfl); (case zoc4 => exact rfl)
  k_whole
  intro g1 L1 h1 tk1 d1 u1 fs1 gd1 gn1 dr1 os1 Q1 E1 lo1 me1 mg1 mb1 F1' N1' C1 X1 T1 hE1 hu1 st hQ hN
  (try dsimp only)
  have hlg : (_ : Heap).IsList l vs.toArray := hl.at fun o e => st _ o e (by simp)
  have hvl := hI.length
  all_goals k_steps
  refine Stop.mk ?_
  rename News _ _ _ _ => N1
  rename Fr _ _ _ _ => F1
  refine for_list (vs := vs) (fun i m nx => Stop (∃ (mk n3 : Nat) (ms : List Value) (tl : Led) (acc : List (Int × Int)), nx = (mk, listOf ms.toArray n3) :: tl ∧ Names m [(Str.ofString "lengths", .ref l), (Str.ofString "found", .ref mk)] ∧ (∀ q ∈ tl, q.1 ≠ mk) ∧ PairsAre tl ms acc ∧ acc.length ≤ i ∧ (row.drop i).foldl runStep acc = runsOf row)) rfl ?_ F1 N1 ?_ ?_ ?_ ?_ ?_
  · exact hlg.at fun o e => F1.keep _ o e
  · exact ⟨_, _, _, _, _, rfl, ⟨rfl, rfl, trivial⟩, (fun _ h => nomatch h), .nil, Nat.le_refl _, rfl⟩
  · intro i m₁ nx h _ F2 _
    exact hlg.at fun o e => F2.keep _ o e
  · intro I i v s' Q' E' _ _ hq
    exact goName hq
  · intro I i v oI m₁ nx h tk hi hv hJ off F2 N2 QQ hEnd hRet
    revert hJ
    refine stopE (ex5 fun mk n3 ms tl acc => and6 ?_)
    rintro rfl hm hoff hps hal hr
    have hi' : i < row.length := by rw [← hvl]; exact hi
    obtain ⟨t, hva⟩ := hI.get i (row[i]'hi') (by simp [hi'])
    rw [hva] at hv
    cases hv
    have hd := List.drop_eq_getElem_cons hi'
    rw [hd, List.foldl_cons] at hr
    generalize row[i] = x at *
    have F3 := frK hm F2
    clear F2 F1 N1 hm hd hva
    have hmsl := hps.length
    rcases List.eq_nil_or_concat acc with rfl | ⟨acc0, ⟨y, c⟩, rfl⟩
    · cases hps
      k_steps
      rename News _ _ _ _ => N4
      rename Fr _ _ _ _ => F4
      rw [runStep_nil] at hr
      refine' hEnd _ <| forEnd F4 N4 _ ?sub ?off ⟨mk, _, [.ref _], (_, _) :: tl, [(x, 1)], rfl, ⟨rfl, rfl, trivial⟩, ?off2, .cons (.head _) .nil, by simp, hr⟩
      (case sub => exact subEnd (by k_mem) (by k_mem) (by k_mem) (fun q hq => by repeat (first | exact hq | apply List.Mem.tail)))
      (case off => exact on1 ⟨by k_ne, by k_ne, off1 (fun q hq => off q (.tail _ hq))⟩)
      (case off2 => exact offCons (by k_ne) hoff)
    · rw [List.concat_eq_append] at *
      obtain ⟨ms0, a, t1, u1, rfl, hat, hps0⟩ := pairs_snoc hps
      simp only [List.length_append, List.length_singleton] at hmsl hal
      k_steps
      all_goals (
        rename News _ _ _ _ => N4
        rename Fr _ _ _ _ => F4
        rw [runStep_snoc] at hr)
      · rename (_ = x) => hyx
        rw [if_pos hyx] at hr
        refine' hEnd _ <| forEnd F4 N4 _ ?sub ?off ⟨mk, _, _, (_, _) :: tl, acc0 ++ [(x, c + 1)], rfl, ⟨rfl, rfl, trivial⟩, ?off2, (hps0.mono (fun _ h => .tail _ h)).append (.cons (.head _) .nil), by simp only [List.length_append, List.length_singleton]; omega, hr⟩
        (case sub => exact subEnd (by k_mem) (by k_mem) (by k_mem) (fun q hq => by repeat (first | exact hq | apply List.Mem.tail)))
        (case off => exact on1 ⟨by k_ne, by k_ne, off1 (fun q hq => off q (.tail _ hq))⟩)
        (case off2 => exact offCons (by k_ne) hoff)
      · rename (_ ≠ x) => hyx
        rw [if_neg hyx] at hr
        refine' hEnd _ <| forEnd F4 N4 _ ?sub ?off ⟨mk, _, _, (_, _) :: tl, (acc0 ++ [(y, c)]) ++ [(x, 1)], rfl, ⟨rfl, rfl, trivial⟩, ?off2, (hps.mono (fun _ h => .tail _ h)).append (.cons (.head _) .nil), by simp only [List.length_append, List.length_singleton]; omega, hr⟩
        (case sub => exact subEnd (by k_mem) (by k_mem) (by k_mem) (fun q hq => by repeat (first | exact hq | apply List.Mem.tail)))
        (case off => exact on1 ⟨by k_ne, by k_ne, off1 (fun q hq => off q (.tail _ hq))⟩)
        (case off2 => exact offCons (by k_ne) hoff)
  · intro m₁ nx h tk hJ F2 N2
    revert hJ
    refine stopE (ex5 fun mk n3 ms tl acc => and6 ?_)
    rintro rfl hm hoff hps hal hr
    rw [hvl, List.drop_length] at hr
    obtain rfl : acc = runsOf row := hr
    have F3 := frK hm F2
    clear F2 F1 N1 hm
    k_steps
    rename News _ _ _ _ => N4
    refine hQ _ _ _ ?_
    exact k _ _ _ _ _ _ (sameOf st F3) (freshOf st N4 (.head _) (by simp)) (N4.get (.head _)) (fun q hq => ⟨(N4 _ (.tail _ hq)).1, freshOf st N4 (o := q.2) (.tail _ hq) (by simp)⟩) hps


noncomputable def gz (n : Nat) : List (Int × Int) :=
  if h : 11 ≤ n then (18, ((min n 138 : Nat) : Int) - 11) :: gz (n - min n 138) else if 3 ≤ n then [(17, (n : Int) - 3)] else List.replicate n (0, 0)
termination_by n
decreasing_by omega
noncomputable def gc (x : Int) (n : Nat) : List (Int × Int) :=
  if h : 3 ≤ n then (16, ((min n 6 : Nat) : Int) - 3) :: gc x (n - min n 6) else List.replicate n (x, 0)
termination_by n
decreasing_by omega
noncomputable def greedy (x : Int) (n : Nat) : List (Int × Int) := if x = 0 then gz n else (x, 0) :: gc x (n - 1)

theorem sub2 {a b : Addr × Obj} {tl all : Led} (ha : a ∈ all) (hb : b ∈ all) (ht : ∀ q ∈ tl, q ∈ all) : ∀ q ∈ a :: b :: tl, q ∈ all := by
  intro q hq
  rcases List.mem_cons.mp hq with rfl | hq
  · exact ha
  · rcases List.mem_cons.mp hq with rfl | hq
    · exact hb
    · exact ht q hq
theorem greedy_spec {w : World} {A : Around} {h₀ : Heap} {L : Addr} {m : Str → Option Value} {s : Shared} {R : Result → Shared → Prop}
    {x : Int} {n : Nat} {tx tn : Tok}
    (C : Cx w 550 A h₀ L) (F : Fr h₀ L s.heap m) (N : News h₀ L s.heap []) (hn : 1 ≤ n) (hn2 : n ≤ 1000)
    (k : ∀ h' tk (a n1 : Nat) ws led, Same [] s.heap h' → s.heap.get? a = none → h'.get? a = some (listOf ws.toArray n1) → (∀ q ∈ led, h'.get? q.1 = some q.2 ∧ s.heap.get? q.1 = none) → PairsAre led ws (greedy x n) →
      R (.ok (.ret (.ref a))) { s with heap := h', toks := tk }) :
    codeAny (model Challenge.rw_no0091_01.row.prog w) A (.call (.ref 29) ⟨[.int x tx, .int (n : Int) tn], []⟩) R s := by
  have hX := Cx.inX ‹Cx _ _ _ _ _›
  revert hX
  k_fill
  intro _
  refine' enterP2 ?zoC ?zoF ?zoN ?zok6 ?zok7 ?zok8 ?zok9 ?zokB ?_ ?zoc2 ?zoc3 ?zoc4 ?zoc5; (case zoC => assumption); (case zoF => assumption); (case zoN => assumption); (case zok6 => k_is); (case zok7 => k_is); (case zok8 => decide); (case zok9 => first | exact BindsTo.of_eq rfl | exact binds_K (by k_in) rfl (by k_is) rfl rfl rfl); (case zoc5 => decide); (case zokB => exact locs rfl); (case zoc2 => exact rfl); (case zoc3 => exact rfl); (case zoc4 => exact rfl)
  k_whole
  intro g1 L1 h1 tk1 d1 u1 fs1 gd1 gn1 dr1 os1 Q1 E1 lo1 me1 mg1 mb1 F1' N1' C1 X1 T1 hE1 hu1 st hQ hN
  (try dsimp only)
  by_cases hx : x = 0
  · subst hx
    k_steps
    refine Stop.mk ?_
    rename News _ _ _ _ => N1
    rename Fr _ _ _ _ => F1
    refine while_rule (fun k m nx => Stop (∃ (mk n3 : Nat) (ms : List Value) (ps : List (Int × Int)) (tl : Led) (lf : Int) (tl0 : Tok), nx = (mk, listOf ms.toArray n3) :: tl ∧ Names m [(Str.ofString "length", .int 0 tx), (Str.ofString "found", .ref mk), (Str.ofString "left", .int lf tl0)] ∧ lf = (k : Int) ∧
      (∀ q ∈ tl, q.1 ≠ mk) ∧ PairsAre tl ms ps ∧ ps ++ gz k = gz n ∧ ps.length + k ≤ n)) n F1 N1 ?_ ?_
    · exact ⟨_, _, [], [], [], _, _, rfl, ⟨rfl, rfl, rfl, trivial⟩, rfl, (fun _ h => nomatch h), .nil, rfl, by simp⟩
    intro kk m₁ nx h tk F2 N2 hJ QQ hEnd hRet
    revert hJ
    refine stopE (ex7 fun mk n3 ms ps tl lf tl0 => and7 ?_)
    rintro rfl hm rfl hoff hps hg hpl
    have F3 := frK hm F2
    clear F2 F1 N1 hm
    have hml := hps.length
    k_steps
    · rename News _ _ _ _ => N4
      rename Fr _ _ _ _ => F4
      rename (11 ≤ _) => h11
      have h11' : 11 ≤ kk := by omega
      rw [gz, dif_pos h11'] at hg
      refine' hEnd _ <| whEnd F4 N4 _ ?sub (j := kk - min kk 138) ?lt ⟨mk, _, _, ps ++ [(_, _)], (_, _) :: tl, _, _, rfl, ⟨rfl, rfl, rfl, trivial⟩, ?pl, ?off, (hps.mono (fun _ h => .tail _ h)).append (.cons (.head _) .nil), ?g, ?len1⟩
      (case sub => exact sub2 (by k_mem) (by k_mem) (fun q hq => by repeat (first | exact hq | apply List.Mem.tail)))
      (case lt => omega)
      (case pl => split <;> omega)
      (case off => exact offCons (by k_ne) hoff)
      (case g => rw [show ((if (138 : Int) < (kk : Int) then (138 : Int) else (kk : Int)) - 11) = ((min kk 138 : Nat) : Int) - 11 from by split <;> omega, List.append_assoc]; exact hg)
      (case len1 => rw [List.length_append, List.length_singleton]; omega)
    · rename News _ _ _ _ => N4
      rename Fr _ _ _ _ => F4
      rename (¬ _) => h11
      rename (3 ≤ _) => h3
      have h11' : ¬ 11 ≤ kk := by omega
      have h3' : 3 ≤ kk := by omega
      rw [gz, dif_neg h11', if_pos h3'] at hg
      have e : greedy 0 n = ps ++ [(17, (kk : Int) - 3)] ++ List.replicate (Int.toNat 0) (0, 0) := by
        unfold greedy; rw [if_pos rfl, ← hg]; simp
      rw [e] at k
      refine hQ _ _ _ ?_
      refine k _ _ _ _ _ _ (sameOf st F4) (freshOf st N4 (.head _) (by simp)) (N4.get (.head _)) (finAll st N4) ?_
      exact ((hps.mono (fun q hq => by repeat (first | exact hq | apply List.Mem.tail))).append (.cons (by k_mem) .nil)).append (PairsAre.rep (by k_mem) _)
    · rename News _ _ _ _ => N4
      rename Fr _ _ _ _ => F4
      have h11' : ¬ 11 ≤ kk := by omega
      have h3' : ¬ 3 ≤ kk := by omega
      rw [gz, dif_neg h11', if_neg h3'] at hg
      have e : greedy 0 n = ps ++ List.replicate ((kk : Int).toNat) (0, 0) := by
        unfold greedy; rw [if_pos rfl, ← hg]; simp
      rw [e] at k
      refine hQ _ _ _ ?_
      refine k _ _ _ _ _ _ (sameOf st F4) (freshOf st N4 (.head _) (by simp)) (N4.get (.head _)) (finAll st N4) ?_
      exact (hps.mono (fun q hq => by repeat (first | exact hq | apply List.Mem.tail))).append (PairsAre.rep (by k_mem) _)
  · k_steps
    · exact absurd (by assumption) hx
    refine Stop.mk ?_
    rename News _ _ _ _ => N1
    rename Fr _ _ _ _ => F1
    refine while_rule (fun k m nx => Stop (∃ (mk n3 : Nat) (ms : List Value) (ps : List (Int × Int)) (tl : Led) (lf : Int) (tl0 : Tok), nx = (mk, listOf ms.toArray n3) :: tl ∧ Names m [(Str.ofString "length", .int x tx), (Str.ofString "found", .ref mk), (Str.ofString "left", .int lf tl0)] ∧ lf = (k : Int) ∧
      (∀ q ∈ tl, q.1 ≠ mk) ∧ PairsAre tl ms ps ∧ ps ++ gc x k = greedy x n ∧ ps.length + k ≤ n)) (n - 1) (nx₀ := [(_, listOf [_].toArray 1), (_, _)]) F1 (fun p hp => N1 p (by
        rcases List.mem_cons.mp hp with rfl | hp
        · k_mem
        · rw [List.mem_singleton.mp hp]; k_mem)) ?_ ?_
    ·
      refine ⟨_, _, [.ref _], [(x, 0)], [(_, _)], _, _, rfl, ⟨rfl, rfl, rfl, trivial⟩, by omega, ?_, .cons (.head _) .nil, ?_, ?_⟩
      · exact offCons (by k_ne) (fun _ h => nomatch h)
      · unfold greedy; rw [if_neg hx]; rfl
      · show 1 + (n - 1) ≤ n; omega
    intro kk m₁ nx h tk F2 N2 hJ QQ hEnd hRet
    revert hJ
    refine stopE (ex7 fun mk n3 ms ps tl lf tl0 => and7 ?_)
    rintro rfl hm rfl hoff hps hg hpl
    have F3 := frK hm F2
    clear F2 F1 N1 hm
    have hml := hps.length
    k_steps
    · rename News _ _ _ _ => N4
      rename Fr _ _ _ _ => F4
      rename (3 ≤ _) => h11
      have h11' : 3 ≤ kk := by omega
      rw [gc, dif_pos h11'] at hg
      refine' hEnd _ <| whEnd F4 N4 _ ?sub (j := kk - min kk 6) ?lt ⟨mk, _, _, ps ++ [(_, _)], (_, _) :: tl, _, _, rfl, ⟨rfl, rfl, rfl, trivial⟩, ?pl, ?off, (hps.mono (fun _ h => .tail _ h)).append (.cons (.head _) .nil), ?g, ?len1⟩
      (case sub => exact sub2 (by k_mem) (by k_mem) (fun q hq => by repeat (first | exact hq | apply List.Mem.tail)))
      (case lt => omega)
      (case pl => split <;> omega)
      (case off => exact offCons (by k_ne) hoff)
      (case g => rw [show ((if (6 : Int) < (kk : Int) then (6 : Int) else (kk : Int)) - 3) = ((min kk 6 : Nat) : Int) - 3 from by split <;> omega, List.append_assoc]; exact hg)
      (case len1 => rw [List.length_append, List.length_singleton]; omega)
    · rename News _ _ _ _ => N4
      rename Fr _ _ _ _ => F4
      have h3' : ¬ 3 ≤ kk := by omega
      rw [gc, dif_neg h3'] at hg
      have e : greedy x n = ps ++ List.replicate ((kk : Int).toNat) (x, 0) := by
        rw [← hg]; simp
      rw [e] at k
      refine hQ _ _ _ ?_
      refine k _ _ _ _ _ _ (sameOf st F4) (freshOf st N4 (.head _) (by simp)) (N4.get (.head _)) (finAll st N4) ?_
      exact (hps.mono (fun q hq => by repeat (first | exact hq | apply List.Mem.tail))).append (PairsAre.rep (by k_mem) _)


theorem newsDrop2 {h₀ h : Heap} {L : Addr} {x y : Addr × Obj} {r : Led} (N : News h₀ L h (x :: y :: r)) : News h₀ L h (x :: r) := by
  intro p hp
  rcases List.mem_cons.mp hp with rfl | hp
  · exact N _ (.head _)
  · exact N _ (.tail _ (.tail _ hp))
def ways (row P b : List Int) (p n : Nat) : List Int :=
  [P.getD (row.getD p 0).toNat 0 + b.getD (p + 1) 0]
  ++ (if 0 < p ∧ row.getD (p - 1) 0 = row.getD p 0 then (List.range (min 6 n - 2)).map (fun j => P.getD 16 0 + 2 + b.getD (p + (3 + j)) 0) else [])
  ++ (if row.getD p 0 = 0 then (List.range (min 10 n - 2)).map (fun j => P.getD 17 0 + 3 + b.getD (p + (3 + j)) 0) ++ (List.range (min 138 n - 10)).map (fun j => P.getD 18 0 + 7 + b.getD (p + (11 + j)) 0) else [])
def IsMin (v : Int) (l : List Int) : Prop := v ∈ l ∧ ∀ x ∈ l, v ≤ x
abbrev IsMin.v {v : Int} {l : List Int} (_ : IsMin v l) : Int := v
theorem IsMin.eq {v : Int} {l l' : List Int} (h : IsMin v l) (e : l' = l) : IsMin v l' := e ▸ h
theorem IsMin.mk {v : Int} {l : List Int} (a : v ∈ l) (b : ∀ x, x ∈ l → v ≤ x) : IsMin v l := ⟨a, b⟩
def Best (row P b : List Int) (p : Nat) : Prop := ∃ n, Alike row p n ∧ IsMin (b.getD p 0) (ways row P b p n)


theorem getD_set_ne {b : List Int} {p q : Nat} {v : Int} (h : p ≠ q) : (b.set p v).getD q 0 = b.getD q 0 := by
  rw [List.getD_eq_getElem?_getD, List.getD_eq_getElem?_getD, List.getElem?_set_ne h]
theorem getD_set_eq {b : List Int} {p : Nat} {v : Int} (h : p < b.length) : (b.set p v).getD p 0 = v := by
  rw [List.getD_eq_getElem?_getD, List.getElem?_set_self h]; rfl
theorem ways_set {row P b : List Int} {p q n : Nat} {v : Int} (h : p ≤ q) : ways row P (b.set p v) q n = ways row P b q n := by
  unfold ways
  rw [getD_set_ne (by omega : p ≠ q + 1)]
  have e3 : ∀ j, (b.set p v).getD (q + (3 + j)) 0 = b.getD (q + (3 + j)) 0 := fun j => getD_set_ne (by omega)
  have e11 : ∀ j, (b.set p v).getD (q + (11 + j)) 0 = b.getD (q + (11 + j)) 0 := fun j => getD_set_ne (by omega)
  simp only [e3, e11]
theorem Best.step {row P b : List Int} {p n : Nat} {v : Int} (hb : p < b.length) (hB : ∀ q, q < row.length → p < q → Best row P b q) (hA : Alike row p n) (hm : IsMin v (ways row P b p n)) :
    ∀ q, q < row.length → p ≤ q → Best row P (b.set p v) q := by
  intro q hq hpq
  rcases Nat.lt_or_eq_of_le hpq with h | rfl
  · obtain ⟨n', a', m'⟩ := hB q hq h
    exact ⟨n', a', by rw [getD_set_ne (by omega), ways_set hpq]; exact m'⟩
  · exact ⟨n, hA, by rw [getD_set_eq hb, ways_set (Nat.le_refl _)]; exact hm⟩
theorem IntsAre.rep {t : Tok} {x : Int} (n : Nat) : IntsAre (List.replicate n (.int x t)) (List.replicate n x) := by
  induction n with
  | zero => exact .nil
  | succ n ih => rw [List.replicate_succ, List.replicate_succ]; exact .cons _ _ ih
theorem IntsAre.setAt {vs : List Value} {ns : List Int} (h : IntsAre vs ns) (x : Int) (t : Tok) : ∀ i, IntsAre (vs.set i (.int x t)) (ns.set i x) := by
  induction h with
  | nil => intro i; exact .nil
  | cons y u _ ih =>
    intro i
    cases i with
    | zero => exact .cons _ _ (by assumption)
    | succ i => exact .cons _ _ (ih i)
section
variable {prog : Program} {w : World} {A : Around} {E : Value → Shared → Prop} {s : Shared} {h₀ : Heap} {L : Addr} {m : Str → Option Value} {news : Led}
theorem min_L {l n : Nat} {vs : List Value} {ns : List Int} {Q : Value → Shared → Prop} (F : Fr h₀ L s.heap m) (N : News h₀ L s.heap news) (hm : (l, listOf vs.toArray n) ∈ news) (hi : IntsAre vs ns) (hne : 0 < ns.length) (hh : A.handled = none)
    (h : ∀ h' M (t : Tok) tk, Fr h₀ L h' m → News h₀ L h' news → IsMin M ns → Q (.int M t) { s with heap := h', toks := tk }) : wpAny (model prog w) A (call (.builtin "min") [.ref l]) Q E s :=
  min_list_N hh F N ⟨_, (N _ hm).1, rfl, n, rfl⟩ hi hne fun h' M t tk F' N' a b => h h' M t tk F' N' ⟨a, b⟩
end
theorem fwEnd {g1 h' : Heap} {L1 : Addr} {m' : Str → Option Value} {all : Led} {I : Nat} {oI : Obj} {gn : Array GenState} {dr : Drawn} {os : OsState} {tk : Nat} {D l a1 a2 a3 i p n : Nat} {op' ob o3 : Obj} {row P b : List Int} {bs : List Value} {val : Option Value}
    (F : Fr g1 L1 h' m') (N : News g1 L1 h' all) (M : Int) (t' : Tok) (n3' : Nat)
    (sub : ∀ q ∈ (I, oI) :: (D, listOf (bs.set p (.int M t')).toArray n3') :: (a1, op') :: (a2, ob) :: (a3, o3) :: [], q ∈ all)
    (off : LCg.Off1 I [(D, listOf (bs.set p (.int M t')).toArray n3'), (a1, op'), (a2, ob), (a3, o3)])
    (hop : op'.data = Data.cell val) (hm : Names m' [(Str.ofString "row", .ref l)]) (hbs : IntsAre bs b) (hbl : b.length = row.length + 1) (hb0 : b.getD row.length 0 = 0)
    (hB : ∀ p, p < row.length → row.length - i ≤ p → Best row P b p) (hp : p < row.length) (hpi : ((row.length : Nat) : Int) - 1 + (i : Int) * -1 = (p : Int)) (hA : Alike row p n) (hM : IsMin M (ways row P b p n)) :
    Stop (∃ h'' tk_1 m'' nx, (⟨h', gn, dr, tk, os⟩ : Shared) = ⟨h'', gn, dr, tk_1, os⟩ ∧ Fr g1 L1 h'' m'' ∧ News g1 L1 h'' ((I, oI) :: nx) ∧ (∀ q ∈ nx, q.1 ≠ I) ∧
      Stop (∃ (op : Obj) (val : Option Value) (n3 : Nat) (bs : List Value) (b : List Int), nx = (D, listOf bs.toArray n3) :: (a1, op) :: (a2, ob) :: (a3, o3) :: [] ∧ op.data = .cell val ∧ Names m'' [(Str.ofString "row", .ref l)] ∧ IntsAre bs b ∧ b.length = row.length + 1 ∧ b.getD row.length 0 = 0 ∧ (∀ p, p < row.length → row.length - (i + 1) ≤ p → Best row P b p))) := by
  refine forEnd F N _ sub (on1 off) ⟨_, _, _, _, b.set p M, rfl, hop, hm, IntsAre.setAt hbs _ _ _, ?_, ?_, ?_⟩
  · rw [List.length_set, hbl]
  · rw [getD_set_ne (by omega)]; exact hb0
  · intro q hq hq'
    exact Best.step (by omega) (fun q' h1 h2 => hB q' h1 (by omega)) hA hM q hq (by omega)
def ways1 (row P b : List Int) (p n : Nat) : List Int :=
  [P.getD (row.getD p 0).toNat 0 + b.getD (p + 1) 0] ++ (if 0 < p ∧ row.getD (p - 1) 0 = row.getD p 0 then (List.range (min 6 n - 2)).map (fun j => P.getD 16 0 + 2 + b.getD (p + (3 + j)) 0) else [])
section
variable {row P b z1 z2 z3 : List Int} {p n : Nat}
theorem w1T (h0 : 0 < ((p : Nat) : Int)) (h1 : row.getD (((p : Nat) : Int) - 1).toNat 0 = row.getD (((p : Nat) : Int)).toNat 0) (e1 : z1 = (List.range (min 6 n - (3 - 1))).map (fun j => P.getD 16 0 + 2 + b.getD (p + (3 + j)) 0)) :
    ways1 row P b p n = [P.getD (row.getD (((p : Nat) : Int)).toNat 0).toNat 0 + b.getD (((p : Nat) : Int) + 1).toNat 0] ++ z1 := by
  subst e1
  have ea : (((p : Nat) : Int) + 1).toNat = p + 1 := rfl
  have eb : (((p : Nat) : Int) - 1).toNat = p - 1 := Int.toNat_sub' _ _
  simp only [Int.toNat_natCast, eb, ea] at *
  unfold ways1
  rw [if_pos (⟨Int.natCast_pos.mp h0, h1⟩ : 0 < p ∧ row.getD (p - 1) 0 = row.getD p 0)]
theorem w1F (h : ¬ (0 < ((p : Nat) : Int)) ∨ row.getD (((p : Nat) : Int) - 1).toNat 0 ≠ row.getD (((p : Nat) : Int)).toNat 0) :
    ways1 row P b p n = [P.getD (row.getD (((p : Nat) : Int)).toNat 0).toNat 0 + b.getD (((p : Nat) : Int) + 1).toNat 0] := by
  have ea : (((p : Nat) : Int) + 1).toNat = p + 1 := rfl
  have eb : (((p : Nat) : Int) - 1).toNat = p - 1 := Int.toNat_sub' _ _
  simp only [Int.toNat_natCast, eb, ea] at *
  unfold ways1
  rw [if_neg (fun q => h.elim (fun a => a (Int.natCast_pos.mpr q.1)) (fun a => a q.2) : ¬ (0 < p ∧ row.getD (p - 1) 0 = row.getD p 0))]
  rfl
theorem w2T (h2 : row.getD (((p : Nat) : Int)).toNat 0 = 0) (e2 : z2 = (List.range (min 10 n - (3 - 1))).map (fun j => P.getD 17 0 + 3 + b.getD (p + (3 + j)) 0)) (e3 : z3 = (List.range (min 138 n - (11 - 1))).map (fun j => P.getD 18 0 + 7 + b.getD (p + (11 + j)) 0)) :
    ways row P b p n = (ways1 row P b p n ++ z2) ++ z3 := by
  subst e2 e3
  rw [Int.toNat_natCast] at h2
  unfold ways ways1
  rw [if_pos h2]
  simp only [List.append_assoc]
theorem w2F (h2 : row.getD (((p : Nat) : Int)).toNat 0 ≠ 0) : ways row P b p n = ways1 row P b p n := by
  rw [Int.toNat_natCast] at h2
  unfold ways ways1
  rw [if_neg h2, List.append_nil]
theorem ways1_len : (ways1 row P b p n).length ≤ 10 := by
  unfold ways1
  split
  · rw [List.length_append, List.length_map, List.length_range, List.length_singleton]; omega
  · exact (by decide : 1 ≤ 10)
theorem ways_pos : 0 < (ways row P b p n).length := by
  unfold ways
  rw [List.append_assoc, List.length_append]; exact Nat.lt_of_lt_of_le Nat.zero_lt_one (Nat.le_add_right _ _)
end
theorem rng_small {n hi lo : Nat} (h1 : lo ≤ 200) (h2 : hi ≤ 200) : Builtin.Range.small (lo : Int) ((if (n : Int) < (hi : Int) then (n : Int) else (hi : Int)) + 1) 1 = true := by
  refine small_one (by omega) (by omega) ?_ ?_ <;> split <;> omega
theorem rng_sz {n lo : Nat} (h : 1 ≤ lo) : Builtin.Range.rangeSize (lo : Int) ((n : Int) + 1) 1 = ((n - (lo - 1) : Nat) : Int) := by
  rw [rangeSize_nat]; omega
theorem rng_size (n hi : Nat) {lo : Nat} (h : 1 ≤ lo) : Builtin.Range.rangeSize (lo : Int) ((if (n : Int) < (hi : Int) then (n : Int) else (hi : Int)) + 1) 1 = ((min hi n - (lo - 1) : Nat) : Int) := by
  rcases Nat.lt_or_ge n hi with h2 | h2
  · rw [if_pos (Int.ofNat_lt.mpr h2), Nat.min_eq_right (Nat.le_of_lt h2), rng_sz h]
  · rw [if_neg (fun q => Nat.not_lt.mpr h2 (Int.ofNat_lt.mp q)), Nat.min_eq_left h2, rng_sz h]
theorem rng_few {n hi lo : Nat} (h : hi ≤ 200) : min hi n - (lo - 1) ≤ 1000000 := by omega
theorem rng_lt {n hi lo i p k : Nat} (h : i < min hi n - (lo - 1)) (hb : p + n ≤ k) : p + (lo + i) ≤ k := by omega
/-- where the two ifs of a turn come together: the ways told so far stand in a list of their own -/
def FwJ (g1 : Heap) (L1 : Addr) (gn : Array GenState) (dr : Drawn) (os : OsState) (l D n n3 p I : Nat) (oI ob o3 : Obj) (bs : List Value) (Z : List Int) (s' : Shared) : Prop :=
  Stop (∃ (h : Heap) (tk wl nw : Nat) (m : Str → Option Value) (tm tv : Tok) (op : Obj) (ws : List Value), s' = ⟨h, gn, dr, tk, os⟩ ∧ Fr g1 L1 h m ∧ Names m [(Str.ofString "row", .ref l), (Str.ofString "many", .int (n : Int) tm), (Str.ofString "ways", .ref wl)] ∧
    News g1 L1 h ((wl, listOf ws.toArray nw) :: (I, oI) :: (D, listOf bs.toArray n3) :: (L1 + 1 + 1 + 1, op) :: (L1 + 1 + 1, ob) :: (L1 + 1, o3) :: []) ∧ op.data = .cell (some (.int (p : Int) tv)) ∧
    (∀ q ∈ (I, oI) :: (D, listOf bs.toArray n3) :: (L1 + 1 + 1 + 1, op) :: (L1 + 1 + 1, ob) :: (L1 + 1, o3) :: [], q.1 < wl) ∧ IntsAre ws Z)
theorem FwJ.mk {g1 h : Heap} {L1 : Addr} {gn : Array GenState} {dr : Drawn} {os : OsState} {l D n n3 p I tk wl nw : Nat} {oI ob o3 op : Obj} {bs ws : List Value} {Z Z' : List Int} {all led : Led} {m : Str → Option Value} {tm tv : Tok}
    (F : Fr g1 L1 h m) (N : News g1 L1 h all) (sub : ∀ q ∈ (wl, listOf ws.toArray nw) :: (I, oI) :: (D, listOf bs.toArray n3) :: (L1 + 1 + 1 + 1, op) :: (L1 + 1 + 1, ob) :: (L1 + 1, o3) :: [], q ∈ all)
    (hm : Names m [(Str.ofString "row", .ref l), (Str.ofString "many", .int (n : Int) tm), (Str.ofString "ways", .ref wl)]) (hop : op.data = .cell (some (.int (p : Int) tv)))
    (hw : ∀ q ∈ led, q.1 < wl) (sub2 : ∀ q ∈ (I, oI) :: (D, listOf bs.toArray n3) :: (L1 + 1 + 1 + 1, op) :: (L1 + 1 + 1, ob) :: (L1 + 1, o3) :: [], q ∈ led) (hi : IntsAre ws Z) (e : Z' = Z) :
    FwJ g1 L1 gn dr os l D n n3 p I oI ob o3 bs Z' ⟨h, gn, dr, tk, os⟩ :=
  ⟨h, tk, wl, nw, m, tm, tv, op, ws, rfl, F, hm, fun q hq => N q (sub q hq), hop, fun q hq => hw q (sub2 q hq), e ▸ hi⟩
theorem subCons {a : Addr × Obj} {r all : Led} (ha : a ∈ all) (hr : ∀ q ∈ r, q ∈ all) : ∀ q ∈ a :: r, q ∈ all := by
  intro q hq
  rcases List.mem_cons.mp hq with rfl | hq
  · exact ha
  · exact hr q hq
theorem subNil {all : Led} : ∀ q ∈ ([] : Led), q ∈ all := fun _ h => nomatch h
-- RULES
local macro_rules | `(tactic| walk_at "FinE") => `(tactic| ((unfold LCg.FinE); intro D' h' tk' F' N' o1'; (replace o1' := on1 o1'); (try simp only [List.nil_append, List.cons_append] at N'); (try dsimp only)))
local macro_rules | `(tactic| walk_at "call builtin:min") => `(tactic| (k_here; (with_reducible show wpAny _ _ (call (Value.builtin _) [Value.ref _]) _ _ _); refine stop ?_))
local macro_rules | `(tactic| walk_at "exec If") => `(tactic| (k_here; (with_reducible show wpAny _ _ (exec (Stmt.If _ (Stmt.Assign [Expr.Name (PySem.Str.ofString "ways") _] _ _ :: _) _ _) _) _ _ _); refine stop ?_))
-- END RULES
theorem fewest_spec {w : World} {A : Around} {h₀ : Heap} {L : Addr} {m : Str → Option Value} {s : Shared} {R : Result → Shared → Prop}
    {l pl : Nat} {vs pvs : List Value} {row P : List Int}
    (C : Cx w 550 A h₀ L) (F : Fr h₀ L s.heap m) (N : News h₀ L s.heap []) (hl : s.heap.IsList l vs.toArray) (hI : IntsAre vs row) (hlen : row.length ≤ 400) (h15 : ∀ x, x ∈ row → 0 ≤ x ∧ x ≤ 15)
    (hpl : s.heap.IsList pl pvs.toArray) (hP : IntsAre pvs P) (hP19 : P.length = 19)
    (k : ∀ h' tk (b : List Int) t, Same [] s.heap h' → b.length = row.length + 1 → b.getD row.length 0 = 0 → (∀ p, p < row.length → Best row P b p) → R (.ok (.ret (.int (b.getD 0 0) t))) { s with heap := h', toks := tk }) :
    codeAny (model Challenge.rw_no0091_01.row.prog w) A (.call (.ref 146) ⟨[.ref l, .ref pl], []⟩) R s := by
  have hX := Cx.inX ‹Cx _ _ _ _ _›
  revert hX
  k_fill
  intro _
  refine' enterC2 ?zoC ?zoF ?zoN ?zok6 ?zok7 ?zok8 ?zok9 ?zokB ?zokD ?_ ?zoc2 ?zoc3 ?zoc4; (case zoC => assumption); (case zoF => assumption); (case zoN => assumption); (case zok6 => k_is); (case zok7 => k_is); (case zok8 => decide); (case zok9 => first | exact BindsTo.of_eq rfl | exact binds_K (by k_in) rfl (by k_is) rfl rfl rfl); (case zokB => exact rfl); (case zokD => decide +kernel); (case zoc2 => exact rfl); (case zoc3 => exact rfl); (case zoc4 => exact rfl)
  k_whole
  intro g1 L1 h1 tk1 d9 u9 fs1 gd1 gn1 dr1 os1 Q1 E1 lo1 me1 mg1 mb1 cells' F1' N' Y' C1 X1 T1 hE1 hu1 l1 st hQ hN
  replace l1 := allLt_of l1
  simp only [AllLt, and_true] at l1
  k_cells Y'
  (try simp only [List.cons_append, List.nil_append] at N')
  (try dsimp only)
  rename_i o1 o2 o3 d1' d2' d3'
  have d1 : o1.data = .cell none := d1'
  have d2 : o2.data = .cell none := d2'
  have d3 : o3.data = .cell (some (.ref pl)) := d3'
  clear d1' d2' d3' l1
  rename Fr _ _ _ _ => F0
  refine frN (ps := [(Str.ofString "row", .ref l)]) F0 ⟨rfl, trivial⟩ ?_
  clear F0
  intro m0 F0
  have hlg : (_ : Heap).IsList l vs.toArray := hl.at fun o e => st _ o e (by simp)
  have hplg : (_ : Heap).IsList pl pvs.toArray := hpl.at fun o e => st _ o e (by simp)
  all_goals k_steps
  refine Stop.mk ?_
  rename News _ _ _ _ => N1
  rename Fr _ _ _ _ => F1
  rename IsRange _ _ _ _ _ _ _ _ => hr1
  obtain ⟨D, ob, op0, tk0, N1', hob, val0, hop0, hD1, hD2, hD3⟩ : ∃ (D : Nat) (ob op : Obj) (tk0 : Tok), News g1 L1 _ [(D, listOf (List.replicate (((row.length : Nat) : Int) + 1).toNat (.int 0 tk0)).toArray 0), (L1 + 1 + 1 + 1, op), (L1 + 1 + 1, ob), (L1 + 1, o3)] ∧ ob.data = .cell (some (.ref D)) ∧ (∃ val, op.data = .cell val ∧
      L1 + 1 + 1 + 1 < D ∧ L1 + 1 + 1 < D ∧ L1 + 1 < D) := ⟨_, _, _, _, newsDrop2 N1, by assumption, _, by assumption, ltOld (by assumption) (by k_mem), ltOld (by assumption) (by k_mem), ltOld (by assumption) (by k_mem)⟩
  clear N1
  refine for_range (fun i m nx => Stop (∃ (op : Obj) (val : Option Value) (n3 : Nat) (bs : List Value) (b : List Int), nx = (D, listOf bs.toArray n3) :: (L1 + 1 + 1 + 1, op) :: (L1 + 1 + 1, ob) :: (L1 + 1, o3) :: [] ∧ op.data = .cell val ∧ Names m [(Str.ofString "row", .ref l)] ∧ IntsAre bs b ∧ b.length = row.length + 1 ∧ b.getD row.length 0 = 0 ∧ (∀ p, p < row.length → row.length - i ≤ p → Best row P b p))) rfl hr1
    (small_down (by omega) (by omega) (by decide) (by decide)) (rangeSize_downNat _ _) F1 N1' ?h0 ?turn ?done
  case h0 =>
    refine ⟨_, _, _, List.replicate (((row.length : Nat) : Int) + 1).toNat (.int 0 _), List.replicate (((row.length : Nat) : Int) + 1).toNat 0, rfl, hop0, ⟨rfl, trivial⟩, IntsAre.rep _, ?_, ?_, ?_⟩
    · rw [List.length_replicate]; omega
    · rw [List.getD_eq_getElem?_getD, List.getElem?_replicate]; split <;> rfl
    · intro p hp hp'
      exact absurd hp' (by omega)
  case turn =>
    intro I i t oI m₁ nx h tk hi hJ off F2 N2 QQ hEnd hRet
    revert hJ
    refine stopE (ex5 fun op val n3 bs b => and7 ?_)
    rintro rfl hop hm hbs hbl hb0 hB
    have hbsl := hbs.length
    have F3 := frK hm F2
    clear F2 F1 N1' hr1 hm
    obtain ⟨p, hp⟩ : ∃ p : Nat, ((row.length : Nat) : Int) - 1 + (i : Int) * -1 = (p : Int) := ⟨row.length - 1 - i, by omega⟩
    have hplt : p < row.length := by omega
    rw [hp]
    have hx : 0 ≤ row.getD p 0 ∧ row.getD p 0 ≤ 15 := h15 _ (by rw [List.getD_eq_getElem?_getD]; simp [hplt])
    have hx0 : 0 ≤ row.getD ((p : Int)).toNat 0 := hx.1
    have hx1 : row.getD ((p : Int)).toNat 0 ≤ 15 := hx.2
    clear hx
    k_steps
    refine Stop.mk ?_
    rename News _ _ _ _ => N4
    rename Fr _ _ _ _ => F4
    refine alike_step (Cx.wide (by k_asm) (by decide)) F4 N4 (hlg.at fun o e => F4.keep _ o e) hI (by omega) (by omega) (by omega) ?_
    intro h5 tk5 n t5 F5 N5 hA
    clear F4 N4
    rw [Int.toNat_natCast] at hA
    have hb1 := hA.le
    k_steps
    refine Stop.mk ?_
    rename News _ _ _ _ => N6
    rename Fr _ _ _ _ => F6
    rename (Obj.data _ = Data.cell (some (Value.int _ _))) => hop4
    rename ∀ q : Addr × Obj, q ∈ _ → q.1 < _ => hw
    refine join (FwJ g1 L1 gn1 dr1 os1 l D n n3 p I oI ob o3 bs (ways1 row P b p n)) ?_ ?_
    · intro Q2 hQ2
      refine wpAny_If ?_
      k_steps
      ·
        refine Stop.mk ?_
        rename IsRange _ _ _ _ _ _ _ _ => hr2
        rename Fr _ _ _ _ => F5
        rename News _ _ _ _ => N5
        refine comp_range (n := min 6 (n) - (3 - 1)) (fun i ys nw => Stop (nw = _ ∧ ∃ zs, IntsAre ys zs ∧ zs = (List.range i).map (fun j => P.getD 16 0 + 2 + b.getD (p + (3 + j)) 0))) rfl F5 N5 hr2 ?_ ?_ (rng_few (by decide)) ⟨rfl, [], .nil, rfl⟩ ?_ ?_
        · exact rng_small (lo := 3) (hi := 6) (by decide) (by decide)
        · exact rng_size (lo := 3) n 6 (by decide)
        ·
          intro i t I oI C oC D m₂ h tk E' ys nw hi hJ hC hx F2 N2 of1 of2 of3 ne1 ne2 ne3 QC hEnd
          revert hJ
          refine stopE (and2 ?_)
          rintro rfl ⟨zs, hz, hzl⟩
          have hi2 : p + (3 + i) ≤ row.length := rng_lt hi hb1
          clear F5 N5 hr2 hi
          k_steps
          refine hEnd _ _ ?_
          k_steps
          refine ⟨rfl, _, hz.append (.cons _ _ .nil), ?_⟩
          rw [List.range_succ, List.map_append, hzl]
          simp only [List.map_cons, List.map_nil]
          have e : (((p : Nat) : Int) + (3 + (i : Int))).toNat = p + (3 + i) := by omega
          rw [e]
          rfl
        intro g ys nw hJ
        revert hJ
        refine stopE (and2 ?_)
        rintro rfl ⟨zs, hz1, ez1⟩
        have hyl : ys.length ≤ 1000 := by
          rw [(hz1).length, ez1, List.length_map, List.length_range]
          first | (exact Nat.le_trans (Nat.sub_le _ _) (Nat.le_trans (Nat.min_le_left _ _) (by decide)))
        clear F5 N5 hr2
        k_steps
        rename News _ _ _ _ => N7
        rename Fr _ _ _ _ => F7
        rename ∀ q : Addr × Obj, q ∈ _ → q.1 < _ => hw2
        exact Stop.mk <| hQ2 _ (FwJ.mk F7 N7 (subCons (by k_mem) (subCons (by k_mem) (subCons (by k_mem) (subCons (by k_mem) (subCons (by k_mem) (subCons (by k_mem) subNil)))))) ⟨rfl, rfl, rfl, trivial⟩ hop4 hw2 (subCons (by k_mem) (subCons (by k_mem) (subCons (by k_mem) (subCons (by k_mem) (subCons (by k_mem) subNil))))) (IntsAre.append (.cons _ _ .nil) hz1) (w1T (by with_reducible assumption) (by with_reducible assumption) ez1))
      · exact Stop.mk <| hQ2 _ (FwJ.mk F6 N6 (fun q hq => hq) ⟨rfl, rfl, rfl, trivial⟩ hop4 hw (fun q hq => hq) (.cons _ _ .nil) (w1F (.inr (by with_reducible assumption))))
      · exact Stop.mk <| hQ2 _ (FwJ.mk F6 N6 (fun q hq => hq) ⟨rfl, rfl, rfl, trivial⟩ hop4 hw (fun q hq => hq) (.cons _ _ .nil) (w1F (.inl (by with_reducible assumption))))
    clear F6 N6 hw hop4 hop
    intro s' hJ
    revert hJ
    refine stopE (ex8 fun h6 tk6 wl nw m6 tm tv op6 => ex1 fun ws => and7 ?_)
    rintro rfl F7 hm6 N6 hop4 hw hws
    have F6 := frK hm6 F7
    clear F7 hm6
    have hwl := hws.length
    have hw1 := ways1_len (row := row) (P := P) (b := b) (p := p) (n := n)
    k_steps
    refine Stop.mk ?_
    refine join (FwJ g1 L1 gn1 dr1 os1 l D n n3 p I oI ob o3 bs (ways row P b p n)) ?_ ?_
    · intro Q2 hQ2
      refine wpAny_If ?_
      k_steps
      ·
        refine Stop.mk ?_
        rename IsRange _ _ _ _ _ _ _ _ => hr2
        rename Fr _ _ _ _ => F5
        rename News _ _ _ _ => N5
        refine comp_range (n := min 10 (n) - (3 - 1)) (fun i ys nw => Stop (nw = _ ∧ ∃ zs, IntsAre ys zs ∧ zs = (List.range i).map (fun j => P.getD 17 0 + 3 + b.getD (p + (3 + j)) 0))) rfl F5 N5 hr2 ?_ ?_ (rng_few (by decide)) ⟨rfl, [], .nil, rfl⟩ ?_ ?_
        · exact rng_small (lo := 3) (hi := 10) (by decide) (by decide)
        · exact rng_size (lo := 3) n 10 (by decide)
        ·
          intro i t I oI C oC D m₂ h tk E' ys nw hi hJ hC hx F2 N2 of1 of2 of3 ne1 ne2 ne3 QC hEnd
          revert hJ
          refine stopE (and2 ?_)
          rintro rfl ⟨zs, hz, hzl⟩
          have hi2 : p + (3 + i) ≤ row.length := rng_lt hi hb1
          clear F5 N5 hr2 hi
          k_steps
          refine hEnd _ _ ?_
          k_steps
          refine ⟨rfl, _, hz.append (.cons _ _ .nil), ?_⟩
          rw [List.range_succ, List.map_append, hzl]
          simp only [List.map_cons, List.map_nil]
          have e : (((p : Nat) : Int) + (3 + (i : Int))).toNat = p + (3 + i) := by omega
          rw [e]
          rfl
        intro g ys nw hJ
        revert hJ
        refine stopE (and2 ?_)
        rintro rfl ⟨zs, hz2, ez2⟩
        have hyl : ys.length ≤ 1000 := by
          rw [(hz2).length, ez2, List.length_map, List.length_range]
          first | (exact Nat.le_trans (Nat.sub_le _ _) (Nat.le_trans (Nat.min_le_left _ _) (by decide)))
        clear F5 N5 hr2
        k_steps
        refine Stop.mk ?_
        rename IsRange _ _ _ _ _ _ _ _ => hr2
        rename Fr _ _ _ _ => F5
        rename News _ _ _ _ => N5
        refine comp_range (n := min 138 (n) - (11 - 1)) (fun i ys nw => Stop (nw = _ ∧ ∃ zs, IntsAre ys zs ∧ zs = (List.range i).map (fun j => P.getD 18 0 + 7 + b.getD (p + (11 + j)) 0))) rfl F5 N5 hr2 ?_ ?_ (rng_few (by decide)) ⟨rfl, [], .nil, rfl⟩ ?_ ?_
        · exact rng_small (lo := 11) (hi := 138) (by decide) (by decide)
        · exact rng_size (lo := 11) n 138 (by decide)
        ·
          intro i t I oI C oC D m₂ h tk E' ys nw hi hJ hC hx F2 N2 of1 of2 of3 ne1 ne2 ne3 QC hEnd
          revert hJ
          refine stopE (and2 ?_)
          rintro rfl ⟨zs, hz, hzl⟩
          have hi2 : p + (11 + i) ≤ row.length := rng_lt hi hb1
          clear F5 N5 hr2 hi
          k_steps
          refine hEnd _ _ ?_
          k_steps
          refine ⟨rfl, _, hz.append (.cons _ _ .nil), ?_⟩
          rw [List.range_succ, List.map_append, hzl]
          simp only [List.map_cons, List.map_nil]
          have e : (((p : Nat) : Int) + (11 + (i : Int))).toNat = p + (11 + i) := by omega
          rw [e]
          rfl
        intro g ys nw hJ
        revert hJ
        refine stopE (and2 ?_)
        rintro rfl ⟨zs, hz3, ez3⟩
        have hyl : ys.length ≤ 1000 := by
          rw [(hz3).length, ez3, List.length_map, List.length_range]
          first | (exact Nat.le_trans (Nat.sub_le _ _) (Nat.le_trans (Nat.min_le_left _ _) (by decide)))
        clear F5 N5 hr2
        k_steps
        rename News _ _ _ _ => N7
        rename Fr _ _ _ _ => F7
        rename ∀ q : Addr × Obj, q ∈ _ → q.1 < _ => hw2
        exact Stop.mk <| hQ2 _ (FwJ.mk F7 N7 (subCons (by k_mem) (subCons (by k_mem) (subCons (by k_mem) (subCons (by k_mem) (subCons (by k_mem) (subCons (by k_mem) subNil)))))) ⟨rfl, rfl, rfl, trivial⟩ hop4 hw2 (subCons (by k_mem) (subCons (by k_mem) (subCons (by k_mem) (subCons (by k_mem) (subCons (by k_mem) subNil))))) (IntsAre.append (IntsAre.append hws hz2) hz3) (w2T (by with_reducible assumption) ez2 ez3))
      · exact Stop.mk <| hQ2 _ (FwJ.mk F6 N6 (fun q hq => hq) ⟨rfl, rfl, rfl, trivial⟩ hop4 hw (fun q hq => hq) hws (w2F (by with_reducible assumption)))
    clear F6 N6 hw hop4 hws hwl hw1
    intro s' hJ
    revert hJ
    refine stopE (ex8 fun h8 tk8 wl8 nw8 m8 tm8 tv8 op8 => ex1 fun ws8 => and7 ?_)
    rintro rfl F9 hm8 N8 hop8 hw8 hws8
    have F8 := frK hm8 F9
    clear F9 hm8
    k_steps
    refine Stop.mk ?_
    rename News _ _ _ _ => N4
    rename Fr _ _ _ _ => F4
    refine min_L F4 N4 (List.Mem.head _) hws8 ways_pos rfl ?_
    intro h7 M7 t7 tk7 F7 N7 hM
    clear F4 N4
    k_steps
    rename News _ _ _ _ => N4
    rename Fr _ _ _ _ => F4
    rw [Int.toNat_natCast] at N4
    refine hEnd _ <| fwEnd F4 N4 hM.v t7 n3 ?_ ?_ hop8 ⟨rfl, trivial⟩ hbs hbl hb0 hB hplt hp hA hM
    · exact sub2 (by k_mem) (by k_mem) (sub2 (by k_mem) (by k_mem) (subCons (by k_mem) subNil))
    · exact ⟨by k_ne, by k_ne, by k_ne, by k_ne, trivial⟩
  case done =>
    intro m₁ nx h tk hJ F2 N2
    revert hJ
    refine stopE (ex5 fun op val n3 bs b => and7 ?_)
    rintro rfl hop hm hbs hbl hb0 hB
    have hbsl := hbs.length
    have F3 := frK hm F2
    clear F2 F1 N1' hr1 hm
    k_steps
    refine hQ _ _ _ ?_
    exact k _ _ b _ (sameOf st F3) hbl hb0 (fun p hp => hB p hp (by omega))


abbrev ent (h : Int) (x : Str) (t : Tok) (v : Value) : DictEntry := ⟨h, .str x t, v⟩
/-- an object of the class Nearest -/
structure NearAt (h : Heap) (x dx : Nat) (fewest most first : Int) (c q : Nat) : Prop where
  inst : h.get? x = some (instObj 54 dx)
  dict : ∃ n h1 h2 h3 h4 h5 t1 t2 t3 t4 t5 u1 u2 u3, h.get? dx = some (dictOf [ent h1 (Str.ofString "first") t1 (.int first u1), ent h2 (Str.ofString "fewest") t2 (.int fewest u2), ent h3 (Str.ofString "most") t3 (.int most u3), ent h4 (Str.ofString "costs") t4 (.ref c), ent h5 (Str.ofString "queue") t5 (.ref q)] n)
theorem InstAt.ground {g h : Heap} {L x C dx : Addr} {m : Str → Option Value} {od : Obj} {sl : Array (Option Value)} (F : Fr g L h m) (h1 : g.get? x = some (⟨.ref C, some dx, .plain, sl⟩ : Obj)) (h2 : g.get? dx = some od) :
    PySem.W.InstAt h x ⟨.ref C, some dx, .plain, sl⟩ C (some od) := ⟨F.keep _ _ h1, rfl, rfl, F.keep _ _ h2⟩
/-- what the two loops of Nearest.at leave of the queue -/
def Turned (cs : List Int) (fresh low : Int) (qs qs' : List Int) : Prop :=
  ∃ pre suf dr, qs = pre ++ suf ∧ (∀ j ∈ suf, cs.getD fresh.toNat 0 ≤ cs.getD j.toNat 0) ∧ (∀ p j, pre = p ++ [j] → cs.getD j.toNat 0 < cs.getD fresh.toNat 0) ∧
    pre ++ [fresh] = dr ++ qs' ∧ (∀ j ∈ dr, j < low) ∧ qs' ≠ [] ∧ (∀ j r, qs' = j :: r → low ≤ j)
section
variable {prog : Program} {w : World} {A : Around} {E : Value → Shared → Prop} {s : Shared} {h₀ : Heap} {L D : Addr} {m : Str → Option Value} {news news' : Led} {n : Nat}
theorem kl_last_snoc {x : Value} : ∀ vs : List Value, kl_last (vs ++ [x]) = some (vs, x)
  | [] => rfl
  | [y] => rfl
  | y :: z :: r => by
    have ih := kl_last_snoc (x := x) (z :: r)
    show kl_last (y :: z :: (r ++ [x])) = _
    unfold kl_last
    rw [show z :: (r ++ [x]) = (z :: r) ++ [x] from rfl, ih]
theorem pop_last {vs : List Value} {x : Value} {Q : Value → Shared → Prop} (F : Fr h₀ L s.heap m) (N : News h₀ L s.heap news) (U : Upd D (listOf (vs ++ [x]).toArray n) (listOf vs.toArray (n + 1)) news news') (hz : vs.length < 1000000)
    (h : ∀ h', Fr h₀ L h' m → News h₀ L h' news' → Q x { s with heap := h' }) : wpAny (model prog w) A (call (.builtin "list.pop") [.ref D]) Q E s :=
  kl_pop F N (kl_last_snoc vs) U (by simp [sizeLine_eq]; omega) h
end
theorem getD_mem_len {α : Type} {pr : List α} {j j' : α} {p : List α} (e : pr ++ [j] = p ++ [j']) : j = j' := by
  have := (List.append_inj' e rfl).2
  simpa using this
-- RULES
local macro_rules | `(tactic| walk_at "call builtin:list.pop") => `(tactic| (k_here; (with_reducible show wpAny _ _ (call (Value.builtin _) [Value.ref _]) _ _ _); k_dflt (refine' pop_last ?F ?N ?U ?z ?_; (case F => k_asm); (case N => k_asm); (case U => k_upd); (case z => omega)); intro h' F' N'))
local macro_rules | `(tactic| k_inst) => `(tactic| (refine' InstAt.ground ?F ?h1 ?h2; (case F => k_asm); (case h1 => with_reducible assumption); (case h2 => with_reducible assumption)))
-- END RULES

theorem at_spec {w : World} {A : Around} {h₀ : Heap} {L : Addr} {m : Str → Option Value} {s : Shared} {R : Result → Shared → Prop}
    {x dx c q nq : Nat} {fewest most first : Int} {qvs cvs : List Value} {qs cs : List Int} {count : Int} {tc : Tok}
    (C : Cx w 550 A h₀ L) (F : Fr h₀ L s.heap m) (N : News h₀ L s.heap [(q, listOf qvs.toArray nq)]) (hx : NearAt s.heap x dx fewest most first c q) (hcq : c ≠ q) (hxq : x ≠ q) (hdq : dx ≠ q)
    (hc : s.heap.IsList c cvs.toArray) (hcI : IntsAre cvs cs) (hqI : IntsAre qvs qs) (hlen : cs.length ≤ 1000) (hql : qs.length ≤ 1000) (hin : ∀ j ∈ qs, 0 ≤ j ∧ j < cs.length)
    (hf : 0 ≤ first) (hfr : count - fewest < cs.length) (hmo : fewest ≤ most)
    (k0 : count - fewest < first → ∀ h' tk, Same [q] s.heap h' → h'.get? q = some (listOf qvs.toArray nq) → R (.ok (.ret .none)) { s with heap := h', toks := tk })
    (k1 : first ≤ count - fewest → ∀ h' tk qvs' qs' nq' j t, Same [q] s.heap h' → h'.get? q = some (listOf qvs'.toArray nq') → IntsAre qvs' qs' → Turned cs (count - fewest) (count - most) qs qs' → qs'.head? = some j → R (.ok (.ret (.int j t))) { s with heap := h', toks := tk }) :
    codeAny (model Challenge.rw_no0091_01.row.prog w) A (.call (.ref 51) ⟨[.ref x, .int count tc], []⟩) R s := by
  have hX := Cx.inX ‹Cx _ _ _ _ _›
  revert hX
  k_fill
  intro _
  refine' enterP2 ?zoC ?zoF ?zoN ?zok6 ?zok7 ?zok8 ?zok9 ?zokB ?_ ?zoc2 ?zoc3 ?zoc4 ?zoc5; (case zoC => assumption); (case zoF => assumption); (case zoN => assumption); (case zok6 => k_is); (case zok7 => k_is); (case zok8 => decide); (case zok9 => first | exact BindsTo.of_eq rfl | exact binds_K (by k_in) rfl (by k_is) rfl rfl rfl); (case zoc5 => decide); (case zokB => exact locs rfl); (case zoc2 => exact rfl); (case zoc3 => exact rfl); (case zoc4 => exact rfl)
  k_whole
  intro g1 L1 h1 tk1 d1 u1 fs1 gd1 gn1 dr1 os1 Q1 E1 lo1 me1 mg1 mb1 F1' N1' C1 X1 T1 hE1 hu1 st hQ hN
  (try dsimp only)
  have hcg : (_ : Heap).IsList c cvs.toArray := hc.at fun o e => st _ o e (by simpa using hcq)
  obtain ⟨hx1, nd, hh1, hh2, hh3, hh4, hh5, t1, t2, t3, t4, t5, u1, u2, u3, hdx1⟩ := hx
  have hxg := st _ _ hx1 (by simpa using hxq)
  have hdg := st _ _ hdx1 (by simpa using hdq)
  have hA : ∀ p ∈ [(q, listOf qvs.toArray nq)], p ∈ [(q, listOf qvs.toArray nq)] := fun _ h => h
  all_goals k_steps
  · rename (_ - _ < (_ : Int)) => hlt
    rename News _ _ _ _ => N1
    refine hQ _ _ _ ?_
    exact k0 hlt _ _ (sameOf st (by assumption)) (N1.get (.head _))
  refine Stop.mk ?_
  rename (¬ _ < (_ : Int)) => hge
  rename News _ _ _ _ => N1
  rename Fr _ _ _ _ => F1
  have hfi : first ≤ count - fewest := by omega
  refine while_rule (fun kk m nx => Stop (∃ (n3 : Nat) (ps : List Value) (pre suf : List Int) (tf : Tok), nx = [(q, listOf ps.toArray n3)] ∧ Names m [(Str.ofString "self", .ref x), (Str.ofString "count", .int count tc), (Str.ofString "fresh", .int (count - fewest) tf)] ∧
    IntsAre ps pre ∧ qs = pre ++ suf ∧ (∀ j ∈ suf, cs.getD (count - fewest).toNat 0 ≤ cs.getD j.toNat 0) ∧ kk = pre.length)) qs.length F1 N1 ⟨_, qvs, qs, [], _, rfl, ⟨rfl, rfl, rfl, trivial⟩, hqI, by simp, (fun _ h => nomatch h), rfl⟩ ?_
  intro kk m₁ nx h tk F2 N2 hJ QQ hEnd hRet
  revert hJ
  refine stopE (ex5 fun n3 ps pre suf tf => and6 ?_)
  rintro rfl hm hps hsp hsuf rfl
  have F3 := frK hm F2
  clear F2 F1 N1 hm
  have hpl := hps.length
  rcases List.eq_nil_or_concat pre with rfl | ⟨pr, j, hpr⟩
  · cases hps
    k_steps
    have hpre : ∀ p j, ([] : List Int) = p ++ [j] → cs.getD j.toNat 0 < cs.getD (count - fewest).toNat 0 := fun p j e => by simp at e
    refine Stop.mk ?_
    rename News _ _ _ _ => N4
    rename Fr _ _ _ _ => F4
    refine while_rule (fun kk m nx => Stop (∃ (n3 : Nat) (ps : List Value) (dr rest : List Int), nx = [(q, listOf ps.toArray n3)] ∧ Names m [(Str.ofString "self", .ref x), (Str.ofString "count", .int count tc)] ∧
      IntsAre ps rest ∧ ([] : List Int) ++ [count - fewest] = dr ++ rest ∧ (∀ j ∈ dr, j < count - most) ∧ rest ≠ [] ∧ kk = rest.length)) (([] : List Int) ++ [count - fewest]).length F4 N4 ⟨_, _, [], ([] : List Int) ++ [count - fewest], rfl, ⟨rfl, rfl, trivial⟩, (show IntsAre [Value.int _ _] ([] ++ [_]) from .cons _ _ .nil), rfl, (fun _ h => nomatch h), by simp, rfl⟩ ?_
    intro kk m₁ nx h tk F5 N5 hJ QQ hEnd hRet
    revert hJ
    refine stopE (ex4 fun n4 ps' dr rest => and7 ?_)
    rintro rfl hm5 hps5 hsp5 hdr hne rfl
    have F6 := frK hm5 F5
    clear F5 F4 N4 hm5
    cases hps5 with
    | nil => exact absurd rfl hne
    | @cons v t vs' ns' hz =>
      have hzl := hz.length
      have hrl : dr.length + (ns'.length + 1) = (([] : List Int)).length + 1 := by
        have := congrArg List.length hsp5
        simpa using this.symm
      have hpl2 : (([] : List Int)).length ≤ 1000 := by rw [hsp] at hql; simp at hql; first | (simp; omega) | simp
      k_steps
      · rename (v < count - _) => hlow
        rename News _ _ _ _ => N7
        rename Fr _ _ _ _ => F7
        refine hEnd _ <| whEnd F7 N7 _ (fun p hp => hp) (j := ns'.length) (Nat.lt_succ_self _) ⟨_, _, dr ++ [v], ns', rfl, ⟨rfl, rfl, trivial⟩, hz, (hsp5.trans (by simp) : _ = (dr ++ [v]) ++ ns'), ?_, ?_, rfl⟩
        · intro j' hj'
          rcases List.mem_append.mp hj' with hj' | hj'
          · exact hdr j' hj'
          · rw [List.mem_singleton.mp hj']; exact hlow
        · rintro rfl
          have := getD_mem_len hsp5
          omega
      · rename (¬ v < count - _) => hlow
        rename News _ _ _ _ => N7
        rename Fr _ _ _ _ => F7
        refine hQ _ _ _ ?_
        exact k1 hfi _ _ _ (v :: ns') _ v t (sameOf st F7) (N7.get (.head _)) (.cons _ _ hz) ⟨([] : List Int), suf, dr, hsp, hsuf, hpre, hsp5, hdr, by simp, (fun j r e => by cases e; omega)⟩ rfl
  · rw [List.concat_eq_append] at hpr
    subst hpr
    obtain ⟨vs0, tz, rfl, hms0⟩ := ints_snoc hps
    have hj := hin j (by rw [hsp]; simp)
    have hvl := hms0.length
    have hpr1 : pr.length ≤ 1000 := by rw [hsp] at hql; simp at hql; omega
    k_steps
    · rename News _ _ _ _ => N4
      rename Fr _ _ _ _ => F4
      refine hEnd _ <| whEnd F4 N4 _ (fun p hp => hp) (j := pr.length) (by simp) ⟨_, _, pr, j :: suf, _, rfl, ⟨rfl, rfl, rfl, trivial⟩, hms0, by rw [hsp]; simp, ?_, rfl⟩
      intro j' hj'
      rcases List.mem_cons.mp hj' with rfl | hj'
      · assumption
      · exact hsuf j' hj'
    · have hpre : ∀ p j', pr ++ [j] = p ++ [j'] → cs.getD j'.toNat 0 < cs.getD (count - fewest).toNat 0 := fun p j' e => by
        rw [← getD_mem_len e]; omega
      refine Stop.mk ?_
      rename News _ _ _ _ => N4
      rename Fr _ _ _ _ => F4
      refine while_rule (fun kk m nx => Stop (∃ (n3 : Nat) (ps : List Value) (dr rest : List Int), nx = [(q, listOf ps.toArray n3)] ∧ Names m [(Str.ofString "self", .ref x), (Str.ofString "count", .int count tc)] ∧
        IntsAre ps rest ∧ pr ++ [j] ++ [count - fewest] = dr ++ rest ∧ (∀ j ∈ dr, j < count - most) ∧ rest ≠ [] ∧ kk = rest.length)) (pr ++ [j] ++ [count - fewest]).length F4 N4 ⟨_, _, [], pr ++ [j] ++ [count - fewest], rfl, ⟨rfl, rfl, trivial⟩, hps.append (.cons _ _ .nil), rfl, (fun _ h => nomatch h), by simp, rfl⟩ ?_
      intro kk m₁ nx h tk F5 N5 hJ QQ hEnd hRet
      revert hJ
      refine stopE (ex4 fun n4 ps' dr rest => and7 ?_)
      rintro rfl hm5 hps5 hsp5 hdr hne rfl
      have F6 := frK hm5 F5
      clear F5 F4 N4 hm5
      cases hps5 with
      | nil => exact absurd rfl hne
      | @cons v t vs' ns' hz =>
        have hzl := hz.length
        have hrl : dr.length + (ns'.length + 1) = (pr ++ [j]).length + 1 := by
          have := congrArg List.length hsp5
          simpa using this.symm
        have hpl2 : (pr ++ [j]).length ≤ 1000 := by rw [hsp] at hql; simp at hql; first | (simp; omega) | simp
        k_steps
        · rename (v < count - _) => hlow
          rename News _ _ _ _ => N7
          rename Fr _ _ _ _ => F7
          refine hEnd _ <| whEnd F7 N7 _ (fun p hp => hp) (j := ns'.length) (Nat.lt_succ_self _) ⟨_, _, dr ++ [v], ns', rfl, ⟨rfl, rfl, trivial⟩, hz, (hsp5.trans (by simp) : _ = (dr ++ [v]) ++ ns'), ?_, ?_, rfl⟩
          · intro j' hj'
            rcases List.mem_append.mp hj' with hj' | hj'
            · exact hdr j' hj'
            · rw [List.mem_singleton.mp hj']; exact hlow
          · rintro rfl
            have := getD_mem_len hsp5
            omega
        · rename (¬ v < count - _) => hlow
          rename News _ _ _ _ => N7
          rename Fr _ _ _ _ => F7
          refine hQ _ _ _ ?_
          exact k1 hfi _ _ _ (v :: ns') _ v t (sameOf st F7) (N7.get (.head _)) (.cons _ _ hz) ⟨pr ++ [j], suf, dr, hsp, hsuf, hpre, hsp5, hdr, by simp, (fun j r e => by cases e; omega)⟩ rfl


/-- the queue of Nearest, for the places from low (and first) to high -/
structure QInv (cs : List Int) (first low high : Int) (qs : List Int) : Prop where
  mem : ∀ j ∈ qs, first ≤ j ∧ low ≤ j ∧ j ≤ high
  inc : qs.Pairwise (fun i j => i < j ∧ cs.getD i.toNat 0 < cs.getD j.toNat 0)
  cover : ∀ j, first ≤ j → low ≤ j → j ≤ high → ∃ i ∈ qs, j ≤ i ∧ cs.getD i.toNat 0 ≤ cs.getD j.toNat 0
theorem QInv.empty {cs : List Int} {first low high : Int} (h : high < first) : QInv cs first low high [] :=
  ⟨(fun _ h => nomatch h), .nil, fun j a _ b => absurd a (by omega)⟩
theorem QInv.nil_of {cs : List Int} {first low high : Int} {qs : List Int} (Q : QInv cs first low high qs) (h : high < first) : qs = [] := by
  cases qs with
  | nil => rfl
  | cons j r => have := Q.mem j (.head _); omega
theorem QInv.turn {cs : List Int} {first low high : Int} {qs qs' : List Int} (Q : QInv cs first low high qs) (hf : first ≤ high + 1) (hl : low ≤ high) (T : Turned cs (high + 1) (low + 1) qs qs') : QInv cs first (low + 1) (high + 1) qs' := by
  obtain ⟨pre, suf, dr, rfl, hsuf, hpre, hsp, hdr, hne, hhd⟩ := T
  have hP : (pre ++ [high + 1]).Pairwise (fun i j => i < j ∧ cs.getD i.toNat 0 < cs.getD j.toNat 0) := by
    have h1 := (List.pairwise_append.mp Q.inc).1
    refine List.pairwise_append.mpr ⟨h1, List.pairwise_singleton _ _, ?_⟩
    intro i hi j hj
    rw [List.mem_singleton.mp hj]
    have := Q.mem i (List.mem_append.mpr (.inl hi))
    refine ⟨by omega, ?_⟩
    rcases List.eq_nil_or_concat pre with rfl | ⟨p, l, e⟩
    · cases hi
    · rw [List.concat_eq_append] at e
      subst e
      have hl2 := hpre p l rfl
      rcases List.mem_append.mp hi with hi | hi
      · have := (List.pairwise_append.mp h1).2.2 i hi l (.head _)
        omega
      · rw [List.mem_singleton.mp hi]; exact hl2
  rw [hsp] at hP
  have hq := (List.pairwise_append.mp hP).2.1
  have hsub : ∀ j ∈ qs', j ∈ pre ∨ j = high + 1 := by
    intro j hj
    have : j ∈ pre ++ [high + 1] := by rw [hsp]; exact List.mem_append.mpr (.inr hj)
    rcases List.mem_append.mp this with h | h
    · exact .inl h
    · exact .inr (List.mem_singleton.mp h)
  refine ⟨?_, hq, ?_⟩
  · intro j hj
    have hlow : low + 1 ≤ j := by
      cases qs' with
      | nil => cases hj
      | cons z r =>
        have hz := hhd z r rfl
        rcases List.mem_cons.mp hj with rfl | hj
        · exact hz
        · have := (List.pairwise_cons.mp hq).1 j hj
          omega
    rcases hsub j hj with h | rfl
    · have := Q.mem j (List.mem_append.mpr (.inl h))
      omega
    · omega
  · intro j h1 h2 h3
    have hfm : high + 1 ∈ qs' := by
      rcases List.eq_nil_or_concat qs' with rfl | ⟨p, l, e⟩
      · exact absurd rfl hne
      · rw [List.concat_eq_append] at e
        subst e
        rw [← List.append_assoc] at hsp
        rw [getD_mem_len hsp]
        exact List.mem_append.mpr (.inr (.head _))
    by_cases hj : j = high + 1
    · exact ⟨high + 1, hfm, by omega, by rw [hj]; exact Int.le_refl _⟩
    · obtain ⟨i, hi, hji, hc⟩ := Q.cover j h1 (by omega) (by omega)
      rcases List.mem_append.mp hi with hi | hi
      · have : i ∈ dr ++ qs' := by rw [← hsp]; exact List.mem_append.mpr (.inl hi)
        rcases List.mem_append.mp this with h | h
        · have := hdr i h; omega
        · exact ⟨i, h, hji, hc⟩
      · have := hsuf i hi
        exact ⟨high + 1, hfm, by omega, by omega⟩
/-- the head of the queue is the cheapest place -/
theorem QInv.best {cs : List Int} {first low high j : Int} {qs : List Int} (Q : QInv cs first low high qs) (h : qs.head? = some j) : (first ≤ j ∧ low ≤ j ∧ j ≤ high) ∧ ∀ i, first ≤ i → low ≤ i → i ≤ high → cs.getD j.toNat 0 ≤ cs.getD i.toNat 0 := by
  cases qs with
  | nil => cases h
  | cons z r =>
    cases h
    refine ⟨Q.mem _ (.head _), fun i a b c => ?_⟩
    obtain ⟨k, hk, _, hc⟩ := Q.cover i a b c
    rcases List.mem_cons.mp hk with rfl | hk
    · exact hc
    · have := (List.pairwise_cons.mp Q.inc).1 k hk
      omega
theorem getD_snoc {cs : List Int} {v : Int} {i : Nat} (h : i < cs.length) : (cs ++ [v]).getD i 0 = cs.getD i 0 := by
  rw [List.getD_eq_getElem?_getD, List.getD_eq_getElem?_getD, List.getElem?_append_left h]
theorem QInv.snoc {cs : List Int} {v first low high : Int} {qs : List Int} (Q : QInv cs first low high qs) (hf : 0 ≤ first) (hh : high < cs.length) : QInv (cs ++ [v]) first low high qs := by
  have e : ∀ j, first ≤ j → j ≤ high → (cs ++ [v]).getD j.toNat 0 = cs.getD j.toNat 0 := fun j a b => getD_snoc (by omega)
  refine ⟨Q.mem, ?_, ?_⟩
  · refine List.Pairwise.imp_of_mem ?_ Q.inc
    intro a b ha hb h
    rw [e a (Q.mem a ha).1 (Q.mem a ha).2.2, e b (Q.mem b hb).1 (Q.mem b hb).2.2]
    exact h
  · intro j a b c
    obtain ⟨i, hi, h1, h2⟩ := Q.cover j a b c
    exact ⟨i, hi, h1, by rw [e i (Q.mem i hi).1 (Q.mem i hi).2.2, e j a c]; exact h2⟩

/-- one of the kinds of a RunWays, with its queue as it stands -/
structure Kd where
  sym : Int
  fewest : Int
  most : Int
  first : Int
  q : Nat
  vs : List Value
  qs : List Int
  n : Nat
def Kd.ent (k : Kd) : Addr × Obj := (k.q, listOf k.vs.toArray k.n)
structure Kd.Alike (k k' : Kd) : Prop where
  sym : k'.sym = k.sym
  fewest : k'.fewest = k.fewest
  most : k'.most = k.most
  first : k'.first = k.first
  q : k'.q = k.q
structure Kd.Fine (k : Kd) : Prop where
  sym : k.sym = 16 ∨ k.sym = 17 ∨ k.sym = 18
  first : 0 ≤ k.first
  fewest : 1 ≤ k.fewest
  most : k.fewest ≤ k.most
structure Kd.Ok (cs : List Int) (count : Int) (k : Kd) : Prop where
  fine : k.Fine
  isI : IntsAre k.vs k.qs
  inv : QInv cs k.first (count - k.most) (count - k.fewest) k.qs
inductive KindsAre (h : Heap) (c : Nat) : List Value → List Kd → Prop
  | nil : KindsAre h c [] []
  | cons {t x dx : Nat} {u : Tok} {k : Kd} {vs : List Value} {ks : List Kd} : h.get? t = some { cls := .type "tuple", data := .seq [Value.int k.sym u, Value.ref x].toArray } → NearAt h x dx k.fewest k.most k.first c k.q → KindsAre h c vs ks → KindsAre h c (.ref t :: vs) (k :: ks)
theorem KindsAre.keep {h g : Heap} {c : Nat} {vs : List Value} {ks : List Kd} (K : KindsAre h c vs ks) (S : ∀ a o, h.get? a = some o → o.cls ≠ .type "list" → g.get? a = some o) : KindsAre g c vs ks := by
  induction K with
  | nil => exact .nil
  | cons ht hx _ ih =>
    obtain ⟨h1, n, h2⟩ := hx
    obtain ⟨a1, a2, a3, a4, a5, t1, t2, t3, t4, t5, u1, u2, u3, h3⟩ := h2
    exact .cons (S _ _ ht (by simp)) ⟨S _ _ h1 (by simp), _, _, _, _, _, _, _, _, _, _, _, _, _, _, S _ _ h3 (by simp)⟩ ih
theorem KindsAre.len {h : Heap} {c : Nat} {vs : List Value} {ks : List Kd} (K : KindsAre h c vs ks) : vs.length = ks.length := by
  induction K with
  | nil => rfl
  | cons _ _ _ ih => simp [ih]
theorem KindsAre.getK {h : Heap} {c : Nat} {vs : List Value} {ks : List Kd} (K : KindsAre h c vs ks) : ∀ (i : Nat) (v : Value), vs[i]? = some v → ∃ (t x dx : Nat) (u : Tok) (k : Kd), v = .ref t ∧ ks.drop i = k :: ks.drop (i + 1) ∧ h.get? t = some { cls := .type "tuple", data := .seq [Value.int k.sym u, Value.ref x].toArray } ∧ NearAt h x dx k.fewest k.most k.first c k.q := by
  induction K with
  | nil => intro i v e; cases i <;> cases e
  | cons ht hx _ ih =>
    intro i v e
    cases i with
    | zero => cases e; exact ⟨_, _, _, _, _, rfl, rfl, ht, hx⟩
    | succ i => exact ih i v e
/-- the steps that a RunWays knows from place n: what they cost, how far they reach, their symbol -/
inductive Way (cs P : List Int) (len n : Int) (ks : List Kd) (v sz sym : Int) : Prop
  | one : v = cs.getD (n - 1).toNat 0 + P.getD len.toNat 0 → sz = 1 → sym = len → Way cs P len n ks v sz sym
  | more (k : Kd) (j : Int) : k ∈ ks → k.first ≤ j → n - k.most ≤ j → j ≤ n - k.fewest → v = cs.getD j.toNat 0 + P.getD k.sym.toNat 0 + (if k.sym = 16 then 2 else if k.sym = 17 then 3 else 7) → sz = n - j → sym = k.sym → Way cs P len n ks v sz sym
structure Least (cs P : List Int) (len n : Int) (ks : List Kd) (v sz sym : Int) : Prop where
  way : Way cs P len n ks v sz sym
  least : ∀ v' sz' sym', Way cs P len n ks v' sz' sym' → v ≤ v'
theorem off_kind {h₀ h : Heap} {L : Addr} {led : Led} (N : News h₀ L h led) (hl : ∀ p ∈ led, p.2.cls = .type "list") {a : Nat} {o : Obj} (ha : h.get? a = some o) (ho : o.cls ≠ .type "list") : a ∉ led.map (·.1) := by
  intro hm
  obtain ⟨p, hp, rfl⟩ := List.mem_map.mp hm
  have := (N p hp).1
  rw [ha] at this
  cases this
  exact ho (hl p hp)

theorem len_inc {cs : List Int} {high : Int} {qs : List Int} : ∀ {first : Int}, qs.Pairwise (fun i j => i < j ∧ cs.getD i.toNat 0 < cs.getD j.toNat 0) → (∀ j ∈ qs, first ≤ j ∧ j ≤ high) → qs ≠ [] → (qs.length : Int) ≤ high - first + 1 := by
  induction qs with
  | nil => intro _ _ _ h; exact absurd rfl h
  | cons z r ih =>
    intro first hp hm _
    have hz := hm z (.head _)
    cases r with
    | nil => simp; omega
    | cons y r' =>
      have h1 := (List.pairwise_cons.mp hp).1
      have := ih (first := z + 1) (List.pairwise_cons.mp hp).2 (fun j hj => ⟨by have := (h1 j hj).1; omega, (hm j (.tail _ hj)).2⟩) (by simp)
      simp only [List.length_cons] at this ⊢
      omega
theorem QInv.len {cs : List Int} {first low high : Int} {qs : List Int} (Q : QInv cs first low high qs) (hf : 0 ≤ first) (hh : high < 1000) : qs.length ≤ 1000 := by
  by_cases h : qs = []
  · rw [h]; simp
  · have := len_inc (first := first) Q.inc (fun j hj => ⟨(Q.mem j hj).1, (Q.mem j hj).2.2⟩) h
    omega
def Kd.stat (k : Kd) : Int × Int × Int × Int × Nat := (k.sym, k.fewest, k.most, k.first, k.q)
theorem Kd.q_of_stat {ks ks' : List Kd} (h : ks'.map Kd.stat = ks.map Kd.stat) : ks'.map Kd.q = ks.map Kd.q := by
  have := congrArg (List.map (fun x : Int × Int × Int × Int × Nat => x.2.2.2.2)) h
  rw [List.map_map, List.map_map] at this
  exact this
theorem Kd.way_of_stat {cs P : List Int} {len n : Int} {ks ks' : List Kd} {v sz sym : Int} (h : ks'.map Kd.stat = ks.map Kd.stat) (W : Way cs P len n ks v sz sym) : Way cs P len n ks' v sz sym := by
  cases W with
  | one a b c => exact .one a b c
  | more k j hk h1 h2 h3 hv hs hy =>
    have : k.stat ∈ ks'.map Kd.stat := by rw [h]; exact List.mem_map_of_mem hk
    obtain ⟨k', hk', e⟩ := List.mem_map.mp this
    simp only [Kd.stat, Prod.mk.injEq] at e
    obtain ⟨e1, e2, e3, e4, e5⟩ := e
    exact .more k' j hk' (by omega) (by omega) (by omega) (by rw [e1]; exact hv) hs (by rw [e1]; exact hy)
theorem KindsAre.stat {h : Heap} {c : Nat} {vs : List Value} {ks : List Kd} (K : KindsAre h c vs ks) : ∀ {ks' : List Kd}, ks'.map Kd.stat = ks.map Kd.stat → KindsAre h c vs ks' := by
  induction K with
  | nil => intro ks' e; cases ks' with
    | nil => exact .nil
    | cons _ _ => simp at e
  | cons ht hx _ ih =>
    intro ks' e
    cases ks' with
    | nil => simp at e
    | cons k' ks' =>
      rw [List.map_cons, List.map_cons] at e
      obtain ⟨e0, er⟩ := List.cons.inj e
      simp only [Kd.stat, Prod.mk.injEq] at e0
      obtain ⟨e1, e2, e3, e4, e5⟩ := e0
      exact .cons (by rw [e1]; exact ht) (by rw [e2, e3, e4, e5]; exact hx) (ih er)
theorem news_kd {h₀ h h' : Heap} {L : Addr} {pre : Led} {done rest : List Kd} {k k' : Kd} (N : News h₀ L h (pre ++ (done ++ k :: rest).map Kd.ent)) (S : Same [k.q] h h') (hq : h'.get? k.q = some k'.ent.2) (e : k'.q = k.q) (off : ∀ p ∈ pre, p.1 ≠ k.q)
    (hnd : ((done ++ k :: rest).map Kd.q).Nodup) : News h₀ L h' (pre ++ (done ++ k' :: rest).map Kd.ent) := by
  have hk := N k.ent (List.mem_append.mpr (.inr (List.mem_map_of_mem (by simp))))
  have old : ∀ p, p ∈ pre ++ (done ++ k :: rest).map Kd.ent → p.1 ≠ k.q → h'.get? p.1 = some p.2 ∧ p.1 ≠ L ∧ h₀.get? p.1 = none := fun p hp hne => ⟨S _ _ (by simpa using hne) (N p hp).1, (N p hp).2⟩
  rw [List.map_append, List.map_cons, List.nodup_append] at hnd
  obtain ⟨_, hnd2, hnd3⟩ := hnd
  intro p hp
  rcases List.mem_append.mp hp with hp | hp
  · exact old p (List.mem_append.mpr (.inl hp)) (off p hp)
  · obtain ⟨y, hy, rfl⟩ := List.mem_map.mp hp
    rcases List.mem_append.mp hy with hy | hy
    · exact old _ (List.mem_append.mpr (.inr (List.mem_map_of_mem (List.mem_append.mpr (.inl hy))))) (hnd3 _ (List.mem_map_of_mem hy) _ (.head _))
    · rcases List.mem_cons.mp hy with rfl | hy
      · exact ⟨by show h'.get? y.q = _; rw [e]; exact hq, by show y.q ≠ L; rw [e]; exact hk.2.1, by show h₀.get? y.q = none; rw [e]; exact hk.2.2⟩
      · refine old _ (List.mem_append.mpr (.inr (List.mem_map_of_mem (List.mem_append.mpr (.inr (.tail _ hy)))))) (fun q => ?_)
        have : k.q ∈ rest.map Kd.q := List.mem_map.mpr ⟨y, hy, q⟩
        exact (List.nodup_cons.mp hnd2).1 this


noncomputable def flat : List (Int × Nat) → List Int
  | [] => []
  | p :: r => List.replicate p.2 p.1 ++ flat r
theorem flat_append {a b : List (Int × Nat)} : flat (a ++ b) = flat a ++ flat b := by
  induction a with
  | nil => rfl
  | cons p r ih => show _ ++ flat (r ++ b) = (_ ++ flat r) ++ flat b; rw [ih, List.append_assoc]
theorem flat_one {x : Int} {n : Nat} : flat [(x, n)] = List.replicate n x := by show _ ++ [] = _; rw [List.append_nil]
/-- runs as they stand in a row: none is empty, neighbours differ; o: what stands ahead -/
noncomputable def Good : Option Int → List (Int × Nat) → Prop
  | _, [] => True
  | o, p :: r => 1 ≤ p.2 ∧ o ≠ some p.1 ∧ Good (some p.1) r
theorem Good.snoc {x : Int} : ∀ {o : Option Int} {acc : List (Int × Nat)}, Good o acc → (∀ y c init, acc = init ++ [(y, c)] → y ≠ x) → (acc = [] → o ≠ some x) → Good o (acc ++ [(x, 1)])
  | o, [], _, _, h => ⟨Nat.le_refl _, h rfl, trivial⟩
  | o, p :: r, ⟨h1, h2, h3⟩, hl, _ => ⟨h1, h2, Good.snoc h3 (fun y c init e => hl y c (p :: init) (by rw [e]; rfl)) (fun e => by
      subst e
      have := hl p.1 p.2 [] rfl
      intro q
      exact this (Option.some.inj q))⟩
theorem Good.more {y : Int} {c : Nat} : ∀ {o : Option Int} {acc : List (Int × Nat)}, Good o (acc ++ [(y, c)]) → Good o (acc ++ [(y, c + 1)])
  | _, [], ⟨h1, h2, h3⟩ => ⟨Nat.le_succ_of_le h1, h2, h3⟩
  | _, _ :: _, ⟨h1, h2, h3⟩ => ⟨h1, h2, h3.more⟩
theorem runs_fold (row : List Int) : ∀ (pre : List (Int × Nat)), Good none pre → ∃ rs : List (Int × Nat), row.foldl runStep (pre.map fun p => (p.1, (p.2 : Int))) = rs.map (fun p => (p.1, (p.2 : Int))) ∧ flat rs = flat pre ++ row ∧ Good none rs := by
  induction row with
  | nil => intro pre h; exact ⟨pre, rfl, by simp, h⟩
  | cons x row ih =>
    intro pre h
    rw [List.foldl_cons]
    rcases List.eq_nil_or_concat pre with rfl | ⟨init, ⟨y, c⟩, e⟩
    · obtain ⟨rs, h1, h2, h3⟩ := ih [(x, 1)] ⟨Nat.le_refl _, by simp, trivial⟩
      refine ⟨rs, ?_, ?_, h3⟩
      · rw [← h1]; rfl
      · rw [h2, flat_one]; rfl
    · rw [List.concat_eq_append] at e
      subst e
      rw [List.map_append, List.map_cons, List.map_nil, runStep_snoc]
      by_cases hy : y = x
      · subst hy
        obtain ⟨rs, h1, h2, h3⟩ := ih (init ++ [(y, c + 1)]) h.more
        refine ⟨rs, ?_, ?_, h3⟩
        · rw [← h1, if_pos rfl, List.map_append]; simp
        · rw [h2, flat_append, flat_append, flat_one, flat_one, List.replicate_succ']; simp
      · obtain ⟨rs, h1, h2, h3⟩ := ih (init ++ [(y, c)] ++ [(x, 1)]) (h.snoc (fun y' c' i' e => by
          have := (List.append_inj' e rfl).2
          simp only [List.cons.injEq, Prod.mk.injEq, and_true] at this
          rw [← this.1]; exact hy) (fun e => by simp at e))
        refine ⟨rs, ?_, ?_, h3⟩
        · rw [← h1, if_neg hy, List.map_append, List.map_append]; rfl
        · rw [h2, flat_append, flat_append, flat_one, flat_one]; simp
theorem runs_good (row : List Int) : ∃ rs : List (Int × Nat), runsOf row = rs.map (fun p => (p.1, (p.2 : Int))) ∧ flat rs = row ∧ Good none rs := by
  obtain ⟨rs, h1, h2, h3⟩ := runs_fold row [] trivial
  exact ⟨rs, h1, by rw [h2]; rfl, h3⟩

/-- a run of x, n items from place pre.length on -/
structure RunIn (row pre : List Int) (x : Int) (n : Nat) (suf : List Int) : Prop where
  eq : row = pre ++ (List.replicate n x ++ suf)
  ahead : pre.getLast? ≠ some x
  behind : suf.head? ≠ some x
theorem Good.split {rs : List (Int × Nat)} {x : Int} {n : Nat} {r : List (Int × Nat)} : ∀ {o : Option Int}, Good o (rs ++ (x, n) :: r) → 1 ≤ n ∧ (rs = [] → o ≠ some x) ∧ (flat rs).getLast? ≠ some x ∧ (flat r).head? ≠ some x := by
  induction rs with
  | nil =>
    rintro o ⟨h1, h2, h3⟩
    refine ⟨h1, fun _ => h2, by simp [flat], ?_⟩
    cases r with
    | nil => simp [flat]
    | cons p r =>
      obtain ⟨g1, g2, g3⟩ := h3
      obtain ⟨k, hk⟩ : ∃ k, p.2 = k + 1 := ⟨p.2 - 1, by omega⟩
      show (List.replicate p.2 p.1 ++ flat r).head? ≠ _
      rw [hk, List.replicate_succ]
      exact fun e => g2 e.symm
  | cons p rs ih =>
    rintro o ⟨h1, h2, h3⟩
    obtain ⟨g1, g2, g3, g4⟩ := ih h3
    refine ⟨g1, fun e => by simp at e, ?_, g4⟩
    show (List.replicate p.2 p.1 ++ flat rs).getLast? ≠ _
    rw [List.getLast?_append]
    cases hq : (flat rs).getLast? with
    | some y => rw [hq] at g3; exact g3
    | none =>
      have he : flat rs = [] := by simpa using hq
      have : rs = [] := by
        cases rs with
        | nil => rfl
        | cons q rs =>
          exfalso
          have hq1 : 1 ≤ q.2 := h3.1
          have hl := congrArg List.length he
          simp only [flat, List.length_append, List.length_replicate, List.length_nil] at hl
          omega
      have g2' := g2 this
      obtain ⟨k, hk⟩ : ∃ k, p.2 = k + 1 := ⟨p.2 - 1, by omega⟩
      rw [hk, List.replicate_succ']
      simpa using g2'
theorem Good.runIn {row : List Int} {rs r : List (Int × Nat)} {x : Int} {n : Nat} (h : Good none (rs ++ (x, n) :: r)) (e : row = flat (rs ++ (x, n) :: r)) : RunIn row (flat rs) x n (flat r) ∧ 1 ≤ n := by
  obtain ⟨h1, _, h3, h4⟩ := h.split
  exact ⟨⟨by rw [e, flat_append]; rfl, h3, h4⟩, h1⟩
theorem Alike.uniq {row : List Int} {p n k : Nat} (a : Alike row p n) (b : Alike row p k) : n = k := by
  have one : ∀ {n k}, Alike row p n → Alike row p k → ¬ n < k := fun {n k} a b h => a.stop (by have := b.le; omega) (b.same n h)
  have h1 := one a b
  have h2 := one b a
  omega
section
variable {row pre suf : List Int} {x : Int} {n : Nat}
theorem RunIn.len (R : RunIn row pre x n suf) : pre.length + n ≤ row.length := by
  rw [R.eq]; simp
theorem RunIn.at (R : RunIn row pre x n suf) {i : Nat} (hi : i < n) : row.getD (pre.length + i) 0 = x := by
  rw [R.eq, List.getD_eq_getElem?_getD, List.getElem?_append_right (by omega), List.getElem?_append_left (by simp; omega)]
  simp [hi]
theorem RunIn.next (R : RunIn row pre x n suf) (h : pre.length + n < row.length) : row.getD (pre.length + n) 0 ≠ x := by
  have hb := R.behind
  rw [R.eq] at h ⊢
  rw [List.getD_eq_getElem?_getD, List.getElem?_append_right (by omega), List.getElem?_append_right (by simp)]
  cases suf with
  | nil => simp at h
  | cons y r => simpa using hb
theorem RunIn.prev (R : RunIn row pre x n suf) (h : 0 < pre.length) : row.getD (pre.length - 1) 0 ≠ x := by
  have hb := R.ahead
  rw [R.eq, List.getD_eq_getElem?_getD, List.getElem?_append_left (by omega)]
  rw [List.getLast?_eq_getElem?] at hb
  rw [List.getElem?_eq_getElem (by omega)] at hb ⊢
  simpa using hb
theorem RunIn.alike (R : RunIn row pre x n suf) {i : Nat} (hi : i < n) : Alike row (pre.length + i) (n - i) := by
  refine ⟨by have := R.len; omega, fun j hj => ?_, fun h => ?_⟩
  · rw [Nat.add_assoc, R.at (by omega), R.at hi]
  · have e : pre.length + i + (n - i) = pre.length + n := by omega
    rw [e] at h ⊢
    rw [R.at hi]; exact R.next h
end

theorem Longest.one {row : List Int} {ps : List (Int × Int)} {p n : Nat} {q : (Int × Int) × Nat} (L : Longest row ps p) (hp : p < row.length) (ha : Alike row p n) (e : pick row p n = q) : Longest row (ps ++ [q.1]) (p + q.2) := by
  subst e
  exact L.snoc hp ha
section
variable {row pre suf : List Int} {x : Int} {n : Nat}
theorem minL {a b n : Nat} (h : a ≤ n) (hb : a ≤ b) : a ≤ min b n ∧ min b n ≤ b ∧ min b n ≤ n := ⟨Nat.le_min.mpr ⟨hb, h⟩, Nat.min_le_left _ _, Nat.min_le_right _ _⟩
theorem hop {i k q n : Nat} (e : i + k = n) (h : q ≤ k) : i + q + (k - q) = n := by omega
theorem room {i k n : Nat} (e : i + k = n) (h : 0 < k) : i < n := by omega
theorem rest {i k n : Nat} (e : i + k = n) : n - i = k := by omega
theorem longest_gz (R : RunIn row pre 0 n suf) : ∀ (k i : Nat) (ps : List (Int × Int)), i + k = n → Longest row ps (pre.length + i) → Longest row (ps ++ gz k) (pre.length + n) := by
  intro k
  induction k using Nat.strongRecOn with
  | ind k ih =>
    intro i ps e L
    have hl : ∀ i, i < n → pre.length + i < row.length := fun i h => Nat.lt_of_lt_of_le (Nat.add_lt_add_left h _) R.len
    have step : ∀ k', k' ≤ 2 → ∀ i ps, i + k' = n → Longest row ps (pre.length + i) → Longest row (ps ++ List.replicate k' (0, 0)) (pre.length + n) := by
      intro k'
      induction k' with
      | zero => intro _ i ps e L; rw [← e]; simpa using L
      | succ k' ih' =>
        intro hk i ps e L
        have hi := room e (Nat.zero_lt_succ k')
        have hr : n - i ≤ 2 := rest e ▸ hk
        have h := L.one (q := ((0, 0), 1)) (hl i hi) (R.alike hi) (by
          unfold pick
          rw [R.at hi, if_neg (fun q => absurd (Nat.lt_of_lt_of_le q.2 hr) (by decide)), if_neg (fun q => absurd (Nat.lt_of_lt_of_le q.2 hr) (by decide)), if_neg (fun q => absurd q.1 (by decide))])
        have := ih' (Nat.le_of_succ_le hk) (i + 1) (ps ++ [(0, 0)]) (by rw [← e, Nat.add_assoc, Nat.add_comm 1]) h
        rw [List.replicate_succ]
        simpa using this
    rw [gz]
    by_cases h11 : 11 ≤ k
    · rw [dif_pos h11, Nat.min_comm]
      have hk : 0 < k := Nat.lt_of_lt_of_le (by decide) h11
      have hi := room e hk
      obtain ⟨q1, q2, q3⟩ := minL (b := 138) h11 (by decide)
      have h := L.one (q := ((18, ((min 138 k : Nat) : Int) - 11), min 138 k)) (hl i hi) (R.alike hi) (by
        unfold pick
        rw [rest e, R.at hi, if_pos ⟨rfl, h11⟩])
      have := ih (k - min 138 k) (Nat.sub_lt hk (Nat.lt_of_lt_of_le (by decide) q1)) (i + min 138 k) _ (hop e q3) (by rw [← Nat.add_assoc]; exact h)
      simpa using this
    · rw [dif_neg h11]
      by_cases h3 : 3 ≤ k
      · rw [if_pos h3]
        have hi := room e (Nat.lt_of_lt_of_le (by decide) h3)
        have h := L.one (q := ((17, (k : Int) - 3), k)) (hl i hi) (R.alike hi) (by
          unfold pick
          rw [rest e, R.at hi, if_neg (fun q => h11 q.2), if_pos ⟨rfl, h3⟩])
        rw [← e, ← Nat.add_assoc]
        exact h
      · rw [if_neg h3]
        exact step k (Nat.le_of_lt_succ (Nat.not_le.mp h3)) i ps e L
theorem longest_gc (R : RunIn row pre x n suf) (hx : x ≠ 0) (h0 : 0 ≤ x) : ∀ (k i : Nat) (ps : List (Int × Int)), i + k = n → 1 ≤ i → Longest row ps (pre.length + i) → Longest row (ps ++ gc x k) (pre.length + n) := by
  intro k
  induction k using Nat.strongRecOn with
  | ind k ih =>
    intro i ps e hi1 L
    have hl : ∀ i, i < n → pre.length + i < row.length := fun i h => Nat.lt_of_lt_of_le (Nat.add_lt_add_left h _) R.len
    have step : ∀ k', k' ≤ 2 → ∀ i ps, i + k' = n → Longest row ps (pre.length + i) → Longest row (ps ++ List.replicate k' (x, 0)) (pre.length + n) := by
      intro k'
      induction k' with
      | zero => intro _ i ps e L; rw [← e]; simpa using L
      | succ k' ih' =>
        intro hk i ps e L
        have hi := room e (Nat.zero_lt_succ k')
        have hr : n - i ≤ 2 := rest e ▸ hk
        have h := L.one (q := ((x, 0), 1)) (hl i hi) (R.alike hi) (by
          unfold pick
          rw [R.at hi, if_neg (fun q => hx q.1), if_neg (fun q => hx q.1), if_neg (fun q => absurd (Nat.lt_of_lt_of_le q.2.2.2 hr) (by decide))])
        have := ih' (Nat.le_of_succ_le hk) (i + 1) (ps ++ [(x, 0)]) (by rw [← e, Nat.add_assoc, Nat.add_comm 1]) h
        rw [List.replicate_succ]
        simpa using this
    rw [gc]
    by_cases h3 : 3 ≤ k
    · rw [dif_pos h3, Nat.min_comm]
      have hk : 0 < k := Nat.lt_of_lt_of_le (by decide) h3
      have hi := room e hk
      have hprev : row.getD (pre.length + i - 1) 0 = x := by
        rw [Nat.add_sub_assoc hi1, R.at (Nat.lt_of_le_of_lt (Nat.sub_le _ _) hi)]
      obtain ⟨q1, q2, q3⟩ := minL (b := 6) h3 (by decide)
      have h := L.one (q := ((16, ((min 6 k : Nat) : Int) - 3), min 6 k)) (hl i hi) (R.alike hi) (by
        unfold pick
        rw [rest e, R.at hi, hprev, if_neg (fun q => hx q.1), if_neg (fun q => hx q.1), if_pos ⟨Int.lt_iff_le_and_ne.mpr ⟨h0, Ne.symm hx⟩, Nat.lt_of_lt_of_le hi1 (Nat.le_add_left _ _), rfl, h3⟩])
      have := ih (k - min 6 k) (Nat.sub_lt hk (Nat.lt_of_lt_of_le (by decide) q1)) (i + min 6 k) _ (hop e q3) (Nat.le_trans hi1 (Nat.le_add_right _ _)) (by rw [← Nat.add_assoc]; exact h)
      simpa using this
    · rw [dif_neg h3]
      exact step k (Nat.le_of_lt_succ (Nat.not_le.mp h3)) i ps e L
theorem longest_greedy (R : RunIn row pre x n suf) (hn : 1 ≤ n) (h0 : 0 ≤ x) {ps : List (Int × Int)} (L : Longest row ps pre.length) : Longest row (ps ++ greedy x n) (pre.length + n) := by
  unfold greedy
  by_cases hx : x = 0
  · subst hx
    rw [if_pos rfl]
    exact longest_gz R n 0 ps (by omega) L
  · rw [if_neg hx]
    have hl := R.len
    have h := L.one (q := ((x, 0), 1)) (by omega) (R.alike (i := 0) (by omega)) (by
      unfold pick
      have h1 := R.at (i := 0) (by omega)
      rw [Nat.add_zero] at h1
      simp only [Nat.sub_zero]
      rw [h1, if_neg (by omega), if_neg (by omega), if_neg (fun q => R.prev q.2.1 q.2.2.1)])
    have := longest_gc R hx h0 (n - 1) 1 _ (by omega) (Nat.le_refl _) h
    simpa using this
end
noncomputable def greedyAll : List (Int × Nat) → List (Int × Int)
  | [] => []
  | p :: r => greedy p.1 p.2 ++ greedyAll r
theorem longest_all {row : List Int} (h15 : ∀ x ∈ row, 0 ≤ x) : ∀ (r rs : List (Int × Nat)) (ps : List (Int × Int)), Good none (rs ++ r) → row = flat (rs ++ r) → Longest row ps (flat rs).length → Longest row (ps ++ greedyAll r) row.length := by
  intro r
  induction r with
  | nil => intro rs ps g e L; rw [List.append_nil] at e; rw [e] at L ⊢; simpa [greedyAll] using L
  | cons p r ih =>
    intro rs ps g e L
    obtain ⟨x, n⟩ := p
    obtain ⟨R, hn⟩ := g.runIn e
    have hx : x ∈ row := by
      have h1 := R.at (i := 0) (by omega)
      have h2 := R.len
      rw [List.getD_eq_getElem?_getD, List.getElem?_eq_getElem (by omega)] at h1
      simp only [Option.getD_some] at h1
      rw [← h1]; exact List.getElem_mem _
    have := ih (rs ++ [(x, n)]) (ps ++ greedy x n) (by simpa using g) (by simpa using e) (by
      rw [flat_append, flat_one, List.length_append, List.length_replicate]
      exact longest_greedy R hn (h15 _ hx) L)
    simpa [greedyAll] using this
theorem Longest.uniq {row : List Int} : ∀ (k : Nat) {ps qs : List (Int × Int)} {p q : Nat}, Longest row ps p → Longest row qs q → ps.length = k → qs.length = k → ps = qs ∧ p = q := by
  intro k
  induction k with
  | zero =>
    intro ps qs p q a b ha hb
    cases a with
    | nil => cases b with
      | nil => exact ⟨rfl, rfl⟩
      | snoc b hp al => simp at hb
    | snoc a hp al => simp at ha
  | succ k ih =>
    intro ps qs p q a b ha hb
    cases a with
    | nil => simp at ha
    | snoc a hp al => cases b with
      | nil => simp at hb
      | snoc b hp' al' =>
        obtain ⟨rfl, rfl⟩ := ih a b (by simpa using ha) (by simpa using hb)
        obtain rfl := al.uniq al'
        exact ⟨rfl, rfl⟩
theorem Longest.ahead {row : List Int} {ps : List (Int × Int)} {p : Nat} (L : Longest row ps p) : ∀ k, k < ps.length → ∃ qs q, Longest row qs q ∧ qs.length = k ∧ q < row.length := by
  induction L with
  | nil => intro k h; simp at h
  | snoc L hp al ih =>
    intro k h
    rcases Nat.lt_or_ge k _ with h1 | h1
    · exact ih k h1
    · exact ⟨_, _, L, by simp at h; omega, hp⟩
theorem Longest.end {row : List Int} {ps qs : List (Int × Int)} {p q : Nat} (a : Longest row ps p) (b : Longest row qs q) (hp : row.length ≤ p) (hq : row.length ≤ q) : ps = qs := by
  have one : ∀ {ps qs : List (Int × Int)} {p q : Nat}, Longest row ps p → Longest row qs q → row.length ≤ p → ¬ ps.length < qs.length := by
    intro ps qs p q a b hp h
    obtain ⟨rs, r, c, hc, hr⟩ := b.ahead _ h
    have := (Longest.uniq _ a c rfl hc).2
    omega
  have h1 := one a b hp
  have h2 := one b a hq
  exact (Longest.uniq _ a b rfl (by omega)).1


theorem rd_append {a b : List (Int × Int)} : ∀ {m : List Int}, rd (a ++ b) m = (rd a m).bind (rd b) := by
  induction a with
  | nil => intro m; rfl
  | cons p a ih =>
    intro m
    show (rd1 m p).bind (rd (a ++ b)) = ((rd1 m p).bind (rd a)).bind (rd b)
    cases rd1 m p with
    | none => rfl
    | some m' => exact ih
theorem rd_lit {x : Int} (h0 : 0 ≤ x) (h1 : x ≤ 15) {m : List Int} : rd1 m (x, 0) = some (m ++ [x]) := by
  unfold rd1; rw [if_pos ⟨h0, h1, rfl⟩]
theorem rd_16 {x y : Int} (h0 : 0 ≤ y) (h1 : y < 4) {m : List Int} (hm : m.getLast? = some x) : rd1 m (16, y) = some (m ++ List.replicate (3 + y).toNat x) := by
  unfold rd1; rw [if_neg (by omega), if_pos ⟨rfl, h0, h1⟩, hm]
theorem rd_17 {y : Int} (h0 : 0 ≤ y) (h1 : y < 8) {m : List Int} : rd1 m (17, y) = some (m ++ List.replicate (3 + y).toNat 0) := by
  unfold rd1; rw [if_neg (by omega), if_neg (by omega), if_pos ⟨rfl, h0, h1⟩]
theorem rd_18 {y : Int} (h0 : 0 ≤ y) (h1 : y < 128) {m : List Int} : rd1 m (18, y) = some (m ++ List.replicate (11 + y).toNat 0) := by
  unfold rd1; rw [if_neg (by omega), if_neg (by omega), if_neg (by omega), if_pos ⟨rfl, h0, h1⟩]
theorem rep_add {a b n : Nat} {x : Int} (h : n = a + b) {m : List Int} : m ++ List.replicate n x = m ++ List.replicate a x ++ List.replicate b x := by
  rw [h, List.append_assoc, List.replicate_append_replicate]
theorem last_rep {n : Nat} {x : Int} (h : 0 < n) {m : List Int} : (m ++ List.replicate n x).getLast? = some x := by
  obtain ⟨k, rfl⟩ : ∃ k, n = k + 1 := ⟨n - 1, by omega⟩
  rw [List.replicate_succ', ← List.append_assoc]; simp
theorem rd_lits {x : Int} (h0 : 0 ≤ x) (h1 : x ≤ 15) : ∀ (n : Nat) {m : List Int}, rd (List.replicate n (x, 0)) m = some (m ++ List.replicate n x) := by
  intro n
  induction n with
  | zero => intro m; simp [rd]
  | succ n ih =>
    intro m
    rw [List.replicate_succ]
    show (rd1 m (x, 0)).bind (rd (List.replicate n (x, 0))) = _
    rw [rd_lit h0 h1]
    show rd _ _ = _
    rw [ih, List.replicate_succ]; simp
theorem minB {a b n : Nat} (h : a ≤ n) (hb : a ≤ b) : a ≤ min n b ∧ min n b ≤ b ∧ min n b ≤ n := ⟨Nat.le_min.mpr ⟨h, hb⟩, Nat.min_le_right _ _, Nat.min_le_left _ _⟩
theorem back {a q : Nat} : ((a : Int) + ((q : Int) - (a : Int))).toNat = q := by omega
theorem back_lo {a q : Nat} (h : a ≤ q) : 0 ≤ (q : Int) - (a : Int) := Int.sub_nonneg_of_le (Int.ofNat_le.mpr h)
theorem back_hi {a b q : Nat} (h : q ≤ b) : (q : Int) - (a : Int) < (b : Int) - (a : Int) + 1 := by omega
theorem rd_gz : ∀ (n : Nat) {m : List Int}, rd (gz n) m = some (m ++ List.replicate n 0) := by
  intro n
  induction n using Nat.strongRecOn with
  | ind n ih =>
    intro m
    rw [gz]
    by_cases h11 : 11 ≤ n
    · rw [dif_pos h11]
      obtain ⟨q1, q2, q3⟩ := minB (b := 138) h11 (by decide)
      generalize min n 138 = q at *
      show (rd1 m _).bind (rd _) = _
      rw [rd_18 (y := (q : Int) - 11) (back_lo (a := 11) q1) (back_hi (a := 11) (b := 138) q2)]
      show rd _ _ = _
      rw [ih _ (Nat.sub_lt (Nat.lt_of_lt_of_le (by decide) h11) (Nat.lt_of_lt_of_le (by decide) q1))]
      rw [rep_add (n := n) (a := q) (b := n - q) (Nat.add_sub_cancel' q3).symm]
      rw [show (11 + ((q : Int) - 11)).toNat = q from back (a := 11)]
    · rw [dif_neg h11]
      by_cases h3 : 3 ≤ n
      · rw [if_pos h3]
        show (rd1 m _).bind (rd _) = _
        rw [rd_17 (y := (n : Int) - 3) (back_lo (a := 3) h3) (Int.lt_of_lt_of_le (back_hi (a := 3) (b := 10) (Nat.le_of_lt_succ (Nat.not_le.mp h11))) (by decide)), show (3 + ((n : Int) - 3)).toNat = n from back (a := 3)]
        rfl
      · rw [if_neg h3]; exact rd_lits (Int.le_refl _) (by decide) n
theorem rd_gc {x : Int} (h0 : 0 ≤ x) (h1 : x ≤ 15) : ∀ (n : Nat) {m : List Int}, m.getLast? = some x → rd (gc x n) m = some (m ++ List.replicate n x) := by
  intro n
  induction n using Nat.strongRecOn with
  | ind n ih =>
    intro m hm
    rw [gc]
    by_cases h3 : 3 ≤ n
    · rw [dif_pos h3]
      obtain ⟨q1, q2, q3⟩ := minB (b := 6) h3 (by decide)
      generalize min n 6 = q at *
      have hq : 0 < q := Nat.lt_of_lt_of_le (by decide) q1
      show (rd1 m _).bind (rd _) = _
      rw [rd_16 (y := (q : Int) - 3) (back_lo (a := 3) q1) (back_hi (a := 3) (b := 6) q2) hm]
      show rd _ _ = _
      rw [show (3 + ((q : Int) - 3)).toNat = q from back (a := 3)]
      rw [ih _ (Nat.sub_lt (Nat.lt_of_lt_of_le (by decide) h3) hq) (last_rep hq)]
      rw [rep_add (n := n) (a := q) (b := n - q) (Nat.add_sub_cancel' q3).symm]
    · rw [dif_neg h3]; exact rd_lits h0 h1 n
theorem rd_greedy {x : Int} {n : Nat} (h0 : 0 ≤ x) (h1 : x ≤ 15) (hn : 1 ≤ n) {m : List Int} : rd (greedy x n) m = some (m ++ List.replicate n x) := by
  unfold greedy
  by_cases hx : x = 0
  · subst hx; rw [if_pos rfl]; exact rd_gz n
  · rw [if_neg hx]
    show (rd1 m _).bind (rd _) = _
    rw [rd_lit h0 h1]
    show rd _ _ = _
    rw [rd_gc h0 h1 _ (by simp), rep_add (n := n) (a := 1) (b := n - 1) (by omega)]; rfl
theorem mem_flat {rs : List (Int × Nat)} {x : Int} {n : Nat} (h : (x, n) ∈ rs) (hn : 1 ≤ n) : x ∈ flat rs := by
  induction rs with
  | nil => cases h
  | cons p r ih =>
    show x ∈ List.replicate p.2 p.1 ++ flat r
    rcases List.mem_cons.mp h with rfl | h
    · exact List.mem_append.mpr (.inl (List.mem_replicate.mpr ⟨by show n ≠ 0; omega, rfl⟩))
    · exact List.mem_append.mpr (.inr (ih h))
theorem Good.pos {rs : List (Int × Nat)} : ∀ {o : Option Int}, Good o rs → ∀ p ∈ rs, 1 ≤ p.2 := by
  induction rs with
  | nil => intro _ _ p hp; cases hp
  | cons q r ih =>
    rintro o ⟨h1, _, h3⟩ p hp
    rcases List.mem_cons.mp hp with rfl | hp
    · exact h1
    · exact ih h3 p hp
theorem rd_all : ∀ (rs : List (Int × Nat)) {m : List Int}, (∀ p ∈ rs, 1 ≤ p.2 ∧ 0 ≤ p.1 ∧ p.1 ≤ 15) → rd (greedyAll rs) m = some (m ++ flat rs) := by
  intro rs
  induction rs with
  | nil => intro m _; simp [greedyAll, rd, flat]
  | cons p r ih =>
    intro m h
    have hp := h p (.head _)
    show rd (greedy p.1 p.2 ++ greedyAll r) m = _
    rw [rd_append, rd_greedy hp.2.1 hp.2.2 hp.1]
    show rd _ _ = _
    rw [ih fun q hq => h q (.tail _ hq)]
    show _ = some (m ++ (_ ++ _))
    rw [List.append_assoc]
/-- without prices: what is told reads back as the row, and it is what _law_longest tells -/
theorem greedy_law {row : List Int} (h15 : ∀ x ∈ row, 0 ≤ x ∧ x ≤ 15) : ∃ rs : List (Int × Nat), runsOf row = rs.map (fun p => (p.1, (p.2 : Int))) ∧ (∀ p ∈ rs, 1 ≤ p.2 ∧ p.2 ≤ row.length) ∧ rd (greedyAll rs) [] = some row ∧ (∀ ps p, Longest row ps p → row.length ≤ p → ps = greedyAll rs) := by
  obtain ⟨rs, h1, h2, h3⟩ := runs_good row
  have hlen : ∀ p ∈ rs, p.2 ≤ (flat rs).length := by
    clear h1 h2 h3
    induction rs with
    | nil => intro p hp; cases hp
    | cons q r ih =>
      intro p hp
      show p.2 ≤ (List.replicate q.2 q.1 ++ flat r).length
      rw [List.length_append, List.length_replicate]
      rcases List.mem_cons.mp hp with rfl | hp
      · omega
      · have := ih p hp; omega
  refine ⟨rs, h1, fun p hp => ⟨h3.pos p hp, by have := hlen p hp; rw [h2] at this; exact this⟩, ?_, ?_⟩
  · rw [rd_all rs (fun p hp => ⟨h3.pos p hp, h15 _ (by rw [← h2]; exact mem_flat (x := p.1) (n := p.2) hp (h3.pos p hp))⟩), h2]; rfl
  · intro ps p L hp
    have := longest_all (fun x hx => (h15 x hx).1) rs [] [] h3 h2.symm .nil
    exact L.end this hp (Nat.le_refl _)


/-- cheapest ways, counted from the start and from the end, agree -/
theorem potential {n : Nat} {E : Nat → Nat → Int → Prop} {f g : Nat → Int} (hE : ∀ i j c, E i j c → i < j) (h0 : f 0 = 0)
    (f1 : ∀ m, 1 ≤ m → m ≤ n → ∃ i c, E i m c ∧ f m = f i + c) (f2 : ∀ m, 1 ≤ m → m ≤ n → ∀ i c, E i m c → f m ≤ f i + c)
    (g1 : ∀ i, i < n → ∃ j c, E i j c ∧ j ≤ n ∧ g i = c + g j) (g2 : ∀ i, i < n → ∀ j c, E i j c → j ≤ n → g i ≤ c + g j) : g 0 = f n + g n := by
  have up : ∀ m, m ≤ n → g 0 ≤ f m + g m := by
    intro m
    induction m using Nat.strongRecOn with
    | ind m ih =>
      intro hm
      rcases Nat.eq_zero_or_pos m with rfl | hp
      · rw [h0]; omega
      · obtain ⟨i, c, he, hf⟩ := f1 m hp hm
        have hi := hE i m c he
        have a := ih i hi (by omega)
        have b := g2 i (by omega) m c he hm
        omega
  have down : ∀ k, k ≤ n → f n + g n ≤ f (n - k) + g (n - k) := by
    intro k
    induction k using Nat.strongRecOn with
    | ind k ih =>
      intro hk
      rcases Nat.eq_zero_or_pos k with rfl | hp
      · simp
      · obtain ⟨j, c, he, hj, hg⟩ := g1 (n - k) (by omega)
        have hi := hE _ _ _ he
        have a := ih (n - j) (by omega) (by omega)
        rw [show n - (n - j) = j by omega] at a
        have b := f2 j (by omega) hj _ c he
        omega
  have a := up n (Nat.le_refl _)
  have b := down n (Nat.le_refl _)
  rw [Nat.sub_self, h0] at b
  omega

/-- the steps within a run of x: from place i to place j, at cost c -/
inductive Ed (P : List Int) (x : Int) : Nat → Nat → Int → Prop
  | one {i : Nat} : Ed P x i (i + 1) (P.getD x.toNat 0)
  | copy {i k : Nat} : 1 ≤ i → 3 ≤ k → k ≤ 6 → Ed P x i (i + k) (P.getD 16 0 + 2)
  | few {i k : Nat} : x = 0 → 3 ≤ k → k ≤ 10 → Ed P x i (i + k) (P.getD 17 0 + 3)
  | many {i k : Nat} : x = 0 → 11 ≤ k → k ≤ 138 → Ed P x i (i + k) (P.getD 18 0 + 7)
theorem Ed.lt {P : List Int} {x : Int} {i j : Nat} {c : Int} (h : Ed P x i j c) : i < j := by cases h <;> omega
theorem wk {j hi lo n i : Nat} (h : j < min hi (n - i) - lo) : lo + 1 ≤ lo + 1 + j ∧ lo + 1 + j ≤ hi ∧ i + (lo + 1 + j) ≤ n := by omega
theorem wk2 {k hi lo n i : Nat} (h1 : lo + 1 ≤ k) (h2 : k ≤ hi) (h3 : i + k ≤ n) : k - (lo + 1) < min hi (n - i) - lo ∧ lo + 1 + (k - (lo + 1)) = k := by omega
section
variable {row pre suf P b : List Int} {x : Int} {n : Nat}
theorem RunIn.cond (R : RunIn row pre x n suf) {i : Nat} (hi : i < n) : (0 < pre.length + i ∧ row.getD (pre.length + i - 1) 0 = row.getD (pre.length + i) 0) ↔ 1 ≤ i := by
  rw [R.at hi]
  constructor
  · rintro ⟨h1, h2⟩
    rcases Nat.eq_zero_or_pos i with rfl | h
    · exact absurd h2 (R.prev (by omega))
    · exact h
  · intro h
    refine ⟨by omega, ?_⟩
    have : pre.length + i - 1 = pre.length + (i - 1) := by omega
    rw [this, R.at (by omega)]
theorem RunIn.ways_ed (R : RunIn row pre x n suf) {i : Nat} (hi : i < n) (v : Int) : v ∈ ways row P b (pre.length + i) (n - i) ↔ ∃ j c, Ed P x i j c ∧ j ≤ n ∧ v = c + b.getD (pre.length + j) 0 := by
  unfold ways
  rw [R.at hi]
  have hc := R.cond hi
  rw [R.at hi] at hc
  simp only [hc, List.mem_append, List.mem_singleton]
  constructor
  · rintro ((h | h) | h)
    · exact ⟨i + 1, _, .one, hi, by rw [h]; rfl⟩
    · split at h
      · obtain ⟨j, hj, rfl⟩ := List.mem_map.mp h
        rw [List.mem_range] at hj
        have q := wk (lo := 2) (hi := 6) hj
        exact ⟨i + (3 + j), _, .copy (by assumption) q.1 q.2.1, q.2.2, by rw [Nat.add_assoc]⟩
      · cases h
    · split at h
      · rcases List.mem_append.mp h with h | h
        · obtain ⟨j, hj, rfl⟩ := List.mem_map.mp h
          rw [List.mem_range] at hj
          have q := wk (lo := 2) (hi := 10) hj
          exact ⟨i + (3 + j), _, .few (by assumption) q.1 q.2.1, q.2.2, by rw [Nat.add_assoc]⟩
        · obtain ⟨j, hj, rfl⟩ := List.mem_map.mp h
          rw [List.mem_range] at hj
          have q := wk (lo := 10) (hi := 138) hj
          exact ⟨i + (11 + j), _, .many (by assumption) q.1 q.2.1, q.2.2, by rw [Nat.add_assoc]⟩
      · cases h
  · rintro ⟨j, c, he, hj, rfl⟩
    cases he with
    | one => exact .inl (.inl rfl)
    | @copy k h1 h3 h6 =>
      refine .inl (.inr ?_)
      have q := wk2 (lo := 2) (hi := 6) (n := n) (i := i) h3 h6 hj
      rw [if_pos h1]
      refine List.mem_map.mpr ⟨k - 3, List.mem_range.mpr q.1, ?_⟩
      rw [show 3 + (k - 3) = k from q.2, Nat.add_assoc]
    | @few k h1 h3 h6 =>
      refine .inr ?_
      have q := wk2 (lo := 2) (hi := 10) (n := n) (i := i) h3 h6 hj
      rw [if_pos h1]
      refine List.mem_append.mpr (.inl (List.mem_map.mpr ⟨k - 3, List.mem_range.mpr q.1, ?_⟩))
      rw [show 3 + (k - 3) = k from q.2, Nat.add_assoc]
    | @many k h1 h3 h6 =>
      refine .inr ?_
      have q := wk2 (lo := 10) (hi := 138) (n := n) (i := i) h3 h6 hj
      rw [if_pos h1]
      refine List.mem_append.mpr (.inr (List.mem_map.mpr ⟨k - 11, List.mem_range.mpr q.1, ?_⟩))
      rw [show 11 + (k - 11) = k from q.2, Nat.add_assoc]
theorem RunIn.best (R : RunIn row pre x n suf) (hB : ∀ p, p < row.length → Best row P b p) {f : Nat → Int} (h0 : f 0 = 0)
    (f1 : ∀ m, 1 ≤ m → m ≤ n → ∃ i c, Ed P x i m c ∧ f m = f i + c) (f2 : ∀ m, 1 ≤ m → m ≤ n → ∀ i c, Ed P x i m c → f m ≤ f i + c) : b.getD pre.length 0 = f n + b.getD (pre.length + n) 0 := by
  have key : ∀ i, i < n → IsMin (b.getD (pre.length + i) 0) (ways row P b (pre.length + i) (n - i)) := by
    intro i hi
    obtain ⟨k, hk, hm⟩ := hB (pre.length + i) (by have := R.len; omega)
    rw [hk.uniq (R.alike hi)] at hm
    exact hm
  have := potential (n := n) (E := Ed P x) (f := f) (g := fun i => b.getD (pre.length + i) 0) (fun i j c h => h.lt) h0 f1 f2
    (fun i hi => (R.ways_ed hi _).mp (key i hi).1) (fun i hi j c he hj => (key i hi).2 _ ((R.ways_ed hi _).mpr ⟨j, c, he, hj, rfl⟩))
  exact this
end

/-- the tables of a RunWays for m items: costs, and pieces (size, symbol) -/
structure Made (P : List Int) (len : Int) (ks : List Kd) (m : Nat) (cs : List Int) (pc : List (Int × Int)) : Prop where
  lc : cs.length = m + 1
  lp : pc.length = m + 1
  zero : cs.getD 0 0 = 0
  least : ∀ n : Nat, 1 ≤ n → n ≤ m → Least cs P len n ks (cs.getD n 0) (pc.getD n (0, 0)).1 (pc.getD n (0, 0)).2
def restOf (sym size : Int) : Int := if sym = 18 then size - 11 else if sym = 16 ∨ sym = 17 then size - 3 else 0
/-- what a RunWays tells of the pieces that end at place n -/
inductive Tell (pc : List (Int × Int)) : Nat → List (Int × Int) → Prop
  | zero : Tell pc 0 []
  | step {n : Nat} {ps : List (Int × Int)} : 1 ≤ n → Tell pc (n - (pc.getD n (0, 0)).1.toNat) ps → Tell pc n (ps ++ [((pc.getD n (0, 0)).2, restOf (pc.getD n (0, 0)).2 (pc.getD n (0, 0)).1)])
def kst (k : Kd) : Int × Int × Int × Int := (k.sym, k.fewest, k.most, k.first)
def zeroKinds : List (Int × Int × Int × Int) := [(17, 3, 10, 0), (18, 11, 138, 0), (16, 3, 6, 1)]
def elseKinds : List (Int × Int × Int × Int) := [(16, 3, 6, 0)]
def moreBits (s : Int) : Int := if s = 16 then 2 else if s = 17 then 3 else if s = 18 then 7 else 0
theorem moreBits_lo {x : Int} (h : x ≤ 15) : moreBits x = 0 := by
  unfold moreBits
  rw [if_neg (Int.ne_of_lt (Int.lt_of_le_of_lt h (by decide))), if_neg (Int.ne_of_lt (Int.lt_of_le_of_lt h (by decide))), if_neg (Int.ne_of_lt (Int.lt_of_le_of_lt h (by decide)))]
noncomputable def cost (P : List Int) : List (Int × Int) → Int
  | [] => 0
  | p :: r => P.getD p.1.toNat 0 + moreBits p.1 + cost P r
theorem cost_append {P : List Int} {a b : List (Int × Int)} : cost P (a ++ b) = cost P a + cost P b := by
  induction a with
  | nil => simp [cost]
  | cons p a ih =>
    show _ + _ + cost P (a ++ b) = _ + _ + cost P a + cost P b
    rw [ih]; omega
theorem cost_one {P : List Int} {p : Int × Int} : cost P [p] = P.getD p.1.toNat 0 + moreBits p.1 := by
  show _ + _ + 0 = _; omega

/-- a step of a RunWays, as the piece that it tells -/
structure Piece (P : List Int) (x : Int) (i n : Nat) (c : Int) (sz sym : Int) : Prop where
  lt : i < n
  size : sz = (n : Int) - i
  cost : c = P.getD sym.toNat 0 + moreBits sym
  kind : (sym = x ∧ sz = 1) ∨ (sym = 16 ∧ 3 ≤ sz ∧ sz ≤ 6) ∨ (sym = 17 ∧ x = 0 ∧ 3 ≤ sz ∧ sz ≤ 10) ∨ (sym = 18 ∧ x = 0 ∧ 11 ≤ sz ∧ sz ≤ 138)
theorem kst_mem {ks : List Kd} {l : List (Int × Int × Int × Int)} (h : ks.map kst = l) {k : Kd} (hk : k ∈ ks) : (k.sym, k.fewest, k.most, k.first) ∈ l := by
  rw [← h]; exact List.mem_map_of_mem hk
theorem mem_kst {ks : List Kd} {l : List (Int × Int × Int × Int)} (h : ks.map kst = l) {a b c d : Int} (hk : (a, b, c, d) ∈ l) : ∃ k ∈ ks, k.sym = a ∧ k.fewest = b ∧ k.most = c ∧ k.first = d := by
  rw [← h] at hk
  obtain ⟨k, hk, e⟩ := List.mem_map.mp hk
  simp only [kst, Prod.mk.injEq] at e
  exact ⟨k, hk, e⟩
theorem wz {j : Int} {n : Nat} {fi fe mo : Int} (h1 : fi ≤ j) (h2 : (n : Int) - mo ≤ j) (h3 : j ≤ (n : Int) - fe) (h0 : 0 ≤ fi) (hf : 1 ≤ fe) : ∃ i q : Nat, j = i ∧ n = i + q ∧ fe ≤ (q : Int) ∧ (q : Int) ≤ mo ∧ fi ≤ (i : Int) ∧ 0 < q := by
  obtain ⟨i, rfl⟩ : ∃ i : Nat, j = i := ⟨j.toNat, by omega⟩
  obtain ⟨q, rfl⟩ : ∃ q : Nat, n = i + q := ⟨n - i, by omega⟩
  refine ⟨i, q, rfl, rfl, ?_, ?_, h1, ?_⟩ <;> omega
theorem wq {i q : Nat} : ((i + q : Nat) : Int) - (i : Int) = (q : Int) := by omega
theorem wadd {a b c : Int} : a + b + c = a + (b + c) := Int.add_assoc a b c
theorem way_zero {cs P : List Int} {ks : List Kd} {n : Nat} {v sz sym : Int} (hks : ks.map kst = zeroKinds) (hn : 1 ≤ n) (W : Way cs P 0 n ks v sz sym) :
    ∃ i c, Ed P 0 i n c ∧ v = cs.getD i 0 + c ∧ Piece P 0 i n c sz sym ∧ (sym = 16 → 1 ≤ i) := by
  cases W with
  | one a b c =>
    refine ⟨n - 1, P.getD 0 0, ?_, ?_, ⟨by omega, by omega, by rw [c]; simp [moreBits], .inl ⟨c, b⟩⟩, fun h => by omega⟩
    · have := Ed.one (P := P) (x := 0) (i := n - 1)
      rw [show n - 1 + 1 = n by omega] at this
      exact this
    · rw [a, show ((n : Int) - 1).toNat = n - 1 by omega]; rfl
  | more k j hk h1 h2 h3 hv hs hy =>
    have hm := kst_mem hks hk
    simp only [zeroKinds, List.mem_cons, Prod.mk.injEq, List.not_mem_nil, or_false] at hm
    rcases hm with ⟨e1, e2, e3, e4⟩ | ⟨e1, e2, e3, e4⟩ | ⟨e1, e2, e3, e4⟩
    · rw [e4] at h1; rw [e3] at h2; rw [e2] at h3; rw [e1] at hv hy
      obtain ⟨i, q, rfl, rfl, a, b, _, d⟩ := wz h1 h2 h3 (by decide) (by decide)
      rw [wq] at hs
      exact ⟨i, _, .few rfl (Int.ofNat_le.mp a) (Int.ofNat_le.mp b), hv.trans wadd, ⟨Nat.lt_add_of_pos_right d, hs.trans wq.symm, by rw [hy]; rfl, .inr (.inr (.inl ⟨hy, rfl, hs ▸ a, hs ▸ b⟩))⟩, fun h => absurd (hy.symm.trans h) (by decide)⟩
    · rw [e4] at h1; rw [e3] at h2; rw [e2] at h3; rw [e1] at hv hy
      obtain ⟨i, q, rfl, rfl, a, b, _, d⟩ := wz h1 h2 h3 (by decide) (by decide)
      rw [wq] at hs
      exact ⟨i, _, .many rfl (Int.ofNat_le.mp a) (Int.ofNat_le.mp b), hv.trans wadd, ⟨Nat.lt_add_of_pos_right d, hs.trans wq.symm, by rw [hy]; rfl, .inr (.inr (.inr ⟨hy, rfl, hs ▸ a, hs ▸ b⟩))⟩, fun h => absurd (hy.symm.trans h) (by decide)⟩
    · rw [e4] at h1; rw [e3] at h2; rw [e2] at h3; rw [e1] at hv hy
      obtain ⟨i, q, rfl, rfl, a, b, c, d⟩ := wz h1 h2 h3 (by decide) (by decide)
      rw [wq] at hs
      exact ⟨i, _, .copy (Int.ofNat_le.mp c) (Int.ofNat_le.mp a) (Int.ofNat_le.mp b), hv.trans wadd, ⟨Nat.lt_add_of_pos_right d, hs.trans wq.symm, by rw [hy]; rfl, .inr (.inl ⟨hy, hs ▸ a, hs ▸ b⟩)⟩, fun _ => Int.ofNat_le.mp c⟩
theorem zero_way {cs P : List Int} {ks : List Kd} {n i : Nat} {c : Int} (hks : ks.map kst = zeroKinds) (E : Ed P 0 i n c) : ∃ sz sym, Way cs P 0 n ks (cs.getD i 0 + c) sz sym := by
  cases E with
  | one => exact ⟨_, _, .one (by rw [show ((i + 1 : Nat) : Int) - 1 = (i : Int) by omega]; rfl) rfl rfl⟩
  | copy h1 h3 h6 =>
    obtain ⟨k, hk, e1, e2, e3, e4⟩ := mem_kst hks (a := 16) (b := 3) (c := 6) (d := 1) (by simp [zeroKinds])
    exact ⟨_, _, .more k i hk (by omega) (by omega) (by omega) (by rw [e1]; simp; omega) rfl rfl⟩
  | few h1 h3 h6 =>
    obtain ⟨k, hk, e1, e2, e3, e4⟩ := mem_kst hks (a := 17) (b := 3) (c := 10) (d := 0) (by simp [zeroKinds])
    exact ⟨_, _, .more k i hk (by omega) (by omega) (by omega) (by rw [e1]; simp; omega) rfl rfl⟩
  | many h1 h3 h6 =>
    obtain ⟨k, hk, e1, e2, e3, e4⟩ := mem_kst hks (a := 18) (b := 11) (c := 138) (d := 0) (by simp [zeroKinds])
    exact ⟨_, _, .more k i hk (by omega) (by omega) (by omega) (by rw [e1]; simp; omega) rfl rfl⟩
/-- not nought: the places are counted from the second item of the run on -/
theorem way_else {cs P : List Int} {x : Int} {ks : List Kd} {n : Nat} {v sz sym : Int} (h15 : x ≤ 15) (hks : ks.map kst = elseKinds) (hn : 1 ≤ n) (W : Way cs P x n ks v sz sym) :
    ∃ i c, Ed P x (i + 1) (n + 1) c ∧ v = cs.getD i 0 + c ∧ Piece P x i n c sz sym := by
  cases W with
  | one a b c =>
    refine ⟨n - 1, P.getD x.toNat 0, ?_, ?_, ⟨by omega, by omega, ?_, .inl ⟨c, b⟩⟩⟩
    · have := Ed.one (P := P) (x := x) (i := n - 1 + 1)
      rw [show n - 1 + 1 + 1 = n + 1 by omega] at this
      exact this
    · rw [a, show ((n : Int) - 1).toNat = n - 1 by omega]
    · rw [c, moreBits_lo h15, Int.add_zero]
  | more k j hk h1 h2 h3 hv hs hy =>
    have hm := kst_mem hks hk
    simp only [elseKinds, List.mem_cons, Prod.mk.injEq, List.not_mem_nil, or_false] at hm
    obtain ⟨e1, e2, e3, e4⟩ := hm
    rw [e4] at h1; rw [e3] at h2; rw [e2] at h3; rw [e1] at hv hy
    obtain ⟨i, q, rfl, rfl, a, b, _, d⟩ := wz h1 h2 h3 (by decide) (by decide)
    rw [wq] at hs
    refine ⟨i, P.getD 16 0 + 2, ?_, hv.trans wadd, ⟨Nat.lt_add_of_pos_right d, hs.trans wq.symm, by rw [hy]; rfl, .inr (.inl ⟨hy, hs ▸ a, hs ▸ b⟩)⟩⟩
    have := Ed.copy (P := P) (x := x) (i := i + 1) (k := q) (Nat.le_add_left 1 i) (Int.ofNat_le.mp a) (Int.ofNat_le.mp b)
    rw [Nat.add_right_comm] at this
    exact this
theorem else_way {cs P : List Int} {x : Int} {ks : List Kd} {n i : Nat} {c : Int} (hx : x ≠ 0) (hks : ks.map kst = elseKinds) (E : Ed P x (i + 1) (n + 1) c) : ∃ sz sym, Way cs P x n ks (cs.getD i 0 + c) sz sym := by
  generalize hj : i + 1 = j at E
  generalize hm : n + 1 = m at E
  cases E with
  | one =>
    obtain rfl : n = i + 1 := by omega
    exact ⟨_, _, .one (by rw [show ((i + 1 : Nat) : Int) - 1 = (i : Int) by omega]; rfl) rfl rfl⟩
  | copy h1 h3 h6 =>
    obtain ⟨k, hk, e1, e2, e3, e4⟩ := mem_kst hks (a := 16) (b := 3) (c := 6) (d := 0) (by simp [elseKinds])
    exact ⟨_, _, .more k i hk (by omega) (by omega) (by omega) (by rw [e1]; simp; omega) rfl rfl⟩
  | few h => exact absurd h hx
  | many h => exact absurd h hx
theorem sz_ok {sz a b : Int} (h1 : a ≤ sz) (h2 : sz ≤ b) : 0 ≤ sz - a ∧ sz - a < b - a + 1 := by omega
theorem sz_nat {i n : Nat} {sz a : Int} (h : i < n) (e : sz = (n : Int) - i) : (a + (sz - a)).toNat = n - i := by omega
theorem sz_one {i n : Nat} (h : i < n) (e : (1 : Int) = (n : Int) - i) : 1 = n - i := by omega
theorem lo_ne {x y : Int} (h : x ≤ 15) (hy : 15 < y) : x ≠ y := Int.ne_of_lt (Int.lt_of_le_of_lt h hy)
section
variable {P cs : List Int} {pc : List (Int × Int)} {ks : List Kd} {x : Int} {m : Nat}
theorem Piece.reads {i n : Nat} {c sz sym : Int} (H : Piece P x i n c sz sym) (h0 : 0 ≤ x) (h15 : x ≤ 15) {made : List Int} (hl : sym = 16 → (made ++ List.replicate i x).getLast? = some x) :
    rd [(sym, restOf sym sz)] (made ++ List.replicate i x) = some (made ++ List.replicate n x) := by
  obtain ⟨hlt, hsz, _, hk⟩ := H
  have fin : ∀ k : Nat, k = n - i → some (made ++ List.replicate i x ++ List.replicate k x) = some (made ++ List.replicate n x) := by
    intro k hk
    rw [rep_add (n := n) (a := i) (b := k) (by rw [hk]; exact (Nat.add_sub_cancel' (Nat.le_of_lt hlt)).symm)]
  show (rd1 _ _).bind _ = _
  rcases hk with ⟨rfl, h1⟩ | ⟨rfl, h1, h2⟩ | ⟨rfl, rfl, h1, h2⟩ | ⟨rfl, rfl, h1, h2⟩
  · have e : restOf sym sz = 0 := by unfold restOf; rw [if_neg (lo_ne h15 (by decide)), if_neg (fun q => q.elim (lo_ne h15 (by decide)) (lo_ne h15 (by decide)))]
    rw [e, rd_lit h0 h15]
    exact fin 1 (sz_one hlt (h1.symm.trans hsz))
  · rw [show restOf 16 sz = sz - 3 from rfl, rd_16 (sz_ok h1 h2).1 (sz_ok h1 h2).2 (hl rfl)]
    exact fin _ (sz_nat hlt hsz)
  · rw [show restOf 17 sz = sz - 3 from rfl, rd_17 (sz_ok h1 h2).1 (sz_ok h1 h2).2]
    exact fin _ (sz_nat hlt hsz)
  · rw [show restOf 18 sz = sz - 11 from rfl, rd_18 (sz_ok h1 h2).1 (sz_ok h1 h2).2]
    exact fin _ (sz_nat hlt hsz)
theorem tell_zero (M : Made P 0 ks m cs pc) (hks : ks.map kst = zeroKinds) : ∀ {n : Nat} {ps : List (Int × Int)}, Tell pc n ps → n ≤ m → (∀ made, rd ps made = some (made ++ List.replicate n 0)) ∧ cost P ps = cs.getD n 0 := by
  intro n ps T
  induction T with
  | zero => intro _; exact ⟨fun made => by simp [rd], M.zero.symm⟩
  | @step n ps hn _ ih =>
    intro hm
    obtain ⟨i, c, _, hv, hp, h16⟩ := way_zero hks hn (M.least n hn hm).way
    have hi : n - (pc.getD n (0, 0)).1.toNat = i := by have := hp.size; have := hp.lt; omega
    rw [hi] at ih
    obtain ⟨h1, h2⟩ := ih (by have := hp.lt; omega)
    refine ⟨fun made => ?_, ?_⟩
    · rw [rd_append, h1]
      exact hp.reads (Int.le_refl _) (by omega) (fun e => last_rep (h16 e))
    · rw [cost_append, cost_one, h2, hv, ← hp.cost]
theorem tell_else (M : Made P x ks m cs pc) (h0 : 0 ≤ x) (h15 : x ≤ 15) (hks : ks.map kst = elseKinds) : ∀ {n : Nat} {ps : List (Int × Int)}, Tell pc n ps → n ≤ m → (∀ made, made.getLast? = some x → rd ps made = some (made ++ List.replicate n x)) ∧ cost P ps = cs.getD n 0 := by
  intro n ps T
  induction T with
  | zero => intro _; exact ⟨fun made _ => by simp [rd], M.zero.symm⟩
  | @step n ps hn _ ih =>
    intro hm
    obtain ⟨i, c, _, hv, hp⟩ := way_else h15 hks hn (M.least n hn hm).way
    have hi : n - (pc.getD n (0, 0)).1.toNat = i := by have := hp.size; have := hp.lt; omega
    rw [hi] at ih
    obtain ⟨h1, h2⟩ := ih (by have := hp.lt; omega)
    refine ⟨fun made hl => ?_, ?_⟩
    · rw [rd_append, h1 made hl]
      refine hp.reads h0 h15 (fun e => ?_)
      rcases Nat.eq_zero_or_pos i with rfl | hpos
      · simpa using hl
      · exact last_rep hpos
    · rw [cost_append, cost_one, h2, hv, ← hp.cost]
end
/-- what is told of one run -/
inductive Packed (P : List Int) : Int → Nat → List (Int × Int) → Prop
  | zero {n : Nat} {ks : List Kd} {cs : List Int} {pc ps : List (Int × Int)} : ks.map kst = zeroKinds → Made P 0 ks n cs pc → Tell pc n ps → Packed P 0 n ps
  | one {x : Int} {n : Nat} : x ≠ 0 → n = 1 → Packed P x n [(x, 0)]
  | more {x : Int} {n : Nat} {ks : List Kd} {cs : List Int} {pc ps : List (Int × Int)} : x ≠ 0 → 1 < n → ks.map kst = elseKinds → Made P x ks (n - 1) cs pc → Tell pc (n - 1) ps → Packed P x n ((x, 0) :: ps)
inductive Pack (P : List Int) : List (Int × Nat) → List (Int × Int) → Prop
  | nil : Pack P [] []
  | snoc {rs : List (Int × Nat)} {x : Int} {n : Nat} {ps qs : List (Int × Int)} : Pack P rs ps → Packed P x n qs → Pack P (rs ++ [(x, n)]) (ps ++ qs)
theorem Packed.reads {P : List Int} {x : Int} {n : Nat} {ps : List (Int × Int)} (H : Packed P x n ps) (h0 : 0 ≤ x) (h15 : x ≤ 15) {made : List Int} : rd ps made = some (made ++ List.replicate n x) := by
  cases H with
  | zero hks M T => exact (tell_zero M hks T (Nat.le_refl _)).1 made
  | one hx hn =>
    subst hn
    show (rd1 _ _).bind _ = _
    rw [rd_lit h0 h15]; rfl
  | more hx hn hks M T =>
    show (rd1 _ _).bind (rd _) = _
    rw [rd_lit h0 h15]
    show rd _ _ = _
    rw [(tell_else M h0 h15 hks T (Nat.le_refl _)).1 _ (by simp), rep_add (n := n) (a := 1) (b := n - 1) (by omega)]; rfl
theorem Packed.least {row pre suf P b : List Int} {x : Int} {n : Nat} {ps : List (Int × Int)} (H : Packed P x n ps) (h0 : 0 ≤ x) (h15 : x ≤ 15) (R : RunIn row pre x n suf) (hB : ∀ p, p < row.length → Best row P b p) :
    b.getD pre.length 0 = cost P ps + b.getD (pre.length + n) 0 := by
  cases H with
  | @zero _ ks cs pc _ hks M T =>
    rw [(tell_zero M hks T (Nat.le_refl _)).2]
    refine R.best hB (f := fun i => cs.getD i 0) M.zero ?_ ?_
    · intro m hm hn
      obtain ⟨i, c, he, hv, _⟩ := way_zero hks hm (M.least m hm hn).way
      exact ⟨i, c, he, hv⟩
    · intro m hm hn i c he
      obtain ⟨sz, sym, W⟩ := zero_way (cs := cs) hks he
      exact (M.least m hm hn).least _ _ _ W
  | one hx hn =>
    subst hn
    rw [cost_one]
    have := R.best hB (f := fun i => if i = 0 then 0 else P.getD x.toNat 0) rfl ?_ ?_
    · rw [this]
      show P.getD x.toNat 0 + _ = P.getD x.toNat 0 + _ + _
      rw [moreBits_lo h15, Int.add_zero]
    · intro m hm hn
      obtain rfl : m = 1 := by omega
      exact ⟨0, _, .one, by simp⟩
    · intro m hm hn i c he
      obtain rfl : m = 1 := by omega
      generalize hq : 1 = q at he
      cases he with
      | one => obtain rfl : i = 0 := by omega
               simp
      | copy => omega
      | few => omega
      | many => omega
  | @more _ _ ks cs pc qs hx hn hks M T =>
    have hT := (tell_else M h0 h15 hks T (Nat.le_refl _)).2
    have := R.best hB (f := fun i => if i = 0 then 0 else P.getD x.toNat 0 + cs.getD (i - 1) 0) rfl ?_ ?_
    · rw [this]
      show (if n = 0 then 0 else _) + _ = P.getD x.toNat 0 + moreBits x + cost P qs + _
      rw [if_neg (Nat.ne_of_gt (Nat.lt_trans Nat.zero_lt_one hn)), hT, moreBits_lo h15, Int.add_zero]
    · intro m hm hn'
      rcases Nat.lt_or_ge m 2 with h2 | h2
      · obtain rfl : m = 1 := by omega
        refine ⟨0, _, .one, ?_⟩
        show P.getD x.toNat 0 + cs.getD 0 0 = 0 + _
        rw [M.zero]; omega
      · obtain ⟨i, c, he, hv, _⟩ := way_else h15 hks (n := m - 1) (by omega) (M.least (m - 1) (by omega) (by omega)).way
        rw [show m - 1 + 1 = m by omega] at he
        refine ⟨i + 1, c, he, ?_⟩
        show (if m = 0 then 0 else _) = (if i + 1 = 0 then 0 else _) + c
        rw [if_neg (by omega), if_neg (by omega), hv, show i + 1 - 1 = i from rfl]; omega
    · intro m hm hn' i c he
      show (if m = 0 then 0 else _) ≤ (if i = 0 then 0 else _) + c
      rw [if_neg (by omega)]
      rcases Nat.eq_zero_or_pos i with rfl | hi
      · rw [if_pos rfl]
        generalize hq : 0 = q at he
        cases he with
        | one =>
          subst hq
          show P.getD x.toNat 0 + cs.getD 0 0 ≤ _
          rw [M.zero]; omega
        | copy h1 => omega
        | few h => exact absurd h hx
        | many h => exact absurd h hx
      · rw [if_neg (by omega)]
        have hlt := he.lt
        rw [show m = m - 1 + 1 by omega, show i = i - 1 + 1 by omega] at he
        obtain ⟨sz, sym, W⟩ := else_way (cs := cs) hx hks he
        have := (M.least (m - 1) (by omega) (by omega)).least _ _ _ W
        omega
/-- with prices: what is told reads back as the row, and costs the fewest bits -/
theorem pack_law {row P b : List Int} {rs : List (Int × Nat)} {ps : List (Int × Int)} (h15 : ∀ x ∈ row, 0 ≤ x ∧ x ≤ 15) (g : Good none rs) (e : flat rs = row) (H : Pack P rs ps)
    (hB : ∀ p, p < row.length → Best row P b p) (hb : b.getD row.length 0 = 0) : rd ps [] = some row ∧ cost P ps = b.getD 0 0 := by
  have key : ∀ {rs' : List (Int × Nat)} {ps : List (Int × Int)}, Pack P rs' ps → ∀ r, rs = rs' ++ r → rd ps [] = some (flat rs') ∧ b.getD 0 0 = cost P ps + b.getD (flat rs').length 0 := by
    intro rs' ps H
    induction H with
    | nil => intro r _; exact ⟨rfl, by simp [cost, flat]⟩
    | @snoc rs' x n ps qs _ hq ih =>
      intro r hr
      have hr' : rs = rs' ++ (x, n) :: r := by rw [hr]; simp
      obtain ⟨h1, h2⟩ := ih _ hr'
      rw [hr'] at g
      obtain ⟨R, hn⟩ := g.runIn (row := row) (by rw [← e, hr'])
      have hx := h15 x (by
        have h1 := R.at (i := 0) (by omega)
        have h2 := R.len
        rw [List.getD_eq_getElem?_getD, List.getElem?_eq_getElem (by omega)] at h1
        simp only [Option.getD_some] at h1
        rw [← h1]; exact List.getElem_mem _)
      refine ⟨?_, ?_⟩
      · rw [rd_append, h1, flat_append, flat_one]; exact hq.reads hx.1 hx.2
      · rw [h2, hq.least hx.1 hx.2 R hB, cost_append, flat_append, flat_one, List.length_append, List.length_replicate]; omega
  obtain ⟨h1, h2⟩ := key H [] (by simp)
  rw [e] at h1 h2
  exact ⟨h1, by omega⟩


abbrev tup3 (x : Int) (t : Tok) (y : Int) (u : Tok) (z : Int) (v : Tok) : Obj := { cls := .type "tuple", data := .seq [Value.int x t, Value.int y u, Value.int z v].toArray }
/-- an object of the class RunWays -/
structure RunAt (h : Heap) (x dx : Nat) (len : Int) (pl c pc kl : Nat) : Prop where
  inst : h.get? x = some (instObj 96 dx)
  dict : ∃ n h1 h2 h3 h4 h5 t1 t2 t3 t4 t5 u1, h.get? dx = some (dictOf [ent h1 (Str.ofString "length") t1 (.int len u1), ent h2 (Str.ofString "prices") t2 (.ref pl), ent h3 (Str.ofString "costs") t3 (.ref c), ent h4 (Str.ofString "pieces") t4 (.ref pc), ent h5 (Str.ofString "kinds") t5 (.ref kl)] n)
theorem ne_kind {h₀ h : Heap} {L : Addr} {led : Led} {a b : Nat} {o o' : Obj} (N : News h₀ L h led) (ha : (a, o) ∈ led) (hb : (b, o') ∈ led) (ho : o.cls ≠ o'.cls) : a ≠ b := by
  rintro rfl
  have h1 := (N _ ha).1
  have h2 := (N _ hb).1
  rw [h1] at h2
  cases h2
  exact ho rfl
theorem off_ents {a : Nat} {ks : List Kd} (h : a ∉ ks.map Kd.q) : ∀ p ∈ ks.map Kd.ent, p.1 ≠ a := by
  intro p hp e
  obtain ⟨y, hy, rfl⟩ := List.mem_map.mp hp
  exact h (by rw [← e]; exact List.mem_map_of_mem hy)
theorem stat_split {ks done : List Kd} {i : Nat} (h : done.map Kd.stat = (ks.take i).map Kd.stat) : (done ++ ks.drop i).map Kd.stat = ks.map Kd.stat := by
  rw [List.map_append, h, ← List.map_append, List.take_append_drop]
theorem NearAt.keep {g h : Heap} {x dx c q : Nat} {a b d : Int} (H : NearAt g x dx a b d c q) (K : ∀ y o, g.get? y = some o → h.get? y = some o) : NearAt h x dx a b d c q := by
  obtain ⟨h1, n, a1, a2, a3, a4, a5, b1, b2, b3, b4, b5, e1, e2, e3, h2⟩ := H
  exact ⟨K _ _ h1, n, a1, a2, a3, a4, a5, b1, b2, b3, b4, b5, e1, e2, e3, K _ _ h2⟩
theorem at_step {w : World} {A : Around} {h₀ : Heap} {L : Addr} {m : Str → Option Value} {s : Shared} {Q : Value → Shared → Prop} {E : Value → Shared → Prop} (pre : Led) (done : List Kd) {rest : List Kd} {kd : Kd}
    {x dx c nc n : Nat} {cvs : List Value} {cs : List Int} {tc : Tok}
    (C : Cx w 550 A h₀ L) (F : Fr h₀ L s.heap m) (N : News h₀ L s.heap (pre ++ (done ++ kd :: rest).map Kd.ent)) (hpre : ∀ p ∈ pre, p.1 ≠ kd.q) (hnd : ((done ++ kd :: rest).map Kd.q).Nodup)
    (hx : NearAt h₀ x dx kd.fewest kd.most kd.first c kd.q) (hcm : (c, listOf cvs.toArray nc) ∈ pre) (hcI : IntsAre cvs cs) (hn : cs.length = n) (hn2 : n ≤ 500) (hok : kd.Ok cs ((n : Int) - 1))
    (k0 : ∀ (h' : Heap) (tk : Nat), (n : Int) - kd.fewest < kd.first → kd.Ok cs n → Fr h₀ L h' m → News h₀ L h' (pre ++ (done ++ kd :: rest).map Kd.ent) → Q .none { s with heap := h', toks := tk })
    (k1 : ∀ (h' : Heap) (tk : Nat) (k' : Kd) (j : Int) (t : Tok), k'.stat = kd.stat → k'.Ok cs n → Fr h₀ L h' m → News h₀ L h' (pre ++ (done ++ k' :: rest).map Kd.ent) → 0 ≤ j → j < n → (kd.first ≤ j ∧ (n : Int) - kd.most ≤ j ∧ j ≤ n - kd.fewest) →
      (∀ i, kd.first ≤ i → (n : Int) - kd.most ≤ i → i ≤ n - kd.fewest → cs.getD j.toNat 0 ≤ cs.getD i.toNat 0) → Q (.int j t) { s with heap := h', toks := tk }) :
    wpAny (model Challenge.rw_no0091_01.row.prog w) A (call (.ref 51) [.ref x, .int (n : Int) tc] []) Q E s := by
  have hqm : kd.ent ∈ pre ++ (done ++ kd :: rest).map Kd.ent := List.mem_append.mpr (.inr (List.mem_map_of_mem (by simp)))
  have hq := N _ hqm
  have hcN := N _ (List.mem_append.mpr (.inl hcm))
  have hM : ∀ a ∈ [kd.q], a ≠ L ∧ h₀.get? a = none := by
    intro a ha
    rw [List.mem_singleton.mp ha]; exact hq.2
  have hoff : ∀ a o, h₀.get? a = some o → a ≠ kd.q := fun a o e q => by rw [q] at e; have := hq.2.2; rw [show kd.ent.1 = kd.q from rfl, e] at this; cases this
  obtain ⟨⟨hsy, hf0, hfw, hmo⟩, hI, hV⟩ := hok
  have hx2 := hx
  obtain ⟨hx1, _, _, _, _, _, _, _, _, _, _, _, _, _, _, hx3⟩ := hx2
  refine wpAny_call (at_spec (nq := kd.n) (qvs := kd.vs) (qs := kd.qs) C F ?_ (hx.keep F.keep) (hpre _ hcm) (hoff _ _ hx1) (hoff _ _ hx3) ⟨_, hcN.1, rfl, nc, rfl⟩ hcI hI (by omega) (hV.len hf0 (by omega)) ?_ hf0 (by omega) hmo ?_ ?_)
  · intro p hp
    rw [List.mem_singleton.mp hp]; exact hq
  · intro j hj
    have := hV.mem j hj
    omega
  · intro hlt h' tk S hg
    refine k0 h' tk hlt ⟨⟨hsy, hf0, hfw, hmo⟩, hI, ?_⟩ (backFr F S hM) (news_kd N S hg rfl hpre hnd)
    rw [hV.nil_of (by omega)]
    exact QInv.empty hlt
  · intro hge h' tk qvs' qs' nq' j t S hg hI' hT hj
    have hV' : QInv cs kd.first ((n : Int) - kd.most) ((n : Int) - kd.fewest) qs' := by
      have e1 : (n : Int) - kd.most = (n : Int) - 1 - kd.most + 1 := by omega
      have e2 : (n : Int) - kd.fewest = (n : Int) - 1 - kd.fewest + 1 := by omega
      have hh := hV.turn (qs' := qs') (by omega) (by omega) (by rw [← e2, ← e1]; exact hT)
      rw [← e1, ← e2] at hh
      exact hh
    have hb := hV'.best hj
    exact k1 h' tk { kd with vs := qvs', qs := qs', n := nq' } j t rfl ⟨⟨hsy, hf0, hfw, hmo⟩, hI', hV'⟩ (backFr F S hM) (news_kd N S hg rfl hpre hnd) (by omega) (by omega) hb.1 hb.2
theorem Least.none {cs P : List Int} {len n v sz sym : Int} {ks : List Kd} {kd : Kd} (H : Least cs P len n ks v sz sym) (h : n - kd.fewest < kd.first) : Least cs P len n (ks ++ [kd]) v sz sym := by
  refine ⟨?_, ?_⟩
  · cases H.way with
    | one a b c => exact .one a b c
    | more k j hk h1 h2 h3 hv hs hy => exact .more k j (List.mem_append.mpr (.inl hk)) h1 h2 h3 hv hs hy
  · intro v' sz' sym' W
    cases W with
    | one a b c => exact H.least _ _ _ (.one a b c)
    | more k j hk h1 h2 h3 hv hs hy =>
      rcases List.mem_append.mp hk with hk | hk
      · exact H.least _ _ _ (.more k j hk h1 h2 h3 hv hs hy)
      · rw [List.mem_singleton.mp hk] at h1 h3
        omega
theorem Least.old {cs P : List Int} {len n v sz sym j cost : Int} {ks : List Kd} {kd : Kd} (H : Least cs P len n ks v sz sym) (hb : ∀ i, kd.first ≤ i → n - kd.most ≤ i → i ≤ n - kd.fewest → cs.getD j.toNat 0 ≤ cs.getD i.toNat 0)
    (hc : cost = cs.getD j.toNat 0 + P.getD kd.sym.toNat 0 + (if kd.sym = 16 then 2 else if kd.sym = 17 then 3 else 7)) (h : ¬ cost < v) : Least cs P len n (ks ++ [kd]) v sz sym := by
  refine ⟨?_, ?_⟩
  · cases H.way with
    | one a b c => exact .one a b c
    | more k j hk h1 h2 h3 hv hs hy => exact .more k j (List.mem_append.mpr (.inl hk)) h1 h2 h3 hv hs hy
  · intro v' sz' sym' W
    cases W with
    | one a b c => exact H.least _ _ _ (.one a b c)
    | more k i hk h1 h2 h3 hv hs hy =>
      rcases List.mem_append.mp hk with hk | hk
      · exact H.least _ _ _ (.more k i hk h1 h2 h3 hv hs hy)
      · rw [List.mem_singleton.mp hk] at h1 h2 h3 hv
        have := hb i h1 h2 h3
        omega
theorem Least.new {cs P : List Int} {len n v sz sym j cost : Int} {ks : List Kd} {kd : Kd} (H : Least cs P len n ks v sz sym) (hj : kd.first ≤ j ∧ n - kd.most ≤ j ∧ j ≤ n - kd.fewest) (hb : ∀ i, kd.first ≤ i → n - kd.most ≤ i → i ≤ n - kd.fewest → cs.getD j.toNat 0 ≤ cs.getD i.toNat 0)
    (hc : cost = cs.getD j.toNat 0 + P.getD kd.sym.toNat 0 + (if kd.sym = 16 then 2 else if kd.sym = 17 then 3 else 7)) (h : cost < v) : Least cs P len n (ks ++ [kd]) cost (n - j) kd.sym := by
  refine ⟨.more kd j (List.mem_append.mpr (.inr (.head _))) hj.1 hj.2.1 hj.2.2 hc rfl rfl, ?_⟩
  intro v' sz' sym' W
  cases W with
  | one a b c => have := H.least _ _ _ (.one a b c); omega
  | more k i hk h1 h2 h3 hv hs hy =>
    rcases List.mem_append.mp hk with hk | hk
    · have := H.least _ _ _ (.more k i hk h1 h2 h3 hv hs hy); omega
    · rw [List.mem_singleton.mp hk] at h1 h2 h3 hv
      have := hb i h1 h2 h3
      omega
theorem take_drop {ks : List Kd} {kd : Kd} {i : Nat} (h : ks.drop i = kd :: ks.drop (i + 1)) : ks.take (i + 1) = ks.take i ++ [kd] := by
  have e := List.take_append_drop i ks
  have hl : i < ks.length := by
    have := congrArg List.length h
    simp only [List.length_drop, List.length_cons] at this
    omega
  rw [List.take_succ_eq_append_getElem hl]
  rw [List.drop_eq_getElem_cons hl] at h
  rw [(List.cons.inj h).1]
theorem addEnd {g h' : Heap} {L1 : Addr} {m' : Str → Option Value} {I x c pc nc np n i tk : Nat} {oI : Obj} {gn : Array GenState} {dr : Drawn} {os : OsState} {cvs ppvs : List Value} {cs P : List Int} {len : Int} {ks done : List Kd} {kd : Kd} {all : Led} {tc : Tok} (F : Fr g L1 h' m') (N : News g L1 h' all)
    (k' : Kd) (b : Nat) (v sz sym : Int) (t1 t2 t3 : Tok)
    (sub : ∀ p ∈ (I, oI) :: (b, tup3 v t1 sz t2 sym t3) :: (c, listOf cvs.toArray nc) :: (pc, listOf ppvs.toArray np) :: (done ++ k' :: ks.drop (i + 1)).map Kd.ent, p ∈ all)
    (ob : b ≠ I) (oc : c ≠ I) (op : pc ≠ I) (oo : LCg.Off1 I ((done ++ kd :: ks.drop (i + 1)).map Kd.ent))
    (hm : Names m' [(Str.ofString "self", .ref x), (Str.ofString "count", .int (n : Int) tc), (Str.ofString "best", .ref b)])
    (hst : k'.stat = kd.stat) (hdrop : ks.drop i = kd :: ks.drop (i + 1)) (hdn : done.map Kd.stat = (ks.take i).map Kd.stat) (hdo : ∀ k ∈ done, k.Ok cs n) (hk' : k'.Ok cs n)
    (hle : Least cs P len n (ks.take i ++ [kd]) v sz sym) :
    Stop (∃ h'' tk' m'' nx', (⟨h', gn, dr, tk, os⟩ : Shared) = ⟨h'', gn, dr, tk', os⟩ ∧ Fr g L1 h'' m'' ∧ News g L1 h'' ((I, oI) :: nx') ∧ (∀ p ∈ nx', p.1 ≠ I) ∧
      Stop (∃ (done : List Kd) (b : Nat) (v sz sym : Int) (tv ts ty : Tok), nx' = (b, tup3 v tv sz ts sym ty) :: (c, listOf cvs.toArray nc) :: (pc, listOf ppvs.toArray np) :: (done ++ ks.drop (i + 1)).map Kd.ent ∧ Names m'' [(Str.ofString "self", .ref x), (Str.ofString "count", .int (n : Int) tc), (Str.ofString "best", .ref b)] ∧
    done.map Kd.stat = (ks.take (i + 1)).map Kd.stat ∧ (∀ k ∈ done, k.Ok cs n) ∧ Least cs P len n (ks.take (i + 1)) v sz sym)) := by
  have hq : k'.q = kd.q := by simp only [Kd.stat, Prod.mk.injEq] at hst; exact hst.2.2.2.2
  refine forEnd F N _ sub ?_ ⟨done ++ [k'], b, v, sz, sym, _, _, _, by rw [List.append_assoc]; rfl, hm, ?_, ?_, ?_⟩
  · refine on1 ⟨ob, oc, op, off1 ?_⟩
    intro p hp
    obtain ⟨y, hy, rfl⟩ := List.mem_map.mp hp
    have hoo := on1 oo
    rcases List.mem_append.mp hy with hy | hy
    · exact hoo _ (List.mem_map_of_mem (List.mem_append.mpr (.inl hy)))
    · rcases List.mem_cons.mp hy with rfl | hy
      · show y.q ≠ I
        rw [hq]
        exact hoo kd.ent (List.mem_map_of_mem (List.mem_append.mpr (.inr (.head _))))
      · exact hoo _ (List.mem_map_of_mem (List.mem_append.mpr (.inr (.tail _ hy))))
  · rw [take_drop hdrop, List.map_append, List.map_append, hdn]
    simp [hst]
  · intro k hk
    rcases List.mem_append.mp hk with hk | hk
    · exact hdo k hk
    · rw [List.mem_singleton.mp hk]; exact hk'
  · rw [take_drop hdrop]; exact hle

theorem add_spec {w : World} {A : Around} {h₀ : Heap} {L : Addr} {m : Str → Option Value} {s : Shared} {R : Result → Shared → Prop}
    {x dx pl c pc kl nc np : Nat} {len : Int} {tc : Tok} {kvs pvs cvs ppvs : List Value} {P cs : List Int} {ks : List Kd} {n : Nat}
    (C : Cx w 500 A h₀ L) (F : Fr h₀ L s.heap m) (N : News h₀ L s.heap ((c, listOf cvs.toArray nc) :: (pc, listOf ppvs.toArray np) :: ks.map Kd.ent))
    (hx : RunAt s.heap x dx len pl c pc kl) (hkl : s.heap.IsList kl kvs.toArray) (hK : KindsAre s.heap c kvs ks) (hpl : s.heap.IsList pl pvs.toArray) (hP : IntsAre pvs P) (hP19 : P.length = 19)
    (hcI : IntsAre cvs cs) (hn : cs.length = n) (hn1 : 1 ≤ n) (hn2 : n ≤ 500) (hpp : ppvs.length ≤ 1000) (hl0 : 0 ≤ len) (hl15 : len ≤ 15)
    (hok : ∀ k ∈ ks, k.Ok cs ((n : Int) - 1)) (hnd : (c :: pc :: ks.map Kd.q).Nodup) (hko : kl ∉ c :: pc :: ks.map Kd.q) (hpo : pl ∉ c :: pc :: ks.map Kd.q)
    (k : ∀ (h' : Heap) (tk : Nat) (v : Int) (t : Tok) (sz sym : Int) (t2 u2 : Tok) (tp : Nat) (ks' : List Kd) (nc' np' : Nat), Same (c :: pc :: ks.map Kd.q) s.heap h' → h'.get? c = some (listOf (cvs ++ [Value.int v t]).toArray nc') → h'.get? pc = some (listOf (ppvs ++ [Value.ref tp]).toArray np') → h'.get? tp = some (tup2 sz t2 sym u2) → s.heap.get? tp = none →
      ks'.map Kd.stat = ks.map Kd.stat → (∀ k ∈ ks', k.Ok cs n ∧ h'.get? k.q = some k.ent.2) → Least cs P len n ks v sz sym → R (.ok (.ret .none)) { s with heap := h', toks := tk }) :
    codeAny (model Challenge.rw_no0091_01.row.prog w) A (.call (.ref 79) ⟨[.ref x, .int (n : Int) tc], []⟩) R s := by
  have hll : ∀ p ∈ ((c, listOf cvs.toArray nc) :: (pc, listOf ppvs.toArray np) :: ks.map Kd.ent), p.2.cls = .type "list" := by
    intro p hp
    rcases List.mem_cons.mp hp with rfl | hp
    · rfl
    · rcases List.mem_cons.mp hp with rfl | hp
      · rfl
      · obtain ⟨y, _, rfl⟩ := List.mem_map.mp hp; rfl
  have hkd : ∀ a o, s.heap.get? a = some o → o.cls ≠ .type "list" → a ∉ ((c, listOf cvs.toArray nc) :: (pc, listOf ppvs.toArray np) :: ks.map Kd.ent).map (·.1) := fun a o e ho => off_kind N hll e ho
  have hmap : ((c, listOf cvs.toArray nc) :: (pc, listOf ppvs.toArray np) :: ks.map Kd.ent).map (·.1) = c :: pc :: ks.map Kd.q := by
    simp only [List.map_cons, List.map_map]; rfl
  have hX := Cx.inX ‹Cx _ _ _ _ _›
  revert hX
  k_fill
  intro _
  refine' enterP2 ?zoC ?zoF ?zoN ?zok6 ?zok7 ?zok8 ?zok9 ?zokB ?_ ?zoc2 ?zoc3 ?zoc4 ?zoc5; (case zoC => assumption); (case zoF => assumption); (case zoN => assumption); (case zok6 => k_is); (case zok7 => k_is); (case zok8 => decide); (case zok9 => first | exact BindsTo.of_eq rfl | exact binds_K (by k_in) rfl (by k_is) rfl rfl rfl); (case zoc5 => decide); (case zokB => exact locs rfl); (case zoc2 => exact rfl); (case zoc3 => exact rfl); (case zoc4 => exact rfl)
  k_whole
  intro g1 L1 h1 tk1 d1 u1 fs1 gd1 gn1 dr1 os1 Q1 E1 lo1 me1 mg1 mb1 F1' N1' C1 X1 T1 hE1 hu1 st hQ hN
  (try dsimp only)
  have hklg : (_ : Heap).IsList kl kvs.toArray := hkl.at fun o e => st _ o e (by rw [hmap]; exact hko)
  have hplg : (_ : Heap).IsList pl pvs.toArray := hpl.at fun o e => st _ o e (by rw [hmap]; exact hpo)
  have hKg := hK.keep fun a o e ho => st a o e (hkd a o e ho)
  obtain ⟨hx1, nd, hh1, hh2, hh3, hh4, hh5, t1, t2, t3, t4, t5, u1, hdx1⟩ := hx
  have hxg := st _ _ hx1 (hkd _ _ hx1 (by simp))
  have hdg := st _ _ hdx1 (hkd _ _ hdx1 (by simp))
  all_goals k_steps
  refine Stop.mk ?_
  rename News _ _ _ _ => N1
  rename Fr _ _ _ _ => F1
  have hKl := hKg.len
  have hcl := hcI.length
  refine for_list (vs := kvs) (fun i m nx => Stop (∃ (done : List Kd) (b : Nat) (v sz sym : Int) (tv ts ty : Tok), nx = (b, tup3 v tv sz ts sym ty) :: (c, listOf cvs.toArray nc) :: (pc, listOf ppvs.toArray np) :: (done ++ ks.drop i).map Kd.ent ∧ Names m [(Str.ofString "self", .ref x), (Str.ofString "count", .int (n : Int) tc), (Str.ofString "best", .ref b)] ∧
    done.map Kd.stat = (ks.take i).map Kd.stat ∧ (∀ k ∈ done, k.Ok cs n) ∧ Least cs P len n (ks.take i) v sz sym)) rfl ?_ F1 N1 ?_ ?_ ?_ ?_ ?_
  · exact hklg.at fun o e => F1.keep _ o e
  · refine ⟨[], _, _, _, _, _, _, _, rfl, ⟨rfl, rfl, rfl, trivial⟩, rfl, (fun _ h => nomatch h), .one rfl rfl rfl, ?_⟩
    intro v' sz' sym' W
    cases W with
    | one a _ _ => rw [a]; exact Int.le_refl _
    | more k j hk => cases hk
  · intro i m₁ nx h _ F2 _
    exact hklg.at fun o e => F2.keep _ o e
  · intro I i v s' Q' E' hit hv hq
    obtain ⟨t', x', dx', u', k', rfl, _⟩ := hKg.getK i v hv
    exact wpAny_letOwnedTupleGo_listiter hit hq
  · intro I i v oI m₁ nx h tk hi hv hJ off F2 N2 QQ hEnd hRet
    revert hJ
    refine stopE (ex8 fun done b bv bz by' tv ts ty => and5 ?_)
    rintro rfl hm hdn hdo hle
    obtain ⟨t', x', dx', u', kd', rfl, hdrop, ht', hx'⟩ := hKg.getK i v hv
    have F3 := frK hm F2
    clear F2 F1 N1 hm
    obtain ⟨hi1, hi2, hi3⟩ : c ∉ (done ++ ks.drop i).map Kd.q ∧ pc ∉ (done ++ ks.drop i).map Kd.q ∧ ((done ++ ks.drop i).map Kd.q).Nodup := by
      rw [Kd.q_of_stat (stat_split hdn)]
      exact ⟨fun h => (List.nodup_cons.mp hnd).1 (.tail _ h), (List.nodup_cons.mp (List.nodup_cons.mp hnd).2).1, (List.nodup_cons.mp (List.nodup_cons.mp hnd).2).2⟩
    have hx2 := hx'
    obtain ⟨hx'1, nd', a1, a2, a3, a4, a5, b1, b2, b3, b4, b5, e1, e2, e3, hx'2⟩ := hx'
    have hT2 : IsTup _ t' [Value.int kd'.sym u', Value.ref x'].toArray := ⟨_, ht', rfl, _, rfl⟩
    k_steps
    refine Stop.mk ?_
    rename News _ _ _ _ => N4
    rename Fr _ _ _ _ => F4
    have hkm : kd' ∈ ks := List.mem_of_mem_drop (i := i) (by rw [hdrop]; exact .head _)
    rw [hdrop] at N4 hi1 hi2 hi3 off
    refine at_step [(I, oI), (b, tup3 bv tv bz ts by' ty), (c, listOf cvs.toArray nc), (pc, listOf ppvs.toArray np)] done (Cx.wide (by k_asm) (by decide)) F4 N4 ?_ hi3 hx2 (.tail _ (.tail _ (.head _))) hcI hn (by omega) (hok _ hkm) ?_ ?_
    · have hqm : kd'.ent ∈ (done ++ kd' :: ks.drop (i + 1)).map Kd.ent := List.mem_map_of_mem (List.mem_append.mpr (.inr (.head _)))
      have hqq : kd'.q ∈ (done ++ kd' :: ks.drop (i + 1)).map Kd.q := List.mem_map_of_mem (List.mem_append.mpr (.inr (.head _)))
      intro p hp
      rcases List.mem_cons.mp hp with rfl | hp
      · exact (off _ (.tail _ (.tail _ (.tail _ hqm)))).symm
      · rcases List.mem_cons.mp hp with rfl | hp
        · exact ne_kind N4 (.tail _ (.head _)) (.tail _ (.tail _ (.tail _ (.tail _ hqm)))) (by simp [Kd.ent])
        · rcases List.mem_cons.mp hp with rfl | hp
          · intro e
            exact hi1 (by rw [show c = kd'.q from e]; exact hqq)
          · rw [List.mem_singleton.mp hp]
            intro e
            exact hi2 (by rw [show pc = kd'.q from e]; exact hqq)
    · intro h5 tk5 hlt hok5 F5 N5
      clear F4 N4
      simp only [List.cons_append, List.nil_append] at N5
      k_steps
      rename News _ _ _ _ => N6
      rename Fr _ _ _ _ => F6
      exact hEnd _ <| addEnd F6 N6 kd' b bv bz by' tv ts ty (fun p hp => hp) (off _ (.head _)) (off _ (.tail _ (.head _))) (off _ (.tail _ (.tail _ (.head _)))) (off1 fun q hq => off q (.tail _ (.tail _ (.tail _ hq)))) ⟨rfl, rfl, rfl, trivial⟩ rfl hdrop hdn hdo hok5 (hle.none hlt)
    · intro h5 tk5 k5 j5 t5 hst5 hok5 F5 N5 hj0 hjn hjw hjb
      clear F4 N4
      simp only [List.cons_append, List.nil_append] at N5
      have hs5 : k5.sym = kd'.sym := by simp only [Kd.stat, Prod.mk.injEq] at hst5; exact hst5.1
      rcases hok5.fine.sym with h16 | h17 | h18
      ·
        have hsy : kd'.sym = 16 := hs5.symm.trans h16
        rw [hsy] at F5
        k_steps
        · rename News _ _ _ _ => N6
          rename Fr _ _ _ _ => F6
          rename (_ < bv) => hlt
          have hnew := hle.new hjw hjb (cost := cs.getD j5.toNat 0 + P.getD (Int.toNat 16) 0 + _) (by rw [hsy]; rfl) hlt
          rw [hsy] at hnew
          exact hEnd _ <| addEnd F6 N6 k5 _ _ _ _ _ _ _ (sub2 (.tail _ (.head _)) (.head _) (fun q hq => .tail _ (.tail _ (.tail _ hq)))) (by k_ne) (off _ (.tail _ (.head _))) (off _ (.tail _ (.tail _ (.head _)))) (off1 fun q hq => off q (.tail _ (.tail _ (.tail _ hq)))) ⟨rfl, rfl, rfl, trivial⟩ hst5 hdrop hdn hdo hok5 hnew
        · rename News _ _ _ _ => N6
          rename Fr _ _ _ _ => F6
          rename (¬ _ < bv) => hlt
          exact hEnd _ <| addEnd F6 N6 k5 b bv bz by' tv ts ty (fun p hp => hp) (off _ (.head _)) (off _ (.tail _ (.head _))) (off _ (.tail _ (.tail _ (.head _)))) (off1 fun q hq => off q (.tail _ (.tail _ (.tail _ hq)))) ⟨rfl, rfl, rfl, trivial⟩ hst5 hdrop hdn hdo hok5 (hle.old hjb (cost := cs.getD j5.toNat 0 + P.getD (Int.toNat 16) 0 + _) (by rw [hsy]; rfl) hlt)
      ·
        have hsy : kd'.sym = 17 := hs5.symm.trans h17
        rw [hsy] at F5
        k_steps
        · rename News _ _ _ _ => N6
          rename Fr _ _ _ _ => F6
          rename (_ < bv) => hlt
          have hnew := hle.new hjw hjb (cost := cs.getD j5.toNat 0 + P.getD (Int.toNat 17) 0 + _) (by rw [hsy]; rfl) hlt
          rw [hsy] at hnew
          exact hEnd _ <| addEnd F6 N6 k5 _ _ _ _ _ _ _ (sub2 (.tail _ (.head _)) (.head _) (fun q hq => .tail _ (.tail _ (.tail _ hq)))) (by k_ne) (off _ (.tail _ (.head _))) (off _ (.tail _ (.tail _ (.head _)))) (off1 fun q hq => off q (.tail _ (.tail _ (.tail _ hq)))) ⟨rfl, rfl, rfl, trivial⟩ hst5 hdrop hdn hdo hok5 hnew
        · rename News _ _ _ _ => N6
          rename Fr _ _ _ _ => F6
          rename (¬ _ < bv) => hlt
          exact hEnd _ <| addEnd F6 N6 k5 b bv bz by' tv ts ty (fun p hp => hp) (off _ (.head _)) (off _ (.tail _ (.head _))) (off _ (.tail _ (.tail _ (.head _)))) (off1 fun q hq => off q (.tail _ (.tail _ (.tail _ hq)))) ⟨rfl, rfl, rfl, trivial⟩ hst5 hdrop hdn hdo hok5 (hle.old hjb (cost := cs.getD j5.toNat 0 + P.getD (Int.toNat 17) 0 + _) (by rw [hsy]; rfl) hlt)
      ·
        have hsy : kd'.sym = 18 := hs5.symm.trans h18
        rw [hsy] at F5
        k_steps
        · rename News _ _ _ _ => N6
          rename Fr _ _ _ _ => F6
          rename (_ < bv) => hlt
          have hnew := hle.new hjw hjb (cost := cs.getD j5.toNat 0 + P.getD (Int.toNat 18) 0 + _) (by rw [hsy]; rfl) hlt
          rw [hsy] at hnew
          exact hEnd _ <| addEnd F6 N6 k5 _ _ _ _ _ _ _ (sub2 (.tail _ (.head _)) (.head _) (fun q hq => .tail _ (.tail _ (.tail _ hq)))) (by k_ne) (off _ (.tail _ (.head _))) (off _ (.tail _ (.tail _ (.head _)))) (off1 fun q hq => off q (.tail _ (.tail _ (.tail _ hq)))) ⟨rfl, rfl, rfl, trivial⟩ hst5 hdrop hdn hdo hok5 hnew
        · rename News _ _ _ _ => N6
          rename Fr _ _ _ _ => F6
          rename (¬ _ < bv) => hlt
          exact hEnd _ <| addEnd F6 N6 k5 b bv bz by' tv ts ty (fun p hp => hp) (off _ (.head _)) (off _ (.tail _ (.head _))) (off _ (.tail _ (.tail _ (.head _)))) (off1 fun q hq => off q (.tail _ (.tail _ (.tail _ hq)))) ⟨rfl, rfl, rfl, trivial⟩ hst5 hdrop hdn hdo hok5 (hle.old hjb (cost := cs.getD j5.toNat 0 + P.getD (Int.toNat 18) 0 + _) (by rw [hsy]; rfl) hlt)
  · intro m₁ nx h tk hJ F2 N2
    revert hJ
    refine stopE (ex8 fun done b bv bz by' tv ts ty => and5 ?_)
    rintro rfl hm hdn hdo hle
    simp only [hKl, List.drop_length, List.append_nil, List.take_length] at hdn hle N2
    have F3 := frK hm F2
    have hst := hdn
    obtain ⟨hi1, hi2, hi3⟩ : c ∉ done.map Kd.q ∧ pc ∉ done.map Kd.q ∧ (done.map Kd.q).Nodup := by
      rw [Kd.q_of_stat hst]
      exact ⟨fun h => (List.nodup_cons.mp hnd).1 (.tail _ h), (List.nodup_cons.mp (List.nodup_cons.mp hnd).2).1, (List.nodup_cons.mp (List.nodup_cons.mp hnd).2).2⟩
    have hbc := ne_kind N2 (a := b) (b := c) (.head _) (.tail _ (.head _)) (by simp)
    have hbp := ne_kind N2 (a := b) (b := pc) (.head _) (.tail _ (.tail _ (.head _))) (by simp)
    have hcp : c ≠ pc := fun e => (List.nodup_cons.mp hnd).1 (by rw [e]; exact .head _)
    have hoc := off_ents hi1
    have hop := off_ents hi2
    clear F2 F1 N1 hm
    k_steps
    rename News _ _ _ _ => N4
    rename Fr _ _ _ _ => F4
    refine hN _ _ ?_
    refine k _ _ bv _ bz by' _ _ _ done _ _ (hmap ▸ sameOf st F4) (N4.get (.tail _ (.tail _ (.head _)))) (N4.get (.tail _ (.tail _ (.tail _ (.head _))))) (N4.get (.head _)) (freshOf st N4 (.head _) ?_) hst (fun k hk => ⟨hdo k hk, N4.get (.tail _ (.tail _ (.tail _ (.tail _ (show k.ent ∈ done.map Kd.ent from List.mem_map_of_mem hk)))))⟩) hle
    rw [hmap]
    intro hmm
    rcases List.mem_cons.mp hmm with e | hmm
    · exact ne_kind N4 (.head _) (.tail _ (.tail _ (.head _))) (by simp) e
    · rcases List.mem_cons.mp hmm with e | hmm
      · exact ne_kind N4 (.head _) (.tail _ (.tail _ (.tail _ (.head _)))) (by simp) e
      · rw [← Kd.q_of_stat hst] at hmm
        obtain ⟨y, hy, e⟩ := List.mem_map.mp hmm
        exact ne_kind N4 (.head _) (.tail _ (.tail _ (.tail _ (.tail _ (show y.ent ∈ done.map Kd.ent from List.mem_map_of_mem hy))))) (by simp) e.symm


theorem Cx.under {w : World} {D D' : Nat} {A : Around} {h₀ : Heap} {L : Addr} {c : Addr} {pos : List Value} {kw : List (Str × Value)} (C : Cx w D A h₀ L) (h : D + 2 ≤ D') : Cx w D' (A.under (.builtin "type.__call__" ⟨.ref c :: pos, kw⟩)) h₀ L := by
  obtain ⟨A₀, base, env, outer, gd, d, u, loose, mean, mg, mb, rfl, hd, hu, hfr, hke, B, X, T⟩ := C.ex
  refine ⟨A₀, base, env, outer, _, _, _, loose, mean, mg, mb, rfl, ?_, ?_, hfr, hke, B, X, T⟩
  · show d + 1 ≤ D'
    omega
  · show u + 1 ≤ D'
    omega
theorem Way.snoc {cs P : List Int} {len n v sz sym z : Int} {ks : List Kd} (hf : ∀ k ∈ ks, 0 ≤ k.first ∧ 1 ≤ k.fewest) (h1 : 1 ≤ n) (hn : n ≤ cs.length) : Way (cs ++ [z]) P len n ks v sz sym ↔ Way cs P len n ks v sz sym := by
  constructor
  · intro W
    cases W with
    | one a b c => exact .one (by rw [a, getD_snoc (by omega)]) b c
    | more k j hk a b c hv hs hy => have := hf k hk; exact .more k j hk a b c (by rw [hv, getD_snoc (by omega)]) hs hy
  · intro W
    cases W with
    | one a b c => exact .one (by rw [a, getD_snoc (by omega)]) b c
    | more k j hk a b c hv hs hy => have := hf k hk; exact .more k j hk a b c (by rw [hv, getD_snoc (by omega)]) hs hy
theorem Least.snoc {cs P : List Int} {len n v sz sym z : Int} {ks : List Kd} (hf : ∀ k ∈ ks, 0 ≤ k.first ∧ 1 ≤ k.fewest) (h1 : 1 ≤ n) (hn : n ≤ cs.length) (H : Least cs P len n ks v sz sym) : Least (cs ++ [z]) P len n ks v sz sym :=
  ⟨(Way.snoc hf h1 hn).mpr H.way, fun v' sz' sym' W => H.least v' sz' sym' ((Way.snoc hf h1 hn).mp W)⟩
theorem getD_end {α : Type} {l : List α} {x d : α} {n : Nat} (h : n = l.length) : (l ++ [x]).getD n d = x := by
  subst h
  rw [List.getD_eq_getElem?_getD]; simp
theorem getD_in {α : Type} {l : List α} {x d : α} {n : Nat} (h : n < l.length) : (l ++ [x]).getD n d = l.getD n d := by
  rw [List.getD_eq_getElem?_getD, List.getD_eq_getElem?_getD, List.getElem?_append_left h]
theorem Made.snoc {P : List Int} {len : Int} {ks : List Kd} {m : Nat} {cs : List Int} {pc : List (Int × Int)} {v sz sym : Int} (M : Made P len ks m cs pc) (hf : ∀ k ∈ ks, 0 ≤ k.first ∧ 1 ≤ k.fewest) (H : Least cs P len ((m + 1 : Nat) : Int) ks v sz sym) :
    Made P len ks (m + 1) (cs ++ [v]) (pc ++ [(sz, sym)]) := by
  have l1 := M.lc
  have l2 := M.lp
  refine ⟨by rw [List.length_append, l1]; rfl, by rw [List.length_append, l2]; rfl, by rw [getD_in (by omega)]; exact M.zero, ?_⟩
  intro n h1 hn
  rcases Nat.lt_or_ge m n with h | h
  · obtain rfl : n = m + 1 := by omega
    rw [getD_end (by omega), getD_end (by omega)]
    exact H.snoc hf (by omega) (by omega)
  · rw [getD_in (by omega), getD_in (by omega)]
    exact (M.least n h1 h).snoc hf (by omega) (by omega)
theorem Least.of_stat {cs P : List Int} {len n v sz sym : Int} {ks ks' : List Kd} (h : ks'.map Kd.stat = ks.map Kd.stat) (H : Least cs P len n ks v sz sym) : Least cs P len n ks' v sz sym :=
  ⟨Kd.way_of_stat h H.way, fun v' sz' sym' W => H.least v' sz' sym' (Kd.way_of_stat h.symm W)⟩
theorem Kd.Ok.snoc {cs : List Int} {n : Nat} {k : Kd} {z : Int} (H : k.Ok cs (n : Int)) (hn : cs.length = n) : k.Ok (cs ++ [z]) (n : Int) := by
  have h1 := H.fine.first
  have h2 := H.fine.fewest
  exact ⟨H.fine, H.isI, H.inv.snoc h1 (by omega)⟩

theorem mem_of_get {h : Heap} {a : Nat} {o : Obj} {l : Led} (hp : ∀ p ∈ l, h.get? p.1 = some p.2) (hm : (a, o) ∈ l) : h.get? a = some o := hp _ hm
theorem add_step {w : World} {A : Around} {h₀ : Heap} {L : Addr} {m : Str → Option Value} {s : Shared} {Q : Value → Shared → Prop} {E : Value → Shared → Prop} (pre : Led)
    {x dx pl c pc kl nc np : Nat} {len count : Int} {tc : Tok} {kvs pvs cvs ppvs : List Value} {P cs : List Int} {ks : List Kd} (n : Nat)
    (C : Cx w 500 A h₀ L) (F : Fr h₀ L s.heap m) (N : News h₀ L s.heap (pre ++ ((c, listOf cvs.toArray nc) :: (pc, listOf ppvs.toArray np) :: ks.map Kd.ent))) (hpre : ∀ p ∈ pre, p.1 ∉ c :: pc :: ks.map Kd.q)
    (hcount : count = (n : Int)) (hx : RunAt s.heap x dx len pl c pc kl) (hkl : s.heap.IsList kl kvs.toArray) (hK : KindsAre s.heap c kvs ks) (hpl : s.heap.IsList pl pvs.toArray) (hP : IntsAre pvs P) (hP19 : P.length = 19)
    (hcI : IntsAre cvs cs) (hn : cs.length = n) (hn1 : 1 ≤ n) (hn2 : n ≤ 500) (hpp : ppvs.length ≤ 1000) (hl0 : 0 ≤ len) (hl15 : len ≤ 15)
    (hok : ∀ k ∈ ks, k.Ok cs ((n : Int) - 1)) (hnd : (c :: pc :: ks.map Kd.q).Nodup) (hko : kl ∉ c :: pc :: ks.map Kd.q) (hpo : pl ∉ c :: pc :: ks.map Kd.q)
    (k : ∀ (h' : Heap) (tk : Nat) (v : Int) (t : Tok) (sz sym : Int) (t2 u2 : Tok) (tp : Nat) (ks' : List Kd) (nc' np' : Nat), Fr h₀ L h' m →
      News h₀ L h' ((tp, tup2 sz t2 sym u2) :: (pre ++ ((c, listOf (cvs ++ [Value.int v t]).toArray nc') :: (pc, listOf (ppvs ++ [Value.ref tp]).toArray np') :: ks'.map Kd.ent))) → tp ∉ c :: pc :: ks.map Kd.q → (∀ p ∈ pre, p.1 ≠ tp) →
      ks'.map Kd.stat = ks.map Kd.stat → (∀ k ∈ ks', k.Ok cs n) → Least cs P len n ks v sz sym → Q .none { s with heap := h', toks := tk }) :
    wpAny (model Challenge.rw_no0091_01.row.prog w) A (call (.ref 79) [.ref x, .int count tc] []) Q E s := by
  subst hcount
  have Nin : ∀ p, p ∈ (c, listOf cvs.toArray nc) :: (pc, listOf ppvs.toArray np) :: ks.map Kd.ent → s.heap.get? p.1 = some p.2 ∧ p.1 ≠ L ∧ h₀.get? p.1 = none := fun p hp => N p (List.mem_append.mpr (.inr hp))
  have hmap : ((c, listOf cvs.toArray nc) :: (pc, listOf ppvs.toArray np) :: ks.map Kd.ent).map (·.1) = c :: pc :: ks.map Kd.q := by
    simp only [List.map_cons, List.map_map]; rfl
  have hin : ∀ a ∈ c :: pc :: ks.map Kd.q, ∃ o, s.heap.get? a = some o ∧ a ≠ L ∧ h₀.get? a = none := by
    intro a ha
    rw [← hmap] at ha
    obtain ⟨p, hp, rfl⟩ := List.mem_map.mp ha
    exact ⟨p.2, Nin p hp⟩
  refine wpAny_call (add_spec C F (fun p hp => Nin p hp) hx hkl hK hpl hP hP19 hcI hn hn1 hn2 hpp hl0 hl15 hok hnd hko hpo ?_)
  intro h' tk v t sz sym t2 u2 tp ks' nc' np' S hc hpc htp hnew hst hks hle
  have F' := backFr F S fun a ha => (hin a ha).choose_spec.2
  refine k h' tk v t sz sym t2 u2 tp ks' nc' np' F' ?_ ?_ ?_ hst (fun k hk => (hks k hk).1) hle
  · intro p hp
    rcases List.mem_cons.mp hp with rfl | hp
    · exact ⟨htp, newOf F hnew⟩
    · rcases List.mem_append.mp hp with hp | hp
      · have := N p (List.mem_append.mpr (.inl hp))
        exact ⟨S _ _ (hpre p hp) this.1, this.2⟩
      · rcases List.mem_cons.mp hp with rfl | hp
        · exact ⟨hc, (Nin _ (.head _)).2⟩
        · rcases List.mem_cons.mp hp with rfl | hp
          · exact ⟨hpc, (Nin _ (.tail _ (.head _))).2⟩
          · obtain ⟨y, hy, rfl⟩ := List.mem_map.mp hp
            have hq : y.q ∈ ks.map Kd.q := by rw [← Kd.q_of_stat hst]; exact List.mem_map_of_mem hy
            exact ⟨(hks y hy).2, (hin _ (.tail _ (.tail _ hq))).choose_spec.2⟩
  · intro hm
    obtain ⟨o, ho, _⟩ := hin _ hm
    rw [hnew] at ho; cases ho
  · intro p hp e
    have := (N p (List.mem_append.mpr (.inl hp))).1
    rw [e, hnew] at this; cases this

/-- a RunWays in the heap, with the pieces that it has found -/
def RunsAre (h : Heap) (x : Nat) (pcs : List (Int × Int)) : Prop :=
  ∃ (dx pl c pc kl np : Nat) (len : Int) (ppvs : List Value) (led : Led), RunAt h x dx len pl c pc kl ∧ h.get? pc = some (listOf (Value.none :: ppvs).toArray np) ∧ (∀ q ∈ led, h.get? q.1 = some q.2) ∧ PairsAre led ppvs pcs
def IsNearD (o : Obj) (fewest most first : Int) (c q : Nat) : Prop :=
  ∃ n h1 h2 h3 h4 h5 t1 t2 t3 t4 t5 u1 u2 u3, o = dictOf [ent h1 (Str.ofString "first") t1 (.int first u1), ent h2 (Str.ofString "fewest") t2 (.int fewest u2), ent h3 (Str.ofString "most") t3 (.int most u3), ent h4 (Str.ofString "costs") t4 (.ref c), ent h5 (Str.ofString "queue") t5 (.ref q)] n
def IsRunD (o : Obj) (len : Int) (pl c pc kl : Nat) : Prop :=
  ∃ n h1 h2 h3 h4 h5 t1 t2 t3 t4 t5 u1, o = dictOf [ent h1 (Str.ofString "length") t1 (.int len u1), ent h2 (Str.ofString "prices") t2 (.ref pl), ent h3 (Str.ofString "costs") t3 (.ref c), ent h4 (Str.ofString "pieces") t4 (.ref pc), ent h5 (Str.ofString "kinds") t5 (.ref kl)] n
theorem IsNearD.at {h : Heap} {o : Obj} {x dx : Nat} {a b d : Int} {c q : Nat} (H : IsNearD o a b d c q) (h1 : h.get? x = some (instObj 54 dx)) (h2 : h.get? dx = some o) : NearAt h x dx a b d c q := by
  obtain ⟨n, a1, a2, a3, a4, a5, b1, b2, b3, b4, b5, e1, e2, e3, rfl⟩ := H
  exact ⟨h1, n, a1, a2, a3, a4, a5, b1, b2, b3, b4, b5, e1, e2, e3, h2⟩
theorem IsRunD.at {h : Heap} {o : Obj} {x dx : Nat} {len : Int} {pl c pc kl : Nat} (H : IsRunD o len pl c pc kl) (h1 : h.get? x = some (instObj 96 dx)) (h2 : h.get? dx = some o) : RunAt h x dx len pl c pc kl := by
  obtain ⟨n, a1, a2, a3, a4, a5, b1, b2, b3, b4, b5, e1, rfl⟩ := H
  exact ⟨h1, n, a1, a2, a3, a4, a5, b1, b2, b3, b4, b5, e1, h2⟩
/-- a RunWays before its loop: ks its kinds, cst what does not change any more -/
structure Ready (g h : Heap) (L : Addr) (x dx pl : Nat) (len : Int) (l : List (Int × Int × Int × Int)) (c nc pc np kl : Nat) (tc0 : Tok) (kvs : List Value) (ks : List Kd) (cst : Led) (D : Obj) : Prop where
  news : News g L h ((x, instObj 96 dx) :: (dx, D) :: (cst ++ ((c, listOf [Value.int 0 tc0].toArray nc) :: (pc, listOf [Value.none].toArray np) :: ks.map Kd.ent)))
  isD : IsRunD D len pl c pc kl
  facts : ∀ h' : Heap, (∀ p ∈ cst, h'.get? p.1 = some p.2) → h'.IsList kl kvs.toArray ∧ KindsAre h' c kvs ks
  kinds : ks.map kst = l
  fresh : ∀ k ∈ ks, k.Fine ∧ k.vs = [] ∧ k.qs = []
  nd : (c :: pc :: ks.map Kd.q).Nodup
  off : ∀ p ∈ (x, instObj 96 dx) :: (dx, D) :: cst, p.1 ∉ c :: pc :: ks.map Kd.q
  isk : kl ∈ cst.map (·.1)
abbrev tupR (a : Int) (u : Tok) (x : Nat) : Obj := { cls := .type "tuple", data := .seq #[Value.int a u, Value.ref x] }
theorem allCons {a : Addr × Obj} {r : Led} {P : Addr × Obj → Prop} (ha : P a) (hr : ∀ q ∈ r, P q) : ∀ q ∈ a :: r, P q := by
  intro q hq
  rcases List.mem_cons.mp hq with rfl | hq
  · exact ha
  · exact hr q hq
theorem allNil {P : Addr × Obj → Prop} : ∀ q ∈ ([] : Led), P q := fun _ h => nomatch h
theorem nIn {x a : Nat} {l : List Nat} (h : x ≠ a) (hr : x ∉ l) : x ∉ a :: l := fun q => (List.mem_cons.mp q).elim h hr
theorem nNil {x : Nat} : x ∉ ([] : List Nat) := fun h => nomatch h
section
variable {x a b c d e : Nat}
theorem lows (h : x < a) (h1 : a < b) (h2 : b < c) : x ∉ [a, b, c] := nIn (Nat.ne_of_lt h) (nIn (Nat.ne_of_lt (Nat.lt_trans h h1)) (nIn (Nat.ne_of_lt (Nat.lt_trans (Nat.lt_trans h h1) h2)) nNil))
theorem mids (h1 : a < b) (h : b < x) (h' : x < c) : x ∉ [a, b, c] := nIn (Nat.ne_of_gt (Nat.lt_trans h1 h)) (nIn (Nat.ne_of_gt h) (nIn (Nat.ne_of_lt h') nNil))
theorem highs (h1 : a < b) (h2 : b < c) (h : c < x) : x ∉ [a, b, c] := nIn (Nat.ne_of_gt (Nat.lt_trans h1 (Nat.lt_trans h2 h))) (nIn (Nat.ne_of_gt (Nat.lt_trans h2 h)) (nIn (Nat.ne_of_gt h) nNil))
theorem nodup3 (h1 : a < b) (h2 : b < c) : [a, b, c].Nodup := List.nodup_cons.mpr ⟨nIn (Nat.ne_of_lt h1) (nIn (Nat.ne_of_lt (Nat.lt_trans h1 h2)) nNil), List.nodup_cons.mpr ⟨nIn (Nat.ne_of_lt h2) nNil, List.nodup_cons.mpr ⟨nNil, List.nodup_nil⟩⟩⟩
theorem gap0 (h : x < a) (h1 : a < b) (h2 : b < c) (h3 : c < d) (h4 : d < e) : x ∉ [a, b, c, d, e] := by simp only [List.mem_cons, List.not_mem_nil, or_false]; omega
theorem gap2 (h1 : a < b) (h : b < x) (h' : x < c) (h3 : c < d) (h4 : d < e) : x ∉ [a, b, c, d, e] := by simp only [List.mem_cons, List.not_mem_nil, or_false]; omega
theorem gap3 (h1 : a < b) (h2 : b < c) (h : c < x) (h' : x < d) (h4 : d < e) : x ∉ [a, b, c, d, e] := by simp only [List.mem_cons, List.not_mem_nil, or_false]; omega
theorem gap4 (h1 : a < b) (h2 : b < c) (h3 : c < d) (h : d < x) (h' : x < e) : x ∉ [a, b, c, d, e] := by simp only [List.mem_cons, List.not_mem_nil, or_false]; omega
theorem gap5 (h1 : a < b) (h2 : b < c) (h3 : c < d) (h4 : d < e) (h : e < x) : x ∉ [a, b, c, d, e] := by simp only [List.mem_cons, List.not_mem_nil, or_false]; omega
theorem nodup5 (h1 : a < b) (h2 : b < c) (h3 : c < d) (h4 : d < e) : [a, b, c, d, e].Nodup :=
  List.nodup_cons.mpr ⟨fun q => by simp only [List.mem_cons, List.not_mem_nil, or_false] at q; omega, List.nodup_cons.mpr ⟨lows h2 h3 h4, nodup3 h3 h4⟩⟩
end
theorem ready1 {g h : Heap} {L : Addr} {x dx pl c pc kl x1 d1 q1 t1 n1 n2 n3 nk : Nat} {len : Int} {tc0 u1 : Tok} {o1 D : Obj} {kvs : Array Value}
    (N : News g L h [(kl, listOf kvs nk), (t1, tupR 16 u1 x1), (q1, listOf #[] n3), (x1, instObj 54 d1), (d1, o1), (pc, listOf #[Value.none] n2), (c, listOf #[Value.int 0 tc0] n1), (x, instObj 96 dx), (dx, D)])
    (hk : kvs = [Value.ref t1].toArray) (h1 : IsNearD o1 3 6 0 c q1) (hD : IsRunD D len pl c pc kl)
    (l0 : dx < x) (l1 : x < c) (l2 : c < pc) (l3 : pc < d1) (l4 : d1 < x1) (l5 : x1 < q1) (l6 : q1 < t1) (l7 : t1 < kl) :
    ∃ cst ks n' h1' h2' h3' h4' h5' t1' t2' t3' t4' t5' u1', Ready g h L x dx pl len elseKinds c n1 pc n2 kl tc0 [Value.ref t1] ks cst (dictOf [ent h1' (Str.ofString "length") t1' (.int len u1'), ent h2' (Str.ofString "prices") t2' (.ref pl), ent h3' (Str.ofString "costs") t3' (.ref c), ent h4' (Str.ofString "pieces") t4' (.ref pc), ent h5' (Str.ofString "kinds") t5' (.ref kl)] n') := by
  subst hk
  have hD' := hD
  obtain ⟨n', h1', h2', h3', h4', h5', t1', t2', t3', t4', t5', u1', rfl⟩ := hD'
  refine ⟨[(kl, listOf [Value.ref t1].toArray nk), (t1, tupR 16 u1 x1), (x1, instObj 54 d1), (d1, o1)], [⟨16, 3, 6, 0, q1, [], [], n3⟩], n', h1', h2', h3', h4', h5', t1', t2', t3', t4', t5', u1', ?_, hD, ?_, rfl, ?_, ?_, ?_, List.Mem.head _⟩
  · exact fun p hp => N p ((subCons (by k_mem) (subCons (by k_mem) (subCons (by k_mem) (subCons (by k_mem) (subCons (by k_mem) (subCons (by k_mem) (subCons (by k_mem) (subCons (by k_mem) (subCons (by k_mem) subNil)))))))) : ∀ q ∈ _, q ∈ _) p hp)
  · intro h' hc
    have m1 := hc _ (.head _)
    have m2 := hc _ (.tail _ (.head _))
    have m3 := hc _ (.tail _ (.tail _ (.head _)))
    have m4 := hc _ (.tail _ (.tail _ (.tail _ (.head _))))
    exact ⟨⟨_, m1, rfl, _, rfl⟩, .cons m2 (h1.at m3 m4) .nil⟩
  · intro k hk
    rw [List.mem_singleton.mp hk]
    exact ⟨⟨.inl rfl, by dsimp only; decide, by dsimp only; decide, by dsimp only; decide⟩, rfl, rfl⟩
  · exact nodup3 l2 (Nat.lt_trans l3 (Nat.lt_trans l4 l5))
  · have e3 : pc < q1 := Nat.lt_trans l3 (Nat.lt_trans l4 l5)
    exact allCons (lows l1 l2 e3) (allCons (lows (Nat.lt_trans l0 l1) l2 e3) (allCons (highs l2 e3 (Nat.lt_trans l6 l7)) (allCons (highs l2 e3 l6) (allCons (mids l2 (Nat.lt_trans l3 l4) l5) (allCons (mids l2 l3 (Nat.lt_trans l4 l5)) allNil)))))
theorem ready0 {g h : Heap} {L : Addr} {x dx pl c pc kl x1 d1 q1 t1 x2 d2 q2 t2 x3 d3 q3 t3 n1 n2 n3 n4 n5 nk : Nat} {len : Int} {tc0 u1 u2 u3 : Tok} {o1 o2 o3 D : Obj} {kvs : Array Value}
    (N : News g L h [(t3, tupR 16 u3 x3), (q3, listOf #[] n5), (x3, instObj 54 d3), (d3, o3), (kl, listOf kvs nk), (t2, tupR 18 u2 x2), (q2, listOf #[] n4), (x2, instObj 54 d2), (d2, o2), (t1, tupR 17 u1 x1), (q1, listOf #[] n3), (x1, instObj 54 d1), (d1, o1), (pc, listOf #[Value.none] n2), (c, listOf #[Value.int 0 tc0] n1), (x, instObj 96 dx), (dx, D)])
    (hk : kvs = [Value.ref t1, Value.ref t2, Value.ref t3].toArray) (h1 : IsNearD o1 3 10 0 c q1) (h2 : IsNearD o2 11 138 0 c q2) (h3 : IsNearD o3 3 6 1 c q3) (hD : IsRunD D len pl c pc kl)
    (l0 : dx < x) (l1 : x < c) (l2 : c < pc) (l3 : pc < d1) (l4 : d1 < x1) (l5 : x1 < q1) (l6 : q1 < t1) (l7 : t1 < d2) (l8 : d2 < x2) (l9 : x2 < q2) (l10 : q2 < t2) (l11 : t2 < kl) (l12 : kl < d3) (l13 : d3 < x3) (l14 : x3 < q3) (l15 : q3 < t3) :
    ∃ cst ks n' h1' h2' h3' h4' h5' t1' t2' t3' t4' t5' u1', Ready g h L x dx pl len zeroKinds c n1 pc n2 kl tc0 [Value.ref t1, Value.ref t2, Value.ref t3] ks cst (dictOf [ent h1' (Str.ofString "length") t1' (.int len u1'), ent h2' (Str.ofString "prices") t2' (.ref pl), ent h3' (Str.ofString "costs") t3' (.ref c), ent h4' (Str.ofString "pieces") t4' (.ref pc), ent h5' (Str.ofString "kinds") t5' (.ref kl)] n') := by
  subst hk
  have hD' := hD
  obtain ⟨n', h1', h2', h3', h4', h5', t1', t2', t3', t4', t5', u1', rfl⟩ := hD'
  refine ⟨[(kl, listOf [Value.ref t1, Value.ref t2, Value.ref t3].toArray nk), (t1, tupR 17 u1 x1), (x1, instObj 54 d1), (d1, o1), (t2, tupR 18 u2 x2), (x2, instObj 54 d2), (d2, o2), (t3, tupR 16 u3 x3), (x3, instObj 54 d3), (d3, o3)], [⟨17, 3, 10, 0, q1, [], [], n3⟩, ⟨18, 11, 138, 0, q2, [], [], n4⟩, ⟨16, 3, 6, 1, q3, [], [], n5⟩], n', h1', h2', h3', h4', h5', t1', t2', t3', t4', t5', u1', ?_, hD, ?_, rfl, ?_, ?_, ?_, List.Mem.head _⟩
  · exact fun p hp => N p (((subCons (by k_mem) (subCons (by k_mem) (subCons (by k_mem) (subCons (by k_mem) (subCons (by k_mem) (subCons (by k_mem) (subCons (by k_mem) (subCons (by k_mem) (subCons (by k_mem) (subCons (by k_mem) (subCons (by k_mem) (subCons (by k_mem) (subCons (by k_mem) (subCons (by k_mem) (subCons (by k_mem) (subCons (by k_mem) (subCons (by k_mem) subNil))))))))))))))))) : ∀ q ∈ _, q ∈ _) p hp)
  · intro h' hc
    have m0 := hc _ (.head _)
    have m1 := hc _ (.tail _ (.head _))
    have m2 := hc _ (.tail _ (.tail _ (.head _)))
    have m3 := hc _ (.tail _ (.tail _ (.tail _ (.head _))))
    have m4 := hc _ (.tail _ (.tail _ (.tail _ (.tail _ (.head _)))))
    have m5 := hc _ (.tail _ (.tail _ (.tail _ (.tail _ (.tail _ (.head _))))))
    have m6 := hc _ (.tail _ (.tail _ (.tail _ (.tail _ (.tail _ (.tail _ (.head _)))))))
    have m7 := hc _ (.tail _ (.tail _ (.tail _ (.tail _ (.tail _ (.tail _ (.tail _ (.head _))))))))
    have m8 := hc _ (.tail _ (.tail _ (.tail _ (.tail _ (.tail _ (.tail _ (.tail _ (.tail _ (.head _)))))))))
    have m9 := hc _ (.tail _ (.tail _ (.tail _ (.tail _ (.tail _ (.tail _ (.tail _ (.tail _ (.tail _ (.head _))))))))))
    exact ⟨⟨_, m0, rfl, _, rfl⟩, .cons m1 (h1.at m2 m3) (.cons m4 (h2.at m5 m6) (.cons m7 (h3.at m8 m9) .nil))⟩
  · intro k hk
    simp only [List.mem_cons, List.not_mem_nil, or_false] at hk
    rcases hk with rfl | rfl | rfl
    · exact ⟨⟨.inr (.inl rfl), by dsimp only; decide, by dsimp only; decide, by dsimp only; decide⟩, rfl, rfl⟩
    · exact ⟨⟨.inr (.inr rfl), by dsimp only; decide, by dsimp only; decide, by dsimp only; decide⟩, rfl, rfl⟩
    · exact ⟨⟨.inl rfl, by dsimp only; decide, by dsimp only; decide, by dsimp only; decide⟩, rfl, rfl⟩
  · exact nodup5 l2 (Nat.lt_trans l3 (Nat.lt_trans l4 l5)) (Nat.lt_trans l6 (Nat.lt_trans l7 (Nat.lt_trans l8 l9))) (Nat.lt_trans l10 (Nat.lt_trans l11 (Nat.lt_trans l12 (Nat.lt_trans l13 l14))))
  · have e3 : pc < q1 := Nat.lt_trans l3 (Nat.lt_trans l4 l5)
    have e4 : q1 < q2 := Nat.lt_trans l6 (Nat.lt_trans l7 (Nat.lt_trans l8 l9))
    have e5 : q2 < q3 := Nat.lt_trans l10 (Nat.lt_trans l11 (Nat.lt_trans l12 (Nat.lt_trans l13 l14)))
    exact allCons (gap0 l1 l2 e3 e4 e5) (allCons (gap0 (Nat.lt_trans l0 l1) l2 e3 e4 e5)
      (allCons (gap4 l2 e3 e4 (Nat.lt_trans l10 l11) (Nat.lt_trans l12 (Nat.lt_trans l13 l14)))
      (allCons (gap3 l2 e3 l6 (Nat.lt_trans l7 (Nat.lt_trans l8 l9)) e5) (allCons (gap2 l2 (Nat.lt_trans l3 l4) l5 e4 e5) (allCons (gap2 l2 l3 (Nat.lt_trans l4 l5) e4 e5)
      (allCons (gap4 l2 e3 e4 l10 (Nat.lt_trans l11 (Nat.lt_trans l12 (Nat.lt_trans l13 l14)))) (allCons (gap3 l2 e3 (Nat.lt_trans l6 (Nat.lt_trans l7 l8)) l9 e5) (allCons (gap3 l2 e3 (Nat.lt_trans l6 l7) (Nat.lt_trans l8 l9) e5)
      (allCons (gap5 l2 e3 e4 e5 l15) (allCons (gap4 l2 e3 e4 (Nat.lt_trans l10 (Nat.lt_trans l11 (Nat.lt_trans l12 l13))) l14) (allCons (gap4 l2 e3 e4 (Nat.lt_trans l10 (Nat.lt_trans l11 l12)) (Nat.lt_trans l13 l14)) allNil)))))))))))
/-- what the loop of a RunWays keeps -/
def InitJ (P : List Int) (x dx c pc : Nat) (len : Int) (D : Obj) (ks0 : List Kd) (cst : Led) (i : Nat) (m : Str → Option Value) (nx : Led) : Prop :=
  Stop (∃ (cvs : List Value) (nc : Nat) (ppvs : List Value) (np : Nat) (ks : List Kd) (cs : List Int) (pcs : List (Int × Int)) (tl : Led),
    nx = (x, instObj 96 dx) :: (dx, D) :: ((tl ++ cst) ++ ((c, listOf cvs.toArray nc) :: (pc, listOf (Value.none :: ppvs).toArray np) :: ks.map Kd.ent)) ∧ Names m [(Str.ofString "self", .ref x)] ∧
    IntsAre cvs cs ∧ PairsAre tl ppvs pcs ∧ Made P len ks0 i cs ((0, 0) :: pcs) ∧ ks.map Kd.stat = ks0.map Kd.stat ∧ (∀ k ∈ ks, k.Ok cs i) ∧ (∀ p ∈ tl, p.1 ∉ c :: pc :: ks0.map Kd.q))
theorem Kd.Ok.zero {k : Kd} (F : k.Fine) (hv : k.vs = []) (hq : k.qs = []) {cs : List Int} : k.Ok cs ((0 : Nat) : Int) := by
  have h1 := F.first
  have h2 := F.fewest
  refine ⟨F, by rw [hv, hq]; exact .nil, ?_⟩
  rw [hq]
  exact QInv.empty (by omega)
theorem Ready.start {g h : Heap} {L : Addr} {x dx pl : Nat} {len : Int} {l : List (Int × Int × Int × Int)} {c nc pc np kl : Nat} {tc0 : Tok} {kvs : List Value} {ks : List Kd} {cst : Led} {D : Obj} {P : List Int} {m : Str → Option Value}
    (H : Ready g h L x dx pl len l c nc pc np kl tc0 kvs ks cst D) (hm : Names m [(Str.ofString "self", .ref x)]) :
    InitJ P x dx c pc len D ks cst 0 m ((x, instObj 96 dx) :: (dx, D) :: (cst ++ ((c, listOf [Value.int 0 tc0].toArray nc) :: (pc, listOf [Value.none].toArray np) :: ks.map Kd.ent))) := by
  refine ⟨[Value.int 0 tc0], nc, [], np, ks, [0], [], [], rfl, hm, .cons _ _ .nil, .nil, ⟨rfl, rfl, rfl, fun n a b => absurd a (by omega)⟩, rfl, ?_, fun _ h => nomatch h⟩
  intro k hk
  obtain ⟨a, b, d⟩ := H.fresh k hk
  exact .zero a b d
theorem initEnd {g h h' : Heap} {L : Addr} {x dx pl I tk i : Nat} {len : Int} {l : List (Int × Int × Int × Int)} {c nc0 nc pc np0 np nc5 np5 kl tp : Nat} {tc0 : Tok} {kvs : List Value} {ks0 ks ks5 : List Kd} {cst tl : Led} {D : Obj} {P cs : List Int} {m' : Str → Option Value} {oI : Obj} {gn : Array GenState} {dr : Drawn} {os : OsState} {cvs ppvs : List Value} {pcs : List (Int × Int)} {v sz sym : Int} {t5 t2 u2 : Tok}
    (H : Ready g h L x dx pl len l c nc0 pc np0 kl tc0 kvs ks0 cst D)
    (F : Fr g L h' m') (N : News g L h' ((tp, tup2 sz t2 sym u2) :: (I, oI) :: (x, instObj 96 dx) :: (dx, D) :: ((tl ++ cst) ++ ((c, listOf (cvs ++ [Value.int v t5]).toArray nc5) :: (pc, listOf (Value.none :: ppvs ++ [Value.ref tp]).toArray np5) :: ks5.map Kd.ent))))
    (off : Stop (∀ p ∈ (x, instObj 96 dx) :: (dx, D) :: ((tl ++ cst) ++ ((c, listOf cvs.toArray nc) :: (pc, listOf (Value.none :: ppvs).toArray np) :: ks.map Kd.ent)), p.1 ≠ I)) (hm : Names m' [(Str.ofString "self", .ref x)])
    (hcI : IntsAre cvs cs) (hps : PairsAre tl ppvs pcs) (hMd : Made P len ks0 i cs ((0, 0) :: pcs)) (hst : ks.map Kd.stat = ks0.map Kd.stat) (htl : ∀ p ∈ tl, p.1 ∉ c :: pc :: ks0.map Kd.q)
    (htp : tp ∉ c :: pc :: ks.map Kd.q) (htp2 : I ≠ tp) (hst5 : ks5.map Kd.stat = ks.map Kd.stat) (hok5 : ∀ k ∈ ks5, k.Ok cs ((i + 1 : Nat) : Int)) (hle : Least cs P len ((i + 1 : Nat) : Int) ks v sz sym) :
    Stop (∃ h'' tk' m'' nx', (⟨h', gn, dr, tk, os⟩ : Shared) = ⟨h'', gn, dr, tk', os⟩ ∧ Fr g L h'' m'' ∧ News g L h'' ((I, oI) :: nx') ∧ (∀ p ∈ nx', p.1 ≠ I) ∧ InitJ P x dx c pc len D ks0 cst (i + 1) m'' nx') := by
  have hq5 := Kd.q_of_stat hst5
  refine forEnd F N ((x, instObj 96 dx) :: (dx, D) :: (((((tp, tup2 sz t2 sym u2) :: tl)) ++ cst) ++ ((c, listOf (cvs ++ [Value.int v t5]).toArray nc5) :: (pc, listOf (Value.none :: (ppvs ++ [Value.ref tp])).toArray np5) :: ks5.map Kd.ent))) ?_ ?_
    ⟨cvs ++ [Value.int v t5], nc5, ppvs ++ [Value.ref tp], np5, ks5, cs ++ [v], pcs ++ [(sz, sym)], (tp, tup2 sz t2 sym u2) :: tl, rfl, hm, hcI.append (.cons _ _ .nil), (hps.mono fun _ h => .tail _ h).append (.cons (.head _) .nil), ?_, hst5.trans hst, ?_, ?_⟩
  · intro p hp
    rcases List.mem_cons.mp hp with rfl | hp
    · exact .tail _ (.head _)
    · rcases List.mem_cons.mp hp with rfl | hp
      · exact .tail _ (.tail _ (.head _))
      · rcases List.mem_cons.mp hp with rfl | hp
        · exact .tail _ (.tail _ (.tail _ (.head _)))
        · rcases List.mem_cons.mp (show p ∈ (tp, tup2 sz t2 sym u2) :: ((tl ++ cst) ++ _) from hp) with rfl | hp
          · exact .head _
          · exact .tail _ (.tail _ (.tail _ (.tail _ hp)))
  · have o := off.go
    intro p hp
    rcases List.mem_cons.mp hp with rfl | hp
    · exact o _ (.head _)
    · rcases List.mem_cons.mp hp with rfl | hp
      · exact o _ (.tail _ (.head _))
      · rcases List.mem_cons.mp (show p ∈ (tp, tup2 sz t2 sym u2) :: ((tl ++ cst) ++ _) from hp) with rfl | hp
        · exact Ne.symm htp2
        · rcases List.mem_append.mp hp with hp | hp
          · exact o _ (.tail _ (.tail _ (List.mem_append.mpr (.inl hp))))
          · rcases List.mem_cons.mp hp with rfl | hp
            · exact o (c, listOf cvs.toArray nc) (.tail _ (.tail _ (List.mem_append.mpr (.inr (.head _)))))
            · rcases List.mem_cons.mp hp with rfl | hp
              · exact o (pc, listOf (Value.none :: ppvs).toArray np) (.tail _ (.tail _ (List.mem_append.mpr (.inr (.tail _ (.head _))))))
              · obtain ⟨y, hy, rfl⟩ := List.mem_map.mp hp
                have hq : y.q ∈ ks.map Kd.q := by rw [← hq5]; exact List.mem_map_of_mem hy
                obtain ⟨z, hz, e⟩ := List.mem_map.mp hq
                show y.q ≠ I
                rw [← e]
                exact o z.ent (.tail _ (.tail _ (List.mem_append.mpr (.inr (.tail _ (.tail _ (List.mem_map_of_mem hz)))))))
  · exact hMd.snoc (fun k hk => ⟨(H.fresh k hk).1.first, (H.fresh k hk).1.fewest⟩) (hle.of_stat hst.symm)
  · intro k hk
    exact (hok5 k hk).snoc (by rw [hMd.lc])
  · intro p hp
    rcases List.mem_cons.mp hp with rfl | hp
    · rw [← Kd.q_of_stat hst]; exact htp
    · exact htl p hp
theorem Ready.none {g h : Heap} {L : Addr} {x dx pl : Nat} {len : Int} {l : List (Int × Int × Int × Int)} {c nc pc np kl : Nat} {tc0 : Tok} {kvs : List Value} {ks : List Kd} {cst : Led} {D : Obj} (H : Ready g h L x dx pl len l c nc pc np kl tc0 kvs ks cst D) {a : Nat} (ha : a ∈ c :: pc :: ks.map Kd.q) : g.get? a = none := by
  rcases List.mem_cons.mp ha with rfl | ha
  · exact (H.news (a, listOf [Value.int 0 tc0].toArray nc) (.tail _ (.tail _ (List.mem_append.mpr (.inr (.head _)))))).2.2
  · rcases List.mem_cons.mp ha with rfl | ha
    · exact (H.news (a, listOf [Value.none].toArray np) (.tail _ (.tail _ (List.mem_append.mpr (.inr (.tail _ (.head _))))))).2.2
    · obtain ⟨y, hy, rfl⟩ := List.mem_map.mp ha
      exact (H.news y.ent (.tail _ (.tail _ (List.mem_append.mpr (.inr (.tail _ (.tail _ (List.mem_map_of_mem hy)))))))).2.2
theorem init_step {w : World} {A : Around} {g h : Heap} {L : Addr} {m : Str → Option Value} {s : Shared} {Q : Value → Shared → Prop} {E : Value → Shared → Prop} {x dx pl I i : Nat} {len count : Int} {tc : Tok} {l : List (Int × Int × Int × Int)} {c nc0 nc pc np0 np kl : Nat} {tc0 : Tok} {kvs pvs : List Value} {ks0 ks : List Kd} {cst tl : Led} {D : Obj} {P cs : List Int} {oI : Obj} {cvs ppvs : List Value} {pcs : List (Int × Int)}
    (H : Ready g h L x dx pl len l c nc0 pc np0 kl tc0 kvs ks0 cst D) (C : Cx w 500 A g L)
    (F : Fr g L s.heap m) (N : News g L s.heap ((I, oI) :: (x, instObj 96 dx) :: (dx, D) :: ((tl ++ cst) ++ ((c, listOf cvs.toArray nc) :: (pc, listOf (Value.none :: ppvs).toArray np) :: ks.map Kd.ent))))
    (off : Stop (∀ p ∈ (x, instObj 96 dx) :: (dx, D) :: ((tl ++ cst) ++ ((c, listOf cvs.toArray nc) :: (pc, listOf (Value.none :: ppvs).toArray np) :: ks.map Kd.ent)), p.1 ≠ I))
    (hpl : g.IsList pl pvs.toArray) (hP : IntsAre pvs P) (hP19 : P.length = 19) (hl0 : 0 ≤ len) (hl15 : len ≤ 15)
    (hcI : IntsAre cvs cs) (hps : PairsAre tl ppvs pcs) (hMd : Made P len ks0 i cs ((0, 0) :: pcs)) (hst : ks.map Kd.stat = ks0.map Kd.stat) (hok : ∀ k ∈ ks, k.Ok cs (i : Int)) (htl : ∀ p ∈ tl, p.1 ∉ c :: pc :: ks0.map Kd.q)
    (hcount : count = ((i + 1 : Nat) : Int)) (hi : i + 1 ≤ 500)
    (k : ∀ (h' : Heap) (tk : Nat) (v : Int) (t : Tok) (sz sym : Int) (t2 u2 : Tok) (tp : Nat) (ks' : List Kd) (nc' np' : Nat), Fr g L h' m →
      News g L h' ((tp, tup2 sz t2 sym u2) :: (I, oI) :: (x, instObj 96 dx) :: (dx, D) :: ((tl ++ cst) ++ ((c, listOf (cvs ++ [Value.int v t]).toArray nc') :: (pc, listOf (Value.none :: ppvs ++ [Value.ref tp]).toArray np') :: ks'.map Kd.ent))) → tp ∉ c :: pc :: ks.map Kd.q → I ≠ tp →
      ks'.map Kd.stat = ks.map Kd.stat → (∀ k ∈ ks', k.Ok cs ((i + 1 : Nat) : Int)) → Least cs P len ((i + 1 : Nat) : Int) ks v sz sym → Q .none { s with heap := h', toks := tk }) :
    wpAny (model Challenge.rw_no0091_01.row.prog w) A (call (.ref 79) [.ref x, .int count tc] []) Q E s := by
  have hq := Kd.q_of_stat hst
  have hf := H.facts s.heap (fun p hp => (N p (.tail _ (.tail _ (.tail _ (List.mem_append.mpr (.inl (List.mem_append.mpr (.inr hp)))))))).1)
  have o := off.go
  refine add_step ((I, oI) :: (x, instObj 96 dx) :: (dx, D) :: (tl ++ cst)) (i + 1) C F N ?_ hcount (H.isD.at (N.get (.tail _ (.head _))) (N.get (.tail _ (.tail _ (.head _))))) hf.1 (hf.2.stat hst) (hpl.at fun o e => F.keep _ o e) hP hP19 hcI hMd.lc (by omega) hi ?_ hl0 hl15 ?_ ?_ ?_ ?_ ?_
  · intro p hp
    rw [hq]
    rcases List.mem_cons.mp hp with rfl | hp
    · rw [← hq]
      intro hm
      rcases List.mem_cons.mp hm with e | hm
      · exact o (c, listOf cvs.toArray nc) (.tail _ (.tail _ (List.mem_append.mpr (.inr (.head _))))) e.symm
      · rcases List.mem_cons.mp hm with e | hm
        · exact o (pc, listOf (Value.none :: ppvs).toArray np) (.tail _ (.tail _ (List.mem_append.mpr (.inr (.tail _ (.head _)))))) e.symm
        · obtain ⟨z, hz, e⟩ := List.mem_map.mp hm
          exact o z.ent (.tail _ (.tail _ (List.mem_append.mpr (.inr (.tail _ (.tail _ (List.mem_map_of_mem hz))))))) e
    · rcases List.mem_cons.mp hp with rfl | hp
      · exact H.off _ (.head _)
      · rcases List.mem_cons.mp hp with rfl | hp
        · exact H.off _ (.tail _ (.head _))
        · rcases List.mem_append.mp hp with hp | hp
          · exact htl p hp
          · exact H.off _ (.tail _ (.tail _ hp))
  · have h1 := hps.length
    have h2 := hMd.lp
    simp only [List.length_cons] at h2 ⊢
    omega
  · intro k hk
    have := hok k hk
    rw [show (((i + 1 : Nat) : Int) - 1) = (i : Int) by omega]
    exact this
  · rw [hq]; exact H.nd
  · rw [hq]
    obtain ⟨p, hp, e⟩ := List.mem_map.mp H.isk
    rw [← e]
    exact H.off _ (.tail _ (.tail _ hp))
  · rw [hq]
    intro hm
    obtain ⟨o, ho, _⟩ := hpl
    rw [H.none hm] at ho
    cases ho
  · intro h' tk v t sz sym t2 u2 tp ks' nc' np' F' N' htp hpre hst' hok' hle'
    exact k h' tk v t sz sym t2 u2 tp ks' nc' np' F' N' htp (hpre _ (.head _)) hst' hok' hle'
theorem nearInit3 {w : World} {A : Around} {h₀ : Heap} {L : Addr} {m : Str → Option Value} {s : Shared} {R : Result → Shared → Prop} {x dx c : Nat} {a b : Int} {ta tb : Tok}
    (C : Cx w 480 A h₀ L) (F : Fr h₀ L s.heap m) (N : News h₀ L s.heap [(x, instObj 54 dx), (dx, dictOf [] 0)]) (hxd : dx < x)
    (k : ∀ (h' : Heap) (tk q n3 : Nat) (D : Obj), Same [x, dx] s.heap h' → h'.get? x = some (instObj 54 dx) → h'.get? dx = some D → IsNearD D a b 0 c q → h'.get? q = some (listOf #[] n3) → s.heap.get? q = none → x < q → R (.ok (.ret .none)) { s with heap := h', toks := tk }) :
    codeAny (model Challenge.rw_no0091_01.row.prog w) A (.call (.ref 44) ⟨[.ref x, .int a ta, .int b tb, .ref c], []⟩) R s := by
  have hX := Cx.inX ‹Cx _ _ _ _ _›
  revert hX
  k_fill
  intro _
  refine' enterP2 ?zoC ?zoF ?zoN ?zok6 ?zok7 ?zok8 ?zok9 ?zokB ?_ ?zoc2 ?zoc3 ?zoc4 ?zoc5; (case zoC => assumption); (case zoF => assumption); (case zoN => assumption); (case zok6 => k_is); (case zok7 => k_is); (case zok8 => decide); (case zok9 => first | exact BindsTo.of_eq rfl | exact binds_K (by k_in) rfl (by k_is) rfl rfl rfl); (case zoc5 => decide); (case zokB => exact locs rfl); (case zoc2 => exact rfl); (case zoc3 => exact rfl); (case zoc4 => exact rfl)
  k_whole
  intro g1 L1 h1 tk1 d1 u1 fs1 gd1 gn1 dr1 os1 Q1 E1 lo1 me1 mg1 mb1 F1' N1' C1 X1 T1 hE1 hu1 st hQ hN
  (try dsimp only)
  have hxd' : dx ≠ x := Nat.ne_of_lt hxd
  k_steps
  rename News _ _ _ _ => N1
  rename Fr _ _ _ _ => F1
  rename ∀ p : Addr × Obj, p ∈ _ → p.1 < _ => hl
  refine hN _ _ (k _ _ _ _ _ (sameOf st F1) (N1.get (.tail _ (.head _))) (N1.get (.tail _ (.tail _ (.head _)))) ⟨_, _, _, _, _, _, _, _, _, _, _, _, _, _, rfl⟩ (N1.get (.head _)) (freshOf st N1 (.head _) ?_) (hl _ (.head _)))
  intro hm
  rcases List.mem_cons.mp hm with e | hm
  · exact Nat.ne_of_gt (hl _ (.head _)) e
  · exact Nat.ne_of_gt (hl _ (.tail _ (.head _))) (List.mem_singleton.mp hm)
theorem near_step3 {w : World} {A : Around} {h₀ : Heap} {L : Addr} {m : Str → Option Value} {s : Shared} {Q : Value → Shared → Prop} {E : Value → Shared → Prop} {news : Led} {c : Nat} {a b : Int} {ta tb : Tok}
    (C : Cx w 470 A h₀ L) (F : Fr h₀ L s.heap m) (N : News h₀ L s.heap news)
    (k : ∀ (h' : Heap) (tk x dx q n3 : Nat) (D : Obj), Fr h₀ L h' m → News h₀ L h' ((q, listOf #[] n3) :: (x, instObj 54 dx) :: (dx, D) :: news) → IsNearD D a b 0 c q →
      (∀ p ∈ news, p.1 < dx) → (∀ p ∈ (dx, D) :: news, p.1 < x) → (∀ p ∈ (x, instObj 54 dx) :: (dx, D) :: news, p.1 < q) → Q (.ref x) { s with heap := h', toks := tk }) :
    wpAny (model Challenge.rw_no0091_01.row.prog w) A (call (.ref 54) [.int a ta, .int b tb, .ref c] []) Q E s := by
  have X := C.inX
  revert X
  k_fill
  intro X
  refine call_cls F X N (by k_is) (by k_is) (by k_is) ?_
  intro x dx h1 F1 N1 l1 l2
  have N2 : News h₀ L h1 [(x, instObj 54 dx), (dx, dictOf [] 0)] := fun p hp => by
    rcases List.mem_cons.mp hp with rfl | hp
    · exact N1 _ (.head _)
    · rw [List.mem_singleton.mp hp]; exact N1 _ (.tail _ (.head _))
  refine nearInit3 (s := { s with heap := h1 }) (C.under (by decide)) F1 N2 l2 ?_
  intro h' tk q n3 D S hx hd hD hq hnew hxq
  have hM2 : ∀ a ∈ [x, dx], a ≠ L ∧ h₀.get? a = none := by
    intro a ha
    rcases List.mem_cons.mp ha with rfl | ha
    · exact (N1 _ (.head _)).2
    · rw [List.mem_singleton.mp ha]; exact (N1 _ (.tail _ (.head _))).2
  have l3 : ∀ p ∈ (dx, D) :: news, p.1 < x := by
    intro p hp
    rcases List.mem_cons.mp hp with rfl | hp
    · exact l2
    · exact Nat.lt_trans (l1 p hp) l2
  refine ⟨rfl, k h' tk x dx q n3 D (backFr F1 S hM2) ?_ hD l1 l3 ?_⟩
  · intro p hp
    rcases List.mem_cons.mp hp with rfl | hp
    · exact ⟨hq, newOf F1 hnew⟩
    · rcases List.mem_cons.mp hp with rfl | hp
      · exact ⟨hx, (N1 _ (.head _)).2⟩
      · rcases List.mem_cons.mp hp with rfl | hp
        · exact ⟨hd, (N1 _ (.tail _ (.head _))).2⟩
        · have hp' := N1 p (.tail _ (.tail _ hp))
          refine ⟨S _ _ ?_ hp'.1, hp'.2⟩
          have h3 := l1 p hp
          intro hm
          rcases List.mem_cons.mp hm with e | hm
          · rw [e] at h3; exact Nat.lt_irrefl _ (Nat.lt_trans h3 l2)
          · rw [List.mem_singleton.mp hm] at h3; exact Nat.lt_irrefl _ h3
  · intro p hp
    rcases List.mem_cons.mp hp with rfl | hp
    · exact hxq
    · exact Nat.lt_trans (l3 p hp) hxq
theorem nearInit4 {w : World} {A : Around} {h₀ : Heap} {L : Addr} {m : Str → Option Value} {s : Shared} {R : Result → Shared → Prop} {x dx c : Nat} {a b : Int} {ta tb tf : Tok}
    (C : Cx w 480 A h₀ L) (F : Fr h₀ L s.heap m) (N : News h₀ L s.heap [(x, instObj 54 dx), (dx, dictOf [] 0)]) (hxd : dx < x)
    (k : ∀ (h' : Heap) (tk q n3 : Nat) (D : Obj), Same [x, dx] s.heap h' → h'.get? x = some (instObj 54 dx) → h'.get? dx = some D → IsNearD D a b 1 c q → h'.get? q = some (listOf #[] n3) → s.heap.get? q = none → x < q → R (.ok (.ret .none)) { s with heap := h', toks := tk }) :
    codeAny (model Challenge.rw_no0091_01.row.prog w) A (.call (.ref 44) ⟨[.ref x, .int a ta, .int b tb, .ref c, .int 1 tf], []⟩) R s := by
  have hX := Cx.inX ‹Cx _ _ _ _ _›
  revert hX
  k_fill
  intro _
  refine' enterP2 ?zoC ?zoF ?zoN ?zok6 ?zok7 ?zok8 ?zok9 ?zokB ?_ ?zoc2 ?zoc3 ?zoc4 ?zoc5; (case zoC => assumption); (case zoF => assumption); (case zoN => assumption); (case zok6 => k_is); (case zok7 => k_is); (case zok8 => decide); (case zok9 => first | exact BindsTo.of_eq rfl | exact binds_K (by k_in) rfl (by k_is) rfl rfl rfl); (case zoc5 => decide); (case zokB => exact locs rfl); (case zoc2 => exact rfl); (case zoc3 => exact rfl); (case zoc4 => exact rfl)
  k_whole
  intro g1 L1 h1 tk1 d1 u1 fs1 gd1 gn1 dr1 os1 Q1 E1 lo1 me1 mg1 mb1 F1' N1' C1 X1 T1 hE1 hu1 st hQ hN
  (try dsimp only)
  have hxd' : dx ≠ x := Nat.ne_of_lt hxd
  k_steps
  rename News _ _ _ _ => N1
  rename Fr _ _ _ _ => F1
  rename ∀ p : Addr × Obj, p ∈ _ → p.1 < _ => hl
  refine hN _ _ (k _ _ _ _ _ (sameOf st F1) (N1.get (.tail _ (.head _))) (N1.get (.tail _ (.tail _ (.head _)))) ⟨_, _, _, _, _, _, _, _, _, _, _, _, _, _, rfl⟩ (N1.get (.head _)) (freshOf st N1 (.head _) ?_) (hl _ (.head _)))
  intro hm
  rcases List.mem_cons.mp hm with e | hm
  · exact Nat.ne_of_gt (hl _ (.head _)) e
  · exact Nat.ne_of_gt (hl _ (.tail _ (.head _))) (List.mem_singleton.mp hm)
theorem near_step4 {w : World} {A : Around} {h₀ : Heap} {L : Addr} {m : Str → Option Value} {s : Shared} {Q : Value → Shared → Prop} {E : Value → Shared → Prop} {news : Led} {c : Nat} {a b : Int} {ta tb tf : Tok}
    (C : Cx w 470 A h₀ L) (F : Fr h₀ L s.heap m) (N : News h₀ L s.heap news)
    (k : ∀ (h' : Heap) (tk x dx q n3 : Nat) (D : Obj), Fr h₀ L h' m → News h₀ L h' ((q, listOf #[] n3) :: (x, instObj 54 dx) :: (dx, D) :: news) → IsNearD D a b 1 c q →
      (∀ p ∈ news, p.1 < dx) → (∀ p ∈ (dx, D) :: news, p.1 < x) → (∀ p ∈ (x, instObj 54 dx) :: (dx, D) :: news, p.1 < q) → Q (.ref x) { s with heap := h', toks := tk }) :
    wpAny (model Challenge.rw_no0091_01.row.prog w) A (call (.ref 54) [.int a ta, .int b tb, .ref c, .int 1 tf] []) Q E s := by
  have X := C.inX
  revert X
  k_fill
  intro X
  refine call_cls F X N (by k_is) (by k_is) (by k_is) ?_
  intro x dx h1 F1 N1 l1 l2
  have N2 : News h₀ L h1 [(x, instObj 54 dx), (dx, dictOf [] 0)] := fun p hp => by
    rcases List.mem_cons.mp hp with rfl | hp
    · exact N1 _ (.head _)
    · rw [List.mem_singleton.mp hp]; exact N1 _ (.tail _ (.head _))
  refine nearInit4 (s := { s with heap := h1 }) (C.under (by decide)) F1 N2 l2 ?_
  intro h' tk q n3 D S hx hd hD hq hnew hxq
  have hM2 : ∀ a ∈ [x, dx], a ≠ L ∧ h₀.get? a = none := by
    intro a ha
    rcases List.mem_cons.mp ha with rfl | ha
    · exact (N1 _ (.head _)).2
    · rw [List.mem_singleton.mp ha]; exact (N1 _ (.tail _ (.head _))).2
  have l3 : ∀ p ∈ (dx, D) :: news, p.1 < x := by
    intro p hp
    rcases List.mem_cons.mp hp with rfl | hp
    · exact l2
    · exact Nat.lt_trans (l1 p hp) l2
  refine ⟨rfl, k h' tk x dx q n3 D (backFr F1 S hM2) ?_ hD l1 l3 ?_⟩
  · intro p hp
    rcases List.mem_cons.mp hp with rfl | hp
    · exact ⟨hq, newOf F1 hnew⟩
    · rcases List.mem_cons.mp hp with rfl | hp
      · exact ⟨hx, (N1 _ (.head _)).2⟩
      · rcases List.mem_cons.mp hp with rfl | hp
        · exact ⟨hd, (N1 _ (.tail _ (.head _))).2⟩
        · have hp' := N1 p (.tail _ (.tail _ hp))
          refine ⟨S _ _ ?_ hp'.1, hp'.2⟩
          have h3 := l1 p hp
          intro hm
          rcases List.mem_cons.mp hm with e | hm
          · rw [e] at h3; exact Nat.lt_irrefl _ (Nat.lt_trans h3 l2)
          · rw [List.mem_singleton.mp hm] at h3; exact Nat.lt_irrefl _ h3
  · intro p hp
    rcases List.mem_cons.mp hp with rfl | hp
    · exact hxq
    · exact Nat.lt_trans (l3 p hp) hxq
-- RULES
local macro_rules | `(tactic| walk_at "execs nil") => `(tactic| (k_here; (with_reducible show wpAny _ _ (execs [] _) (fun _ _ => Stop _) _ _); refine stop ?_))
local macro_rules | `(tactic| walk_at "exec If") => `(tactic| (k_here; (with_reducible show wpAny _ _ (exec (Stmt.If _ (Stmt.Assign [Expr.Attribute _ _ _] _ _ :: _) _ _) _) _ _ _); refine stop ?_))
-- END RULES
/-- where the two ways of RunWays.__init__ come together -/
def InitR (g : Heap) (L : Addr) (gn : Array GenState) (dr : Drawn) (os : OsState) (x dx pl n : Nat) (len : Int) (tm : Tok) (s' : Shared) : Prop :=
  Stop (∃ (h : Heap) (tk : Nat) (m : Str → Option Value), (s' = ⟨h, gn, dr, tk, os⟩ ∧ Fr g L h m ∧ Names m [(Str.ofString "self", .ref x), (Str.ofString "many", .int (n : Int) tm)]) ∧
    ∃ (c nc pc np kl : Nat) (tc0 : Tok) (kvs : List Value) (ks : List Kd), ∃ (cst : Led) (h1 h2 h3 h4 h5 : Int) (t1 t2 t3 : Tok), ∃ (t4 t5 u1 : Tok) (n' : Nat), Ready g h L x dx pl len (if len = 0 then zeroKinds else elseKinds) c nc pc np kl tc0 kvs ks cst (dictOf [ent h1 (Str.ofString "length") t1 (.int len u1), ent h2 (Str.ofString "prices") t2 (.ref pl), ent h3 (Str.ofString "costs") t3 (.ref c), ent h4 (Str.ofString "pieces") t4 (.ref pc), ent h5 (Str.ofString "kinds") t5 (.ref kl)] n'))
theorem init_spec {w : World} {A : Around} {h₀ : Heap} {L : Addr} {m : Str → Option Value} {s : Shared} {R : Result → Shared → Prop}
    {x dx pl : Nat} {len : Int} {tc tm : Tok} {pvs : List Value} {P : List Int} {n : Nat}
    (C : Cx w 450 A h₀ L) (F : Fr h₀ L s.heap m) (N : News h₀ L s.heap [(x, instObj 96 dx), (dx, dictOf [] 0)]) (hxd : dx < x)
    (hpl : s.heap.IsList pl pvs.toArray) (hP : IntsAre pvs P) (hP19 : P.length = 19)
    (hn2 : n ≤ 450) (hl0 : 0 ≤ len) (hl15 : len ≤ 15)
    (k : ∀ (h' : Heap) (tk : Nat) (cs : List Int) (pcs : List (Int × Int)) (ks : List Kd) (D : Obj), Same [x, dx] s.heap h' → h'.get? x = some (instObj 96 dx) → h'.get? dx = some D → (∃ len pl c pc kl, IsRunD D len pl c pc kl) → RunsAre h' x pcs → pcs.length = n → ks.map kst = (if len = 0 then zeroKinds else elseKinds) → Made P len ks n cs ((0, 0) :: pcs) → R (.ok (.ret .none)) { s with heap := h', toks := tk }) :
    codeAny (model Challenge.rw_no0091_01.row.prog w) A (.call (.ref 72) ⟨[.ref x, .int len tc, .ref pl, .int (n : Int) tm], []⟩) R s := by
  have hX := Cx.inX ‹Cx _ _ _ _ _›
  revert hX
  k_fill
  intro _
  refine' enterP2 ?zoC ?zoF ?zoN ?zok6 ?zok7 ?zok8 ?zok9 ?zokB ?_ ?zoc2 ?zoc3 ?zoc4 ?zoc5; (case zoC => assumption); (case zoF => assumption); (case zoN => assumption); (case zok6 => k_is); (case zok7 => k_is); (case zok8 => decide); (case zok9 => first | exact BindsTo.of_eq rfl | exact binds_K (by k_in) rfl (by k_is) rfl rfl rfl); (case zoc5 => decide); (case zokB => exact locs rfl); (case zoc2 => exact rfl); (case zoc3 => exact rfl); (case zoc4 => exact rfl)
  k_whole
  intro g1 L1 h1 tk1 d1 u1 fs1 gd1 gn1 dr1 os1 Q1 E1 lo1 me1 mg1 mb1 F1' N1' C1 X1 T1 hE1 hu1 st hQ hN
  (try dsimp only)
  have hxd' : dx ≠ x := Nat.ne_of_lt hxd
  have hplg : (_ : Heap).IsList pl pvs.toArray := hpl.at fun o e => st _ o e (by
    obtain ⟨o', e', hc, _⟩ := hpl
    intro hm
    simp only [List.map_cons, List.map_nil, List.mem_cons, List.not_mem_nil, or_false] at hm
    rcases hm with rfl | rfl
    · rw [(N _ (.head _)).1] at e'; cases e'; exact absurd hc (by simp)
    · rw [(N _ (.tail _ (.head _))).1] at e'; cases e'; exact absurd hc (by simp))
  rename Fr _ _ _ _ => F0
  refine frN (ps := [(Str.ofString "self", .ref x), (Str.ofString "length", .int len tc), (Str.ofString "prices", .ref pl), (Str.ofString "many", .int (n : Int) tm)]) F0 ⟨rfl, rfl, rfl, rfl, trivial⟩ ?_
  clear F0
  intro m0 F0
  k_steps
  refine Stop.mk ?_
  refine join (InitR g1 L1 gn1 dr1 os1 x dx pl n len tm) ?_ ?_
  · intro Q2 hQ2
    refine wpAny_If ?_
    k_steps
    · rename (len = 0) => hl
      refine Stop.mk ?_
      rename News _ _ _ _ => N1
      rename Fr _ _ _ _ => F1
      refine near_step3 (Cx.wide (by k_asm) (by decide)) F1 N1 ?_
      intro hh1 tk1 x1 d1 q1 n1 D1 Fn1 Nn1 hD1 la1 lb1 lc1
      clear F1 N1
      k_steps
      refine Stop.mk ?_
      rename News _ _ _ _ => N2
      rename Fr _ _ _ _ => F2
      refine near_step3 (Cx.wide (by k_asm) (by decide)) F2 N2 ?_
      intro hh2 tk2 x2 d2 q2 n2 D2 Fn2 Nn2 hD2 la2 lb2 lc2
      clear F2 N2
      k_steps
      refine Stop.mk ?_
      rename News _ _ _ _ => N3
      rename Fr _ _ _ _ => F3
      refine near_step4 (Cx.wide (by k_asm) (by decide)) F3 N3 ?_
      intro hh3 tk3 x3 d3 q3 n3 D3 Fn3 Nn3 hD3 la3 lb3 lc3
      clear F3 N3
      k_steps
      rename News _ _ _ _ => N4
      rename Fr _ _ _ _ => F4
      refine Stop.mk (wpAny_execs_nil ?_)
      refine Stop.mk <| hQ2 _ ⟨_, _, _, ⟨rfl, F4, ⟨rfl, rfl, trivial⟩⟩, ?_⟩
      obtain ⟨cst, ks0, n', h1', h2', h3', h4', h5', t1', t2', t3', t4', t5', u1', hR⟩ := (ready0 N4 rfl hD1 hD2 hD3 ⟨_, _, _, _, _, _, _, _, _, _, _, _, rfl⟩ hxd (ltOld (by assumption) (by k_mem)) (ltOld (by assumption) (by k_mem)) (ltOld la1 (by k_mem)) (lb1 _ (.head _)) (lc1 _ (.head _)) (ltOld (by assumption) (by k_mem)) (ltOld la2 (by k_mem)) (lb2 _ (.head _)) (lc2 _ (.head _)) (ltOld (by assumption) (by k_mem)) (ltOld (by assumption) (by k_mem)) (ltOld la3 (by k_mem)) (lb3 _ (.head _)) (lc3 _ (.head _)) (ltOld (by assumption) (by k_mem)))
      rw [if_pos hl]
      exact ⟨_, _, _, _, _, _, _, ks0, cst, h1', h2', h3', h4', h5', t1', t2', t3', t4', t5', u1', n', hR⟩
    · rename (len ≠ 0) => hl'
      have hl := Stop.mk hl'
      clear hl'
      refine Stop.mk ?_
      rename News _ _ _ _ => N1
      rename Fr _ _ _ _ => F1
      refine near_step3 (Cx.wide (by k_asm) (by decide)) F1 N1 ?_
      intro hh1 tk1 x1 d1 q1 n1 D1 Fn1 Nn1 hD1 la1 lb1 lc1
      clear F1 N1
      k_steps
      rename News _ _ _ _ => N4
      rename Fr _ _ _ _ => F4
      refine Stop.mk (wpAny_execs_nil ?_)
      refine Stop.mk <| hQ2 _ ⟨_, _, _, ⟨rfl, F4, ⟨rfl, rfl, trivial⟩⟩, ?_⟩
      obtain ⟨cst, ks0, n', h1', h2', h3', h4', h5', t1', t2', t3', t4', t5', u1', hR⟩ := (ready1 N4 rfl hD1 ⟨_, _, _, _, _, _, _, _, _, _, _, _, rfl⟩ hxd (ltOld (by assumption) (by k_mem)) (ltOld (by assumption) (by k_mem)) (ltOld la1 (by k_mem)) (lb1 _ (.head _)) (lc1 _ (.head _)) (ltOld (by assumption) (by k_mem)) (ltOld (by assumption) (by k_mem)))
      rw [if_neg hl.go]
      exact ⟨_, _, _, _, _, _, _, ks0, cst, h1', h2', h3', h4', h5', t1', t2', t3', t4', t5', u1', n', hR⟩
  intro s' hJ
  revert hJ
  refine stopE (ex3 fun h2 tk2 m2 => and2 ?_)
  rintro ⟨rfl, F2, hm2⟩
  refine ex8 fun c nc pc np kl tc0 kvs ks0 => ex8 fun cst a1 a2 a3 a4 a5 b1 b2 => ex5 fun b3 b4 b5 c1 n' hR => ?_
  have F3 := frK hm2 F2
  have N3 := hR.news
  clear F2 hm2
  k_steps
  refine Stop.mk ?_
  rename Fr _ _ _ _ => F1
  rename IsRange _ _ _ _ _ _ _ _ => hr1
  have hnl : 0 ≤ (n : Int) := by omega
  refine for_range (n := n) (fun i m nx => InitJ P x dx _ _ len _ ks0 cst i m nx) rfl hr1 (small_one (by decide) (by decide) (by omega) (by omega)) (by rw [rangeSize_nat]; omega) F1 (nx₀ := (x, instObj 96 dx) :: (dx, _) :: (cst ++ ((c, listOf [Value.int 0 tc0].toArray nc) :: (pc, listOf [Value.none].toArray np) :: ks0.map Kd.ent))) (fun p hp => by
    rename News _ _ _ _ => N1
    exact N1 p (by first | exact hp | exact .tail _ hp)) (hR.start ⟨rfl, trivial⟩) ?_ ?_
  · intro I i t oI m₁ nx h tk hi hJ off F2 N2 QQ hEnd hRet
    revert hJ
    refine stopE (ex8 fun cvs nc ppvs np ks cs pcs tl => and8 ?_)
    rintro rfl hm hcI hps hMd hst hok htl
    have F3 := frK hm F2
    have offI := Stop.mk off
    clear F2 F1 hr1 off hm
    k_steps
    refine Stop.mk ?_
    rename News _ _ _ _ => N4
    rename Fr _ _ _ _ => F4
    refine init_step hR (Cx.wide (by k_asm) (by decide)) F4 N4 offI hplg hP hP19 hl0 hl15 hcI hps hMd hst hok htl (by omega) (by omega) ?_
    intro h5 tk5 v t5 sz sym t2 u2 tp ks5 nc5 np5 F5 N5 htp htp2 hst5 hok5 hle5
    clear F4 N4
    k_steps
    rename News _ _ _ _ => N6
    rename Fr _ _ _ _ => F6
    exact hEnd _ <| initEnd hR F6 N6 offI ⟨rfl, trivial⟩ hcI hps hMd hst htl htp htp2 hst5 hok5 hle5
  · intro m₁ nx h tk hJ F2 N2
    revert hJ
    refine stopE (ex8 fun cvs nc ppvs np ks cs pcs tl => and8 ?_)
    rintro rfl hm hcI hps hMd hst hok htl
    have F3 := frK hm F2
    clear F2 F1 hr1 hm
    k_steps
    rename News _ _ _ _ => N6
    rename Fr _ _ _ _ => F6
    refine hN _ _ ?_
    refine k _ _ cs pcs ks0 _ (sameOf st F6) (N6.get (.head _)) (N6.get (.tail _ (.head _))) ⟨_, _, _, _, _, hR.isD⟩ ⟨dx, pl, _, _, _, np, len, ppvs, tl, hR.isD.at (N6.get (.head _)) (N6.get (.tail _ (.head _))), N6.get (.tail _ (.tail _ (List.mem_append.mpr (.inr (.tail _ (.head _)))))), (fun q hq => (N6 q (.tail _ (.tail _ (List.mem_append.mpr (.inl (List.mem_append.mpr (.inl hq))))))).1), hps⟩ ?_ hR.kinds hMd
    have := hMd.lp
    simpa using this


section
variable {prog : Program} {w : World} {A : Around} {E : Value → Shared → Prop} {s : Shared} {h₀ : Heap} {L : Addr} {m : Str → Option Value}
/-- xs[i] of a list of the ground, the item known -/
theorem item_at {value slice : Expr} {l : Nat} {vs : List Value} {k : Int} {u : Tok} {v : Value} {Q : Value → Shared → Prop} (F : Fr h₀ L s.heap m) (hl : h₀.IsList l vs.toArray) (hv : vs[k.toNat]? = some v)
    (h0 : 0 ≤ k) (hk : k < 1000000) (h : Q v s)
    (hs : subscripted slice false (.ref l) (.int k u) = operate [.ref l, .int k u] (getItem (.ref l) (.int k u)) := by with_unfolding_all rfl) :
    wpAny (model prog w) A (subscriptTail value slice (.ref l) (.int k u)) Q E s := by
  have hl' : s.heap.IsList l vs.toArray := hl.at fun o e => F.keep l o e
  exact tail_any hl'.typeIs slot_list_getitem.lookup (wpAny_getItem_list hl' h0 (by omega) (by simpa using hv) h) hs
end
-- RULES
local macro_rules | `(tactic| walk_at "subscriptTail") => `(tactic| (k_here; (with_reducible show wpAny _ _ (subscriptTail _ _ (Value.ref _) (Value.int _ _)) _ _ _); k_dflt (refine item_at (by k_asm) (by with_reducible assumption) (by with_reducible assumption) (by omega) (by omega) ?_)))
-- END RULES
theorem rest_spec {w : World} {A : Around} {h₀ : Heap} {L : Addr} {m : Str → Option Value} {s : Shared} {R : Result → Shared → Prop}
    {x : Nat} {sym sz : Int} {t u : Tok} (C : Cx w 510 A h₀ L) (F : Fr h₀ L s.heap m) (N : News h₀ L s.heap []) (h0 : 0 ≤ sym) (h18 : sym ≤ 18)
    (k : ∀ h' tk t', Same [] s.heap h' → R (.ok (.ret (.int (restOf sym sz) t'))) { s with heap := h', toks := tk }) :
    codeAny (model Challenge.rw_no0091_01.row.prog w) A (.call (.ref 93) ⟨[.ref x, .int sym t, .int sz u], []⟩) R s := by
  have hX := Cx.inX ‹Cx _ _ _ _ _›
  revert hX
  k_fill
  intro _
  refine' enterP2 ?zoC ?zoF ?zoN ?zok6 ?zok7 ?zok8 ?zok9 ?zokB ?_ ?zoc2 ?zoc3 ?zoc4 ?zoc5; (case zoC => assumption); (case zoF => assumption); (case zoN => assumption); (case zok6 => k_is); (case zok7 => k_is); (case zok8 => decide); (case zok9 => first | exact BindsTo.of_eq rfl | exact binds_K (by k_in) rfl (by k_is) rfl rfl rfl); (case zoc5 => decide); (case zokB => exact locs rfl); (case zoc2 => exact rfl); (case zoc3 => exact rfl); (case zoc4 => exact rfl)
  k_whole
  intro g1 L1 h1 tk1 d1 u1 fs1 gd1 gn1 dr1 os1 Q1 E1 lo1 me1 mg1 mb1 F1' N1' C1 X1 T1 hE1 hu1 st hQ hN
  (try dsimp only)
  rcases (by omega : sym = 18 ∨ sym = 16 ∨ sym = 17 ∨ (0 ≤ sym ∧ sym < 16)) with rfl | rfl | rfl | ⟨hs0, hs1⟩
  · k_steps
    rename Fr _ _ _ _ => F4
    exact hQ _ _ _ (k _ _ _ (sameOf st F4))
  · k_steps
    rename Fr _ _ _ _ => F4
    exact hQ _ _ _ (k _ _ _ (sameOf st F4))
  · k_steps
    rename Fr _ _ _ _ => F4
    exact hQ _ _ _ (k _ _ _ (sameOf st F4))
  · have e : restOf sym sz = 0 := by unfold restOf; rw [if_neg (by omega), if_neg (by omega)]
    rw [e] at k
    have hn18 : (sym == (18 : Int)) = false := beq_false_of_ne (by omega)
    k_steps
    · exfalso
      rename (List.any _ _ = true) => hany
      simp at hany
      omega
    · rename Fr _ _ _ _ => F4
      exact hQ _ _ _ (k _ _ _ (sameOf st F4))
theorem rest_step {w : World} {A : Around} {h₀ : Heap} {L : Addr} {m : Str → Option Value} {s : Shared} {Q : Value → Shared → Prop} {E : Value → Shared → Prop} {news : Led}
    {x : Nat} {sym sz : Int} {t u : Tok} (C : Cx w 510 A h₀ L) (F : Fr h₀ L s.heap m) (N : News h₀ L s.heap news) (h0 : 0 ≤ sym) (h18 : sym ≤ 18)
    (k : ∀ h' tk t', Fr h₀ L h' m → News h₀ L h' news → Q (.int (restOf sym sz) t') { s with heap := h', toks := tk }) :
    wpAny (model Challenge.rw_no0091_01.row.prog w) A (call (.ref 93) [.ref x, .int sym t, .int sz u] []) Q E s := by
  refine wpAny_call (rest_spec C F (fun _ hp => nomatch hp) h0 h18 fun h' tk t' S => ?_)
  exact k h' tk t' (backFr F S (fun _ h => nomatch h)) (fun p hp => ⟨S _ _ (fun h => nomatch h) (N p hp).1, (N p hp).2⟩)
theorem told_spec {w : World} {A : Around} {h₀ : Heap} {L : Addr} {m : Str → Option Value} {s : Shared} {R : Result → Shared → Prop}
    {x n : Nat} {tm : Tok} {pcs : List (Int × Int)}
    (C : Cx w 500 A h₀ L) (F : Fr h₀ L s.heap m) (N : News h₀ L s.heap []) (hR : RunsAre s.heap x pcs) (hpc : pcs.length = n) (hn : n ≤ 1000)
    (hok : ∀ i : Nat, 1 ≤ i → i ≤ n → 1 ≤ (((0, 0) :: pcs).getD i (0, 0)).1 ∧ (((0, 0) :: pcs).getD i (0, 0)).1 ≤ i ∧ 0 ≤ (((0, 0) :: pcs).getD i (0, 0)).2 ∧ (((0, 0) :: pcs).getD i (0, 0)).2 ≤ 18)
    (k : ∀ h' tk (a n1 : Nat) ws led ps, Same [] s.heap h' → s.heap.get? a = none → h'.get? a = some (listOf ws.toArray n1) → (∀ q ∈ led, h'.get? q.1 = some q.2 ∧ s.heap.get? q.1 = none) → PairsAre led ws ps → Tell ((0, 0) :: pcs) n ps → ps.length ≤ n →
      R (.ok (.ret (.ref a))) { s with heap := h', toks := tk }) :
    codeAny (model Challenge.rw_no0091_01.row.prog w) A (.call (.ref 86) ⟨[.ref x, .int (n : Int) tm], []⟩) R s := by
  obtain ⟨dx, pl, c, pc, kl, np, len, ppvs, led, ⟨hx1, nd, hh1, hh2, hh3, hh4, hh5, t1, t2, t3, t4, t5, u1, hdx1⟩, hpl, hled, hps⟩ := hR
  have hX := Cx.inX ‹Cx _ _ _ _ _›
  revert hX
  k_fill
  intro _
  refine' enterP2 ?zoC ?zoF ?zoN ?zok6 ?zok7 ?zok8 ?zok9 ?zokB ?_ ?zoc2 ?zoc3 ?zoc4 ?zoc5; (case zoC => assumption); (case zoF => assumption); (case zoN => assumption); (case zok6 => k_is); (case zok7 => k_is); (case zok8 => decide); (case zok9 => first | exact BindsTo.of_eq rfl | exact binds_K (by k_in) rfl (by k_is) rfl rfl rfl); (case zoc5 => decide); (case zokB => exact locs rfl); (case zoc2 => exact rfl); (case zoc3 => exact rfl); (case zoc4 => exact rfl)
  k_whole
  intro g1 L1 h1 tk1 d1 u1 fs1 gd1 gn1 dr1 os1 Q1 E1 lo1 me1 mg1 mb1 F1' N1' C1 X1 T1 hE1 hu1 st hQ hN
  (try dsimp only)
  have hxg := st _ _ hx1 (by simp)
  have hdg := st _ _ hdx1 (by simp)
  have hpg : (_ : Heap).IsList pc (Value.none :: ppvs).toArray := ⟨_, st _ _ hpl (by simp), rfl, np, rfl⟩
  have hledg : ∀ q ∈ led, (_ : Heap).get? q.1 = some q.2 := fun q hq => st _ _ (hled q hq) (by simp)
  all_goals k_steps
  refine Stop.mk ?_
  rename News _ _ _ _ => N1
  rename Fr _ _ _ _ => F1
  refine while_rule (fun k m nx => Stop (∃ (mk n3 : Nat) (ms : List Value) (ps : List (Int × Int)) (tl : Led) (lf : Int) (tl0 : Tok), nx = (mk, listOf ms.toArray n3) :: tl ∧ Names m [(Str.ofString "self", .ref x), (Str.ofString "found", .ref mk), (Str.ofString "left", .int lf tl0)] ∧ lf = (k : Int) ∧
    (∀ q ∈ tl, q.1 ≠ mk) ∧ PairsAre tl ms ps ∧ (∀ qs, Tell ((0, 0) :: pcs) k qs → Tell ((0, 0) :: pcs) n (qs ++ ps.reverse)) ∧ k + ps.length ≤ n)) n F1 N1 ?_ ?_
  · exact ⟨_, _, [], [], [], _, _, rfl, ⟨rfl, rfl, rfl, trivial⟩, rfl, (fun _ h => nomatch h), .nil, (fun qs h => by simpa using h), by simp⟩
  intro kk m₁ nx h tk F2 N2 hJ QQ hEnd hRet
  revert hJ
  refine stopE (ex7 fun mk n3 ms ps tl lf tl0 => and7 ?_)
  rintro rfl hm rfl hoff hpa hT hpl2
  have F3 := frK hm F2
  clear F2 F1 N1 hm
  have hml := hpa.length
  rcases Nat.eq_zero_or_pos kk with rfl | hkk
  · k_steps
    rename News _ _ _ (_ :: _ :: _) => N4
    rename Fr _ _ _ _ => F4
    have e := krv_pick ms.toArray
    rw [List.toList_toArray] at e
    rw [e] at N4
    refine hQ _ _ _ ?_
    exact k _ _ _ _ _ tl ps.reverse (sameOf st F4) (freshOf st N4 (.head _) (by simp)) (N4.get (.head _)) (fun q hq => ⟨(N4 _ (.tail _ (.tail _ hq))).1, freshOf st N4 (o := q.2) (.tail _ (.tail _ hq)) (by simp)⟩) hpa.rev (by simpa using hT [] .zero) (by simp; omega)
  · obtain ⟨j, rfl⟩ : ∃ j, kk = j + 1 := ⟨kk - 1, by omega⟩
    obtain ⟨a, t, u', hva, hat⟩ := hps.get j (by omega)
    have hok1 := hok (j + 1) hkk (by omega)
    have hT0 := hledg _ hat
    have hsz : pcs[j]'(by omega) = ((0, 0) :: pcs).getD (j + 1) (0, 0) := by
      rw [List.getD_eq_getElem?_getD, List.getElem?_cons_succ, List.getElem?_eq_getElem (by omega)]; rfl
    rw [hsz] at hT0
    have hstep := fun qs (H : Tell ((0, 0) :: pcs) _ qs) => hT _ (Tell.step (n := j + 1) (by omega) H)
    generalize ((0, 0) :: pcs).getD (j + 1) (0, 0) = pq at *
    obtain ⟨sz, sym⟩ := pq
    dsimp only at hT0 hok1 hstep
    have hT2 : IsTup _ a [Value.int sz t, Value.int sym u'].toArray := ⟨_, hT0, rfl, _, rfl⟩
    have hT1 : Heap.IsTuple _ a [Value.int sz t, Value.int sym u'].toArray := ⟨_, hT0, rfl, _, rfl⟩
    have hv : (Value.none :: ppvs)[((((j + 1 : Nat) : Int))).toNat]? = some (.ref a) := by
      rw [show (((j + 1 : Nat) : Int)).toNat = j + 1 from by omega]; exact hva
    clear hT0 hva hat
    obtain ⟨hz1, hz2, hs0, hs18⟩ := hok1
    k_steps
    refine Stop.mk ?_
    refine rest_step (Cx.wide (by k_asm) (by decide)) (by k_asm) (by k_asm) (by assumption) (by assumption) ?_
    intro h9 tk9 t9 F9 N9
    (try k_sweep)
    k_steps
    rename News _ _ _ _ => N4
    rename Fr _ _ _ _ => F4
    refine' hEnd _ <| whEnd F4 N4 _ (sub2 (by k_mem) (by k_mem) (fun q hq => by repeat (first | exact hq | apply List.Mem.tail))) (j := j + 1 - sz.toNat) (by omega) ⟨mk, _, _, ps ++ [(_, _)], (_, _) :: tl, _, _, rfl, ⟨rfl, rfl, rfl, trivial⟩, ?_, ?_, (hpa.mono (fun _ h => .tail _ h)).append (.cons (.head _) .nil), ?_, ?_⟩
    · omega
    · exact offCons (by k_ne) hoff
    · intro qs H
      have H' := hstep qs H
      rw [List.reverse_append]
      simpa using H'
    · rw [List.length_append, List.length_singleton]; omega


section
variable {prog : Program} {w : World} {A : Around} {E : Value → Shared → Prop} {s : Shared} {h₀ : Heap} {L D : Addr} {m : Str → Option Value} {news news' : Led} {n : Nat}
theorem extend_L {b n2 : Nat} {vs ws : List Value} {Q : Value → Shared → Prop} (F : Fr h₀ L s.heap m) (N : News h₀ L s.heap news) (hb : (b, listOf ws.toArray n2) ∈ news) (hne : ws.length ≠ 0)
    (U : Upd D (listOf vs.toArray n) (listOf (vs ++ ws).toArray (n + 1)) news news') (hz : vs.length ≤ 100000) (hz2 : ws.length ≤ 100000)
    (h : ∀ h', Fr h₀ L h' m → News h₀ L h' news' → Q .none { s with heap := h' }) : wpAny (model prog w) A (call (.builtin "list.extend") [.ref D, .ref b]) Q E s := by
  refine kl_extend F N hb (by simp) (by simpa using hne) U ?_ (by simp [sizeLine_eq]; omega) (by simp [sizeLine_eq]; omega) h
  have h1 : Builtin.List.listTooLong (vs.toArray.size + ws.toArray.size) = false := by
    have hsz := sizeLine_eq
    unfold Builtin.List.listTooLong
    simp
    omega
  rw [h1, Bool.and_false]; exact Bool.false_ne_true
theorem newsAll {h₀ h h' : Heap} {L : Addr} {m : Str → Option Value} {pre rest led : Led} (F : Fr h₀ L h m) (N : News h₀ L h (pre ++ rest)) (S : Same [] h h') (hl : ∀ q ∈ led, h'.get? q.1 = some q.2 ∧ h.get? q.1 = none) {a : Nat} {o : Obj} (ha : h.get? a = none) (ho : h'.get? a = some o) :
    News h₀ L h' ((a, o) :: (pre ++ (led ++ rest))) ∧ (∀ q ∈ led, ∀ p ∈ pre ++ rest, q.1 ≠ p.1) ∧ (∀ p ∈ pre ++ rest, a ≠ p.1) := by
  have old : ∀ p ∈ pre ++ rest, h'.get? p.1 = some p.2 ∧ p.1 ≠ L ∧ h₀.get? p.1 = none := fun p hp => ⟨S _ _ (fun q => nomatch q) (N p hp).1, (N p hp).2⟩
  refine ⟨?_, ?_, ?_⟩
  · intro p hp
    rcases List.mem_cons.mp hp with rfl | hp
    · exact ⟨ho, newOf F ha⟩
    · rcases List.mem_append.mp hp with hp | hp
      · exact old p (List.mem_append.mpr (.inl hp))
      · rcases List.mem_append.mp hp with hp | hp
        · exact ⟨(hl p hp).1, newOf F (hl p hp).2⟩
        · exact old p (List.mem_append.mpr (.inr hp))
  · intro q hq p hp e
    have := (N p hp).1
    rw [← e, (hl q hq).2] at this; cases this
  · intro p hp e
    have := (N p hp).1
    rw [← e, ha] at this; cases this
end
section
variable {w : World} {A : Around} {h₀ : Heap} {L : Addr} {m : Str → Option Value} {s : Shared} {Q : Value → Shared → Prop} {E : Value → Shared → Prop}
theorem runs_step (pre rest : Led) {l : Nat} {vs : List Value} {row : List Int}
    (C : Cx w 550 A h₀ L) (F : Fr h₀ L s.heap m) (N : News h₀ L s.heap (pre ++ rest)) (hl : s.heap.IsList l vs.toArray) (hI : IntsAre vs row) (hlen : row.length ≤ 1000)
    (k : ∀ h' tk (a n : Nat) ws led, Fr h₀ L h' m → News h₀ L h' ((a, listOf ws.toArray n) :: (pre ++ (led ++ rest))) → (∀ q ∈ led, ∀ p ∈ pre ++ rest, q.1 ≠ p.1) → (∀ p ∈ pre ++ rest, a ≠ p.1) → PairsAre led ws (runsOf row) → Q (.ref a) { s with heap := h', toks := tk }) :
    wpAny (model Challenge.rw_no0091_01.row.prog w) A (call (.ref 22) [.ref l] []) Q E s := by
  refine wpAny_call (runs_spec C F (fun _ hp => nomatch hp) hl hI hlen ?_)
  intro h' tk a n ws led S ha ho hled hps
  obtain ⟨h1, h2, h3⟩ := newsAll F N S hled ha ho
  exact k h' tk a n ws led (backFr F S (fun _ h => nomatch h)) h1 h2 h3 hps
theorem greedy_step (pre rest : Led) {x count : Int} {n : Nat} {tx tn : Tok}
    (C : Cx w 550 A h₀ L) (F : Fr h₀ L s.heap m) (N : News h₀ L s.heap (pre ++ rest)) (hcount : count = (n : Int)) (hn : 1 ≤ n) (hn2 : n ≤ 1000)
    (k : ∀ h' tk (a n1 : Nat) ws led, Fr h₀ L h' m → News h₀ L h' ((a, listOf ws.toArray n1) :: (pre ++ (led ++ rest))) → (∀ q ∈ led, ∀ p ∈ pre ++ rest, q.1 ≠ p.1) → (∀ p ∈ pre ++ rest, a ≠ p.1) → PairsAre led ws (greedy x n) → Q (.ref a) { s with heap := h', toks := tk }) :
    wpAny (model Challenge.rw_no0091_01.row.prog w) A (call (.ref 29) [.int x tx, .int count tn] []) Q E s := by
  subst hcount
  refine wpAny_call (greedy_spec C F (fun _ hp => nomatch hp) hn hn2 ?_)
  intro h' tk a n1 ws led S ha ho hled hps
  obtain ⟨h1, h2, h3⟩ := newsAll F N S hled ha ho
  exact k h' tk a n1 ws led (backFr F S (fun _ h => nomatch h)) h1 h2 h3 hps
theorem told_step (pre rest : Led) {x n : Nat} {count : Int} {tm : Tok} {pcs : List (Int × Int)}
    (C : Cx w 500 A h₀ L) (F : Fr h₀ L s.heap m) (N : News h₀ L s.heap (pre ++ rest)) (hcount : count = (n : Int)) (hR : RunsAre s.heap x pcs) (hpc : pcs.length = n) (hn : n ≤ 1000)
    (hok : ∀ i : Nat, 1 ≤ i → i ≤ n → 1 ≤ (((0, 0) :: pcs).getD i (0, 0)).1 ∧ (((0, 0) :: pcs).getD i (0, 0)).1 ≤ i ∧ 0 ≤ (((0, 0) :: pcs).getD i (0, 0)).2 ∧ (((0, 0) :: pcs).getD i (0, 0)).2 ≤ 18)
    (k : ∀ h' tk (a n1 : Nat) ws led ps, Fr h₀ L h' m → News h₀ L h' ((a, listOf ws.toArray n1) :: (pre ++ (led ++ rest))) → (∀ q ∈ led, ∀ p ∈ pre ++ rest, q.1 ≠ p.1) → (∀ p ∈ pre ++ rest, a ≠ p.1) → PairsAre led ws ps → Tell ((0, 0) :: pcs) n ps → ps.length ≤ n → Q (.ref a) { s with heap := h', toks := tk }) :
    wpAny (model Challenge.rw_no0091_01.row.prog w) A (call (.ref 86) [.ref x, .int count tm] []) Q E s := by
  subst hcount
  refine wpAny_call (told_spec C F (fun _ hp => nomatch hp) hR hpc hn hok ?_)
  intro h' tk a n1 ws led ps S ha ho hled hps hT hl
  obtain ⟨h1, h2, h3⟩ := newsAll F N S hled ha ho
  exact k h' tk a n1 ws led ps (backFr F S (fun _ h => nomatch h)) h1 h2 h3 hps hT hl
theorem make_step {news : Led} {pl n : Nat} {len count : Int} {tc tm : Tok} {pvs : List Value} {P : List Int}
    (C : Cx w 440 A h₀ L) (X : (Mine.hd.heap_39 w.params).In h₀) (F : Fr h₀ L s.heap m) (N : News h₀ L s.heap news) (hpl : h₀.IsList pl pvs.toArray) (hP : IntsAre pvs P) (hP19 : P.length = 19) (hcount : count = (n : Int)) (hn2 : n ≤ 450) (hl0 : 0 ≤ len) (hl15 : len ≤ 15)
    (k : ∀ (h' : Heap) (tk x dx : Nat) (cs : List Int) (pcs : List (Int × Int)) (ks : List Kd) (nd : Nat) (h1 h2 h3 h4 h5 : Int) (t1 t2 t3 t4 t5 u1 : Tok) (l' : Int) (pl' c pc kl : Nat), Fr h₀ L h' m →
      News h₀ L h' ((x, instObj 96 dx) :: (dx, dictOf [ent h1 (Str.ofString "length") t1 (.int l' u1), ent h2 (Str.ofString "prices") t2 (.ref pl'), ent h3 (Str.ofString "costs") t3 (.ref c), ent h4 (Str.ofString "pieces") t4 (.ref pc), ent h5 (Str.ofString "kinds") t5 (.ref kl)] nd) :: news) →
      (∀ p ∈ news, p.1 < dx) → dx < x → RunsAre h' x pcs → pcs.length = n → ks.map kst = (if len = 0 then zeroKinds else elseKinds) → Made P len ks n cs ((0, 0) :: pcs) → Q (.ref x) { s with heap := h', toks := tk }) :
    wpAny (model Challenge.rw_no0091_01.row.prog w) A (call (.ref 96) [.int len tc, .ref pl, .int count tm] []) Q E s := by
  subst hcount
  revert X
  k_fill
  intro X
  refine call_cls F X N (by k_is) (by k_is) (by k_is) ?_
  intro x dx h1 F1 N1 l1 l2
  have N2 : News h₀ L h1 [(x, instObj 96 dx), (dx, dictOf [] 0)] := fun p hp => by
    rcases List.mem_cons.mp hp with rfl | hp
    · exact N1 _ (.head _)
    · rw [List.mem_singleton.mp hp]; exact N1 _ (.tail _ (.head _))
  refine init_spec (s := { s with heap := h1 }) (C.under (by omega)) F1 N2 l2 (hpl.at fun o e => F1.keep _ o e) hP hP19 hn2 hl0 hl15 ?_
  intro h' tk cs pcs ks D S hx hd hD hR hpc hks hM
  obtain ⟨l', pl', c, pc, kl, nd, a1, a2, a3, a4, a5, t1, t2, t3, t4, t5, u1, rfl⟩ := hD
  have hM2 : ∀ a ∈ [x, dx], a ≠ L ∧ h₀.get? a = none := by
    intro a ha
    rcases List.mem_cons.mp ha with rfl | ha
    · exact (N1 _ (.head _)).2
    · rw [List.mem_singleton.mp ha]; exact (N1 _ (.tail _ (.head _))).2
  refine ⟨rfl, k h' tk x dx cs pcs ks nd a1 a2 a3 a4 a5 t1 t2 t3 t4 t5 u1 l' pl' c pc kl (backFr F1 S hM2) ?_ l1 l2 hR hpc hks hM⟩
  intro p hp
  rcases List.mem_cons.mp hp with rfl | hp
  · exact ⟨hx, (N1 _ (.head _)).2⟩
  · rcases List.mem_cons.mp hp with rfl | hp
    · exact ⟨hd, (N1 _ (.tail _ (.head _))).2⟩
    · have hp' := N1 p (.tail _ (.tail _ hp))
      refine ⟨S _ _ ?_ hp'.1, hp'.2⟩
      have := l1 p hp
      intro hm
      simp only [List.mem_cons, List.not_mem_nil, or_false] at hm
      rcases hm with e | e
      · rw [e] at this; exact Nat.lt_irrefl _ (Nat.lt_trans this l2)
      · rw [e] at this; exact Nat.lt_irrefl _ this
end
section
variable {P cs : List Int} {pcs : List (Int × Int)} {ks : List Kd} {x : Int} {n : Nat}
theorem Piece.bounds {i j : Nat} {c sz sym : Int} (H : Piece P x i j c sz sym) (h0 : 0 ≤ x) (h15 : x ≤ 15) : 1 ≤ sz ∧ sz ≤ j ∧ 0 ≤ sym ∧ sym ≤ 18 := by
  have h1 := H.lt
  have h2 := H.size
  have h3 := H.kind
  omega
theorem Made.bounds0 (M : Made P 0 ks n cs ((0, 0) :: pcs)) (hks : ks.map kst = zeroKinds) (i : Nat) (h1 : 1 ≤ i) (h2 : i ≤ n) : 1 ≤ (((0, 0) :: pcs).getD i (0, 0)).1 ∧ (((0, 0) :: pcs).getD i (0, 0)).1 ≤ i ∧ 0 ≤ (((0, 0) :: pcs).getD i (0, 0)).2 ∧ (((0, 0) :: pcs).getD i (0, 0)).2 ≤ 18 := by
  obtain ⟨j, c, _, _, hp, _⟩ := way_zero hks h1 (M.least i h1 h2).way
  exact hp.bounds (Int.le_refl _) (by omega)
theorem Made.bounds1 (M : Made P x ks n cs ((0, 0) :: pcs)) (h0 : 0 ≤ x) (h15 : x ≤ 15) (hks : ks.map kst = elseKinds) (i : Nat) (h1 : 1 ≤ i) (h2 : i ≤ n) : 1 ≤ (((0, 0) :: pcs).getD i (0, 0)).1 ∧ (((0, 0) :: pcs).getD i (0, 0)).1 ≤ i ∧ 0 ≤ (((0, 0) :: pcs).getD i (0, 0)).2 ∧ (((0, 0) :: pcs).getD i (0, 0)).2 ≤ 18 := by
  obtain ⟨j, c, _, _, hp⟩ := way_else h15 hks h1 (M.least i h1 h2).way
  exact hp.bounds h0 h15
end
theorem gz_len : ∀ n : Nat, (gz n).length ≤ n ∧ (1 ≤ n → (gz n).length ≠ 0) := by
  intro n
  induction n using Nat.strongRecOn with
  | ind n ih =>
    rw [gz]
    by_cases h : 11 ≤ n
    · rw [dif_pos h]
      have := (ih (n - min n 138) (by omega)).1
      rw [List.length_cons]; omega
    · rw [dif_neg h]
      split
      · simp; omega
      · simp; omega
theorem gc_len {x : Int} : ∀ n : Nat, (gc x n).length ≤ n := by
  intro n
  induction n using Nat.strongRecOn with
  | ind n ih =>
    rw [gc]
    by_cases h : 3 ≤ n
    · rw [dif_pos h]
      have := ih (n - min n 6) (by omega)
      rw [List.length_cons]; omega
    · rw [dif_neg h]; simp
theorem greedy_len {x : Int} {n : Nat} (hn : 1 ≤ n) : (greedy x n).length ≤ n ∧ (greedy x n).length ≠ 0 := by
  unfold greedy
  split
  · exact ⟨(gz_len n).1, (gz_len n).2 hn⟩
  · have := gc_len (x := x) (n - 1)
    rw [List.length_cons]; omega
theorem take_flat {rs : List (Int × Nat)} {i : Nat} {x : Int} {n : Nat} (h : rs[i]? = some (x, n)) : rs.take (i + 1) = rs.take i ++ [(x, n)] ∧ (flat (rs.take (i + 1))).length = (flat (rs.take i)).length + n ∧ (flat (rs.take i)).length + n ≤ (flat rs).length := by
  obtain ⟨hl, he⟩ := List.getElem?_eq_some_iff.mp h
  have e1 : rs.take (i + 1) = rs.take i ++ [(x, n)] := by rw [List.take_succ_eq_append_getElem hl, he]
  have e2 : (flat (rs.take (i + 1))).length = (flat (rs.take i)).length + n := by rw [e1, flat_append, flat_one, List.length_append, List.length_replicate]
  refine ⟨e1, e2, ?_⟩
  rw [← e2]
  have := congrArg (fun l => (flat l).length) (List.take_append_drop (i + 1) rs)
  simp only [flat_append, List.length_append] at this
  omega
theorem greedyAll_snoc {rs : List (Int × Nat)} {x : Int} {n : Nat} : greedyAll (rs ++ [(x, n)]) = greedyAll rs ++ greedy x n := by
  induction rs with
  | nil => simp [greedyAll]
  | cons p r ih => show greedy p.1 p.2 ++ greedyAll (r ++ [(x, n)]) = _ ++ _ ++ _; rw [ih, List.append_assoc]


-- RULES
local macro_rules | `(tactic| walk_at "call builtin:list.extend") => `(tactic| (k_here; (with_reducible show wpAny _ _ (call (Value.builtin _) [Value.ref _, Value.ref _]) _ _ _); k_dflt (refine' extend_L ?F ?N ?b ?ne ?U ?z ?y ?_; (case F => k_asm); (case N => k_asm); (case b => k_mem); (case U => k_upd); (case ne => assumption); (case z => ((try simp only [List.length_append, List.length_cons, List.length_nil]); omega)); (case y => omega)); intro h' F' N'))
-- END RULES
/-- what the loop of code_lengths_packed keeps -/
def PackJ (Pk : List (Int × Nat) → List (Int × Int) → Prop) (rs : List (Int × Nat)) (pv : Value) (cst : Led) (i : Nat) (m : Str → Option Value) (nx : Led) : Prop :=
  Stop (∃ (mk n3 : Nat) (ms : List Value) (tl : Led) (ps : List (Int × Int)), nx = (mk, listOf ms.toArray n3) :: (tl ++ cst) ∧ Names m [(Str.ofString "found", .ref mk), (Str.ofString "prices", pv)] ∧
    (∀ q ∈ tl ++ cst, q.1 ≠ mk) ∧ PairsAre tl ms ps ∧ Pk (rs.take i) ps ∧ ps.length ≤ (flat (rs.take i)).length)
theorem swap2 {a b : Addr × Obj} {tl : Led} : ∀ p ∈ a :: b :: tl, p ∈ b :: a :: tl := by
  intro p hp
  rcases List.mem_cons.mp hp with rfl | hp
  · exact .tail _ (.head _)
  · rcases List.mem_cons.mp hp with rfl | hp
    · exact .head _
    · exact .tail _ (.tail _ hp)
theorem packEnd {Pk : List (Int × Nat) → List (Int × Int) → Prop} {g h' : Heap} {L : Addr} {m' : Str → Option Value} {I mk n3 n4 i n tk : Nat} {x : Int} {oI : Obj} {gn : Array GenState} {dr : Drawn} {os : OsState} {rs : List (Int × Nat)} {pv : Value} {ms gws : List Value} {ps qs : List (Int × Int)} {tl gled cst all : Led}
    (F : Fr g L h' m') (N : News g L h' all) (sub : ∀ p ∈ (I, oI) :: (mk, listOf (ms ++ gws).toArray n4) :: (gled ++ (tl ++ cst)), p ∈ all)
    (off : Stop (∀ p ∈ (mk, listOf ms.toArray n3) :: (tl ++ cst), p.1 ≠ I)) (hg1 : ∀ q ∈ gled, q.1 ≠ I) (hg2 : ∀ q ∈ gled, q.1 ≠ mk) (hm : Names m' [(Str.ofString "found", .ref mk), (Str.ofString "prices", pv)])
    (hoff : ∀ q ∈ tl ++ cst, q.1 ≠ mk) (hpa : PairsAre tl ms ps) (hgp : PairsAre gled gws qs) (hq : rs[i]? = some (x, n)) (hpk : Pk (rs.take i ++ [(x, n)]) (ps ++ qs)) (hln : ps.length ≤ (flat (rs.take i)).length) (hqs : qs.length ≤ n) :
    Stop (∃ h'' tk' m'' nx', (⟨h', gn, dr, tk, os⟩ : Shared) = ⟨h'', gn, dr, tk', os⟩ ∧ Fr g L h'' m'' ∧ News g L h'' ((I, oI) :: nx') ∧ (∀ p ∈ nx', p.1 ≠ I) ∧ PackJ Pk rs pv cst (i + 1) m'' nx') := by
  obtain ⟨tf1, tf2, tf3⟩ := take_flat hq
  refine forEnd F N ((mk, listOf (ms ++ gws).toArray n4) :: ((gled ++ tl) ++ cst)) ?_ ?_ ⟨mk, n4, ms ++ gws, gled ++ tl, ps ++ qs, rfl, hm, ?_, ?_, ?_, ?_⟩
  · rw [List.append_assoc]; exact sub
  · intro p hp
    rcases List.mem_cons.mp hp with rfl | hp
    · exact off.go (mk, listOf ms.toArray n3) (.head _)
    · rw [List.append_assoc] at hp
      rcases List.mem_append.mp hp with hp | hp
      · exact hg1 p hp
      · exact off.go p (.tail _ hp)
  · intro p hp
    rw [List.append_assoc] at hp
    rcases List.mem_append.mp hp with hp | hp
    · exact hg2 p hp
    · exact hoff p hp
  · exact (hpa.mono fun p hp => List.mem_append.mpr (.inr hp)).append (hgp.mono fun p hp => List.mem_append.mpr (.inl hp))
  · rw [tf1]; exact hpk
  · rw [tf2, List.length_append]; omega
theorem packN_spec {w : World} {A : Around} {h₀ : Heap} {L : Addr} {m : Str → Option Value} {s : Shared} {R : Result → Shared → Prop}
    {l : Nat} {vs : List Value} {row : List Int} {rs : List (Int × Nat)}
    (C : Cx w 400 A h₀ L) (F : Fr h₀ L s.heap m) (N : News h₀ L s.heap []) (hl : s.heap.IsList l vs.toArray) (hI : IntsAre vs row) (hlen : row.length ≤ 400)
    (hrs : runsOf row = rs.map (fun p => (p.1, (p.2 : Int)))) (hfl : flat rs = row) (hpos : ∀ p ∈ rs, 1 ≤ p.2)
    (k : ∀ h' tk (a n1 : Nat) ws led, Same [] s.heap h' → s.heap.get? a = none → h'.get? a = some (listOf ws.toArray n1) → (∀ q ∈ led, h'.get? q.1 = some q.2 ∧ s.heap.get? q.1 = none) → PairsAre led ws (greedyAll rs) → (greedyAll rs).length ≤ row.length →
      R (.ok (.ret (.ref a))) { s with heap := h', toks := tk }) :
    codeAny (model Challenge.rw_no0091_01.row.prog w) A (.call (.ref 108) ⟨[], [(Str.ofString "lengths", .ref l)]⟩) R s := by
  have hX := Cx.inX ‹Cx _ _ _ _ _›
  revert hX
  k_fill
  intro _
  refine' enterP2 ?zoC ?zoF ?zoN ?zok6 ?zok7 ?zok8 ?zok9 ?zokB ?_ ?zoc2 ?zoc3 ?zoc4 ?zoc5; (case zoC => assumption); (case zoF => assumption); (case zoN => assumption); (case zok6 => k_is); (case zok7 => k_is); (case zok8 => decide); (case zok9 => first | exact BindsTo.of_eq rfl | exact binds_K (by k_in) rfl (by k_is) rfl rfl rfl); (case zoc5 => decide); (case zokB => exact locs rfl); (case zoc2 => exact rfl); (case zoc3 => exact rfl); (case zoc4 => exact rfl)
  k_whole
  intro g1 L1 h1 tk1 d1 u1 fs1 gd1 gn1 dr1 os1 Q1 E1 lo1 me1 mg1 mb1 F1' N1' C1 X1 T1 hE1 hu1 st hQ hN
  (try dsimp only)
  have hlg : (_ : Heap).IsList l vs.toArray := hl.at fun o e => st _ o e (by simp)
  all_goals k_steps
  refine Stop.mk ?_
  rename News _ _ _ _ => N1
  rename Fr _ _ _ _ => F1
  refine runs_step [(_, listOf ([] : List Value).toArray 0)] [] (Cx.wide (by k_asm) (by decide)) F1 N1 (hlg.at fun o e => F1.keep _ o e) hI (by omega) ?_
  intro h5 tk5 ra rn rws rled F5 N5 hof1 hof2 hps
  rw [hrs] at hps
  clear F1 N1
  simp only [List.append_nil, List.cons_append, List.nil_append] at N5 hof1 hof2
  k_steps
  refine Stop.mk ?_
  rename News _ _ _ _ => N6
  rename Fr _ _ _ _ => F6
  have hrl := hps.length
  rw [List.length_map] at hrl
  refine for_list (vs := rws) (PackJ (fun rs ps => ps = greedyAll rs) rs .none ((ra, listOf rws.toArray rn) :: rled)) rfl ?_ F6 (nx₀ := (_, listOf ([] : List Value).toArray 0) :: ([] ++ ((ra, listOf rws.toArray rn) :: rled))) (fun p hp => N6 p (swap2 p hp)) ?_ ?_ ?_ ?_ ?_
  · exact N6.isList (.head _)
  · refine ⟨_, _, [], [], [], rfl, ⟨rfl, rfl, trivial⟩, ?_, .nil, rfl, Nat.zero_le _⟩
    intro q hq
    rcases List.mem_cons.mp hq with rfl | hq
    · exact hof2 _ (.head _)
    · exact hof1 q hq _ (.head _)
  · intro i m₁ nx h hJ F2 N2
    obtain ⟨mk, n3, ms, tl, ps, rfl, _⟩ := hJ
    exact N2.isList (.tail _ (List.mem_append.mpr (.inr (.head _))))
  · intro I i v s' Q' E' hit hv hq
    obtain ⟨a, t, u', hva, _⟩ := hps.get i (by
      rw [List.length_map, ← hrl]
      exact (List.getElem?_eq_some_iff.mp hv).1)
    rw [hva] at hv
    cases hv
    exact wpAny_letOwnedTupleGo_listiter hit hq
  ·
    intro I i v oI m₁ nx h tk hi hv hJ off F2 N2 QQ hEnd hRet
    revert hJ
    refine stopE (ex5 fun mk n3 ms tl ps => and6 ?_)
    rintro rfl hm hoff hpa hpk hln
    have hi2 : i < rs.length := by omega
    obtain ⟨a, t, u', hva, hat⟩ := hps.get i (by rw [List.length_map]; exact hi2)
    rw [hva] at hv
    cases hv
    rw [List.getElem_map] at hat
    have hq := List.getElem?_eq_getElem hi2
    have hn1 := hpos _ (List.getElem_mem hi2)
    generalize rs[i] = xn at hq hat hn1
    obtain ⟨x, n⟩ := xn
    dsimp only at hat hn1
    obtain ⟨tf1, tf2, tf3⟩ := take_flat hq
    rw [hfl] at tf3
    have hmem : (a, tup2 x t (n : Int) u') ∈ tl ++ ((ra, listOf rws.toArray rn) :: rled) := List.mem_append.mpr (.inr (.tail _ hat))
    have hml := hpa.length
    have F3 := frK hm F2
    have hmI : mk ≠ I := off (mk, listOf ms.toArray n3) (.head _)
    have offI := Stop.mk off
    clear F2 F6 N6 hm hat hva hof1 hof2
    k_steps
    refine Stop.mk ?_
    rename News _ _ _ _ => N4
    rename Fr _ _ _ _ => F4
    refine greedy_step [(I, oI), (mk, listOf ms.toArray n3)] (tl ++ ((ra, listOf rws.toArray rn) :: rled)) (Cx.wide (by k_asm) (by decide)) F4 N4 rfl hn1 (by omega) ?_
    intro h7 tk7 ga gn gws gled F7 N7 ho1 ho2 hgp
    have hgne : gws.length ≠ 0 := by rw [hgp.length]; exact (greedy_len hn1).2
    have hgl : gws.length ≤ 400 := by rw [hgp.length]; have := (greedy_len (x := x) hn1).1; omega
    have e1 : ga ≠ mk := ho2 (mk, listOf ms.toArray n3) (.tail _ (.head _))
    simp only [List.cons_append, List.nil_append] at N7
    have e2 : I ≠ mk := Ne.symm hmI
    have hall : ∀ p ∈ gled ++ (tl ++ ((ra, listOf rws.toArray rn) :: rled)), p.1 ≠ mk := by
      intro p hp
      rcases List.mem_append.mp hp with hp | hp
      · exact ho1 p hp (mk, _) (by k_mem)
      · exact hoff p hp
    clear F4 N4
    k_steps
    rename News _ _ _ _ => N8
    rename Fr _ _ _ _ => F8
    exact hEnd _ <| packEnd F8 N8 (fun p hp => .tail _ hp) offI (fun q hq => ho1 q hq (I, oI) (.head _)) (fun q hq => ho1 q hq (mk, listOf ms.toArray n3) (.tail _ (.head _))) ⟨rfl, rfl, trivial⟩ hoff hpa hgp hq (by rw [hpk, greedyAll_snoc]) hln (greedy_len hn1).1
  · intro m₁ nx h tk hJ F2 N2
    revert hJ
    refine stopE (ex5 fun mk n3 ms tl ps => and6 ?_)
    rintro rfl hm hoff hpa hpk hln
    rw [hrl, List.take_length] at hpk hln
    have F3 := frK hm F2
    clear F2 F6 N6 hm
    k_steps
    rename News _ _ _ _ => N8
    rename Fr _ _ _ _ => F8
    refine hQ _ _ _ ?_
    refine k _ _ mk _ ms _ (sameOf st F8) (freshOf st N8 (.head _) (by simp)) (N8.get (.head _)) (fun q hq => ⟨(N8 _ (.tail _ hq)).1, freshOf st N8 (o := q.2) (.tail _ hq) (by simp)⟩) ?_ ?_
    · rw [← hpk]; exact hpa.mono fun p hp => List.mem_append.mpr (.inl hp)
    · rw [← hpk]; rw [hfl] at hln; exact hln

theorem Tell.ne {pc : List (Int × Int)} {n : Nat} {ps : List (Int × Int)} (T : Tell pc n ps) (h : 1 ≤ n) : ps.length ≠ 0 := by
  cases T with
  | zero => omega
  | step => simp
theorem pack_sub {a b c : Addr × Obj} {gled rest all : Led} (ha : a ∈ all) (hb : b ∈ all) (hc : c ∈ all) (h : ∀ q ∈ gled ++ rest, q ∈ all) : ∀ q ∈ a :: b :: ((c :: gled) ++ rest), q ∈ all := by
  rw [List.cons_append]
  exact subEnd ha hb hc h
theorem packP_spec {w : World} {A : Around} {h₀ : Heap} {L : Addr} {m : Str → Option Value} {s : Shared} {R : Result → Shared → Prop}
    {l pl : Nat} {vs pvs : List Value} {row P : List Int} {rs : List (Int × Nat)}
    (C : Cx w 400 A h₀ L) (F : Fr h₀ L s.heap m) (N : News h₀ L s.heap []) (hl : s.heap.IsList l vs.toArray) (hI : IntsAre vs row) (hlen : row.length ≤ 400)
    (hpl : s.heap.IsList pl pvs.toArray) (hP : IntsAre pvs P) (hP19 : P.length = 19)
    (hrs : runsOf row = rs.map (fun p => (p.1, (p.2 : Int)))) (hfl : flat rs = row) (hpos : ∀ p ∈ rs, 1 ≤ p.2) (h15 : ∀ p ∈ rs, 0 ≤ p.1 ∧ p.1 ≤ 15)
    (k : ∀ h' tk (a n1 : Nat) ws led ps, Same [] s.heap h' → s.heap.get? a = none → h'.get? a = some (listOf ws.toArray n1) → (∀ q ∈ led, h'.get? q.1 = some q.2 ∧ s.heap.get? q.1 = none) → PairsAre led ws ps → Pack P rs ps → ps.length ≤ row.length →
      R (.ok (.ret (.ref a))) { s with heap := h', toks := tk }) :
    codeAny (model Challenge.rw_no0091_01.row.prog w) A (.call (.ref 108) ⟨[.ref l, .ref pl], []⟩) R s := by
  have hX := Cx.inX ‹Cx _ _ _ _ _›
  revert hX
  k_fill
  intro _
  refine' enterP2 ?zoC ?zoF ?zoN ?zok6 ?zok7 ?zok8 ?zok9 ?zokB ?_ ?zoc2 ?zoc3 ?zoc4 ?zoc5; (case zoC => assumption); (case zoF => assumption); (case zoN => assumption); (case zok6 => k_is); (case zok7 => k_is); (case zok8 => decide); (case zok9 => first | exact BindsTo.of_eq rfl | exact binds_K (by k_in) rfl (by k_is) rfl rfl rfl); (case zoc5 => decide); (case zokB => exact locs rfl); (case zoc2 => exact rfl); (case zoc3 => exact rfl); (case zoc4 => exact rfl)
  k_whole
  intro g1 L1 h1 tk1 d1 u1 fs1 gd1 gn1 dr1 os1 Q1 E1 lo1 me1 mg1 mb1 F1' N1' C1 X1 T1 hE1 hu1 st hQ hN
  (try dsimp only)
  have hlg : (_ : Heap).IsList l vs.toArray := hl.at fun o e => st _ o e (by simp)
  have hplg : (_ : Heap).IsList pl pvs.toArray := hpl.at fun o e => st _ o e (by simp)
  all_goals k_steps
  refine Stop.mk ?_
  rename News _ _ _ _ => N1
  rename Fr _ _ _ _ => F1
  refine runs_step [(_, listOf ([] : List Value).toArray 0)] [] (Cx.wide (by k_asm) (by decide)) F1 N1 (hlg.at fun o e => F1.keep _ o e) hI (by omega) ?_
  intro h5 tk5 ra rn rws rled F5 N5 hof1 hof2 hps
  rw [hrs] at hps
  clear F1 N1
  simp only [List.append_nil, List.cons_append, List.nil_append] at N5 hof1 hof2
  k_steps
  refine Stop.mk ?_
  rename News _ _ _ _ => N6
  rename Fr _ _ _ _ => F6
  have hrl := hps.length
  rw [List.length_map] at hrl
  refine for_list (vs := rws) (PackJ (Pack P) rs (.ref pl) ((ra, listOf rws.toArray rn) :: rled)) rfl ?_ F6 (nx₀ := (_, listOf ([] : List Value).toArray 0) :: ([] ++ ((ra, listOf rws.toArray rn) :: rled))) (fun p hp => N6 p (swap2 p hp)) ?_ ?_ ?_ ?_ ?_
  · exact N6.isList (.head _)
  · refine ⟨_, _, [], [], [], rfl, ⟨rfl, rfl, trivial⟩, ?_, .nil, .nil, Nat.zero_le _⟩
    intro q hq
    rcases List.mem_cons.mp hq with rfl | hq
    · exact hof2 _ (.head _)
    · exact hof1 q hq _ (.head _)
  · intro i m₁ nx h hJ F2 N2
    obtain ⟨mk, n3, ms, tl, ps, rfl, _⟩ := hJ
    exact N2.isList (.tail _ (List.mem_append.mpr (.inr (.head _))))
  · intro I i v s' Q' E' hit hv hq
    obtain ⟨a, t, u', hva, _⟩ := hps.get i (by
      rw [List.length_map, ← hrl]
      exact (List.getElem?_eq_some_iff.mp hv).1)
    rw [hva] at hv
    cases hv
    exact wpAny_letOwnedTupleGo_listiter hit hq
  ·
    intro I i v oI m₁ nx h tk hi hv hJ off F2 N2 QQ hEnd hRet
    revert hJ
    refine stopE (ex5 fun mk n3 ms tl ps => and6 ?_)
    rintro rfl hm hoff hpa hpk hln
    have hi2 : i < rs.length := by omega
    obtain ⟨a, t, u', hva, hat⟩ := hps.get i (by rw [List.length_map]; exact hi2)
    rw [hva] at hv
    cases hv
    rw [List.getElem_map] at hat
    have hq := List.getElem?_eq_getElem hi2
    have hn1 := hpos _ (List.getElem_mem hi2)
    generalize rs[i] = xn at hq hat hn1
    obtain ⟨x, n⟩ := xn
    dsimp only at hat hn1
    obtain ⟨tf1, tf2, tf3⟩ := take_flat hq
    rw [hfl] at tf3
    have hmem : (a, tup2 x t (n : Int) u') ∈ tl ++ ((ra, listOf rws.toArray rn) :: rled) := List.mem_append.mpr (.inr (.tail _ hat))
    have hml := hpa.length
    have F3 := frK hm F2
    have hmI : mk ≠ I := off (mk, listOf ms.toArray n3) (.head _)
    have offI := Stop.mk off
    clear F2 F6 N6 hm hat hva hof1 hof2
    obtain ⟨hx0, hx15⟩ := h15 (x, n) (List.mem_of_getElem? hq)
    dsimp only at hx0 hx15
    k_steps
    · rename (x = 0) => hx
      subst hx
      refine Stop.mk ?_
      rename News _ _ _ _ => N4
      rename Fr _ _ _ _ => F4
      refine make_step (n := n) (Cx.wide (by k_asm) (by decide)) (by k_asm) F4 N4 hplg hP hP19 (by omega) (by omega) (by omega) (by omega) ?_
      intro h7 tk7 x7 dx7 cs pcs ks nd a1 a2 a3 a4 a5 b1 b2 b3 b4 b5 u1 l' pl' c' pc' kl' F7 N7 l71 l72 hR hpc hks hMd
      rw [if_pos rfl] at hks
      have e3 : dx7 ≠ mk := Nat.ne_of_gt (l71 (mk, listOf ms.toArray n3) (.tail _ (.head _)))
      have e4 : x7 ≠ mk := Nat.ne_of_gt (Nat.lt_trans (l71 (mk, listOf ms.toArray n3) (.tail _ (.head _))) l72)
      clear F4 N4
      k_steps
      refine Stop.mk ?_
      rename News _ _ _ _ => N9
      rename Fr _ _ _ _ => F9
      refine told_step (x := x7) (n := n) [(x7, instObj 96 dx7), (dx7, _), (I, oI), (mk, listOf ms.toArray n3)] (tl ++ ((ra, listOf rws.toArray rn) :: rled)) (Cx.wide (by k_asm) (by decide)) F9 N9 ?_ hR hpc (by omega) (hMd.bounds0 hks) ?_
      · first | rfl | omega
      intro h9 tk9 ga gn gws gled qs F4 N4 ho1 ho2 hgp hT hql
      have N7 := N4
      have F7 := F4
      clear F9 N9
      have hgne : gws.length ≠ 0 := by rw [hgp.length]; exact hT.ne hn1
      have hgl : gws.length ≤ 400 := by rw [hgp.length]; omega
      have e1 : ga ≠ mk := ho2 (mk, listOf ms.toArray n3) (by k_mem)
      simp only [List.cons_append, List.nil_append] at N7
      have e2 : I ≠ mk := Ne.symm hmI
      have hall : ∀ p ∈ gled ++ (tl ++ ((ra, listOf rws.toArray rn) :: rled)), p.1 ≠ mk := by
        intro p hp
        rcases List.mem_append.mp hp with hp | hp
        · exact ho1 p hp (mk, _) (by k_mem)
        · exact hoff p hp
      clear F4 N4
      k_steps
      rename News _ _ _ _ => N8
      rename Fr _ _ _ _ => F8
      exact hEnd _ <| packEnd F8 N8 (fun p hp => .tail _ (.tail _ (.tail _ hp))) offI (fun q hq => ho1 q hq (I, oI) (by k_mem)) (fun q hq => ho1 q hq (mk, listOf ms.toArray n3) (by k_mem)) ⟨rfl, rfl, trivial⟩ hoff hpa hgp hq (.snoc hpk (.zero hks hMd hT)) hln hql
    · rename (x ≠ 0) => hx
      rename (1 < (n : Int)) => hn2
      refine Stop.mk ?_
      rename News _ _ _ _ => N4
      rename Fr _ _ _ _ => F4
      refine make_step (n := (n - 1)) (Cx.wide (by k_asm) (by decide)) (by k_asm) F4 N4 hplg hP hP19 (by omega) (by omega) (by omega) (by omega) ?_
      intro h7 tk7 x7 dx7 cs pcs ks nd a1 a2 a3 a4 a5 b1 b2 b3 b4 b5 u1 l' pl' c' pc' kl' F7 N7 l71 l72 hR hpc hks hMd
      rw [if_neg hx] at hks
      rename ∀ p : Addr × Obj, p ∈ (I, oI) :: _ → p.1 < _ => hl1
      have e5 := Nat.ne_of_gt (hl1 _ (.tail _ (.head _)))
      have e3 : dx7 ≠ mk := Nat.ne_of_gt (l71 (mk, listOf (ms ++ [Value.ref _]).toArray (n3 + 1)) (.tail _ (.tail _ (.head _))))
      have e4 : x7 ≠ mk := Nat.ne_of_gt (Nat.lt_trans (l71 (mk, listOf (ms ++ [Value.ref _]).toArray (n3 + 1)) (.tail _ (.tail _ (.head _)))) l72)
      clear F4 N4
      k_steps
      refine Stop.mk ?_
      rename News _ _ _ _ => N9
      rename Fr _ _ _ _ => F9
      refine told_step (x := x7) (n := (n - 1)) [(x7, instObj 96 dx7), (dx7, _), (_, _), (I, oI), (mk, listOf (ms ++ [Value.ref _]).toArray (n3 + 1))] (tl ++ ((ra, listOf rws.toArray rn) :: rled)) (Cx.wide (by k_asm) (by decide)) F9 N9 ?_ hR hpc (by omega) (hMd.bounds1 hx0 hx15 hks) ?_
      · first | rfl | omega
      intro h9 tk9 ga gn gws gled qs F4 N4 ho1 ho2 hgp hT hql
      have N7 := N4
      have F7 := F4
      clear F9 N9
      have hgne : gws.length ≠ 0 := by rw [hgp.length]; exact hT.ne (by omega)
      have hgl : gws.length ≤ 400 := by rw [hgp.length]; omega
      have e1 : ga ≠ mk := ho2 (mk, listOf (ms ++ [Value.ref _]).toArray (n3 + 1)) (by k_mem)
      simp only [List.cons_append, List.nil_append] at N7
      have e2 : I ≠ mk := Ne.symm hmI
      have hall : ∀ p ∈ gled ++ (tl ++ ((ra, listOf rws.toArray rn) :: rled)), p.1 ≠ mk := by
        intro p hp
        rcases List.mem_append.mp hp with hp | hp
        · exact ho1 p hp (mk, _) (by k_mem)
        · exact hoff p hp
      clear F4 N4
      k_steps
      rename News _ _ _ _ => N8
      rename Fr _ _ _ _ => F8
      rw [List.append_assoc ms, List.singleton_append] at N8
      exact hEnd _ <| packEnd F8 N8 (gled := (_, tup2 x t 0 _) :: gled) (pack_sub (by k_mem) (by k_mem) (by k_mem) (fun p hp => .tail _ (.tail _ (.tail _ (.tail _ (.tail _ (.tail _ hp))))))) offI (offCons (by k_ne) (fun q hq => ho1 q hq (I, oI) (by k_mem))) (offCons e5 (fun q hq => ho1 q hq (mk, listOf (ms ++ [Value.ref _]).toArray (n3 + 1)) (by k_mem))) ⟨rfl, rfl, trivial⟩ hoff hpa (.cons (.head _) (hgp.mono fun _ h => .tail _ h)) hq (.snoc hpk (.more hx (by omega) hks hMd hT)) hln (by rw [List.length_cons]; omega)
    · rename (x ≠ 0) => hx
      rename (¬ 1 < (n : Int)) => hn2
      rename News _ _ _ _ => N8
      rename Fr _ _ _ _ => F8
      exact hEnd _ <| packEnd F8 N8 (gled := [(_, tup2 x t 0 _)]) (pack_sub (by k_mem) (by k_mem) (by k_mem) (fun p hp => .tail _ (.tail _ (.tail _ hp)))) offI (offCons (by k_ne) (fun _ h => nomatch h)) (offCons (by k_ne) (fun _ h => nomatch h)) ⟨rfl, rfl, trivial⟩ hoff hpa (.cons (.head _) .nil) hq (.snoc hpk (.one hx (by omega))) hln (by simpa using hn1)
  · intro m₁ nx h tk hJ F2 N2
    revert hJ
    refine stopE (ex5 fun mk n3 ms tl ps => and6 ?_)
    rintro rfl hm hoff hpa hpk hln
    rw [hrl, List.take_length] at hpk hln
    have F3 := frK hm F2
    clear F2 F6 N6 hm
    k_steps
    rename News _ _ _ _ => N8
    rename Fr _ _ _ _ => F8
    refine hQ _ _ _ ?_
    refine k _ _ mk _ ms _ ps (sameOf st F8) (freshOf st N8 (.head _) (by simp)) (N8.get (.head _)) (fun q hq => ⟨(N8 _ (.tail _ hq)).1, freshOf st N8 (o := q.2) (.tail _ hq) (by simp)⟩) ?_ ?_ ?_
    · exact hpa.mono fun p hp => List.mem_append.mpr (.inl hp)
    · exact hpk
    · rw [hfl] at hln; exact hln


theorem Cx.mono {w : World} {D D' : Nat} {A : Around} {h₀ : Heap} {L : Addr} (C : Cx w D A h₀ L) (h : D ≤ D') : Cx w D' A h₀ L := by
  obtain ⟨A₀, base, env, outer, gd, d, u, loose, mean, mg, mb, e, hd, hu, r⟩ := C.ex
  exact ⟨A₀, base, env, outer, gd, d, u, loose, mean, mg, mb, e, Nat.le_trans hd h, Nat.le_trans hu h, r⟩
theorem upd2 {h₀ h h' : Heap} {L b q : Addr} {news : Led} {n1 : Obj → Led} {n2 : Obj → Obj → Led} {ob oq ob' oq' : Obj} (N : News h₀ L h news) (Ub : ∀ o, Upd b ob o news (n1 o)) (Uq : ∀ o o', Upd q oq o' (n1 o) (n2 o o')) (S : Same [b, q] h h') (hb' : h'.get? b = some ob') (hq' : h'.get? q = some oq') :
    News h₀ L h' (n2 ob' oq') ∧ (∀ a ∈ [b, q], a ≠ L ∧ h₀.get? a = none) ∧ (b, ob) ∈ news ∧ (q, oq) ∈ news := by
  have e1 := upd_same (Ub ob)
  have hb := upd_has (Ub ob)
  have hq := upd_has (Uq ob oq)
  rw [e1] at hq
  refine ⟨?_, ?_, hb, hq⟩
  · intro p hp
    rcases upd_mem (Uq _ _) p hp with rfl | ⟨hp, hne⟩
    · exact ⟨hq', (N _ hq).2⟩
    · rcases upd_mem (Ub _) p hp with rfl | ⟨hp, hne'⟩
      · exact ⟨hb', (N _ hb).2⟩
      · exact ⟨S _ _ (by simp only [List.mem_cons, List.not_mem_nil, or_false, not_or]; exact ⟨hne', hne⟩) (N _ hp).1, (N _ hp).2⟩
  · intro a ha
    rcases List.mem_cons.mp ha with rfl | ha
    · exact (N _ hb).2
    · rw [List.mem_singleton.mp ha]; exact (N _ hq).2
theorem fresh_ne {h₀ h : Heap} {L p : Addr} {news : Led} (N : News h₀ L h news) (hp : h.get? p = none) : ∀ x ∈ news, x.1 ≠ p := by
  intro x hx e
  have := (N x hx).1
  rw [e, hp] at this; cases this
section
variable {w : World} {A : Around} {h₀ : Heap} {L : Addr} {m : Str → Option Value} {s : Shared} {Q : Value → Shared → Prop} {E : Value → Shared → Prop}
theorem prices_step {news : Led} {n1 : Obj → Led} {n2 : Obj → Obj → Led} {b q : Nat} {c : Int} {t0 : Tok} {n0 nq : Nat} {vs : List Value} {ns : List Int}
    (C : Cx w 550 A h₀ L) (F : Fr h₀ L s.heap m) (N : News h₀ L s.heap news) (Ub : ∀ o, Upd b (listOf #[.ref q, .int c t0] n0) o news (n1 o)) (Uq : ∀ o o', Upd q (listOf vs.toArray nq) o' (n1 o) (n2 o o'))
    (hbq : b ≠ q) (hI : IntsAre vs ns) (hlen : ns.length ≤ 63)
    (k : ∀ h' tk (p : Nat) pvs np (P : List Int) c' t1 n1' n2' vs' ns', Fr h₀ L h' m → News h₀ L h' ((p, listOf pvs.toArray np) :: n2 (listOf #[.ref q, .int c' t1] n1') (listOf vs'.toArray n2')) → (∀ x ∈ news, x.1 ≠ p) → IntsAre vs' ns' → ns'.length ≤ 63 → IntsAre pvs P → P.length = 19 →
      Q (.ref p) { s with heap := h', toks := tk }) :
    wpAny (model Challenge.rw_no0091_01.row.prog w) A (call (.ref 120) [.ref b] []) Q E s := by
  have hb := upd_has (Ub (listOf #[.ref q, .int c t0] n0))
  have hq := upd_has (Uq (listOf #[.ref q, .int c t0] n0) (listOf vs.toArray nq))
  rw [upd_same (Ub (listOf #[.ref q, .int c t0] n0))] at hq
  refine wpAny_call (prices_spec (c := c) (t0 := t0) (n0 := n0) (nq := nq) C F ?_ hbq hI hlen ?_)
  · intro p hp
    rcases List.mem_cons.mp hp with rfl | hp
    · exact N _ hb
    · rw [List.mem_singleton.mp hp]; exact N _ hq
  · intro h' tk p pvs np P c' t1 n1' n2' vs' ns' S hb' hq' hI' hl' hp hpo hP hP19
    obtain ⟨N2, hM, _, _⟩ := upd2 N Ub Uq S hb' hq'
    refine k h' tk p pvs np P c' t1 n1' n2' vs' ns' (backFr F S hM) ?_ (fresh_ne N hp) hI' hl' hP hP19
    intro x hx
    rcases List.mem_cons.mp hx with rfl | hx
    · exact ⟨hpo, newOf F hp⟩
    · exact N2 x hx
theorem row_step {news : Led} {n1 : Obj → Led} {n2 : Obj → Obj → Led} {b q : Nat} {c : Int} {t0 t5 t6 : Tok} {n0 nq : Nat} {vs : List Value} {ns : List Int} {most far : Int}
    (C : Cx w 550 A h₀ L) (F : Fr h₀ L s.heap m) (N : News h₀ L s.heap news) (Ub : ∀ o, Upd b (listOf #[.ref q, .int c t0] n0) o news (n1 o)) (Uq : ∀ o o', Upd q (listOf vs.toArray nq) o' (n1 o) (n2 o o'))
    (hbq : b ≠ q) (hI : IntsAre vs ns) (hlen : ns.length ≤ 63) (hmost : 0 ≤ most) (hmost2 : most ≤ 400) (hfar : 0 < far) (hfar2 : far ≤ 300)
    (k : ∀ h' tk (p : Nat) pvs np (P : List Int) c' t1 n1' n2' vs' ns', Fr h₀ L h' m → News h₀ L h' ((p, listOf pvs.toArray np) :: n2 (listOf #[.ref q, .int c' t1] n1') (listOf vs'.toArray n2')) → (∀ x ∈ news, x.1 ≠ p) → IntsAre vs' ns' → ns'.length ≤ 63 → IntsAre pvs P → P.length ≤ 400 → (∀ x ∈ P, 0 ≤ x ∧ x ≤ 15) →
      Q (.ref p) { s with heap := h', toks := tk }) :
    wpAny (model Challenge.rw_no0091_01.row.prog w) A (call (.ref 127) [.ref b, .int most t5, .int far t6] []) Q E s := by
  have hb := upd_has (Ub (listOf #[.ref q, .int c t0] n0))
  have hq := upd_has (Uq (listOf #[.ref q, .int c t0] n0) (listOf vs.toArray nq))
  rw [upd_same (Ub (listOf #[.ref q, .int c t0] n0))] at hq
  refine wpAny_call (row_spec (c := c) (t0 := t0) (n0 := n0) (nq := nq) C F ?_ hbq hI hlen hmost hmost2 hfar hfar2 ?_)
  · intro p hp
    rcases List.mem_cons.mp hp with rfl | hp
    · exact N _ hb
    · rw [List.mem_singleton.mp hp]; exact N _ hq
  · intro h' tk p pvs np P c' t1 n1' n2' vs' ns' S hb' hq' hI' hl' hp hpo hP hPl hP15
    obtain ⟨N2, hM, _, _⟩ := upd2 N Ub Uq S hb' hq'
    refine k h' tk p pvs np P c' t1 n1' n2' vs' ns' (backFr F S hM) ?_ (fresh_ne N hp) hI' hl' hP (by omega) hP15
    intro x hx
    rcases List.mem_cons.mp hx with rfl | hx
    · exact ⟨hpo, newOf F hp⟩
    · exact N2 x hx
theorem packN_step (pre rest : Led) {l : Nat} {vs : List Value} {row : List Int} {rs : List (Int × Nat)}
    (C : Cx w 400 A h₀ L) (F : Fr h₀ L s.heap m) (N : News h₀ L s.heap (pre ++ rest)) (hl : s.heap.IsList l vs.toArray) (hI : IntsAre vs row) (hlen : row.length ≤ 400)
    (hrs : runsOf row = rs.map (fun p => (p.1, (p.2 : Int)))) (hfl : flat rs = row) (hpos : ∀ p ∈ rs, 1 ≤ p.2)
    (k : ∀ h' tk (a n1 : Nat) ws led, Fr h₀ L h' m → News h₀ L h' ((a, listOf ws.toArray n1) :: (pre ++ (led ++ rest))) → (∀ q ∈ led, ∀ p ∈ pre ++ rest, q.1 ≠ p.1) → (∀ p ∈ pre ++ rest, a ≠ p.1) → PairsAre led ws (greedyAll rs) → (greedyAll rs).length ≤ row.length → Q (.ref a) { s with heap := h', toks := tk }) :
    wpAny (model Challenge.rw_no0091_01.row.prog w) A (call (.ref 108) [] [(Str.ofString "lengths", .ref l)]) Q E s := by
  refine wpAny_call (packN_spec C F (fun _ hp => nomatch hp) hl hI hlen hrs hfl hpos ?_)
  intro h' tk a n ws led S ha ho hled hps hln
  obtain ⟨h1, h2, h3⟩ := newsAll F N S hled ha ho
  exact k h' tk a n ws led (backFr F S (fun _ h => nomatch h)) h1 h2 h3 hps hln
theorem packP_step (pre rest : Led) {l pl : Nat} {vs pvs : List Value} {row P : List Int} {rs : List (Int × Nat)}
    (C : Cx w 400 A h₀ L) (F : Fr h₀ L s.heap m) (N : News h₀ L s.heap (pre ++ rest)) (hl : s.heap.IsList l vs.toArray) (hI : IntsAre vs row) (hlen : row.length ≤ 400)
    (hpl : s.heap.IsList pl pvs.toArray) (hP : IntsAre pvs P) (hP19 : P.length = 19)
    (hrs : runsOf row = rs.map (fun p => (p.1, (p.2 : Int)))) (hfl : flat rs = row) (hpos : ∀ p ∈ rs, 1 ≤ p.2) (h15 : ∀ p ∈ rs, 0 ≤ p.1 ∧ p.1 ≤ 15)
    (k : ∀ h' tk (a n1 : Nat) ws led ps, Fr h₀ L h' m → News h₀ L h' ((a, listOf ws.toArray n1) :: (pre ++ (led ++ rest))) → (∀ q ∈ led, ∀ p ∈ pre ++ rest, q.1 ≠ p.1) → (∀ p ∈ pre ++ rest, a ≠ p.1) → PairsAre led ws ps → Pack P rs ps → ps.length ≤ row.length → Q (.ref a) { s with heap := h', toks := tk }) :
    wpAny (model Challenge.rw_no0091_01.row.prog w) A (call (.ref 108) [.ref l, .ref pl] []) Q E s := by
  refine wpAny_call (packP_spec C F (fun _ hp => nomatch hp) hl hI hlen hpl hP hP19 hrs hfl hpos h15 ?_)
  intro h' tk a n ws led ps S ha ho hled hps hpk hln
  obtain ⟨h1, h2, h3⟩ := newsAll F N S hled ha ho
  exact k h' tk a n ws led ps (backFr F S (fun _ h => nomatch h)) h1 h2 h3 hps hpk hln
theorem read_step (pre rest : Led) {l : Nat} {vs : List Value} {ps : List (Int × Int)} {led : Led} {row : List Int}
    (C : Cx w 550 A h₀ L) (F : Fr h₀ L s.heap m) (N : News h₀ L s.heap (pre ++ rest)) (hl : s.heap.IsList l vs.toArray) (hps : PairsAre led vs ps) (hled : ∀ q ∈ led, s.heap.get? q.1 = some q.2)
    (hrd : rd ps [] = some row) (hlen : row.length ≤ 1000) (hpl : ps.length ≤ 1000)
    (k : ∀ h' tk (a n : Nat) ws, Fr h₀ L h' m → News h₀ L h' ((a, listOf ws.toArray n) :: (pre ++ rest)) → (∀ p ∈ pre ++ rest, a ≠ p.1) → IntsAre ws row → Q (.ref a) { s with heap := h', toks := tk }) :
    wpAny (model Challenge.rw_no0091_01.row.prog w) A (call (.ref 134) [.ref l] []) Q E s := by
  refine wpAny_call (read_spec C F (fun _ hp => nomatch hp) hl hps hled hrd hlen hpl ?_)
  intro h' tk a n ws S ha ho hI
  obtain ⟨h1, _, h3⟩ := newsAll (led := []) F N S (fun _ h => nomatch h) ha ho
  exact k h' tk a n ws (backFr F S (fun _ h => nomatch h)) h1 h3 hI
theorem longest_step (pre rest : Led) {l : Nat} {vs : List Value} {row : List Int}
    (C : Cx w 550 A h₀ L) (F : Fr h₀ L s.heap m) (N : News h₀ L s.heap (pre ++ rest)) (hl : s.heap.IsList l vs.toArray) (hI : IntsAre vs row) (hlen : row.length ≤ 1000)
    (k : ∀ h' tk (a n : Nat) ws ps led p, Fr h₀ L h' m → News h₀ L h' ((a, listOf ws.toArray n) :: (pre ++ (led ++ rest))) → PairsAre led ws ps → Longest row ps p → row.length ≤ p → Q (.ref a) { s with heap := h', toks := tk }) :
    wpAny (model Challenge.rw_no0091_01.row.prog w) A (call (.ref 153) [.ref l] []) Q E s := by
  refine wpAny_call (longest_spec C F (fun _ hp => nomatch hp) hl hI hlen ?_)
  intro h' tk a n ws ps led p S ha ho hled hps hL hp _
  obtain ⟨h1, _, h3⟩ := newsAll F N S hled ha ho
  exact k h' tk a n ws ps led p (backFr F S (fun _ h => nomatch h)) h1 hps hL hp
theorem fewest_step {news : Led} {l pl : Nat} {vs pvs : List Value} {row P : List Int}
    (C : Cx w 550 A h₀ L) (F : Fr h₀ L s.heap m) (N : News h₀ L s.heap news) (hl : s.heap.IsList l vs.toArray) (hI : IntsAre vs row) (hlen : row.length ≤ 400) (h15 : ∀ x, x ∈ row → 0 ≤ x ∧ x ≤ 15)
    (hpl : s.heap.IsList pl pvs.toArray) (hP : IntsAre pvs P) (hP19 : P.length = 19)
    (k : ∀ h' tk (b : List Int) t, Fr h₀ L h' m → News h₀ L h' news → b.getD row.length 0 = 0 → (∀ p, p < row.length → Best row P b p) → Q (.int (b.getD 0 0) t) { s with heap := h', toks := tk }) :
    wpAny (model Challenge.rw_no0091_01.row.prog w) A (call (.ref 146) [.ref l, .ref pl] []) Q E s := by
  refine wpAny_call (fewest_spec C F (fun _ hp => nomatch hp) hl hI hlen h15 hpl hP hP19 ?_)
  intro h' tk b t S _ hb0 hB
  exact k h' tk b t (backFr F S (fun _ h => nomatch h)) (fun p hp => ⟨S _ _ (fun h => nomatch h) (N p hp).1, (N p hp).2⟩) hb0 hB
end
/-- lists of pairs of ints, compared -/
def pdPairs (ps : List (Int × Int)) : List PyData := ps.map fun p => .tuple [.int p.1, .int p.2]
theorem reads_pairs {h : Heap} {led : Led} (hled : ∀ q ∈ led, h.get? q.1 = some q.2) {vs : List Value} {ps : List (Int × Int)} (k : PairsAre led vs ps) : ReadsAll h vs (pdPairs ps) [] := by
  induction k with
  | nil => exact .nil
  | @cons a x y t u vs ps hm _ ih =>
    have h1 : Reads h (.ref a) (.tuple [.int x, .int y]) [] := reads_tuple_at (hled _ hm) rfl rfl (readsAll_cons_val (.int x t) (readsAll_cons_val (.int y u) .nil))
    exact readsAll_cons_val h1 ih
theorem eqv_pairs : ∀ ps : List (Int × Int), PyData.eqvAll (pdPairs ps) (pdPairs ps) = true
  | [] => by simp [pdPairs, PyData.eqvAll]
  | p :: r => by
    have := eqv_pairs r
    simp only [pdPairs, List.map_cons, PyData.eqvAll, PyData.eqv] at this ⊢
    simp [this]
theorem shaped_pairs (ps : List (Int × Int)) : SeqAt.shaped (.list (pdPairs ps)) = true := by
  have h1 : ∀ ps : List (Int × Int), PyData.canLayAll0 (pdPairs ps) = true := by
    intro ps
    induction ps with
    | nil => simp [pdPairs, PyData.canLayAll0]
    | cons p r ih => simp only [pdPairs, List.map_cons, PyData.canLayAll0, PyData.canLay0] at ih ⊢; simp [ih]
  have h2 : ∀ ps : List (Int × Int), PyData.depthAll (pdPairs ps) ≤ 2 := by
    intro ps
    induction ps with
    | nil => simp [pdPairs, PyData.depthAll]
    | cons p r ih => simp only [pdPairs, List.map_cons, PyData.depthAll, PyData.depth] at ih ⊢; omega
  have h3 : PyData.depth (.list (pdPairs ps)) ≤ 64 := by have := h2 ps; simp only [PyData.depth]; omega
  show (PyData.canLay0 (.list (pdPairs ps)) && decide (PyData.depth (.list (pdPairs ps)) ≤ 64)) = true
  rw [Bool.and_eq_true]
  exact ⟨by simp only [PyData.canLay0]; exact h1 ps, decide_eq_true h3⟩
theorem eq_pairs {prog : Program} {w : World} {A : Around} {s : Shared} {Q : Value → Shared → Prop} {E : Value → Shared → Prop} {h₀ : Heap} {L : Addr} {news led led2 : Led} {a b n n2 : Nat} {vs ws : List Value} {ps : List (Int × Int)}
    (N : News h₀ L s.heap news) (ha : (a, listOf vs.toArray n) ∈ news) (hb : (b, listOf ws.toArray n2) ∈ news) (hled : ∀ q ∈ led, q ∈ news) (hled2 : ∀ q ∈ led2, q ∈ news) (hv : PairsAre led vs ps) (hw : PairsAre led2 ws ps) (hu : A.units + 64 < cLine)
    (h : Q (.bool true) s) : wpAny (model prog w) A (compareOp .Eq (.ref a) (.ref b)) Q E s := by
  have r1 : Reads s.heap (.ref a) (.list (pdPairs ps)) [a] := reads_list_at (N.get ha) rfl rfl (reads_pairs (fun q hq => (N q (hled q hq)).1) hv)
  have r2 : Reads s.heap (.ref b) (.list (pdPairs ps)) [b] := reads_list_at (N.get hb) rfl rfl (reads_pairs (fun q hq => (N q (hled2 q hq)).1) hw)
  refine eq_dataH r1 r2 (shaped_pairs ps) (shaped_pairs ps) hu ?_
  have e : PyData.eqv (.list (pdPairs ps)) (.list (pdPairs ps)) = true := by
    simp only [PyData.eqv]; exact eqv_pairs ps
  rw [e]; exact h
section
open PyProof.Rows.LCg PyProof.Rows.LCp
variable {prog : Program} {w : World} {A : Around} {E : Value → Shared → Prop} {s₁ : Shared} {h₀ : Heap} {L : Addr} {m : Str → Option Value} {env : Env}
theorem comp_pairs {elt : Expr} {x x₂ : Str} {scope : Scope} {cl : List (Str × Addr)} {Fin : Shared → List Value → Led → Prop} {ax n : Nat} {vs : List Value} {ps : List (Int × Int)} {led news : Led} (J : Nat → List Value → Led → Prop)
    (hh : A.handled = none) (F : Fr h₀ L s₁.heap m) (N : News h₀ L s₁.heap news) (hm : (ax, listOf vs.toArray n) ∈ news) (hps : PairsAre led vs ps) (hsz : vs.length ≤ 1000000)
    (hled : ∀ i ys nw, J i ys nw → ∀ q ∈ led, q ∈ nw) (h0 : J 0 [] news)
    (turn : ∀ i t u (I : Nat) oI (C : Nat) oC (D : Nat) m₂ h tk (E' : Value → Shared → Prop) ys news (hi : i < ps.length), J i ys news → NsObj oC m₂ → m₂ x = some (.int (ps[i]'hi).1 t) → m₂ x₂ = some (.int (ps[i]'hi).2 u) → Fr h₀ L h m → News h₀ L h ((I, oI) :: (C, oC) :: (D, lst ys) :: news) → Off3 I C D news → ((@Ne Nat I C) ∧ (@Ne Nat I D) ∧ (@Ne Nat C D)) →
      wpAny (model prog w) A (eval elt (compEnvC scope cl C env)) (CompEnd h₀ L m { s₁ with heap := h, toks := tk } I oI C oC D (lst ys) (SrcAt h₀ ax vs.toArray) (fun y news' => J (i + 1) (ys ++ [y]) news')) E' { s₁ with heap := h, toks := tk })
    (fin : ∀ g ys news, J ps.length ys news → Fin { s₁ with heap := g } ys news) :
    SrcLP prog w A h₀ L m env elt x x₂ scope cl Fin (.ref ax) s₁ := by
  refine SrcLP.ledger hh F N hm (by rw [sizeLine_eq, List.size_toArray]; omega) fun g => ?_
  rw [List.size_toArray]
  have hl := hps.length
  have key : ∀ (k i : Nat) (ys : List Value) (news : Led), i + k = ps.length → J i ys news → CompRestP prog w A h₀ L m env elt x x₂ scope cl { s₁ with heap := g } (SrcAt h₀ ax vs.toArray) (fun i v => vs.toArray[i]? = some v) (Fin { s₁ with heap := g }) k i ys news := by
    intro k
    induction k with
    | zero => intro i ys news e hJ; exact fin g ys news (by rw [← e]; exact hJ)
    | succ k ih =>
      intro i ys news e hJ v hv
      have hi : i < ps.length := by omega
      obtain ⟨a, t, u, hva, hat⟩ := hps.get i hi
      have hv' : v = .ref a := by
        have h1 : vs[i]? = some v := by simpa using hv
        rw [hva] at h1
        exact (Option.some.inj h1).symm
      subst hv'
      refine ⟨a, _, _, _, _, rfl, hled i ys news hJ _ hat, rfl, rfl, ?_⟩
      intro I oI C oC D m₂ h tk E' hC hx hx2 F' N' off ne
      refine wpAny_mono (turn i t u I oI C oC D m₂ h tk E' ys news hi hJ hC hx hx2 F' N' off ne) (fun y s' hy => ?_) fun _ _ e => e
      obtain ⟨h', tk', news', e1, F', N', o', S', J'⟩ := hy
      exact ⟨h', tk', news', e1, F', N', o', S', ih (i + 1) _ _ (by omega) J'⟩
  rw [hl]
  exact key ps.length 0 [] news (Nat.zero_add _) h0
end


theorem margin : claimMargin = 300 := by decide +kernel
theorem greedy_law2 {row : List Int} (h15 : ∀ x ∈ row, 0 ≤ x ∧ x ≤ 15) : ∃ rs : List (Int × Nat), runsOf row = rs.map (fun p => (p.1, (p.2 : Int))) ∧ flat rs = row ∧ (∀ p ∈ rs, 1 ≤ p.2) ∧ (∀ p ∈ rs, 0 ≤ p.1 ∧ p.1 ≤ 15) ∧ Good none rs ∧ rd (greedyAll rs) [] = some row ∧
    (∀ ps p, Longest row ps p → row.length ≤ p → ps = greedyAll rs) := by
  obtain ⟨rs, h1, h2, h3⟩ := runs_good row
  have hx : ∀ p ∈ rs, 0 ≤ p.1 ∧ p.1 ≤ 15 := fun p hp => h15 _ (by rw [← h2]; exact mem_flat (x := p.1) (n := p.2) hp (h3.pos p hp))
  refine ⟨rs, h1, h2, h3.pos, hx, h3, ?_, ?_⟩
  · rw [rd_all rs (fun p hp => ⟨h3.pos p hp, hx p hp⟩), h2]; rfl
  · intro ps p L hp
    have := longest_all (fun x hx => (h15 x hx).1) rs [] [] h3 h2.symm .nil
    exact L.end this hp (Nat.le_refl _)
section
variable {prog : Program} {w : World} {A : Around} {E : Value → Shared → Prop} {s : Shared} {h₀ : Heap} {L : Addr} {m : Str → Option Value} {news : Led}
theorem max_zero {k : Int} {t u : Tok} {Q : Value → Shared → Prop} (F : Fr h₀ L s.heap m) (N : News h₀ L s.heap news) (hh : A.handled = none) (hk : k ≤ 0)
    (h : ∀ h' tk, Fr h₀ L h' m → News h₀ L h' news → Q (.int 0 t) { s with heap := h', toks := tk }) : wpAny (model prog w) A (call (.builtin "max") [.int 0 t, .int k u]) Q E s :=
  max_two_ints hh fun h' tk hk' => by rw [if_neg (by omega)]; exact h h' tk (F.keeps hk') (N.grown hk')
theorem isi_list {a n : Nat} {vs : Array Value} {Q : Value → Shared → Prop} (N : News h₀ L s.heap news) (hm : (a, listOf vs n) ∈ news) (h : Q (.bool true) s) : wpAny (model prog w) A (call (.builtin "isinstance") [.ref a, .type "list"]) Q E s :=
  IsiPair.isList_list (h₀ := s.heap) ⟨_, (N _ hm).1, rfl, n, rfl⟩ (fun _ _ e => e) h
theorem item_first {value slice : Expr} {l n : Nat} {x : Value} {vs : List Value} {u : Tok} {Q : Value → Shared → Prop} (N : News h₀ L s.heap news) (hm : (l, listOf (x :: vs).toArray n) ∈ news) (h : Q x s)
    (hs : subscripted slice false (.ref l) (.int 0 u) = operate [.ref l, .int 0 u] (getItem (.ref l) (.int 0 u)) := by with_unfolding_all rfl) :
    wpAny (model prog w) A (subscriptTail value slice (.ref l) (.int 0 u)) Q E s := by
  have hl : s.heap.IsList l (x :: vs).toArray := ⟨_, (N _ hm).1, rfl, n, rfl⟩
  exact tail_any hl.typeIs slot_list_getitem.lookup (wpAny_getItem_list hl (Int.le_refl _) (by decide) (by simp) h) hs
end
-- RULES
local macro_rules | `(tactic| walk_at "call builtin:isinstance") => `(tactic| (k_here; (with_reducible show wpAny _ _ (call (Value.builtin _) [Value.ref _, Value.type "list"]) _ _ _); k_dflt (refine' isi_list ?N ?m ?_; (case N => k_asm); (case m => k_mem))))
local macro_rules | `(tactic| walk_at "call builtin:sum") => `(tactic| (k_here; (with_reducible show wpAny _ _ (call (Value.builtin "sum") [Value.ref _]) _ _ _); k_dflt (refine' sumK ?k0 ?k1 ?k2 ?k3 ?k4 ?_; (case k0 => rfl); (case k1 => k_asm); (case k2 => k_asm); (case k3 => exact News.isList (by k_asm) (by k_mem)); (case k4 => assumption)); intro h' tk' t' F' N'))
local macro_rules | `(tactic| walk_at "subscriptTail Name Constant ref int") => `(tactic| (k_here; (with_reducible show wpAny _ _ (subscriptTail _ _ (Value.ref _) (Value.int 0 _)) _ _ _); k_dflt (refine' item_first ?N ?m ?_; (case N => k_asm); (case m => k_mem))))
local macro_rules | `(tactic| walk_at "call builtin:max") => `(tactic| (k_here; (with_reducible show wpAny _ _ (call (Value.builtin _) [Value.int 0 _, Value.int _ _]) _ _ _); k_dflt (refine' max_zero ?F ?N ?hh ?k ?_; (case F => k_asm); (case N => k_asm); (case hh => rfl); (case k => omega)); intro h' tk' F' N'))
local macro_rules | `(tactic| walk_at "compareOp Eq ref ref") => `(tactic| (refine stop ?_))
local macro_rules | `(tactic| walk_at "compareOp NotEq ref ref") => `(tactic| (refine stop ?_))
local macro_rules | `(tactic| walk_at "SrcLP") => `(tactic| (refine stop ?_))
local macro_rules | `(tactic| walk_at "CompEnd") => `(tactic| (refine stop ?_))
-- END RULES
theorem eq_pairs2 {prog : Program} {w : World} {A : Around} {s : Shared} {Q : Value → Shared → Prop} {E : Value → Shared → Prop} {h₀ : Heap} {L : Addr} {nw led led2 : Led} {a b n n2 : Nat} {vs ws : List Value} {ps : List (Int × Int)}
    (N : News h₀ L s.heap ((b, listOf ws.toArray n2) :: ([] ++ (led2 ++ nw)))) (ha : (a, listOf vs.toArray n) ∈ nw) (hled : ∀ q ∈ led, q ∈ nw) (hv : PairsAre led vs ps) (hw : PairsAre led2 ws ps) (hu : A.units + 64 < cLine)
    (h : Q (.bool true) s) : wpAny (model prog w) A (compareOp .Eq (.ref a) (.ref b)) Q E s :=
  eq_pairs (s := s) (news := (b, listOf ws.toArray n2) :: (led2 ++ nw)) N (.tail _ (List.mem_append.mpr (.inr ha))) (.head _) (fun q hq => .tail _ (List.mem_append.mpr (.inr (hled q hq)))) (fun q hq => .tail _ (List.mem_append.mpr (.inl hq))) hv hw hu h
section
variable {prog : Program} {w : World} {A : Around} {s : Shared} {Q : Value → Shared → Prop} {E : Value → Shared → Prop} {h₀ : Heap} {L : Addr} {news : Led}
theorem ne_ints2 {a b n n2 : Nat} {vs ws : List Value} {ns : List Int} (N : News h₀ L s.heap news) (ha : (a, listOf vs.toArray n) ∈ news) (hb : (b, listOf ws.toArray n2) ∈ news) (hv : IntsAre vs ns) (hw : IntsAre ws ns) (hu : A.units + 64 < cLine)
    (h : Q (.bool false) s) : wpAny (model prog w) A (compareOp .NotEq (.ref a) (.ref b)) Q E s :=
  ne_intsK (N.isList ha) hv (N.isList hb) hw hu (by rw [decide_eq_true rfl]; exact h)
theorem eqv_ints (ns : List Int) : PyData.eqv (.list (ns.map PyData.int)) (.list (ns.map PyData.int)) = true := by
  simp only [PyData.eqv]; rw [ked_eqvAll]; exact decide_eq_true rfl
theorem ne_keptN {a b n n2 r1 r2 m1 m2 : Nat} {vs ws : List Value} {ns : List Int} (N : News h₀ L s.heap news) (ha : (a, listOf #[Value.ref r1, Value.none] n) ∈ news) (hb : (b, listOf #[Value.ref r2, Value.none] n2) ∈ news)
    (h1 : (r1, listOf vs.toArray m1) ∈ news) (h2 : (r2, listOf ws.toArray m2) ∈ news) (hv : IntsAre vs ns) (hw : IntsAre ws ns) (hu : A.units + 64 < cLine)
    (h : Q (.bool false) s) : wpAny (model prog w) A (compareOp .NotEq (.ref a) (.ref b)) Q E s := by
  have q1 : Reads s.heap (.ref a) (.list [.list (ns.map PyData.int), .none]) _ := reads_list_at (N.get ha) rfl rfl (.cons (reads_of_ints (N.isList h1) hv) (.cons .none .nil))
  have q2 : Reads s.heap (.ref b) (.list [.list (ns.map PyData.int), .none]) _ := reads_list_at (N.get hb) rfl rfl (.cons (reads_of_ints (N.isList h2) hw) (.cons .none .nil))
  have hs : SeqAt.shaped (.list [.list (ns.map PyData.int), .none]) = true := by
    have e1 := canLayAll0_ints ns
    have e2 := PySem.W.depthAll_ints ns
    have e3 : PyData.depth (.list [.list (ns.map PyData.int), .none]) ≤ 64 := by simp only [PyData.depth, PyData.depthAll]; omega
    show (PyData.canLay0 _ && decide (_ ≤ 64)) = true
    rw [Bool.and_eq_true]
    exact ⟨by simp only [PyData.canLay0, PyData.canLayAll0, e1]; rfl, decide_eq_true e3⟩
  refine ne_dataH q1 q2 hs hs hu ?_
  have e : PyData.eqv (.list [.list (ns.map PyData.int), .none]) (.list [.list (ns.map PyData.int), .none]) = true := by
    have := eqv_ints ns
    simp only [PyData.eqv, PyData.eqvAll] at this ⊢
    rw [this]; rfl
  rw [e]; exact h
theorem ne_keptP {a b n n2 r1 r2 m1 m2 p1 p2 k1 k2 : Nat} {vs ws pv pw : List Value} {ns P : List Int} (N : News h₀ L s.heap news) (ha : (a, listOf #[Value.ref r1, Value.ref p1] n) ∈ news) (hb : (b, listOf #[Value.ref r2, Value.ref p2] n2) ∈ news)
    (h1 : (r1, listOf vs.toArray m1) ∈ news) (h2 : (r2, listOf ws.toArray m2) ∈ news) (h3 : (p1, listOf pv.toArray k1) ∈ news) (h4 : (p2, listOf pw.toArray k2) ∈ news) (hv : IntsAre vs ns) (hw : IntsAre ws ns) (hpv : IntsAre pv P) (hpw : IntsAre pw P) (hu : A.units + 64 < cLine)
    (h : Q (.bool false) s) : wpAny (model prog w) A (compareOp .NotEq (.ref a) (.ref b)) Q E s := by
  have q1 : Reads s.heap (.ref a) (.list [.list (ns.map PyData.int), .list (P.map PyData.int)]) _ := reads_list_at (N.get ha) rfl rfl (.cons (reads_of_ints (N.isList h1) hv) (.cons (reads_of_ints (N.isList h3) hpv) .nil))
  have q2 : Reads s.heap (.ref b) (.list [.list (ns.map PyData.int), .list (P.map PyData.int)]) _ := reads_list_at (N.get hb) rfl rfl (.cons (reads_of_ints (N.isList h2) hw) (.cons (reads_of_ints (N.isList h4) hpw) .nil))
  have hs : SeqAt.shaped (.list [.list (ns.map PyData.int), .list (P.map PyData.int)]) = true := by
    have e1 := canLayAll0_ints ns
    have e2 := PySem.W.depthAll_ints ns
    have f1 := canLayAll0_ints P
    have f2 := PySem.W.depthAll_ints P
    have e3 : PyData.depth (.list [.list (ns.map PyData.int), .list (P.map PyData.int)]) ≤ 64 := by simp only [PyData.depth, PyData.depthAll]; omega
    show (PyData.canLay0 _ && decide (_ ≤ 64)) = true
    rw [Bool.and_eq_true]
    exact ⟨by simp only [PyData.canLay0, PyData.canLayAll0, e1, f1]; rfl, decide_eq_true e3⟩
  refine ne_dataH q1 q2 hs hs hu ?_
  have e : PyData.eqv (.list [.list (ns.map PyData.int), .list (P.map PyData.int)]) (.list [.list (ns.map PyData.int), .list (P.map PyData.int)]) = true := by
    have h1 := eqv_ints ns
    have h2 := eqv_ints P
    simp only [PyData.eqv, PyData.eqvAll] at h1 h2 ⊢
    rw [h1, h2]; rfl
  rw [e]; exact h
end
theorem news_nil {h₀ h : Heap} {L : Addr} {l : Led} (N : News h₀ L h l) : News h₀ L h (l ++ []) := by rw [List.append_nil]; exact N
theorem pack_rd {P : List Int} {rs : List (Int × Nat)} {ps : List (Int × Int)} (H : Pack P rs ps) (hx : ∀ p ∈ rs, 0 ≤ p.1 ∧ p.1 ≤ 15) : rd ps [] = some (flat rs) := by
  induction H with
  | nil => rfl
  | @snoc rs x n ps qs _ hq ih =>
    have h1 := ih fun p hp => hx p (List.mem_append.mpr (.inl hp))
    have h2 := hx (x, n) (List.mem_append.mpr (.inr (.head _)))
    rw [rd_append, h1, flat_append, flat_one]
    exact hq.reads h2.1 h2.2
theorem rd_bounds {ps : List (Int × Int)} : ∀ {m r : List Int}, rd ps m = some r → ∀ p ∈ ps, 0 ≤ p.1 ∧ p.1 ≤ 18 := by
  induction ps with
  | nil => intro _ _ _ p hp; cases hp
  | cons q qs ih =>
    intro m r h p hp
    obtain ⟨m', h1, h2⟩ := Option.bind_eq_some_iff.mp h
    rcases List.mem_cons.mp hp with rfl | hp
    · have := rd1_cases (x := p.1) (y := p.2) h1
      omega
    · exact ih h2 p hp
def spend (P : List Int) (p : Int × Int) : Int := P.getD p.1.toNat 0 + moreBits p.1
theorem spend_sum {P : List Int} : ∀ ps : List (Int × Int), (ps.map (spend P)).sum = cost P ps
  | [] => rfl
  | p :: r => by rw [List.map_cons, List.sum_cons, spend_sum r]; rfl
theorem absA {w : World} {A : Around} {D : Nat} {g : Heap} {L : Addr} {c : Sem Flow} {Q : Flow → Shared → Prop} {E : Value → Shared → Prop} {hp : Heap} {gn0 : Array GenState} {dr0 : Drawn} {tk : Nat} {os0 : OsState} (C : Cx w D A g L)
    (k : ∀ (d u : Nat) (fs : Option (List Env)) (gd : Option (List Code)) (Q' : Flow → Shared → Prop) (E' : Value → Shared → Prop) (gn : Array GenState) (dr : Drawn) (os : OsState), Cx w D ⟨none, d, fs, gd, u⟩ g L → u ≤ D →
      (∀ f h' tk', Q f ⟨h', gn0, dr0, tk', os0⟩ → Q' f ⟨h', gn, dr, tk', os⟩) → wpAny (model Challenge.rw_no0091_01.row.prog w) ⟨none, d, fs, gd, u⟩ c Q' E' ⟨hp, gn, dr, tk, os⟩) :
    wpAny (model Challenge.rw_no0091_01.row.prog w) A c Q E ⟨hp, gn0, dr0, tk, os0⟩ := by
  obtain ⟨A₀, base, env, outer, gd, d, u, loose, mean, mg, mb, rfl, hd, hu, r⟩ := id C.ex
  exact k _ _ _ _ Q E gn0 dr0 os0 C hu fun _ _ _ q => q
theorem law_walk : Challenge.rw_no0091_01.Holds := Mine.hd (.intro left <| by
  k_go0
  refine absA (D := 310) (Cx.here (by k_asm) (by k_asm) (by k_asm) rfl rfl ?_ ?_) ?_
  · show 1 + claimMargin + 1 ≤ _
    rw [margin]; decide
  · show 4 + _ ≤ _
    decide
  intro d9 u9 fs9 gd9 Q9 E9 gn9 dr9 os9 C9 hu9 hQ9
  rename Fr _ _ _ _ => F0
  refine frN (ps := [(Str.ofString "script", _)]) F0 ⟨rfl, trivial⟩ ?_
  clear F0
  intro m0 F0
  k_steps
  refine Stop.mk ?_
  rename News _ _ _ _ => N1
  rename Fr _ _ _ _ => F1
  rename IntsAre _ (List.take 30 _) => hI
  rename ((List.take 30 _).length = _) => hIl
  refine take_step (Cx.wide (by k_asm) (by decide)) F1 N1 (fun o => by k_upd) (fun o o' => by k_upd) (by k_ne) hI (by decide) (by omega) ?_
  intro h2 tk2 v2 t2 c2 t12 n12 n22 vs2 ns2 F2 N2 hI2 hl2 hv0 hv1
  clear F1 N1
  by_cases hv : 0 < v2
  · k_steps
    refine Stop.mk ?_
    rename News _ _ _ _ => N3
    rename Fr _ _ _ _ => F3
    refine prices_step (Cx.wide (by k_asm) (by decide)) F3 N3 (fun o => by k_upd) (fun o o' => by k_upd) (by k_ne) hI2 (by omega) ?_
    clear hI2 hl2
    intro h3 tk3 pp pvs pn P c3 t3 n13 n23 vs3 ns3 F4 N4 hnp hI2 hl2 hP hP19
    simp only [List.forall_mem_cons] at hnp
    obtain ⟨hnp1, hnp2, hnp3, _⟩ := hnp
    clear F3 N3
    have hPv := hP.length
    k_steps
    refine Stop.mk ?_
    rename News _ _ _ _ => N3
    rename Fr _ _ _ _ => F3
    refine row_step (Cx.wide (by k_asm) (by decide)) F3 N3 (fun o => by k_upd) (fun o o' => by k_upd) (by k_ne) hI2 (by omega) (by first | decide | omega) (by first | decide | (split <;> omega)) (by decide) (by decide) ?_
    intro h4 tk4 rp rvs rn row c4 t4 n14 n24 vs4 ns4 F4 N4 hnr hI4 hl4 hR hRl hR15
    clear F3 N3
    obtain ⟨rs, hrs, hfl, hpos, hrx, hgood, hrd, hlong⟩ := greedy_law2 hR15
    have hRv := hR.length
    rename Fr _ _ _ _ => F0
    refine frN (ps := [(Str.ofString "priced", _)]) F0 ⟨rfl, trivial⟩ ?_
    clear F0
    intro m0 F0
    k_steps
    refine Stop.mk ?_
    rename News _ _ _ _ => N5
    rename Fr _ _ _ _ => F5
    have N5' := news_nil N5
    refine packP_step _ [] (Cx.wide (by k_asm) (by decide)) F5 N5' (N5.isList (by k_mem)) hR hRl (N5.isList (by k_mem)) hP hP19 hrs hfl hpos hrx ?_
    intro h6 tk6 ta tn tws led ps F6 N6 ho1 ho2 hps hpk hpl
    simp only [List.append_nil, List.cons_append, List.nil_append] at N6
    clear F5 N5 N5' hrd hlong
    have hpv := hps.length
    have hrd := pack_rd hpk hrx
    rw [hfl] at hrd
    have hsb := rd_bounds hrd
    k_steps
    refine Stop.mk ?_
    rename News _ _ _ _ => N7
    rename Fr _ _ _ _ => F7
    refine read_step [] _ (Cx.wide (by k_asm) (by decide)) F7 N7 (N7.isList (by k_mem)) hps (fun q hq => (N7 q (by repeat (first | exact hq | apply List.Mem.tail))).1) hrd (by omega) (by omega) ?_
    intro h8 tk8 ra ran rws F8 N8 hne8 hrI
    simp only [List.nil_append] at N8
    clear F7 N7
    k_steps
    refine Stop.mk ?_
    rename News _ _ _ _ => N7
    refine ne_ints2 N7 (by k_mem) (by k_mem) hrI hR (by ke_room) ?_
    k_steps
    refine Stop.mk ?_
    rename News _ _ _ _ => N7
    refine ne_keptP N7 (by k_mem) (by k_mem) (by k_mem) (by k_mem) (by k_mem) (by k_mem) hR hR hP hP (by ke_room) ?_
    k_steps
    refine Stop.mk ?_
    rename News _ _ _ _ => N9
    rename Fr _ _ _ _ => F9
    clear hne8
    refine comp_pairs (n := tn) (fun i ys nw => Stop (nw = _ ∧ ∃ zs, IntsAre ys zs ∧ zs = (ps.take i).map (spend P))) rfl F9 N9 (by k_mem) hps (by omega) ?_ ⟨rfl, [], .nil, rfl⟩ ?_ ?_
    · intro i ys nw hJ q hq
      obtain ⟨rfl, _⟩ := hJ
      repeat (first | exact hq | apply List.Mem.tail)
    · intro i t u I oI C oC D m₂ h tk E' ys nw hi hJ hC hx hx2 F2 N2 off ne
      revert hJ
      refine stopE (and2 ?_)
      rintro rfl ⟨zs, hz, hzl⟩
      have hb := hsb _ (List.getElem_mem hi)
      have htk : (ps.take (i + 1)).map (spend P) = zs ++ [spend P ps[i]] := by
        rw [List.take_succ_eq_append_getElem hi, List.map_append, hzl]; rfl
      have off' := Stop.mk off
      generalize ps[i] = pq at *
      obtain ⟨sy, re⟩ := pq
      dsimp only at hb hx hx2
      clear F9 N9 off
      obtain ⟨hb0, hb1⟩ := hb
      rcases (by omega : sy = 16 ∨ sy = 17 ∨ sy = 18 ∨ sy < 16) with rfl | rfl | rfl | hb2
      ·
        k_steps
        refine Stop.mk ?_
        rename News _ _ _ _ => N4
        rename Fr _ _ _ _ => F4
        refine LCg.CompEnd.intro F4 N4 _ (fun p hp => .tail _ hp) off'.go (.inr ⟨listOf tws.toArray tn, ?_, rfl, tn, rfl⟩) ⟨rfl, _, hz.append (.cons _ _ .nil), ?_⟩
        · k_mem
        · rw [htk]; rfl
      ·
        k_steps
        refine Stop.mk ?_
        rename News _ _ _ _ => N4
        rename Fr _ _ _ _ => F4
        refine LCg.CompEnd.intro F4 N4 _ (fun p hp => .tail _ hp) off'.go (.inr ⟨listOf tws.toArray tn, ?_, rfl, tn, rfl⟩) ⟨rfl, _, hz.append (.cons _ _ .nil), ?_⟩
        · k_mem
        · rw [htk]; rfl
      ·
        k_steps
        refine Stop.mk ?_
        rename News _ _ _ _ => N4
        rename Fr _ _ _ _ => F4
        refine LCg.CompEnd.intro F4 N4 _ (fun p hp => .tail _ hp) off'.go (.inr ⟨listOf tws.toArray tn, ?_, rfl, tn, rfl⟩) ⟨rfl, _, hz.append (.cons _ _ .nil), ?_⟩
        · k_mem
        · rw [htk]; rfl
      ·
        k_steps
        refine Stop.mk ?_
        rename News _ _ _ _ => N4
        rename Fr _ _ _ _ => F4
        refine LCg.CompEnd.intro F4 N4 _ (fun p hp => .tail _ hp) off'.go (.inr ⟨listOf tws.toArray tn, ?_, rfl, tn, rfl⟩) ⟨rfl, _, hz.append (.cons _ _ .nil), ?_⟩
        · k_mem
        · rw [htk]; (simp only [spend]; rw [show moreBits sy = 0 by unfold moreBits; rw [if_neg (by omega), if_neg (by omega), if_neg (by omega)]])
    · intro g ys nw hJ
      revert hJ
      refine stopE (and2 ?_)
      rintro rfl ⟨zs, hz, hzl⟩
      rw [List.take_length] at hzl
      clear F9 N9
      k_steps
      refine Stop.mk ?_
      rename News _ _ _ _ => N11
      rename Fr _ _ _ _ => F11
      refine fewest_step (Cx.wide (by k_asm) (by decide)) F11 N11 (N11.isList (by k_mem)) hR hRl hR15 (N11.isList (by k_mem)) hP hP19 ?_
      intro h12 tk12 bb tb F12 N12 hb0 hB
      have hsum : zs.sum = bb.getD 0 0 := by rw [hzl, spend_sum]; exact (pack_law hR15 hgood hfl hpk hB hb0).2
      clear F11 N11
      k_steps
      refine hQ9 _ _ _ ?_
      k_steps
  · k_steps
    ·
      refine Stop.mk ?_
      rename News _ _ _ _ => N3
      rename Fr _ _ _ _ => F3
      refine row_step (Cx.wide (by k_asm) (by decide)) F3 N3 (fun o => by k_upd) (fun o o' => by k_upd) (by k_ne) hI2 (by omega) (by first | decide | omega) (by first | decide | (split <;> omega)) (by decide) (by decide) ?_
      intro h4 tk4 rp rvs rn row c4 t4 n14 n24 vs4 ns4 F4 N4 hnr hI4 hl4 hR hRl hR15
      clear F3 N3
      obtain ⟨rs, hrs, hfl, hpos, hrx, hgood, hrd, hlong⟩ := greedy_law2 hR15
      have hRv := hR.length
      rename Fr _ _ _ _ => F0
      refine frN (ps := [(Str.ofString "priced", _)]) F0 ⟨rfl, trivial⟩ ?_
      clear F0
      intro m0 F0
      k_steps
      refine Stop.mk ?_
      rename News _ _ _ _ => N5
      rename Fr _ _ _ _ => F5
      have N5' := news_nil N5
      refine packN_step _ [] (Cx.wide (by k_asm) (by decide)) F5 N5' (N5.isList (by k_mem)) hR hRl hrs hfl hpos ?_
      intro h6 tk6 ta tn tws led F6 N6 ho1 ho2 hps hpl
      simp only [List.append_nil, List.cons_append, List.nil_append] at N6
      clear F5 N5 N5'
      have hpv := hps.length
      k_steps
      refine Stop.mk ?_
      rename News _ _ _ _ => N7
      rename Fr _ _ _ _ => F7
      refine read_step [] _ (Cx.wide (by k_asm) (by decide)) F7 N7 (N7.isList (by k_mem)) hps (fun q hq => (N7 q (by repeat (first | exact hq | apply List.Mem.tail))).1) hrd (by omega) (by omega) ?_
      intro h8 tk8 ra ran rws F8 N8 hne8 hrI
      simp only [List.nil_append] at N8
      clear F7 N7
      k_steps
      refine Stop.mk ?_
      rename News _ _ _ _ => N7
      refine ne_ints2 N7 (by k_mem) (by k_mem) hrI hR (by ke_room) ?_
      k_steps
      refine Stop.mk ?_
      rename News _ _ _ _ => N7
      refine ne_keptN N7 (by k_mem) (by k_mem) (by k_mem) (by k_mem) hR hR (by ke_room) ?_
      k_steps
      refine Stop.mk ?_
      rename News _ _ _ _ => N9
      rename Fr _ _ _ _ => F9
      refine longest_step [] _ (Cx.wide (by k_asm) (by decide)) F9 N9 (N9.isList (by k_mem)) hR (by omega) ?_
      intro h10 tk10 la ln lws lps led2 lp F10 N10 hlps hL hlp
      obtain rfl := hlong _ _ hL hlp
      clear F9 N9
      k_steps
      refine Stop.mk ?_
      refine eq_pairs2 N10 (by k_mem) (fun q hq => by repeat (first | exact hq | apply List.Mem.tail)) hps hlps (by ke_room) ?_
      k_steps
      refine hQ9 _ _ _ ?_
      k_steps
    ·
      refine Stop.mk ?_
      rename News _ _ _ _ => N3
      rename Fr _ _ _ _ => F3
      refine row_step (Cx.wide (by k_asm) (by decide)) F3 N3 (fun o => by k_upd) (fun o o' => by k_upd) (by k_ne) hI2 (by omega) (by first | decide | omega) (by first | decide | (split <;> omega)) (by decide) (by decide) ?_
      intro h4 tk4 rp rvs rn row c4 t4 n14 n24 vs4 ns4 F4 N4 hnr hI4 hl4 hR hRl hR15
      clear F3 N3
      obtain ⟨rs, hrs, hfl, hpos, hrx, hgood, hrd, hlong⟩ := greedy_law2 hR15
      have hRv := hR.length
      rename Fr _ _ _ _ => F0
      refine frN (ps := [(Str.ofString "priced", _)]) F0 ⟨rfl, trivial⟩ ?_
      clear F0
      intro m0 F0
      k_steps
      refine Stop.mk ?_
      rename News _ _ _ _ => N5
      rename Fr _ _ _ _ => F5
      have N5' := news_nil N5
      refine packN_step _ [] (Cx.wide (by k_asm) (by decide)) F5 N5' (N5.isList (by k_mem)) hR hRl hrs hfl hpos ?_
      intro h6 tk6 ta tn tws led F6 N6 ho1 ho2 hps hpl
      simp only [List.append_nil, List.cons_append, List.nil_append] at N6
      clear F5 N5 N5'
      have hpv := hps.length
      k_steps
      refine Stop.mk ?_
      rename News _ _ _ _ => N7
      rename Fr _ _ _ _ => F7
      refine read_step [] _ (Cx.wide (by k_asm) (by decide)) F7 N7 (N7.isList (by k_mem)) hps (fun q hq => (N7 q (by repeat (first | exact hq | apply List.Mem.tail))).1) hrd (by omega) (by omega) ?_
      intro h8 tk8 ra ran rws F8 N8 hne8 hrI
      simp only [List.nil_append] at N8
      clear F7 N7
      k_steps
      refine Stop.mk ?_
      rename News _ _ _ _ => N7
      refine ne_ints2 N7 (by k_mem) (by k_mem) hrI hR (by ke_room) ?_
      k_steps
      refine Stop.mk ?_
      rename News _ _ _ _ => N7
      refine ne_keptN N7 (by k_mem) (by k_mem) (by k_mem) (by k_mem) hR hR (by ke_room) ?_
      k_steps
      refine Stop.mk ?_
      rename News _ _ _ _ => N9
      rename Fr _ _ _ _ => F9
      refine longest_step [] _ (Cx.wide (by k_asm) (by decide)) F9 N9 (N9.isList (by k_mem)) hR (by omega) ?_
      intro h10 tk10 la ln lws lps led2 lp F10 N10 hlps hL hlp
      obtain rfl := hlong _ _ hL hlp
      clear F9 N9
      k_steps
      refine Stop.mk ?_
      refine eq_pairs2 N10 (by k_mem) (fun q hq => by repeat (first | exact hq | apply List.Mem.tail)) hps hlps (by ke_room) ?_
      k_steps
      refine hQ9 _ _ _ ?_
      k_steps
    )

end Mine
theorem PySem.Challenge.cw_no0091_01_holds : PySem.Challenge.rw_no0091_01.Holds :=
  Mine.law_walk
