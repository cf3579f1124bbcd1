import PyProof.Rows.All
import Wide.All
import OpenK.AllK
import Wide.FinOn
import PySem.Challenge.RW_pf0186_01
open PySem PySem.W PySem.Calls PyProof.Rows
set_option Elab.async false
set_option maxRecDepth 100000
set_option maxHeartbeats 8000000
namespace Mine
section --H0
-- the head: the top's run in one look of the kernel, no twin of the program
abbrev pgm : Program := PySem.Challenge.rw_pf0186_01.row.toRowW.prog
noncomputable def qv : Program := view pgm [31]
noncomputable def looseN : List PySem.Str := ["MillError", "SizeFault", "RULES", "comes_behind", "crossings", "is_inside", "winding_at", "step_of", "sample_place", "check_rule", "Side", "side_between", "sides_of_contour", "sides_of", "sides_between", "_law_pool", "_law_take", "_law_one", "_law_contours", "_law_rows", "_law_place", "_law_crossed", "_law_row_right", "_law_between_right", "_law_refused", "_law_samples_right", "_law_small_right"]
theorem opens : ∀ w : World, (fencedOpening treeTable pgm w 3202).map (fun s => (s.heap, s.gens, s.drawn, s.toks)) = some (boot_heap w.params, Array.mk [], boot_drawn, boot_toks) :=
  boot_open (by kernel_rfl) (by decide) (fun s => by kernel_rfl)
/-- the top's run on a heap that is a tree -/
noncomputable def runT (stp : SharedT → Thread → Option (SharedT × Thread)) (ok : Thread → Bool) : Nat → SharedT → Thread → Option SharedT
  | 0, _, _ => none
  | n + 1, s, t => match through t with
    | true => some s
    | false => match ok t with
      | false => none
      | true => match stp s t with
        | some (s', t') => runT stp ok n s' t'
        | none => none
theorem runT_spec {tb : String → Option Builtin} {p : Program} {w : World} {n₀ : Nat} {ann : Option Value} : ∀ {n : Nat} {s s' : SharedT} {t : Thread}, runT (stepT (denote tb) p w) (stepOk n₀ ann) n s t = some s' → topRun tb p w n₀ ann n s.abs t = some s'.abs
  | 0, _, _, _, h => nomatch h
  | n + 1, s, s', t, h => by
    unfold runT at h
    unfold topRun
    cases ht : through t with
    | true => rw [ht] at h; cases h; rfl
    | false =>
      rw [ht] at h
      cases hk : stepOk n₀ ann t with
      | false => rw [hk] at h; cases h
      | true =>
        rw [hk] at h
        cases hs : stepT (denote tb) p w s t with
        | none => rw [hs] at h; cases h
        | some r => obtain ⟨s₂, t₂⟩ := r; rw [hs] at h; rw [stepT_spec hs]; exact runT_spec h
noncomputable def bootT (P : Params) : BT := ((boot_heap P).objs.toList.foldl (fun a o => (a.1.ins a.2 o, a.2 + 1)) (BT.nil, 0)).1
noncomputable def S0T (w : World) (os : OsState) : SharedT := ⟨bootT w.params, (boot_heap w.params).objs.size, (boot_heap w.params).life, Array.mk [], boot_drawn, boot_toks, os⟩
theorem s0_abs (w : World) (os : OsState) : (S0T w os).abs = ⟨boot_heap w.params, Array.mk [], boot_drawn, boot_toks, os⟩ := by kernel_rfl
theorem left_once {p q : Program} {loose : List PySem.Str} {Xt : Shared → Bool} {α : Type} {Yf : Shared → α} {Ya : World → α} {N : Nat}
    (o : ∀ w : World, (fencedOpening treeTable p w N).map (fun s => (s.heap, s.gens, s.drawn, s.toks)) = some (boot_heap w.params, Array.mk [], boot_drawn, boot_toks))
    (h : ∀ w os, (runT (stepT (denote treeTable) p w) (stepOk (boot_heap w.params).objs.size ((boot_heap w.params).nsMap mainGlobals "__annotations__")) N (S0T w os) (topStub p)).map (fun s => ((staticsOk (importedModules p.main.body) (boot_heap w.params) s.abs.heap && namesBound p s.abs.heap && gensDone s.abs && laidKept (boot_heap w.params) s.abs.heap), openSeen q loose (importedModules p.main.body) Xt true s.abs, Yf s.abs)) = some (true, openGood q loose, Ya w)) :
    LeftO p q loose Xt Yf Ya N := fun w => by
  obtain ⟨⟨h', gs, d, k, os⟩, e, e'⟩ := Option.map_eq_some_iff.mp (o w)
  obtain ⟨rfl, rfl, rfl, rfl⟩ : h' = boot_heap w.params ∧ gs = Array.mk [] ∧ d = boot_drawn ∧ k = boot_toks := by simpa using e'
  obtain ⟨sT, e1, e2⟩ := Option.map_eq_some_iff.mp (h w os)
  obtain ⟨l1, l2⟩ := Prod.mk.inj e2
  have r := runT_spec e1
  rw [s0_abs] at r
  have z1 : ((boot_heap w.params).isNs mainGlobals && (Array.mk [] : Array GenState).size == 0) = true := by kernel_rfl
  unfold openEnds
  rw [e]
  show (topFrom treeTable p w N _).map _ = _
  unfold topFrom
  dsimp only
  rw [z1, r]
  show Option.map _ (match staticsOk (importedModules p.main.body) (boot_heap w.params) sT.abs.heap && namesBound p sT.abs.heap && gensDone sT.abs && laidKept (boot_heap w.params) sT.abs.heap with | true => some sT.abs | false => none) = _
  rw [l1]
  exact congrArg some l2
theorem map_three {α β γ δ : Type} {o : Option α} {c : α → β} {f : α → γ} {g : α → δ} {x : β} {y : γ} {z : δ} (h1 : o.map (fun s => (c s, f s)) = some (x, y)) (h2 : o.map g = some z) : o.map (fun s => (c s, f s, g s)) = some (x, y, z) := by
  cases o with
  | none => cases h1
  | some v => cases h1; cases h2; rfl
section
local macro_rules | `(tactic| o_head $_) => `(tactic| assumption)
/-- the written part of the heap is laid down under this name -/
theorem hd (_ : PySem.Challenge.rw_pf0186_01.row.Holds) : PySem.Challenge.rw_pf0186_01.row.Holds := by
  k_head
end
noncomputable def asK : List Addr := [2, 3, 15, 22, 24, 25, 27, 28, 29, 30, 31, 32, 35, 42, 43, 44, 47, 48, 50, 51, 53, 54, 55, 57, 58, 60, 61, 62, 64, 65, 67, 68, 69, 71, 72, 74, 75, 76, 78, 79, 81, 82, 83, 85, 86, 88, 89, 90, 92, 93, 95, 96, 104, 106, 107, 109, 110, 111, 113, 114, 116, 117, 118, 120, 121, 123, 124, 125, 127, 128, 130, 131, 132, 133, 134, 135, 136, 139, 141, 142, 144, 145, 146, 148, 149, 151, 152, 153, 154, 156, 157, 159, 160, 161, 164, 165, 166, 168, 169, 171, 172, 173, 175, 176, 178, 179, 180, 182, 183, 185, 186, 187, 189, 190, 192, 193, 194, 197, 198, 199, 201, 202, 204, 205, 206, 209, 210, 211, 214, 215, 216, 219, 220, 221, 223, 224, 226, 227, 228, 230, 231, 233, 234, 235, 237, 238, 240, 241, 242, 245, 246]
theorem asK_is (P : Params) : asK = (hd.heap_1 P).map (·.1) := by kernel_rfl
noncomputable def hookK : Hook := kmHook hd.heap_1 asK asK_is [236, 229]
theorem look1 (w : World) (os : OsState) : (runT (stepT (denote treeTable) pgm w) (stepOk (boot_heap w.params).objs.size ((boot_heap w.params).nsMap mainGlobals "__annotations__")) 3202 (S0T w os) (topStub pgm)).map (fun s => ((staticsOk (importedModules pgm.main.body) (boot_heap w.params) s.abs.heap && namesBound pgm s.abs.heap && gensDone s.abs && laidKept (boot_heap w.params) s.abs.heap), openSeen qv looseN (importedModules pgm.main.body) (fun s => xlAt qv [] s && recOk (RowW.records PySem.Challenge.rw_pf0186_01.row.toRowW) s) true s.abs)) = some (true, openGood qv looseN) := by
  rw [PySem.W.Fast.te14364793385576792824, PySem.W.Fast.te4187177175401517315, PySem.W.Fast.te5923862056798008813, PySem.W.Fast.te10156331382660048174, PySem.W.Fast.te11892475500146522536, PySem.W.Fast.te6613529449190102663]
  kernel_rfl
theorem look2 (w : World) (os : OsState) : (runT (stepT (denote treeTable) pgm w) (stepOk (boot_heap w.params).objs.size ((boot_heap w.params).nsMap mainGlobals "__annotations__")) 3202 (S0T w os) (topStub pgm)).map (fun s => hookK.obs s.abs) = some (hookK.val w) := by
  rw [PySem.W.Fast.te14364793385576792824, PySem.W.Fast.te10156331382660048174, PySem.W.Fast.te11892475500146522536, PySem.W.Fast.te6613529449190102663]
  kernel_rfl
local macro_rules | `(tactic| o_head $_) => `(tactic| (
  refine holds_open (q := qv) (loose := looseN) (Xt := fun s => xlAt qv [] s && recOk (RowW.records PySem.Challenge.rw_pf0186_01.row.toRowW) s) (XP := XL qv []) (Yf := hookK.obs) (Ya := hookK.val) (YP := (kmHook hd.heap_1 asK asK_is [236, 229]).says) (N := 3202) (left_once opens (fun w os => map_three (look1 w os) (look2 w os))) hookK.of hookK.keeps (fun s e => xl_of s (Bool.and_eq_true_iff.mp e).1) XL.keeps (by rfl) (by rfl) (by rfl) (fun s e => recFacts_of (Bool.and_eq_true_iff.mp e).2) (by rfl) (by first | assumption | decide +kernel) (by decide +kernel) ⟨rfl, rfl, rfl, rfl, rfl, by decide +kernel⟩ ?hw ?hc))
open_top hdT for PySem.Challenge.rw_pf0186_01

end --H0
section --B1
abbrev pg : Program := Challenge.rw_pf0186_01.row.prog
abbrev Led := List (Addr × Obj)
abbrev tupO (vs : List Value) (n : Nat) : Obj := { cls := .type "tuple", data := .seq vs.toArray n }
abbrev lisO (vs : List Value) (n : Nat) : Obj := listOf vs.toArray n
theorem mul_bd {a b A B : Int} (h1 : -A ≤ a) (h2 : a ≤ A) (h3 : -B ≤ b) (h4 : b ≤ B) : -(A * B) ≤ a * b ∧ a * b ≤ A * B := by
  have e1 : (a.natAbs : Int) ≤ A := by omega
  have e2 : (b.natAbs : Int) ≤ B := by omega
  have e3 : ((a * b).natAbs : Int) ≤ A * B := by
    rw [Int.natAbs_mul, Int.natCast_mul]
    exact Int.mul_le_mul e1 e2 (Int.natCast_nonneg _) (Int.le_trans (Int.natCast_nonneg _) e1)
  omega
set_option genSizeOf false
set_option genSizeOfSpec false
set_option genInjectivity false
structure Row where
  x1 : Int
  y1 : Int
  x2 : Int
  y2 : Int
  way : Int
structure Cr where
  num : Int
  den : Int
  way : Int
abbrev sideDict (w : World) (r : Row) (k1 k2 k3 k4 k5 t1 t2 t3 t4 t5 : Tok) : Obj :=
  dictOf [⟨PyData.keyHash w.params "x1", .str "x1" k1, .int r.x1 t1⟩, ⟨PyData.keyHash w.params "y1", .str "y1" k2, .int r.y1 t2⟩, ⟨PyData.keyHash w.params "x2", .str "x2" k3, .int r.x2 t3⟩,
    ⟨PyData.keyHash w.params "y2", .str "y2" k4, .int r.y2 t4⟩, ⟨PyData.keyHash w.params "way", .str "way" k5, .int r.way t5⟩] 5
/-- the ledger holds at v an object of the class Side with the row r -/
noncomputable def SideIn (w : World) (news : Led) (v : Value) (r : Row) : Prop :=
  ∃ x dx k1 k2 k3 k4 k5 t1 t2 t3 t4 t5, v = .ref x ∧ (x, instObj 134 dx) ∈ news ∧ (dx, sideDict w r k1 k2 k3 k4 k5 t1 t2 t3 t4 t5) ∈ news
theorem SideIn.mono {w : World} {l l' : Led} {v : Value} {r : Row} (hs : ∀ p ∈ l, p ∈ l') : SideIn w l v r → SideIn w l' v r := by
  rintro ⟨x, dx, k1, k2, k3, k4, k5, t1, t2, t3, t4, t5, e, a, b⟩
  exact ⟨x, dx, k1, k2, k3, k4, k5, t1, t2, t3, t4, t5, e, hs _ a, hs _ b⟩
noncomputable def mkSide (p q : Int × Int) : Option Row := if p.2 = q.2 then none else if p.2 < q.2 then some ⟨p.1, p.2, q.1, q.2, 1⟩ else some ⟨q.1, q.2, p.1, p.2, -1⟩
noncomputable def RowOk (r : Row) : Prop := -20 ≤ r.x1 ∧ r.x1 ≤ 20 ∧ -20 ≤ r.x2 ∧ r.x2 ≤ 20 ∧ -20 ≤ r.y1 ∧ r.y1 < r.y2 ∧ r.y2 ≤ 20 ∧ (r.way = 1 ∨ r.way = -1)
noncomputable def Row.num (r : Row) (y : Int) : Int := r.x1 * (r.y2 - r.y1) + (r.x2 - r.x1) * (y - r.y1)
noncomputable def Row.den (r : Row) : Int := r.y2 - r.y1
noncomputable def Row.cr (r : Row) (y : Int) : Cr := ⟨r.num y, r.den, r.way⟩
noncomputable def Row.on (r : Row) (y : Int) : Bool := decide (r.y1 ≤ y ∧ y < r.y2)

/-- the law's source of draws: two ints in a list -/
abbrev srcO (a b : Int) (ta tb : Tok) : Obj := lisO [.int a ta, .int b tb] 0
noncomputable def SrcOk (a b : Int) : Prop := 0 ≤ a ∧ 0 ≤ b ∧ b < 2147483647
/-! lists of the ledger, whatever they hold -/
section
variable {prog : Program} {w : World} {A : Around} {E : Value → Shared → Prop} {s : Shared} {h₀ : Heap} {L : Addr} {m : Str → Option Value} {news news' : Led} {value slice : PySem.Expr} {l b : Addr} {vs ws : List Value} {n n2 : Nat} {k : Int} {u : Tok} {Q : Value → Shared → Prop}
theorem lx_len (N : News h₀ L s.heap news) (hm : (l, lisO vs n) ∈ news) (hz : vs.length ≤ 1000) (h : ∀ t tk, Q (.int (vs.length : Int) t) { s with toks := tk }) : wpAny (model prog w) A (call (.builtin "len") [.ref l]) Q E s :=
  len_list (N.isList hm) (by rw [List.size_toArray]; omega) (by have := h (s.toks + 1) (s.toks + 1 + 1); rw [List.size_toArray]; exact this)
theorem lx_item (N : News h₀ L s.heap news) (hm : (l, lisO vs n) ∈ news) (h0 : 0 ≤ k) (h1 : k < (vs.length : Int)) (hz : vs.length ≤ 1000) (h : ∀ x, vs[k.toNat]? = some x → Q x s)
    (hs : subscripted slice false (.ref l) (.int k u) = operate [.ref l, .int k u] (getItem (.ref l) (.int k u)) := by with_unfolding_all rfl) :
    wpAny (model prog w) A (subscriptTail value slice (.ref l) (.int k u)) Q E s := by
  have hl := N.isList hm
  have hk : k.toNat < vs.length := by omega
  exact tail_any hl.typeIs slot_list_getitem.lookup (wpAny_getItem_list hl h0 (by omega) (by simpa using List.getElem?_eq_getElem hk) (h _ (List.getElem?_eq_getElem hk))) hs
theorem lx_back (N : News h₀ L s.heap news) (hm : (l, lisO vs n) ∈ news) (h0 : k < 0) (h1 : -(vs.length : Int) ≤ k) (hz : vs.length ≤ 1000) (h : ∀ x, vs[(k + (vs.length : Int)).toNat]? = some x → Q x s)
    (hs : subscripted slice false (.ref l) (.int k u) = operate [.ref l, .int k u] (getItem (.ref l) (.int k u)) := by with_unfolding_all rfl) :
    wpAny (model prog w) A (subscriptTail value slice (.ref l) (.int k u)) Q E s := by
  have hl := N.isList hm
  have hk : (k + (vs.length : Int)).toNat < vs.length := by omega
  exact tail_any hl.typeIs slot_list_getitem.lookup (wpAny_getItem_list_neg hl h0 (by rw [List.size_toArray]; exact h1) (by omega) (by rw [List.size_toArray]; simpa using List.getElem?_eq_getElem hk) (h _ (List.getElem?_eq_getElem hk))) hs
theorem lx_append {x : Value} (F : Fr h₀ L s.heap m) (N : News h₀ L s.heap news) (U : Upd l (lisO vs n) (lisO (vs ++ [x]) (n + 1)) news news') (hz : vs.length ≤ 1000)
    (h : ∀ h', Fr h₀ L h' m → News h₀ L h' news' → Q .none { s with heap := h' }) : wpAny (model prog w) A (call (.builtin "list.append") [.ref l, x]) Q E s := by
  refine append_K (its := vs.toArray) (n := n) F N ?_ h (by rw [List.size_toArray, sizeLine_eq]; omega)
  have e : vs.toArray.push x = (vs ++ [x]).toArray := by simp
  rw [e]; exact U
theorem lx_fits {x : Int} (h0 : 0 ≤ x) (h1 : x ≤ 1000) : Builtin.List.listFitsIndex x = true := by
  unfold Builtin.List.listFitsIndex
  simp only [Bool.and_eq_true, decide_eq_true_eq]
  omega
theorem lx_insert {x : Int} {y : Value} (F : Fr h₀ L s.heap m) (N : News h₀ L s.heap news) (U : Upd l (lisO vs n) (lisO (vs.take x.toNat ++ y :: vs.drop x.toNat) (n + 1)) news news') (h0 : 0 ≤ x) (h1 : x ≤ (vs.length : Int)) (hz : vs.length ≤ 1000)
    (h : ∀ h', Fr h₀ L h' m → News h₀ L h' news' → Q .none { s with heap := h' }) : wpAny (model prog w) A (call (.builtin "list.insert") [.ref l, .int x u, y]) Q E s := by
  refine kl_insert (its := vs.toArray) F N (lx_fits h0 (by omega)) ?_ U (by show vs.length ≤ _; rw [sizeLine_eq]; omega) h
  show kl_ins vs x y = _
  unfold kl_ins
  rw [if_neg (by omega), Nat.min_eq_left (by omega)]
theorem lx_extend {g : Obj → Led} (F : Fr h₀ L s.heap m) (N : News h₀ L s.heap news) (hb : (b, lisO ws n2) ∈ news) (U : UpdF l (lisO vs n) news g) (hz : vs.length ≤ 1000) (hz2 : ws.length ≤ 1000)
    (h : ∀ c h', Fr h₀ L h' m → News h₀ L h' (g (lisO (vs ++ ws) c)) → Q .none { s with heap := h' }) : wpAny (model prog w) A (call (.builtin "list.extend") [.ref l, .ref b]) Q E s := by
  have hbb := (N _ hb).1
  obtain ⟨pre, post, rfl, hg, a, c⟩ := U.split
  have z := N (l, lisO vs n) (List.mem_append.mpr (.inr (.head _)))
  have q := news_upd (f := Obj.mapSeq fun x => x ++ ws.toArray) (o' := lisO (vs ++ ws) (if (vs.toArray ++ ws.toArray).size == vs.toArray.size then n else n + 1)) F N a c (by
    show Obj.mapSeq _ (listOf vs.toArray n) = _
    unfold Obj.mapSeq
    simp) rfl
  refine call_meets PySem.F.slot_list_extend ⟨_, z.1, rfl⟩ PySem.F.entry_list_extend (PySem.F.args_list_extend_2 _ _) (PySem.AutoSeq1.list_extend_list_list_0 l vs.toArray n b ws.toArray n2 ?_ (by rw [List.size_toArray, sizeLine_eq]; omega) (by rw [List.size_toArray, List.size_toArray, sizeLine_eq]; omega)) ⟨z.1, hbb, h _ _ q.1 (by rw [hg]; exact q.2)⟩
  rw [Bool.and_eq_true]
  rintro ⟨_, x⟩
  unfold Builtin.List.listTooLong at x
  rw [List.size_toArray, List.size_toArray, sizeLine_eq] at x
  have := of_decide_eq_true x
  omega
theorem subL_of : ∀ {l all : Led}, (∀ p ∈ l, p ∈ all) → SubL l all
  | [], _, _ => trivial
  | p :: _, _, h => ⟨h p (.head _), subL_of fun q hq => h q (.tail _ hq)⟩
end

noncomputable def behind (c1 c2 : Cr) : Bool := decide (c2.num * c1.den < c1.num * c2.den)
noncomputable def insPos (acc : List Cr) (c : Cr) : Nat → Nat
  | 0 => 0
  | k + 1 => if (acc[k]?).any (fun d => behind d c) then insPos acc c k else k + 1
noncomputable def insCr (acc : List Cr) (c : Cr) : List Cr := acc.take (insPos acc c acc.length) ++ c :: acc.drop (insPos acc c acc.length)
noncomputable def crStep (y : Int) (acc : List Cr) (r : Row) : List Cr := if r.on y then insCr acc (r.cr y) else acc
noncomputable def crossL (y : Int) (rs : List Row) : List Cr := rs.foldl (crStep y) []

end --B1
section --Z1
section
variable {prog : Program} {w : World} {A : Around} {E : Value → Shared → Prop} {s : Shared}
theorem zp_alive {M : Model} {a : Addr} {Q : Option Obj → Shared → Prop} (h : Q (s.heap.get? a) s) : wpAny M A (loadIfAlive a) Q E s := fun Γ p _ => by
  unfold loadIfAlive
  rw [Sem.wp_loadIfAlive]
  exact h
abbrev IsZipX (h : Heap) (z TI TO : Addr) (f0 : Value) (b : Bool) : Prop :=
  h.get? z = some { cls := .type "zip", dict := none, data := .fields #[f0, .bool b, .bool false, .ref TI, .ref TO], slots := #[] }
/-- zip's own tuple is not free: the item before still stands -/
theorem zp_busy {z TI TO t : Addr} {b : Bool} {Q : Bool → Shared → Prop} (hz : IsZipX s.heap z TI TO (rawInt t) b) (ht : ∃ o, s.heap.get? t = some o)
    (hQ : ∀ h', IsZipX h' z TI TO (rawInt t) true → Heap.SameBut z s.heap h' → Q false { s with heap := h' }) :
    wpAny (model prog w) A (Builtin.SmallTypes.ownedTupleIsFree (.ref z)) Q E s := by
  obtain ⟨o, ho⟩ := ht
  unfold Builtin.SmallTypes.ownedTupleIsFree
  refine wpAny_bind (wpAny_field hz rfl (x := rawInt t) rfl ?_)
  show wpAny _ _ (loadIfAlive ((t : Int)).toNat >>= _) _ _ _
  refine wpAny_bind (zp_alive ?_)
  rw [Int.toNat_natCast, ho]
  refine wpAny_bind (m := field (.ref z) 1) (wpAny_field hz rfl (x := .bool b) rfl ?_)
  cases b with
  | true =>
    show wpAny _ _ (pure false) _ _ _
    exact wpAny_pure (hQ s.heap hz (Heap.SameBut.refl _ _))
  | false =>
    show wpAny _ _ (setField (.ref z) 1 (.bool true) >>= fun _ => pure false) _ _ _
    exact wpAny_bind (wpAny_setField_rec hz (by simp) fun h₁ hz₁ hs₁ => wpAny_pure (hQ h₁ hz₁ hs₁))
end

section
variable {prog : Program} {w : World} {A : Around} {E : Value → Shared → Prop} {s : Shared}
theorem zp_item {z TI TO i1 i2 l1 l2 t : Addr} {fb : Bool} {k1 k2 : Nat} {xs ys : Array Value} {x y : Value} {Q : Value → Shared → Prop} (D : ZipApart z TI TO i1 i2 l1 l2)
    (hz : IsZipX s.heap z TI TO (rawInt t) fb) (ht : ∃ o, s.heap.get? t = some o) (hTI : IsPair s.heap TI (.ref i1) (.ref i2))
    (h1 : s.heap.IsListIter i1 l1 k1) (h2 : s.heap.IsListIter i2 l2 k2) (hl1 : s.heap.IsList l1 xs) (hl2 : s.heap.IsList l2 ys) (hx : xs[k1]? = some x) (hy : ys[k2]? = some y)
    (hQ : ∀ h', IsZipX h' z TI TO (rawInt t) true → h'.IsListIter i1 l1 (k1 + 1) → h'.IsListIter i2 l2 (k2 + 1) → IsPair h' s.heap.objs.size x y → h'.objs.size = s.heap.objs.size + 1 →
      (∀ c o, c ≠ z → c ≠ i1 → c ≠ i2 → s.heap.get? c = some o → h'.get? c = some o) → Q (.ref s.heap.objs.size) { s with heap := h' }) :
    wpAny (model prog w) A (Builtin.«zip.__next__» ⟨[.ref z], []⟩) (fun fin s' => ∃ v, fin = .done (.ret v) ∧ Q v s') E s := by
  show wpAny _ _ (field (.ref z) 2 >>= _) _ _ _
  refine wpAny_bind (wpAny_field hz rfl (x := .bool false) rfl ?_)
  show wpAny _ _ (field (.ref z) 3 >>= _) _ _ _
  refine wpAny_bind (wpAny_field hz rfl (x := .ref TI) rfl ?_)
  refine wpAny_bind (wpAny_seqItems hTI rfl ?_)
  show wpAny _ _ (Builtin.SmallTypes.ownedTupleIsFree (.ref z) >>= _) _ _ _
  refine wpAny_bind (zp_busy hz ht fun h₁ hz₁ hs₁ => ?_)
  simp only [Bool.false_eq_true, if_false]
  refine wpAny_bind ?_
  simp only [List.forIn_cons, List.forIn_nil, ← Array.forIn_toList]
  refine wpAny_bind (wpAny_bind (wpAny_holding ?_))
  show wpAny _ _ (Builtin.SmallTypes.nextOf (.ref i1) >>= _) _ _ _
  refine wpAny_bind (wpAny_nextOf_list_item (h1.extBut hs₁.extBut D.i1z) (hl1.extBut hs₁.extBut D.l1z) hx fun h₂ h1₂ hs₂ => wpAny_pure ?_)
  refine wpAny_pure ?_
  refine wpAny_bind (wpAny_bind (wpAny_holding ?_))
  show wpAny _ _ (Builtin.SmallTypes.nextOf (.ref i2) >>= _) _ _ _
  refine wpAny_bind (wpAny_nextOf_list_item ((h2.extBut hs₁.extBut D.i2z).extBut hs₂.extBut D.i12.symm) ((hl2.extBut hs₁.extBut D.l2z).extBut hs₂.extBut D.l2i1) hy fun h₃ h2₃ hs₃ => wpAny_pure ?_)
  refine wpAny_pure (wpAny_pure ?_)
  have hsz : h₃.objs.size = s.heap.objs.size := by rw [hs₃.1, hs₂.1, hs₁.1]
  refine wpAny_bind (wpAny_newTuple (hsz := by show (2 : Nat) ≤ sizeLine; rw [sizeLine_eq]; decide) ?_)
  have k3 : ∀ c o, c ≠ z → c ≠ i1 → c ≠ i2 → s.heap.get? c = some o → h₃.get? c = some o := fun c o c1 c2 c3 e => hs₃.extBut _ _ c3 (hs₂.extBut _ _ c2 (hs₁.extBut _ _ c1 e))
  refine wpAny_pure ⟨_, rfl, ?_⟩
  have z3 : IsZipX h₃ z TI TO (rawInt t) true := hs₃.extBut _ _ D.i2z.symm (hs₂.extBut _ _ D.i1z.symm hz₁)
  have up : ∀ c o, h₃.get? c = some o → (h₃.push { cls := .type "tuple", data := .seq #[x, y] }).get? c = some o := fun c o e => Heap.get?_push_of_some _ e
  show Q (.ref h₃.objs.size) _
  rw [hsz]
  refine hQ _ (up _ _ z3) ((h1₂.extBut hs₃.extBut D.i12).at fun o e => up _ o e) (h2₃.at fun o e => up _ o e) ?_ ?_ fun c o c1 c2 c3 e => up _ _ (k3 c o c1 c2 c3 e)
  · have := Heap.get?_push_size h₃ (o := { cls := .type "tuple", data := .seq #[x, y] }) rfl
    rw [hsz] at this; exact this
  · rw [Heap.size_push, hsz]
theorem zp_end {z TI TO i1 i2 l1 l2 t : Addr} {fb : Bool} {k1 k2 : Nat} {xs ys : Array Value} {x : Value} {Q : Fin → Shared → Prop} (hh : A.handled = none) (D : ZipApart z TI TO i1 i2 l1 l2)
    (hz : IsZipX s.heap z TI TO (rawInt t) fb) (ht : ∃ o, s.heap.get? t = some o) (hTI : IsPair s.heap TI (.ref i1) (.ref i2))
    (h1 : s.heap.IsListIter i1 l1 k1) (h2 : s.heap.IsListIter i2 l2 k2) (hl1 : s.heap.IsList l1 xs) (hl2 : s.heap.IsList l2 ys) (hx : xs[k1]? = some x) (hy : ys[k2]? = none)
    (hE : ∀ h' e, (∀ c o, c ≠ z → c ≠ i1 → c ≠ i2 → s.heap.get? c = some o → h'.get? c = some o) → (∃ o, h'.get? e = some o ∧ o.cls = .type "StopIteration") → E (.ref e) { s with heap := h' }) :
    wpAny (model prog w) A (Builtin.«zip.__next__» ⟨[.ref z], []⟩) Q E s := by
  show wpAny _ _ (field (.ref z) 2 >>= _) _ _ _
  refine wpAny_bind (wpAny_field hz rfl (x := .bool false) rfl ?_)
  show wpAny _ _ (field (.ref z) 3 >>= _) _ _ _
  refine wpAny_bind (wpAny_field hz rfl (x := .ref TI) rfl ?_)
  refine wpAny_bind (wpAny_seqItems hTI rfl ?_)
  show wpAny _ _ (Builtin.SmallTypes.ownedTupleIsFree (.ref z) >>= _) _ _ _
  refine wpAny_bind (zp_busy hz ht fun h₁ hz₁ hs₁ => ?_)
  simp only [Bool.false_eq_true, if_false]
  refine wpAny_bind ?_
  simp only [List.forIn_cons, List.forIn_nil, ← Array.forIn_toList]
  refine wpAny_bind (wpAny_bind (wpAny_holding ?_))
  show wpAny _ _ (Builtin.SmallTypes.nextOf (.ref i1) >>= _) _ _ _
  refine wpAny_bind (wpAny_nextOf_list_item (h1.extBut hs₁.extBut D.i1z) (hl1.extBut hs₁.extBut D.l1z) hx fun h₂ h1₂ hs₂ => wpAny_pure ?_)
  refine wpAny_pure ?_
  refine wpAny_bind (wpAny_bind (wpAny_holding ?_))
  show wpAny _ _ (Builtin.SmallTypes.nextOf (.ref i2) >>= _) _ _ _
  refine wpAny_bind (wpAny_nextOf_list_end hh ((h2.extBut hs₁.extBut D.i2z).extBut hs₂.extBut D.i12.symm) ((hl2.extBut hs₁.extBut D.l2z).extBut hs₂.extBut D.l2i1) hy fun h₃ e hs₃ he => ?_)
  exact hE h₃ e (fun c o c1 c2 c3 x => hs₃ _ _ c3 (hs₂.extBut _ _ c2 (hs₁.extBut _ _ c1 x))) he
theorem zp_pyNext_item {z TI TO i1 i2 l1 l2 t : Addr} {fb : Bool} {k1 k2 : Nat} {xs ys : Array Value} {x y : Value} {Q : Option Value → Shared → Prop} (D : ZipApart z TI TO i1 i2 l1 l2)
    (hz : IsZipX s.heap z TI TO (rawInt t) fb) (ht : ∃ o, s.heap.get? t = some o) (hTI : IsPair s.heap TI (.ref i1) (.ref i2))
    (h1 : s.heap.IsListIter i1 l1 k1) (h2 : s.heap.IsListIter i2 l2 k2) (hl1 : s.heap.IsList l1 xs) (hl2 : s.heap.IsList l2 ys) (hx : xs[k1]? = some x) (hy : ys[k2]? = some y)
    (hQ : ∀ h', IsZipX h' z TI TO (rawInt t) true → h'.IsListIter i1 l1 (k1 + 1) → h'.IsListIter i2 l2 (k2 + 1) → IsPair h' s.heap.objs.size x y → h'.objs.size = s.heap.objs.size + 1 →
      (∀ c o, c ≠ z → c ≠ i1 → c ≠ i2 → s.heap.get? c = some o → h'.get? c = some o) → Q (some (.ref s.heap.objs.size)) { s with heap := h' }) :
    wpAny (model prog w) A (pyNext (.ref z)) Q E s := by
  have hT : s.TypeIs (.ref z) "zip" := ⟨_, hz, rfl⟩
  unfold pyNext
  exact wpAny_bind (wpAny_attempt (wpAny_callSpecial?_slot (name := Str.ofString "__next__") hT PySem.F.slot_zip_next
    (wpAny_call_entry PySem.F.slot_zip_next hT PySem.F.entry_zip_next
      (zp_item D hz ht hTI h1 h2 hl1 hl2 hx hy fun h' a1 a2 a3 a4 a5 a6 => wpAny_pure (hQ h' a1 a2 a3 a4 a5 a6)) (PySem.F.args_zip_next_1 _))))
theorem zp_pyNext_end {z TI TO i1 i2 l1 l2 t : Addr} {fb : Bool} {k1 k2 : Nat} {xs ys : Array Value} {x : Value} {Q : Option Value → Shared → Prop} (hh : A.handled = none) (D : ZipApart z TI TO i1 i2 l1 l2)
    (hz : IsZipX s.heap z TI TO (rawInt t) fb) (ht : ∃ o, s.heap.get? t = some o) (hTI : IsPair s.heap TI (.ref i1) (.ref i2))
    (h1 : s.heap.IsListIter i1 l1 k1) (h2 : s.heap.IsListIter i2 l2 k2) (hl1 : s.heap.IsList l1 xs) (hl2 : s.heap.IsList l2 ys) (hx : xs[k1]? = some x) (hy : ys[k2]? = none)
    (hQ : ∀ h', (∀ c o, c ≠ z → c ≠ i1 → c ≠ i2 → s.heap.get? c = some o → h'.get? c = some o) → Q none { s with heap := h' }) : wpAny (model prog w) A (pyNext (.ref z)) Q E s := by
  have hT : s.TypeIs (.ref z) "zip" := ⟨_, hz, rfl⟩
  unfold pyNext
  refine wpAny_bind (wpAny_attempt (wpAny_callSpecial?_slot (name := Str.ofString "__next__") hT PySem.F.slot_zip_next
    (wpAny_call_entry PySem.F.slot_zip_next hT PySem.F.entry_zip_next (zp_end hh D hz ht hTI h1 h2 hl1 hl2 hx hy fun h' e hk he => ?_) (PySem.F.args_zip_next_1 _))))
  obtain ⟨o, ho, hc⟩ := he
  refine wpAny_bind (wpAny_isInstance (T := "StopIteration") (b := true) ⟨o, ho, hc⟩ isSubtype_stop ?_)
  exact wpAny_pure (hQ _ hk)
end

/-- the zip stands at item i -/
noncomputable def ZpSt (lo z TI TO i1 i2 l1 l2 : Addr) (xs ys : Array Value) (i : Nat) (h : Heap) : Prop :=
  ((i = 0 ∧ IsZip h z TI TO .none ∧ ∃ a b, IsPair h TO a b) ∨ (0 < i ∧ ∃ t fb, IsZipX h z TI TO (rawInt (t : Addr)) fb ∧ (∃ o, h.get? t = some o) ∧ lo ≤ t)) ∧
  IsPair h TI (.ref i1) (.ref i2) ∧ h.IsListIter i1 l1 i ∧ h.IsListIter i2 l2 i ∧ h.IsList l1 xs ∧ h.IsList l2 ys
structure ZpG (xs ys : Array Value) (lo : Addr) (h : Heap) (as : List Addr) : Prop where
  at_ : ∀ (j : Nat) (T : Addr), as[j]? = some T → ∃ x y, xs[j]? = some x ∧ ys[j]? = some y ∧ IsPair h T x y ∧ lo ≤ T
section
variable {prog : Program} {w : World} {A : Around} {R : Result → Shared → Prop} {s : Shared}
theorem zp_loop {z TI TO i1 i2 l1 l2 S lo : Addr} {xs ys : Array Value} {res : Value} {h₁ : Heap} (hh : A.handled = none) (D : ZipApart z TI TO i1 i2 l1 l2) (hs : xs.size = ys.size + 1) (hz : ys.size ≤ 1000)
    (aS : S < lo) (az : z < lo) (aTO : TO < lo) (a1 : i1 < lo) (a2 : i2 < lo) (Sz : S ≠ z) (STI : S ≠ TI) (STO : S ≠ TO) (S1 : S ≠ i1) (S2 : S ≠ i2) (Sl1 : S ≠ l1) (Sl2 : S ≠ l2)
    (hR : ∀ (h' : Heap) (tk : Nat) (acc : Array Value) (c : Nat) (as : List Addr), (∀ b o, b ≠ S → b ≠ z → b ≠ TO → b ≠ i1 → b ≠ i2 → h₁.get? b = some o → h'.get? b = some o) → h'.get? S = some { cls := .type "list", dict := none, data := .seq acc c, slots := #[] } → as.length = ys.size → ZpG xs ys lo h' as →
      acc.toList = as.map Value.ref → R (.ok (.ret res)) { s with heap := h', toks := tk }) :
    ∀ (k i : Nat) (h : Heap) (tk c : Nat) (acc : Array Value) (as : List Addr), ys.size - i = k → i ≤ ys.size → ZpSt lo z TI TO i1 i2 l1 l2 xs ys i h → (∀ b o, b ≠ S → b ≠ z → b ≠ TO → b ≠ i1 → b ≠ i2 → h₁.get? b = some o → h.get? b = some o) →
      lo ≤ h.objs.size → h.get? S = some { cls := .type "list", dict := none, data := .seq acc c, slots := #[] } → acc.toList = as.map Value.ref → as.length = i → ZpG xs ys lo h as →
      codeAny (model prog w) A (.builtin "list.extend.loop" ⟨[.ref S, .ref z, res], []⟩) R { s with heap := h, toks := tk } := by
  intro k
  induction k with
  | zero =>
    intro i h tk c acc as hk hi hst hkeep hlo hS hacc hal hG
    have hin : i = ys.size := by omega
    subst hin
    have hx : xs[ys.size]? = some (xs[ys.size]'(by omega)) := Array.getElem?_eq_getElem (by omega)
    have hy : ys[ys.size]? = none := Array.getElem?_eq_none (Nat.le_refl _)
    obtain ⟨hf, hTI, h1, h2, hl1, hl2⟩ := hst
    refine codeAny_builtin PySem.F.entry_extend_loop ?_
    rw [Around.under_plainId PySem.F.plain_extend_loop _]
    show wpAny _ A.in1 (pyNext (.ref z) >>= _) _ _ _
    refine wpAny_bind ?_
    have fin : ∀ h' : Heap, (∀ c o, c ≠ z → c ≠ TO → c ≠ i1 → c ≠ i2 → h.get? c = some o → h'.get? c = some o) → R (.ok (.ret res)) { s with heap := h', toks := tk } := fun h' hk' => by
      refine hR h' tk acc c as (fun b o b0 b1 b2 b3 b4 e => hk' b o b1 b2 b3 b4 (hkeep b o b0 b1 b2 b3 b4 e)) (hk' S _ Sz STO S1 S2 hS) hal ⟨fun j T hj => ?_⟩ hacc
      obtain ⟨x, y, e1, e2, e3, e4⟩ := hG.at_ j T hj
      exact ⟨x, y, e1, e2, hk' T _ (fun q => absurd (q ▸ e4) (Nat.not_le.mpr az)) (fun q => absurd (q ▸ e4) (Nat.not_le.mpr aTO)) (fun q => absurd (q ▸ e4) (Nat.not_le.mpr a1)) (fun q => absurd (q ▸ e4) (Nat.not_le.mpr a2)) e3, e4⟩
    rcases hf with ⟨_, hz0, a, b, hTO⟩ | ⟨_, t, fb, hzx, ht, hlt2⟩
    · exact wpAny_pyNext_zip_end hh D hz0 hTI hTO h1 h2 hl1 hl2 (.inr hy) fun h' hk' => wpAny_pure (fin h' hk')
    · exact zp_pyNext_end hh D hzx ht hTI h1 h2 hl1 hl2 hx hy fun h' hk' => wpAny_pure (fin h' fun c o c1 c2 c3 c4 e => hk' c o c1 c3 c4 e)
  | succ k ih =>
    intro i h tk c acc as hk hi hst hkeep hlo hS hacc hal hG
    have hlt : i < ys.size := by omega
    have hx : xs[i]? = some (xs[i]'(by omega)) := Array.getElem?_eq_getElem (by omega)
    have hy : ys[i]? = some ys[i] := Array.getElem?_eq_getElem hlt
    have hsz : acc.size = i := by rw [← Array.length_toList, hacc, List.length_map, hal]
    obtain ⟨hf, hTI, h1, h2, hl1, hl2⟩ := hst
    refine codeAny_builtin PySem.F.entry_extend_loop ?_
    rw [Around.under_plainId PySem.F.plain_extend_loop _]
    show wpAny _ A.in1 (pyNext (.ref z) >>= _) _ _ _
    refine wpAny_bind ?_
    have on : ∀ (h' : Heap) (fb : Bool) (t : Addr), IsZipX h' z TI TO (rawInt t) fb → (∃ o, h'.get? t = some o) → lo ≤ t → h'.IsListIter i1 l1 (i + 1) → h'.IsListIter i2 l2 (i + 1) → IsPair h' h.objs.size (xs[i]'(by omega)) ys[i] → h'.objs.size = h.objs.size + 1 →
        (∀ c o, c ≠ z → c ≠ TO → c ≠ i1 → c ≠ i2 → h.get? c = some o → h'.get? c = some o) →
        wpAny (model prog w) A.in1 (updateSeq S (·.push (.ref h.objs.size)) >>= fun _ => again (.builtin "list.extend.loop" ⟨[.ref S, .ref z, res], []⟩)) (fun fin s' => match fin with | .done f => R (.ok f) s' | .again c' => c'.quiet = true ∧ codeAny (model prog w) A c' R s') (fun e s' => R (.error e) s') { s with heap := h', toks := tk } := fun h' fb t b1 b2 b2' b3 b4 b5 b6 hk' => by
      have hS' := hk' S _ Sz STO S1 S2 hS
      have up : ∀ b o, b ≠ S → h'.get? b = some o → (h'.update S (Obj.mapSeq (·.push (Value.ref h.objs.size)))).get? b = some o := fun b o hb e => (Heap.get?_update_other _ _ (Ne.symm hb)).trans e
      have hSl : S < h.objs.size := Heap.lt_size hS
      obtain ⟨ot, hot⟩ := b2
      refine wpAny_bind ?_
      refine wpAny_updateSeq hS' rfl (wpAny_pure ⟨plainId_quiet PySem.F.plain_extend_loop _, ih (i + 1) _ tk _ (acc.push (Value.ref h.objs.size)) (as ++ [h.objs.size]) (by omega) hlt ⟨.inr ⟨Nat.succ_pos _, t, fb, up _ _ (Ne.symm Sz) b1, ⟨ot, up _ _ (fun q => absurd (q ▸ b2') (Nat.not_le.mpr aS)) hot⟩, b2'⟩, up _ _ (Ne.symm STI) (hk' _ _ D.TIz D.TITO D.TIi1 D.TIi2 hTI), b3.at fun o e => up _ o (Ne.symm S1) e, b4.at fun o e => up _ o (Ne.symm S2) e, (hl1.at fun o e => hk' _ o D.l1z D.l1TO D.l1i1 D.l1i2 e).at fun o e => up _ o (Ne.symm Sl1) e, (hl2.at fun o e => hk' _ o D.l2z D.l2TO D.l2i1 D.l2i2 e).at fun o e => up _ o (Ne.symm Sl2) e⟩
        (fun b o b0 b1 b2 b3 b4 e => up b o b0 (hk' b o b1 b2 b3 b4 (hkeep b o b0 b1 b2 b3 b4 e))) (by rw [Heap.size_update, b6]; exact Nat.le_succ_of_le hlo) (Heap.get?_update_self _ hS' rfl) (by rw [Array.toList_push, hacc, List.map_append]; rfl) (by rw [List.length_append, hal]; rfl) ⟨?_⟩⟩) (by rw [hsz, sizeLine_eq]; omega) (by show (acc.push (Value.ref h.objs.size)).size ≤ sizeLine + 1; rw [Array.size_push, hsz, sizeLine_eq]; omega)
      intro j T hj
      rcases Nat.lt_trichotomy j as.length with q1 | q1 | q1
      · rw [List.getElem?_append_left q1] at hj
        obtain ⟨x, y, e1, e2, e3, e4⟩ := hG.at_ j T hj
        exact ⟨x, y, e1, e2, up T _ (fun q => absurd (q ▸ e4) (Nat.not_le.mpr aS)) (hk' T _ (fun q => absurd (q ▸ e4) (Nat.not_le.mpr az)) (fun q => absurd (q ▸ e4) (Nat.not_le.mpr aTO)) (fun q => absurd (q ▸ e4) (Nat.not_le.mpr a1)) (fun q => absurd (q ▸ e4) (Nat.not_le.mpr a2)) e3), e4⟩
      · subst q1
        have hb : h.objs.size = T := by simpa using hj
        subst hb
        exact ⟨_, _, by rw [hal]; exact hx, by rw [hal]; exact hy, up _ _ (Nat.ne_of_gt hSl) b5, hlo⟩
      · have hnone : (as ++ [h.objs.size])[j]? = none := List.getElem?_eq_none (by rw [List.length_append, List.length_singleton]; omega)
        rw [hnone] at hj; cases hj
    rcases hf with ⟨_, hz0, a, b, hTO⟩ | ⟨_, t, fb, hzx, ht, hlt2⟩
    · refine wpAny_pyNext_zip_item D hz0 hTI hTO h1 h2 hl1 hl2 hx hy fun h' c1 c2 c3 c4 c5 c6 hk' => ?_
      exact on h' false h.objs.size c1 ⟨_, c5⟩ hlo c3 c4 c5 c6 hk'
    · obtain ⟨ot, hot⟩ := ht
      refine zp_pyNext_item D hzx ⟨ot, hot⟩ hTI h1 h2 hl1 hl2 hx hy fun h' c1 c3 c4 c5 c6 hk' => ?_
      exact on h' true t c1 ⟨ot, hk' t _ (fun q => absurd (q ▸ hlt2) (Nat.not_le.mpr az)) (fun q => absurd (q ▸ hlt2) (Nat.not_le.mpr a1)) (fun q => absurd (q ▸ hlt2) (Nat.not_le.mpr a2)) hot⟩ hlt2 c3 c4 c5 c6 fun c o d1 d2 d3 d4 e => hk' c o d1 d3 d4 e
end

theorem zp_nolen : typeLookup (.type "zip") "__len__" = pure none := by rw [typeLookup_type, builtinLookup_eq_fast]; kernel_rfl
theorem zp_nohint : typeLookup (.type "zip") "__length_hint__" = pure none := by rw [typeLookup_type, builtinLookup_eq_fast]; kernel_rfl
section
variable {prog : Program} {w : World} {A : Around} {E : Value → Shared → Prop} {s : Shared}
theorem zp_init {R : Result → Shared → Prop} {z TI TO i1 i2 l1 l2 S lo : Addr} {xs ys : Array Value} (hh : A.handled = none) (D : ZipApart z TI TO i1 i2 l1 l2) (hs : xs.size = ys.size + 1) (hz : ys.size ≤ 1000)
    (hlo : lo = s.heap.objs.size) (az : z < lo) (aTO : TO < lo) (a1 : i1 < lo) (a2 : i2 < lo) (Sz : S ≠ z) (STI : S ≠ TI) (STO : S ≠ TO) (S1 : S ≠ i1) (S2 : S ≠ i2) (Sl1 : S ≠ l1) (Sl2 : S ≠ l2)
    (hst : ZpSt lo z TI TO i1 i2 l1 l2 xs ys 0 s.heap) (hS : s.heap.get? S = some { cls := .type "list", data := .seq #[] })
    (hR : ∀ (h' : Heap) (tk : Nat) (acc : Array Value) (c : Nat) (as : List Addr), (∀ b o, b ≠ S → b ≠ z → b ≠ TO → b ≠ i1 → b ≠ i2 → s.heap.get? b = some o → h'.get? b = some o) → h'.get? S = some { cls := .type "list", dict := none, data := .seq acc c, slots := #[] } → as.length = ys.size → ZpG xs ys lo h' as →
      acc.toList = as.map Value.ref → R (.ok (.ret .none)) { s with heap := h', toks := tk }) :
    wpAny (model prog w) A.in1 (Builtin.«list.__init__» ⟨[.ref S, .ref z], []⟩)
      (fun fin s' => match fin with | .done f => R (.ok f) s' | .again c' => c'.quiet = true ∧ codeAny (model prog w) A c' R s') (fun e s' => R (.error e) s') s := by
  have aS : S < lo := hlo ▸ Heap.lt_size hS
  have zpf : ∀ (h h' : Heap), (∀ b o, b ≠ S → h.get? b = some o → h'.get? b = some o) → ZpSt lo z TI TO i1 i2 l1 l2 xs ys 0 h → ZpSt lo z TI TO i1 i2 l1 l2 xs ys 0 h' := fun h h' k st => by
    obtain ⟨hf, hTI, h1, h2, hl1, hl2⟩ := st
    refine ⟨?_, k _ _ (Ne.symm STI) hTI, h1.at fun o e => k _ o (Ne.symm S1) e, h2.at fun o e => k _ o (Ne.symm S2) e, hl1.at fun o e => k _ o (Ne.symm Sl1) e, hl2.at fun o e => k _ o (Ne.symm Sl2) e⟩
    rcases hf with ⟨e, hz0, a, b, hTO⟩ | ⟨e, _⟩
    · exact .inl ⟨e, k _ _ (Ne.symm Sz) hz0, a, b, k _ _ (Ne.symm STO) hTO⟩
    · exact absurd e (Nat.lt_irrefl _)
  have key : ∀ (h : Heap) (c₁ : Nat), (∀ b o, b ≠ S → s.heap.get? b = some o → h.get? b = some o) → h.objs.size = lo → h.get? S = some { cls := .type "list", data := .seq #[] c₁ } →
      codeAny (model prog w) A (.builtin "list.extend.loop" ⟨[.ref S, .ref z, .none], []⟩) R { s with heap := h } := fun h c₁ k hl hS₁ =>
    zp_loop (lo := lo) (h₁ := s.heap) hh D hs hz aS az aTO a1 a2 Sz STI STO S1 S2 Sl1 Sl2 (fun h' tk acc c as hk => hR h' tk acc c as hk) ys.size 0 h s.toks c₁ #[] [] (Nat.sub_zero _) (Nat.zero_le _) (zpf _ _ k hst) (fun b o b0 _ _ _ _ e => k b o b0 e) (Nat.le_of_eq hl.symm) hS₁ rfl rfl ⟨fun j T hj => by simp at hj⟩
  have hzz : ∀ h : Heap, (∀ b o, b ≠ S → s.heap.get? b = some o → h.get? b = some o) → IsZip h z TI TO .none := fun h k => by
    rcases hst.1 with ⟨_, hz0, _⟩ | ⟨e, _⟩
    · exact k _ _ (Ne.symm Sz) hz0
    · exact absurd e (Nat.lt_irrefl _)
  show wpAny _ _ (do let old ← Builtin.List.listItems (.ref S); Builtin.List.listUpdate (.ref S) (fun _ => #[]); letGo old.toList.reverse; Builtin.List.listExtendWith (.ref S) (.ref z) .none) _ _ s
  refine wpAny_bind ?_
  unfold Builtin.List.listItems
  refine wpAny_bind (wpAny_seqItems hS rfl (wpAny_pure ?_))
  show wpAny _ _ (updateSeq S (fun _ => #[]) >>= fun _ => letGo (#[] : Array Value).toList.reverse >>= fun _ => Builtin.List.listExtendWith (.ref S) (.ref z) .none) _ _ s
  refine wpAny_bind (wpAny_updateSeq hS rfl ?_)
  have hS₂ := Heap.get?_update_self (Obj.mapSeq (fun _ => (#[] : Array Value))) hS rfl
  have oth : ∀ b o, b ≠ S → s.heap.get? b = some o → (s.heap.update S (Obj.mapSeq (fun _ => (#[] : Array Value)))).get? b = some o :=
    fun b o hb e => (Heap.get?_update_other _ _ (Ne.symm hb)).trans e
  refine wpAny_bind (wpAny_letGo ?_)
  have z2 := hzz _ oth
  have hT : Shared.TypeIs { s with heap := s.heap.update S (Obj.mapSeq (fun _ => (#[] : Array Value))) } (.ref z) "zip" := ⟨_, z2, rfl⟩
  unfold Builtin.List.listExtendWith
  refine wpAny_bind (wpAny_typeOf hT ?_)
  have h1 : Builtin.List.listSameRef (.ref S) (.ref z) = false := by simp [Builtin.List.listSameRef, Sz]
  have h2 : (Value.type "zip" == Value.type "list") = false := by decide
  have h3 : (Value.type "zip" == Value.type "tuple") = false := by decide
  simp only [h1, h2, h3, Bool.or_false, Bool.false_eq_true, if_false]
  refine wpAny_bind (wpAny_pyIter_zip z2 ?_)
  refine wpAny_bind (wpAny_holding ?_)
  unfold Builtin.List.listLengthHint
  refine wpAny_bind (wpAny_specialOf hT zp_nolen ?_)
  show wpAny _ _ (specialOf (Value.ref z) (Str.ofString "__length_hint__") >>= _) _ _ _
  refine wpAny_bind (wpAny_specialOf hT zp_nohint ?_)
  refine wpAny_pure ?_
  show wpAny _ _ (rule "list.extend.makes-room" >>= fun _ => Builtin.List.listTouch (.ref S) >>= fun _ => again (.builtin "list.extend.loop" ⟨[.ref S, .ref z, .none], []⟩)) _ _ _
  refine wpAny_bind (wpAny_rule ?_)
  refine wpAny_bind ?_
  show wpAny _ _ (updateSeq S (·.push .none) >>= fun _ => updateSeq S (·.pop)) _ _ _
  refine wpAny_bind (wpAny_updateSeq hS₂ rfl ?_)
  have hS₃ := Heap.get?_update_self (Obj.mapSeq (·.push Value.none)) hS₂ rfl
  refine wpAny_updateSeq (hz := by seq_fits) hS₃ rfl ?_
  have hS₄ := Heap.get?_update_self (Obj.mapSeq (·.pop)) hS₃ rfl
  refine wpAny_pure ⟨plainId_quiet PySem.F.plain_extend_loop _, key _ _ (fun b o hb e => ?_) ?_ hS₄⟩
  · exact (Heap.get?_update_other _ _ (Ne.symm hb)).trans ((Heap.get?_update_other _ _ (Ne.symm hb)).trans (oth b o hb e))
  · rw [Heap.size_update, Heap.size_update, Heap.size_update, hlo]
end

abbrev ZLed := List (Addr × Obj)
/-- the ledger with a fresh zip and its four parts -/
noncomputable def zipE (a : Addr) (o1 o2 : Obj) (news : ZLed) : ZLed :=
  (a + 4, ({ cls := .type "zip", data := .fields #[.none, .bool false, .bool false, .ref (a + 2), .ref (a + 3)] } : Obj)) :: (a + 2, ({ cls := .type "tuple", data := .seq #[.ref a, .ref (a + 1)] } : Obj)) :: (a + 3, ({ cls := .type "tuple", data := .seq #[.none, .none] } : Obj)) ::
  (a, o1) :: (a + 1, o2) :: news
noncomputable def IterO (o : Obj) (l : Addr) : Prop := o.cls = .type "list_iterator" ∧ o.data = .fields #[.ref l, .int 0 0]
abbrev tupZ (vs : List Value) (n : Nat) : Obj := { cls := .type "tuple", data := .seq vs.toArray n }
section
variable {prog : Program} {w : World} {A : Around} {E : Value → Shared → Prop} {s : Shared} {h₀ : Heap} {L l1 l2 : Addr} {m : Str → Option Value} {news : ZLed} {xs ys : List Value} {n1 n2 : Nat} {Q : Value → Shared → Prop}
theorem zx_zip (F : Fr h₀ L s.heap m) (N : News h₀ L s.heap news) (m1 : (l1, W.listOf xs.toArray n1) ∈ news) (m2 : (l2, W.listOf ys.toArray n2) ∈ news)
    (h : ∀ a o1 o2 h', IterO o1 l1 → IterO o2 l2 → Fr h₀ L h' m → News h₀ L h' (zipE a o1 o2 news) → (∀ p ∈ news, p.1 < a) → Q (.ref (a + 4)) { s with heap := h' }) : wpAny (model prog w) A (call (.type "zip") [.ref l1, .ref l2]) Q E s := by
  have hL : L < s.heap.objs.size := F.ns.lt
  have fr : ∀ k, h₀.get? (s.heap.objs.size + k) = none := fun k => ktu_new F (Nat.le_add_right _ _)
  have nL : ∀ k, s.heap.objs.size + k ≠ L := fun k => Nat.ne_of_gt (Nat.lt_of_lt_of_le hL (Nat.le_add_right _ _))
  refine call_zip_2 (N.isList m1) (N.isList m2) fun h' hz hTI hTO hi1 hi2 hsz hk => ?_
  obtain ⟨o1, g1, c1, d1⟩ := hi1
  obtain ⟨o2, g2, c2, d2⟩ := hi2
  refine h s.heap.objs.size o1 o2 h' ⟨c1, d1⟩ ⟨c2, d2⟩ (F.keeps hk) (fun p hp => ?_) fun p hp => Heap.lt_size (N p hp).1
  unfold zipE at hp
  rcases List.mem_cons.mp hp with rfl | hp
  · exact ⟨hz, nL 4, fr 4⟩
  rcases List.mem_cons.mp hp with rfl | hp
  · exact ⟨hTI, nL 2, fr 2⟩
  rcases List.mem_cons.mp hp with rfl | hp
  · exact ⟨hTO, nL 3, fr 3⟩
  rcases List.mem_cons.mp hp with rfl | hp
  · exact ⟨g1, nL 0, fr 0⟩
  rcases List.mem_cons.mp hp with rfl | hp
  · exact ⟨g2, nL 1, fr 1⟩
  · exact N.grown hk p hp
theorem zx_list {a : Addr} {o1 o2 : Obj} (hh : A.handled = none) (F : Fr h₀ L s.heap m) (N : News h₀ L s.heap (zipE a o1 o2 news)) (hlt : ∀ p ∈ news, p.1 < a) (q1 : IterO o1 l1) (q2 : IterO o2 l2) (m1 : (l1, W.listOf xs.toArray n1) ∈ news) (m2 : (l2, W.listOf ys.toArray n2) ∈ news)
    (hs : xs.length = ys.length + 1) (hz : ys.length ≤ 1000)
    (h : ∀ (D c : Nat) (ps : List (Value × (Value × Value))) (new : ZLed) h' tk, Fr h₀ L h' m → News h₀ L h' ((D, W.listOf (ps.map (·.1)).toArray c) :: (new ++ news)) → (∀ p ∈ news, p.1 < D) → (∀ p ∈ new, D < p.1) → ps.map (·.2) = xs.zip ys → ps.length = ys.length → (∀ p ∈ ps, ∃ T, p.1 = .ref T ∧ (T, tupZ [p.2.1, p.2.2] 0) ∈ new) → Q (.ref D) { s with heap := h', toks := tk }) :
    wpAny (model prog w) A (call (.type "list") [.ref (a + 4)]) Q E s := by
  have hL : L < s.heap.objs.size := F.ns.lt
  have e4 := N (a + 4, _) (List.mem_cons_self ..)
  have e2 := N (a + 2, _) (List.mem_cons_of_mem _ (List.mem_cons_self ..))
  have e3 := N (a + 3, _) (List.mem_cons_of_mem _ (List.mem_cons_of_mem _ (List.mem_cons_self ..)))
  have e0 := N (a, _) (List.mem_cons_of_mem _ (List.mem_cons_of_mem _ (List.mem_cons_of_mem _ (List.mem_cons_self ..))))
  have e1 := N (a + 1, _) (List.mem_cons_of_mem _ (List.mem_cons_of_mem _ (List.mem_cons_of_mem _ (List.mem_cons_of_mem _ (List.mem_cons_self ..)))))
  have Nn : News h₀ L s.heap news := fun p hp => N p (List.mem_cons_of_mem _ (List.mem_cons_of_mem _ (List.mem_cons_of_mem _ (List.mem_cons_of_mem _ (List.mem_cons_of_mem _ hp)))))
  have s4 : a + 4 < s.heap.objs.size := Heap.lt_size e4.1
  have hl1 := hlt _ m1
  have hl2 := hlt _ m2
  have D := ktu_apart a l1 l2 hl1 hl2
  have up : ∀ b o, s.heap.get? b = some o → (s.heap.push { cls := .type "list", data := .seq #[] }).get? b = some o := fun b o e => Heap.get?_push_of_some _ e
  refine callType_codes (Q₁ := fun obj s₁ => obj = .ref s.heap.objs.size ∧ s₁ = { s with heap := s.heap.push { cls := .type "list", data := .seq #[] } }) PySem.F.called_list (PySem.F.typeCall_list_1 _) PySem.F.entry_list_init
    (code_list_new _ ⟨rfl, rfl⟩) fun obj s₁ h₁ => ?_
  obtain ⟨rfl, rfl⟩ := h₁
  have hS : (s.heap.push { cls := .type "list", data := .seq #[] }).get? s.heap.objs.size = some { cls := .type "list", data := .seq #[] } := Heap.get?_push_size _ rfl
  have nS : ∀ k, k ≤ 4 → s.heap.objs.size ≠ a + k := fun k hk => Nat.ne_of_gt (Nat.lt_of_le_of_lt (Nat.add_le_add_left hk a) s4)
  have lS : ∀ k, k ≤ 4 → a + k < (s.heap.push { cls := .type "list", data := .seq #[] }).objs.size := fun k hk => by rw [Heap.size_push]; exact Nat.lt_succ_of_lt (Nat.lt_of_le_of_lt (Nat.add_le_add_left hk a) s4)
  refine ⟨⟨_, hS, rfl⟩, PySem.F.args_list_init_2 _ _, zp_init (A := A.in1) (xs := xs.toArray) (ys := ys.toArray) (lo := (s.heap.push { cls := .type "list", data := .seq #[] }).objs.size) hh D (by simp [hs]) (by simpa using hz) rfl (lS 4 (Nat.le_refl _)) (lS 3 (by decide)) (lS 0 (by decide)) (lS 1 (by decide))
    (nS 4 (Nat.le_refl _)) (nS 2 (by decide)) (nS 3 (by decide)) (nS 0 (by decide)) (nS 1 (by decide)) (Nat.ne_of_gt (Heap.lt_size (Nn _ m1).1)) (Nat.ne_of_gt (Heap.lt_size (Nn _ m2).1))
    ⟨.inl ⟨rfl, up _ _ e4.1, _, _, up _ _ e3.1⟩, up _ _ e2.1, ⟨o1, up _ _ e0.1, q1.1, q1.2⟩, ⟨o2, up _ _ e1.1, q2.1, q2.2⟩, (Nn.isList m1).at fun o e => up _ o e, (Nn.isList m2).at fun o e => up _ o e⟩ hS fun h' tk acc c as hk hS' hal hG hacc => ⟨rfl, ?_⟩⟩
  have nF : ∀ b o, h₀.get? b = some o → b ≠ s.heap.objs.size ∧ b ≠ a + 4 ∧ b ≠ a + 3 ∧ b ≠ a ∧ b ≠ a + 1 := fun b o e =>
    ⟨(fun q => by rw [q, ktu_new F (Nat.le_refl _)] at e; cases e), (fun q => by rw [q, e4.2.2] at e; cases e), (fun q => by rw [q, e3.2.2] at e; cases e), (fun q => by rw [q, e0.2.2] at e; cases e), (fun q => by rw [q, e1.2.2] at e; cases e)⟩
  have kp : ∀ b o, b ≠ s.heap.objs.size → b ≠ a + 4 → b ≠ a + 3 → b ≠ a → b ≠ a + 1 → s.heap.get? b = some o → h'.get? b = some o := fun b o b0 b1 b2 b3 b4 e => hk b o b0 b1 b2 b3 b4 (up b o e)
  have F' : Fr h₀ L h' m := ⟨F.ns.at' fun o e => kp L o (Nat.ne_of_lt hL) (Ne.symm e4.2.1) (Ne.symm e3.2.1) (Ne.symm e0.2.1) (Ne.symm e1.2.1) e, fun b o e => by
    obtain ⟨x0, x1, x2, x3, x4⟩ := nF b o e
    exact kp b o x0 x1 x2 x3 x4 (F.keep b o e), F.above⟩
  have hal' : as.length = (xs.zip ys).length := by rw [hal, List.length_zip]; simp; omega
  have hfst : ((as.map Value.ref).zip (xs.zip ys)).map (·.1) = as.map Value.ref := List.map_fst_zip (by rw [List.length_map]; exact Nat.le_of_eq hal')
  have hsnd : ((as.map Value.ref).zip (xs.zip ys)).map (·.2) = xs.zip ys := List.map_snd_zip (by rw [List.length_map]; exact Nat.le_of_eq hal'.symm)
  have pick : ∀ q ∈ as.zip (xs.zip ys), IsPair h' q.1 q.2.1 q.2.2 ∧ s.heap.objs.size < q.1 := fun q hq => by
    obtain ⟨j, hj⟩ := List.getElem?_of_mem hq
    rw [List.getElem?_zip_eq_some] at hj
    obtain ⟨j1, j2⟩ := hj
    obtain ⟨x, y, g1, g2, g3, g4⟩ := hG.at_ j q.1 j1
    rw [List.getElem?_zip_eq_some] at j2
    have g1' : xs[j]? = some x := by simpa using g1
    have g2' : ys[j]? = some y := by simpa using g2
    rw [g1'] at j2
    rw [g2'] at j2
    have a1 : q.2.1 = x := (Option.some.inj j2.1).symm
    have a2 : q.2.2 = y := (Option.some.inj j2.2).symm
    rw [a1, a2]
    exact ⟨g3, Nat.lt_of_lt_of_le (by rw [Heap.size_push]; exact Nat.lt_succ_self _) g4⟩
  refine h s.heap.objs.size c ((as.map Value.ref).zip (xs.zip ys)) ((as.zip (xs.zip ys)).map fun q => (q.1, tupZ [q.2.1, q.2.2] 0)) h' tk F' (fun p hp => ?_) (fun p hp => Heap.lt_size (Nn p hp).1) (fun p hp => ?_) hsnd (by rw [List.length_zip, List.length_map, hal', List.length_zip, hs]; omega) fun p hp => ?_
  · rcases List.mem_cons.mp hp with rfl | hp
    · refine ⟨?_, Nat.ne_of_gt hL, ktu_new F (Nat.le_refl _)⟩
      rw [hfst, ← hacc]
      exact hS'
    rcases List.mem_append.mp hp with hp | hp
    · obtain ⟨q, hq, rfl⟩ := List.mem_map.mp hp
      obtain ⟨g1, g2⟩ := pick q hq
      exact ⟨g1, Nat.ne_of_gt (Nat.lt_trans hL g2), ktu_new F (Nat.le_of_lt g2)⟩
    · have z := Nn p hp
      have l := hlt p hp
      exact ⟨kp p.1 p.2 (Nat.ne_of_lt (Heap.lt_size z.1)) (ktu_ne 4 l) (ktu_ne 3 l) (Nat.ne_of_lt l) (ktu_ne 1 l) z.1, z.2⟩
  · obtain ⟨q, hq, rfl⟩ := List.mem_map.mp hp
    exact (pick q hq).2
  · have hp' : p ∈ (as.map Value.ref).zip (xs.zip ys) := hp
    rw [List.zip_map_left] at hp'
    obtain ⟨q, hq, rfl⟩ := List.mem_map.mp hp'
    exact ⟨q.1, rfl, List.mem_map.mpr ⟨q, hq, rfl⟩⟩
end

end --Z1
section --Y2
section
variable {prog : Program} {w : World} {A : Around} {E : Value → Shared → Prop} {s : Shared}
/-- the tests of a clause: none or one -/
noncomputable def Tst (M : Model) (A : Around) (ifs : List PySem.Expr) (env : Env) (Q : Bool → Shared → Prop) (E : Value → Shared → Prop) (s : Shared) : Prop :=
  match ifs with
  | [] => Q true s
  | [c] => wpAny M A (isTrue c env (eval c env)) Q E s
  | _ => False
theorem Tst.go {ifs : List PySem.Expr} {env : Env} {Q : Bool → Shared → Prop} (h : Tst (model prog w) A ifs env Q E s) :
    wpAny (model prog w) A (forIn ifs true fun c r => if r = true then do let ok ← isTrue c env (eval c env); pure (ForInStep.yield ok) else pure (ForInStep.yield r)) Q E s := by
  match ifs, h with
  | [], h => exact wpAny_tests_nil h
  | [c], h => exact wpAny_tests_one h
  | _ :: _ :: _, h => exact False.elim h
theorem cg_loop {elt target iter : PySem.Expr} {ifs : List PySem.Expr} {scope : Scope} {pos : Pos} {it acc : Value} {env : Env} {R : Result → Shared → Prop} (I : Nat → Shared → Prop)
    (turn : ∀ n s (E' : Value → Shared → Prop), I n s → wpAny (model prog w) A (pyNext it) (fun r s₁ => match r with
      | none => R (.ok .next) s₁
      | some v => wpAny (model prog w) A (letOwnedTupleGo target it v) (fun _ s₀ => wpAny (model prog w) A (assign target env v) (fun _ s₂ =>
          Tst (model prog w) A ifs env (fun ok s₃ => if ok = true then wpAny (model prog w) A (eval elt env) (fun x s₄ => wpAny (model prog w) A (call (.builtin "list.append") [acc, x]) (fun _ s₅ => ∃ m, m < n ∧ I m s₅) E' s₄) E' s₃ else ∃ m, m < n ∧ I m s₃) E' s₂) E' s₀) E' s₁) E' s)
    (n : Nat) (h : I n s) : codeAny (model prog w) A (.compLoop (.ListComp elt [⟨target, iter, ifs, 0⟩] scope pos) 0 it acc env) R s := by
  refine codeAny_loop rfl I (fun n s hI => ?_) n h
  show wpAny _ A ((compTurn (.ListComp elt [⟨target, iter, ifs, 0⟩] scope pos) 0 it acc env).onRaise (fun x => do noteFrame x env; theTreesLotGoes x)) _ _ s
  refine wpAny_noted ?_
  rw [compTurn_list]
  refine wpAny_bind (wpAny_standAt (wpAny_bind (wpAny_mono (turn n s _ hI) (fun r s₁ h₁ => ?_) fun _ _ h' => h')))
  cases r with
  | none => exact wpAny_pure h₁
  | some v =>
    refine wpAny_bind (wpAny_mono h₁ (fun _ s₀ h₀' => ?_) fun _ _ h' => h')
    refine wpAny_bind (wpAny_mono h₀' (fun _ s₂ h₂ => ?_) fun _ _ h' => h')
    refine wpAny_bind (wpAny_mono (Tst.go h₂) (fun ok s₃ h₃ => ?_) fun _ _ h' => h')
    cases ok with
    | false => exact wpAny_pure ⟨rfl, h₃⟩
    | true => exact wpAny_bind (wpAny_bind (wpAny_mono h₃ (fun x s₄ h₄ => wpAny_bind (wpAny_mono h₄ (fun _ s₅ h₅ => wpAny_pure (wpAny_pure ⟨rfl, h₅⟩)) fun _ _ h' => h')) fun _ _ h' => h'))
abbrev HeldL (h : Heap) (l : List (Addr × Obj)) : Prop := ∀ p ∈ l, h.get? p.1 = some p.2
abbrev OffL (l k : List (Addr × Obj)) : Prop := ∀ p ∈ l, ∀ q ∈ k, p.1 ≠ q.1
theorem cg_core {h₀ : Heap} {L : Addr} {m : Str → Option Value} {elt target iter : PySem.Expr} {ifs : List PySem.Expr} {scope : Scope} {pos : Pos} {cenv : Env} {R : Result → Shared → Prop} {I D : Addr} {fp wr pa : List Addr} {n : Nat} {P Md : Nat → Value → Heap → Prop} {St : Nat → Heap → Prop}
    {ws : List (Addr × String)} {keep : List (Addr × Obj)} {Pv : List (Addr × Obj) → Prop} {Ov : Nat → Value → List (Addr × Obj) → Prop} {news ol : List (Addr × Obj)}
    (W : KTurns prog w A target I fp wr n P Md St) (hn : n ≤ sizeLine) (hobj : ∀ i h, St i h → ∃ its, Objs ws its ∧ HeldL h its)
    (hfp : ∀ b ∈ fp, b ∈ ws.map (·.1) ∨ ∃ o, (b, o) ∈ keep) (hwr : ∀ b ∈ wr, b ∈ ws.map (·.1)) (hws : ∀ b ∈ ws.map (·.1), h₀.get? b = none ∧ b ≠ L)
    (hpa : ∀ b ∈ pa, h₀.get? b = none ∧ b ≠ L ∧ b ≠ D ∧ b ∉ fp ∧ b ∉ ws.map (·.1)) (hD : h₀.get? D = none ∧ D ≠ L ∧ D ∉ fp ∧ D ∉ ws.map (·.1))
    (J : Nat → List Value → List (Addr × Obj) → Prop)
    (asg : ∀ i v ys nx s Q E ol, i < n → J i ys nx → News h₀ L s.heap nx → P i v s.heap → Pv ol → ol.map (·.1) = pa → HeldL s.heap ol → (∀ h' tk ol', Ov i v ol' → Pv ol' → ol'.map (·.1) = pa → HeldL h' ol' → (∀ b o, b ∉ pa → s.heap.get? b = some o → h'.get? b = some o) → Q () { s with heap := h', toks := tk }) → wpAny (model prog w) A (assign target cenv v) Q E s)
    (turn : ∀ i v ys nx ol its h tk (E' : Value → Shared → Prop) (K : Value → Shared → Prop) (K0 : Shared → Prop), i < n → J i ys nx → Ov i v ol → Objs ws its → Fr h₀ L h m → News h₀ L h ((D, LCg.lst ys) :: (its ++ (ol ++ nx))) → OffL nx ((D, LCg.lst ys) :: (its ++ ol)) →
      (∀ y h' tk' nx', Fr h₀ L h' m → News h₀ L h' ((D, LCg.lst ys) :: (its ++ (ol ++ nx'))) → OffL nx' ((D, LCg.lst ys) :: (its ++ ol)) → SubL keep nx' → J (i + 1) (ys ++ [y]) nx' → K y { s with heap := h', toks := tk' }) →
      (∀ h' tk' nx', Fr h₀ L h' m → News h₀ L h' ((D, LCg.lst ys) :: (its ++ (ol ++ nx'))) → OffL nx' ((D, LCg.lst ys) :: (its ++ ol)) → SubL keep nx' → J (i + 1) ys nx' → K0 { s with heap := h', toks := tk' }) →
      Tst (model prog w) A ifs cenv (fun ok s' => if ok = true then wpAny (model prog w) A (eval elt cenv) K E' s' else K0 s') E' { s with heap := h, toks := tk })
    (done : ∀ h tk ys ol nx, Fr h₀ L h m → News h₀ L h ((D, LCg.lst ys) :: nx) → (∀ p ∈ nx, p.1 ≠ D ∧ p.1 ∉ pa) → Pv ol → ol.map (·.1) = pa → HeldL h ol → J n ys nx → R (.ok .next) { s with heap := h, toks := tk })
    (hst : St 0 s.heap) (F : Fr h₀ L s.heap m) (N : News h₀ L s.heap ((D, LCg.lst []) :: news)) (off : ∀ p ∈ news, p.1 ≠ D ∧ p.1 ∉ pa ∧ p.1 ∉ ws.map (·.1)) (hv : Pv ol) (hol : ol.map (·.1) = pa) (held : HeldL s.heap ol) (hk : SubL keep news) (j0 : J 0 [] news) :
    codeAny (model prog w) A (.compLoop (.ListComp elt [⟨target, iter, ifs, 0⟩] scope pos) 0 (.ref I) (.ref D) cenv) R s := by
  refine cg_loop (fun k s' => ∃ h tk i ys ol nx, s' = { s with heap := h, toks := tk } ∧ i ≤ n ∧ k = n + 1 - i ∧ ys.length ≤ i ∧ St i h ∧ Fr h₀ L h m ∧ Pv ol ∧ ol.map (·.1) = pa ∧ HeldL h ol ∧ News h₀ L h ((D, LCg.lst ys) :: nx) ∧
    (∀ p ∈ nx, p.1 ≠ D ∧ p.1 ∉ pa ∧ p.1 ∉ ws.map (·.1)) ∧ SubL keep nx ∧ J i ys nx) ?_ (n + 1) ⟨s.heap, s.toks, 0, [], ol, news, rfl, Nat.zero_le _, rfl, Nat.le_refl _, hst, F, hv, hol, held, N, off, hk, j0⟩
  rintro k s' E' ⟨h, tk, i, ys, ol, nx, rfl, hi, rfl, hys, hst, F, hv, hol, held, N, off, hk, hj⟩
  have paw : ∀ b ∈ pa, b ∉ wr := fun b hb hw => (hpa b hb).2.2.2.2 (hwr b hw)
  have w0 : ∀ b o, h₀.get? b = some o → b ∉ wr := fun b o e hw => by rw [(hws b (hwr b hw)).1] at e; cases e
  have Lw : L ∉ wr := fun hw => (hws L (hwr L hw)).2 rfl
  have Dw : D ∉ wr := fun hw => hD.2.2.2 (hwr D hw)
  have stepF : ∀ h₁, (∀ b o, b ∉ wr → h.get? b = some o → h₁.get? b = some o) → Fr h₀ L h₁ m ∧ HeldL h₁ ol ∧ News h₀ L h₁ ((D, LCg.lst ys) :: nx) := fun h₁ hk₁ =>
    ⟨⟨F.ns.at' fun o e => hk₁ _ o Lw e, fun b o e => hk₁ b o (w0 b o e) (F.keep b o e), F.above⟩,
      fun p hp => hk₁ _ _ (paw _ (hol ▸ List.mem_map.mpr ⟨p, hp, rfl⟩)) (held p hp),
      fun p hp => by
        refine ⟨hk₁ _ _ ?_ (N p hp).1, (N p hp).2⟩
        rcases List.mem_cons.mp hp with rfl | hp
        · exact Dw
        · exact fun hw => (off p hp).2.2 (hwr _ hw)⟩
  by_cases hlt : i < n
  · refine W.item i _ _ _ hlt hst fun v h₁ tk₁ hMd hk₁ => ?_
    refine W.go i v _ _ _ hMd fun h₂ hP hst₂ hk₂ => ?_
    obtain ⟨F₂, held₂, N₂⟩ := stepF h₂ fun b o hb e => hk₂ b o hb (hk₁ b o hb e)
    refine asg i v ys nx _ _ _ ol hlt hj (fun p hp => N₂ p (.tail _ hp)) hP hv hol held₂ fun h₃ tk₃ ol₃ hov hv₃ hol₃ held₃ hk₃ => ?_
    have p0 : ∀ b o, h₀.get? b = some o → b ∉ pa := fun b o e hb => by rw [(hpa b hb).1] at e; cases e
    have F₃ : Fr h₀ L h₃ m := ⟨F₂.ns.at' fun o e => hk₃ _ o (fun hb => (hpa _ hb).2.1 rfl) e, fun b o e => hk₃ b o (p0 b o e) (F₂.keep b o e), F₂.above⟩
    have hst₃ : St (i + 1) h₃ := W.frame _ _ _ hst₂ fun b hb o e => hk₃ b o (fun hx => (hpa b hx).2.2.2.1 hb) e
    have N₃ : News h₀ L h₃ ((D, LCg.lst ys) :: nx) := fun p hp => by
      refine ⟨hk₃ _ _ ?_ (N₂ p hp).1, (N₂ p hp).2⟩
      rcases List.mem_cons.mp hp with rfl | hp
      · exact fun hb => (hpa _ hb).2.2.1 rfl
      · exact (off p hp).2.1
    obtain ⟨its, hits, hval⟩ := hobj _ _ hst₃
    have hmi := hits.map
    have itw : ∀ p ∈ its, p.1 ∈ ws.map (·.1) := fun p hp => hmi ▸ List.mem_map.mpr ⟨p, hp, rfl⟩
    have olp : ∀ p ∈ ol₃, p.1 ∈ pa := fun p hp => hol₃ ▸ List.mem_map.mpr ⟨p, hp, rfl⟩
    have NA : News h₀ L h₃ ((D, LCg.lst ys) :: (its ++ (ol₃ ++ nx))) := fun p hp => by
      rcases List.mem_cons.mp hp with rfl | hp
      · exact N₃ _ (.head _)
      rcases List.mem_append.mp hp with hp | hp
      · exact ⟨hval p hp, (hws _ (itw p hp)).2, (hws _ (itw p hp)).1⟩
      rcases List.mem_append.mp hp with hp | hp
      · exact ⟨held₃ p hp, (hpa _ (olp p hp)).2.1, (hpa _ (olp p hp)).1⟩
      · exact N₃ _ (.tail _ hp)
    have offA : OffL nx ((D, LCg.lst ys) :: (its ++ ol₃)) := fun p hp q hq => by
      rcases List.mem_cons.mp hq with rfl | hq
      · exact (off p hp).1
      rcases List.mem_append.mp hq with hq | hq
      · exact fun e => (off p hp).2.2 (e ▸ itw q hq)
      · exact fun e => (off p hp).2.1 (e ▸ olp q hq)
    -- what holds when a turn has ended
    have fin : ∀ h₄ nx', Fr h₀ L h₄ m → News h₀ L h₄ ((D, LCg.lst ys) :: (its ++ (ol₃ ++ nx'))) → OffL nx' ((D, LCg.lst ys) :: (its ++ ol₃)) → SubL keep nx' →
        St (i + 1) h₄ ∧ HeldL h₄ ol₃ ∧ News h₀ L h₄ nx' ∧ (∀ p ∈ nx', p.1 ≠ D ∧ p.1 ∉ pa ∧ p.1 ∉ ws.map (·.1)) := fun h₄ nx' F₄ N₄ o₄ k₄ => by
      have g1 : HeldL h₄ its := fun p hp => (N₄ p (.tail _ (List.mem_append_left _ hp))).1
      refine ⟨W.frame _ _ _ hst₃ fun b hb o e => ?_, fun p hp => (N₄ p (.tail _ (List.mem_append_right _ (List.mem_append_left _ hp)))).1, fun p hp => N₄ p (.tail _ (List.mem_append_right _ (List.mem_append_right _ hp))), fun p hp => ⟨o₄ p hp _ (.head _), fun hb => ?_, fun hb => ?_⟩⟩
      · rcases hfp b hb with hw | ⟨o', ho'⟩
        · obtain ⟨q, hq, rfl⟩ := List.mem_map.mp (hmi ▸ hw : b ∈ its.map (·.1))
          have := (hval q hq).symm.trans e
          rw [g1 q hq]; exact this
        · have e1 := (N₃ _ (.tail _ (hk.mem _ ho'))).1
          have e2 := (N₄ _ (.tail _ (List.mem_append_right _ (List.mem_append_right _ (k₄.mem _ ho'))))).1
          exact e2.trans (e1.symm.trans e)
      · obtain ⟨q, hq, e⟩ := List.mem_map.mp (hol₃ ▸ hb : p.1 ∈ ol₃.map (·.1))
        exact o₄ p hp q (.tail _ (List.mem_append_right _ hq)) e.symm
      · obtain ⟨q, hq, e⟩ := List.mem_map.mp (hmi ▸ hb : p.1 ∈ its.map (·.1))
        exact o₄ p hp q (.tail _ (List.mem_append_left _ hq)) e.symm
    refine turn i v ys nx ol₃ its h₃ _ E' _ _ hlt hj hov hits F₃ NA offA ?_ ?_
    · intro y h₄ tk₄ nx' F₄ N₄ o₄ k₄ j₄
      obtain ⟨st₄, held₄, Nn, off₄⟩ := fin h₄ nx' F₄ N₄ o₄ k₄
      refine append_at (hsz := by show ys.toArray.size ≤ sizeLine; rw [List.size_toArray]; exact Nat.le_trans (Nat.le_trans hys hi) hn) (N₄ _ (.head _)).1 fun h₅ hs₅ hD₅ => ?_
      refine ⟨n + 1 - (i + 1), by omega, h₅, tk₄, i + 1, ys ++ [y], ol₃, nx', rfl, hlt, rfl, by rw [List.length_append, List.length_singleton]; exact Nat.succ_le_succ hys, W.frame _ _ _ st₄ fun b hb o e => hs₅.extBut b o (fun q => hD.2.2.1 (q ▸ hb)) e,
        F₄.change hs₅ hD.2.1 hD.1, hv₃, hol₃, fun p hp => hs₅.extBut _ _ (hpa _ (olp p hp)).2.2.1 (held₄ p hp), fun p hp => ?_, off₄, k₄, j₄⟩
      rcases List.mem_cons.mp hp with rfl | hp
      · exact ⟨hD₅.trans (congrArg some (LCg.lst_snoc ys y)), hD.2.1, hD.1⟩
      · exact ⟨hs₅.extBut _ _ (off₄ p hp).1 (Nn p hp).1, (Nn p hp).2⟩
    · intro h₄ tk₄ nx' F₄ N₄ o₄ k₄ j₄
      obtain ⟨st₄, held₄, Nn, off₄⟩ := fin h₄ nx' F₄ N₄ o₄ k₄
      refine ⟨n + 1 - (i + 1), by omega, h₄, tk₄, i + 1, ys, ol₃, nx', rfl, hlt, rfl, Nat.le_succ_of_le hys, st₄, F₄, hv₃, hol₃, held₄, fun p hp => ?_, off₄, k₄, j₄⟩
      rcases List.mem_cons.mp hp with rfl | hp
      · exact N₄ _ (.head _)
      · exact Nn p hp
  · obtain rfl : i = n := Nat.le_antisymm hi (Nat.not_lt.mp hlt)
    refine W.done _ _ _ hst fun h₁ tk₁ hk₁ => ?_
    obtain ⟨F₁, held₁, N₁⟩ := stepF h₁ hk₁
    exact done h₁ tk₁ ys ol nx F₁ N₁ (fun p hp => ⟨(off p hp).1, (off p hp).2.1⟩) hv hol held₁ hj
end
section
variable {M : Model} {prog : Program} {w : World} {A : Around} {E : Value → Shared → Prop} {s : Shared}
theorem cg_env {scope : Scope} {cl : List (Str × Addr)} {env : Env} {Q : Env → Shared → Prop}
    (hQ : Q { scope, locals := s.heap.objs.size, globals := env.globals, cells := cellsFrom (s.heap.objs.size + 1) scope.names cl, qual := env.qual, func := none, code := env.code, frame := env.frame, builtins := env.builtins } { s with heap := pushCells (s.heap.push { cls := .type "dict", data := .dict #[] }) scope.names }) :
    wpAny M A (newFunctionEnv scope env.globals cl [] env.qual none .none (some env)) Q E s := by
  simp only [newFunctionEnv, Option.isSome_some, if_true]
  refine wpAny_bind (wpAny_alloc ?_)
  refine wpAny_bind (wpAny_layCells _ (fun name kind cells => by cases hkc : kind == NameKind.cell <;> simp [hkc]) _ _ _ _ ?_)
  rw [show ({ s with heap := s.heap.push { cls := .type "dict", data := .dict #[] } } : Shared).heap.objs.size = s.heap.objs.size + 1 from Heap.size_push ..]
  refine wpAny_bind ?_
  rw [List.forIn_nil]
  exact wpAny_pure (wpAny_pure hQ)
/-- a comprehension whose iterable has been evaluated -/
noncomputable def CompK (prog : Program) (w : World) (A : Around) (E : Value → Shared → Prop) (env : Env) (elt target iter : PySem.Expr) (ifs : List PySem.Expr) (scope : Scope) (cl : List (Str × Addr)) (pos : Pos) (use : Option (Value → Sem Unit)) (Q : Value → Shared → Prop) (xv : Value) (s₁ : Shared) : Prop :=
  wpAny (model prog w) A (pyIter xv) (fun it s₂ => wpAny (model prog w) A (newList []) (fun acc s₃ => wpAny (model prog w) A (newFunctionEnv scope env.globals cl [] env.qual none .none (some env)) (fun cenv s₄ =>
    codeAny (model prog w) A (.compStart (.ListComp elt [⟨target, iter, ifs, 0⟩] scope pos) 0 it acc { cenv with scope := relabel scope env }) (compPost (model prog w) A E use Q acc cenv.locals) s₄) E s₃) E s₂) E s₁
theorem comp_eval {env : Env} {elt target iter : PySem.Expr} {ifs : List PySem.Expr} {scope : Scope} {cl : List (Str × Addr)} {pos : Pos} {Q : Value → Shared → Prop} (hclos : closureFor scope env = pure cl) (hkind : scope.kind = .function)
    (hnames : ∀ y ∈ scope.names, y.2 = .local → scope.names.lookup y.1 = some .local) (hs : ∀ x, foldedSetIterable iter env x = pure x)
    (h : wpAny (model prog w) A (eval iter env) (CompK prog w A E env elt target iter ifs scope cl pos none Q) E s) : wpAny (model prog w) A (eval (.ListComp elt [⟨target, iter, ifs, 0⟩] scope pos) env) Q E s := by
  rw [eval_ListComp]
  exact wpAny_comprehension_free (use := none) rfl hs hclos hkind hnames h
theorem comp_asg {env : Env} {elt target iter : PySem.Expr} {ifs : List PySem.Expr} {scope : Scope} {cl : List (Str × Addr)} {pos py spos : Pos} {y : Str} {Q : Flow → Shared → Prop} (hsw : swapsWith (.ListComp elt [⟨target, iter, ifs, 0⟩] scope pos) (some (.Name y py)) spos.line env = pure true)
    (hclos : closureFor scope env = pure cl) (hkind : scope.kind = .function)
    (hnames : ∀ y ∈ scope.names, y.2 = .local → scope.names.lookup y.1 = some .local) (hs : ∀ x, foldedSetIterable iter env x = pure x)
    (h : wpAny (model prog w) A (eval iter env) (CompK prog w A E env elt target iter ifs scope cl pos (some (assign (.Name y py) env)) (fun _ s' => Q .next s')) E s) :
    wpAny (model prog w) A (exec (.Assign [.Name y py] (.ListComp elt [⟨target, iter, ifs, 0⟩] scope pos) spos) env) Q E s := by
  rw [exec_Assign_Name_used _ _ _ _ hsw]
  refine wpAny_bind (wpAny_standAt (wpAny_bind ?_))
  show wpAny _ A (do let _ ← comprehension (.ListComp elt [⟨target, iter, ifs, 0⟩] scope pos) scope env _ (newList []) false (eval iter env) (some (assign (.Name y py) env))) _ _ s
  exact wpAny_bind (wpAny_mono (wpAny_comprehension_free (use := some (assign (.Name y py) env)) (Q := fun _ s' => Q .next s') rfl hs hclos hkind hnames h) (fun _ s' hq => wpAny_pure (wpAny_pure hq)) fun _ _ e => e)
/-- how a comprehension's end is handed on -/
noncomputable def PostK (prog : Program) (w : World) (A : Around) (E : Value → Shared → Prop) (use : Option (Value → Sem Unit)) (Q : Value → Shared → Prop) (h₀ : Heap) (L : Addr) (m : Str → Option Value) (s₁ : Shared) (Fin : Addr → List Value → List (Addr × Obj) → Prop) : Prop :=
  ∀ D C h tk nx ys mC, Fr h₀ L h m → News h₀ L h ((D, LCg.lst ys) :: nx) → h.Ns C mC → h₀.get? C = none → C ≠ L → C ≠ D → (∀ p ∈ nx, p.1 ≠ C) → Fin D ys nx → compPost (model prog w) A E use Q (.ref D) C (.ok .next) { s₁ with heap := h, toks := tk }
theorem post_E {Q : Value → Shared → Prop} {h₀ : Heap} {L : Addr} {m : Str → Option Value} : PostK prog w A E none Q h₀ L m s (fun D ys nx => ∀ h tk, Fr h₀ L h m → News h₀ L h ((D, LCg.lst ys) :: nx) → Q (.ref D) { s with heap := h, toks := tk }) := by
  intro D C h tk nx ys mC F N nC c0 cL cD off fin
  refine ⟨mC, nC, fun h' hs => fin h' tk (F.change hs cL c0) fun p hp => ⟨hs.extBut _ _ ?_ (N p hp).1, (N p hp).2⟩⟩
  rcases List.mem_cons.mp hp with rfl | hp
  · exact Ne.symm cD
  · exact off p hp
theorem post_A {Q : Flow → Shared → Prop} {h₀ : Heap} {env : Env} {m : Str → Option Value} {y : Str} {py : Pos} (hy : env.kindOf y = some .local) (hp : (env.scope.kind == .class || (env.scope.kind == .module && env.locals != env.globals)) = false) :
    PostK prog w A E (some (assign (.Name y py) env)) (fun _ s' => Q .next s') h₀ env.locals m s (fun D ys nx => ∀ h tk, Fr h₀ env.locals h (fun z => if z = y then some (.ref D) else m z) → News h₀ env.locals h ((D, LCg.lst ys) :: nx) → Q .next { s with heap := h, toks := tk }) := by
  intro D C h tk nx ys mC F N nC c0 cL cD off fin
  show wpAny _ A (assign (.Name y py) env (.ref D)) _ _ _
  refine wpAny_assign_Name (wpAny_storeName_local hy F.ns (fun h₂ hn₂ hs₂ => ?_) hp)
  have hL₀ : h₀.get? env.locals = none := Heap.get?_none_of_le F.above
  have F₂ : Fr h₀ env.locals h₂ (fun z => if z = y then some (.ref D) else m z) := ⟨hn₂, fun b o e => hs₂.extBut b o (fun q => by rw [q, hL₀] at e; cases e) (F.keep b o e), F.above⟩
  refine ⟨mC, nC.sameBut hs₂ cL, fun h'' hs'' => fin h'' _ (F₂.change hs'' cL c0) (fun p hp => ?_)⟩
  have z : h₂.get? p.1 = some p.2 := hs₂.extBut _ _ (N p hp).2.1 (N p hp).1
  refine ⟨hs''.extBut _ _ ?_ z, (N p hp).2⟩
  rcases List.mem_cons.mp hp with rfl | hp
  · exact Ne.symm cD
  · exact off p hp
/-- the comprehension's own things: its names, and (cx) the one cell -/
noncomputable def PvK (C : Addr) : Bool → List (Addr × Obj) → Prop
  | false, ol => ∃ oC m, LCg.NsObj oC m ∧ ol = [(C, oC)]
  | true, ol => ∃ oC m, LCg.NsObj oC m ∧ ∃ (oc : Obj) (v : Option Value), oc.data = .cell v ∧ ol = [(C, oC), (C + 1, oc)]
theorem PvK.shape {C : Addr} : ∀ {cx : Bool} {ol : List (Addr × Obj)}, PvK C cx ol → ∃ oC m, LCg.NsObj oC m ∧ (C, oC) ∈ ol ∧ ol.map (·.1) = if cx then [C, C + 1] else [C]
  | false, _, ⟨oC, m, h, e⟩ => ⟨oC, m, h, by rw [e]; exact .head _, by rw [e]; rfl⟩
  | true, _, ⟨oC, m, h, oc, v, _, e⟩ => ⟨oC, m, h, by rw [e]; exact .head _, by rw [e]; rfl⟩
/-- the comprehension from its iterator on -/
theorem cg_block {h₀ : Heap} {L : Addr} {m : Str → Option Value} {elt target iter : PySem.Expr} {ifs : List PySem.Expr} {scope : Scope} {cl : List (Str × Addr)} {pos : Pos} {env : Env} {use : Option (Value → Sem Unit)} {Q : Value → Shared → Prop} {Fin : Addr → List Value → List (Addr × Obj) → Prop}
    {I : Addr} {fp wr : List Addr} {n : Nat} {P Md : Nat → Value → Heap → Prop} {St : Nat → Heap → Prop} {ws : List (Addr × String)} {keep news : List (Addr × Obj)} {cx : Bool} {cl' : Nat → List (Str × Addr)} {Ov : Addr → Nat → Value → List (Addr × Obj) → Prop}
    (W : KTurns prog w A target I fp wr n P Md St) (self : ∀ (s : Shared) (Q : Value → Shared → Prop) (E : Value → Shared → Prop), St 0 s.heap → Q (.ref I) s → wpAny (model prog w) A (pyIter (.ref I)) Q E s)
    (hn : n ≤ sizeLine) (hobj : ∀ i h, St i h → ∃ its, Objs ws its ∧ HeldL h its)
    (hfp : ∀ b ∈ fp, b ∈ ws.map (·.1) ∨ ∃ o, (b, o) ∈ keep) (hwr : ∀ b ∈ wr, b ∈ ws.map (·.1)) (hws : ∀ b ∈ ws.map (·.1), h₀.get? b = none ∧ b ≠ L ∧ b < s.heap.objs.size) (hfs : ∀ b ∈ fp, b < s.heap.objs.size)
    (hcl : ∀ k, cellsFrom k scope.names cl = cl' k) (hpu : ∀ h, pushCells h scope.names = if cx then h.push { cls := .type "cell", data := .cell none } else h)
    (J : Addr → Nat → List Value → List (Addr × Obj) → Prop)
    (asg : ∀ D i v ys nx s Q E ol, i < n → J D i ys nx → News h₀ L s.heap nx → P i v s.heap → PvK (D + 1) cx ol → HeldL s.heap ol → (∀ h' tk ol', Ov (D + 1) i v ol' → PvK (D + 1) cx ol' → HeldL h' ol' → (∀ b o, b ∉ ol.map (·.1) → s.heap.get? b = some o → h'.get? b = some o) → Q () { s with heap := h', toks := tk }) →
      wpAny (model prog w) A (assign target (compEnvC scope (cl' (D + 2)) (D + 1) env) v) Q E s)
    (turn : ∀ D i v ys nx ol its h tk (E' : Value → Shared → Prop) (K : Value → Shared → Prop) (K0 : Shared → Prop), ((∀ p ∈ news, p.1 < D) ∧ ∀ b ∈ ws.map (·.1), b < D) → i < n → J D i ys nx → Ov (D + 1) i v ol → Objs ws its → Fr h₀ L h m → News h₀ L h ((D, LCg.lst ys) :: (its ++ (ol ++ nx))) → OffL nx ((D, LCg.lst ys) :: (its ++ ol)) →
      (∀ y h' tk' nx', Fr h₀ L h' m → News h₀ L h' ((D, LCg.lst ys) :: (its ++ (ol ++ nx'))) → OffL nx' ((D, LCg.lst ys) :: (its ++ ol)) → SubL keep nx' → J D (i + 1) (ys ++ [y]) nx' → K y { s with heap := h', toks := tk' }) →
      (∀ h' tk' nx', Fr h₀ L h' m → News h₀ L h' ((D, LCg.lst ys) :: (its ++ (ol ++ nx'))) → OffL nx' ((D, LCg.lst ys) :: (its ++ ol)) → SubL keep nx' → J D (i + 1) ys nx' → K0 { s with heap := h', toks := tk' }) →
      Tst (model prog w) A ifs (compEnvC scope (cl' (D + 2)) (D + 1) env) (fun ok s' => if ok = true then wpAny (model prog w) A (eval elt (compEnvC scope (cl' (D + 2)) (D + 1) env)) K E' s' else K0 s') E' { s with heap := h, toks := tk })
    (start : ∀ D, (∀ p ∈ news, p.1 < D) → J D 0 [] news) (done : ∀ D ys nx, (∀ p ∈ news, p.1 < D) → J D n ys nx → (∀ p ∈ nx, p.1 ≠ D) → Fin D ys nx) (post : PostK prog w A E use Q h₀ L m s Fin)
    (hst : St 0 s.heap) (F : Fr h₀ L s.heap m) (N : News h₀ L s.heap news) (off : ∀ p ∈ news, p.1 ∉ ws.map (·.1)) (hk : SubL keep news) :
    wpAny (model prog w) A (newList []) (fun acc s₃ => wpAny (model prog w) A (newFunctionEnv scope env.globals cl [] env.qual none .none (some env)) (fun cenv s₄ =>
      codeAny (model prog w) A (.compStart (.ListComp elt [⟨target, iter, ifs, 0⟩] scope pos) 0 (.ref I) acc { cenv with scope := relabel scope env }) (compPost (model prog w) A E use Q acc cenv.locals) s₄) E s₃) E s := by
  refine wpAny_newObj_type (cg_env ?_)
  generalize hD : s.heap.objs.size = D
  have hL : L < D := hD ▸ F.ns.lt
  have fresh₀ : ∀ a, D ≤ a → h₀.get? a = none := fun a ha => ktu_new F (hD ▸ ha)
  dsimp only
  rw [Heap.size_push, hD, hcl, hpu]
  have hlt : ∀ p ∈ news, p.1 < D := fun p hp => hD ▸ Heap.lt_size (N p hp).1
  -- the heap that the loop starts from
  obtain ⟨H, hH, up, gD, ol, hpv, held⟩ : ∃ H : Heap, H = (if cx then ((s.heap.push { cls := .type "list", dict := none, data := .seq ([] : List Value).toArray }).push { cls := .type "dict", data := .dict #[] }).push { cls := .type "cell", data := .cell none }
      else (s.heap.push { cls := .type "list", dict := none, data := .seq ([] : List Value).toArray }).push { cls := .type "dict", data := .dict #[] }) ∧ (∀ b o, s.heap.get? b = some o → H.get? b = some o) ∧ H.get? D = some (LCg.lst []) ∧ ∃ ol, PvK (D + 1) cx ol ∧ HeldL H ol := by
    have e1 : (s.heap.push { cls := .type "list", dict := none, data := .seq ([] : List Value).toArray }).objs.size = D + 1 := by rw [Heap.size_push, hD]
    have e2 : ((s.heap.push { cls := .type "list", dict := none, data := .seq ([] : List Value).toArray }).push { cls := .type "dict", data := .dict #[] }).objs.size = D + 2 := by rw [Heap.size_push, e1]
    have ns : LCg.NsObj { cls := .type "dict", data := .dict #[] } (fun _ => none) := by
      obtain ⟨o, e, hx⟩ := LCg.ns_obj (Heap.Ns.new s.heap (.type "dict"))
      have := Heap.get?_push_size s.heap (o := { cls := .type "dict", data := .dict #[] }) rfl
      rw [this] at e
      cases e
      exact hx
    have gd := Heap.get?_push_size s.heap (o := { cls := .type "list", dict := none, data := .seq ([] : List Value).toArray }) rfl
    rw [hD] at gd
    have gc := Heap.get?_push_size (s.heap.push { cls := .type "list", dict := none, data := .seq ([] : List Value).toArray }) (o := { cls := .type "dict", data := .dict #[] }) rfl
    rw [e1] at gc
    cases cx with
    | false =>
      refine ⟨_, rfl, fun b o e => Heap.get?_push_of_some _ (Heap.get?_push_of_some _ e), Heap.get?_push_of_some _ gd, [(D + 1, _)], ⟨_, _, ns, rfl⟩, fun p hp => ?_⟩
      rw [List.mem_singleton.mp hp]
      exact gc
    | true =>
      have gx := Heap.get?_push_size ((s.heap.push { cls := .type "list", dict := none, data := .seq ([] : List Value).toArray }).push { cls := .type "dict", data := .dict #[] }) (o := { cls := .type "cell", data := .cell none }) rfl
      rw [e2] at gx
      refine ⟨_, rfl, fun b o e => Heap.get?_push_of_some _ (Heap.get?_push_of_some _ (Heap.get?_push_of_some _ e)), Heap.get?_push_of_some _ (Heap.get?_push_of_some _ gd), [(D + 1, { cls := .type "dict", data := .dict #[] }), (D + 1 + 1, { cls := .type "cell", data := .cell none })], ⟨_, _, ns, _, none, rfl, rfl⟩, fun p hp => ?_⟩
      rcases List.mem_cons.mp hp with rfl | hp
      · exact Heap.get?_push_of_some _ gc
      · rw [List.mem_singleton.mp hp]
        exact gx
  rw [← hH]
  obtain ⟨oC₀, mC₀, _, mC, eC⟩ := hpv.shape
  have pa : ∀ b ∈ ol.map (·.1), D < b := fun b hb => by
    rw [eC] at hb
    cases cx with
    | false => rw [List.mem_singleton.mp hb]; exact Nat.lt_succ_self D
    | true =>
      rcases List.mem_cons.mp hb with rfl | hb
      · exact Nat.lt_succ_self D
      · rw [List.mem_singleton.mp hb]; exact Nat.lt_succ_of_lt (Nat.lt_succ_self D)
  have paC : D + 1 ∈ ol.map (·.1) := List.mem_map.mpr ⟨_, mC, rfl⟩
  have pamap : ∀ ol', PvK (D + 1) cx ol' → ol'.map (·.1) = ol.map (·.1) := fun ol' h' => by
    obtain ⟨_, _, _, _, e⟩ := h'.shape
    rw [e, eC]
  have loop : codeAny (model prog w) A (.compLoop (.ListComp elt [⟨target, iter, ifs, 0⟩] scope pos) 0 (.ref I) (.ref D) (compEnvC scope (cl' (D + 2)) (D + 1) env)) (compPost (model prog w) A E use Q (.ref D) (D + 1)) { s with heap := H } := by
    refine cg_core (s := { s with heap := H }) (Pv := PvK (D + 1) cx) (Ov := Ov (D + 1)) (pa := ol.map (·.1)) W hn hobj hfp hwr (fun b hb => ⟨(hws b hb).1, (hws b hb).2.1⟩)
      (fun b hb => ⟨fresh₀ b (Nat.le_of_lt (pa b hb)), Nat.ne_of_gt (Nat.lt_trans hL (pa b hb)), Nat.ne_of_gt (pa b hb), fun hf => Nat.lt_asymm (pa b hb) (hD ▸ hfs b hf), fun hf => Nat.lt_asymm (pa b hb) (hD ▸ (hws b hf).2.2)⟩)
      ⟨fresh₀ D (Nat.le_refl _), Nat.ne_of_gt hL, fun hf => Nat.lt_irrefl _ (hD ▸ hfs D hf), fun hf => Nat.lt_irrefl _ (hD ▸ (hws D hf).2.2)⟩ (J D)
      (fun i v ys nx s Q E ol₁ hi hj hN hP hv hol hh hq => asg D i v ys nx s Q E ol₁ hi hj hN hP hv hh fun h' tk ol' ho hv' hh' hkp => hq h' tk ol' ho hv' (pamap ol' hv') hh' fun b o hb e => hkp b o (hol ▸ hb) e)
      (fun i v ys nx ol₁ its h tk E' K K0 hi hj ho hits F' N' of' hK hK0 => turn D i v ys nx ol₁ its h tk E' K K0 ⟨hlt, fun b hb => hD ▸ (hws b hb).2.2⟩ hi hj ho hits F' N' of' hK hK0)
      (fun h tk ys ol₁ nx F' N' of' hv hol hh hj => ?_) (W.frame _ _ _ hst fun b _ o e => up b o e) (F.keeps up) (fun p hp => ?_) (fun p hp => ⟨Nat.ne_of_lt (hlt p hp), fun hb => Nat.lt_asymm (hlt p hp) (pa _ hb), off p hp⟩) hpv rfl held hk (start D hlt)
    · obtain ⟨oC, mC, hns, h', _⟩ := hv.shape
      have gC : h.get? (D + 1) = some oC := hh _ h'
      exact post D (D + 1) h tk nx ys mC F' N' (hns.ns gC) (fresh₀ _ (Nat.le_succ _)) (Nat.ne_of_gt (Nat.lt_succ_of_lt hL)) (Nat.succ_ne_self _) (fun p hp e => (of' p hp).2 (e ▸ paC)) (done D ys nx hlt hj fun p hp => (of' p hp).1)
    · rcases List.mem_cons.mp hp with rfl | hp
      · exact ⟨gD, Nat.ne_of_gt hL, fresh₀ D (Nat.le_refl _)⟩
      · exact ⟨up _ _ (N p hp).1, (N p hp).2⟩
  exact codeAny_compStart_list loop (self _ _ _ (W.frame _ _ _ hst fun b _ o e => up b o e) loop)
end

end --Y2
section --Q1
/-! pure values, variables, the ledger -/
inductive PV where
  | unb | none | bool (b : Bool) | int (i : Int) | tup (l : List PV) | lst (l : List PV) | side (r : Row) | src | acc (l : List PV)
inductive VR (w : World) (src : Addr) (I : Led) : Value → PV → Prop
  | none : VR w src I .none .none
  | bool (b : Bool) : VR w src I (.bool b) (.bool b)
  | int (i : Int) (t : Tok) : VR w src I (.int i t) (.int i)
  | tup {a : Addr} {vs : List Value} {n : Nat} {ps : List PV} : (a, tupO vs n) ∈ I → vs.length = ps.length → (∀ (k : Nat) v p, vs[k]? = some v → ps[k]? = some p → VR w src I v p) → VR w src I (.ref a) (.tup ps)
  | lst {a : Addr} {vs : List Value} {n : Nat} {ps : List PV} : (a, lisO vs n) ∈ I → vs.length = ps.length → (∀ (k : Nat) v p, vs[k]? = some v → ps[k]? = some p → VR w src I v p) → VR w src I (.ref a) (.lst ps)
  | side {v : Value} {r : Row} : SideIn w I v r → VR w src I v (.side r)
  | src : VR w src I (.ref src) .src
noncomputable def VRs (w : World) (src : Addr) (I : Led) (vs : List Value) (ps : List PV) : Prop := vs.length = ps.length ∧ ∀ (k : Nat) v p, vs[k]? = some v → ps[k]? = some p → VR w src I v p
section
variable {w : World} {src : Addr} {I J : Led} {vs ws : List Value} {ps qs : List PV} {v : Value} {p : PV}
theorem VR.mono (h : VR w src I v p) (hs : ∀ p ∈ I, p ∈ J) : VR w src J v p := by
  induction h with
  | none => exact .none
  | bool b => exact .bool b
  | int i t => exact .int i t
  | tup h e _ ih => exact .tup (hs _ h) e ih
  | lst h e _ ih => exact .lst (hs _ h) e ih
  | side h => exact .side (SideIn.mono hs h)
  | src => exact .src
theorem VRs.mono (h : VRs w src I vs ps) (hs : ∀ p ∈ I, p ∈ J) : VRs w src J vs ps := ⟨h.1, fun k v p a b => (h.2 k v p a b).mono hs⟩
theorem VR.tupL {a : Addr} {n : Nat} (h : (a, tupO vs n) ∈ I) (r : VRs w src I vs ps) : VR w src I (.ref a) (.tup ps) := .tup h r.1 r.2
theorem VR.lstL {a : Addr} {n : Nat} (h : (a, lisO vs n) ∈ I) (r : VRs w src I vs ps) : VR w src I (.ref a) (.lst ps) := .lst h r.1 r.2
theorem VRs.nil : VRs w src I [] [] := ⟨rfl, fun _ _ _ a => nomatch a⟩
theorem VRs.cons (h : VR w src I v p) (r : VRs w src I vs ps) : VRs w src I (v :: vs) (p :: ps) :=
  ⟨congrArg (· + 1) r.1, fun k u q a b => match k, a, b with | 0, rfl, rfl => h | k + 1, a, b => r.2 k u q a b⟩
theorem VRs.hd (h : VRs w src I (v :: vs) (p :: ps)) : VR w src I v p := h.2 0 v p rfl rfl
theorem VRs.tl (h : VRs w src I (v :: vs) (p :: ps)) : VRs w src I vs ps := ⟨Nat.succ.inj h.1, fun k u q a b => h.2 (k + 1) u q a b⟩
theorem VRs.length (h : VRs w src I vs ps) : vs.length = ps.length := h.1
theorem VRs.get (h : VRs w src I vs ps) {k : Nat} (e : ps[k]? = some p) : ∃ v, vs[k]? = some v ∧ VR w src I v p := by
  have hk : k < vs.length := h.1 ▸ (List.getElem?_eq_some_iff.mp e).1
  exact ⟨_, List.getElem?_eq_getElem hk, h.2 k _ p (List.getElem?_eq_getElem hk) e⟩
theorem VRs.app (h : VRs w src I vs ps) (r : VRs w src I ws qs) : VRs w src I (vs ++ ws) (ps ++ qs) := by
  refine ⟨by rw [List.length_append, List.length_append, h.1, r.1], fun k v p a b => ?_⟩
  rcases Nat.lt_or_ge k vs.length with hk | hk
  · rw [List.getElem?_append_left hk] at a
    rw [List.getElem?_append_left (h.1 ▸ hk)] at b
    exact h.2 k v p a b
  · rw [List.getElem?_append_right hk] at a
    rw [List.getElem?_append_right (h.1 ▸ hk), ← h.1] at b
    exact r.2 _ v p a b
theorem VRs.take (h : VRs w src I vs ps) (k : Nat) : VRs w src I (vs.take k) (ps.take k) := by
  refine ⟨by rw [List.length_take, List.length_take, h.1], fun j v p a b => ?_⟩
  rw [List.getElem?_take] at a b
  split at a
  · exact h.2 j v p a (by rwa [if_pos (by assumption)] at b)
  · cases a
theorem VRs.drop (h : VRs w src I vs ps) (k : Nat) : VRs w src I (vs.drop k) (ps.drop k) := by
  refine ⟨by rw [List.length_drop, List.length_drop, h.1], fun j v p a b => ?_⟩
  rw [List.getElem?_drop] at a b
  exact h.2 _ v p a b
end

/-- the ledger stands, no address twice -/
noncomputable def LedOk (h₀ : Heap) (L : Addr) (h : Heap) (T : Led) : Prop := News h₀ L h T ∧ (T.map (·.1)).Nodup
section
variable {h₀ h : Heap} {L D : Addr} {T T' : Led} {o : Obj}
theorem LedOk.perm (k : LedOk h₀ L h T) (e : T'.Perm T) : LedOk h₀ L h T' :=
  ⟨fun p hp => k.1 p (e.mem_iff.mp hp), (e.map _).nodup_iff.mpr k.2⟩
theorem LedOk.off (k : LedOk h₀ L h ((D, o) :: T)) : ∀ p ∈ T, p.1 ≠ D := fun p hp e => (List.nodup_cons.mp k.2).1 (List.mem_map.mpr ⟨p, hp, e⟩)
theorem LedOk.tl (k : LedOk h₀ L h ((D, o) :: T)) : LedOk h₀ L h T := ⟨fun p hp => k.1 p (.tail _ hp), (List.nodup_cons.mp k.2).2⟩
theorem LedOk.put (k : LedOk h₀ L h T) {h' : Heap} (N : News h₀ L h' ((D, o) :: T)) (lt : ∀ p ∈ T, p.1 ≠ D) : LedOk h₀ L h' ((D, o) :: T) :=
  ⟨N, List.nodup_cons.mpr ⟨fun hm => let ⟨p, hp, e⟩ := List.mem_map.mp hm; lt p hp e, k.2⟩⟩
theorem LedOk.new (k : LedOk h₀ L h T) {h' : Heap} (N : News h₀ L h' ((D, o) :: T)) (lt : ∀ p ∈ T, p.1 < D) : LedOk h₀ L h' ((D, o) :: T) := k.put N fun p hp => Nat.ne_of_lt (lt p hp)
theorem LedOk.same (k : LedOk h₀ L h T) {h' : Heap} (N : News h₀ L h' T) : LedOk h₀ L h' T := ⟨N, k.2⟩
end

/-- one variable: its name, its value, what of the ledger it owns -/
inductive BR (w : World) (src : Addr) (env : Env) (L : Addr) (I R : Led) (m : Str → Option Value) (x : Str) : PV → Led → Prop
  | unF : env.kindOf x = some .local → env.locals = L → BR w src env L I R m x .unb []
  | unC {c : Addr} {o : Obj} {v₀ : Option Value} : env.kindOf x = some .cell → env.cells.lookup x = some c → o.data = .cell v₀ → BR w src env L I R m x .unb [(c, o)]
  | fr {v : Value} {p : PV} : env.kindOf x = some .local → env.locals = L → m x = some v → VR w src I v p → BR w src env L I R m x p []
  | ce {c : Addr} {o : Obj} {v : Value} {p : PV} : env.kindOf x = some .cell → env.cells.lookup x = some c → o.data = .cell (some v) → VR w src I v p → BR w src env L I R m x p [(c, o)]
  | ac {a : Addr} {vs : List Value} {n : Nat} {ps : List PV} : env.kindOf x = some .local → env.locals = L → m x = some (.ref a) → VRs w src I vs ps → BR w src env L I R m x (.acc ps) [(a, lisO vs n)]
  | roN {oC : Obj} {m₂ : Str → Option Value} {v : Value} {p : PV} : env.kindOf x = some .local → (env.locals, oC) ∈ R → LCg.NsObj oC m₂ → m₂ x = some v → VR w src I v p → BR w src env L I R m x p []
  | roC {c : Addr} {o : Obj} {v : Value} {p : PV} : env.kindOf x = some .cell → env.cells.lookup x = some c → (c, o) ∈ R → o.data = .cell (some v) → VR w src I v p → BR w src env L I R m x p []
inductive LR (w : World) (src : Addr) (env : Env) (L : Addr) (I R : Led) (m : Str → Option Value) : List Str → List PV → Led → Prop
  | nil : LR w src env L I R m [] [] []
  | cons {x : Str} {p : PV} {M1 M2 : Led} {ns : List Str} {ps : List PV} : BR w src env L I R m x p M1 → LR w src env L I R m ns ps M2 → LR w src env L I R m (x :: ns) (p :: ps) (M1 ++ M2)
section
variable {w : World} {src : Addr} {env : Env} {L : Addr} {I I' R : Led} {m m' : Str → Option Value} {x : Str} {p : PV} {M M1 : Led} {ns : List Str} {ps : List PV}
theorem BR.mono (h : BR w src env L I R m x p M) (hs : ∀ q ∈ I, q ∈ I') (hm : m' x = m x) : BR w src env L I' R m' x p M := by
  cases h with
  | unF a b => exact .unF a b
  | unC a b c => exact .unC a b c
  | fr a b c d => exact .fr a b (hm.trans c) (d.mono hs)
  | ce a b c d => exact .ce a b c (d.mono hs)
  | ac a b c d => exact .ac a b (hm.trans c) (d.mono hs)
  | roN a b c d e => exact .roN a b c d (e.mono hs)
  | roC a b c d e => exact .roC a b c d (e.mono hs)
theorem LR.mono (h : LR w src env L I R m ns ps M) (hs : ∀ q ∈ I, q ∈ I') (hm : ∀ x ∈ ns, m' x = m x) : LR w src env L I' R m' ns ps M := by
  induction h with
  | nil => exact .nil
  | cons a _ ih => exact .cons (a.mono hs (hm _ (.head _))) (ih fun x hx => hm x (.tail _ hx))
theorem LR.lens (h : LR w src env L I R m ns ps M) (nd : ns.Nodup) : ∀ {i : Nat}, ps[i]? = some p → ∃ x M1 M0, ns[i]? = some x ∧ M.Perm (M1 ++ M0) ∧ BR w src env L I R m x p M1 ∧
    ∀ I' m' p' M1', (∀ q ∈ I, q ∈ I') → (∀ y, y ≠ x → m' y = m y) → BR w src env L I' R m' x p' M1' → ∃ M', M'.Perm (M1' ++ M0) ∧ LR w src env L I' R m' ns (ps.set i p') M' := by
  induction h with
  | nil => intro i e; cases e
  | @cons x1 p1 M1 M2 ns ps a r ih =>
    have nd' := List.nodup_cons.mp nd
    intro i e2
    cases i with
    | zero =>
      cases e2
      exact ⟨x1, M1, M2, rfl, .refl _, a, fun I' m' p' M1' hs hm b => ⟨M1' ++ M2, .refl _, .cons b (r.mono hs fun y hy => hm y fun q => nd'.1 (q ▸ hy))⟩⟩
    | succ i =>
      obtain ⟨x, M1', M0, e1, pm, b, k⟩ := ih nd'.2 e2
      refine ⟨x, M1', M1 ++ M0, e1, (pm.append_left M1).trans (List.perm_append_comm_assoc _ _ _), b, fun I' m' p' Mn hs hm b' => ?_⟩
      obtain ⟨M', pm', lr⟩ := k I' m' p' Mn hs hm b'
      exact ⟨M1 ++ M', (pm'.append_left M1).trans (List.perm_append_comm_assoc _ _ _), .cons (a.mono hs (hm _ fun q => nd'.1 (q ▸ List.mem_of_getElem? e1))) lr⟩
end
/-- the draws' source, where the frame has it -/
noncomputable def SrcL (src : Addr) (own : Bool) (S : Led) : Prop := if own then ∃ sa sb ta tb, SrcOk sa sb ∧ S = [(src, srcO sa sb ta tb)] else S = []
/-- the frame at hand: what a call asks of it -/
noncomputable def FcR (w : World) (h₀ : Heap) (L : Addr) (A : Around) (dp un : Nat) : Prop :=
  ∃ (gd : Option (List Code)) (cn : Str) (cs : Scope) (a : Addr) (ccd : Value) (cl : List (Str × Addr)) (outer : List Env), A = ktrTop dp un gd cn cs L a ccd cl outer ∧ (cs.kind = .function ∧ outer.length + 2 + claimMargin ≤ dp) ∧ ∃ A₀ base, Below A₀ base outer h₀
noncomputable def FcT (w : World) (h₀ : Heap) : Prop := (hd.heap_1 w.params).In h₀ ∧ ∃ p loose mean mg mb, Top p loose mean mg mb h₀
noncomputable def Fc (w : World) (h₀ : Heap) (L : Addr) (k u : Nat) (A : Around) : Prop := ∃ dp un, FcR w h₀ L A dp un ∧ (dp + k < recursionLimit ∧ un + u < cLine) ∧ FcT w h₀
/-- what a def does, told over pure values -/
noncomputable def FSpec (w : World) (fa : Addr) (own : Bool) (k u : Nat) (W : List PV → (PV → Prop) → Prop) : Prop :=
  ∀ (src : Addr) (h₀ : Heap) (L : Addr) (A : Around) (m : Str → Option Value) (s : Shared) (S I R : Led) (vs : List Value) (ps : List PV) (Post : PV → Prop) (Q E : Value → Shared → Prop),
    Fc w h₀ L k u A → Fr h₀ L s.heap m → LedOk h₀ L s.heap (S ++ (I ++ R)) → SrcL src own S → VRs w src I vs ps → W ps Post →
    (∀ v p h' tk' I' S', (∀ q ∈ I, q ∈ I') → Post p → VR w src I' v p → Fr h₀ L h' m → LedOk h₀ L h' (S' ++ (I' ++ R)) → SrcL src own S' → Q v { s with heap := h', toks := tk' }) →
    wpAny (model pg w) A (call (.ref fa) vs) Q E s
theorem Fc.up {w : World} {h₀ : Heap} {L : Addr} {A : Around} {k u k' u' : Nat} (h : Fc w h₀ L k' u' A) (hk : k ≤ k') (hu : u ≤ u') : Fc w h₀ L k u A :=
  let ⟨dp, un, r, d, t⟩ := h
  ⟨dp, un, r, ⟨Nat.lt_of_le_of_lt (Nat.add_le_add_left hk _) d.1, Nat.lt_of_le_of_lt (Nat.add_le_add_left hu _) d.2⟩, t⟩
theorem FSpec.up {w : World} {fa : Addr} {own : Bool} {k u k' u' : Nat} {W : List PV → (PV → Prop) → Prop} (h : FSpec w fa own k u W) (hk : k ≤ k') (hu : u ≤ u') : FSpec w fa own k' u' W := by
  intro src h₀ L A m s S I R vs ps Post Q E f
  exact h src h₀ L A m s S I R vs ps Post Q E (f.up hk hu)

end --Q1
section --Q2
set_option genSizeOf false
set_option genSizeOfSpec false
set_option genInjectivity false
noncomputable section
/-! the small syntax, the given syntax it stands for, and what it means over pure values -/
inductive CE where
  | nil | cons (a r : CE)
  | loc (i p : Nat) | con (c : Const) (p : Nat) | neg (a : CE) (p : Nat)
  | bin (op : Operator) (a b : CE) (p : Nat) | cat (a b : CE) (p : Nat) | item (a : CE) (k p1 p2 : Nat) | lidx (i p1 : Nat) (e : CE) (p2 : Nat) | len (i p0 p1 p2 : Nat) | last1 (i p1 p2 p3 p4 p5 : Nat) | attr (i k p1 p2 : Nat)
  | callF (k p0 : Nat) (es : CE) (p1 : Nat) | callM (k i p0 p1 : Nat) (es : CE) (p2 : Nat)
  | cmp (op : CmpOp) (a b : CE) (p : Nat) | cmpL (ne : Bool) (a b : CE) (p : Nat) | chain (a b c : CE) (p : Nat) | isnt (a : CE) (p1 p2 : Nat) | bop (o : Bool) (a b : CE) (p : Nat) | not (a : CE) (p : Nat) | ite (c a b : CE) (p : Nat)
  | disp (t : Bool) (es : CE) (k p : Nat) | call1 (f p0 : Nat) (a : CE) (p : Nat) | range2 (p0 : Nat) (a b : CE) (p : Nat)
  | comp (src : CE) (xs : List Str) (p1 p2 k p3 : Nat) (caps : List Nat) (cond elt : CE) (sc : Scope) (p : Nat)
/-- the kinds: 0 a list of expressions, 1 a source of turns alone, 2 what may stand as a test, 3 a comprehension, 4 other values -/
noncomputable def CE.kd : CE → Nat
  | .nil => 0 | .cons .. => 0 | .range2 .. => 1 | .call1 f _ _ _ => if Nat.ble 2 f then 1 else 4
  | .loc .. => 2 | .callF .. => 2 | .callM .. => 2 | .cmp .. => 2 | .cmpL .. => 2 | .chain .. => 2 | .isnt .. => 2 | .bop .. => 2 | .not .. => 2
  | .comp .. => 3 | _ => 4
noncomputable def CE.isL (c : CE) : Bool := Nat.beq c.kd 0
noncomputable def CE.isVal (c : CE) : Bool := Nat.ble 2 c.kd
noncomputable def CE.isTest (c : CE) : Bool := Nat.beq c.kd 2
/-- may it give the turns for these targets -/
noncomputable def CE.okSrc (c : CE) (xs : List Str) : Bool := match c with
  | .call1 f _ _ _ => if Nat.beq f 2 then Nat.beq xs.length 1 else if Nat.ble f 1 then true else Nat.beq xs.length 2
  | .range2 .. => Nat.beq xs.length 1
  | _ => c.isVal
/-- the text's defs by number: the name, the address, does it draw, is it a method -/
structure GE where
  nm : Str
  fa : Addr
  own : Bool
  meth : Bool
/-- where a text stands: the variables by number, the scope -/
structure Cx where
  ns : List Str
  sc : Scope
  own : Bool
noncomputable def P (n : Nat) : Pos := ⟨n / 1000000000, n / 1000000 % 1000, n / 1000 % 1000 + n / 1000000000, n % 1000⟩
noncomputable def Cx.nm (cx : Cx) (i : Nat) : Str := cx.ns.getD i ""
def attrN : Nat → Str
  | 0 => "x1" | 1 => "y1" | 2 => "x2" | 3 => "y2" | _ => "way"
def fnN : Nat → Str
  | 0 => "sum" | 1 => "sorted" | 2 => "range" | _ => "enumerate"
noncomputable def relabelS (scope sc : Scope) : Scope :=
  { scope with names := scope.names.map fun (n, k) => if (k == .free && sc.kind == .function && sc.names.lookup n == some .cell) then (n, .cell) else (n, k) }
noncomputable def Cx.inner (cx : Cx) (xs : List Str) (caps : List Nat) (scope : Scope) : Cx := ⟨xs ++ caps.map cx.nm, relabelS scope cx.sc, false⟩
noncomputable def tgtE (xs : List Str) (p1 p2 k p3 : Nat) : PySem.Expr := match xs with | [x, y] => .Tuple [.Name x (P p1), .Name y (P p2)] k (P p3) | _ => .Name (xs.headD "") (P p1)
section
variable (G : List GE)
noncomputable def gnm (k : Nat) : Str := match G[k]? with | some g => g.nm | none => ""
mutual
noncomputable def ex : CE → Cx → PySem.Expr
  | .nil, _ => default
  | .cons .., _ => default
  | .loc i p, cx => .Name (cx.nm i) (P p)
  | .con c p, _ => .Constant c 0 (P p)
  | .neg a p, cx => .UnaryOp .USub (ex a cx) (P p)
  | .bin op a b p, cx => .BinOp (ex a cx) op (ex b cx) (P p)
  | .cat a b p, cx => .BinOp (ex a cx) .Add (ex b cx) (P p)
  | .item a k p1 p2, cx => .Subscript (ex a cx) (.Constant (.int k) 0 (P p1)) (P p2)
  | .lidx i p1 e p2, cx => .Subscript (.Name (cx.nm i) (P p1)) (ex e cx) (P p2)
  | .len i p0 p1 p2, cx => .Call (.Name "len" (P p0)) [.Name (cx.nm i) (P p1)] [] (P p2)
  | .last1 i p1 p2 p3 p4 p5, cx => .Subscript (.Name (cx.nm i) (P p1)) (.Slice (some (.UnaryOp .USub (.Constant (.int 1) 0 (P p2)) (P p3))) none none (P p4)) (P p5)
  | .attr i k p1 p2, cx => .Attribute (.Name (cx.nm i) (P p1)) (attrN k) (P p2)
  | .callF k p0 es p1, cx => .Call (.Name (gnm G k) (P p0)) (exs es cx) [] (P p1)
  | .callM k i p0 p1 es p2, cx => .Call (.Attribute (.Name (cx.nm i) (P p0)) (gnm G k) (P p1)) (exs es cx) [] (P p2)
  | .cmp op a b p, cx => .Compare (ex a cx) [op] [ex b cx] (P p)
  | .cmpL ne a b p, cx => .Compare (ex a cx) [if ne then .NotEq else .Eq] [ex b cx] (P p)
  | .chain a b c p, cx => .Compare (ex a cx) [.LtE, .Lt] [ex b cx, ex c cx] (P p)
  | .isnt a p1 p2, cx => .Compare (ex a cx) [.IsNot] [.Constant .none 0 (P p1)] (P p2)
  | .bop o a b p, cx => .BoolOp (if o then .Or else .And) [ex a cx, ex b cx] (P p)
  | .not a p, cx => .UnaryOp .Not (ex a cx) (P p)
  | .ite c a b p, cx => .IfExp (ex c cx) (ex a cx) (ex b cx) (P p)
  | .disp t es k p, cx => if t then .Tuple (exs es cx) k (P p) else .List (exs es cx) (P p)
  | .call1 f p0 a p, cx => .Call (.Name (fnN f) (P p0)) [ex a cx] [] (P p)
  | .range2 p0 a b p, cx => .Call (.Name "range" (P p0)) [ex a cx, ex b cx] [] (P p)
  | .comp src xs p1 p2 k p3 caps cond elt sc p, cx => .ListComp (ex elt (cx.inner xs caps sc)) [⟨tgtE xs p1 p2 k p3, ex src cx, if Nat.beq cond.kd 0 then [] else [ex cond (cx.inner xs caps sc)], 0⟩] sc (P p)
noncomputable def exs : CE → Cx → List PySem.Expr
  | .cons a r, cx => ex a cx :: exs r cx
  | _, _ => []
end
noncomputable def isGlob (cx : Cx) (g : Str) : Bool := cx.sc.names.lookup g == some .globalImplicit
/-- the comprehension's own scope: its targets, what it reads from outside -/
noncomputable def compSc (cx : Cx) (scope : Scope) (xs caps : List Str) : Bool :=
  scope.kind == .function && ((scope.names.all fun y => (y.2 == .local && scope.names.lookup y.1 == some .local) || ((y.2 == .free && caps.contains y.1) || (y.2 == .cell || y.2 == .globalImplicit))) &&
    (((scope.names.filter (·.2 == .cell) == [] && xs.all fun x => scope.names.lookup x == some .local) || (match xs with | [x] => scope.names.filter (·.2 == .cell) == [(x, .cell)] && scope.names.lookup x == some .cell | _ => false)) &&
    ((caps.all fun x => scope.names.lookup x == some .free && cx.sc.names.lookup x == some .cell) && ((xs.all fun x => !(x == ("__debug__" : Str))) && decide (xs ++ caps).Nodup))))
/-- the small syntax is well laid -/
noncomputable def ck : CE → Cx → Bool
  | .cons a r, cx => a.isVal && (r.isL && (ck a cx && ck r cx))
  | .neg a _, cx => a.isVal && ck a cx
  | .bin _ a b _, cx => (a.isVal && ck a cx) && (b.isVal && ck b cx)
  | .cat a b _, cx => (a.isVal && ck a cx) && (b.isVal && ck b cx)
  | .item a k _ _, cx => (a.isVal && ck a cx) && Nat.ble k 1000
  | .lidx _ _ e _, cx => e.isVal && ck e cx
  | .len .., cx => isGlob cx "len"
  | .attr _ k _ _, _ => Nat.ble k 4
  | .callF k _ es _, cx => (match G[k]? with | some g => isGlob cx g.nm && ((!g.own || cx.own) && !g.meth) | none => false) && (es.isL && ck es cx)
  | .callM k _ _ p1 es p2, cx => (match G[k]? with | some g => !g.own && g.meth | none => false) && (((P p1).endLine == (P p2).line && Nat.ble (exs G es cx).length 20) && (es.isL && ck es cx))
  | .cmp _ a b _, cx => (a.isVal && ck a cx) && (b.isVal && ck b cx)
  | .cmpL _ a b _, cx => (a.isVal && ck a cx) && (b.isVal && ck b cx)
  | .chain a b c _, cx => (a.isVal && ck a cx) && ((b.isVal && ck b cx) && (c.isVal && ck c cx))
  | .isnt a _ _, cx => a.isVal && ck a cx
  | .bop _ a b _, cx => (a.isTest && ck a cx) && (b.isTest && ck b cx)
  | .not a _, cx => a.isTest && ck a cx
  | .ite c a b _, cx => (c.isTest && ck c cx) && ((a.isVal && ck a cx) && (b.isVal && ck b cx))
  | .disp _ es _ _, cx => es.isL && ck es cx
  | .call1 f _ a _, cx => isGlob cx (fnN f) && (a.isVal && ck a cx)
  | .range2 _ a b _, cx => isGlob cx "range" && ((a.isVal && ck a cx) && (b.isVal && ck b cx))
  | .comp src xs _ _ _ _ caps cond elt sc _, cx => (caps.all fun i => Nat.blt i cx.ns.length) && (compSc cx sc xs (caps.map cx.nm) && ((src.okSrc xs && ck src cx) && (((Nat.beq cond.kd 0 || cond.isTest) && ck cond (cx.inner xs caps sc)) && (elt.isVal && ck elt (cx.inner xs caps sc)))))
  | _, _ => true
end

noncomputable def boolV (v : List PV) (k : Bool → Prop) : Prop := match v with | [.bool b] => k b | _ => False
noncomputable def intV (v : List PV) (k : Int → Prop) : Prop := match v with | [.int i] => k i | _ => False
noncomputable def lstV (v : List PV) (k : List PV → Prop) : Prop := match v with | [.lst l] => k l | _ => False
noncomputable def tupV (v : List PV) (k : List PV → Prop) : Prop := match v with | [.tup l] => k l | _ => False
noncomputable def oneV (v : List PV) (k : PV → Prop) : Prop := match v with | [p] => k p | _ => False
noncomputable def MulOk (x y : Int) : Prop := (-9223372036854775807 ≤ x ∧ x ≤ 9223372036854775807) ∨ (-9223372036854775807 ≤ y ∧ y ≤ 9223372036854775807)
noncomputable def opV (op : Operator) (a b : Int) (k : Int → Prop) : Prop := match op with
  | .Add => k (a + b)
  | .Sub => k (a - b)
  | .Mult => MulOk a b ∧ k (a * b)
  | .FloorDiv => (0 < b ∧ b ≤ 1000) ∧ k (a.fdiv b)
  | .Mod => 0 < b ∧ k (a.fmod b)
  | _ => False
noncomputable def catV (x y : List PV) (k : PV → Prop) : Prop := match x, y with
  | [.tup a], [.tup b] => a.length + b.length ≤ 100 ∧ k (.tup (a ++ b))
  | [.lst a], [.lst b] => a.length + b.length ≤ 100 ∧ k (.lst (a ++ b))
  | _, _ => False
/-- ints, tuples and lists of such -/
noncomputable def PV.flat : Nat → PV → Bool
  | _, .int _ => true
  | n + 1, .tup l => l.all (PV.flat n)
  | n + 1, .lst l => l.all (PV.flat n)
  | _, _ => false
noncomputable def cmpV (op : CmpOp) (a b : Int) (k : Bool → Prop) : Prop := match op with
  | .Lt => k (decide (a < b))
  | .LtE => k (decide (a ≤ b))
  | .Gt => k (decide (b < a))
  | .Eq => k (a == b)
  | .NotEq => k (a != b)
  | _ => False
noncomputable def eqV (ne : Bool) (a b : List PV) (k : Bool → Prop) : Prop := (a.all (PV.flat 7) = true ∧ b.all (PV.flat 7) = true) ∧ (a = b → k !ne) ∧ (a ≠ b → k ne)
noncomputable def attrV (r : Row) : Nat → Int
  | 0 => r.x1 | 1 => r.y1 | 2 => r.x2 | 3 => r.y2 | _ => r.way
noncomputable def locV (loc : List PV) (i : Nat) (Q : PV → List PV → Prop) : Prop := match loc[i]? with | none => False | some .unb => False | some (.acc l) => Q (.lst l) (loc.set i (.lst l)) | some p => Q p loc
noncomputable def varL (loc : List PV) (i : Nat) (k : List PV → Prop) : Prop := match loc[i]? with | some (.lst l) => k l | some (.acc l) => k l | _ => False
noncomputable def accL (loc : List PV) (i : Nat) (k : List PV → Prop) : Prop := match loc[i]? with | some (.acc l) => k l | _ => False
noncomputable def sideL (loc : List PV) (i : Nat) (k : Row → Prop) : Prop := match loc[i]? with | some (.side r) => k r | _ => False
noncomputable def itemV (ps : List PV) (k : Nat) (K : PV → Prop) : Prop := match ps[k]? with | some p => K p | none => False
noncomputable def isntV (v : List PV) (k : Bool → Prop) : Prop := match v with | [.none] => k false | [.side _] => k true | _ => False
noncomputable def idxV (l : List PV) (j : Int) (k : PV → Prop) : Prop :=
  l.length ≤ 1000 ∧ ∃ p, (0 ≤ j ∧ l[j.toNat]? = some p ∨ j < 0 ∧ -(l.length : Int) ≤ j ∧ l[(j + l.length).toNat]? = some p) ∧ k p
noncomputable def lidxV (loc : List PV) (i : Nat) (K : (List PV → (List PV → Prop) → Prop) → Prop) : Prop := match loc[i]? with
  | some (.lst ps) => K fun _ k => k ps
  | some (.acc _) => K fun l k => varL l i k
  | _ => False
noncomputable def sumV (x : List PV) (k : PV → Prop) : Prop := ∃ ns : List Int, x = ns.map .int ∧ k (.int ns.sum)
/-- a pair whose second is a small number, as one number -/
noncomputable def rank (a : Int × Int) : Int := a.1 * 64 + a.2
noncomputable def pairV (a : Int × Int) : PV := .tup [.int a.1, .int a.2]
noncomputable def sortV (x : List PV) (k : PV → Prop) : Prop := ∃ l : List (Int × Int), x = l.map pairV ∧ l.length < 64 ∧ (∀ p ∈ l, 0 ≤ p.2 ∧ p.2 < 64) ∧ (∀ i j, i < j → j < l.length → rank (l.getD i (0, 0)) ≠ rank (l.getD j (0, 0))) ∧ ∀ l' : List (Int × Int), List.Perm l' l → List.Pairwise (fun a b => rank a < rank b) l' → k (.lst (List.map pairV l'))
noncomputable def rangeL (a b : Int) : List PV := (List.range (b - a).toNat).map fun (j : Nat) => .int (a + (j : Int))
noncomputable def enumL (l : List PV) : List PV := l.mapIdx fun i p => .tup [.int (i : Int), p]
noncomputable def fnV (f : Nat) (v : List PV) (k : PV → Prop) : Prop := match f with
  | 0 => lstV v fun ps => sumV ps k
  | 1 => lstV v fun ps => sortV ps k
  | 2 => intV v fun n => (-1000 ≤ n ∧ n ≤ 1000) ∧ k (.lst (rangeL 0 n))
  | _ => lstV v fun ps => k (.lst (enumL ps))
noncomputable def conV (c : Const) (k : PV → Prop) : Prop := match c with | .int n => k (.int n) | .bool b => k (.bool b) | .none => k .none | _ => False
/-- a comprehension's turns -/
noncomputable def compL (turn : PV → (Option PV → Prop) → Prop) : List PV → List PV → (List PV → Prop) → Prop
  | [], ys, Q => Q ys
  | p :: r, ys, Q => turn p fun o => compL turn r (ys ++ o.toList) Q
noncomputable def tgtV (xs : List Str) (p : PV) (k : List PV → Prop) : Prop := match xs, p with | [_], p => k [p] | [_, _], .tup [a, b] => k [a, b] | _, _ => False
noncomputable def capV (loc : List PV) : List Nat → (List PV → Prop) → Prop
  | [], k => k []
  | i :: r, k => match loc[i]? with | none => False | some .unb => False | some (.acc _) => False | some p => capV loc r fun l => k (p :: l)
noncomputable def condV (c : CE) (W : (List PV → List PV → Prop) → Prop) (k : Bool → Prop) : Prop := if Nat.beq c.kd 0 then k true else W fun v _ => boolV v k
noncomputable def compT (xs : List Str) (cond : CE) (wc we : List PV → (List PV → List PV → Prop) → Prop) (cs : List PV) (p : PV) (K : Option PV → Prop) : Prop :=
  tgtV xs p fun ts => condV cond (wc (ts ++ cs)) fun ok => if ok then we (ts ++ cs) fun y _ => oneV y fun y => K (some y) else K none
section
variable (WT : Nat → List PV → (PV → Prop) → Prop)
noncomputable def wp : CE → List PV → (List PV → List PV → Prop) → Prop
  | .nil, loc, Q => Q [] loc
  | .cons a r, loc, Q => wp a loc fun va l1 => wp r l1 fun vr l2 => Q (va ++ vr) l2
  | .loc i _, loc, Q => locV loc i fun p l => Q [p] l
  | .con c _, loc, Q => conV c fun p => Q [p] loc
  | .neg a _, loc, Q => wp a loc fun v l => intV v fun i => Q [.int (-i)] l
  | .bin op a b _, loc, Q => wp a loc fun va l1 => wp b l1 fun vb l2 => intV va fun x => intV vb fun y => opV op x y fun z => Q [.int z] l2
  | .cat a b _, loc, Q => wp a loc fun va l1 => wp b l1 fun vb l2 => catV va vb fun p => Q [p] l2
  | .item a k _ _, loc, Q => wp a loc fun v l => tupV v fun ps => itemV ps k fun p => Q [p] l
  | .lidx i _ e _, loc, Q => lidxV loc i fun K => wp e loc fun v l => intV v fun j => K l fun ps => idxV ps j fun p => Q [p] l
  | .len i _ _ _, loc, Q => varL loc i fun ps => ps.length ≤ 1000 ∧ Q [.int ps.length] loc
  | .last1 i _ _ _ _ _, loc, Q => varL loc i fun ps => ps.length ≤ 1000 ∧ Q [.lst (ps.drop (ps.length - 1))] loc
  | .attr i k _ _, loc, Q => sideL loc i fun r => Q [.int (attrV r k)] loc
  | .callF k _ es _, loc, Q => wp es loc fun vs l => WT k vs fun p => Q [p] l
  | .callM k i _ _ es _, loc, Q => sideL loc i fun r => wp es loc fun vs l' => WT k (.side r :: vs) fun p => Q [p] l'
  | .cmp op a b _, loc, Q => wp a loc fun va l1 => wp b l1 fun vb l2 => intV va fun x => intV vb fun y => cmpV op x y fun z => Q [.bool z] l2
  | .cmpL ne a b _, loc, Q => wp a loc fun va l1 => wp b l1 fun vb l2 => lstV va fun x => lstV vb fun y => eqV ne x y fun z => Q [.bool z] l2
  | .chain a b c _, loc, Q => wp a loc fun va l1 => wp b l1 fun vb l2 => intV va fun x => intV vb fun y => if x ≤ y then wp c l2 fun vc l3 => intV vc fun z => Q [.bool (decide (y < z))] l3 else Q [.bool false] l2
  | .isnt a _ _, loc, Q => wp a loc fun v l => isntV v fun b => Q [.bool b] l
  | .bop o a b _, loc, Q => wp a loc fun v l => boolV v fun x => if x = o then Q [.bool o] l else wp b l fun v2 l2 => boolV v2 fun y => Q [.bool y] l2
  | .not a _, loc, Q => wp a loc fun v l => boolV v fun x => Q [.bool !x] l
  | .ite c a b _, loc, Q => wp c loc fun v l => boolV v fun x => if x then wp a l Q else wp b l Q
  | .disp t es _ _, loc, Q => wp es loc fun vs l => vs.length ≤ 100 ∧ Q [if t then .tup vs else .lst vs] l
  | .call1 f _ a _, loc, Q => wp a loc fun v l => fnV f v fun p => Q [p] l
  | .range2 _ a b _, loc, Q => wp a loc fun v l1 => wp b l1 fun v2 l2 => intV v fun x => intV v2 fun y => (-1000 ≤ x ∧ x ≤ 1000 ∧ -1000 ≤ y ∧ y ≤ 1000) ∧ Q [.lst (rangeL x y)] l2
  | .comp src xs _ _ _ _ caps cond elt _ _, loc, Q => wp src loc fun v l1 => lstV v fun items => items.length ≤ 1000 ∧ capV l1 caps fun cs =>
      compL (compT xs cond (wp cond) (wp elt) cs) items [] fun ys => Q [.lst ys] l1
end
end

end --Q2
section --Q3
theorem fill_Q3 : (fun (_ : OpenLaw) (_ : Params → Frag) => True) PySem.Challenge.rw_pf0186_01 hd.heap_1 := by k_fill; trivial
structure Kx where
  cx : Cx
  env : Env
  src : Addr
  R : Led
  h₀ : Heap
  L : Addr
  A : Around
  m : Str → Option Value
/-- the state of a frame's variables -/
noncomputable def Kx.St (w : World) (X : Kx) (h : Heap) (loc : List PV) (I : Led) : Prop :=
  Fr X.h₀ X.L h X.m ∧ ∃ M S, LR w X.src X.env X.L I X.R X.m X.cx.ns loc M ∧ SrcL X.src X.cx.own S ∧ LedOk X.h₀ X.L h (M ++ (S ++ (I ++ X.R)))
structure Kx.Ok (w : World) (X : Kx) (kb ub : Nat) : Prop where
  sc : X.env.scope = X.cx.sc
  gl : X.env.globals = mainGlobals ∧ X.env.builtins = builtinsNs
  kd : X.cx.sc.kind = .function
  nd : X.cx.ns.Nodup ∧ ∀ x ∈ X.cx.ns, (x == ("__debug__" : Str)) = false
  fc : Fc w X.h₀ X.L kb (ub + 64) X.A
abbrev Kx.Sub (I I' : Led) : Prop := ∀ q ∈ I, q ∈ I'
noncomputable def Kx.Ans (w : World) (X : Kx) (Post : List PV → List PV → Prop) (Q : Value → Shared → Prop) (s : Shared) (I : Led) : Prop :=
  ∀ v p loc' h' tk' I', (∀ q ∈ I, q ∈ I') → Post [p] loc' → VR w X.src I' v p → X.St w h' loc' I' → Q v { s with heap := h', toks := tk' }
noncomputable def NameIs (w : World) (env : Env) (h : Heap) (x : Str) (v : Value) : Prop :=
  ∀ (A : Around) (E Q : Value → Shared → Prop) (s : Shared) (pos : Pos), s.heap = h → Q v s → wpAny (model pg w) A (eval (.Name x pos) env) Q E s
section
variable {w : World} {src : Addr} {I : Led} {v : Value} {p : PV}
theorem intV_vr {k : Int → Prop} (r : VR w src I v p) (h : intV [p] k) : ∃ i t, v = .int i t ∧ p = .int i ∧ k i := by
  cases r <;> first | exact h.elim | exact ⟨_, _, rfl, rfl, h⟩
theorem boolV_vr {k : Bool → Prop} (r : VR w src I v p) (h : boolV [p] k) : ∃ b, v = .bool b ∧ p = .bool b ∧ k b := by
  cases r <;> first | exact h.elim | exact ⟨_, rfl, rfl, h⟩
theorem lstV_vr {k : List PV → Prop} (r : VR w src I v p) (h : lstV [p] k) : ∃ a vs n ps, v = .ref a ∧ p = .lst ps ∧ (a, lisO vs n) ∈ I ∧ VRs w src I vs ps ∧ k ps := by
  cases r <;> first | exact h.elim | exact ⟨_, _, _, _, rfl, rfl, by assumption, ⟨by assumption, by assumption⟩, h⟩
theorem tupV_vr {k : List PV → Prop} (r : VR w src I v p) (h : tupV [p] k) : ∃ a vs n ps, v = .ref a ∧ p = .tup ps ∧ (a, tupO vs n) ∈ I ∧ VRs w src I vs ps ∧ k ps := by
  cases r <;> first | exact h.elim | exact ⟨_, _, _, _, rfl, rfl, by assumption, ⟨by assumption, by assumption⟩, h⟩
theorem isntV_vr {k : Bool → Prop} (r : VR w src I v p) (h : isntV [p] k) : (v = .none ∧ k false) ∨ (∃ a, v = .ref a ∧ k true) := by
  cases r <;> first | exact h.elim | exact .inl ⟨rfl, h⟩ | skip
  rename_i hs
  obtain ⟨x, dx, k1, k2, k3, k4, k5, t1, t2, t3, t4, t5, e, M1, M2⟩ := hs
  exact .inr ⟨x, e, h⟩
end
theorem band {a b : Bool} (h : (a && b) = true) : a = true ∧ b = true := Bool.and_eq_true_iff.mp h
theorem lc {k : Option NameKind} (h : k = some .cell) (h' : k = some .local) : False := nomatch h.symm.trans h'
section
variable {w : World} {src : Addr} {env : Env} {L : Addr} {I R M : Led} {m : Str → Option Value} {ns : List Str} {ps : List PV}
theorem BR.cellM {x : Str} {p : PV} (a : BR w src env L I R m x p M) (hk : env.kindOf x = some .cell) : ∃ c o, env.cells.lookup x = some c ∧ (c, o) ∈ M ++ R := by
  cases a with
  | unC _ b _ => exact ⟨_, _, b, .head _⟩
  | ce _ b _ => exact ⟨_, _, b, .head _⟩
  | roC _ b c => exact ⟨_, _, b, c⟩
  | unF a => exact (lc hk a).elim
  | fr a => exact (lc hk a).elim
  | ac a => exact (lc hk a).elim
  | roN a => exact (lc hk a).elim
theorem LR.cellM (h : LR w src env L I R m ns ps M) : ∀ {x : Str}, x ∈ ns → env.kindOf x = some .cell → ∃ c o, env.cells.lookup x = some c ∧ (c, o) ∈ M ++ R := by
  induction h with
  | nil => exact fun hx => nomatch hx
  | cons a _ ih =>
    intro x hx hk
    rw [List.append_assoc]
    cases hx with
    | head =>
      obtain ⟨c, o, e, hm⟩ := a.cellM hk
      exact ⟨c, o, e, (List.mem_append.mp hm).elim (List.mem_append_left _) fun h => List.mem_append_right _ (List.mem_append_right _ h)⟩
    | tail _ hx =>
      obtain ⟨c, o, e, hm⟩ := ih hx hk
      exact ⟨c, o, e, List.mem_append_right _ hm⟩
end
section
variable {w : World} {src : Addr} {env : Env} {L : Addr} {I R M1 : Led} {m : Str → Option Value} {x : Str} {p : PV} {h₀ h : Heap}
theorem BR.val (b : BR w src env L I R m x p M1) (hk : env.scope.kind = .function) (hd : (x == ("__debug__" : Str)) = false) (F : Fr h₀ L h m) (N : ∀ q ∈ M1 ++ R, h.get? q.1 = some q.2) (h1 : p ≠ .unb) (h2 : ∀ l, p ≠ .acc l) : ∃ v, VR w src I v p ∧ NameIs w env h x v := by
  cases b with
  | unF _ _ => exact (h1 rfl).elim
  | unC _ _ _ => exact (h1 rfl).elim
  | fr a b c d => exact ⟨_, d, fun A E Q s pos e q => by subst e; exact wpAny_Name (wpAny_loadName_local hk a (b ▸ F.ns) c q) hd⟩
  | ce a b c d => exact ⟨_, d, fun A E Q s pos e q => by subst e; exact wpAny_Name (wpAny_loadName_cell hk a b ⟨_, N _ (.head _), c⟩ q) hd⟩
  | ac a b c d => exact (h2 _ rfl).elim
  | roN a b c d e => exact ⟨_, e, fun A E Q s pos e q => by subst e; exact wpAny_Name (wpAny_loadName_local hk a (c.ns (N _ (List.mem_append_right _ b))) d q) hd⟩
  | roC a b c d e => exact ⟨_, e, fun A E Q s pos e q => by subst e; exact wpAny_Name (wpAny_loadName_cell hk a b ⟨_, N _ (List.mem_append_right _ c), d⟩ q) hd⟩
theorem BR.acc {ps : List PV} (b : BR w src env L I R m x (.acc ps) M1) (hk : env.scope.kind = .function) (hd : (x == ("__debug__" : Str)) = false) (F : Fr h₀ L h m) :
    ∃ a vs n, M1 = [(a, lisO vs n)] ∧ VRs w src I vs ps ∧ NameIs w env h x (.ref a) ∧ (env.kindOf x = some .local ∧ env.locals = L ∧ m x = some (.ref a)) := by
  cases b with
  | ac a b c d => exact ⟨_, _, _, rfl, d, (fun A E Q s pos e q => by subst e; exact wpAny_Name (wpAny_loadName_local hk a (b ▸ F.ns) c q) hd), a, b, c⟩
  | fr _ _ _ d => cases d
  | ce _ _ _ d => cases d
  | roN _ _ _ _ d => cases d
  | roC _ _ _ _ d => cases d
end
section
variable {w : World} {X : Kx} {kb ub i : Nat} {s : Shared} {h : Heap} {loc : List PV} {I : Led} {p : PV} {x : Str}
theorem set_same {l : List PV} {i : Nat} {p : PV} (h : l[i]? = some p) : l.set i p = l := by
  induction l generalizing i with
  | nil => cases h
  | cons a r ih =>
    cases i with
    | zero => cases h; rfl
    | succ i => exact congrArg (a :: ·) (ih h)
theorem mem4 {A B C D : Led} {q : Addr × Obj} (h : q ∈ D) : q ∈ A ++ (B ++ (C ++ D)) := List.mem_append_right _ (List.mem_append_right _ (List.mem_append_right _ h))
theorem mem3 {A B C D : Led} {q : Addr × Obj} (h : q ∈ C) : q ∈ A ++ (B ++ (C ++ D)) := List.mem_append_right _ (List.mem_append_right _ (List.mem_append_left _ h))
/-- one variable out of the state, and back with another value -/
noncomputable def Kx.Back (w : World) (X : Kx) (loc : List PV) (I : Led) (i : Nat) (x : Str) (M0 : Led) : Prop :=
  ∀ h' I' m' p' M1' Sx', (∀ q ∈ I, q ∈ I') → (∀ y, y ≠ x → m' y = X.m y) → BR w X.src X.env X.L I' X.R m' x p' M1' → Fr X.h₀ X.L h' m' → SrcL X.src X.cx.own Sx' →
    LedOk X.h₀ X.L h' (M1' ++ (M0 ++ (Sx' ++ (I' ++ X.R)))) → ({ X with m := m' } : Kx).St w h' (loc.set i p') I'
theorem Kx.St.var (ok : X.Ok w kb ub) (S : X.St w h loc I) (hp : loc[i]? = some p) :
    ∃ x M1 M0 Sx, X.cx.nm i = x ∧ (x == ("__debug__" : Str)) = false ∧ SrcL X.src X.cx.own Sx ∧ BR w X.src X.env X.L I X.R X.m x p M1 ∧ LedOk X.h₀ X.L h (M1 ++ (M0 ++ (Sx ++ (I ++ X.R)))) ∧ X.Back w loc I i x M0 := by
  obtain ⟨F, M, Sx, lr, hs, lo⟩ := S
  obtain ⟨x, M1, M0, hx, pm, b, k⟩ := lr.lens ok.nd.1 hp
  refine ⟨x, M1, M0, Sx, by unfold Cx.nm; rw [List.getD_eq_getElem?_getD, hx]; rfl, ok.nd.2 x (List.mem_of_getElem? hx), hs, b, lo.perm ?_, fun h' I' m' p' M1' Sx' hI hm b' F' hs' lo' => ?_⟩
  · rw [← List.append_assoc]
    exact pm.symm.append_right _
  · obtain ⟨M', pm', lr'⟩ := k I' m' p' M1' hI hm b'
    refine ⟨F', M', Sx', lr', hs', lo'.perm ?_⟩
    rw [← List.append_assoc M1']
    exact pm'.append_right _
theorem Kx.Ok.fn (ok : X.Ok w kb ub) : X.env.scope.kind = .function := by rw [ok.sc]; exact ok.kd
/-- a plain variable's value -/
theorem Kx.St.val (ok : X.Ok w kb ub) (S : X.St w h loc I) (hp : loc[i]? = some p) (h1 : p ≠ .unb) (h2 : ∀ l, p ≠ .acc l) : ∃ v, VR w X.src I v p ∧ NameIs w X.env h (X.cx.nm i) v := by
  obtain ⟨x, M1, M0, Sx, e, hd, hs, b, lo, k⟩ := S.var ok hp
  rw [e]
  refine b.val ok.fn hd S.1 (fun q hq => (lo.1 q ?_).1) h1 h2
  exact (List.mem_append.mp hq).elim (List.mem_append_left _) fun hq => List.mem_append_right _ (mem4 hq)
theorem perm1 {M0 Sx I R : Led} {q : Addr × Obj} : (M0 ++ (Sx ++ ((q :: I) ++ R))).Perm (q :: (M0 ++ (Sx ++ (I ++ R)))) := (List.Perm.append_left M0 List.perm_middle).trans List.perm_middle
/-- a growing list's variable -/
theorem Kx.St.acc {ps : List PV} (ok : X.Ok w kb ub) (S : X.St w h loc I) (hp : loc[i]? = some (.acc ps)) : ∃ a vs n M0 Sx, VRs w X.src I vs ps ∧ NameIs w X.env h (X.cx.nm i) (.ref a) ∧ (X.env.kindOf (X.cx.nm i) = some .local ∧ X.env.locals = X.L ∧ X.m (X.cx.nm i) = some (.ref a)) ∧
    SrcL X.src X.cx.own Sx ∧ LedOk X.h₀ X.L h ((a, lisO vs n) :: (M0 ++ (Sx ++ (I ++ X.R)))) ∧ X.Back w loc I i (X.cx.nm i) M0 := by
  obtain ⟨x, M1, M0, Sx, e, hd, hs, b, lo, k⟩ := S.var ok hp
  obtain ⟨a, vs, n, rfl, r, nm, kk⟩ := b.acc ok.fn hd S.1
  rw [e]
  exact ⟨a, vs, n, M0, Sx, r, nm, kk, hs, lo, k⟩
/-- .. laid to rest -/
theorem Kx.St.rest {ps : List PV} (ok : X.Ok w kb ub) (S : X.St w h loc I) (hp : loc[i]? = some (.acc ps)) : ∃ a I', (∀ q ∈ I, q ∈ I') ∧ VR w X.src I' (.ref a) (.lst ps) ∧ NameIs w X.env h (X.cx.nm i) (.ref a) ∧ X.St w h (loc.set i (.lst ps)) I' := by
  obtain ⟨a, vs, n, M0, Sx, r, nm, kk, hs, lo, k⟩ := S.acc ok hp
  have sub : ∀ q ∈ I, q ∈ (a, lisO vs n) :: I := fun q hq => .tail _ hq
  have rr : VR w X.src ((a, lisO vs n) :: I) (.ref a) (.lst ps) := .lstL (.head _) (r.mono sub)
  exact ⟨a, _, sub, rr, nm, k h _ X.m _ [] Sx sub (fun _ _ => rfl) (.fr kk.1 kk.2.1 kk.2.2 rr) S.1 hs (lo.perm perm1)⟩
/-- what the state lends to the rules that read or make -/
theorem Kx.St.led (S : X.St w h loc I) : ∃ T, News X.h₀ X.L h T ∧ (∀ q ∈ I, q ∈ T) ∧ (∀ h' D o, Fr X.h₀ X.L h' X.m → News X.h₀ X.L h' ((D, o) :: T) → (∀ p ∈ T, p.1 < D) → X.St w h' loc ((D, o) :: I)) ∧
    (∀ h', Fr X.h₀ X.L h' X.m → News X.h₀ X.L h' T → X.St w h' loc I) := by
  obtain ⟨F, M, Sx, lr, hs, lo⟩ := S
  exact ⟨_, lo.1, fun q hq => mem3 hq, fun h' D o F' N' lt => ⟨F', M, Sx, lr.mono (fun q hq => .tail _ hq) fun _ _ => rfl, hs, (lo.new N' lt).perm perm1⟩, fun h' F' N' => ⟨F', M, Sx, lr, hs, lo.same N'⟩⟩
/-- a list held by a variable: where it lies -/
theorem list_at (ok : X.Ok w kb ub) (S : X.St w h loc I) {k : List PV → Prop} (hw : varL loc i k) :
    ∃ l vs n ps, NameIs w X.env h (X.cx.nm i) (.ref l) ∧ VRs w X.src I vs ps ∧ k ps ∧ ∃ T, News X.h₀ X.L h T ∧ (l, lisO vs n) ∈ T ∧ (∀ h' D o, Fr X.h₀ X.L h' X.m → News X.h₀ X.L h' ((D, o) :: T) → (∀ p ∈ T, p.1 < D) → X.St w h' loc ((D, o) :: I)) := by
  unfold varL at hw
  split at hw
  · rename_i ps hp
    obtain ⟨v, r, nm⟩ := S.val ok hp (fun h => nomatch h) (fun _ h => nomatch h)
    obtain ⟨T, N, sub, put, _⟩ := S.led
    cases r with
    | lst hm e rr => exact ⟨_, _, _, ps, nm, ⟨e, rr⟩, hw, T, N, sub _ hm, put⟩
  · rename_i ps hp
    obtain ⟨a, vs, n, M0, Sx, r, nm, kk, hs, lo, k⟩ := S.acc ok hp
    refine ⟨a, vs, n, ps, nm, r, hw, _, lo.1, .head _, fun h' D o F' N' lt => ?_⟩
    have sub : ∀ q ∈ I, q ∈ (D, o) :: I := fun q hq => .tail _ hq
    have := k h' ((D, o) :: I) X.m (.acc ps) [(a, lisO vs n)] Sx sub (fun _ _ => rfl) (.ac kk.1 kk.2.1 kk.2.2 (r.mono sub)) F' hs ((lo.new N' lt).perm ((List.Perm.append_left _ perm1).trans List.perm_middle))
    rw [set_same hp] at this
    exact this
  · exact hw.elim
/-- .. and later: the same place -/
theorem list_again (ok : X.Ok w kb ub) (S : X.St w h loc I) {k : List PV → Prop} (hw : varL loc i k) {l : Addr} (kk : X.env.kindOf (X.cx.nm i) = some .local ∧ X.env.locals = X.L ∧ X.m (X.cx.nm i) = some (.ref l)) :
    ∃ vs n ps, VRs w X.src I vs ps ∧ k ps ∧ ∃ T, News X.h₀ X.L h T ∧ (l, lisO vs n) ∈ T := by
  unfold varL at hw
  split at hw
  · rename_i ps hp
    obtain ⟨x, M1, M0, Sx, e, hd, hs, b, lo, _⟩ := S.var ok hp
    rw [e] at kk
    cases b with
    | fr a b c d =>
      cases Option.some.inj (kk.2.2.symm.trans c)
      cases d with
      | lst hm e rr => exact ⟨_, _, ps, ⟨e, rr⟩, hw, _, lo.1, List.mem_append_right _ (mem3 hm)⟩
    | ce a => exact (lc a kk.1).elim
    | roN a b => exact absurd kk.2.1 (lo.1 _ (List.mem_append_right _ (mem4 b))).2.1
    | roC a => exact (lc a kk.1).elim
  · rename_i ps hp
    obtain ⟨a, vs, n, M0, Sx, r, nm, k2, hs, lo, _⟩ := S.acc ok hp
    cases kk.2.2.symm.trans k2.2.2
    exact ⟨vs, n, ps, r, hw, _, lo.1, .head _⟩
  · exact hw.elim
theorem side_at (ok : X.Ok w kb ub) (S : X.St w h loc I) {k : Row → Prop} (hw : sideL loc i k) : ∃ r v, k r ∧ NameIs w X.env h (X.cx.nm i) v ∧ SideIn w I v r := by
  unfold sideL at hw
  split at hw
  · rename_i r hp
    obtain ⟨v, rr, nm⟩ := S.val ok hp (fun h => nomatch h) (fun _ h => nomatch h)
    cases rr with
    | side hs => exact ⟨r, v, hw, nm, hs⟩
  · exact hw.elim
end

end --Q3
section --Q4
noncomputable def GOk (w : World) (WT : Nat → List PV → (PV → Prop) → Prop) (G : List GE) (kb ub : Nat) : Prop :=
  ∀ k g, G[k]? = some g → (g.nm == ("__debug__" : Str)) = false ∧ (g.meth = false → nsIn (hd.heap_1 w.params) mainGlobals g.nm = some (some (.ref g.fa))) ∧
    (g.meth = true → (plainGet (hd.heap_1 w.params) 134 g.nm = true ∧ findIn (hd.heap_1 w.params) (.ref 134) g.nm = some (some (.ref g.fa)) ∧ isFn (hd.heap_1 w.params) (.ref g.fa) = true) ∧ (∀ j, (attrN j == g.nm) = false)) ∧
    keepIn (hd.heap_1 w.params) (.ref g.fa) = true ∧ FSpec w g.fa g.own kb ub (WT k)
section
variable (w : World) (WT : Nat → List PV → (PV → Prop) → Prop) (G : List GE) (kb ub : Nat)
noncomputable def SE (c : CE) : Prop := ∀ (X : Kx) (s : Shared) (I : Led) (loc : List PV) (Post : List PV → List PV → Prop) (Q E : Value → Shared → Prop), X.Ok w kb ub → c.isVal = true → ck G c X.cx = true → X.St w s.heap loc I → wp WT c loc Post →
  X.Ans w Post Q s I → wpAny (model pg w) X.A (eval (ex G c X.cx) X.env) Q E s
noncomputable def SL (c : CE) : Prop := ∀ (X : Kx) (pos : Pos) (s : Shared) (I : Led) (loc : List PV) (Post : List PV → List PV → Prop) (Q : List Value → Shared → Prop) (E : Value → Shared → Prop), X.Ok w kb ub → c.isL = true → ck G c X.cx = true →
  X.St w s.heap loc I → wp WT c loc Post → (∀ vs ps loc' h' tk' I', (∀ q ∈ I, q ∈ I') → Post ps loc' → VRs w X.src I' vs ps → X.St w h' loc' I' → Q vs { s with heap := h', toks := tk' }) → wpAny (model pg w) X.A (spliced (backTo pos (starEach (exs G c X.cx) X.env))) Q E s
noncomputable def SB (c : CE) : Prop := ∀ (X : Kx) (s : Shared) (I : Led) (loc : List PV) (Post : Bool → List PV → Prop) (Q : Bool → Shared → Prop) (E : Value → Shared → Prop), X.Ok w kb ub → c.isTest = true → ck G c X.cx = true → X.St w s.heap loc I →
  wp WT c loc (fun v l => boolV v fun b => Post b l) → (∀ b loc' h' tk' I', (∀ q ∈ I, q ∈ I') → Post b loc' → X.St w h' loc' I' → Q b { s with heap := h', toks := tk' }) → wpAny (model pg w) X.A (isTrue (ex G c X.cx) X.env (eval (ex G c X.cx) X.env)) Q E s
end
noncomputable def isStar (e : PySem.Expr) : Bool := match e with | .Starred .. => true | _ => false
noncomputable def isSetE (e : PySem.Expr) : Bool := match e with | .Set .. => true | _ => false
noncomputable def isSliceE (e : PySem.Expr) : Bool := match e with | .Slice .. => true | _ => false
theorem starEach_plain {e : PySem.Expr} {es : List PySem.Expr} {env : Env} (h : isStar e = false) : starEach (e :: es) env = (false, eval e env) :: starEach es env := by
  cases e <;> first | rfl | cases h
theorem marks_plain {op : CmpOp} {e : PySem.Expr} (h : isSetE e = false) : behindInMarks op e = false := by
  cases e <;> first | rfl | cases h
theorem sub_plain {slice : PySem.Expr} {l : Addr} {k : Int} {u : Tok} (h : isSliceE slice = false) : subscripted slice false (.ref l) (.int k u) = operate [.ref l, .int k u] (getItem (.ref l) (.int k u)) := by
  cases slice <;> first | rfl | cases h
/-- what none of ours is -/
noncomputable def noneOf (e : PySem.Expr) : Bool := !isStar e && (!isSetE e && !isSliceE e)
theorem ours {G : List GE} {cx : Cx} : ∀ c : CE, noneOf (ex G c cx) = true := by
  intro c
  cases c with
  | disp t es k p => cases t <;> rfl
  | _ => rfl
section
variable {w : World} {WT : Nat → List PV → (PV → Prop) → Prop} {G : List GE} {kb ub : Nat} {X : Kx} {s : Shared} {h : Heap} {loc : List PV} {I : Led} {a b c r : CE} {i k p p0 p1 p2 p3 p4 p5 : Nat} {Post : List PV → List PV → Prop} {Q E : Value → Shared → Prop} {cx : Cx}
theorem noneOf_inv {e : PySem.Expr} (h : noneOf e = true) : isStar e = false ∧ isSetE e = false ∧ isSliceE e = false := by
  have h1 := band h
  have h2 := band h1.2
  exact ⟨Bool.not_eq_true' _ ▸ h1.1, Bool.not_eq_true' _ ▸ h2.1, Bool.not_eq_true' _ ▸ h2.2⟩
theorem noStar : isStar (ex G c cx) = false := (noneOf_inv (ours c)).1
theorem noSet : isSetE (ex G c cx) = false := (noneOf_inv (ours c)).2.1
theorem noSlice : isSliceE (ex G c cx) = false := (noneOf_inv (ours c)).2.2
theorem plain_of : ∀ (c : CE) {cx : Cx} {env : Env} {pos : Pos}, (backTo pos (starEach (exs G c cx) env)).any (·.1) = false := by
  intro c
  induction c with
  | cons a r _ ih =>
    intro cx env pos
    show (backTo pos (starEach (ex G a cx :: exs G r cx) env)).any (·.1) = false
    rw [starEach_plain noStar]
    exact ih
  | _ => intros; rfl
theorem isL_inv {c : CE} (h : c.isL = true) : c = .nil ∨ ∃ a r, c = .cons a r := by
  cases c with
  | nil => exact .inl rfl
  | cons a r => exact .inr ⟨a, r, rfl⟩
  | call1 f p0 a p =>
    have h : Nat.beq (if Nat.ble 2 f = true then 1 else 4) 0 = true := h
    split at h <;> cases h
  | _ => cases h
theorem perm_call (M S I R : Led) : (S ++ (I ++ (M ++ R))).Perm (M ++ (S ++ (I ++ R))) :=
  (List.Perm.append_left S (List.perm_append_comm_assoc I M R)).trans (List.perm_append_comm_assoc S M (I ++ R))
theorem perm_call0 (M S I R : Led) : (I ++ (M ++ (S ++ R))).Perm (M ++ (S ++ (I ++ R))) :=
  (List.perm_append_comm_assoc I M (S ++ R)).trans (List.Perm.append_left M (List.perm_append_comm_assoc I S R))
/-- a call of a def by what is known of it -/
theorem call_go {fa : Addr} {own : Bool} {W : List PV → (PV → Prop) → Prop} {vs : List Value} {ps : List PV} {P : PV → Prop} (ok : X.Ok w kb ub) (f : FSpec w fa own kb ub W) (ho : own = true → X.cx.own = true) (S : X.St w s.heap loc I) (r : VRs w X.src I vs ps) (hw : W ps P)
    (ans : ∀ v p h' tk' I', (∀ q ∈ I, q ∈ I') → P p → VR w X.src I' v p → X.St w h' loc I' → Q v { s with heap := h', toks := tk' }) : wpAny (model pg w) X.A (call (.ref fa) vs) Q E s := by
  obtain ⟨F, M, Sx, lr, hs, lo⟩ := S
  have fc := ok.fc.up (Nat.le_refl _) (Nat.le_add_right ub 64)
  cases own with
  | true =>
    rw [ho rfl] at hs
    exact f X.src X.h₀ X.L X.A X.m s Sx I (M ++ X.R) vs ps P Q E fc F (lo.perm (perm_call _ _ _ _)) hs r hw fun v p h' tk' I' S' hI hp hv F' lo' hs' =>
      ans v p h' tk' I' hI hp hv ⟨F', M, S', lr.mono hI fun _ _ => rfl, by rw [ho rfl]; exact hs', lo'.perm (perm_call _ _ _ _).symm⟩
  | false =>
    refine f X.src X.h₀ X.L X.A X.m s [] I (M ++ (Sx ++ X.R)) vs ps P Q E fc F (lo.perm (perm_call0 M Sx I X.R)) rfl r hw fun v p h' tk' I' S' hI hp hv F' lo' hs' => ?_
    obtain rfl : S' = [] := hs'
    exact ans v p h' tk' I' hI hp hv ⟨F', M, Sx, lr.mono hI fun _ _ => rfl, hs, lo'.perm (perm_call0 M Sx I' X.R).symm⟩
theorem Kx.Ok.hh (ok : X.Ok w kb ub) : X.A.handled = none := by
  obtain ⟨dp, un, ⟨gd, cn, cs, a, ccd, cl, outer, e, _⟩, _⟩ := ok.fc
  rw [e]
theorem Kx.Ok.un (ok : X.Ok w kb ub) : X.A.units + 64 < cLine := by
  obtain ⟨dp, un, ⟨gd, cn, cs, a, ccd, cl, outer, e, _⟩, d, _⟩ := ok.fc
  have := d.2
  rw [e]
  show un + 64 < cLine
  omega
theorem Kx.Ok.K (ok : X.Ok w kb ub) : (hd.heap_1 w.params).In X.h₀ := let ⟨_, _, _, _, t⟩ := ok.fc; t.1
/-- a name of the text's top -/
theorem glob_K {x : Str} {v : Value} {pos : Pos} (ok : X.Ok w kb ub) (S : X.St w s.heap loc I) (hk : isGlob X.cx x = true) (hd' : (x == ("__debug__" : Str)) = false) (hn : nsIn (hd.heap_1 w.params) mainGlobals x = some (some v)) (q : Q v s) :
    wpAny (model pg w) X.A (eval (.Name x pos) X.env) Q E s := by
  obtain ⟨_, _, _, _, K, p, loose, mean, mg, mb, T⟩ := ok.fc
  exact Name_function_global ok.fn (by unfold Env.kindOf; rw [ok.sc]; exact beq_iff_eq.mp hk) (loadGlobal_global (mg := mg) (by rw [ok.gl.1]; exact T.g.keeps S.1.keep) (mg_of K T.g hn) q) hd'
/-- a name of the built-ins -/
theorem glob_B {x : Str} {v : Value} {pos : Pos} (ok : X.Ok w kb ub) (S : X.St w s.heap loc I) (hk : isGlob X.cx x = true) (hd' : (x == ("__debug__" : Str)) = false) (hn : nsIn (hd.heap_1 w.params) mainGlobals x = some none) (hv : bootBuiltins x = some v) (hx : x ≠ "__name__") (q : Q v s) :
    wpAny (model pg w) X.A (eval (.Name x pos) X.env) Q E s := by
  obtain ⟨_, _, _, _, K, p, loose, mean, mg, mb, T⟩ := ok.fc
  exact Name_function_global ok.fn (by unfold Env.kindOf; rw [ok.sc]; exact beq_iff_eq.mp hk) (loadGlobal_builtin (mg := mg) (mb := mb) (by rw [ok.gl.1]; exact T.g.keeps S.1.keep) (mg_none_of K T.g hn) (by rw [ok.gl.2]; exact T.b.keeps S.1.keep) ((T.builtins x hx).trans hv) q) hd'
theorem b_len {P : Params} : nsIn (hd.heap_1 P) mainGlobals "len" = some none := by k_is
theorem b_fn {P : Params} : ∀ f, nsIn (hd.heap_1 P) mainGlobals (fnN f) = some none
  | 0 => by show nsIn (hd.heap_1 P) mainGlobals "sum" = _; k_is
  | 1 => by show nsIn (hd.heap_1 P) mainGlobals "sorted" = _; k_is
  | 2 => by show nsIn (hd.heap_1 P) mainGlobals "range" = _; k_is
  | _ + 3 => by show nsIn (hd.heap_1 P) mainGlobals "enumerate" = _; k_is

theorem sound_nil : SL w WT G kb ub .nil := fun _ _ s I loc _ _ _ _ _ _ S hw ans => spliced_none (ans [] [] loc s.heap s.toks I (fun _ h => h) hw .nil S)
theorem sound_cons (ha : SE w WT G kb ub a) (hr : SL w WT G kb ub r) : SL w WT G kb ub (.cons a r) := fun X pos s I loc Post Q E ok _ hc S hw ans => by
  have hc1 := band hc
  have hc2 := band hc1.2
  have hc3 := band hc2.2
  refine spliced_more (ha X s I loc _ _ E ok hc1.1 hc3.1 S hw fun v p l1 h1 t1 I1 m1 w1 r1 S1 => ?_) (starEach_plain noStar)
  exact hr X pos _ I1 l1 _ _ E ok hc2.1 hc3.2 S1 w1 fun vs ps l2 h2 t2 I2 m2 w2 r2 S2 => ans (v :: vs) (p :: ps) l2 h2 t2 I2 (fun q hq => m2 q (m1 q hq)) w2 (.cons (r1.mono m2) r2) S2
theorem sound_loc : SE w WT G kb ub (.loc i p) := fun X s I loc Post Q E ok _ _ S hw ans => by
  have hw : locV loc i fun p l => Post [p] l := hw
  unfold locV at hw
  split at hw
  · exact hw.elim
  · exact hw.elim
  · rename_i l hp
    obtain ⟨a, I', sub, rr, nm, S'⟩ := S.rest ok hp
    exact nm _ _ _ _ _ rfl (ans _ _ _ s.heap s.toks I' sub hw rr S')
  · rename_i p h1 h2 hp
    obtain ⟨v, r, nm⟩ := S.val ok hp h1 h2
    exact nm _ _ _ _ _ rfl (ans v p _ s.heap s.toks I (fun _ h => h) hw r S)
theorem sound_con {c : Const} : SE w WT G kb ub (.con c p) := fun X s I loc Post Q E ok _ _ S hw ans => by
  have hw : conV c fun p => Post [p] loc := hw
  cases c <;> first | exact hw.elim | skip
  · exact wpAny_Constant_none (ans _ .none loc s.heap s.toks I (fun _ h => h) hw .none S)
  · exact wpAny_Constant_bool (ans _ (.bool _) loc s.heap s.toks I (fun _ h => h) hw (.bool _) S)
  · exact wpAny_Constant_int (ans _ (.int _) loc s.heap (s.toks + 1) I (fun _ h => h) hw (.int _ _) S)
theorem sound_neg (ha : SE w WT G kb ub a) : SE w WT G kb ub (.neg a p) := fun X s I loc Post Q E ok _ hc S hw ans =>
  wpAny_UnaryOp (ha X s I loc _ _ E ok (band hc).1 (band hc).2 S hw fun v p l1 h1 t1 I1 m1 w1 r1 S1 => by
    obtain ⟨i, t, rfl, rfl, w2⟩ := intV_vr r1 w1
    exact neg_int (ans _ (.int _) l1 h1 (t1 + 1) I1 m1 w2 (.int _ _) S1))
theorem mul_fit {x y : Int} (h : MulOk x y) : IntMulOk x y :=
  h.elim (fun h => IntMulOk.of_left (intBits_le_64 (by omega) (by omega))) fun h => IntMulOk.of_right (intBits_le_64 (by omega) (by omega))
theorem ints_go {op : Operator} {x y : Int} {t u : Tok} {P : Int → Prop} (hw : opV op x y P) (q : ∀ z tk, P z → Q (.int z s.toks) { s with toks := tk }) : wpAny (model pg w) X.A (binaryOp op (.int x t) (.int y u)) Q E s := by
  cases op <;> first | exact hw.elim | skip
  · exact add_int (q _ _ hw)
  · exact sub_int (q _ _ hw)
  · exact mul_int (q _ _ hw.2) (mul_fit hw.1)
  · exact PyProof.Rows.mod_int (by have := hw.1; omega) (q _ _ hw.2)
  · exact floordiv_int (by have := hw.1.1; omega) (q _ _ hw.2) (.inl (PyProof.noPylong_small (by have := hw.1; omega)))
theorem sound_bin {op : Operator} (ha : SE w WT G kb ub a) (hb : SE w WT G kb ub b) : SE w WT G kb ub (.bin op a b p) := fun X s I loc Post Q E ok _ hc S hw ans => by
  have hc1 := band hc
  refine wpAny_BinOp (ha X s I loc _ _ E ok (band hc1.1).1 (band hc1.1).2 S hw fun v p l1 g1 t1 I1 m1 w1 r1 S1 => hb X _ I1 l1 _ _ E ok (band hc1.2).1 (band hc1.2).2 S1 w1 fun u q l2 g2 t2 I2 m2 w2 r2 S2 => ?_)
  obtain ⟨x, tx, rfl, rfl, w3⟩ := intV_vr r1 w2
  obtain ⟨y, ty, rfl, rfl, w4⟩ := intV_vr r2 w3
  exact ints_go w4 fun z tk hz => ans _ (.int z) l2 g2 tk I2 (fun q hq => m2 q (m1 q hq)) hz (.int _ _) S2
theorem sl_eq : sizeLine = 16777216 := rfl
theorem cat_go {u v : Value} {p q : PV} {P : PV → Prop} (S : X.St w s.heap loc I) (ru : VR w X.src I u p) (rv : VR w X.src I v q) (hw : catV [p] [q] P) (ans : X.Ans w (fun v l => ∃ p, v = [p] ∧ l = loc ∧ P p) Q s I) : wpAny (model pg w) X.A (binaryOp .Add u v) Q E s := by
  obtain ⟨T, N, sub, put, _⟩ := S.led
  unfold catV at hw
  split at hw
  · rename_i ps qs e1 e2
    cases e1
    cases e2
    obtain ⟨a, vs, n, _, rfl, e1, hm, r, _⟩ := tupV_vr (k := fun _ => True) ru trivial
    cases e1
    obtain ⟨b, ws, n2, _, rfl, e1, hm2, r2, _⟩ := tupV_vr (k := fun _ => True) rv trivial
    cases e1
    have hz := hw.1
    refine add_tuples S.1 N ⟨_, (N _ (sub _ hm)).1, rfl, _, rfl⟩ ⟨_, (N _ (sub _ hm2)).1, rfl, _, rfl⟩ (fun e1 => ?_) (fun _ e1 => ?_) (fun _ _ h' F' N' => ?_) (by rw [r.length, r2.length, sl_eq]; omega)
    · have := r.length; rw [e1] at this
      obtain rfl : ps = [] := List.eq_nil_of_length_eq_zero this.symm
      exact ans _ (.tup qs) loc s.heap s.toks I (fun _ h => h) ⟨_, rfl, rfl, hw.2⟩ (.tupL hm2 r2) S
    · have := r2.length; rw [e1] at this
      obtain rfl : qs = [] := List.eq_nil_of_length_eq_zero this.symm
      exact ans _ (.tup ps) loc s.heap s.toks I (fun _ h => h) ⟨_, rfl, rfl, by have q := hw.2; rw [List.append_nil] at q; exact q⟩ (.tupL hm r) S
    · have rr : ∀ q, VRs w X.src (q :: I) _ _ := fun q => (r.app r2).mono fun q hq => .tail _ hq
      exact ans _ (.tup (ps ++ qs)) loc h' s.toks (_ :: I) (fun q hq => .tail _ hq) ⟨_, rfl, rfl, hw.2⟩ (.tupL (.head _) ((r.app r2).mono fun q hq => .tail _ hq)) (put h' _ _ F' N' fun p hp => Heap.lt_size (N p hp).1)
  · rename_i ps qs e1 e2
    cases e1
    cases e2
    obtain ⟨a, vs, n, _, rfl, e1, hm, r, _⟩ := lstV_vr (k := fun _ => True) ru trivial
    cases e1
    obtain ⟨b, ws, n2, _, rfl, e1, hm2, r2, _⟩ := lstV_vr (k := fun _ => True) rv trivial
    cases e1
    have hz := hw.1
    refine add_arrays S.1 N (N.isList (sub _ hm)) (N.isList (sub _ hm2)) (fun h' F' N' => ?_) (by rw [List.size_toArray, List.size_toArray, r.length, r2.length, sl_eq]; omega)
    exact ans _ (.lst (ps ++ qs)) loc h' s.toks (_ :: I) (fun q hq => .tail _ hq) ⟨_, rfl, rfl, hw.2⟩ (.lstL (n := 0) (.head _) ((r.app r2).mono fun q hq => .tail _ hq)) (put h' _ _ F' N' fun p hp => Heap.lt_size (N p hp).1)
  · exact hw.elim
theorem sound_cat (ha : SE w WT G kb ub a) (hb : SE w WT G kb ub b) : SE w WT G kb ub (.cat a b p) := fun X s I loc Post Q E ok _ hc S hw ans => by
  have hc1 := band hc
  refine wpAny_BinOp (ha X s I loc _ _ E ok (band hc1.1).1 (band hc1.1).2 S hw fun v p l1 g1 t1 I1 m1 w1 r1 S1 => hb X _ I1 l1 _ _ E ok (band hc1.2).1 (band hc1.2).2 S1 w1 fun u q l2 g2 t2 I2 m2 w2 r2 S2 => ?_)
  refine cat_go S2 (r1.mono m2) r2 w2 fun v' p' l' h' tk' I' mm ⟨p2, e1, e2, hp⟩ rr SS => ?_
  cases e1
  subst e2
  exact ans v' p' l' h' tk' I' (fun q hq => mm q (m2 q (m1 q hq))) hp rr SS
theorem sound_item (ha : SE w WT G kb ub a) : SE w WT G kb ub (.item a k p1 p2) := fun X s I loc Post Q E ok _ hc S hw ans => by
  have hc1 := band hc
  have hk : k ≤ 1000 := Nat.le_of_ble_eq_true hc1.2
  refine Subscript_ (ha X s I loc _ _ E ok (band hc1.1).1 (band hc1.1).2 S hw fun v p l1 g1 t1 I1 m1 w1 r1 S1 => wpAny_Constant_int ?_)
  obtain ⟨ad, vs, n, ps, rfl, rfl, hm, r, w1⟩ := tupV_vr r1 w1
  unfold itemV at w1
  split at w1
  · rename_i p hp
    obtain ⟨v, hv, rv⟩ := r.get hp
    obtain ⟨T, N, sub, put, same⟩ := S1.led
    have hlt : k < vs.length := (List.getElem?_eq_some_iff.mp hv).1
    refine item_tupleT (l := vs) (j := k) ⟨_, (N _ (sub _ hm)).1, rfl, _, rfl⟩ (by omega) (by omega) ?_ hv (ans v p l1 g1 _ I1 m1 w1 rv S1) (by with_unfolding_all rfl)
    unfold seqIndex?
    have h4 : ¬ (k : Int) < 0 := by omega
    simp [h4]
    omega
  · exact w1.elim
theorem idx_go {value slice : PySem.Expr} {l : Addr} {vs : List Value} {ps : List PV} {n : Nat} {j : Int} {u : Tok} {T : Led} {P : PV → Prop} {h₀ : Heap} {L : Addr} (hs : isSliceE slice = false) (N : News h₀ L s.heap T) (hm : (l, lisO vs n) ∈ T) (r : VRs w X.src I vs ps) (hw : idxV ps j P)
    (hq : ∀ v p, P p → VR w X.src I v p → Q v s) : wpAny (model pg w) X.A (subscriptTail value slice (.ref l) (.int j u)) Q E s := by
  obtain ⟨hz, p, hp, hP⟩ := hw
  rcases hp with ⟨h0, hp⟩ | ⟨h0, h1, hp⟩
  · obtain ⟨v, hv, rv⟩ := r.get hp
    have hlt : j.toNat < vs.length := (List.getElem?_eq_some_iff.mp hv).1
    exact lx_item N hm h0 (by omega) (by rw [r.length]; exact hz) (fun x hx => by rw [hv] at hx; cases hx; exact hq v p hP rv) (sub_plain hs)
  · obtain ⟨v, hv, rv⟩ := r.get hp
    exact lx_back N hm h0 (by rw [r.length]; exact h1) (by rw [r.length]; exact hz) (fun x hx => by rw [r.length, hv] at hx; cases hx; exact hq v p hP rv) (sub_plain hs)
theorem sound_lidx (ha : SE w WT G kb ub a) : SE w WT G kb ub (.lidx i p1 a p2) := fun X s I loc Post Q E ok _ hc S hw ans => by
  have hw : lidxV loc i fun K => wp WT a loc fun v l => intV v fun j => K l fun ps => idxV ps j fun p => Post [p] l := hw
  unfold lidxV at hw
  split at hw
  · rename_i ps hp
    obtain ⟨v, r, nm⟩ := S.val ok hp (fun h => nomatch h) (fun _ h => nomatch h)
    refine Subscript_ (nm _ _ _ _ _ rfl (ha X s I loc _ _ E ok (band hc).1 (band hc).2 S hw fun u p l1 g1 t1 I1 m1 w1 r1 S1 => ?_))
    obtain ⟨j, t, rfl, rfl, w1⟩ := intV_vr r1 w1
    obtain ⟨ad, vs, n, _, rfl, e1, hm, rr, _⟩ := lstV_vr (k := fun _ => True) r trivial
    cases e1
    obtain ⟨T, N, sub, _, _⟩ := S1.led
    exact idx_go noSlice N (sub _ (m1 _ hm)) (rr.mono m1) w1 fun v p hp rv => ans v p l1 g1 t1 I1 m1 hp rv S1
  · rename_i ps hp
    obtain ⟨ad, vs, n, M0, Sx, rr, nm, kk, hs, lo, _⟩ := S.acc ok hp
    refine Subscript_ (nm _ _ _ _ _ rfl (ha X s I loc _ _ E ok (band hc).1 (band hc).2 S hw fun u p l1 g1 t1 I1 m1 w1 r1 S1 => ?_))
    obtain ⟨j, t, rfl, rfl, w1⟩ := intV_vr r1 w1
    obtain ⟨vs, n, ps, rr, w2, T, N, hm⟩ := list_again ok S1 w1 kk
    exact idx_go noSlice N hm rr w2 fun v p hp rv => ans v p l1 g1 t1 I1 m1 hp rv S1
  · exact hw.elim
theorem sound_len : SE w WT G kb ub (.len i p0 p1 p2) := fun X s I loc Post Q E ok _ hc S hw ans => by
  obtain ⟨l, vs, n, ps, nm, rr, ⟨hz, w1⟩, T, N, hm, _⟩ := list_at ok S hw
  refine Call_Name rfl (glob_B ok S hc (by decide) b_len (v := .builtin "len") rfl (by decide) (callWith_method1 (first := []) (spliced_more (nm _ _ _ _ _ rfl (spliced_none ?_)))))
  refine lx_len N hm (by rw [rr.length]; exact hz) fun t tk => ?_
  rw [rr.length]
  exact ans _ (.int _) loc s.heap tk I (fun _ h => h) w1 (.int _ _) S
theorem sound_last1 : SE w WT G kb ub (.last1 i p1 p2 p3 p4 p5) := fun X s I loc Post Q E ok _ hc S hw ans => by
  obtain ⟨l, vs, n, ps, nm, rr, ⟨hz, w1⟩, T, N, hm, put⟩ := list_at ok S hw
  refine Subscript_ (nm _ _ _ _ _ rfl (wpAny_Slice ?_))
  show wpAny _ _ (eval (.UnaryOp .USub (.Constant (.int 1) 0 (P p2)) _) _) _ _ _
  refine wpAny_UnaryOp (wpAny_Constant_int (neg_int (wpAny_pure (wpAny_pure ?_))))
  refine slice_list (s := { s with toks := s.toks + 1 + 1 }) S.1 N (N.isList hm) (.int (-1) _) .none (fun h' F' N' => ?_) rfl (fun _ => rfl) (by rw [List.size_toArray, rr.length, sl_eq]; omega)
  have e : slicePick vs.toArray (some (-1)) none none = (vs.drop (ps.length - 1)).toArray := rr.length ▸ slicePick_last vs.toArray 1 (Nat.le_refl _)
  rw [e] at N'
  have N2 : News X.h₀ X.L h' ((s.heap.objs.size + 1, lisO (vs.drop (ps.length - 1)) 0) :: T) := N'
  exact ans _ (.lst _) loc h' _ (_ :: I) (fun q hq => .tail _ hq) w1 (.lstL (.head _) ((rr.drop _).mono fun q hq => .tail _ hq)) (put h' _ _ F' N2 fun p hp => Nat.lt_succ_of_lt (Heap.lt_size (N p hp).1))
end

end --Q4
section --Q5
mutual
noncomputable def PV.dat : PV → Dat
  | .int i => .int i
  | .tup l => .tuple (PV.dats l)
  | .lst l => .list (PV.dats l)
  | _ => .none
noncomputable def PV.dats : List PV → List Dat
  | [] => []
  | p :: r => PV.dat p :: PV.dats r
end
section
variable {w : World} {WT : Nat → List PV → (PV → Prop) → Prop} {G : List GE} {kb ub : Nat} {X : Kx} {s : Shared} {h : Heap} {loc : List PV} {I : Led} {a b c r : CE} {i k f p p0 p1 p2 p3 p4 p5 : Nat} {Post : List PV → List PV → Prop} {Q E : Value → Shared → Prop} {cx : Cx} {src : Addr}
theorem sound_callF (g : GOk w WT G kb ub) (ha : SL w WT G kb ub a) : SE w WT G kb ub (.callF k p0 a p1) := fun X s I loc Post Q E ok _ hc S hw ans => by
  have hc1 := band hc
  have hc2 := band hc1.2
  have h1 := hc1.1
  have hw : wp WT a loc fun vs l => WT k vs fun p => Post [p] l := hw
  show wpAny _ _ (eval (.Call (.Name (gnm G k) _) _ [] _) _) _ _ _
  unfold gnm
  cases hg : G[k]? with
  | none => rw [hg] at h1; cases h1
  | some ge =>
    rw [hg] at h1
    have h3 := band h1
    have h4 := band h3.2
    obtain ⟨g0, g1, _, g2, g3⟩ := g k ge hg
    refine Call_Name rfl (glob_K ok S h3.1 g0 (g1 (by simpa using h4.2)) ?_)
    have fin : ∀ vs ps l1 h1 t1 I1, (∀ q ∈ I, q ∈ I1) → WT k ps (fun p => Post [p] l1) → VRs w X.src I1 vs ps → X.St w h1 l1 I1 → (hd.heap_1 w.params).In h1 ∧ wpAny (model pg w) X.A (call (.ref ge.fa) ([] ++ vs)) Q E { s with heap := h1, toks := t1 } := fun vs ps l1 h1 t1 I1 m1 w1 r1 S1 =>
      ⟨fun b o hb => S1.1.keep b o (ok.K b o hb), call_go (s := { s with heap := h1, toks := t1 }) ok g3 (fun ho => by have q := h4.1; rw [ho] at q; exact q) S1 r1 w1 fun v' p' h' tk' I' mm hp rr SS => ans v' p' _ h' tk' I' (fun q hq => mm q (m1 q hq)) hp rr SS⟩
    rcases isL_inv hc2.1 with rfl | ⟨a1, a2, rfl⟩
    · exact callWith_K0 (fun b o hb => S.1.keep b o (ok.K b o hb)) g2 (fin [] [] loc s.heap s.toks I (fun _ h => h) hw .nil S).2
    · exact callWith_K (first := []) (h₀ := X.h₀) ok.K g2 (ha X (P p1) s I loc _ _ E ok hc2.1 hc2.2 S hw fun vs ps l1 h1 t1 I1 m1 w1 r1 S1 => fin vs ps l1 h1 t1 I1 m1 w1 r1 S1) (starEach_plain noStar) (plain_of a2)
/-- an attribute of a side -/
theorem side_attr {v : Value} {r : Row} {T : Led} {h₀ : Heap} {L : Addr} {m : Str → Option Value} {A : Around} (hk : k ≤ 4) (K : (hd.heap_1 w.params).In h₀) (F : Fr h₀ L s.heap m) (N : News h₀ L s.heap T) (hs : SideIn w T v r) (q : ∀ t tk, Q (.int (attrV r k) t) { s with toks := tk }) :
    wpAny (model pg w) A (getAttr v (attrN k) true) Q E s := by
  obtain ⟨x, dx, k1, k2, k3, k4, k5, t1, t2, t3, t4, t5, rfl, M1, M2⟩ := hs
  match k with
  | 0 => exact get_own F K (InstAt.of_news N M1 M2) (by k_is) (by k_is) (attr := none) (by k_is) (by k_is) (by rfl) rfl (q _ _)
  | 1 => exact get_own F K (InstAt.of_news N M1 M2) (by k_is) (by k_is) (attr := none) (by k_is) (by k_is) (by rfl) rfl (q _ _)
  | 2 => exact get_own F K (InstAt.of_news N M1 M2) (by k_is) (by k_is) (attr := none) (by k_is) (by k_is) (by rfl) rfl (q _ _)
  | 3 => exact get_own F K (InstAt.of_news N M1 M2) (by k_is) (by k_is) (attr := none) (by k_is) (by k_is) (by rfl) rfl (q _ _)
  | 4 => exact get_own F K (InstAt.of_news N M1 M2) (by k_is) (by k_is) (attr := none) (by k_is) (by k_is) (by rfl) rfl (q _ _)
  | n + 5 => omega
theorem sound_attr : SE w WT G kb ub (.attr i k p1 p2) := fun X s I loc Post Q E ok _ hc S hw ans => by
  obtain ⟨r, v, w1, nm, hs⟩ := side_at ok S hw
  obtain ⟨T, N, sub, _⟩ := S.led
  exact Attribute_name (nm _ _ _ _ _ rfl (side_attr (Nat.le_of_ble_eq_true hc) ok.K S.1 N (hs.mono sub) fun t tk => ans _ (.int _) loc s.heap tk I (fun _ h => h) w1 (.int _ _) S))
theorem meth_call {M : Model} {A : Around} {env : Env} {x name : Str} {p1 p2 p3 : Pos} {args : List PySem.Expr} (h1 : (p2.endLine == p3.line) = true) (h2 : (backTo p3 (starEach args env)).any (·.1) = false) (h3 : args.length ≤ 20)
    (h : ∀ pl, wpAny M A (eval (.Name x p1) env) (fun ov s₁ => wpAny M A (getMethod ov name pl) (fun fx s₂ => wpAny M A (callWith p3 fx.1 fx.2 (backTo p3 (starEach args env)) []) Q E s₂) E s₁) E s) :
    wpAny M A (eval (.Call (.Attribute (.Name x p1) name p2) args [] p3) env) Q E s := by
  have few : methodCallForm (args.length + 0) (backTo p3 (starEach args env)) [] = true := by
    unfold methodCallForm
    have : (backTo p3 (starEach args env)).all (fun y => !y.1) = true := by
      rw [List.all_eq_not_any_not]
      simp only [Bool.not_not]
      rw [h2]; rfl
    rw [this]
    simp only [List.all_nil, Bool.true_and, List.isEmpty_nil, if_true]
    exact decide_eq_true (by omega)
  refine MethodCall_ (pl := (do return (← importBound (.Name x p1) env).getD true)) (h _) ?_
  rw [arm_eval_Call]
  show (do let ov ← eval (.Name x p1) env; standAt p2.atName; methodCall (.Name x p1) name p2 p3 env ov (args.length + 0) (backTo p3 (starEach args env)) []) = _
  unfold methodCall calleeOf methodCallPos
  rw [few]
  simp only [h1, Bool.not_true, Bool.false_or, if_true]
  rfl
theorem no_attr {w : World} {nm : Str} {r : Row} {k1 k2 k3 k4 k5 t1 t2 t3 t4 t5 : Tok} (h : ∀ j, (attrN j == nm) = false) : getL nm [⟨PyData.keyHash w.params "x1", .str "x1" k1, .int r.x1 t1⟩, ⟨PyData.keyHash w.params "y1", .str "y1" k2, .int r.y1 t2⟩, ⟨PyData.keyHash w.params "x2", .str "x2" k3, .int r.x2 t3⟩,
    ⟨PyData.keyHash w.params "y2", .str "y2" k4, .int r.y2 t4⟩, ⟨PyData.keyHash w.params "way", .str "way" k5, .int r.way t5⟩] = some none := by
  have a0 : ((Str.ofString "x1") == nm) = false := h 0
  have a1 : ((Str.ofString "y1") == nm) = false := h 1
  have a2 : ((Str.ofString "x2") == nm) = false := h 2
  have a3 : ((Str.ofString "y2") == nm) = false := h 3
  have a4 : ((Str.ofString "way") == nm) = false := h 4
  unfold getL
  rw [List.find?_cons_of_neg (by show ¬((Str.ofString "x1") == nm) = true; rw [a0]; exact Bool.false_ne_true), List.find?_cons_of_neg (by show ¬((Str.ofString "y1") == nm) = true; rw [a1]; exact Bool.false_ne_true), List.find?_cons_of_neg (by show ¬((Str.ofString "x2") == nm) = true; rw [a2]; exact Bool.false_ne_true),
    List.find?_cons_of_neg (by show ¬((Str.ofString "y2") == nm) = true; rw [a3]; exact Bool.false_ne_true), List.find?_cons_of_neg (by show ¬((Str.ofString "way") == nm) = true; rw [a4]; exact Bool.false_ne_true)]
  rfl
theorem sound_callM (g : GOk w WT G kb ub) (ha : SL w WT G kb ub a) : SE w WT G kb ub (.callM k i p0 p1 a p2) := fun X s I loc Post Q E ok _ hc S hw ans => by
  have hc1 := band hc
  have hc2 := band hc1.2
  have hc3 := band hc2.1
  have hc4 := band hc2.2
  have h1 := hc1.1
  obtain ⟨r, v, w1, nm, hs⟩ := side_at ok S hw
  obtain ⟨T, N, sub, _⟩ := S.led
  show wpAny _ _ (eval (.Call (.Attribute _ (gnm G k) _) _ [] _) _) _ _ _
  unfold gnm
  cases hg : G[k]? with
  | none => rw [hg] at h1; cases h1
  | some ge =>
    rw [hg] at h1
    have h3 := band h1
    obtain ⟨_, _, g1, g2, g3⟩ := g k ge hg
    obtain ⟨g4, g5⟩ := g1 h3.2
    have hno : ge.own = true → X.cx.own = true := fun ho => by have q := h3.1; rw [ho] at q; cases q
    refine meth_call hc3.1 (plain_of a) (Nat.le_of_ble_eq_true hc3.2) fun pl => nm _ _ _ _ _ rfl ?_
    have hs' := hs
    obtain ⟨y, dx, k1, k2, k3, k4, k5, t1, t2, t3, t4, t5, rfl, M1, M2⟩ := hs
    refine method_inst S.1 ok.K (InstAt.of_news N (sub _ M1) (sub _ M2)) g4.1 g4.2.1 g4.2.2 (no_attr g5) ?_
    have fin : ∀ vs ps l1 h1 t1 I1, (∀ q ∈ I, q ∈ I1) → WT k (.side r :: ps) (fun p => Post [p] l1) → VRs w X.src I1 vs ps → X.St w h1 l1 I1 → (hd.heap_1 w.params).In h1 ∧ wpAny (model pg w) X.A (call (.ref ge.fa) ([.ref y] ++ vs)) Q E { s with heap := h1, toks := t1 } := fun vs ps l1 h1 t1 I1 m1 w1 r1 S1 =>
      ⟨fun b o hb => S1.1.keep b o (ok.K b o hb), call_go (s := { s with heap := h1, toks := t1 }) ok g3 hno S1 (.cons (.side (hs'.mono m1)) r1) w1 fun v' p' h' tk' I' mm hp rr SS => ans v' p' _ h' tk' I' (fun q hq => mm q (m1 q hq)) hp rr SS⟩
    rcases isL_inv hc4.1 with rfl | ⟨a1, a2, rfl⟩
    · exact callWith_K0 (fun b o hb => S.1.keep b o (ok.K b o hb)) g2 (fin [] [] loc s.heap s.toks I (fun _ h => h) w1 .nil S).2
    · exact callWith_K (first := [.ref y]) (h₀ := X.h₀) ok.K g2 (ha X (P p2) s I loc _ _ E ok hc4.1 hc4.2 S w1 fun vs ps l1 h1 t1 I1 m1 w1 r1 S1 => fin vs ps l1 h1 t1 I1 m1 w1 r1 S1) (starEach_plain noStar) (plain_of a2)

theorem flat_all (n : Nat) (ih : ∀ p : PV, p.flat n = true → kqdOk n p.dat = true ∧ (∀ v, VR w src I v p → DatIn I v p.dat) ∧ ∀ q : PV, q.flat n = true → p.dat = q.dat → p = q) :
    ∀ l : List PV, l.all (PV.flat n) = true → (PV.dats l).all (kqdOk n) = true ∧ (∀ vs, VRs w src I vs l → DatAll I vs (PV.dats l)) ∧ ∀ l' : List PV, l'.all (PV.flat n) = true → PV.dats l = PV.dats l' → l = l' := by
  intro l
  induction l with
  | nil =>
    intro _
    refine ⟨rfl, fun vs h => ?_, fun l' _ e => ?_⟩
    · cases vs with | nil => exact .nil | cons _ _ => cases h.1
    · cases l' with | nil => rfl | cons _ _ => cases e
  | cons p r hi =>
    intro h
    obtain ⟨a1, a2, a3⟩ := ih p (band h).1
    obtain ⟨b1, b2, b3⟩ := hi (band h).2
    refine ⟨Bool.and_eq_true_iff.mpr ⟨a1, b1⟩, fun vs h => ?_, fun l' h' e => ?_⟩
    · cases vs with | nil => cases h.1 | cons v vs => exact .cons (a2 _ h.hd) (b2 _ h.tl)
    · cases l' with
      | nil => cases e
      | cons q r' =>
        have e' := List.cons.inj (show PV.dat p :: PV.dats r = PV.dat q :: PV.dats r' from e)
        rw [a3 q (band h').1 e'.1, b3 r' (band h').2 e'.2]
theorem flat_dat : ∀ (n : Nat) (p : PV), p.flat n = true → kqdOk n p.dat = true ∧ (∀ v, VR w src I v p → DatIn I v p.dat) ∧ ∀ q : PV, q.flat n = true → p.dat = q.dat → p = q := by
  have hi : ∀ n i, kqdOk n (PV.dat (.int i)) = true ∧ (∀ v, VR w src I v (.int i) → DatIn I v (.int i)) ∧ ∀ q : PV, q.flat n = true → PV.dat (.int i) = q.dat → PV.int i = q := by
    intro n i
    refine ⟨by cases n <;> rfl, fun v hv => by cases hv; exact .int _ _, fun q hq e => ?_⟩
    cases q with
    | int j => rw [show i = j from Dat.int.inj e]
    | tup l => cases e
    | lst l => cases e
    | _ => cases n <;> cases hq
  intro n
  induction n with
  | zero =>
    intro p h
    cases p with
    | int i => exact hi 0 i
    | _ => cases h
  | succ n ih =>
    intro p h
    cases p with
    | int i => exact hi _ i
    | tup l =>
      obtain ⟨b1, b2, b3⟩ := flat_all n ih l h
      refine ⟨b1, fun v hv => by cases hv with | tup hm e r => exact .tuple hm (b2 _ ⟨e, r⟩), fun q hq e => ?_⟩
      cases q with
      | tup l' => rw [b3 _ hq (Dat.tuple.inj e)]
      | int j => cases e
      | lst l => cases e
      | _ => cases hq
    | lst l =>
      obtain ⟨b1, b2, b3⟩ := flat_all n ih l h
      refine ⟨b1, fun v hv => by cases hv with | lst hm e r => exact .list hm (b2 _ ⟨e, r⟩), fun q hq e => ?_⟩
      cases q with
      | lst l' => rw [b3 _ hq (Dat.list.inj e)]
      | int j => cases e
      | tup l => cases e
      | _ => cases hq
    | _ => cases h
theorem kqd_up : ∀ (n : Nat) (d : Dat), kqdOk n d = true → kqdOk (n + 1) d = true := by
  intro n
  induction n with
  | zero => intro d h; cases d <;> first | (cases h; done) | rfl | exact h
  | succ n ih =>
    intro d h
    cases d with
    | tuple l => exact List.all_eq_true.mpr fun x hx => ih x (List.all_eq_true.mp h x hx)
    | list l => exact List.all_eq_true.mpr fun x hx => ih x (List.all_eq_true.mp h x hx)
    | _ => exact h
theorem cmp_go {op : CmpOp} {x y : Int} {t u : Tok} {P : Bool → Prop} (hw : cmpV op x y P) (ans : ∀ b, P b → Q (.bool b) s) : wpAny (model pg w) X.A (compareOp op (.int x t) (.int y u)) Q E s := by
  cases op <;> first | exact hw.elim | skip
  · exact PySem.P.eq_int (ans _ hw)
  · exact PySem.P.ne_int (ans _ hw)
  · exact PyProof.Rows.lt_int (ans _ hw)
  · exact PySem.P.le_int (ans _ hw)
  · exact PySem.P.gt_int (ans _ hw)
theorem sound_cmp {op : CmpOp} (ha : SE w WT G kb ub a) (hb : SE w WT G kb ub b) : SE w WT G kb ub (.cmp op a b p) ∧ SB w WT G kb ub (.cmp op a b p) := by
  refine ⟨fun X s I loc Post Q E ok _ hc S hw ans => ?_, fun X s I loc Post Q E ok _ hc S hw ans => ?_⟩
  · have hc1 := band hc
    refine wpAny_Compare1 (ha X s I loc _ _ E ok (band hc1.1).1 (band hc1.1).2 S hw fun v p l1 g1 t1 I1 m1 w1 r1 S1 => hb X _ I1 l1 _ _ E ok (band hc1.2).1 (band hc1.2).2 S1 w1 fun u q l2 g2 t2 I2 m2 w2 r2 S2 => ?_) (marks_plain noSet)
    obtain ⟨x, tx, rfl, rfl, w3⟩ := intV_vr r1 w2
    obtain ⟨y, ty, rfl, rfl, w4⟩ := intV_vr r2 w3
    exact cmp_go w4 fun z hz => ans _ (.bool z) l2 g2 t2 I2 (fun q hq => m2 q (m1 q hq)) hz (.bool _) S2
  · have hc1 := band hc
    refine wpAny_isTrue_Compare1 (ha X s I loc _ _ E ok (band hc1.1).1 (band hc1.1).2 S hw fun v p l1 g1 t1 I1 m1 w1 r1 S1 => hb X _ I1 l1 _ _ E ok (band hc1.2).1 (band hc1.2).2 S1 w1 fun u q l2 g2 t2 I2 m2 w2 r2 S2 => ?_) (marks_plain noSet)
    obtain ⟨x, tx, rfl, rfl, w3⟩ := intV_vr r1 w2
    obtain ⟨y, ty, rfl, rfl, w4⟩ := intV_vr r2 w3
    exact cmp_go w4 fun z hz => wpAny_truthy_bool (ans z l2 g2 t2 I2 (fun q hq => m2 q (m1 q hq)) hz S2)
open Classical in
theorem eq_go {ne : Bool} {u v : Value} {p q : PV} {P : Bool → Prop} (ok : X.Ok w kb ub) (S : X.St w s.heap loc I) (ru : VR w X.src I u p) (rv : VR w X.src I v q) (hw : lstV [p] fun x => lstV [q] fun y => eqV ne x y P) (ans : ∀ b, P b → Q (.bool b) s) : wpAny (model pg w) X.A (compareOp (if ne then .NotEq else .Eq) u v) Q E s := by
  obtain ⟨T, N, sub, _⟩ := S.led
  obtain ⟨x, vs, n, ps, rfl, rfl, hm, r, w2⟩ := lstV_vr ru hw
  obtain ⟨y, ws, n2, qs, rfl, rfl, hm2, r2, ⟨f1, f2⟩, e1, e2⟩ := lstV_vr rv w2
  obtain ⟨a1, a2, a3⟩ := flat_all (w := w) (src := X.src) (I := I) 7 (flat_dat 7) ps f1
  obtain ⟨b1, b2, b3⟩ := flat_all (w := w) (src := X.src) (I := I) 7 (flat_dat 7) qs f2
  have a1 : ∀ d ∈ PV.dats ps, kqdOk 8 d = true := fun d hd => kqd_up 7 d (List.all_eq_true.mp a1 d hd)
  have b1 : ∀ d ∈ PV.dats qs, kqdOk 8 d = true := fun d hd => kqd_up 7 d (List.all_eq_true.mp b1 d hd)
  have key : P (if PV.dats ps = PV.dats qs then !ne else ne) := by
    by_cases he : PV.dats ps = PV.dats qs
    · rw [if_pos he]; exact e1 (a3 _ f2 he)
    · rw [if_neg he]; exact e2 fun h => he (by rw [h])
  cases ne with
  | false =>
    refine kqd_eq N (sub _ hm) rfl rfl (a2 _ r) sub (sub _ hm2) rfl rfl (b2 _ r2) sub a1 b1 ok.un (ans _ ?_)
    by_cases he : PV.dats ps = PV.dats qs
    · rw [if_pos he] at key; rw [decide_eq_true he]; exact key
    · rw [if_neg he] at key; rw [decide_eq_false he]; exact key
  | true =>
    refine kqd_ne N (sub _ hm) rfl rfl (a2 _ r) sub (sub _ hm2) rfl rfl (b2 _ r2) sub a1 b1 ok.un (ans _ ?_)
    by_cases he : PV.dats ps = PV.dats qs
    · rw [if_pos he] at key; rw [decide_eq_true he]; exact key
    · rw [if_neg he] at key; rw [decide_eq_false he]; exact key
theorem sound_cmpL {ne : Bool} (ha : SE w WT G kb ub a) (hb : SE w WT G kb ub b) : SE w WT G kb ub (.cmpL ne a b p) ∧ SB w WT G kb ub (.cmpL ne a b p) := by
  refine ⟨fun X s I loc Post Q E ok _ hc S hw ans => ?_, fun X s I loc Post Q E ok _ hc S hw ans => ?_⟩
  · have hc1 := band hc
    refine wpAny_Compare1 (ha X s I loc _ _ E ok (band hc1.1).1 (band hc1.1).2 S hw fun v p l1 g1 t1 I1 m1 w1 r1 S1 => hb X _ I1 l1 _ _ E ok (band hc1.2).1 (band hc1.2).2 S1 w1 fun u q l2 g2 t2 I2 m2 w2 r2 S2 => ?_) (marks_plain noSet)
    exact eq_go ok S2 (r1.mono m2) r2 w2 fun z hz => ans _ (.bool z) l2 g2 t2 I2 (fun q hq => m2 q (m1 q hq)) hz (.bool _) S2
  · have hc1 := band hc
    refine wpAny_isTrue_Compare1 (ha X s I loc _ _ E ok (band hc1.1).1 (band hc1.1).2 S hw fun v p l1 g1 t1 I1 m1 w1 r1 S1 => hb X _ I1 l1 _ _ E ok (band hc1.2).1 (band hc1.2).2 S1 w1 fun u q l2 g2 t2 I2 m2 w2 r2 S2 => ?_) (marks_plain noSet)
    exact eq_go ok S2 (r1.mono m2) r2 w2 fun z hz => wpAny_truthy_bool (ans z l2 g2 t2 I2 (fun q hq => m2 q (m1 q hq)) hz S2)
theorem sound_chain (ha : SE w WT G kb ub a) (hb : SE w WT G kb ub b) (hcc : SE w WT G kb ub c) : SE w WT G kb ub (.chain a b c p) ∧ SB w WT G kb ub (.chain a b c p) := by
  refine ⟨fun X s I loc Post Q E ok _ hc S hw ans => ?_, fun X s I loc Post Q E ok _ hc S hw ans => ?_⟩
  · have hc1 := band hc
    have hc2 := band hc1.2
    refine Compare_chain (ha X s I loc _ _ E ok (band hc1.1).1 (band hc1.1).2 S hw fun v p l1 g1 t1 I1 m1 w1 r1 S1 => chain_link (hb X _ I1 l1 _ _ E ok (band hc2.1).1 (band hc2.1).2 S1 w1 fun u q l2 g2 t2 I2 m2 w2 r2 S2 => ?_)) (marks_plain noSet)
    obtain ⟨x, tx, rfl, rfl, w3⟩ := intV_vr r1 w2
    obtain ⟨y, ty, rfl, rfl, w4⟩ := intV_vr r2 w3
    refine PySem.P.le_int (wpAny_truthy_bool ?_)
    by_cases hxy : x ≤ y
    · rw [if_pos hxy] at w4
      rw [decide_eq_true hxy]
      refine chain_last (hcc X _ I2 l2 _ _ E ok (band hc2.2).1 (band hc2.2).2 S2 w4 fun u' q' l3 g3 t3 I3 m3 w3 r3 S3 => ?_)
      obtain ⟨z, tz, rfl, rfl, w5⟩ := intV_vr r3 w3
      exact PyProof.Rows.lt_int (ans _ (.bool _) l3 g3 t3 I3 (fun q hq => m3 q (m2 q (m1 q hq))) w5 (.bool _) S3)
    · rw [if_neg hxy] at w4
      rw [decide_eq_false hxy]
      exact ans _ (.bool false) l2 g2 t2 I2 (fun q hq => m2 q (m1 q hq)) w4 (.bool _) S2
  · have hc1 := band hc
    have hc2 := band hc1.2
    refine isTrue_chain (ha X s I loc _ _ E ok (band hc1.1).1 (band hc1.1).2 S hw fun v p l1 g1 t1 I1 m1 w1 r1 S1 => test_link (hb X _ I1 l1 _ _ E ok (band hc2.1).1 (band hc2.1).2 S1 w1 fun u q l2 g2 t2 I2 m2 w2 r2 S2 => ?_)) (marks_plain noSet)
    obtain ⟨x, tx, rfl, rfl, w3⟩ := intV_vr r1 w2
    obtain ⟨y, ty, rfl, rfl, w4⟩ := intV_vr r2 w3
    refine PySem.P.le_int (wpAny_truthy_bool ?_)
    by_cases hxy : x ≤ y
    · rw [if_pos hxy] at w4
      rw [decide_eq_true hxy]
      refine test_last (hcc X _ I2 l2 _ _ E ok (band hc2.2).1 (band hc2.2).2 S2 w4 fun u' q' l3 g3 t3 I3 m3 w3 r3 S3 => ?_)
      obtain ⟨z, tz, rfl, rfl, w5⟩ := intV_vr r3 w3
      exact PyProof.Rows.lt_int (wpAny_truthy_bool (ans _ l3 g3 t3 I3 (fun q hq => m3 q (m2 q (m1 q hq))) w5 S3))
    · rw [if_neg hxy] at w4
      rw [decide_eq_false hxy]
      exact ans false l2 g2 t2 I2 (fun q hq => m2 q (m1 q hq)) w4 S2
theorem isnt_go {v : Value} {p : PV} {P : Bool → Prop} (rv : VR w X.src I v p) (hw : isntV [p] P) (ans : ∀ x, P x → Q (.bool x) s) : wpAny (model pg w) X.A (compareOp .IsNot v .none) Q E s := by
  rcases isntV_vr rv hw with ⟨rfl, h⟩ | ⟨a, rfl, h⟩
  · exact wpAny_isNot_self rfl (ans _ h)
  · exact wpAny_isNot_other rfl (fun h => nomatch h) (ans _ h)
theorem sound_isnt (ha : SE w WT G kb ub a) : SE w WT G kb ub (.isnt a p1 p2) ∧ SB w WT G kb ub (.isnt a p1 p2) :=
  ⟨fun X s I loc Post Q E ok _ hc S hw ans => wpAny_Compare1 (ha X s I loc _ _ E ok (band hc).1 (band hc).2 S hw fun v p l1 g1 t1 I1 m1 w1 r1 S1 => wpAny_Constant_none (isnt_go r1 w1 fun x hx => ans _ (.bool x) l1 g1 t1 I1 m1 hx (.bool _) S1)) (marks_plain rfl),
   fun X s I loc Post Q E ok _ hc S hw ans => wpAny_isTrue_Compare1 (ha X s I loc _ _ E ok (band hc).1 (band hc).2 S hw fun v p l1 g1 t1 I1 m1 w1 r1 S1 => wpAny_Constant_none (isnt_go r1 w1 fun x hx => wpAny_truthy_bool (ans x l1 g1 t1 I1 m1 hx S1))) (marks_plain rfl)⟩
end

end --Q5
section --Q6
section
variable {w : World} {WT : Nat → List PV → (PV → Prop) → Prop} {G : List GE} {kb ub : Nat} {X : Kx} {s : Shared} {h : Heap} {loc : List PV} {I : Led} {a b c r : CE} {i k f p p0 p1 p2 p3 p4 p5 : Nat} {Post : List PV → List PV → Prop} {Q E : Value → Shared → Prop} {cx : Cx} {src : Addr}
theorem sb_of {c : CE} (hv : c.isVal = true) (hp : ∀ cx env whole, isTrue (ex G c cx) env whole = (do let v ← whole; standAt (ex G c cx).pos; holding [v] (truthy v))) (hc : SE w WT G kb ub c) : SB w WT G kb ub c := fun X s I loc Post Q E ok _ ck S hw ans =>
  isTrue_plain (hc X s I loc _ _ E ok hv ck S hw fun v p l1 g1 t1 I1 m1 w1 r1 S1 => by
    obtain ⟨x, rfl, rfl, w2⟩ := boolV_vr r1 w1
    exact wpAny_truthy_bool (ans _ l1 g1 t1 I1 m1 w2 S1)) (hp _ _ _)
theorem isTest_val {c : CE} (h : c.isTest = true) : c.isVal = true := by
  have := Nat.eq_of_beq_eq_true h
  unfold CE.isVal
  rw [this]
  rfl
theorem sound_bop {o : Bool} (ha : SE w WT G kb ub a) (hb : SE w WT G kb ub b) (ta : SB w WT G kb ub a) (tb : SB w WT G kb ub b) : SE w WT G kb ub (.bop o a b p) ∧ SB w WT G kb ub (.bop o a b p) := by
  refine ⟨fun X s I loc Post Q E ok _ hc S hw ans => ?_, fun X s I loc Post Q E ok _ hc S hw ans => ?_⟩
  · have hc1 := band hc
    have hca := band hc1.1
    have hcb := band hc1.2
    have fst : ∀ (Q1 : Value → Shared → Prop), (∀ x l1 g1 t1 I1, (∀ q ∈ I, q ∈ I1) → (if x = o then Post [.bool o] l1 else wp WT b l1 fun v2 l2 => boolV v2 fun y => Post [.bool y] l2) → X.St w g1 l1 I1 → Q1 (.bool x) { s with heap := g1, toks := t1 }) → wpAny (model pg w) X.A (eval (ex G a X.cx) X.env) Q1 E s := fun Q1 k =>
      ha X s I loc _ _ E ok (isTest_val hca.1) hca.2 S hw fun v p l1 g1 t1 I1 m1 w1 r1 S1 => by
        obtain ⟨x, rfl, rfl, w2⟩ := boolV_vr r1 w1
        exact k x l1 g1 t1 I1 m1 w2 S1
    have snd : ∀ l1 g1 t1 I1, (∀ q ∈ I, q ∈ I1) → (wp WT b l1 fun v2 l2 => boolV v2 fun y => Post [.bool y] l2) → X.St w g1 l1 I1 → wpAny (model pg w) X.A (eval (ex G b X.cx) X.env) Q E { s with heap := g1, toks := t1 } := fun l1 g1 t1 I1 m1 w1 S1 =>
      hb X _ I1 l1 _ _ E ok (isTest_val hcb.1) hcb.2 S1 w1 fun u q l2 g2 t2 I2 m2 w2 r2 S2 => by
        obtain ⟨y, rfl, rfl, w3⟩ := boolV_vr r2 w2
        exact ans _ (.bool _) l2 g2 t2 I2 (fun q hq => m2 q (m1 q hq)) w3 (.bool _) S2
    cases o with
    | false =>
      refine BoolOp_and (fst _ fun x l1 g1 t1 I1 m1 w1 S1 => wpAny_truthy_bool ?_)
      cases x with
      | true => exact BoolOp_one (snd l1 g1 t1 I1 m1 w1 S1)
      | false => exact ans _ (.bool false) l1 g1 t1 I1 m1 w1 (.bool _) S1
    | true =>
      refine BoolOp_or (fst _ fun x l1 g1 t1 I1 m1 w1 S1 => wpAny_truthy_bool ?_)
      cases x with
      | false => exact BoolOp_one (snd l1 g1 t1 I1 m1 w1 S1)
      | true => exact ans _ (.bool true) l1 g1 t1 I1 m1 w1 (.bool _) S1
  · have hc1 := band hc
    have hca := band hc1.1
    have hcb := band hc1.2
    have fst : ∀ (Q1 : Bool → Shared → Prop), (∀ x l1 g1 t1 I1, (∀ q ∈ I, q ∈ I1) → (if x = o then Post o l1 else wp WT b l1 fun v2 l2 => boolV v2 fun y => Post y l2) → X.St w g1 l1 I1 → Q1 x { s with heap := g1, toks := t1 }) → wpAny (model pg w) X.A (isTrue (ex G a X.cx) X.env (eval (ex G a X.cx) X.env)) Q1 E s := fun Q1 k =>
      ta X s I loc _ _ E ok hca.1 hca.2 S hw k
    have snd : ∀ (Q1 : Bool → Shared → Prop) l1 g1 t1 I1, (∀ q ∈ I, q ∈ I1) → (wp WT b l1 fun v2 l2 => boolV v2 fun y => Post y l2) → X.St w g1 l1 I1 → (∀ y s', Q y s' → Q1 y s') → wpAny (model pg w) X.A (isTrue (ex G b X.cx) X.env (eval (ex G b X.cx) X.env)) Q1 E { s with heap := g1, toks := t1 } := fun Q1 l1 g1 t1 I1 m1 w1 S1 k =>
      tb X _ I1 l1 Post _ E ok hcb.1 hcb.2 S1 w1 fun y l2 g2 t2 I2 m2 w2 S2 => k _ _ (ans y l2 g2 t2 I2 (fun q hq => m2 q (m1 q hq)) w2 S2)
    cases o with
    | false =>
      refine isTrue_and (fst _ fun x l1 g1 t1 I1 m1 w1 S1 => ?_)
      cases x with
      | true => exact isTrue_and (snd _ l1 g1 t1 I1 m1 w1 S1 fun y s' h => by cases y with | true => exact isTrue_and_nil h | false => exact h)
      | false => exact ans false l1 g1 t1 I1 m1 w1 S1
    | true =>
      refine isTrue_or (fst _ fun x l1 g1 t1 I1 m1 w1 S1 => ?_)
      cases x with
      | false => exact isTrue_or (snd _ l1 g1 t1 I1 m1 w1 S1 fun y s' h => by cases y with | false => exact isTrue_or_nil h | true => exact h)
      | true => exact ans true l1 g1 t1 I1 m1 w1 S1
theorem sound_not (ha : SE w WT G kb ub a) (ta : SB w WT G kb ub a) : SE w WT G kb ub (.not a p) ∧ SB w WT G kb ub (.not a p) :=
  ⟨fun X s I loc Post Q E ok _ hc S hw ans => wpAny_UnaryOp (ha X s I loc _ _ E ok (isTest_val (band hc).1) (band hc).2 S hw fun v p l1 g1 t1 I1 m1 w1 r1 S1 => by
    obtain ⟨x, rfl, rfl, w2⟩ := boolV_vr r1 w1
    exact not_of (wpAny_truthy_bool (ans _ (.bool _) l1 g1 t1 I1 m1 w2 (.bool _) S1))),
   fun X s I loc Post Q E ok _ hc S hw ans => isTrue_not (ta X s I loc _ _ E ok (band hc).1 (band hc).2 S hw fun x l1 g1 t1 I1 m1 w1 S1 => ans (!x) l1 g1 t1 I1 m1 w1 S1)⟩
theorem sound_ite (tc : SB w WT G kb ub c) (ha : SE w WT G kb ub a) (hb : SE w WT G kb ub b) : SE w WT G kb ub (.ite c a b p) := fun X s I loc Post Q E ok _ hc S hw ans => by
  have hc1 := band hc
  have hc2 := band hc1.2
  refine wpAny_IfExp (tc X s I loc _ _ E ok (band hc1.1).1 (band hc1.1).2 S hw fun x l1 g1 t1 I1 m1 w1 S1 => ?_)
  have ans' : X.Ans w Post Q { s with heap := g1, toks := t1 } I1 := fun v p l2 g2 t2 I2 m2 w2 r2 S2 => ans v p l2 g2 t2 I2 (fun q hq => m2 q (m1 q hq)) w2 r2 S2
  cases x with
  | true => exact ha X _ I1 l1 _ _ E ok (band hc2.1).1 (band hc2.1).2 S1 w1 ans'
  | false => exact hb X _ I1 l1 _ _ E ok (band hc2.2).1 (band hc2.2).2 S1 w1 ans'
theorem sound_disp {t : Bool} (ha : SL w WT G kb ub a) : SE w WT G kb ub (.disp t a k p) := fun X s I loc Post Q E ok _ hc S hw ans => by
  have go : ∀ Q1 : List Value → Shared → Prop, (∀ vs ps l1 g1 t1 I1, (∀ q ∈ I, q ∈ I1) → (ps.length ≤ 100 ∧ Post [if t = true then PV.tup ps else PV.lst ps] l1) → VRs w X.src I1 vs ps → X.St w g1 l1 I1 → Q1 vs { s with heap := g1, toks := t1 }) → wpAny (model pg w) X.A (spliced (backTo (P p) (starEach (exs G a X.cx) X.env))) Q1 E s := fun Q1 k1 =>
    ha X (P p) s I loc _ _ E ok (band hc).1 (band hc).2 S hw k1
  cases t with
  | true =>
    refine Tuple_ (go _ fun vs ps l1 g1 t1 I1 m1 w1 r1 S1 => ?_)
    obtain ⟨T, N, sub, put, same⟩ := S1.led
    exact kup_newTuple (s := { s with heap := g1, toks := t1 }) S1.1 N (fun D h' F' N' lt => ans _ (.tup ps) l1 h' t1 (_ :: I1) (fun q hq => .tail _ (m1 q hq)) w1.2 (.tupL (.head _) (r1.mono fun q hq => .tail _ hq)) (put h' _ _ F' N' lt)) (by rw [r1.length, sl_eq]; have := w1.1; omega)
  | false =>
    refine List_ (go _ fun vs ps l1 g1 t1 I1 m1 w1 r1 S1 => ?_)
    obtain ⟨T, N, sub, put, same⟩ := S1.led
    exact newList_K (s := { s with heap := g1, toks := t1 }) S1.1 N (fun D h' F' N' lt => ans _ (.lst ps) l1 h' t1 (_ :: I1) (fun q hq => .tail _ (m1 q hq)) w1.2 (.lstL (.head _) (r1.mono fun q hq => .tail _ hq)) (put h' _ _ F' N' lt)) (by rw [r1.length, sl_eq]; have := w1.1; omega)
theorem ints_of {src : Addr} : ∀ {ns : List Int} {vs : List Value}, VRs w src I vs (ns.map .int) → IntsAre vs ns
  | [], [], _ => .nil
  | [], _ :: _, h => nomatch h.1
  | _ :: _, [], h => nomatch h.1
  | n :: ns, v :: vs, h => by
    obtain ⟨i, t, rfl, e, _⟩ := intV_vr (k := fun _ => True) h.hd trivial
    cases e
    exact .cons _ _ (ints_of h.tl)
/-- a call of a built-in upon one value -/
theorem call1_go (ok : X.Ok w kb ub) (S : X.St w s.heap loc I) (ha : SE w WT G kb ub a) (hc : (isGlob X.cx (fnN f) && (a.isVal && ck G a X.cx)) = true) {bn : String} (hb : bootBuiltins (fnN f) = some (.builtin bn)) (hx : fnN f ≠ "__name__") (hd' : (fnN f == ("__debug__" : Str)) = false)
    (hw : wp WT a loc fun v l => fnV f v fun p => Post [p] l) (k : ∀ v p l1 g1 t1 I1, (∀ q ∈ I, q ∈ I1) → fnV f [p] (fun p => Post [p] l1) → VR w X.src I1 v p → X.St w g1 l1 I1 → wpAny (model pg w) X.A (call (.builtin bn) [v]) Q E { s with heap := g1, toks := t1 }) :
    wpAny (model pg w) X.A (eval (ex G (.call1 f p0 a p1) X.cx) X.env) Q E s :=
  Call_Name rfl (glob_B ok S (band hc).1 hd' (b_fn f) hb hx (callWith_method1 (first := []) (spliced_more (ha X s I loc _ _ E ok (band (band hc).2).1 (band (band hc).2).2 S hw fun v p l1 g1 t1 I1 m1 w1 r1 S1 => spliced_none (k v p l1 g1 t1 I1 m1 w1 r1 S1)) (starEach_plain noStar)) (starEach_plain noStar)))
theorem sound_sum (ha : SE w WT G kb ub a) : SE w WT G kb ub (.call1 0 p0 a p1) := fun X s I loc Post Q E ok _ hc S hw ans =>
  call1_go ok S ha hc rfl (by decide) (by decide) hw fun v p l1 g1 t1 I1 m1 w1 r1 S1 => by
    obtain ⟨ad, vs, n, ps, rfl, rfl, hm, rr, ns, rfl, w2⟩ := lstV_vr r1 w1
    obtain ⟨T, N, sub, put, same⟩ := S1.led
    exact sumK (s := { s with heap := g1, toks := t1 }) ok.hh S1.1 N (N.isList (sub _ hm)) (ints_of rr) fun h' tk t' F' N' => ans _ (.int _) l1 h' tk I1 m1 w2 (.int _ _) (same h' F' N')
end

end --Q6
section --Q7
/-! what gives the turns of a comprehension or a for -/
/-- what a turn hands to the targets: a value, or (pr) a new pair -/
noncomputable def ItemOk (w : World) (src : Addr) (I : Led) (pr : Bool) (v : Value) (p : PV) (h : Heap) : Prop :=
  VR w src I v p ∨ (pr = true ∧ ∃ T x y a b, v = .ref T ∧ p = .tup [a, b] ∧ IsTup h T #[x, y] ∧ VR w src I x a ∧ VR w src I y b)
structure TurnsD (w : World) (src : Addr) (A : Around) (target : PySem.Expr) (pr : Bool) (I0 : Led) (n0 : Nat) (h : Heap) (it : Addr) (items : List PV) where
  fp : List Addr
  wr : List Addr
  P : Nat → Value → Heap → Prop
  Md : Nat → Value → Heap → Prop
  St : Nat → Heap → Prop
  ws : List (Addr × String)
  keep : Led
  W : KTurns pg w A target it fp wr items.length P Md St
  self : ∀ (s : Shared) (Q : Value → Shared → Prop) (E : Value → Shared → Prop), St 0 s.heap → Q (.ref it) s → wpAny (model pg w) A (pyIter (.ref it)) Q E s
  obj : ∀ i h, St i h → ∃ its, Objs ws its ∧ HeldL h its
  fpk : ∀ b ∈ fp, b ∈ ws.map (·.1) ∨ ∃ o, (b, o) ∈ keep
  keepI : ∀ q ∈ keep, q ∈ I0
  wrk : ∀ b ∈ wr, b ∈ ws.map (·.1)
  wsw : ∀ b ∈ ws.map (·.1), b ∈ wr
  new : ∀ b ∈ ws.map (·.1), n0 ≤ b ∧ b < h.objs.size
  nd : (ws.map (·.1)).Nodup
  st0 : St 0 h
  item : ∀ i v h', i < items.length → P i v h' → ∃ p, items[i]? = some p ∧ ItemOk w src I0 pr v p h'
section
variable {w : World} {kb ub : Nat} {X : Kx} {s : Shared} {loc : List PV} {I : Led} {xs : List Str} {K : Value → Shared → Prop} {E : Value → Shared → Prop} {items : List PV} {p1 p2 k p3 : Nat}
theorem src_list {l : Addr} {vs : List Value} {n : Nat} (ok : X.Ok w kb ub) (S : X.St w s.heap loc I) (hm : (l, lisO vs n) ∈ I) (r : VRs w X.src I vs items) {target : PySem.Expr} {pr : Bool}
    (q : ∀ h' it, (∀ b o, s.heap.get? b = some o → h'.get? b = some o) → TurnsD w X.src X.A target pr I s.heap.objs.size h' it items → K (.ref it) { s with heap := h' }) : wpAny (model pg w) X.A (pyIter (.ref l)) K E s := by
  obtain ⟨T, N, sub, _⟩ := S.led
  have hl := N.isList (sub _ hm)
  have hlt : l < s.heap.objs.size := Heap.lt_size (N _ (sub _ hm)).1
  have e : vs.toArray.size = items.length := by rw [List.size_toArray]; exact r.1
  refine wpAny_pyIter_list hl (q _ _ (fun _ _ e => Heap.get?_push_of_some _ e) ?_)
  exact {
    fp := [s.heap.objs.size, l], wr := [s.heap.objs.size], ws := [(s.heap.objs.size, "list_iterator")], keep := [(l, lisO vs n)]
    P := _, Md := _, St := _
    W := e ▸ KTurns.ofWalks (Walks.list ok.hh s.heap.objs.size l (Nat.ne_of_lt hlt) vs.toArray) fun i v s Q E st q => letGo_listiter st.1 q
    self := fun s' Q E st q => (Walks.list ok.hh s.heap.objs.size l (Nat.ne_of_lt hlt) vs.toArray).self 0 s' Q E st q
    obj := fun i h st => by obtain ⟨o, e, hc, _⟩ := st.1; exact ⟨[(_, o)], ⟨⟨rfl, hc⟩, trivial⟩, fun p hp => by rw [List.mem_singleton.mp hp]; exact e⟩
    fpk := fun b hb => by rcases List.mem_cons.mp hb with rfl | hb; exact .inl (.head _); rw [List.mem_singleton.mp hb]; exact .inr ⟨_, .head _⟩
    keepI := fun q hq => by rw [List.mem_singleton.mp hq]; exact hm
    wrk := fun b hb => hb
    wsw := fun b hb => hb
    new := fun b hb => by rw [List.mem_singleton.mp hb]; exact ⟨Nat.le_refl _, by show _ < (s.heap.push _).objs.size; rw [Heap.size_push]; exact Nat.lt_succ_self _⟩
    nd := List.nodup_cons.mpr ⟨(fun h => nomatch h), List.nodup_nil⟩
    st0 := ⟨⟨_, Heap.get?_push_size _ rfl, rfl, rfl⟩, hl.push _⟩
    item := fun i v h' hi hp => by
      have hp : vs[i]? = some v := by simpa using hp
      exact ⟨_, List.getElem?_eq_getElem hi, .inl (r.2 i v _ hp (List.getElem?_eq_getElem hi))⟩ }
theorem src_range {r : Addr} {a b : Int} {t u v : Tok} (ok : X.Ok w kb ub) (hr : IsRange s.heap r a b 1 t u v) (ha : -1000 ≤ a ∧ a ≤ 1000) (hb : -1000 ≤ b ∧ b ≤ 1000) {x : Str} {px : Pos} {pr : Bool} {n0 : Nat} (hn0 : n0 ≤ s.heap.objs.size)
    (q : ∀ h' it, (∀ b o, s.heap.get? b = some o → h'.get? b = some o) → TurnsD w X.src X.A (.Name x px) pr I n0 h' it (rangeL a b) → K (.ref it) { s with heap := h' }) : wpAny (model pg w) X.A (pyIter (.ref r)) K E s := by
  have hlen : (rangeL a b).length = (b - a).toNat := by unfold rangeL; rw [List.length_map, List.length_range]
  refine wpAny_pyIter_range hr (small_one (by omega) (by omega) (by omega) (by omega)) (q _ _ (fun _ _ e => Heap.get?_push_of_some _ e) ?_)
  exact {
    fp := [s.heap.objs.size], wr := [s.heap.objs.size], ws := [(s.heap.objs.size, "range_iterator")], keep := []
    P := _, Md := _, St := _
    W := KTurns.ofWalks (LCg.range_walks (I := s.heap.objs.size) ok.hh a (rangeL a b).length) fun i v s Q E st q => wpAny_pure q
    self := fun s' Q E st q => (LCg.range_walks (I := s.heap.objs.size) ok.hh a (rangeL a b).length).self 0 s' Q E st q
    obj := fun i h st => ⟨[(_, _)], ⟨⟨rfl, rfl⟩, trivial⟩, fun p hp => by rw [List.mem_singleton.mp hp]; exact st⟩
    fpk := fun b hb => .inl hb
    keepI := fun q hq => nomatch hq
    wrk := fun b hb => hb
    wsw := fun b hb => hb
    new := fun b hb => by rw [List.mem_singleton.mp hb]; exact ⟨hn0, by show _ < (s.heap.push _).objs.size; rw [Heap.size_push]; exact Nat.lt_succ_self _⟩
    nd := List.nodup_cons.mpr ⟨(fun h => nomatch h), List.nodup_nil⟩
    st0 := by
      have e : Builtin.Range.rangeSize a b 1 = ((rangeL a b).length : Int) := by rw [rangeSize_nat, hlen]
      have := Heap.get?_push_size s.heap (o := { cls := .type "range_iterator", data := .fields #[rawInt a, rawInt (Builtin.Range.rangeSize a b 1), rawInt 1] }) rfl
      rw [e] at this ⊢
      show IsRangeIter _ _ _ _ _
      unfold IsRangeIter
      rw [show a + ((0 : Nat) : Int) * 1 = a by omega, show ((rangeL a b).length : Int) - ((0 : Nat) : Int) = (rangeL a b).length by omega]
      exact this
    item := fun i v h' hi hp => by
      obtain ⟨t, rfl⟩ := hp
      rw [hlen] at hi
      refine ⟨.int (a + (i : Int)), ?_, .inl (.int _ _)⟩
      unfold rangeL
      rw [List.getElem?_map, List.getElem?_range hi]
      rfl }
theorem enum_get {items : List PV} {i : Nat} (hi : i < items.length) : (enumL items)[i]? = some (.tup [.int (i : Int), items[i]]) := by
  unfold enumL
  rw [List.getElem?_mapIdx, List.getElem?_eq_getElem hi]
  rfl
theorem src_enum {l : Addr} {vs : List Value} {n : Nat} (ok : X.Ok w kb ub) (S : X.St w s.heap loc I) (hm : (l, lisO vs n) ∈ I) (r : VRs w X.src I vs items) {elts : List PySem.Expr} {kk : Nat} {tp : Pos}
    (q : ∀ h' it, (∀ b o, s.heap.get? b = some o → h'.get? b = some o) → TurnsD w X.src X.A (.Tuple elts kk tp) true I s.heap.objs.size h' it (enumL items) → K (.ref it) { s with heap := h' }) :
    wpAny (model pg w) X.A (call (.type "enumerate") [.ref l]) (fun xv s₁ => wpAny (model pg w) X.A (pyIter xv) K E s₁) E s := by
  obtain ⟨T, N, sub, _⟩ := S.led
  have hl := N.isList (sub _ hm)
  have hlt : l < s.heap.objs.size := Heap.lt_size (N _ (sub _ hm)).1
  have e : vs.toArray.size = (enumL items).length := by unfold enumL; rw [List.size_toArray, List.length_mapIdx]; exact r.1
  refine call_enumerate_list hl fun h' hE hI hsz hk => wpAny_pyIter_enum hE (q _ _ hk ?_)
  have WU := (WalksT.enumerate (prog := pg) (w := w) ok.hh (s.heap.objs.size + 1) s.heap.objs.size l (Nat.succ_ne_self _) (ktu_ne 1 hlt) (Nat.ne_of_lt hlt) vs.toArray).toU
  exact {
    fp := [s.heap.objs.size + 1, s.heap.objs.size, l], wr := [s.heap.objs.size + 1, s.heap.objs.size], ws := [(s.heap.objs.size + 1, "enumerate"), (s.heap.objs.size, "list_iterator")], keep := [(l, lisO vs n)]
    P := _, Md := _, St := _
    W := e ▸ KTurns.ofWalksU WU
    self := fun s' Q E st q => WU.self 0 s' Q E st q
    obj := fun i h st => by
      obtain ⟨⟨old, he⟩, ⟨oi, hoi, hic, _⟩, _⟩ := st
      have he' : ∃ oe : Obj, h.get? (s.heap.objs.size + 1) = some oe ∧ oe.cls = .type "enumerate" := ⟨_, he, rfl⟩
      obtain ⟨oe, h1, h2⟩ := he'
      refine ⟨[(s.heap.objs.size + 1, oe), (s.heap.objs.size, oi)], ⟨⟨rfl, h2⟩, ⟨rfl, hic⟩, trivial⟩, fun p hp => ?_⟩
      rcases List.mem_cons.mp hp with rfl | hp
      · exact h1
      · rw [List.mem_singleton.mp hp]; exact hoi
    fpk := fun b hb => by
      rcases List.mem_cons.mp hb with rfl | hb
      · exact .inl (.head _)
      rcases List.mem_cons.mp hb with rfl | hb
      · exact .inl (.tail _ (.head _))
      rw [List.mem_singleton.mp hb]
      exact .inr ⟨_, .head _⟩
    keepI := fun q hq => by rw [List.mem_singleton.mp hq]; exact hm
    wrk := fun b hb => hb
    wsw := fun b hb => hb
    new := fun b hb => by
      rw [hsz]
      rcases List.mem_cons.mp hb with rfl | hb
      · exact ⟨Nat.le_succ _, Nat.lt_succ_self _⟩
      · rw [List.mem_singleton.mp hb]; exact ⟨Nat.le_refl _, Nat.lt_succ_of_lt (Nat.lt_succ_self _)⟩
    nd := List.nodup_cons.mpr ⟨fun h => by rw [List.map_cons, List.map_nil, List.mem_singleton] at h; exact Nat.succ_ne_self _ h, List.nodup_cons.mpr ⟨(fun h => nomatch h), List.nodup_nil⟩⟩
    st0 := ⟨⟨_, hE⟩, hI, by obtain ⟨o, e, r⟩ := hl; exact ⟨o, hk _ _ e, r⟩⟩
    item := fun i v h' hi hp => by
      obtain ⟨T, vals, rfl, ⟨t, x, hx, rfl⟩, hT⟩ := hp
      have hx : vs[i]? = some x := by simpa using hx
      have hi' : i < items.length := by rw [← e, List.size_toArray, r.1] at hi; exact hi
      exact ⟨_, enum_get hi', .inr ⟨rfl, T, _, _, _, _, rfl, rfl, hT, .int _ _, r.2 i x _ hx (List.getElem?_eq_getElem hi')⟩⟩ }
variable {WT : Nat → List PV → (PV → Prop) → Prop} {G : List GE}
/-- a source's turns, soundly -/
noncomputable def SS (w : World) (WT : Nat → List PV → (PV → Prop) → Prop) (G : List GE) (kb ub : Nat) (c : CE) : Prop := ∀ (X : Kx) (s : Shared) (I : Led) (loc : List PV) (xs : List Str) (p1 p2 k p3 : Nat) (Post : List PV → List PV → Prop) (K E : Value → Shared → Prop),
  X.Ok w kb ub → c.okSrc xs = true → ck G c X.cx = true → X.St w s.heap loc I → wp WT c loc (fun v l => lstV v fun items => Post items l) →
  (∀ items l1 h1 tk I1 n0 h' it, (∀ q ∈ I, q ∈ I1) → Post items l1 → X.St w h1 l1 I1 → h1.objs.size = n0 → (∀ b o, h1.get? b = some o → h'.get? b = some o) → TurnsD w X.src X.A (tgtE xs p1 p2 k p3) (Nat.beq xs.length 2) I1 n0 h' it items → K (.ref it) { s with heap := h', toks := tk }) →
  wpAny (model pg w) X.A (eval (ex G c X.cx) X.env) (fun xv s₁ => wpAny (model pg w) X.A (pyIter xv) K E s₁) E s
theorem ss_val {c : CE} (hv : c.isVal = true) (h : SE w WT G kb ub c) : SS w WT G kb ub c := fun X s I loc xs p1 p2 k p3 Post K E ok _ hc S hw q =>
  h X s I loc _ _ E ok hv hc S hw fun v p l1 h1 t1 I1 m1 w1 r1 S1 => by
    obtain ⟨ad, vs, n, ps, rfl, rfl, hm, rr, w2⟩ := lstV_vr r1 w1
    exact src_list (s := { s with heap := h1, toks := t1 }) ok S1 hm rr fun h' it up t => q ps l1 h1 t1 I1 _ h' it m1 w2 S1 rfl up t
theorem tgt1 {xs : List Str} (h : Nat.beq xs.length 1 = true) : ∃ x, xs = [x] := by
  match xs, h with
  | [x], _ => exact ⟨x, rfl⟩
theorem tgt2 {xs : List Str} (h : Nat.beq xs.length 2 = true) : ∃ x y, xs = [x, y] := by
  match xs, h with
  | [x, y], _ => exact ⟨x, y, rfl⟩
theorem Kx.St.more (S : X.St w s.heap loc I) {h' : Heap} (up : ∀ b o, s.heap.get? b = some o → h'.get? b = some o) : X.St w h' loc I := by
  obtain ⟨T, N, _, _, same⟩ := S.led
  exact same h' (S.1.keeps up) (N.grown up)
theorem ss_range1 {a : CE} {p0 p : Nat} (ha : SE w WT G kb ub a) : SS w WT G kb ub (.call1 2 p0 a p) := fun X s I loc xs p1 p2 k p3 Post K E ok hx hc S hw q => by
  obtain ⟨x, rfl⟩ := tgt1 hx
  have hc1 := band hc
  have hw : wp WT a loc fun v l => intV v fun n => (-1000 ≤ n ∧ n ≤ 1000) ∧ Post (rangeL 0 n) l := hw
  refine Call_Name rfl (glob_B ok S hc1.1 (by decide) (b_fn 2) (v := .type "range") rfl (by decide) (PyProof.Rows.callWith_type1 (spliced_more (ha X s I loc _ _ E ok (band hc1.2).1 (band hc1.2).2 S hw fun v p l1 h1 t1 I1 m1 w1 r1 S1 => spliced_none ?_) (starEach_plain noStar)) (starEach_plain noStar)))
  obtain ⟨n, t, rfl, rfl, hn, w2⟩ := intV_vr r1 w1
  obtain ⟨T, N, _⟩ := S1.led
  refine range1_rows (s := { s with heap := h1, toks := t1 }) S1.1 N fun h2 tk t₁ u₁ v₁ hr F2 N2 up => ?_
  have S2 := S1.more (s := { s with heap := h1, toks := t1 }) up
  exact src_range (s := { s with heap := h2, toks := tk }) ok hr ⟨by omega, by omega⟩ hn (Nat.le_refl _) fun h' it up' t => q _ l1 h2 tk I1 _ h' it m1 w2 S2 rfl up' t
theorem ss_range2 {a b : CE} {p0 p : Nat} (ha : SE w WT G kb ub a) (hb : SE w WT G kb ub b) : SS w WT G kb ub (.range2 p0 a b p) := fun X s I loc xs p1 p2 k p3 Post K E ok hx hc S hw q => by
  obtain ⟨x, rfl⟩ := tgt1 hx
  have hc1 := band hc
  have hc2 := band hc1.2
  have hw : wp WT a loc fun v l1 => wp WT b l1 fun v2 l2 => intV v fun x => intV v2 fun y => (-1000 ≤ x ∧ x ≤ 1000 ∧ -1000 ≤ y ∧ y ≤ 1000) ∧ Post (rangeL x y) l2 := hw
  refine Call_Name rfl (glob_B ok S hc1.1 (by decide) (b_fn 2) (v := .type "range") rfl (by decide) (PyProof.Rows.callWith_type1 (spliced_more (ha X s I loc _ _ E ok (band hc2.1).1 (band hc2.1).2 S hw fun v p l1 h1 t1 I1 m1 w1 r1 S1 =>
    spliced_more (hb X _ I1 l1 _ _ E ok (band hc2.2).1 (band hc2.2).2 S1 w1 fun v2 p2 l2 h2 t2 I2 m2 w2 r2 S2 => spliced_none ?_) (starEach_plain noStar)) (starEach_plain noStar)) (starEach_plain noStar) (plain_of (G := G) (.cons b .nil))))
  obtain ⟨x, t, rfl, rfl, w3⟩ := intV_vr r1 w2
  obtain ⟨y, u, rfl, rfl, hn, w4⟩ := intV_vr r2 w3
  obtain ⟨T, N, _⟩ := S2.led
  refine range2_rows (s := { s with heap := h2, toks := t2 }) S2.1 N fun h3 tk t₁ u₁ v₁ hr F2 N2 up => ?_
  have S3 := S2.more (s := { s with heap := h2, toks := t2 }) up
  exact src_range (s := { s with heap := h3, toks := tk }) ok hr ⟨hn.1, hn.2.1⟩ ⟨hn.2.2.1, hn.2.2.2⟩ (Nat.le_refl _) fun h' it up' t => q _ l2 h3 tk I2 _ h' it (fun q hq => m2 q (m1 q hq)) w4 S3 rfl up' t
theorem ss_enum {a : CE} {f p0 p : Nat} (ha : SE w WT G kb ub a) : SS w WT G kb ub (.call1 (f + 3) p0 a p) := fun X s I loc xs p1 p2 k p3 Post K E ok hx hc S hw q => by
  obtain ⟨x, y, rfl⟩ := tgt2 hx
  have hc1 := band hc
  have hw : wp WT a loc fun v l => lstV v fun ps => Post (enumL ps) l := hw
  refine Call_Name rfl (glob_B ok S hc1.1 (by show ((Str.ofString "enumerate") == _) = _; decide) (b_fn (f + 3)) (v := .type "enumerate") rfl (by show Str.ofString "enumerate" ≠ _; decide) (PyProof.Rows.callWith_type1 (spliced_more (ha X s I loc _ _ E ok (band hc1.2).1 (band hc1.2).2 S hw fun v p l1 h1 t1 I1 m1 w1 r1 S1 => spliced_none ?_) (starEach_plain noStar)) (starEach_plain noStar)))
  obtain ⟨ad, vs, n, ps, rfl, rfl, hm, rr, w2⟩ := lstV_vr r1 w1
  exact src_enum (s := { s with heap := h1, toks := t1 }) ok S1 hm rr fun h' it up t => q _ l1 h1 t1 I1 _ h' it m1 w2 S1 rfl up t
end

end --Q7
section --Q8
/-! scopes of comprehensions -/
theorem clos_go {env : Env} : ∀ (l : List (Str × NameKind)) (acc : List (Str × Addr)), (∀ y ∈ l, y.2 = .free → ∃ c, env.cells.lookup y.1 = some c) → (∀ p ∈ acc, env.cells.lookup p.1 = some p.2) →
    ∃ cl : List (Str × Addr), (forIn l acc fun (y : Str × NameKind) cs => if (y.2 == .free) = true then do let c ← cellOf env y.1; pure (ForInStep.yield ((y.1, c) :: cs)) else pure (ForInStep.yield cs) : Sem (List (Str × Addr))) = pure cl ∧
      (∀ p ∈ cl, env.cells.lookup p.1 = some p.2) ∧ (∀ p ∈ acc, p ∈ cl) ∧ ∀ y ∈ l, y.2 = .free → ∃ c, (y.1, c) ∈ cl
  | [], acc, _, h2 => ⟨acc, rfl, h2, fun _ h => h, fun _ h => nomatch h⟩
  | y :: l, acc, h1, h2 => by
    rw [List.forIn_cons]
    by_cases hy : (y.2 == .free) = true
    · obtain ⟨c, hc⟩ := h1 y (.head _) (beq_iff_eq.mp hy)
      obtain ⟨cl, e, a, b, d⟩ := clos_go l ((y.1, c) :: acc) (fun z hz => h1 z (.tail _ hz)) fun p hp => by
        rcases List.mem_cons.mp hp with rfl | hp
        · exact hc
        · exact h2 p hp
      refine ⟨cl, ?_, a, fun p hp => b p (.tail _ hp), fun z hz hf => ?_⟩
      · rw [if_pos hy, ← e]
        unfold cellOf
        rw [hc]
        rfl
      · rcases List.mem_cons.mp hz with rfl | hz
        · exact ⟨c, b _ (.head _)⟩
        · exact d z hz hf
    · obtain ⟨cl, e, a, b, d⟩ := clos_go l acc (fun z hz => h1 z (.tail _ hz)) h2
      refine ⟨cl, ?_, a, b, fun z hz hf => ?_⟩
      · rw [if_neg hy, ← e]
        rfl
      · rcases List.mem_cons.mp hz with rfl | hz
        · exact absurd (beq_iff_eq.mpr hf) hy
        · exact d z hz hf
theorem look_of {cl : List (Str × Addr)} {x : Str} {c : Addr} {f : Str → Option Addr} (h : ∀ p ∈ cl, f p.1 = some p.2) (hx : f x = some c) (hm : ∃ c, (x, c) ∈ cl) : cl.lookup x = some c := by
  induction cl with
  | nil => obtain ⟨_, h⟩ := hm; cases h
  | cons p r ih =>
    obtain ⟨y, d⟩ := p
    rw [List.lookup_cons]
    by_cases hxy : (x == y) = true
    · rw [hxy]
      obtain rfl := beq_iff_eq.mp hxy
      exact (h _ (.head _)).symm.trans hx
    · have hf : (x == y) = false := Bool.eq_false_iff.mpr hxy
      rw [hf]
      refine ih (fun p hp => h p (.tail _ hp)) ?_
      obtain ⟨c', hc⟩ := hm
      rcases List.mem_cons.mp hc with e | hc
      · cases e; exact absurd (beq_self_eq_true _) hxy
      · exact ⟨c', hc⟩
theorem clos_ok {scope : Scope} {env : Env} (h : ∀ y ∈ scope.names, y.2 = .free → ∃ c, env.cells.lookup y.1 = some c) : ∃ cl, closureFor scope env = pure cl ∧ ∀ x c, (x, NameKind.free) ∈ scope.names → env.cells.lookup x = some c → cl.lookup x = some c := by
  obtain ⟨cl, e, a, _, d⟩ := clos_go scope.names [] h fun _ h => nomatch h
  refine ⟨cl, ?_, fun x c hx hc => look_of (f := fun x => env.cells.lookup x) a hc (d _ hx rfl)⟩
  show ((forIn scope.names [] fun (y : Str × NameKind) cs => if (y.2 == .free) = true then do let c ← cellOf env y.1; pure (ForInStep.yield ((y.1, c) :: cs)) else pure (ForInStep.yield cs) : Sem (List (Str × Addr))) >>= fun cs => pure cs) = pure cl
  rw [e]
  rfl
theorem lookup_relabel {scope : Scope} {env : Env} {x : Str} {k : NameKind} (h : scope.names.lookup x = some k) : (relabel scope env).names.lookup x = some (if (k == .free && env.scope.kind == .function && env.kindOf x == some .cell) = true then .cell else k) := by
  unfold relabel
  dsimp only
  generalize scope.names = l at h
  induction l with
  | nil => cases h
  | cons p r ih =>
    obtain ⟨y, d⟩ := p
    rw [List.lookup_cons] at h
    rw [List.map_cons]
    by_cases hxy : (x == y) = true
    · rw [hxy] at h
      cases h
      obtain rfl := beq_iff_eq.mp hxy
      dsimp only
      split <;> rw [List.lookup_cons, beq_self_eq_true]
    · have hf : (x == y) = false := Bool.eq_false_iff.mpr hxy
      rw [hf] at h
      dsimp only
      split <;> rw [List.lookup_cons, hf] <;> exact ih h
theorem cells_filter : ∀ (l : List (Str × NameKind)) (n : Nat) (cl : List (Str × Addr)), cellsFrom n l cl = cellsFrom n (l.filter (·.2 == .cell)) cl
  | [], _, _ => rfl
  | (y, k) :: l, n, cl => by
    unfold cellsFrom
    by_cases hk : (k == .cell) = true
    · rw [if_pos hk, List.filter_cons_of_pos (by exact hk), cells_filter l]
      show _ = (if (k == .cell) = true then _ else _)
      rw [if_pos hk]
    · rw [if_neg hk, List.filter_cons_of_neg (by exact hk), cells_filter l]
      cases List.filter (fun x => x.2 == .cell) l <;> rfl
theorem push_filter : ∀ (l : List (Str × NameKind)) (h : Heap), pushCells h l = pushCells h (l.filter (·.2 == .cell))
  | [], _ => rfl
  | (y, k) :: l, h => by
    unfold pushCells
    by_cases hk : (k == .cell) = true
    · rw [if_pos hk, List.filter_cons_of_pos (by exact hk), push_filter l]
      show _ = (if (k == .cell) = true then _ else _)
      rw [if_pos hk]
    · rw [if_neg hk, List.filter_cons_of_neg (by exact hk), push_filter l]
      cases List.filter (fun x => x.2 == .cell) l <;> rfl
section
variable {w : World} {src : Addr} {env : Env} {L : Addr} {I R : Led} {m : Str → Option Value} {ns ns' : List Str} {ps ps' : List PV} {M M' : Led}
theorem LR.app (h : LR w src env L I R m ns ps M) (h' : LR w src env L I R m ns' ps' M') : LR w src env L I R m (ns ++ ns') (ps ++ ps') (M ++ M') := by
  induction h with
  | nil => exact h'
  | cons a _ ih => rw [List.append_assoc]; exact .cons a ih
end
theorem tgt_shape {xs : List Str} {p : PV} {K : List PV → Prop} (h : tgtV xs p K) : (∃ x, xs = [x]) ∨ ∃ x y a b, xs = [x, y] ∧ p = .tup [a, b] := by
  unfold tgtV at h
  split at h
  · exact .inl ⟨_, rfl⟩
  · exact .inr ⟨_, _, _, _, rfl, rfl⟩
  · exact h.elim
section
variable {w : World} {kb ub : Nat} {X : Kx} {h : Heap} {loc : List PV} {I : Led}
/-- the variables that a comprehension reads, as it reads them -/
theorem capture (ok : X.Ok w kb ub) {M Sx : Led} (F : Fr X.h₀ X.L h X.m) (lr : LR w X.src X.env X.L I X.R X.m X.cx.ns loc M) : ∀ (caps : List Nat) (K : List PV → Prop), capV loc caps K → (∀ x ∈ caps.map X.cx.nm, X.cx.sc.names.lookup x = some .cell) →
    ∃ cs, K cs ∧ (∀ x ∈ caps.map X.cx.nm, ∃ c, X.env.cells.lookup x = some c) ∧ ∀ env' R' Ik m', (∀ x ∈ caps.map X.cx.nm, env'.kindOf x = some .cell ∧ ∀ c, X.env.cells.lookup x = some c → env'.cells.lookup x = some c) → (∀ q ∈ M ++ X.R, q ∈ R') → (∀ q ∈ I, q ∈ Ik) →
      LR w X.src env' X.L Ik R' m' (caps.map X.cx.nm) cs []
  | [], K, hw, _ => ⟨[], hw, fun _ h => (nomatch h), fun _ _ _ _ _ _ _ => .nil⟩
  | i :: r, K, hw, hc => by
    unfold capV at hw
    suffices go : ∀ p, loc[i]? = some p → p ≠ .unb → (∀ l, p ≠ .acc l) → capV loc r (fun l => K (p :: l)) → ∃ cs, K cs ∧ (∀ x ∈ (i :: r).map X.cx.nm, ∃ c, X.env.cells.lookup x = some c) ∧ ∀ env' R' Ik m', (∀ x ∈ (i :: r).map X.cx.nm, env'.kindOf x = some .cell ∧ ∀ c, X.env.cells.lookup x = some c → env'.cells.lookup x = some c) → (∀ q ∈ M ++ X.R, q ∈ R') → (∀ q ∈ I, q ∈ Ik) → LR w X.src env' X.L Ik R' m' ((i :: r).map X.cx.nm) cs [] by
      split at hw
      · exact hw.elim
      · exact hw.elim
      · exact hw.elim
      · rename_i p h1 h2 hp
        exact go p hp h1 h2 hw
    intro p hp h1 h2 hw
    obtain ⟨x, M1, M0, hx, pm, b, _⟩ := lr.lens ok.nd.1 hp
    have ex : X.cx.nm i = x := by unfold Cx.nm; rw [List.getD_eq_getElem?_getD, hx]; rfl
    obtain ⟨cs, hk, ce, q⟩ := capture ok (Sx := Sx) F lr r _ hw fun x hx => hc x (.tail _ hx)
    have kc : X.env.kindOf x = some .cell := by unfold Env.kindOf; rw [ok.sc, ← ex]; exact hc _ (.head _)
    have sub : ∀ q ∈ M1, q ∈ M := fun q hq => pm.mem_iff.mpr (List.mem_append_left _ hq)
    have key : ∃ c o v, X.env.cells.lookup x = some c ∧ (c, o) ∈ M ++ X.R ∧ o.data = .cell (some v) ∧ VR w X.src I v p := by
      cases b with
      | unF a => exact (h1 rfl).elim
      | unC a => exact (h1 rfl).elim
      | fr a => cases a.symm.trans kc
      | ce a b c d => exact ⟨_, _, _, b, List.mem_append_left _ (sub _ (.head _)), c, d⟩
      | ac a => exact (h2 _ rfl).elim
      | roN a => cases a.symm.trans kc
      | roC a b c d e => exact ⟨_, _, _, b, List.mem_append_right _ c, d, e⟩
    obtain ⟨c, o, v, k1, k2, k3, k4⟩ := key
    refine ⟨p :: cs, hk, fun y hy => ?_, fun env' R' Ik m' he hR hI => ?_⟩
    · rcases List.mem_cons.mp hy with rfl | hy
      · exact ⟨c, ex ▸ k1⟩
      · exact ce y hy
    · have h0 := he (X.cx.nm i) (.head _)
      rw [ex] at h0
      rw [List.map_cons, ex]
      exact .cons (M1 := []) (.roC h0.1 (h0.2 c k1) (hR _ k2) k3 (k4.mono hI)) (q env' R' Ik m' (fun y hy => he y (.tail _ hy)) hR hI)
end

end --Q8
section --Q9
theorem mem_of_lookup {l : List (Str × NameKind)} {x : Str} {k : NameKind} (h : l.lookup x = some k) : (x, k) ∈ l := by
  induction l with
  | nil => cases h
  | cons p r ih =>
    obtain ⟨y, d⟩ := p
    rw [List.lookup_cons] at h
    by_cases hxy : (x == y) = true
    · rw [hxy] at h
      cases h
      rw [beq_iff_eq.mp hxy]
      exact .head _
    · have hf : (x == y) = false := Bool.eq_false_iff.mpr hxy
      rw [hf] at h
      exact .tail _ (ih h)
/-- what the look at a comprehension's scope says -/
structure ScOk (cx : Cx) (scope : Scope) (xs caps : List Str) (c : Bool) : Prop where
  kd : scope.kind = .function
  nm : ∀ y ∈ scope.names, (y.2 = .local → scope.names.lookup y.1 = some .local) ∧ (y.2 = .free → y.1 ∈ caps)
  fl : scope.names.filter (·.2 == .cell) = if c = true then [(xs.headD "", .cell)] else []
  loc : c = false → ∀ x ∈ xs, scope.names.lookup x = some .local
  cel : c = true → ∃ x, xs = [x] ∧ scope.names.lookup x = some .cell
  fr : ∀ x ∈ caps, scope.names.lookup x = some .free ∧ cx.sc.names.lookup x = some .cell
  nd : (xs ++ caps).Nodup
  db : ∀ x ∈ xs, (x == ("__debug__" : Str)) = false
theorem scOk_of {cx : Cx} {scope : Scope} {xs caps : List Str} (h : compSc cx scope xs caps = true) : ∃ c, ScOk cx scope xs caps c := by
  unfold compSc at h
  have h1 := band h
  have h2 := band h1.2
  have h3 := band h2.2
  have h4 := band h3.2
  have h5 := band h4.2
  have kd := beq_iff_eq.mp h1.1
  have nm : ∀ y ∈ scope.names, (y.2 = .local → scope.names.lookup y.1 = some .local) ∧ (y.2 = .free → y.1 ∈ caps) := fun y hy => by
    have := List.all_eq_true.mp h2.1 y hy
    rcases Bool.or_eq_true_iff.mp this with q | q
    · exact ⟨fun _ => beq_iff_eq.mp (band q).2, fun e => by have := beq_iff_eq.mp (band q).1; rw [this] at e; cases e⟩
    rcases Bool.or_eq_true_iff.mp q with q | q
    · exact ⟨fun e => (by have := beq_iff_eq.mp (band q).1; rw [this] at e; cases e), fun _ => List.contains_iff_mem.mp (band q).2⟩
    · rcases Bool.or_eq_true_iff.mp q with q | q
      · exact ⟨fun e => (by have := beq_iff_eq.mp q; rw [this] at e; cases e), fun e => (by have := beq_iff_eq.mp q; rw [this] at e; cases e)⟩
      · exact ⟨fun e => (by have := beq_iff_eq.mp q; rw [this] at e; cases e), fun e => (by have := beq_iff_eq.mp q; rw [this] at e; cases e)⟩
  have fr : ∀ x ∈ caps, scope.names.lookup x = some .free ∧ cx.sc.names.lookup x = some .cell := fun x hx => by
    have := band (List.all_eq_true.mp h4.1 x hx)
    exact ⟨beq_iff_eq.mp this.1, beq_iff_eq.mp this.2⟩
  have nd := of_decide_eq_true h5.2
  have db : ∀ x ∈ xs, (x == ("__debug__" : Str)) = false := fun x hx => Bool.not_eq_true' _ ▸ List.all_eq_true.mp h5.1 x hx
  rcases Bool.or_eq_true_iff.mp h3.1 with q | q
  · exact ⟨false, kd, nm, beq_iff_eq.mp (band q).1, fun _ x hx => beq_iff_eq.mp (List.all_eq_true.mp (band q).2 x hx), (fun h => nomatch h), fr, nd, db⟩
  · match xs, q with
    | [x], q => exact ⟨true, kd, nm, beq_iff_eq.mp (band q).1, (fun h => nomatch h), fun _ => ⟨x, rfl, beq_iff_eq.mp (band q).2⟩, fr, nd, db⟩
section
variable {w : World} {kb ub : Nat} {X : Kx} {cx : Cx} {sc : Scope} {xs caps : List Str} {c : Bool} {cl : List (Str × Addr)} {env : Env}
theorem ScOk.cells (o : ScOk cx sc xs caps c) (k : Nat) : cellsFrom k sc.names cl = if c = true then (xs.headD "", k) :: cl else cl := by
  rw [cells_filter, o.fl]
  cases c <;> rfl
theorem ScOk.push (o : ScOk cx sc xs caps c) (h : Heap) : pushCells h sc.names = if c = true then h.push { cls := .type "cell", data := .cell none } else h := by
  rw [push_filter, o.fl]
  cases c <;> rfl
/-- the targets' names, as the inner text reads them -/
noncomputable def TgtOk (w : World) (src : Addr) (L : Addr) (I0 : Led) (xs : List Str) (c : Bool) (sc : Scope) (cl : List (Str × Addr)) (env : Env) (C : Addr) (p : PV) (ol : Led) : Prop :=
  ∃ ts, (∀ K, tgtV xs p K → K ts) ∧ ol.map (·.1) = (if c = true then [C, C + 1] else [C]) ∧ ∀ R' Ik m, (∀ q ∈ ol, q ∈ R') → (∀ q ∈ I0, q ∈ Ik) → LR w src (compEnvC sc (if c = true then (xs.headD "", C + 1) :: cl else cl) C env) L Ik R' m xs ts []
theorem tgt_asg {s : Shared} {E : Value → Shared → Prop} {Q : Unit → Shared → Prop} {A : Around} {src : Addr} {L : Addr} {I : Led} {C : Addr} {p : PV} {v : Value} {ol : Led} {K : List PV → Prop} {p1 p2 k p3 : Nat} (hh : A.handled = none) (o : ScOk cx sc xs caps c)
    (hp : tgtV xs p K) (hi : ItemOk w src I (Nat.beq xs.length 2) v p s.heap) (hI : HeldL s.heap I) (pv : PvK C c ol) (held : HeldL s.heap ol)
    (q : ∀ h' tk ol', TgtOk w src L I xs c sc cl env C p ol' → PvK C c ol' → HeldL h' ol' → (∀ b o, b ∉ ol.map (·.1) → s.heap.get? b = some o → h'.get? b = some o) → Q () { s with heap := h', toks := tk }) :
    wpAny (model pg w) A (assign (tgtE xs p1 p2 k p3) (compEnvC sc (if c = true then (xs.headD "", C + 1) :: cl else cl) C env) v) Q E s := by
  have hk2 : ((compEnvC sc (if c = true then (xs.headD "", C + 1) :: cl else cl) C env).scope.kind == .class || ((compEnvC sc (if c = true then (xs.headD "", C + 1) :: cl else cl) C env).scope.kind == .module && (compEnvC sc (if c = true then (xs.headD "", C + 1) :: cl else cl) C env).locals != (compEnvC sc (if c = true then (xs.headD "", C + 1) :: cl else cl) C env).globals)) = false := by
    show (sc.kind == .class || (sc.kind == .module && _)) = false
    rw [o.kd]; rfl
  cases c with
  | true =>
    obtain ⟨x, rfl, hx⟩ := o.cel rfl
    have hv : VR w src I v p := hi.elim id fun h => nomatch h.1
    obtain ⟨oC, m₀, hns, oc, v₀, hoc, rfl⟩ := pv
    have kx : (compEnvC sc ((x, C + 1) :: cl) C env).kindOf x = some .cell := by
      have := lookup_relabel (env := env) hx
      exact this
    refine wpAny_assign_Name (wpAny_storeName_cell (c := C + 1) (v₀ := v₀) (by show sc.kind = _; exact o.kd) kx (by show List.lookup x ((x, C + 1) :: cl) = _; rw [List.lookup_cons, beq_self_eq_true]) ⟨oc, held _ (.tail _ (.head _)), hoc⟩ fun h₃ hn₃ hs₃ => ?_)
    obtain ⟨oc', e, hoc'⟩ := hn₃
    refine q h₃ _ [(C, oC), (C + 1, oc')] ⟨[p], fun K h => h, rfl, fun R' Ik m hR hI' => .cons (M1 := []) (.roC kx (by show List.lookup x ((x, C + 1) :: cl) = _; rw [List.lookup_cons, beq_self_eq_true]) (hR _ (.tail _ (.head _))) hoc' (hv.mono hI')) .nil⟩ ⟨oC, _, hns, oc', _, hoc', rfl⟩ (fun p hp => ?_) fun b o hb e => hs₃.extBut b o (fun q => hb (q ▸ .tail _ (.head _))) e
    rcases List.mem_cons.mp hp with rfl | hp
    · exact hs₃.extBut _ _ (Nat.ne_of_lt (Nat.lt_succ_self _)) (held _ (.head _))
    · rw [List.mem_singleton.mp hp]; exact e
  | false =>
    obtain ⟨oC, m₀, hns, rfl⟩ := pv
    have kl : ∀ x ∈ xs, (compEnvC sc cl C env).kindOf x = some .local := fun x hx => lookup_relabel (env := env) (o.loc rfl x hx)
    rcases tgt_shape hp with ⟨x, rfl⟩ | ⟨x, y, a, b, rfl, rfl⟩
    · have hv : VR w src I v p := hi.elim id fun h => nomatch h.1
      refine wpAny_assign_Name (wpAny_storeName_local (kl x (.head _)) (hns.ns (held _ (.head _))) (fun h₃ hn₃ hs₃ => ?_) hk2)
      obtain ⟨oC', e, hns'⟩ := LCg.ns_obj hn₃
      exact q h₃ _ [(C, oC')] ⟨[p], fun K h => h, rfl, fun R' Ik m hR hI' => .cons (M1 := []) (.roN (kl x (.head _)) (hR _ (.head _)) hns' (if_pos rfl) (hv.mono hI')) .nil⟩ ⟨oC', _, hns', rfl⟩ (fun p hp => by rw [List.mem_singleton.mp hp]; exact e) fun b o hb e => hs₃.extBut b o (fun q => hb (q ▸ .head _)) e
    · have key : ∃ T x' y', v = .ref T ∧ IsTup s.heap T #[x', y'] ∧ VR w src I x' a ∧ VR w src I y' b := by
        rcases hi with hv | ⟨_, T, x', y', a', b', e1, e2, ht, r1, r2⟩
        · obtain ⟨T, vs, n, _, rfl, e, hm, rr, _⟩ := tupV_vr (k := fun _ => True) hv trivial
          cases e
          match vs, rr with
          | [x', y'], rr => exact ⟨T, x', y', rfl, ⟨_, hI _ hm, rfl, _, rfl⟩, rr.hd, rr.tl.hd⟩
          | [], rr => exact nomatch rr.1
          | [_], rr => exact nomatch rr.1
          | _ :: _ :: _ :: _, rr => exact nomatch rr.1
        · cases e2
          exact ⟨T, x', y', e1, ht, r1, r2⟩
      obtain ⟨T, x', y', rfl, ht, r1, r2⟩ := key
      have hxy : x ≠ y := fun e => (List.nodup_cons.mp o.nd).1 (e ▸ .head _)
      refine kcp_assign hh ht (kl x (.head _)) (kl y (.tail _ (.head _))) hk2 (hns.ns (held _ (.head _))) fun h₃ tk hn₃ hs₃ => ?_
      obtain ⟨oC', e, hns'⟩ := LCg.ns_obj hn₃
      refine q h₃ tk [(C, oC')] ⟨[a, b], fun K h => h, rfl, fun R' Ik m hR hI' => .cons (M1 := []) (.roN (kl x (.head _)) (hR _ (.head _)) hns' (v := x') ?_ (r1.mono hI')) (.cons (M1 := []) (.roN (kl y (.tail _ (.head _))) (hR _ (.head _)) hns' (if_pos rfl) (r2.mono hI')) .nil)⟩ ⟨oC', _, hns', rfl⟩ (fun p hp => by rw [List.mem_singleton.mp hp]; exact e) fun b o hb e => hs₃ b o (fun q => hb (q ▸ .head _)) e
      show (if x = y then _ else if x = x then _ else _) = _
      rw [if_neg hxy, if_pos rfl]
end

end --Q9
section --Q10
theorem nodup_app {a b : Led} : ((a ++ b).map (·.1)).Nodup ↔ (a.map (·.1)).Nodup ∧ (b.map (·.1)).Nodup ∧ ∀ p ∈ a, ∀ q ∈ b, p.1 ≠ q.1 := by
  rw [List.map_append, List.nodup_append]
  refine and_congr Iff.rfl (and_congr Iff.rfl ⟨fun h p hp q hq => h _ (List.mem_map.mpr ⟨p, hp, rfl⟩) _ (List.mem_map.mpr ⟨q, hq, rfl⟩), fun h x hx y hy => ?_⟩)
  obtain ⟨p, hp, rfl⟩ := List.mem_map.mp hx
  obtain ⟨q, hq, rfl⟩ := List.mem_map.mp hy
  exact h p hp q hq
theorem compL_nil {turn : PV → (Option PV → Prop) → Prop} {ys : List PV} {Q : List PV → Prop} (h : compL turn [] ys Q) : Q ys := h
section
variable {w : World} {WT : Nat → List PV → (PV → Prop) → Prop} {G : List GE} {kb ub : Nat} {X : Kx} {s : Shared} {h1 : Heap} {loc : List PV} {I : Led} {xs : List Str} {E : Value → Shared → Prop} {items : List PV} {p1 p2 k p3 : Nat} {sc : Scope} {caps : List Nat} {cond elt : CE} {c : Bool} {cl : List (Str × Addr)}
/-- the frame of a comprehension's own text -/
noncomputable def Kx.innerX (X : Kx) (xs : List Str) (caps : List Nat) (sc : Scope) (c : Bool) (cl : List (Str × Addr)) (C : Addr) (R : Led) : Kx :=
  { X with cx := X.cx.inner xs caps sc, env := compEnvC sc (if c = true then (xs.headD "", C + 1) :: cl else cl) C X.env, R := R }
theorem inner_ok (ok : X.Ok w kb ub) (o : ScOk X.cx sc xs (caps.map X.cx.nm) c) (hb : ∀ i ∈ caps, i < X.cx.ns.length) (C : Addr) (R : Led) : (X.innerX xs caps sc c cl C R).Ok w kb ub where
  sc := by show relabel sc X.env = relabelS sc X.cx.sc; rw [← ok.sc]; rfl
  gl := ok.gl
  kd := o.kd
  nd := ⟨o.nd, fun x hx => by
    rcases List.mem_append.mp hx with hx | hx
    · exact o.db x hx
    · obtain ⟨i, hi, rfl⟩ := List.mem_map.mp hx
      refine ok.nd.2 _ ?_
      unfold Cx.nm
      rw [List.getD_eq_getElem?_getD, List.getElem?_eq_getElem (hb i hi)]
      exact List.getElem_mem _⟩
  fc := ok.fc
theorem comp_core (ok : X.Ok w kb ub) (o : ScOk X.cx sc xs (caps.map X.cx.nm) c) (hb : ∀ i ∈ caps, i < X.cx.ns.length) {M Sx : Led} (F1 : Fr X.h₀ X.L h1 X.m) (lr : LR w X.src X.env X.L I X.R X.m X.cx.ns loc M) (lo : LedOk X.h₀ X.L h1 (M ++ (Sx ++ (I ++ X.R))))
    (up : ∀ b o, h1.get? b = some o → s.heap.get? b = some o) (t : TurnsD w X.src X.A (tgtE xs p1 p2 k p3) (Nat.beq xs.length 2) I h1.objs.size s.heap it items)
    (he : SE w WT G kb ub elt) (he1 : elt.isVal = true) (he2 : ck G elt (X.cx.inner xs caps sc) = true) (hc : Nat.beq cond.kd 0 = true ∨ (SB w WT G kb ub cond ∧ cond.isTest = true)) (hc2 : ck G cond (X.cx.inner xs caps sc) = true) {Post : List PV → Prop}
    (hcl : ∀ x c, (x, NameKind.free) ∈ sc.names → X.env.cells.lookup x = some c → cl.lookup x = some c) (hlen : items.length ≤ 1000)
    (hw : capV loc caps fun cs => compL (compT xs cond (wp WT cond) (wp WT elt) cs) items [] Post) {use : Option (Value → Sem Unit)} {Q : Value → Shared → Prop} {Fin : Addr → List Value → Led → Prop} {pos : Pos} {iter : PySem.Expr}
    (post : PostK pg w X.A E use Q X.h₀ X.L X.m s Fin)
    (fin : ∀ D ys qs Ik, (∀ q ∈ I, q ∈ Ik) → Post qs → VRs w X.src Ik ys qs → ((M ++ (Sx ++ (Ik ++ X.R))).map (·.1)).Nodup → (∀ p ∈ M ++ (Sx ++ (Ik ++ X.R)), p.1 ≠ D) → Fin D ys (M ++ (Sx ++ (Ik ++ X.R)))) :
    wpAny (model pg w) X.A (newList []) (fun acc s₃ => wpAny (model pg w) X.A (newFunctionEnv sc X.env.globals cl [] X.env.qual none .none (some X.env)) (fun cenv s₄ =>
      codeAny (model pg w) X.A (.compStart (.ListComp (ex G elt (X.cx.inner xs caps sc)) [⟨tgtE xs p1 p2 k p3, iter, if Nat.beq cond.kd 0 then [] else [ex G cond (X.cx.inner xs caps sc)], 0⟩] sc pos) 0 (.ref it) acc { cenv with scope := relabel sc X.env }) (compPost (model pg w) X.A E use Q acc cenv.locals) s₄) E s₃) E s := by
  obtain ⟨cs, hcs, hce, capLR⟩ := capture ok (Sx := Sx) F1 lr caps _ hw fun x hx => (o.fr x hx).2
  have N1 : News X.h₀ X.L s.heap (M ++ (Sx ++ (I ++ X.R))) := lo.1.grown up
  have F2 : Fr X.h₀ X.L s.heap X.m := F1.keeps up
  have hlt1 : X.L < h1.objs.size := F1.ns.lt
  -- the inner text's state, from the ledger alone
  have inner : ∀ (D : Addr) (p : PV) (ol : Led) (ts : List PV) (R' Ik : Led) (h : Heap), (∀ R' Ik m, (∀ q ∈ ol, q ∈ R') → (∀ q ∈ I, q ∈ Ik) → LR w X.src (compEnvC sc (if c = true then (xs.headD "", D + 1 + 1) :: cl else cl) (D + 1) X.env) X.L Ik R' m xs ts []) → (∀ q ∈ ol, q ∈ R') → (∀ q ∈ M ++ X.R, q ∈ R') → (∀ q ∈ I, q ∈ Ik) →
      Fr X.h₀ X.L h X.m → LedOk X.h₀ X.L h (Ik ++ R') → (X.innerX xs caps sc c cl (D + 1) R').St w h (ts ++ cs) Ik := by
    intro D p ol ts R' Ik h tLR h1 h2 h3 F lo'
    refine ⟨F, [], [], LR.app (tLR R' Ik X.m h1 h3) (capLR _ R' Ik X.m (fun x hx => ⟨?_, fun a ha => ?_⟩) h2 h3), rfl, lo'⟩
    · have := lookup_relabel (env := X.env) (o.fr x hx).1
      have e2 : X.env.kindOf x = some .cell := by unfold Env.kindOf; rw [ok.sc]; exact (o.fr x hx).2
      rw [e2, ok.fn] at this
      exact this
    · have hl := hcl x a (mem_of_lookup (o.fr x hx).1) ha
      show List.lookup x (if c = true then (xs.headD "", D + 1 + 1) :: cl else cl) = some a
      cases c with
      | false => exact hl
      | true =>
        obtain ⟨y, rfl, hy⟩ := o.cel rfl
        have hne : x ≠ y := fun e => (List.nodup_cons.mp o.nd).1 (e ▸ hx)
        show List.lookup x ((y, D + 1 + 1) :: cl) = some a
        rw [List.lookup_cons, beq_eq_false_iff_ne.mpr hne]
        exact hl
  refine cg_block (ws := t.ws) (keep := t.keep) (news := M ++ (Sx ++ (I ++ X.R))) (cx := c) (cl' := fun k => if c = true then (xs.headD "", k) :: cl else cl) (Fin := Fin)
    (Ov := fun C i v ol => ∃ p, items[i]? = some p ∧ TgtOk w X.src X.L I xs c sc cl X.env C p ol)
    t.W t.self (by rw [sl_eq]; omega) t.obj t.fpk t.wrk (fun b hb => ⟨ktu_new F1 (t.new b hb).1, Nat.ne_of_gt (Nat.lt_of_lt_of_le hlt1 (t.new b hb).1), (t.new b hb).2⟩) (fun b hb => ?_) (fun k => o.cells k) o.push
    (fun D i ys nx => ∃ Ik qs, (∀ q ∈ I, q ∈ Ik) ∧ nx = M ++ (Sx ++ (Ik ++ X.R)) ∧ (nx.map (·.1)).Nodup ∧ VRs w X.src Ik ys qs ∧ compL (compT xs cond (wp WT cond) (wp WT elt) cs) (items.drop i) qs Post)
    ?asg ?turn (fun D hD => ⟨I, [], fun _ h => h, rfl, lo.2, .nil, by rw [List.drop_zero]; exact hcs⟩) ?done post t.st0 F2 N1 (fun p hp hb => ?_) (subL_of fun q hq => ?_)
  · rcases t.fpk b hb with hb | ⟨oo, hb⟩
    · exact (t.new b hb).2
    · exact Heap.lt_size (N1 _ (mem3 (t.keepI _ hb))).1
  case asg =>
    rintro D i v ys nx s1 Q1 E1 ol hi ⟨Ik, qs, hI, rfl, nd, rr, hl⟩ N hP pv held q
    obtain ⟨p, hp, hit⟩ := t.item i v s1.heap hi hP
    rw [List.drop_eq_getElem_cons hi] at hl
    rw [List.getElem?_eq_getElem hi] at hp
    cases hp
    have hl : tgtV xs items[i] (fun ts => condV cond (wp WT cond (ts ++ cs)) fun ok => if ok = true then wp WT elt (ts ++ cs) fun y _ => oneV y fun y => compL (compT xs cond (wp WT cond) (wp WT elt) cs) (items.drop (i+1)) (qs ++ [y]) Post else compL (compT xs cond (wp WT cond) (wp WT elt) cs) (items.drop (i+1)) (qs ++ []) Post) := hl
    exact tgt_asg ok.hh o hl hit (fun q hq => (N q (mem3 (hI q hq))).1) pv held fun h' tk ol' hT pv' held' hk => q h' tk ol' ⟨_, List.getElem?_eq_getElem hi, hT⟩ pv' held' hk
  case done =>
    rintro D ys nx hD ⟨Ik, qs, hI, rfl, nd, rr, hl⟩ hne
    rw [List.drop_eq_nil_of_le (Nat.le_refl _)] at hl
    exact fin D ys qs Ik hI hl rr nd hne
  case turn =>
    rintro D i v ys nx ol its h tk E' K K0 ⟨hD, hws⟩ hi ⟨Ik, qs, hI, rfl, nd, rr, hl⟩ ⟨p, hp, ts, hts, hol, tLR⟩ hits F N of hK hK0
    rw [List.getElem?_eq_getElem hi] at hp
    cases hp
    rw [List.drop_eq_getElem_cons hi] at hl
    have hl : tgtV xs items[i] (fun ts => condV cond (wp WT cond (ts ++ cs)) fun ok => if ok = true then wp WT elt (ts ++ cs) fun y _ => oneV y fun y => compL (compT xs cond (wp WT cond) (wp WT elt) cs) (items.drop (i+1)) (qs ++ [y]) Post else compL (compT xs cond (wp WT cond) (wp WT elt) cs) (items.drop (i+1)) (qs ++ []) Post) := hl
    have hl := hts _ hl
    -- the rest of the ledger, and that no address stands twice
    generalize hR : (D, LCg.lst ys) :: (its ++ (ol ++ (M ++ (Sx ++ X.R)))) = R' at *
    have mv : ∀ Ik : Led, ((D, LCg.lst ys) :: (its ++ (ol ++ (M ++ (Sx ++ (Ik ++ X.R)))))).Perm (Ik ++ R') := fun Ik => by
      rw [← hR]
      refine List.Perm.trans ?_ List.perm_middle.symm
      refine List.Perm.cons _ ?_
      refine ((List.Perm.append_left _ ?_).trans (List.perm_append_comm_assoc its Ik _))
      refine ((List.Perm.append_left _ ?_).trans (List.perm_append_comm_assoc ol Ik _))
      refine ((List.Perm.append_left _ (List.perm_append_comm_assoc Sx Ik _)).trans (List.perm_append_comm_assoc M Ik _))
    have hitsA : its.map (·.1) = t.ws.map (·.1) := hits.map
    have ndT : (((D, LCg.lst ys) :: (its ++ (ol ++ (M ++ (Sx ++ (Ik ++ X.R)))))).map (·.1)).Nodup := by
      have olGt : ∀ q ∈ ol, D < q.1 := fun q hq => by
        have : q.1 ∈ ol.map (·.1) := List.mem_map.mpr ⟨q, hq, rfl⟩
        rw [hol] at this
        cases c with
        | false => rw [List.mem_singleton.mp this]; exact Nat.lt_succ_self _
        | true =>
          rcases List.mem_cons.mp this with e | this
          · rw [e]; exact Nat.lt_succ_self _
          · rw [List.mem_singleton.mp this]; exact Nat.lt_succ_of_lt (Nat.lt_succ_self _)
      have itsLt : ∀ q ∈ its, q.1 < D := fun q hq => hws _ (hitsA ▸ List.mem_map.mpr ⟨q, hq, rfl⟩)
      have ndo : (ol.map (·.1)).Nodup := by
        rw [hol]
        cases c with
        | false => exact List.nodup_cons.mpr ⟨(fun h => nomatch h), List.nodup_nil⟩
        | true => exact List.nodup_cons.mpr ⟨fun h => Nat.succ_ne_self _ (List.mem_singleton.mp h).symm, List.nodup_cons.mpr ⟨(fun h => nomatch h), List.nodup_nil⟩⟩
      refine List.nodup_cons.mpr ⟨fun hm => ?_, nodup_app.mpr ⟨hitsA ▸ t.nd, nodup_app.mpr ⟨ndo, nd, fun p hp q hq => (of q hq p (.tail _ (List.mem_append_right _ hp))).symm⟩, fun p hp q hq => ?_⟩⟩
      · obtain ⟨q, hq, e⟩ := List.mem_map.mp hm
        rcases List.mem_append.mp hq with hq | hq
        · exact Nat.ne_of_lt (itsLt q hq) e
        rcases List.mem_append.mp hq with hq | hq
        · exact Nat.ne_of_gt (olGt q hq) e
        · exact of q hq _ (.head _) e
      · rcases List.mem_append.mp hq with hq | hq
        · exact Nat.ne_of_lt (Nat.lt_trans (itsLt p hp) (olGt q hq))
        · exact (of q hq p (.tail _ (List.mem_append_left _ hp))).symm
    have lo0 : LedOk X.h₀ X.L h (Ik ++ R') := ⟨fun q hq => N q ((mv Ik).mem_iff.mpr hq), ((mv Ik).map _).nodup_iff.mp ndT⟩
    have ol' : ∀ q ∈ ol, q ∈ R' := fun q hq => hR ▸ .tail _ (List.mem_append_right _ (List.mem_append_left _ hq))
    have mr' : ∀ q ∈ M ++ X.R, q ∈ R' := fun q hq => hR ▸ .tail _ (List.mem_append_right _ (List.mem_append_right _ ((List.mem_append.mp hq).elim (List.mem_append_left _) fun hq => List.mem_append_right _ (List.mem_append_right _ hq))))
    have mk := fun Ik h hI F lo => inner D items[i] ol ts R' Ik h tLR ol' mr' hI F lo
    -- how a turn ends
    have stop : ∀ (h2 : Heap) (I2 : Led) (ys2 : List Value) (qs2 : List PV), (∀ q ∈ Ik, q ∈ I2) → Fr X.h₀ X.L h2 X.m → LedOk X.h₀ X.L h2 (I2 ++ R') → VRs w X.src I2 ys2 qs2 → compL (compT xs cond (wp WT cond) (wp WT elt) cs) (items.drop (i + 1)) qs2 Post →
        News X.h₀ X.L h2 ((D, LCg.lst ys) :: (its ++ (ol ++ (M ++ (Sx ++ (I2 ++ X.R)))))) ∧ OffL (M ++ (Sx ++ (I2 ++ X.R))) ((D, LCg.lst ys) :: (its ++ ol)) ∧ SubL t.keep (M ++ (Sx ++ (I2 ++ X.R))) ∧
          ∃ Ik qs, (∀ q ∈ I, q ∈ Ik) ∧ M ++ (Sx ++ (I2 ++ X.R)) = M ++ (Sx ++ (Ik ++ X.R)) ∧ ((M ++ (Sx ++ (I2 ++ X.R))).map (·.1)).Nodup ∧ VRs w X.src Ik ys2 qs ∧ compL (compT xs cond (wp WT cond) (wp WT elt) cs) (items.drop (i + 1)) qs Post := by
      intro h2 I2 ys2 qs2 m2 F2 lo2 r2 hl2
      have nd2 := ((mv I2).map (·.1)).nodup_iff.mpr lo2.2
      have e1 : (D, LCg.lst ys) :: (its ++ (ol ++ (M ++ (Sx ++ (I2 ++ X.R))))) = ((D, LCg.lst ys) :: (its ++ ol)) ++ (M ++ (Sx ++ (I2 ++ X.R))) := by rw [List.cons_append, List.append_assoc]
      have nd3 := nodup_app.mp (e1 ▸ nd2)
      exact ⟨fun q hq => lo2.1 q ((mv I2).mem_iff.mp hq), fun q hq p hp => (nd3.2.2 p hp q hq).symm, subL_of fun q hq => mem3 (m2 _ (hI _ (t.keepI q hq))), I2, qs2, fun q hq => m2 q (hI q hq), rfl, nd3.2.1, r2, hl2⟩
    have unSt : ∀ {l : List PV} {h2 : Heap} {I2 : Led}, (X.innerX xs caps sc c cl (D + 1) R').St w h2 l I2 → Fr X.h₀ X.L h2 X.m ∧ LedOk X.h₀ X.L h2 (I2 ++ R') := fun ⟨F, M', S', _, hs, lo⟩ =>
      ⟨F, by obtain rfl : S' = [] := hs; exact ⟨fun q hq => lo.1 q (List.mem_append_right _ hq), (nodup_app.mp lo.2).2.1⟩⟩
    have okI := inner_ok (cl := cl) ok o hb (D + 1) R'
    -- the element
    have elem : ∀ h2 tk2 I2, (∀ q ∈ Ik, q ∈ I2) → Fr X.h₀ X.L h2 X.m → LedOk X.h₀ X.L h2 (I2 ++ R') → (wp WT elt (ts ++ cs) fun y _ => oneV y fun y => compL (compT xs cond (wp WT cond) (wp WT elt) cs) (items.drop (i + 1)) (qs ++ [y]) Post) →
        wpAny (model pg w) X.A (eval (ex G elt (X.cx.inner xs caps sc)) (X.innerX xs caps sc c cl (D + 1) R').env) K E' { s with heap := h2, toks := tk2 } := by
      intro h2 tk2 I2 m2 F2 lo2 hw2
      refine he (X.innerX xs caps sc c cl (D + 1) R') { s with heap := h2, toks := tk2 } I2 (ts ++ cs) _ K E' okI he1 he2 (mk I2 h2 (fun q hq => m2 q (hI q hq)) F2 lo2) hw2 fun v p l3 h3 t3 I3 m3 w3 r3 S3 => ?_
      obtain ⟨F3, lo3⟩ := unSt S3
      obtain ⟨a1, a2, a3, a4⟩ := stop h3 I3 (ys ++ [v]) (qs ++ [p]) (fun q hq => m3 q (m2 q hq)) F3 lo3 ((rr.mono fun q hq => m3 q (m2 q hq)).app (.cons r3 .nil)) w3
      exact hK v h3 t3 _ F3 a1 a2 a3 a4
    have skip : ∀ h2 tk2 I2, (∀ q ∈ Ik, q ∈ I2) → Fr X.h₀ X.L h2 X.m → LedOk X.h₀ X.L h2 (I2 ++ R') → compL (compT xs cond (wp WT cond) (wp WT elt) cs) (items.drop (i + 1)) (qs ++ []) Post → K0 { s with heap := h2, toks := tk2 } := by
      intro h2 tk2 I2 m2 F2 lo2 hw2
      rw [List.append_nil] at hw2
      obtain ⟨a1, a2, a3, a4⟩ := stop h2 I2 ys qs m2 F2 lo2 (rr.mono m2) hw2
      exact hK0 h2 tk2 _ F2 a1 a2 a3 a4
    unfold condV at hl
    cases hk : Nat.beq cond.kd 0 with
    | true =>
      rw [hk] at hl
      show Tst _ _ (if true = true then [] else _) _ _ _ _
      exact elem h tk Ik (fun _ h => h) F lo0 hl
    | false =>
      rw [hk] at hl
      obtain ⟨hb1, hb2⟩ := hc.resolve_left (by rw [hk]; exact Bool.false_ne_true)
      show wpAny _ _ (isTrue (ex G cond (X.cx.inner xs caps sc)) (X.innerX xs caps sc c cl (D + 1) R').env (eval (ex G cond (X.cx.inner xs caps sc)) (X.innerX xs caps sc c cl (D + 1) R').env)) _ _ _
      refine hb1 (X.innerX xs caps sc c cl (D + 1) R') { s with heap := h, toks := tk } Ik (ts ++ cs) _ _ E' okI hb2 hc2 (mk Ik h hI F lo0) hl fun b l2 h2 t2 I2 m2 w2 S2 => ?_
      obtain ⟨F2, lo2⟩ := unSt S2
      cases b with
      | true => exact elem h2 t2 I2 m2 F2 lo2 w2
      | false => exact skip h2 t2 I2 m2 F2 lo2 w2
  · exact Nat.lt_irrefl _ (Nat.lt_of_lt_of_le (Heap.lt_size (lo.1 p hp).1) (t.new _ hb).1)
  · exact mem3 (t.keepI q hq)
end

end --Q10
section --Q11
section
variable {w : World} {WT : Nat → List PV → (PV → Prop) → Prop} {G : List GE} {kb ub : Nat} {X : Kx} {s : Shared} {loc : List PV} {I : Led} {xs : List Str} {E : Value → Shared → Prop} {p1 p2 k p3 p : Nat} {sc : Scope} {caps : List Nat} {src cond elt : CE}
theorem folded_none {e : PySem.Expr} {env : Env} (h : isSetE e = false) (x : Value) : foldedSetIterable e env x = pure x := by
  cases e <;> first | rfl | cases h
theorem nm_mem {cx : Cx} {i : Nat} (h : i < cx.ns.length) : cx.nm i ∈ cx.ns := by
  unfold Cx.nm
  rw [List.getD_eq_getElem?_getD, List.getElem?_eq_getElem h]
  exact List.getElem_mem _
/-- a comprehension, up to how its end is handed on -/
theorem comp_go {use : Option (Value → Sem Unit)} {Q : Value → Shared → Prop} {Fin : Addr → List Value → Led → Prop} {Post : List PV → List PV → Prop} (ok : X.Ok w kb ub) (hck : ck G (.comp src xs p1 p2 k p3 caps cond elt sc p) X.cx = true) (S : X.St w s.heap loc I)
    (hs : SS w WT G kb ub src) (he : SE w WT G kb ub elt) (hb : SB w WT G kb ub cond) (hw : wp WT (.comp src xs p1 p2 k p3 caps cond elt sc p) loc Post) {pos : Pos}
    (post : ∀ h tk, PostK pg w X.A E use Q X.h₀ X.L X.m { s with heap := h, toks := tk } Fin)
    (fin : ∀ D ys qs l1 Ik M Sx, (∀ q ∈ I, q ∈ Ik) → Post [.lst qs] l1 → VRs w X.src Ik ys qs → LR w X.src X.env X.L Ik X.R X.m X.cx.ns l1 M → SrcL X.src X.cx.own Sx → ((M ++ (Sx ++ (Ik ++ X.R))).map (·.1)).Nodup → (∀ p ∈ M ++ (Sx ++ (Ik ++ X.R)), p.1 ≠ D) → Fin D ys (M ++ (Sx ++ (Ik ++ X.R)))) :
    sc.kind = .function ∧ (∀ y ∈ sc.names, y.2 = .local → sc.names.lookup y.1 = some .local) ∧ ∃ cl, closureFor sc X.env = pure cl ∧
      wpAny (model pg w) X.A (eval (ex G src X.cx) X.env) (CompK pg w X.A E X.env (ex G elt (X.cx.inner xs caps sc)) (tgtE xs p1 p2 k p3) (ex G src X.cx) (if Nat.beq cond.kd 0 then [] else [ex G cond (X.cx.inner xs caps sc)]) sc cl pos use Q) E s := by
  have c1 := band hck
  have c2 := band c1.2
  have c3 := band c2.2
  have c4 := band c3.1
  have c5 := band c3.2
  have c6 := band c5.1
  have c7 := band c5.2
  have hlt : ∀ i ∈ caps, i < X.cx.ns.length := fun i hi => Nat.blt_eq.mp (List.all_eq_true.mp c1.1 i hi)
  obtain ⟨c, o⟩ := scOk_of c2.1
  have S' := S
  obtain ⟨_, M0, _, lr0, _⟩ := S'
  obtain ⟨cl, hcl, hcl2⟩ := clos_ok (scope := sc) (env := X.env) fun y hy hf => by
    have hm := (o.nm y hy).2 hf
    obtain ⟨i, hi, e⟩ := List.mem_map.mp hm
    refine (fun ⟨c, _, e, _⟩ => ⟨c, e⟩) <| lr0.cellM (e ▸ nm_mem (hlt i hi)) ?_
    unfold Env.kindOf
    rw [ok.sc]
    exact (o.fr _ hm).2
  refine ⟨o.kd, fun y hy => (o.nm y hy).1, cl, hcl, ?_⟩
  refine hs X s I loc xs p1 p2 k p3 (fun items l1 => items.length ≤ 1000 ∧ capV l1 caps fun cs => compL (compT xs cond (wp WT cond) (wp WT elt) cs) items [] fun ys => Post [.lst ys] l1) _ E ok c4.1 c4.2 S hw fun items l1 h1 tk I1 n0 h' it hI w1 S1 hn up t => ?_
  obtain ⟨F1, M, Sx, lr, hsx, lo⟩ := S1
  subst hn
  exact comp_core (s := { s with heap := h', toks := tk }) ok o hlt F1 lr lo up t he c7.1 c7.2 ((Bool.or_eq_true_iff.mp c6.1).elim .inl fun h => .inr ⟨hb, h⟩) c6.2 hcl2 w1.1 w1.2 (post h' tk)
    fun D ys qs Ik hk hp r nd hne => fin D ys qs l1 Ik M Sx (fun q hq => hk q (hI q hq)) hp r (lr.mono hk fun _ _ => rfl) hsx nd hne
theorem sound_comp (hs : SS w WT G kb ub src) (he : SE w WT G kb ub elt) (hb : SB w WT G kb ub cond) : SE w WT G kb ub (.comp src xs p1 p2 k p3 caps cond elt sc p) := fun X s I loc Post Q E ok _ hck S hw ans => by
  obtain ⟨k1, k2, cl, hcl, hh⟩ := comp_go ok hck S hs he hb hw (use := none) (Q := Q) (pos := P p) (Fin := fun D ys nx => ∀ h tk, Fr X.h₀ X.L h X.m → News X.h₀ X.L h ((D, LCg.lst ys) :: nx) → Q (.ref D) { s with heap := h, toks := tk }) (fun h tk => post_E (prog := pg) (w := w) (A := X.A) (E := E) (Q := Q) (s := { s with heap := h, toks := tk }) (h₀ := X.h₀) (L := X.L) (m := X.m)) fun D ys qs l1 Ik M Sx hI hp r lr hsx nd hne h tk F N => by
    have sub : ∀ q ∈ Ik, q ∈ (D, LCg.lst ys) :: Ik := fun q hq => .tail _ hq
    refine ans (.ref D) (.lst qs) l1 h tk ((D, LCg.lst ys) :: Ik) (fun q hq => sub q (hI q hq)) hp (.lstL (n := _) (.head _) (r.mono sub)) ⟨F, M, Sx, lr.mono sub fun _ _ => rfl, hsx, ?_⟩
    exact (LedOk.put ⟨fun q hq => N q (.tail _ hq), nd⟩ N hne).perm perm1
  exact comp_eval hcl k1 k2 (folded_none noSet) hh
end

end --Q11
section --Q12
/-! the sort's questions, answered by distinct numbers -/
section
variable {key : Nat → Int} {n : Nat} {cmp : Nat → Nat → (Bool → Shared → Prop) → Shared → Prop} {p : Array Nat} {s : Shared}
noncomputable def Rk (key : Nat → Int) (p : Array Nat) (i : Nat) : Int := key (p.getD i 0)
structure PIn (key : Nat → Int) (n : Nat) (p : Array Nat) : Prop where
  sz : p.size = n
  pm : p.toList.Perm (List.range n)
  df : ∀ i j, i < j → j < n → Rk key p i ≠ Rk key p j
noncomputable def Up (key : Nat → Int) (p : Array Nat) (k : Nat) : Prop := ∀ i j, i < j → j < k → Rk key p i < Rk key p j
noncomputable def Dn (key : Nat → Int) (p : Array Nat) (k : Nat) : Prop := ∀ i j, i < j → j < k → Rk key p j < Rk key p i
theorem rk_of {q : Array Nat} {i j : Nat} (h : q[i]? = p[j]?) : Rk key q i = Rk key p j := by
  unfold Rk
  rw [Array.getD_eq_getD_getElem?, Array.getD_eq_getD_getElem?, h]
theorem PIn.perm (h : PIn key n p) (inj : ∀ i j, i < j → j < n → key i ≠ key j) {q : Array Nat} (hq : q.Perm p) : PIn key n q := by
  have pm : q.toList.Perm (List.range n) := hq.toList.trans h.pm
  have sz : q.size = n := hq.size_eq.trans h.sz
  refine ⟨sz, pm, fun i j hij hj => ?_⟩
  have nd : q.toList.Nodup := pm.nodup_iff.mpr List.nodup_range
  have hi' : i < q.size := sz ▸ Nat.lt_trans hij hj
  have hj' : j < q.size := sz ▸ hj
  have e1 : q.getD i 0 = q[i] := by simp [Array.getD, hi']
  have e2 : q.getD j 0 = q[j] := by simp [Array.getD, hj']
  have m1 : q[i] < n := List.mem_range.mp (pm.mem_iff.mp (Array.mem_toList_iff.mpr (Array.getElem_mem hi')))
  have m2 : q[j] < n := List.mem_range.mp (pm.mem_iff.mp (Array.mem_toList_iff.mpr (Array.getElem_mem hj')))
  have ne : q[i] ≠ q[j] := fun e => by
    have := (List.getElem_inj (i := i) (j := j) (h₀ := by simpa using hi') (h₁ := by simpa using hj') nd).mp (by simpa using e)
    omega
  unfold Rk
  rw [e1, e2]
  rcases Nat.lt_or_gt_of_ne ne with l | l
  · exact inj _ _ l m2
  · exact (inj _ _ l m1).symm
theorem PIn.start (inj : ∀ i j, i < j → j < n → key i ≠ key j) : PIn key n (List.toArray (List.range n)) := by
  refine ⟨by simp, .refl _, fun i j hij hj => ?_⟩
  have hi : i < n := Nat.lt_trans hij hj
  have e : ∀ i, i < n → (List.toArray (List.range n)).getD i 0 = i := fun i hi => by simp [Array.getD, hi]
  unfold Rk
  rw [e i hi, e j hj]
  exact inj i j hij hj
/-- the questions' answers -/
noncomputable def Says (key : Nat → Int) (n : Nat) (cmp : Nat → Nat → (Bool → Shared → Prop) → Shared → Prop) (s : Shared) : Prop := ∀ (i j : Nat) (C : Bool → Shared → Prop), i < n → j < n → C (decide (key i < key j)) s → cmp i j C s
theorem PIn.at (h : PIn key n p) {i : Nat} (hi : i < n) : p.getD i 0 < n := by
  have hi' : i < p.size := h.sz ▸ hi
  have e1 : p.getD i 0 = p[i] := by simp [Array.getD, hi']
  rw [e1]
  exact List.mem_range.mp (h.pm.mem_iff.mp (Array.mem_toList_iff.mpr (Array.getElem_mem hi')))
variable (hc : Says key n cmp s)
include hc
theorem asks {α : Type} (h : PIn key n p) {i j : Nat} (hi : i < n) (hj : j < n) {k : Bool → KasT α} {Q : α → Shared → Prop} (y : Rk key p i < Rk key p j → (k true).kasWp cmp Q s) (no : ¬ Rk key p i < Rk key p j → (k false).kasWp cmp Q s) :
    (KasT.ask (p.getD i 0) (p.getD j 0) k).kasWp cmp Q s := by
  refine hc _ _ _ (h.at hi) (h.at hj) ?_
  by_cases e : Rk key p i < Rk key p j
  · have : decide (key (p.getD i 0) < key (p.getD j 0)) = true := decide_eq_true e
    rw [this]; exact y e
  · have : decide (key (p.getD i 0) < key (p.getD j 0)) = false := decide_eq_false e
    rw [this]; exact no e
omit hc in
theorem up_more {k : Nat} (h : Up key p k) (hk : 1 ≤ k) (l : Rk key p (k - 1) < Rk key p k) : Up key p (k + 1) := fun i j hij hj => by
  rcases Nat.lt_succ_iff_lt_or_eq.mp hj with hj | rfl
  · exact h i j hij hj
  · rcases Nat.lt_or_ge i (j - 1) with hi | hi
    · exact Int.lt_trans (h i (j - 1) hi (by omega)) l
    · rwa [show i = j - 1 by omega]
omit hc in
theorem dn_more {k : Nat} (h : Dn key p k) (hk : 1 ≤ k) (l : Rk key p k < Rk key p (k - 1)) : Dn key p (k + 1) := fun i j hij hj => by
  rcases Nat.lt_succ_iff_lt_or_eq.mp hj with hj | rfl
  · exact h i j hij hj
  · rcases Nat.lt_or_ge i (j - 1) with hi | hi
    · exact Int.lt_trans l (h i (j - 1) hi (by omega))
    · rwa [show i = j - 1 by omega]
omit hc in
theorem PIn.ne (h : PIn key n p) {k : Nat} (hk : 1 ≤ k) (hn : k < n) : ¬ Rk key p k < Rk key p (k - 1) → Rk key p (k - 1) < Rk key p k := fun e => by
  have := h.df (k - 1) k (by omega) hn
  omega
theorem k_asc {Q : Nat → Shared → Prop} (h : PIn key n p) : ∀ (f k : Nat), 1 ≤ k → k + f ≤ n → Up key p k → (∀ m, k ≤ m → m ≤ k + f → Up key p m → (m = k + f ∨ Rk key p m < Rk key p (m - 1)) → Q m s) → (kas_asc p f k).kasWp cmp Q s
  | 0, k, _, _, u, q => q k (Nat.le_refl _) (Nat.le_refl _) u (.inl rfl)
  | f + 1, k, h1, h2, u, q => asks hc h (by omega) (by omega) (fun l => q k (Nat.le_refl _) (by omega) u (.inr l)) fun l =>
      k_asc h f (k + 1) (by omega) (by omega) (up_more u h1 (h.ne h1 (by omega) l)) fun m a b c d => q m (by omega) (by omega) c (by rcases d with d | d; exact .inl (by omega); exact .inr d)
theorem k_desc {Q : Array Nat × Nat × Nat → Shared → Prop} (h : PIn key n p) : ∀ (f k : Nat), 1 ≤ k → k + f ≤ n → Dn key p k → (∀ m, k ≤ m → m ≤ k + f → Dn key p m → Q (p, m, 0) s) → (kas_desc f p k 0).kasWp cmp Q s
  | 0, k, _, _, u, q => q k (Nat.le_refl _) (Nat.le_refl _) u
  | f + 1, k, h1, h2, u, q => asks hc h (by omega) (by omega) (fun l => k_desc h f (k + 1) (by omega) (by omega) (dn_more u h1 l) fun m a b c => q m (by omega) (by omega) c) fun l =>
      asks hc h (by omega) (by omega) (fun _ => q k (Nat.le_refl _) (by omega) u) fun l' => (l' (h.ne h1 (by omega) l)).elim
omit hc in
theorem rev_up {m : Nat} (hm : m ≤ p.size) (d : Dn key p m) : Up key (kas_rev p 0 m) m := fun i j hij hj => by
  have e : ∀ i, i < m → Rk key (kas_rev p 0 m) i = Rk key p (m - 1 - i) := fun i hi => rk_of (by
    unfold kas_rev
    rw [getElem?_mirror_all hm, if_pos ⟨Nat.zero_le _, hi⟩, Nat.zero_add])
  rw [e i (by omega), e j hj]
  exact d _ _ (by omega) (by omega)
theorem k_count {Q : Nat × Array Nat → Shared → Prop} (inj : ∀ i j, i < j → j < n → key i ≠ key j) (h : PIn key n p) (h1 : 2 ≤ n) (q : ∀ m p', PIn key n p' → 1 ≤ m → m ≤ n → Up key p' m → Q (m, p') s) : (kas_count n p).kasWp cmp Q s := by
  unfold kas_count
  rw [KasT.kasWp_bind]
  refine k_asc hc h (n - 1) 1 (Nat.le_refl _) (by omega) (fun i j hij hj => by omega) fun m a b u e => ?_
  by_cases hm : (m == n) = true
  · rw [if_pos hm]; exact q m p h a (by omega) u
  rw [if_neg hm]
  have hm : m ≠ n := fun e => hm (beq_iff_eq.mpr e)
  by_cases h2 : m > 1
  · rw [if_pos h2]
    exact asks hc h (by omega) (by omega) (fun _ => q m p h a (by omega) u) fun l => (l (u 0 (m - 1) (by omega) (by omega))).elim
  rw [if_neg h2]
  obtain rfl : m = 1 := by omega
  have e := e.resolve_left (by omega)
  unfold kas_descPart
  rw [KasT.kasWp_bind]
  refine k_desc hc h (n - (1 + 1)) (1 + 1) (by omega) (by omega) (fun i j hij hj => ?_) fun m2 a2 b2 d2 => ?_
  · obtain rfl : i = 0 := by omega
    obtain rfl : j = 1 := by omega
    exact e
  show (kas_tail3 m2 n p).kasWp cmp Q s
  unfold kas_tail3
  rw [KasT.kasWp_bind]
  have h' : PIn key n (kas_rev p 0 m2) := h.perm inj (mirror_perm _ _ _ _)
  exact k_asc hc h' (n - m2) m2 (by omega) (by omega) (rev_up (by rw [h.sz]; omega) d2) fun m3 a3 b3 u3 _ => q m3 _ h' (by omega) (by omega) u3
theorem k_place {Q : Nat → Shared → Prop} {k : Nat} (h : PIn key n p) (hk : k < n) (u : Up key p k) : ∀ (f l r : Nat), r ≤ l + f → l ≤ r → r ≤ k → (∀ i, i < l → Rk key p i < Rk key p k) → (∀ i, r ≤ i → i < k → Rk key p k < Rk key p i) →
    (∀ m, m ≤ k → (∀ i, i < m → Rk key p i < Rk key p k) → (∀ i, m ≤ i → i < k → Rk key p k < Rk key p i) → Q m s) → (kas_place p k f l r).kasWp cmp Q s
  | 0, l, r, hf, hl, hr, lo, hi, q => q l (by omega) lo (by rwa [show l = r by omega])
  | f + 1, l, r, hf, hl, hr, lo, hi, q => by
    show (if l ≥ r then KasT.ret l else _).kasWp cmp Q s
    by_cases e : l ≥ r
    · rw [if_pos e]; exact q l (by omega) lo (by rwa [show l = r by omega])
    rw [if_neg e]
    refine asks hc h hk (by omega) (fun y => ?_) fun no => ?_
    · exact k_place h hk u f l ((l + r) / 2) (by omega) (by omega) (by omega) lo (fun i a b => by
        rcases Nat.eq_or_lt_of_le a with rfl | a
        · exact y
        · exact Int.lt_trans y (u _ _ a b)) q
    · have y : Rk key p ((l + r) / 2) < Rk key p k := by have := h.df ((l + r) / 2) k (by omega) hk; omega
      exact k_place h hk u f ((l + r) / 2 + 1) r (by omega) (by omega) hr (fun i a => by
        rcases Nat.eq_or_lt_of_le (Nat.le_of_lt_succ a) with rfl | a
        · exact y
        · exact Int.lt_trans (u _ _ a (by omega)) y) hi q
omit hc in
theorem bub_up {k m : Nat} (h : PIn key n p) (hk : k < n) (hm : m ≤ k) (u : Up key p k) (lo : ∀ i, i < m → Rk key p i < Rk key p k) (hi : ∀ i, m ≤ i → i < k → Rk key p k < Rk key p i) : Up key (bubble p k (k - m)) (k + 1) := fun i j hij hj => by
  have hs : k < p.size := h.sz ▸ hk
  have g := getElem?_bubble (xs := p) (src := k) hs (k - m) (by omega)
  have e0 : ∀ i, i < m → Rk key (bubble p k (k - m)) i = Rk key p i := fun i hi => rk_of (by rw [g, if_neg (by omega), if_neg (by omega)])
  have e1 : Rk key (bubble p k (k - m)) m = Rk key p k := rk_of (by rw [g, if_pos (by omega)])
  have e2 : ∀ i, m < i → i ≤ k → Rk key (bubble p k (k - m)) i = Rk key p (i - 1) := fun i a b => rk_of (by rw [g, if_neg (by omega), if_pos (by omega)])
  rcases Nat.lt_trichotomy i m with a | a | a
  · rw [e0 i a]
    rcases Nat.lt_trichotomy j m with b | b | b
    · rw [e0 j b]; exact u i j hij (by omega)
    · rw [b, e1]; exact lo i a
    · rw [e2 j b (by omega)]; exact u i (j - 1) (by omega) (by omega)
  · rw [a, e1, e2 j (by omega) (by omega)]; exact hi _ (by omega) (by omega)
  · rw [e2 i a (by omega), e2 j (by omega) (by omega)]; exact u _ _ (by omega) (by omega)
theorem k_bin {Q : Array Nat → Shared → Prop} (inj : ∀ i j, i < j → j < n → key i ≠ key j) : ∀ (f k : Nat) (p : Array Nat), PIn key n p → f + k = n → Up key p k → (∀ p', PIn key n p' → Up key p' n → Q p' s) → (kas_bin f p k).kasWp cmp Q s
  | 0, k, p, h, e, u, q => q p h (by rwa [show n = k by omega])
  | f + 1, k, p, h, e, u, q => by
    show ((kas_place p k k 0 k).bind fun l => kas_bin f (bubble p k (k - l)) (k + 1)).kasWp cmp Q s
    rw [KasT.kasWp_bind]
    exact k_place hc h (by omega) u k 0 k (by omega) (by omega) (by omega) (fun i hi => by omega) (fun i a b => by omega) fun m hm lo hi =>
      k_bin inj f (k + 1) _ (h.perm inj (bubble_perm _ _ _)) (by omega) (bub_up h (by omega) hm u lo hi) q
theorem k_sort {Q : Array Nat → Shared → Prop} (inj : ∀ i j, i < j → j < n → key i ≠ key j) (h1 : 2 ≤ n) (q : ∀ p, PIn key n p → Up key p n → Q p s) : (kas_sort n).kasWp cmp Q s := by
  unfold kas_sort
  rw [KasT.kasWp_bind]
  refine k_count hc inj (PIn.start inj) h1 fun m p hp a b u => ?_
  dsimp only
  by_cases e : m < n
  · rw [if_pos e, show max m 1 = m by omega]
    exact k_bin hc inj (n - m) m p hp (by omega) u q
  · rw [if_neg e]
    exact q p hp (by rwa [show n = m by omega])
end

end --Q12
section --Q13
section
variable {w : World} {src : Addr} {I : Led} {h : Heap} {vs : List Value} {l : List (Int × Int)} {s : Shared} {A : Around} {E : Value → Shared → Prop}
theorem int_of {v : Value} {i : Int} (r : VR w src I v (.int i)) : ∃ t, v = .int i t := by
  cases r
  exact ⟨_, rfl⟩
theorem len_two : ∀ {l : List Value}, l.length = 2 → ∃ x y, l = [x, y]
  | [], h => nomatch h
  | [_], h => nomatch h
  | [x, y], _ => ⟨x, y, rfl⟩
  | _ :: _ :: _ :: _, h => nomatch h
/-- a pair in the heap -/
theorem pair_at {v : Value} {p : Int × Int} (hI : HeldL h I) (r : VR w src I v (pairV p)) : ∃ a n t u, v = .ref a ∧ h.get? a = some (tupO [.int p.1 t, .int p.2 u] n) := by
  obtain ⟨a, ws, n, ps, rfl, e, hm, rr, _⟩ := tupV_vr (k := fun _ => True) r trivial
  cases e
  obtain ⟨x, y, rfl⟩ := len_two rr.1
  obtain ⟨t, rfl⟩ := int_of rr.hd
  obtain ⟨u, rfl⟩ := int_of rr.tl.hd
  exact ⟨a, n, t, u, rfl, hI _ hm⟩
theorem tups_at (hI : HeldL h I) : ∀ {vs : List Value} {l : List (Int × Int)}, VRs w src I vs (l.map pairV) → ∃ fs, KatTups h vs fs ∧ fs.length = l.length ∧ ∀ v ∈ fs, ∃ i t, v = Value.int i t
  | [], [], _ => ⟨[], .nil, rfl, fun _ h => nomatch h⟩
  | [], _ :: _, r => nomatch r.1
  | _ :: _, [], r => nomatch r.1
  | v :: vs, p :: l, r => by
    obtain ⟨fs, k, e, f⟩ := tups_at hI r.tl
    obtain ⟨a, n, t, u, rfl, g⟩ := pair_at hI r.hd
    exact ⟨.int p.1 t :: fs, k.cons g rfl rfl rfl, congrArg (· + 1) e, fun v hv => (List.mem_cons.mp hv).elim (fun e => ⟨_, _, e⟩) (f v)⟩
theorem pw_few {α : Type} {R : α → α → Prop} : ∀ (l : List α), l.length < 2 → l.Pairwise R
  | [], _ => .nil
  | [_], _ => List.pairwise_singleton _ _
  | _ :: _ :: _, h => (Nat.not_lt.mpr (Nat.le_add_left 2 _) h).elim
theorem rank_lt {p q : Int × Int} (hp : 0 ≤ p.2 ∧ p.2 < 64) (hq : 0 ≤ q.2 ∧ q.2 < 64) : rank p < rank q ↔ p.1 < q.1 ∨ (p.1 = q.1 ∧ p.2 < q.2) := by
  unfold rank
  omega
theorem pair_lt {u v : Value} {p q : Int × Int} {C : Bool → Shared → Prop} (hI : HeldL s.heap I) (ru : VR w src I u (pairV p)) (rv : VR w src I v (pairV q)) (hp : 0 ≤ p.2 ∧ p.2 < 64) (hq : 0 ≤ q.2 ∧ q.2 < 64) (h : C (decide (rank p < rank q)) s) :
    wpAny (model pg w) A (keyLt' (tuples' true) u v) C E s := by
  obtain ⟨a, n, t, t', rfl, g⟩ := pair_at hI ru
  obtain ⟨b, k, z, z', rfl, g'⟩ := pair_at hI rv
  refine kat_lt g rfl g' rfl (kat_cons (wpAny_eqBool_int ?_))
  by_cases e1 : p.1 = q.1
  · rw [beq_iff_eq.mpr e1]
    refine kat_yes (kat_cons (wpAny_eqBool_int ?_))
    by_cases e2 : p.2 = q.2
    · rw [beq_iff_eq.mpr e2]
      refine kat_yes (kat_nil ?_)
      rw [show p = q from Prod.ext e1 e2, decide_eq_false (Int.lt_irrefl _)] at h
      exact h
    · rw [beq_eq_false_iff_ne.mpr e2]
      refine kat_no (kat_one _ _ (PyProof.Rows.lt_int ?_))
      rw [show decide (p.2 < q.2) = decide (rank p < rank q) from decide_eq_decide.mpr (by rw [rank_lt hp hq]; exact ⟨fun h => .inr ⟨e1, h⟩, fun h => h.elim (fun h => absurd e1 (Int.ne_of_lt h)) (·.2)⟩)]
      exact h
  · rw [beq_eq_false_iff_ne.mpr e1]
    refine kat_no (oneLt_int ?_)
    rw [show decide (p.1 < q.1) = decide (rank p < rank q) from decide_eq_decide.mpr (by rw [rank_lt hp hq]; exact ⟨.inl, fun h => h.elim id fun h => absurd h.1 e1⟩)]
    exact h
/-- fewer than two: the list anew -/
theorem sorted_few {a : Addr} {Q : Value → Shared → Prop} (hl : s.heap.IsList a vs.toArray) (h2 : vs.length < 2) (h : Q (.ref (s.heap.objs.size + 1)) { s with heap := sortedAll s.heap vs vs.toArray }) :
    wpAny (model pg w) A (call (.builtin "sorted") [.ref a]) Q E s := by
  have hz : vs.length ≤ sizeLine := by rw [sl_eq]; omega
  refine Calls.call_function_entry kind_sorted plain_sorted entry_sorted (args_sorted1 _) ?_
  unfold Builtin.«sorted»
  refine wpAny_bind (m := checkCount "sorted" 1 1 _) (wpAny_pure ?_)
  refine wpAny_bind (collect_list hl ?_ hz)
  refine wpAny_bind (wpAny_newList ?_ hz)
  have hsz : ((s.heap.push (seqObj "list" #[] 0)).update s.heap.objs.size (Obj.mapSeq (· ++ vs.toArray))).objs.size = s.heap.objs.size + 1 := by
    rw [Heap.size_update, size_push']
  generalize hg : (s.heap.push (seqObj "list" #[] 0)).update s.heap.objs.size (Obj.mapSeq (· ++ vs.toArray)) = g at hsz
  have hoL : (g.push (seqObj "list" vs.toArray 0)).get? (s.heap.objs.size + 1) = some (seqObj "list" vs.toArray 0) := by
    rw [← hsz]; exact Heap.get?_push_size _ rfl
  have e : sortedAll s.heap vs vs.toArray = sortedHeap (g.push (seqObj "list" vs.toArray 0)) (s.heap.objs.size + 1) vs vs.toArray := by rw [← hg]; rfl
  rw [e] at h
  show wpAny _ _ _ _ _ { s with heap := g.push (seqObj "list" vs.toArray 0) }
  rw [hsz]
  refine wpAny_bind (wpAny_holding (wpAny_call_entry slot_list_sort ⟨_, hoL, rfl⟩ entry_list_sort ?_ (args_list_sort _)))
  generalize g.push (seqObj "list" vs.toArray 0) = g2 at *
  generalize s.heap.objs.size + 1 = D at *
  rw [list_sort_plain]
  have ha : D < g2.objs.size := Heap.lt_size hoL
  refine wpAny_bind (listItems_at hoL rfl ?_)
  refine wpAny_bind (listUpdate_at hoL rfl ?_ (by rw [List.size_toArray]; exact hz) (Nat.zero_le _))
  obtain ⟨e1, ho1⟩ : ∃ e1, (g2.update D (Obj.mapSeq fun _ => #[])).get? D = some (seqObj "list" #[] e1) := ⟨_, get?_update_seq hoL (fun _ => #[])⟩
  refine wpAny_bind (seqEpoch_at ho1 rfl ?_)
  refine wpAny_bind (wpAny_newTuple ?_ hz)
  refine wpAny_bind (wpAny_newList ?_ (Nat.zero_le _))
  refine wpAny_holding ?_
  have ho6 : (((g2.update D (Obj.mapSeq fun _ => #[])).push (seqObj "tuple" vs.toArray 0)).push (seqObj "list" #[] 0)).get? D = some (seqObj "list" #[] e1) := Heap.get?_push_of_some _ (Heap.get?_push_of_some _ ho1)
  have hn2 : vs.toArray.size < 2 := h2
  rw [if_pos hn2, if_pos hn2]
  refine wpAny_bind (wpAny_pure ?_)
  dsimp only
  rw [StateT.run_pure]
  refine wpAny_bind (wpAny_pure ?_)
  dsimp only
  refine wpAny_bind (seqEpoch_at ho6 rfl ?_)
  have eo : (arrOf (SortSt.mk' general' (vs.toArray.zip vs.toArray) #[] 7 none)).map (·.2) = vs.toArray := by
    show (vs.toArray.zip vs.toArray).map (·.2) = vs.toArray
    exact Array.map_snd_zip (Nat.le_refl _)
  refine wpAny_bind (listUpdate_at ho6 rfl ?_ (Nat.zero_le _) (by rw [eo]; exact Nat.le_succ_of_le hz))
  rw [eo]
  simp only [bne_self_eq_false, Bool.false_eq_true, if_false]
  exact wpAny_pure ⟨_, rfl, wpAny_pure ⟨_, rfl, h⟩⟩
end
section
variable {w : World} {WT : Nat → List PV → (PV → Prop) → Prop} {G : List GE} {kb ub : Nat} {a : CE} {p0 p1 : Nat}
theorem getD_of {vs : List Value} {l : List (Int × Int)} {src : Addr} {I : Led} (r : VRs w src I vs (l.map pairV)) {i : Nat} (hi : i < l.length) : VR w src I (vs.getD i .none) (pairV (l.getD i (0, 0))) := by
  have h1 : l[i]? = some (l.getD i (0, 0)) := by rw [List.getD_eq_getElem?_getD, List.getElem?_eq_getElem hi]; rfl
  obtain ⟨v, e, rr⟩ := r.get (k := i) (p := pairV (l.getD i (0, 0))) (by rw [List.getElem?_map, h1]; rfl)
  rw [List.getD_eq_getElem?_getD, e]
  exact rr
theorem sound_sorted (ha : SE w WT G kb ub a) : SE w WT G kb ub (.call1 1 p0 a p1) := fun X s I loc Post Q E ok _ hc S hw ans =>
  call1_go ok S ha hc rfl (by decide) (by decide) hw fun v p l1 g1 t1 I1 m1 w1 r1 S1 => by
    obtain ⟨ad, vs, n, ps, rfl, rfl, hm, rr, l, rfl, h64, hb, inj, w2⟩ := lstV_vr r1 w1
    obtain ⟨T, N, sub, put, same⟩ := S1.led
    have hl : vs.length = l.length := by rw [rr.1, List.length_map]
    have hI : ∀ {h' : Heap} {D : Addr} {o : Obj}, News X.h₀ X.L h' ((D, o) :: T) → HeldL h' I1 := fun N' q hq => (N' q (.tail _ (sub q hq))).1
    by_cases h2 : vs.length < 2
    · refine sorted_few (s := { s with heap := g1, toks := t1 }) (N.isList (sub _ hm)) h2 ?_
      obtain ⟨e, he⟩ := sortedAll_at g1 vs vs.toArray
      have N' := N.kept_cons S1.1 (h' := sortedAll g1 vs vs.toArray) (fun _ _ => sortedAll_old) (Nat.le_succ _) he
      refine ans (.ref (g1.objs.size + 1)) (.lst (l.map pairV)) l1 _ t1 ((g1.objs.size + 1, lisO vs e) :: I1) (fun q hq => .tail _ (m1 q hq)) (w2 l (.refl _) ?_) (.lstL (.head _) (rr.mono fun q hq => .tail _ hq)) (put _ _ _ (S1.1.kept fun _ _ => sortedAll_old) N' fun q hq => Nat.lt_succ_of_lt (Heap.lt_size (N q hq).1))
      exact pw_few _ (hl ▸ h2)
    · refine kat_sorted (s := { s with heap := g1, toks := t1 }) S1.1 N (N.isList (sub _ hm)) (Nat.le_of_not_lt h2) (hl ▸ h64) fun D e1 h' F' N' lt => ?_
      have hI := hI N'
      obtain ⟨fs, kt, kl, kf⟩ := tups_at hI rr
      refine kat_kind (T := .type "int") kt (by omega) (fun v hv => by obtain ⟨i, t, rfl⟩ := kf v hv; exact Looks.of_pure rfl) rfl ?_
      rw [hl]
      refine k_sort (key := fun i => rank (l.getD i (0, 0))) (fun i j C hi hj hC => pair_lt hI (getD_of rr hi) (getD_of rr hj) (hb _ ?_) (hb _ ?_) hC) inj (by omega) fun p hp hu => ?_
      · rw [List.getD_eq_getElem?_getD, List.getElem?_eq_getElem hi]; exact List.getElem_mem _
      · rw [List.getD_eq_getElem?_getD, List.getElem?_eq_getElem hj]; exact List.getElem_mem _
      refine KasFin.intro F' N' (.head fun q hq => Nat.ne_of_lt (lt q hq)) fun h2 c F2 N2 => ?_
      have hmem : ∀ i ∈ p.toList, i < l.length := fun i hi => List.mem_range.mp (hp.pm.mem_iff.mp hi)
      have rr2 : ∀ q : List Nat, (∀ i ∈ q, i < l.length) → VRs w X.src I1 (q.map fun i => vs.getD i .none) ((q.map fun i => l.getD i (0, 0)).map pairV) := fun q => by
        induction q with
        | nil => intro _; exact .nil
        | cons i q ih => intro h; exact .cons (getD_of rr (h i (.head _))) (ih fun j hj => h j (.tail _ hj))
      have pm : (p.toList.map fun i => l.getD i (0, 0)).Perm l := by
        have e : (List.range l.length).map (fun i => l.getD i (0, 0)) = l := by
          refine List.ext_getElem (by simp) fun i h1 h2 => ?_
          simp [h2]
        exact (hp.pm.map _).trans (.of_eq e)
      have pw : (p.toList.map fun i => l.getD i (0, 0)).Pairwise fun a b => rank a < rank b := by
        refine List.pairwise_iff_getElem.mpr fun i j hi hj hij => ?_
        rw [List.length_map, Array.length_toList] at hi hj
        rw [List.getElem_map, List.getElem_map]
        have := hu i j hij (hp.sz ▸ hj)
        unfold Rk at this
        simpa [Array.getD, hi, hj] using this
      exact ans (.ref D) (.lst _) l1 h2 t1 ((D, lisO _ c) :: I1) (fun q hq => .tail _ (m1 q hq)) (w2 _ pm pw) (.lstL (.head _) ((rr2 _ hmem).mono fun q hq => .tail _ hq)) (put h2 D _ F2 N2 lt)
end

end --Q13
section --Q14
section
variable (w : World) (WT : Nat → List PV → (PV → Prop) → Prop) (G : List GE) (kb ub : Nat)
noncomputable def SA (c : CE) : Prop := (SE w WT G kb ub c ∧ SL w WT G kb ub c) ∧ (SB w WT G kb ub c ∧ SS w WT G kb ub c)
end
section
variable {w : World} {WT : Nat → List PV → (PV → Prop) → Prop} {G : List GE} {kb ub : Nat} {c : CE}
theorem ft {b : Bool} (h : b = true) (h' : b = false) : False := Bool.noConfusion (h.symm.trans h')
theorem vE (h : c.isVal = false) : SE w WT G kb ub c := fun _ _ _ _ _ _ _ _ hv => (ft hv h).elim
theorem vL (h : c.isL = false) : SL w WT G kb ub c := fun _ _ _ _ _ _ _ _ _ hv => (ft hv h).elim
theorem vB (h : c.isTest = false) : SB w WT G kb ub c := fun _ _ _ _ _ _ _ _ hv => (ft hv h).elim
theorem ofE (hv : c.isVal = true) (ht : c.isTest = false) (hl : c.isL = false) (h : SE w WT G kb ub c) : SA w WT G kb ub c := ⟨⟨h, vL hl⟩, vB ht, ss_val hv h⟩
theorem ofT (hv : c.isVal = true) (hl : c.isL = false) (h : SE w WT G kb ub c ∧ SB w WT G kb ub c) : SA w WT G kb ub c := ⟨⟨h.1, vL hl⟩, h.2, ss_val hv h.1⟩
theorem ofL (hv : c.isVal = false) (ht : c.isTest = false) (hs : ∀ xs, c.okSrc xs = false) (h : SL w WT G kb ub c) : SA w WT G kb ub c := ⟨⟨vE hv, h⟩, vB ht, fun _ _ _ _ xs _ _ _ _ _ _ _ _ hv => (ft hv (hs xs)).elim⟩
theorem ofS (hv : c.isVal = false) (ht : c.isTest = false) (hl : c.isL = false) (h : SS w WT G kb ub c) : SA w WT G kb ub c := ⟨⟨vE hv, vL hl⟩, vB ht, h⟩
theorem sound (g : GOk w WT G kb ub) (c : CE) : SA w WT G kb ub c := by
  induction c with
  | nil => exact ofL rfl rfl (fun _ => rfl) sound_nil
  | cons a r ha hr => exact ofL rfl rfl (fun _ => rfl) (sound_cons ha.1.1 hr.1.2)
  | loc i p => exact ofT rfl rfl ⟨sound_loc, sb_of rfl (fun _ _ _ => rfl) sound_loc⟩
  | con => exact ofE rfl rfl rfl sound_con
  | neg a p ha => exact ofE rfl rfl rfl (sound_neg ha.1.1)
  | bin op a b p ha hb => exact ofE rfl rfl rfl (sound_bin ha.1.1 hb.1.1)
  | cat a b p ha hb => exact ofE rfl rfl rfl (sound_cat ha.1.1 hb.1.1)
  | item a k p1 p2 ha => exact ofE rfl rfl rfl (sound_item ha.1.1)
  | lidx i p1 e p2 ha => exact ofE rfl rfl rfl (sound_lidx ha.1.1)
  | len => exact ofE rfl rfl rfl sound_len
  | last1 => exact ofE rfl rfl rfl sound_last1
  | attr => exact ofE rfl rfl rfl sound_attr
  | callF k p0 es p1 ha => exact ofT rfl rfl ⟨sound_callF g ha.1.2, sb_of rfl (fun _ _ _ => rfl) (sound_callF g ha.1.2)⟩
  | callM k i p0 p1 es p2 ha => exact ofT rfl rfl ⟨sound_callM g ha.1.2, sb_of rfl (fun _ _ _ => rfl) (sound_callM g ha.1.2)⟩
  | cmp op a b p ha hb => exact ofT rfl rfl (sound_cmp ha.1.1 hb.1.1)
  | cmpL ne a b p ha hb => exact ofT rfl rfl (sound_cmpL ha.1.1 hb.1.1)
  | chain a b c p ha hb hc => exact ofT rfl rfl (sound_chain ha.1.1 hb.1.1 hc.1.1)
  | isnt a p1 p2 ha => exact ofT rfl rfl (sound_isnt ha.1.1)
  | bop o a b p ha hb => exact ofT rfl rfl (sound_bop ha.1.1 hb.1.1 ha.2.1 hb.2.1)
  | not a p ha => exact ofT rfl rfl (sound_not ha.1.1 ha.2.1)
  | ite c a b p hc ha hb => exact ofE rfl rfl rfl (sound_ite hc.2.1 ha.1.1 hb.1.1)
  | disp t es k p ha => exact ofE rfl rfl rfl (sound_disp ha.1.2)
  | call1 f p0 a p ha =>
    match f with
    | 0 => exact ofE rfl rfl rfl (sound_sum ha.1.1)
    | 1 => exact ofE rfl rfl rfl (sound_sorted ha.1.1)
    | 2 => exact ofS rfl rfl rfl (ss_range1 ha.1.1)
    | f + 3 => exact ofS rfl rfl rfl (ss_enum ha.1.1)
  | range2 p0 a b p ha hb => exact ofS rfl rfl rfl (ss_range2 ha.1.1 hb.1.1)
  | comp src xs p1 p2 k p3 caps cond elt sc p hs hc he => exact ofE rfl rfl rfl (sound_comp hs.2.2 he.1.1 hc.2.1)
end

end --Q14
section --Q15
/-! a frame's own variables: stores -/
section
variable {w : World} {src : Addr} {env : Env} {L : Addr} {I R M : Led} {m : Str → Option Value} {ns : List Str} {ps : List PV}
theorem LR.len (h : LR w src env L I R m ns ps M) : ns.length = ps.length := by
  induction h with
  | nil => rfl
  | cons _ _ ih => exact congrArg (· + 1) ih
/-- no cell of the frame lies in the outer ledger -/
noncomputable def NoRo (env : Env) (ns : List Str) (R : Led) : Prop := ∀ x ∈ ns, env.kindOf x = some .cell → ∀ c o, env.cells.lookup x = some c → (c, o) ∉ R
theorem LR.anyR (h : LR w src env L I R m ns ps M) (h1 : ∀ o, (env.locals, o) ∉ R) (h2 : NoRo env ns R) (R' : Led) : LR w src env L I R' m ns ps M := by
  induction h with
  | nil => exact .nil
  | cons a _ ih =>
    refine .cons ?_ (ih fun x hx => h2 x (.tail _ hx))
    cases a with
    | unF a b => exact .unF a b
    | unC a b c => exact .unC a b c
    | fr a b c d => exact .fr a b c d
    | ce a b c d => exact .ce a b c d
    | ac a b c d => exact .ac a b c d
    | roN _ b => exact (h1 _ b).elim
    | roC a b c => exact (h2 _ (.head _) a _ _ b c).elim
end
section
variable {w : World} {X : Kx} {kb ub i j : Nat} {s : Shared} {h : Heap} {loc : List PV} {I : Led} {p q : PV} {v u : Value} {E : Value → Shared → Prop} {Q : Unit → Shared → Prop} {A : Around}
structure Kx.Fn (X : Kx) : Prop where
  loc : X.env.locals = X.L
  ro : NoRo X.env X.cx.ns X.R
abbrev Kx.at (X : Kx) (m : Str → Option Value) : Kx := { X with m := m }
theorem Kx.Ok.at (ok : X.Ok w kb ub) (m : Str → Option Value) : (X.at m).Ok w kb ub := ⟨ok.sc, ok.gl, ok.kd, ok.nd, ok.fc⟩
theorem Kx.Fn.at (f : X.Fn) (m : Str → Option Value) : (X.at m).Fn := ⟨f.loc, f.ro⟩
theorem VR.plain (r : VR w X.src I v p) : p ≠ .unb ∧ ∀ l, p ≠ .acc l := by
  cases r <;> exact ⟨fun h => (nomatch h), fun _ h => nomatch h⟩
theorem LedOk.right {h₀ h : Heap} {L : Addr} : ∀ {S T : Led}, LedOk h₀ L h (S ++ T) → LedOk h₀ L h T
  | [], _, k => k
  | _ :: S, _, k => LedOk.right (S := S) k.tl
theorem Kx.Ok.cls (ok : X.Ok w kb ub) : (X.env.scope.kind == .class || (X.env.scope.kind == .module && X.env.locals != X.env.globals)) = false := by
  rw [ok.fn]; rfl
theorem Kx.St.lt (S : X.St w h loc I) (hp : loc[i]? = some p) : i < X.cx.ns.length := by
  obtain ⟨_, M, Sx, lr, _⟩ := S
  exact lr.len ▸ (List.getElem?_eq_some_iff.mp hp).1
/-- a value stored in a variable -/
theorem store_var {p0 : PV} (ok : X.Ok w kb ub) (f : X.Fn) (S : X.St w s.heap loc I) (hp : loc[i]? = some p0) (r : VR w X.src I v p)
    (q : ∀ m h' tk, (X.at m).St w h' (loc.set i p) I → Q () { s with heap := h', toks := tk }) : wpAny (model pg w) A (storeName X.env (X.cx.nm i) v) Q E s := by
  obtain ⟨x, M1, M0, Sx, e, hd, hs, b, lo, k⟩ := S.var ok hp
  rw [e]
  have onL : X.env.kindOf x = some .local → wpAny (model pg w) A (storeName X.env x v) Q E s := fun hl => by
    refine wpAny_storeName_local hl (f.loc ▸ S.1.ns) (fun h₂ hn₂ hs₂ => ?_) ok.cls
    have F₂ := S.1.set (f.loc ▸ hn₂) (f.loc ▸ hs₂)
    have lo2 : LedOk X.h₀ X.L h₂ (M0 ++ (Sx ++ (I ++ X.R))) := lo.right.same (lo.right.1.set (f.loc ▸ hs₂))
    exact q _ h₂ _ (k h₂ I _ p [] Sx (fun _ h => h) (fun y hy => if_neg hy) (.fr hl f.loc (if_pos rfl) r) F₂ hs lo2)
  have onC : ∀ c o v₀, X.env.kindOf x = some .cell → X.env.cells.lookup x = some c → M1 = [(c, o)] → o.data = .cell v₀ → wpAny (model pg w) A (storeName X.env x v) Q E s := fun c o v₀ hk hc hM ho => by
    subst hM
    have hg := lo.1 _ (.head _)
    refine wpAny_storeName_cell ok.fn hk hc ⟨o, hg.1, ho⟩ fun h₂ hc₂ hs₂ => ?_
    obtain ⟨o', e', ho'⟩ := hc₂
    have F₂ : Fr X.h₀ X.L h₂ X.m := S.1.change hs₂ hg.2.1 hg.2.2
    refine q X.m h₂ s.toks (k h₂ I X.m p [(c, o')] Sx (fun _ h => h) (fun _ _ => rfl) (.ce hk hc ho' r) F₂ hs (lo.tl.put ?_ lo.off))
    intro z hz
    rcases List.mem_cons.mp hz with rfl | hz
    · exact ⟨e', hg.2⟩
    · exact ⟨hs₂.extBut _ _ (lo.off z hz) (lo.1 z (.tail _ hz)).1, (lo.1 z (.tail _ hz)).2⟩
  cases b with
  | unF a => exact onL a
  | unC a b c => exact onC _ _ _ a b rfl c
  | fr a => exact onL a
  | ce a b c => exact onC _ _ _ a b rfl c
  | ac a => exact onL a
  | roN a => exact onL a
  | roC a b c => exact (f.ro x (e ▸ nm_mem (S.lt hp)) a _ _ b c).elim
end

end --Q15
section --Q16
set_option genSizeOf false
set_option genSizeOfSpec false
set_option genInjectivity false
noncomputable section
/-! the small syntax of statements -/
inductive CS where
  | done | ret (e : CE) (p : Nat)
  | set (i p1 : Nat) (e : CE) (p : Nat) (r : CS) | newl (i p1 p2 p : Nat) (r : CS) | setc (i q : Nat) (src : CE) (xs : List Str) (p1 p2 k p3 : Nat) (caps : List Nat) (cond elt : CE) (sc : Scope) (p pa : Nat) (r : CS) | zipl (i p1 j p2 p3 p4 p5 p6 p7 p8 p9 p10 p : Nat) (r : CS)
  | set2 (b : Bool) (i p1 j p2 k p3 : Nat) (x y : CE) (k2 p4 p : Nat) (r : CS)
  | app (i p1 p2 : Nat) (e : CE) (p3 p : Nat) (r : CS) | ins (i p1 p2 : Nat) (x y : CE) (p3 p : Nat) (r : CS) | ext (i p1 p2 : Nat) (e : CE) (p3 p : Nat) (r : CS)
  | ite (c : CE) (a b : CS) (p : Nat) (r : CS) | forT (xs : List Nat) (p1 p2 k p3 : Nat) (src : CE) (body : CS) (p : Nat) (r : CS) | whl (c : CE) (body : CS) (p : Nat) (r : CS)
section
variable (G : List GE)
noncomputable def sts : CS → Cx → List Stmt
  | .done, _ => []
  | .ret e p, cx => [.Return (some (ex G e cx)) (P p)]
  | .set i p1 e p r, cx => .Assign [.Name (cx.nm i) (P p1)] (ex G e cx) (P p) :: sts r cx
  | .newl i p1 p2 p r, cx => .Assign [.Name (cx.nm i) (P p1)] (.List [] (P p2)) (P p) :: sts r cx
  | .setc i q src xs p1 p2 k p3 caps cond elt sc p pa r, cx => .Assign [.Name (cx.nm i) (P q)] (ex G (.comp src xs p1 p2 k p3 caps cond elt sc p) cx) (P pa) :: sts r cx
  | .zipl i p1 j p2 p3 p4 p5 p6 p7 p8 p9 p10 p r, cx => .Assign [.Name (cx.nm i) (P p1)] (.Call (.Name "list" (P p2)) [.Call (.Name "zip" (P p3)) [.Name (cx.nm j) (P p4), .Subscript (.Name (cx.nm j) (P p5)) (.Slice (some (.Constant (.int 1) 0 (P p6))) none none (P p7)) (P p8)] [] (P p9)] [] (P p10)) (P p) :: sts r cx
  | .set2 _ i p1 j p2 k p3 x y k2 p4 p r, cx => .Assign [.Tuple [.Name (cx.nm i) (P p1), .Name (cx.nm j) (P p2)] k (P p3)] (.Tuple [ex G x cx, ex G y cx] k2 (P p4)) (P p) :: sts r cx
  | .app i p1 p2 e p3 p r, cx => .Expr (.Call (.Attribute (.Name (cx.nm i) (P p1)) "append" (P p2)) [ex G e cx] [] (P p3)) (P p) :: sts r cx
  | .ins i p1 p2 x y p3 p r, cx => .Expr (.Call (.Attribute (.Name (cx.nm i) (P p1)) "insert" (P p2)) [ex G x cx, ex G y cx] [] (P p3)) (P p) :: sts r cx
  | .ext i p1 p2 e p3 p r, cx => .Expr (.Call (.Attribute (.Name (cx.nm i) (P p1)) "extend" (P p2)) [ex G e cx] [] (P p3)) (P p) :: sts r cx
  | .ite c a b p r, cx => .If (ex G c cx) (sts a cx) (sts b cx) (P p) :: sts r cx
  | .forT xs p1 p2 k p3 src body p r, cx => .For (tgtE (xs.map cx.nm) p1 p2 k p3) (ex G src cx) (sts body cx) [] (P p) :: sts r cx
  | .whl c body p r, cx => .While (ex G c cx) (sts body cx) [] (P p) :: sts r cx
noncomputable def vck (e : CE) (cx : Cx) : Bool := e.isVal && ck G e cx
/-- the tuple of two on the right: no store is folded, all stores are swapped if both names are local and stand on a line -/
noncomputable def swp (b : Bool) (x y : Str) (l : Bool) (a c : PySem.Expr) (cx : Cx) : Bool :=
  if b then ((cx.sc.names.lookup x == some .local && cx.sc.names.lookup y == some .local) && (l && !(x == y))) && (!(foldedForSure 8 a && foldedForSure 8 c) && !(constantsAlone 8 a && constantsAlone 8 c))
  else !(cx.sc.names.lookup x == some .local)
noncomputable def ckS : CS → Cx → Bool
  | .done, _ => true
  | .ret e _, cx => vck G e cx
  | .set _ _ e _ r, cx => (vck G e cx && !(Nat.beq e.kd 3)) && ckS r cx
  | .newl i _ _ _ r, cx => (cx.sc.names.lookup (cx.nm i) == some .local) && ckS r cx
  | .setc i q src xs p1 p2 k p3 caps cond elt sc p _ r, cx => (((cx.sc.names.lookup (cx.nm i) == some .local && (P q).line == (P p).line) && !(sc.names.any fun (n, k) => n == cx.nm i && (k == .local || k == .cell))) && vck G (.comp src xs p1 p2 k p3 caps cond elt sc p) cx) && ckS r cx
  | .zipl i _ _ _ _ _ _ _ _ _ _ _ _ r, cx => ((isGlob cx "list" && isGlob cx "zip") && (cx.sc.names.lookup (cx.nm i) == some .local)) && ckS r cx
  | .set2 b i p1 j p2 _ _ x y _ _ _ r, cx => (swp b (cx.nm i) (cx.nm j) ((P p1).line == (P p2).line) (ex G x cx) (ex G y cx) cx && (vck G x cx && vck G y cx)) && ckS r cx
  | .app _ _ p2 e p3 _ r, cx => ((P p2).endLine == (P p3).line && vck G e cx) && ckS r cx
  | .ins _ _ p2 x y p3 _ r, cx => ((P p2).endLine == (P p3).line && (vck G x cx && vck G y cx)) && ckS r cx
  | .ext _ _ p2 e p3 _ r, cx => ((P p2).endLine == (P p3).line && vck G e cx) && ckS r cx
  | .ite c a b _ r, cx => ((c.isTest && ck G c cx) && (ckS a cx && ckS b cx)) && ckS r cx
  | .forT xs _ _ _ _ src body _ r, cx => ((src.okSrc (xs.map cx.nm) && ck G src cx) && ckS body cx) && ckS r cx
  | .whl c body _ r, cx => ((c.isTest && ck G c cx) && ckS body cx) && ckS r cx
end
noncomputable def lstL (loc : List PV) (i : Nat) (k : List PV → Prop) : Prop := match loc[i]? with | some (.lst l) => k l | _ => False
noncomputable def setV (loc : List PV) (i : Nat) (p : PV) (k : List PV → Prop) : Prop := match loc[i]? with | none => False | some _ => k (loc.set i p)
noncomputable def tgtL (xs : List Nat) (p : PV) (loc : List PV) (k : List PV → Prop) : Prop := match xs, p with | [i], p => setV loc i p k | [i, j], .tup [a, b] => setV loc i a fun l => setV l j b k | _, _ => False
noncomputable def forL (turn : PV → List PV → (List PV → Prop) → Prop) : List PV → List PV → (List PV → Prop) → Prop
  | [], loc, k => k loc
  | p :: r, loc, k => turn p loc fun l => forL turn r l k
section
variable (WT : Nat → List PV → (PV → Prop) → Prop)
noncomputable def wpS : CS → List PV → (List PV → Prop) → (PV → Prop) → Prop
  | .done, loc, k, _ => k loc
  | .ret e _, loc, _, R => wp WT e loc fun v _ => oneV v R
  | .set i _ e _ r, loc, k, R => wp WT e loc fun v l => oneV v fun p => setV l i p fun l => wpS r l k R
  | .newl i _ _ _ r, loc, k, R => setV loc i (.acc []) fun l => wpS r l k R
  | .setc i _ src xs p1 p2 kk p3 caps cond elt sc p _ r, loc, k, R => wp WT (.comp src xs p1 p2 kk p3 caps cond elt sc p) loc fun v l => lstV v fun ys => setV l i (.acc ys) fun l => wpS r l k R
  | .zipl i _ j _ _ _ _ _ _ _ _ _ _ r, loc, k, R => lstL loc j fun ps => (1 ≤ ps.length ∧ ps.length ≤ 1000) ∧ setV loc i (.acc ((ps.zip (ps.drop 1)).map fun q => .tup [q.1, q.2])) fun l => wpS r l k R
  | .set2 _ i _ j _ _ _ x y k2 p4 _ r, loc, k, R => wp WT (.disp true (.cons x (.cons y .nil)) k2 p4) loc fun v l => oneV v fun q => tgtL [i, j] q l fun l => wpS r l k R
  | .app i _ _ e _ _ r, loc, k, R => accL loc i fun _ => wp WT e loc fun v l => oneV v fun p => accL l i fun ps => ps.length ≤ 1000 ∧ wpS r (l.set i (.acc (ps ++ [p]))) k R
  | .ins i _ _ x y _ _ r, loc, k, R => accL loc i fun _ => wp WT x loc fun v l => intV v fun n => wp WT y l fun v l => oneV v fun p => accL l i fun ps => (ps.length ≤ 1000 ∧ 0 ≤ n ∧ n ≤ ps.length) ∧ wpS r (l.set i (.acc (ps.take n.toNat ++ p :: ps.drop n.toNat))) k R
  | .ext i _ _ e _ _ r, loc, k, R => accL loc i fun _ => wp WT e loc fun v l => lstV v fun qs => accL l i fun ps => (ps.length ≤ 1000 ∧ qs.length ≤ 1000) ∧ wpS r (l.set i (.acc (ps ++ qs))) k R
  | .ite c a b _ r, loc, k, R => wp WT c loc fun v l => boolV v fun t => if t then wpS a l (fun l => wpS r l k R) R else wpS b l (fun l => wpS r l k R) R
  | .forT xs _ _ _ _ src body _ r, loc, k, R => wp WT src loc fun v l => lstV v fun items => items.length ≤ 1000 ∧ forL (fun p loc K => tgtL xs p loc fun l => wpS body l K R) items l fun l => wpS r l k R
  | .whl c body _ r, loc, k, R => ∃ J : Nat → List PV → Prop, (∃ n, J n loc) ∧ ∀ n l, J n l → wp WT c l fun v l => boolV v fun t => if t then wpS body l (fun l => ∃ m, m < n ∧ J m l) (fun _ => False) else wpS r l k R
end
end

end --Q16
section --Q17
section
variable (w : World) (WT : Nat → List PV → (PV → Prop) → Prop) (G : List GE) (kb ub : Nat)
/-- what a block's end hands on -/
noncomputable def Kx.End (w : World) (X : Kx) (k : List PV → Prop) (R : PV → Prop) (Q : Flow → Shared → Prop) (s : Shared) (I : Led) : Prop :=
  (∀ m loc' h' tk' I', (∀ q ∈ I, q ∈ I') → k loc' → (X.at m).St w h' loc' I' → Q .next { s with heap := h', toks := tk' }) ∧
  (∀ v p m loc' h' tk' I', (∀ q ∈ I, q ∈ I') → R p → VR w X.src I' v p → (X.at m).St w h' loc' I' → Q (.ret v) { s with heap := h', toks := tk' })
noncomputable def SC (c : CS) : Prop := ∀ (X : Kx) (s : Shared) (I : Led) (loc : List PV) (k : List PV → Prop) (R : PV → Prop) (Q : Flow → Shared → Prop), X.Ok w kb ub → X.Fn → ckS G c X.cx = true → X.St w s.heap loc I → wpS WT c loc k R → X.End w k R Q s I →
  wpAny (model pg w) X.A (execs (sts G c X.cx) X.env) Q (fun _ _ => False) s
end
section
variable {w : World} {WT : Nat → List PV → (PV → Prop) → Prop} {G : List GE} {kb ub : Nat} {X : Kx} {s : Shared} {loc : List PV} {I : Led} {k : List PV → Prop} {R : PV → Prop} {Q : Flow → Shared → Prop} {c r : CS} {e x y : CE} {i p p1 p2 p3 : Nat}
theorem Kx.End.up (e : X.End w k R Q s I) {m : Str → Option Value} {h : Heap} {tk : Nat} {I' : Led} (hI : ∀ q ∈ I, q ∈ I') : (X.at m).End w k R Q { s with heap := h, toks := tk } I' :=
  ⟨fun m loc' h' tk' I2 h2 => e.1 m loc' h' tk' I2 fun q hq => h2 q (hI q hq), fun v p m loc' h' tk' I2 h2 => e.2 v p m loc' h' tk' I2 fun q hq => h2 q (hI q hq)⟩
theorem setV_inv {p : PV} (h : setV loc i p k) : ∃ p0, loc[i]? = some p0 ∧ k (loc.set i p) := by
  unfold setV at h
  cases e : loc[i]? with
  | none => rw [e] at h; exact h.elim
  | some p0 => rw [e] at h; exact ⟨p0, rfl, h⟩
theorem oneV_inv {v : PV} {k : PV → Prop} (h : oneV [v] k) : k v := h
theorem accL_inv {k : List PV → Prop} (h : accL loc i k) : ∃ ps, loc[i]? = some (.acc ps) ∧ k ps := by
  unfold accL at h
  split at h
  · exact ⟨_, ‹_›, h⟩
  · exact h.elim
theorem not_star (e : CE) {cx : Cx} {env : Env} {es : List PySem.Expr} : starEach (ex G e cx :: es) env = (false, eval (ex G e cx) env) :: starEach es env := starEach_plain noStar
theorem swaps_no {cx : Cx} {env : Env} {t : Option PySem.Expr} {l : Nat} : ∀ e : CE, Nat.beq e.kd 3 = false → swapsWith (ex G e cx) t l env = pure false := fun e h => by
  cases e <;> first | rfl | (cases h) | skip
  · rename_i t es k p
    cases t <;> rfl
theorem sc_done : SC w WT G kb ub .done := fun X s I loc k R Q ok f _ S hw e => wpAny_execs_nil (e.1 X.m loc s.heap s.toks I (fun _ h => h) hw S)
theorem sc_ret (he : SE w WT G kb ub e) : SC w WT G kb ub (.ret e p) := fun X s I loc k R Q ok f hc S hw en =>
  wpAny_execs_cons (wpAny_Return_some (he X s I loc _ _ _ ok (band hc).1 (band hc).2 S hw fun v p l h t I1 m1 w1 r1 S1 => en.2 v p X.m l h t I1 m1 (oneV_inv w1) r1 S1))
theorem sc_set (he : SE w WT G kb ub e) (hr : SC w WT G kb ub r) : SC w WT G kb ub (.set i p1 e p r) := fun X s I loc k R Q ok f hc S hw en =>
  wpAny_execs_cons (wpAny_Assign_Name (he X s I loc _ _ _ ok (band (band (band hc).1).1).1 (band (band (band hc).1).1).2 S hw fun v p l h t I1 m1 w1 r1 S1 => by
    obtain ⟨p0, h0, w2⟩ := setV_inv (oneV_inv w1)
    exact store_var (s := { s with heap := h, toks := t }) ok f S1 h0 r1 fun m h' tk S2 => hr (X.at m) _ I1 _ k R Q (ok.at m) (f.at m) (band hc).2 S2 w2 (en.up m1)) (swaps_no e (by simpa using (band (band hc).1).2)))
theorem Cx.nm_of {cx : Cx} {i : Nat} {x : Str} (h : cx.ns[i]? = some x) : cx.nm i = x := by unfold Cx.nm; rw [List.getD_eq_getElem?_getD, h]; rfl
/-- a new list becomes a variable's own -/
theorem acc_st {p0 : PV} {h : Heap} {D : Addr} {vs : List Value} {ps : List PV} {n : Nat} {M Sx : Led} (ok : X.Ok w kb ub) (f : X.Fn) (lr : LR w X.src X.env X.L I X.R X.m X.cx.ns loc M) (hs : SrcL X.src X.cx.own Sx) (hp : loc[i]? = some p0) (hl : X.env.kindOf (X.cx.nm i) = some .local)
    (F : Fr X.h₀ X.L h (fun z => if z = X.cx.nm i then some (.ref D) else X.m z)) (N : News X.h₀ X.L h ((D, lisO vs n) :: (M ++ (Sx ++ (I ++ X.R))))) (nd : ((M ++ (Sx ++ (I ++ X.R))).map (·.1)).Nodup) (off : ∀ q ∈ M ++ (Sx ++ (I ++ X.R)), q.1 ≠ D) (r : VRs w X.src I vs ps) :
    (X.at fun z => if z = X.cx.nm i then some (.ref D) else X.m z).St w h (loc.set i (.acc ps)) I := by
  obtain ⟨x, M1, M0, hx, pm, _, k⟩ := lr.lens ok.nd.1 hp
  have e := Cx.nm_of hx
  obtain ⟨M', pm', lr'⟩ := k I (fun z => if z = X.cx.nm i then some (.ref D) else X.m z) (.acc ps) [(D, lisO vs n)] (fun _ h => h) (fun y hy => if_neg fun h => hy (h.trans e)) (.ac (e ▸ hl) f.loc (if_pos e.symm) r)
  have lo : LedOk X.h₀ X.L h ((D, lisO vs n) :: (M ++ (Sx ++ (I ++ X.R)))) := LedOk.put ⟨fun q hq => N q (.tail _ hq), nd⟩ N off
  have q1 : ((D, lisO vs n) :: (M ++ (Sx ++ (I ++ X.R)))).Perm (M1 ++ ((D, lisO vs n) :: (M0 ++ (Sx ++ (I ++ X.R))))) := by
    refine List.Perm.trans (List.Perm.cons _ ?_) List.perm_middle.symm
    rw [← List.append_assoc M1]
    exact pm.append_right _
  exact ⟨F, M', Sx, lr', hs, (lo.perm q1.symm).right.perm (pm'.append_right _)⟩
theorem kind_of {n : NameKind} {x : Str} (ok : X.Ok w kb ub) (h : (X.cx.sc.names.lookup x == some n) = true) : X.env.kindOf x = some n := by
  unfold Env.kindOf
  rw [ok.sc]
  exact beq_iff_eq.mp h
theorem sc_newl (hr : SC w WT G kb ub r) : SC w WT G kb ub (.newl i p1 p2 p r) := fun X s I loc k R Q ok f hc S hw en => by
  obtain ⟨p0, h0, w2⟩ := setV_inv hw
  have hl := kind_of ok (band hc).1
  obtain ⟨F, M, Sx, lr, hs, lo⟩ := S
  refine wpAny_execs_cons (wpAny_Assign_Name (List_ (spliced_none (newList_K (vs := []) F lo.1 (fun D h' F' N' lt => wpAny_storeName_local hl (f.loc ▸ F'.ns) (fun h₂ hn hs₂ => ?_) ok.cls) (Nat.zero_le _)))) rfl)
  exact hr (X.at fun z => if z = X.cx.nm i then some (.ref D) else X.m z) _ I _ k R Q (ok.at _) (f.at _) (band hc).2 (acc_st ok f lr hs h0 hl (F'.set (f.loc ▸ hn) (f.loc ▸ hs₂)) (N'.set (f.loc ▸ hs₂)) lo.2 (fun q hq => Nat.ne_of_lt (lt q hq)) .nil) w2 (en.up fun _ h => h)
theorem sc_setc {src cond elt : CE} {xs : List Str} {q0 q1 q2 kk q3 q : Nat} {caps : List Nat} {sc : Scope} (a1 : SS w WT G kb ub src) (a2 : SE w WT G kb ub elt) (a3 : SB w WT G kb ub cond) (hr : SC w WT G kb ub r) : SC w WT G kb ub (.setc i q0 src xs q1 q2 kk q3 caps cond elt sc q p r) := fun X s I loc k R Q ok f hc S hw en => by
  have h1 := band hc
  have h2 := band h1.1
  have h3 := band h2.1
  have h4 := band h3.1
  have hl := kind_of ok h4.1
  obtain ⟨k1, k2, cl, hcl, hh⟩ := comp_go (Q := fun _ s' => wpAny (model pg w) X.A (execs (sts G r X.cx) X.env) Q (fun _ _ => False) s') (E := fun _ _ => False) ok (band h2.2).2 S a1 a2 a3 hw (use := some (assign (.Name (X.cx.nm i) (P q0)) X.env)) (pos := P q)
    (Fin := fun D ys nx => ∀ h tk, Fr X.h₀ X.L h (fun z => if z = X.cx.nm i then some (.ref D) else X.m z) → News X.h₀ X.L h ((D, LCg.lst ys) :: nx) → wpAny (model pg w) X.A (execs (sts G r X.cx) X.env) Q (fun _ _ => False) { s with heap := h, toks := tk })
    (fun h tk => f.loc ▸ post_A (Q := fun fl s' => match fl with | .next => wpAny (model pg w) X.A (execs (sts G r X.cx) X.env) Q (fun _ _ => False) s' | fl => Q fl s') hl ok.cls)
    fun D ys qs l1 Ik M Sx hI hp rr lr hsx nd hne h tk F N => by
      obtain ⟨p0, h0, w2⟩ := setV_inv (show setV l1 i (PV.acc qs) (fun l => wpS WT r l k R) from hp)
      exact hr (X.at fun z => if z = X.cx.nm i then some (.ref D) else X.m z) _ Ik _ k R Q (ok.at _) (f.at _) h1.2 (acc_st ok f lr hsx h0 hl F N nd hne rr) w2 (en.up hI)
  refine wpAny_execs_cons (comp_asg ?_ hcl k1 k2 (folded_none noSet) hh)
  have e2 : (X.env.blockKind == .function && X.env.kindOf (X.cx.nm i) == some .local && (P q0).line == (P q).line && !(sc.names.any fun (n, k) => n == X.cx.nm i && (k == .local || k == .cell))) = true := by
    rw [h3.2, h4.2, hl]
    unfold Env.blockKind
    rw [ok.fn]
    rfl
  exact congrArg pure e2
end

end --Q17
section --Q18
section
variable {w : World} {WT : Nat → List PV → (PV → Prop) → Prop} {G : List GE} {kb ub : Nat} {X : Kx} {s : Shared} {loc : List PV} {I : Led} {k : List PV → Prop} {R : PV → Prop} {Q : Flow → Shared → Prop} {c r : CS} {e x y : CE} {i p p1 p2 p3 : Nat}
/-- a growing list's method: its object, found by name; then the arguments, then the call at the same object -/
theorem acc_call {name id : String} {ps : List PV} {args : List PySem.Expr} {p1 p2 p3 p4 : Pos} (ok : X.Ok w kb ub) (S : X.St w s.heap loc I) (hp : loc[i]? = some (.acc ps)) (sl : Slot "list" name id) (ty : typeOf (.builtin id) = pure (.type "method_descriptor"))
    (h1 : (p2.endLine == p3.line) = true) (h2 : (backTo p3 (starEach args X.env)).any (·.1) = false) (h3 : args.length ≤ 20) (hs : swapsWith (.Call (.Attribute (.Name (X.cx.nm i) p1) name p2) args [] p3) none p4.line X.env = pure false)
    (q : ∀ a, (X.env.kindOf (X.cx.nm i) = some .local ∧ X.env.locals = X.L ∧ X.m (X.cx.nm i) = some (.ref a)) → wpAny (model pg w) X.A (callWith p3 (.builtin id) [.ref a] (backTo p3 (starEach args X.env)) []) (fun v s' => match v with | .ref _ => False | _ => Q .next s') (fun _ _ => False) s) :
    wpAny (model pg w) X.A (exec (.Expr (.Call (.Attribute (.Name (X.cx.nm i) p1) name p2) args [] p3) p4) X.env) Q (fun _ _ => False) s := by
  obtain ⟨a, vs, n, M0, Sx, r, nm, kk, hs', lo, _⟩ := S.acc ok hp
  have hi : interactive X.env = false := by unfold interactive; rw [ok.fn]; rfl
  exact wpAny_Expr (meth_call h1 h2 h3 fun pl => nm _ _ _ _ _ rfl (kl_method lo.1 (.head _) sl ty (q a kk))) hi hs
/-- .. and at the call: the same object -/
theorem acc_same {h : Heap} {ps : List PV} {a : Addr} {I : Led} (ok : X.Ok w kb ub) (S : X.St w h loc I) (hp : loc[i]? = some (.acc ps)) (kk : X.env.kindOf (X.cx.nm i) = some .local ∧ X.env.locals = X.L ∧ X.m (X.cx.nm i) = some (.ref a)) :
    ∃ vs n T, VRs w X.src I vs ps ∧ LedOk X.h₀ X.L h ((a, lisO vs n) :: T) ∧ (∀ q ∈ I, q ∈ T) ∧ ∀ h' vs' n' ps', VRs w X.src I vs' ps' → Fr X.h₀ X.L h' X.m → News X.h₀ X.L h' ((a, lisO vs' n') :: T) → X.St w h' (loc.set i (.acc ps')) I := by
  obtain ⟨b, vs, n, M0, Sx, r, nm, k2, hs, lo, k⟩ := S.acc ok hp
  cases Value.ref.inj (Option.some.inj (k2.2.2.symm.trans kk.2.2))
  exact ⟨vs, n, _, r, lo, fun q hq => mem3 hq, fun h' vs' n' ps' r' F' N' => k h' I X.m (.acc ps') [(a, lisO vs' n')] Sx (fun _ h => h) (fun _ _ => rfl) (.ac kk.1 kk.2.1 kk.2.2 r') F' hs (lo.tl.put N' lo.off)⟩
theorem len_vr {src : Addr} {vs : List Value} {ps : List PV} (r : VRs w src I vs ps) (h : ps.length ≤ 1000) : vs.length ≤ 1000 := r.1 ▸ h
theorem sc_app (he : SE w WT G kb ub e) (hr : SC w WT G kb ub r) : SC w WT G kb ub (.app i p1 p2 e p3 p r) := fun X s I loc k R Q ok f hc S hw en => by
  have h1 := band hc
  have h2 := band h1.1
  obtain ⟨ps0, h0, w1⟩ := accL_inv hw
  refine wpAny_execs_cons (acc_call ok S h0 PySem.F.slot_list_append PySem.F.type_list_append h2.1 (plain_of (.cons e .nil)) (Nat.le_of_ble_eq_true rfl) rfl fun a kk => callWith_method1 (spliced_more (he X s I loc _ _ _ ok (band h2.2).1 (band h2.2).2 S w1 fun v p l h t I1 m1 w2 r1 S1 => spliced_none ?_) (not_star e)) (not_star e) rfl)
  obtain ⟨ps, e1, hz, w3⟩ := accL_inv (oneV_inv w2)
  obtain ⟨vs, n, T, rr, lo, sub, fin⟩ := acc_same ok S1 e1 kk
  exact lx_append (s := { s with heap := h, toks := t }) S1.1 lo.1 (.head lo.off) (len_vr rr hz) fun h' F' N' => hr X _ I1 _ k R Q ok f h1.2 (fin h' _ _ _ (rr.app (.cons r1 .nil)) F' N') w3 (en.up (m := X.m) m1)
theorem sc_ins (hx : SE w WT G kb ub x) (hy : SE w WT G kb ub y) (hr : SC w WT G kb ub r) : SC w WT G kb ub (.ins i p1 p2 x y p3 p r) := fun X s I loc k R Q ok f hc S hw en => by
  have h1 := band hc
  have h2 := band h1.1
  have h3 := band h2.2
  obtain ⟨ps0, h0, w1⟩ := accL_inv hw
  refine wpAny_execs_cons (acc_call ok S h0 PySem.F.slot_list_insert PySem.F.type_list_insert h2.1 (plain_of (.cons x (.cons y .nil))) (Nat.le_of_ble_eq_true rfl) rfl fun a kk => callWith_method1 (spliced_more (hx X s I loc _ _ _ ok (band h3.1).1 (band h3.1).2 S w1 fun v p l h t I1 m1 w2 r1 S1 => ?_) (not_star x)) (not_star x) (plain_of (.cons y .nil)))
  obtain ⟨x0, tx, rfl, rfl, w2⟩ := intV_vr r1 w2
  refine spliced_more (hy X _ I1 l _ _ _ ok (band h3.2).1 (band h3.2).2 S1 w2 fun u q l2 g2 t2 I2 m2 w3 r2 S2 => spliced_none ?_) (not_star y)
  obtain ⟨ps, e1, hz, w4⟩ := accL_inv (oneV_inv w3)
  obtain ⟨vs, n, T, rr, lo, sub, fin⟩ := acc_same ok S2 e1 kk
  exact lx_insert (s := { s with heap := g2, toks := t2 }) S2.1 lo.1 (.head lo.off) hz.2.1 (by rw [rr.1]; exact hz.2.2) (len_vr rr hz.1) fun h' F' N' => hr X _ I2 _ k R Q ok f h1.2 (fin h' _ _ _ ((rr.take _).app (.cons r2 (rr.drop _))) F' N') w4 (en.up (m := X.m) fun q hq => m2 q (m1 q hq))
theorem sc_ext (he : SE w WT G kb ub e) (hr : SC w WT G kb ub r) : SC w WT G kb ub (.ext i p1 p2 e p3 p r) := fun X s I loc k R Q ok f hc S hw en => by
  have h1 := band hc
  have h2 := band h1.1
  obtain ⟨ps0, h0, w1⟩ := accL_inv hw
  refine wpAny_execs_cons (acc_call ok S h0 PySem.F.slot_list_extend PySem.F.type_list_extend h2.1 (plain_of (.cons e .nil)) (Nat.le_of_ble_eq_true rfl) rfl fun a kk => callWith_method1 (spliced_more (he X s I loc _ _ _ ok (band h2.2).1 (band h2.2).2 S w1 fun v p l h t I1 m1 w2 r1 S1 => spliced_none ?_) (not_star e)) (not_star e) rfl)
  obtain ⟨b, ws, n2, qs, rfl, rfl, hm, r2, w3⟩ := lstV_vr r1 w2
  obtain ⟨ps, e1, hz, w4⟩ := accL_inv w3
  obtain ⟨vs, n, T, rr, lo, sub, fin⟩ := acc_same ok S1 e1 kk
  exact lx_extend (s := { s with heap := h, toks := t }) S1.1 lo.1 (.tail _ (sub _ hm)) (.head lo.off) (len_vr rr hz.1) (len_vr r2 hz.2) fun c h' F' N' => hr X _ I1 _ k R Q ok f h1.2 (fin h' _ _ _ (rr.app r2) F' N') w4 (en.up (m := X.m) m1)
theorem sc_ite {a b : CS} (tc : SB w WT G kb ub e) (ha : SC w WT G kb ub a) (hb : SC w WT G kb ub b) (hr : SC w WT G kb ub r) : SC w WT G kb ub (.ite e a b p r) := fun X s I loc k R Q ok f hc S hw en => by
  have h1 := band hc
  have h2 := band h1.1
  have h3 := band h2.1
  have h4 := band h2.2
  refine wpAny_execs_cons (wpAny_If (tc X s I loc _ _ _ ok h3.1 h3.2 S hw fun t l h tk I1 m1 w1 S1 => ?_))
  have go : X.End w (fun l => wpS WT r l k R) R (fun fl s' => match fl with | .next => wpAny (model pg w) X.A (execs (sts G r X.cx) X.env) Q (fun _ _ => False) s' | fl => Q fl s') { s with heap := h, toks := tk } I1 :=
    ⟨fun m l' h' tk' I' m2 w2 S2 => hr (X.at m) _ I' l' k R Q (ok.at m) (f.at m) h1.2 S2 w2 (en.up fun q hq => m2 q (m1 q hq)), fun v p m l' h' tk' I' m2 w2 rr S2 => en.2 v p m l' h' tk' I' (fun q hq => m2 q (m1 q hq)) w2 rr S2⟩
  cases t with
  | true => exact ha X _ I1 l _ R _ ok f h4.1 S1 w1 go
  | false => exact hb X _ I1 l _ R _ ok f h4.2 S1 w1 go
end

end --Q18
section --Q19
section
variable {w : World} {WT : Nat → List PV → (PV → Prop) → Prop} {G : List GE} {kb ub : Nat} {X : Kx} {s : Shared} {loc : List PV} {I : Led} {k : List PV → Prop} {R : PV → Prop} {Q : Flow → Shared → Prop} {c r body : CS} {e x y src : CE} {i j p p1 p2 p3 kk : Nat} {m : Str → Option Value} {h : Heap}
/-- the frame's state, told over the ledger alone -/
noncomputable def JSt (w : World) (X : Kx) (I : Led) (P : List PV → Prop) (m : Str → Option Value) (news : Led) : Prop :=
  ∃ loc M Sx Ik, (∀ q ∈ I, q ∈ Ik) ∧ news = M ++ (Sx ++ (Ik ++ X.R)) ∧ (news.map (·.1)).Nodup ∧ LR w X.src X.env X.L Ik X.R m X.cx.ns loc M ∧ SrcL X.src X.cx.own Sx ∧ P loc
theorem JSt.out {P : List PV → Prop} {news : Led} (j : JSt w X I P m news) (F : Fr X.h₀ X.L h m) (N : News X.h₀ X.L h news) : ∃ loc Ik, (∀ q ∈ I, q ∈ Ik) ∧ (X.at m).St w h loc Ik ∧ P loc := by
  obtain ⟨loc, M, Sx, Ik, hI, rfl, nd, lr, hs, hp⟩ := j
  exact ⟨loc, Ik, hI, ⟨F, M, Sx, lr, hs, N, nd⟩, hp⟩
theorem JSt.of {P : List PV → Prop} {Ik : Led} (S : (X.at m).St w h loc Ik) (hI : ∀ q ∈ I, q ∈ Ik) (hp : P loc) : ∃ news, Fr X.h₀ X.L h m ∧ News X.h₀ X.L h news ∧ JSt w X I P m news := by
  obtain ⟨F, M, Sx, lr, hs, lo⟩ := S
  exact ⟨_, F, lo.1, loc, M, Sx, Ik, hI, rfl, lo.2, lr, hs, hp⟩
theorem sc_whl (tc : SB w WT G kb ub e) (hb : SC w WT G kb ub body) (hr : SC w WT G kb ub r) : SC w WT G kb ub (.whl e body p r) := fun X s I loc k R Q ok f hc S hw en => by
  have h1 := band hc
  have h2 := band h1.1
  obtain ⟨J, ⟨n, h0⟩, turn⟩ := hw
  obtain ⟨news, F, N, j⟩ := JSt.of (X := X) (m := X.m) (P := J n) S (fun _ h => h) h0
  refine wpAny_execs_cons (While_inv (fun n => JSt w X I (J n)) F N j (fun n m1 news1 g1 t1 F1 N1 j1 => ?_) .never)
  obtain ⟨l1, I1, m1', S1, hj⟩ := j1.out F1 N1
  refine tc (X.at m1) _ I1 l1 _ _ _ (ok.at m1) (band h2.1).1 (band h2.1).2 S1 (turn n l1 hj) fun t l2 g2 t2 I2 m2 w2 S2 => ?_
  cases t with
  | false =>
    show wpAny _ _ _ _ _ _
    exact hr (X.at m1) _ I2 l2 k R Q (ok.at m1) (f.at m1) h1.2 S2 w2 (en.up fun q hq => m2 q (m1' q hq))
  | true =>
    refine hb (X.at m1) _ I2 l2 _ _ _ (ok.at m1) (f.at m1) h2.2 S2 w2 ⟨fun m3 l3 g3 t3 I3 m3' ⟨n', hn, hj'⟩ S3 => ?_, fun _ _ _ _ _ _ _ _ h => h.elim⟩
    obtain ⟨news, F, N, j⟩ := JSt.of (X := X) (m := m3) (P := J n') S3 (fun q hq => m3' q (m2 q (m1' q hq))) hj'
    exact WhileStep.intro (s := s) F N hn j
theorem tup_key {I0 : Led} {v : Value} {a b : PV} {pr : Bool} (S : X.St w h loc I) (hI : ∀ q ∈ I0, q ∈ I) (it : ItemOk w X.src I0 pr v (.tup [a, b]) h) : ∃ T x y, v = .ref T ∧ IsTup h T #[x, y] ∧ VR w X.src I x a ∧ VR w X.src I y b := by
  rcases it with hv | ⟨_, T, x, y, a', b', e1, e2, ht, r1, r2⟩
  · obtain ⟨T, vs, n, _, rfl, e, hm, rr, _⟩ := tupV_vr (k := fun _ => True) hv trivial
    cases e
    obtain ⟨x, y, rfl⟩ := len_two rr.1
    obtain ⟨T', N, sub, _⟩ := S.led
    exact ⟨T, x, y, rfl, ⟨_, (N _ (sub _ (hI _ hm))).1, rfl, _, rfl⟩, rr.hd.mono hI, rr.tl.hd.mono hI⟩
  · cases e2
    exact ⟨T, x, y, e1, ht, r1.mono hI, r2.mono hI⟩
theorem tgtL_two {q : PV} (h : tgtL [i, j] q loc k) : ∃ a b, q = .tup [a, b] ∧ setV loc i a fun l => setV l j b k := by
  match q, h with
  | .tup [a, b], h => exact ⟨a, b, rfl, h⟩
/-- the targets of a turn -/
theorem tgt_store {A : Around} {E : Value → Shared → Prop} {xs : List Nat} {I0 : Led} {v : Value} {q : PV} {K : Unit → Shared → Prop} (hh : A.handled = none) (ok : X.Ok w kb ub) (f : X.Fn) (S : X.St w s.heap loc I) (hI : ∀ q ∈ I0, q ∈ I) (it : ItemOk w X.src I0 (Nat.beq (xs.map X.cx.nm).length 2) v q s.heap) (hw : tgtL xs q loc k)
    (go : ∀ m h' tk l, (X.at m).St w h' l I → k l → K () { s with heap := h', toks := tk }) : wpAny (model pg w) A (assign (tgtE (xs.map X.cx.nm) p1 p2 kk p3) X.env v) K E s := by
  match xs, hw with
  | [i], hw =>
    obtain ⟨p0, h0, w2⟩ := setV_inv (show setV loc i q k from hw)
    have hv : VR w X.src I0 v q := it.elim id fun h => nomatch h.1
    exact wpAny_assign_Name (store_var ok f S h0 (hv.mono hI) fun m h' tk S' => go m h' tk _ S' w2)
  | [i, j], hw =>
      obtain ⟨a, b, rfl, hw2⟩ := tgtL_two hw
      obtain ⟨p0, h0, w2⟩ := setV_inv hw2
      obtain ⟨T, x, y, rfl, ht, r1, r2⟩ := tup_key S hI it
      refine wpAny_assign_Tuple hh ht rfl rfl fun h₁ he₁ => ?_
      have S1 := S.more (h' := h₁) fun b o e => he₁ b o (Nat.ne_of_lt (Heap.lt_size e)) e
      show wpAny _ _ (assignInOrder [assign (.Name (X.cx.nm i) (P p1)) X.env, assign (.Name (X.cx.nm j) (P p2)) X.env] [x, y]) _ _ _
      refine assignInOrder_cons (wpAny_assign_Name (store_var (s := { s with heap := h₁ }) ok f S1 h0 r1 fun m h' tk S' => ?_))
      obtain ⟨p0', h0', w3⟩ := setV_inv w2
      exact assignInOrder_cons (wpAny_assign_Name (store_var (X := X.at m) (s := { s with heap := h', toks := tk }) (ok.at m) (f.at m) S' h0' r2 fun m2 h2 tk2 S2 => assignInOrder_nil (go m2 h2 tk2 _ S2 w3)))
/-- a bigger outer ledger, and back -/
theorem perm_its (its M S I R : Led) : (its ++ (M ++ (S ++ (I ++ R)))).Perm (M ++ (S ++ (I ++ (its ++ R)))) :=
  (List.perm_append_comm_assoc its M _).trans (.append_left M ((List.perm_append_comm_assoc its S _).trans (.append_left S (List.perm_append_comm_assoc its I R))))
abbrev Kx.more (X : Kx) (m : Str → Option Value) (its : Led) : Kx := { X with m := m, R := its ++ X.R }
theorem noN (f : X.Fn) {R : Led} (N : News X.h₀ X.L h R) (o : Obj) : (X.env.locals, o) ∉ R := fun hm => (N _ hm).2.1 f.loc
theorem St_in {its M Sx : Led} (f : X.Fn) (F : Fr X.h₀ X.L h m) (lr : LR w X.src X.env X.L I X.R m X.cx.ns loc M) (hs : SrcL X.src X.cx.own Sx) (lo : LedOk X.h₀ X.L h (its ++ (M ++ (Sx ++ (I ++ X.R))))) : (X.more m its).St w h loc I ∧ (X.more m its).Fn := by
  have nR : News X.h₀ X.L h X.R := fun q hq => lo.1 q (List.mem_append_right _ (mem4 hq))
  refine ⟨⟨F, M, Sx, lr.anyR (noN f nR) f.ro _, hs, lo.perm (perm_its its M Sx I X.R).symm⟩, f.loc, fun x hx hk c o hc hm => ?_⟩
  rcases List.mem_append.mp hm with hm | hm
  · obtain ⟨c', o', e, hm'⟩ := lr.cellM hx hk
    cases Option.some.inj (hc.symm.trans e)
    exact (nodup_app.mp lo.2).2.2 _ hm _ ((List.mem_append.mp hm').elim (List.mem_append_left _) mem4) rfl
  · exact f.ro x hx hk c o hc hm
theorem St_out {its : Led} (f : X.Fn) (fY : (X.more m its).Fn) (S : (X.more m its).St w h loc I) : ∃ M Sx, Fr X.h₀ X.L h m ∧ LR w X.src X.env X.L I X.R m X.cx.ns loc M ∧ SrcL X.src X.cx.own Sx ∧ LedOk X.h₀ X.L h (its ++ (M ++ (Sx ++ (I ++ X.R)))) := by
  obtain ⟨F, M, Sx, lr, hs, lo⟩ := S
  have lo' := lo.perm (perm_its its M Sx I X.R)
  exact ⟨M, Sx, F, lr.anyR (noN (h := h) f fun q hq => lo.1 q (mem4 hq)) fY.ro _, hs, lo'⟩
theorem Kx.Ok.more (ok : X.Ok w kb ub) (m : Str → Option Value) (its : Led) : (X.more m its).Ok w kb ub := ⟨ok.sc, ok.gl, ok.kd, ok.nd, ok.fc⟩
/-- a for: every turn's text, then the rest -/
theorem sc_for {xs : List Nat} (hs : SS w WT G kb ub src) (hb : SC w WT G kb ub body) (hr : SC w WT G kb ub r) : SC w WT G kb ub (.forT xs p1 p2 kk p3 src body p r) := fun X s I loc k R Q ok f hc S hw en => by
  have h1 := band hc
  have h2 := band h1.1
  have h3 := band h2.1
  refine wpAny_execs_cons (For_turns (f.loc.symm ▸ S.1) (hs X s I loc (xs.map X.cx.nm) p1 p2 kk p3 (fun items l => items.length ≤ 1000 ∧ forL (fun p loc K => tgtL xs p loc fun l => wpS WT body l K R) items l fun l => wpS WT r l k R) _ _ ok h3.1 h3.2 S hw
    fun items l1 g1 t1 I1 n0 g it m1 ⟨hz, w1⟩ S1 hn up t => ?_) (folded_none noSet) .never)
  subst hn
  obtain ⟨news, F, N, j⟩ := JSt.of (X := X) (m := X.m) (I := I1) (P := fun l => forL (fun p loc K => tgtL xs p loc fun l => wpS WT body l K R) (items.drop 0) l fun l => wpS WT r l k R) S1 (fun _ h => h) (List.drop_zero ▸ w1)
  have hlt : X.L < g1.objs.size := F.ns.lt
  have hws : ∀ b ∈ t.ws.map (·.1), b ≠ X.L ∧ X.h₀.get? b = none := fun b hb => ⟨Nat.ne_of_gt (Nat.lt_of_lt_of_le hlt (t.new b hb).1), ktu_new F (t.new b hb).1⟩
  have old : ∀ q ∈ news, q.1 ∉ t.wr := fun q hq hw => Nat.lt_irrefl _ (Nat.lt_of_lt_of_le (Heap.lt_size (N q hq).1) (t.new _ (t.wrk _ hw)).1)
  have kp : ∀ q ∈ t.keep, q.1 ≠ X.L := fun q hq => by
    obtain ⟨T, N', sub, _⟩ := S1.led
    exact (N' q (sub q (t.keepI q hq))).2.1
  refine ⟨it, t.fp, t.wr, items.length, t.P, t.Md, t.St, X.m, news, JSt w X I1 ∘ fun i l => forL (fun p loc K => tgtL xs p loc fun l => wpS WT body l K R) (items.drop i) l fun l => wpS WT r l k R, rfl, t.W, fun hb => ?_, fun b hb => (hws b (t.wrk b hb)).2, old, t.st0, f.loc.symm ▸ F.keeps up, f.loc.symm ▸ N.grown up, j, fun i v m₁ news₁ h₁ tk₁ own hi hP hJ hnw hof hheld hown st F₁ N₁ => ?_, fun h' tk m' news' F' N' hnw' hJ => ?_⟩
  · rcases t.fpk _ hb with hb | ⟨o, hb⟩
    · exact (hws _ hb).1 f.loc
    · exact kp _ hb f.loc
  · obtain ⟨l2, M, Sx, Ik, hI, rfl, nd, lr, hsx, hf⟩ := hJ
    obtain ⟨its, ob, hi2⟩ := t.obj _ _ st
    have em : its.map (·.1) = t.ws.map (·.1) := ob.map
    have F₁ : Fr X.h₀ X.L h₁ m₁ := f.loc ▸ F₁
    have N₁ : News X.h₀ X.L h₁ (M ++ (Sx ++ (Ik ++ X.R))) := fun q hq => f.loc ▸ N₁ q (List.mem_append_right _ hq)
    have iw : ∀ q ∈ its, q.1 ∈ t.ws.map (·.1) := fun q hq => em ▸ List.mem_map.mpr ⟨q, hq, rfl⟩
    have lo : LedOk X.h₀ X.L h₁ (its ++ (M ++ (Sx ++ (Ik ++ X.R)))) := ⟨fun q hq => (List.mem_append.mp hq).elim (fun hq => ⟨hi2 q hq, hws _ (iw q hq)⟩) (N₁ q), nodup_app.mpr ⟨em ▸ t.nd, nd, fun q hq z hz e => hnw z hz (e ▸ t.wsw _ (iw q hq))⟩⟩
    obtain ⟨S2, fY⟩ := St_in (m := m₁) f F₁ lr hsx lo
    obtain ⟨q, hq, hit⟩ := t.item i v h₁ hi hP
    rw [List.getElem?_eq_getElem hi] at hq
    cases hq
    have hf : forL (fun p loc K => tgtL xs p loc fun l => wpS WT body l K R) (items.drop i) l2 (fun l => wpS WT r l k R) := hf
    rw [List.drop_eq_getElem_cons hi] at hf
    have back : ∀ m2 l3 h3 I3, (X.more m2 its).St w h3 l3 I3 → (X.more m2 its).Fn → (X.at m2).St w h3 l3 I3 := fun m2 l3 h3 I3 S3 f3 => by
      obtain ⟨M, Sx, F, lr, hs, lo⟩ := St_out f f3 S3
      exact ⟨F, M, Sx, lr, hs, lo.right⟩
    refine tgt_store (X := X.more m₁ its) (s := { s with heap := h₁, toks := tk₁ }) ok.hh (ok.more m₁ its) fY S2 hI hit (show tgtL xs items[i] l2 _ from hf) fun m2 h2 tk2 l3 S3 w3 => ?_
    refine hb (X.more m2 its) _ Ik l3 _ R _ (ok.more m2 its) ⟨fY.loc, fY.ro⟩ (band h1.1).2 S3 w3 ⟨fun m3 l4 h4 tk4 I4 hI4 w4 S4 => ?_, fun v p m3 l4 h4 tk4 I4 hI4 w4 rr S4 => ?_⟩
    · obtain ⟨M', Sx', F', lr', hs', lo'⟩ := St_out (X := X) (m := m3) (its := its) f ⟨fY.loc, fY.ro⟩ S4
      refine .next (.intro (news₂ := M' ++ (Sx' ++ (I4 ++ X.R))) (f.loc.symm ▸ F') (fun q hq => ?_) (fun q hq hw => ?_) ⟨l4, M', Sx', I4, fun q hq => hI4 q (hI q hq), rfl, (nodup_app.mp lo'.2).2.1, lr', hs', w4⟩)
      · refine f.loc.symm ▸ lo'.1 q ((List.mem_append.mp hq).elim (fun hq => ?_) (List.mem_append_right _))
        rcases t.fpk _ (hof q hq) with hb | ⟨o, hb⟩
        · rw [← em] at hb
          obtain ⟨z, hz, ez⟩ := List.mem_map.mp hb
          have : z = q := Prod.ext ez (Option.some.inj ((hi2 z hz).symm.trans (ez ▸ hheld q hq)))
          exact List.mem_append_left _ (this ▸ hz)
        · have := (N₁ _ (mem3 (hI _ (t.keepI _ hb)))).1
          have : (q.1, o) = q := Prod.ext rfl (Option.some.inj (this.symm.trans (hheld q hq)))
          exact List.mem_append_right _ (mem3 (hI4 _ (hI _ (this ▸ t.keepI _ hb))))
      · have hb := t.wrk _ hw
        rw [← em] at hb
        obtain ⟨z, hz, ez⟩ := List.mem_map.mp hb
        exact (nodup_app.mp lo'.2).2.2 z hz q hq ez
    · exact en.2 v p m3 l4 h4 tk4 I4 (fun q hq => hI4 q (hI q (m1 q hq))) w4 rr (back m3 l4 h4 I4 S4 ⟨fY.loc, fY.ro⟩)
  · obtain ⟨l2, I2, hI, S2, w2⟩ := JSt.out hJ (f.loc ▸ F') (f.loc ▸ N')
    have w2 : forL (fun p loc K => tgtL xs p loc fun l => wpS WT body l K R) (items.drop items.length) l2 (fun l => wpS WT r l k R) := w2
    rw [List.drop_eq_nil_of_le (Nat.le_refl _)] at w2
    exact hr (X.at m') _ I2 l2 k R Q (ok.at m') (f.at m') h1.2 S2 w2 (en.up fun q hq => hI q (m1 q hq))
end

end --Q19
section --Q20
section
variable {w : World} {WT : Nat → List PV → (PV → Prop) → Prop} {G : List GE} {kb ub : Nat} {X : Kx} {s : Shared} {loc : List PV} {I : Led} {k : List PV → Prop} {R : PV → Prop} {Q : Flow → Shared → Prop} {c r body : CS} {e x y : CE} {i j p p1 p2 p3 p4 k2 kk : Nat}
theorem swap_none {env : Env} {a b : PySem.Expr} {x y : Str} {px py q1 q2 : Pos} {k1 k2 : Nat} (h : (env.kindOf x == some .local) = false) : swappedStores [.Tuple [.Name x px, .Name y py] k1 q1] (.Tuple [a, b] k2 q2) env = pure none := by
  have e : ∀ f : PySem.Expr → Option Str, f (.Name x px) = none → ([PySem.Expr.Name x px, .Name y py].filterMap f).length ≠ 2 := fun f hf hn => by
    rw [List.filterMap_cons, hf, List.filterMap_cons] at hn
    cases hy : f (.Name y py) <;> rw [hy] at hn <;> cases hn
  unfold swappedStores
  dsimp only
  split
  · rfl
  split
  · rfl
  rw [if_pos]
  rw [Bool.or_eq_true, bne_iff_ne]
  refine .inl (e _ ?_)
  dsimp only
  rw [h]
  rfl
theorem swap_some {env : Env} {a b : PySem.Expr} {x y : Str} {px py q1 q2 : Pos} {k1 k2 : Nat} (hk : env.scope.kind = .function) (hx : (env.kindOf x == some .local) = true) (hy : (env.kindOf y == some .local) = true) (hl : (px.line == py.line) = true) (hn : (x == y) = false)
    (sa : isStar a = false) (sb : isStar b = false) (f1 : (foldedForSure 8 a && foldedForSure 8 b) = false) (f2 : (constantsAlone 8 a && constantsAlone 8 b) = false) : swappedStores [.Tuple [.Name x px, .Name y py] k1 q1] (.Tuple [a, b] k2 q2) env = pure (some [x, y]) := by
  have hb : env.blockKind = .function := by unfold Env.blockKind; rw [hk]; rfl
  unfold swappedStores
  dsimp only
  rw [if_neg (by rw [hb]; exact fun h => nomatch (show false = true from h))]
  rw [if_neg (by show ¬ (isStar a || (isStar b || false)) = true; rw [sa, sb]; exact fun h => nomatch (show false = true from h))]
  have ef : ([PySem.Expr.Name x px, .Name y py].filterMap fun e => match e with | .Name id pos => if (env.kindOf id == some .local && pos.line == px.line) = true then some id else none | _ => none) = [x, y] := by
    rw [List.filterMap_cons, List.filterMap_cons]
    dsimp only
    have hl : (py.line == px.line) = true := by rw [beq_iff_eq] at hl ⊢; exact hl.symm
    have h0 : (px.line == px.line) = true := beq_self_eq_true _
    rw [hx, hy, hl, h0]
    rfl
  have ed : [x, y].eraseDups = [x, y] := by
    rw [List.eraseDups_cons]
    have : ([y].filter fun b => !b == x) = [y] := by
      rw [List.filter_cons]
      have : (!y == x) = true := by
        have : (y == x) = false := by rw [beq_eq_false_iff_ne] at hn ⊢; exact fun h => hn h.symm
        rw [this]; rfl
      rw [this]; rfl
    rw [this]
    rfl
  show (if (_ || _) = true then _ else _) = _
  rw [if_neg]
  · rw [if_neg (by show ¬ (foldedForSure 8 a && (foldedForSure 8 b && true)) = true; rw [Bool.and_true, f1]; exact Bool.false_ne_true)]
    rw [if_neg (by show ¬ (constantsAlone 8 a && (constantsAlone 8 b && true)) = true; rw [Bool.and_true, f2]; exact Bool.false_ne_true)]
    exact congrArg (fun l => pure (some l)) ef
  · generalize hg : List.filterMap _ _ = nm
    have e : nm = [x, y] := hg.symm.trans ef
    subst e
    rw [ed]
    exact fun h => nomatch (show false = true from h)
theorem b_two {P : Params} : nsIn (hd.heap_1 P) mainGlobals "list" = some none ∧ nsIn (hd.heap_1 P) mainGlobals "zip" = some none := by constructor <;> k_is
theorem sc_set2 {b : Bool} (he : SE w WT G kb ub (.disp true (.cons x (.cons y .nil)) k2 p4)) (hr : SC w WT G kb ub r) : SC w WT G kb ub (.set2 b i p1 j p2 kk p3 x y k2 p4 p r) := fun X s I loc k R Q ok f hc S hw en => by
  have h1 := band hc
  have h2 := band h1.1
  have h3 := band h2.2
  have hck : ck G (.disp true (.cons x (.cons y .nil)) k2 p4) X.cx = true := by
    show (true && (x.isVal && (true && (ck G x X.cx && (y.isVal && (true && (ck G y X.cx && true))))))) = true
    rw [(band h3.1).1, (band h3.1).2, (band h3.2).1, (band h3.2).2]; rfl
  have ev : ∀ K : Value → Shared → Prop, (∀ v q l g t I1, (∀ z ∈ I, z ∈ I1) → tgtL [i, j] q l (fun l => wpS WT r l k R) → VR w X.src I1 v q → X.St w g l I1 → K v { s with heap := g, toks := t }) → wpAny (model pg w) X.A (eval (.Tuple [ex G x X.cx, ex G y X.cx] k2 (P p4)) X.env) K (fun _ _ => False) s :=
    fun K hK => he X s I loc _ _ _ ok rfl hck S hw fun v q l g t I1 m1 w1 r1 S1 => hK v q l g t I1 m1 (oneV_inv w1) r1 S1
  cases b with
  | false =>
    have hn : (X.env.kindOf (X.cx.nm i) == some .local) = false := by
      unfold Env.kindOf
      rw [ok.sc]
      exact (Bool.not_eq_true' _).mp h2.1
    refine wpAny_execs_cons (PyProof.Rows.Assign_Tuple (ev _ fun v q l g t I1 m1 w1 r1 S1 => ?_) rfl (swap_none hn))
    exact tgt_store (xs := [i, j]) (s := { s with heap := g, toks := t }) ok.hh ok f S1 (fun _ h => h) (.inl r1) w1 fun m h' tk l S2 w2 => hr (X.at m) _ I1 l k R Q (ok.at m) (f.at m) h1.2 S2 w2 (en.up m1)
  | true =>
    have c1 := band h2.1
    have c2 := band c1.1
    have c3 := band c2.1
    have c4 := band c2.2
    have c5 := band c1.2
    have hk : ∀ {x : Str}, (X.cx.sc.names.lookup x == some .local) = true → (X.env.kindOf x == some .local) = true := fun h => by
      unfold Env.kindOf
      rw [ok.sc]
      exact h
    have hxy := (Bool.not_eq_true' _).mp c4.2
    refine wpAny_execs_cons (PyProof.Rows.Assign_Tuple_swapped (ev _ fun v q l g t I1 m1 w1 r1 S1 => ?_) rfl (swap_some ok.fn (hk c3.1) (hk c3.2) c4.1 hxy noStar noStar ((Bool.not_eq_true' _).mp c5.1) ((Bool.not_eq_true' _).mp c5.2)))
    obtain ⟨a, b, rfl, w2⟩ := tgtL_two w1
    obtain ⟨pa, ha, w2⟩ := setV_inv w2
    obtain ⟨pb, hb, w2⟩ := setV_inv w2
    obtain ⟨T, u, v, rfl, ht, ra, rb⟩ := tup_key (pr := true) S1 (fun _ h => h) (.inl r1)
    have hij : i ≠ j := fun e => by rw [e, beq_self_eq_true] at hxy; cases hxy
    rw [List.getElem?_set_ne hij] at hb
    rw [List.set_comm _ _ hij] at w2
    show wpAny (model pg w) X.A (unpackItems (.ref T) (#[u, v] : Array Value).size none) _ _ _
    refine PyProof.Rows.unpackItems_tuple (s := { s with heap := g, toks := t }) ok.hh ht fun h₁ he₁ => ?_
    have S2 := S1.more (s := { s with heap := g, toks := t }) (h' := h₁) fun z o e => he₁ z o (Nat.ne_of_lt (Heap.lt_size e)) e
    show wpAny _ _ (assignInOrder [fun z => bindName X.env (X.cx.nm j) z, fun z => bindName X.env (X.cx.nm i) z] [v, u]) _ _ _
    refine assignInOrder_cons (wpAny_bindName (store_var (s := { s with heap := h₁, toks := t }) ok f S2 hb rb fun m h' tk S3 => ?_))
    have ha' : (l.set j b)[i]? = some pa := by rw [List.getElem?_set_ne (Ne.symm hij)]; exact ha
    exact assignInOrder_cons (wpAny_bindName (store_var (X := X.at m) (s := { s with heap := h', toks := tk }) (ok.at m) (f.at m) S3 ha' ra fun m2 h2 tk2 S4 => assignInOrder_nil (hr (X.at m2) _ I1 _ k R Q (ok.at m2) (f.at m2) h1.2 S4 w2 (en.up m1))))
end

end --Q20
section --Q21
section
variable {w : World} {WT : Nat → List PV → (PV → Prop) → Prop} {G : List GE} {kb ub : Nat} {X : Kx} {s : Shared} {loc : List PV} {I : Led} {k : List PV → Prop} {R : PV → Prop} {Q : Flow → Shared → Prop} {c r body : CS} {e x y src : CE} {i j p p1 p2 p3 p4 p5 p6 p7 p8 p9 p10 k2 kk : Nat}
/-- a ledger with no address twice, of the same entries -/
theorem dedup : ∀ l : Led, (∀ p ∈ l, ∀ q ∈ l, p.1 = q.1 → p = q) → ∃ l' : Led, (∀ p, p ∈ l' ↔ p ∈ l) ∧ (l'.map (·.1)).Nodup
  | [], _ => ⟨[], fun _ => Iff.rfl, List.nodup_nil⟩
  | a :: l, h => by
    obtain ⟨l', e, nd⟩ := dedup l fun p hp q hq => h p (.tail _ hp) q (.tail _ hq)
    by_cases ha : a ∈ l
    · exact ⟨l', fun p => (e p).trans ⟨.tail _, fun hp => (List.mem_cons.mp hp).elim (fun e => e ▸ ha) id⟩, nd⟩
    · refine ⟨a :: l', fun p => by rw [List.mem_cons, List.mem_cons, e], List.nodup_cons.mpr ⟨fun hm => ?_, nd⟩⟩
      obtain ⟨q, hq, eq⟩ := List.mem_map.mp hm
      exact ha (h q (.tail _ ((e q).mp hq)) a (.head _) eq ▸ (e q).mp hq)
theorem zip_vrs {src : Addr} {J : Led} {xs : List Value} {ps : List PV} {qs : List (Value × (Value × Value))} {l : Led} (r : VRs w src J xs ps) (hJ : ∀ q ∈ l, q ∈ J) (e : qs.map (·.2) = xs.zip (xs.drop 1)) (h : ∀ p ∈ qs, ∃ T, p.1 = .ref T ∧ (T, tupO [p.2.1, p.2.2] 0) ∈ l) :
    VRs w src J (qs.map (·.1)) ((ps.zip (ps.drop 1)).map fun q => .tup [q.1, q.2]) := by
  have el : qs.length = (xs.zip (xs.drop 1)).length := by rw [← e, List.length_map]
  refine ⟨by rw [List.length_map, List.length_map, el, List.length_zip, List.length_zip, List.length_drop, List.length_drop, r.1], fun n v p hv hp => ?_⟩
  rw [List.getElem?_map] at hv hp
  obtain ⟨z, hz, rfl⟩ := Option.map_eq_some_iff.mp hv
  obtain ⟨q, hq, rfl⟩ := Option.map_eq_some_iff.mp hp
  have hz2 : (xs.zip (xs.drop 1))[n]? = some z.2 := by rw [← e, List.getElem?_map, hz]; rfl
  obtain ⟨h1, h2⟩ := List.getElem?_zip_eq_some.mp hz2
  obtain ⟨h3, h4⟩ := List.getElem?_zip_eq_some.mp hq
  obtain ⟨T, e1, hm⟩ := h z (List.mem_of_getElem? hz)
  rw [e1]
  exact .tupL (hJ _ hm) (.cons (r.2 n _ _ h1 h3) (.cons ((r.drop 1).2 n _ _ h2 h4) .nil))
theorem zip_go {px py p6 p7 p8 : Pos} {ps : List PV} {K : Value → Shared → Prop} {E : Value → Shared → Prop} (ok : X.Ok w kb ub) (S : X.St w s.heap loc I) (hz : isGlob X.cx "zip" = true) (hl : isGlob X.cx "list" = true) {pl pz pc pd : Pos}
    (hp : loc[j]? = some (.lst ps)) (hz1 : 1 ≤ ps.length ∧ ps.length ≤ 1000)
    (q : ∀ (h : Heap) (tk : Nat) D vs n new M Sx, LR w X.src X.env X.L I X.R X.m X.cx.ns loc M → SrcL X.src X.cx.own Sx → ((M ++ (Sx ++ (I ++ X.R))).map (·.1)).Nodup → Fr X.h₀ X.L h X.m → News X.h₀ X.L h ((D, lisO vs n) :: (new ++ (M ++ (Sx ++ (I ++ X.R))))) → (∀ z ∈ M ++ (Sx ++ (I ++ X.R)), z.1 < D) → (∀ z ∈ new, D < z.1) →
      VRs w X.src (new ++ I) vs ((ps.zip (ps.drop 1)).map fun q => .tup [q.1, q.2]) → K (.ref D) { s with heap := h, toks := tk }) :
    wpAny (model pg w) X.A (eval (.Call (.Name "list" pl) [.Call (.Name "zip" pz) [.Name (X.cx.nm j) px, .Subscript (.Name (X.cx.nm j) py) (.Slice (some (.Constant (.int 1) 0 p6)) none none p7) p8] [] pc] [] pd) X.env) K E s := by
  obtain ⟨v, r, nm⟩ := S.val ok hp (fun h => nomatch h) (fun _ h => nomatch h)
  obtain ⟨l, vs, n, _, rfl, e, hm, rr, _⟩ := lstV_vr (k := fun _ => True) r trivial
  cases e
  have S' := S
  obtain ⟨F, M, Sx, lr, hs, lo⟩ := S'
  refine Call_Name rfl (glob_B ok S hl (by decide) b_two.1 (v := .type "list") rfl (by decide) (PyProof.Rows.callWith_type1 (spliced_more ?_ rfl) rfl rfl))
  refine Call_Name rfl (glob_B ok S hz (by decide) b_two.2 (v := .type "zip") rfl (by decide) (PyProof.Rows.callWith_type1 (spliced_more (nm _ _ _ _ _ rfl ?_) rfl) rfl rfl))
  refine spliced_more (Subscript_ (nm _ _ _ _ _ rfl (wpAny_Slice ?_))) rfl
  show wpAny _ _ (eval (.Constant (.int 1) 0 p6) _) _ _ _
  refine wpAny_Constant_int (wpAny_pure (wpAny_pure ?_))
  refine slice_list F lo.1 (lo.1.isList (mem3 hm)) (.int 1 _) .none (fun h' F' N' => ?_) rfl (fun _ => rfl) (by rw [List.size_toArray, rr.length, sl_eq]; omega)
  have e : slicePick vs.toArray (some 1) none none = (vs.drop 1).toArray := slicePick_from' vs.toArray 1
  rw [e] at N'
  have N1 : News X.h₀ X.L h' ((s.heap.objs.size + 1, lisO (vs.drop 1) 0) :: (M ++ (Sx ++ (I ++ X.R)))) := N'
  refine spliced_none ?_
  refine zx_zip (s := { s with heap := h', toks := _ }) F' N1 (.tail _ (mem3 hm)) (.head _) fun a o1 o2 h2 i1 i2 F2 N2 lt => spliced_none ?_
  have hlen : vs.length = (vs.drop 1).length + 1 := by rw [List.length_drop, rr.1]; omega
  refine zx_list (s := { s with heap := h2, toks := _ }) ok.hh F2 N2 lt i1 i2 (.tail _ (mem3 hm)) (.head _) hlen (by rw [rr.1] at hlen; omega) fun D c qs new h3 tk F3 N3 ltD ltn eq _ hq => ?_
  have N4 : News X.h₀ X.L h3 ((D, lisO (qs.map (·.1)) c) :: (new ++ (M ++ (Sx ++ (I ++ X.R))))) := fun z hz => N3 z (by
    rcases List.mem_cons.mp hz with rfl | hz
    · exact .head _
    · exact .tail _ ((List.mem_append.mp hz).elim (List.mem_append_left _) fun hz => List.mem_append_right _ (.tail _ hz)))
  exact q h3 tk D _ c new M Sx lr hs lo.2 F3 N4 (fun z hz => ltD z (.tail _ hz)) ltn (zip_vrs (rr.mono fun z hz => List.mem_append_right _ hz) (fun z hz => List.mem_append_left _ hz) eq hq)
theorem lstL_inv {k : List PV → Prop} (h : lstL loc i k) : ∃ ps, loc[i]? = some (.lst ps) ∧ k ps := by
  unfold lstL at h
  split at h
  · exact ⟨_, ‹_›, h⟩
  · exact h.elim
theorem sc_zipl (hr : SC w WT G kb ub r) : SC w WT G kb ub (.zipl i p1 j p2 p3 p4 p5 p6 p7 p8 p9 p10 p r) := fun X s I loc k R Q ok f hc S hw en => by
  have h1 := band hc
  have h2 := band h1.1
  obtain ⟨ps, hp, hz, w1⟩ := lstL_inv hw
  have hl := kind_of ok h2.2
  obtain ⟨p0, h0, w2⟩ := setV_inv w1
  refine wpAny_execs_cons (wpAny_Assign_Name (zip_go ok S (band h2.1).2 (band h2.1).1 hp hz fun h tk D vs n new M Sx lr hs nd F N lt gt rr => ?_) rfl)
  refine wpAny_storeName_local (s := { s with heap := h, toks := tk }) hl (f.loc ▸ F.ns) (fun h₂ hn hs₂ => ?_) ok.cls
  have F₂ := F.set (f.loc ▸ hn) (f.loc ▸ hs₂)
  have N₂ := N.set (f.loc ▸ hs₂)
  obtain ⟨new', em, nd'⟩ := dedup new fun a ha b hb e => Prod.ext e (Option.some.inj ((N _ (.tail _ (List.mem_append_left _ ha))).1.symm.trans (e ▸ (N _ (.tail _ (List.mem_append_left _ hb))).1)))
  have sub : ∀ z ∈ I, z ∈ new' ++ I := fun z hz => List.mem_append_right _ hz
  have pm : (new' ++ (M ++ (Sx ++ (I ++ X.R)))).Perm (M ++ (Sx ++ ((new' ++ I) ++ X.R))) := by
    rw [List.append_assoc new' I]
    exact (List.perm_append_comm_assoc new' M _).trans (.append_left M (List.perm_append_comm_assoc new' Sx _))
  have lt2 : ∀ z ∈ M ++ (Sx ++ ((new' ++ I) ++ X.R)), z ∈ new ∨ z ∈ M ++ (Sx ++ (I ++ X.R)) := fun z hz => (List.mem_append.mp (pm.mem_iff.mpr hz)).imp (em z).mp id
  refine hr (X.at fun z => if z = X.cx.nm i then some (.ref D) else X.m z) _ (new' ++ I) _ k R Q (ok.at _) (f.at _) h1.2 (acc_st (n := n) ok f (lr.mono sub fun _ _ => rfl) hs h0 hl F₂ (fun z hz => N₂ z ?_) ((pm.map _).nodup_iff.mp (nodup_app.mpr ⟨nd', nd, fun a ha b hb => Nat.ne_of_gt (Nat.lt_trans (lt b hb) (gt a ((em a).mp ha)))⟩)) (fun z hz => ?_) (rr.mono fun z hz => ?_)) w2 (en.up sub)
  · rcases List.mem_cons.mp hz with rfl | hz
    · exact .head _
    · exact .tail _ (List.mem_append.mpr (lt2 z hz))
  · exact (lt2 z hz).elim (fun h => Nat.ne_of_gt (gt z h)) fun h => Nat.ne_of_lt (lt z h)
  · exact (List.mem_append.mp hz).elim (fun h => List.mem_append_left _ ((em z).mpr h)) (sub z)
/-- every text of the small syntax is sound -/
theorem soundS (g : GOk w WT G kb ub) (c : CS) : SC w WT G kb ub c := by
  have a := fun e => sound g e
  induction c with
  | done => exact sc_done
  | ret e p => exact sc_ret (a e).1.1
  | set i p1 e p r hr => exact sc_set (a e).1.1 hr
  | newl i p1 p2 p r hr => exact sc_newl hr
  | setc i q src xs p1 p2 k p3 caps cond elt sc p pa r hr => exact sc_setc (a src).2.2 (a elt).1.1 (a cond).2.1 hr
  | zipl i p1 j p2 p3 p4 p5 p6 p7 p8 p9 p10 p r hr => exact sc_zipl hr
  | set2 b i p1 j p2 k p3 x y k2 p4 p r hr => exact sc_set2 (a _).1.1 hr
  | app i p1 p2 e p3 p r hr => exact sc_app (a e).1.1 hr
  | ins i p1 p2 x y p3 p r hr => exact sc_ins (a x).1.1 (a y).1.1 hr
  | ext i p1 p2 e p3 p r hr => exact sc_ext (a e).1.1 hr
  | ite c x y p r hx hy hr => exact sc_ite (a c).2.1 hx hy hr
  | forT xs p1 p2 k p3 src body p r hb hr => exact sc_for (a src).2.2 hb hr
  | whl c body p r hb hr => exact sc_whl (a c).2.1 hb hr
end

end --Q21
section --Q22
/-! from a def's text to what it does -/
noncomputable def valN (names : List Str) (ps : List PV) (x : Str) : PV := ((names.zip ps).lookup x).getD .unb
section
variable {w : World} {src : Addr} {I R : Led} {env : Env} {L : Addr} {m cm : Str → Option Value} {val : Str → PV}
/-- what a name is bound to, and what stands for it -/
noncomputable def Bd (w : World) (src : Addr) (I : Led) (o : Option Value) (p : PV) : Prop := (∃ v, o = some v ∧ VR w src I v p) ∨ (o = none ∧ p = .unb)
theorem zip_look : ∀ (names : List Str) (vs : List Value) (ps : List PV), VRs w src I vs ps → ∀ x, Bd w src I ((names.zip vs).lookup x) (valN names ps x)
  | [], _, _, _, _ => .inr ⟨rfl, rfl⟩
  | _ :: _, [], [], _, _ => .inr ⟨rfl, rfl⟩
  | _ :: _, [], _ :: _, r, _ => nomatch r.1
  | _ :: _, _ :: _, [], r, _ => nomatch r.1
  | n :: names, v :: vs, p :: ps, r, x => by
    unfold valN
    rw [List.zip_cons_cons, List.zip_cons_cons, List.lookup_cons, List.lookup_cons]
    cases x == n with
    | true => exact .inl ⟨v, rfl, r.hd⟩
    | false => exact zip_look names vs ps r.tl x
theorem look_none {x : Str} : ∀ {l : List (Str × Value)}, x ∉ l.map (·.1) → l.lookup x = none
  | [], _ => rfl
  | (n, v) :: l, h => by
    have e : (x == n) = false := beq_eq_false_iff_ne.mpr fun (e : x = n) => h (e ▸ .head _)
    rw [List.lookup_cons, e]
    exact look_none fun hm => h (.tail _ hm)
theorem bindL_get {kd : Str → Option NameKind} {x : Str} (hx : kd x = some .local) : ∀ (b : List (Str × Value)) (m : Str → Option Value), (b.map (·.1)).Nodup → bindL kd b m x = (b.lookup x).or (m x)
  | [], _, _ => rfl
  | (n, v) :: r, m, nd => by
    have nd' := List.nodup_cons.mp nd
    show bindL kd r _ x = _
    rw [bindL_get hx r _ nd'.2, List.lookup_cons]
    by_cases e : x = n
    · subst e
      rw [look_none nd'.1, beq_self_eq_true, if_pos hx, if_pos rfl]
      rfl
    · rw [beq_eq_false_iff_ne.mpr e]
      congr 1
      by_cases h : kd n = some .local
      · rw [if_pos h, if_neg e]
      · rw [if_neg h]
theorem bindC_get {kd : Str → Option NameKind} {x : Str} (hx : kd x = some .cell) : ∀ (b : List (Str × Value)) (m : Str → Option Value), (b.map (·.1)).Nodup → bindC kd b m x = (b.lookup x).or (m x)
  | [], _, _ => rfl
  | (n, v) :: r, m, nd => by
    have nd' := List.nodup_cons.mp nd
    show bindC kd r _ x = _
    rw [bindC_get hx r _ nd'.2, List.lookup_cons]
    by_cases e : x = n
    · subst e
      rw [look_none nd'.1, beq_self_eq_true, if_neg (fun h => lc hx h), if_pos rfl]
      rfl
    · rw [beq_eq_false_iff_ne.mpr e]
      congr 1
      by_cases h : kd n = some .local
      · rw [if_pos h]
      · rw [if_neg h, if_neg e]
theorem cf_snd : ∀ (names : List (Str × NameKind)) (n : Nat) (acc : List (Str × Addr)), (acc.map (·.2)).Nodup → (∀ p ∈ acc, p.2 < n) → ((cellsFrom n names acc).map (·.2)).Nodup ∧ ∀ p ∈ cellsFrom n names acc, p ∈ acc ∨ n ≤ p.2
  | [], _, _, nd, _ => ⟨nd, fun _ h => .inl h⟩
  | (x, k) :: r, n, acc, nd, lt => by
    unfold cellsFrom
    by_cases hk : (k == .cell) = true
    · rw [if_pos hk]
      obtain ⟨a, b⟩ := cf_snd r (n + 1) ((x, n) :: acc) (List.nodup_cons.mpr ⟨fun h => by obtain ⟨q, hq, e⟩ := List.mem_map.mp h; exact Nat.lt_irrefl n ((show q.2 = n from e) ▸ lt q hq), nd⟩) fun p hp => (List.mem_cons.mp hp).elim (fun e => e ▸ Nat.lt_succ_self n) fun h => Nat.lt_succ_of_lt (lt p h)
      exact ⟨a, fun p hp => (b p hp).elim (fun h => (List.mem_cons.mp h).elim (fun e => .inr (e ▸ Nat.le_refl n)) .inl) fun h => .inr (Nat.le_of_succ_le h)⟩
    · rw [if_neg hk]
      exact cf_snd r n acc nd lt
theorem look_mem : ∀ {l : List (Str × Addr)}, (l.map (·.1)).Nodup → ∀ p ∈ l, l.lookup p.1 = some p.2
  | (n, c) :: r, nd, p, h => by
    have nd' := List.nodup_cons.mp nd
    rw [List.lookup_cons]
    rcases List.mem_cons.mp h with rfl | h
    · rw [beq_self_eq_true]
    · have e : (p.1 == n) = false := beq_eq_false_iff_ne.mpr fun (e : p.1 = n) => nd'.1 (e ▸ List.mem_map.mpr ⟨p, h, rfl⟩)
      rw [e]
      exact look_mem nd'.2 p h
theorem mem_look {x : Str} {c : Addr} : ∀ {l : List (Str × Addr)}, l.lookup x = some c → (x, c) ∈ l
  | (n, d) :: r, h => by
    rw [List.lookup_cons] at h
    by_cases e : (x == n) = true
    · rw [e] at h
      cases h
      rw [beq_iff_eq.mp e]
      exact .head _
    · rw [Bool.eq_false_iff.mpr e] at h
      exact .tail _ (mem_look h)
theorem cells_LR {cs : List (Str × Addr)} {cells : Led} (Y : CellsAre cm cs cells) : (∀ q ∈ cs, env.kindOf q.1 = some .cell ∧ env.cells.lookup q.1 = some q.2) → (∀ x, env.kindOf x = some .cell → Bd w src I (cm x) (val x)) → LR w src env L I R m (cs.map (·.1)) ((cs.map (·.1)).map val) cells ∧ cells.map (·.1) = cs.map (·.2) := by
  induction Y with
  | nil => exact fun _ _ => ⟨.nil, rfl⟩
  | @cons n c o cs cells ho _ ih =>
    intro h hb
    obtain ⟨a, b⟩ := ih (fun q hq => h q (.tail _ hq)) hb
    have h0 := h _ (.head _)
    refine ⟨.cons (M1 := [(c, o)]) ?_ a, congrArg (c :: ·) b⟩
    rcases hb n h0.1 with ⟨v, e, r⟩ | ⟨e, e2⟩
    · exact .ce h0.1 h0.2 (e ▸ ho) r
    · rw [e2]; exact .unC h0.1 h0.2 ho
theorem loc_LR (hL : env.locals = L) : ∀ {ls : List Str}, (∀ x ∈ ls, env.kindOf x = some .local) → (∀ x, env.kindOf x = some .local → Bd w src I (m x) (val x)) → LR w src env L I R m ls (ls.map val) []
  | [], _, _ => .nil
  | x :: ls, h, hb => by
    have h0 := h x (.head _)
    refine .cons (M1 := []) ?_ (loc_LR hL (fun y hy => h y (.tail _ hy)) hb)
    rcases hb x h0 with ⟨v, e, r⟩ | ⟨e, e2⟩
    · exact .fr h0 hL e r
    · rw [e2]; exact .unF h0 hL
end

end --Q22
section --Q23
theorem len_one {l : List Value} (h : l.length = 1) : ∃ x, l = [x] := List.length_eq_one_iff.mp h
theorem len_three {l : List Value} (h : l.length = 3) : ∃ x y z, l = [x, y, z] := by
  match l, h with
  | x :: l, h =>
    obtain ⟨y, z, rfl⟩ := len_two (Nat.succ.inj h)
    exact ⟨x, y, z, rfl⟩
theorem len_four {l : List Value} (h : l.length = 4) : ∃ x y z u, l = [x, y, z, u] := by
  match l, h with
  | x :: l, h =>
    obtain ⟨y, z, u, rfl⟩ := len_three (Nat.succ.inj h)
    exact ⟨x, y, z, u, rfl⟩
/-- the frame's names are well laid -/
noncomputable def entryOk (scope : Scope) (names cns ls : List Str) : Bool :=
  ((names.all fun x => scope.names.lookup x == some .local || scope.names.lookup x == some .cell) && ((cns.all fun x => scope.names.lookup x == some .cell) && (ls.all fun x => scope.names.lookup x == some .local))) &&
  ((decide (cns ++ ls).Nodup && decide names.Nodup) && (((cns ++ ls).all fun x => !(x == ("__debug__" : Str))) && (scope.kind == .function && (!scope.isCoroutine && !scope.isGenerator))))
section
variable {w : World} {WT : Nat → List PV → (PV → Prop) → Prop} {G : List GE} {kb ub : Nat} {fa : Addr} {own : Bool} {W : List PV → (PV → Prop) → Prop} {name qual : Str} {params : Arguments} {scope : Scope} {dV kV doc pm cdv ct oc : Value} {an od : Option Addr} {osl : Array (Option Value)} {names cns ls : List Str} {c : CS} {body : List Stmt}
theorem fd_entry0 (go : GOk w WT G kb ub) (ho : (hd.heap_1 w.params).lookup fa = some ⟨oc, od, .func (fnOf name qual params body scope dV kV doc pm an cdv ct), osl⟩) (hcd : codeIn (hd.heap_1 w.params) cdv qual = true) (hbody : body = sts G c ⟨cns ++ ls, scope, own⟩)
    (hck : ckS G c ⟨cns ++ ls, scope, own⟩ = true) (hlk : entryOk scope names cns ls = true) (hcn : ∀ n, (cellsFrom n scope.names []).map (·.1) = cns)
    (hW : ∀ (s : Shared) (src : Addr) (I : Led) (vs : List Value) (ps : List PV) (P : PV → Prop), (hd.heap_1 w.params).In s.heap → VRs w src I vs ps → W ps P →
      ∃ vs' ps', vs'.length = names.length ∧ BindsTo s (fnOf name qual params body scope dV kV doc pm an cdv ct) ⟨vs, []⟩ (names.zip vs') ∧ VRs w src I vs' ps' ∧ wpS WT c ((cns ++ ls).map (valN names ps')) (fun _ => P .none) P) : FSpec w fa own (kb + 1) (ub + 80) W := by
  intro src h₀ L A m s S I R vs0 ps0 P Q E fc F lo hs r0 hw ans
  subst hbody
  obtain ⟨dp, un, ⟨gd, cn, cs, a, ccd, cl, outer, rfl, ⟨hk, hol⟩, A₀, base, B⟩, ⟨hd1, hd2⟩, KIn, p, loose, mean, mg, mb, T⟩ := fc
  obtain ⟨vs, ps, hvl, hb, r, hwp⟩ := hW s src I vs0 ps0 P (fun b o h => F.keep b o (KIn b o h)) r0 hw
  have e1 := band hlk
  have e2 := band e1.1
  have e3 := band e2.2
  have e4 := band e1.2
  have e5 := band e4.1
  have e6 := band e4.2
  have e7 := band e6.2
  have e8 := band e7.2
  have nd := of_decide_eq_true e5.1
  have hzk : (names.zip vs).map (·.1) = names := List.map_fst_zip (Nat.le_of_eq hvl.symm)
  have hkind : ((names.zip vs).all fun y => scope.names.lookup y.1 == some .local || scope.names.lookup y.1 == some .cell) = true := List.all_eq_true.mpr fun y hy => List.all_eq_true.mp e2.1 y.1 (hzk ▸ List.mem_map.mpr ⟨y, hy, rfl⟩)
  refine wpAny_call (code_defC B F KIn lo.1 T rfl rfl hk ho hcd (by show dp < recursionLimit; omega) hb hkind (by rw [hcn 0]; exact (List.nodup_append.mp nd).1) (fun g L' h₁ tk cells FG F1 N1 Y B1 K1 T1 lt => ?_) ((Bool.not_eq_true' _).mp e8.1) ((Bool.not_eq_true' _).mp e8.2) (beq_iff_eq.mp e7.1))
  have hcs := hcn (L' + 1)
  obtain ⟨an1, an2⟩ := cf_snd scope.names (L' + 1) [] List.nodup_nil (fun _ h => nomatch h)
  have ndc : ((cellsFrom (L' + 1) scope.names []).map (·.1)).Nodup := hcs.symm ▸ (List.nodup_append.mp nd).1
  have hi : ∀ q ∈ cellsFrom (L' + 1) scope.names [], L' < q.2 := fun q hq => (an2 q hq).elim (fun h => nomatch h) id
  have kc : ∀ x ∈ cns, scope.names.lookup x = some .cell := fun x hx => beq_iff_eq.mp (List.all_eq_true.mp e3.1 x hx)
  have kl : ∀ x ∈ ls, scope.names.lookup x = some .local := fun x hx => beq_iff_eq.mp (List.all_eq_true.mp e3.2 x hx)
  have bd := zip_look (w := w) (src := src) (I := I) names vs ps r
  have nz : ((names.zip vs).map (·.1)).Nodup := hzk.symm ▸ of_decide_eq_true e5.2
  have bdl : ∀ x, scope.names.lookup x = some .local → Bd w src I (bindL (envOfC qual scope L' fa cdv).kindOf (names.zip vs) (fun _ => none) x) (valN names ps x) := fun x hx => by
    rw [bindL_get (kd := (envOfC qual scope L' fa cdv).kindOf) hx _ _ nz, Option.or_none]
    exact bd x
  have bdc : ∀ x, scope.names.lookup x = some .cell → Bd w src I (bindC (envOfC qual scope L' fa cdv).kindOf (names.zip vs) (fun _ => none) x) (valN names ps x) := fun x hx => by
    rw [bindC_get (kd := (envOfC qual scope L' fa cdv).kindOf) hx _ _ nz, Option.or_none]
    exact bd x
  obtain ⟨lrc, ec⟩ := cells_LR (w := w) (src := src) (I := I) (R := R) (env := envOfC qual scope L' fa cdv) (L := L') (m := bindL (envOfC qual scope L' fa cdv).kindOf (names.zip vs) fun _ => none) (val := valN names ps) Y
    (fun q hq => ⟨kc _ (hcs ▸ List.mem_map.mpr ⟨q, hq, rfl⟩), look_mem ndc q hq⟩) bdc
  rw [hcs] at lrc
  have lr := lrc.app (loc_LR (w := w) (src := src) (I := I) (R := R) (env := envOfC qual scope L' fa cdv) (L := L') rfl kl bdl)
  rw [List.append_nil, ← List.map_append] at lr
  have hiC : ∀ q ∈ cells, L' < q.1 := fun q hq => by
    have : q.1 ∈ (cellsFrom (L' + 1) scope.names []).map (·.2) := ec ▸ List.mem_map.mpr ⟨q, hq, rfl⟩
    obtain ⟨z, hz, e⟩ := List.mem_map.mp this
    exact e ▸ hi z hz
  have lo1 : LedOk g L' h₁ (cells ++ (S ++ (I ++ R))) := ⟨N1, nodup_app.mpr ⟨ec ▸ an1, lo.2, fun a ha b hb => Nat.ne_of_gt (Nat.lt_trans (lt b hb) (hiC a ha))⟩⟩
  have lvK : ∀ (v : Value) (p : PV) (m' : Str → Option Value) (loc' : List PV) (h' : Heap) (tk' : Nat) (I' : Led), (∀ q ∈ I, q ∈ I') → P p → VR w src I' v p → (Kx.mk ⟨cns ++ ls, scope, own⟩ (envOfC qual scope L' fa cdv) src R g L' ((ktrTop dp un gd cn cs L a ccd cl outer).deeper (envOfC qual scope L' fa cdv)) m').St w h' loc' I' →
      LeaveK h₀ L m g (fun r s' => match r with | .ok (.ret v) => Q v s' | .ok _ => False | .error e => E e s') v { s with heap := h', toks := tk' } := fun v p m' loc' h' tk' I' hI hp rv S' => by
    obtain ⟨F', M', Sx, _, hs', lo'⟩ := S'
    have lo2 := lo'.right
    exact leaveK_ F' lo2.1 fun F'' N'' => ans v p h' tk' I' Sx hI hp rv F'' ⟨N'', lo2.2⟩ hs'
  refine wpAny_noRaise (soundS go c (Kx.mk ⟨cns ++ ls, scope, own⟩ (envOfC qual scope L' fa cdv) src R g L' ((ktrTop dp un gd cn cs L a ccd cl outer).deeper (envOfC qual scope L' fa cdv)) (bindL (envOfC qual scope L' fa cdv).kindOf (names.zip vs) fun _ => none)) { s with heap := h₁, toks := tk } I ((cns ++ ls).map (valN names ps)) (fun _ => P .none) P _
    ⟨rfl, ⟨rfl, rfl⟩, beq_iff_eq.mp e7.1, ⟨nd, fun x hx => (Bool.not_eq_true' _).mp (List.all_eq_true.mp e6.1 x hx)⟩, dp + 1, un + 3, ⟨gd, qual, scope, fa, cdv, _, envX cn cs L a ccd cl :: outer, rfl, ⟨beq_iff_eq.mp e7.1, by rw [List.length_cons]; omega⟩, _, base, B1⟩, ⟨by omega, by omega⟩, K1, p, loose, mean, mg, mb, T1⟩
    ⟨rfl, fun x hx hk c o hc hm => ?_⟩ hck ⟨F1, cells, S, lr, hs, lo1⟩ hwp ⟨fun m' loc' h' tk' I' hI hp S' => lvK .none .none m' loc' h' tk' I' hI hp .none S', fun v p m' loc' h' tk' I' hI hp rv S' => lvK v p m' loc' h' tk' I' hI hp rv S'⟩)
  have h1 := hi _ (mem_look hc)
  exact Nat.lt_irrefl _ (Nat.lt_trans h1 (lt _ (List.mem_append_right _ (List.mem_append_right _ hm))))
theorem fd_entry (go : GOk w WT G kb ub) (ho : (hd.heap_1 w.params).lookup fa = some ⟨oc, od, .func (fnOf name qual params body scope dV kV doc pm an cdv ct), osl⟩) (hcd : codeIn (hd.heap_1 w.params) cdv qual = true) (hbody : body = sts G c ⟨cns ++ ls, scope, own⟩)
    (hck : ckS G c ⟨cns ++ ls, scope, own⟩ = true) (hlk : entryOk scope names cns ls = true) (hcn : ∀ n, (cellsFrom n scope.names []).map (·.1) = cns)
    (hb : ∀ (s : Shared) (vs : List Value), vs.length = names.length → BindsTo s (fnOf name qual params body scope dV kV doc pm an cdv ct) ⟨vs, []⟩ (names.zip vs))
    (hW : ∀ ps P, W ps P → ps.length = names.length ∧ wpS WT c ((cns ++ ls).map (valN names ps)) (fun _ => P .none) P) : FSpec w fa own (kb + 1) (ub + 80) W :=
  fd_entry0 go ho hcd hbody hck hlk hcn fun s src I vs ps P _ r hw => ⟨vs, ps, r.1.trans (hW ps P hw).1, hb s vs (r.1.trans (hW ps P hw).1), r, (hW ps P hw).2⟩
end

end --Q23
section --D1
noncomputable def c_comes_behind : CS := .ret (.cmp .Gt (.bin .Mult (.item (.item (.loc (nat_lit 0) (nat_lit 11011000014)) (nat_lit 0) (nat_lit 11015000016) (nat_lit 11011000017)) (nat_lit 0) (nat_lit 11018000019) (nat_lit 11011000020)) (.item (.item (.loc (nat_lit 1) (nat_lit 11023000028)) (nat_lit 0) (nat_lit 11029000030) (nat_lit 11023000031)) (nat_lit 1) (nat_lit 11032000033) (nat_lit 11023000034)) (nat_lit 11011000034)) (.bin .Mult (.item (.item (.loc (nat_lit 1) (nat_lit 11037000042)) (nat_lit 0) (nat_lit 11043000044) (nat_lit 11037000045)) (nat_lit 0) (nat_lit 11046000047) (nat_lit 11037000048)) (.item (.item (.loc (nat_lit 0) (nat_lit 11051000054)) (nat_lit 0) (nat_lit 11055000056) (nat_lit 11051000057)) (nat_lit 1) (nat_lit 11058000059) (nat_lit 11051000060)) (nat_lit 11037000060)) (nat_lit 11011000060)) (nat_lit 11004000060)
noncomputable def g_comes_behind : List GE := []
theorem s_comes_behind {w : World} {WT : Nat → List PV → (PV → Prop) → Prop} {kb ub : Nat} {W : List PV → (PV → Prop) → Prop} (go : GOk w WT g_comes_behind kb ub) (hW : ∀ ps P, W ps P → ∃ x y, ps = [x, y] ∧ wpS WT c_comes_behind [x, y] (fun _ => P .none) P) : FSpec w 54 false (kb + 1) (ub + 80) W := by
  refine' fd_entry (c := c_comes_behind) (names := (["one", "other"] : List Str)) (cns := ([] : List Str)) (ls := (["one", "other"] : List Str)) go ?ho ?hcd ?hbody ?hck ?hlk ?hcn ?hb ?hW
  case hW =>
    intro ps P h
    obtain ⟨x, y, rfl, hw⟩ := hW ps P h
    have e : (["one", "other"] : List Str).map (valN (["one", "other"] : List Str) [x, y]) = [x, y] := by kernel_rfl
    exact ⟨rfl, e.symm ▸ hw⟩
  case ho => k_is
  case hcd => k_is
  case hbody => kernel_rfl
  case hb => intro s vs h; obtain ⟨x, y, rfl⟩ := len_two h; exact BindsTo.of_eq rfl
  case hck => decide +kernel
  case hlk => decide +kernel
  case hcn => exact fun _ => rfl
noncomputable def c_crossings : CS := .newl (nat_lit 2) (nat_lit 13004000009) (nat_lit 13012000014) (nat_lit 13004000014) (.forT [(nat_lit 3)] (nat_lit 14008000012) (nat_lit 0) (nat_lit 0) (nat_lit 0) (.loc (nat_lit 0) (nat_lit 14016000021)) (.ite (.callM (nat_lit 0) (nat_lit 3) (nat_lit 15011000015) (nat_lit 15011000022) (.cons (.loc (nat_lit 1) (nat_lit 15023000024)) .nil) (nat_lit 15011000025)) (.set (nat_lit 4) (nat_lit 16012000020) (.disp true (.cons (.callM (nat_lit 1) (nat_lit 3) (nat_lit 16024000028) (nat_lit 16024000037) (.cons (.loc (nat_lit 1) (nat_lit 16038000039)) .nil) (nat_lit 16024000040)) (.cons (.attr (nat_lit 3) (nat_lit 4) (nat_lit 16042000046) (nat_lit 16042000050)) .nil)) (nat_lit 0) (nat_lit 16023000051)) (nat_lit 16012000051) (.set (nat_lit 5) (nat_lit 17012000014) (.len (nat_lit 2) (nat_lit 17017000020) (nat_lit 17021000026) (nat_lit 17017000027)) (nat_lit 17012000027) (.whl (.bop false (.cmp .Gt (.loc (nat_lit 5) (nat_lit 18018000020)) (.con (.int 0) (nat_lit 18023000024)) (nat_lit 18018000024)) (.callF (nat_lit 2) (nat_lit 18029000041) (.cons (.lidx (nat_lit 2) (nat_lit 18042000047) (.bin .Sub (.loc (nat_lit 5) (nat_lit 18048000050)) (.con (.int 1) (nat_lit 18053000054)) (nat_lit 18048000054)) (nat_lit 18042000055)) (.cons (.loc (nat_lit 4) (nat_lit 18057000065)) .nil)) (nat_lit 18029000066)) (nat_lit 18018000066)) (.set (nat_lit 5) (nat_lit 19016000018) (.bin .Sub (.loc (nat_lit 5) (nat_lit 19021000023)) (.con (.int 1) (nat_lit 19026000027)) (nat_lit 19021000027)) (nat_lit 19016000027) .done) (nat_lit 18012001027) (.ins (nat_lit 2) (nat_lit 20012000017) (nat_lit 20012000024) (.loc (nat_lit 5) (nat_lit 20025000027)) (.loc (nat_lit 4) (nat_lit 20029000037)) (nat_lit 20012000038) (nat_lit 20012000038) .done)))) .done (nat_lit 15008005038) .done) (nat_lit 14004006038) (.ret (.loc (nat_lit 2) (nat_lit 21011000016)) (nat_lit 21004000016)))
noncomputable def g_crossings : List GE := [⟨"covers", 124, false, true⟩, ⟨"place_at", 131, false, true⟩, ⟨"comes_behind", 54, false, false⟩]
theorem s_crossings {w : World} {WT : Nat → List PV → (PV → Prop) → Prop} {kb ub : Nat} {W : List PV → (PV → Prop) → Prop} (go : GOk w WT g_crossings kb ub) (hW : ∀ ps P, W ps P → ∃ x y, ps = [x, y] ∧ wpS WT c_crossings [x, y, .unb, .unb, .unb, .unb] (fun _ => P .none) P) : FSpec w 61 false (kb + 1) (ub + 80) W := by
  refine' fd_entry (c := c_crossings) (names := (["sides", "y"] : List Str)) (cns := ([] : List Str)) (ls := (["sides", "y", "found", "side", "crossing", "at"] : List Str)) go ?ho ?hcd ?hbody ?hck ?hlk ?hcn ?hb ?hW
  case hW =>
    intro ps P h
    obtain ⟨x, y, rfl, hw⟩ := hW ps P h
    have e : (["sides", "y", "found", "side", "crossing", "at"] : List Str).map (valN (["sides", "y"] : List Str) [x, y]) = [x, y, .unb, .unb, .unb, .unb] := by kernel_rfl
    exact ⟨rfl, e.symm ▸ hw⟩
  case ho => k_is
  case hcd => k_is
  case hbody => kernel_rfl
  case hb => intro s vs h; obtain ⟨x, y, rfl⟩ := len_two h; exact BindsTo.of_eq rfl
  case hck => decide +kernel
  case hlk => decide +kernel
  case hcn => exact fun _ => rfl
noncomputable def c_winding_at : CS := .set (nat_lit 3) (nat_lit 25004000011) (.con (.int 0) (nat_lit 25014000015)) (nat_lit 25004000015) (.forT [(nat_lit 4),(nat_lit 5)] (nat_lit 26008000013) (nat_lit 26015000018) (nat_lit 0) (nat_lit 26008000018) (.callF (nat_lit 0) (nat_lit 26022000031) (.cons (.loc (nat_lit 0) (nat_lit 26032000037)) (.cons (.loc (nat_lit 2) (nat_lit 26039000040)) .nil)) (nat_lit 26022000041)) (.ite (.cmp .LtE (.item (.loc (nat_lit 4) (nat_lit 27011000016)) (nat_lit 0) (nat_lit 27017000018) (nat_lit 27011000019)) (.bin .Mult (.loc (nat_lit 1) (nat_lit 27023000024)) (.item (.loc (nat_lit 4) (nat_lit 27027000032)) (nat_lit 1) (nat_lit 27033000034) (nat_lit 27027000035)) (nat_lit 27023000035)) (nat_lit 27011000035)) (.set (nat_lit 3) (nat_lit 28012000019) (.bin .Add (.loc (nat_lit 3) (nat_lit 28022000029)) (.loc (nat_lit 5) (nat_lit 28032000035)) (nat_lit 28022000035)) (nat_lit 28012000035) .done) .done (nat_lit 27008001035) .done) (nat_lit 26004002035) (.ret (.loc (nat_lit 3) (nat_lit 29011000018)) (nat_lit 29004000018)))
noncomputable def g_winding_at : List GE := [⟨"crossings", 61, false, false⟩]
theorem s_winding_at {w : World} {WT : Nat → List PV → (PV → Prop) → Prop} {kb ub : Nat} {W : List PV → (PV → Prop) → Prop} (go : GOk w WT g_winding_at kb ub) (hW : ∀ ps P, W ps P → ∃ x y z, ps = [x, y, z] ∧ wpS WT c_winding_at [x, y, z, .unb, .unb, .unb] (fun _ => P .none) P) : FSpec w 75 false (kb + 1) (ub + 80) W := by
  refine' fd_entry (c := c_winding_at) (names := (["sides", "x", "y"] : List Str)) (cns := ([] : List Str)) (ls := (["sides", "x", "y", "winding", "place", "way"] : List Str)) go ?ho ?hcd ?hbody ?hck ?hlk ?hcn ?hb ?hW
  case hW =>
    intro ps P h
    obtain ⟨x, y, z, rfl, hw⟩ := hW ps P h
    have e : (["sides", "x", "y", "winding", "place", "way"] : List Str).map (valN (["sides", "x", "y"] : List Str) [x, y, z]) = [x, y, z, .unb, .unb, .unb] := by kernel_rfl
    exact ⟨rfl, e.symm ▸ hw⟩
  case ho => k_is
  case hcd => k_is
  case hbody => kernel_rfl
  case hb => intro s vs h; obtain ⟨x, y, z, rfl⟩ := len_three h; exact BindsTo.of_eq rfl
  case hck => decide +kernel
  case hlk => decide +kernel
  case hcn => exact fun _ => rfl
noncomputable def c_row : CS := .ret (.disp true (.cons (.attr (nat_lit 0) (nat_lit 0) (nat_lit 51016000020) (nat_lit 51016000023)) (.cons (.attr (nat_lit 0) (nat_lit 1) (nat_lit 51025000029) (nat_lit 51025000032)) (.cons (.attr (nat_lit 0) (nat_lit 2) (nat_lit 51034000038) (nat_lit 51034000041)) (.cons (.attr (nat_lit 0) (nat_lit 3) (nat_lit 51043000047) (nat_lit 51043000050)) (.cons (.attr (nat_lit 0) (nat_lit 4) (nat_lit 51052000056) (nat_lit 51052000060)) .nil))))) (nat_lit 0) (nat_lit 51015000061)) (nat_lit 51008000061)
noncomputable def g_row : List GE := []
theorem s_row {w : World} {WT : Nat → List PV → (PV → Prop) → Prop} {kb ub : Nat} {W : List PV → (PV → Prop) → Prop} (go : GOk w WT g_row kb ub) (hW : ∀ ps P, W ps P → ∃ x, ps = [x] ∧ wpS WT c_row [x] (fun _ => P .none) P) : FSpec w 117 false (kb + 1) (ub + 80) W := by
  refine' fd_entry (c := c_row) (names := (["self"] : List Str)) (cns := ([] : List Str)) (ls := (["self"] : List Str)) go ?ho ?hcd ?hbody ?hck ?hlk ?hcn ?hb ?hW
  case hW =>
    intro ps P h
    obtain ⟨x, rfl, hw⟩ := hW ps P h
    have e : (["self"] : List Str).map (valN (["self"] : List Str) [x]) = [x] := by kernel_rfl
    exact ⟨rfl, e.symm ▸ hw⟩
  case ho => k_is
  case hcd => k_is
  case hbody => kernel_rfl
  case hb => intro s vs h; obtain ⟨x, rfl⟩ := len_one h; exact BindsTo.of_eq rfl
  case hck => decide +kernel
  case hlk => decide +kernel
  case hcn => exact fun _ => rfl
noncomputable def c_covers : CS := .ret (.chain (.attr (nat_lit 0) (nat_lit 1) (nat_lit 54015000019) (nat_lit 54015000022)) (.loc (nat_lit 1) (nat_lit 54026000027)) (.attr (nat_lit 0) (nat_lit 3) (nat_lit 54030000034) (nat_lit 54030000037)) (nat_lit 54015000037)) (nat_lit 54008000037)
noncomputable def g_covers : List GE := []
theorem s_covers {w : World} {WT : Nat → List PV → (PV → Prop) → Prop} {kb ub : Nat} {W : List PV → (PV → Prop) → Prop} (go : GOk w WT g_covers kb ub) (hW : ∀ ps P, W ps P → ∃ x y, ps = [x, y] ∧ wpS WT c_covers [x, y] (fun _ => P .none) P) : FSpec w 124 false (kb + 1) (ub + 80) W := by
  refine' fd_entry (c := c_covers) (names := (["self", "y"] : List Str)) (cns := ([] : List Str)) (ls := (["self", "y"] : List Str)) go ?ho ?hcd ?hbody ?hck ?hlk ?hcn ?hb ?hW
  case hW =>
    intro ps P h
    obtain ⟨x, y, rfl, hw⟩ := hW ps P h
    have e : (["self", "y"] : List Str).map (valN (["self", "y"] : List Str) [x, y]) = [x, y] := by kernel_rfl
    exact ⟨rfl, e.symm ▸ hw⟩
  case ho => k_is
  case hcd => k_is
  case hbody => kernel_rfl
  case hb => intro s vs h; obtain ⟨x, y, rfl⟩ := len_two h; exact BindsTo.of_eq rfl
  case hck => decide +kernel
  case hlk => decide +kernel
  case hcn => exact fun _ => rfl
noncomputable def c_place_at : CS := .set (nat_lit 2) (nat_lit 57008000012) (.bin .Sub (.attr (nat_lit 0) (nat_lit 3) (nat_lit 57015000019) (nat_lit 57015000022)) (.attr (nat_lit 0) (nat_lit 1) (nat_lit 57025000029) (nat_lit 57025000032)) (nat_lit 57015000032)) (nat_lit 57008000032) (.ret (.disp true (.cons (.bin .Add (.bin .Mult (.attr (nat_lit 0) (nat_lit 0) (nat_lit 58016000020) (nat_lit 58016000023)) (.loc (nat_lit 2) (nat_lit 58026000030)) (nat_lit 58016000030)) (.bin .Mult (.bin .Sub (.attr (nat_lit 0) (nat_lit 2) (nat_lit 58034000038) (nat_lit 58034000041)) (.attr (nat_lit 0) (nat_lit 0) (nat_lit 58044000048) (nat_lit 58044000051)) (nat_lit 58034000051)) (.bin .Sub (.loc (nat_lit 1) (nat_lit 58056000057)) (.attr (nat_lit 0) (nat_lit 1) (nat_lit 58060000064) (nat_lit 58060000067)) (nat_lit 58056000067)) (nat_lit 58033000068)) (nat_lit 58016000068)) (.cons (.loc (nat_lit 2) (nat_lit 58070000074)) .nil)) (nat_lit 0) (nat_lit 58015000075)) (nat_lit 58008000075))
noncomputable def g_place_at : List GE := []
theorem s_place_at {w : World} {WT : Nat → List PV → (PV → Prop) → Prop} {kb ub : Nat} {W : List PV → (PV → Prop) → Prop} (go : GOk w WT g_place_at kb ub) (hW : ∀ ps P, W ps P → ∃ x y, ps = [x, y] ∧ wpS WT c_place_at [x, y, .unb] (fun _ => P .none) P) : FSpec w 131 false (kb + 1) (ub + 80) W := by
  refine' fd_entry (c := c_place_at) (names := (["self", "y"] : List Str)) (cns := ([] : List Str)) (ls := (["self", "y", "high"] : List Str)) go ?ho ?hcd ?hbody ?hck ?hlk ?hcn ?hb ?hW
  case hW =>
    intro ps P h
    obtain ⟨x, y, rfl, hw⟩ := hW ps P h
    have e : (["self", "y", "high"] : List Str).map (valN (["self", "y"] : List Str) [x, y]) = [x, y, .unb] := by kernel_rfl
    exact ⟨rfl, e.symm ▸ hw⟩
  case ho => k_is
  case hcd => k_is
  case hbody => kernel_rfl
  case hb => intro s vs h; obtain ⟨x, y, rfl⟩ := len_two h; exact BindsTo.of_eq rfl
  case hck => decide +kernel
  case hlk => decide +kernel
  case hcn => exact fun _ => rfl
noncomputable def c_side_between : CS := .ite (.cmp .Eq (.item (.loc (nat_lit 0) (nat_lit 60007000010)) (nat_lit 1) (nat_lit 60011000012) (nat_lit 60007000013)) (.item (.loc (nat_lit 1) (nat_lit 60017000022)) (nat_lit 1) (nat_lit 60023000024) (nat_lit 60017000025)) (nat_lit 60007000025)) (.ret (.con .none (nat_lit 61015000019)) (nat_lit 61008000019)) .done (nat_lit 60004001019) (.ite (.cmp .Lt (.item (.loc (nat_lit 0) (nat_lit 62007000010)) (nat_lit 1) (nat_lit 62011000012) (nat_lit 62007000013)) (.item (.loc (nat_lit 1) (nat_lit 62016000021)) (nat_lit 1) (nat_lit 62022000023) (nat_lit 62016000024)) (nat_lit 62007000024)) (.ret (.callF (nat_lit 0) (nat_lit 63015000019) (.cons (.item (.loc (nat_lit 0) (nat_lit 63020000023)) (nat_lit 0) (nat_lit 63024000025) (nat_lit 63020000026)) (.cons (.item (.loc (nat_lit 0) (nat_lit 63028000031)) (nat_lit 1) (nat_lit 63032000033) (nat_lit 63028000034)) (.cons (.item (.loc (nat_lit 1) (nat_lit 63036000041)) (nat_lit 0) (nat_lit 63042000043) (nat_lit 63036000044)) (.cons (.item (.loc (nat_lit 1) (nat_lit 63046000051)) (nat_lit 1) (nat_lit 63052000053) (nat_lit 63046000054)) (.cons (.con (.int 1) (nat_lit 63056000057)) .nil))))) (nat_lit 63015000058)) (nat_lit 63008000058)) .done (nat_lit 62004001058) (.ret (.callF (nat_lit 0) (nat_lit 64011000015) (.cons (.item (.loc (nat_lit 1) (nat_lit 64016000021)) (nat_lit 0) (nat_lit 64022000023) (nat_lit 64016000024)) (.cons (.item (.loc (nat_lit 1) (nat_lit 64026000031)) (nat_lit 1) (nat_lit 64032000033) (nat_lit 64026000034)) (.cons (.item (.loc (nat_lit 0) (nat_lit 64036000039)) (nat_lit 0) (nat_lit 64040000041) (nat_lit 64036000042)) (.cons (.item (.loc (nat_lit 0) (nat_lit 64044000047)) (nat_lit 1) (nat_lit 64048000049) (nat_lit 64044000050)) (.cons (.neg (.con (.int 1) (nat_lit 64053000054)) (nat_lit 64052000054)) .nil))))) (nat_lit 64011000055)) (nat_lit 64004000055)))
noncomputable def g_side_between : List GE := [⟨"Side", 134, false, false⟩]
theorem s_side_between {w : World} {WT : Nat → List PV → (PV → Prop) → Prop} {kb ub : Nat} {W : List PV → (PV → Prop) → Prop} (go : GOk w WT g_side_between kb ub) (hW : ∀ ps P, W ps P → ∃ x y, ps = [x, y] ∧ wpS WT c_side_between [x, y] (fun _ => P .none) P) : FSpec w 145 false (kb + 1) (ub + 80) W := by
  refine' fd_entry (c := c_side_between) (names := (["one", "other"] : List Str)) (cns := ([] : List Str)) (ls := (["one", "other"] : List Str)) go ?ho ?hcd ?hbody ?hck ?hlk ?hcn ?hb ?hW
  case hW =>
    intro ps P h
    obtain ⟨x, y, rfl, hw⟩ := hW ps P h
    have e : (["one", "other"] : List Str).map (valN (["one", "other"] : List Str) [x, y]) = [x, y] := by kernel_rfl
    exact ⟨rfl, e.symm ▸ hw⟩
  case ho => k_is
  case hcd => k_is
  case hbody => kernel_rfl
  case hb => intro s vs h; obtain ⟨x, y, rfl⟩ := len_two h; exact BindsTo.of_eq rfl
  case hck => decide +kernel
  case hlk => decide +kernel
  case hcn => exact fun _ => rfl
noncomputable def c_sides_of_contour : CS := .zipl (nat_lit 2) (nat_lit 66004000009) (nat_lit 0) (nat_lit 66012000016) (nat_lit 66017000020) (nat_lit 66021000026) (nat_lit 66028000033) (nat_lit 66034000035) (nat_lit 66034000036) (nat_lit 66028000037) (nat_lit 66017000038) (nat_lit 66012000039) (nat_lit 66004000039) (.ite (.bop false (.loc (nat_lit 1) (nat_lit 67007000016)) (.cmp .Gt (.len (nat_lit 0) (nat_lit 67021000024) (nat_lit 67025000030) (nat_lit 67021000031)) (.con (.int 1) (nat_lit 67034000035)) (nat_lit 67021000035)) (nat_lit 67007000035)) (.app (nat_lit 2) (nat_lit 68008000013) (nat_lit 68008000020) (.disp true (.cons (.lidx (nat_lit 0) (nat_lit 68022000027) (.neg (.con (.int 1) (nat_lit 68029000030)) (nat_lit 68028000030)) (nat_lit 68022000031)) (.cons (.lidx (nat_lit 0) (nat_lit 68033000038) (.con (.int 0) (nat_lit 68039000040)) (nat_lit 68033000041)) .nil)) (nat_lit 0) (nat_lit 68021000042)) (nat_lit 68008000043) (nat_lit 68008000043) .done) .done (nat_lit 67004001043) (.newl (nat_lit 3) (nat_lit 69004000009) (nat_lit 69012000014) (nat_lit 69004000014) (.forT [(nat_lit 4),(nat_lit 5)] (nat_lit 70008000011) (nat_lit 70013000018) (nat_lit 0) (nat_lit 70008000018) (.loc (nat_lit 2) (nat_lit 70022000027)) (.set (nat_lit 6) (nat_lit 71008000012) (.callF (nat_lit 0) (nat_lit 71015000027) (.cons (.loc (nat_lit 4) (nat_lit 71028000031)) (.cons (.loc (nat_lit 5) (nat_lit 71033000038)) .nil)) (nat_lit 71015000039)) (nat_lit 71008000039) (.ite (.isnt (.loc (nat_lit 6) (nat_lit 72011000015)) (nat_lit 72023000027) (nat_lit 72011000027)) (.app (nat_lit 3) (nat_lit 73012000017) (nat_lit 73012000024) (.loc (nat_lit 6) (nat_lit 73025000029)) (nat_lit 73012000030) (nat_lit 73012000030) .done) .done (nat_lit 72008001030) .done)) (nat_lit 70004003030) (.ret (.loc (nat_lit 3) (nat_lit 74011000016)) (nat_lit 74004000016)))))
noncomputable def g_sides_of_contour : List GE := [⟨"side_between", 145, false, false⟩]
theorem s_sides_of_contour {w : World} {WT : Nat → List PV → (PV → Prop) → Prop} {kb ub : Nat} {W : List PV → (PV → Prop) → Prop} (go : GOk w WT g_sides_of_contour kb ub) (hW : ∀ ps P, W ps P → ∃ x y, ps = [x, y] ∧ wpS WT c_sides_of_contour [x, y, .unb, .unb, .unb, .unb, .unb] (fun _ => P .none) P) : FSpec w 152 false (kb + 1) (ub + 80) W := by
  refine' fd_entry (c := c_sides_of_contour) (names := (["spots", "is_closed"] : List Str)) (cns := ([] : List Str)) (ls := (["spots", "is_closed", "pairs", "found", "one", "other", "side"] : List Str)) go ?ho ?hcd ?hbody ?hck ?hlk ?hcn ?hb ?hW
  case hW =>
    intro ps P h
    obtain ⟨x, y, rfl, hw⟩ := hW ps P h
    have e : (["spots", "is_closed", "pairs", "found", "one", "other", "side"] : List Str).map (valN (["spots", "is_closed"] : List Str) [x, y]) = [x, y, .unb, .unb, .unb, .unb, .unb] := by kernel_rfl
    exact ⟨rfl, e.symm ▸ hw⟩
  case ho => k_is
  case hcd => k_is
  case hbody => kernel_rfl
  case hb => intro s vs h; obtain ⟨x, y, rfl⟩ := len_two h; exact BindsTo.of_eq rfl
  case hck => decide +kernel
  case hlk => decide +kernel
  case hcn => exact fun _ => rfl
noncomputable def c_sides_of : CS := .newl (nat_lit 2) (nat_lit 76004000009) (nat_lit 76012000014) (nat_lit 76004000014) (.forT [(nat_lit 3),(nat_lit 4)] (nat_lit 77008000013) (nat_lit 77015000024) (nat_lit 0) (nat_lit 77008000024) (.loc (nat_lit 0) (nat_lit 77028000036)) (.ext (nat_lit 2) (nat_lit 78008000013) (nat_lit 78008000020) (.callF (nat_lit 0) (nat_lit 78021000037) (.cons (.loc (nat_lit 3) (nat_lit 78038000043)) (.cons (.bop true (.loc (nat_lit 1) (nat_lit 78045000055)) (.loc (nat_lit 4) (nat_lit 78059000068)) (nat_lit 78045000068)) .nil)) (nat_lit 78021000069)) (nat_lit 78008000070) (nat_lit 78008000070) .done) (nat_lit 77004001070) (.ret (.loc (nat_lit 2) (nat_lit 79011000016)) (nat_lit 79004000016)))
noncomputable def g_sides_of : List GE := [⟨"sides_of_contour", 152, false, false⟩]
theorem s_sides_of {w : World} {WT : Nat → List PV → (PV → Prop) → Prop} {kb ub : Nat} {W : List PV → (PV → Prop) → Prop} (go : GOk w WT g_sides_of kb ub) (hW : ∀ ps P, W ps P → ∃ p q, (ps = [p, q] ∨ (ps = [p] ∧ q = .bool true)) ∧ wpS WT c_sides_of [p, q, .unb, .unb, .unb] (fun _ => P .none) P) : FSpec w 160 false (kb + 1) (ub + 80) W := by
  refine' fd_entry0 (c := c_sides_of) (names := (["contours", "is_closing"] : List Str)) (cns := ([] : List Str)) (ls := (["contours", "is_closing", "found", "spots", "is_closed"] : List Str)) go ?ho ?hcd ?hbody ?hck ?hlk ?hcn ?hb
  case ho => k_is
  case hcd => k_is
  case hbody => kernel_rfl
  case hck => decide +kernel
  case hlk => decide +kernel
  case hcn => exact fun _ => rfl
  case hb =>
    intro s src I vs ps P K r h
    obtain ⟨p, q, hpq, hw⟩ := hW ps P h
    have e : (["contours", "is_closing", "found", "spots", "is_closed"] : List Str).map (valN (["contours", "is_closing"] : List Str) [p, q]) = [p, q, .unb, .unb, .unb] := by kernel_rfl
    rw [← e] at hw
    obtain rfl | ⟨rfl, rfl⟩ := hpq
    · obtain ⟨x, y, rfl⟩ := len_two r.1
      exact ⟨[x, y], [p, q], rfl, by exact binds_K (by k_in) rfl (by k_is) rfl rfl rfl, r, hw⟩
    · obtain ⟨x, rfl⟩ := len_one r.1
      exact ⟨[x, .bool true], [p, .bool true], rfl, by exact binds_K (by k_in) rfl (by k_is) rfl rfl rfl, .cons r.hd (.cons (.bool true) .nil), hw⟩
noncomputable def c_sides_between : CS := .ret (.comp (.loc (nat_lit 2) (nat_lit 81029000034)) ["side"] (nat_lit 81021000025) (nat_lit 0) (nat_lit 0) (nat_lit 0) [(nat_lit 0),(nat_lit 1)] (.bop false (.cmp .Lt (.attr (nat_lit 0) (nat_lit 1) (nat_lit 81038000042) (nat_lit 81038000045)) (.loc (nat_lit 1) (nat_lit 81048000052)) (nat_lit 81038000052)) (.cmp .Gt (.attr (nat_lit 0) (nat_lit 3) (nat_lit 81057000061) (nat_lit 81057000064)) (.loc (nat_lit 2) (nat_lit 81067000070)) (nat_lit 81057000070)) (nat_lit 81038000070)) (.loc (nat_lit 0) (nat_lit 81012000016)) ⟨.function, [(".0", .local),("side", .local),("high", .free),("low", .free)], false, false, []⟩ (nat_lit 81011000071)) (nat_lit 81004000071)
noncomputable def g_sides_between : List GE := []
theorem s_sides_between {w : World} {WT : Nat → List PV → (PV → Prop) → Prop} {kb ub : Nat} {W : List PV → (PV → Prop) → Prop} (go : GOk w WT g_sides_between kb ub) (hW : ∀ ps P, W ps P → ∃ x y z, ps = [x, y, z] ∧ wpS WT c_sides_between [z, y, x] (fun _ => P .none) P) : FSpec w 165 false (kb + 1) (ub + 80) W := by
  refine' fd_entry (c := c_sides_between) (names := (["sides", "low", "high"] : List Str)) (cns := (["high", "low"] : List Str)) (ls := (["sides"] : List Str)) go ?ho ?hcd ?hbody ?hck ?hlk ?hcn ?hb ?hW
  case hW =>
    intro ps P h
    obtain ⟨x, y, z, rfl, hw⟩ := hW ps P h
    have e : (["high", "low", "sides"] : List Str).map (valN (["sides", "low", "high"] : List Str) [x, y, z]) = [z, y, x] := by kernel_rfl
    exact ⟨rfl, e.symm ▸ hw⟩
  case ho => k_is
  case hcd => k_is
  case hbody => kernel_rfl
  case hb => intro s vs h; obtain ⟨x, y, z, rfl⟩ := len_three h; exact BindsTo.of_eq rfl
  case hck => decide +kernel
  case hlk => decide +kernel
  case hcn => exact fun _ => rfl
noncomputable def c_law_one : CS := .ret (.lidx (nat_lit 1) (nat_lit 98011000017) (.callF (nat_lit 0) (nat_lit 98018000027) (.cons (.loc (nat_lit 0) (nat_lit 98028000034)) (.cons (.len (nat_lit 1) (nat_lit 98036000039) (nat_lit 98040000046) (nat_lit 98036000047)) .nil)) (nat_lit 98018000048)) (nat_lit 98011000049)) (nat_lit 98004000049)
noncomputable def g_law_one : List GE := [⟨"_law_take", 179, true, false⟩]
theorem s_law_one {w : World} {WT : Nat → List PV → (PV → Prop) → Prop} {kb ub : Nat} {W : List PV → (PV → Prop) → Prop} (go : GOk w WT g_law_one kb ub) (hW : ∀ ps P, W ps P → ∃ x y, ps = [x, y] ∧ wpS WT c_law_one [x, y] (fun _ => P .none) P) : FSpec w 186 true (kb + 1) (ub + 80) W := by
  refine' fd_entry (c := c_law_one) (names := (["source", "things"] : List Str)) (cns := ([] : List Str)) (ls := (["source", "things"] : List Str)) go ?ho ?hcd ?hbody ?hck ?hlk ?hcn ?hb ?hW
  case hW =>
    intro ps P h
    obtain ⟨x, y, rfl, hw⟩ := hW ps P h
    have e : (["source", "things"] : List Str).map (valN (["source", "things"] : List Str) [x, y]) = [x, y] := by kernel_rfl
    exact ⟨rfl, e.symm ▸ hw⟩
  case ho => k_is
  case hcd => k_is
  case hbody => kernel_rfl
  case hb => intro s vs h; obtain ⟨x, y, rfl⟩ := len_two h; exact BindsTo.of_eq rfl
  case hck => decide +kernel
  case hlk => decide +kernel
  case hcn => exact fun _ => rfl
noncomputable def c_law_contours : CS := .newl (nat_lit 1) (nat_lit 100004000009) (nat_lit 100012000014) (nat_lit 100004000014) (.forT [(nat_lit 2)] (nat_lit 101008000012) (nat_lit 0) (nat_lit 0) (nat_lit 0) (.call1 (nat_lit 2) (nat_lit 101016000021) (.bin .Add (.con (.int 1) (nat_lit 101022000023)) (.callF (nat_lit 0) (nat_lit 101026000035) (.cons (.loc (nat_lit 0) (nat_lit 101036000042)) (.cons (.con (.int 3) (nat_lit 101044000045)) .nil)) (nat_lit 101026000046)) (nat_lit 101022000046)) (nat_lit 101016000047)) (.newl (nat_lit 3) (nat_lit 102008000013) (nat_lit 102016000018) (nat_lit 102008000018) (.forT [(nat_lit 4)] (nat_lit 103012000016) (nat_lit 0) (nat_lit 0) (nat_lit 0) (.call1 (nat_lit 2) (nat_lit 103020000025) (.bin .Add (.con (.int 2) (nat_lit 103026000027)) (.callF (nat_lit 0) (nat_lit 103030000039) (.cons (.loc (nat_lit 0) (nat_lit 103040000046)) (.cons (.con (.int 4) (nat_lit 103048000049)) .nil)) (nat_lit 103030000050)) (nat_lit 103026000050)) (nat_lit 103020000051)) (.set (nat_lit 5) (nat_lit 104012000017) (.disp true (.cons (.bin .Sub (.callF (nat_lit 0) (nat_lit 104021000030) (.cons (.loc (nat_lit 0) (nat_lit 104031000037)) (.cons (.con (.int 17) (nat_lit 104039000041)) .nil)) (nat_lit 104021000042)) (.con (.int 8) (nat_lit 104045000046)) (nat_lit 104021000046)) (.cons (.bin .Sub (.callF (nat_lit 0) (nat_lit 104048000057) (.cons (.loc (nat_lit 0) (nat_lit 104058000064)) (.cons (.con (.int 9) (nat_lit 104066000067)) .nil)) (nat_lit 104048000068)) (.con (.int 4) (nat_lit 104071000072)) (nat_lit 104048000072)) .nil)) (nat_lit 0) (nat_lit 104020000073)) (nat_lit 104012000073) (.app (nat_lit 3) (nat_lit 105012000017) (nat_lit 105012000024) (.callF (nat_lit 1) (nat_lit 105025000033) (.cons (.loc (nat_lit 0) (nat_lit 105034000040)) (.cons (.cat (.disp false (.cons (.loc (nat_lit 5) (nat_lit 105043000048)) (.cons (.loc (nat_lit 5) (nat_lit 105050000055)) (.cons (.loc (nat_lit 5) (nat_lit 105057000062)) .nil))) (nat_lit 0) (nat_lit 105042000063)) (.last1 (nat_lit 3) (nat_lit 105066000071) (nat_lit 105073000074) (nat_lit 105072000074) (nat_lit 105072000075) (nat_lit 105066000076)) (nat_lit 105042000076)) .nil)) (nat_lit 105025000077)) (nat_lit 105012000078) (nat_lit 105012000078) .done)) (nat_lit 103008002078) (.app (nat_lit 1) (nat_lit 106008000013) (nat_lit 106008000020) (.disp true (.cons (.loc (nat_lit 3) (nat_lit 106022000027)) (.cons (.cmp .Eq (.callF (nat_lit 0) (nat_lit 106029000038) (.cons (.loc (nat_lit 0) (nat_lit 106039000045)) (.cons (.con (.int 2) (nat_lit 106047000048)) .nil)) (nat_lit 106029000049)) (.con (.int 0) (nat_lit 106053000054)) (nat_lit 106029000054)) .nil)) (nat_lit 0) (nat_lit 106021000055)) (nat_lit 106008000056) (nat_lit 106008000056) .done))) (nat_lit 101004005056) (.ret (.loc (nat_lit 1) (nat_lit 107011000016)) (nat_lit 107004000016)))
noncomputable def g_law_contours : List GE := [⟨"_law_take", 179, true, false⟩, ⟨"_law_one", 186, true, false⟩]
theorem s_law_contours {w : World} {WT : Nat → List PV → (PV → Prop) → Prop} {kb ub : Nat} {W : List PV → (PV → Prop) → Prop} (go : GOk w WT g_law_contours kb ub) (hW : ∀ ps P, W ps P → ∃ x, ps = [x] ∧ wpS WT c_law_contours [x, .unb, .unb, .unb, .unb, .unb] (fun _ => P .none) P) : FSpec w 193 true (kb + 1) (ub + 80) W := by
  refine' fd_entry (c := c_law_contours) (names := (["source"] : List Str)) (cns := ([] : List Str)) (ls := (["source", "found", "turn", "spots", "step", "fresh"] : List Str)) go ?ho ?hcd ?hbody ?hck ?hlk ?hcn ?hb ?hW
  case hW =>
    intro ps P h
    obtain ⟨x, rfl, hw⟩ := hW ps P h
    have e : (["source", "found", "turn", "spots", "step", "fresh"] : List Str).map (valN (["source"] : List Str) [x]) = [x, .unb, .unb, .unb, .unb, .unb] := by kernel_rfl
    exact ⟨rfl, e.symm ▸ hw⟩
  case ho => k_is
  case hcd => k_is
  case hbody => kernel_rfl
  case hb => intro s vs h; obtain ⟨x, rfl⟩ := len_one h; exact BindsTo.of_eq rfl
  case hck => decide +kernel
  case hlk => decide +kernel
  case hcn => exact fun _ => rfl
noncomputable def c_law_rows : CS := .newl (nat_lit 3) (nat_lit 109004000009) (nat_lit 109012000014) (nat_lit 109004000014) (.forT [(nat_lit 0),(nat_lit 4)] (nat_lit 110008000013) (nat_lit 110015000024) (nat_lit 0) (nat_lit 110008000024) (.loc (nat_lit 1) (nat_lit 110028000036)) (.setc (nat_lit 5) (nat_lit 111008000013) (.call1 (nat_lit 2) (nat_lit 111054000059) (.bin .Sub (.len (nat_lit 0) (nat_lit 111060000063) (nat_lit 111064000069) (nat_lit 111060000070)) (.con (.int 1) (nat_lit 111073000074)) (nat_lit 111060000074)) (nat_lit 111054000075)) ["at"] (nat_lit 111048000050) (nat_lit 0) (nat_lit 0) (nat_lit 0) [(nat_lit 0)] .nil (.disp true (.cons (.lidx (nat_lit 1) (nat_lit 111018000023) (.loc (nat_lit 0) (nat_lit 111024000026)) (nat_lit 111018000027)) (.cons (.lidx (nat_lit 1) (nat_lit 111029000034) (.bin .Add (.loc (nat_lit 0) (nat_lit 111035000037)) (.con (.int 1) (nat_lit 111040000041)) (nat_lit 111035000041)) (nat_lit 111029000042)) .nil)) (nat_lit 0) (nat_lit 111017000043)) ⟨.function, [(".0", .local),("at", .local),("spots", .free)], false, false, []⟩ (nat_lit 111016000076) (nat_lit 111008000076) (.ite (.bop true (.loc (nat_lit 2) (nat_lit 112011000021)) (.loc (nat_lit 4) (nat_lit 112025000034)) (nat_lit 112011000034)) (.app (nat_lit 5) (nat_lit 113012000017) (nat_lit 113012000024) (.disp true (.cons (.lidx (nat_lit 0) (nat_lit 113026000031) (.neg (.con (.int 1) (nat_lit 113033000034)) (nat_lit 113032000034)) (nat_lit 113026000035)) (.cons (.lidx (nat_lit 0) (nat_lit 113037000042) (.con (.int 0) (nat_lit 113043000044)) (nat_lit 113037000045)) .nil)) (nat_lit 0) (nat_lit 113025000046)) (nat_lit 113012000047) (nat_lit 113012000047) .done) .done (nat_lit 112008001047) (.forT [(nat_lit 6),(nat_lit 7)] (nat_lit 114012000015) (nat_lit 114017000022) (nat_lit 0) (nat_lit 114012000022) (.loc (nat_lit 5) (nat_lit 114026000031)) (.ite (.cmp .Lt (.item (.loc (nat_lit 6) (nat_lit 115015000018)) (nat_lit 1) (nat_lit 115019000020) (nat_lit 115015000021)) (.item (.loc (nat_lit 7) (nat_lit 115024000029)) (nat_lit 1) (nat_lit 115030000031) (nat_lit 115024000032)) (nat_lit 115015000032)) (.app (nat_lit 3) (nat_lit 116016000021) (nat_lit 116016000028) (.cat (.cat (.loc (nat_lit 6) (nat_lit 116029000032)) (.loc (nat_lit 7) (nat_lit 116035000040)) (nat_lit 116029000040)) (.disp true (.cons (.con (.int 1) (nat_lit 116044000045)) .nil) (nat_lit 0) (nat_lit 116043000047)) (nat_lit 116029000047)) (nat_lit 116016000048) (nat_lit 116016000048) .done) .done (nat_lit 115012001048) (.ite (.cmp .Gt (.item (.loc (nat_lit 6) (nat_lit 117015000018)) (nat_lit 1) (nat_lit 117019000020) (nat_lit 117015000021)) (.item (.loc (nat_lit 7) (nat_lit 117024000029)) (nat_lit 1) (nat_lit 117030000031) (nat_lit 117024000032)) (nat_lit 117015000032)) (.app (nat_lit 3) (nat_lit 118016000021) (nat_lit 118016000028) (.cat (.cat (.loc (nat_lit 7) (nat_lit 118029000034)) (.loc (nat_lit 6) (nat_lit 118037000040)) (nat_lit 118029000040)) (.disp true (.cons (.neg (.con (.int 1) (nat_lit 118045000046)) (nat_lit 118044000046)) .nil) (nat_lit 0) (nat_lit 118043000048)) (nat_lit 118029000048)) (nat_lit 118016000049) (nat_lit 118016000049) .done) .done (nat_lit 117012001049) .done)) (nat_lit 114008004049) .done))) (nat_lit 110004008049) (.ret (.loc (nat_lit 3) (nat_lit 119011000016)) (nat_lit 119004000016)))
noncomputable def g_law_rows : List GE := []
theorem s_law_rows {w : World} {WT : Nat → List PV → (PV → Prop) → Prop} {kb ub : Nat} {W : List PV → (PV → Prop) → Prop} (go : GOk w WT g_law_rows kb ub) (hW : ∀ ps P, W ps P → ∃ x y, ps = [x, y] ∧ wpS WT c_law_rows [.unb, x, y, .unb, .unb, .unb, .unb, .unb] (fun _ => P .none) P) : FSpec w 198 false (kb + 1) (ub + 80) W := by
  refine' fd_entry (c := c_law_rows) (names := (["contours", "is_closing"] : List Str)) (cns := (["spots"] : List Str)) (ls := (["contours", "is_closing", "found", "is_closed", "pairs", "one", "other"] : List Str)) go ?ho ?hcd ?hbody ?hck ?hlk ?hcn ?hb ?hW
  case hW =>
    intro ps P h
    obtain ⟨x, y, rfl, hw⟩ := hW ps P h
    have e : (["spots", "contours", "is_closing", "found", "is_closed", "pairs", "one", "other"] : List Str).map (valN (["contours", "is_closing"] : List Str) [x, y]) = [.unb, x, y, .unb, .unb, .unb, .unb, .unb] := by kernel_rfl
    exact ⟨rfl, e.symm ▸ hw⟩
  case ho => k_is
  case hcd => k_is
  case hbody => kernel_rfl
  case hb => intro s vs h; obtain ⟨x, y, rfl⟩ := len_two h; exact BindsTo.of_eq rfl
  case hck => decide +kernel
  case hlk => decide +kernel
  case hcn => exact fun _ => rfl
noncomputable def c_law_place : CS := .set (nat_lit 2) (nat_lit 121004000008) (.bin .Sub (.item (.loc (nat_lit 0) (nat_lit 121011000014)) (nat_lit 3) (nat_lit 121015000016) (nat_lit 121011000017)) (.item (.loc (nat_lit 0) (nat_lit 121020000023)) (nat_lit 1) (nat_lit 121024000025) (nat_lit 121020000026)) (nat_lit 121011000026)) (nat_lit 121004000026) (.ret (.disp true (.cons (.bin .Add (.bin .Mult (.item (.loc (nat_lit 0) (nat_lit 122012000015)) (nat_lit 0) (nat_lit 122016000017) (nat_lit 122012000018)) (.loc (nat_lit 2) (nat_lit 122021000025)) (nat_lit 122012000025)) (.bin .Mult (.bin .Sub (.item (.loc (nat_lit 0) (nat_lit 122029000032)) (nat_lit 2) (nat_lit 122033000034) (nat_lit 122029000035)) (.item (.loc (nat_lit 0) (nat_lit 122038000041)) (nat_lit 0) (nat_lit 122042000043) (nat_lit 122038000044)) (nat_lit 122029000044)) (.bin .Sub (.loc (nat_lit 1) (nat_lit 122049000050)) (.item (.loc (nat_lit 0) (nat_lit 122053000056)) (nat_lit 1) (nat_lit 122057000058) (nat_lit 122053000059)) (nat_lit 122049000059)) (nat_lit 122028000060)) (nat_lit 122012000060)) (.cons (.loc (nat_lit 2) (nat_lit 122062000066)) .nil)) (nat_lit 0) (nat_lit 122011000067)) (nat_lit 122004000067))
noncomputable def g_law_place : List GE := []
theorem s_law_place {w : World} {WT : Nat → List PV → (PV → Prop) → Prop} {kb ub : Nat} {W : List PV → (PV → Prop) → Prop} (go : GOk w WT g_law_place kb ub) (hW : ∀ ps P, W ps P → ∃ x y, ps = [x, y] ∧ wpS WT c_law_place [x, y, .unb] (fun _ => P .none) P) : FSpec w 205 false (kb + 1) (ub + 80) W := by
  refine' fd_entry (c := c_law_place) (names := (["row", "y"] : List Str)) (cns := ([] : List Str)) (ls := (["row", "y", "high"] : List Str)) go ?ho ?hcd ?hbody ?hck ?hlk ?hcn ?hb ?hW
  case hW =>
    intro ps P h
    obtain ⟨x, y, rfl, hw⟩ := hW ps P h
    have e : (["row", "y", "high"] : List Str).map (valN (["row", "y"] : List Str) [x, y]) = [x, y, .unb] := by kernel_rfl
    exact ⟨rfl, e.symm ▸ hw⟩
  case ho => k_is
  case hcd => k_is
  case hbody => kernel_rfl
  case hb => intro s vs h; obtain ⟨x, y, rfl⟩ := len_two h; exact BindsTo.of_eq rfl
  case hck => decide +kernel
  case hlk => decide +kernel
  case hcn => exact fun _ => rfl
noncomputable def c_law_crossed : CS := .set2 false (nat_lit 1) (nat_lit 124004000008) (nat_lit 0) (nat_lit 124010000016) (nat_lit 0) (nat_lit 124004000016) (.comp (.loc (nat_lit 3) (nat_lit 124036000040)) ["row"] (nat_lit 124029000032) (nat_lit 0) (nat_lit 0) (nat_lit 0) [(nat_lit 2)] (.chain (.item (.loc (nat_lit 0) (nat_lit 124044000047)) (nat_lit 1) (nat_lit 124048000049) (nat_lit 124044000050)) (.loc (nat_lit 1) (nat_lit 124054000055)) (.item (.loc (nat_lit 0) (nat_lit 124058000061)) (nat_lit 3) (nat_lit 124062000063) (nat_lit 124058000064)) (nat_lit 124044000064)) (.loc (nat_lit 0) (nat_lit 124021000024)) ⟨.function, [(".0", .local),("row", .local),("y", .free)], false, false, []⟩ (nat_lit 124020000065)) (.con (.int 1) (nat_lit 124067000068)) (nat_lit 0) (nat_lit 124019000069) (nat_lit 124004000069) (.forT [(nat_lit 4)] (nat_lit 125008000011) (nat_lit 0) (nat_lit 0) (nat_lit 0) (.loc (nat_lit 1) (nat_lit 125015000019)) (.set (nat_lit 0) (nat_lit 126008000014) (.bin .Mult (.loc (nat_lit 0) (nat_lit 126017000023)) (.bin .Sub (.item (.loc (nat_lit 4) (nat_lit 126027000030)) (nat_lit 3) (nat_lit 126031000032) (nat_lit 126027000033)) (.item (.loc (nat_lit 4) (nat_lit 126036000039)) (nat_lit 1) (nat_lit 126040000041) (nat_lit 126036000042)) (nat_lit 126027000042)) (nat_lit 126017000043)) (nat_lit 126008000043) .done) (nat_lit 125004001043) (.setc (nat_lit 5) (nat_lit 127004000010) (.call1 (nat_lit 3) (nat_lit 127093000102) (.loc (nat_lit 1) (nat_lit 127103000107)) (nat_lit 127093000108)) ["at","row"] (nat_lit 127082000084) (nat_lit 127086000089) (nat_lit 0) (nat_lit 127082000089) [(nat_lit 0),(nat_lit 2)] .nil (.disp true (.cons (.bin .Mult (.item (.callF (nat_lit 0) (nat_lit 127015000025) (.cons (.loc (nat_lit 1) (nat_lit 127026000029)) (.cons (.loc (nat_lit 3) (nat_lit 127031000032)) .nil)) (nat_lit 127015000033)) (nat_lit 0) (nat_lit 127034000035) (nat_lit 127015000036)) (.bin .FloorDiv (.loc (nat_lit 2) (nat_lit 127040000046)) (.item (.callF (nat_lit 0) (nat_lit 127050000060) (.cons (.loc (nat_lit 1) (nat_lit 127061000064)) (.cons (.loc (nat_lit 3) (nat_lit 127066000067)) .nil)) (nat_lit 127050000068)) (nat_lit 1) (nat_lit 127069000070) (nat_lit 127050000071)) (nat_lit 127040000071)) (nat_lit 127015000072)) (.cons (.loc (nat_lit 0) (nat_lit 127074000076)) .nil)) (nat_lit 0) (nat_lit 127014000077)) ⟨.function, [(".0", .local),("at", .local),("row", .local),("_law_place", .globalImplicit),("bottom", .free),("y", .free)], false, false, []⟩ (nat_lit 127013000109) (nat_lit 127004000109) (.ret (.comp (.call1 (nat_lit 1) (nat_lit 128068000074) (.loc (nat_lit 5) (nat_lit 128075000081)) (nat_lit 128068000082)) ["place","at"] (nat_lit 128055000060) (nat_lit 128062000064) (nat_lit 0) (nat_lit 128055000064) [(nat_lit 1),(nat_lit 2)] .nil (.disp true (.cons (.callF (nat_lit 0) (nat_lit 128013000023) (.cons (.lidx (nat_lit 2) (nat_lit 128024000028) (.loc (nat_lit 1) (nat_lit 128029000031)) (nat_lit 128024000032)) (.cons (.loc (nat_lit 3) (nat_lit 128034000035)) .nil)) (nat_lit 128013000036)) (.cons (.item (.lidx (nat_lit 2) (nat_lit 128038000042) (.loc (nat_lit 1) (nat_lit 128043000045)) (nat_lit 128038000046)) (nat_lit 4) (nat_lit 128047000048) (nat_lit 128038000049)) .nil)) (nat_lit 0) (nat_lit 128012000050)) ⟨.function, [(".0", .local),("place", .local),("at", .local),("_law_place", .globalImplicit),("some", .free),("y", .free)], false, false, []⟩ (nat_lit 128011000083)) (nat_lit 128004000083))))
noncomputable def g_law_crossed : List GE := [⟨"_law_place", 205, false, false⟩]
theorem s_law_crossed {w : World} {WT : Nat → List PV → (PV → Prop) → Prop} {kb ub : Nat} {W : List PV → (PV → Prop) → Prop} (go : GOk w WT g_law_crossed kb ub) (hW : ∀ ps P, W ps P → ∃ x y, ps = [x, y] ∧ wpS WT c_law_crossed [.unb, .unb, y, x, .unb, .unb] (fun _ => P .none) P) : FSpec w 210 false (kb + 1) (ub + 80) W := by
  refine' fd_entry (c := c_law_crossed) (names := (["rows", "y"] : List Str)) (cns := (["bottom", "some", "y"] : List Str)) (ls := (["rows", "row", "places"] : List Str)) go ?ho ?hcd ?hbody ?hck ?hlk ?hcn ?hb ?hW
  case hW =>
    intro ps P h
    obtain ⟨x, y, rfl, hw⟩ := hW ps P h
    have e : (["bottom", "some", "y", "rows", "row", "places"] : List Str).map (valN (["rows", "y"] : List Str) [x, y]) = [.unb, .unb, y, x, .unb, .unb] := by kernel_rfl
    exact ⟨rfl, e.symm ▸ hw⟩
  case ho => k_is
  case hcd => k_is
  case hbody => kernel_rfl
  case hb => intro s vs h; obtain ⟨x, y, rfl⟩ := len_two h; exact BindsTo.of_eq rfl
  case hck => decide +kernel
  case hlk => decide +kernel
  case hcn => exact fun _ => rfl
noncomputable def c_law_row_right : CS := .set (nat_lit 5) (nat_lit 130004000007) (.callF (nat_lit 0) (nat_lit 130010000022) (.cons (.loc (nat_lit 3) (nat_lit 130023000027)) (.cons (.loc (nat_lit 4) (nat_lit 130029000030)) .nil)) (nat_lit 130010000031)) (nat_lit 130004000031) (.ite (.cmpL true (.callF (nat_lit 1) (nat_lit 131007000016) (.cons (.loc (nat_lit 2) (nat_lit 131017000022)) (.cons (.loc (nat_lit 4) (nat_lit 131024000025)) .nil)) (nat_lit 131007000026)) (.loc (nat_lit 5) (nat_lit 131030000033)) (nat_lit 131007000033)) (.ret (.con (.bool false) (nat_lit 132015000020)) (nat_lit 132008000020)) .done (nat_lit 131004001020) (.forT [(nat_lit 0)] (nat_lit 133008000009) (nat_lit 0) (nat_lit 0) (nat_lit 0) (.disp false (.cons (.bin .Sub (.callF (nat_lit 2) (nat_lit 133014000023) (.cons (.loc (nat_lit 1) (nat_lit 133024000030)) (.cons (.con (.int 19) (nat_lit 133032000034)) .nil)) (nat_lit 133014000035)) (.con (.int 9) (nat_lit 133038000039)) (nat_lit 133014000039)) (.cons (.con (.int 9) (nat_lit 133041000042)) .nil)) (nat_lit 0) (nat_lit 133013000043)) (.setc (nat_lit 6) (nat_lit 134008000012) (.loc (nat_lit 5) (nat_lit 134038000041)) ["place","way"] (nat_lit 134024000029) (nat_lit 134031000034) (nat_lit 0) (nat_lit 134024000034) [(nat_lit 0)] (.cmp .LtE (.item (.loc (nat_lit 0) (nat_lit 134045000050)) (nat_lit 0) (nat_lit 134051000052) (nat_lit 134045000053)) (.bin .Mult (.loc (nat_lit 2) (nat_lit 134057000058)) (.item (.loc (nat_lit 0) (nat_lit 134061000066)) (nat_lit 1) (nat_lit 134067000068) (nat_lit 134061000069)) (nat_lit 134057000069)) (nat_lit 134045000069)) (.loc (nat_lit 1) (nat_lit 134016000019)) ⟨.function, [(".0", .local),("place", .local),("way", .local),("x", .free)], false, false, []⟩ (nat_lit 134015000070) (nat_lit 134008000070) (.ite (.cmp .NotEq (.callF (nat_lit 3) (nat_lit 135011000021) (.cons (.loc (nat_lit 2) (nat_lit 135022000027)) (.cons (.loc (nat_lit 0) (nat_lit 135029000030)) (.cons (.loc (nat_lit 4) (nat_lit 135032000033)) .nil))) (nat_lit 135011000034)) (.call1 (nat_lit 0) (nat_lit 135038000041) (.loc (nat_lit 6) (nat_lit 135042000046)) (nat_lit 135038000047)) (nat_lit 135011000047)) (.ret (.con (.bool false) (nat_lit 136019000024)) (nat_lit 136012000024)) .done (nat_lit 135008001024) .done)) (nat_lit 133004003024) (.ret (.con (.bool true) (nat_lit 137011000015)) (nat_lit 137004000015))))
noncomputable def g_law_row_right : List GE := [⟨"_law_crossed", 210, false, false⟩, ⟨"crossings", 61, false, false⟩, ⟨"_law_take", 179, true, false⟩, ⟨"winding_at", 75, false, false⟩]
theorem s_law_row_right {w : World} {WT : Nat → List PV → (PV → Prop) → Prop} {kb ub : Nat} {W : List PV → (PV → Prop) → Prop} (go : GOk w WT g_law_row_right kb ub) (hW : ∀ ps P, W ps P → ∃ x y z u, ps = [x, y, z, u] ∧ wpS WT c_law_row_right [.unb, x, y, z, u, .unb, .unb] (fun _ => P .none) P) : FSpec w 215 true (kb + 1) (ub + 80) W := by
  refine' fd_entry (c := c_law_row_right) (names := (["source", "sides", "rows", "y"] : List Str)) (cns := (["x"] : List Str)) (ls := (["source", "sides", "rows", "y", "due", "ways"] : List Str)) go ?ho ?hcd ?hbody ?hck ?hlk ?hcn ?hb ?hW
  case hW =>
    intro ps P h
    obtain ⟨x, y, z, u, rfl, hw⟩ := hW ps P h
    have e : (["x", "source", "sides", "rows", "y", "due", "ways"] : List Str).map (valN (["source", "sides", "rows", "y"] : List Str) [x, y, z, u]) = [.unb, x, y, z, u, .unb, .unb] := by kernel_rfl
    exact ⟨rfl, e.symm ▸ hw⟩
  case ho => k_is
  case hcd => k_is
  case hbody => kernel_rfl
  case hb => intro s vs h; obtain ⟨x, y, z, u, rfl⟩ := len_four h; exact BindsTo.of_eq rfl
  case hck => decide +kernel
  case hlk => decide +kernel
  case hcn => exact fun _ => rfl
noncomputable def c_law_between_right : CS := .set (nat_lit 1) (nat_lit 139004000007) (.bin .Sub (.callF (nat_lit 0) (nat_lit 139010000019) (.cons (.loc (nat_lit 2) (nat_lit 139020000026)) (.cons (.con (.int 11) (nat_lit 139028000030)) .nil)) (nat_lit 139010000031)) (.con (.int 6) (nat_lit 139034000035)) (nat_lit 139010000035)) (nat_lit 139004000035) (.set (nat_lit 0) (nat_lit 140004000008) (.bin .Add (.bin .Add (.loc (nat_lit 1) (nat_lit 140011000014)) (.con (.int 1) (nat_lit 140017000018)) (nat_lit 140011000018)) (.callF (nat_lit 0) (nat_lit 140021000030) (.cons (.loc (nat_lit 2) (nat_lit 140031000037)) (.cons (.con (.int 6) (nat_lit 140039000040)) .nil)) (nat_lit 140021000041)) (nat_lit 140011000041)) (nat_lit 140004000041) (.setc (nat_lit 4) (nat_lit 141004000007) (.loc (nat_lit 3) (nat_lit 141034000039)) ["side"] (nat_lit 141026000030) (nat_lit 0) (nat_lit 0) (nat_lit 0) [(nat_lit 0),(nat_lit 1)] (.cmpL true (.comp (.range2 (nat_lit 141055000060) (.loc (nat_lit 2) (nat_lit 141061000064)) (.loc (nat_lit 1) (nat_lit 141066000070)) (nat_lit 141055000071)) ["y"] (nat_lit 141050000051) (nat_lit 0) (nat_lit 0) (nat_lit 0) [(nat_lit 0)] (.callM (nat_lit 1) (nat_lit 1) (nat_lit 141075000079) (nat_lit 141075000086) (.cons (.loc (nat_lit 0) (nat_lit 141087000088)) .nil) (nat_lit 141075000089)) (.loc (nat_lit 0) (nat_lit 141044000045)) ⟨.function, [(".0", .local),("y", .local),("side", .free)], false, false, []⟩ (nat_lit 141043000090)) (.disp false .nil (nat_lit 0) (nat_lit 141094000096)) (nat_lit 141043000096)) (.callM (nat_lit 2) (nat_lit 0) (nat_lit 141011000015) (nat_lit 141011000019) .nil (nat_lit 141011000021)) ⟨.function, [(".0", .local),("side", .cell),("range", .globalImplicit),("high", .free),("low", .free)], false, false, []⟩ (nat_lit 141010000097) (nat_lit 141004000097) (.ret (.cmpL false (.comp (.callF (nat_lit 3) (nat_lit 142035000048) (.cons (.loc (nat_lit 3) (nat_lit 142049000054)) (.cons (.loc (nat_lit 1) (nat_lit 142056000059)) (.cons (.loc (nat_lit 0) (nat_lit 142061000065)) .nil))) (nat_lit 142035000066)) ["side"] (nat_lit 142027000031) (nat_lit 0) (nat_lit 0) (nat_lit 0) [] .nil (.callM (nat_lit 2) (nat_lit 0) (nat_lit 142012000016) (nat_lit 142012000020) .nil (nat_lit 142012000022)) ⟨.function, [(".0", .local),("side", .local)], false, false, []⟩ (nat_lit 142011000067)) (.loc (nat_lit 4) (nat_lit 142071000074)) (nat_lit 142011000074)) (nat_lit 142004000074))))
noncomputable def g_law_between_right : List GE := [⟨"_law_take", 179, true, false⟩, ⟨"covers", 124, false, true⟩, ⟨"row", 117, false, true⟩, ⟨"sides_between", 165, false, false⟩]
theorem s_law_between_right {w : World} {WT : Nat → List PV → (PV → Prop) → Prop} {kb ub : Nat} {W : List PV → (PV → Prop) → Prop} (go : GOk w WT g_law_between_right kb ub) (hW : ∀ ps P, W ps P → ∃ x y, ps = [x, y] ∧ wpS WT c_law_between_right [.unb, .unb, x, y, .unb] (fun _ => P .none) P) : FSpec w 220 true (kb + 1) (ub + 80) W := by
  refine' fd_entry (c := c_law_between_right) (names := (["source", "sides"] : List Str)) (cns := (["high", "low"] : List Str)) (ls := (["source", "sides", "due"] : List Str)) go ?ho ?hcd ?hbody ?hck ?hlk ?hcn ?hb ?hW
  case hW =>
    intro ps P h
    obtain ⟨x, y, rfl, hw⟩ := hW ps P h
    have e : (["high", "low", "source", "sides", "due"] : List Str).map (valN (["source", "sides"] : List Str) [x, y]) = [.unb, .unb, x, y, .unb] := by kernel_rfl
    exact ⟨rfl, e.symm ▸ hw⟩
  case ho => k_is
  case hcd => k_is
  case hbody => kernel_rfl
  case hb => intro s vs h; obtain ⟨x, y, rfl⟩ := len_two h; exact BindsTo.of_eq rfl
  case hck => decide +kernel
  case hlk => decide +kernel
  case hcn => exact fun _ => rfl

end --D1
section --W1
/-! what the defs do, over pure values -/
noncomputable def noT : Nat → List PV → (PV → Prop) → Prop := fun _ _ _ => False
theorem go_nil {w : World} {kb ub : Nat} : GOk w noT [] kb ub := fun k g h => nomatch h
noncomputable def crV (c : Cr) : PV := .tup [.tup [.int c.num, .int c.den], .int c.way]
noncomputable def ptV (p : Int × Int) : PV := .tup [.int p.1, .int p.2]
noncomputable def rowV (r : Row) : PV := .tup [.int r.x1, .int r.y1, .int r.x2, .int r.y2, .int r.way]
/-- a number that a machine word holds -/
noncomputable def Sm (x : Int) : Prop := -1000000 ≤ x ∧ x ≤ 1000000
theorem Sm.mul {x y : Int} (h : Sm x) : MulOk x y := .inl ⟨by unfold Sm at h; omega, by unfold Sm at h; omega⟩
noncomputable def W_behind (ps : List PV) (P : PV → Prop) : Prop := ∃ c d : Cr, ps = [crV c, crV d] ∧ (Sm c.num ∧ Sm d.num) ∧ P (.bool (behind c d))
theorem f_behind {w : World} : FSpec w 54 false 1 80 W_behind := s_comes_behind (WT := noT) (kb := 0) (ub := 0) go_nil fun ps P ⟨c, d, e, hb, hp⟩ => ⟨_, _, e, hb.1.mul, hb.2.mul, hp⟩
theorem le100 {n : Nat} (h : Nat.ble n 100 = true) : n ≤ 100 := Nat.le_of_ble_eq_true h
noncomputable def W_row (ps : List PV) (P : PV → Prop) : Prop := ∃ r : Row, ps = [.side r] ∧ P (rowV r)
theorem f_row {w : World} : FSpec w 117 false 1 80 W_row := s_row (WT := noT) (kb := 0) (ub := 0) go_nil fun ps P ⟨r, e, hp⟩ => ⟨_, e, le100 rfl, hp⟩
noncomputable def W_covers (ps : List PV) (P : PV → Prop) : Prop := ∃ (r : Row) (y : Int), ps = [.side r, .int y] ∧ P (.bool (r.on y))
theorem chain_on {a b c : Int} {P : PV → Prop} (h : P (.bool (decide (a ≤ b ∧ b < c)))) : if a ≤ b then P (.bool (decide (b < c))) else P (.bool false) := by
  by_cases e : a ≤ b
  · rw [if_pos e]
    rwa [show decide (b < c) = decide (a ≤ b ∧ b < c) from decide_eq_decide.mpr ⟨fun h => ⟨e, h⟩, (·.2)⟩]
  · rw [if_neg e]
    rwa [decide_eq_false fun h => e h.1] at h
theorem f_covers {w : World} : FSpec w 124 false 1 80 W_covers := s_covers (WT := noT) (kb := 0) (ub := 0) go_nil fun ps P ⟨r, y, e, hp⟩ => ⟨_, _, e, chain_on (P := P) hp⟩
/-- a row of small numbers -/
noncomputable def SmR (r : Row) : Prop := Sm r.x1 ∧ Sm (r.x2 - r.x1)
noncomputable def W_placeAt (ps : List PV) (P : PV → Prop) : Prop := ∃ (r : Row) (y : Int), ps = [.side r, .int y] ∧ SmR r ∧ P (.tup [.int (r.num y), .int r.den])
theorem f_placeAt {w : World} : FSpec w 131 false 1 80 W_placeAt := s_place_at (WT := noT) (kb := 0) (ub := 0) go_nil fun ps P ⟨r, y, e, hr, hp⟩ => ⟨_, _, e, hr.1.mul, hr.2.mul, le100 rfl, hp⟩
noncomputable def W_lawPlace (ps : List PV) (P : PV → Prop) : Prop := ∃ (r : Row) (y : Int), ps = [rowV r, .int y] ∧ SmR r ∧ P (.tup [.int (r.num y), .int r.den])
theorem f_lawPlace {w : World} : FSpec w 205 false 1 80 W_lawPlace := s_law_place (WT := noT) (kb := 0) (ub := 0) go_nil fun ps P ⟨r, y, e, hr, hp⟩ => ⟨_, _, e, hr.1.mul, hr.2.mul, le100 rfl, hp⟩

end --W1
section --W2
/-! the table of the defs that a text calls -/
abbrev WF := List PV → (PV → Prop) → Prop
noncomputable def wt (l : List WF) (k : Nat) : WF := l.getD k fun _ _ => False
section
variable {w : World} {kb ub : Nat} {W : WF} {Ws : List WF} {G : List GE} {g : GE}
noncomputable def One (w : World) (W : WF) (kb ub : Nat) (g : GE) : Prop :=
  (g.nm == ("__debug__" : Str)) = false ∧ (g.meth = false → nsIn (hd.heap_1 w.params) mainGlobals g.nm = some (some (.ref g.fa))) ∧
    (g.meth = true → (plainGet (hd.heap_1 w.params) 134 g.nm = true ∧ findIn (hd.heap_1 w.params) (.ref 134) g.nm = some (some (.ref g.fa)) ∧ isFn (hd.heap_1 w.params) (.ref g.fa) = true) ∧ (∀ j, (attrN j == g.nm) = false)) ∧
    keepIn (hd.heap_1 w.params) (.ref g.fa) = true ∧ FSpec w g.fa g.own kb ub W
theorem gok_nil : GOk w (wt []) [] kb ub := fun _ _ h => nomatch h
theorem gok_cons (h : One w W kb ub g) (r : GOk w (wt Ws) G kb ub) : GOk w (wt (W :: Ws)) (g :: G) kb ub
  | 0, _, rfl => h
  | k + 1, g', e => r k g' e
theorem oneF {nm : Str} {fa : Addr} {own : Bool} {k u : Nat} (h : FSpec w fa own k u W) (hk : k ≤ kb) (hu : u ≤ ub) (hd' : (nm == ("__debug__" : Str)) = false) (hn : nsIn (hd.heap_1 w.params) mainGlobals nm = some (some (.ref fa))) (kp : keepIn (hd.heap_1 w.params) (.ref fa) = true) : One w W kb ub ⟨nm, fa, own, false⟩ :=
  ⟨hd', fun _ => hn, (fun h => nomatch h), kp, h.up hk hu⟩
theorem oneM {nm : Str} {fa : Addr} {own : Bool} {k u : Nat} (h : FSpec w fa own k u W) (hk : k ≤ kb) (hu : u ≤ ub) (hd' : (nm == ("__debug__" : Str)) = false) (h1 : plainGet (hd.heap_1 w.params) 134 nm = true) (h2 : findIn (hd.heap_1 w.params) (.ref 134) nm = some (some (.ref fa))) (h3 : isFn (hd.heap_1 w.params) (.ref fa) = true)
    (ha : ∀ j, (attrN j == nm) = false) (kp : keepIn (hd.heap_1 w.params) (.ref fa) = true) : One w W kb ub ⟨nm, fa, own, true⟩ :=
  ⟨hd', (fun h => nomatch h), fun _ => ⟨⟨h1, h2, h3⟩, ha⟩, kp, h.up hk hu⟩
theorem attr_all {nm : Str} (h : ((attrN 0 == nm || (attrN 1 == nm || (attrN 2 == nm || attrN 3 == nm))) || attrN 4 == nm) = false) : ∀ j, (attrN j == nm) = false := by
  have h1 := Bool.or_eq_false_iff.mp h
  have h2 := Bool.or_eq_false_iff.mp h1.1
  have h3 := Bool.or_eq_false_iff.mp h2.2
  have h4 := Bool.or_eq_false_iff.mp h3.2
  intro j
  match j with
  | 0 => exact h2.1
  | 1 => exact h3.1
  | 2 => exact h4.1
  | 3 => exact h4.2
  | j + 4 => exact h1.2
variable (w)
theorem n_behind : nsIn (hd.heap_1 w.params) mainGlobals "comes_behind" = some (some (.ref 54)) ∧ keepIn (hd.heap_1 w.params) (.ref 54) = true := by constructor <;> k_is
theorem n_side : nsIn (hd.heap_1 w.params) mainGlobals "Side" = some (some (.ref 134)) ∧ keepIn (hd.heap_1 w.params) (.ref 134) = true := by constructor <;> k_is
theorem n_lawPlace : nsIn (hd.heap_1 w.params) mainGlobals "_law_place" = some (some (.ref 205)) ∧ keepIn (hd.heap_1 w.params) (.ref 205) = true := by constructor <;> k_is
theorem n_crossings : nsIn (hd.heap_1 w.params) mainGlobals "crossings" = some (some (.ref 61)) ∧ keepIn (hd.heap_1 w.params) (.ref 61) = true := by constructor <;> k_is
theorem m_covers : (plainGet (hd.heap_1 w.params) 134 "covers" = true ∧ findIn (hd.heap_1 w.params) (.ref 134) "covers" = some (some (.ref 124)) ∧ isFn (hd.heap_1 w.params) (.ref 124) = true) ∧ keepIn (hd.heap_1 w.params) (.ref 124) = true := by refine ⟨⟨?_, ?_, ?_⟩, ?_⟩ <;> k_is
theorem m_placeAt : (plainGet (hd.heap_1 w.params) 134 "place_at" = true ∧ findIn (hd.heap_1 w.params) (.ref 134) "place_at" = some (some (.ref 131)) ∧ isFn (hd.heap_1 w.params) (.ref 131) = true) ∧ keepIn (hd.heap_1 w.params) (.ref 131) = true := by refine ⟨⟨?_, ?_, ?_⟩, ?_⟩ <;> k_is
theorem m_row : (plainGet (hd.heap_1 w.params) 134 "row" = true ∧ findIn (hd.heap_1 w.params) (.ref 134) "row" = some (some (.ref 117)) ∧ isFn (hd.heap_1 w.params) (.ref 117) = true) ∧ keepIn (hd.heap_1 w.params) (.ref 117) = true := by refine ⟨⟨?_, ?_, ?_⟩, ?_⟩ <;> k_is
end

end --W2
section --W3
theorem forL_inv {α : Type} {f : α → PV} {turn : PV → List PV → (List PV → Prop) → Prop} (Inv : List α → List PV → Prop) {K : List PV → Prop} (step : ∀ a r l (k : List PV → Prop), Inv (a :: r) l → (∀ l', Inv r l' → k l') → turn (f a) l k) (fin : ∀ l, Inv [] l → K l) : ∀ xs l, Inv xs l → forL turn (xs.map f) l K
  | [], l, h => fin l h
  | a :: r, l, h => step a r l _ h fun l' h' => forL_inv Inv step fin r l' h'
/-- what a crossing's numbers are -/
noncomputable def CrOk (y : Int) (r : Row) : Prop := SmR r ∧ Sm (r.num y)
noncomputable def W_cross (ps : List PV) (P : PV → Prop) : Prop := ∃ (rs : List Row) (y : Int), ps = [.lst (rs.map .side), .int y] ∧ ((∀ r ∈ rs, CrOk y r) ∧ rs.length ≤ 100) ∧ P (.lst ((crossL y rs).map crV))
theorem ins_le (acc : List Cr) (c : Cr) : ∀ n, insPos acc c n ≤ n
  | 0 => Nat.le_refl _
  | n + 1 => by
    unfold insPos
    split
    · exact Nat.le_succ_of_le (ins_le acc c n)
    · exact Nat.le_refl _
theorem cross_turn {rs : List Row} {y : Int} {acc : List Cr} {r : Row} {a b c : PV} {k : List PV → Prop} {R : PV → Prop} (hr : CrOk y r) (ha : ∀ c ∈ acc, Sm c.num) (hz : acc.length ≤ 100)
    (hk : ∀ a b c, k [.lst (rs.map .side), .int y, .acc ((crStep y acc r).map crV), a, b, c]) :
    tgtL [3] (.side r) [.lst (rs.map .side), .int y, .acc (acc.map crV), a, b, c] fun l => wpS (wt [W_covers, W_placeAt, W_behind]) (match c_crossings with | .newl _ _ _ _ (.forT _ _ _ _ _ _ body _ _) => body | _ => .done) l k R := by
  refine ⟨r, y, rfl, ?_⟩
  by_cases on : r.on y = true
  · show if r.on y = true then _ else _
    rw [if_pos on]
    refine ⟨r, y, rfl, hr.1, le100 rfl, ?_⟩
    have e : crStep y acc r = insCr acc (r.cr y) := by unfold crStep; rw [if_pos on]
    rw [e] at hk
    have hz1 : (acc.map crV).length ≤ 1000 := by rw [List.length_map]; omega
    have out : ∀ n : Nat, n ≤ acc.length → insPos acc (r.cr y) acc.length = n → ∀ i : Int, i = n → ((acc.map crV).length ≤ 1000 ∧ 0 ≤ i ∧ i ≤ ((acc.map crV).length : Int)) ∧ k [.lst (rs.map .side), .int y, .acc ((acc.map crV).take i.toNat ++ crV (r.cr y) :: (acc.map crV).drop i.toNat), .side r, crV (r.cr y), .int i] := fun n hn hp i hi => by
      subst hi
      refine ⟨⟨hz1, Int.natCast_nonneg n, by rw [List.length_map]; exact Int.ofNat_le.mpr hn⟩, ?_⟩
      have e2 : (acc.map crV).take (n : Int).toNat ++ crV (r.cr y) :: (acc.map crV).drop (n : Int).toNat = (insCr acc (r.cr y)).map crV := by
        unfold insCr
        rw [hp, Int.toNat_natCast, List.map_append, List.map_cons, List.map_take, List.map_drop]
      rw [e2]
      exact hk _ _ _
    refine ⟨hz1, fun n l => ∃ i : Int, l = [.lst (rs.map .side), .int y, .acc (acc.map crV), .side r, crV (r.cr y), .int i] ∧ i = n ∧ n ≤ acc.length ∧ insPos acc (r.cr y) n = insPos acc (r.cr y) acc.length, ⟨acc.length, _, rfl, by rw [List.length_map], Nat.le_refl _, rfl⟩, ?_⟩
    rintro n l ⟨i, rfl, hi, hn, hp⟩
    show if decide (0 < i) = false then _ else _
    cases n with
    | zero =>
      rw [if_pos (by rw [hi]; rfl)]
      exact out 0 hn hp.symm i hi
    | succ n =>
      rw [if_neg (by rw [hi]; exact fun h => absurd (of_decide_eq_false h) (by omega))]
      have hn' : n < acc.length := hn
      refine ⟨hz1, crV acc[n], .inl ⟨by omega, ?_⟩, acc[n], r.cr y, rfl, ⟨ha _ (List.getElem_mem _), hr.2⟩, ?_⟩
      · rw [show (i - 1).toNat = n by omega, List.getElem?_map, List.getElem?_eq_getElem hn']
        rfl
      have ei : insPos acc (r.cr y) (n + 1) = if behind acc[n] (r.cr y) = true then insPos acc (r.cr y) n else n + 1 := by
        show (if (acc[n]?).any (fun d => behind d (r.cr y)) = true then _ else _) = _
        rw [List.getElem?_eq_getElem hn']
        rfl
      rw [ei] at hp
      show if behind acc[n] (r.cr y) = true then ∃ m, m < n + 1 ∧ ∃ j : Int, _ ∧ _ else _
      by_cases hb : behind acc[n] (r.cr y) = true
      · rw [if_pos hb] at hp ⊢
        exact ⟨n, Nat.lt_succ_self n, i - 1, rfl, by omega, Nat.le_of_lt hn', hp⟩
      · rw [if_neg hb] at hp ⊢
        exact out (n + 1) hn hp.symm i hi
  · show if r.on y = true then _ else k _
    rw [if_neg on]
    have e : crStep y acc r = acc := by unfold crStep; rw [if_neg on]
    rw [e] at hk
    exact hk _ _ _
theorem cr_num {y : Int} {acc : List Cr} {r : Row} (hr : CrOk y r) (ha : ∀ c ∈ acc, Sm c.num) : ∀ c ∈ crStep y acc r, Sm c.num := fun c hc => by
  unfold crStep at hc
  by_cases on : r.on y = true
  · rw [if_pos on] at hc
    unfold insCr at hc
    rcases List.mem_append.mp hc with hc | hc
    · exact ha c (List.mem_of_mem_take hc)
    rcases List.mem_cons.mp hc with rfl | hc
    · exact hr.2
    · exact ha c (List.mem_of_mem_drop hc)
  · rw [if_neg on] at hc
    exact ha c hc
theorem cr_len (y : Int) (acc : List Cr) (r : Row) : (crStep y acc r).length ≤ acc.length + 1 := by
  unfold crStep
  split
  · unfold insCr
    rw [List.length_append, List.length_cons, List.length_take, List.length_drop]
    omega
  · exact Nat.le_succ _
theorem f_crossings {w : World} : FSpec w 61 false 2 160 W_cross :=
  s_crossings (WT := wt [W_covers, W_placeAt, W_behind]) (kb := 1) (ub := 80) (gok_cons (oneM f_covers (Nat.le_refl _) (Nat.le_refl _) (by decide) (m_covers w).1.1 (m_covers w).1.2.1 (m_covers w).1.2.2 (attr_all (by decide)) (m_covers w).2)
    (gok_cons (oneM f_placeAt (Nat.le_refl _) (Nat.le_refl _) (by decide) (m_placeAt w).1.1 (m_placeAt w).1.2.1 (m_placeAt w).1.2.2 (attr_all (by decide)) (m_placeAt w).2) (gok_cons (oneF f_behind (Nat.le_refl _) (Nat.le_refl _) (by decide) (n_behind w).1 (n_behind w).2) gok_nil)))
    fun ps P ⟨rs, y, e, ⟨hr, hz⟩, hp⟩ => by
      refine ⟨_, _, e, ?_⟩
      refine ⟨by rw [List.length_map]; omega, ?_⟩
      refine forL_inv (fun xs l => ∃ acc a b c, l = [.lst (rs.map .side), .int y, .acc (List.map crV acc), a, b, c] ∧ (∀ c ∈ acc, Sm c.num) ∧ acc.length + xs.length ≤ 100 ∧ (∀ r ∈ xs, CrOk y r) ∧ xs.foldl (crStep y) acc = crossL y rs) ?_ ?_ rs _ ⟨[], .unb, .unb, .unb, rfl, (fun _ h => nomatch h), by rw [List.length_nil]; omega, hr, rfl⟩
      · rintro r xs l k ⟨acc, a, b, c, rfl, ha, hz, hx, hf⟩ hk
        rw [List.length_cons] at hz
        exact cross_turn (hx r (.head _)) ha (by omega) fun a b c => hk _ ⟨crStep y acc r, a, b, c, rfl, cr_num (hx r (.head _)) ha, by have := cr_len y acc r; omega, fun q hq => hx q (.tail _ hq), hf⟩
      · rintro l ⟨acc, a, b, c, rfl, _, _, _, hf⟩
        have hf : acc = crossL y rs := hf
        rw [hf]
        exact hp

end --W3
section --W4
theorem crossL_len (y : Int) (rs : List Row) : (crossL y rs).length ≤ rs.length := by
  have h : ∀ (xs : List Row) (acc : List Cr), (xs.foldl (crStep y) acc).length ≤ acc.length + xs.length := by
    intro xs
    induction xs with
    | nil => exact fun acc => Nat.le_refl _
    | cons r xs ih =>
      intro acc
      have := ih (crStep y acc r)
      have := cr_len y acc r
      rw [List.foldl_cons, List.length_cons]
      omega
  have := h rs []
  rwa [List.length_nil, Nat.zero_add] at this
noncomputable def windL (x : Int) (cs : List Cr) : Int := cs.foldl (fun a c => if c.num ≤ x * c.den then a + c.way else a) 0
noncomputable def W_wind (ps : List PV) (P : PV → Prop) : Prop := ∃ (rs : List Row) (x y : Int), ps = [.lst (rs.map .side), .int x, .int y] ∧ (((∀ r ∈ rs, CrOk y r) ∧ rs.length ≤ 100) ∧ Sm x) ∧ P (.int (windL x (crossL y rs)))
theorem f_wind {w : World} : FSpec w 75 false 3 240 W_wind :=
  s_winding_at (WT := wt [W_cross]) (kb := 2) (ub := 160) (gok_cons (oneF f_crossings (Nat.le_refl _) (Nat.le_refl _) (by decide) (n_crossings w).1 (n_crossings w).2) gok_nil)
    fun ps P ⟨rs, x, y, e, ⟨hr, hx⟩, hp⟩ => by
      refine ⟨_, _, _, e, rs, y, rfl, hr, ?_⟩
      refine ⟨by rw [List.length_map]; have := crossL_len y rs; omega, ?_⟩
      refine forL_inv (fun cs l => ∃ (a : Int) (b c : PV), l = [.lst (rs.map .side), .int x, .int y, .int a, b, c] ∧ cs.foldl (fun a c => if c.num ≤ x * c.den then a + c.way else a) a = windL x (crossL y rs)) ?_ ?_ (crossL y rs) _ ⟨0, .unb, .unb, rfl, rfl⟩
      · rintro c cs l k ⟨a, b, d, rfl, hf⟩ hk
        refine ⟨hx.mul, ?_⟩
        show if decide (c.num ≤ x * c.den) = true then k _ else k _
        rw [List.foldl_cons] at hf
        by_cases h : c.num ≤ x * c.den
        · rw [if_pos h] at hf
          rw [if_pos (decide_eq_true h)]
          exact hk _ ⟨_, _, _, rfl, hf⟩
        · rw [if_neg h] at hf
          rw [if_neg (fun e => h (of_decide_eq_true e))]
          exact hk _ ⟨_, _, _, rfl, hf⟩
      · rintro l ⟨a, b, c, rfl, hf⟩
        have hf : a = windL x (crossL y rs) := hf
        rw [hf]
        exact hp
/-- the class: five numbers make a side -/
noncomputable def W_Side (ps : List PV) (P : PV → Prop) : Prop := ∃ r : Row, ps = [.int r.x1, .int r.y1, .int r.x2, .int r.y2, .int r.way] ∧ P (.side r)
noncomputable def sideV : Option Row → PV
  | none => .none
  | some r => .side r
noncomputable def W_sideBetween (ps : List PV) (P : PV → Prop) : Prop := ∃ p q : Int × Int, ps = [ptV p, ptV q] ∧ P (sideV (mkSide p q))
theorem f_sideBetween {w : World} (hS : FSpec w 134 false 4 320 W_Side) : FSpec w 145 false 5 400 W_sideBetween :=
  s_side_between (WT := wt [W_Side]) (kb := 4) (ub := 320) (gok_cons (oneF hS (Nat.le_refl _) (Nat.le_refl _) (by decide) (n_side w).1 (n_side w).2) gok_nil)
    fun ps P ⟨p, q, e, hp⟩ => by
      refine ⟨_, _, e, ?_⟩
      unfold mkSide at hp
      show if (p.2 == q.2) = true then P .none else if decide (p.2 < q.2) = true then W_Side [.int p.1, .int p.2, .int q.1, .int q.2, .int 1] P else W_Side [.int q.1, .int q.2, .int p.1, .int p.2, .int (-1)] P
      by_cases h1 : p.2 = q.2
      · rw [if_pos h1] at hp
        rw [if_pos (beq_iff_eq.mpr h1)]
        exact hp
      rw [if_neg h1] at hp
      rw [if_neg (fun e => h1 (beq_iff_eq.mp e))]
      by_cases h2 : p.2 < q.2
      · rw [if_pos h2] at hp
        rw [if_pos (decide_eq_true h2)]
        exact ⟨⟨p.1, p.2, q.1, q.2, 1⟩, rfl, hp⟩
      · rw [if_neg h2] at hp
        rw [if_neg (fun e => h2 (of_decide_eq_true e))]
        exact ⟨⟨q.1, q.2, p.1, p.2, -1⟩, rfl, hp⟩

end --W4
section --W5
abbrev Pt := Int × Int
noncomputable def prV (q : Pt × Pt) : PV := .tup [ptV q.1, ptV q.2]
/-- a contour's neighbours -/
noncomputable def prs (pts : List Pt) (b : Bool) : List (Pt × Pt) := pts.zip (pts.drop 1) ++ if b then [(pts.getD (pts.length - 1) (0, 0), pts.getD 0 (0, 0))] else []
noncomputable def sidesC (pts : List Pt) (b : Bool) : List Row := (prs pts b).filterMap fun q => mkSide q.1 q.2
theorem zip_pr (pts : List Pt) : ((pts.map ptV).zip ((pts.map ptV).drop 1)).map (fun q => PV.tup [q.1, q.2]) = (pts.zip (pts.drop 1)).map prV := by
  rw [← List.map_drop, List.zip_map, List.map_map]
  rfl
theorem prs_len (pts : List Pt) (b : Bool) : (prs pts b).length ≤ pts.length + 1 := by
  unfold prs
  rw [List.length_append, List.length_zip]
  cases b
  · exact Nat.le_trans (Nat.le_of_eq (Nat.add_zero _)) (Nat.le_succ_of_le (Nat.min_le_left _ _))
  · exact Nat.add_le_add_right (Nat.min_le_left _ _) 1
/-- a list's item, counted from the end or from the front -/
theorem idx_of {pts : List Pt} {i : Nat} {j : Int} {k : PV → Prop} (hz : pts.length ≤ 1000) (hi : i < pts.length) (hj : j = i ∨ j = (i : Int) - pts.length) (h : k (ptV (pts.getD i (0, 0)))) : idxV (pts.map ptV) j k := by
  have e : (pts.map ptV)[i]? = some (ptV (pts.getD i (0, 0))) := by rw [List.getElem?_map, List.getD_eq_getElem?_getD, List.getElem?_eq_getElem hi]; rfl
  refine ⟨by rw [List.length_map]; exact hz, _, ?_, h⟩
  rw [List.length_map]
  rcases hj with rfl | rfl
  · exact .inl ⟨Int.natCast_nonneg i, by rw [Int.toNat_natCast]; exact e⟩
  · exact .inr ⟨by omega, by omega, by rw [show ((i : Int) - pts.length + pts.length).toNat = i by omega]; exact e⟩
noncomputable def W_contour (ps : List PV) (P : PV → Prop) : Prop := ∃ (pts : List Pt) (b : Bool), ps = [.lst (pts.map ptV), .bool b] ∧ (2 ≤ pts.length ∧ pts.length ≤ 50) ∧ P (.lst ((sidesC pts b).map .side))
variable (w : World) in
theorem n_sideBetween : nsIn (hd.heap_1 w.params) mainGlobals "side_between" = some (some (.ref 145)) ∧ keepIn (hd.heap_1 w.params) (.ref 145) = true := by constructor <;> k_is
theorem contour_rest {pts : List Pt} {b : Bool} {P : PV → Prop} {c0 c1 : PV} (hz : (prs pts b).length ≤ 1000) (hp : P (.lst ((sidesC pts b).map .side))) : wpS (wt [W_sideBetween]) (match c_sides_of_contour with | .zipl _ _ _ _ _ _ _ _ _ _ _ _ _ (.ite _ _ _ _ r) => r | _ => .done) [c0, c1, .acc ((prs pts b).map prV), .unb, .unb, .unb, .unb] (fun _ => P .none) P := by
  refine ⟨by rw [List.length_map]; exact hz, ?_⟩
  refine forL_inv (fun qs l => ∃ (acc : List Row) (x y z : PV), l = [c0, c1, .lst ((prs pts b).map prV), .acc (acc.map .side), x, y, z] ∧ acc.length + qs.length ≤ 1000 ∧ acc ++ qs.filterMap (fun q => mkSide q.1 q.2) = sidesC pts b) ?_ ?_ (prs pts b) _ ⟨[], .unb, .unb, .unb, rfl, by rw [List.length_nil, Nat.zero_add]; exact hz, rfl⟩
  · rintro q qs l k ⟨acc, x, y, z, rfl, hl, hf⟩ hk
    rw [List.length_cons] at hl
    refine ⟨q.1, q.2, rfl, ?_⟩
    rw [List.filterMap_cons] at hf
    cases hm : mkSide q.1 q.2 with
    | none =>
      rw [hm] at hf
      exact hk _ ⟨acc, _, _, _, rfl, by omega, hf⟩
    | some r =>
      rw [hm] at hf
      refine ⟨by rw [List.length_map]; omega, ?_⟩
      have e : acc.map PV.side ++ [.side r] = (acc ++ [r]).map .side := by rw [List.map_append]; rfl
      show k [c0, c1, _, .acc (acc.map PV.side ++ [.side r]), _, _, _]
      rw [e]
      exact hk _ ⟨acc ++ [r], _, _, _, rfl, by rw [List.length_append, List.length_singleton]; omega, by rw [List.append_assoc]; exact hf⟩
  · rintro l ⟨acc, x, y, z, rfl, _, hf⟩
    have hf : acc ++ [] = sidesC pts b := hf
    rw [List.append_nil] at hf
    rw [hf]
    exact hp
theorem f_contour {w : World} (hS : FSpec w 134 false 4 320 W_Side) : FSpec w 152 false 6 480 W_contour :=
  s_sides_of_contour (WT := wt [W_sideBetween]) (kb := 5) (ub := 400) (gok_cons (oneF (f_sideBetween hS) (Nat.le_refl _) (Nat.le_refl _) (by decide) (n_sideBetween w).1 (n_sideBetween w).2) gok_nil)
    fun ps P ⟨pts, b, e, ⟨h2, hz⟩, hp⟩ => by
      have hz1 : pts.length ≤ 1000 := by omega
      have hzp : (prs pts b).length ≤ 1000 := by have := prs_len pts b; omega
      refine ⟨_, _, e, ⟨by rw [List.length_map]; omega, by rw [List.length_map]; omega⟩, ?_⟩
      have rest := contour_rest (c0 := .lst (pts.map ptV)) (c1 := .bool b) hzp hp
      rw [zip_pr]
      cases b with
      | false =>
        have e : prs pts false = pts.zip (pts.drop 1) := List.append_nil _
        rw [e] at rest
        exact rest
      | true =>
        refine ⟨by rw [List.length_map]; exact hz1, ?_⟩
        show if decide ((1 : Int) < ((pts.map ptV).length : Int)) = true then _ else _
        rw [if_pos (decide_eq_true (by rw [List.length_map]; omega))]
        refine idx_of (i := pts.length - 1) hz1 (by omega) (.inr (by omega)) (idx_of (i := 0) hz1 (by omega) (.inl rfl) ⟨le100 rfl, ?_⟩)
        have hl : ((pts.zip (pts.drop 1)).map prV).length ≤ 1000 := by rw [List.length_map, List.length_zip]; omega
        refine ⟨hl, ?_⟩
        have e : prs pts true = pts.zip (pts.drop 1) ++ [(pts.getD (pts.length - 1) (0, 0), pts.getD 0 (0, 0))] := rfl
        rw [e, List.map_append] at rest
        exact rest

end --W5
section --W6
abbrev Ct := List Pt × Bool
noncomputable def ctV (c : Ct) : PV := .tup [.lst (c.1.map ptV), .bool c.2]
noncomputable def CtOk (cts : List Ct) : Prop := cts.length ≤ 5 ∧ ∀ c ∈ cts, 2 ≤ c.1.length ∧ c.1.length ≤ 50
noncomputable def sidesAll (cts : List Ct) (b : Bool) : List Row := cts.flatMap fun c => sidesC c.1 (b || c.2)
theorem sidesC_len {pts : List Pt} {b : Bool} (h : pts.length ≤ 50) : (sidesC pts b).length ≤ 51 := by
  have h1 : (sidesC pts b).length ≤ (prs pts b).length := List.length_filterMap_le _ _
  have := prs_len pts b
  omega
noncomputable def W_sidesOf (ps : List PV) (P : PV → Prop) : Prop := ∃ (cts : List Ct) (b : Bool), (ps = [.lst (cts.map ctV), .bool b] ∨ (ps = [.lst (cts.map ctV)] ∧ b = true)) ∧ CtOk cts ∧ P (.lst ((sidesAll cts b).map .side))
section
variable (w : World)
theorem n_contour : nsIn (hd.heap_1 w.params) mainGlobals "sides_of_contour" = some (some (.ref 152)) ∧ keepIn (hd.heap_1 w.params) (.ref 152) = true := by constructor <;> k_is
end
theorem f_sidesOf {w : World} (hS : FSpec w 134 false 4 320 W_Side) : FSpec w 160 false 7 560 W_sidesOf :=
  s_sides_of (WT := wt [W_contour]) (kb := 6) (ub := 480) (gok_cons (oneF (f_contour hS) (Nat.le_refl _) (Nat.le_refl _) (by decide) (n_contour w).1 (n_contour w).2) gok_nil)
    fun ps P ⟨cts, b, e, ⟨hz, hc⟩, hp⟩ => by
      refine ⟨_, .bool b, e.imp id fun h => ⟨h.1, congrArg PV.bool h.2⟩, ?_⟩
      refine ⟨by rw [List.length_map]; omega, ?_⟩
      refine forL_inv (fun xs l => ∃ (acc : List Row) (x y : PV), l = [.lst (cts.map ctV), .bool b, .acc (acc.map .side), x, y] ∧ acc.length + xs.length * 51 ≤ 255 ∧ (∀ c ∈ xs, 2 ≤ c.1.length ∧ c.1.length ≤ 50) ∧ acc ++ xs.flatMap (fun c => sidesC c.1 (b || c.2)) = sidesAll cts b) ?_ ?_ cts _ ⟨[], .unb, .unb, rfl, by rw [List.length_nil]; omega, hc, rfl⟩
      · rintro c xs l k ⟨acc, x, y, rfl, hl, hx, hf⟩ hk
        rw [List.length_cons] at hl
        rw [List.flatMap_cons, ← List.append_assoc] at hf
        have hc := hx c (.head _)
        have hs := sidesC_len (b := b || c.2) hc.2
        have go : W_contour [.lst (c.1.map ptV), .bool (b || c.2)] fun p => lstV [p] fun qs => ((acc.map PV.side).length ≤ 1000 ∧ qs.length ≤ 1000) ∧ k [.lst (cts.map ctV), .bool b, .acc (acc.map .side ++ qs), .lst (c.1.map ptV), .bool c.2] := by
          refine ⟨c.1, b || c.2, rfl, hc, ⟨by rw [List.length_map]; omega, by rw [List.length_map]; omega⟩, ?_⟩
          rw [← List.map_append]
          exact hk _ ⟨acc ++ sidesC c.1 (b || c.2), _, _, rfl, by rw [List.length_append]; omega, fun d hd => hx d (.tail _ hd), hf⟩
        cases b with
        | true => exact go
        | false => exact go
      · rintro l ⟨acc, x, y, rfl, _, _, hf⟩
        have hf : acc ++ [] = sidesAll cts b := hf
        rw [List.append_nil] at hf
        rw [hf]
        exact hp
theorem compL_fm {α : Type} {f : α → PV} {turn : PV → (Option PV → Prop) → Prop} {g : α → Option PV} {Q : List PV → Prop} : ∀ (xs : List α) (ys : List PV), (∀ a ∈ xs, ∀ K : Option PV → Prop, K (g a) → turn (f a) K) → Q (ys ++ xs.filterMap g) → compL turn (xs.map f) ys Q
  | [], ys, _, h => by rwa [List.filterMap_nil, List.append_nil] at h
  | a :: xs, ys, ht, h => ht a (.head _) _ (compL_fm xs _ (fun b hb => ht b (.tail _ hb)) (by
      rw [List.append_assoc]
      have e : (g a).toList ++ xs.filterMap g = (a :: xs).filterMap g := by
        rw [List.filterMap_cons]
        cases g a <;> rfl
      rw [e]
      exact h))
theorem fm_filter {α β : Type} {f : α → β} {p : α → Bool} : ∀ xs : List α, xs.filterMap (fun a => if p a = true then some (f a) else none) = (xs.filter p).map f
  | [] => rfl
  | a :: xs => by
    rw [List.filterMap_cons, List.filter_cons, fm_filter xs]
    cases p a <;> rfl
/-- the rows between two rows -/
noncomputable def btw (low high : Int) (r : Row) : Bool := decide (r.y1 < high) && decide (low < r.y2)
noncomputable def W_between (ps : List PV) (P : PV → Prop) : Prop := ∃ (rs : List Row) (low high : Int), ps = [.lst (rs.map .side), .int low, .int high] ∧ rs.length ≤ 1000 ∧ P (.lst ((rs.filter (btw low high)).map .side))
theorem f_between {w : World} : FSpec w 165 false 1 80 W_between := s_sides_between (WT := noT) (kb := 0) (ub := 0) go_nil fun ps P ⟨rs, low, high, e, hz, hp⟩ => by
  refine ⟨_, _, _, e, by rw [List.length_map]; exact hz, ?_⟩
  refine compL_fm (g := fun r => if btw low high r = true then some (.side r) else none) rs [] (fun r _ K hK => ?_) (by rw [List.nil_append, fm_filter]; exact hp)
  unfold btw at hK
  show if decide (r.y1 < high) = false then (if false = true then K (some (.side r)) else K none) else (if decide (low < r.y2) = true then K (some (.side r)) else K none)
  cases h : decide (r.y1 < high) with
  | false => rw [h] at hK; exact hK
  | true =>
    rw [h] at hK
    rw [if_neg (fun h => nomatch h)]
    cases h2 : decide (low < r.y2) with
    | false => rw [h2] at hK; exact hK
    | true => rw [h2] at hK; exact hK

end --W6
section --W7
noncomputable def W_take (ps : List PV) (P : PV → Prop) : Prop := ∃ top : Int, ps = [.src, .int top] ∧ (1 ≤ top ∧ top ≤ 1000) ∧ ∀ d : Int, 0 ≤ d → d < top → P (.int d)
noncomputable def W_one (ps : List PV) (P : PV → Prop) : Prop := ∃ vs : List PV, ps = [.src, .lst vs] ∧ (1 ≤ vs.length ∧ vs.length ≤ 1000) ∧ ∀ v ∈ vs, P v
section
variable (w : World)
theorem n_take : nsIn (hd.heap_1 w.params) mainGlobals "_law_take" = some (some (.ref 179)) ∧ keepIn (hd.heap_1 w.params) (.ref 179) = true := by constructor <;> k_is
theorem n_one : nsIn (hd.heap_1 w.params) mainGlobals "_law_one" = some (some (.ref 186)) ∧ keepIn (hd.heap_1 w.params) (.ref 186) = true := by constructor <;> k_is
end
theorem f_one {w : World} (hT : FSpec w 179 true 1 80 W_take) : FSpec w 186 true 2 160 W_one :=
  s_law_one (WT := wt [W_take]) (kb := 1) (ub := 80) (gok_cons (oneF hT (Nat.le_refl _) (Nat.le_refl _) (by decide) (n_take w).1 (n_take w).2) gok_nil)
    fun ps P ⟨vs, e, ⟨h1, hz⟩, hp⟩ => ⟨_, _, e, hz, vs.length, rfl, ⟨by omega, by omega⟩, fun d h0 hd => ⟨hz, vs[d.toNat]'(by omega), .inl ⟨h0, List.getElem?_eq_getElem (by omega)⟩, hp _ (List.getElem_mem _)⟩⟩
/-- the points that the law draws -/
noncomputable def PtOk (p : Pt) : Prop := (-8 ≤ p.1 ∧ p.1 ≤ 8) ∧ (-4 ≤ p.2 ∧ p.2 ≤ 4)
noncomputable def CtsOk (cts : List Ct) : Prop := (1 ≤ cts.length ∧ cts.length ≤ 3) ∧ ∀ c ∈ cts, (2 ≤ c.1.length ∧ c.1.length ≤ 5) ∧ ∀ p ∈ c.1, PtOk p
noncomputable def W_contours (ps : List PV) (P : PV → Prop) : Prop := ps = [.src] ∧ ∀ cts, CtsOk cts → P (.lst (cts.map ctV))
theorem range_inv {turn : PV → List PV → (List PV → Prop) → Prop} {b : Int} (Inv : Nat → List PV → Prop) {K : List PV → Prop} (step : ∀ (j : Int) n l (k : List PV → Prop), Inv (n + 1) l → (∀ l', Inv n l' → k l') → turn (.int j) l k) (fin : ∀ l, Inv 0 l → K l) (l : List PV) (h : Inv b.toNat l) : forL turn (rangeL 0 b) l K :=
  forL_inv (f := fun j : Nat => PV.int (0 + (j : Int))) (fun xs l => Inv xs.length l) (fun a r l k hi hk => step _ _ l k hi hk) fin _ l (by rw [List.length_range, Int.sub_zero]; exact h)
theorem spots_turn {b c x y : PV} {pts : List Pt} {k : List PV → Prop} {R : PV → Prop} {j : Int} (hz : pts.length ≤ 100) (hp : ∀ p ∈ pts, PtOk p) (hk : ∀ p, PtOk p → ∀ x y, k [.src, b, c, .acc ((pts ++ [p]).map ptV), x, y]) :
    tgtL [4] (.int j) [.src, b, c, .acc (pts.map ptV), x, y] fun l => wpS (wt [W_take, W_one]) (match c_law_contours with | .newl _ _ _ _ (.forT _ _ _ _ _ _ (.newl _ _ _ _ (.forT _ _ _ _ _ _ body _ _)) _ _) => body | _ => .done) l k R := by
  refine ⟨17, rfl, ⟨by omega, by omega⟩, fun d1 a1 b1 => ⟨9, rfl, ⟨by omega, by omega⟩, fun d2 a2 b2 => ?_⟩⟩
  have hq : PtOk (d1 - 8, d2 - 4) := ⟨⟨by omega, by omega⟩, ⟨by omega, by omega⟩⟩
  have hl : (pts.map ptV).length ≤ 1000 := by rw [List.length_map]; omega
  have hd : ((pts.map ptV).drop ((pts.map ptV).length - 1)).length ≤ 1 := by rw [List.length_drop]; omega
  refine ⟨le100 rfl, le100 rfl, hl, ?_, _, rfl, ?_, ?_⟩
  · show 3 + _ ≤ 100
    omega
  · rw [List.length_append]
    exact ⟨Nat.le_trans (by decide) (Nat.le_add_right 3 _), by show 3 + _ ≤ 1000; omega⟩
  · intro v hv
    have key : ∃ p, PtOk p ∧ v = ptV p := by
      rcases List.mem_append.mp hv with hv | hv
      · refine ⟨_, hq, ?_⟩
        rcases List.mem_cons.mp hv with rfl | hv
        · rfl
        rcases List.mem_cons.mp hv with rfl | hv
        · rfl
        · rw [List.mem_singleton.mp hv]; rfl
      · obtain ⟨p, hp', rfl⟩ := List.mem_map.mp (List.mem_of_mem_drop hv)
        exact ⟨p, hp p hp', rfl⟩
    obtain ⟨p, hp', rfl⟩ := key
    refine ⟨hl, ?_⟩
    have e : pts.map ptV ++ [ptV p] = (pts ++ [p]).map ptV := by rw [List.map_append]; rfl
    show k [.src, b, c, .acc (pts.map ptV ++ [ptV p]), _, _]
    rw [e]
    exact hk p hp' _ _

end --W7
section --W8
theorem rangeL_len (b : Int) : (rangeL 0 b).length = b.toNat := by
  unfold rangeL
  rw [List.length_map, List.length_range, Int.sub_zero]
theorem contours_turn {a d e f : PV} {cts : List Ct} {k : List PV → Prop} {R : PV → Prop} {j : Int} (hz : cts.length ≤ 100) (hk : ∀ c : Ct, ((2 ≤ c.1.length ∧ c.1.length ≤ 5) ∧ ∀ p ∈ c.1, PtOk p) → ∀ a d e f, k [.src, .acc ((cts ++ [c]).map ctV), a, d, e, f]) :
    tgtL [2] (.int j) [.src, .acc (cts.map ctV), a, d, e, f] fun l => wpS (wt [W_take, W_one]) (match c_law_contours with | .newl _ _ _ _ (.forT _ _ _ _ _ _ body _ _) => body | _ => .done) l k R := by
  refine ⟨4, rfl, ⟨by omega, by omega⟩, fun d1 a1 b1 => ⟨⟨by omega, by omega⟩, by rw [rangeL_len]; omega, ?_⟩⟩
  refine range_inv (fun n l => ∃ (pts : List Pt) (x y : PV), l = [.src, .acc (cts.map ctV), .int j, .acc (pts.map ptV), x, y] ∧ (2 ≤ pts.length + n ∧ pts.length + n ≤ 5) ∧ ∀ p ∈ pts, PtOk p) ?_ ?_ _ ⟨[], _, _, rfl, ⟨by rw [List.length_nil]; omega, by rw [List.length_nil]; omega⟩, fun _ h => nomatch h⟩
  · rintro i n l k' ⟨pts, x, y, rfl, ⟨h1, h2⟩, hp⟩ hk'
    exact spots_turn (by omega) hp fun p hq x y => hk' _ ⟨pts ++ [p], x, y, rfl, by rw [List.length_append, List.length_singleton]; omega, fun q hq' => (List.mem_append.mp hq').elim (hp q) fun h => List.mem_singleton.mp h ▸ hq⟩
  · rintro l ⟨pts, x, y, rfl, ⟨h1, h2⟩, hp⟩
    refine ⟨2, rfl, ⟨by omega, by omega⟩, fun d2 a2 b2 => ⟨le100 rfl, by rw [List.length_map]; omega, ?_⟩⟩
    have e : cts.map ctV ++ [ctV (pts, d2 == 0)] = (cts ++ [(pts, d2 == 0)]).map ctV := by rw [List.map_append]; rfl
    show k [.src, .acc (cts.map ctV ++ [ctV (pts, d2 == 0)]), _, _, _, _]
    rw [e]
    exact hk (pts, d2 == 0) ⟨⟨h1, h2⟩, hp⟩ _ _ _ _
theorem f_contours {w : World} (hT : FSpec w 179 true 1 80 W_take) : FSpec w 193 true 3 240 W_contours :=
  s_law_contours (WT := wt [W_take, W_one]) (kb := 2) (ub := 160) (gok_cons (oneF hT (by decide) (by decide) (by decide) (n_take w).1 (n_take w).2) (gok_cons (oneF (f_one hT) (Nat.le_refl _) (Nat.le_refl _) (by decide) (n_one w).1 (n_one w).2) gok_nil))
    fun ps P ⟨e, hp⟩ => by
      refine ⟨_, e, 3, rfl, ⟨by omega, by omega⟩, fun d1 a1 b1 => ⟨⟨by omega, by omega⟩, by rw [rangeL_len]; omega, ?_⟩⟩
      refine range_inv (fun n l => ∃ (cts : List Ct) (a d e f : PV), l = [.src, .acc (cts.map ctV), a, d, e, f] ∧ (1 ≤ cts.length + n ∧ cts.length + n ≤ 3) ∧ ∀ c ∈ cts, (2 ≤ c.1.length ∧ c.1.length ≤ 5) ∧ ∀ p ∈ c.1, PtOk p) ?_ ?_ _ ⟨[], _, _, _, _, rfl, ⟨by rw [List.length_nil]; omega, by rw [List.length_nil]; omega⟩, fun _ h => nomatch h⟩
      · rintro i n l k' ⟨cts, a, d, e, f, rfl, ⟨h1, h2⟩, hc⟩ hk'
        exact contours_turn (by omega) fun c hc' a d e f => hk' _ ⟨cts ++ [c], a, d, e, f, rfl, by rw [List.length_append, List.length_singleton]; omega, fun q hq' => (List.mem_append.mp hq').elim (hc q) fun h => List.mem_singleton.mp h ▸ hc'⟩
      · rintro l ⟨cts, a, d, e, f, rfl, ⟨h1, h2⟩, hc⟩
        exact hp cts ⟨⟨h1, h2⟩, hc⟩
noncomputable def W_rows (ps : List PV) (P : PV → Prop) : Prop := ∃ (cts : List Ct) (b : Bool), ps = [.lst (cts.map ctV), .bool b] ∧ CtOk cts ∧ P (.lst ((sidesAll cts b).map rowV))
theorem comp_prs {pts : List Pt} (h : 1 ≤ pts.length) : (List.range ((pts.length : Int) - 1 - 0).toNat).filterMap (fun j : Nat => some (prV (pts.getD j (0, 0), pts.getD (j + 1) (0, 0)))) = (pts.zip (pts.drop 1)).map prV := by
  rw [show (fun j : Nat => some (prV (pts.getD j (0, 0), pts.getD (j + 1) (0, 0)))) = some ∘ fun j : Nat => prV (pts.getD j (0, 0), pts.getD (j + 1) (0, 0)) from rfl, List.filterMap_eq_map]
  refine List.ext_getElem (by rw [List.length_map, List.length_map, List.length_range, List.length_zip, List.length_drop]; omega) fun i h1 h2 => ?_
  rw [List.length_map, List.length_range] at h1
  rw [List.getElem_map, List.getElem_map, List.getElem_range, List.getElem_zip, List.getElem_drop, List.getD_eq_getElem?_getD, List.getD_eq_getElem?_getD, List.getElem?_eq_getElem (by omega), List.getElem?_eq_getElem (by omega)]
  simp only [Option.getD_some, Nat.add_comm]

end --W8
section --W9
/-- the pairs' rows, one by one -/
theorem rows_in {s0 c0 b0 cl x y : PV} {acc : List Row} {qs : List (Pt × Pt)} {k : List PV → Prop} {R : PV → Prop} (hz : acc.length + qs.length ≤ 500) (hk : ∀ a b, k [s0, c0, b0, .acc ((acc ++ qs.filterMap fun q => mkSide q.1 q.2).map rowV), cl, .lst (qs.map prV), a, b]) :
    wpS noT (match c_law_rows with | .newl _ _ _ _ (.forT _ _ _ _ _ _ (.setc _ _ _ _ _ _ _ _ _ _ _ _ _ _ (.ite _ _ _ _ r)) _ _) => r | _ => .done) [s0, c0, b0, .acc (acc.map rowV), cl, .acc (qs.map prV), x, y] k R := by
  refine ⟨by rw [List.length_map]; omega, ?_⟩
  refine forL_inv (fun rest l => ∃ (ac : List Row) (x y : PV), l = [s0, c0, b0, .acc (ac.map rowV), cl, .lst (qs.map prV), x, y] ∧ ac.length + rest.length ≤ 500 ∧ ac ++ rest.filterMap (fun q => mkSide q.1 q.2) = acc ++ qs.filterMap fun q => mkSide q.1 q.2) ?_ ?_ qs _ ⟨acc, x, y, rfl, hz, rfl⟩
  · rintro q rest l k' ⟨ac, x, y, rfl, hl, hf⟩ hk'
    rw [List.length_cons] at hl
    rw [List.filterMap_cons] at hf
    have hc : (ac.map rowV).length ≤ 1000 := by rw [List.length_map]; omega
    have add : ∀ r : Row, mkSide q.1 q.2 = some r → k' [s0, c0, b0, .acc (ac.map rowV ++ [rowV r]), cl, .lst (qs.map prV), ptV q.1, ptV q.2] := fun r hr => by
      rw [hr] at hf
      have e : ac.map rowV ++ [rowV r] = (ac ++ [r]).map rowV := by rw [List.map_append]; rfl
      rw [e]
      exact hk' _ ⟨ac ++ [r], _, _, rfl, by rw [List.length_append, List.length_singleton]; omega, by rw [List.append_assoc]; exact hf⟩
    unfold mkSide at add hf
    show if decide (q.1.2 < q.2.2) = true then _ else if decide (q.2.2 < q.1.2) = true then _ else k' _
    by_cases h1 : q.1.2 < q.2.2
    · rw [if_pos (decide_eq_true h1)]
      refine ⟨le100 rfl, le100 rfl, le100 rfl, hc, ?_⟩
      show if decide (q.2.2 < q.1.2) = true then _ else k' _
      rw [if_neg (fun e => absurd (of_decide_eq_true e) (by omega))]
      exact add ⟨q.1.1, q.1.2, q.2.1, q.2.2, 1⟩ (by rw [if_neg (by omega), if_pos h1])
    rw [if_neg (fun e => h1 (of_decide_eq_true e))]
    by_cases h2 : q.2.2 < q.1.2
    · rw [if_pos (decide_eq_true h2)]
      refine ⟨le100 rfl, le100 rfl, le100 rfl, hc, ?_⟩
      exact add ⟨q.2.1, q.2.2, q.1.1, q.1.2, -1⟩ (by rw [if_neg (by omega), if_neg h1])
    · rw [if_neg (fun e => h2 (of_decide_eq_true e))]
      rw [if_pos (by omega)] at hf
      exact hk' _ ⟨ac, _, _, rfl, by omega, hf⟩
  · rintro l ⟨ac, x, y, rfl, _, hf⟩
    have hf : ac ++ [] = _ := hf
    rw [List.append_nil] at hf
    rw [hf]
    exact hk x y
theorem rows_turn {pts : List Pt} {c b : Bool} {cs : PV} {acc : List Row} {s0 cl p x y : PV} {k : List PV → Prop} {R : PV → Prop} (hc : 2 ≤ pts.length ∧ pts.length ≤ 50) (hz : acc.length ≤ 400) (hk : ∀ s0 cl p x y, k [s0, cs, .bool b, .acc ((acc ++ sidesC pts (b || c)).map rowV), cl, p, x, y]) :
    tgtL [0, 4] (ctV (pts, c)) [s0, cs, .bool b, .acc (acc.map rowV), cl, p, x, y] fun l => wpS noT (match c_law_rows with | .newl _ _ _ _ (.forT _ _ _ _ _ _ body _ _) => body | _ => .done) l k R := by
  have hz1 : pts.length ≤ 1000 := by omega
  have hm : (pts.map ptV).length = pts.length := List.length_map ..
  refine ⟨by rw [hm]; exact hz1, ⟨by rw [hm]; omega, by rw [hm]; omega⟩, by rw [rangeL_len, hm]; omega, ?_⟩
  refine compL_fm (f := fun j : Nat => PV.int (0 + (j : Int))) (g := fun j : Nat => some (prV (pts.getD j (0, 0), pts.getD (j + 1) (0, 0)))) _ [] (fun j hj K hK => ?_) ?_
  · have hj := List.mem_range.mp hj
    rw [hm] at hj
    exact idx_of (pts := pts) (i := j) hz1 (by omega) (.inl (Int.zero_add _)) (idx_of (pts := pts) (i := j + 1) hz1 (by omega) (.inl (by omega)) ⟨le100 rfl, hK⟩)
  rw [hm, List.nil_append, comp_prs (by omega)]
  have hl := prs_len pts (b || c)
  have rest : wpS noT (match c_law_rows with | .newl _ _ _ _ (.forT _ _ _ _ _ _ (.setc _ _ _ _ _ _ _ _ _ _ _ _ _ _ (.ite _ _ _ _ r)) _ _) => r | _ => .done) [.lst (pts.map ptV), cs, .bool b, .acc (acc.map rowV), .bool c, .acc ((prs pts (b || c)).map prV), x, y] k R := rows_in (by omega) fun a d => hk _ _ _ a d
  have z : prs pts true = pts.zip (pts.drop 1) ++ [(pts.getD (pts.length - 1) (0, 0), pts.getD 0 (0, 0))] := rfl
  have z0 : prs pts false = pts.zip (pts.drop 1) := List.append_nil _
  have hzl : ((pts.zip (pts.drop 1)).map prV).length ≤ 1000 := by rw [List.length_map, List.length_zip]; omega
  cases b with
  | true =>
    have rest := rest
    rw [show (true || c) = true from rfl, z, List.map_append] at rest
    exact idx_of (pts := pts) (i := pts.length - 1) hz1 (by omega) (.inr (by omega)) (idx_of (pts := pts) (i := 0) hz1 (by omega) (.inl rfl) ⟨le100 rfl, hzl, rest⟩)
  | false =>
    cases c with
    | true =>
      have rest := rest
      rw [show (false || true) = true from rfl, z, List.map_append] at rest
      exact idx_of (pts := pts) (i := pts.length - 1) hz1 (by omega) (.inr (by omega)) (idx_of (pts := pts) (i := 0) hz1 (by omega) (.inl rfl) ⟨le100 rfl, hzl, rest⟩)
    | false =>
      rw [show (false || false) = false from rfl, z0] at rest
      exact rest
theorem f_rows {w : World} : FSpec w 198 false 1 80 W_rows := s_law_rows (WT := noT) (kb := 0) (ub := 0) go_nil fun ps P ⟨cts, b, e, ⟨hz, hc⟩, hp⟩ => by
  refine ⟨_, _, e, by rw [List.length_map]; omega, ?_⟩
  refine forL_inv (fun xs l => ∃ (acc : List Row) (s0 cl p x y : PV), l = [s0, .lst (cts.map ctV), .bool b, .acc (acc.map rowV), cl, p, x, y] ∧ acc.length + xs.length * 51 ≤ 255 ∧ (∀ c ∈ xs, 2 ≤ c.1.length ∧ c.1.length ≤ 50) ∧ acc ++ xs.flatMap (fun c => sidesC c.1 (b || c.2)) = sidesAll cts b) ?_ ?_ cts _ ⟨[], _, _, _, _, _, rfl, by rw [List.length_nil]; omega, hc, rfl⟩
  · rintro c xs l k ⟨acc, s0, cl, p, x, y, rfl, hl, hx, hf⟩ hk
    rw [List.length_cons] at hl
    rw [List.flatMap_cons, ← List.append_assoc] at hf
    have hc := hx c (.head _)
    have hs := sidesC_len (b := b || c.2) hc.2
    exact rows_turn (pts := c.1) (c := c.2) hc (by omega) fun s0 cl p x y => hk _ ⟨acc ++ sidesC c.1 (b || c.2), _, _, _, _, _, rfl, by rw [List.length_append]; omega, fun d hd => hx d (.tail _ hd), hf⟩
  · rintro l ⟨acc, s0, cl, p, x, y, rfl, _, _, hf⟩
    have hf : acc ++ [] = sidesAll cts b := hf
    rw [List.append_nil] at hf
    rw [hf]
    exact hp

end --W9
section --X1
/-! the sort by places is the insertion -/
section
variable {B y : Int}
noncomputable def pl (B y : Int) (r : Row) : Int := r.num y * B.fdiv r.den
/-- the bottom that a row's height divides -/
noncomputable def DvOk (B : Int) (r : Row) : Prop := 0 < r.den ∧ ∃ m, 0 < m ∧ B = r.den * m
theorem DvOk.div {r : Row} (h : DvOk B r) : 0 < B.fdiv r.den ∧ B = r.den * B.fdiv r.den := by
  obtain ⟨h0, m, hm, e⟩ := h
  have : B.fdiv r.den = m := by
    rw [Int.fdiv_eq_ediv_of_nonneg _ (Int.le_of_lt h0), e]
    exact Int.mul_ediv_cancel_left _ (Int.ne_of_gt h0)
  rw [this]
  exact ⟨hm, e⟩
theorem behind_pl {r q : Row} (hr : DvOk B r) (hq : DvOk B q) : behind (q.cr y) (r.cr y) = true ↔ pl B y r < pl B y q := by
  obtain ⟨m1, e1⟩ := hr.div
  obtain ⟨m2, e2⟩ := hq.div
  unfold behind pl
  rw [decide_eq_true_iff]
  show r.num y * q.den < q.num y * r.den ↔ _
  generalize B.fdiv r.den = u at *
  generalize B.fdiv q.den = v at *
  have hB : 0 < B := e1 ▸ Int.mul_pos hr.1 m1
  have huv : 0 < u * v := Int.mul_pos m1 m2
  have a1 : r.num y * q.den * (u * v) = r.num y * u * B := by rw [e2, Int.mul_assoc, Int.mul_assoc]; congr 1; rw [Int.mul_left_comm]
  have a2 : q.num y * r.den * (u * v) = q.num y * v * B := by rw [e1, Int.mul_assoc, Int.mul_assoc]; congr 1; rw [← Int.mul_assoc, Int.mul_comm v]
  constructor
  · intro h
    have := Int.mul_lt_mul_of_pos_right h huv
    rw [a1, a2] at this
    exact Int.lt_of_mul_lt_mul_right this (Int.le_of_lt hB)
  · intro h
    have := Int.mul_lt_mul_of_pos_right h hB
    rw [← a1, ← a2] at this
    exact Int.lt_of_mul_lt_mul_right this (Int.le_of_lt huv)
theorem insPos_spec (acc : List Cr) (c : Cr) : ∀ n, n ≤ acc.length → insPos acc c n ≤ n ∧ (∀ k d, insPos acc c n ≤ k → k < n → acc[k]? = some d → behind d c = true) ∧ ∀ k d, insPos acc c n = k + 1 → acc[k]? = some d → behind d c = false
  | 0, _ => ⟨Nat.le_refl _, fun k _ _ h => absurd h (Nat.not_lt_zero _), fun _ _ h => nomatch h⟩
  | n + 1, hn => by
    obtain ⟨i0, i1, i2⟩ := insPos_spec acc c n (Nat.le_of_succ_le hn)
    have e : insPos acc c (n + 1) = if (acc[n]?).any (fun d => behind d c) = true then insPos acc c n else n + 1 := rfl
    obtain ⟨d, hd⟩ : ∃ d, acc[n]? = some d := ⟨_, List.getElem?_eq_getElem hn⟩
    have e : insPos acc c (n + 1) = if behind d c = true then insPos acc c n else n + 1 := by rw [e, hd]; rfl
    rw [e]
    by_cases h : behind d c = true
    · rw [if_pos h]
      refine ⟨Nat.le_succ_of_le i0, fun k d' hk hk2 hd' => ?_, i2⟩
      rcases Nat.lt_succ_iff_lt_or_eq.mp hk2 with hk2 | rfl
      · exact i1 k d' hk hk2 hd'
      · cases hd.symm.trans hd'; exact h
    · rw [if_neg h]
      refine ⟨Nat.le_refl _, fun k _ h1 h2 => absurd h2 (Nat.not_lt.mpr h1), fun k d' hk hd' => ?_⟩
      cases Nat.succ.inj hk
      cases hd.symm.trans hd'
      exact Bool.eq_false_iff.mpr h
noncomputable def RR (B y : Int) (a b : Row × Nat) : Prop := pl B y a.1 < pl B y b.1 ∨ (pl B y a.1 = pl B y b.1 ∧ a.2 < b.2)
theorem ins_R {t : List (Row × Nat)} {r : Row} {n : Nat} (hr : DvOk B r) (ht : ∀ q ∈ t, DvOk B q.1 ∧ q.2 < n) (hs : t.Pairwise (RR B y)) :
    ∃ t' : List (Row × Nat), insCr (t.map fun q => q.1.cr y) (r.cr y) = t'.map (fun q => q.1.cr y) ∧ t'.Perm ((r, n) :: t) ∧ t'.Pairwise (RR B y) := by
  obtain ⟨i0, i1, i2⟩ := insPos_spec (t.map fun q => q.1.cr y) (r.cr y) _ (Nat.le_refl _)
  unfold insCr
  generalize hp : insPos (t.map fun q => q.1.cr y) (r.cr y) (t.map fun q => q.1.cr y).length = p at *
  rw [List.length_map] at i0 i1
  refine ⟨t.take p ++ (r, n) :: t.drop p, by rw [List.map_append, List.map_cons, List.map_take, List.map_drop], ?_, ?_⟩
  · refine List.perm_middle.trans (.cons _ ?_)
    rw [List.take_append_drop]
  · have hi := List.pairwise_iff_getElem.mp hs
    refine List.pairwise_append.mpr ⟨hs.sublist (List.take_sublist _ _), List.pairwise_cons.mpr ⟨fun q hq => ?_, hs.sublist (List.drop_sublist _ _)⟩, fun a ha b hb => ?_⟩
    · obtain ⟨k, hk⟩ := List.getElem?_of_mem hq
      rw [List.getElem?_drop] at hk
      have hkl := (List.getElem?_eq_some_iff.mp hk).1
      exact .inl ((behind_pl hr (ht q (List.mem_of_mem_drop hq)).1).mp (i1 (p + k) (q.1.cr y) (Nat.le_add_right _ _) hkl (by rw [List.getElem?_map, hk]; rfl)))
    · have hat := List.mem_of_mem_take ha
      rcases List.mem_cons.mp hb with rfl | hb
      · obtain ⟨k, hk⟩ := List.getElem?_of_mem ha
        have hkp : k < p := by
          have := (List.getElem?_eq_some_iff.mp hk).1
          rw [List.length_take] at this
          omega
        rw [List.getElem?_take_of_lt hkp] at hk
        obtain ⟨j, rfl⟩ : ∃ j, p = j + 1 := ⟨p - 1, by omega⟩
        have hj : j < t.length := i0
        have hb := i2 j (t[j].1.cr y) rfl (by rw [List.getElem?_map, List.getElem?_eq_getElem hj]; rfl)
        have hle : pl B y t[j].1 ≤ pl B y r := Int.not_lt.mp fun h => Bool.false_ne_true (hb.symm.trans ((behind_pl hr (ht _ (List.getElem_mem hj)).1).mpr h))
        have hka : pl B y a.1 ≤ pl B y t[j].1 := by
          obtain ⟨hk1, rfl⟩ := List.getElem?_eq_some_iff.mp hk
          rcases Nat.lt_succ_iff_lt_or_eq.mp hkp with h | rfl
          · rcases hi k j hk1 hj h with h | h
            · exact Int.le_of_lt h
            · exact Int.le_of_eq h.1
          · exact Int.le_refl _
        rcases Int.lt_or_eq_of_le (Int.le_trans hka hle) with h | h
        · exact .inl h
        · exact .inr ⟨h, (ht a hat).2⟩
      · obtain ⟨k, hk⟩ := List.getElem?_of_mem ha
        obtain ⟨j, hj⟩ := List.getElem?_of_mem hb
        rw [List.getElem?_drop] at hj
        have hkp : k < p := by
          have := (List.getElem?_eq_some_iff.mp hk).1
          rw [List.length_take] at this
          omega
        rw [List.getElem?_take_of_lt hkp] at hk
        obtain ⟨hk1, rfl⟩ := List.getElem?_eq_some_iff.mp hk
        obtain ⟨hj1, rfl⟩ := List.getElem?_eq_some_iff.mp hj
        exact hi k _ hk1 hj1 (by omega)
theorem ins_all : ∀ (rest done : List Row) (t : List (Row × Nat)), (∀ r ∈ done ++ rest, DvOk B r) → t.Perm done.zipIdx → t.Pairwise (RR B y) →
    ∃ t' : List (Row × Nat), rest.foldl (fun acc r => insCr acc (r.cr y)) (t.map fun q => q.1.cr y) = t'.map (fun q => q.1.cr y) ∧ t'.Perm (done ++ rest).zipIdx ∧ t'.Pairwise (RR B y)
  | [], done, t, _, hp, hs => ⟨t, rfl, by rw [List.append_nil]; exact hp, hs⟩
  | r :: rest, done, t, hd, hp, hs => by
    obtain ⟨t1, e1, p1, s1⟩ := ins_R (n := done.length) (hd r (List.mem_append_right _ (.head _))) (fun q hq => by
      have hq' := hp.mem_iff.mp hq
      have h1 := List.mem_zipIdx_iff_getElem?.mp hq'
      have h2 := List.getElem?_eq_some_iff.mp h1
      exact ⟨hd _ (List.mem_append_left _ (List.mem_of_getElem? h1)), h2.1⟩) hs
    have ea : done ++ r :: rest = (done ++ [r]) ++ rest := by rw [List.append_assoc]; rfl
    obtain ⟨t2, e2, p2, s2⟩ := ins_all rest (done ++ [r]) t1 (fun q hq => hd q (ea ▸ hq)) (by
      rw [List.zipIdx_append]
      refine p1.trans ((List.Perm.cons _ hp).trans ?_)
      have : [r].zipIdx (0 + done.length) = [(r, done.length)] := by rw [Nat.zero_add]; rfl
      rw [this]
      exact List.perm_append_comm (l₁ := [_])) s1
    refine ⟨t2, ?_, ea ▸ p2, s2⟩
    rw [List.foldl_cons, e1]
    exact e2
theorem cross_sorted {rs : List Row} {l' : List (Int × Int)} (hd : ∀ r ∈ rs, DvOk B r) (hl : rs.length ≤ 64) (hp : l'.Perm (rs.zipIdx.map fun q => (pl B y q.1, (q.2 : Int)))) (hs : l'.Pairwise fun a b => rank a < rank b) (h : Int → Cr) (hh : ∀ q ∈ rs.zipIdx, h (q.2 : Int) = q.1.cr y) :
    l'.map (fun q => h q.2) = rs.foldl (fun acc r => insCr acc (r.cr y)) [] := by
  obtain ⟨t, e, pt, st⟩ := ins_all (B := B) (y := y) rs [] [] hd (.refl _) .nil
  have hq : ∀ q ∈ t, q ∈ rs.zipIdx ∧ (0 ≤ (q.2 : Int) ∧ (q.2 : Int) < 64) := fun q hq => by
    have h0 := pt.mem_iff.mp hq
    have h1 := (List.getElem?_eq_some_iff.mp (List.mem_zipIdx_iff_getElem?.mp h0)).1
    have h1 : q.2 < rs.length := h1
    exact ⟨h0, by omega, by omega⟩
  have el : l' = t.map fun q => (pl B y q.1, (q.2 : Int)) := by
    refine List.Perm.eq_of_pairwise (le := fun a b => rank a < rank b) (fun a b _ _ h1 h2 => absurd h1 (by omega)) hs (List.pairwise_map.mpr ?_) (hp.trans (pt.map _).symm)
    refine List.Pairwise.imp_of_mem (fun {a b} ha hb hab => ?_) st
    refine (rank_lt (hq a ha).2 (hq b hb).2).mpr (hab.imp id fun h => ⟨h.1, Int.ofNat_lt.mpr h.2⟩)
  rw [el, List.map_map]
  refine Eq.trans ?_ e.symm
  exact List.map_congr_left fun q hq' => hh q (hq q hq').1
end

end --X1
section --W10
/-- what is asked of a row of the law -/
noncomputable def RwOk (y : Int) (r : Row) : Prop := CrOk y r ∧ (0 < r.den ∧ r.den ≤ 1000)
noncomputable def W_crossed (ps : List PV) (P : PV → Prop) : Prop := ∃ (rs : List Row) (y : Int), ps = [.lst (rs.map rowV), .int y] ∧ ((∀ r ∈ rs, RwOk y r) ∧ rs.length < 64) ∧ P (.lst ((crossL y rs).map crV))
noncomputable def botL (so : List Row) (b : Int) : Int := so.foldl (fun b r => b * r.den) b
theorem bot_dv : ∀ (so : List Row) (b : Int), 0 < b → (∀ r ∈ so, 0 < r.den) → (∃ m, 0 < m ∧ botL so b = b * m) ∧ ∀ r ∈ so, DvOk (botL so b) r
  | [], b, hb, _ => ⟨⟨1, by decide, (Int.mul_one b).symm⟩, fun _ h => nomatch h⟩
  | r :: so, b, hb, hd => by
    have h0 := hd r (.head _)
    obtain ⟨⟨m, hm, e⟩, f⟩ := bot_dv so (b * r.den) (Int.mul_pos hb h0) fun q hq => hd q (.tail _ hq)
    have e : botL (r :: so) b = b * r.den * m := e
    refine ⟨⟨r.den * m, Int.mul_pos h0 hm, by rw [e, Int.mul_assoc]⟩, fun q hq => ?_⟩
    rcases List.mem_cons.mp hq with rfl | hq
    · exact ⟨h0, b * m, Int.mul_pos hb hm, by rw [e, Int.mul_comm b, Int.mul_assoc]⟩
    · exact f q hq
theorem enum_zip {α : Type} (f : α → PV) (l : List α) : enumL (l.map f) = l.zipIdx.map fun q => PV.tup [.int (q.2 : Int), f q.1] := by
  unfold enumL
  rw [List.mapIdx_eq_zipIdx_map, List.zipIdx_map, List.map_map]
  rfl
theorem map_fm {α β : Type} (f : α → β) (l : List α) : l.filterMap (fun a => some (f a)) = l.map f := List.filterMap_eq_map (f := f) ▸ rfl
theorem on_of {so rs : List Row} {y : Int} (e : so = rs.filter fun r => r.on y) : crossL y rs = so.foldl (fun acc r => insCr acc (r.cr y)) [] := by
  rw [e, List.foldl_filter]
  rfl
noncomputable def atR (so : List Row) (j : Int) : Row := (so[j.toNat]?).getD ⟨0, 0, 0, 0, 0⟩
theorem idx_row {so : List Row} {j : Int} {k : PV → Prop} (hz : so.length ≤ 1000) (h0 : 0 ≤ j) (h1 : j < so.length) (h : k (rowV (atR so j))) : idxV (so.map rowV) j k := by
  have h2 : j.toNat < so.length := by omega
  refine ⟨by rw [List.length_map]; exact hz, rowV (atR so j), .inl ⟨h0, ?_⟩, h⟩
  unfold atR
  rw [List.getElem?_map, List.getElem?_eq_getElem h2]
  rfl
theorem pair_inj {so : List Row} {B y : Int} (hl : so.length < 64) (i j : Nat) (hij : i < j) (hj : j < (so.zipIdx.map fun q => (pl B y q.1, (q.2 : Int))).length) : rank ((so.zipIdx.map fun q => (pl B y q.1, (q.2 : Int))).getD i (0, 0)) ≠ rank ((so.zipIdx.map fun q => (pl B y q.1, (q.2 : Int))).getD j (0, 0)) := by
  rw [List.length_map, List.length_zipIdx] at hj
  have e : ∀ i, i < so.length → ∃ a, (so.zipIdx.map fun q => (pl B y q.1, (q.2 : Int))).getD i (0, 0) = (a, (i : Int)) := fun i hi => by
    rw [List.getD_eq_getElem?_getD, List.getElem?_map, List.getElem?_zipIdx, List.getElem?_eq_getElem hi]
    exact ⟨pl B y so[i], by rw [Nat.zero_add]; rfl⟩
  obtain ⟨a, ea⟩ := e i (by omega)
  obtain ⟨b, eb⟩ := e j hj
  rw [ea, eb]
  unfold rank
  dsimp only
  omega
theorem f_crossed {w : World} : FSpec w 210 false 2 160 W_crossed :=
  s_law_crossed (WT := wt [W_lawPlace]) (kb := 1) (ub := 80) (gok_cons (oneF f_lawPlace (Nat.le_refl _) (Nat.le_refl _) (by decide) (n_lawPlace w).1 (n_lawPlace w).2) gok_nil)
    fun ps P ⟨rs, y, e, ⟨hr, hz⟩, hp⟩ => by
      refine ⟨_, _, e, by rw [List.length_map]; omega, ?_⟩
      refine compL_fm (g := fun r : Row => if r.on y = true then some (rowV r) else none) rs [] (fun r _ K hK => ?_) ?_
      · show if r.y1 ≤ y then (if decide (y < r.y2) = true then K (some (rowV r)) else K none) else (if false = true then K (some (rowV r)) else K none)
        unfold Row.on at hK
        by_cases h1 : r.y1 ≤ y
        · rw [if_pos h1]
          rwa [show decide (r.y1 ≤ y ∧ y < r.y2) = decide (y < r.y2) from decide_eq_decide.mpr ⟨(·.2), fun h => ⟨h1, h⟩⟩, apply_ite K] at hK
        · rw [if_neg h1]
          rwa [show decide (r.y1 ≤ y ∧ y < r.y2) = false from decide_eq_false fun h => h1 h.1] at hK
      rw [List.nil_append, fm_filter]
      generalize hso : rs.filter (fun r => r.on y) = so
      have hmem : ∀ r ∈ so, RwOk y r := fun r h => hr r (List.mem_filter.mp (hso.symm ▸ h)).1
      have hlen : so.length < 64 := Nat.lt_of_le_of_lt (hso ▸ List.length_filter_le _ _) hz
      have hdv := (bot_dv so 1 (by decide) fun r h => (hmem r h).2.1).2
      refine ⟨le100 rfl, by rw [List.length_map]; omega, ?_⟩
      refine forL_inv (fun xs l => ∃ (b : Int) (x : PV), l = [.int b, .lst (so.map rowV), .int y, .lst (rs.map rowV), x, .unb] ∧ (∀ r ∈ xs, RwOk y r) ∧ botL xs b = botL so 1) ?_ ?_ so _ ⟨1, _, rfl, hmem, rfl⟩
      · rintro r xs l k ⟨b, x, rfl, hx, hf⟩ hk
        have h1 := (hx r (.head _)).2
        refine ⟨.inr ⟨?_, ?_⟩, hk _ ⟨b * r.den, _, rfl, fun q hq => hx q (.tail _ hq), hf⟩⟩
        · have := h1.1; show -9223372036854775807 ≤ r.den; omega
        · have := h1.2; show r.den ≤ 9223372036854775807; omega
      rintro l ⟨b, x, rfl, _, hf⟩
      have hf : b = botL so 1 := hf
      generalize hB : botL so 1 = B at *
      subst hf
      show (enumL (so.map rowV)).length ≤ 1000 ∧ _
      rw [enum_zip]
      refine ⟨by rw [List.length_map, List.length_zipIdx]; omega, ?_⟩
      refine compL_fm (g := fun q : Row × Nat => some (pairV (pl b y q.1, (q.2 : Int)))) so.zipIdx [] (fun q hq K hK => ?_) ?_
      · have hq := hmem q.1 (List.mem_of_getElem? (List.mem_zipIdx_iff_getElem?.mp hq))
        exact ⟨q.1, y, rfl, hq.1.1, q.1, y, rfl, hq.1.1, ⟨hq.2.1, hq.2.2⟩, hq.1.2.mul, le100 rfl, hK⟩
      rw [List.nil_append, map_fm]
      refine ⟨so.zipIdx.map fun q => (pl b y q.1, (q.2 : Int)), by rw [List.map_map]; rfl, by rw [List.length_map, List.length_zipIdx]; exact hlen, fun p hp => ?_, fun i j => pair_inj hlen i j, fun l' pm pw => ?_⟩
      · obtain ⟨q, hq, rfl⟩ := List.mem_map.mp hp
        have := (List.getElem?_eq_some_iff.mp (List.mem_zipIdx_iff_getElem?.mp hq)).1
        exact ⟨Int.natCast_nonneg _, by show (q.2 : Int) < 64; omega⟩
      refine ⟨by rw [List.length_map, pm.length_eq, List.length_map, List.length_zipIdx]; omega, ?_⟩
      refine compL_fm (g := fun q : Int × Int => some (crV ((atR so q.2).cr y))) l' [] (fun q hq K hK => ?_) ?_
      · obtain ⟨z, hz, e⟩ := List.mem_map.mp (pm.mem_iff.mp hq)
        have h1 := List.mem_zipIdx_iff_getElem?.mp hz
        have h2 := (List.getElem?_eq_some_iff.mp h1).1
        subst e
        have ez : atR so (z.2 : Int) = z.1 := by unfold atR; rw [Int.toNat_natCast, h1]; rfl
        have h3 : ((z.2 : Int)) < so.length := Int.ofNat_lt.mpr h2
        have hm := hmem z.1 (List.mem_of_getElem? h1)
        exact idx_row (by omega) (Int.natCast_nonneg _) h3 ⟨atR so (z.2 : Int), y, rfl, ez.symm ▸ hm.1.1, idx_row (by omega) (Int.natCast_nonneg _) h3 ⟨le100 rfl, hK⟩⟩
      rw [List.nil_append, map_fm, show (fun q : Int × Int => crV ((atR so q.2).cr y)) = crV ∘ fun q : Int × Int => (atR so q.2).cr y from rfl, ← List.map_map, cross_sorted (B := b) (h := fun j => (atR so j).cr y) hdv (Nat.le_of_lt hlen) pm pw fun q hq => ?_, ← on_of hso.symm]
      · exact hp
      · unfold atR; rw [Int.toNat_natCast, List.mem_zipIdx_iff_getElem?.mp hq]; rfl

end --W10
section --W11
section
variable (w : World)
theorem n_crossed : nsIn (hd.heap_1 w.params) mainGlobals "_law_crossed" = some (some (.ref 210)) ∧ keepIn (hd.heap_1 w.params) (.ref 210) = true := by constructor <;> k_is
theorem n_wind : nsIn (hd.heap_1 w.params) mainGlobals "winding_at" = some (some (.ref 75)) ∧ keepIn (hd.heap_1 w.params) (.ref 75) = true := by constructor <;> k_is
theorem n_between : nsIn (hd.heap_1 w.params) mainGlobals "sides_between" = some (some (.ref 165)) ∧ keepIn (hd.heap_1 w.params) (.ref 165) = true := by constructor <;> k_is
end
theorem flat_cr (cs : List Cr) : (cs.map crV).all (PV.flat 7) = true := List.all_eq_true.mpr fun v hv => by
  obtain ⟨c, _, rfl⟩ := List.mem_map.mp hv
  rfl
theorem flat_row (rs : List Row) : (rs.map rowV).all (PV.flat 7) = true := List.all_eq_true.mpr fun v hv => by
  obtain ⟨c, _, rfl⟩ := List.mem_map.mp hv
  rfl
theorem wind_sum (x : Int) : ∀ (cs : List Cr) (a : Int), cs.foldl (fun a c => if c.num ≤ x * c.den then a + c.way else a) a = a + ((cs.filter fun c => decide (c.num ≤ x * c.den)).map Cr.way).sum
  | [], a => (Int.add_zero a).symm
  | c :: cs, a => by
    rw [List.foldl_cons, wind_sum x cs, List.filter_cons]
    by_cases h : c.num ≤ x * c.den
    · rw [if_pos h, decide_eq_true h, if_pos rfl, List.map_cons, List.sum_cons, Int.add_assoc]
    · rw [if_neg h, decide_eq_false h, if_neg Bool.false_ne_true]
noncomputable def W_rowRight (ps : List PV) (P : PV → Prop) : Prop := ∃ (rs : List Row) (y : Int), ps = [.src, .lst (rs.map .side), .lst (rs.map rowV), .int y] ∧ ((∀ r ∈ rs, RwOk y r) ∧ rs.length < 64) ∧ P (.bool true)
theorem f_rowRight {w : World} (hT : FSpec w 179 true 1 80 W_take) : FSpec w 215 true 4 320 W_rowRight :=
  s_law_row_right (WT := wt [W_crossed, W_cross, W_take, W_wind]) (kb := 3) (ub := 240) (gok_cons (oneF f_crossed (by decide) (by decide) (by decide) (n_crossed w).1 (n_crossed w).2) (gok_cons (oneF f_crossings (by decide) (by decide) (by decide) (n_crossings w).1 (n_crossings w).2)
    (gok_cons (oneF hT (by decide) (by decide) (by decide) (n_take w).1 (n_take w).2) (gok_cons (oneF f_wind (by decide) (by decide) (by decide) (n_wind w).1 (n_wind w).2) gok_nil))))
    fun ps P ⟨rs, y, e, ⟨hr, hz⟩, hp⟩ => by
      have hc : (∀ r ∈ rs, CrOk y r) ∧ rs.length ≤ 100 := ⟨fun r h => (hr r h).1, by omega⟩
      refine ⟨_, _, _, _, e, rs, y, rfl, ⟨hr, hz⟩, rs, y, rfl, hc, ⟨flat_cr _, flat_cr _⟩, fun _ => ?_, fun hn => absurd rfl hn⟩
      refine ⟨19, rfl, ⟨by omega, by omega⟩, fun d d0 d1 => ⟨le100 rfl, Nat.le_of_ble_eq_true rfl, ?_⟩⟩
      refine forL_inv (f := PV.int) (fun xs l => ∃ x ws, l = [x, .src, .lst (rs.map .side), .lst (rs.map rowV), .int y, .lst ((crossL y rs).map crV), ws] ∧ ∀ x ∈ xs, Sm x) ?_ ?_ [d - 9, 9] _ ⟨_, _, rfl, fun x hx => ?_⟩
      · rintro x xs l k ⟨x0, ws, rfl, hx⟩ hk
        have hsx := hx x (.head _)
        refine ⟨by rw [List.length_map]; have := crossL_len y rs; omega, ?_⟩
        refine compL_fm (g := fun c : Cr => if decide (c.num ≤ x * c.den) = true then some (.int c.way) else none) (crossL y rs) [] (fun c _ K hK => ⟨hsx.mul, ?_⟩) ?_
        · show if decide (c.num ≤ x * c.den) = true then K (some (.int c.way)) else K none
          rwa [apply_ite K] at hK
        rw [List.nil_append, fm_filter]
        refine ⟨rs, x, y, rfl, ⟨hc, hsx⟩, ((crossL y rs).filter fun c => decide (c.num ≤ x * c.den)).map Cr.way, by rw [List.map_map]; rfl, ?_⟩
        show if (windL x (crossL y rs) != _) = true then _ else k _
        rw [show windL x (crossL y rs) = (((crossL y rs).filter fun c => decide (c.num ≤ x * c.den)).map Cr.way).sum from (wind_sum x _ 0).trans (Int.zero_add _), bne_self_eq_false, if_neg Bool.false_ne_true]
        exact hk _ ⟨_, _, rfl, fun z hz => hx z (.tail _ hz)⟩
      · rintro l ⟨x, ws, rfl, _⟩
        exact hp
      · unfold Sm
        rcases List.mem_cons.mp hx with rfl | hx
        · omega
        · rw [List.mem_singleton.mp hx]; omega

end --W11
section --W12
theorem btw_some {low high : Int} {r : Row} (h : low < high) (hr : r.y1 < r.y2) : ((List.range (high - low).toNat).filterMap fun j : Nat => if r.on (low + (j : Int)) = true then some (PV.int (low + (j : Int))) else none) ≠ [] ↔ btw low high r = true := by
  rw [fm_filter (f := fun j : Nat => PV.int (low + (j : Int))) (p := fun j : Nat => r.on (low + (j : Int)))]
  unfold btw
  rw [Bool.and_eq_true, decide_eq_true_iff, decide_eq_true_iff]
  constructor
  · intro hne
    obtain ⟨v, hv⟩ := List.exists_mem_of_ne_nil _ hne
    obtain ⟨j, hj, _⟩ := List.mem_map.mp hv
    obtain ⟨hj, hon⟩ := List.mem_filter.mp hj
    have hj := List.mem_range.mp hj
    have hon := of_decide_eq_true (show decide (r.y1 ≤ low + (j : Int) ∧ low + (j : Int) < r.y2) = true from hon)
    omega
  · rintro ⟨h1, h2⟩ he
    have hj : (max low r.y1 - low).toNat ∈ (List.range (high - low).toNat).filter fun j : Nat => r.on (low + (j : Int)) := by
      refine List.mem_filter.mpr ⟨List.mem_range.mpr (by omega), ?_⟩
      unfold Row.on
      exact decide_eq_true (by omega)
    rw [List.map_eq_nil_iff.mp he] at hj
    cases hj
theorem flat_ints {α : Type} {f : α → Int} {p : α → Bool} (l : List α) : (l.filterMap fun a => if p a = true then some (PV.int (f a)) else none).all (PV.flat 7) = true := List.all_eq_true.mpr fun v hv => by
  rw [fm_filter (f := fun a => PV.int (f a))] at hv
  obtain ⟨c, _, rfl⟩ := List.mem_map.mp hv
  rfl
noncomputable def W_betweenRight (ps : List PV) (P : PV → Prop) : Prop := ∃ rs : List Row, ps = [.src, .lst (rs.map .side)] ∧ ((∀ r ∈ rs, r.y1 < r.y2) ∧ rs.length < 64) ∧ P (.bool true)
theorem f_betweenRight {w : World} (hT : FSpec w 179 true 1 80 W_take) : FSpec w 220 true 2 160 W_betweenRight :=
  s_law_between_right (WT := wt [W_take, W_covers, W_row, W_between]) (kb := 1) (ub := 80) (gok_cons (oneF hT (by decide) (by decide) (by decide) (n_take w).1 (n_take w).2) (gok_cons (oneM f_covers (Nat.le_refl _) (Nat.le_refl _) (by decide) (m_covers w).1.1 (m_covers w).1.2.1 (m_covers w).1.2.2 (attr_all (by decide)) (m_covers w).2)
    (gok_cons (oneM f_row (Nat.le_refl _) (Nat.le_refl _) (by decide) (m_row w).1.1 (m_row w).1.2.1 (m_row w).1.2.2 (attr_all (by decide)) (m_row w).2) (gok_cons (oneF f_between (Nat.le_refl _) (Nat.le_refl _) (by decide) (n_between w).1 (n_between w).2) gok_nil))))
    fun ps P ⟨rs, e, ⟨hr, hz⟩, hp⟩ => by
      refine ⟨_, _, e, 11, rfl, ⟨by omega, by omega⟩, fun d1 a1 b1 => ⟨6, rfl, ⟨by omega, by omega⟩, fun d2 a2 b2 => ?_⟩⟩
      have hm : (rs.map PV.side).length ≤ 1000 := by rw [List.length_map]; omega
      refine ⟨hm, ?_⟩
      refine compL_fm (g := fun r : Row => if btw (d1 - 6) (d1 - 6 + 1 + d2) r = true then some (rowV r) else none) rs [] (fun r hrm K hK => ?_) ?_
      · refine ⟨⟨by omega, by omega, by omega, by omega⟩, by unfold rangeL; rw [List.length_map, List.length_range]; omega, ?_⟩
        refine compL_fm (f := fun j : Nat => PV.int ((d1 - 6) + (j : Int))) (g := fun j : Nat => if r.on ((d1 - 6) + (j : Int)) = true then some (PV.int ((d1 - 6) + (j : Int))) else none) _ [] (fun j _ K' hK' => ⟨r, (d1 - 6) + (j : Int), rfl, ?_⟩) ?_
        · show if r.on ((d1 - 6) + (j : Int)) = true then K' (some _) else K' none
          rwa [apply_ite K'] at hK'
        rw [List.nil_append]
        refine ⟨le100 rfl, ⟨flat_ints _, rfl⟩, fun he => ?_, fun hn => ?_⟩
        · rw [if_neg fun h => (btw_some (by omega) (hr r hrm)).mpr h he] at hK
          exact hK
        · rw [if_pos ((btw_some (by omega) (hr r hrm)).mp hn)] at hK
          exact ⟨r, rfl, hK⟩
      rw [List.nil_append, fm_filter]
      refine ⟨rs, (d1 - 6), (d1 - 6 + 1 + d2), rfl, by omega, by rw [List.length_map]; exact Nat.le_trans (List.length_filter_le _ _) (by omega), ?_⟩
      refine compL_fm (g := fun r : Row => some (rowV r)) (rs.filter (btw (d1 - 6) (d1 - 6 + 1 + d2))) [] (fun r _ K hK => ⟨r, rfl, hK⟩) ?_
      rw [List.nil_append, map_fm]
      exact ⟨⟨flat_row _, flat_row _⟩, fun _ => hp, fun hn => absurd rfl hn⟩

end --W12
section --X2
/-! nought right of all; what the law's rows are -/
section
variable {y : Int}
noncomputable def gy (y : Int) (p : Pt) : Int := if y < p.2 then 1 else 0
noncomputable def wayOn (y : Int) (r : Row) : Int := if r.on y = true then r.way else 0
noncomputable def sumW (y : Int) (rs : List Row) : Int := (rs.map (wayOn y)).sum
theorem way_pr (p q : Pt) : sumW y (mkSide p q).toList = gy y q - gy y p := by
  unfold mkSide gy
  by_cases h1 : p.2 = q.2
  · rw [if_pos h1, h1, Int.sub_self]; rfl
  rw [if_neg h1]
  by_cases h2 : p.2 < q.2
  · rw [if_pos h2]
    show wayOn y ⟨p.1, p.2, q.1, q.2, 1⟩ + 0 = _
    unfold wayOn Row.on
    simp only [decide_eq_true_eq]
    try dsimp only
    split <;> split <;> split <;> omega
  · rw [if_neg h2]
    show wayOn y ⟨q.1, q.2, p.1, p.2, -1⟩ + 0 = _
    unfold wayOn Row.on
    simp only [decide_eq_true_eq]
    try dsimp only
    split <;> split <;> split <;> omega
theorem sumW_app (a b : List Row) : sumW y (a ++ b) = sumW y a + sumW y b := by
  unfold sumW
  rw [List.map_append, List.sum_append]
theorem sumW_fm : ∀ l : List (Pt × Pt), sumW y (l.filterMap fun q => mkSide q.1 q.2) = (l.map fun q => gy y q.2 - gy y q.1).sum
  | [] => rfl
  | q :: l => by
    have e : (q :: l).filterMap (fun q => mkSide q.1 q.2) = (mkSide q.1 q.2).toList ++ l.filterMap fun q => mkSide q.1 q.2 := by
      rw [List.filterMap_cons]
      cases mkSide q.1 q.2 <;> rfl
    rw [e, sumW_app, way_pr, sumW_fm l]
    rfl
theorem tele (d : Pt) : ∀ (a : Pt) (l : List Pt), (((a :: l).zip ((a :: l).drop 1)).map fun q => gy y q.2 - gy y q.1).sum = gy y ((a :: l).getD l.length d) - gy y a
  | a, [] => (Int.sub_self _).symm
  | a, b :: l => by
    have ih := tele d b l
    show (gy y b - gy y a) + (((b :: l).zip ((b :: l).drop 1)).map fun q => gy y q.2 - gy y q.1).sum = _
    rw [ih]
    show _ = gy y ((b :: l).getD l.length d) - gy y a
    omega
theorem closed_zero {pts : List Pt} (h : 1 ≤ pts.length) : sumW y (sidesC pts true) = 0 := by
  match pts, h with
  | a :: l, _ =>
    unfold sidesC prs
    rw [sumW_fm, List.map_append, List.sum_append, tele (0, 0)]
    show gy y ((a :: l).getD l.length (0, 0)) - gy y a + (gy y a - gy y ((a :: l).getD l.length (0, 0)) + 0) = 0
    omega
theorem whole_zero : ∀ {cts : List Ct}, (∀ c ∈ cts, 1 ≤ c.1.length) → sumW y (sidesAll cts true) = 0
  | [], _ => rfl
  | c :: cts, h => by
    have e : sidesAll (c :: cts) true = sidesC c.1 true ++ sidesAll cts true := List.flatMap_cons
    rw [e, sumW_app, closed_zero (h c (.head _)), whole_zero fun d hd => h d (.tail _ hd)]
    rfl
theorem ins_sum (acc : List Cr) (c : Cr) : ((insCr acc c).map Cr.way).sum = (acc.map Cr.way).sum + c.way := by
  unfold insCr
  have e : (acc.map Cr.way).sum = ((acc.take (insPos acc c acc.length)).map Cr.way).sum + ((acc.drop (insPos acc c acc.length)).map Cr.way).sum := by
    rw [← List.sum_append, ← List.map_append, List.take_append_drop]
  rw [List.map_append, List.sum_append, List.map_cons, List.sum_cons, e]
  omega
theorem cross_sum : ∀ (rs : List Row) (acc : List Cr), ((rs.foldl (crStep y) acc).map Cr.way).sum = (acc.map Cr.way).sum + sumW y rs
  | [], acc => (Int.add_zero _).symm
  | r :: rs, acc => by
    rw [List.foldl_cons, cross_sum rs]
    show _ = (acc.map Cr.way).sum + (wayOn y r + sumW y rs)
    unfold crStep wayOn
    by_cases h : r.on y = true
    · rw [if_pos h, if_pos h, ins_sum]
      show _ + r.way + _ = _
      omega
    · rw [if_neg h, if_neg h]
      omega
theorem cross_mem : ∀ (rs : List Row) (acc : List Cr), ∀ c ∈ rs.foldl (crStep y) acc, c ∈ acc ∨ ∃ r ∈ rs, r.on y = true ∧ c = r.cr y
  | [], _, c, h => .inl h
  | r :: rs, acc, c, h => by
    rcases cross_mem rs _ c h with h | ⟨q, hq, e⟩
    · unfold crStep at h
      by_cases on : r.on y = true
      · rw [if_pos on] at h
        unfold insCr at h
        rcases List.mem_append.mp h with h | h
        · exact .inl (List.mem_of_mem_take h)
        rcases List.mem_cons.mp h with rfl | h
        · exact .inr ⟨r, .head _, on, rfl⟩
        · exact .inl (List.mem_of_mem_drop h)
      · rw [if_neg on] at h
        exact .inl h
    · exact .inr ⟨q, .tail _ hq, e⟩
theorem wind_zero {x : Int} {rs : List Row} (hs : sumW y rs = 0) (hr : ∀ r ∈ rs, r.on y = true → r.num y ≤ x * r.den) : windL x (crossL y rs) = 0 := by
  unfold windL
  rw [wind_sum, Int.zero_add]
  have e : ((crossL y rs).filter fun c => decide (c.num ≤ x * c.den)) = crossL y rs := List.filter_eq_self.mpr fun c hc => by
    rcases cross_mem rs [] c hc with h | ⟨r, hr', on, rfl⟩
    · cases h
    · exact decide_eq_true (hr r hr' on)
  rw [e]
  have := cross_sum (y := y) rs []
  rw [hs] at this
  exact this
end

end --X2
section --X3
/-- a row of the law's points -/
noncomputable def BdR (r : Row) : Prop := ((-8 ≤ r.x1 ∧ r.x1 ≤ 8) ∧ (-8 ≤ r.x2 ∧ r.x2 ≤ 8)) ∧ (-4 ≤ r.y1 ∧ r.y1 < r.y2 ∧ r.y2 ≤ 4)
theorem mk_bd {p q : Pt} {r : Row} (hp : PtOk p) (hq : PtOk q) (h : mkSide p q = some r) : BdR r := by
  unfold mkSide at h
  obtain ⟨a, b⟩ := hp
  obtain ⟨c, d⟩ := hq
  by_cases h1 : p.2 = q.2
  · rw [if_pos h1] at h; cases h
  rw [if_neg h1] at h
  by_cases h2 : p.2 < q.2
  · rw [if_pos h2] at h; cases h; exact ⟨⟨a, c⟩, b.1, h2, d.2⟩
  · rw [if_neg h2] at h; cases h; exact ⟨⟨c, a⟩, d.1, by show q.2 < p.2; omega, b.2⟩
theorem prs_mem {pts : List Pt} {b : Bool} (h : 1 ≤ pts.length) {q : Pt × Pt} (hq : q ∈ prs pts b) : q.1 ∈ pts ∧ q.2 ∈ pts := by
  have gd : ∀ i, i < pts.length → pts.getD i (0, 0) ∈ pts := fun i hi => by
    rw [List.getD_eq_getElem?_getD, List.getElem?_eq_getElem hi]
    exact List.getElem_mem _
  unfold prs at hq
  rcases List.mem_append.mp hq with hq | hq
  · obtain ⟨a, c⟩ := List.of_mem_zip (a := q.1) (b := q.2) hq
    exact ⟨a, List.mem_of_mem_drop c⟩
  · cases b with
    | false => cases hq
    | true =>
      rw [List.mem_singleton.mp hq]
      exact ⟨gd _ (by omega), gd _ h⟩
theorem all_bd {cts : List Ct} {b : Bool} (h : CtsOk cts) : ∀ r ∈ sidesAll cts b, BdR r := fun r hr => by
  obtain ⟨c, hc, hr⟩ := List.mem_flatMap.mp hr
  obtain ⟨q, hq, e⟩ := List.mem_filterMap.mp hr
  obtain ⟨⟨h2, _⟩, hp⟩ := h.2 c hc
  obtain ⟨m1, m2⟩ := prs_mem (by omega) hq
  exact mk_bd (hp _ m1) (hp _ m2) e
theorem all_len {cts : List Ct} {b : Bool} (h : CtsOk cts) : (sidesAll cts b).length < 64 := by
  have go : ∀ l : List Ct, (∀ c ∈ l, c.1.length ≤ 5) → (sidesAll l b).length ≤ l.length * 6 := by
    intro l
    induction l with
    | nil => exact fun _ => Nat.le_refl _
    | cons c l ih =>
      intro hl
      have e : sidesAll (c :: l) b = sidesC c.1 (b || c.2) ++ sidesAll l b := List.flatMap_cons
      have h1 : (sidesC c.1 (b || c.2)).length ≤ (prs c.1 (b || c.2)).length := List.length_filterMap_le _ _
      have h2 := prs_len c.1 (b || c.2)
      have h3 := hl c (.head _)
      have h4 := ih fun d hd => hl d (.tail _ hd)
      rw [e, List.length_append, List.length_cons]
      omega
  have := go cts fun c hc => (h.2 c hc).1.2
  have := h.1.2
  omega
theorem bd_ok {y : Int} {r : Row} (h : BdR r) (hy : -5 ≤ y ∧ y ≤ 5) : RwOk y r := by
  obtain ⟨⟨a, b⟩, c⟩ := h
  have q1 := mul_bd (a := r.x1) (b := r.y2 - r.y1) (A := 8) (B := 8) a.1 a.2 (by omega) (by omega)
  have q2 := mul_bd (a := r.x2 - r.x1) (b := y - r.y1) (A := 16) (B := 9) (by omega) (by omega) (by omega) (by omega)
  refine ⟨⟨⟨⟨by omega, by omega⟩, by omega, by omega⟩, ?_⟩, by unfold Row.den; omega, by unfold Row.den; omega⟩
  unfold Sm Row.num
  omega
theorem bd_right {y : Int} {r : Row} (h : BdR r) (on : r.on y = true) : r.num y ≤ 9 * r.den := by
  obtain ⟨⟨a, b⟩, c⟩ := h
  have on := of_decide_eq_true (show decide (r.y1 ≤ y ∧ y < r.y2) = true from on)
  have e : r.num y = r.x1 * (r.y2 - y) + r.x2 * (y - r.y1) := by
    unfold Row.num
    have : r.y2 - r.y1 = (r.y2 - y) + (y - r.y1) := by omega
    rw [this, Int.mul_add, Int.sub_mul]
    omega
  have h1 := Int.mul_le_mul_of_nonneg_right a.2 (show 0 ≤ r.y2 - y by omega)
  have h2 := Int.mul_le_mul_of_nonneg_right b.2 (show 0 ≤ y - r.y1 by omega)
  rw [e]
  unfold Row.den
  omega
theorem CtsOk.ct {cts : List Ct} (h : CtsOk cts) : CtOk cts := ⟨by have := h.1.2; omega, fun c hc => ⟨(h.2 c hc).1.1, by have := (h.2 c hc).1.2; omega⟩⟩

end --X3
section --W13
noncomputable def c_law : CS := .set2 true (nat_lit 1) (nat_lit 168004000012) (nat_lit 2) (nat_lit 168014000024) (nat_lit 0) (nat_lit 168004000024) (.callF (nat_lit 0) (nat_lit 168028000041) (.cons (.loc (nat_lit 0) (nat_lit 168042000048)) .nil) (nat_lit 168028000049)) (.cmp .Eq (.callF (nat_lit 1) (nat_lit 168051000060) (.cons (.loc (nat_lit 0) (nat_lit 168061000067)) (.cons (.con (.int 2) (nat_lit 168069000070)) .nil)) (nat_lit 168051000071)) (.con (.int 0) (nat_lit 168075000076)) (nat_lit 168051000076)) (nat_lit 0) (nat_lit 168027000077) (nat_lit 168004000077) (.set2 true (nat_lit 3) (nat_lit 169004000009) (nat_lit 4) (nat_lit 169011000015) (nat_lit 0) (nat_lit 169004000015) (.callF (nat_lit 2) (nat_lit 169019000027) (.cons (.loc (nat_lit 1) (nat_lit 169028000036)) (.cons (.loc (nat_lit 2) (nat_lit 169038000048)) .nil)) (nat_lit 169019000049)) (.callF (nat_lit 3) (nat_lit 169051000060) (.cons (.loc (nat_lit 1) (nat_lit 169061000069)) (.cons (.loc (nat_lit 2) (nat_lit 169071000081)) .nil)) (nat_lit 169051000082)) (nat_lit 0) (nat_lit 169018000083) (nat_lit 169004000083) (.set (nat_lit 5) (nat_lit 170004000009) (.callF (nat_lit 2) (nat_lit 170012000020) (.cons (.loc (nat_lit 1) (nat_lit 170021000029)) .nil) (nat_lit 170012000030)) (nat_lit 170004000030) (.ite (.bop true (.cmpL true (.comp (.loc (nat_lit 3) (nat_lit 171031000036)) ["side"] (nat_lit 171023000027) (nat_lit 0) (nat_lit 0) (nat_lit 0) [] .nil (.callM (nat_lit 4) (nat_lit 0) (nat_lit 171008000012) (nat_lit 171008000016) .nil (nat_lit 171008000018)) ⟨.function, [(".0", .local),("side", .local)], false, false, []⟩ (nat_lit 171007000037)) (.loc (nat_lit 4) (nat_lit 171041000045)) (nat_lit 171007000045)) (.cmpL true (.comp (.loc (nat_lit 5) (nat_lit 171073000078)) ["side"] (nat_lit 171065000069) (nat_lit 0) (nat_lit 0) (nat_lit 0) [] .nil (.callM (nat_lit 4) (nat_lit 0) (nat_lit 171050000054) (nat_lit 171050000058) .nil (nat_lit 171050000060)) ⟨.function, [(".0", .local),("side", .local)], false, false, []⟩ (nat_lit 171049000079)) (.callF (nat_lit 3) (nat_lit 171083000092) (.cons (.loc (nat_lit 1) (nat_lit 171093000101)) (.cons (.con (.bool true) (nat_lit 171103000107)) .nil)) (nat_lit 171083000108)) (nat_lit 171049000108)) (nat_lit 171007000108)) (.ret (.con (.bool false) (nat_lit 172015000020)) (nat_lit 172008000020)) .done (nat_lit 171004001020) (.forT [(nat_lit 6)] (nat_lit 173008000009) (nat_lit 0) (nat_lit 0) (nat_lit 0) (.disp false (.cons (.bin .Sub (.callF (nat_lit 1) (nat_lit 173014000023) (.cons (.loc (nat_lit 0) (nat_lit 173024000030)) (.cons (.con (.int 10) (nat_lit 173032000034)) .nil)) (nat_lit 173014000035)) (.con (.int 5) (nat_lit 173038000039)) (nat_lit 173014000039)) (.cons (.ite (.cmpL true (.loc (nat_lit 4) (nat_lit 173055000059)) (.disp false .nil (nat_lit 0) (nat_lit 173063000065)) (nat_lit 173055000065)) (.item (.lidx (nat_lit 4) (nat_lit 173041000045) (.con (.int 0) (nat_lit 173046000047)) (nat_lit 173041000048)) (nat_lit 1) (nat_lit 173049000050) (nat_lit 173041000051)) (.con (.int 0) (nat_lit 173071000072)) (nat_lit 173041000072)) .nil)) (nat_lit 0) (nat_lit 173013000073)) (.ite (.bop true (.not (.callF (nat_lit 5) (nat_lit 174015000029) (.cons (.loc (nat_lit 0) (nat_lit 174030000036)) (.cons (.loc (nat_lit 3) (nat_lit 174038000043)) (.cons (.loc (nat_lit 4) (nat_lit 174045000049)) (.cons (.loc (nat_lit 6) (nat_lit 174051000052)) .nil)))) (nat_lit 174015000053)) (nat_lit 174011000053)) (.cmp .NotEq (.callF (nat_lit 6) (nat_lit 174057000067) (.cons (.loc (nat_lit 5) (nat_lit 174068000073)) (.cons (.con (.int 9) (nat_lit 174075000076)) (.cons (.loc (nat_lit 6) (nat_lit 174078000079)) .nil))) (nat_lit 174057000080)) (.con (.int 0) (nat_lit 174084000085)) (nat_lit 174057000085)) (nat_lit 174011000085)) (.ret (.con (.bool false) (nat_lit 175019000024)) (nat_lit 175012000024)) .done (nat_lit 174008001024) .done) (nat_lit 173004002024) (.ret (.bop false (.callF (nat_lit 7) (nat_lit 176011000029) (.cons (.loc (nat_lit 0) (nat_lit 176030000036)) (.cons (.loc (nat_lit 3) (nat_lit 176038000043)) .nil)) (nat_lit 176011000044)) (.callF (nat_lit 8) (nat_lit 176049000067) (.cons (.loc (nat_lit 0) (nat_lit 176068000074)) .nil) (nat_lit 176049000075)) (nat_lit 176011000075)) (nat_lit 176004000075))))))
noncomputable def g_law : List GE := [⟨"_law_contours", 193, true, false⟩, ⟨"_law_take", 179, true, false⟩, ⟨"sides_of", 160, false, false⟩, ⟨"_law_rows", 198, false, false⟩, ⟨"row", 117, false, true⟩, ⟨"_law_row_right", 215, true, false⟩, ⟨"winding_at", 75, false, false⟩, ⟨"_law_between_right", 220, true, false⟩, ⟨"_law_samples_right", 234, true, false⟩]
noncomputable def W_samples (ps : List PV) (P : PV → Prop) : Prop := ps = [.src] ∧ P (.bool true)
noncomputable def wLaw : List WF := [W_contours, W_take, W_sidesOf, W_rows, W_row, W_rowRight, W_wind, W_betweenRight, W_samples]
theorem law_turn {cts : List Ct} {b : Bool} {c0 c1 z : PV} {y : Int} {k : List PV → Prop} {R : PV → Prop} (hc : CtsOk cts) (hy : -5 ≤ y ∧ y ≤ 5) (hk : k [.src, c0, c1, .lst ((sidesAll cts b).map .side), .lst ((sidesAll cts b).map rowV), .lst ((sidesAll cts true).map .side), .int y]) :
    tgtL [6] (.int y) [.src, c0, c1, .lst ((sidesAll cts b).map .side), .lst ((sidesAll cts b).map rowV), .lst ((sidesAll cts true).map .side), z] fun l => wpS (wt wLaw) (match c_law with | .set2 _ _ _ _ _ _ _ _ _ _ _ _ (.set2 _ _ _ _ _ _ _ _ _ _ _ _ (.set _ _ _ _ (.ite _ _ _ _ (.forT _ _ _ _ _ _ body _ _)))) => body | _ => .done) l k R := by
  have bd := all_bd (b := b) hc
  have bt := all_bd (b := true) hc
  have lt := all_len (b := true) hc
  refine ⟨sidesAll cts b, y, rfl, ⟨fun r hr => bd_ok (bd r hr) hy, all_len hc⟩, sidesAll cts true, 9, y, rfl, ⟨⟨fun r hr => (bd_ok (bt r hr) hy).1, by omega⟩, by decide, by decide⟩, ?_⟩
  have e : windL 9 (crossL y (sidesAll cts true)) = 0 := wind_zero (whole_zero fun c hc' => Nat.le_trans (by decide) (hc.2 c hc').1.1) fun r hr on => bd_right (bt r hr) on
  show if (windL 9 (crossL y (sidesAll cts true)) != 0) = true then _ else k _
  rw [e]
  exact hk
theorem law_rest {P : PV → Prop} (hp : P (.bool true)) : wpS (wt wLaw) c_law [.src, .unb, .unb, .unb, .unb, .unb, .unb] (fun _ => P .none) P := by
  refine ⟨rfl, fun cts hc => ⟨2, rfl, ⟨by omega, by omega⟩, fun d d0 d1 => ⟨le100 rfl, ?_⟩⟩⟩
  have bd := all_bd (b := d == 0) hc
  have ln : ∀ b, (sidesAll cts b).length < 64 := fun b => all_len hc
  have hm : ∀ b, ((sidesAll cts b).map PV.side).length ≤ 1000 := fun b => by rw [List.length_map]; have := ln b; omega
  refine ⟨cts, d == 0, .inl rfl, hc.ct, cts, d == 0, rfl, hc.ct, le100 rfl, cts, true, .inr ⟨rfl, rfl⟩, hc.ct, hm _, ?_⟩
  refine compL_fm (g := fun r : Row => some (rowV r)) (sidesAll cts (d == 0)) [] (fun r _ K hK => ⟨r, rfl, hK⟩) ?_
  rw [List.nil_append, map_fm]
  refine ⟨⟨flat_row _, flat_row _⟩, fun _ => ⟨hm _, ?_⟩, fun hn => absurd rfl hn⟩
  refine compL_fm (g := fun r : Row => some (rowV r)) (sidesAll cts true) [] (fun r _ K hK => ⟨r, rfl, hK⟩) ?_
  rw [List.nil_append, map_fm]
  refine ⟨cts, true, rfl, hc.ct, ⟨flat_row _, flat_row _⟩, fun _ => ⟨10, rfl, ⟨by omega, by omega⟩, fun e e0 e1 => ⟨le100 rfl, ?_⟩⟩, fun hn => absurd rfl hn⟩
  have fin : ∀ y2 : Int, (-5 ≤ y2 ∧ y2 ≤ 5) → forL (fun p loc K => tgtL [6] p loc fun l => wpS (wt wLaw) (match c_law with | .set2 _ _ _ _ _ _ _ _ _ _ _ _ (.set2 _ _ _ _ _ _ _ _ _ _ _ _ (.set _ _ _ _ (.ite _ _ _ _ (.forT _ _ _ _ _ _ body _ _)))) => body | _ => .done) l K P) [.int (e - 5), .int y2]
      [.src, .lst (cts.map ctV), .bool (d == 0), .lst ((sidesAll cts (d == 0)).map .side), .lst ((sidesAll cts (d == 0)).map rowV), .lst ((sidesAll cts true).map .side), .unb] (fun l => wpS (wt wLaw) (match c_law with | .set2 _ _ _ _ _ _ _ _ _ _ _ _ (.set2 _ _ _ _ _ _ _ _ _ _ _ _ (.set _ _ _ _ (.ite _ _ _ _ (.forT _ _ _ _ _ _ _ _ r)))) => r | _ => .done) l (fun _ => P .none) P) := fun y2 hy => by
    refine law_turn hc ⟨by omega, by omega⟩ (law_turn hc hy ?_)
    exact ⟨sidesAll cts (d == 0), rfl, ⟨fun r hr => (bd r hr).2.2.1, ln _⟩, rfl, hp⟩
  refine ⟨⟨flat_row _, rfl⟩, fun _ => ⟨le100 rfl, Nat.le_of_ble_eq_true rfl, fin 0 ⟨by decide, by decide⟩⟩, fun hn => ?_⟩
  have h0 : 0 < (sidesAll cts (d == 0)).length := by
    rcases Nat.eq_zero_or_pos (sidesAll cts (d == 0)).length with h | h
    · exact absurd (by rw [List.length_eq_zero_iff.mp h]; rfl) hn
    · exact h
  have hb : BdR (atR (sidesAll cts (d == 0)) 0) := by
    unfold atR
    rw [show (0 : Int).toNat = 0 from rfl, List.getElem?_eq_getElem h0]
    exact bd _ (List.getElem_mem h0)
  exact idx_row (by have := ln (d == 0); omega) (Int.le_refl 0) (by omega) ⟨le100 rfl, Nat.le_of_ble_eq_true rfl, fin (atR (sidesAll cts (d == 0)) 0).y1 ⟨by have := hb.2; omega, by have := hb.2; omega⟩⟩

end --W13
section --K1
section
local macro_rules | `(tactic| k_all) => `(tactic| assumption)
local macro_rules | `(tactic| k_room) => `(tactic| ktr_room)
local macro_rules | `(tactic| k_units) => `(tactic| ktr_units)
local macro_rules | `(tactic| units_room) => `(tactic| ktr_units)
theorem src_mul (a c : Int) : IntMulOk ([a, c.fmod 2147483647].getD (Int.toNat 1) 0) ([a, c.fmod 2147483647].getD (Int.toNat 1) 0) := by
  have h1 : (0 : Int) ≤ c.fmod 2147483647 := Int.fmod_nonneg_of_pos _ (by decide)
  have h2 : c.fmod 2147483647 < 2147483647 := Int.fmod_lt_of_pos _ (by decide)
  show IntMulOk (c.fmod 2147483647) (c.fmod 2147483647)
  exact IntMulOk.of_right (intBits_le_64 (by omega) (by omega))
local macro_rules | `(tactic| mul_fits) => `(tactic| exact src_mul _ _)
theorem f_take {w : World} : FSpec w 179 true 1 80 W_take := by
  intro src h₀ L A m s S I R vs ps P Q E fc F lo hs r hw ans
  obtain ⟨top, rfl, ⟨h1, h2⟩, hp⟩ := hw
  obtain ⟨sa, sb, ta, tb, ⟨sk1, sk2, sk3⟩, rfl⟩ := hs
  obtain ⟨x, y, rfl⟩ := len_two r.1
  obtain ⟨t, rfl⟩ := int_of r.tl.hd
  have e : x = .ref src := by cases r.hd; rfl
  subst e
  obtain ⟨dp, un, ⟨gd, cn, cs, a, ccd, cl, outer, rfl, ⟨hk, hol⟩, A₀, base, B⟩, ⟨hdp, hu⟩, X, p, loose, mean, mg, mb, T⟩ := fc
  have N : News h₀ L s.heap ((src, srcO sa sb ta tb) :: (I ++ R)) := lo.1
  have hoff : ∀ q ∈ I ++ R, q.1 ≠ src := lo.off
  have nd : LedOk h₀ L s.heap (I ++ R) := lo.tl
  refine wpAny_call ?_
  k_dflt cell_enter
  k_steps
  · exact ans _ (.int _) _ _ I [(src, srcO (sa.fdiv top) sb _ _)] (fun _ h => h) (hp _ (Int.fmod_nonneg_of_pos _ (by omega)) (Int.fmod_lt_of_pos _ (by omega))) (.int _ _) (by assumption) (nd.put (by assumption) hoff) ⟨_, _, _, _, ⟨Int.fdiv_nonneg sk1 (by omega), sk2, sk3⟩, rfl⟩
  · exact ans _ (.int _) _ _ I [(src, srcO sa ((sb * 39373 + 7).fmod 2147483647) _ _)] (fun _ h => h) (hp _ (Int.fmod_nonneg_of_pos _ (by omega)) (Int.fmod_lt_of_pos _ (by omega))) (.int _ _) (by assumption) (nd.put (by assumption) hoff) ⟨_, _, _, _, ⟨sk1, Int.fmod_nonneg_of_pos _ (by omega), Int.fmod_lt_of_pos _ (by omega)⟩, rfl⟩
end

end --K1
section --K2
section
local macro_rules | `(tactic| k_all) => `(tactic| assumption)
local macro_rules | `(tactic| k_room) => `(tactic| ktr_room)
local macro_rules | `(tactic| k_units) => `(tactic| ktr_units)
local macro_rules | `(tactic| units_room) => `(tactic| ktr_units)
theorem f_Side {w : World} : FSpec w 134 false 4 320 W_Side := by
  intro src h₀ L A m s S I R vs ps P Q E fc F lo hs rr hw ans
  obtain ⟨r, rfl, hp⟩ := hw
  obtain rfl : S = [] := hs
  obtain ⟨v1, vs, rfl⟩ : ∃ v l, vs = v :: l := by cases vs with | nil => exact nomatch rr.1 | cons v l => exact ⟨v, l, rfl⟩
  obtain ⟨v2, v3, v4, v5, rfl⟩ := len_four rr.tl.1
  obtain ⟨t1, rfl⟩ := int_of rr.hd
  obtain ⟨t2, rfl⟩ := int_of rr.tl.hd
  obtain ⟨t3, rfl⟩ := int_of rr.tl.tl.hd
  obtain ⟨t4, rfl⟩ := int_of rr.tl.tl.tl.hd
  obtain ⟨t5, rfl⟩ := int_of rr.tl.tl.tl.tl.hd
  obtain ⟨dp, un, ⟨gd, cn, cs, a, ccd, cl, outer, rfl, ⟨hk, hol⟩, A₀, base, B⟩, ⟨hdp, hu⟩, X, p, loose, mean, mg, mb, T⟩ := fc
  have N : News h₀ L s.heap (I ++ R) := lo.1
  have nd : LedOk h₀ L s.heap (I ++ R) := lo
  refine' call_cls F X N ?hm ?hi ?hf ?_
  case hm => k_is
  case hi => k_is
  case hf => k_is
  intro x dx h1 F1 N1 lt1 lt2
  have o1 : ∀ p ∈ I ++ R, p.1 ≠ dx := fun p hp => Nat.ne_of_lt (lt1 p hp)
  have o2 : x ≠ dx := Nat.ne_of_gt lt2
  have o3 : ∀ p ∈ I ++ R, p.1 ≠ x := fun p hp => Nat.ne_of_lt (Nat.lt_trans (lt1 p hp) lt2)
  k_dflt cell_enter
  k_steps
  rename News _ _ _ _ => N2
  rename Fr _ _ _ _ => F2
  refine ans (.ref x) (.side r) _ _ (_ :: _ :: I) [] (fun q hq => .tail _ (.tail _ hq)) hp (.side ⟨x, dx, _, _, _, _, _, _, _, _, _, _, rfl, .head _, .tail _ (.head _)⟩) ?_ ((nd.put (fun q hq => N2 q (.tail _ hq)) o1).put N2 fun q hq => ?_) rfl
  · assumption
  · rcases List.mem_cons.mp hq with rfl | hq
    · exact Ne.symm o2
    · exact o3 q hq
end

end --K2
section --X4
/-! an exception's class whose base has its own __init__ -/
section
variable {prog : Program} {w : World} {A : Around} {E : Value → Shared → Prop} {h : Heap} {g : Array GenState} {d : Drawn} {t : Nat} {os : OsState} {K : Frag}
variable {nm q : Str} {C N : Addr} {bs bm bmB : List Value} {hdct : Bool} {sn : List Str} {sub : List Value} {ab : Bool} {col : Option Bool} {dd : Option Addr} {k0 k1 k2 k3 k5 : Option Value} {B newId initId : String}
theorem xc_check (F : ExcBaseFacts B newId initId bmB) {M : Model} {rest : List Value} {Q : Unit → Shared → Prop} (hC : h.get? C = some (excClassObj nm q C N bs bm hdct sn sub ab col dd k0 k1 k2 k3 k5 newId)) (hcB : (Value.ref C :: bm).contains (.type B) = true)
    (hq : Q () ⟨h, g, d, t, os⟩) : wpAny M A (checkBuiltinCall newId ⟨.ref C :: rest, []⟩) Q E ⟨h, g, d, t, os⟩ := by
  have hstar := F.noStar
  simp only [checkBuiltinCall, F.newKind, F.newSplit, F.newRow]
  repeat (first | refine wpAny_loadPart_at hC ?_ | (refine wpAny_isSubtype_exc hC ?_; rw [hcB]) | refine wpAny_staticBase_exc hC ?_ | refine wpAny_madeBy_exc hC ?_ | simp only [bne_self_eq_false, Bool.false_eq_true, if_false] | wp_step)
  exact hq
theorem xc_new (F : ExcBaseFacts B newId initId bmB) {R : Result → Shared → Prop} {rest : List Value} (hC : h.get? C = some (excClassObj nm q C N bs bm hdct sn sub ab col dd k0 k1 k2 k3 k5 newId)) (hcB : (Value.ref C :: bm).contains (.type B) = true)
    (hcA : (Value.ref C :: bm).contains (.type "AttributeError") = false) (hcN : (Value.ref C :: bm).contains (.type "NameError") = false)
    (hq : R (.ok (.ret (.ref (h.objs.size + 1)))) ⟨(h.push { cls := .type "tuple", data := .seq rest.toArray }).push { cls := .ref C, data := .fields #[.ref h.objs.size, .none, .none, .none, .bool false, .none] }, g, d, t, os⟩) (hrest : rest.length ≤ sizeLine) :
    codeAny (model prog w) A (.builtin newId ⟨.ref C :: rest, []⟩) R ⟨h, g, d, t, os⟩ := by
  have hends := F.ends
  refine codeAny_builtinAt F.entry ?_
  unfold Builtin.«BaseException.__new__»
  refine PySem.wpAt_bind ?_
  show PySem.wpAt _ _ _ (stack >>= _) _ _ _
  refine PySem.wpAt_bind (PySem.wpAt_stack fun p below => PySem.wpAt_of_wpAny ?_)
  wp_walk
  refine PySem.wpAt_of_wpAny ?_
  rw [F.owner]
  repeat (first | with_reducible refine wpAny_madeHere_exc F.canon hC ?_ | with_reducible refine wpAny_loadPart_at hC ?_ | (with_reducible refine wpAny_isSubtype_exc hC ?_; first | rw [hcB] | rw [hcA] | rw [hcN]) | wp_step)
  show R _ _
  rw [Heap.size_push]
  exact hq
theorem xc_make (F : ExcBaseFacts B newId initId bmB) {rest : List Value} {fI : Addr} {Q : Fin → Shared → Prop} (hC : h.get? C = some (excClassObj nm q C N bs bm hdct sn sub ab col dd k0 k1 k2 k3 k5 newId)) (hcB : (Value.ref C :: bm).contains (.type B) = true)
    (hcA : (Value.ref C :: bm).contains (.type "AttributeError") = false) (hcN : (Value.ref C :: bm).contains (.type "NameError") = false) (X : K.In h) (hi : findIn K (.ref C) "__init__" = some (some (.ref fI))) (hf : typeIn K (.ref fI) = some (.type "function"))
    (hq : ∀ h' e, Heap.MadeExcOf h h' e (.ref C) rest → wpAny (model prog w) A (call (.ref fI) (.ref e :: rest)) (fun r s' => r = .none ∧ Q (.done (.ret (.ref e))) s') E ⟨h', g, d, t, os⟩) (hrest : rest.length ≤ sizeLine) :
    wpAny (model prog w) A (Builtin.«type.__call__» ⟨.ref C :: rest, []⟩) Q E ⟨h, g, d, t, os⟩ := by
  repeat (first | with_reducible refine wpAny_loadPart_at hC ?_ | with_reducible refine wpAny_madeBy_exc hC ?_ | wp_step)
  refine codeAny_call_builtin_code (Code.quiet_builtin _ F.quiet) (xc_check F hC hcB ?_)
  refine xc_new F hC hcB hcA hcN ?_ hrest
  show wpAny _ _ _ _ _ _
  have k : ∀ b o, h.get? b = some o → ((h.push { cls := .type "tuple", data := .seq rest.toArray }).push { cls := .ref C, data := .fields #[.ref h.objs.size, .none, .none, .none, .bool false, .none] }).get? b = some o := fun b o e => Heap.get?_push_of_some _ (Heap.get?_push_of_some _ e)
  have hC₁ := k _ _ hC
  have X₁ : K.In ((h.push { cls := .type "tuple", data := .seq rest.toArray }).push { cls := .ref C, data := .fields #[.ref h.objs.size, .none, .none, .none, .bool false, .none] }) := fun b o e => k b o (X b o e)
  have hget : ((h.push { cls := .type "tuple", data := .seq rest.toArray }).push { cls := .ref C, data := .fields #[.ref h.objs.size, .none, .none, .none, .bool false, .none] }).get? (h.objs.size + 1) = some { cls := .ref C, data := .fields #[.ref h.objs.size, .none, .none, .none, .bool false, .none] } := by heap_get
  have hcC : (Value.ref C :: bm).contains (.ref C) = true := by simp
  unfold isInstance
  repeat (first | with_reducible refine wpAny_loadPart_at hget ?_ | (with_reducible refine wpAny_isSubtype_exc hC₁ ?_; rw [hcC]) | wp_step)
  show wpAny _ _ (typeLookup (.ref C) _) _ _ _
  refine (looks_findIn X₁ hi).here ?_
  refine wpAny_holding (wpAny_bind ((bind_fn X₁ _ hf).here ?_))
  refine wpAny_bind (wpAny_mono (hq _ (h.objs.size + 1) ⟨k, Heap.get?_none_of_le (Nat.le_succ _), h.objs.size, hget, Heap.get?_none_of_le (Nat.le_refl _), ?_⟩) (fun r s' hr => ?_) fun _ _ x => x)
  · exact Heap.get?_push_of_some _ (Heap.get?_push_at rfl rfl)
  · obtain ⟨rfl, hQ⟩ := hr
    wp_walk
    exact hQ
theorem xc_call (F : ExcBaseFacts B newId initId bmB) {rest : List Value} {fI : Addr} {Q : Value → Shared → Prop} (hC : h.get? C = some (excClassObj nm q C N bs bm hdct sn sub ab col dd k0 k1 k2 k3 k5 newId)) (hcB : (Value.ref C :: bm).contains (.type B) = true)
    (hcA : (Value.ref C :: bm).contains (.type "AttributeError") = false) (hcN : (Value.ref C :: bm).contains (.type "NameError") = false) (X : K.In h) (hi : findIn K (.ref C) "__init__" = some (some (.ref fI))) (hf : typeIn K (.ref fI) = some (.type "function"))
    (hq : ∀ h' e, Heap.MadeExcOf h h' e (.ref C) rest → wpAny (model prog w) (A.under (.builtin "type.__call__" ⟨.ref C :: rest, []⟩)) (call (.ref fI) (.ref e :: rest)) (fun r s' => r = .none ∧ Q (.ref e) s') E ⟨h', g, d, t, os⟩) (hrest : rest.length ≤ sizeLine) :
    wpAny (model prog w) A (call (.ref C) rest) Q E ⟨h, g, d, t, os⟩ := by
  have f1 := tc_lookup
  have f2 := tc_bind (.ref C)
  have hT : (⟨h, g, d, t, os⟩ : Shared).TypeIs (.ref C) "type" := ⟨_, hC, rfl⟩
  refine wpAny_call (codeAny_of_tree ?_)
  show wpAny _ _ (callAny (.ref C) _) _ _ _
  repeat (any_goals (first | assumption | with_reducible refine wpAny_loadPart_at hC ?_ | wp_step))
  refine ⟨rfl, ?_⟩
  refine codeAny_call_builtin_at (Code.quiet_builtin _ (by decide +kernel)) entry_typeCall (wpAny_check_type_call_sub hC (xc_make F hC hcB hcA hcN X hi hf (fun h' e hm => ?_) hrest))
  exact hq h' e hm
end

end --X4
section --X5
open Builtin Builtin.ObjectAttr Builtin.Getset_descriptor
/-! an attribute set on a fresh exception of an own class -/
section
variable {prog : Program} {w : World} {A : Around} {E : Value → Shared → Prop} {s : Shared} {K : Frag} {x C C2 : Addr} {vs : Array Value} {sl : Array (Option Value)} {name : Str} {v : Value} {cd : ClassData}
theorem xs_open {R : Result → Shared → Prop} {tk : Tok} (X : K.In s.heap) (I : InstAt s.heap x ⟨.ref C, none, .fields vs, sl⟩ C none) (hc : clsIn K C = some cd) (hm : cd.mro = [.ref C, .ref C2, .type "Exception", .type "BaseException", .type "object"])
    (ht : findIn K (.ref C) name = some none)
    (h : wpAny (model prog w) A.in1 (storeInOwnDict (.ref x) (.ref C) (.str name tk) name v false)
      (fun fin s' => match fin with | .done f => R (.ok f) s' | .again c' => c'.quiet = true ∧ codeAny (model prog w) A c' R s') (fun e s' => R (.error e) s') s) :
    codeAny (model prog w) A (.call (.builtin "object.__setattr__") ⟨[.ref x, .str name tk, v], []⟩) R s := by
  have SF := PySem.F.store_object
  have hm' : Looks (model prog w) s.heap (mroOf (.ref C)) cd.mro := (looks_clsIn X hc).andThen .now
  rw [hm] at hm'
  have sub : Looks (model prog w) s.heap (isInstance (.ref x) (.type "object")) true := I.type.andThen (looks_mroIn X (by unfold mroIn; rw [hc, Option.bind_some, hm]; simp))
  refine codeAny_call_builtin SF.slot.plain SF.entry (@check_slot (model prog w) _ _ s "object.__setattr__" "object" "__setattr__" (.ref x) [.str name tk, v] [] _ SF.kind SF.split sub (SF.args (.ref x) (.str name tk) v) ?_)
  rw [osa_eq, refuse_eq]
  refine wpAny_bind (wpAny_bind (I.type.here (wpAny_bind (hm'.here ?_))))
  rw [refuseLoop_ref, refuseLoop_ref, PySem.F.store_Exception.passes]
  refine wpAny_pure (wpAny_bind (I.type.here (wpAny_bind ((looks_findIn X ht).here (wpAny_bind (wpAny_pure ?_))))))
  exact h
theorem xs_set {Q : Unit → Shared → Prop} (X : K.In s.heap) (hx : s.heap.get? x = some ⟨.ref C, none, .fields vs, sl⟩) (hc : clsIn K C = some cd) (hm : cd.mro = [.ref C, .ref C2, .type "Exception", .type "BaseException", .type "object"]) (hd : cd.hasDict = true)
    (hs : findIn K (.ref C) "__setattr__" = some (some (.builtin "object.__setattr__"))) (ht : findIn K (.ref C) name = some none)
    (h : ∀ h' tk' dx, (∀ b o, b ≠ x → s.heap.get? b = some o → h'.get? b = some o) → h'.get? x = some ⟨.ref C, some dx, .fields vs, sl⟩ → Q () { s with heap := h', toks := tk' }) :
    wpAny (model prog w) A (setAttr (.ref x) name v) Q E s := by
  obtain ⟨hp, g, d, t, os⟩ := s
  dsimp only at X hx h
  have I : InstAt hp x ⟨.ref C, none, .fields vs, sl⟩ C none := ⟨hx, rfl, rfl, trivial⟩
  refine set_plain X I hs ?_
  refine xs_open X I hc hm ht ?_
  unfold storeInOwnDict
  refine wpAny_bind (wpAny_pure (wpAny_bind (wpAny_bind (wpAny_loadPart hx (wpAny_bind ((looks_clsIn X hc).here ?_))))))
  rw [hd]
  have hx₁ : (hp.push { cls := .type "dict", data := .dict #[] }).get? x = some ⟨.ref C, none, .fields vs, sl⟩ := Heap.get?_push_of_some _ hx
  have hxs : x ≠ hp.objs.size := Nat.ne_of_lt (Heap.lt_size hx)
  refine wpAny_bind (wpAny_alloc' ?_)
  refine wpAny_bind (wpAny_update' hx₁ ?_)
  refine wpAny_pure ?_
  have hgd : ((hp.push { cls := .type "dict", data := .dict #[] }).update x fun o => { cls := o.cls, dict := some hp.objs.size, data := o.data, slots := o.slots }).get? hp.objs.size
      = some { cls := .type "dict", data := .dict #[] } :=
    (Heap.get?_update_ne _ _ _ _ hxs.symm).trans (Heap.get?_push_at rfl rfl)
  have hnd : ((hp.push { cls := .type "dict", data := .dict #[] }).update x fun o => { cls := o.cls, dict := some hp.objs.size, data := o.data, slots := o.slots }).Ns hp.objs.size (fun _ => none) :=
    ⟨_, #[], _, hgd, rfl, fun e he => absurd he (by simp), fun _ => rfl⟩
  show wpAny _ _ (storeInDict hp.objs.size (.str name _) name v) _ _ _
  unfold storeInDict newKeyGuard
  refine wpAny_bind (wpAny_pure (wpAny_bind (wpAny_nsSet1 (Heap.Ns1.of_empty hnd) fun h' hn' hs => ?_)))
  obtain ⟨oD, esD, epD, hoD, hdD, hcD⟩ := hn'.count (Within.cons name v Within.nil)
  refine wpAny_bind (wpAny_lookBehind hoD (by rw [hdD]; exact pastItsLine_dict (Nat.le_trans hcD (by rw [List.length_cons, List.length_nil, sizeLine_eq]; omega))) ?_)
  wp_walk
  refine h h' _ hp.objs.size (fun b ob hbx hb => ?_) ?_
  · exact (hs.2 b (Nat.ne_of_lt (Heap.lt_size hb))).trans ((Heap.get?_update_ne _ _ _ _ hbx).trans (Heap.get?_push_of_some _ hb))
  · exact (hs.2 x hxs).trans (Heap.get?_update_self _ hx₁ rfl)
end

end --X5
section --X6
/-! a fault of an own class with an own base: made, raised, flying, caught -/
theorem xk44 (P : Params) : ∃ nm qn N bs sn sub ab col dd k0 k1 k2 k3 k5, (hd.heap_1 P).lookup 44 = some (excClassObj nm qn 44 N bs [.ref 31, .type "Exception", .type "BaseException", .type "object"] true sn sub ab col dd k0 k1 k2 k3 k5 "Exception.__new__") :=
  ⟨_, _, _, _, _, _, _, _, _, _, _, _, _, _, rfl⟩
theorem xk44c (P : Params) : ∃ cd, clsIn (hd.heap_1 P) 44 = some cd ∧ cd.mro = [.ref 44, .ref 31, .type "Exception", .type "BaseException", .type "object"] ∧ cd.hasDict = true := ⟨_, rfl, rfl, rfl⟩
theorem xk44i (P : Params) : findIn (hd.heap_1 P) (.ref 44) "__init__" = some (some (.ref 28)) ∧ typeIn (hd.heap_1 P) (.ref 28) = some (.type "function") ∧ findIn (hd.heap_1 P) (.ref 44) "__setattr__" = some (some (.builtin "object.__setattr__")) ∧ findIn (hd.heap_1 P) (.ref 44) "message" = some none := by
  refine ⟨?_, ?_, ?_, ?_⟩ <;> k_is
theorem xk44n (P : Params) : nsIn (hd.heap_1 P) mainGlobals "SizeFault" = some (some (.ref 44)) := by k_is
abbrev xobj (t : Addr) (dx : Option Addr) : Obj := ⟨.ref 44, dx, .fields #[.ref t, .none, .none, .none, .bool false, .none], #[]⟩
section
variable {w : World} {A : Around} {E Q : Value → Shared → Prop} {s : Shared} {e t f : Addr} {v : Value}
/-- a def is entered: all of the heap stays -/
theorem enterR {name qual : Str} {params : Arguments} {body : List Stmt} {scope : Scope} {dV kV doc pm cdv ct oc : Value} {an od : Option Addr} {osl : Array (Option Value)} {vs : List Value} (binds : List (Str × Value))
    (hroom : A.depth < recursionLimit) (X : (hd.heap_1 w.params).In s.heap) (nl : s.heap.NoLimit) (ho : (hd.heap_1 w.params).lookup f = some ⟨oc, od, .func (fnOf name qual params body scope dV kV doc pm an cdv ct), osl⟩) (hcd : codeIn (hd.heap_1 w.params) cdv qual = true)
    (hb : BindsTo s (fnOf name qual params body scope dV kV doc pm an cdv ct) ⟨vs, []⟩ binds) (hc : (scope.names.all fun x => x.2 != .cell) = true) (hl : (binds.all fun x => scope.names.lookup x.1 == some .local) = true)
    (h : ∀ L h₁ tk, h₁.Ns L (fun x => binds.reverse.lookup x) → s.heap.StaysIn h₁ → s.heap.get? L = none → s.heap.objs.size ≤ L → wpAny (model pg w) (A.deeper (envOf qual scope L f cdv)) (execs body (envOf qual scope L f cdv)) (fun fl s' => Q (match fl with | .ret v => v | _ => .none) s')
      (fun e s' => wpAny (model pg w) (A.deeper (envOf qual scope L f cdv)) (leaving (envOf qual scope L f cdv) e) (fun _ s'' => E e s'') (fun e' s'' => E e' s'') s') { s with heap := h₁, toks := tk })
    (hco : scope.isCoroutine = false) (hgen : scope.isGenerator = false) (hk : scope.kind = .function) : wpAny (model pg w) A (call (.ref f) vs) Q E s :=
  wpAny_call (codeAny_call_def hroom (X f _ ho) rfl nl (codeRec_of X hcd) rfl hb (fun x hx => by simpa using List.all_eq_true.mp hc x hx) (fun x hx => by simpa using List.all_eq_true.mp hl x hx)
    (fun h₁ hns hk => h _ h₁ _ hns hk (Heap.get?_none_of_le (Nat.le_refl _)) (Nat.le_refl _)) hco hgen hk)
/-- MillError.__init__ -/
theorem r_init (hroom : A.depth < recursionLimit) (X : (hd.heap_1 w.params).In s.heap) (nl : s.heap.NoLimit) (he : s.heap.get? e = some (xobj t none))
    (q : ∀ h' tk' dx, (∀ b o, b ≠ e → s.heap.get? b = some o → h'.get? b = some o) → h'.get? e = some (xobj t (some dx)) → Q .none { s with heap := h', toks := tk' }) :
    wpAny (model pg w) A (call (.ref 28) [.ref e, v]) Q E s := by
  refine enterR [("self", .ref e), ("message", v)] hroom X nl (by k_is) (by k_is) (BindsTo.of_eq rfl) (by decide) (by kernel_rfl) (fun L h₁ tk hns st _ le => ?_) rfl rfl rfl
  have F : Fr s.heap L h₁ _ := ⟨hns, st, le⟩
  refine wpAny_execs_cons (plainObj_wpAny_Assign_Attribute (nameX_L (cl := []) (s := { s with heap := h₁, toks := tk }) F (v := v) rfl (nameX_L (cl := []) (s := { s with heap := h₁, toks := tk }) F (v := .ref e) rfl ?_)))
  obtain ⟨cd, c1, c2, c3⟩ := xk44c w.params
  have i := xk44i w.params
  exact xs_set (s := { s with heap := h₁, toks := tk }) (X.keeps st) (st _ _ he) c1 c2 c3 i.2.2.1 i.2.2.2 fun h' tk' dx k hx => wpAny_execs_nil (q h' tk' dx (fun b o hb ho => k b o hb (st b o ho)) hx)
end
abbrev frs (l : List Env) : List Addr := l.filterMap (·.frame)
/-- a fault flies over these frames -/
noncomputable def Fly (l : List Env) (h h' : Heap) (e : Addr) : Prop := (∃ a0, Heap.FlyingW (hideAll h (frs l)) l e (.ref 44) a0 h') ∧ h.UpToSlots h'
theorem frs_mem {h base : Heap} {l : List Env} (F : h.FunFrames base l) {b : Addr} (hb : b ∈ frs l) : ∃ o, h.get? b = some o := by
  obtain ⟨env, he, hf⟩ := List.mem_filterMap.mp hb
  obtain ⟨L, o, hL, ho⟩ := funFrames_in F env he
  rw [hL] at hf
  cases hf
  exact ⟨o, ho⟩
theorem frs_cons {env : Env} {l : List Env} {L : Addr} (hf : env.frame = some L) : frs (env :: l) = L :: frs l := by
  show List.filterMap _ _ = _
  rw [List.filterMap_cons, hf]
section
variable {M : Model} {A : Around} {E : Value → Shared → Prop} {s : Shared} {h h2 base : Heap} {l : List Env} {env : Env} {L e : Addr} {m : Str → Option Value} {oe : Obj} {vs : Array Value} {a0 : Value} {Q : Unit → Shared → Prop}
theorem fly_first (hfr : A.frames = some l) (FF : h.FunFrames base l) (hk : env.scope.kind = .function) (hf : env.frame = some L) (hL : h.get? L = none) (hn : s.heap.Ns L m) (st : h.StaysIn s.heap)
    (he : s.heap.get? e = some oe) (hcls : oe.cls = .ref 44) (hd : oe.data = .fields vs) (h1 : vs[1]? = some .none) (h0 : vs[0]? = some a0) (hen : h.get? e = none)
    (q : ∀ h', Fly l h h' e → Q () { s with heap := h' }) : wpAny M (A.deeper env) (leaving env (.ref e)) Q E s := by
  have nb : ∀ {b}, h.get? b = none → (hideAll h (frs l)).get? b = none := fun {b} hb => by
    cases q : (hideAll h (frs l)).get? b with
    | none => rfl
    | some o => have := of_hideAll _ q; rw [hb] at this; cases this
  have fr : s.heap.FunFrames (hideAll h (frs l)) (env :: l) :=
    .cons (by rw [hk]; decide) hf hn (nb hL) ((funFrames_hide FF fun env he a ha => List.mem_filterMap.mpr ⟨env, he, ha⟩).of_keeps fun b o e _ => ⟨o, st b o e, rfl⟩)
  refine wpAny_leaving_firstW (Around.frames_deeper hfr) fr hf he (fun b o x => st b o (of_hideAll _ x)) (nb hen) hd h1 h0 fun h' hl => ?_
  obtain ⟨k1, ⟨_, _, k2⟩, k3, k4⟩ := hl
  exact q h' ⟨⟨a0, k1, nb hen, k2, hcls ▸ k3⟩, (Heap.UpToSlots.of_keeps st).trans k4⟩
theorem fly_next {h1 : Heap} (hfr : A.frames = some l) (hf : env.frame = some L) (hL : h.get? L = none) (st : h.StaysIn h1) (fl : Fly (env :: l) h1 s.heap e)
    (q : ∀ h', Fly l h h' e → Q () { s with heap := h' }) : wpAny M (A.deeper env) (leaving env (.ref e)) Q E s := by
  obtain ⟨⟨a0, x⟩, up⟩ := fl
  have sb : (hideAll h (frs l)).StaysIn (hideAll h1 (frs (env :: l))) := fun b o hb => by
    have hb' := of_hideAll _ hb
    refine hideAll_get _ (st b o hb') fun hm => ?_
    rw [frs_cons hf] at hm
    rcases List.mem_cons.mp hm with z | z
    · rw [z, hL] at hb'; cases hb'
    · rw [hideAll_none _ z] at hb; cases hb
  refine wpAny_leaves_onW (Around.frames_deeper hfr) hf (flyingW_base sb x) fun h' y1 y2 => q h' ⟨⟨a0, y1⟩, (Heap.UpToSlots.of_keeps st).trans (up.trans y2)⟩
end
section
variable {M : Model} {A : Around} {E : Value → Shared → Prop} {env : Env} {nm q : Str} {C N : Addr} {bs bm : List Value} {hdct : Bool} {sn : List Str} {sub : List Value} {ab : Bool} {col : Option Bool} {dd : Option Addr} {k0 k1 k2 k3 k5 : Option Value} {newId : String}
theorem xr_stmt {s : Shared} {x : Sem Value} {Q : Flow → Shared → Prop} (hbase : bm.contains (.type "BaseException") = true) (hh : A.handled = none)
    (h : wpAny M A x (fun v s₁ => ∃ e t dx, v = .ref e ∧ s₁.heap.get? C = some (excClassObj nm q C N bs bm hdct sn sub ab col dd k0 k1 k2 k3 k5 newId) ∧
      s₁.heap.get? e = some ⟨.ref C, dx, .fields #[.ref t, .none, .none, .none, .bool false, .none], #[]⟩ ∧ E (.ref e) s₁) E s) :
    wpAny M A (raiseStmt env (some x) none) Q E s := by
  have hcB : (Value.ref C :: bm).contains (.type "BaseException") = true := by rw [List.contains_cons, hbase, Bool.or_true]
  unfold raiseStmt
  refine wpAny_bind (wpAny_mono h (fun v s₁ h₁ => ?_) fun _ _ x => x)
  obtain ⟨e, t, dx, rfl, hC, he, hE⟩ := h₁
  obtain ⟨hp, g, d, tk, os⟩ := s₁
  repeat (first | with_reducible refine wpAny_loadPart_at he ?_ | with_reducible refine wpAny_loadPart_at hC ?_ | (with_reducible refine wpAny_isSubtype_exc hC ?_; rw [hcB]) | wp_step)
  exact wpAny_raiseNew_none hh hE
end

end --X6
section --X7
section
variable {w : World} {A : Around} {E : Value → Shared → Prop} {s : Shared} {h₀ : Heap} {L a : Addr} {m : Str → Option Value} {cn : Str} {cs : Scope} {ccd : Value} {p : Program} {loose : List Str} {mg mb : Str → Option Value} {np p2 cpos pos : Pos} {msg : Str} {k : Nat} {Q : Flow → Shared → Prop}
theorem keep44 (P : Params) : keepIn (hd.heap_1 P) (.ref 44) = true := by k_is
/-- `raise SizeFault('..')` -/
theorem r_raise (F : Fr h₀ L s.heap m) (X : (hd.heap_1 w.params).In h₀) (T : TopRead p loose mg mb h₀) (hh : A.handled = none) (hroom : A.depth + 1 < recursionLimit) (hk : cs.kind = .function) (hx : (envOf cn cs L a ccd).kindOf "SizeFault" = some .globalImplicit)
    (q : ∀ h' tk' e t dx, s.heap.StaysIn h' → s.heap.get? e = none → h'.get? e = some (xobj t (some dx)) → E (.ref e) { s with heap := h', toks := tk' }) :
    wpAny (model pg w) A (exec (.Raise (some (.Call (.Name "SizeFault" np) [.Constant (.str msg) k p2] [] cpos)) none pos) (envOf cn cs L a ccd)) Q E s := by
  obtain ⟨nm, qn, N, bs, sn, sub, ab, col, dd, k0, k1, k2, k3, k5, hl⟩ := xk44 w.params
  have hC : s.heap.get? 44 = _ := F.keep _ _ (X 44 _ hl)
  have i := xk44i w.params
  rw [arm_exec_Raise]
  show wpAny _ _ (do standAt pos; raiseStmt (envOf cn cs L a ccd) (some (do let v ← eval (.Call (.Name "SizeFault" np) [.Constant (.str msg) k p2] [] cpos) (envOf cn cs L a ccd); standAt pos; pure v)) none) _ _ _
  refine wpAny_bind (wpAny_standAt (xr_stmt (C := 44) (nm := nm) (q := qn) (N := N) (bs := bs) (bm := [.ref 31, .type "Exception", .type "BaseException", .type "object"]) (hdct := true) (sn := sn) (sub := sub) (ab := ab) (col := col) (dd := dd) (k0 := k0) (k1 := k1) (k2 := k2) (k3 := k3) (k5 := k5) (newId := "Exception.__new__") (by decide) hh
    (wpAny_bind (wpAny_mono (Q := fun v s₁ => ∃ e t dx, v = .ref e ∧ s₁.heap.get? 44 = _ ∧ s₁.heap.get? e = some (xobj t dx) ∧ E (.ref e) s₁) ?_ (fun v s₁ h₁ => wpAny_bind (wpAny_standAt (wpAny_pure h₁))) fun _ _ x => x))))
  refine Call_Name rfl (nameX_K (cl := []) F X T (xk44n w.params) (callWith_K (first := []) X (keep44 w.params) (spliced_more (wpAny_Constant_str (spliced_none ⟨fun b o e => F.keep b o (X b o e), ?_⟩)))) hk hx)
  obtain ⟨hp, g, d, tk, os⟩ := s
  refine xc_call PySem.F.excBase_Exception (Q := fun v s₁ => ∃ e t dx, v = .ref e ∧ s₁.heap.get? 44 = _ ∧ s₁.heap.get? e = some (xobj t dx) ∧ E (.ref e) s₁) hC (by decide) (by decide) (by decide) (fun b o e => F.keep b o (X b o e)) i.1 i.2.1 (fun h' e hm => ?_) (by show 1 ≤ sizeLine; rw [sizeLine_eq]; decide)
  obtain ⟨t, ht, htn, htt⟩ := hm.there
  have ne : ∀ {b o}, hp.get? b = some o → b ≠ e := fun {b o} hb z => by rw [z, hm.new] at hb; cases hb
  refine r_init hroom (fun b o x => hm.keeps _ _ (F.keep b o (X b o x))) ((T.nolimit.keeps F.keep).keeps hm.keeps) ht fun h2 tk2 dx kk hx2 => ⟨rfl, e, t, some dx, rfl, kk _ _ (ne hC) (hm.keeps _ _ hC), hx2, q h2 tk2 e t dx (fun b o hb => kk b o (ne hb) (hm.keeps _ _ hb)) hm.new hx2⟩
end

end --X7
section --K3
section
local macro_rules | `(tactic| k_all) => `(tactic| assumption)
local macro_rules | `(tactic| k_room) => `(tactic| ktr_room)
local macro_rules | `(tactic| k_units) => `(tactic| ktr_units)
local macro_rules | `(tactic| units_room) => `(tactic| ktr_units)
noncomputable def Stop3 (P : Prop) : Prop := P
theorem stop3_ {P : Prop} (h : Stop3 P) : P := h
noncomputable def BadStep (fi gr : Int) : Prop := fi < 1 ∨ gr < 1 ∨ gr.fmod (2 * fi) ≠ 0
local macro_rules | `(tactic| walk_at "exec Raise some none") => `(tactic| (k_here; refine stop3_ ?_))
theorem n_stepOf (P : Params) : nsIn (hd.heap_1 P) mainGlobals "step_of" = some (some (.ref 82)) ∧ keepIn (hd.heap_1 P) (.ref 82) = true := by constructor <;> k_is
theorem bad_bd {fi gr : Int} (h : ¬ BadStep fi gr) (b4 : gr < 1000) : 0 ≤ gr.fdiv fi ∧ gr.fdiv fi < 1000 := by
  have h1 : ¬ fi < 1 := fun x => h (.inl x)
  have h2 : ¬ gr < 1 := fun x => h (.inr (.inl x))
  refine ⟨Int.fdiv_nonneg (by omega) (by omega), Int.lt_of_le_of_lt ?_ b4⟩
  rw [Int.fdiv_eq_ediv_of_nonneg _ (by omega)]
  exact Int.ediv_le_self _ (by omega)
section
variable {w : World} {A : Around} {Q E : Value → Shared → Prop} {s : Shared} {base : Heap} {l : List Env} {p : Program} {loose : List Str} {mean : ExcName → Option Value} {mg mb : Str → Option Value}
/-- a def that raises right away -/
theorem r_raises {L a : Addr} {h₁ : Heap} {m : Str → Option Value} {cn : Str} {cs : Scope} {ccd : Value} {np p2 cpos pos : Pos} {msg : Str} {k tk : Nat} {Q' : Flow → Shared → Prop} (B : Below A base l s.heap) (hh : A.handled = none) (hroom : A.depth + 3 < recursionLimit)
    (X : (hd.heap_1 w.params).In s.heap) (T : Top p loose mean mg mb s.heap) (F : Fr s.heap L h₁ m) (nL : s.heap.get? L = none) (hk : cs.kind = .function) (hx : (envOf cn cs L a ccd).kindOf "SizeFault" = some .globalImplicit)
    (he : ∀ h' tk' e, Fly l s.heap h' e → E (.ref e) { s with heap := h', toks := tk' }) :
    wpAny (model pg w) (A.deeper (envOf cn cs L a ccd)) (exec (.Raise (some (.Call (.Name "SizeFault" np) [.Constant (.str msg) k p2] [] cpos)) none pos) (envOf cn cs L a ccd)) Q'
      (fun e s' => wpAny (model pg w) (A.deeper (envOf cn cs L a ccd)) (leaving (envOf cn cs L a ccd) e) (fun _ s'' => E e s'') (fun e' s'' => E e' s'') s') { s with heap := h₁, toks := tk } :=
  r_raise (s := { s with heap := h₁, toks := tk }) F X (topRead_of T) hh (by show A.depth + 1 + 1 < _; omega) hk hx fun h' tk' e t dx st hen hx2 =>
    have nb : s.heap.get? e = none := by
      cases q : s.heap.get? e with
      | none => rfl
      | some o => have := F.keep _ _ q; rw [hen] at this; cases this
    fly_first (s := { s with heap := h', toks := tk' }) B.stack B.frames hk rfl nL (F.ns.keeps st) (fun b o x => st b o (F.keep b o x)) hx2 rfl rfl rfl rfl nb fun h'' fl => he h'' tk' e fl
theorem r_step {fi gr : Int} {t1 t2 : Tok} (B : Below A base l s.heap) (hh : A.handled = none) (hroom : A.depth + 3 < recursionLimit) (X : (hd.heap_1 w.params).In s.heap) (T : Top p loose mean mg mb s.heap)
    (b1 : -1000 < fi) (b2 : fi < 1000) (b3 : -1000 < gr) (b4 : gr < 1000)
    (hq : ¬ BadStep fi gr → ∀ h' tk' t', s.heap.StaysIn h' → Q (.int (gr.fdiv fi) t') { s with heap := h', toks := tk' })
    (he : BadStep fi gr → ∀ h' tk' e, Fly l s.heap h' e → E (.ref e) { s with heap := h', toks := tk' }) : wpAny (model pg w) A (call (.ref 82) [.int fi t1, .int gr t2]) Q E s := by
  refine enterR [("fine", .int fi t1), ("grain", .int gr t2)] (by omega) X T.nolimit (by k_is) (by k_is) (BindsTo.of_eq rfl) (by decide) (by kernel_rfl) (fun L h₁ tk hns st nL le => ?_) rfl rfl rfl
  have F' : Fr s.heap L h₁ (fun y => [(("fine" : Str), Value.int fi t1), ("grain", .int gr t2)].reverse.lookup y) := ⟨hns, st, le⟩
  have N' : News s.heap L h₁ [] := fun _ h => nomatch h
  k_steps
  · exact r_raises B hh hroom X T F' nL rfl rfl (he (.inl (by assumption)))
  · exact r_raises B hh hroom X T F' nL rfl rfl (he (.inr (.inl (by assumption))))
  · exact r_raises B hh hroom X T F' nL rfl rfl (he (.inr (.inr (by assumption))))
  · exact hq (fun h => by rcases h with h | h | h <;> contradiction) h₁ _ _ st
local macro_rules | `(tactic| walk_at "call ref") => `(tactic| (k_here; refine stop3_ ?_))
theorem r_place {nu fi gr : Int} {t0 t1 t2 : Tok} (B : Below A base l s.heap) (hh : A.handled = none) (hroom : A.depth + 4 < recursionLimit) (X : (hd.heap_1 w.params).In s.heap) (T : Top p loose mean mg mb s.heap)
    (b1 : -1000 < fi) (b2 : fi < 1000) (b3 : -1000 < gr) (b4 : gr < 1000) (b5 : -1000 < nu) (b6 : nu < 1000)
    (hq : ¬ BadStep fi gr → ∀ h' tk' t', s.heap.StaysIn h' → Q (.int (nu * gr.fdiv fi + (gr.fdiv fi).fdiv 2) t') { s with heap := h', toks := tk' })
    (he : BadStep fi gr → ∀ h' tk' e, Fly l s.heap h' e → E (.ref e) { s with heap := h', toks := tk' }) : wpAny (model pg w) A (call (.ref 89) [.int nu t0, .int fi t1, .int gr t2]) Q E s := by
  refine enterR [("number", .int nu t0), ("fine", .int fi t1), ("grain", .int gr t2)] (by omega) X T.nolimit (by k_is) (by k_is) (BindsTo.of_eq rfl) (by decide) (by kernel_rfl) (fun L h₁ tk hns st nL le => ?_) rfl rfl rfl
  have F' : Fr s.heap L h₁ (fun y => [(("number" : Str), Value.int nu t0), ("fine", .int fi t1), ("grain", .int gr t2)].reverse.lookup y) := ⟨hns, st, le⟩
  have N' : News s.heap L h₁ [] := fun _ h => nomatch h
  have B' := pushX (env := envOf "sample_place" ⟨.function, [("number", .local), ("fine", .local), ("grain", .local), ("step", .local), ("step_of", .globalImplicit)], false, false, []⟩ L 89 (.ref 88)) B F' rfl rfl
  refine wpAny_execs_cons (wpAny_Assign_Name (Call_Name rfl (nameX_K (cl := []) (s := { s with heap := h₁, toks := tk }) F' X (topRead_of T) (n_stepOf w.params).1 (callWith_K (first := []) X (n_stepOf w.params).2 (spliced_more (nameX_L (cl := []) (s := { s with heap := h₁, toks := tk }) F' rfl (spliced_more (nameX_L (cl := []) (s := { s with heap := h₁, toks := tk }) F' rfl (spliced_none ⟨X.keeps st, ?_⟩)))))))) rfl)
  refine r_step (s := { s with heap := h₁, toks := tk }) B' hh (by show A.depth + 1 + 3 < _; omega) (X.keeps st) (T.keeps st) b1 b2 b3 b4 (fun nb h2 tk2 t3 st2 => ?_) fun bad h2 tk2 e fl => ?_
  · obtain ⟨c1, c2⟩ := bad_bd nb b4
    have F2 : Fr s.heap L h2 (fun y => [(("number" : Str), Value.int nu t0), ("fine", .int fi t1), ("grain", .int gr t2)].reverse.lookup y) := ⟨F'.ns.keeps st2, fun b o x => st2 b o (st b o x), le⟩
    have N2 : News s.heap L h2 [] := fun _ h => nomatch h
    have hq := hq nb
    generalize gr.fdiv fi = z at *
    k_steps
    rename Fr _ _ _ _ => F3
    exact hq _ _ _ F3.keep
  · exact fly_next (h1 := h₁) (s := { s with heap := h2, toks := tk2 }) B.stack rfl nL st fl fun h' fl' => he bad h' tk2 e fl'
theorem rules_in {x : PySem.Str} {u : Tok} {Q : Value → Shared → Prop} (X : (hd.heap_1 w.params).In s.heap) (h : Q (.bool (!((["nonzero", "evenodd"] : List PySem.Str).any (· == x)))) s) : wpAny (model pg w) A (compareOp .NotIn (.str x u) (.ref 47)) Q E s :=
  notin_tuple_strs (ys := ["nonzero", "evenodd"]) ⟨_, X 47 _ rfl, rfl, _, rfl⟩ (by repeat constructor) h
theorem rule_bad {u : Tok} {Q : Value → Shared → Prop} {h₀ : Heap} {L : Addr} {m : PySem.Str → Option Value} (F : Fr h₀ L s.heap m) (X : (hd.heap_1 w.params).In h₀) (h : Q (.bool true) s) : wpAny (model pg w) A (compareOp .NotIn (.str "odd" u) (.ref 47)) Q E s := rules_in (X.keeps F.keep) (by rw [show (!((["nonzero", "evenodd"] : List PySem.Str).any (· == "odd"))) = true by decide]; exact h)
theorem rule_good {u : Tok} {Q : Value → Shared → Prop} {h₀ : Heap} {L : Addr} {m : PySem.Str → Option Value} (F : Fr h₀ L s.heap m) (X : (hd.heap_1 w.params).In h₀) (h : Q (.bool false) s) : wpAny (model pg w) A (compareOp .NotIn (.str "evenodd" u) (.ref 47)) Q E s := rules_in (X.keeps F.keep) (by rw [show (!((["nonzero", "evenodd"] : List PySem.Str).any (· == "evenodd"))) = false by decide]; exact h)
local macro_rules | `(tactic| walk_at "compareOp NotIn str ref") => `(tactic| (k_here; first | refine' rule_bad (by k_asm) (by k_asm) ?_ | refine' rule_good (by k_asm) (by k_asm) ?_))
theorem r_rule {t : Tok} (B : Below A base l s.heap) (hh : A.handled = none) (hroom : A.depth + 3 < recursionLimit) (X : (hd.heap_1 w.params).In s.heap) (T : Top p loose mean mg mb s.heap)
    (he : ∀ h' tk' e, Fly l s.heap h' e → E (.ref e) { s with heap := h', toks := tk' }) : wpAny (model pg w) A (call (.ref 96) [.str "odd" t]) Q E s := by
  refine enterR [("rule", .str "odd" t)] (by omega) X T.nolimit (by k_is) (by k_is) (BindsTo.of_eq rfl) (by decide) (by kernel_rfl) (fun L h₁ tk hns st nL le => ?_) rfl rfl rfl
  have F' : Fr s.heap L h₁ (fun y => [(("rule" : Str), Value.str "odd" t)].reverse.lookup y) := ⟨hns, st, le⟩
  have N' : News s.heap L h₁ [] := fun _ h => nomatch h
  k_steps
  exact r_raises B hh hroom X T F' nL rfl rfl he
theorem r_rule2 {t : Tok} (hroom : A.depth + 3 < recursionLimit) (X : (hd.heap_1 w.params).In s.heap) (T : Top p loose mean mg mb s.heap)
    (hq : ∀ h' tk', s.heap.StaysIn h' → Q .none { s with heap := h', toks := tk' }) : wpAny (model pg w) A (call (.ref 96) [.str "evenodd" t]) Q E s := by
  refine enterR [("rule", .str "evenodd" t)] (by omega) X T.nolimit (by k_is) (by k_is) (BindsTo.of_eq rfl) (by decide) (by kernel_rfl) (fun L h₁ tk hns st nL le => ?_) rfl rfl rfl
  have F' : Fr s.heap L h₁ (fun y => [(("rule" : Str), Value.str "evenodd" t)].reverse.lookup y) := ⟨hns, st, le⟩
  have N' : News s.heap L h₁ [] := fun _ h => nomatch h
  k_steps
  exact hq _ _ st
end
end

end --K3
section --K4
section
local macro_rules | `(tactic| k_all) => `(tactic| assumption)
local macro_rules | `(tactic| k_room) => `(tactic| ktr_room)
local macro_rules | `(tactic| k_units) => `(tactic| ktr_units)
local macro_rules | `(tactic| units_room) => `(tactic| ktr_units)
theorem cwF {h₀ : Heap} {L : Addr} {m : PySem.Str → Option Value} {q : Addr} {M : Model} {A : Around} {E Q : Value → Shared → Prop} {s : Shared} {env : Env} {pos : Pos} {first : List Value} (F : Fr h₀ L s.heap m) (X : FnAt q h₀) (h : wpAny M A (call (.ref q) (first ++ [])) Q E s) : wpAny M A (callWith pos (.ref q) first (backTo pos (starEach [] env)) []) Q E s :=
  callWith_F0 (let ⟨oc, od, fd, sl, a⟩ := X; ⟨oc, od, fd, sl, F.keep _ _ a⟩) h
local macro_rules | `(tactic| walk_at "callWith ref") => `(tactic| (k_here; refine' cwF (by k_asm) (by assumption) ?_; try dsimp only [List.nil_append]))
local macro_rules | `(tactic| walk_at "call ref") => `(tactic| (k_here; refine stop3_ ?_))
local macro_rules | `(tactic| walk_at "noteFrame ref") => `(tactic| (k_here; refine stop3_ ?_))
section
variable {w : World} {A : Around} {Q E : Value → Shared → Prop} {s : Shared} {base : Heap} {l : List Env} {p : Program} {loose : List Str} {mean : ExcName → Option Value} {mg mb : Str → Option Value}
theorem frs_base {h : Heap} {l : List Env} {b : Addr} (F : h.FunFrames base l) (hb : b ∈ frs l) : base.get? b = none := (F.mem hb).1
theorem caught_x {h₁ : Heap} {cn : PySem.Str} {cs : Scope} {L a e : Addr} {ccd : Value} {s' : Shared} {Qf : Flow → Shared → Prop} {E' : Value → Shared → Prop} {np pos : Pos} {b₀ : Stmt} {suite : List Stmt} {rest : List ExceptHandler}
    (B : Below (A.deeper (envOf cn cs L a ccd)) base (envOf cn cs L a ccd :: l) h₁) (XB : (hd.heap_1 w.params).In base) (TB : Top p loose mean mg mb base) (R : Fly (envOf cn cs L a ccd :: l) h₁ s'.heap e)
    (k : ∀ h', (hideAll h₁ (frs (envOf cn cs L a ccd :: l))).StaysIn h' → h₁.UpToSlots h' → wpAny (model pg w) ((A.deeper (envOf cn cs L a ccd)).mark (some (.ref e))) (execs (b₀ :: suite) (envOf cn cs L a ccd)) Qf E' { s' with heap := h' })
    (hk : cs.kind = .function := by rfl) (hx : (envOf cn cs L a ccd).kindOf "SizeFault" = some .globalImplicit := by rfl)
    (hE : PassesOwnAt (model pg w) ((A.deeper (envOf cn cs L a ccd)).mark (some (.ref e))) (A.deeper (envOf cn cs L a ccd)) (envOf cn cs L a ccd) E' := by passes_own) :
    wpAny (model pg w) (A.deeper (envOf cn cs L a ccd)) (noteFrame (.ref e) (envOf cn cs L a ccd))
      (fun _ s₂ => wpAny (model pg w) (A.deeper (envOf cn cs L a ccd)) (setFlight (.ref e) none) (fun _ s₃ =>
        wpAny (model pg w) (A.deeper (envOf cn cs L a ccd)) (handleBy (.ref e) (envOf cn cs L a ccd) (.ExceptHandler (some (.Name "SizeFault" np)) none (b₀ :: suite) pos :: rest)) Qf E' s₃) E' s₂) E' s' := by
  obtain ⟨⟨a0, hfl⟩, up⟩ := R
  have bst : base.StaysIn (hideAll h₁ (frs (envOf cn cs L a ccd :: l))) := fun b o x => hideAll_get _ (B.stays b o x) fun hm => by rw [frs_base B.frames hm] at x; cases x
  refine wpAny_looks_onW B.stack rfl hfl fun h₄ hheld₄ hsm₄ => ?_
  refine wpAny_landsW hheld₄ fun h₅ hheld hsm₅ => ?_
  have keep : base.StaysIn h₅ := fun b o x => hheld.1 b o (bst b o x)
  obtain ⟨ob, hob, hobc⟩ := hheld.there
  refine wpAny_handleBy_cons (codeAny_handlers_test (Name_function_global hk hx (loadGlobal_global (env := envOf cn cs L a ccd) (TB.g.keeps keep) (mg_of XB TB.g (xk44n w.params)) ?_) (by decide))) (by intro q; cases q)
  obtain ⟨nm, qn, N, bs, sn, sub, ab, col, dd, k0, k1, k2, k3, k5, hl⟩ := xk44 w.params
  refine wpAny_excMatches_sub_self (keep _ _ (XB 44 _ hl)) hob hobc (by decide) (codeAny_handlers_suite ?_)
  refine lands_againW hheld fun h₆ hfl₆ hsm₆ => ?_
  exact wpAny_passesOwnAt hE (k h₆ hfl₆.1 (up.trans (hsm₄.trans (hsm₅.trans hsm₆))))
/-- the call of _law_refused: its argument raises -/
theorem r_refused {f : Addr} (B : Below A base l s.heap) (XB : (hd.heap_1 w.params).In base) (TB : Top p loose mean mg mb base) (hroom : A.depth + 8 < recursionLimit) (X : (hd.heap_1 w.params).In s.heap) (T : Top p loose mean mg mb s.heap) (hf : FnAt f s.heap)
    (hc : ∀ env h₁ tk Q' E', s.heap.StaysIn h₁ → Below (A.deeper env) base (env :: l) h₁ → (∀ h' tk' e, Fly (env :: l) h₁ h' e → E' (.ref e) { s with heap := h', toks := tk' }) → wpAny (model pg w) (A.deeper env) (call (.ref f) []) Q' E' { s with heap := h₁, toks := tk })
    (hq : ∀ h' tk', (hideAll s.heap (frs l)).StaysIn h' → s.heap.UpToSlots h' → Q (.bool true) { s with heap := h', toks := tk' }) : wpAny (model pg w) A (call (.ref 227) [.ref f]) Q E s := by
  refine enterR [("call", .ref f)] (by omega) X T.nolimit (by k_is) (by k_is) (BindsTo.of_eq rfl) (by decide) (by kernel_rfl) (fun L h₁ tk hns st nL le => ?_) rfl rfl rfl
  have F' : Fr s.heap L h₁ (fun y => [(("call" : Str), Value.ref f)].reverse.lookup y) := ⟨hns, st, le⟩
  have N' : News s.heap L h₁ [] := fun _ h => nomatch h
  have B' := pushX (env := envOf "_law_refused" ⟨.function, [("call", .local), ("SizeFault", .globalImplicit)], false, false, []⟩ L 227 (.ref 226)) B F' rfl rfl
  k_steps
  refine hc _ h₁ _ _ _ st B' fun h' tk' e fl => caught_x (s' := { s with heap := h', toks := tk' }) B' XB TB fl (fun h2 sb up => ?_)
  refine wpAny_execs_cons (wpAny_Return_some (wpAny_Constant_bool (hq h2 tk' (fun b o x => sb b o ?_) fun b o x hn => up b o (st b o x) hn)))
  have x' := of_hideAll _ x
  refine hideAll_get _ (st b o x') fun hm => ?_
  rw [frs_cons (L := L) rfl] at hm
  rcases List.mem_cons.mp hm with z | z
  · rw [z, nL] at x'; cases x'
  · rw [hideAll_none _ z] at x; cases x
/-- the call of _law_refused: its argument does not raise -/
theorem r_refused2 {f : Addr} (B : Below A base l s.heap) (hroom : A.depth + 8 < recursionLimit) (X : (hd.heap_1 w.params).In s.heap) (T : Top p loose mean mg mb s.heap) (hf : FnAt f s.heap)
    (hc : ∀ env h₁ tk Q' E', s.heap.StaysIn h₁ → Below (A.deeper env) base (env :: l) h₁ → (∀ v h' tk', h₁.StaysIn h' → Q' v { s with heap := h', toks := tk' }) → wpAny (model pg w) (A.deeper env) (call (.ref f) []) Q' E' { s with heap := h₁, toks := tk })
    (hq : ∀ h' tk', s.heap.StaysIn h' → Q (.bool false) { s with heap := h', toks := tk' }) : wpAny (model pg w) A (call (.ref 227) [.ref f]) Q E s := by
  refine enterR [("call", .ref f)] (by omega) X T.nolimit (by k_is) (by k_is) (BindsTo.of_eq rfl) (by decide) (by kernel_rfl) (fun L h₁ tk hns st nL le => ?_) rfl rfl rfl
  have F' : Fr s.heap L h₁ (fun y => [(("call" : Str), Value.ref f)].reverse.lookup y) := ⟨hns, st, le⟩
  have N' : News s.heap L h₁ [] := fun _ h => nomatch h
  have B' := pushX (env := envOf "_law_refused" ⟨.function, [("call", .local), ("SizeFault", .globalImplicit)], false, false, []⟩ L 227 (.ref 226)) B F' rfl rfl
  k_steps
  refine hc _ h₁ _ _ _ st B' fun v h' tk' st2 => ?_
  exact wpAny_execs_nil (wpAny_execs_nil (wpAny_execs_cons (wpAny_Return_some (wpAny_Constant_bool (hq h' tk' fun b o x => st2 b o (st b o x))))))
end
end

end --K4
section --W14
noncomputable def c_sam : CS := .set2 false (nat_lit 2) (nat_lit 150004000008) (nat_lit 0) (nat_lit 150010000016) (nat_lit 0) (nat_lit 150004000016) (.bin .Add (.con (.int 1) (nat_lit 150020000021)) (.callF (nat_lit 0) (nat_lit 150024000033) (.cons (.loc (nat_lit 3) (nat_lit 150034000040)) (.cons (.con (.int 4) (nat_lit 150042000043)) .nil)) (nat_lit 150024000044)) (nat_lit 150020000044)) (.bin .Sub (.callF (nat_lit 0) (nat_lit 150046000055) (.cons (.loc (nat_lit 3) (nat_lit 150056000062)) (.cons (.con (.int 12) (nat_lit 150064000066)) .nil)) (nat_lit 150046000067)) (.con (.int 5) (nat_lit 150070000071)) (nat_lit 150046000071)) (nat_lit 0) (nat_lit 150019000072) (nat_lit 150004000072) (.set (nat_lit 1) (nat_lit 151004000009) (.callF (nat_lit 1) (nat_lit 151012000020) (.cons (.loc (nat_lit 3) (nat_lit 151021000027)) (.cons (.disp false (.cons (.bin .Mult (.bin .Mult (.con (.int 2) (nat_lit 151030000031)) (.loc (nat_lit 2) (nat_lit 151034000038)) (nat_lit 151030000038)) (.bin .Add (.con (.int 1) (nat_lit 151042000043)) (.callF (nat_lit 0) (nat_lit 151046000055) (.cons (.loc (nat_lit 3) (nat_lit 151056000062)) (.cons (.con (.int 3) (nat_lit 151064000065)) .nil)) (nat_lit 151046000066)) (nat_lit 151042000066)) (nat_lit 151030000067)) (.cons (.bin .Add (.bin .Mult (.con (.int 2) (nat_lit 151069000070)) (.loc (nat_lit 2) (nat_lit 151073000077)) (nat_lit 151069000077)) (.con (.int 1) (nat_lit 151080000081)) (nat_lit 151069000081)) (.cons (.loc (nat_lit 2) (nat_lit 151083000087)) (.cons (.con (.int 0) (nat_lit 151089000090)) .nil)))) (nat_lit 0) (nat_lit 151029000091)) .nil)) (nat_lit 151012000092)) (nat_lit 151004000092) .done)
noncomputable def e_sam : CE := .bop true (.cmp .Eq (.loc (nat_lit 1) (nat_lit 152007000012)) (.con (.int 0) (nat_lit 152016000017)) (nat_lit 152007000017)) (.cmp .NotEq (.bin .Mod (.loc (nat_lit 1) (nat_lit 152021000026)) (.bin .Mult (.con (.int 2) (nat_lit 152030000031)) (.loc (nat_lit 2) (nat_lit 152034000038)) (nat_lit 152030000038)) (nat_lit 152021000039)) (.con (.int 0) (nat_lit 152043000044)) (nat_lit 152021000044)) (nat_lit 152007000044)
noncomputable def r_sam : CS := .ret (.cmp .Eq (.bin .Mult (.bin .Mult (.con (.int 2) (nat_lit 154011000012)) (.callF (nat_lit 2) (nat_lit 154015000027) (.cons (.loc (nat_lit 0) (nat_lit 154028000034)) (.cons (.loc (nat_lit 2) (nat_lit 154036000040)) (.cons (.loc (nat_lit 1) (nat_lit 154042000047)) .nil))) (nat_lit 154015000048)) (nat_lit 154011000048)) (.loc (nat_lit 2) (nat_lit 154051000055)) (nat_lit 154011000055)) (.bin .Mult (.bin .Add (.bin .Mult (.con (.int 2) (nat_lit 154060000061)) (.loc (nat_lit 0) (nat_lit 154064000070)) (nat_lit 154060000070)) (.con (.int 1) (nat_lit 154073000074)) (nat_lit 154060000074)) (.loc (nat_lit 1) (nat_lit 154078000083)) (nat_lit 154059000083)) (nat_lit 154011000083)) (nat_lit 154004000083)
noncomputable def g_sam : List GE := [⟨"_law_take", 179, true, false⟩, ⟨"_law_one", 186, true, false⟩, ⟨"sample_place", 89, false, false⟩]
noncomputable def W_place (ps : List PV) (P : PV → Prop) : Prop := ∃ nu fi gr : Int, ps = [.int nu, .int fi, .int gr] ∧ ((-1000 < fi ∧ fi < 1000) ∧ (-1000 < gr ∧ gr < 1000) ∧ (-1000 < nu ∧ nu < 1000)) ∧ ¬ BadStep fi gr ∧ P (.int (nu * gr.fdiv fi + (gr.fdiv fi).fdiv 2))
noncomputable def wSam : List WF := [W_take, W_one, W_place]
theorem small_mul {x y : Int} (h : -1000 < x ∧ x < 1000) : MulOk x y := .inl ⟨by omega, by omega⟩
theorem sam_wp {k : List PV → Prop} {R : PV → Prop} (hk : ∀ fi nu gr : Int, (1 ≤ fi ∧ fi ≤ 4) → (-5 ≤ nu ∧ nu ≤ 6) → (0 ≤ gr ∧ gr ≤ 24) → k [.int nu, .int gr, .int fi, .src]) : wpS (wt wSam) c_sam [.unb, .unb, .unb, .src] k R := by
  refine ⟨4, rfl, ⟨by omega, by omega⟩, fun d d0 d1 => ⟨12, rfl, ⟨by omega, by omega⟩, fun e e0 e1 => ⟨le100 rfl, ?_⟩⟩⟩
  refine ⟨small_mul (by omega), 3, rfl, ⟨by omega, by omega⟩, fun c c0 c1 => ⟨small_mul ?_, small_mul (by omega), le100 rfl, ?_⟩⟩
  · omega
  refine ⟨_, rfl, ⟨Nat.le_of_ble_eq_true rfl, Nat.le_of_ble_eq_true rfl⟩, fun v hv => ?_⟩
  have go : ∀ gr : Int, v = .int gr → (0 ≤ gr ∧ gr ≤ 24) → oneV [v] fun p => setV [.int (e - 5), .unb, .int (1 + d), .src] 1 p fun l => wpS (wt wSam) .done l k R := fun gr hg hb => by
    subst hg
    exact hk (1 + d) (e - 5) gr ⟨by omega, by omega⟩ ⟨by omega, by omega⟩ hb
  have hv' : v = .int (2 * (1 + d) * (1 + c)) ∨ v = .int (2 * (1 + d) + 1) ∨ v = .int (1 + d) ∨ v = .int 0 := by
    simpa using hv
  rcases hv' with h | h | h | h
  · have m : 0 ≤ (1 + d) * (1 + c) ∧ (1 + d) * (1 + c) ≤ 12 := by
      have : c = 0 ∨ c = 1 ∨ c = 2 := by omega
      rcases this with rfl | rfl | rfl <;> omega
    exact go _ h ⟨by rw [Int.mul_assoc]; omega, by rw [Int.mul_assoc]; omega⟩
  · exact go _ h ⟨by omega, by omega⟩
  · exact go _ h ⟨by omega, by omega⟩
  · exact go _ h ⟨by omega, by omega⟩
/-- the test of the grains -/
theorem sam_test {fi nu gr : Int} (h1 : 1 ≤ fi ∧ fi ≤ 4) (h3 : 0 ≤ gr ∧ gr ≤ 24) {Post : List PV → List PV → Prop} (hb : BadStep fi gr → Post [.bool true] [.int nu, .int gr, .int fi, .src]) (hg : ¬ BadStep fi gr → Post [.bool false] [.int nu, .int gr, .int fi, .src]) :
    wp (wt wSam) e_sam [.int nu, .int gr, .int fi, .src] Post := by
  show if (gr == 0) = true then _ else _
  by_cases z : gr = 0
  · rw [if_pos (by simpa using z)]
    exact hb (.inr (.inl (by omega)))
  · rw [if_neg (by simpa using z)]
    refine ⟨small_mul (by omega), by omega, ?_⟩
    show Post [.bool (gr.fmod (2 * fi) != 0)] _
    by_cases y : gr.fmod (2 * fi) = 0
    · rw [y]
      exact hg fun h => by
        rcases h with h | h | h
        · omega
        · omega
        · exact h y
    · rw [show (gr.fmod (2 * fi) != 0) = true by simpa using y]
      exact hb (.inr (.inr y))
theorem sam_ret {fi nu gr : Int} (h1 : 1 ≤ fi ∧ fi ≤ 4) (h2 : -5 ≤ nu ∧ nu ≤ 6) (h3 : 0 ≤ gr ∧ gr ≤ 24) (hg : ¬ BadStep fi gr) {k : List PV → Prop} {P : PV → Prop} (hp : P (.bool true)) : wpS (wt wSam) r_sam [.int nu, .int gr, .int fi, .src] k P := by
  have hz : gr.fmod (2 * fi) = 0 := Classical.byContradiction fun h => hg (.inr (.inr h))
  have hm : gr = 2 * fi * gr.fdiv (2 * fi) := by have := Int.mul_fdiv_add_fmod gr (2 * fi); omega
  generalize gr.fdiv (2 * fi) = q at hm
  have e1 : gr.fdiv fi = 2 * q := by
    rw [hm, show 2 * fi * q = fi * (2 * q) by rw [Int.mul_comm 2 fi, Int.mul_assoc]]
    exact Int.mul_fdiv_cancel_left _ (by omega)
  have e2 : (2 * q).fdiv 2 = q := Int.mul_fdiv_cancel_left _ (by decide)
  refine ⟨nu, fi, gr, rfl, ⟨⟨by omega, by omega⟩, ⟨by omega, by omega⟩, by omega, by omega⟩, hg, small_mul (by omega), ?_⟩
  refine ⟨?_, small_mul (by omega), ?_, ?_⟩
  · exact .inr ⟨by omega, by omega⟩
  · exact small_mul (by omega)
  · show P (.bool (2 * (nu * gr.fdiv fi + (gr.fdiv fi).fdiv 2) * fi == (2 * nu + 1) * gr))
    rw [e1, e2, hm]
    have : 2 * (nu * (2 * q) + q) * fi = (2 * nu + 1) * (2 * fi * q) := by
      rw [show nu * (2 * q) + q = (2 * nu + 1) * q by rw [Int.add_mul, Int.one_mul, ← Int.mul_assoc, Int.mul_comm nu 2]]
      rw [Int.mul_comm 2, Int.mul_assoc, Int.mul_assoc, Int.mul_comm q, Int.mul_assoc 2 fi]
    rw [this, beq_self_eq_true]
    exact hp

end --W14
section --K5
section
variable {w : World} {A : Around} {Q E : Value → Shared → Prop} {s : Shared} {f : Addr}
/-- a def with cells is entered: all of the heap stays -/
theorem enterC {name qual : PySem.Str} {params : Arguments} {body : List Stmt} {scope : Scope} {dV kV doc pm cdv ct oc : Value} {an od : Option Addr} {osl : Array (Option Value)} {vs : List Value} (binds : List (PySem.Str × Value))
    (hroom : A.depth < recursionLimit) (X : (hd.heap_1 w.params).In s.heap) (nl : s.heap.NoLimit) (ho : (hd.heap_1 w.params).lookup f = some ⟨oc, od, .func (fnOf name qual params body scope dV kV doc pm an cdv ct), osl⟩) (hcd : codeIn (hd.heap_1 w.params) cdv qual = true)
    (hb : BindsTo s (fnOf name qual params body scope dV kV doc pm an cdv ct) ⟨vs, []⟩ binds) (hkind : (binds.all fun y => scope.names.lookup y.1 == some .local || scope.names.lookup y.1 == some .cell) = true) (hnd : ((cellsFrom 0 scope.names []).map (·.1)).Nodup)
    (h : ∀ L h₁ tk cells, L = s.heap.objs.size → h₁.Ns L (bindL (envOfC qual scope L f cdv).kindOf binds fun _ => none) → s.heap.StaysIn h₁ → (∀ q ∈ cells, h₁.get? q.1 = some q.2 ∧ q.1 ≠ L ∧ s.heap.get? q.1 = none) →
      CellsAre (bindC (envOfC qual scope L f cdv).kindOf binds fun _ => none) (cellsFrom (L + 1) scope.names []) cells → wpAny (model pg w) (A.deeper (envOfC qual scope L f cdv)) (execs body (envOfC qual scope L f cdv)) (fun fl s' => Q (match fl with | .ret v => v | _ => .none) s')
      (fun e s' => wpAny (model pg w) (A.deeper (envOfC qual scope L f cdv)) (leaving (envOfC qual scope L f cdv) e) (fun _ s'' => E e s'') (fun e' s'' => E e' s'') s') { s with heap := h₁, toks := tk })
    (hco : scope.isCoroutine = false) (hgen : scope.isGenerator = false) (hk : scope.kind = .function) : wpAny (model pg w) A (call (.ref f) vs) Q E s := by
  refine wpAny_call (codeAny_call_function hroom (X f _ ho) rfl hco hgen rfl (codeRec_of X hcd) (hb _ _ _ _ ?_))
  refine wpAny_newFunctionEnv_cells hk (kindsX hkind _) fun env' he s' x => ?_
  subst he
  refine ⟨nl.keeps x.toInCall.keep, codeAny_func ?_⟩
  obtain ⟨h₁, tk, rfl, _⟩ := x.done
  obtain ⟨cells, NC, Y⟩ := Cl.news (h₀ := s.heap) (Nat.le_refl _) fun n c hm => ⟨x.cell n c (lookup_of_mem_nodup (cellsFrom_names scope.names 0 (s.heap.objs.size + 1) [] [] rfl ▸ hnd) hm), x.above n c hm⟩
  exact h s.heap.objs.size h₁ tk cells rfl x.toInCall.ns x.toInCall.keep (fun p hp => ⟨(NC p hp).1, (NC p hp).2.1, (NC p hp).2.2⟩) Y
end
theorem execs_app_wp {M : Model} {Γ : Ctx} {env : Env} {l2 : List Stmt} {Q : Flow → Pos → Shared → Prop} {E : Value → Pos → Shared → Prop} : ∀ (l1 : List Stmt) (p : Pos) (s : Shared), Sem.wp M Γ (execs l1 env) (fun f p' s' => match f with | .next => Sem.wp M Γ (execs l2 env) Q E p' s' | f => Q f p' s') E p s → Sem.wp M Γ (execs (l1 ++ l2) env) Q E p s
  | [], _, _, h => h
  | st :: l1, p, s, h => by
    rw [execs_cons, Sem.wp_bind'] at h
    show Sem.wp M Γ (execs (st :: (l1 ++ l2)) env) Q E p s
    rw [execs_cons, Sem.wp_bind']
    refine Sem.wp_mono M Γ _ (fun f p' s' h' => ?_) (fun _ _ _ h' => h') _ _ h
    cases f with
    | next => exact execs_app_wp l1 p' s' h'
    | _ => exact h'
theorem execs_app {M : Model} {A : Around} {E : Value → Shared → Prop} {env : Env} {l1 l2 : List Stmt} {Q : Flow → Shared → Prop} {s : Shared} (h : wpAny M A (execs l1 env) (fun f s' => match f with | .next => wpAny M A (execs l2 env) Q E s' | f => Q f s') E s) : wpAny M A (execs (l1 ++ l2) env) Q E s := fun Γ p hΓ => by
  refine execs_app_wp l1 p s (Sem.wp_mono M Γ _ (fun f p' s' h' => ?_) (fun _ _ _ h' => h') _ _ (h Γ p hΓ))
  cases f with
  | next => exact h' Γ p' hΓ
  | _ => exact h'
/-- sample_place, where it does not raise -/
theorem f_place {w : World} : FSpec w 89 false 5 320 W_place := by
  intro src h₀ L A m s S I R vs ps P Q E fc F lo hs rr hw ans
  obtain ⟨nu, fi, gr, rfl, ⟨b1, b2, b3⟩, hb, hp⟩ := hw
  obtain ⟨x, y, z, rfl⟩ := len_three rr.1
  obtain ⟨t1, rfl⟩ := int_of rr.hd
  obtain ⟨t2, rfl⟩ := int_of rr.tl.hd
  obtain ⟨t3, rfl⟩ := int_of rr.tl.tl.hd
  obtain ⟨dp, un, ⟨gd, cn, cs, a, ccd, cl, outer, rfl, ⟨hk, hol⟩, A₀, base, B⟩, ⟨hdp, hu⟩, X, p, loose, mean, mg, mb, T⟩ := fc
  have B1 : Below (ktrTop dp un gd cn cs L a ccd cl outer) base (envX cn cs L a ccd cl :: outer) s.heap := by
    have := pushX (env := envX cn cs L a ccd cl) B F rfl hk
    exact ⟨rfl, this.stays, this.frames⟩
  refine r_place (B := B1) rfl (by show dp + 4 < _; omega) (X.keeps F.keep) (T.keeps F.keep) b1.1 b1.2 b2.1 b2.2 b3.1 b3.2 (fun _ h' tk' t' st => ?_) fun h => absurd h hb
  exact ans _ (.int _) h' tk' I S (fun _ h => h) hp (.int _ _) ⟨F.ns.keeps st, fun b o x => st b o (F.keep b o x), F.above⟩ ⟨fun q hq => ⟨st _ _ (lo.1 q hq).1, (lo.1 q hq).2⟩, lo.2⟩ hs

end --K5
section --K6
/-! lambdas, made and called -/
section
variable {w : World} {A : Around} {Q E : Value → Shared → Prop} {s : Shared} {h₀ : Heap} {L a c P f c' : Addr} {cn : PySem.Str} {cs : Scope} {cl clos : List (PySem.Str × Addr)} {p : Program} {loose : List PySem.Str} {mean : ExcName → Option Value} {mg mb : PySem.Str → Option Value} {params : Arguments} {body : PySem.Expr} {scope : Scope} {pos : Pos} {ps : Array Value}
theorem make_lam (T : Top p loose mean mg mb h₀) (C : CodeHd h₀ c P) (st : h₀.StaysIn s.heap) (hP : s.heap.get? P = some (tabObj ps)) (hP0 : h₀.get? P = none) (ht : TriplesOk ps.toList) (hnf : codeAmong pos ps.toList = none)
    (hcl : closureFor scope (envX cn cs L a (.ref c) cl) = pure clos) (hdef : defaultsOf params (envX cn cs L a (.ref c) cl) = ([], []))
    (q : ∀ f c' ctv h' tk, (∀ b o, b ≠ P → s.heap.get? b = some o → h'.get? b = some o) → h'.CodeRec (.ref c') ((cn ++ ".<locals>.") ++ "<lambda>") → h'.get? f = some (kla_obj "<lambda>" ((cn ++ ".<locals>.") ++ "<lambda>") params body scope clos ((mg "__name__").getD .none) c' ctv) →
      h'.get? P = some (tabObj (ps ++ #[rawInt pos.line, rawInt pos.col, .ref c'])) → Q (.ref f) { s with heap := h', toks := tk }) :
    wpAny (model pg w) A (eval (.Lambda params body scope pos) (envX cn cs L a (.ref c) cl)) Q E s := by
  obtain ⟨bm, ob, b1, b2, b3, b4, b5, b6⟩ := T.bmain
  have hgs := T.g.keeps st
  have hgP : mainGlobals ≠ P := fun q => by
    obtain ⟨o, es, ep, e, hd, _⟩ := hgs
    rw [q, hP] at e; cases e; cases hd
  have hbP : bm ≠ P := fun q => by rw [q, hP0] at b3; cases b3
  have hbG : bm ≠ mainGlobals := fun q => by
    obtain ⟨o, es, ep, e, hd, _⟩ := T.g
    rw [q, e] at b3; cases b3; rw [hd] at b6; cases b6
  refine kla_eval hdef (kla_makeFunction (mg := mg) hcl rfl hgs rfl (C.keeps st) hP ht hnf hgP ⟨bm, ob, b1, b2, hbG, hbP, st _ _ b3, b4, b5, b6⟩ fun c' ctv h' tk hx hge hlt hrec htb => ?_)
  refine q h'.objs.size c' ctv _ tk (fun b o hb ho => Heap.get?_push_of_some _ (hx b o hb ho)) ?_ (Heap.get?_push_size _ rfl) (Heap.get?_push_of_some _ htb)
  obtain ⟨c₂, oc, vs, t, e2, hoc, hd, hv⟩ := hrec
  exact ⟨c₂, oc, vs, t, e2, Heap.get?_push_of_some _ hoc, hd, hv⟩
theorem enterL {name qual : PySem.Str} {pm ctv : Value} (hroom : A.depth < recursionLimit) (nl : s.heap.NoLimit) (ho : s.heap.get? f = some (kla_obj name qual params body scope cl pm c' ctv)) (hcd : s.heap.CodeRec (.ref c') qual)
    (hbind : bindArgs (kla_fn name qual params body scope cl pm (.ref c') ctv) ⟨[], []⟩ = pure []) (hcell : (scope.names.all fun x => x.2 != .cell) = true)
    (h : ∀ L h₁ tk, L = s.heap.objs.size → h₁.Ns L (fun _ => none) → s.heap.StaysIn h₁ → wpAny (model pg w) (A.deeper (envX qual scope L f (.ref c') cl)) (eval body (envX qual scope L f (.ref c') cl)) Q
      (fun e s' => wpAny (model pg w) (A.deeper (envX qual scope L f (.ref c') cl)) (leaving (envX qual scope L f (.ref c') cl) e) (fun _ s'' => E e s'') (fun e' s'' => E e' s'') s') { s with heap := h₁, toks := tk })
    (hco : scope.isCoroutine = false) (hgen : scope.isGenerator = false) (hk : scope.kind = .function) : wpAny (model pg w) A (call (.ref f) []) Q E s := by
  refine wpAny_call (kla_callFunE hroom ho rfl hco hgen rfl hcd ?_)
  rw [hbind]
  refine wpAny_pure (wpAny_newFunctionEnv (fun x hx => by simpa using List.all_eq_true.mp hcell x hx) (fun _ hx => nomatch hx) (fun h₁ hns hsb => ⟨nl.fresh _ hsb, ?_⟩) hk)
  show codeAny _ _ (.expr body (envX qual scope s.heap.objs.size f (.ref c') cl)) _ _
  exact kla_codeExpr (h s.heap.objs.size h₁ _ rfl hns fun b o e => hsb.extBut b o (Nat.ne_of_lt (Heap.lt_size e)) (Heap.get?_push_of_some _ e))
theorem nmF {x : PySem.Str} {o : Obj} {v : Value} (hc : cl.lookup x = some c) (ho : s.heap.get? c = some o) (hd' : o.data = .cell (some v)) (h : Q v s) {ccd : Value}
    (hk : cs.kind = .function) (hx : (envX cn cs L a ccd cl).kindOf x = some .free) (hb : (x == ("__debug__" : PySem.Str)) = false) (hn : (x == ("__classdict__" : PySem.Str)) = false) :
    wpAny (model pg w) A (eval (.Name x pos) (envX cn cs L a ccd cl)) Q E s := wpAny_Name (wpAny_loadName_free hk hx hc ⟨o, ho, hd'⟩ h hn) hb
end
/-- a variable in a cell -/
theorem cell_of {w : World} {X : Kx} {h : Heap} {loc : List PV} {I : Led} {i : Nat} {x : PySem.Str} {n : Int} {kb ub : Nat} (ok : X.Ok w kb ub) (S : X.St w h loc I) (hp : loc[i]? = some (.int n)) (hx : X.cx.nm i = x) (hk : X.env.kindOf x = some .cell) :
    ∃ c o t, X.env.cells.lookup x = some c ∧ h.get? c = some o ∧ o.data = .cell (some (.int n t)) := by
  obtain ⟨y, M1, M0, Sx, e, _, _, b, lo, _⟩ := S.var ok hp
  obtain rfl : y = x := e.symm.trans hx
  have nl : ∀ {k : NameKind}, X.env.kindOf y = some k → k = .cell := fun q => by rw [hk] at q; exact (Option.some.inj q).symm
  cases b with
  | fr a _ _ _ => exact nomatch nl a
  | ce a b c r => cases r; exact ⟨_, _, _, b, (lo.1 _ (.head _)).1, c⟩
  | roN a _ _ _ _ => exact nomatch nl a
  | roC a b c d r => cases r; exact ⟨_, _, _, b, (lo.1 _ (List.mem_append_right _ (List.mem_append_right _ (List.mem_append_right _ (List.mem_append_right _ c))))).1, d⟩
theorem n_refused (P : Params) : nsIn (hd.heap_1 P) mainGlobals "_law_refused" = some (some (.ref 227)) ∧ keepIn (hd.heap_1 P) (.ref 227) = true := by constructor <;> k_is
theorem n_place (P : Params) : nsIn (hd.heap_1 P) mainGlobals "sample_place" = some (some (.ref 89)) ∧ keepIn (hd.heap_1 P) (.ref 89) = true := by constructor <;> k_is

end --K6
section --K7
noncomputable def b_sam : CE := .callF (nat_lit 2) (nat_lit 153036000048) (.cons (.loc (nat_lit 0) (nat_lit 153049000055)) (.cons (.loc (nat_lit 2) (nat_lit 153057000061)) (.cons (.loc (nat_lit 1) (nat_lit 153063000068)) .nil))) (nat_lit 153036000069)
noncomputable def l_sam : Scope := ⟨.function, [("fine", .free),("grain", .free),("number", .free),("sample_place", .globalImplicit)], false, false, []⟩
noncomputable def i_sam (cx : Cx) : Stmt := .If (ex g_sam e_sam cx) [.Return (some (.Call (.Name "_law_refused" (P (nat_lit 153015000027))) [.Lambda ⟨[], [], none, [], [], none, []⟩ (ex g_sam b_sam cx) l_sam (P (nat_lit 153028000069))] [] (P (nat_lit 153015000070)))) (P (nat_lit 153008000070))] [] (P (nat_lit 152004001070))
noncomputable def s_sam : Scope := ⟨.function, [("source", .local),("fine", .cell),("grain", .cell),("number", .cell),("_law_take", .globalImplicit),("_law_one", .globalImplicit),("_law_refused", .globalImplicit),("sample_place", .globalImplicit)], false, false, []⟩
noncomputable def cxS : Cx := ⟨["number", "grain", "fine", "source"], s_sam, true⟩
theorem k_sam (P : Params) : ∃ oc od osl params body scope dV kV doc pm an ct, (hd.heap_1 P).lookup 234 = some ⟨oc, od, .func (fnOf "_law_samples_right" "_law_samples_right" params body scope dV kV doc pm an (.ref 233) ct), osl⟩ ∧
    (body = sts g_sam c_sam cxS ++ (i_sam cxS :: sts g_sam r_sam cxS) ∧ scope = s_sam) ∧ ∀ (s : Shared) (v : Value), BindsTo s (fnOf "_law_samples_right" "_law_samples_right" params body scope dV kV doc pm an (.ref 233) ct) ⟨[v], []⟩ [("source", v)] :=
  ⟨_, _, _, _, _, _, _, _, _, _, _, _, rfl, ⟨by kernel_rfl, by kernel_rfl⟩, fun s v => BindsTo.of_eq rfl⟩
theorem k_samc (P : Params) : codeIn (hd.heap_1 P) (.ref 233) "_law_samples_right" = true := by k_is
section
variable {w : World} {E Q : Value → Shared → Prop} {s : Shared} {h₀ : Heap} {L a src : Addr} {m : PySem.Str → Option Value} {cn : PySem.Str} {cs : Scope} {ccd : Value} {cl : List (PySem.Str × Addr)} {dp un : Nat} {gd : Option (List Code)} {p : Program} {loose : List PySem.Str} {mean : ExcName → Option Value} {mg mb : PySem.Str → Option Value} {S Rest : Led} {A₀ : Around}
theorem gok_sam : GOk w (wt wSam) g_sam 6 400 :=
  gok_cons (oneF f_take (by decide) (by decide) (by decide) (n_take w).1 (n_take w).2) (gok_cons (oneF (f_one f_take) (by decide) (by decide) (by decide) (n_one w).1 (n_one w).2) (gok_cons (oneF f_place (by decide) (by decide) (by decide) (n_place w.params).1 (n_place w.params).2) gok_nil))
theorem cxS_nd : cxS.ns.Nodup ∧ ∀ x ∈ cxS.ns, (x == ("__debug__" : PySem.Str)) = false := by constructor <;> decide
/-- the body, from the first statement on -/
theorem sam_body {env : Env} {g : Heap} {L' : Addr} {A : Around} {R : Led} {l : List Env} {ccl : List (PySem.Str × Addr)} (hh : A.handled = none) (hroom : A.depth + 20 < recursionLimit) (BG : Below A h₀ l g) (XB : (hd.heap_1 w.params).In h₀) (TB : Top p loose mean mg mb h₀) (X : (hd.heap_1 w.params).In g) (T : Top p loose mean mg mb g) (C : CodeHd g 233 229) (hR : (229, tabObj #[]) ∈ R) (henv : env = envX "_law_samples_right" s_sam L' 234 (.ref 233) ccl) (hccl : ccl = cellsFrom (L' + 1) s_sam.names [])
    (ok : (Kx.mk cxS env src R g L' (A.deeper env) m).Ok w 6 400) (fn : (Kx.mk cxS env src R g L' (A.deeper env) m).Fn) (S : (Kx.mk cxS env src R g L' (A.deeper env) m).St w s.heap [.unb, .unb, .unb, .src] [])
    (q : ∀ h' tk', (∀ b o, b ∉ frs (env :: l) → g.get? b = some o → h'.get? b = some o) → g.UpToSlots h' → GrownAt 229 h' → Q (.bool true) { s with heap := h', toks := tk' }) :
    wpAny (model pg w) (A.deeper env) (execs (sts g_sam c_sam cxS ++ (i_sam cxS :: sts g_sam r_sam cxS)) env) (fun fl s' => Q (match fl with | .ret v => v | _ => .none) s') E s := by
  refine execs_app (wpAny_noRaise (soundS gok_sam c_sam (Kx.mk cxS env src R g L' (A.deeper env) m) s [] _ (fun l => ∃ fi nu gr : Int, ((1 ≤ fi ∧ fi ≤ 4) ∧ (-5 ≤ nu ∧ nu ≤ 6) ∧ (0 ≤ gr ∧ gr ≤ 24)) ∧ l = [.int nu, .int gr, .int fi, .src]) (fun _ => False) _ ok fn (by kernel_rfl) S (sam_wp fun fi nu gr h1 h2 h3 => ⟨fi, nu, gr, ⟨h1, h2, h3⟩, rfl⟩)
    ⟨fun m' loc' h' tk' I' _ hk' S' => ?_, fun _ _ _ _ _ _ _ _ h => h.elim⟩))
  obtain ⟨fi, nu, gr, ⟨h1, h2, h3⟩, rfl⟩ := hk'
  refine wpAny_execs_cons (wpAny_If ((sound gok_sam e_sam).2.1 (Kx.mk cxS env src R g L' (A.deeper env) m') { s with heap := h', toks := tk' } I' _ (fun b l => (b = true → BadStep fi gr) ∧ (b = false → ¬ BadStep fi gr) ∧ l = [.int nu, .int gr, .int fi, .src]) _ _ (ok.at m') rfl (by kernel_rfl) S'
    (sam_test h1 h3 (fun b => ⟨fun _ => b, fun h => (nomatch h), rfl⟩) fun b => ⟨fun h => (nomatch h), fun _ => b, rfl⟩) fun b loc2 g2 tk2 I2 _ hp S2 => ?_))
  obtain ⟨p1, p2, rfl⟩ := hp
  cases b with
  | false =>
    refine wpAny_execs_nil (wpAny_noRaise (soundS gok_sam r_sam (Kx.mk cxS env src R g L' (A.deeper env) m') { s with heap := g2, toks := tk2 } I2 _ (fun _ => False) (fun v => v = .bool true) _ (ok.at m') (fn.at m') (by kernel_rfl) S2 (sam_ret h1 h2 h3 (p2 rfl) rfl)
      ⟨fun _ _ _ _ _ _ h => h.elim, fun v p m3 l3 g3 tk3 I3 _ hp r S3 => ?_⟩))
    subst hp
    cases r
    obtain ⟨F3, M3, Sx3, _, _, lo3⟩ := S3
    exact q g3 tk3 (fun b o _ ho => F3.keep b o ho) (Heap.UpToSlots.of_keeps F3.keep) ⟨_, (lo3.1 _ (List.mem_append_right _ (List.mem_append_right _ (List.mem_append_right _ hR)))).1⟩
  | true =>
    have bad := p1 rfl
    have lo2 := S2.2
    obtain ⟨M2, Sx, _, _, lo2⟩ := S2.2
    have hT := lo2.1 _ (List.mem_append_right _ (List.mem_append_right _ (List.mem_append_right _ hR)))
    obtain ⟨cN, oN, tN, aN, bN, dN⟩ := cell_of (i := 0) (x := "number") (ok.at m') S2 rfl rfl (by rw [henv]; rfl)
    obtain ⟨cG, oG, tG, aG, bG, dG⟩ := cell_of (i := 1) (x := "grain") (ok.at m') S2 rfl rfl (by rw [henv]; rfl)
    obtain ⟨cF, oF, tF, aF, bF, dF⟩ := cell_of (i := 2) (x := "fine") (ok.at m') S2 rfl rfl (by rw [henv]; rfl)
    have ne : ∀ {c : Addr} {o : Obj} {v : Value}, g2.get? c = some o → o.data = .cell (some v) → c ≠ 229 := fun {c o v} h1 h2 e => by
      rw [e, hT.1] at h1
      cases h1
      cases h2
    subst henv
    refine wpAny_execs_cons (wpAny_Return_some (Call_Name rfl (nameX_K (cl := ccl) (s := { s with heap := g2, toks := tk2 }) S2.1 X (topRead_of T) (n_refused w.params).1 (callWith_K (first := []) X (n_refused w.params).2 (spliced_more
      (make_lam (s := { s with heap := g2, toks := tk2 }) (clos := [("number", L' + 3), ("grain", L' + 2), ("fine", L' + 1)]) T C S2.1.keep hT.1 hT.2.2 trivial rfl (by rw [hccl]; rfl) rfl fun f c' ctv h3 tk3 hk3 hrec hfn htab => spliced_none ⟨?_, ?_⟩))))))
    · exact fun b o hb => hk3 b o (fun e => by have z := X b o hb; rw [e, hT.2.2] at z; cases z) (S2.1.keep b o (X b o hb))
    have st3 : g.StaysIn h3 := fun b o hb => hk3 b o (fun e => by rw [e, hT.2.2] at hb; cases hb) (S2.1.keep b o hb)
    have F3 : Fr g L' h3 m' := ⟨by
      obtain ⟨o, es, ep, ho, r⟩ := S2.1.ns
      exact ⟨o, es, ep, hk3 _ _ (Ne.symm hT.2.1) ho, r⟩, st3, S2.1.above⟩
    have B3 := pushX (A := A) (env := envX "_law_samples_right" s_sam L' 234 (.ref 233) ccl) BG F3 rfl rfl
    refine r_refused (s := { s with heap := h3, toks := tk3 }) B3 XB TB (by show A.depth + 1 + 8 < _; omega) (X.keeps st3) (T.keeps st3) ⟨_, _, _, _, hfn⟩ (fun envr h4 tk4 Q' E' st4 B4 fl => ?_) fun h' tk' sb up => q h' tk' (fun b o nb hb => sb b o (hideAll_get _ (st3 b o hb) nb)) ((Heap.UpToSlots.of_keeps st3).trans up) ⟨_, sb _ _ (hideAll_get _ htab fun hm => by
      obtain ⟨o, ho, hd⟩ := (B3.frames.mem hm).2
      rw [htab] at ho
      cases ho
      exact hd _ rfl)⟩
    have X4 := (X.keeps st3).keeps st4
    have T4 := (T.keeps st3).keeps st4
    refine enterL (s := { s with heap := h4, toks := tk4 }) (by show A.depth + 1 + 1 < _; omega) T4.nolimit (st4 _ _ hfn) (hrec.keeps st4) rfl (by decide) (fun L5 h5 tk5 e5 hns5 st5 => ?_) rfl rfl rfl
    have F5 : Fr h4 L5 h5 (fun _ => none) := ⟨hns5, st5, Nat.le_of_eq e5.symm⟩
    have cv : ∀ {c : Addr} {o : Obj} {v : Value}, g2.get? c = some o → o.data = .cell (some v) → h5.get? c = some o := fun {c o v} a b => st5 _ _ (st4 _ _ (hk3 _ _ (ne a b) a))
    have l1 : (cellsFrom (L' + 1) s_sam.names []).lookup ("number" : PySem.Str) = some (L' + 3) := rfl
    have l2 : (cellsFrom (L' + 1) s_sam.names []).lookup ("grain" : PySem.Str) = some (L' + 2) := rfl
    have l3 : (cellsFrom (L' + 1) s_sam.names []).lookup ("fine" : PySem.Str) = some (L' + 1) := rfl
    have aN' : ccl.lookup ("number" : PySem.Str) = some cN := aN
    have aG' : ccl.lookup ("grain" : PySem.Str) = some cG := aG
    have aF' : ccl.lookup ("fine" : PySem.Str) = some cF := aF
    rw [hccl, l1] at aN'
    rw [hccl, l2] at aG'
    rw [hccl, l3] at aF'
    cases aN'
    cases aG'
    cases aF'
    have B5 := pushX (A := (A.deeper (envX "_law_samples_right" s_sam L' 234 (.ref 233) ccl)).deeper envr) (env := envX (("_law_samples_right" ++ ".<locals>.") ++ "<lambda>") l_sam L5 f (.ref c') [("number", L' + 3), ("grain", L' + 2), ("fine", L' + 1)]) B4 F5 rfl rfl
    show wpAny _ _ (eval (.Call (.Name "sample_place" (P (nat_lit 153036000048))) [.Name "number" (P (nat_lit 153049000055)), .Name "fine" (P (nat_lit 153057000061)), .Name "grain" (P (nat_lit 153063000068))] [] (P (nat_lit 153036000069))) _) _ _ _
    refine Call_Name rfl (nameX_K (s := { s with heap := h5, toks := tk5 }) F5 X4 (topRead_of T4) (n_place w.params).1 (callWith_K (first := []) X4 (n_place w.params).2 (spliced_more (nmF (s := { s with heap := h5, toks := tk5 }) rfl (cv bN dN) dN (spliced_more (nmF (s := { s with heap := h5, toks := tk5 }) rfl (cv bF dF) dF (spliced_more (nmF (s := { s with heap := h5, toks := tk5 }) rfl (cv bG dG) dG (spliced_none ⟨X4.keeps st5, ?_⟩) rfl rfl (by decide) (by decide))) rfl rfl (by decide) (by decide))) rfl rfl (by decide) (by decide)))) rfl rfl)
    refine r_place (s := { s with heap := h5, toks := tk5 }) B5 hh (by show A.depth + 1 + 1 + 1 + 4 < _; omega) (X4.keeps st5) (T4.keeps st5) (by omega) (by omega) (by omega) (by omega) (by omega) (by omega) (fun nb => absurd bad nb) fun _ h' tk' e fl5 => ?_
    exact fly_next (s := { s with heap := h', toks := tk' }) (h1 := h5) B4.stack rfl (Heap.get?_none_of_le (Nat.le_of_eq e5.symm)) st5 fl5 fun h'' fl2 => fl h'' tk' e fl2
theorem r_samples (hk : cs.kind = .function) (hdp : dp + 40 < recursionLimit) (hu : un + 900 < cLine) (hol : 2 + claimMargin ≤ dp) (B : Below A₀ h₀ [] h₀) (X : (hd.heap_1 w.params).In h₀) (T : Top p loose mean mg mb h₀) (C : CodeHd h₀ 233 229)
    (F : Fr h₀ L s.heap m) (lo : LedOk h₀ L s.heap (S ++ ((229, tabObj #[]) :: Rest))) (hs : SrcL src true S)
    (q : ∀ h' tk', h₀.StaysIn h' → h'.Ns L m → (∀ z ∈ Rest, h'.get? z.1 = some z.2) → GrownAt 229 h' → Q (.bool true) { s with heap := h', toks := tk' }) : wpAny (model pg w) (ktrTop dp un gd cn cs L a ccd cl []) (call (.ref 234) [.ref src]) Q E s := by
  obtain ⟨sa, sb, ta, tb, sk, rfl⟩ := hs
  have N2 : News h₀ L s.heap [(src, srcO sa sb ta tb), (229, tabObj #[])] := fun z hz => lo.1 z (by
    rcases List.mem_cons.mp hz with rfl | hz
    · exact .head _
    · rcases List.mem_cons.mp hz with rfl | hz
      · exact .tail _ (.head _)
      · cases hz)
  obtain ⟨FG, BG, st, _⟩ := groundX (A := ktrTop dp un gd cn cs L a ccd cl []) (env := envX cn cs L a ccd cl) (R := fun _ _ => True) B F N2 rfl rfl hk
  obtain ⟨oc, od, osl, params, body, scope, dV, kV, doc, pm, an, ct, hl, ⟨rfl, rfl⟩, hb⟩ := k_sam w.params
  refine enterC [("source", .ref src)] (by show dp < _; omega) (X.keeps F.keep) (T.nolimit.keeps F.keep) hl (k_samc w.params) (hb _ _) (by kernel_rfl) (by decide) (fun L' h₁ tk cells eL hns hst hc Y => ?_) rfl rfl rfl
  have hcs : (cellsFrom (L' + 1) s_sam.names []).map (·.1) = (["number", "grain", "fine"] : List PySem.Str) := by rfl
  obtain ⟨an1, an2⟩ := cf_snd s_sam.names (L' + 1) [] List.nodup_nil (fun _ h => nomatch h)
  have ndc : ((cellsFrom (L' + 1) s_sam.names []).map (·.1)).Nodup := hcs.symm ▸ (by decide)
  have r1 : VRs w src [] [.ref src] [.src] := .cons .src .nil
  have bd := zip_look (w := w) (src := src) (I := []) (["source"] : List PySem.Str) [.ref src] [.src] r1
  have nz : ((([("source", .ref src)] : List (PySem.Str × Value))).map (·.1)).Nodup := show ([("source" : PySem.Str)]).Nodup from by decide
  have bdl : ∀ x, s_sam.names.lookup x = some .local → Bd w src [] (bindL (envOfC "_law_samples_right" s_sam L' 234 (.ref 233)).kindOf [("source", .ref src)] (fun _ => none) x) (valN (["source"] : List PySem.Str) [.src] x) := fun x hx => by
    rw [bindL_get (kd := (envOfC "_law_samples_right" s_sam L' 234 (.ref 233)).kindOf) hx _ _ nz, Option.or_none]
    exact bd x
  have bdc : ∀ x, s_sam.names.lookup x = some .cell → Bd w src [] (bindC (envOfC "_law_samples_right" s_sam L' 234 (.ref 233)).kindOf [("source", .ref src)] (fun _ => none) x) (valN (["source"] : List PySem.Str) [.src] x) := fun x hx => by
    rw [bindC_get (kd := (envOfC "_law_samples_right" s_sam L' 234 (.ref 233)).kindOf) hx _ _ nz, Option.or_none]
    exact bd x
  have kc : ∀ x ∈ (["number", "grain", "fine"] : List PySem.Str), s_sam.names.lookup x = some .cell := by decide
  have kl : ∀ x ∈ (["source"] : List PySem.Str), s_sam.names.lookup x = some .local := by decide
  obtain ⟨lrc, ec⟩ := cells_LR (w := w) (src := src) (I := []) (R := [(229, tabObj #[])]) (env := envOfC "_law_samples_right" s_sam L' 234 (.ref 233)) (L := L') (m := bindL (envOfC "_law_samples_right" s_sam L' 234 (.ref 233)).kindOf [("source", .ref src)] fun _ => none) (val := valN (["source"] : List PySem.Str) [.src]) Y
    (fun q hq => ⟨kc _ (hcs ▸ List.mem_map.mpr ⟨q, hq, rfl⟩), look_mem ndc q hq⟩) bdc
  rw [hcs] at lrc
  have lr := lrc.app (loc_LR (w := w) (src := src) (I := []) (R := [(229, tabObj #[])]) (env := envOfC "_law_samples_right" s_sam L' 234 (.ref 233)) (L := L') rfl kl bdl)
  rw [List.append_nil, ← List.map_append] at lr
  have F1 : Fr (hideAll s.heap [src, 229]) L' h₁ (bindL (envOfC "_law_samples_right" s_sam L' 234 (.ref 233)).kindOf [("source", .ref src)] fun _ => none) := ⟨hns, fun b o e => hst b o (of_hideAll _ e), by rw [hideAll_size, eL]; exact Nat.le_refl _⟩
  have ng : ∀ {b}, s.heap.get? b = none → (hideAll s.heap [src, 229]).get? b = none := fun {b} hb => by
    cases q : (hideAll s.heap [src, 229]).get? b with
    | none => rfl
    | some o => have := of_hideAll _ q; rw [hb] at this; cases this
  have lo1 : LedOk (hideAll s.heap [src, 229]) L' h₁ (cells ++ ([(src, srcO sa sb ta tb)] ++ ([] ++ [(229, tabObj #[])]))) := by
    refine ⟨fun z hz => ?_, nodup_app.mpr ⟨ec ▸ an1, ?_, fun z hz y hy e => ?_⟩⟩
    · rcases List.mem_append.mp hz with hz | hz
      · exact ⟨(hc z hz).1, (hc z hz).2.1, ng (hc z hz).2.2⟩
      · have hz2 : z ∈ [(src, srcO sa sb ta tb), (229, tabObj #[])] := hz
        exact ⟨hst _ _ (N2 z hz2).1, by rw [eL]; exact Nat.ne_of_lt (Heap.lt_size (N2 z hz2).1), hideAll_none _ (List.mem_map_of_mem (f := (·.1)) hz2)⟩
    · have := lo.2
      simp only [List.map_append, List.map_cons, List.map_nil, List.cons_append, List.nil_append, List.nodup_cons, List.mem_cons, not_or] at this ⊢
      exact ⟨⟨this.1.1, fun h => nomatch h⟩, fun h => (nomatch h), List.nodup_nil⟩
    · have hy2 : y ∈ [(src, srcO sa sb ta tb), (229, tabObj #[])] := hy
      have h1 := (hc z hz).2.2
      rw [e, (N2 y hy2).1] at h1
      cases h1
  have ok : (Kx.mk cxS (envOfC "_law_samples_right" s_sam L' 234 (.ref 233)) src [(229, tabObj #[])] (hideAll s.heap [src, 229]) L' ((ktrTop dp un gd cn cs L a ccd cl []).deeper (envOfC "_law_samples_right" s_sam L' 234 (.ref 233))) (bindL (envOfC "_law_samples_right" s_sam L' 234 (.ref 233)).kindOf [("source", .ref src)] fun _ => none)).Ok w 6 400 :=
    ⟨rfl, ⟨rfl, rfl⟩, rfl, cxS_nd, dp + 1, un + 3, ⟨gd, "_law_samples_right", s_sam, 234, .ref 233, _, [envX cn cs L a ccd cl], rfl, ⟨rfl, by show 1 + 2 + claimMargin ≤ dp + 1; omega⟩, _, h₀, BG⟩, ⟨by omega, by omega⟩, X.keeps st, p, loose, mean, mg, mb, T.keeps st⟩
  have hi : ∀ q ∈ cellsFrom (L' + 1) s_sam.names [], L' < q.2 := fun q hq => (an2 q hq).elim (fun h => nomatch h) id
  have lt229 : 229 < L' := by rw [eL]; exact Heap.lt_size (N2 _ (.tail _ (.head _))).1
  have sg : ∀ b o, s.heap.get? b = some o → b ≠ src → b ≠ 229 → (hideAll s.heap [src, 229]).get? b = some o := fun b o hb h1 h2 => hideAll_get _ hb fun hm => by
    rcases List.mem_cons.mp hm with z | hm
    · exact h1 z
    · rcases List.mem_cons.mp hm with z | hm
      · exact h2 z
      · cases hm
  have nd := lo.2
  refine sam_body (A := ktrTop dp un gd cn cs L a ccd cl []) (h₀ := h₀) (g := hideAll s.heap [src, 229]) (l := [envX cn cs L a ccd cl]) (L' := L') (ccl := cellsFrom (L' + 1) s_sam.names []) rfl (by show dp + 20 < _; omega) BG X T (X.keeps st) (T.keeps st) (C.keeps st) (.head _) rfl rfl ok
    ⟨rfl, fun x _ _ c o hc hm => ?_⟩ ⟨F1, cells, [(src, srcO sa sb ta tb)], lr, ⟨sa, sb, ta, tb, sk, rfl⟩, lo1⟩ (fun h' tk' kp up gr => ?_)
  · have h1 := hi _ (mem_look hc)
    rcases List.mem_cons.mp hm with z | hm
    · have : c = 229 := congrArg Prod.fst z
      exact Nat.lt_irrefl _ (Nat.lt_trans lt229 (this ▸ h1))
    · cases hm
  have notF : ∀ b o, s.heap.get? b = some o → b ≠ L → b ∉ frs (envOfC "_law_samples_right" s_sam L' 234 (.ref 233) :: [envX cn cs L a ccd cl]) := fun b o hb hL hm => by
    have e : frs (envOfC "_law_samples_right" s_sam L' 234 (.ref 233) :: [envX cn cs L a ccd cl]) = [L', L] := rfl
    rw [e] at hm
    rcases List.mem_cons.mp hm with z | hm
    · rw [z, eL] at hb; exact Nat.lt_irrefl _ (Heap.lt_size hb)
    · rcases List.mem_cons.mp hm with z | hm
      · exact hL z
      · cases hm
  refine q h' tk' (fun b o hb => kp b o (notF b o (F.keep b o hb) fun e => ?_) (st b o hb)) (up.ns FG.ns) (fun z hz => ?_) gr
  · have := Heap.lt_size hb
    exact Nat.lt_irrefl _ (Nat.lt_of_lt_of_le (e ▸ this) F.above)
  · have hz1 := lo.1 z (.tail _ (.tail _ hz))
    simp only [List.map_append, List.map_cons, List.map_nil, List.cons_append, List.nil_append, List.nodup_cons, List.mem_cons, not_or] at nd
    exact kp _ _ (notF _ _ hz1.1 hz1.2.1) (sg _ _ hz1.1 (fun e => nd.1.2 (List.mem_map.mpr ⟨z, hz, e⟩)) fun e => nd.2.1 (List.mem_map.mpr ⟨z, hz, e⟩))
end

end --K7
section --W15
noncomputable def c_sml : CS := .set (nat_lit 0) (nat_lit 156004000009) (.disp false (.cons (.callF (nat_lit 0) (nat_lit 156013000025) (.cons (.disp true (.cons (.con (.int 4) (nat_lit 156027000028)) (.cons (.con (.int 0) (nat_lit 156030000031)) .nil)) (nat_lit 0) (nat_lit 156026000032)) (.cons (.disp true (.cons (.con (.int 4) (nat_lit 156035000036)) (.cons (.con (.int 8) (nat_lit 156038000039)) .nil)) (nat_lit 0) (nat_lit 156034000040)) .nil)) (nat_lit 156013000041)) (.cons (.callF (nat_lit 0) (nat_lit 156043000055) (.cons (.disp true (.cons (.con (.int 1) (nat_lit 156057000058)) (.cons (.con (.int 8) (nat_lit 156060000061)) .nil)) (nat_lit 0) (nat_lit 156056000062)) (.cons (.disp true (.cons (.con (.int 1) (nat_lit 156065000066)) (.cons (.con (.int 0) (nat_lit 156068000069)) .nil)) (nat_lit 0) (nat_lit 156064000070)) .nil)) (nat_lit 156043000071)) (.cons (.callF (nat_lit 0) (nat_lit 156073000085) (.cons (.disp true (.cons (.con (.int 4) (nat_lit 156087000088)) (.cons (.con (.int 0) (nat_lit 156090000091)) .nil)) (nat_lit 0) (nat_lit 156086000092)) (.cons (.disp true (.cons (.con (.int 4) (nat_lit 156095000096)) (.cons (.con (.int 4) (nat_lit 156098000099)) .nil)) (nat_lit 0) (nat_lit 156094000100)) .nil)) (nat_lit 156073000101)) .nil))) (nat_lit 0) (nat_lit 156012000102)) (nat_lit 156004000102) (.ite (.bop true (.cmpL true (.callF (nat_lit 1) (nat_lit 157007000016) (.cons (.loc (nat_lit 0) (nat_lit 157017000022)) (.cons (.con (.int 2) (nat_lit 157024000025)) .nil)) (nat_lit 157007000026)) (.disp false (.cons (.disp true (.cons (.disp true (.cons (.con (.int 8) (nat_lit 157033000034)) (.cons (.con (.int 8) (nat_lit 157036000037)) .nil)) (nat_lit 0) (nat_lit 157032000038)) (.cons (.neg (.con (.int 1) (nat_lit 157041000042)) (nat_lit 157040000042)) .nil)) (nat_lit 0) (nat_lit 157031000043)) (.cons (.disp true (.cons (.disp true (.cons (.con (.int 32) (nat_lit 157047000049)) (.cons (.con (.int 8) (nat_lit 157051000052)) .nil)) (nat_lit 0) (nat_lit 157046000053)) (.cons (.con (.int 1) (nat_lit 157055000056)) .nil)) (nat_lit 0) (nat_lit 157045000057)) (.cons (.disp true (.cons (.disp true (.cons (.con (.int 16) (nat_lit 157061000063)) (.cons (.con (.int 4) (nat_lit 157065000066)) .nil)) (nat_lit 0) (nat_lit 157060000067)) (.cons (.con (.int 1) (nat_lit 157069000070)) .nil)) (nat_lit 0) (nat_lit 157059000071)) .nil))) (nat_lit 0) (nat_lit 157030000072)) (nat_lit 157007000072)) (.cmp .NotEq (.callF (nat_lit 2) (nat_lit 157076000086) (.cons (.loc (nat_lit 0) (nat_lit 157087000092)) (.cons (.con (.int 3) (nat_lit 157094000095)) (.cons (.con (.int 2) (nat_lit 157097000098)) .nil))) (nat_lit 157076000099)) (.neg (.con (.int 1) (nat_lit 157104000105)) (nat_lit 157103000105)) (nat_lit 157076000105)) (nat_lit 157007000105)) (.ret (.con (.bool false) (nat_lit 158015000020)) (nat_lit 158008000020)) .done (nat_lit 157004001020) .done)
noncomputable def g_sml : List GE := [⟨"side_between", 145, false, false⟩, ⟨"crossings", 61, false, false⟩, ⟨"winding_at", 75, false, false⟩]
noncomputable def s_sml : Scope := ⟨.function, [("sides", .local),("side_between", .globalImplicit),("crossings", .globalImplicit),("winding_at", .globalImplicit),("is_inside", .globalImplicit),("_law_refused", .globalImplicit)], false, false, []⟩
noncomputable def i_sml : Stmt := .If (.Compare (.List [.Call (.Name "is_inside" (P (nat_lit 159008000017))) [.Constant (.int 2) 0 (P (nat_lit 159018000019)), .Constant (.str "nonzero") 0 (P (nat_lit 159021000030))] [] (P (nat_lit 159008000031)), .Call (.Name "is_inside" (P (nat_lit 159033000042))) [.Constant (.int 2) 0 (P (nat_lit 159043000044)), .Constant (.str "evenodd") 0 (P (nat_lit 159046000055))] [] (P (nat_lit 159033000056)), .Call (.Name "is_inside" (P (nat_lit 159058000067))) [.UnaryOp .USub (.Constant (.int 1) 0 (P (nat_lit 159069000070))) (P (nat_lit 159068000070)), .Constant (.str "evenodd") 0 (P (nat_lit 159072000081))] [] (P (nat_lit 159058000082))] (P (nat_lit 159007000083))) [.NotEq] [.List [.Constant (.bool true) 0 (P (nat_lit 159088000092)), .Constant (.bool false) 0 (P (nat_lit 159094000099)), .Constant (.bool true) 0 (P (nat_lit 159101000105))] (P (nat_lit 159087000106))] (P (nat_lit 159007000106))) [.Return (some (.Constant (.bool false) 0 (P (nat_lit 160015000020)))) (P (nat_lit 160008000020))] [] (P (nat_lit 159004001020))
noncomputable def l_sml : Scope := ⟨.function, [("check_rule", .globalImplicit)], false, false, []⟩
noncomputable def r_sml : Stmt := .Return (some (.BoolOp .And [.Call (.Name "_law_refused" (P (nat_lit 161011000023))) [.Lambda ⟨[], [], none, [], [], none, []⟩ (.Call (.Name "check_rule" (P (nat_lit 162008000018))) [.Constant (.str "odd") 0 (P (nat_lit 162019000024))] [] (P (nat_lit 162008000025))) l_sml (P (nat_lit 162000000025))] [] (P (nat_lit 161011001027)), .UnaryOp .Not (.Call (.Name "_law_refused" (P (nat_lit 162037000049))) [.Lambda ⟨[], [], none, [], [], none, []⟩ (.Call (.Name "check_rule" (P (nat_lit 163008000018))) [.Constant (.str "evenodd") 0 (P (nat_lit 163019000028))] [] (P (nat_lit 163008000029))) l_sml (P (nat_lit 163000000029))] [] (P (nat_lit 162037001031))) (P (nat_lit 162033001031))] (P (nat_lit 161011002032)))) (P (nat_lit 161004002032))
noncomputable def cxL : Cx := ⟨["sides"], s_sml, false⟩
noncomputable def wSml : List WF := [W_sideBetween, W_cross, W_wind]
noncomputable def smlR : List Row := [⟨4, 0, 4, 8, 1⟩, ⟨1, 0, 1, 8, -1⟩, ⟨4, 0, 4, 4, 1⟩]
theorem sml_ok : (∀ r ∈ smlR, CrOk 2 r) ∧ smlR.length ≤ 100 := by
  refine ⟨fun r hr => ?_, le100 rfl⟩
  simp only [smlR, List.mem_cons, List.not_mem_nil, or_false] at hr
  rcases hr with rfl | rfl | rfl <;> (unfold CrOk SmR Sm Row.num; decide)
theorem sml_wp {k : List PV → Prop} {R : PV → Prop} (hk : ∀ l, k l) : wpS (wt wSml) c_sml [.unb] k R := by
  refine ⟨le100 rfl, le100 rfl, (4, 0), (4, 8), rfl, le100 rfl, le100 rfl, (1, 8), (1, 0), rfl, le100 rfl, le100 rfl, (4, 0), (4, 4), rfl, le100 rfl, ?_⟩
  refine ⟨smlR, 2, rfl, sml_ok, ?_⟩
  have e : (crossL 2 smlR).map crV = [.tup [.tup [.int 8, .int 8], .int (-1)], .tup [.tup [.int 32, .int 8], .int 1], .tup [.tup [.int 16, .int 4], .int 1]] := by
    unfold smlR
    rfl
  rw [e]
  refine ⟨le100 rfl, le100 rfl, le100 rfl, le100 rfl, le100 rfl, le100 rfl, le100 rfl, ⟨rfl, rfl⟩, fun _ => ?_, fun hn => absurd rfl hn⟩
  refine ⟨smlR, 3, 2, rfl, ⟨sml_ok, by unfold Sm; decide⟩, ?_⟩
  have e2 : windL 3 (crossL 2 smlR) = -1 := by rfl
  rw [e2]
  exact hk _
theorem k_sml (P : Params) : ∃ oc od osl params body scope dV kV doc pm an ct, (hd.heap_1 P).lookup 241 = some ⟨oc, od, .func (fnOf "_law_small_right" "_law_small_right" params body scope dV kV doc pm an (.ref 240) ct), osl⟩ ∧
    (body = sts g_sml c_sml cxL ++ [i_sml, r_sml] ∧ scope = s_sml) ∧ ∀ (s : Shared), BindsTo s (fnOf "_law_small_right" "_law_small_right" params body scope dV kV doc pm an (.ref 240) ct) ⟨[], []⟩ [] :=
  ⟨_, _, _, _, _, _, _, _, _, _, _, _, rfl, ⟨by kernel_rfl, by kernel_rfl⟩, fun s => BindsTo.of_eq rfl⟩
theorem k_smlc (P : Params) : codeIn (hd.heap_1 P) (.ref 240) "_law_small_right" = true := by k_is

end --W15
section --K8
section
local macro_rules | `(tactic| k_all) => `(tactic| assumption)
local macro_rules | `(tactic| k_room) => `(tactic| ktr_room)
local macro_rules | `(tactic| k_units) => `(tactic| ktr_units)
local macro_rules | `(tactic| units_room) => `(tactic| ktr_units)
section
variable {w : World} {A : Around} {Q E : Value → Shared → Prop} {s : Shared} {p : Program} {loose : List PySem.Str} {mean : ExcName → Option Value} {mg mb : PySem.Str → Option Value}
theorem r_inside {n : Int} {r : PySem.Str} {t u : Tok} (hroom : A.depth + 3 < recursionLimit) (X : (hd.heap_1 w.params).In s.heap) (T : Top p loose mean mg mb s.heap)
    (hq : ∀ h' tk', s.heap.StaysIn h' → Q (.bool (if (r == "nonzero") = true then n != 0 else n.fmod 2 != 0)) { s with heap := h', toks := tk' }) : wpAny (model pg w) A (call (.ref 68) [.int n t, .str r u]) Q E s := by
  refine enterR [("winding", .int n t), ("rule", .str r u)] (by omega) X T.nolimit (by k_is) (by k_is) (BindsTo.of_eq rfl) (by decide) (by kernel_rfl) (fun L h₁ tk hns st nL le => ?_) rfl rfl rfl
  have F' : Fr s.heap L h₁ (fun y => [(("winding" : PySem.Str), Value.int n t), ("rule", .str r u)].reverse.lookup y) := ⟨hns, st, le⟩
  have N' : News s.heap L h₁ [] := fun _ h => nomatch h
  k_steps
  · rename_i c
    rw [if_pos c] at hq
    exact hq _ _ st
  · rename_i c
    rw [if_neg (by rw [c]; decide)] at hq
    exact hq _ _ st
theorem n_inside (P : Params) : nsIn (hd.heap_1 P) mainGlobals "is_inside" = some (some (.ref 68)) ∧ keepIn (hd.heap_1 P) (.ref 68) = true := by constructor <;> k_is
theorem n_rule (P : Params) : nsIn (hd.heap_1 P) mainGlobals "check_rule" = some (some (.ref 96)) ∧ keepIn (hd.heap_1 P) (.ref 96) = true := by constructor <;> k_is
end
end
section
variable {w : World} {A : Around} {E Q : Value → Shared → Prop} {s : Shared} {h₀ g : Heap} {L a : Addr} {m : PySem.Str → Option Value} {cn : PySem.Str} {ccd : Value} {p : Program} {loose : List PySem.Str} {mean : ExcName → Option Value} {mg mb : PySem.Str → Option Value} {N : Led}
/-- `is_inside(e, 'r')` evaluated -/
theorem ev_inside {n : Int} {r : PySem.Str} {e : PySem.Expr} {p1 p2 p3 : Pos} (hroom : A.depth + 3 < recursionLimit) (F : Fr g L s.heap m) (X : (hd.heap_1 w.params).In g) (T : Top p loose mean mg mb g) (NN : News g L s.heap N)
    (he : ∀ (Q' : Value → Shared → Prop) (tk0 : Nat), (∀ t tk, Q' (.int n t) { s with toks := tk }) → wpAny (model pg w) A (eval e (envOf cn s_sml L a ccd)) Q' E { s with toks := tk0 }) (hs : ∀ env es, starEach (e :: es) env = (false, eval e env) :: starEach es env)
    (q : ∀ h' tk', Fr g L h' m → News g L h' N → Q (.bool (if (r == "nonzero") = true then n != 0 else n.fmod 2 != 0)) { s with heap := h', toks := tk' }) :
    wpAny (model pg w) A (eval (.Call (.Name "is_inside" p1) [e, .Constant (.str r) 0 p2] [] p3) (envOf cn s_sml L a ccd)) Q E s := by
  refine Call_Name rfl (nameX_K (cl := []) F X (topRead_of T) (n_inside w.params).1 (callWith_K (first := []) X (n_inside w.params).2 (spliced_more (he _ s.toks fun t tk => spliced_more (wpAny_Constant_str (spliced_none ⟨fun b o e => F.keep b o (X b o e), ?_⟩))) (hs _ _)) (hs _ _)) rfl rfl)
  refine r_inside (s := { s with toks := _ }) hroom (fun b o e => F.keep b o (X b o e)) (T.keeps F.keep) fun h' tk' st => q h' tk' ⟨F.ns.keeps st, fun b o e => st b o (F.keep b o e), F.above⟩ fun z hz => ⟨st _ _ (NN z hz).1, (NN z hz).2⟩
theorem bools_ne {l1 l2 : Addr} {h : Heap} (hu : A.units + 64 < cLine) (h1 : h.get? l1 = some (listOf #[.bool true, .bool false, .bool true] 0)) (h2 : h.get? l2 = some (listOf #[.bool true, .bool false, .bool true] 0)) (e : s.heap = h)
    (q : Q (.bool false) s) : wpAny (model pg w) A (compareOp .NotEq (.ref l1) (.ref l2)) Q E s := by
  subst e
  have rl : ReadsAll s.heap [.bool true, .bool false, .bool true] [.bool true, .bool false, .bool true] ([] ++ ([] ++ ([] ++ []))) := .cons (.bool _) (.cons (.bool _) (.cons (.bool _) .nil))
  exact ne_dataH (reads_list_at h1 rfl rfl rl) (reads_list_at h2 rfl rfl rl) (by decide) (by decide) hu q
/-- the second test of the small law -/
theorem sml_if {Qf : Flow → Shared → Prop} (hroom : A.depth + 3 < recursionLimit) (hu : A.units + 64 < cLine) (F : Fr g L s.heap m) (X : (hd.heap_1 w.params).In g) (T : Top p loose mean mg mb g) (NN : News g L s.heap N)
    (q : ∀ h' tk', Fr g L h' m → News g L h' N → Qf .next { s with heap := h', toks := tk' }) : wpAny (model pg w) A (exec i_sml (envOf cn s_sml L a ccd)) Qf E s := by
  unfold i_sml
  refine wpAny_If (wpAny_isTrue_Compare1 (List_ (spliced_more (ev_inside hroom F X T NN (fun Q' tk0 k => wpAny_Constant_int (k _ _)) (fun _ _ => rfl) fun h1 t1 F1 N1 => spliced_more (ev_inside (s := { s with heap := h1, toks := t1 }) hroom F1 X T N1 (fun Q' tk0 k => wpAny_Constant_int (k _ _)) (fun _ _ => rfl) fun h2 t2 F2 N2 =>
    spliced_more (ev_inside (s := { s with heap := h2, toks := t2 }) hroom F2 X T N2 (fun Q' tk0 k => wpAny_UnaryOp (wpAny_Constant_int (neg_int (k _ _)))) (fun _ _ => rfl) fun h3 t3 F3 N3 => spliced_none ?_))))) (by rfl))
  refine newList_K (s := { s with heap := h3, toks := t3 }) F3 N3 (fun l1 h4 F4 N4 _ => ?_) (by rw [sl_eq]; show 3 ≤ _; omega)
  refine List_ (spliced_more (wpAny_Constant_bool (spliced_more (wpAny_Constant_bool (spliced_more (wpAny_Constant_bool (spliced_none ?_)))))))
  refine newList_K (s := { s with heap := h4, toks := t3 }) F4 N4 (fun l2 h5 F5 N5 _ => ?_) (by rw [sl_eq]; show 3 ≤ _; omega)
  exact bools_ne (s := { s with heap := h5, toks := t3 }) hu (N5 _ (.tail _ (.head _))).1 (N5 _ (.head _)).1 rfl (wpAny_truthy_bool (wpAny_execs_nil (q h5 t3 F5 fun z hz => N5 z (.tail _ (.tail _ hz)))))
/-- the last statement of the small law -/
theorem sml_ret {l : List Env} {L' : Addr} {Qf : Flow → Shared → Prop} (hh : A.handled = none) (hroom : A.depth + 20 < recursionLimit) (BG : Below A h₀ l g) (XB : (hd.heap_1 w.params).In h₀) (TB : Top p loose mean mg mb h₀) (X : (hd.heap_1 w.params).In g) (T : Top p loose mean mg mb g) (C : CodeHd h₀ 240 236) (st : h₀.StaysIn g)
    (F : Fr g L' s.heap m) (hab : h₀.objs.size ≤ L') (hT : s.heap.get? 236 = some (tabObj #[])) (hT0 : g.get? 236 = none) (hTL : 236 ≠ L')
    (q : ∀ h' tk', (∀ b o, b ∉ frs (envOf "_law_small_right" s_sml L' 241 (.ref 240) :: l) → g.get? b = some o → h'.get? b = some o) → g.UpToSlots h' → GrownAt 236 h' → Qf (.ret (.bool true)) { s with heap := h', toks := tk' }) :
    wpAny (model pg w) (A.deeper (envOf "_law_small_right" s_sml L' 241 (.ref 240))) (exec r_sml (envOf "_law_small_right" s_sml L' 241 (.ref 240))) Qf E s := by
  unfold r_sml
  have hT00 : h₀.get? 236 = none := fresh_of_stays st hT0
  refine wpAny_Return_some (BoolOp_and (Call_Name rfl (nameX_K (cl := []) F X (topRead_of T) (n_refused w.params).1 (callWith_K (first := []) X (n_refused w.params).2 (spliced_more
    (make_lam (clos := []) T (C.keeps st) F.keep hT hT0 trivial rfl rfl rfl fun f c' ctv h3 tk3 hk3 hrec hfn htab => spliced_none ⟨?_, ?_⟩))) rfl rfl)))
  · exact fun b o hb => hk3 b o (fun e => by have z := X b o hb; rw [e, hT0] at z; cases z) (F.keep b o (X b o hb))
  have st3 : g.StaysIn h3 := fun b o hb => hk3 b o (fun e => by rw [e, hT0] at hb; cases hb) (F.keep b o hb)
  have F3 : Fr g L' h3 m := ⟨by
    obtain ⟨o, es, ep, ho, r⟩ := F.ns
    exact ⟨o, es, ep, hk3 _ _ (Ne.symm hTL) ho, r⟩, st3, F.above⟩
  have B3 := pushX (A := A) (env := envOf "_law_small_right" s_sml L' 241 (.ref 240)) BG F3 rfl rfl
  refine r_refused (s := { s with heap := h3, toks := tk3 }) B3 XB TB (by show A.depth + 1 + 8 < _; omega) (X.keeps st3) (T.keeps st3) ⟨_, _, _, _, hfn⟩ (fun envr h4 tk4 Q' E' st4 B4 fl => ?_) fun hA tkA sb up => ?_
  · have X4 := (X.keeps st3).keeps st4
    have T4 := (T.keeps st3).keeps st4
    refine enterL (s := { s with heap := h4, toks := tk4 }) (by show A.depth + 1 + 1 < _; omega) T4.nolimit (st4 _ _ hfn) (hrec.keeps st4) rfl (by decide) (fun L5 h5 tk5 e5 hns5 st5 => ?_) rfl rfl rfl
    have F5 : Fr h4 L5 h5 (fun _ => none) := ⟨hns5, st5, Nat.le_of_eq e5.symm⟩
    have B5 := pushX (A := (A.deeper (envOf "_law_small_right" s_sml L' 241 (.ref 240))).deeper envr) (env := envX (("_law_small_right" ++ ".<locals>.") ++ "<lambda>") l_sml L5 f (.ref c') []) B4 F5 rfl rfl
    refine Call_Name rfl (nameX_K (s := { s with heap := h5, toks := tk5 }) F5 X4 (topRead_of T4) (n_rule w.params).1 (callWith_K (first := []) X4 (n_rule w.params).2 (spliced_more (wpAny_Constant_str (spliced_none ⟨X4.keeps st5, ?_⟩)))) rfl rfl)
    refine r_rule (s := { s with heap := h5, toks := tk5 + 1 }) B5 hh (by show A.depth + 1 + 1 + 1 + 3 < _; omega) (X4.keeps st5) (T4.keeps st5) fun h' tk' e fl5 => ?_
    exact fly_next (s := { s with heap := h', toks := tk' }) (h1 := h5) B4.stack rfl (Heap.get?_none_of_le (Nat.le_of_eq e5.symm)) st5 fl5 fun h'' fl2 => fl h'' tk' e fl2
  refine wpAny_truthy_bool ?_
  have kA : ∀ b o, b ∉ frs (envOf "_law_small_right" s_sml L' 241 (.ref 240) :: l) → h3.get? b = some o → hA.get? b = some o := fun b o nb hb => sb b o (hideAll_get _ hb nb)
  have b0 : ∀ b o, h₀.get? b = some o → b ∉ frs (envOf "_law_small_right" s_sml L' 241 (.ref 240) :: l) := fun b o hb hm => by
    rw [frs_base B3.frames hm] at hb; cases hb
  have stA : h₀.StaysIn hA := fun b o hb => kA b o (b0 b o hb) (st3 b o (st b o hb))
  have n236 : 236 ∉ frs (envOf "_law_small_right" s_sml L' 241 (.ref 240) :: l) := fun hm => by
    obtain ⟨o, ho, hd⟩ := (B3.frames.mem hm).2
    rw [htab] at ho
    cases ho
    exact hd _ rfl
  have FA : Fr h₀ L' hA m := ⟨up.ns F3.ns, stA, hab⟩
  show wpAny _ _ (eval (.BoolOp .And [_] _) _) _ _ _
  refine BoolOp_one (wpAny_UnaryOp (Call_Name rfl (nameX_K (cl := []) (s := { s with heap := hA, toks := tkA }) FA XB (topRead_of TB) (n_refused w.params).1 (callWith_K (first := []) XB (n_refused w.params).2 (spliced_more
    (make_lam (s := { s with heap := hA, toks := tkA }) (clos := []) TB C stA (kA _ _ n236 htab) hT00 (by simp [TriplesOk, rawInt]) (by simp [codeAmong, rawInt]; decide) rfl rfl fun f2 c2 ctv2 hB tkB hkB hrecB hfnB htabB => spliced_none ⟨?_, ?_⟩))) rfl rfl)))
  · exact fun b o hb => hkB b o (fun e => by have z := XB b o hb; rw [e, hT00] at z; cases z) (stA b o (XB b o hb))
  have stB : h₀.StaysIn hB := fun b o hb => hkB b o (fun e => by rw [e, hT00] at hb; cases hb) (stA b o hb)
  have BB : Below (A.deeper (envOf "_law_small_right" s_sml L' 241 (.ref 240))) h₀ (envOf "_law_small_right" s_sml L' 241 (.ref 240) :: l) hB := ⟨B3.stack, stB, B3.frames.of_keeps fun b o hb hnf => by
    obtain ⟨sl, hs⟩ := up b o hb hnf
    exact ⟨_, hkB _ _ (fun e => by rw [e, htab] at hb; cases hb; exact hnf _ rfl) hs, rfl⟩⟩
  refine r_refused2 (s := { s with heap := hB, toks := tkB }) BB (by show A.depth + 1 + 8 < _; omega) (XB.keeps stB) (TB.keeps stB) ⟨_, _, _, _, hfnB⟩ (fun envr h4 tk4 Q' E' st4 B4 fl => ?_) fun hC tkC stC => ?_
  · have X4 := (XB.keeps stB).keeps st4
    have T4 := (TB.keeps stB).keeps st4
    refine enterL (s := { s with heap := h4, toks := tk4 }) (by show A.depth + 1 + 1 < _; omega) T4.nolimit (st4 _ _ hfnB) (hrecB.keeps st4) rfl (by decide) (fun L5 h5 tk5 e5 hns5 st5 => ?_) rfl rfl rfl
    have F5 : Fr h4 L5 h5 (fun _ => none) := ⟨hns5, st5, Nat.le_of_eq e5.symm⟩
    refine Call_Name rfl (nameX_K (s := { s with heap := h5, toks := tk5 }) F5 X4 (topRead_of T4) (n_rule w.params).1 (callWith_K (first := []) X4 (n_rule w.params).2 (spliced_more (wpAny_Constant_str (spliced_none ⟨X4.keeps st5, ?_⟩)))) rfl rfl)
    exact r_rule2 (s := { s with heap := h5, toks := tk5 + 1 }) (by show A.depth + 1 + 1 + 1 + 3 < _; omega) (X4.keeps st5) (T4.keeps st5) fun h' tk' st6 => fl _ h' tk' fun b o hb => st6 b o (st5 b o hb)
  refine not_of (wpAny_truthy_bool (q hC tkC (fun b o nb hb => ?_) (fun b o hb hnf => ?_) ⟨_, stC _ _ htabB⟩))
  · exact stC b o (hkB b o (fun e => by rw [e, hT0] at hb; cases hb) (kA b o nb (st3 b o hb)))
  · obtain ⟨sl, hs⟩ := up b o (st3 b o hb) hnf
    exact ⟨sl, stC _ _ (hkB _ _ (fun e => by rw [e, hT0] at hb; cases hb) hs)⟩
end
section
variable {w : World} {E Q : Value → Shared → Prop} {s : Shared} {h₀ : Heap} {L a : Addr} {m : PySem.Str → Option Value} {cn : PySem.Str} {cs : Scope} {ccd : Value} {cl : List (PySem.Str × Addr)} {dp un : Nat} {gd : Option (List Code)} {p : Program} {loose : List PySem.Str} {mean : ExcName → Option Value} {mg mb : PySem.Str → Option Value} {Rest : Led} {A₀ : Around}
theorem n_sideB (P : Params) : nsIn (hd.heap_1 P) mainGlobals "side_between" = some (some (.ref 145)) ∧ keepIn (hd.heap_1 P) (.ref 145) = true := by constructor <;> k_is
theorem n_windA (P : Params) : nsIn (hd.heap_1 P) mainGlobals "winding_at" = some (some (.ref 75)) ∧ keepIn (hd.heap_1 P) (.ref 75) = true := by constructor <;> k_is
theorem gok_sml : GOk w (wt wSml) g_sml 6 500 :=
  gok_cons (oneF (f_sideBetween f_Side) (by decide) (by decide) (by decide) (n_sideB w.params).1 (n_sideB w.params).2) (gok_cons (oneF f_crossings (by decide) (by decide) (by decide) (n_crossings w).1 (n_crossings w).2) (gok_cons (oneF f_wind (by decide) (by decide) (by decide) (n_windA w.params).1 (n_windA w.params).2) gok_nil))
theorem cxL_nd : cxL.ns.Nodup ∧ ∀ x ∈ cxL.ns, (x == ("__debug__" : PySem.Str)) = false := by constructor <;> decide
/-- _law_small_right: it returns True -/
theorem r_small (hk : cs.kind = .function) (hdp : dp + 40 < recursionLimit) (hu : un + 900 < cLine) (hol : 2 + claimMargin ≤ dp) (B : Below A₀ h₀ [] h₀) (X : (hd.heap_1 w.params).In h₀) (T : Top p loose mean mg mb h₀) (C : CodeHd h₀ 240 236)
    (F : Fr h₀ L s.heap m) (lo : LedOk h₀ L s.heap ((236, tabObj #[]) :: Rest))
    (q : ∀ h' tk', h₀.StaysIn h' → h'.Ns L m → (∀ z ∈ Rest, h'.get? z.1 = some z.2) → GrownAt 236 h' → Q (.bool true) { s with heap := h', toks := tk' }) : wpAny (model pg w) (ktrTop dp un gd cn cs L a ccd cl []) (call (.ref 241) []) Q E s := by
  have N2 : News h₀ L s.heap [(236, tabObj #[])] := fun z hz => lo.1 z (by
    rcases List.mem_cons.mp hz with rfl | hz
    · exact .head _
    · cases hz)
  obtain ⟨FG, BG, st, _⟩ := groundX (A := ktrTop dp un gd cn cs L a ccd cl []) (env := envX cn cs L a ccd cl) (R := fun _ _ => True) B F N2 rfl rfl hk
  obtain ⟨oc, od, osl, params, body, scope, dV, kV, doc, pm, an, ct, hl, ⟨rfl, rfl⟩, hb⟩ := k_sml w.params
  refine enterR [] (by show dp < _; omega) (X.keeps F.keep) (T.nolimit.keeps F.keep) hl (k_smlc w.params) (hb _) (by kernel_rfl) (by rfl) (fun L' h₁ tk hns hst nL le => ?_) rfl rfl rfl
  have F1 : Fr (hideAll s.heap [236]) L' h₁ (fun x => ([] : List (PySem.Str × Value)).reverse.lookup x) := ⟨hns, fun b o e => hst b o (of_hideAll _ e), by rw [hideAll_size]; exact le⟩
  have g236 : (hideAll s.heap [236]).get? 236 = none := hideAll_none _ (.head _)
  have n236 : (236 : Addr) ≠ L' := fun e => by rw [← e, (N2 _ (.head _)).1] at nL; cases nL
  have hab : h₀.objs.size ≤ L' := by
    obtain ⟨o, _, _, ho, _⟩ := F.ns
    exact Nat.le_trans F.above (Nat.le_trans (Nat.le_of_lt (Heap.lt_size ho)) le)
  have lo1 : LedOk (hideAll s.heap [236]) L' h₁ ([] ++ ([] ++ ([] ++ [(236, tabObj #[])]))) := by
    refine ⟨fun z hz => ?_, List.nodup_cons.mpr ⟨(fun h => nomatch h), List.nodup_nil⟩⟩
    rcases List.mem_cons.mp hz with rfl | hz
    · exact ⟨hst _ _ (N2 _ (.head _)).1, n236, g236⟩
    · cases hz
  have ok : (Kx.mk cxL (envOf "_law_small_right" s_sml L' 241 (.ref 240)) 0 [(236, tabObj #[])] (hideAll s.heap [236]) L' ((ktrTop dp un gd cn cs L a ccd cl []).deeper (envOf "_law_small_right" s_sml L' 241 (.ref 240))) (fun x => ([] : List (PySem.Str × Value)).reverse.lookup x)).Ok w 6 500 :=
    ⟨rfl, ⟨rfl, rfl⟩, rfl, cxL_nd, dp + 1, un + 3, ⟨gd, "_law_small_right", s_sml, 241, .ref 240, _, [envX cn cs L a ccd cl], rfl, ⟨rfl, by show 1 + 2 + claimMargin ≤ dp + 1; omega⟩, _, h₀, BG⟩, ⟨by omega, by omega⟩, X.keeps st, p, loose, mean, mg, mb, T.keeps st⟩
  have S : (Kx.mk cxL (envOf "_law_small_right" s_sml L' 241 (.ref 240)) 0 [(236, tabObj #[])] (hideAll s.heap [236]) L' ((ktrTop dp un gd cn cs L a ccd cl []).deeper (envOf "_law_small_right" s_sml L' 241 (.ref 240))) (fun x => ([] : List (PySem.Str × Value)).reverse.lookup x)).St w h₁ [.unb] [] :=
    ⟨F1, [], [], .cons (M1 := []) (.unF rfl rfl) .nil, rfl, lo1⟩
  refine execs_app (wpAny_noRaise (soundS gok_sml c_sml (Kx.mk cxL (envOf "_law_small_right" s_sml L' 241 (.ref 240)) 0 [(236, tabObj #[])] (hideAll s.heap [236]) L' ((ktrTop dp un gd cn cs L a ccd cl []).deeper (envOf "_law_small_right" s_sml L' 241 (.ref 240))) (fun x => ([] : List (PySem.Str × Value)).reverse.lookup x)) { s with heap := h₁, toks := tk } [] _ (fun _ => True) (fun _ => False) _ ok
    ⟨rfl, fun x hx hkd c o hc hm => nomatch hc⟩ (by kernel_rfl) S (sml_wp fun _ => trivial) ⟨fun m2 loc2 h2 tk2 I2 _ _ S2 => ?_, fun _ _ _ _ _ _ _ _ h => h.elim⟩))
  obtain ⟨F2, M2, Sx, _, _, lo2⟩ := S2
  have N3 : News (hideAll s.heap [236]) L' h2 [(236, tabObj #[])] := fun z hz => lo2.1 z (List.mem_append_right _ (List.mem_append_right _ (List.mem_append_right _ hz)))
  refine wpAny_execs_cons (sml_if (s := { s with heap := h2, toks := tk2 }) (by show dp + 1 + 3 < _; omega) (by show un + 3 + 64 < _; omega) F2 (X.keeps st) (T.keeps st) N3 fun h3 tk3 F3 N4 => ?_)
  refine wpAny_execs_cons (sml_ret (s := { s with heap := h3, toks := tk3 }) (A := ktrTop dp un gd cn cs L a ccd cl []) (l := [envX cn cs L a ccd cl]) rfl (by show dp + 20 < _; omega) BG X T (X.keeps st) (T.keeps st) C st F3 hab (N4 _ (.head _)).1 g236 n236 fun h' tk' kp up gr => ?_)
  have sg : ∀ b o, s.heap.get? b = some o → b ≠ 236 → (hideAll s.heap [236]).get? b = some o := fun b o hb h1 => hideAll_get _ hb fun hm => by
    rcases List.mem_cons.mp hm with z | hm
    · exact h1 z
    · cases hm
  have notF : ∀ b o, s.heap.get? b = some o → b ≠ L → b ∉ frs (envOf "_law_small_right" s_sml L' 241 (.ref 240) :: [envX cn cs L a ccd cl]) := fun b o hb hL hm => by
    have e : frs (envOf "_law_small_right" s_sml L' 241 (.ref 240) :: [envX cn cs L a ccd cl]) = [L', L] := rfl
    rw [e] at hm
    rcases List.mem_cons.mp hm with z | hm
    · rw [z, nL] at hb; cases hb
    · rcases List.mem_cons.mp hm with z | hm
      · exact hL z
      · cases hm
  refine q h' tk' (fun b o hb => kp b o (notF b o (F.keep b o hb) fun e => ?_) (st b o hb)) (up.ns FG.ns) (fun z hz => ?_) gr
  · exact Nat.lt_irrefl _ (Nat.lt_of_lt_of_le (e ▸ Heap.lt_size hb) F.above)
  · have hz1 := lo.1 z (.tail _ hz)
    exact kp _ _ (notF _ _ hz1.1 hz1.2.1) (sg _ _ hz1.1 fun e => (List.nodup_cons.mp lo.2).1 (List.mem_map.mpr ⟨z, hz, e⟩))
end

end --K8
section --K9
section
local macro_rules | `(tactic| k_all) => `(tactic| assumption)
local macro_rules | `(tactic| k_room) => `(tactic| ktr_room)
local macro_rules | `(tactic| k_units) => `(tactic| ktr_units)
local macro_rules | `(tactic| units_room) => `(tactic| ktr_units)
theorem pool_nn (c : Int) (x : Prop) [Decidable x] : 0 ≤ (if -1 - c > c then -1 - c else c) * (if x then 1 else 0) := by
  split <;> split <;> omega
theorem r_pool {w : World} {E Q : Value → Shared → Prop} {s : Shared} {h₀ : Heap} {L a sc : Addr} {m : PySem.Str → Option Value} {cn : PySem.Str} {cs : Scope} {ccd : Value} {cl : List (PySem.Str × Addr)} {dp un : Nat} {gd : Option (List Code)} {outer : List Env} {p : Program} {loose : List PySem.Str} {mean : ExcName → Option Value} {mg mb : PySem.Str → Option Value} {A₀ : Around} {I : Led} {t : Tok} {vs : List Value} {ns : List Int}
    (hk : cs.kind = .function) (hdp : dp + 4 < recursionLimit) (hu : un + 320 < cLine) (B : Below A₀ h₀ outer h₀) (X : (hd.heap_1 w.params).In h₀) (T : Top p loose mean mg mb h₀) (F : Fr h₀ L s.heap m) (N : News h₀ L s.heap I) (hL : h₀.IsList sc vs.toArray) (hI : IntsAre vs ns) (hz : ns.length ≤ 63)
    (q : ∀ h' tk' D sa sb ta tb, Fr h₀ L h' m → News h₀ L h' ((D, srcO sa sb ta tb) :: I) → (∀ z ∈ I, z.1 < D) → SrcOk sa sb → Q (.ref D) { s with heap := h', toks := tk' }) :
    wpAny (model pg w) (ktrTop dp un gd cn cs L a ccd cl outer) (call (.ref 172) [.ref sc, .int 0 t]) Q E s := by
  refine wpAny_call ?_
  k_dflt cell_enter
  k_steps
  all_goals
    rename News _ _ _ _ => kN
    rename Fr _ _ _ _ => kF
    exact q _ _ _ _ _ _ _ kF kN (by assumption) ⟨pool_nn _ _, Int.fmod_nonneg_of_pos _ (by decide), Int.fmod_lt_of_pos _ (by decide)⟩
end

end --K9
section --K10
noncomputable def c_mid : CS := .set2 true (nat_lit 1) (nat_lit 168004000012) (nat_lit 2) (nat_lit 168014000024) (nat_lit 0) (nat_lit 168004000024) (.callF (nat_lit 0) (nat_lit 168028000041) (.cons (.loc (nat_lit 0) (nat_lit 168042000048)) .nil) (nat_lit 168028000049)) (.cmp .Eq (.callF (nat_lit 1) (nat_lit 168051000060) (.cons (.loc (nat_lit 0) (nat_lit 168061000067)) (.cons (.con (.int 2) (nat_lit 168069000070)) .nil)) (nat_lit 168051000071)) (.con (.int 0) (nat_lit 168075000076)) (nat_lit 168051000076)) (nat_lit 0) (nat_lit 168027000077) (nat_lit 168004000077) (.set2 true (nat_lit 3) (nat_lit 169004000009) (nat_lit 4) (nat_lit 169011000015) (nat_lit 0) (nat_lit 169004000015) (.callF (nat_lit 2) (nat_lit 169019000027) (.cons (.loc (nat_lit 1) (nat_lit 169028000036)) (.cons (.loc (nat_lit 2) (nat_lit 169038000048)) .nil)) (nat_lit 169019000049)) (.callF (nat_lit 3) (nat_lit 169051000060) (.cons (.loc (nat_lit 1) (nat_lit 169061000069)) (.cons (.loc (nat_lit 2) (nat_lit 169071000081)) .nil)) (nat_lit 169051000082)) (nat_lit 0) (nat_lit 169018000083) (nat_lit 169004000083) (.set (nat_lit 5) (nat_lit 170004000009) (.callF (nat_lit 2) (nat_lit 170012000020) (.cons (.loc (nat_lit 1) (nat_lit 170021000029)) .nil) (nat_lit 170012000030)) (nat_lit 170004000030) (.ite (.bop true (.cmpL true (.comp (.loc (nat_lit 3) (nat_lit 171031000036)) ["side"] (nat_lit 171023000027) (nat_lit 0) (nat_lit 0) (nat_lit 0) [] .nil (.callM (nat_lit 4) (nat_lit 0) (nat_lit 171008000012) (nat_lit 171008000016) .nil (nat_lit 171008000018)) ⟨.function, [(".0", .local),("side", .local)], false, false, []⟩ (nat_lit 171007000037)) (.loc (nat_lit 4) (nat_lit 171041000045)) (nat_lit 171007000045)) (.cmpL true (.comp (.loc (nat_lit 5) (nat_lit 171073000078)) ["side"] (nat_lit 171065000069) (nat_lit 0) (nat_lit 0) (nat_lit 0) [] .nil (.callM (nat_lit 4) (nat_lit 0) (nat_lit 171050000054) (nat_lit 171050000058) .nil (nat_lit 171050000060)) ⟨.function, [(".0", .local),("side", .local)], false, false, []⟩ (nat_lit 171049000079)) (.callF (nat_lit 3) (nat_lit 171083000092) (.cons (.loc (nat_lit 1) (nat_lit 171093000101)) (.cons (.con (.bool true) (nat_lit 171103000107)) .nil)) (nat_lit 171083000108)) (nat_lit 171049000108)) (nat_lit 171007000108)) (.ret (.con (.bool false) (nat_lit 172015000020)) (nat_lit 172008000020)) .done (nat_lit 171004001020) (.forT [(nat_lit 6)] (nat_lit 173008000009) (nat_lit 0) (nat_lit 0) (nat_lit 0) (.disp false (.cons (.bin .Sub (.callF (nat_lit 1) (nat_lit 173014000023) (.cons (.loc (nat_lit 0) (nat_lit 173024000030)) (.cons (.con (.int 10) (nat_lit 173032000034)) .nil)) (nat_lit 173014000035)) (.con (.int 5) (nat_lit 173038000039)) (nat_lit 173014000039)) (.cons (.ite (.cmpL true (.loc (nat_lit 4) (nat_lit 173055000059)) (.disp false .nil (nat_lit 0) (nat_lit 173063000065)) (nat_lit 173055000065)) (.item (.lidx (nat_lit 4) (nat_lit 173041000045) (.con (.int 0) (nat_lit 173046000047)) (nat_lit 173041000048)) (nat_lit 1) (nat_lit 173049000050) (nat_lit 173041000051)) (.con (.int 0) (nat_lit 173071000072)) (nat_lit 173041000072)) .nil)) (nat_lit 0) (nat_lit 173013000073)) (.ite (.bop true (.not (.callF (nat_lit 5) (nat_lit 174015000029) (.cons (.loc (nat_lit 0) (nat_lit 174030000036)) (.cons (.loc (nat_lit 3) (nat_lit 174038000043)) (.cons (.loc (nat_lit 4) (nat_lit 174045000049)) (.cons (.loc (nat_lit 6) (nat_lit 174051000052)) .nil)))) (nat_lit 174015000053)) (nat_lit 174011000053)) (.cmp .NotEq (.callF (nat_lit 6) (nat_lit 174057000067) (.cons (.loc (nat_lit 5) (nat_lit 174068000073)) (.cons (.con (.int 9) (nat_lit 174075000076)) (.cons (.loc (nat_lit 6) (nat_lit 174078000079)) .nil))) (nat_lit 174057000080)) (.con (.int 0) (nat_lit 174084000085)) (nat_lit 174057000085)) (nat_lit 174011000085)) (.ret (.con (.bool false) (nat_lit 175019000024)) (nat_lit 175012000024)) .done (nat_lit 174008001024) .done) (nat_lit 173004002024) .done))))
noncomputable def e_bet : CE := .callF (nat_lit 7) (nat_lit 176011000029) (.cons (.loc (nat_lit 0) (nat_lit 176030000036)) (.cons (.loc (nat_lit 3) (nat_lit 176038000043)) .nil)) (nat_lit 176011000044)
noncomputable def g_mid : List GE := [⟨"_law_contours", 193, true, false⟩, ⟨"_law_take", 179, true, false⟩, ⟨"sides_of", 160, false, false⟩, ⟨"_law_rows", 198, false, false⟩, ⟨"row", 117, false, true⟩, ⟨"_law_row_right", 215, true, false⟩, ⟨"winding_at", 75, false, false⟩, ⟨"_law_between_right", 220, true, false⟩]
noncomputable def r_law (cx : Cx) : Stmt := .Return (some (.BoolOp .And [ex g_mid e_bet cx, .Call (.Name "_law_samples_right" (P (nat_lit 176049000067))) [.Name "source" (P (nat_lit 176068000074))] [] (P (nat_lit 176049000075))] (P (nat_lit 176011000075)))) (P (nat_lit 176004000075))
noncomputable def i_law : Stmt := .If (.UnaryOp .Not (.Call (.Name "_law_small_right" (P (nat_lit 165011000027))) [] [] (P (nat_lit 165011000029))) (P (nat_lit 165007000029))) [.Return (some (.Constant (.bool false) 0 (P (nat_lit 166015000020)))) (P (nat_lit 166008000020))] [] (P (nat_lit 165004001020))
noncomputable def a_law : Stmt := .Assign [.Name "source" (P (nat_lit 167004000010))] (.Call (.Name "_law_pool" (P (nat_lit 167013000022))) [.Name "script" (P (nat_lit 167023000029)), .Constant (.int 0) 0 (P (nat_lit 167031000032))] [] (P (nat_lit 167013000033))) (P (nat_lit 167004000033))
noncomputable def s_law : Scope := ⟨.function, [("script", .local),("source", .local),("contours", .local),("is_closing", .local),("sides", .local),("rows", .local),("whole", .local),("y", .local),("_law_small_right", .globalImplicit),("_law_pool", .globalImplicit),("_law_contours", .globalImplicit),("_law_take", .globalImplicit),("sides_of", .globalImplicit),("_law_rows", .globalImplicit),("_law_row_right", .globalImplicit),("winding_at", .globalImplicit),("_law_between_right", .globalImplicit),("_law_samples_right", .globalImplicit)], false, false, [("fast", .str "script"),("fast", .str "source"),("fast", .str "contours"),("fast", .str "is_closing"),("fast", .str "sides"),("fast", .str "rows"),("fast", .str "whole"),("fast", .str "side"),("fast", .str "y")]⟩
noncomputable def cxM : Cx := ⟨["source", "contours", "is_closing", "sides", "rows", "whole", "y"], s_law, true⟩
noncomputable def e_smp : CE := .callF (nat_lit 8) (nat_lit 176049000067) (.cons (.loc (nat_lit 0) (nat_lit 176068000074)) .nil) (nat_lit 176049000075)
noncomputable def retM : CS := .ret (.bop false e_bet e_smp (nat_lit 176011000075)) (nat_lit 176004000075)
noncomputable def PostB (v : List PV) (l1 : List PV) : Prop := boolV v fun x => if x = false then PV.bool false = PV.bool true else wp (wt wLaw) e_smp l1 fun v2 _ => boolV v2 fun y => PV.bool y = PV.bool true
theorem ret_unf {l : List PV} (h : wpS (wt wLaw) retM l (fun _ => PV.none = .bool true) (fun v => v = .bool true)) : wp (wt wLaw) e_bet l PostB := h
theorem smp_src {l : List PV} {k : List PV → List PV → Prop} (h : wp (wt wLaw) e_smp l k) : l[0]? = some .src := by
  have h : locV l 0 fun p l => wt wLaw 8 [p] fun p => k [p] l := h
  unfold locV at h
  split at h
  · exact h.elim
  · exact h.elim
  · exact nomatch h.1
  · rename_i hp
    rw [hp, (List.cons.inj h.1).1]
theorem mid_wp : wpS (wt wLaw) c_mid [.src, .unb, .unb, .unb, .unb, .unb, .unb] (fun l => wpS (wt wLaw) retM l (fun _ => PV.none = .bool true) (fun v => v = .bool true)) (fun v => v = .bool true) := law_rest (P := fun v => v = .bool true) rfl
section
variable (w : World)
theorem n_contours : nsIn (hd.heap_1 w.params) mainGlobals "_law_contours" = some (some (.ref 193)) ∧ keepIn (hd.heap_1 w.params) (.ref 193) = true := by constructor <;> k_is
theorem n_sidesOf : nsIn (hd.heap_1 w.params) mainGlobals "sides_of" = some (some (.ref 160)) ∧ keepIn (hd.heap_1 w.params) (.ref 160) = true := by constructor <;> k_is
theorem n_rows : nsIn (hd.heap_1 w.params) mainGlobals "_law_rows" = some (some (.ref 198)) ∧ keepIn (hd.heap_1 w.params) (.ref 198) = true := by constructor <;> k_is
theorem n_rowRight : nsIn (hd.heap_1 w.params) mainGlobals "_law_row_right" = some (some (.ref 215)) ∧ keepIn (hd.heap_1 w.params) (.ref 215) = true := by constructor <;> k_is
theorem n_betRight : nsIn (hd.heap_1 w.params) mainGlobals "_law_between_right" = some (some (.ref 220)) ∧ keepIn (hd.heap_1 w.params) (.ref 220) = true := by constructor <;> k_is
theorem n_pool : nsIn (hd.heap_1 w.params) mainGlobals "_law_pool" = some (some (.ref 172)) ∧ keepIn (hd.heap_1 w.params) (.ref 172) = true := by constructor <;> k_is
theorem n_small : nsIn (hd.heap_1 w.params) mainGlobals "_law_small_right" = some (some (.ref 241)) ∧ keepIn (hd.heap_1 w.params) (.ref 241) = true := by constructor <;> k_is
theorem n_samples : nsIn (hd.heap_1 w.params) mainGlobals "_law_samples_right" = some (some (.ref 234)) ∧ keepIn (hd.heap_1 w.params) (.ref 234) = true := by constructor <;> k_is
end
theorem gok_mid {w : World} : GOk w (wt wLaw) g_mid 10 700 :=
  gok_cons (oneF (f_contours f_take) (by decide) (by decide) (by decide) (n_contours w).1 (n_contours w).2) (gok_cons (oneF f_take (by decide) (by decide) (by decide) (n_take w).1 (n_take w).2) (gok_cons (oneF (f_sidesOf f_Side) (by decide) (by decide) (by decide) (n_sidesOf w).1 (n_sidesOf w).2)
  (gok_cons (oneF f_rows (by decide) (by decide) (by decide) (n_rows w).1 (n_rows w).2) (gok_cons (oneM f_row (by decide) (by decide) (by decide) (m_row w).1.1 (m_row w).1.2.1 (m_row w).1.2.2 (attr_all (by decide)) (m_row w).2) (gok_cons (oneF (f_rowRight f_take) (by decide) (by decide) (by decide) (n_rowRight w).1 (n_rowRight w).2)
  (gok_cons (oneF f_wind (by decide) (by decide) (by decide) (n_windA w.params).1 (n_windA w.params).2) (gok_cons (oneF (f_betweenRight f_take) (by decide) (by decide) (by decide) (n_betRight w).1 (n_betRight w).2) (fun _ _ h => nomatch h))))))))
theorem cxM_nd : cxM.ns.Nodup ∧ ∀ x ∈ cxM.ns, (x == ("__debug__" : PySem.Str)) = false := by constructor <;> decide
section
variable {w : World} {E : Value → Shared → Prop} {Qf : Flow → Shared → Prop} {s : Shared} {h₀ : Heap} {L fa sc : Addr} {m : PySem.Str → Option Value} {cd : Value} {p : Program} {loose : List PySem.Str} {mean : ExcName → Option Value} {mg mb : PySem.Str → Option Value} {un : Nat} {gd : Option (List Code)} {ps1 : Array Value} {D : Addr} {sa sb : Int} {ta tb : Tok}
/-- from the third statement on -/
theorem law_mid (hu : un ≤ 200) (B : Below callerA h₀ [] h₀) (X : (hd.heap_1 w.params).In h₀) (T : Top p loose mean mg mb h₀) (C2 : CodeHd h₀ 233 229)
    (F : Fr h₀ L s.heap m) (N : News h₀ L s.heap [(D, srcO sa sb ta tb), (236, tabObj ps1), (229, tabObj #[])]) (hD : D ≠ 236 ∧ D ≠ 229) (hm : m "source" = some (.ref D)) (sk : SrcOk sa sb)
    (q : ∀ h' tk' m' ps2, Fr h₀ L h' m' → News h₀ L h' [(236, tabObj ps1), (229, tabObj ps2)] → Qf (.ret (.bool true)) { s with heap := h', toks := tk' }) :
    wpAny (model pg w) (ktrTop (2 + claimMargin) un gd "law" s_law L fa cd [] []) (execs (sts g_mid c_mid cxM ++ [r_law cxM]) (envX "law" s_law L fa cd [])) Qf E s := by
  have ok : (Kx.mk cxM (envX "law" s_law L fa cd []) D [(236, tabObj ps1), (229, tabObj #[])] h₀ L (ktrTop (2 + claimMargin) un gd "law" s_law L fa cd [] []) m).Ok w 10 700 :=
    ⟨rfl, ⟨rfl, rfl⟩, rfl, cxM_nd, 2 + claimMargin, un, ⟨gd, "law", s_law, fa, cd, [], [], rfl, ⟨rfl, by show 0 + 2 + claimMargin ≤ _; omega⟩, callerA, h₀, B⟩, ⟨by decide, by unfold cLine; omega⟩, X, p, loose, mean, mg, mb, T⟩
  have S : (Kx.mk cxM (envX "law" s_law L fa cd []) D [(236, tabObj ps1), (229, tabObj #[])] h₀ L (ktrTop (2 + claimMargin) un gd "law" s_law L fa cd [] []) m).St w s.heap [.src, .unb, .unb, .unb, .unb, .unb, .unb] [] := by
    refine ⟨F, [], [(D, srcO sa sb ta tb)], .cons (M1 := []) (.fr rfl rfl hm .src) (.cons (M1 := []) (.unF rfl rfl) (.cons (M1 := []) (.unF rfl rfl) (.cons (M1 := []) (.unF rfl rfl) (.cons (M1 := []) (.unF rfl rfl) (.cons (M1 := []) (.unF rfl rfl) (.cons (M1 := []) (.unF rfl rfl) .nil)))))), ⟨sa, sb, ta, tb, sk, rfl⟩, N, ?_⟩
    show ([D, 236, 229] : List Nat).Nodup
    refine List.nodup_cons.mpr ⟨fun h => ?_, by decide⟩
    rcases List.mem_cons.mp h with h | h
    · exact hD.1 h
    · rcases List.mem_cons.mp h with h | h
      · exact hD.2 h
      · cases h
  have fin : ∀ m' h' tk' loc' I', (Kx.mk cxM (envX "law" s_law L fa cd []) D [(236, tabObj ps1), (229, tabObj #[])] h₀ L (ktrTop (2 + claimMargin) un gd "law" s_law L fa cd [] []) m').St w h' loc' I' → Qf (.ret (.bool true)) { s with heap := h', toks := tk' } := fun m' h' tk' loc' I' S' => by
    obtain ⟨F', M', Sx, _, _, lo'⟩ := S'
    exact q h' tk' m' _ F' fun z hz => lo'.1 z (List.mem_append_right _ (List.mem_append_right _ (List.mem_append_right _ hz)))
  refine execs_app (wpAny_noRaise (soundS gok_mid c_mid (Kx.mk cxM (envX "law" s_law L fa cd []) D [(236, tabObj ps1), (229, tabObj #[])] h₀ L (ktrTop (2 + claimMargin) un gd "law" s_law L fa cd [] []) m) s [] _ _ (fun v => v = .bool true) _ ok
    ⟨rfl, fun x hx hkd c o hc hm => nomatch hc⟩ (by kernel_rfl) S mid_wp ⟨fun m4 loc4 h4 tk4 I4 _ hk4 S4 => ?_, fun v pv m4 loc4 h4 tk4 I4 _ hpv r4 S4 => by subst hpv; cases r4; exact fin m4 h4 tk4 loc4 I4 S4⟩))
  refine wpAny_execs_cons (wpAny_Return_some (BoolOp_and ((sound gok_mid e_bet).1.1 (Kx.mk cxM (envX "law" s_law L fa cd []) D [(236, tabObj ps1), (229, tabObj #[])] h₀ L (ktrTop (2 + claimMargin) un gd "law" s_law L fa cd [] []) m4) { s with heap := h4, toks := tk4 } I4 loc4 PostB _ E (ok.at m4) rfl (by kernel_rfl) S4 (ret_unf hk4) fun v pv l1 h5 tk5 I5 _ hp r5 S5 => ?_)))
  obtain ⟨x, rfl, rfl, hx⟩ := boolV_vr r5 (show boolV [pv] _ from hp)
  refine wpAny_truthy_bool ?_
  cases x with
  | false => exact nomatch (show PV.bool false = PV.bool true from hx)
  | true =>
    rw [if_neg (by decide)] at hx
    have h0 := smp_src hx
    obtain ⟨v, rv, nm⟩ := S5.val (ok.at m4) h0 (fun h => nomatch h) (fun _ h => nomatch h)
    cases rv
    obtain ⟨F5, M5, Sx, _, hs5, lo5⟩ := S5
    have pm : (Sx ++ ((229, tabObj #[]) :: (236, tabObj ps1) :: (M5 ++ I5))).Perm (M5 ++ (Sx ++ (I5 ++ [(236, tabObj ps1), (229, tabObj #[])]))) := by
      refine List.Perm.trans (.append_left Sx ?_) (List.perm_append_comm_assoc Sx M5 _)
      refine (List.Perm.swap _ _ _).trans ?_
      rw [← List.append_assoc]
      exact List.perm_append_comm (l₁ := [(236, tabObj ps1), (229, tabObj #[])])
    show wpAny _ _ (eval (.BoolOp .And [_] _) _) _ _ _
    refine BoolOp_one (Call_Name rfl (nameX_K (cl := []) (s := { s with heap := h5, toks := tk5 }) F5 X (topRead_of T) (n_samples w).1 (callWith_K (first := []) X (n_samples w).2 (spliced_more (nm _ _ _ _ _ rfl (spliced_none ⟨fun b o hb => F5.keep b o (X b o hb), ?_⟩)) rfl)) rfl rfl))
    refine r_samples (s := { s with heap := h5, toks := tk5 }) rfl (by decide) (by unfold cLine; omega) (Nat.le_refl _) B X T C2 F5 (lo5.perm pm) hs5 fun h6 tk6 k6 ns6 rest6 gr6 => ?_
    obtain ⟨ps2, g6⟩ := gr6
    refine q h6 tk6 m4 ps2 ⟨ns6, k6, F5.above⟩ fun z hz => ?_
    have nz := (lo5.perm pm).1
    rcases List.mem_cons.mp hz with rfl | hz
    · exact ⟨rest6 _ (.head _), (nz _ (List.mem_append_right _ (.tail _ (.head _)))).2⟩
    · rcases List.mem_cons.mp hz with rfl | hz
      · exact ⟨g6, (nz (229, tabObj #[]) (List.mem_append_right _ (.head _))).2⟩
      · cases hz
/-- the law's body -/
theorem law_body {body : List Stmt} {vs : List Value} {ns : List Int} (hb : body = i_law :: a_law :: (sts g_mid c_mid cxM ++ [r_law cxM])) (B : Below callerA h₀ [] h₀) (X : (hd.heap_1 w.params).In h₀) (T : Top p loose mean mg mb h₀) (C1 : CodeHd h₀ 240 236) (C2 : CodeHd h₀ 233 229)
    (F : Fr h₀ L s.heap m) (N : News h₀ L s.heap [(236, tabObj #[]), (229, tabObj #[])]) (hm : m "script" = some (.ref sc)) (hL : h₀.IsList sc vs.toArray) (hI : IntsAre vs ns) (hz : ns.length ≤ 63)
    (q : ∀ h' tk' m' ps1 ps2, Fr h₀ L h' m' → News h₀ L h' [(236, tabObj ps1), (229, tabObj ps2)] → Qf (.ret (.bool true)) { s with heap := h', toks := tk' }) :
    wpAny (model pg w) (callerA.deeper (envOf "law" s_law L fa cd)) (execs body (envOf "law" s_law L fa cd)) Qf E s := by
  subst hb
  obtain ⟨un, gd, hA, hun⟩ : ∃ un gd, callerA.deeper (envOf "law" s_law L fa cd) = ktrTop (2 + claimMargin) un gd "law" s_law L fa cd [] [] ∧ un ≤ 200 := ⟨_, _, rfl, Nat.le_of_ble_eq_true rfl⟩
  rw [hA]
  refine wpAny_execs_cons (wpAny_If (isTrue_not (wpAny_isTrue_value (Call_Name rfl (nameX_K (cl := []) F X (topRead_of T) (n_small w).1 (callWith_K0 (first := []) (fun b o hb => F.keep b o (X b o hb)) (n_small w).2 ?_) rfl rfl)))))
  refine r_small rfl (by decide) (by unfold cLine; omega) (Nat.le_refl _) B X T C1 F ⟨N, by show ([236, 229] : List Nat).Nodup; decide⟩ fun h1 tk1 k1 ns1 rest1 gr1 => wpAny_truthy_bool ?_
  obtain ⟨ps1, g1⟩ := gr1
  show wpAny _ _ (execs [] _) _ _ _
  refine wpAny_execs_nil ?_
  have F1 : Fr h₀ L h1 m := ⟨ns1, k1, F.above⟩
  have N1 : News h₀ L h1 [(236, tabObj ps1), (229, tabObj #[])] := fun z hz => by
    rcases List.mem_cons.mp hz with rfl | hz
    · exact ⟨g1, (N _ (.head _)).2⟩
    · rcases List.mem_cons.mp hz with rfl | hz
      · exact ⟨rest1 _ (.head _), (N _ (.tail _ (.head _))).2⟩
      · cases hz
  refine wpAny_execs_cons (wpAny_Assign_Name (Call_Name rfl (nameX_K (cl := []) (s := { s with heap := h1, toks := tk1 }) F1 X (topRead_of T) (n_pool w).1 (callWith_K (first := []) X (n_pool w).2 (spliced_more (nameX_L (cl := []) (s := { s with heap := h1, toks := tk1 }) F1 hm (spliced_more (wpAny_Constant_int (spliced_none ⟨fun b o hb => F1.keep b o (X b o hb), ?_⟩))))))  rfl rfl)) rfl)
  refine r_pool (s := { s with heap := h1, toks := tk1 + 1 }) rfl (by decide) (by unfold cLine; omega) B X T F1 N1 hL hI hz fun h2 tk2 D sa sb ta tb F2 N2 lt sk => ?_
  refine storeX_L (cl := []) (s := { s with heap := h2, toks := tk2 }) F2 N2 (fun h3 F3 N3 => ?_) rfl rfl
  exact law_mid (s := { s with heap := h3, toks := tk2 + 1 }) hun B X T C2 F3 N3 ⟨Nat.ne_of_gt (lt _ (.head _)), Nat.ne_of_gt (lt _ (.tail _ (.head _)))⟩ (if_pos rfl) sk fun h' tk' m' ps2 F' N' => q h' tk' m' ps1 ps2 F' N'
end

end --K10
section --K11
theorem law_holds : PySem.Challenge.rw_pf0186_01.Holds := hdT (by
  k_go0
  refine' law_body ?hb ?B ?X ?T ?C1 ?C2 ?F ?N ?hm ?hL ?hI ?hz ?q
  case hb => kernel_rfl
  case B => assumption
  case X => assumption
  case T => assumption
  case C1 => assumption
  case C2 => assumption
  case F => assumption
  case N => assumption
  case hm => rfl
  case hL => assumption
  case hI => assumption
  case hz => omega
  case q =>
    intro h' tk' m' ps1 ps2 F' N'
    k_steps
  )

end --K11
end Mine
theorem PySem.Challenge.cw_pf0186_01_holds : PySem.Challenge.rw_pf0186_01.Holds := by
  exact Mine.law_holds
