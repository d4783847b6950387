import PyProof.Rows.All
import Wide.All
import OpenK.AllK
import Wide.FinOn
import Lean
import PySem.Challenge.RW_pb0307_01
open PySem PySem.W PyProof.Rows
set_option Elab.async false
set_option maxRecDepth 100000
set_option maxHeartbeats 8000000
set_option rowWalk.seconds 0
namespace Mine
open_top hd for PySem.Challenge.rw_pb0307_01
theorem top_off : True := by
  w_top off
  trivial
end Mine
section
open PySem PySem.W PyProof.Rows
namespace Mine
/-- a contract of a call, for whatever stands around it: depth k, ledger news -/
abbrev Con (w : World) (mean : ExcName → Option Value) (mg mb : Str → Option Value) (f : Addr) (k : Nat) (vs : List Value) (news : List (Addr × Obj))
    (Ret : Heap → Addr → (Str → Option Value) → Shared → (Value → Shared → Prop) → Prop) : Prop :=
  ∀ (dp un : Nat) (gd : Option (List Code)) (cn : Str) (cs : Scope) (a : Addr) (ccd : Value) (cl : List (Str × Addr)) (outer : List Env) (A₀ : Around) (base h₀ : Heap) (L : Addr) (m : Str → Option Value) (s : Shared) (Q E : Value → Shared → Prop),
    Below A₀ base outer h₀ → Fr h₀ L s.heap m → (hd.heap_39 w.params).In h₀ → News h₀ L s.heap news →
    Top hd.view_39 (looseW hd.view_39 [Str.ofString "flagged"]) mean mg mb h₀ → cs.kind = .function → dp + k < recursionLimit → un + 8 * k < cLine →
    Ret h₀ L m s Q →
    wpAny (model PySem.Challenge.rw_pb0307_01.row.prog w) (ktrTop dp un gd cn cs L a ccd cl outer) (call (.ref f) vs) Q E s
abbrev RetI (h₀ : Heap) (L : Addr) (m : Str → Option Value) (news : List (Addr × Obj)) (s : Shared) (Q : Value → Shared → Prop) (x : Int) : Prop :=
  ∀ (t : Tok) (h' : Heap) (tk' : Nat), Fr h₀ L h' m → News h₀ L h' news → Q (.int x t) { s with heap := h', toks := tk' }
end Mine
end
section
open PySem PySem.W PyProof.Rows
namespace Mine
local macro_rules | `(tactic| k_room) => `(tactic| ktr_room)
def Sg (x : Int) : Int := if 2147483648 ≤ x then x - 4294967296 else x
def bitsOf (x : Int) : List Int := (rangeKs 0 32).map (fun k => (x.fdiv (2 ^ k.toNat)).fmod 2)
def totOf (ns : List Int) : Int := ((rangeKs 0 32).map (fun k => ns.getD k.toNat 0 * 2 ^ k.toNat)).sum
theorem Sg_ge {x : Int} (h : 2 ^ Int.toNat 31 ≤ x) : x - 2 ^ Int.toNat 32 = Sg x := by
  unfold Sg; rw [if_pos (by simpa using h)]; rfl
theorem Sg_lt {x : Int} (h : ¬ 2 ^ Int.toNat 31 ≤ x) : x = Sg x := by
  unfold Sg; rw [if_neg (by simpa using h)]
theorem Sg_bit {x : Int} (h0 : 0 ≤ x) (h1 : x < 4294967296) : x - 2 * Builtin.bitAnd x 2147483648 = Sg x := by
  rw [show (2147483648 : Int) = 2 ^ 31 from rfl, kbt_bit]
  unfold Sg
  split <;> omega
theorem endI {h₀ h' : Heap} {L : Addr} {m : Str → Option Value} {news news' : List (Addr × Obj)} {s : Shared} {Q : Value → Shared → Prop} {x y : Int} {t : Tok} {tk' : Nat}
    (hret : RetI h₀ L m news s Q x) (e : y = x) (F : Fr h₀ L h' m) (N : News h₀ L h' news') (hs : ∀ p ∈ news, p ∈ news') : Q (.int y t) { s with heap := h', toks := tk' } := by
  subst e
  exact hret t h' tk' F (cb_drop N hs)
theorem con_signed (w : World) (mean : ExcName → Option Value) (mg mb : Str → Option Value) (news : List (Addr × Obj)) (x : Int) (tx : Tok) :
    Con w mean mg mb 120 1 [.int x tx] news (fun h₀ L m s Q => RetI h₀ L m news s Q (Sg x)) := by
  unfold Con; k_fill; intro dp un gd cn cs a ccd cl outer A₀ base h₀ L m s Q E B F X N T hk hdp hun hret
  refine wpAny_call ?_
  k_dflt cell_enter
  k_steps
  all_goals (refine' endI hret ?e1 ?e2 ?e3 ?e4; (case e2 => k_asm); (case e3 => assumption); (case e4 => kcj_all); (case e1 => first | exact Sg_ge (by assumption) | exact Sg_lt (by assumption)))
theorem con_to_signed (w : World) (mean : ExcName → Option Value) (mg mb : Str → Option Value) (news : List (Addr × Obj)) (x : Int) (tx : Tok) (h0 : 0 ≤ x) (h1 : x < 4294967296) :
    Con w mean mg mb 21 1 [.int x tx] news (fun h₀ L m s Q => RetI h₀ L m news s Q (Sg x)) := by
  unfold Con; k_fill; intro dp un gd cn cs a ccd cl outer A₀ base h₀ L m s Q E B F X N T hk hdp hun hret
  refine wpAny_call ?_
  k_dflt cell_enter
  k_steps
  all_goals (refine' endI hret ?e1 ?e2 ?e3 ?e4; (case e2 => k_asm); (case e3 => assumption); (case e4 => kcj_all); (case e1 => exact Sg_bit (by assumption) (by assumption)))
abbrev RetIf (h₀ : Heap) (L : Addr) (m : Str → Option Value) (news : List (Addr × Obj)) (s : Shared) (Q : Value → Shared → Prop) (P : Prop) (x : Int) : Prop :=
  ∀ (t : Tok) (h' : Heap) (tk' : Nat), P → Fr h₀ L h' m → News h₀ L h' news → Q (.int x t) { s with heap := h', toks := tk' }
theorem Sg_bd {x : Int} (h0 : 0 ≤ x) (h1 : x < 4294967296) : -2147483648 ≤ Sg x ∧ Sg x < 2147483648 := by
  unfold Sg; split <;> omega
theorem con_signed' (w : World) (mean : ExcName → Option Value) (mg mb : Str → Option Value) (news : List (Addr × Obj)) (x : Int) (tx : Tok) (h0 : 0 ≤ x) (h1 : x < 4294967296) :
    Con w mean mg mb 120 1 [.int x tx] news (fun h₀ L m s Q => RetIf h₀ L m news s Q (-2147483648 ≤ Sg x ∧ Sg x < 2147483648) (Sg x)) := by
  intro dp un gd cn cs a ccd cl outer A₀ base h₀ L m s Q E B F X N T hk hdp hun hret
  exact con_signed w mean mg mb news x tx dp un gd cn cs a ccd cl outer A₀ base h₀ L m s Q E B F X N T hk hdp hun (fun t h' tk' => hret t h' tk' (Sg_bd h0 h1))
theorem con_to_signed' (w : World) (mean : ExcName → Option Value) (mg mb : Str → Option Value) (news : List (Addr × Obj)) (x : Int) (tx : Tok) (h0 : 0 ≤ x) (h1 : x < 4294967296) :
    Con w mean mg mb 21 1 [.int x tx] news (fun h₀ L m s Q => RetIf h₀ L m news s Q (-2147483648 ≤ Sg x ∧ Sg x < 2147483648) (Sg x)) := by
  intro dp un gd cn cs a ccd cl outer A₀ base h₀ L m s Q E B F X N T hk hdp hun hret
  exact con_to_signed w mean mg mb news x tx h0 h1 dp un gd cn cs a ccd cl outer A₀ base h₀ L m s Q E B F X N T hk hdp hun (fun t h' tk' => hret t h' tk' (Sg_bd h0 h1))
abbrev RetL (h₀ : Heap) (L : Addr) (m : Str → Option Value) (news : List (Addr × Obj)) (s : Shared) (Q : Value → Shared → Prop) (ns : List Int) : Prop :=
  ∀ (q : Addr) (ys : List Value) (h' : Heap) (tk' : Nat), Fr h₀ L h' m → IntsAre ys ns → ys.length = ns.length → LCg.Off1 q news → News h₀ L h' ((q, LCg.lst ys) :: news) → Q (.ref q) { s with heap := h', toks := tk' }
theorem bits_len (x : Int) : (bitsOf x).length = 32 := by simp [bitsOf, rangeKs_length]
theorem bits_sz {x : Int} {ys : List Value} (h : IntsAre ys (bitsOf x)) : ys.toArray.size ≤ sizeLine := by
  rw [List.size_toArray, h.length, bits_len, sizeLine_eq]; decide
theorem bits_01 (x : Int) : ∀ n ∈ bitsOf x, 0 ≤ n ∧ n ≤ 1 := by
  intro n hn
  unfold bitsOf at hn
  obtain ⟨k, _, rfl⟩ := List.mem_map.mp hn
  rw [Int.fmod_eq_emod_of_nonneg _ (by decide)]
  omega
theorem con_bits (w : World) (mean : ExcName → Option Value) (mg mb : Str → Option Value) (news : List (Addr × Obj)) (x : Int) (tx : Tok) :
    Con w mean mg mb 125 1 [.int x tx] news (fun h₀ L m s Q => RetL h₀ L m news s Q (bitsOf x)) := by
  unfold Con; k_fill; intro dp un gd cn cs a ccd cl outer A₀ base h₀ L m s Q E B F X N T hk hdp hun hret
  refine wpAny_call ?_
  k_dflt (refine' code_defC ?k1 ?k2 ?k3 ?k4 ?k5 ?kA ?kF ?kK ?k6 ?k7 ?k8 ?k9 ?kB ?kD ?_ ?c2 ?c3 ?c4; (case kA | kF => exact rfl); (case kK => assumption); (case k1 | k2 | k3 | k4 | k5 => k_asm); (case k6 | k7 => k_is); (case k8 => k_room); (case k9 => first | exact BindsTo.of_eq rfl | exact binds_K (by k_in) rfl (by k_is) rfl rfl rfl | fail "k_enter: no rule for these arguments"); (case kB => exact rfl); (case kD => decide +kernel); (case c2 | c3 | c4 => exact rfl); k_whole; intro g' L' h' tk' cells' FG' F' N' Y' B' X' T' l1; (try k_lt l1); k_cells Y'; (try simp only [List.cons_append, List.nil_append] at N'); (try dsimp only); (try k_lift B'); (try k_fold))
  k_steps
  all_goals (refine' hret _ _ _ _ ?e1 ?e2 ?e3 ?e4 ?e5; (case e1 => k_asm); (case e2 | e3 => assumption); (case e4 => exact And.right (by assumption)); (case e5 => refine' cb_drop ?n ?s; (case n => assumption); (case s => kcj_all)))
theorem tot_fit {ns : List Int} {k : Int} (hb : ∀ n ∈ ns, 0 ≤ n ∧ n ≤ 1) (hk : k ≤ 1000000) : IntMulOk (ns.getD k.toNat 0) (2 ^ k.toNat) := by
  refine IntMulOk.of_le (m := 1) (n := 2000001) ?_ (kbm_pow k hk) (by decide)
  refine (intBits_le_iff).mpr ?_
  have : 0 ≤ ns.getD k.toNat 0 ∧ ns.getD k.toNat 0 ≤ 1 := by
    rw [List.getD_eq_getElem?_getD]
    cases h : ns[k.toNat]? with
    | none => simp
    | some v => exact hb v (List.mem_of_getElem? h)
  omega
local macro_rules | `(tactic| walk_at "binaryOp Mult int int") => `(tactic| (with_reducible refine mul_int ?_ (tot_fit (by assumption) (by omega))))
theorem con_total (w : World) (mean : ExcName → Option Value) (mg mb : Str → Option Value) (news : List (Addr × Obj)) (l : Addr) (vs : List Value) (k : Nat) (ns : List Int) (hI : IntsAre vs ns) (hn : ns.length = 32) (hb : ∀ n ∈ ns, 0 ≤ n ∧ n ≤ 1) :
    Con w mean mg mb 130 1 [.ref l] ((l, W.listOf vs.toArray k) :: news) (fun h₀ L m s Q => RetI h₀ L m ((l, W.listOf vs.toArray k) :: news) s Q (totOf ns)) := by
  unfold Con; k_fill; intro dp un gd cn cs a ccd cl outer A₀ base h₀ L m s Q E B F X N T hk hdp hun hret
  refine wpAny_call ?_
  k_dflt (refine' code_defC ?k1 ?k2 ?k3 ?k4 ?k5 ?kA ?kF ?kK ?k6 ?k7 ?k8 ?k9 ?kB ?kD ?_ ?c2 ?c3 ?c4; (case kA | kF => exact rfl); (case kK => assumption); (case k1 | k2 | k3 | k4 | k5 => k_asm); (case k6 | k7 => k_is); (case k8 => k_room); (case k9 => first | exact BindsTo.of_eq rfl | exact binds_K (by k_in) rfl (by k_is) rfl rfl rfl | fail "k_enter: no rule for these arguments"); (case kB => exact rfl); (case kD => decide +kernel); (case c2 | c3 | c4 => exact rfl); k_whole; intro g' L' h' tk' cells' FG' F' N' Y' B' X' T' l1; (try k_lt l1); k_cells Y'; (try simp only [List.cons_append, List.nil_append] at N'); (try dsimp only); (try k_lift B'); (try k_fold))
  k_steps
  all_goals (refine' endI hret ?e1 ?e2 ?e3 ?e4; (case e2 => k_asm); (case e3 => assumption); (case e4 => kcj_all); (case e1 => rfl))
end Mine
end
section
open PySem PySem.W PyProof.Rows PyProof.Rows.LCg
namespace Mine
section
variable {prog : Program} {w : World} {A : Around} {E : Value → Shared → Prop} {s : Shared} {h₀ : Heap} {L : Addr} {m : Str → Option Value} {env : Env}
def ZcSt (n l1 l2 : Nat) (xs ys : List Value) (i : Nat) (h : Heap) : Prop :=
  IsZip h (n + 4) (n + 2) (n + 3) .none ∧ IsPair h (n + 2) (.ref n) (.ref (n + 1)) ∧ (∃ a b, IsPair h (n + 3) a b) ∧ h.IsListIter n l1 i ∧ h.IsListIter (n + 1) l2 i ∧ h.IsList l1 xs.toArray ∧ h.IsList l2 ys.toArray
/-- what the comprehension over a zip object asks of its source -/
def ZcSrc (prog : Program) (w : World) (A : Around) (h₀ : Heap) (L : Addr) (m : Str → Option Value) (env : Env) (elt : PySem.Expr) (a b : Str) (scope : Scope) (cl : List (Str × Addr)) (f : Int → Int → Int) (as bs : List Int) (Q : Value → Shared → Prop) (xv : Value) (s₁ : Shared) : Prop :=
  ∃ (n l1 l2 : Nat) (xs ys : List Value) (news : List (Addr × Obj)), xv = .ref (n + 4) ∧ A.handled = none ∧ Fr h₀ L s₁.heap m ∧ News h₀ L s₁.heap news ∧ ZcSt n l1 l2 xs ys 0 s₁.heap ∧
    (∀ p ∈ news, p.1 ≠ n ∧ p.1 ≠ n + 1 ∧ p.1 ≠ n + 3 ∧ p.1 ≠ n + 4) ∧ l1 < n ∧ l2 < n ∧ (@LT.lt Nat _ L n) ∧ h₀.objs.size ≤ n ∧ IntsAre xs as ∧ IntsAre ys bs ∧ as.length = bs.length ∧ as.length ≤ sizeLine ∧
    (∀ (ai bi : Int) (ta tb : Tok) (C : Addr) (oC : Obj) (m₂ : Str → Option Value) (h : Heap) (tk : Nat) (E' : Value → Shared → Prop), ai ∈ as → bi ∈ bs → NsObj oC m₂ → m₂ a = some (.int ai ta) → m₂ b = some (.int bi tb) → Fr h₀ L h m → News h₀ L h ((C, oC) :: news) →
      wpAny (model prog w) A (eval elt (compEnvC scope cl C env)) (fun v s₅ => ∃ (tk' : Nat) (t : Tok), v = .int (f ai bi) t ∧ s₅ = { s₁ with heap := h, toks := tk' }) E' { s₁ with heap := h, toks := tk }) ∧
    (∀ (D : Addr) (vs : List Value) (h : Heap) (tk : Nat), Fr h₀ L h m → News h₀ L h ((D, lst vs) :: news) → IntsAre vs (List.zipWith f as bs) → vs.length = as.length → Q (.ref D) { s₁ with heap := h, toks := tk })
theorem zc_comp {elt iter : PySem.Expr} {a b : Str} {pa pb tp : Pos} {kk : Nat} {scope : Scope} {cl : List (Str × Addr)} {pos : Pos} {Q : Value → Shared → Prop} {f : Int → Int → Int} {as bs : List Int}
    (hclos : closureFor scope env = pure cl) (hcell : ∀ y ∈ scope.names, y.2 ≠ .cell) (hkind : scope.kind = .function)
    (hnames : ∀ y ∈ scope.names, y.2 = .local → scope.names.lookup y.1 = some .local) (hxa : scope.names.lookup a = some .local) (hxb : scope.names.lookup b = some .local) (hab : ¬ a = b)
    (h : wpAny (model prog w) A (eval iter env) (ZcSrc prog w A h₀ L m env elt a b scope cl f as bs Q) E s)
    (hs : ∀ x, foldedSetIterable iter env x = pure x := by intro _; rfl) :
    wpAny (model prog w) A (eval (.ListComp elt [⟨.Tuple [.Name a pa, .Name b pb] kk tp, iter, [], 0⟩] scope pos) env) Q E s := by
  rw [eval_ListComp]
  refine wpAny_comprehension_free (use := none) rfl hs hclos hkind hnames (wpAny_mono h (fun xv s₁ h₁ => ?_) fun _ _ e => e)
  obtain ⟨n, l1, l2, xs, ys, news, rfl, hh, F, N, hst, off, hl1, hl2, hLn, h0n, hxs, hys, hab', hsz, el, ret⟩ := h₁
  refine wpAny_pyIter_zip hst.1 ?_
  refine wpAny_newObj_type (wpAny_newFunctionEnv hcell (by intro y hy; simp at hy) (fun h₁ hns₁ hsb₁ => ?_) hkind)
  dsimp only at hns₁ hsb₁ ⊢
  generalize hH2 : s₁.heap.push { cls := .type "list", dict := none, data := .seq ([] : List Value).toArray } = H2 at hns₁ hsb₁ ⊢
  have hC : H2.objs.size = s₁.heap.objs.size + 1 := by rw [← hH2, Heap.size_push]
  have hDC : s₁.heap.objs.size ≠ H2.objs.size := by rw [hC]; exact Nat.ne_of_lt (Nat.lt_succ_self _)
  have hacc : h₁.get? s₁.heap.objs.size = some (lst []) := hsb₁.extBut _ _ hDC (Heap.get?_push_of_some _ (hH2 ▸ Heap.get?_push_size _ rfl))
  have old : ∀ (c : Nat) o, s₁.heap.get? c = some o → h₁.get? c = some o := fun c o e =>
    hsb₁.extBut c o (by rw [hC]; exact Nat.ne_of_lt (Nat.lt_succ_of_lt (Heap.lt_size e))) (Heap.get?_push_of_some _ (hH2 ▸ Heap.get?_push_of_some _ e))
  clear hsb₁ hDC
  generalize hD : s₁.heap.objs.size = D at *
  generalize hCC : H2.objs.size = C at *
  have hn4 : n + 4 < D := hD ▸ Heap.lt_size hst.1
  have hLD : @LT.lt Nat _ L D := hD ▸ F.ns.lt
  have h0D : h₀.objs.size ≤ D := by omega
  have none₀ : ∀ c : Nat, h₀.objs.size ≤ c → h₀.get? c = none := fun c hc => Heap.get?_none_of_le hc
  have newsD : ∀ p ∈ news, (p.1 : Nat) < D := fun p hp => hD ▸ Heap.lt_size (N p hp).1
  have Z : ZipApart (n + 4) (n + 2) (n + 3) n (n + 1) l1 l2 := ktu_apart _ _ _ hl1 hl2
  have W := WalksT.zip2 (prog := prog) (w := w) hh (n + 4) (n + 2) (n + 3) n (n + 1) l1 l2 Z xs.toArray ys.toArray
  have hlen : min xs.toArray.size ys.toArray.size = as.length := by
    rw [List.size_toArray, List.size_toArray, hxs.length, hys.length, ← hab', Nat.min_self]
  rw [hlen] at W
  have hst₁ : ZcSt n l1 l2 xs ys 0 h₁ := W.frame _ _ _ hst fun b _ o e => old b o e
  have F₁ : Fr h₀ L h₁ m := F.keeps old
  have N₁ : News h₀ L h₁ news := N.grown old
  have wr : ∀ c : Nat, c ≠ n + 4 → c ≠ n + 3 → c ≠ n → c ≠ n + 1 → c ∉ ([n + 4, n + 3, n, n + 1] : List Addr) := fun c c1 c2 c3 c4 hm => by
    rcases List.mem_cons.mp hm with e | hm
    · exact c1 e
    rcases List.mem_cons.mp hm with e | hm
    · exact c2 e
    rcases List.mem_cons.mp hm with e | hm
    · exact c3 e
    exact c4 (List.mem_singleton.mp hm)
  have wrL := wr L (by omega) (by omega) (by omega) (by omega)
  have wrC := wr C (by omega) (by omega) (by omega) (by omega)
  have wrD := wr D (by omega) (by omega) (by omega) (by omega)
  have wr₀ : ∀ (c : Nat) o, h₀.get? c = some o → c ∉ ([n + 4, n + 3, n, n + 1] : List Addr) := fun c o e => by
    have : c < h₀.objs.size := Heap.lt_size e
    exact wr c (by omega) (by omega) (by omega) (by omega)
  have wrN : ∀ p ∈ news, p.1 ∉ ([n + 4, n + 3, n, n + 1] : List Addr) := fun p hp => wr p.1 (off p hp).2.2.2 (off p hp).2.2.1 (off p hp).1 (off p hp).2.1
  have loop : ∀ s₃ : Shared, s₃ = { s₁ with heap := h₁, toks := s₁.toks + ([] : List (Str × Value)).length } →
      codeAny (model prog w) A (.compLoop (.ListComp elt [⟨.Tuple [.Name a pa, .Name b pb] kk tp, iter, [], 0⟩] scope pos) 0 (.ref (n + 4)) (.ref D) (compEnvC scope cl C env))
        (compPost (model prog w) A E none Q (.ref D) C) s₃ := by
    rintro s₃ rfl
    refine kcp_loop
      (fun k s' => ∃ h' tk i vs m', s' = { s₁ with heap := h', toks := tk } ∧ i ≤ as.length ∧ k = as.length + 1 - i ∧ IntsAre vs ((List.zipWith f as bs).take i) ∧ vs.length = i ∧ ZcSt n l1 l2 xs ys i h' ∧ Fr h₀ L h' m ∧ h'.Ns C m' ∧
        h'.get? D = some (lst vs) ∧ News h₀ L h' news) ?_ (as.length + 1)
      ⟨h₁, _, 0, [], _, rfl, Nat.zero_le _, rfl, by rw [List.take_zero]; exact .nil, rfl, hst₁, F₁, hns₁, hacc, N₁⟩
    rintro k s' ⟨h', tk, i, vs, m', rfl, hi, rfl, hvs, hvl, hst', F', hn', hD', N'⟩
    by_cases hlt : i < as.length
    · refine W.item i _ _ _ hlt hst' fun T vals h₂ tk₂ hP hT0 hT hMd hk₂ => ?_
      obtain ⟨p, q, hp, hq, rfl⟩ := hP
      refine W.go _ _ _ i T _ _ _ hMd fun h₃ hst₃ hk₃ => ?_
      have hT₃ : h₃.IsTuple T #[p, q] := hT.at fun o e => hk₃ T o (W.apart _ _ _ hMd) e
      have up₃ : ∀ (c : Nat) o, c ∉ ([n + 4, n + 3, n, n + 1] : List Addr) → h'.get? c = some o → h₃.get? c = some o := fun c o hc e => hk₃ c o hc (hk₂ c o hc e)
      refine kcp_assign (env := compEnvC scope cl C env) hh hT₃ (lookup_relabel_local hxa) (lookup_relabel_local hxb) (by simp [compEnvC, relabel, hkind]) (hn'.at' fun o e => up₃ _ o wrC e) fun h₄ tk₄ hn₄ hs₄ => ?_
      have hs₄' : ∀ (c : Nat) o, c ≠ C → h₃.get? c = some o → h₄.get? c = some o := hs₄
      have up : ∀ (c : Nat) o, c ∉ ([n + 4, n + 3, n, n + 1] : List Addr) → c ≠ C → h'.get? c = some o → h₄.get? c = some o := fun c o h1 h2 e => hs₄' c o h2 (up₃ c o h1 e)
      have lC : ∀ (c : Nat) o, h₀.get? c = some o → c ≠ C := fun c o e => by
        have : c < h₀.objs.size := Heap.lt_size e
        omega
      have nC : ∀ p ∈ news, (p.1 : Nat) ≠ C := fun p hp => Nat.ne_of_lt (Nat.lt_of_lt_of_le (newsD p hp) (by omega))
      have hst₄ : ZcSt n l1 l2 xs ys (i + 1) h₄ := W.frame _ _ _ hst₃ fun c hc o e => hs₄' c o (fun q => by
        have q' : @Eq Nat c C := q
        have hc' : (@Eq Nat c (n + 4)) ∨ (@Eq Nat c (n + 2)) ∨ (@Eq Nat c (n + 3)) ∨ (@Eq Nat c n) ∨ (@Eq Nat c (n + 1)) ∨ (@Eq Nat c l1) ∨ (@Eq Nat c l2) := by simpa using hc
        omega) e
      have F₄ : Fr h₀ L h₄ m := ⟨F'.ns.at' fun o e => up _ o wrL (by show @Ne Nat L C; omega) e, fun c o e => up c o (wr₀ c o e) (lC c o e) (F'.keep c o e), F'.above⟩
      have N₄ : News h₀ L h₄ news := fun p hp => ⟨up _ _ (wrN p hp) (nC p hp) (N' p hp).1, (N' p hp).2⟩
      have hD₄ : h₄.get? D = some (lst vs) := up _ _ wrD (by show @Ne Nat D C; omega) hD'
      obtain ⟨oC, heC, hoC⟩ := ns_obj hn₄
      have NC : News h₀ L h₄ ((C, oC) :: news) := fun p hp => by
        rcases List.mem_cons.mp hp with rfl | hp
        · exact ⟨heC, (show @Ne Nat C L by omega), none₀ _ (by omega)⟩
        · exact N₄ p hp
      obtain ⟨ai, ta, rfl, hai⟩ := hxs.at i p (by simpa using hp)
      obtain ⟨bi, tb, rfl, hbi⟩ := hys.at i q (by simpa using hq)
      refine wpAny_mono (el ai bi ta tb C oC _ h₄ _ _ (List.mem_of_getElem? hai) (List.mem_of_getElem? hbi) hoC (by simp [hab]) (by simp) F₄ NC) (fun y s₅ h₅ => ?_) fun _ _ e => e
      obtain ⟨tk₅, t, rfl, rfl⟩ := h₅
      refine append_at (hsz := by show vs.toArray.size ≤ sizeLine; rw [List.size_toArray, hvl]; exact Nat.le_trans hi hsz) hD₄ fun h₆ hs₆ hD₆ => ?_
      have up₆ : ∀ (c : Nat) o, c ≠ D → h₄.get? c = some o → h₆.get? c = some o := fun c o hc e => hs₆.extBut c o hc e
      refine ⟨as.length + 1 - (i + 1), by omega, h₆, tk₅, i + 1, vs ++ [.int (f ai bi) t], _, rfl, hlt, rfl, ?_, by rw [List.length_append, hvl]; rfl, W.frame _ _ _ hst₄ fun c hc o e => up₆ c o (fun q => ?_) e,
        F₄.change hs₆ (show @Ne Nat D L by omega) (none₀ _ h0D), hn₄.sameBut hs₆ (show @Ne Nat C D by omega), hD₆.trans (congrArg some (lst_snoc vs _)), fun p hp => ⟨up₆ _ _ (Nat.ne_of_lt (newsD p hp)) (N₄ p hp).1, (N₄ p hp).2⟩⟩
      · have hz : (List.zipWith f as bs)[i]? = some (f ai bi) := by rw [List.getElem?_zipWith, hai, hbi]
        rw [List.take_add_one, hz]
        exact hvs.append (.cons _ _ .nil)
      · have q' : @Eq Nat c D := q
        have hc' : (@Eq Nat c (n + 4)) ∨ (@Eq Nat c (n + 2)) ∨ (@Eq Nat c (n + 3)) ∨ (@Eq Nat c n) ∨ (@Eq Nat c (n + 1)) ∨ (@Eq Nat c l1) ∨ (@Eq Nat c l2) := by simpa using hc
        omega
    · have hin : i = as.length := by omega
      subst hin
      refine W.done _ _ _ hst' fun h₂ tk₂ hk₂ => ?_
      refine ⟨m', hn'.at' fun o e => hk₂ _ o wrC e, fun h'' hs'' => ?_⟩
      have up : ∀ (c : Nat) o, c ∉ ([n + 4, n + 3, n, n + 1] : List Addr) → c ≠ C → h'.get? c = some o → h''.get? c = some o := fun c o h1 h2 e => hs''.extBut c o h2 (hk₂ c o h1 e)
      refine ret D vs h'' tk₂ ⟨F'.ns.at' fun o e => up _ o wrL (by show @Ne Nat L C; omega) e, fun c o e => up c o (wr₀ c o e) (fun q => ?_) (F'.keep c o e), F'.above⟩ (fun p hp => ?_) ?_ hvl
      · have : @LT.lt Nat _ c h₀.objs.size := Heap.lt_size e
        have q' : @Eq Nat c C := q
        omega
      · rcases List.mem_cons.mp hp with rfl | hp
        · exact ⟨up _ _ wrD (by show @Ne Nat D C; omega) hD', (show @Ne Nat D L by omega), none₀ _ h0D⟩
        · exact ⟨up _ _ (wrN p hp) (Nat.ne_of_lt (Nat.lt_of_lt_of_le (newsD p hp) (by omega))) (N' p hp).1, (N' p hp).2⟩
      · rw [List.take_of_length_le (by rw [List.length_zipWith]; omega)] at hvs
        exact hvs
  exact codeAny_compStart_list (loop _ rfl) (wpAny_pyIter_zip hst₁.1 (loop _ rfl))
abbrev zipO (n : Nat) : Obj := { cls := .type "zip", dict := none, data := .fields #[.none, .bool false, .bool false, .ref (n + 2), .ref (n + 3)], slots := #[] }
abbrev prO (a b : Value) : Obj := { cls := .type "tuple", data := .seq #[a, b] }
def ZcMade (n l1 l2 : Nat) (o1 o2 : Obj) : Prop := (∀ h : Heap, h.get? n = some o1 → h.IsListIter n l1 0) ∧ (∀ h : Heap, h.get? (n + 1) = some o2 → h.IsListIter (n + 1) l2 0)
def ZcLow (n : Nat) (L : Addr) (h₀ : Heap) : Prop := (@LT.lt Nat _ L n) ∧ h₀.objs.size ≤ n
theorem zc_zip {l1 l2 : Nat} {xs ys : List Value} {news : List (Addr × Obj)} {Q : Value → Shared → Prop} (F : Fr h₀ L s.heap m) (N : News h₀ L s.heap news) (hm1 : (l1, lst xs) ∈ news) (hm2 : (l2, lst ys) ∈ news)
    (h : ∀ (n : Nat) (o1 o2 : Obj) (h' : Heap), Fr h₀ L h' m → News h₀ L h' ((n + 4, zipO n) :: (n + 2, prO (.ref n) (.ref (n + 1))) :: (n + 3, prO .none .none) :: (n, o1) :: (n + 1, o2) :: news) → ZcMade n l1 l2 o1 o2 → ZcLow n L h₀ → (∀ p ∈ news, p.1 < n) → Q (.ref (n + 4)) { s with heap := h' }) :
    wpAny (model prog w) A (call (.type "zip") [.ref l1, .ref l2]) Q E s := by
  have g1 := N _ hm1
  have g2 := N _ hm2
  refine call_zip_2 (l1 := l1) (l2 := l2) (xs := xs.toArray) (ys := ys.toArray) ⟨_, g1.1, rfl, _, rfl⟩ ⟨_, g2.1, rfl, _, rfl⟩ fun h' hz hTI hTO hi1 hi2 hsz hk => ?_
  have hLs : @LT.lt Nat _ L s.heap.objs.size := F.ns.lt
  have h0L : h₀.objs.size ≤ L := F.above
  have h0s : h₀.objs.size ≤ s.heap.objs.size := Nat.le_of_lt (Nat.lt_of_le_of_lt h0L hLs)
  obtain ⟨o1, e1, c1, d1⟩ := hi1
  obtain ⟨o2, e2, c2, d2⟩ := hi2
  have none₀ : ∀ c : Nat, s.heap.objs.size ≤ c → h₀.get? c = none := fun c hc => Heap.get?_none_of_le (Nat.le_trans h0s hc)
  have neL : ∀ c : Nat, s.heap.objs.size ≤ c → @Ne Nat c L := fun c hc => Nat.ne_of_gt (Nat.lt_of_lt_of_le hLs hc)
  refine h s.heap.objs.size o1 o2 h' (F.keeps hk) (fun p hp => ?_) ⟨fun h e => ⟨o1, e, c1, d1⟩, fun h e => ⟨o2, e, c2, d2⟩⟩ ⟨hLs, h0s⟩ fun p hp => Heap.lt_size (N p hp).1
  rcases List.mem_cons.mp hp with rfl | hp
  · exact ⟨hz, neL _ (Nat.le_add_right _ 4), none₀ _ (Nat.le_add_right _ 4)⟩
  rcases List.mem_cons.mp hp with rfl | hp
  · exact ⟨hTI, neL _ (Nat.le_add_right _ 2), none₀ _ (Nat.le_add_right _ 2)⟩
  rcases List.mem_cons.mp hp with rfl | hp
  · exact ⟨hTO, neL _ (Nat.le_add_right _ 3), none₀ _ (Nat.le_add_right _ 3)⟩
  rcases List.mem_cons.mp hp with rfl | hp
  · exact ⟨e1, neL _ (Nat.le_refl _), none₀ _ (Nat.le_refl _)⟩
  rcases List.mem_cons.mp hp with rfl | hp
  · exact ⟨e2, neL _ (Nat.le_add_right _ 1), none₀ _ (Nat.le_add_right _ 1)⟩
  · exact ⟨hk _ _ (N p hp).1, (N p hp).2⟩
theorem zc_src {elt : PySem.Expr} {a b : Str} {scope : Scope} {cl : List (Str × Addr)} {f : Int → Int → Int} {as bs : List Int} {Q : Value → Shared → Prop} {n l1 l2 lT c : Nat} {ot oc o1 o2 : Obj} {xs ys : List Value} {news₀ all : List (Addr × Obj)}
    (hh : A.handled = none) (F : Fr h₀ L s.heap m) (N : News h₀ L s.heap all) (hxs : IntsAre xs as) (hys : IntsAre ys bs) (hM : ZcMade n l1 l2 o1 o2) (hL : ZcLow n L h₀)
    (mT : (lT, ot) ∈ all) (mc : (c, oc) ∈ all) (m1 : (l1, lst xs) ∈ all) (m2 : (l2, lst ys) ∈ all) (mr : ∀ p ∈ news₀, p ∈ all)
    (z4 : (n + 4, zipO n) ∈ all) (z2 : (n + 2, prO (.ref n) (.ref (n + 1))) ∈ all) (z3 : (n + 3, prO .none .none) ∈ all) (z0 : (n, o1) ∈ all) (z1 : (n + 1, o2) ∈ all)
    (hT : n + 4 < lT) (hc : c < n) (h1 : l1 < n) (h2 : l2 < n) (hr : ∀ p ∈ news₀, (@LT.lt Nat _ p.1 n)) (hab : as.length = bs.length) (hsz : as.length ≤ sizeLine)
    (el : ∀ (ai bi : Int) (ta tb : Tok) (C : Addr) (oC : Obj) (m₂ : Str → Option Value) (h : Heap) (tk : Nat) (E' : Value → Shared → Prop), ai ∈ as → bi ∈ bs → NsObj oC m₂ → m₂ a = some (.int ai ta) → m₂ b = some (.int bi tb) → Fr h₀ L h m → News h₀ L h ((C, oC) :: (lT, ot) :: (c, oc) :: (l1, lst xs) :: (l2, lst ys) :: news₀) →
      wpAny (model prog w) A (eval elt (compEnvC scope cl C env)) (fun v s₅ => ∃ (tk' : Nat) (t : Tok), v = .int (f ai bi) t ∧ s₅ = { s with heap := h, toks := tk' }) E' { s with heap := h, toks := tk })
    (ret : ∀ (D : Addr) (vs : List Value) (h : Heap) (tk : Nat), Fr h₀ L h m → News h₀ L h ((D, lst vs) :: (lT, ot) :: (c, oc) :: (l1, lst xs) :: (l2, lst ys) :: news₀) → IntsAre vs (List.zipWith f as bs) → vs.length = as.length → Q (.ref D) { s with heap := h, toks := tk }) :
    ZcSrc prog w A h₀ L m env elt a b scope cl f as bs Q (.ref (n + 4)) s := by
  refine ⟨n, l1, l2, xs, ys, (lT, ot) :: (c, oc) :: (l1, lst xs) :: (l2, lst ys) :: news₀, rfl, hh, F, fun p hp => N p ?_, ⟨(N _ z4).1, (N _ z2).1, ⟨_, _, (N _ z3).1⟩, hM.1 _ (N _ z0).1, hM.2 _ (N _ z1).1, ⟨_, (N _ m1).1, rfl, _, rfl⟩, ⟨_, (N _ m2).1, rfl, _, rfl⟩⟩, fun p hp => ?_, h1, h2, hL.1, hL.2, hxs, hys, hab, hsz, el, ret⟩
  · rcases List.mem_cons.mp hp with rfl | hp
    · exact mT
    rcases List.mem_cons.mp hp with rfl | hp
    · exact mc
    rcases List.mem_cons.mp hp with rfl | hp
    · exact m1
    rcases List.mem_cons.mp hp with rfl | hp
    · exact m2
    exact mr p hp
  · have low : ∀ q : Nat, q < n → (@Ne Nat q n) ∧ (@Ne Nat q (n + 1)) ∧ (@Ne Nat q (n + 3)) ∧ (@Ne Nat q (n + 4)) := fun q hq => by omega
    rcases List.mem_cons.mp hp with rfl | hp
    · show (@Ne Nat lT n) ∧ (@Ne Nat lT (n + 1)) ∧ (@Ne Nat lT (n + 3)) ∧ (@Ne Nat lT (n + 4))
      omega
    rcases List.mem_cons.mp hp with rfl | hp
    · exact low _ hc
    rcases List.mem_cons.mp hp with rfl | hp
    · exact low _ h1
    rcases List.mem_cons.mp hp with rfl | hp
    · exact low _ h2
    exact low _ (hr p hp)
theorem allLt_mem {news : List (Addr × Obj)} {d : Addr} (h : AllLt d news) : ∀ p ∈ news, (@LT.lt Nat _ p.1 d) := by
  induction news with
  | nil => intro p hp; cases hp
  | cons q r ih =>
    intro p hp
    cases hp with
    | head => exact h.1
    | tail _ hp => exact ih h.2 p hp
theorem zc_all {elt : PySem.Expr} {a b pn : Str} {pa pb tp pp pos : Pos} {kk : Nat} {scope cs : Scope} {cn : Str} {fa : Addr} {ccd : Value} {cle cl : List (Str × Addr)} {f : Int → Int → Int} {as bs : List Int} {Q : Value → Shared → Prop} {n l1 l2 lT c : Nat} {ot oc o1 o2 : Obj} {xs ys : List Value} {news₀ all : List (Addr × Obj)}
    (F : Fr h₀ L s.heap m) (N : News h₀ L s.heap all) (hM : ZcMade n l1 l2 o1 o2) (hL : ZcLow n L h₀)
    (m1 : (l1, lst xs) ∈ all) (m2 : (l2, lst ys) ∈ all) (hxs : IntsAre xs as) (hys : IntsAre ys bs)
    (mT : (lT, ot) ∈ all) (mc : (c, oc) ∈ all) (mr : ∀ p ∈ news₀, p ∈ all)
    (z4 : (n + 4, zipO n) ∈ all) (z2 : (n + 2, prO (.ref n) (.ref (n + 1))) ∈ all) (z3 : (n + 3, prO .none .none) ∈ all) (z0 : (n, o1) ∈ all) (z1 : (n + 1, o2) ∈ all)
    (hv : m pn = some (.ref (n + 4)))
    (hT : n + 4 < lT) (hc : c < n) (h1 : l1 < n) (h2 : l2 < n) (hcd : oc.data = .cell (some (.ref lT))) (ha01 : ∀ x ∈ as, 0 ≤ x ∧ x ≤ 1) (hb01 : ∀ x ∈ bs, 0 ≤ x ∧ x ≤ 1) (hr : ∀ p ∈ news₀, (@LT.lt Nat _ p.1 n)) (hab : as.length = bs.length) (hsz : as.length ≤ sizeLine)
    (hh : A.handled = none)
    (hclos : closureFor scope (envX cn cs L fa ccd cle) = pure cl) (hcell : ∀ y ∈ scope.names, y.2 ≠ .cell) (hkind : scope.kind = .function)
    (hnames : ∀ y ∈ scope.names, y.2 = .local → scope.names.lookup y.1 = some .local) (hxa : scope.names.lookup a = some .local) (hxb : scope.names.lookup b = some .local) (hne : ¬ a = b)
    (hk : cs.kind = .function) (hx : (envX cn cs L fa ccd cle).kindOf pn = some .local) (hd : (pn == ("__debug__" : Str)) = false)
    (el : ∀ (ai bi : Int) (ta tb : Tok) (C : Addr) (oC : Obj) (m₂ : Str → Option Value) (h : Heap) (tk : Nat) (E' : Value → Shared → Prop), 0 ≤ ai → ai ≤ 1 → 0 ≤ bi → bi ≤ 1 → NsObj oC m₂ → m₂ a = some (.int ai ta) → m₂ b = some (.int bi tb) → Fr h₀ L h m → News h₀ L h ((C, oC) :: (lT, ot) :: (c, oc) :: (l1, lst xs) :: (l2, lst ys) :: news₀) →
      wpAny (model prog w) A (eval elt (compEnvC scope cl C (envX cn cs L fa ccd cle))) (fun v s₅ => ∃ (tk' : Nat) (t : Tok), v = .int (f ai bi) t ∧ s₅ = { s with heap := h, toks := tk' }) E' { s with heap := h, toks := tk })
    (ret : ∀ (D : Addr) (vs : List Value) (h : Heap) (tk : Nat), Fr h₀ L h m → News h₀ L h ((D, lst vs) :: (lT, ot) :: (c, oc) :: (l1, lst xs) :: (l2, lst ys) :: news₀) → IntsAre vs (List.zipWith f as bs) → vs.length = as.length → Q (.ref D) { s with heap := h, toks := tk }) :
    wpAny (model prog w) A (eval (.ListComp elt [⟨.Tuple [.Name a pa, .Name b pb] kk tp, .Name pn pp, [], 0⟩] scope pos) (envX cn cs L fa ccd cle)) Q E s :=
  zc_comp hclos hcell hkind hnames hxa hxb hne
    (nameX_L F hv (zc_src (f := f) hh F N hxs hys hM hL mT mc m1 m2 mr z4 z2 z3 z0 z1 hT hc h1 h2 hr hab hsz (fun ai bi ta tb C oC m₂ h tk E' hai hbi => el ai bi ta tb C oC m₂ h tk E' (ha01 ai hai).1 (ha01 ai hai).2 (hb01 bi hbi).1 (hb01 bi hbi).2) ret) hk hx hd) (by intro _; rfl)
end
end Mine
end
section
open PySem PySem.W PyProof.Rows
namespace Mine
abbrev P31 : Int := 2 ^ Int.toNat 31
abbrev P32 : Int := 2 ^ Int.toNat 32
abbrev optV : Option Int → Tok → Value
  | none, _ => .none
  | some i, t => .int i t
abbrev tupO (r n z c v : Int) (h : Value) (t1 t2 t3 t4 t5 : Tok) : Obj := { cls := .type "tuple", data := .seq #[.int r t1, .int n t2, .int z t3, .int c t4, .int v t5, h] }
abbrev RetT (h₀ : Heap) (L : Addr) (m : Str → Option Value) (news : List (Addr × Obj)) (s : Shared) (Q : Value → Shared → Prop) (r c v : Int) (hv : Option Int) : Prop :=
  ∀ (q : Addr) (t1 t2 t3 t4 t5 t6 : Tok) (h' : Heap) (tk' : Nat), Fr h₀ L h' m → News h₀ L h' ((q, tupO r (r.fdiv P31) (if r = 0 then 1 else 0) c v (optV hv t6) t1 t2 t3 t4 t5) :: news) → Q (.ref q) { s with heap := h', toks := tk' }
abbrev RetN (h₀ : Heap) (L : Addr) (m : Str → Option Value) (news : List (Addr × Obj)) (s : Shared) (Q : Value → Shared → Prop) : Prop :=
  ∀ (h' : Heap) (tk' : Nat), Fr h₀ L h' m → News h₀ L h' news → Q .none { s with heap := h', toks := tk' }
/-- what an operation is to give back: the result, the carry, the overflow, the high word or rest -/
structure Sp where
  r : Int
  c : Int
  v : Int
  h : Option Int
abbrev RetS (h₀ : Heap) (L : Addr) (m : Str → Option Value) (news : List (Addr × Obj)) (s : Shared) (Q : Value → Shared → Prop) (o : Option Sp) : Prop :=
  match o with
  | none => RetN h₀ L m news s Q
  | some p => RetT h₀ L m news s Q p.r p.c p.v p.h
theorem endT {h₀ h' : Heap} {L q : Addr} {m : Str → Option Value} {news all : List (Addr × Obj)} {s : Shared} {Q : Value → Shared → Prop} {r c v r' z' c' v' : Int} {hv : Option Int} {V : Value} {t1 t2 t3 t4 t5 t6 : Tok} {tk' : Nat}
    (hret : RetT h₀ L m news s Q r c v hv) (F : Fr h₀ L h' m) (N : News h₀ L h' all) (hm : (q, tupO r' (r'.fdiv P31) z' c' v' V t1 t2 t3 t4 t5) ∈ all) (hs : ∀ p ∈ news, p ∈ all)
    (ez : z' = if r' = 0 then 1 else 0) (er : r' = r) (ec : c' = c) (ev : v' = v) (eh : V = optV hv t6) : Q (.ref q) { s with heap := h', toks := tk' } := by
  subst er ec ev eh ez
  refine hret q t1 t2 t3 t4 t5 t6 h' tk' F fun p hp => ?_
  rcases List.mem_cons.mp hp with rfl | hp
  · exact N _ hm
  · exact N _ (hs p hp)
theorem endN {h₀ h' : Heap} {L : Addr} {m : Str → Option Value} {news all : List (Addr × Obj)} {s : Shared} {Q : Value → Shared → Prop} {tk' : Nat}
    (hret : RetN h₀ L m news s Q) (F : Fr h₀ L h' m) (N : News h₀ L h' all) (hs : ∀ p ∈ news, p ∈ all) : Q .none { s with heap := h', toks := tk' } := hret h' tk' F fun p hp => N _ (hs p hp)
def spMOV (_x y : Int) : Sp := ⟨y.fmod P32, 0, 0, none⟩
def spADD (x y : Int) : Sp := ⟨(x + y).fmod P32, if P32 ≤ x + y then 1 else 0, if -P31 ≤ Sg x + Sg y ∧ Sg x + Sg y < P31 then 0 else 1, none⟩
def spSUB (x y : Int) : Sp := ⟨(x - y).fmod P32, if x < y then 1 else 0, if -P31 ≤ Sg x - Sg y ∧ Sg x - Sg y < P31 then 0 else 1, none⟩
def spMUL (x y : Int) : Sp := ⟨(Sg x * Sg y).fmod P32, 0, if -P31 ≤ Sg x * Sg y ∧ Sg x * Sg y < P31 then 0 else 1, some (((Sg x * Sg y).fdiv P32).fmod P32)⟩
def spDIV (x y : Int) : Sp := ⟨((Sg x).fdiv (Sg y)).fmod P32, 0, 0, some (Sg x - Sg y * (Sg x).fdiv (Sg y))⟩
def spLSL (x y : Int) : Sp := ⟨(x * 2 ^ (y.fmod 32).toNat).fmod P32, 0, 0, none⟩
def spASR (x y : Int) : Sp := ⟨((Sg x).fdiv (2 ^ (y.fmod 32).toNat)).fmod P32, 0, 0, none⟩
def spROR (x y : Int) : Sp := ⟨(totOf ((bitsOf x).drop (y.fmod 32).toNat ++ (bitsOf x).take (y.fmod 32).toNat)).fmod P32, 0, 0, none⟩
def tab (l : List Int) (x y : Int) : Int := totOf (List.zipWith (fun a b => l.getD (2 * a + b).toNat 0) (bitsOf x) (bitsOf y))
def spAND (x y : Int) : Sp := ⟨(tab [0, 0, 0, 1] x y).fmod P32, 0, 0, none⟩
def spANN (x y : Int) : Sp := ⟨(tab [0, 0, 1, 0] x y).fmod P32, 0, 0, none⟩
def spIOR (x y : Int) : Sp := ⟨(tab [0, 1, 1, 1] x y).fmod P32, 0, 0, none⟩
def spXOR (x y : Int) : Sp := ⟨(tab [0, 1, 1, 0] x y).fmod P32, 0, 0, none⟩
end Mine
end
section
open PySem PySem.W PyProof.Rows
namespace Mine
/-! the plain laws: bits, rests, the flags -/
theorem fd_pos (a : Int) {b : Int} (hb : 0 ≤ b) : a.fdiv b = a / b := Int.fdiv_eq_ediv_of_nonneg a hb
theorem fm_pos (a : Int) {b : Int} (hb : 0 ≤ b) : a.fmod b = a % b := Int.fmod_eq_emod_of_nonneg a hb
theorem p2 (k : Nat) : (0 : Int) < 2 ^ k := kbt_pos k
theorem p32 : P32 = 4294967296 := rfl
theorem p31 : P31 = 2147483648 := rfl
theorem half_div {F g : Int → Int → Int} (hg : ∀ p q, (p = 0 ∨ p = 1) → (q = 0 ∨ q = 1) → g p q = 0 ∨ g p q = 1) (hF : ∀ a b, F a b = 2 * F (a / 2) (b / 2) + g (a % 2) (b % 2)) :
    ∀ (k : Nat) (a b : Int), F a b / 2 ^ k = F (a / 2 ^ k) (b / 2 ^ k)
  | 0, a, b => by simp
  | k + 1, a, b => by
    have e : ∀ z : Int, z / 2 ^ (k + 1) = z / 2 / 2 ^ k := fun z => by
      rw [Int.pow_succ, Int.mul_comm, Int.ediv_ediv_of_nonneg (by decide)]
    have h1 : F a b / 2 = F (a / 2) (b / 2) := by
      have h := hF a b
      have h2 := hg (a % 2) (b % 2) (by omega) (by omega)
      omega
    rw [e, h1, half_div hg hF k, e, e]
theorem half_bit {F g : Int → Int → Int} (hg : ∀ p q, (p = 0 ∨ p = 1) → (q = 0 ∨ q = 1) → g p q = 0 ∨ g p q = 1) (hF : ∀ a b, F a b = 2 * F (a / 2) (b / 2) + g (a % 2) (b % 2))
    (k : Nat) (a b : Int) : F a b / 2 ^ k % 2 = g (a / 2 ^ k % 2) (b / 2 ^ k % 2) := by
  rw [half_div hg hF]
  have h := hF (a / 2 ^ k) (b / 2 ^ k)
  have h2 := hg (a / 2 ^ k % 2) (b / 2 ^ k % 2) (by omega) (by omega)
  omega
def gA (p q : Int) : Int := if p = 1 ∧ q = 1 then 1 else 0
def gX (p q : Int) : Int := p + q - 2 * gA p q
def gO (p q : Int) : Int := p + q - gA p q
theorem gA01 : ∀ p q, (p = 0 ∨ p = 1) → (q = 0 ∨ q = 1) → gA p q = 0 ∨ gA p q = 1 := by
  intro p q h1 h2; unfold gA; split <;> omega
theorem gX01 : ∀ p q, (p = 0 ∨ p = 1) → (q = 0 ∨ q = 1) → gX p q = 0 ∨ gX p q = 1 := by
  intro p q h1 h2; unfold gX gA; split <;> omega
theorem gO01 : ∀ p q, (p = 0 ∨ p = 1) → (q = 0 ∨ q = 1) → gO p q = 0 ∨ gO p q = 1 := by
  intro p q h1 h2; unfold gO gA; split <;> omega
theorem halfA (a b : Int) : Builtin.bitAnd a b = 2 * Builtin.bitAnd (a / 2) (b / 2) + gA (a % 2) (b % 2) := kbt_halves a b
theorem halfX (a b : Int) : Builtin.bitXor a b = 2 * Builtin.bitXor (a / 2) (b / 2) + gX (a % 2) (b % 2) := by
  rw [bitXor_and, bitXor_and, halfA a b]; unfold gX; omega
theorem halfO (a b : Int) : Builtin.bitOr a b = 2 * Builtin.bitOr (a / 2) (b / 2) + gO (a % 2) (b % 2) := by
  rw [bitOr_and, bitOr_and, halfA a b]; unfold gO; omega
theorem divA (k : Nat) (a b : Int) : Builtin.bitAnd a b / 2 ^ k = Builtin.bitAnd (a / 2 ^ k) (b / 2 ^ k) := half_div gA01 halfA k a b
theorem divX (k : Nat) (a b : Int) : Builtin.bitXor a b / 2 ^ k = Builtin.bitXor (a / 2 ^ k) (b / 2 ^ k) := half_div gX01 halfX k a b
theorem divO (k : Nat) (a b : Int) : Builtin.bitOr a b / 2 ^ k = Builtin.bitOr (a / 2 ^ k) (b / 2 ^ k) := half_div gO01 halfO k a b
theorem btA (k : Nat) (a b : Int) : Builtin.bitAnd a b / 2 ^ k % 2 = gA (a / 2 ^ k % 2) (b / 2 ^ k % 2) := half_bit gA01 halfA k a b
theorem btX (k : Nat) (a b : Int) : Builtin.bitXor a b / 2 ^ k % 2 = gX (a / 2 ^ k % 2) (b / 2 ^ k % 2) := half_bit gX01 halfX k a b
theorem btO (k : Nat) (a b : Int) : Builtin.bitOr a b / 2 ^ k % 2 = gO (a / 2 ^ k % 2) (b / 2 ^ k % 2) := half_bit gO01 halfO k a b
theorem rest_succ (z : Int) (n : Nat) : z % 2 ^ n + z / 2 ^ n % 2 * 2 ^ n = z % 2 ^ (n + 1) := by
  have hp := p2 n
  have h1 := Int.emod_nonneg z (Int.ne_of_gt hp)
  have h2 := Int.emod_lt_of_pos z hp
  have h3 := Int.mul_ediv_add_emod z (2 ^ n)
  have h4 : z / 2 ^ n = 2 * (z / 2 ^ n / 2) + z / 2 ^ n % 2 := by omega
  have h5 : z / 2 ^ n % 2 = 0 ∨ z / 2 ^ n % 2 = 1 := by omega
  rw [Int.pow_succ]
  generalize (2 : Int) ^ n = P at *
  generalize z / P / 2 = h at *
  have hb : 0 < P * 2 := by omega
  refine ((kbt_unique (q := h) hb ?_ ?_ ?_).2).symm
  · rcases h5 with h5 | h5
    · rw [h5] at h4 ⊢
      rw [h4] at h3
      rw [Int.mul_assoc]
      have e : P * (2 * h + 0) = P * (2 * h) := by rw [Int.add_zero]
      omega
    · rw [h5] at h4 ⊢
      rw [h4] at h3
      rw [Int.mul_assoc]
      have e : P * (2 * h + 1) = P * (2 * h) + P := by rw [Int.mul_add, Int.mul_one]
      omega
  · rcases h5 with h5 | h5 <;> rw [h5] <;> omega
  · rcases h5 with h5 | h5 <;> rw [h5] <;> omega
theorem sum_bits (ns : List Int) (z : Int) : ∀ n : Nat, (∀ j : Nat, j < n → ns.getD j 0 = z / 2 ^ j % 2) → ((rangeKs 0 n).map (fun k => ns.getD k.toNat 0 * 2 ^ k.toNat)).sum = z % 2 ^ n
  | 0, _ => by simp [rangeKs, Int.emod_one]
  | n + 1, h => by
    have ih := sum_bits ns z n fun j hj => h j (by omega)
    have e : rangeKs 0 (n + 1) = rangeKs 0 n ++ [(n : Int)] := by
      unfold rangeKs
      rw [List.range_succ, List.map_append]
      simp
    rw [e, List.map_append, List.sum_append, ih]
    simp only [List.map_cons, List.map_nil, List.sum_cons, List.sum_nil, Int.toNat_natCast, Int.add_zero]
    rw [h n (by omega)]
    exact rest_succ z n
theorem tot_eq {ns : List Int} {z : Int} (h : ∀ j : Nat, j < 32 → ns.getD j 0 = z / 2 ^ j % 2) : totOf ns = z % 4294967296 := sum_bits ns z 32 h
theorem bits_get (x : Int) {j : Nat} (hj : j < 32) : (bitsOf x)[j]? = some (x / 2 ^ j % 2) := by
  unfold bitsOf rangeKs
  rw [List.getElem?_map, List.getElem?_map, List.getElem?_range hj]
  simp only [Option.map_some, Option.some.injEq]
  rw [fm_pos _ (by decide), fd_pos _ (Int.le_of_lt (p2 _))]
  simp
theorem mask (a : Int) : Builtin.bitAnd a 4294967295 = a.fmod P32 := by
  rw [bitAnd_m32, fm_pos _ (by decide)]; rfl
theorem keep {z : Int} (h0 : 0 ≤ z) (h1 : z < 4294967296) : z = z.fmod P32 := by
  rw [fm_pos _ (by decide), p32]; omega
theorem tab_eq {l : List Int} {x y z : Int} (h0 : 0 ≤ z) (h1 : z < 4294967296) (h : ∀ j : Nat, j < 32 → l.getD (2 * (x / 2 ^ j % 2) + y / 2 ^ j % 2).toNat 0 = z / 2 ^ j % 2) : z = (tab l x y).fmod P32 := by
  have e : tab l x y = z % 4294967296 := tot_eq fun j hj => by
    rw [List.getD_eq_getElem?_getD, List.getElem?_zipWith, bits_get x hj, bits_get y hj]
    exact h j hj
  rw [e, fm_pos _ (by decide), p32]; omega
theorem cut {z : Int} (h : z / 2 ^ 32 = 0) : 0 ≤ z ∧ z < 4294967296 := by
  have e : (2 : Int) ^ 32 = 4294967296 := rfl
  rw [e] at h; omega
theorem zero32 {x : Int} (h0 : 0 ≤ x) (h1 : x < 4294967296) : x / 2 ^ 32 = 0 := by
  have e : (2 : Int) ^ 32 = 4294967296 := rfl
  rw [e]; omega
theorem ones : ∀ j : Nat, j < 32 → (4294967295 : Int) / 2 ^ j % 2 = 1 := by decide +kernel
theorem low1 (x : Int) (j : Nat) : x / 2 ^ j % 2 = 0 ∨ x / 2 ^ j % 2 = 1 := by omega
section
variable {x y : Int} (hx0 : 0 ≤ x) (hx1 : x < 4294967296) (hy0 : 0 ≤ y) (hy1 : y < 4294967296)
include hx0 hx1 hy0 hy1
theorem er_MOV : y = (spMOV x y).r := keep hy0 hy1
theorem er_AND : Builtin.bitAnd x y = (spAND x y).r := by
  have c := cut (z := Builtin.bitAnd x y) (by rw [divA, zero32 hx0 hx1, zero32 hy0 hy1]; rfl)
  refine tab_eq c.1 c.2 fun j _ => ?_
  rw [btA]
  rcases low1 x j with h | h <;> rcases low1 y j with h' | h' <;> rw [h, h'] <;> rfl
theorem er_IOR : Builtin.bitOr x y = (spIOR x y).r := by
  have c := cut (z := Builtin.bitOr x y) (by rw [divO, zero32 hx0 hx1, zero32 hy0 hy1]; rfl)
  refine tab_eq c.1 c.2 fun j _ => ?_
  rw [btO]
  rcases low1 x j with h | h <;> rcases low1 y j with h' | h' <;> rw [h, h'] <;> rfl
theorem er_XOR : Builtin.bitXor x y = (spXOR x y).r := by
  have c := cut (z := Builtin.bitXor x y) (by rw [divX, zero32 hx0 hx1, zero32 hy0 hy1]; rfl)
  refine tab_eq c.1 c.2 fun j _ => ?_
  rw [btX]
  rcases low1 x j with h | h <;> rcases low1 y j with h' | h' <;> rw [h, h'] <;> rfl
theorem er_ANN : Builtin.bitAnd x (Builtin.bitXor y 4294967295) = (spANN x y).r := by
  have c := cut (z := Builtin.bitAnd x (Builtin.bitXor y 4294967295)) (by rw [divA, divX, zero32 hx0 hx1, zero32 hy0 hy1, zero32 (by decide) (by decide)]; rfl)
  refine tab_eq c.1 c.2 fun j hj => ?_
  rw [btA, btX, ones j hj]
  rcases low1 x j with h | h <;> rcases low1 y j with h' | h' <;> rw [h, h'] <;> rfl
theorem er_ADD : Builtin.bitAnd (x + y) 4294967295 = (spADD x y).r := mask _
theorem er_SUB : Builtin.bitAnd (x - y) 4294967295 = (spSUB x y).r := mask _
theorem er_MUL : Builtin.bitAnd (Sg x * Sg y) 4294967295 = (spMUL x y).r := mask _
theorem er_DIV : Builtin.bitAnd ((Sg x).fdiv (Sg y)) 4294967295 = (spDIV x y).r := mask _
theorem cnt : Builtin.bitAnd y 31 = y.fmod 32 := by rw [bitAnd_m5, fm_pos _ (by decide)]
theorem er_LSL : Builtin.bitAnd (x * 2 ^ (Builtin.bitAnd y 31).toNat) 4294967295 = (spLSL x y).r := by
  rw [mask, cnt hx0 hx1 hy0 hy1]; rfl
theorem er_ASR : Builtin.bitAnd ((Sg x).fdiv (2 ^ (Builtin.bitAnd y 31).toNat)) 4294967295 = (spASR x y).r := by
  rw [mask, cnt hx0 hx1 hy0 hy1]; rfl
theorem rot_bit {k j : Nat} (hk : k < 32) (hj : j < 32) : ((bitsOf x).drop k ++ (bitsOf x).take k).getD j 0 = Builtin.bitOr (x / 2 ^ k) (x * 2 ^ (32 - k)) / 2 ^ j % 2 := by
  have hp : ∀ n : Nat, (0 : Int) ≤ 2 ^ n := fun n => Int.le_of_lt (p2 n)
  have e1 : x / 2 ^ k / 2 ^ j = x / 2 ^ (k + j) := by rw [Int.ediv_ediv_of_nonneg (hp k), ← Int.pow_add]
  rw [btO, e1, List.getD_eq_getElem?_getD, List.getElem?_append, List.length_drop, bits_len]
  by_cases h : j < 32 - k
  · have e2 : x * 2 ^ (32 - k) / 2 ^ j = x * 2 ^ (32 - k - j - 1) * 2 := by
      rw [show (2 : Int) ^ (32 - k) = 2 ^ (32 - k - j - 1) * 2 * 2 ^ j by rw [Int.mul_assoc, ← Int.pow_succ', ← Int.pow_add]; congr 1; omega, ← Int.mul_assoc, Int.mul_ediv_cancel _ (Int.ne_of_gt (p2 j)), Int.mul_assoc]
    rw [if_pos h, List.getElem?_drop, bits_get x (by omega), e2]
    have e3 : x * 2 ^ (32 - k - j - 1) * 2 % 2 = 0 := by omega
    rw [e3]
    rcases low1 x (k + j) with h' | h' <;> rw [h'] <;> rfl
  · have e2 : x * 2 ^ (32 - k) / 2 ^ j = x / 2 ^ (j - (32 - k)) := by
      rw [show (2 : Int) ^ j = 2 ^ (32 - k) * 2 ^ (j - (32 - k)) by rw [← Int.pow_add]; congr 1; omega, ← Int.ediv_ediv_of_nonneg (hp _), Int.mul_ediv_cancel _ (Int.ne_of_gt (p2 _))]
    have e3 : x / 2 ^ (k + j) = 0 := by
      rw [show k + j = 32 + (k + j - 32) by omega, Int.pow_add, ← Int.ediv_ediv_of_nonneg (by decide), zero32 hx0 hx1]
      simp
    rw [if_neg h, List.getElem?_take_of_lt (by omega), bits_get x (by omega), e2, e3]
    rcases low1 x (j - (32 - k)) with h' | h' <;> rw [h'] <;> rfl
theorem er_ROR : Builtin.bitAnd (Builtin.bitOr (x.fdiv (2 ^ (Builtin.bitAnd y 31).toNat)) (x * 2 ^ (32 - Builtin.bitAnd y 31).toNat)) 4294967295 = (spROR x y).r := by
  rw [mask, cnt hx0 hx1 hy0 hy1, fd_pos _ (Int.le_of_lt (p2 _))]
  have h1 : 0 ≤ y.fmod 32 := Int.fmod_nonneg_of_pos y (by decide)
  have h2 : y.fmod 32 < 32 := Int.fmod_lt_of_pos y (by decide)
  unfold spROR
  generalize y.fmod 32 = k at *
  rw [show (32 - k).toNat = 32 - k.toNat by omega]
  show _ = Int.fmod (totOf _) P32
  rw [tot_eq fun j hj => rot_bit hx0 hx1 hy0 hy1 (by omega) hj, fm_pos _ (by decide), fm_pos _ (by decide), p32]
  omega
theorem ec_ADD : (x + y).fdiv P32 = (spADD x y).c := by
  show _ = if P32 ≤ x + y then 1 else 0
  rw [fd_pos _ (by decide), p32]
  split <;> omega
theorem top_bit {a : Int} (h0 : 0 ≤ a) (h1 : a < 4294967296) : a / 2 ^ 31 = if 2147483648 ≤ a then 1 else 0 := by
  have e : (2 : Int) ^ 31 = 2147483648 := rfl
  rw [e]
  split <;> omega
theorem ev_ADD : (Builtin.bitAnd (Builtin.bitXor x (Builtin.bitAnd (x + y) 4294967295)) (Builtin.bitXor y (Builtin.bitAnd (x + y) 4294967295))).fdiv P31 = (spADD x y).v := by
  rw [mask, fm_pos _ (by decide), fd_pos _ (by decide), p32]
  show _ / 2 ^ 31 = if -2147483648 ≤ Sg x + Sg y ∧ Sg x + Sg y < 2147483648 then 0 else 1
  rw [divA, divX, divX, top_bit hx0 hx1 hy0 hy1 hx0 hx1, top_bit hx0 hx1 hy0 hy1 hy0 hy1, top_bit hx0 hx1 hy0 hy1 (a := (x + y) % 4294967296) (by omega) (by omega)]
  unfold Sg
  split <;> split <;> split <;> first | (rw [if_pos (by omega)]; rfl) | (rw [if_neg (by omega)]; rfl) | (exfalso; omega)
theorem ev_SUB : (Builtin.bitAnd (Builtin.bitXor x y) (Builtin.bitXor x (Builtin.bitAnd (x - y) 4294967295))).fdiv P31 = (spSUB x y).v := by
  rw [mask, fm_pos _ (by decide), fd_pos _ (by decide), p32]
  show _ / 2 ^ 31 = if -2147483648 ≤ Sg x - Sg y ∧ Sg x - Sg y < 2147483648 then 0 else 1
  rw [divA, divX, divX, top_bit hx0 hx1 hy0 hy1 hx0 hx1, top_bit hx0 hx1 hy0 hy1 hy0 hy1, top_bit hx0 hx1 hy0 hy1 (a := (x - y) % 4294967296) (by omega) (by omega)]
  unfold Sg
  split <;> split <;> split <;> first | (rw [if_pos (by omega)]; rfl) | (rw [if_neg (by omega)]; rfl) | (exfalso; omega)
theorem sg_fit (p : Int) : Sg (Builtin.bitAnd p 4294967295) = p ↔ -P31 ≤ p ∧ p < P31 := by
  rw [mask, fm_pos _ (by decide), p32, p31]
  unfold Sg
  split <;> omega
theorem ev_MUL0 (h : Sg (Builtin.bitAnd (Sg x * Sg y) 4294967295) = Sg x * Sg y) : 0 = (spMUL x y).v := by
  show 0 = if -P31 ≤ Sg x * Sg y ∧ Sg x * Sg y < P31 then 0 else 1
  rw [if_pos ((sg_fit hx0 hx1 hy0 hy1 _).mp h)]
theorem ev_MUL1 (h : Sg (Builtin.bitAnd (Sg x * Sg y) 4294967295) ≠ Sg x * Sg y) : 1 = (spMUL x y).v := by
  show 1 = if -P31 ≤ Sg x * Sg y ∧ Sg x * Sg y < P31 then 0 else 1
  rw [if_neg fun q => h ((sg_fit hx0 hx1 hy0 hy1 _).mpr q)]
theorem eh_MUL {t : Tok} : Value.int (Builtin.bitAnd ((Sg x * Sg y).fdiv P32) 4294967295) t = optV (spMUL x y).h t := by rw [mask]; rfl
theorem eh_DIV {t : Tok} : Value.int ((Sg x).fmod (Sg y)) t = optV (spDIV x y).h t := by rw [Int.fmod_def]; rfl
end
end Mine
end
section
open PySem PySem.W PyProof.Rows
namespace Mine
theorem allNe {news : List (Addr × Obj)} {d a : Addr} (h : ∀ p ∈ news, p.1 < d) (hd : d ≤ a) : ∀ p ∈ news, p.1 ≠ a := fun p hp => Nat.ne_of_lt (Nat.lt_of_lt_of_le (h p hp) hd)
theorem fd_log {y : Int} (h : y.natAbs < 2 ^ 100) : y.natAbs.log2 < 9000 := by
  by_cases h0 : y.natAbs = 0
  · rw [h0]; decide
  · exact Nat.lt_trans ((Nat.log2_lt h0).mpr h) (by decide)
theorem fit_b {a b : Int} (ha : a.natAbs < 2 ^ 100) (hb : b.natAbs < 2 ^ 100) : IntMulOk a b := IntMulOk.of_le (m := 100) (n := 100) (intBits_le_iff.mpr ha) (intBits_le_iff.mpr hb) (by decide)
theorem rot_len {x : Int} {k : Nat} : ((bitsOf x).drop k ++ (bitsOf x).take k).length = 32 := by
  rw [List.length_append, List.length_drop, List.length_take, bits_len]; omega
theorem rot_01 {x : Int} {k : Nat} : ∀ n ∈ (bitsOf x).drop k ++ (bitsOf x).take k, 0 ≤ n ∧ n ≤ 1 := by
  intro n hn
  rcases List.mem_append.mp hn with h | h
  · exact bits_01 x n (List.mem_of_mem_drop h)
  · exact bits_01 x n (List.mem_of_mem_take h)
theorem rot_sz {x : Int} {k : Nat} : ((bitsOf x).drop k).length + ((bitsOf x).take k).length ≤ sizeLine := by
  rw [List.length_drop, List.length_take, bits_len, sizeLine_eq]; omega
theorem zip_len {x y : Int} {f : Int → Int → Int} : (List.zipWith f (bitsOf x) (bitsOf y)).length = 32 := by
  rw [List.length_zipWith, bits_len, bits_len]; rfl
theorem zip_01 {x y : Int} {l : List Int} (hl : ∀ n ∈ l, 0 ≤ n ∧ n ≤ 1) : ∀ n ∈ List.zipWith (fun a b => l.getD (2 * a + b).toNat 0) (bitsOf x) (bitsOf y), 0 ≤ n ∧ n ≤ 1 := by
  intro n hn
  obtain ⟨i, hi, rfl⟩ := List.mem_iff_getElem.mp hn
  rw [List.getElem_zipWith, List.getD_eq_getElem?_getD]
  generalize (2 * (bitsOf x)[i] + (bitsOf y)[i]).toNat = j
  cases h : l[j]? with
  | none => simp
  | some v => exact hl v (List.mem_of_getElem? h)
theorem fit_b' {a b : Int} (ha : a.natAbs < 2 ^ 100) (hb : b.natAbs < 2 ^ 100) : IntMulOk a b := IntMulOk.of_le (m := 100) (n := 100) (intBits_le_iff.mpr ha) (intBits_le_iff.mpr hb) (by decide)
theorem fd_log' {y : Int} (h : y.natAbs < 2 ^ 100) : y.natAbs.log2 < 9000 := by
  by_cases h0 : y.natAbs = 0
  · rw [h0]; decide
  · exact Nat.lt_trans ((Nat.log2_lt h0).mpr h) (by decide)
theorem and_lo (a : Int) : 0 ≤ Builtin.bitAnd a 4294967295 := (bitAnd_range a (by decide)).1
theorem and_hi (a : Int) : Builtin.bitAnd a 4294967295 < 4294967296 := by
  have := (bitAnd_range a (y := 4294967295) (by decide)).2
  omega
theorem dec_ite {c : Prop} [Decidable c] {a b : Int} : (if decide c = true then a else b) = if c then a else b := by
  by_cases h : c <;> simp [h]
theorem dec_and {A B : Prop} [Decidable A] [Decidable B] {a b : Int} (hA : A) : (if decide B = true then a else b) = if A ∧ B then a else b := by
  by_cases h : B <;> simp [h, hA]
theorem ev_MUL {x y : Int} (hx0 : 0 ≤ x) (hx1 : x < 4294967296) (hy0 : 0 ≤ y) (hy1 : y < 4294967296) : (if decide (Sg (Builtin.bitAnd (Sg x * Sg y) 4294967295) = Sg x * Sg y) = true then (0 : Int) else 1) = (spMUL x y).v := by
  rw [dec_ite]
  by_cases h : Sg (Builtin.bitAnd (Sg x * Sg y) 4294967295) = Sg x * Sg y
  · rw [if_pos h]; exact ev_MUL0 hx0 hx1 hy0 hy1 h
  · rw [if_neg h]; exact ev_MUL1 hx0 hx1 hy0 hy1 h
section
variable {M : Model} {A : Around} {E : Value → Shared → Prop} {s : Shared} {env : Env}
theorem ifexp_i {test : PySem.Expr} {p q : Int} {k1 k2 : Nat} {pos1 pos2 pos : Pos} {Q : Value → Shared → Prop}
    (h : wpAny M A (isTrue test env (eval test env)) (fun b s₁ => Q (.int (if b = true then p else q) s₁.toks) { s₁ with toks := s₁.toks + 1 }) E s) :
    wpAny M A (eval (.IfExp test (.Constant (.int p) k1 pos1) (.Constant (.int q) k2 pos2) pos) env) Q E s := by
  refine IfExp_ (wpAny_mono h (fun c s₂ h₂ => ?_) fun _ _ x => x)
  cases c
  · exact wpAny_Constant_int h₂
  · exact wpAny_Constant_int h₂
end
end Mine
end
section
open PySem PySem.W PyProof.Rows
namespace Mine
local macro_rules | `(tactic| walk_at "eval IfExp") => `(tactic| (k_here; (with_reducible refine ifexp_i ?_)))
local macro_rules | `(tactic| k_room) => `(tactic| ktr_room)
local macro_rules | `(tactic| k_all) => `(tactic| exact allNe (by assumption) (Nat.le_succ _))
local macro_rules | `(tactic| walk_at "binaryOp FloorDiv int int") => `(tactic| (with_reducible refine floordiv_int ?kbe ?_ (Or.inl (PyProof.noPylong_of_log2 (fd_log (by omega)))); (case kbe => omega)))
local macro_rules | `(tactic| walk_at "subscriptTail Name Slice ref ref") => `(tactic| (k_here; (with_reducible show wpAny _ _ (subscriptTail _ (PySem.Expr.Slice (some _) none none _) (Value.ref _) (Value.ref _)) _ _ _); k_dflt (refine' kmk_slice_ints ?F ?N ?l ?p ?q ?i ?m ?c ?_ ?s ?t ?z; (case F | N => k_asm); (case l => kmk_list); (case p => exact IsPart.int _ _); (case q => exact IsPart.none); (case i => assumption); (case m => exact kmk_from (by assumption) (by assumption)); (case c => exact rfl); (case s => with_unfolding_all rfl); (case t => kmk_pure); (case z => exact bits_sz (by assumption))); intro D' ws' h' F' N' l1 hI' hC' hL'; (try k_lt l1); (try k_sweep)))
local macro_rules | `(tactic| walk_at "subscriptTail Name Slice ref ref") => `(tactic| (k_here; (with_reducible show wpAny _ _ (subscriptTail _ (PySem.Expr.Slice none (some _) none _) (Value.ref _) (Value.ref _)) _ _ _); k_dflt (refine' kmk_slice_ints ?F ?N ?l ?p ?q ?i ?m ?c ?_ ?s ?t ?z; (case F | N => k_asm); (case l => kmk_list); (case p => exact IsPart.none); (case q => exact IsPart.int _ _); (case i => assumption); (case m => exact kmk_upto (by assumption) (by assumption)); (case c => exact rfl); (case s => with_unfolding_all rfl); (case t => kmk_pure); (case z => exact bits_sz (by assumption))); intro D' ws' h' F' N' l1 hI' hC' hL'; (try k_lt l1); (try k_sweep)))
local macro_rules | `(tactic| walk_at "binaryOp Mult int int") => `(tactic| (with_reducible refine mul_int ?_ (fit_b (by omega) (by omega))))
local macro_rules | `(tactic| walk_at "call ref") => `(tactic| (k_here; (with_reducible show wpAny _ _ (call (Value.ref 120) [Value.int _ _]) _ _ _); k_dflt (refine' con_signed _ _ _ _ _ _ _ _ _ _ _ _ _ _ _ _ _ _ _ _ _ _ _ _ ?k1 ?k2 ?k3 ?k4 ?k5 ?kK ?kd ?ku ?_; (case k1 | k2 | k3 | k4 | k5 => k_asm); (case kK => first | exact rfl | assumption); (case kd => ktr_room); (case ku => ktr_units); (intro t9 h9 tk9 F9 N9; (try dsimp only); (try k_fold)))))
local macro_rules | `(tactic| walk_at "call ref") => `(tactic| (k_here; (with_reducible show wpAny _ _ (call (Value.ref 125) [Value.int _ _]) _ _ _); k_dflt (refine' con_bits _ _ _ _ _ _ _ _ _ _ _ _ _ _ _ _ _ _ _ _ _ _ _ _ ?k1 ?k2 ?k3 ?k4 ?k5 ?kK ?kd ?ku ?_; (case k1 | k2 | k3 | k4 | k5 => k_asm); (case kK => first | exact rfl | assumption); (case kd => ktr_room); (case ku => ktr_units); (intro q9 ys9 h9 tk9 F9 I9 L9 O9 N9; (try simp only [LCg.Off1] at O9); (try dsimp only); (try k_fold)))))
local macro_rules | `(tactic| walk_at "call type:zip") => `(tactic| (k_here; (with_reducible show wpAny _ _ (call (Value.type _) [Value.ref _, Value.ref _]) _ _ _); k_dflt (refine' zc_zip ?F ?N ?a ?b ?_; (case F | N => k_asm); (case a | b => k_mem)); intro n9 oa9 ob9 h9 F9 N9 hM9 hL9 l1; (try k_lt l1); (try dsimp only); (try k_fold)))
local macro_rules | `(tactic| walk_at "call ref") => `(tactic| (k_here; (with_reducible show wpAny _ _ (call (Value.ref 130) [Value.ref _]) _ _ _); k_dflt (refine' con_total _ _ _ _ _ _ _ _ _ ?i1 ?i2 ?i3 _ _ _ _ _ _ _ _ _ _ _ _ _ _ _ _ _ ?k1 ?k2 ?k3 ?k4 ?k5 ?kK ?kd ?ku ?_; (case k1 | k2 | k3 | k4 | k5 => k_asm); (case i1 => assumption); (case i2 => first | exact rot_len | exact zip_len); (case i3 => first | exact rot_01 | exact zip_01 (by decide)); (case kK => first | exact rfl | assumption); (case kd => ktr_room); (case ku => ktr_units); (intro t9 h9 tk9 F9 N9; (try dsimp only); (try k_fold)))))
local macro_rules | `(tactic| walk_at "binaryOp Add ref ref") => `(tactic| (k_here; (with_reducible show wpAny _ _ (binaryOp _ (Value.ref _) (Value.ref _)) _ _ _); k_dflt (refine' kmk_add_ints ?F ?N ?a ?b ?i ?j ?_ ?z; (case F | N => k_asm); (case a | b => kmk_list); (case i | j => l_ints); (case z => exact rot_sz)); intro D' ws' h' F' N' l1 hI'; (try k_lt l1); (try k_sweep)))
theorem due_MOV (w : World) (mean : ExcName → Option Value) (mg mb : Str → Option Value) (news : List (Addr × Obj)) (x y : Int) (t tx ty : Tok) (hx0 : 0 ≤ x) (hx1 : x < 4294967296) (hy0 : 0 ≤ y) (hy1 : y < 4294967296) :
    Con w mean mg mb 135 4 [.str (Str.ofString "MOV") t, .int x tx, .int y ty] news (fun h₀ L m s Q => RetS h₀ L m news s Q (some (spMOV x y))) := by
  have hSx := Sg_bd hx0 hx1
  have hSy := Sg_bd hy0 hy1
  have hc0 : 0 ≤ y.fmod 32 := Int.fmod_nonneg_of_pos y (by decide)
  have hc1 : y.fmod 32 < 32 := Int.fmod_lt_of_pos y (by decide)
  unfold Con; k_fill; intro dp un gd cn cs a ccd cl outer A₀ base h₀ L m s Q E B F X N T hk hdp hun hret
  refine wpAny_call ?_
  k_dflt (refine' code_defC ?k1 ?k2 ?k3 ?k4 ?k5 ?kA ?kF ?kK ?k6 ?k7 ?k8 ?k9 ?kB ?kD ?_ ?c2 ?c3 ?c4; (case kA | kF => exact rfl); (case kK => assumption); (case k1 | k2 | k3 | k4 | k5 => k_asm); (case k6 | k7 => k_is); (case k8 => k_room); (case k9 => first | exact BindsTo.of_eq rfl | exact binds_K (by k_in) rfl (by k_is) rfl rfl rfl | fail "k_enter: no rule for these arguments"); (case kB => exact rfl); (case kD => decide +kernel); (case c2 | c3 | c4 => exact rfl); k_whole; intro g' L' h' tk' cells' FG' F' N' Y' B' X' T' l1; (try k_lt l1); k_cells Y'; (try simp only [List.cons_append, List.nil_append] at N'); (try dsimp only); (try k_lift B'); (try k_fold))
  k_steps
  all_goals (refine' endT (t6 := 0) (hret) ?e1 ?e2 ?e3 ?e4 ?e5 ?e6 ?e7 ?e8 ?e9; (case e1 => k_asm); (case e2 => assumption); (case e3 => k_mem); (case e4 => kcj_all); (case e5 => first | exact dec_ite | exact (if_pos (by assumption)).symm | exact (if_neg (by assumption)).symm); (case e6 => exact rfl); (case e7 => first | exact rfl | exact dec_ite | exact (if_pos (by assumption)).symm | exact (if_neg (by assumption)).symm); (case e8 => first | exact rfl | exact dec_and (by assumption) | exact (if_neg (fun h => absurd h.1 (by assumption))).symm | exact (if_pos (And.intro (by assumption) (by assumption))).symm | exact (if_neg (fun h => absurd h.1 (by assumption))).symm | exact (if_neg (fun h => absurd h.2 (by assumption))).symm); (case e9 => exact rfl))
theorem due_ADD (w : World) (mean : ExcName → Option Value) (mg mb : Str → Option Value) (news : List (Addr × Obj)) (x y : Int) (t tx ty : Tok) (hx0 : 0 ≤ x) (hx1 : x < 4294967296) (hy0 : 0 ≤ y) (hy1 : y < 4294967296) :
    Con w mean mg mb 135 4 [.str (Str.ofString "ADD") t, .int x tx, .int y ty] news (fun h₀ L m s Q => RetS h₀ L m news s Q (some (spADD x y))) := by
  have hSx := Sg_bd hx0 hx1
  have hSy := Sg_bd hy0 hy1
  have hc0 : 0 ≤ y.fmod 32 := Int.fmod_nonneg_of_pos y (by decide)
  have hc1 : y.fmod 32 < 32 := Int.fmod_lt_of_pos y (by decide)
  unfold Con; k_fill; intro dp un gd cn cs a ccd cl outer A₀ base h₀ L m s Q E B F X N T hk hdp hun hret
  refine wpAny_call ?_
  k_dflt (refine' code_defC ?k1 ?k2 ?k3 ?k4 ?k5 ?kA ?kF ?kK ?k6 ?k7 ?k8 ?k9 ?kB ?kD ?_ ?c2 ?c3 ?c4; (case kA | kF => exact rfl); (case kK => assumption); (case k1 | k2 | k3 | k4 | k5 => k_asm); (case k6 | k7 => k_is); (case k8 => k_room); (case k9 => first | exact BindsTo.of_eq rfl | exact binds_K (by k_in) rfl (by k_is) rfl rfl rfl | fail "k_enter: no rule for these arguments"); (case kB => exact rfl); (case kD => decide +kernel); (case c2 | c3 | c4 => exact rfl); k_whole; intro g' L' h' tk' cells' FG' F' N' Y' B' X' T' l1; (try k_lt l1); k_cells Y'; (try simp only [List.cons_append, List.nil_append] at N'); (try dsimp only); (try k_lift B'); (try k_fold))
  k_steps
  all_goals (refine' endT (t6 := 0) (hret) ?e1 ?e2 ?e3 ?e4 ?e5 ?e6 ?e7 ?e8 ?e9; (case e1 => k_asm); (case e2 => assumption); (case e3 => k_mem); (case e4 => kcj_all); (case e5 => first | exact dec_ite | exact (if_pos (by assumption)).symm | exact (if_neg (by assumption)).symm); (case e6 => exact rfl); (case e7 => first | exact rfl | exact dec_ite | exact (if_pos (by assumption)).symm | exact (if_neg (by assumption)).symm); (case e8 => first | exact rfl | exact dec_and (by assumption) | exact (if_neg (fun h => absurd h.1 (by assumption))).symm | exact (if_pos (And.intro (by assumption) (by assumption))).symm | exact (if_neg (fun h => absurd h.1 (by assumption))).symm | exact (if_neg (fun h => absurd h.2 (by assumption))).symm); (case e9 => exact rfl))
theorem due_SUB (w : World) (mean : ExcName → Option Value) (mg mb : Str → Option Value) (news : List (Addr × Obj)) (x y : Int) (t tx ty : Tok) (hx0 : 0 ≤ x) (hx1 : x < 4294967296) (hy0 : 0 ≤ y) (hy1 : y < 4294967296) :
    Con w mean mg mb 135 4 [.str (Str.ofString "SUB") t, .int x tx, .int y ty] news (fun h₀ L m s Q => RetS h₀ L m news s Q (some (spSUB x y))) := by
  have hSx := Sg_bd hx0 hx1
  have hSy := Sg_bd hy0 hy1
  have hc0 : 0 ≤ y.fmod 32 := Int.fmod_nonneg_of_pos y (by decide)
  have hc1 : y.fmod 32 < 32 := Int.fmod_lt_of_pos y (by decide)
  unfold Con; k_fill; intro dp un gd cn cs a ccd cl outer A₀ base h₀ L m s Q E B F X N T hk hdp hun hret
  refine wpAny_call ?_
  k_dflt (refine' code_defC ?k1 ?k2 ?k3 ?k4 ?k5 ?kA ?kF ?kK ?k6 ?k7 ?k8 ?k9 ?kB ?kD ?_ ?c2 ?c3 ?c4; (case kA | kF => exact rfl); (case kK => assumption); (case k1 | k2 | k3 | k4 | k5 => k_asm); (case k6 | k7 => k_is); (case k8 => k_room); (case k9 => first | exact BindsTo.of_eq rfl | exact binds_K (by k_in) rfl (by k_is) rfl rfl rfl | fail "k_enter: no rule for these arguments"); (case kB => exact rfl); (case kD => decide +kernel); (case c2 | c3 | c4 => exact rfl); k_whole; intro g' L' h' tk' cells' FG' F' N' Y' B' X' T' l1; (try k_lt l1); k_cells Y'; (try simp only [List.cons_append, List.nil_append] at N'); (try dsimp only); (try k_lift B'); (try k_fold))
  k_steps
  all_goals (refine' endT (t6 := 0) (hret) ?e1 ?e2 ?e3 ?e4 ?e5 ?e6 ?e7 ?e8 ?e9; (case e1 => k_asm); (case e2 => assumption); (case e3 => k_mem); (case e4 => kcj_all); (case e5 => first | exact dec_ite | exact (if_pos (by assumption)).symm | exact (if_neg (by assumption)).symm); (case e6 => exact rfl); (case e7 => first | exact rfl | exact dec_ite | exact (if_pos (by assumption)).symm | exact (if_neg (by assumption)).symm); (case e8 => first | exact rfl | exact dec_and (by assumption) | exact (if_neg (fun h => absurd h.1 (by assumption))).symm | exact (if_pos (And.intro (by assumption) (by assumption))).symm | exact (if_neg (fun h => absurd h.1 (by assumption))).symm | exact (if_neg (fun h => absurd h.2 (by assumption))).symm); (case e9 => exact rfl))
theorem due_MUL (w : World) (mean : ExcName → Option Value) (mg mb : Str → Option Value) (news : List (Addr × Obj)) (x y : Int) (t tx ty : Tok) (hx0 : 0 ≤ x) (hx1 : x < 4294967296) (hy0 : 0 ≤ y) (hy1 : y < 4294967296) :
    Con w mean mg mb 135 4 [.str (Str.ofString "MUL") t, .int x tx, .int y ty] news (fun h₀ L m s Q => RetS h₀ L m news s Q (some (spMUL x y))) := by
  have hSx := Sg_bd hx0 hx1
  have hSy := Sg_bd hy0 hy1
  have hc0 : 0 ≤ y.fmod 32 := Int.fmod_nonneg_of_pos y (by decide)
  have hc1 : y.fmod 32 < 32 := Int.fmod_lt_of_pos y (by decide)
  unfold Con; k_fill; intro dp un gd cn cs a ccd cl outer A₀ base h₀ L m s Q E B F X N T hk hdp hun hret
  refine wpAny_call ?_
  k_dflt (refine' code_defC ?k1 ?k2 ?k3 ?k4 ?k5 ?kA ?kF ?kK ?k6 ?k7 ?k8 ?k9 ?kB ?kD ?_ ?c2 ?c3 ?c4; (case kA | kF => exact rfl); (case kK => assumption); (case k1 | k2 | k3 | k4 | k5 => k_asm); (case k6 | k7 => k_is); (case k8 => k_room); (case k9 => first | exact BindsTo.of_eq rfl | exact binds_K (by k_in) rfl (by k_is) rfl rfl rfl | fail "k_enter: no rule for these arguments"); (case kB => exact rfl); (case kD => decide +kernel); (case c2 | c3 | c4 => exact rfl); k_whole; intro g' L' h' tk' cells' FG' F' N' Y' B' X' T' l1; (try k_lt l1); k_cells Y'; (try simp only [List.cons_append, List.nil_append] at N'); (try dsimp only); (try k_lift B'); (try k_fold))
  k_steps
  all_goals (refine' endT (hret) ?e1 ?e2 ?e3 ?e4 ?e5 ?e6 ?e7 ?e8 ?e9; (case e1 => k_asm); (case e2 => assumption); (case e3 => k_mem); (case e4 => kcj_all); (case e5 => first | exact dec_ite | exact (if_pos (by assumption)).symm | exact (if_neg (by assumption)).symm); (case e6 => exact rfl); (case e7 => first | exact rfl | exact dec_ite | exact (if_pos (by assumption)).symm | exact (if_neg (by assumption)).symm); (case e8 => first | exact rfl | exact dec_and (by assumption) | exact (if_neg (fun h => absurd h.1 (by assumption))).symm | exact (if_pos (And.intro (by assumption) (by assumption))).symm | exact (if_neg (fun h => absurd h.1 (by assumption))).symm | exact (if_neg (fun h => absurd h.2 (by assumption))).symm); (case e9 => exact rfl))
theorem due_DIV (w : World) (mean : ExcName → Option Value) (mg mb : Str → Option Value) (news : List (Addr × Obj)) (x y : Int) (t tx ty : Tok) (hx0 : 0 ≤ x) (hx1 : x < 4294967296) (hy0 : 0 ≤ y) (hy1 : y < 4294967296) :
    Con w mean mg mb 135 4 [.str (Str.ofString "DIV") t, .int x tx, .int y ty] news (fun h₀ L m s Q => RetS h₀ L m news s Q (if Sg y ≤ 0 then none else some (spDIV x y))) := by
  have hSx := Sg_bd hx0 hx1
  have hSy := Sg_bd hy0 hy1
  have hc0 : 0 ≤ y.fmod 32 := Int.fmod_nonneg_of_pos y (by decide)
  have hc1 : y.fmod 32 < 32 := Int.fmod_lt_of_pos y (by decide)
  unfold Con; k_fill; intro dp un gd cn cs a ccd cl outer A₀ base h₀ L m s Q E B F X N T hk hdp hun hret
  refine wpAny_call ?_
  k_dflt (refine' code_defC ?k1 ?k2 ?k3 ?k4 ?k5 ?kA ?kF ?kK ?k6 ?k7 ?k8 ?k9 ?kB ?kD ?_ ?c2 ?c3 ?c4; (case kA | kF => exact rfl); (case kK => assumption); (case k1 | k2 | k3 | k4 | k5 => k_asm); (case k6 | k7 => k_is); (case k8 => k_room); (case k9 => first | exact BindsTo.of_eq rfl | exact binds_K (by k_in) rfl (by k_is) rfl rfl rfl | fail "k_enter: no rule for these arguments"); (case kB => exact rfl); (case kD => decide +kernel); (case c2 | c3 | c4 => exact rfl); k_whole; intro g' L' h' tk' cells' FG' F' N' Y' B' X' T' l1; (try k_lt l1); k_cells Y'; (try simp only [List.cons_append, List.nil_append] at N'); (try dsimp only); (try k_lift B'); (try k_fold))
  k_steps
  all_goals (first | (refine' endT (show RetT _ _ _ _ _ _ _ _ _ _ from by have h9 := hret; rw [if_neg (by assumption)] at h9; exact h9) ?e1 ?e2 ?e3 ?e4 ?e5 ?e6 ?e7 ?e8 ?e9; (case e1 => k_asm); (case e2 => assumption); (case e3 => k_mem); (case e4 => kcj_all); (case e5 => first | exact dec_ite | exact (if_pos (by assumption)).symm | exact (if_neg (by assumption)).symm); (case e6 => exact rfl); (case e7 => first | exact rfl | exact dec_ite | exact (if_pos (by assumption)).symm | exact (if_neg (by assumption)).symm); (case e8 => first | exact rfl | exact dec_and (by assumption) | exact (if_neg (fun h => absurd h.1 (by assumption))).symm | exact (if_pos (And.intro (by assumption) (by assumption))).symm | exact (if_neg (fun h => absurd h.1 (by assumption))).symm | exact (if_neg (fun h => absurd h.2 (by assumption))).symm); (case e9 => exact rfl)) | (refine' endN (show RetN _ _ _ _ _ _ from by have h9 := hret; rw [if_pos (by assumption)] at h9; exact h9) ?e1 ?e2 ?e3; (case e1 => k_asm); (case e2 => assumption); (case e3 => kcj_all)))
theorem due_LSL (w : World) (mean : ExcName → Option Value) (mg mb : Str → Option Value) (news : List (Addr × Obj)) (x y : Int) (t tx ty : Tok) (hx0 : 0 ≤ x) (hx1 : x < 4294967296) (hy0 : 0 ≤ y) (hy1 : y < 4294967296) :
    Con w mean mg mb 135 4 [.str (Str.ofString "LSL") t, .int x tx, .int y ty] news (fun h₀ L m s Q => RetS h₀ L m news s Q (some (spLSL x y))) := by
  have hSx := Sg_bd hx0 hx1
  have hSy := Sg_bd hy0 hy1
  have hc0 : 0 ≤ y.fmod 32 := Int.fmod_nonneg_of_pos y (by decide)
  have hc1 : y.fmod 32 < 32 := Int.fmod_lt_of_pos y (by decide)
  unfold Con; k_fill; intro dp un gd cn cs a ccd cl outer A₀ base h₀ L m s Q E B F X N T hk hdp hun hret
  refine wpAny_call ?_
  k_dflt (refine' code_defC ?k1 ?k2 ?k3 ?k4 ?k5 ?kA ?kF ?kK ?k6 ?k7 ?k8 ?k9 ?kB ?kD ?_ ?c2 ?c3 ?c4; (case kA | kF => exact rfl); (case kK => assumption); (case k1 | k2 | k3 | k4 | k5 => k_asm); (case k6 | k7 => k_is); (case k8 => k_room); (case k9 => first | exact BindsTo.of_eq rfl | exact binds_K (by k_in) rfl (by k_is) rfl rfl rfl | fail "k_enter: no rule for these arguments"); (case kB => exact rfl); (case kD => decide +kernel); (case c2 | c3 | c4 => exact rfl); k_whole; intro g' L' h' tk' cells' FG' F' N' Y' B' X' T' l1; (try k_lt l1); k_cells Y'; (try simp only [List.cons_append, List.nil_append] at N'); (try dsimp only); (try k_lift B'); (try k_fold))
  k_steps
  all_goals (refine' endT (t6 := 0) (hret) ?e1 ?e2 ?e3 ?e4 ?e5 ?e6 ?e7 ?e8 ?e9; (case e1 => k_asm); (case e2 => assumption); (case e3 => k_mem); (case e4 => kcj_all); (case e5 => first | exact dec_ite | exact (if_pos (by assumption)).symm | exact (if_neg (by assumption)).symm); (case e6 => exact rfl); (case e7 => first | exact rfl | exact dec_ite | exact (if_pos (by assumption)).symm | exact (if_neg (by assumption)).symm); (case e8 => first | exact rfl | exact dec_and (by assumption) | exact (if_neg (fun h => absurd h.1 (by assumption))).symm | exact (if_pos (And.intro (by assumption) (by assumption))).symm | exact (if_neg (fun h => absurd h.1 (by assumption))).symm | exact (if_neg (fun h => absurd h.2 (by assumption))).symm); (case e9 => exact rfl))
theorem due_ASR (w : World) (mean : ExcName → Option Value) (mg mb : Str → Option Value) (news : List (Addr × Obj)) (x y : Int) (t tx ty : Tok) (hx0 : 0 ≤ x) (hx1 : x < 4294967296) (hy0 : 0 ≤ y) (hy1 : y < 4294967296) :
    Con w mean mg mb 135 4 [.str (Str.ofString "ASR") t, .int x tx, .int y ty] news (fun h₀ L m s Q => RetS h₀ L m news s Q (some (spASR x y))) := by
  have hSx := Sg_bd hx0 hx1
  have hSy := Sg_bd hy0 hy1
  have hc0 : 0 ≤ y.fmod 32 := Int.fmod_nonneg_of_pos y (by decide)
  have hc1 : y.fmod 32 < 32 := Int.fmod_lt_of_pos y (by decide)
  unfold Con; k_fill; intro dp un gd cn cs a ccd cl outer A₀ base h₀ L m s Q E B F X N T hk hdp hun hret
  refine wpAny_call ?_
  k_dflt (refine' code_defC ?k1 ?k2 ?k3 ?k4 ?k5 ?kA ?kF ?kK ?k6 ?k7 ?k8 ?k9 ?kB ?kD ?_ ?c2 ?c3 ?c4; (case kA | kF => exact rfl); (case kK => assumption); (case k1 | k2 | k3 | k4 | k5 => k_asm); (case k6 | k7 => k_is); (case k8 => k_room); (case k9 => first | exact BindsTo.of_eq rfl | exact binds_K (by k_in) rfl (by k_is) rfl rfl rfl | fail "k_enter: no rule for these arguments"); (case kB => exact rfl); (case kD => decide +kernel); (case c2 | c3 | c4 => exact rfl); k_whole; intro g' L' h' tk' cells' FG' F' N' Y' B' X' T' l1; (try k_lt l1); k_cells Y'; (try simp only [List.cons_append, List.nil_append] at N'); (try dsimp only); (try k_lift B'); (try k_fold))
  k_steps
  all_goals (refine' endT (t6 := 0) (hret) ?e1 ?e2 ?e3 ?e4 ?e5 ?e6 ?e7 ?e8 ?e9; (case e1 => k_asm); (case e2 => assumption); (case e3 => k_mem); (case e4 => kcj_all); (case e5 => first | exact dec_ite | exact (if_pos (by assumption)).symm | exact (if_neg (by assumption)).symm); (case e6 => exact rfl); (case e7 => first | exact rfl | exact dec_ite | exact (if_pos (by assumption)).symm | exact (if_neg (by assumption)).symm); (case e8 => first | exact rfl | exact dec_and (by assumption) | exact (if_neg (fun h => absurd h.1 (by assumption))).symm | exact (if_pos (And.intro (by assumption) (by assumption))).symm | exact (if_neg (fun h => absurd h.1 (by assumption))).symm | exact (if_neg (fun h => absurd h.2 (by assumption))).symm); (case e9 => exact rfl))
theorem due_ROR (w : World) (mean : ExcName → Option Value) (mg mb : Str → Option Value) (news : List (Addr × Obj)) (x y : Int) (t tx ty : Tok) (hx0 : 0 ≤ x) (hx1 : x < 4294967296) (hy0 : 0 ≤ y) (hy1 : y < 4294967296) :
    Con w mean mg mb 135 4 [.str (Str.ofString "ROR") t, .int x tx, .int y ty] news (fun h₀ L m s Q => RetS h₀ L m news s Q (some (spROR x y))) := by
  have hSx := Sg_bd hx0 hx1
  have hSy := Sg_bd hy0 hy1
  have hc0 : 0 ≤ y.fmod 32 := Int.fmod_nonneg_of_pos y (by decide)
  have hc1 : y.fmod 32 < 32 := Int.fmod_lt_of_pos y (by decide)
  unfold Con; k_fill; intro dp un gd cn cs a ccd cl outer A₀ base h₀ L m s Q E B F X N T hk hdp hun hret
  refine wpAny_call ?_
  k_dflt (refine' code_defC ?k1 ?k2 ?k3 ?k4 ?k5 ?kA ?kF ?kK ?k6 ?k7 ?k8 ?k9 ?kB ?kD ?_ ?c2 ?c3 ?c4; (case kA | kF => exact rfl); (case kK => assumption); (case k1 | k2 | k3 | k4 | k5 => k_asm); (case k6 | k7 => k_is); (case k8 => k_room); (case k9 => first | exact BindsTo.of_eq rfl | exact binds_K (by k_in) rfl (by k_is) rfl rfl rfl | fail "k_enter: no rule for these arguments"); (case kB => exact rfl); (case kD => decide +kernel); (case c2 | c3 | c4 => exact rfl); k_whole; intro g' L' h' tk' cells' FG' F' N' Y' B' X' T' l1; (try k_lt l1); k_cells Y'; (try simp only [List.cons_append, List.nil_append] at N'); (try dsimp only); (try k_lift B'); (try k_fold))
  k_steps
  all_goals (refine' endT (t6 := 0) (hret) ?e1 ?e2 ?e3 ?e4 ?e5 ?e6 ?e7 ?e8 ?e9; (case e1 => k_asm); (case e2 => assumption); (case e3 => k_mem); (case e4 => kcj_all); (case e5 => first | exact dec_ite | exact (if_pos (by assumption)).symm | exact (if_neg (by assumption)).symm); (case e6 => exact rfl); (case e7 => first | exact rfl | exact dec_ite | exact (if_pos (by assumption)).symm | exact (if_neg (by assumption)).symm); (case e8 => first | exact rfl | exact dec_and (by assumption) | exact (if_neg (fun h => absurd h.1 (by assumption))).symm | exact (if_pos (And.intro (by assumption) (by assumption))).symm | exact (if_neg (fun h => absurd h.1 (by assumption))).symm | exact (if_neg (fun h => absurd h.2 (by assumption))).symm); (case e9 => exact rfl))
local macro_rules | `(tactic| walk_at "eval ListComp") => `(tactic| (k_here; (k_dflt (refine' zc_all (f := fun a b => ([0,0,0,1] : List Int).getD (2 * a + b).toNat 0) ?F ?N ?hM ?hL ?m1 ?m2 ?xs ?ys ?mT ?mc ?mr ?z4 ?z2 ?z3 ?z0 ?z1 ?hv ?hT ?hc ?h1 ?h2 ?hcd ?ha ?hb ?hr ?hab ?hsz ?hh ?c1 ?c2 ?c3 ?c4 ?c5 ?c6 ?c7 ?n1 ?n2 ?n3 (fun ai9 bi9 ta9 tb9 C9 oC9 m9 h9 tk9 E9 ha9 hb9 hc9 hd9 hC9 hx9 hy9 F9 N9 => ?_) (fun D9 vs9 h9 tk9 F9 N9 I9 L9 => ?_); (case F | N => k_asm); (case hM | hL => assumption); (case m1 | m2 => k_mem); (case xs | ys | hcd => assumption); (case mT | mc => k_mem); (case hr => first | exact allLt_mem (by assumption) | exact allLt_mem (And.right (by assumption)) | exact allLt_mem (And.right (And.right (by assumption))) | exact allLt_mem (And.right (And.right (And.right (by assumption)))) | exact allLt_mem (And.right (And.right (And.right (And.right (by assumption)))))); (case mr => kcj_all); (case z4 | z2 | z3 | z0 | z1 => k_mem); (case hv => rfl); (case hT | hc | h1 | h2 => omega); (case ha | hb => exact bits_01 _); (case hab => rw [bits_len, bits_len]); (case hsz => rw [bits_len, sizeLine_eq]; decide); (case hh => rfl); (case c1 => with_unfolding_all rfl); (case c2 => decide); (case c3 => rfl); (case c4 => decide); (case c5 | c6 => rfl); (case c7 => decide); (case n1 | n2 => rfl); (case n3 => decide); all_goals (try k_fold)))))
theorem due_AND (w : World) (mean : ExcName → Option Value) (mg mb : Str → Option Value) (news : List (Addr × Obj)) (x y : Int) (t tx ty : Tok) (hx0 : 0 ≤ x) (hx1 : x < 4294967296) (hy0 : 0 ≤ y) (hy1 : y < 4294967296) :
    Con w mean mg mb 135 4 [.str (Str.ofString "AND") t, .int x tx, .int y ty] news (fun h₀ L m s Q => RetS h₀ L m news s Q (some (spAND x y))) := by
  have hSx := Sg_bd hx0 hx1
  have hSy := Sg_bd hy0 hy1
  have hc0 : 0 ≤ y.fmod 32 := Int.fmod_nonneg_of_pos y (by decide)
  have hc1 : y.fmod 32 < 32 := Int.fmod_lt_of_pos y (by decide)
  unfold Con; k_fill; intro dp un gd cn cs a ccd cl outer A₀ base h₀ L m s Q E B F X N T hk hdp hun hret
  refine wpAny_call ?_
  k_dflt (refine' code_defC ?k1 ?k2 ?k3 ?k4 ?k5 ?kA ?kF ?kK ?k6 ?k7 ?k8 ?k9 ?kB ?kD ?_ ?c2 ?c3 ?c4; (case kA | kF => exact rfl); (case kK => assumption); (case k1 | k2 | k3 | k4 | k5 => k_asm); (case k6 | k7 => k_is); (case k8 => k_room); (case k9 => first | exact BindsTo.of_eq rfl | exact binds_K (by k_in) rfl (by k_is) rfl rfl rfl | fail "k_enter: no rule for these arguments"); (case kB => exact rfl); (case kD => decide +kernel); (case c2 | c3 | c4 => exact rfl); k_whole; intro g' L' h' tk' cells' FG' F' N' Y' B' X' T' l1; (try k_lt l1); k_cells Y'; (try simp only [List.cons_append, List.nil_append] at N'); (try dsimp only); (try k_lift B'); (try k_fold))
  k_steps
  all_goals (refine' endT (t6 := 0) (hret) ?e1 ?e2 ?e3 ?e4 ?e5 ?e6 ?e7 ?e8 ?e9; (case e1 => k_asm); (case e2 => assumption); (case e3 => k_mem); (case e4 => kcj_all); (case e5 => first | exact dec_ite | exact (if_pos (by assumption)).symm | exact (if_neg (by assumption)).symm); (case e6 => exact rfl); (case e7 => first | exact rfl | exact dec_ite | exact (if_pos (by assumption)).symm | exact (if_neg (by assumption)).symm); (case e8 => first | exact rfl | exact dec_and (by assumption) | exact (if_neg (fun h => absurd h.1 (by assumption))).symm | exact (if_pos (And.intro (by assumption) (by assumption))).symm | exact (if_neg (fun h => absurd h.1 (by assumption))).symm | exact (if_neg (fun h => absurd h.2 (by assumption))).symm); (case e9 => exact rfl))
local macro_rules | `(tactic| walk_at "eval ListComp") => `(tactic| (k_here; (k_dflt (refine' zc_all (f := fun a b => ([0,0,1,0] : List Int).getD (2 * a + b).toNat 0) ?F ?N ?hM ?hL ?m1 ?m2 ?xs ?ys ?mT ?mc ?mr ?z4 ?z2 ?z3 ?z0 ?z1 ?hv ?hT ?hc ?h1 ?h2 ?hcd ?ha ?hb ?hr ?hab ?hsz ?hh ?c1 ?c2 ?c3 ?c4 ?c5 ?c6 ?c7 ?n1 ?n2 ?n3 (fun ai9 bi9 ta9 tb9 C9 oC9 m9 h9 tk9 E9 ha9 hb9 hc9 hd9 hC9 hx9 hy9 F9 N9 => ?_) (fun D9 vs9 h9 tk9 F9 N9 I9 L9 => ?_); (case F | N => k_asm); (case hM | hL => assumption); (case m1 | m2 => k_mem); (case xs | ys | hcd => assumption); (case mT | mc => k_mem); (case hr => first | exact allLt_mem (by assumption) | exact allLt_mem (And.right (by assumption)) | exact allLt_mem (And.right (And.right (by assumption))) | exact allLt_mem (And.right (And.right (And.right (by assumption)))) | exact allLt_mem (And.right (And.right (And.right (And.right (by assumption)))))); (case mr => kcj_all); (case z4 | z2 | z3 | z0 | z1 => k_mem); (case hv => rfl); (case hT | hc | h1 | h2 => omega); (case ha | hb => exact bits_01 _); (case hab => rw [bits_len, bits_len]); (case hsz => rw [bits_len, sizeLine_eq]; decide); (case hh => rfl); (case c1 => with_unfolding_all rfl); (case c2 => decide); (case c3 => rfl); (case c4 => decide); (case c5 | c6 => rfl); (case c7 => decide); (case n1 | n2 => rfl); (case n3 => decide); all_goals (try k_fold)))))
theorem due_ANN (w : World) (mean : ExcName → Option Value) (mg mb : Str → Option Value) (news : List (Addr × Obj)) (x y : Int) (t tx ty : Tok) (hx0 : 0 ≤ x) (hx1 : x < 4294967296) (hy0 : 0 ≤ y) (hy1 : y < 4294967296) :
    Con w mean mg mb 135 4 [.str (Str.ofString "ANN") t, .int x tx, .int y ty] news (fun h₀ L m s Q => RetS h₀ L m news s Q (some (spANN x y))) := by
  have hSx := Sg_bd hx0 hx1
  have hSy := Sg_bd hy0 hy1
  have hc0 : 0 ≤ y.fmod 32 := Int.fmod_nonneg_of_pos y (by decide)
  have hc1 : y.fmod 32 < 32 := Int.fmod_lt_of_pos y (by decide)
  unfold Con; k_fill; intro dp un gd cn cs a ccd cl outer A₀ base h₀ L m s Q E B F X N T hk hdp hun hret
  refine wpAny_call ?_
  k_dflt (refine' code_defC ?k1 ?k2 ?k3 ?k4 ?k5 ?kA ?kF ?kK ?k6 ?k7 ?k8 ?k9 ?kB ?kD ?_ ?c2 ?c3 ?c4; (case kA | kF => exact rfl); (case kK => assumption); (case k1 | k2 | k3 | k4 | k5 => k_asm); (case k6 | k7 => k_is); (case k8 => k_room); (case k9 => first | exact BindsTo.of_eq rfl | exact binds_K (by k_in) rfl (by k_is) rfl rfl rfl | fail "k_enter: no rule for these arguments"); (case kB => exact rfl); (case kD => decide +kernel); (case c2 | c3 | c4 => exact rfl); k_whole; intro g' L' h' tk' cells' FG' F' N' Y' B' X' T' l1; (try k_lt l1); k_cells Y'; (try simp only [List.cons_append, List.nil_append] at N'); (try dsimp only); (try k_lift B'); (try k_fold))
  k_steps
  all_goals (refine' endT (t6 := 0) (hret) ?e1 ?e2 ?e3 ?e4 ?e5 ?e6 ?e7 ?e8 ?e9; (case e1 => k_asm); (case e2 => assumption); (case e3 => k_mem); (case e4 => kcj_all); (case e5 => first | exact dec_ite | exact (if_pos (by assumption)).symm | exact (if_neg (by assumption)).symm); (case e6 => exact rfl); (case e7 => first | exact rfl | exact dec_ite | exact (if_pos (by assumption)).symm | exact (if_neg (by assumption)).symm); (case e8 => first | exact rfl | exact dec_and (by assumption) | exact (if_neg (fun h => absurd h.1 (by assumption))).symm | exact (if_pos (And.intro (by assumption) (by assumption))).symm | exact (if_neg (fun h => absurd h.1 (by assumption))).symm | exact (if_neg (fun h => absurd h.2 (by assumption))).symm); (case e9 => exact rfl))
local macro_rules | `(tactic| walk_at "eval ListComp") => `(tactic| (k_here; (k_dflt (refine' zc_all (f := fun a b => ([0,1,1,1] : List Int).getD (2 * a + b).toNat 0) ?F ?N ?hM ?hL ?m1 ?m2 ?xs ?ys ?mT ?mc ?mr ?z4 ?z2 ?z3 ?z0 ?z1 ?hv ?hT ?hc ?h1 ?h2 ?hcd ?ha ?hb ?hr ?hab ?hsz ?hh ?c1 ?c2 ?c3 ?c4 ?c5 ?c6 ?c7 ?n1 ?n2 ?n3 (fun ai9 bi9 ta9 tb9 C9 oC9 m9 h9 tk9 E9 ha9 hb9 hc9 hd9 hC9 hx9 hy9 F9 N9 => ?_) (fun D9 vs9 h9 tk9 F9 N9 I9 L9 => ?_); (case F | N => k_asm); (case hM | hL => assumption); (case m1 | m2 => k_mem); (case xs | ys | hcd => assumption); (case mT | mc => k_mem); (case hr => first | exact allLt_mem (by assumption) | exact allLt_mem (And.right (by assumption)) | exact allLt_mem (And.right (And.right (by assumption))) | exact allLt_mem (And.right (And.right (And.right (by assumption)))) | exact allLt_mem (And.right (And.right (And.right (And.right (by assumption)))))); (case mr => kcj_all); (case z4 | z2 | z3 | z0 | z1 => k_mem); (case hv => rfl); (case hT | hc | h1 | h2 => omega); (case ha | hb => exact bits_01 _); (case hab => rw [bits_len, bits_len]); (case hsz => rw [bits_len, sizeLine_eq]; decide); (case hh => rfl); (case c1 => with_unfolding_all rfl); (case c2 => decide); (case c3 => rfl); (case c4 => decide); (case c5 | c6 => rfl); (case c7 => decide); (case n1 | n2 => rfl); (case n3 => decide); all_goals (try k_fold)))))
theorem due_IOR (w : World) (mean : ExcName → Option Value) (mg mb : Str → Option Value) (news : List (Addr × Obj)) (x y : Int) (t tx ty : Tok) (hx0 : 0 ≤ x) (hx1 : x < 4294967296) (hy0 : 0 ≤ y) (hy1 : y < 4294967296) :
    Con w mean mg mb 135 4 [.str (Str.ofString "IOR") t, .int x tx, .int y ty] news (fun h₀ L m s Q => RetS h₀ L m news s Q (some (spIOR x y))) := by
  have hSx := Sg_bd hx0 hx1
  have hSy := Sg_bd hy0 hy1
  have hc0 : 0 ≤ y.fmod 32 := Int.fmod_nonneg_of_pos y (by decide)
  have hc1 : y.fmod 32 < 32 := Int.fmod_lt_of_pos y (by decide)
  unfold Con; k_fill; intro dp un gd cn cs a ccd cl outer A₀ base h₀ L m s Q E B F X N T hk hdp hun hret
  refine wpAny_call ?_
  k_dflt (refine' code_defC ?k1 ?k2 ?k3 ?k4 ?k5 ?kA ?kF ?kK ?k6 ?k7 ?k8 ?k9 ?kB ?kD ?_ ?c2 ?c3 ?c4; (case kA | kF => exact rfl); (case kK => assumption); (case k1 | k2 | k3 | k4 | k5 => k_asm); (case k6 | k7 => k_is); (case k8 => k_room); (case k9 => first | exact BindsTo.of_eq rfl | exact binds_K (by k_in) rfl (by k_is) rfl rfl rfl | fail "k_enter: no rule for these arguments"); (case kB => exact rfl); (case kD => decide +kernel); (case c2 | c3 | c4 => exact rfl); k_whole; intro g' L' h' tk' cells' FG' F' N' Y' B' X' T' l1; (try k_lt l1); k_cells Y'; (try simp only [List.cons_append, List.nil_append] at N'); (try dsimp only); (try k_lift B'); (try k_fold))
  k_steps
  all_goals (refine' endT (t6 := 0) (hret) ?e1 ?e2 ?e3 ?e4 ?e5 ?e6 ?e7 ?e8 ?e9; (case e1 => k_asm); (case e2 => assumption); (case e3 => k_mem); (case e4 => kcj_all); (case e5 => first | exact dec_ite | exact (if_pos (by assumption)).symm | exact (if_neg (by assumption)).symm); (case e6 => exact rfl); (case e7 => first | exact rfl | exact dec_ite | exact (if_pos (by assumption)).symm | exact (if_neg (by assumption)).symm); (case e8 => first | exact rfl | exact dec_and (by assumption) | exact (if_neg (fun h => absurd h.1 (by assumption))).symm | exact (if_pos (And.intro (by assumption) (by assumption))).symm | exact (if_neg (fun h => absurd h.1 (by assumption))).symm | exact (if_neg (fun h => absurd h.2 (by assumption))).symm); (case e9 => exact rfl))
local macro_rules | `(tactic| walk_at "eval ListComp") => `(tactic| (k_here; (k_dflt (refine' zc_all (f := fun a b => ([0,1,1,0] : List Int).getD (2 * a + b).toNat 0) ?F ?N ?hM ?hL ?m1 ?m2 ?xs ?ys ?mT ?mc ?mr ?z4 ?z2 ?z3 ?z0 ?z1 ?hv ?hT ?hc ?h1 ?h2 ?hcd ?ha ?hb ?hr ?hab ?hsz ?hh ?c1 ?c2 ?c3 ?c4 ?c5 ?c6 ?c7 ?n1 ?n2 ?n3 (fun ai9 bi9 ta9 tb9 C9 oC9 m9 h9 tk9 E9 ha9 hb9 hc9 hd9 hC9 hx9 hy9 F9 N9 => ?_) (fun D9 vs9 h9 tk9 F9 N9 I9 L9 => ?_); (case F | N => k_asm); (case hM | hL => assumption); (case m1 | m2 => k_mem); (case xs | ys | hcd => assumption); (case mT | mc => k_mem); (case hr => first | exact allLt_mem (by assumption) | exact allLt_mem (And.right (by assumption)) | exact allLt_mem (And.right (And.right (by assumption))) | exact allLt_mem (And.right (And.right (And.right (by assumption)))) | exact allLt_mem (And.right (And.right (And.right (And.right (by assumption)))))); (case mr => kcj_all); (case z4 | z2 | z3 | z0 | z1 => k_mem); (case hv => rfl); (case hT | hc | h1 | h2 => omega); (case ha | hb => exact bits_01 _); (case hab => rw [bits_len, bits_len]); (case hsz => rw [bits_len, sizeLine_eq]; decide); (case hh => rfl); (case c1 => with_unfolding_all rfl); (case c2 => decide); (case c3 => rfl); (case c4 => decide); (case c5 | c6 => rfl); (case c7 => decide); (case n1 | n2 => rfl); (case n3 => decide); all_goals (try k_fold)))))
theorem due_XOR (w : World) (mean : ExcName → Option Value) (mg mb : Str → Option Value) (news : List (Addr × Obj)) (x y : Int) (t tx ty : Tok) (hx0 : 0 ≤ x) (hx1 : x < 4294967296) (hy0 : 0 ≤ y) (hy1 : y < 4294967296) :
    Con w mean mg mb 135 4 [.str (Str.ofString "XOR") t, .int x tx, .int y ty] news (fun h₀ L m s Q => RetS h₀ L m news s Q (some (spXOR x y))) := by
  have hSx := Sg_bd hx0 hx1
  have hSy := Sg_bd hy0 hy1
  have hc0 : 0 ≤ y.fmod 32 := Int.fmod_nonneg_of_pos y (by decide)
  have hc1 : y.fmod 32 < 32 := Int.fmod_lt_of_pos y (by decide)
  unfold Con; k_fill; intro dp un gd cn cs a ccd cl outer A₀ base h₀ L m s Q E B F X N T hk hdp hun hret
  refine wpAny_call ?_
  k_dflt (refine' code_defC ?k1 ?k2 ?k3 ?k4 ?k5 ?kA ?kF ?kK ?k6 ?k7 ?k8 ?k9 ?kB ?kD ?_ ?c2 ?c3 ?c4; (case kA | kF => exact rfl); (case kK => assumption); (case k1 | k2 | k3 | k4 | k5 => k_asm); (case k6 | k7 => k_is); (case k8 => k_room); (case k9 => first | exact BindsTo.of_eq rfl | exact binds_K (by k_in) rfl (by k_is) rfl rfl rfl | fail "k_enter: no rule for these arguments"); (case kB => exact rfl); (case kD => decide +kernel); (case c2 | c3 | c4 => exact rfl); k_whole; intro g' L' h' tk' cells' FG' F' N' Y' B' X' T' l1; (try k_lt l1); k_cells Y'; (try simp only [List.cons_append, List.nil_append] at N'); (try dsimp only); (try k_lift B'); (try k_fold))
  k_steps
  all_goals (refine' endT (t6 := 0) (hret) ?e1 ?e2 ?e3 ?e4 ?e5 ?e6 ?e7 ?e8 ?e9; (case e1 => k_asm); (case e2 => assumption); (case e3 => k_mem); (case e4 => kcj_all); (case e5 => first | exact dec_ite | exact (if_pos (by assumption)).symm | exact (if_neg (by assumption)).symm); (case e6 => exact rfl); (case e7 => first | exact rfl | exact dec_ite | exact (if_pos (by assumption)).symm | exact (if_neg (by assumption)).symm); (case e8 => first | exact rfl | exact dec_and (by assumption) | exact (if_neg (fun h => absurd h.1 (by assumption))).symm | exact (if_pos (And.intro (by assumption) (by assumption))).symm | exact (if_neg (fun h => absurd h.1 (by assumption))).symm | exact (if_neg (fun h => absurd h.2 (by assumption))).symm); (case e9 => exact rfl))
end Mine
end
section
open PySem PySem.W PyProof.Rows
namespace Mine
local macro_rules | `(tactic| walk_at "eval IfExp") => `(tactic| (k_here; (with_reducible refine ifexp_i ?_)))
local macro_rules | `(tactic| k_room) => `(tactic| ktr_room)
local macro_rules | `(tactic| walk_at "binaryOp Mult int int") => `(tactic| (with_reducible refine mul_int ?_ (fit_b' (by omega) (by omega))))
local macro_rules | `(tactic| walk_at "call builtin:divmod") => `(tactic| (k_here; (with_reducible show wpAny _ _ (call _ [Value.int _ _, Value.int _ _]) _ _ _); k_dflt (refine divmod_N (by k_asm) (by k_asm) (by omega) ?_ (Or.inl (PyProof.noPylong_of_log2 (fd_log' (by omega))))); intro h9 F9 N9; (try dsimp only); (try k_fold)))
local macro_rules | `(tactic| walk_at "call ref") => `(tactic| (k_here; (with_reducible show wpAny _ _ (call (Value.ref 21) [Value.int _ _]) _ _ _); k_dflt (refine' con_to_signed _ _ _ _ _ _ _ ?i1 ?i2 _ _ _ _ _ _ _ _ _ _ _ _ _ _ _ _ _ ?k1 ?k2 ?k3 ?k4 ?k5 ?kK ?kd ?ku ?_; (case i1 => first | assumption | exact and_lo _); (case i2 => first | assumption | exact and_hi _); (case k1 | k2 | k3 | k4 | k5 => k_asm); (case kK => first | exact rfl | assumption); (case kd => ktr_room); (case ku => ktr_units); (intro t9 h9 tk9 F9 N9; (try dsimp only); (try k_fold)))))
theorem op_MOV (w : World) (mean : ExcName → Option Value) (mg mb : Str → Option Value) (news : List (Addr × Obj)) (x y : Int) (t tx ty : Tok) (hx0 : 0 ≤ x) (hx1 : x < 4294967296) (hy0 : 0 ≤ y) (hy1 : y < 4294967296) :
    Con w mean mg mb 92 4 [.str (Str.ofString "MOV") t, .int x tx, .int y ty] news (fun h₀ L m s Q => RetS h₀ L m news s Q (some (spMOV x y))) := by
  have hSx := Sg_bd hx0 hx1
  have hSy := Sg_bd hy0 hy1
  have hc0 : 0 ≤ Builtin.bitAnd y 31 := (bitAnd_range y (by decide)).1
  have hc1 : Builtin.bitAnd y 31 ≤ 31 := (bitAnd_range y (by decide)).2
  unfold Con; k_fill; intro dp un gd cn cs a ccd cl outer A₀ base h₀ L m s Q E B F X N T hk hdp hun hret
  refine wpAny_call ?_
  k_dflt cell_enter
  k_steps
  all_goals (refine' endT (t6 := 0) (hret) ?e1 ?e2 ?e3 ?e4 ?e5 ?e6 ?e7 ?e8 ?e9; (case e1 => k_asm); (case e2 => assumption); (case e3 => k_mem); (case e4 => kcj_all); (case e5 => first | exact dec_ite | exact (if_pos (by assumption)).symm | exact (if_neg (by assumption)).symm); (case e6 => exact er_MOV hx0 hx1 hy0 hy1); (case e7 | e8 | e9 => exact rfl))
theorem op_ADD (w : World) (mean : ExcName → Option Value) (mg mb : Str → Option Value) (news : List (Addr × Obj)) (x y : Int) (t tx ty : Tok) (hx0 : 0 ≤ x) (hx1 : x < 4294967296) (hy0 : 0 ≤ y) (hy1 : y < 4294967296) :
    Con w mean mg mb 92 4 [.str (Str.ofString "ADD") t, .int x tx, .int y ty] news (fun h₀ L m s Q => RetS h₀ L m news s Q (some (spADD x y))) := by
  have hSx := Sg_bd hx0 hx1
  have hSy := Sg_bd hy0 hy1
  have hc0 : 0 ≤ Builtin.bitAnd y 31 := (bitAnd_range y (by decide)).1
  have hc1 : Builtin.bitAnd y 31 ≤ 31 := (bitAnd_range y (by decide)).2
  unfold Con; k_fill; intro dp un gd cn cs a ccd cl outer A₀ base h₀ L m s Q E B F X N T hk hdp hun hret
  refine wpAny_call ?_
  k_dflt cell_enter
  k_steps
  all_goals (refine' endT (t6 := 0) (hret) ?e1 ?e2 ?e3 ?e4 ?e5 ?e6 ?e7 ?e8 ?e9; (case e1 => k_asm); (case e2 => assumption); (case e3 => k_mem); (case e4 => kcj_all); (case e5 => first | exact dec_ite | exact (if_pos (by assumption)).symm | exact (if_neg (by assumption)).symm); (case e6 => exact er_ADD hx0 hx1 hy0 hy1); (case e7 => exact ec_ADD hx0 hx1 hy0 hy1); (case e8 => exact ev_ADD hx0 hx1 hy0 hy1); (case e9 => exact rfl))
theorem op_SUB (w : World) (mean : ExcName → Option Value) (mg mb : Str → Option Value) (news : List (Addr × Obj)) (x y : Int) (t tx ty : Tok) (hx0 : 0 ≤ x) (hx1 : x < 4294967296) (hy0 : 0 ≤ y) (hy1 : y < 4294967296) :
    Con w mean mg mb 92 4 [.str (Str.ofString "SUB") t, .int x tx, .int y ty] news (fun h₀ L m s Q => RetS h₀ L m news s Q (some (spSUB x y))) := by
  have hSx := Sg_bd hx0 hx1
  have hSy := Sg_bd hy0 hy1
  have hc0 : 0 ≤ Builtin.bitAnd y 31 := (bitAnd_range y (by decide)).1
  have hc1 : Builtin.bitAnd y 31 ≤ 31 := (bitAnd_range y (by decide)).2
  unfold Con; k_fill; intro dp un gd cn cs a ccd cl outer A₀ base h₀ L m s Q E B F X N T hk hdp hun hret
  refine wpAny_call ?_
  k_dflt cell_enter
  k_steps
  all_goals (refine' endT (t6 := 0) (hret) ?e1 ?e2 ?e3 ?e4 ?e5 ?e6 ?e7 ?e8 ?e9; (case e1 => k_asm); (case e2 => assumption); (case e3 => k_mem); (case e4 => kcj_all); (case e5 => first | exact dec_ite | exact (if_pos (by assumption)).symm | exact (if_neg (by assumption)).symm); (case e6 => exact er_SUB hx0 hx1 hy0 hy1); (case e7 => first | exact dec_ite | exact (if_pos (by assumption)).symm | exact (if_neg (by assumption)).symm); (case e8 => exact ev_SUB hx0 hx1 hy0 hy1); (case e9 => exact rfl))
theorem op_MUL (w : World) (mean : ExcName → Option Value) (mg mb : Str → Option Value) (news : List (Addr × Obj)) (x y : Int) (t tx ty : Tok) (hx0 : 0 ≤ x) (hx1 : x < 4294967296) (hy0 : 0 ≤ y) (hy1 : y < 4294967296) :
    Con w mean mg mb 92 4 [.str (Str.ofString "MUL") t, .int x tx, .int y ty] news (fun h₀ L m s Q => RetS h₀ L m news s Q (some (spMUL x y))) := by
  have hSx := Sg_bd hx0 hx1
  have hSy := Sg_bd hy0 hy1
  have hc0 : 0 ≤ Builtin.bitAnd y 31 := (bitAnd_range y (by decide)).1
  have hc1 : Builtin.bitAnd y 31 ≤ 31 := (bitAnd_range y (by decide)).2
  unfold Con; k_fill; intro dp un gd cn cs a ccd cl outer A₀ base h₀ L m s Q E B F X N T hk hdp hun hret
  refine wpAny_call ?_
  k_dflt cell_enter
  k_steps
  all_goals (refine' endT (hret) ?e1 ?e2 ?e3 ?e4 ?e5 ?e6 ?e7 ?e8 ?e9; (case e1 => k_asm); (case e2 => assumption); (case e3 => k_mem); (case e4 => kcj_all); (case e5 => first | exact dec_ite | exact (if_pos (by assumption)).symm | exact (if_neg (by assumption)).symm); (case e6 => exact er_MUL hx0 hx1 hy0 hy1); (case e7 => exact rfl); (case e8 => exact ev_MUL hx0 hx1 hy0 hy1); (case e9 => exact eh_MUL hx0 hx1 hy0 hy1))
theorem op_DIV (w : World) (mean : ExcName → Option Value) (mg mb : Str → Option Value) (news : List (Addr × Obj)) (x y : Int) (t tx ty : Tok) (hx0 : 0 ≤ x) (hx1 : x < 4294967296) (hy0 : 0 ≤ y) (hy1 : y < 4294967296) :
    Con w mean mg mb 92 4 [.str (Str.ofString "DIV") t, .int x tx, .int y ty] news (fun h₀ L m s Q => RetS h₀ L m news s Q (if Sg y ≤ 0 then none else some (spDIV x y))) := by
  have hSx := Sg_bd hx0 hx1
  have hSy := Sg_bd hy0 hy1
  have hc0 : 0 ≤ Builtin.bitAnd y 31 := (bitAnd_range y (by decide)).1
  have hc1 : Builtin.bitAnd y 31 ≤ 31 := (bitAnd_range y (by decide)).2
  unfold Con; k_fill; intro dp un gd cn cs a ccd cl outer A₀ base h₀ L m s Q E B F X N T hk hdp hun hret
  refine wpAny_call ?_
  k_dflt cell_enter
  k_steps
  all_goals (first | (refine' endT (show RetT _ _ _ _ _ _ _ _ _ _ from by have h9 := hret; rw [if_neg (by assumption)] at h9; exact h9) ?e1 ?e2 ?e3 ?e4 ?e5 ?e6 ?e7 ?e8 ?e9; (case e1 => k_asm); (case e2 => assumption); (case e3 => k_mem); (case e4 => kcj_all); (case e5 => first | exact dec_ite | exact (if_pos (by assumption)).symm | exact (if_neg (by assumption)).symm); (case e6 => exact er_DIV hx0 hx1 hy0 hy1); (case e7 | e8 => exact rfl); (case e9 => exact eh_DIV hx0 hx1 hy0 hy1)) | (refine' endN (show RetN _ _ _ _ _ _ from by have h9 := hret; rw [if_pos (by assumption)] at h9; exact h9) ?e1 ?e2 ?e3; (case e1 => k_asm); (case e2 => assumption); (case e3 => kcj_all)))
theorem op_LSL (w : World) (mean : ExcName → Option Value) (mg mb : Str → Option Value) (news : List (Addr × Obj)) (x y : Int) (t tx ty : Tok) (hx0 : 0 ≤ x) (hx1 : x < 4294967296) (hy0 : 0 ≤ y) (hy1 : y < 4294967296) :
    Con w mean mg mb 92 4 [.str (Str.ofString "LSL") t, .int x tx, .int y ty] news (fun h₀ L m s Q => RetS h₀ L m news s Q (some (spLSL x y))) := by
  have hSx := Sg_bd hx0 hx1
  have hSy := Sg_bd hy0 hy1
  have hc0 : 0 ≤ Builtin.bitAnd y 31 := (bitAnd_range y (by decide)).1
  have hc1 : Builtin.bitAnd y 31 ≤ 31 := (bitAnd_range y (by decide)).2
  unfold Con; k_fill; intro dp un gd cn cs a ccd cl outer A₀ base h₀ L m s Q E B F X N T hk hdp hun hret
  refine wpAny_call ?_
  k_dflt cell_enter
  k_steps
  all_goals (refine' endT (t6 := 0) (hret) ?e1 ?e2 ?e3 ?e4 ?e5 ?e6 ?e7 ?e8 ?e9; (case e1 => k_asm); (case e2 => assumption); (case e3 => k_mem); (case e4 => kcj_all); (case e5 => first | exact dec_ite | exact (if_pos (by assumption)).symm | exact (if_neg (by assumption)).symm); (case e6 => exact er_LSL hx0 hx1 hy0 hy1); (case e7 | e8 | e9 => exact rfl))
theorem op_ASR (w : World) (mean : ExcName → Option Value) (mg mb : Str → Option Value) (news : List (Addr × Obj)) (x y : Int) (t tx ty : Tok) (hx0 : 0 ≤ x) (hx1 : x < 4294967296) (hy0 : 0 ≤ y) (hy1 : y < 4294967296) :
    Con w mean mg mb 92 4 [.str (Str.ofString "ASR") t, .int x tx, .int y ty] news (fun h₀ L m s Q => RetS h₀ L m news s Q (some (spASR x y))) := by
  have hSx := Sg_bd hx0 hx1
  have hSy := Sg_bd hy0 hy1
  have hc0 : 0 ≤ Builtin.bitAnd y 31 := (bitAnd_range y (by decide)).1
  have hc1 : Builtin.bitAnd y 31 ≤ 31 := (bitAnd_range y (by decide)).2
  unfold Con; k_fill; intro dp un gd cn cs a ccd cl outer A₀ base h₀ L m s Q E B F X N T hk hdp hun hret
  refine wpAny_call ?_
  k_dflt cell_enter
  k_steps
  all_goals (refine' endT (t6 := 0) (hret) ?e1 ?e2 ?e3 ?e4 ?e5 ?e6 ?e7 ?e8 ?e9; (case e1 => k_asm); (case e2 => assumption); (case e3 => k_mem); (case e4 => kcj_all); (case e5 => first | exact dec_ite | exact (if_pos (by assumption)).symm | exact (if_neg (by assumption)).symm); (case e6 => exact er_ASR hx0 hx1 hy0 hy1); (case e7 | e8 | e9 => exact rfl))
theorem op_ROR (w : World) (mean : ExcName → Option Value) (mg mb : Str → Option Value) (news : List (Addr × Obj)) (x y : Int) (t tx ty : Tok) (hx0 : 0 ≤ x) (hx1 : x < 4294967296) (hy0 : 0 ≤ y) (hy1 : y < 4294967296) :
    Con w mean mg mb 92 4 [.str (Str.ofString "ROR") t, .int x tx, .int y ty] news (fun h₀ L m s Q => RetS h₀ L m news s Q (some (spROR x y))) := by
  have hSx := Sg_bd hx0 hx1
  have hSy := Sg_bd hy0 hy1
  have hc0 : 0 ≤ Builtin.bitAnd y 31 := (bitAnd_range y (by decide)).1
  have hc1 : Builtin.bitAnd y 31 ≤ 31 := (bitAnd_range y (by decide)).2
  unfold Con; k_fill; intro dp un gd cn cs a ccd cl outer A₀ base h₀ L m s Q E B F X N T hk hdp hun hret
  refine wpAny_call ?_
  k_dflt cell_enter
  k_steps
  all_goals (refine' endT (t6 := 0) (hret) ?e1 ?e2 ?e3 ?e4 ?e5 ?e6 ?e7 ?e8 ?e9; (case e1 => k_asm); (case e2 => assumption); (case e3 => k_mem); (case e4 => kcj_all); (case e5 => first | exact dec_ite | exact (if_pos (by assumption)).symm | exact (if_neg (by assumption)).symm); (case e6 => exact er_ROR hx0 hx1 hy0 hy1); (case e7 | e8 | e9 => exact rfl))
theorem op_AND (w : World) (mean : ExcName → Option Value) (mg mb : Str → Option Value) (news : List (Addr × Obj)) (x y : Int) (t tx ty : Tok) (hx0 : 0 ≤ x) (hx1 : x < 4294967296) (hy0 : 0 ≤ y) (hy1 : y < 4294967296) :
    Con w mean mg mb 92 4 [.str (Str.ofString "AND") t, .int x tx, .int y ty] news (fun h₀ L m s Q => RetS h₀ L m news s Q (some (spAND x y))) := by
  have hSx := Sg_bd hx0 hx1
  have hSy := Sg_bd hy0 hy1
  have hc0 : 0 ≤ Builtin.bitAnd y 31 := (bitAnd_range y (by decide)).1
  have hc1 : Builtin.bitAnd y 31 ≤ 31 := (bitAnd_range y (by decide)).2
  unfold Con; k_fill; intro dp un gd cn cs a ccd cl outer A₀ base h₀ L m s Q E B F X N T hk hdp hun hret
  refine wpAny_call ?_
  k_dflt cell_enter
  k_steps
  all_goals (refine' endT (t6 := 0) (hret) ?e1 ?e2 ?e3 ?e4 ?e5 ?e6 ?e7 ?e8 ?e9; (case e1 => k_asm); (case e2 => assumption); (case e3 => k_mem); (case e4 => kcj_all); (case e5 => first | exact dec_ite | exact (if_pos (by assumption)).symm | exact (if_neg (by assumption)).symm); (case e6 => exact er_AND hx0 hx1 hy0 hy1); (case e7 | e8 | e9 => exact rfl))
theorem op_ANN (w : World) (mean : ExcName → Option Value) (mg mb : Str → Option Value) (news : List (Addr × Obj)) (x y : Int) (t tx ty : Tok) (hx0 : 0 ≤ x) (hx1 : x < 4294967296) (hy0 : 0 ≤ y) (hy1 : y < 4294967296) :
    Con w mean mg mb 92 4 [.str (Str.ofString "ANN") t, .int x tx, .int y ty] news (fun h₀ L m s Q => RetS h₀ L m news s Q (some (spANN x y))) := by
  have hSx := Sg_bd hx0 hx1
  have hSy := Sg_bd hy0 hy1
  have hc0 : 0 ≤ Builtin.bitAnd y 31 := (bitAnd_range y (by decide)).1
  have hc1 : Builtin.bitAnd y 31 ≤ 31 := (bitAnd_range y (by decide)).2
  unfold Con; k_fill; intro dp un gd cn cs a ccd cl outer A₀ base h₀ L m s Q E B F X N T hk hdp hun hret
  refine wpAny_call ?_
  k_dflt cell_enter
  k_steps
  all_goals (refine' endT (t6 := 0) (hret) ?e1 ?e2 ?e3 ?e4 ?e5 ?e6 ?e7 ?e8 ?e9; (case e1 => k_asm); (case e2 => assumption); (case e3 => k_mem); (case e4 => kcj_all); (case e5 => first | exact dec_ite | exact (if_pos (by assumption)).symm | exact (if_neg (by assumption)).symm); (case e6 => exact er_ANN hx0 hx1 hy0 hy1); (case e7 | e8 | e9 => exact rfl))
theorem op_IOR (w : World) (mean : ExcName → Option Value) (mg mb : Str → Option Value) (news : List (Addr × Obj)) (x y : Int) (t tx ty : Tok) (hx0 : 0 ≤ x) (hx1 : x < 4294967296) (hy0 : 0 ≤ y) (hy1 : y < 4294967296) :
    Con w mean mg mb 92 4 [.str (Str.ofString "IOR") t, .int x tx, .int y ty] news (fun h₀ L m s Q => RetS h₀ L m news s Q (some (spIOR x y))) := by
  have hSx := Sg_bd hx0 hx1
  have hSy := Sg_bd hy0 hy1
  have hc0 : 0 ≤ Builtin.bitAnd y 31 := (bitAnd_range y (by decide)).1
  have hc1 : Builtin.bitAnd y 31 ≤ 31 := (bitAnd_range y (by decide)).2
  unfold Con; k_fill; intro dp un gd cn cs a ccd cl outer A₀ base h₀ L m s Q E B F X N T hk hdp hun hret
  refine wpAny_call ?_
  k_dflt cell_enter
  k_steps
  all_goals (refine' endT (t6 := 0) (hret) ?e1 ?e2 ?e3 ?e4 ?e5 ?e6 ?e7 ?e8 ?e9; (case e1 => k_asm); (case e2 => assumption); (case e3 => k_mem); (case e4 => kcj_all); (case e5 => first | exact dec_ite | exact (if_pos (by assumption)).symm | exact (if_neg (by assumption)).symm); (case e6 => exact er_IOR hx0 hx1 hy0 hy1); (case e7 | e8 | e9 => exact rfl))
theorem op_XOR (w : World) (mean : ExcName → Option Value) (mg mb : Str → Option Value) (news : List (Addr × Obj)) (x y : Int) (t tx ty : Tok) (hx0 : 0 ≤ x) (hx1 : x < 4294967296) (hy0 : 0 ≤ y) (hy1 : y < 4294967296) :
    Con w mean mg mb 92 4 [.str (Str.ofString "XOR") t, .int x tx, .int y ty] news (fun h₀ L m s Q => RetS h₀ L m news s Q (some (spXOR x y))) := by
  have hSx := Sg_bd hx0 hx1
  have hSy := Sg_bd hy0 hy1
  have hc0 : 0 ≤ Builtin.bitAnd y 31 := (bitAnd_range y (by decide)).1
  have hc1 : Builtin.bitAnd y 31 ≤ 31 := (bitAnd_range y (by decide)).2
  unfold Con; k_fill; intro dp un gd cn cs a ccd cl outer A₀ base h₀ L m s Q E B F X N T hk hdp hun hret
  refine wpAny_call ?_
  k_dflt cell_enter
  k_steps
  all_goals (refine' endT (t6 := 0) (hret) ?e1 ?e2 ?e3 ?e4 ?e5 ?e6 ?e7 ?e8 ?e9; (case e1 => k_asm); (case e2 => assumption); (case e3 => k_mem); (case e4 => kcj_all); (case e5 => first | exact dec_ite | exact (if_pos (by assumption)).symm | exact (if_neg (by assumption)).symm); (case e6 => exact er_XOR hx0 hx1 hy0 hy1); (case e7 | e8 | e9 => exact rfl))
end Mine
end
section
open PySem PySem.W PyProof.Rows
namespace Mine
def RowOK (vs : List Value) : Prop := vs.length ≤ 160 ∧ ∃ ns, IntsAre vs ns ∧ ∀ n ∈ ns, (0 : Int) ≤ n ∧ n < 1024
theorem row_cases {vs : List Value} (h : RowOK vs) : vs = [] ∨ ∃ us ms v t, vs = us ++ [Value.int v t] ∧ RowOK us ∧ (0 : Int) ≤ v ∧ v < 1024 ∧ IntsAre (us ++ [Value.int v t]) (ms ++ [v]) := by
  obtain ⟨hl, ns, hI, hb⟩ := h
  rcases List.eq_nil_or_concat vs with e | ⟨us, z, e⟩
  · exact .inl e
  · right
    rw [List.concat_eq_append] at e
    subst e
    have hlen : (us ++ [z]).length = us.length + 1 := by simp
    obtain ⟨v, t, e, hv⟩ := hI.at us.length z (by simp)
    subst e
    have h1 : IntsAre us (ns.take us.length) := by
      have := hI.take us.length
      rwa [List.take_left' rfl] at this
    have h2 : ns = ns.take us.length ++ [v] := by
      have hn := hI.length
      have : ns.drop us.length = [v] := by
        rw [List.drop_eq_getElem_cons (by omega)]
        rw [List.getElem?_eq_getElem (by omega)] at hv
        rw [Option.some.inj hv, List.drop_eq_nil_of_le (by omega)]
      rw [← this, List.take_append_drop]
    refine ⟨us, ns.take us.length, v, t, rfl, ⟨by omega, _, h1, fun n hn => hb n (List.mem_of_mem_take hn)⟩, (hb v (List.mem_of_getElem? hv)).1, (hb v (List.mem_of_getElem? hv)).2, ?_⟩
    rw [← h2]
    exact hI
abbrev RetX (h₀ : Heap) (L : Addr) (m : Str → Option Value) (l : Addr) (news : List (Addr × Obj)) (s : Shared) (Q : Value → Shared → Prop) (P : Int → Prop) : Prop :=
  ∀ (v : Int) (t : Tok) (vs : List Value) (k : Nat) (h' : Heap) (tk' : Nat), P v → RowOK vs → Fr h₀ L h' m → News h₀ L h' ((l, W.listOf vs.toArray k) :: news) → Q (.int v t) { s with heap := h', toks := tk' }
theorem endX {h₀ h' : Heap} {L l : Addr} {m : Str → Option Value} {news all : List (Addr × Obj)} {s : Shared} {Q : Value → Shared → Prop} {P : Int → Prop} {v : Int} {t : Tok} {vs : List Value} {k : Nat} {tk' : Nat}
    (hret : RetX h₀ L m l news s Q P) (hP : P v) (hr : RowOK vs) (F : Fr h₀ L h' m) (N : News h₀ L h' all) (hm : (l, W.listOf vs.toArray k) ∈ all) (hs : ∀ p ∈ news, p ∈ all) : Q (.int v t) { s with heap := h', toks := tk' } := by
  refine hret v t vs k h' tk' hP hr F fun p hp => ?_
  rcases List.mem_cons.mp hp with rfl | hp
  · exact N _ hm
  · exact N _ (hs p hp)
theorem row_sz {us : List Value} {v : Value} (h : RowOK us) : ((us ++ [v]).toArray).toList.length ≤ sizeLine := by
  have := h.1
  rw [sizeLine_eq]
  simp
  omega
local macro_rules | `(tactic| k_room) => `(tactic| ktr_room)
local macro_rules | `(tactic| units_room) => `(tactic| ktr_units)
local macro_rules | `(tactic| k_all) => `(tactic| assumption)
local macro_rules | `(tactic| walk_at "call builtin:list.pop") => `(tactic| (k_here; (with_reducible show wpAny _ _ (call (Value.builtin _) [Value.ref _]) _ _ _); k_dflt (refine' kl_pop ?F ?N ?e ?U ?z ?_; (case F | N => k_asm); (case U => k_upd); (case e => exact kpa_last _ _); (case z => exact row_sz (by assumption))); (intro h9 F9 N9; (try dsimp only [List.nil_append, List.cons_append] at N9))))
theorem con_next (w : World) (mean : ExcName → Option Value) (mg mb : Str → Option Value) (news : List (Addr × Obj)) (l : Addr) (vs : List Value) (k : Nat) (hr : RowOK vs) (hoff : ∀ p ∈ news, p.1 ≠ l) :
    Con w mean mg mb 106 20 [.ref l] ((l, W.listOf vs.toArray k) :: news) (fun h₀ L m s Q => RetX h₀ L m l news s Q (fun v => 0 ≤ v ∧ v < 1024)) := by
  rcases row_cases hr with e | ⟨us, ms, v, t, e, hu, h0, h1, hI⟩
  · subst e
    have hI : IntsAre [] [] := .nil
    unfold Con; k_fill; intro dp un gd cn cs a ccd cl outer A₀ base h₀ L m s Q E B F X N T hk hdp hun hret
    refine wpAny_call ?_
    k_dflt cell_enter
    k_steps
    all_goals (refine' endX hret ?e1 ?e2 ?e3 ?e4 ?e5 ?e6; (case e3 => k_asm); (case e4 => assumption); (case e5 => k_mem); (case e6 => kcj_all); (case e1 => exact ⟨by decide, by decide⟩); (case e2 => assumption))
  · subst e
    unfold Con; k_fill; intro dp un gd cn cs a ccd cl outer A₀ base h₀ L m s Q E B F X N T hk hdp hun hret
    refine wpAny_call ?_
    k_dflt cell_enter
    k_steps
    all_goals first
      | (refine' endX hret ?e1 ?e2 ?e3 ?e4 ?e5 ?e6; (case e3 => k_asm); (case e4 => assumption); (case e5 => k_mem); (case e6 => kcj_all); (case e1 => exact ⟨h0, h1⟩); (case e2 => assumption); done)
      | (exfalso; simp at *; done)
end Mine
end
section
open PySem PySem.W PyProof.Rows
namespace Mine
theorem news_swap {h₀ h : Heap} {L : Addr} {a b : Addr × Obj} {r : List (Addr × Obj)} (N : News h₀ L h (a :: b :: r)) : News h₀ L h (b :: a :: r) := fun p hp => by
  rcases List.mem_cons.mp hp with rfl | hp
  · exact N _ (.tail _ (.head _))
  rcases List.mem_cons.mp hp with rfl | hp
  · exact N _ (.head _)
  · exact N _ (.tail _ (.tail _ hp))
local macro_rules | `(tactic| k_room) => `(tactic| ktr_room)
section
variable {prog : Program} {w : World} {A : Around} {E : Value → Shared → Prop} {s : Shared} {t u : Tok} {Q : Value → Shared → Prop}
theorem pow31 (h : Q (.int 2147483648 s.toks) { s with toks := s.toks + 1 }) : wpAny (model prog w) A (binaryOp .Pow (.int 2 t) (.int 31 u)) Q E s := pow_int_small (by decide) (by decide) (by decide) h
theorem pow32 (h : Q (.int 4294967296 s.toks) { s with toks := s.toks + 1 }) : wpAny (model prog w) A (binaryOp .Pow (.int 2 t) (.int 32 u)) Q E s := pow_int_small (by decide) (by decide) (by decide) h
theorem pow22 (h : Q (.int 4194304 s.toks) { s with toks := s.toks + 1 }) : wpAny (model prog w) A (binaryOp .Pow (.int 2 t) (.int 22 u)) Q E s := pow_int_small (by decide) (by decide) (by decide) h
theorem pow11 (h : Q (.int 2048 s.toks) { s with toks := s.toks + 1 }) : wpAny (model prog w) A (binaryOp .Pow (.int 2 t) (.int 11 u)) Q E s := pow_int_small (by decide) (by decide) (by decide) h
end
local macro_rules | `(tactic| walk_at "binaryOp Pow int int") => `(tactic| first | (with_reducible refine pow31 ?_) | (with_reducible refine pow32 ?_) | (with_reducible refine pow22 ?_) | (with_reducible refine pow11 ?_))
local macro_rules | `(tactic| units_room) => `(tactic| ktr_units)
local macro_rules | `(tactic| k_all) => `(tactic| assumption)
local macro_rules | `(tactic| walk_at "call ref") => `(tactic| (k_here; (with_reducible show wpAny _ _ (call (Value.ref 106) [Value.ref _]) _ _ _); k_dflt (refine' con_next _ _ _ _ _ _ _ _ ?r ?o _ _ _ _ _ _ _ _ _ _ _ _ _ _ _ _ _ ?k1 ?k2 ?k3 ?k4 ?k5 ?kK ?kd ?ku ?_; (case k1 | k2 | k3 => k_asm); (case k4 => first | k_asm | exact news_swap (by assumption)); (case r => assumption); (case o => k_all); (case k5 => k_asm); (case kK => first | exact rfl | assumption); (case kd => ktr_room); (case ku => ktr_units); (intro v9 t9 vs9 k9 h9 tk9 hP9 hR9 F9 N9; (try dsimp only); (try k_fold)))))
theorem wd_a (v : Int) : 0 ≤ v.fmod 40 ∧ v.fmod 40 < 4294967296 := by
  rw [Int.fmod_eq_emod_of_nonneg _ (by decide)]; omega
theorem wd_b (v : Int) : 0 ≤ 4294967296 - 1 - v.fmod 40 ∧ 4294967296 - 1 - v.fmod 40 < 4294967296 := by
  rw [Int.fmod_eq_emod_of_nonneg _ (by decide)]; omega
theorem wd_c (j : Nat) : 0 ≤ [0, 1, 2147483648 - 1, 2147483648, 2147483648 + 1, 4294967296 - 1, 65535, 65536].getD j (0 : Int) ∧ [0, 1, 2147483648 - 1, 2147483648, 2147483648 + 1, 4294967296 - 1, 65535, 65536].getD j (0 : Int) < 4294967296 := by
  have hl : ∀ x ∈ [0, 1, 2147483648 - 1, 2147483648, 2147483648 + 1, 4294967296 - 1, 65535, (65536 : Int)], 0 ≤ x ∧ x < 4294967296 := by decide
  rw [List.getD_eq_getElem?_getD]
  cases h : [0, 1, 2147483648 - 1, 2147483648, 2147483648 + 1, 4294967296 - 1, 65535, (65536 : Int)][j]? with
  | none => decide
  | some v => exact hl v (List.mem_of_getElem? h)
theorem wd_d (v : Int) : 0 ≤ v.fmod 4294967296 ∧ v.fmod 4294967296 < 4294967296 := by
  rw [Int.fmod_eq_emod_of_nonneg _ (by decide)]; omega
theorem con_word (w : World) (mean : ExcName → Option Value) (mg mb : Str → Option Value) (news : List (Addr × Obj)) (l : Addr) (vs : List Value) (k : Nat) (hr : RowOK vs) (hoff : ∀ p ∈ news, p.1 ≠ l) :
    Con w mean mg mb 113 24 [.ref l] ((l, W.listOf vs.toArray k) :: news) (fun h₀ L m s Q => RetX h₀ L m l news s Q (fun v => 0 ≤ v ∧ v < 4294967296)) := by
  unfold Con; k_fill; intro dp un gd cn cs a ccd cl outer A₀ base h₀ L m s Q E B F X N T hk hdp hun hret
  refine wpAny_call ?_
  k_dflt cell_enter
  k_steps
  all_goals (refine' endX hret ?e1 ?e2 ?e3 ?e4 ?e5 ?e6; (case e3 => k_asm); (case e4 => assumption); (case e5 => k_mem); (case e6 => kcj_all); (case e1 => first | exact wd_a _ | exact wd_b _ | exact wd_c _ | exact wd_d _); (case e2 => assumption))
end Mine
end
section
open PySem PySem.W PyProof.Rows
namespace Mine
local macro_rules | `(tactic| k_room) => `(tactic| ktr_room)
local macro_rules | `(tactic| units_room) => `(tactic| ktr_units)
theorem scr_sz {vs : List Value} {ns : List Int} (h : IntsAre vs ns) (hn : ns.length ≤ 63) : vs.toArray.size ≤ sizeLine := by
  rw [List.size_toArray, h.length, sizeLine_eq]; omega
local macro_rules | `(tactic| walk_at "subscriptTail Name Slice ref ref") => `(tactic| (k_here; (with_reducible show wpAny _ _ (subscriptTail _ (PySem.Expr.Slice none (some _) none _) (Value.ref _) (Value.ref _)) _ _ _); k_dflt (refine' kmk_slice_ints ?F ?N ?l ?p ?q ?i ?m ?c ?_ ?s ?t ?z; (case F | N => k_asm); (case l => kmk_list); (case p => exact IsPart.none); (case q => exact IsPart.int _ _); (case i => assumption); (case m => exact kmk_upto (by assumption) (by decide)); (case c => exact rfl); (case s => with_unfolding_all rfl); (case t => kmk_pure); (case z => first | exact scr_sz (by assumption) (by assumption) | exact row_sz3 (by assumption) (by assumption) (by assumption))); intro D' ws' h' F' N' l1 hI' hC' hL'; (try k_lt l1); (try k_sweep)))
theorem all_nil : ∀ v : Int, v ∈ ([] : List Int) → 0 ≤ v ∧ v < 1024 := fun v hv => by cases hv
theorem all_app {row : List Int} (h : ∀ v : Int, v ∈ row → 0 ≤ v ∧ v < 1024) (c : Int) : ∀ v : Int, v ∈ row ++ [c.fmod 1024] → 0 ≤ v ∧ v < 1024 := fun v hv => by
  rcases List.mem_append.mp hv with h' | h'
  · exact h v h'
  · rw [List.mem_singleton.mp h', Int.fmod_eq_emod_of_nonneg _ (by decide)]; omega
theorem fdiv_nn {c : Int} (h : 0 ≤ c) : 0 ≤ c.fdiv 1024 := by rw [Int.fdiv_eq_ediv_of_nonneg _ (by decide)]; omega
theorem st2 {row row₀ pre : List Int} {c n : Int} (h : row.length ≤ row₀.length + pre.length) : (row ++ [c]).length ≤ row₀.length + (pre ++ [n]).length := by
  simp only [List.length_append, List.length_cons, List.length_nil]; omega
theorem st3 {row row₀ pre : List Int} {n : Int} (h : row.length ≤ row₀.length + pre.length) : row.length ≤ row₀.length + (pre ++ [n]).length := by
  simp only [List.length_append, List.length_cons, List.length_nil]; omega
theorem st4 {row' row pre whole : List Int} {c n : Int} (h : row'.length ≤ (row ++ [c]).length + whole.length) (hw : whole.length ≤ 30) (h2 : row.length ≤ 31 * pre.length) : row'.length ≤ 31 * (pre ++ [n]).length := by
  simp only [List.length_append, List.length_cons, List.length_nil] at *; omega
theorem sz2 {row r0 : List Int} {c : Int} {p q : Nat} (h : row.length ≤ (r0 ++ [c]).length + p) (hp : p ≤ 30) (h2 : r0.length ≤ 31 * q) (hq : q ≤ 63) : row.length ≤ sizeLine := by
  rw [sizeLine_eq]; simp only [List.length_append, List.length_cons, List.length_nil] at h; omega
theorem row_sz3 {vs : List Value} {row ns : List Int} {k : Nat} (hI : IntsAre vs row) (h : row.length ≤ 31 * (List.take k ns).length) (hn : ns.length ≤ 63) : vs.toArray.size ≤ sizeLine := by
  rw [List.size_toArray, hI.length, sizeLine_eq]
  have : (List.take k ns).length ≤ ns.length := by rw [List.length_take]; omega
  omega
section
variable {prog : Program} {w : World} {A : Around} {E : Value → Shared → Prop} {s : Shared} {h₀ : Heap} {L : Addr} {m : Str → Option Value}
theorem my_append {D : Addr} {us : List Value} {row : List Int} {k : Nat} {n : Int} {t : Tok} {news news' : List (Addr × Obj)} {Q : Value → Shared → Prop} (F : Fr h₀ L s.heap m) (N : News h₀ L s.heap news)
    (hI : IntsAre us row) (U : Upd D (W.listOf us.toArray k) (W.listOf (us ++ [Value.int n t]).toArray (k + 1)) news news') (hz : row.length ≤ sizeLine)
    (h : ∀ h', Fr h₀ L h' m → News h₀ L h' news' → IntsAre (us ++ [Value.int n t]) (row ++ [n]) → Q .none { s with heap := h' }) :
    wpAny (model prog w) A (call (.builtin "list.append") [.ref D, .int n t]) Q E s := by
  obtain ⟨pre, post, rfl, rfl, a, b⟩ := U.split
  have z := N (D, W.listOf us.toArray k) (List.mem_append.mpr (.inr (.head _)))
  refine append_at (hsz := by rw [List.size_toArray, hI.length]; exact hz) z.1 fun h' hs hD => ?_
  refine h h' (F.change hs z.2.1 z.2.2) (news_set N a b hs ?_) (hI.append (.cons _ _ .nil))
  rw [hD, List.push_toArray]
end
local macro_rules | `(tactic| walk_at "call builtin:list.append") => `(tactic| (k_here; (with_reducible show wpAny _ _ (call (Value.builtin _) [Value.ref _, Value.int _ _]) _ _ _); k_dflt (refine' my_append ?F ?N ?I ?U ?z ?_; (case F | N => k_asm); (case U => k_upd); (case I => assumption); (case z => first | (rw [sizeLine_eq]; omega) | exact sz2 (by assumption) (by omega) (by assumption) (by omega))); (intro h9 F9 N9 I9; (try dsimp only [List.nil_append, List.cons_append] at N9))))
local macro_rules | `(tactic| walk_at "call builtin:list.reverse") => `(tactic| (k_here; (with_reducible show wpAny _ _ (call (Value.builtin _) [Value.ref _]) _ _ _); k_dflt (refine' reverse_head_ints ?F ?N ?a ?i ?_ ?z; (case F | N => k_asm); (case a => k_all); (case i => assumption); (case z => rw [sizeLine_eq]; omega)); (intro h9 F9 N9 I9)))
local macro_rules | `(tactic| walk_at "InvEndN") => `(tactic| k_dflt (kst_close))
theorem row_end {ws : List Value} {row : List Int} (hI : IntsAre ws (List.take 160 row).reverse) (h : ∀ v : Int, v ∈ row → 0 ≤ v ∧ v < 1024) : RowOK ws := by
  refine ⟨?_, _, hI, fun n hn => h n (List.mem_of_mem_take (List.mem_reverse.mp hn))⟩
  rw [hI.length, List.length_reverse, List.length_take]
  omega
abbrev RetR (h₀ : Heap) (L : Addr) (m : Str → Option Value) (s : Shared) (Q : Value → Shared → Prop) : Prop :=
  ∀ (q : Addr) (ws : List Value) (k : Nat) (h' : Heap) (tk' : Nat), RowOK ws → Fr h₀ L h' m → News h₀ L h' [(q, W.listOf ws.toArray k)] → Q (.ref q) { s with heap := h', toks := tk' }
theorem endR {h₀ h' : Heap} {L q : Addr} {m : Str → Option Value} {all : List (Addr × Obj)} {s : Shared} {Q : Value → Shared → Prop} {ws : List Value} {row : List Int} {k : Nat} {tk' : Nat}
    (hret : RetR h₀ L m s Q) (F : Fr h₀ L h' m) (N : News h₀ L h' all) (hm : (q, W.listOf ws.toArray k) ∈ all) (hI : IntsAre ws (List.take 160 row).reverse) (h : ∀ v : Int, v ∈ row → 0 ≤ v ∧ v < 1024) : Q (.ref q) { s with heap := h', toks := tk' } := by
  refine hret q ws k h' tk' (row_end hI h) F fun p hp => ?_
  rw [List.mem_singleton.mp hp]
  exact N _ hm
theorem con_row (w : World) (mean : ExcName → Option Value) (mg mb : Str → Option Value) (l : Addr) (vs : List Value) (ns : List Int) (hI : IntsAre vs ns) (hns : ns.length ≤ 63) 
    (dp un : Nat) (gd : Option (List Code)) (cn : Str) (cs : Scope) (a : Addr) (ccd : Value) (cl : List (Str × Addr)) (outer : List Env) (A₀ : Around) (base h₀ : Heap) (L : Addr) (m : Str → Option Value) (s : Shared) (Q E : Value → Shared → Prop)
    (B : Below A₀ base outer h₀) (F : Fr h₀ L s.heap m) (X : (hd.heap_39 w.params).In h₀) (N : News h₀ L s.heap [])
    (T : Top hd.view_39 (looseW hd.view_39 [Str.ofString "flagged"]) mean mg mb h₀) (hk : cs.kind = .function) (hdp : dp + 20 < recursionLimit) (hun : un + 160 < cLine)
    (hl : h₀.IsList l vs.toArray) (hret : RetR h₀ L m s Q) :
    wpAny (model PySem.Challenge.rw_pb0307_01.row.prog w) (ktrTop dp un gd cn cs L a ccd cl outer) (call (.ref 99) [.ref l]) Q E s := by
  (k_with "pyIter ref" => (k_of "cell" => k_state (fun pre row => row.length ≤ 31 * pre.length ∧ (∀ v ∈ row, 0 ≤ v ∧ v < 1024)) "row"))
  (k_with "pyIter ref" => (k_of "lap" => k_state_given ["row!"] (fun row₀ pre row figure => row.length ≤ row₀.length + pre.length ∧ (∀ v ∈ row, 0 ≤ v ∧ v < 1024) ∧ 0 ≤ figure) "row" "figure"))
  (k_with "state" => (first | exact And.intro (Nat.zero_le _) all_nil | exact And.intro (Nat.le_add_right _ _) (And.intro (all_app (by assumption) _) (fdiv_nn (by first | assumption | omega))) | exact And.intro (st2 (by assumption)) (And.intro (all_app (by assumption) _) (fdiv_nn (by first | assumption | omega))) | exact And.intro (st3 (by assumption)) (And.intro (by assumption) (by assumption)) | exact And.intro (st4 (by assumption) (by simp [rangeKs_length]) (by assumption)) (by assumption)))
  revert X; k_fill; intro X
  refine wpAny_call ?_
  k_dflt cell_enter
  rename Fr h₀ L _ m => FG9
  have hl9 := Heap.IsList.at hl (fun o e => FG9.keep l o e)
  k_steps
  all_goals (refine' endR hret ?e1 ?e2 ?e3 ?e4 ?e5; (case e1 => k_asm); (case e2 => assumption); (case e3 => k_mem); (case e4 | e5 => assumption))
end Mine
end
section
open PySem PySem.W PyProof.Rows
namespace Mine
section
variable {prog : Program} {w : World} {A : Around} {E : Value → Shared → Prop} {s : Shared} {env : Env} {h₀ : Heap} {x : Str} {body : List Stmt} {Q : Flow → Shared → Prop}
def NmEnd (h₀ : Heap) (L : Addr) (x : Str) (m₀ : Str → Option Value) (led : List (Addr × Obj)) (s s₂ : Shared) : Prop :=
  ∃ h' tk m', s₂ = { s with heap := h', toks := tk } ∧ Fr h₀ L h' m' ∧ News h₀ L h' led ∧ ∀ z, z ≠ x → m' z = m₀ z
def NmPost (h₀ : Heap) (L : Addr) (x : Str) (m₀ : Str → Option Value) (led : List (Addr × Obj)) (s : Shared) (Q : Flow → Shared → Prop) (f : Flow) (s₂ : Shared) : Prop :=
  match f with
  | .ret v => Q (.ret v) s₂
  | .brk => Q .next s₂
  | _ => NmEnd h₀ L x m₀ led s s₂
theorem names_loop {l : Addr} {vs : List Value} {nn : Nat} {m₀ : Str → Option Value} {rest : List (Addr × Obj)}
    (hh : A.handled = none) (F : Fr h₀ env.locals s.heap m₀) (N : News h₀ env.locals s.heap ((l, W.listOf vs.toArray nn) :: rest))
    (turn : ∀ (v : Value) (I : Addr) (oI : Obj) (h : Heap) (tk : Nat), v ∈ vs → Fr h₀ env.locals h (fun y => if y = x then some v else m₀ y) → News h₀ env.locals h ((I, oI) :: (l, W.listOf vs.toArray nn) :: rest) →
      wpAny (model prog w) A (execs body env) (NmPost h₀ env.locals x m₀ ((I, oI) :: (l, W.listOf vs.toArray nn) :: rest) { s with heap := h, toks := tk } Q) E { s with heap := h, toks := tk })
    (done : ∀ (val : Option Value) (h : Heap) (tk : Nat), Fr h₀ env.locals h (fun y => if y = x then val else m₀ y) → News h₀ env.locals h ((l, W.listOf vs.toArray nn) :: rest) → Q .next { s with heap := h, toks := tk }) :
    wpAny (model prog w) A (pyIter (.ref l)) (fun it s₂ => LoopAtV prog w A h₀ env x body Q E it s₂) E s := by
  have hol : s.heap.get? l = some (W.listOf vs.toArray nn) := (N _ (.head _)).1
  have hls : s.heap.IsList l vs.toArray := ⟨_, hol, rfl, nn, rfl⟩
  have hne : l ≠ s.heap.objs.size := Nat.ne_of_lt (Heap.lt_size hol)
  refine wpAny_pyIter_list hls ?_
  have Wk := Walks.list (prog := prog) (w := w) hh s.heap.objs.size l hne vs.toArray
  refine ⟨_, _, _, vs.toArray.size, _, _, m₀, (l, W.listOf vs.toArray nn) :: rest, (fun _ m nx => nx = (l, W.listOf vs.toArray nn) :: rest ∧ ∀ z, z ≠ x → m z = m₀ z), rfl, Wk, ?_, ?_, ?_, ⟨⟨_, Heap.get?_push_size _ rfl, rfl, rfl⟩, hls.at fun o e => Heap.get?_push_of_some _ e⟩, F.push _, (fun p hp => ⟨Heap.get?_push_of_some _ (N p hp).1, (N p hp).2⟩), ⟨rfl, fun _ _ => rfl⟩, ?_, ?_⟩
  · intro hm
    rcases List.mem_cons.mp hm with e | hm
    · exact absurd F.ns.lt (e ▸ Nat.lt_irrefl _)
    · exact (N _ (.head _)).2.1 ((List.mem_singleton.mp hm).symm)
  · intro b hb
    rw [List.mem_singleton.mp hb]
    exact next_is_new F
  · intro p hp hI
    exact absurd (Heap.lt_size (N p hp).1) ((List.mem_singleton.mp hI) ▸ Nat.lt_irrefl _)
  · rintro i v m₁ news₁ s₁ own ⟨hh', tk', rfl⟩ hin hP ⟨rfl, hJ⟩ hoff hown hget hfp hst F₁ N₁
    have hlo : hh'.get? l = some (W.listOf vs.toArray nn) := (N₁ _ (List.mem_append.mpr (.inr (.head _)))).1
    obtain ⟨oI, hI, _⟩ := hst.1
    have hmI : (s.heap.objs.size, oI) ∈ own := hfp _ (.head _) (next_is_new F) oI hI
    have hvm : v ∈ vs := by
      have : vs[i]? = some v := by simpa using hP
      exact List.mem_of_getElem? this
    have hfun : (fun y => if y = x then some v else m₁ y) = (fun y => if y = x then some v else m₀ y) := by
      funext y
      by_cases h : y = x
      · rw [if_pos h, if_pos h]
      · rw [if_neg h, if_neg h, hJ y h]
    rw [hfun] at F₁
    have N₂ : News h₀ env.locals hh' ((s.heap.objs.size, oI) :: (l, W.listOf vs.toArray nn) :: rest) := fun p hp => by
      rcases List.mem_cons.mp hp with rfl | hp
      · exact N₁ _ (List.mem_append.mpr (.inl hmI))
      · exact N₁ _ (List.mem_append.mpr (.inr hp))
    refine wpAny_mono (turn v s.heap.objs.size oI hh' tk' hvm F₁ N₂) (fun f s₂ p => ?_) fun _ _ e => e
    have fin : NmEnd h₀ env.locals x m₀ ((s.heap.objs.size, oI) :: (l, W.listOf vs.toArray nn) :: rest) { s with heap := hh', toks := tk' } s₂ →
        LoopStepU h₀ env.locals [s.heap.objs.size] own (fun m nx => nx = (l, W.listOf vs.toArray nn) :: rest ∧ ∀ z, z ≠ x → m z = m₀ z) { s with heap := hh', toks := tk' } .next s₂ := by
      rintro ⟨h', tk, m', e, F', N', hm⟩
      refine ⟨rfl, h', tk, m', (l, W.listOf vs.toArray nn) :: rest, e, F', fun p hp => ?_, hoff, rfl, hm⟩
      rcases List.mem_append.mp hp with h | h
      · have h2 : hh'.get? p.1 = some p.2 := hget p h
        rcases List.mem_cons.mp (hown p h) with h1 | h1
        · rw [h1, hI] at h2
          have h3 : p = (s.heap.objs.size, oI) := Prod.ext h1 (Option.some.inj h2).symm
          rw [h3]
          exact N' _ (.head _)
        · have h1 : p.1 = l := List.mem_singleton.mp h1
          rw [h1, hlo] at h2
          have h3 : p = (l, W.listOf vs.toArray nn) := Prod.ext h1 (Option.some.inj h2).symm
          rw [h3]
          exact N' _ (.tail _ (.head _))
      · exact N' _ (.tail _ h)
    cases f with
    | ret v => exact .ret p
    | brk => exact .brk p
    | next => exact .next (fin p)
    | cont => exact .cont (fin p)
  · rintro h' tk m' news' F' N' _ ⟨rfl, hJ⟩
    refine done (m' x) h' tk ?_ N'
    have : (fun y => if y = x then m' x else m₀ y) = m' := by
      funext y
      by_cases h : y = x
      · rw [if_pos h, h]
      · rw [if_neg h, hJ y h]
    rw [this]
    exact F'
end
end Mine
end
section
open PySem PySem.W PyProof.Rows
namespace Mine
/-- both readings of one operation keep to o -/
def Both (nm : Str) (x y : Int) (o : Option Sp) : Prop :=
  (∀ (w : World) (mean : ExcName → Option Value) (mg mb : Str → Option Value) (news : List (Addr × Obj)) (t tx ty : Tok), Con w mean mg mb 92 4 [.str nm t, .int x tx, .int y ty] news (fun h₀ L m s Q => RetS h₀ L m news s Q o)) ∧
  (∀ (w : World) (mean : ExcName → Option Value) (mg mb : Str → Option Value) (news : List (Addr × Obj)) (t tx ty : Tok), Con w mean mg mb 135 4 [.str nm t, .int x tx, .int y ty] news (fun h₀ L m s Q => RetS h₀ L m news s Q o))
open Classical in
noncomputable def specC (nm : Str) (x y : Int) : Option Sp := if h : ∃ o, Both nm x y o then h.choose else none
def opNames : List Str := [Str.ofString "MOV", Str.ofString "LSL", Str.ofString "ASR", Str.ofString "ROR", Str.ofString "AND", Str.ofString "ANN", Str.ofString "IOR", Str.ofString "XOR", Str.ofString "ADD", Str.ofString "SUB", Str.ofString "MUL", Str.ofString "DIV"]
theorem both_ex {nm : Str} (hn : nm ∈ opNames) {x y : Int} (hx0 : 0 ≤ x) (hx1 : x < 4294967296) (hy0 : 0 ≤ y) (hy1 : y < 4294967296) : ∃ o, Both nm x y o := by
  unfold opNames at hn
  simp only [List.mem_cons, List.not_mem_nil, or_false] at hn
  rcases hn with rfl | rfl | rfl | rfl | rfl | rfl | rfl | rfl | rfl | rfl | rfl | rfl
  · exact ⟨_, fun w mean mg mb news t tx ty => op_MOV w mean mg mb news x y t tx ty hx0 hx1 hy0 hy1, fun w mean mg mb news t tx ty => due_MOV w mean mg mb news x y t tx ty hx0 hx1 hy0 hy1⟩
  · exact ⟨_, fun w mean mg mb news t tx ty => op_LSL w mean mg mb news x y t tx ty hx0 hx1 hy0 hy1, fun w mean mg mb news t tx ty => due_LSL w mean mg mb news x y t tx ty hx0 hx1 hy0 hy1⟩
  · exact ⟨_, fun w mean mg mb news t tx ty => op_ASR w mean mg mb news x y t tx ty hx0 hx1 hy0 hy1, fun w mean mg mb news t tx ty => due_ASR w mean mg mb news x y t tx ty hx0 hx1 hy0 hy1⟩
  · exact ⟨_, fun w mean mg mb news t tx ty => op_ROR w mean mg mb news x y t tx ty hx0 hx1 hy0 hy1, fun w mean mg mb news t tx ty => due_ROR w mean mg mb news x y t tx ty hx0 hx1 hy0 hy1⟩
  · exact ⟨_, fun w mean mg mb news t tx ty => op_AND w mean mg mb news x y t tx ty hx0 hx1 hy0 hy1, fun w mean mg mb news t tx ty => due_AND w mean mg mb news x y t tx ty hx0 hx1 hy0 hy1⟩
  · exact ⟨_, fun w mean mg mb news t tx ty => op_ANN w mean mg mb news x y t tx ty hx0 hx1 hy0 hy1, fun w mean mg mb news t tx ty => due_ANN w mean mg mb news x y t tx ty hx0 hx1 hy0 hy1⟩
  · exact ⟨_, fun w mean mg mb news t tx ty => op_IOR w mean mg mb news x y t tx ty hx0 hx1 hy0 hy1, fun w mean mg mb news t tx ty => due_IOR w mean mg mb news x y t tx ty hx0 hx1 hy0 hy1⟩
  · exact ⟨_, fun w mean mg mb news t tx ty => op_XOR w mean mg mb news x y t tx ty hx0 hx1 hy0 hy1, fun w mean mg mb news t tx ty => due_XOR w mean mg mb news x y t tx ty hx0 hx1 hy0 hy1⟩
  · exact ⟨_, fun w mean mg mb news t tx ty => op_ADD w mean mg mb news x y t tx ty hx0 hx1 hy0 hy1, fun w mean mg mb news t tx ty => due_ADD w mean mg mb news x y t tx ty hx0 hx1 hy0 hy1⟩
  · exact ⟨_, fun w mean mg mb news t tx ty => op_SUB w mean mg mb news x y t tx ty hx0 hx1 hy0 hy1, fun w mean mg mb news t tx ty => due_SUB w mean mg mb news x y t tx ty hx0 hx1 hy0 hy1⟩
  · exact ⟨_, fun w mean mg mb news t tx ty => op_MUL w mean mg mb news x y t tx ty hx0 hx1 hy0 hy1, fun w mean mg mb news t tx ty => due_MUL w mean mg mb news x y t tx ty hx0 hx1 hy0 hy1⟩
  · exact ⟨_, fun w mean mg mb news t tx ty => op_DIV w mean mg mb news x y t tx ty hx0 hx1 hy0 hy1, fun w mean mg mb news t tx ty => due_DIV w mean mg mb news x y t tx ty hx0 hx1 hy0 hy1⟩
theorem both_c {nm : Str} (hn : nm ∈ opNames) {x y : Int} (hx0 : 0 ≤ x) (hx1 : x < 4294967296) (hy0 : 0 ≤ y) (hy1 : y < 4294967296) : Both nm x y (specC nm x y) := by
  unfold specC
  rw [dif_pos (both_ex hn hx0 hx1 hy0 hy1)]
  exact (both_ex hn hx0 hx1 hy0 hy1).choose_spec
theorem op_c (w : World) (mean : ExcName → Option Value) (mg mb : Str → Option Value) (news : List (Addr × Obj)) (nm : Str) (x y : Int) (t tx ty : Tok) (hn : nm ∈ opNames) (hx0 : 0 ≤ x) (hx1 : x < 4294967296) (hy0 : 0 ≤ y) (hy1 : y < 4294967296) :
    Con w mean mg mb 92 4 [.str nm t, .int x tx, .int y ty] news (fun h₀ L m s Q => RetS h₀ L m news s Q (specC nm x y)) := (both_c hn hx0 hx1 hy0 hy1).1 w mean mg mb news t tx ty
theorem due_c (w : World) (mean : ExcName → Option Value) (mg mb : Str → Option Value) (news : List (Addr × Obj)) (nm : Str) (x y : Int) (t tx ty : Tok) (hn : nm ∈ opNames) (hx0 : 0 ≤ x) (hx1 : x < 4294967296) (hy0 : 0 ≤ y) (hy1 : y < 4294967296) :
    Con w mean mg mb 135 4 [.str nm t, .int x tx, .int y ty] news (fun h₀ L m s Q => RetS h₀ L m news s Q (specC nm x y)) := (both_c hn hx0 hx1 hy0 hy1).2 w mean mg mb news t tx ty
theorem retS_n {h₀ : Heap} {L : Addr} {m : Str → Option Value} {news : List (Addr × Obj)} {s : Shared} {Q : Value → Shared → Prop} {o : Option Sp} (e : o = none) (h : RetN h₀ L m news s Q) : RetS h₀ L m news s Q o := by subst e; exact h
theorem retS_s {h₀ : Heap} {L : Addr} {m : Str → Option Value} {news : List (Addr × Obj)} {s : Shared} {Q : Value → Shared → Prop} {o : Option Sp} {r c v : Int} {hv : Option Int} (e : o = some ⟨r, c, v, hv⟩) (h : RetT h₀ L m news s Q r c v hv) : RetS h₀ L m news s Q o := by subst e; exact h
theorem retS_c {h₀ : Heap} {L : Addr} {m : Str → Option Value} {news : List (Addr × Obj)} {s : Shared} {Q : Value → Shared → Prop} {o : Option Sp} (h1 : o = none → RetN h₀ L m news s Q) (h2 : ∀ r c v, o = some ⟨r, c, v, none⟩ → RetT h₀ L m news s Q r c v none) (h3 : ∀ r c v i, o = some ⟨r, c, v, some i⟩ → RetT h₀ L m news s Q r c v (some i)) : RetS h₀ L m news s Q o := by
  rcases o with _ | ⟨r, c, v, _ | i⟩
  · exact h1 rfl
  · exact h2 r c v rfl
  · exact h3 r c v i rfl
end Mine
end
section
open PySem PySem.W PyProof.Rows
namespace Mine
theorem led0 {l : List (Addr × Obj)} : ∀ p ∈ l, p ∈ l := fun _ h => h
theorem led1 {a : Addr × Obj} {l r : List (Addr × Obj)} (h : ∀ p ∈ l, p ∈ r) : ∀ p ∈ l, p ∈ a :: r := fun p hp => .tail _ (h p hp)
theorem row_mk {vs : List Value} {ns : List Int} (hI : IntsAre vs ns) (hl : ns.length ≤ 160) (hb : ∀ v ∈ ns, (0 : Int) ≤ v ∧ v < 1024) : RowOK vs := ⟨by rw [hI.length]; exact hl, ns, hI, hb⟩
theorem row_el {vs : List Value} {P : Prop} (h : RowOK vs) (k : ∀ ns : List Int, IntsAre vs ns → ns.length ≤ 160 → (∀ v ∈ ns, (0 : Int) ≤ v ∧ v < 1024) → P) : P := by
  obtain ⟨hl, ns, hI, hb⟩ := h
  exact k ns hI (by rw [← hI.length]; exact hl) hb
theorem folded_list {es : List PySem.Expr} {p : Pos} {env : Env} : ∀ x, foldedSetIterable (.List es p) env x = pure x := fun _ => rfl
theorem news_t2 {h₀ h : Heap} {L : Addr} {q q' : Addr} {r n z c v r' n' z' c' v' : Int} {V V' : Value} {t1 t2 t3 t4 t5 u1 u2 u3 u4 u5 : Tok} {l : List (Addr × Obj)} (N : News h₀ L h ((q, tupO r n z c v V t1 t2 t3 t4 t5) :: (q', tupO r' n' z' c' v' V' u1 u2 u3 u4 u5) :: l)) : News h₀ L h l := fun p hp => N p (.tail _ (.tail _ hp))
theorem news_r3 {h₀ h : Heap} {L : Addr} {a b c : Addr × Obj} {r : List (Addr × Obj)} (N : News h₀ L h (a :: b :: c :: r)) : News h₀ L h (c :: a :: b :: r) := fun p hp => by
  rcases List.mem_cons.mp hp with rfl | hp
  · exact N _ (.tail _ (.tail _ (.head _)))
  rcases List.mem_cons.mp hp with rfl | hp
  · exact N _ (.head _)
  rcases List.mem_cons.mp hp with rfl | hp
  · exact N _ (.tail _ (.head _))
  · exact N _ (.tail _ (.tail _ (.tail _ hp)))
theorem news_r4 {h₀ h : Heap} {L : Addr} {a b c d : Addr × Obj} {r : List (Addr × Obj)} (N : News h₀ L h (a :: b :: c :: d :: r)) : News h₀ L h (d :: a :: b :: c :: r) := fun p hp => by
  rcases List.mem_cons.mp hp with rfl | hp
  · exact N _ (.tail _ (.tail _ (.tail _ (.head _))))
  exact news_r3 (news_r3 (news_r3 N : News h₀ L h (c :: a :: b :: d :: r))) p (by
    rcases List.mem_cons.mp hp with rfl | hp
    · simp
    rcases List.mem_cons.mp hp with rfl | hp
    · simp
    rcases List.mem_cons.mp hp with rfl | hp
    · simp
    · simp [hp])
theorem name_of {v : Value} {t0 t1 t2 t3 t4 t5 t6 t7 t8 t9 ta tb : Tok} (h : v ∈ [Value.str (Str.ofString "MOV") t0, Value.str (Str.ofString "LSL") t1, Value.str (Str.ofString "ASR") t2, Value.str (Str.ofString "ROR") t3, Value.str (Str.ofString "AND") t4, Value.str (Str.ofString "ANN") t5, Value.str (Str.ofString "IOR") t6, Value.str (Str.ofString "XOR") t7, Value.str (Str.ofString "ADD") t8, Value.str (Str.ofString "SUB") t9, Value.str (Str.ofString "MUL") ta, Value.str (Str.ofString "DIV") tb]) : ∃ nm t, v = Value.str nm t ∧ nm ∈ opNames := by
  simp only [List.mem_cons, List.not_mem_nil, or_false] at h
  unfold opNames
  simp only [List.mem_cons, List.not_mem_nil, or_false]
  rcases h with h | h | h | h | h | h | h | h | h | h | h | h <;> subst h
  · exact ⟨_, _, rfl, .inl rfl⟩
  · exact ⟨_, _, rfl, .inr (.inl rfl)⟩
  · exact ⟨_, _, rfl, .inr (.inr (.inl rfl))⟩
  · exact ⟨_, _, rfl, .inr (.inr (.inr (.inl rfl)))⟩
  · exact ⟨_, _, rfl, .inr (.inr (.inr (.inr (.inl rfl))))⟩
  · exact ⟨_, _, rfl, .inr (.inr (.inr (.inr (.inr (.inl rfl)))))⟩
  · exact ⟨_, _, rfl, .inr (.inr (.inr (.inr (.inr (.inr (.inl rfl))))))⟩
  · exact ⟨_, _, rfl, .inr (.inr (.inr (.inr (.inr (.inr (.inr (.inl rfl)))))))⟩
  · exact ⟨_, _, rfl, .inr (.inr (.inr (.inr (.inr (.inr (.inr (.inr (.inl rfl))))))))⟩
  · exact ⟨_, _, rfl, .inr (.inr (.inr (.inr (.inr (.inr (.inr (.inr (.inr (.inl rfl)))))))))⟩
  · exact ⟨_, _, rfl, .inr (.inr (.inr (.inr (.inr (.inr (.inr (.inr (.inr (.inr (.inl rfl))))))))))⟩
  · exact ⟨_, _, rfl, .inr (.inr (.inr (.inr (.inr (.inr (.inr (.inr (.inr (.inr (.inr rfl))))))))))⟩
local macro_rules | `(tactic| walk_at "call ref") => `(tactic| (k_here; (with_reducible show wpAny _ _ (call (Value.ref 92) [Value.str _ _, Value.int _ _, Value.int _ _]) _ _ _); k_dflt (refine' op_c _ _ _ _ _ _ _ _ _ _ _ ?i0 ?i1 ?i2 ?i3 ?i4 _ _ _ _ _ _ _ _ _ _ _ _ _ _ _ _ _ ?k1 ?k2 ?k3 ?k4 ?k5 ?kK ?kd ?ku ?_; (case k1 | k2 | k3 => k_asm); (case k4 => first | exact news_t2 (by assumption) | k_asm); (case k5 => k_asm); (case kK => first | exact rfl | assumption); (case kd => first | k_room | ktr_room); (case ku => first | units_room | ktr_units); (case i0 => assumption); (case i1 | i2 | i3 | i4 => first | assumption | omega); first | (refine retS_n (by assumption) ?_; intro h9 tk9 F9 N9; ((try dsimp only); (try k_fold))) | (refine retS_s (by assumption) ?_; intro q9 ta9 tb9 tc9 td9 te9 tf9 h9 tk9 F9 N9; ((try simp only [optV] at N9); (try dsimp only); (try k_fold))) | (refine retS_c (fun e9 h9 tk9 F9 N9 => ?_) (fun r9 c9 v9 e9 q9 ta9 tb9 tc9 td9 te9 tf9 h9 tk9 F9 N9 => ?_) (fun r9 c9 v9 i9 e9 q9 ta9 tb9 tc9 td9 te9 tf9 h9 tk9 F9 N9 => ?_) <;> ((try simp only [optV] at N9); (try dsimp only); (try k_fold))))))
local macro_rules | `(tactic| walk_at "call ref") => `(tactic| (k_here; (with_reducible show wpAny _ _ (call (Value.ref 135) [Value.str _ _, Value.int _ _, Value.int _ _]) _ _ _); k_dflt (refine' due_c _ _ _ _ _ _ _ _ _ _ _ ?i0 ?i1 ?i2 ?i3 ?i4 _ _ _ _ _ _ _ _ _ _ _ _ _ _ _ _ _ ?k1 ?k2 ?k3 ?k4 ?k5 ?kK ?kd ?ku ?_; (case k1 | k2 | k3 | k4 | k5 => k_asm); (case kK => first | exact rfl | assumption); (case kd => first | k_room | ktr_room); (case ku => first | units_room | ktr_units); (case i0 => assumption); (case i1 | i2 | i3 | i4 => first | assumption | omega); first | (refine retS_n (by assumption) ?_; intro h9 tk9 F9 N9; ((try dsimp only); (try k_fold))) | (refine retS_s (by assumption) ?_; intro q9 ta9 tb9 tc9 td9 te9 tf9 h9 tk9 F9 N9; ((try simp only [optV] at N9); (try dsimp only); (try k_fold))) | (refine retS_c (fun e9 h9 tk9 F9 N9 => ?_) (fun r9 c9 v9 e9 q9 ta9 tb9 tc9 td9 te9 tf9 h9 tk9 F9 N9 => ?_) (fun r9 c9 v9 i9 e9 q9 ta9 tb9 tc9 td9 te9 tf9 h9 tk9 F9 N9 => ?_) <;> ((try simp only [optV] at N9); (try dsimp only); (try k_fold))))))
local macro_rules | `(tactic| walk_at "call ref") => `(tactic| (k_here; (with_reducible show wpAny _ _ (call (Value.ref 21) [Value.int _ _]) _ _ _); k_dflt (refine' con_to_signed _ _ _ _ _ _ _ ?i1 ?i2 _ _ _ _ _ _ _ _ _ _ _ _ _ _ _ _ _ ?k1 ?k2 ?k3 ?k4 ?k5 ?kK ?kd ?ku ?_; (case k1 | k2 | k3 | k4 | k5 => k_asm); (case kK => first | exact rfl | assumption); (case kd => first | k_room | ktr_room); (case ku => first | units_room | ktr_units); (case i1 | i2 => first | assumption | omega); (intro t9 h9 tk9 F9 N9; (try dsimp only); (try k_fold)))))
local macro_rules | `(tactic| walk_at "call ref") => `(tactic| (k_here; (with_reducible show wpAny _ _ (call (Value.ref 120) [Value.int _ _]) _ _ _); k_dflt (refine' con_signed _ _ _ _ _ _ _  _ _ _ _ _ _ _ _ _ _ _ _ _ _ _ _ _ ?k1 ?k2 ?k3 ?k4 ?k5 ?kK ?kd ?ku ?_; (case k1 | k2 | k3 | k4 | k5 => k_asm); (case kK => first | exact rfl | assumption); (case kd => first | k_room | ktr_room); (case ku => first | units_room | ktr_units); (intro t9 h9 tk9 F9 N9; (try dsimp only); (try k_fold)))))
local macro_rules | `(tactic| walk_at "call ref") => `(tactic| (k_here; (with_reducible show wpAny _ _ (call (Value.ref 106) [Value.ref _]) _ _ _); k_dflt (refine' con_next _ _ _ _ _ _ _ _ ?i1 ?i2 _ _ _ _ _ _ _ _ _ _ _ _ _ _ _ _ _ ?k1 ?k2 ?k3 ?k4 ?k5 ?kK ?kd ?ku ?_; (case k1 | k2 | k3 => k_asm); (case k4 => first | k_asm | exact news_swap (by assumption) | exact news_r3 (by assumption) | exact news_r4 (by assumption)); (case k5 => k_asm); (case kK => first | exact rfl | assumption); (case kd => first | k_room | ktr_room); (case ku => first | units_room | ktr_units); (case i1 => exact row_mk (by assumption) (by assumption) (by assumption)); (case i2 => k_all); (intro v9 t9 vs9 k9 h9 tk9 hP9 hR9 F9 N9; (refine row_el hR9 (fun ns9 hI9 hl9 hb9 => ?_)); (clear hR9); (try dsimp only); (try k_fold)))))
local macro_rules | `(tactic| walk_at "call ref") => `(tactic| (k_here; (with_reducible show wpAny _ _ (call (Value.ref 113) [Value.ref _]) _ _ _); k_dflt (refine' con_word _ _ _ _ _ _ _ _ ?i1 ?i2 _ _ _ _ _ _ _ _ _ _ _ _ _ _ _ _ _ ?k1 ?k2 ?k3 ?k4 ?k5 ?kK ?kd ?ku ?_; (case k1 | k2 | k3 => k_asm); (case k4 => first | k_asm | exact news_swap (by assumption) | exact news_r3 (by assumption) | exact news_r4 (by assumption)); (case k5 => k_asm); (case kK => first | exact rfl | assumption); (case kd => first | k_room | ktr_room); (case ku => first | units_room | ktr_units); (case i1 => exact row_mk (by assumption) (by assumption) (by assumption)); (case i2 => k_all); (intro v9 t9 vs9 k9 h9 tk9 hP9 hR9 F9 N9; (refine row_el hR9 (fun ns9 hI9 hl9 hb9 => ?_)); (clear hR9); (try dsimp only); (try k_fold)))))
local macro_rules | `(tactic| walk_at "call ref") => `(tactic| (k_here; (with_reducible show wpAny _ _ (call (Value.ref 99) [Value.ref _]) _ _ _); k_dflt (refine' con_row _ _ _ _ _ _ _ ?i1 ?i2 _ _ _ _ _ _ _ _ _ _ _ _ _ _ _ _ _ ?k1 ?k2 ?k3 ?k4 ?k5 ?kK ?kd ?ku ?i3 ?_; (case k1 | k2 | k3 => k_asm); (case k4 => exact News.nil); (case k5 => k_asm); (case kK => first | exact rfl | assumption); (case kd => first | k_room | ktr_room); (case ku => first | units_room | ktr_units); (case i3 | i1 => assumption); (case i2 => omega); (intro q9 vs9 k9 h9 tk9 hR9 F9 N9; (refine row_el hR9 (fun ns9 hI9 hl9 hb9 => ?_)); (clear hR9); (try dsimp only); (try k_fold)))))
local macro_rules | `(tactic| walk_at "exec For Name List cons nil") => `(tactic| (k_here; (try k_fold); (rename Fr _ _ _ _ => lF'); k_dflt (with_reducible (refine' For_invVF ?F ?k1 ?k2 ?_ ?hs ?hE); (case F => dsimp only [envOf]; with_reducible exact lF'); (case hs => exact folded_list); (case hE => first | passes_own | with_unfolding_all passes_own); (case k1 | k2 => with_unfolding_all exact rfl); k_whole)))
local macro_rules | `(tactic| walk_at "pyIter ref") => `(tactic| ((with_reducible show wpAny _ _ (pyIter (Value.ref _)) (fun it s₂ => LoopAtV _ _ _ _ _ _ _ _ _ it s₂) _ _); k_here; k_dflt (refine' names_loop ?hh ?F ?N (fun v9 I9 oI9 h9 tk9 hv9 F9 N9 => ?_) (fun val9 h9 tk9 F9 N9 => ?_); (case hh => exact rfl); (case F | N => k_asm); (obtain ⟨nm9, tn9, e9, hn9⟩ := name_of hv9); (subst e9)); all_goals (try dsimp only); all_goals (try k_fold)))
local macro_rules | `(tactic| walk_at "InvEndN") => `(tactic| k_dflt (kst_close))
local macro_rules | `(tactic| walk_at "NmPost") => `(tactic| (dsimp only [NmPost]))
local macro_rules | `(tactic| walk_at "NmEnd") => `(tactic| (refine' Exists.intro _ (Exists.intro _ (Exists.intro _ (And.intro rfl (And.intro ?F (And.intro ?N ?m))))); (case F => k_asm); (case N => (refine' cb_drop ?n ?s; (case n => assumption); (case s => first | with_reducible exact led0 | with_reducible exact led1 led0 | with_reducible exact led1 (led1 led0) | with_reducible exact led1 (led1 (led1 led0)) | with_reducible exact led1 (led1 (led1 (led1 led0))) | kcj_all))); (case m => (intro z h1; first | rfl | exact if_neg h1 | (simp [h1]; done)))))
theorem law_holds : PySem.Challenge.rw_pb0307_01.Holds := hd (by
  k_go0
  all_goals try k_fold
  (k_with "pyIter ref" => (k_of "lap" => k_state (fun pre row => row.length ≤ 160 ∧ (∀ v ∈ row, 0 ≤ v ∧ v < 1024)) "row"))
  (k_with "state" => (first | exact And.intro (by assumption) (by assumption)))
  k_steps)
end Mine
end
set_option maxRecDepth 100000 in
set_option maxHeartbeats 8000000 in
theorem PySem.Challenge.cw_pb0307_01_holds : PySem.Challenge.rw_pb0307_01.Holds := by
  exact Mine.law_holds
