import PyProof.Rows.All
import Wide.All
import OpenK.AllK
import Wide.FinOn
import PySem.Challenge.RW_sz0089_01
open PySem PySem.W PyProof.Rows
set_option Elab.async false
set_option maxRecDepth 100000
set_option maxHeartbeats 8000000
namespace Mine
theorem cut3 {T1 T2 T3 G : Prop} (main : G) (hl : T1) (hw : T2) (hc : T3) : G := main
theorem pre (bad : False) : (PySem.Challenge.rw_sz0089_01.row).Holds := by
  have said : PySem.Challenge.rw_sz0089_01.row.wellSaid = true := bad.elim
  apply cut3
  case main => k_head
  all_goals exact bad.elim
noncomputable def as0 : List Addr := [2, 3, 15, 22, 24, 25, 27, 28, 29, 30, 31, 32, 35, 42, 44, 45, 47, 48, 49, 50, 51, 54, 55, 57, 58, 60, 61, 62, 65, 66, 67, 69, 70, 72, 73, 74, 76, 77,
    79, 80, 81, 83, 84, 86, 87, 88, 91, 92, 93, 95, 96, 98, 99, 100, 102, 103, 105, 106, 107, 109, 110, 112, 113, 114, 116, 117, 119, 120, 121, 123, 124,
    126, 127, 128, 130, 131, 133, 134, 135, 137, 138, 140, 141, 142, 144, 145, 147, 148, 149, 151, 152, 154, 155, 163, 165, 166, 168, 169, 170, 171, 172,
    173, 174, 177, 184, 186, 187, 189, 190, 191, 192, 193, 196, 203, 205, 206, 208, 209, 210, 211, 212, 215, 222, 224, 225, 227, 228, 229, 230, 231, 234,
    241, 243, 244, 246, 247, 248, 249, 250, 260, 261, 263, 264, 266, 267, 268, 269, 270, 271, 272, 275, 277, 278, 280, 281, 282, 284, 285, 287, 288, 289,
    291, 292, 294, 295, 296, 298, 299, 301, 302, 303, 305, 306, 308, 309, 310, 312, 313, 315, 316, 317, 319, 320, 322, 323, 324, 326, 327, 329, 330, 331,
    333, 334, 336, 337, 338, 340, 341, 343, 344, 345, 347, 348, 350, 351, 352, 354, 355, 357, 358, 359, 361, 362, 364, 365, 366, 368, 369, 371, 372, 380,
    381, 383, 384, 386, 387, 388, 389, 390, 391, 392, 395, 396, 398, 399, 401, 402, 403, 405, 406, 408, 409, 410, 412, 413, 415, 416, 417, 420, 421, 422,
    424, 425, 427, 428, 429, 432, 433]
theorem as0_eq : ∀ P, as0 = (Mine.pre.heap_1 P).map (·.1) := fun _ => by kernel_rfl
end Mine
open PySem PySem.W PySem.Calls PyProof.Rows PySem.Spec PySem.W.KStt
set_option maxHeartbeats 4000000
namespace Mine
section
variable {prog : Program} {w : World} {A : Around} {E : Value → Shared → Prop} {s : Shared} {h₀ : Heap} {L : Addr} {m : Str → Option Value} {env : Env}

def SrcT (prog : Program) (w : World) (A : Around) (h₀ : Heap) (L : Addr) (m : Str → Option Value) (env : Env) (elt : PySem.Expr) (x : Str) (scope : Scope) (cl : List (Str × Addr)) (Fin : Shared → List Value → List (Addr × Obj) → Prop) (xv : Value) (s₁ : Shared) : Prop :=
  ∃ xt tx news, xv = .str xt tx ∧ A.handled = none ∧ Fr h₀ L s₁.heap m ∧ News h₀ L s₁.heap news ∧ xt.cps.size ≤ sizeLine ∧
    ∀ s₂ : Shared, (∃ h, s₂ = { s₁ with heap := h }) → LCg.CompRest prog w A h₀ L m env elt x scope cl s₂ (fun _ => True) (SignAt xt) (Fin s₂) xt.cps.size 0 [] news

theorem Assign_ListComp_T {elt iter : PySem.Expr} {x y : Str} {px py : Pos} {scope : Scope} {cl : List (Str × Addr)} {pos spos : Pos} {Q : Flow → Shared → Prop} (_F₀ : Fr h₀ L s.heap m) (hLe : env.locals = L)
    (hsw : swapsWith (.ListComp elt [⟨.Name x px, iter, [], 0⟩] scope pos) (some (.Name y py)) spos.line env = pure true)
    (hclos : closureFor scope env = pure cl) (hcell : ∀ z ∈ scope.names, z.2 ≠ .cell) (hkind : scope.kind = .function)
    (hnames : ∀ z ∈ scope.names, z.2 = .local → scope.names.lookup z.1 = some .local) (hx : scope.names.lookup x = some .local)
    (hy : env.kindOf y = some .local) (hp : (env.scope.kind == .class || (env.scope.kind == .module && env.locals != env.globals)) = false)
    (h : wpAny (model prog w) A (eval iter env) (SrcT prog w A h₀ L m env elt x scope cl (fun s₂ => LCg.FinA h₀ L m s₂ y Q)) E s)
    (hs : ∀ x, foldedSetIterable iter env x = pure x := by intro _; rfl) :
    wpAny (model prog w) A (exec (.Assign [.Name y py] (.ListComp elt [⟨.Name x px, iter, [], 0⟩] scope pos) spos) env) Q E s := by
  subst hLe
  rw [exec_Assign_Name_used _ _ _ _ hsw]
  refine wpAny_bind (wpAny_standAt (wpAny_bind ?_))
  show wpAny _ A (do let _ ← comprehension (.ListComp elt [⟨.Name x px, iter, [], 0⟩] scope pos) scope env _ (newList []) false (eval iter env) (some (assign (.Name y py) env))) _ _ s
  refine wpAny_bind (wpAny_mono (wpAny_comprehension_free (use := some (assign (.Name y py) env)) (Q := fun _ s' => Q .next s') rfl hs hclos hkind hnames
    (wpAny_mono h (fun xv s₁ h₁ => ?_) fun _ _ e => e)) (fun _ s' hq => wpAny_pure (wpAny_pure hq)) fun _ _ e => e)
  obtain ⟨xt, tx, news, rfl, hh, F, N, hsz, R⟩ := h₁
  have key : ∀ (o : Obj) (St : Nat → Heap → Prop) (W : Walks prog w A s₁.heap.objs.size [s₁.heap.objs.size] [s₁.heap.objs.size] xt.cps.size (SignAt xt) St)
      (hIo : ∀ i h, St i h → ∃ o, h.get? s₁.heap.objs.size = some o)
      (hSt : ∀ i h h' o nw, St i h → h.get? s₁.heap.objs.size = some o → h'.get? s₁.heap.objs.size = some o → (∀ b o, h₀.get? b = some o → h'.get? b = some o) → News h₀ env.locals h' nw → True → St i h')
      (hst : St 0 (s₁.heap.push o)),
      wpAny (model prog w) A (newList []) (fun acc s₃ => wpAny (model prog w) A (newFunctionEnv scope env.globals cl [] env.qual none .none (some env)) (fun cenv s₄ =>
        codeAny (model prog w) A (.compStart (.ListComp elt [⟨.Name x px, iter, [], 0⟩] scope pos) 0 (.ref s₁.heap.objs.size) acc { cenv with scope := relabel scope env }) (compPost (model prog w) A E (some (assign (.Name y py) env)) (fun _ s' => Q Flow.next s') acc cenv.locals) s₄) E s₃) E { s₁ with heap := s₁.heap.push o } := by
    intro o St W hIo hSt hst
    refine LCg.block_U (S := fun _ => True) W hsz hIo hSt hcell hkind hx hst (fun b hb => ?_)
      (F.keeps fun _ _ e => Heap.get?_push_of_some _ e) (N.grown fun _ _ e => Heap.get?_push_of_some _ e) (Nat.ne_of_lt F.ns.lt) (next_is_new F) (fun p hp => Nat.ne_of_lt (Heap.lt_size (N p hp).1)) trivial (R _ ⟨_, rfl⟩) ?_
    · rw [List.mem_singleton.mp hb]
      show s₁.heap.objs.size < (s₁.heap.push _).objs.size
      rw [Heap.size_push]; exact Nat.lt_succ_self _
    · intro D C h' tk m' ys news' F' N' o1 hn hC₀ hD₀ hCL hDL hCD offC fin
      show wpAny _ A (assign (.Name y py) env (.ref D)) _ _ _
      refine wpAny_assign_Name (wpAny_storeName_local hy F'.ns (fun h₂ hn₂ hs₂ => ?_) hp)
      have hL₀ : h₀.get? env.locals = none := Heap.get?_none_of_le F'.above
      have F₂ : Fr h₀ env.locals h₂ (fun z => if z = y then some (.ref D) else m z) := ⟨hn₂, fun b o e => hs₂.extBut b o (fun q => by rw [q, hL₀] at e; cases e) (F'.keep b o e), F'.above⟩
      refine ⟨m', hn.sameBut hs₂ hCL, fun h'' hs'' => fin D h'' _ (F₂.change hs'' hCL hC₀) (fun p hp => ?_) o1⟩
      have z : h₂.get? p.1 = some p.2 := hs₂.extBut _ _ (N' p hp).2.1 (N' p hp).1
      refine ⟨hs''.extBut _ _ ?_ z, (N' p hp).2⟩
      rcases List.mem_cons.mp hp with rfl | hp
      · exact Ne.symm hCD
      · exact offC p hp
  cases ha : xt.cps.all (· < 128)
  · exact wpAny_pyIter_wide ha (key _ _ (Walks.strWide hh _ xt tx) (fun i h st => by obtain ⟨o, e, _⟩ := st; exact ⟨o, e⟩) (fun i h h' o nw st e e' _ _ _ => by
      obtain ⟨o', q, r⟩ := st; rw [e] at q; cases q; exact ⟨o, e', r⟩) ⟨_, Heap.get?_push_size _ rfl, rfl, rfl⟩)
  · exact wpAny_pyIter_ascii ha (key _ _ (Walks.strAscii hh _ xt tx) (fun i h st => by obtain ⟨o, e, _⟩ := st; exact ⟨o, e⟩) (fun i h h' o nw st e e' _ _ _ => by
      obtain ⟨o', q, r⟩ := st; rw [e] at q; cases q; exact ⟨o, e', r⟩) ⟨_, Heap.get?_push_size _ rfl, rfl, rfl⟩)

theorem rest_text {elt : PySem.Expr} {x : Str} {scope : Scope} {cl : List (Str × Addr)} {Fin : List Value → List (Addr × Obj) → Prop} {news : List (Addr × Obj)} {xt : Str}
    (turn : ∀ (c : Nat) t I oI C oC D m₂ ys h tk (E' : Value → Shared → Prop), c ∈ xt.cps.toList → LCg.NsObj oC m₂ → m₂ x = some (.str ⟨#[c]⟩ t) → Fr h₀ L h m → News h₀ L h ((I, oI) :: (C, oC) :: (D, LCg.lst ys) :: news) → LCg.Off3 I C D news → ((@Ne Nat I C) ∧ (@Ne Nat I D) ∧ (@Ne Nat C D)) →
      wpAny (model prog w) A (eval elt (compEnvC scope cl C env)) (LCg.CompEnd h₀ L m { s with heap := h, toks := tk } I oI C oC D (LCg.lst ys) (fun _ => True) (fun y news' => KCfEl news (c : Int) y news')) E' { s with heap := h, toks := tk })
    (fin : KPfDone (∀ ys, IntsAre ys (codes xt) → Fin ys news)) : LCg.CompRest prog w A h₀ L m env elt x scope cl s (fun _ => True) (SignAt xt) Fin xt.cps.size 0 [] news := by
  unfold KPfDone at fin
  have key : ∀ (j i : Nat) (ys : List Value), i + j = xt.cps.size → IntsAre ys ((codes xt).take i) → LCg.CompRest prog w A h₀ L m env elt x scope cl s (fun _ => True) (SignAt xt) Fin j i ys news := by
    intro j
    induction j with
    | zero =>
      intro i ys hi hy
      have e : i = (codes xt).length := by rw [codes_length]; exact hi
      subst e
      rw [List.take_length] at hy
      exact LCg.CompRest.zero (fin ys hy)
    | succ j ih =>
      intro i ys hi hy
      refine LCg.CompRest.succ ?_
      intro v I oI C oC D m₂ h tk E' hv hC hx F N off ne
      obtain ⟨c, t, hk, hv'⟩ := hv
      rw [hv'] at hx
      refine wpAny_mono (turn c t I oI C oC D m₂ ys h tk E' (by rw [Array.mem_toList_iff]; exact Array.mem_of_getElem? hk) hC hx F N off ne) (fun y s₂ hq => ?_) fun _ _ e => e
      obtain ⟨h', tk', nw, e, F', N', off', hS, hn, t', hy'⟩ := hq
      rw [hn] at N' off'
      refine ⟨h', tk', news, e, F', N', off', trivial, ?_⟩
      rw [hy']
      refine ih (i + 1) _ (by omega) ?_
      rw [List.take_add_one, code_at hk]
      exact IntsAre.append hy (.cons (c : Int) t' .nil)
  exact key _ 0 [] (by omega) (by simp only [List.take_zero]; exact .nil)

/-- a loop over a list of ints of the ledger that keeps every name but its own and the whole ledger -/
theorem iter_chk {x : Str} {body : List Stmt} {Q : Flow → Shared → Prop} {l : Addr} {vs : List Value} {ns : List Int} {nn : Nat} {m₀ : Str → Option Value} {news : List (Addr × Obj)}
    (hh : A.handled = none) (F : Fr h₀ env.locals s.heap m₀) (N : News h₀ env.locals s.heap news) (hl : (l, listOf vs.toArray nn) ∈ news) (hi : IntsAre vs ns)
    (turn : ∀ n t h tk own, n ∈ ns → OwnOff own (news.map (·.1)) → Fr h₀ env.locals h (fun y => if y = x then some (.int n t) else m₀ y) → News h₀ env.locals h (news ++ own) →
      wpAny (model prog w) A (execs body env) (InvPostN h₀ env.locals (fun m' nx => nx = news ∧ ∀ z, z ≠ x → m' z = m₀ z) own (news.map (·.1)) { s with heap := h, toks := tk } Q) E { s with heap := h, toks := tk })
    (done : ∀ (u : Option Value) h tk, Fr h₀ env.locals h (fun y => if y = x then u else m₀ y) → News h₀ env.locals h news → Q .next { s with heap := h, toks := tk }) :
    wpAny (model prog w) A (pyIter (.ref l)) (fun it s₂ => LoopAtV prog w A h₀ env x body Q E it s₂) E s := by
  refine iter_invNL (fun _ m nx => nx = news ∧ ∀ z, z ≠ x → m z = m₀ z) hh hl hi F N ⟨rfl, fun _ _ => rfl⟩ ?_ ?_
  · rintro i n t m₁ news₁ h tk own hn _ hoff _ ⟨rfl, ho⟩ F₁ N₁
    have hmap : (fun z => if z = x then some (Value.int n t) else m₁ z) = fun z => if z = x then some (.int n t) else m₀ z := by
      funext z; by_cases h1 : z = x <;> simp only [h1, if_true, if_false]
      exact ho z h1
    rw [hmap] at F₁
    refine wpAny_mono (turn n t h tk own (List.mem_of_getElem? hn) hoff F₁ N₁) (fun f s₂ p => ?_) fun _ _ e => e
    have up : InvEndN h₀ env.locals (fun m' nx => nx = news₁ ∧ ∀ z, z ≠ x → m' z = m₀ z) own (news₁.map (·.1)) { s with heap := h, toks := tk } s₂ →
        InvEndN h₀ env.locals (fun m' nx => (l, listOf vs.toArray nn) ∈ nx ∧ nx = news₁ ∧ ∀ z, z ≠ x → m' z = m₀ z) own (news₁.map (·.1)) { s with heap := h, toks := tk } s₂ := by
      rintro ⟨h', tk, m', news', nx, e, F', N', hn', ho', ha, hx, hz⟩
      exact ⟨h', tk, m', news', nx, e, F', N', hn', ho', ha, hx ▸ hl, hx, hz⟩
    cases f with
    | ret v => exact p
    | brk => exact p
    | next => exact up p
    | cont => exact up p
  · rintro m₁ news₁ h tk _ ⟨rfl, ho⟩ F₁ N₁
    refine done (m₁ x) h tk ?_ N₁
    have hmap : (fun z => if z = x then m₁ x else m₀ z) = m₁ := by
      funext z; by_cases h1 : z = x <;> simp only [h1, if_true, if_false]
      exact (ho z h1).symm
    rw [hmap]; exact F₁
end
theorem off1_mem {D : Addr} : ∀ {l : List (Addr × Obj)}, LCg.Off1 D l → ∀ p ∈ l, p.1 ≠ D
  | [], _, _, h => nomatch h
  | _ :: _, x, p, h => by
    rcases List.mem_cons.mp h with rfl | h
    · exact x.1
    · exact off1_mem x.2 p h
theorem allLt_ne {D : Addr} {l : List (Addr × Obj)} (h : AllLt D l) : ∀ p ∈ l, p.1 ≠ D := fun p hp => Nat.ne_of_lt (ktn_ltOf h p hp)
theorem off1_lt {D : Addr} : ∀ {l : List (Addr × Obj)}, (∀ p ∈ l, p.1 < D) → LCg.Off1 D l
  | [], _ => trivial
  | _ :: _, h => ⟨Nat.ne_of_lt (h _ List.mem_cons_self), off1_lt fun p hp => h p (List.mem_cons_of_mem _ hp)⟩
theorem upd_off {d : Addr} {o o' : Obj} {l l' : List (Addr × Obj)} (U : Upd d o o' l l') : ∀ p ∈ l, p.1 ≠ d → p ∈ l' := by
  induction U with
  | head _ => intro p hp hd; rcases List.mem_cons.mp hp with rfl | hp; exact absurd rfl hd; exact List.mem_cons_of_mem _ hp
  | tail _ _ ih => intro p hp hd; rcases List.mem_cons.mp hp with rfl | hp; exact List.mem_cons_self; exact List.mem_cons_of_mem _ (ih p hp hd)
theorem upd_new {d : Addr} {o o' : Obj} {l l' : List (Addr × Obj)} (U : Upd d o o' l l') : (d, o') ∈ l' := by
  induction U with
  | head _ => exact List.mem_cons_self
  | tail _ _ ih => exact List.mem_cons_of_mem _ ih
theorem upd_old {d : Addr} {o o' : Obj} {l l' : List (Addr × Obj)} (U : Upd d o o' l l') : (d, o) ∈ l := by
  induction U with
  | head _ => exact List.mem_cons_self
  | tail _ _ ih => exact List.mem_cons_of_mem _ ih
theorem notin_topK {prog : Program} {w : World} {A : Around} {E : Value → Shared → Prop} {s : Shared} {h₀ : Heap} {L : Addr} {m : Str → Option Value} {K : Frag} {a : Addr} {items : Array Value} {n : Nat} {ns : List Int} {x : Int} {u : Tok} {Q : Value → Shared → Prop}
    (F : Fr h₀ L s.heap m) (X : K.In h₀) (ho : K.lookup a = some { cls := .type "tuple", data := .seq items n }) (hi : IntsAre items.toList ns) (h : Q (.bool (!(ns.any (· == x)))) s) :
    wpAny (model prog w) A (compareOp .NotIn (.int x u) (.ref a)) Q E s :=
  notin_tuple_ints ⟨_, F.keep _ _ (X _ _ ho), rfl, n, rfl⟩ hi h
theorem off1_of {D : Addr} : ∀ {l : List (Addr × Obj)}, (∀ p ∈ l, p.1 ≠ D) → LCg.Off1 D l
  | [], _ => trivial
  | _ :: _, h => ⟨h _ List.mem_cons_self, off1_of fun p hp => h p (List.mem_cons_of_mem _ hp)⟩
theorem bitAnd_nn {x y : Int} (hx : 0 ≤ x) (hy : 0 ≤ y) : Builtin.bitAnd x y = ((x.toNat &&& y.toNat : Nat) : Int) := by
  unfold Builtin.bitAnd
  rw [decide_eq_true hx, decide_eq_true hy]
theorem bitOr_nn {x y : Int} (hx : 0 ≤ x) (hy : 0 ≤ y) : Builtin.bitOr x y = ((x.toNat ||| y.toNat : Nat) : Int) := by
  unfold Builtin.bitOr
  have n1 : ∀ z : Int, Builtin.bitNot z = -z - 1 := fun z => by unfold Builtin.bitNot; omega
  have n2 : ∀ z : Int, Builtin.bitNot (Builtin.bitNot z) = z := fun z => by rw [n1, n1]; omega
  have hx' : ¬ (0 ≤ Builtin.bitNot x) := by rw [n1]; omega
  have hy' : ¬ (0 ≤ Builtin.bitNot y) := by rw [n1]; omega
  unfold Builtin.bitAnd
  rw [decide_eq_false hx', decide_eq_false hy']
  simp only
  rw [n2, n2, n2]
theorem xor_and_nat : ∀ (n a b : Nat), a < n → (a ^^^ b) + 2 * (a &&& b) = a + b
  | 0, _, _, h => absurd h (Nat.not_lt_zero _)
  | n + 1, a, b, h => by
    by_cases ha : a = 0
    · subst ha; simp
    · have ih := xor_and_nat n (a / 2) (b / 2) (by omega)
      have x1 : (a ^^^ b) / 2 = a / 2 ^^^ b / 2 := Nat.xor_div_two
      have x2 : (a ^^^ b) % 2 = (a + b) % 2 := by
        have q := Nat.xor_mod_two_eq_one (a := a) (b := b)
        rcases Nat.mod_two_eq_zero_or_one (a ^^^ b) with z | z <;> rcases Nat.mod_two_eq_zero_or_one a with e | e <;> rcases Nat.mod_two_eq_zero_or_one b with f | f <;> rw [z, e, f] at q <;>
          first | exact absurd q (by decide) | (rw [z, Nat.add_mod, e, f])
      have y1 : (a &&& b) / 2 = a / 2 &&& b / 2 := Nat.and_div_two
      have y2 : (a &&& b) % 2 = (a % 2) &&& (b % 2) := Nat.and_mod_two_pow (n := 1)
      have y3 : (a % 2) &&& (b % 2) = (a % 2) * (b % 2) := by
        rcases Nat.mod_two_eq_zero_or_one a with e | e <;> rcases Nat.mod_two_eq_zero_or_one b with f | f <;> rw [e, f] <;> rfl
      have y4 : (a % 2) * (b % 2) = if a % 2 = 1 ∧ b % 2 = 1 then 1 else 0 := by
        rcases Nat.mod_two_eq_zero_or_one a with e | e <;> rcases Nat.mod_two_eq_zero_or_one b with f | f <;> rw [e, f] <;> rfl
      rw [← x1, ← y1] at ih
      rw [y3, y4] at y2
      split at y2 <;> omega
theorem bitXor_nn {x y : Int} (hx : 0 ≤ x) (hy : 0 ≤ y) : Builtin.bitXor x y = ((x.toNat ^^^ y.toNat : Nat) : Int) := by
  rw [PyProof.Rows.bitXor_and, bitAnd_nn hx hy]
  have := xor_and_nat (x.toNat + 1) x.toNat y.toNat (Nat.lt_succ_self _)
  omega
theorem codes_nn {t : Str} {k : Nat} : 0 ≤ (codes t).getD k 0 := by
  unfold codes
  rw [List.getD_eq_getElem?_getD, List.getElem?_map]
  cases t.cps.toList[k]? with
  | none => exact Int.le_refl _
  | some c => exact Int.natCast_nonneg c
theorem fmod_emod {a b : Int} (h : 0 < b) : a.fmod b = a % b := Int.fmod_eq_emod_of_nonneg a (Int.le_of_lt h)
def Bits (b : Int) : Prop := b = 1 ∨ b = 2 ∨ b = 4 ∨ b = 8
@[irreducible] def plc (off bits : Int) : Int := off.fdiv (Int.fdiv 8 bits)
@[irreducible] def shf (off bits : Int) : Int := off.fmod (Int.fdiv 8 bits) * bits
theorem plc_shf {off bits : Int} (hb : Bits bits) (h8 : bits < 8) (h0 : 0 ≤ off) (h12 : off ≤ 12) : 0 ≤ plc off bits ∧ plc off bits ≤ 6 ∧ 0 ≤ shf off bits ∧ shf off bits + bits ≤ 8 ∧ 1 ≤ bits ∧ bits ≤ 4 := by
  unfold plc shf
  rcases hb with rfl | rfl | rfl | rfl
  · rw [show Int.fdiv 8 1 = 8 by decide, fmod_emod (b := 8) (by decide), Int.fdiv_eq_ediv_of_nonneg _ (by decide)]; omega
  · rw [show Int.fdiv 8 2 = 4 by decide, fmod_emod (b := 4) (by decide), Int.fdiv_eq_ediv_of_nonneg _ (by decide)]; omega
  · rw [show Int.fdiv 8 4 = 2 by decide, fmod_emod (b := 2) (by decide), Int.fdiv_eq_ediv_of_nonneg _ (by decide)]; omega
  · omega
/-- a row made as long as asked, by noughts -/
@[irreducible] def pad (ns : List Int) (many : Int) : List Int := ns ++ List.replicate (many - ns.length).toNat 0
theorem pad_len (ns : List Int) {many : Int} (h : 0 ≤ many) : many ≤ (pad ns many).length ∧ (ns.length : Int) ≤ (pad ns many).length ∧ (((pad ns many).length : Int) = many ∨ (pad ns many).length = ns.length) := by
  unfold pad
  rw [List.length_append, List.length_replicate]
  omega
/-- the number that vec_get reads off a row of octets -/
def vget (o : List Int) (off bits : Int) : Int :=
  if bits < 8 then (if plc off bits < (o.length : Int) then Builtin.bitAnd ((o.getD (plc off bits).toNat 0).fdiv (2 ^ (shf off bits).toNat)) (1 * 2 ^ bits.toNat - 1) else 0)
  else (if off < (o.length : Int) then o.getD off.toNat 0 else 0)

/-- the octet that vec_set lays where a number of few bits stands -/
def vput (o sh bits val : Int) : Int := Builtin.bitOr (Builtin.bitAnd o (Builtin.bitNot ((1 * 2 ^ bits.toNat - 1) * 2 ^ sh.toNat))) (Builtin.bitAnd val (1 * 2 ^ bits.toNat - 1) * 2 ^ sh.toNat)
/-- the row of octets that vec_set makes -/
def vset (o : List Int) (off bits val : Int) : List Int :=
  if bits < 8 then (pad o (plc off bits + 1)).set (plc off bits).toNat (vput ((pad o (plc off bits + 1)).getD (plc off bits).toNat 0) (shf off bits) bits val)
  else (pad o (off + 1)).set off.toNat val
def Oct (k : Int) : Prop := 0 ≤ k ∧ k ≤ 255
theorem codes_oct {t : Str} (h : ∀ c ∈ codes t, c ≤ 255) : ∀ c ∈ codes t, Oct c := fun c hc => ⟨by
  unfold codes at hc
  obtain ⟨n, _, rfl⟩ := List.mem_map.mp hc
  exact Int.natCast_nonneg n, h c hc⟩
theorem pad_oct {o : List Int} {n : Int} (h : ∀ c ∈ o, Oct c) : ∀ c ∈ pad o n, Oct c := by
  unfold pad
  intro c hc
  rcases List.mem_append.mp hc with hc | hc
  · exact h c hc
  · rw [List.eq_of_mem_replicate hc]; exact ⟨by decide, by decide⟩
theorem getD_oct {o : List Int} {i : Nat} (h : ∀ c ∈ o, Oct c) : Oct (o.getD i 0) := by
  rw [List.getD_eq_getElem?_getD]
  cases e : o[i]? with
  | none => exact ⟨by decide, by decide⟩
  | some c => exact h c (List.mem_of_getElem? e)
theorem set_oct {o : List Int} {i : Nat} {v : Int} (h : ∀ c ∈ o, Oct c) (hv : Oct v) : ∀ c ∈ o.set i v, Oct c := by
  intro c hc
  rcases List.mem_or_eq_of_mem_set hc with hc | rfl
  · exact h c hc
  · exact hv
theorem bitAnd_not {x y : Int} (hx : 0 ≤ x) (hy : 0 ≤ y) : Builtin.bitAnd x (Builtin.bitNot y) = x - ((x.toNat &&& y.toNat : Nat) : Int) := by
  have n1 : ∀ z : Int, Builtin.bitNot z = -z - 1 := fun z => by unfold Builtin.bitNot; omega
  have n2 : Builtin.bitNot (Builtin.bitNot y) = y := by rw [n1, n1]; omega
  have hy' : ¬ (0 ≤ Builtin.bitNot y) := by rw [n1]; omega
  unfold Builtin.bitAnd
  rw [decide_eq_true hx, decide_eq_false hy']
  simp only
  rw [n2]
theorem pow_one_sub {b : Int} (hb : Bits b) : (1 * 2 ^ b.toNat - 1 : Int) = ((2 ^ b.toNat - 1 : Nat) : Int) := by
  rcases hb with rfl | rfl | rfl | rfl <;> decide
theorem mask_of {bits val : Int} (hb : Bits bits) (h0 : 0 ≤ val) (h1 : val < 2 ^ bits.toNat) : Builtin.bitAnd val (1 * 2 ^ bits.toNat - 1) = val := by
  rw [Int.one_mul, PySem.W.kbt_mask]
  exact Int.emod_eq_of_lt h0 h1
theorem vput_oct {o sh bits val : Int} (ho : Oct o) (hb : Bits bits) (hs0 : 0 ≤ sh) (hs : sh + bits ≤ 8) (h0 : 0 ≤ val) (h1 : val < 2 ^ bits.toNat) : Oct (vput o sh bits val) := by
  unfold vput
  rw [mask_of hb h0 h1, pow_one_sub hb]
  obtain ⟨a, rfl⟩ := Int.eq_ofNat_of_zero_le ho.1
  obtain ⟨v, rfl⟩ := Int.eq_ofNat_of_zero_le h0
  obtain ⟨s, rfl⟩ := Int.eq_ofNat_of_zero_le hs0
  have ha : a < 256 := by have := ho.2; omega
  have e2 : ((2 : Int) ^ ((s : Int)).toNat) = ((2 ^ s : Nat) : Int) := by rw [Int.toNat_natCast]; exact (PySem.W.kbt_cast s).symm
  rw [e2, ← Int.natCast_mul, bitAnd_not (Int.natCast_nonneg _) (Int.natCast_nonneg _)]
  rw [Int.toNat_natCast, Int.toNat_natCast]
  generalize (2 ^ bits.toNat - 1) * 2 ^ s = mk
  have hle : a &&& mk ≤ a := Nat.and_le_left
  have e3 : ((a : Int) - ((a &&& mk : Nat) : Int)) = ((a - (a &&& mk) : Nat) : Int) := by omega
  rw [e3, ← Int.natCast_mul, bitOr_nn (Int.natCast_nonneg _) (Int.natCast_nonneg _), Int.toNat_natCast, Int.toNat_natCast]
  have hv : v * 2 ^ s < 2 ^ 8 := by
    have h1' : v < 2 ^ bits.toNat := by
      have q := h1
      rw [show ((2 : Int) ^ bits.toNat) = ((2 ^ bits.toNat : Nat) : Int) from (PySem.W.kbt_cast _).symm] at q
      exact Int.ofNat_lt.mp q
    have hsb : bits.toNat + s ≤ 8 := by
      have hb1 : 1 ≤ bits := by rcases hb with rfl | rfl | rfl | rfl <;> decide
      omega
    calc v * 2 ^ s < 2 ^ bits.toNat * 2 ^ s := Nat.mul_lt_mul_of_pos_right h1' (Nat.two_pow_pos s)
      _ = 2 ^ (bits.toNat + s) := (Nat.pow_add ..).symm
      _ ≤ 2 ^ 8 := Nat.pow_le_pow_right (by decide) hsb
  have ho' : a - (a &&& mk) < 2 ^ 8 := by omega
  have q := Nat.or_lt_two_pow ho' hv
  exact ⟨Int.natCast_nonneg _, by omega⟩
theorem txt_join (ns : List Int) : Str.join Str.empty (ns.map fun k => (⟨#[k.toNat]⟩ : Str)) = txt ns := by
  induction ns with
  | nil => rfl
  | cons k r ih =>
    have e : ∀ l : List Int, txt (k :: l) = (⟨#[k.toNat]⟩ : Str) ++ txt l := fun l => by
      refine Str.ext' (Array.toList_inj.mp ?_)
      rw [Str.cps_append, Array.toList_append]
      rfl
    rw [e, ← ih, List.map_cons]
    cases r with
    | nil =>
      show (⟨#[k.toNat]⟩ : Str) = (⟨#[k.toNat]⟩ : Str) ++ Str.empty
      exact (Str.append_empty _).symm
    | cons j r =>
      rw [List.map_cons]
      show (⟨#[k.toNat]⟩ : Str) ++ Str.empty ++ _ = _
      rw [Str.append_empty]
theorem codes_txt {o : List Int} (h : ∀ c ∈ o, Oct c) : codes (txt o) = o := by
  unfold codes txt
  show ((o.map Int.toNat).toArray.toList.map fun (c : Nat) => (c : Int)) = o
  rw [show (o.map Int.toNat).toArray.toList = o.map Int.toNat from rfl, List.map_map]
  exact (List.map_congr_left (g := _root_.id) fun c hc => Int.toNat_of_nonneg (h c hc).1).trans (List.map_id _)
def lawRest : List Int := [2, 3, 2, 9, 7, 5, 4, 15, 2, 2, 3, 11, 6, 2, 7]
def pegAt (ns : List Int) (k : Int) : Int := if k ≤ ns.length then ns.getD (k - 1).toNat 0 else lawRest.getD ((k - 1) % 15).toNat 0

/-- the pairs that the law draws: n turns from the k-th peg on, behind those already found -/
def pairsGo (ns : List Int) (bits : Int) : Nat → Int → List (Int × Int) → List (Int × Int)
  | 0, _, l => l
  | n + 1, k, l => pairsGo ns bits n (k + 2) (if (l.map Prod.fst).any (· == pegAt ns (k + 1) % 12) = true then l else l ++ [(pegAt ns (k + 1) % 12, pegAt ns (k + 2) % 2 ^ bits.toNat)])
/-- the numbers that the pairs say, place by place -/
def dueO (ps : List (Int × Int)) : List Int := ps.foldl (fun row p => row.set p.1.toNat p.2) (List.replicate 13 0)
/-- the row of octets that the pairs, laid one behind the other, make -/
def laidO (bits : Int) (ps : List (Int × Int)) : List Int := ps.foldl (fun o p => vset o p.1 bits p.2) []
def PairOk (bits : Int) (p : Int × Int) : Prop := 0 ≤ p.1 ∧ p.1 ≤ 11 ∧ 0 ≤ p.2 ∧ p.2 < 2 ^ bits.toNat
theorem vset_len {o : List Int} {off bits val : Int} (hb : Bits bits) (h0 : 0 ≤ off) (h1 : off ≤ 11) (ho : o.length ≤ 12) : (vset o off bits val).length ≤ 12 := by
  unfold vset
  split
  · rename_i h8
    obtain ⟨a1, a2, _⟩ := plc_shf hb h8 h0 (by omega)
    have q := pad_len o (many := plc off bits + 1) (by omega)
    rw [List.length_set]; omega
  · have q := pad_len o (many := off + 1) (by omega)
    rw [List.length_set]; omega
theorem vset_oct {o : List Int} {off bits val : Int} (hb : Bits bits) (h0 : 0 ≤ off) (h1 : off ≤ 11) (hv0 : 0 ≤ val) (hv1 : val < 2 ^ bits.toNat) (ho : ∀ c ∈ o, Oct c) : ∀ c ∈ vset o off bits val, Oct c := by
  unfold vset
  split
  · rename_i h8
    obtain ⟨a1, a2, a3, a4, _⟩ := plc_shf hb h8 h0 (by omega)
    exact set_oct (pad_oct ho) (vput_oct (getD_oct (pad_oct ho)) hb a3 a4 hv0 hv1)
  · rename_i h8
    obtain rfl : bits = 8 := by rcases hb with rfl | rfl | rfl | rfl <;> omega
    exact set_oct (pad_oct ho) ⟨hv0, by have q : val < 256 := hv1; omega⟩
theorem laidO_ok {bits : Int} (hb : Bits bits) : ∀ (ps : List (Int × Int)) (o : List Int), (∀ p ∈ ps, PairOk bits p) → (∀ c ∈ o, Oct c) → o.length ≤ 12 →
    (∀ c ∈ ps.foldl (fun o p => vset o p.1 bits p.2) o, Oct c) ∧ (ps.foldl (fun o p => vset o p.1 bits p.2) o).length ≤ 12
  | [], _, _, h1, h2 => ⟨h1, h2⟩
  | p :: r, o, hp, h1, h2 => by
    obtain ⟨a1, a2, a3, a4⟩ := hp p List.mem_cons_self
    exact laidO_ok hb r _ (fun q hq => hp q (List.mem_cons_of_mem _ hq)) (vset_oct hb a1 a2 a3 a4 h1) (vset_len hb a1 a2 h2)
theorem pairsGo_step {ns : List Int} {bits K : Int} {n i : Nat} {ps : List (Int × Int)} (h : i < n) : pairsGo ns bits (n - i) K ps =
    pairsGo ns bits (n - (i + 1)) (K + 1 + 1) (if (ps.map Prod.fst).any (fun x => x == pegAt ns (K + 1) % 12) = true then ps else ps ++ [(pegAt ns (K + 1) % 12, pegAt ns (K + 1 + 1) % 2 ^ bits.toNat)]) := by
  have e : n - i = (n - (i + 1)) + 1 := by omega
  rw [e, show K + 1 + 1 = K + 2 by omega]
  rfl
def bitsO (f : Int → Int → Int) (n : Nat) (a b : List Int) : List Int := (List.range n).map fun k => f (a.getD k 0) (b.getD k 0)
theorem bitsO_len (f : Int → Int → Int) (n : Nat) (a b : List Int) : (txt (bitsO f n a b)).length = n := by
  unfold txt bitsO Str.length
  simp only [List.size_toArray, List.length_map, List.length_range]
theorem bitsO_snoc {f : Int → Int → Int} {i : Nat} {a b : List Int} {O : Str} (h : O = txt (bitsO f i a b)) : txt (bitsO f (i + 1) a b) = O ++ (⟨#[(f (a.getD i 0) (b.getD i 0)).toNat]⟩ : Str) := by
  subst h
  have e : bitsO f (i + 1) a b = bitsO f i a b ++ [f (a.getD i 0) (b.getD i 0)] := by
    unfold bitsO
    rw [List.range_succ, List.map_append]
    rfl
  rw [e]
  refine Str.ext' ?_
  show _ = (txt _).cps ++ _
  simp [txt]
theorem item_code {x : Str} {i : Nat} (h : i < x.length) : (((Txt.item x (i : Int)).cps.getD 0 0 : Nat) : Int) = (codes x).getD i 0 := by
  rw [item_meets ⟨by omega, by omega⟩]
  unfold codes
  have hx : i < x.cps.size := h
  simp [hx]
theorem codes_out {x : Str} {i : Nat} (h : x.length ≤ i) : 0 = (codes x).getD i 0 := by
  rw [List.getD_eq_getElem?_getD, List.getElem?_eq_none (by rw [codes_length]; exact h)]
  rfl
theorem octD {x : Str} (h : ∀ c ∈ codes x, c ≤ 255) (i : Nat) : Oct ((codes x).getD i 0) := getD_oct (codes_oct h)
theorem oct0 : Oct 0 := ⟨by decide, by decide⟩
theorem oct_nat {n : Nat} (h : n < 2 ^ 8) : Oct (n : Int) := ⟨by omega, by omega⟩
theorem bitAnd_oct {a b : Int} (ha : Oct a) (hb : Oct b) : Oct (Builtin.bitAnd a b) := by
  obtain ⟨a0, a1⟩ := ha
  obtain ⟨b0, b1⟩ := hb
  rw [bitAnd_nn a0 b0]
  exact oct_nat (Nat.and_lt_two_pow _ (by omega))
theorem bitOr_oct {a b : Int} (ha : Oct a) (hb : Oct b) : Oct (Builtin.bitOr a b) := by
  obtain ⟨a0, a1⟩ := ha
  obtain ⟨b0, b1⟩ := hb
  rw [bitOr_nn a0 b0]
  exact oct_nat (Nat.or_lt_two_pow (by omega) (by omega))
theorem bitXor_oct {a b : Int} (ha : Oct a) (hb : Oct b) : Oct (Builtin.bitXor a b) := by
  obtain ⟨a0, a1⟩ := ha
  obtain ⟨b0, b1⟩ := hb
  rw [bitXor_nn a0 b0]
  exact oct_nat (Nat.xor_lt_two_pow (by omega) (by omega))
def Good (bits : Int) (ps : List (Int × Int)) : Prop := (∀ p ∈ ps, PairOk bits p) ∧ (ps.map Prod.fst).Nodup ∧ ps.length ≤ 5
theorem pairsGo_good {ns : List Int} {bits : Int} (hb : Bits bits) : ∀ (n : Nat) (k : Int) (l : List (Int × Int)), (∀ p ∈ l, PairOk bits p) → (l.map Prod.fst).Nodup →
    (∀ p ∈ pairsGo ns bits n k l, PairOk bits p) ∧ ((pairsGo ns bits n k l).map Prod.fst).Nodup ∧ (pairsGo ns bits n k l).length ≤ l.length + n
  | 0, _, _, h1, h2 => ⟨h1, h2, Nat.le_refl _⟩
  | n + 1, k, l, h1, h2 => by
    unfold pairsGo
    split
    · obtain ⟨a, b, c⟩ := pairsGo_good hb n (k + 2) l h1 h2
      exact ⟨a, b, by omega⟩
    · rename_i hn
      have hm0 : (0 : Int) < 2 ^ bits.toNat := by rcases hb with rfl | rfl | rfl | rfl <;> decide
      have h3 : ∀ p ∈ l ++ [(pegAt ns (k + 1) % 12, pegAt ns (k + 2) % 2 ^ bits.toNat)], PairOk bits p := by
        intro p hp
        rcases List.mem_append.mp hp with hp | hp
        · exact h1 p hp
        · rw [List.mem_singleton.mp hp]
          exact ⟨Int.emod_nonneg _ (by decide), by show pegAt ns (k + 1) % 12 ≤ 11; omega, Int.emod_nonneg _ (by omega), Int.emod_lt_of_pos _ hm0⟩
      have h4 : ((l ++ [(pegAt ns (k + 1) % 12, pegAt ns (k + 2) % 2 ^ bits.toNat)]).map Prod.fst).Nodup := by
        rw [List.map_append, List.nodup_append]
        refine ⟨h2, List.nodup_cons.mpr ⟨fun h => (nomatch h), List.nodup_nil⟩, fun a ha b hb e => ?_⟩
        rw [List.map_cons, List.map_nil, List.mem_singleton] at hb
        subst hb
        subst e
        exact hn (List.any_eq_true.mpr ⟨_, ha, by simp⟩)
      obtain ⟨a, b, c⟩ := pairsGo_good hb n (k + 2) _ h3 h4
      rw [List.length_append, List.length_singleton] at c
      exact ⟨a, b, by omega⟩
theorem pairs_good {ns : List Int} {bits k : Int} (hb : Bits bits) : Good bits (pairsGo ns bits (pegAt ns k % 6).toNat k []) := by
  obtain ⟨a, b, c⟩ := pairsGo_good (ns := ns) hb (pegAt ns k % 6).toNat k [] (fun p hp => nomatch hp) List.nodup_nil
  exact ⟨a, b, by rw [List.length_nil] at c; omega⟩
theorem laid_facts {bits : Int} {ps : List (Int × Int)} (hb : Bits bits) (h : Good bits ps) : codes (txt (laidO bits ps)) = laidO bits ps ∧ (∀ c ∈ codes (txt (laidO bits ps)), c ≤ 255) ∧ (txt (laidO bits ps)).length ≤ 12 := by
  obtain ⟨a, b⟩ := laidO_ok hb ps [] h.1 (fun c hc => nomatch hc) (by decide)
  have e := codes_txt a
  refine ⟨e, fun c hc => ?_, ?_⟩
  · rw [show txt (laidO bits ps) = txt (ps.foldl (fun o p => vset o p.1 bits p.2) []) from rfl, e] at hc
    exact (a c hc).2
  · rw [← codes_length, show txt (laidO bits ps) = txt (ps.foldl (fun o p => vset o p.1 bits p.2) []) from rfl, e]
    exact b
section
variable {prog : Program} {w : World} {A : Around} {E : Value → Shared → Prop} {s : Shared} {h₀ : Heap} {env : Env} {target : PySem.Expr} {body : List Stmt} {Q : Flow → Shared → Prop}
theorem postW_mono {L : Addr} {s₁ : Shared} {its : List (Addr × Obj)} {R R' : (Str → Option Value) → List (Addr × Obj) → Prop} (hR : ∀ m n, R m n → R' m n) {f : Flow} {s₂ : Shared} (h : UnrPostW h₀ L s₁ its R Q f s₂) : UnrPostW h₀ L s₁ its R' Q f s₂ := by
  have e : UnrEndW h₀ L s₁ its R s₂ → UnrEndW h₀ L s₁ its R' s₂ := fun ⟨h', tk, m', news', e, F', N', o, r⟩ => ⟨h', tk, m', news', e, F', N', o, hR _ _ r⟩
  cases f with
  | ret v => exact h
  | brk => exact h
  | next => exact e h
  | cont => exact e h

/-- a loop over a list of the ledger by a word of what is still to come, the frame and the ledger -/
theorem list_inv {ax : Addr} {lo : Obj} {vs : List Value} {n : Nat} {m₀ : Str → Option Value} {news : List (Addr × Obj)}
    (hh : A.handled = none) (F : Fr h₀ env.locals s.heap m₀) (N : News h₀ env.locals s.heap news) (hm : (ax, lo) ∈ news) (hc : lo.cls = .type "list") (hd : lo.data = .seq vs.toArray n)
    (Inv : List Value → (Str → Option Value) → List (Addr × Obj) → Prop) (h0 : Inv vs m₀ news)
    (turn : ∀ I oI v r m₁ news₁ h tk, Inv (v :: r) m₁ news₁ → (ax, lo) ∈ news₁ → LCg.Off1 I news₁ → Fr h₀ env.locals h m₁ → News h₀ env.locals h ((I, oI) :: news₁) →
      wpAny (model prog w) A (assign target env v) (fun _ s₂ => wpAny (model prog w) A (execs body env)
        (UnrPostW h₀ env.locals { s with heap := h, toks := tk } [(I, oI)] (fun m' n' => ((ax, lo) ∈ n' ∧ LCg.Off1 I n') ∧ Inv r m' n') Q) E s₂) E { s with heap := h, toks := tk })
    (done : ∀ m₁ news₁ h tk, Inv [] m₁ news₁ → (ax, lo) ∈ news₁ → Fr h₀ env.locals h m₁ → News h₀ env.locals h news₁ → Q .next { s with heap := h, toks := tk }) :
    wpAny (model prog w) A (pyIter (.ref ax)) (fun it s₂ => TurnsAt prog w A h₀ env target body Q E it s₂) E s := by
  refine iter_listTurns hh F N hm hc hd fun I hI => ?_
  have key : ∀ (r : List Value) (m₁ : Str → Option Value) (news₁ : List (Addr × Obj)), Inv r m₁ news₁ → (ax, lo) ∈ news₁ → LCg.Off1 I news₁ →
      ItemsRest prog w A E h₀ env target body Q s [(I, "list_iterator")] [(ax, lo)] (r.map .val) m₁ news₁ := by
    intro r
    induction r with
    | nil => intro m₁ news₁ hi hx _; exact ItemsRest.zero fun h tk F' N' => done m₁ news₁ h tk hi hx F' N'
    | cons v r ih =>
      intro m₁ news₁ hi hx ho
      refine ItemsRest.val fun h tk F' => AllObj.cons fun oI _ => AllObj.nil fun N' => ?_
      refine wpAny_mono (turn I oI v r m₁ news₁ h tk hi hx ho F' N') (fun _ s₂ h₂ => wpAny_mono h₂ (fun f s₃ h₃ => postW_mono (fun m n q => ?_) h₃) fun _ _ e => e) fun _ _ e => e
      exact ⟨⟨q.1.1, trivial⟩, ih m n q.2 q.1.1 q.1.2⟩
  exact key vs m₀ news h0 hm (off1_lt hI)
end

theorem ext_any {prog : Program} {w : World} {A : Around} {E : Value → Shared → Prop} {s : Shared} {h₀ : Heap} {L D b : Addr} {m : Str → Option Value} {news : List (Addr × Obj)} {news' : Nat → List (Addr × Obj)} {its its2 : Array Value} {n n2 : Nat} {l : List Value}
    {Q : Value → Shared → Prop} (F : Fr h₀ L s.heap m) (N : News h₀ L s.heap news) (hb : (b, listOf its2 n2) ∈ news) (e : its.toList ++ its2.toList = l)
    (U : ∀ n', Upd D (listOf its n) (listOf l.toArray n') news (news' n')) (hz : its.size + its2.size ≤ sizeLine)
    (h : ∀ n' h', Fr h₀ L h' m → News h₀ L h' (news' n') → Q .none { s with heap := h' }) : wpAny (model prog w) A (call (.builtin "list.extend") [.ref D, .ref b]) Q E s := by
  have hd : ¬(!its.isEmpty && Builtin.List.listTooLong (its.size + its2.size)) = true := by
    unfold Builtin.List.listTooLong
    intro q
    have q' := (Bool.and_eq_true_iff.mp q).2
    have := of_decide_eq_true q'
    omega
  have hz1 : its.toList.length ≤ sizeLine := by rw [Array.length_toList]; omega
  by_cases he : its2.toList = []
  · refine kxn_extend (n := n) F N hb he (news' := news' n) ?_ hd hz1 (by omega) (h n)
    have e' : l.toArray = its := by rw [← e, he, List.append_nil]
    have U' := U n
    rw [e'] at U'
    exact U'
  · exact kl_extend F N hb e (fun q => he (List.eq_nil_of_length_eq_zero q)) (U (n + 1)) hd hz1 (by omega) (h (n + 1))
/-- a comprehension of texts over a list of ints of the ledger -/
theorem rest_strs {prog : Program} {w : World} {A : Around} {h₀ : Heap} {L : Addr} {m : Str → Option Value} {env : Env} {s : Shared} {elt : PySem.Expr} {x : Str} {scope : Scope} {cl : List (Str × Addr)} {S : List (Addr × Obj) → Prop} {Fin : List Value → List (Addr × Obj) → Prop} {news : List (Addr × Obj)}
    {vs : List Value} {ns : List Int} (g : Int → Str) (hi : IntsAre vs ns)
    (turn : ∀ k t I oI C oC D m₂ ys h tk (E' : Value → Shared → Prop), k ∈ ns → LCg.NsObj oC m₂ → m₂ x = some (.int k t) → Fr h₀ L h m → News h₀ L h ((I, oI) :: (C, oC) :: (D, LCg.lst ys) :: news) → LCg.Off3 I C D news → ((@Ne Nat I C) ∧ (@Ne Nat I D) ∧ (@Ne Nat C D)) →
      wpAny (model prog w) A (eval elt (compEnvC scope cl C env)) (LCg.CompEnd h₀ L m { s with heap := h, toks := tk } I oI C oC D (LCg.lst ys) S (fun y news' => KCtEl news (g k) y news')) E' { s with heap := h, toks := tk })
    (fin : KPfDone (∀ ys, StrsAre ys (ns.map g) → Fin ys news)) : LCg.CompRest prog w A h₀ L m env elt x scope cl s S (fun i v => vs.toArray[i]? = some v) Fin vs.toArray.size 0 [] news := by
  unfold KPfDone at fin
  have hks : ns.length = vs.toArray.size := by rw [List.size_toArray]; exact hi.length.symm
  have key : ∀ (j i : Nat) (ys : List Value), i + j = vs.toArray.size → StrsAre ys ((ns.take i).map g) → LCg.CompRest prog w A h₀ L m env elt x scope cl s S (fun i v => vs.toArray[i]? = some v) Fin j i ys news := by
    intro j
    induction j with
    | zero =>
      intro i ys h1 hy
      have e : i = ns.length := by omega
      subst e
      rw [List.take_length] at hy
      exact LCg.CompRest.zero (fin ys hy)
    | succ j ih =>
      intro i ys h1 hy
      refine LCg.CompRest.succ ?_
      intro v I oI C oC D m₂ h tk E' hv hC hx F N off ne
      obtain ⟨k, t, e, hk⟩ := IntsAre.at hi i v (by simpa using hv)
      rw [e] at hx
      refine wpAny_mono (turn k t I oI C oC D m₂ ys h tk E' (List.mem_of_getElem? hk) hC hx F N off ne) (fun y s₂ hq => ?_) fun _ _ e => e
      obtain ⟨h', tk', nw, e, F', N', off', hS, hn, t', hy'⟩ := hq
      rw [hn] at N' off' hS
      refine ⟨h', tk', news, e, F', N', off', hS, ?_⟩
      rw [hy']
      refine ih (i + 1) _ (by omega) ?_
      rw [List.take_add_one, hk]
      simpa using strs_snoc (t := t') hy
  exact key _ 0 [] (by omega) (by simp only [List.take_zero, List.map_nil]; exact .nil)

theorem txt_glued (sep : Str) (ys : List Str) : PySem.Txt.join sep ys = Str.join sep ys := by
  exact StrLaws.glued_eq_join sep ys
theorem join_txt {prog : Program} {w : World} {A : Around} {E : Value → Shared → Prop} {s : Shared} {t : Tok} {Q : Value → Shared → Prop} {D : Addr} {ys : List Value} {ns : List Int} (hl : s.heap.IsList D ys.toArray) (hi : StrsAre ys (ns.map fun k => (⟨#[k.toNat]⟩ : Str))) (hn : ns.length ≤ 1000)
    (h : ∀ t' k, Q (.str (txt ns) t') { s with toks := k }) : wpAny (model prog w) A (call (.builtin "str.join") [.str (Str.ofString "") t, .ref D]) Q E s := by
  have e0 : Str.ofString "" = Str.empty := by decide +kernel
  have e1 : ((ns.map fun k => (⟨#[k.toNat]⟩ : Str)).map (·.length)).sum = ns.length := by
    clear hi hn h
    induction ns with
    | nil => rfl
    | cons k r ih =>
      rw [List.map_cons, List.map_cons, List.sum_cons, ih, List.length_cons, Nat.add_comm]
      rfl
  refine join_list (ys := ns.map fun k => (⟨#[k.toNat]⟩ : Str)) hl hi ?_ ?_
  · rw [e1, e0, show Str.empty.length = 0 from rfl, Nat.mul_zero]; omega
  · intro t' k
    rw [show PySem.Txt.join (Str.ofString "") (ns.map fun k => (⟨#[k.toNat]⟩ : Str)) = txt ns by rw [e0, txt_glued]; exact txt_join ns]
    exact h t' k

/-- a loop over range(b) whose turns may make things that stay -/
theorem range_grow {prog : Program} {w : World} {A : Around} {E : Value → Shared → Prop} {s : Shared} {env : Env} {h₀ : Heap} {x : Str} {body : List Stmt} {Q : Flow → Shared → Prop} {r : Addr} {b₀ : Int} {t₀ u₀ v₀ : Tok} {n : Nat} {m₀ : Str → Option Value} {news : List (Addr × Obj)}
    (hh : A.handled = none) (hr : IsRange s.heap r 0 b₀ 1 t₀ u₀ v₀) (hb0 : 0 ≤ b₀) (hb1 : b₀ ≤ 100) (hn : b₀.toNat = n) (F : Fr h₀ env.locals s.heap m₀) (N : News h₀ env.locals s.heap news)
    (J : Nat → (Str → Option Value) → List (Addr × Obj) → Prop) (hj : J 0 m₀ news)
    (turn : ∀ (i : Nat) t m₁ nx h tk own, i < n → OwnOff own (nx.map (·.1)) → J i m₁ nx → Fr h₀ env.locals h (fun y => if y = x then some (.int (i : Int) t) else m₁ y) → News h₀ env.locals h (nx ++ own) →
      wpAny (model prog w) A (execs body env) (InvPostG h₀ env.locals (J (i + 1)) own { s with heap := h, toks := tk } Q) E { s with heap := h, toks := tk })
    (done : ∀ m₁ nx h tk, J n m₁ nx → Fr h₀ env.locals h m₁ → News h₀ env.locals h nx → Q .next { s with heap := h, toks := tk }) :
    wpAny (model prog w) A (pyIter (.ref r)) (fun it s₂ => LoopAtV prog w A h₀ env x body Q E it s₂) E s := by
  have hsz : Builtin.Range.rangeSize 0 b₀ 1 = (n : Int) := by rw [rangeSize_nat, Int.sub_zero, hn]
  refine wpAny_pyIter_range hr (small_one (by omega) (by omega) (by omega) (by omega)) ?_
  have W : Walks prog w A s.heap.objs.size [s.heap.objs.size] [s.heap.objs.size] n (fun i v => i < n ∧ ∃ t, v = .int (0 + i * 1) t)
      (fun i h => IsRangeIter h s.heap.objs.size (0 + (i : Nat) * 1) ((n : Int) - (i : Nat)) 1) := (Walks.range hh _ 0 1 n).bound
  refine kdr_loop J W (fun _ h => h) (fun _ h => h) ?_ ?_ ?_ ?_ (by show IsRangeIter _ _ _ _ _; rw [hsz]; simpa using Heap.get?_push_size _ rfl) (F.push _) (fun p hp => ⟨Heap.get?_push_of_some _ (N p hp).1, (N p hp).2⟩) hj ?_ done
  · intro i h hi b hb
    rw [List.mem_singleton.mp hb]
    exact ⟨_, hi⟩
  · intro hm
    exact absurd F.ns.lt ((List.mem_singleton.mp hm) ▸ Nat.lt_irrefl _)
  · intro b hb
    rw [List.mem_singleton.mp hb]
    exact next_is_new F
  · intro p hp hI
    exact absurd (Heap.lt_size (N p hp).1) ((List.mem_singleton.mp hI) ▸ Nat.lt_irrefl _)
  · rintro i v m₁ nx h tk own hi ⟨_, t, rfl⟩ hoff hJ F₁ N₁
    have e1 : (0 : Int) + (i : Int) * 1 = (i : Int) := by omega
    rw [e1] at F₁
    exact turn i t m₁ nx h tk own hi hoff hJ F₁ N₁
theorem frame3u {a b c : Str} {m base : Str → Option Value} (h2 : ∀ y, y ≠ a → y ≠ b → y ≠ c → m y = base y) :
    m = fun y => if y = a then m y else if y = b then m y else if y = c then m y else base y := by
  funext y
  by_cases e1 : y = a
  · simp only [if_pos e1]
  · simp only [if_neg e1]
    by_cases e2 : y = b
    · simp only [if_pos e2]
    · simp only [if_neg e2]
      by_cases e3 : y = c
      · simp only [if_pos e3]
      · simp only [if_neg e3]; exact h2 y e1 e2 e3
theorem off1_app {D : Addr} {l l' : List (Addr × Obj)} (h : LCg.Off1 D l) (h' : LCg.Off1 D l') : LCg.Off1 D (l ++ l') := by
  induction l with
  | nil => exact h'
  | cons p r ih => exact ⟨h.1, ih h.2⟩
theorem off1_of_own {D : Addr} {own : List (Addr × Obj)} {adr : List Addr} (h : OwnOff own adr) (hD : D ∈ adr) : LCg.Off1 D own := by
  have q := OwnOff.ne h hD
  clear h
  induction own with
  | nil => trivial
  | cons p r ih => exact ⟨q p List.mem_cons_self, ih fun x hx => q x (List.mem_cons_of_mem _ hx)⟩
theorem frame3 {a b c : Str} {m base : Str → Option Value} {v : Value} (h1 : m a = some v) (h2 : ∀ y, y ≠ a → y ≠ b → y ≠ c → m y = base y) :
    m = fun y => if y = a then some v else if y = b then m y else if y = c then m y else base y := by
  funext y
  by_cases e1 : y = a
  · simp only [if_pos e1]; rw [e1, h1]
  · simp only [if_neg e1]
    by_cases e2 : y = b
    · simp only [if_pos e2]
    · simp only [if_neg e2]
      by_cases e3 : y = c
      · simp only [if_pos e3]
      · simp only [if_neg e3]; exact h2 y e1 e2 e3
abbrev tupOf (vs : Array Value) : Obj := { cls := .type "tuple", data := .seq vs }
/-- values that are tuples of two ints, borne by a ledger -/
inductive Prs (led : List (Addr × Obj)) : List Value → List (Int × Int) → Prop
  | nil : Prs led [] []
  | cons {a : Addr} {p n : Int} {t t' : Tok} {vs : List Value} {ps : List (Int × Int)} : (a, tupOf #[.int p t, .int n t']) ∈ led → Prs led vs ps → Prs led (.ref a :: vs) ((p, n) :: ps)
theorem Prs.mono {l l' : List (Addr × Obj)} {vs : List Value} {ps : List (Int × Int)} (h : Prs l vs ps) (hs : ∀ p ∈ l, p ∈ l') : Prs l' vs ps := by
  induction h with
  | nil => exact .nil
  | cons hm _ ih => exact .cons (hs _ hm) ih
theorem Prs.length {l : List (Addr × Obj)} {vs : List Value} {ps : List (Int × Int)} (h : Prs l vs ps) : vs.length = ps.length := by
  induction h with
  | nil => rfl
  | cons _ _ ih => rw [List.length_cons, List.length_cons, ih]
theorem Prs.append {l : List (Addr × Obj)} {vs ws : List Value} {ps qs : List (Int × Int)} (h : Prs l vs ps) (k : Prs l ws qs) : Prs l (vs ++ ws) (ps ++ qs) := by
  induction h with
  | nil => exact k
  | cons hm _ ih => exact .cons hm ih
theorem Prs.reverse {l : List (Addr × Obj)} {vs : List Value} {ps : List (Int × Int)} (h : Prs l vs ps) : Prs l vs.reverse ps.reverse := by
  induction h with
  | nil => exact .nil
  | cons hm _ ih =>
    rw [List.reverse_cons, List.reverse_cons]
    exact ih.append (.cons hm .nil)
theorem own_grow {T f q b l : Addr} {oq o_f ob ol o oq' of' ob' : Obj} {news tl own : List (Addr × Obj)} (h : OwnOff own (((q, oq) :: (f, o_f) :: (b, ob) :: (l, ol) :: (news ++ tl)).map (·.1))) (ht : OwnOff tl (b :: l :: news.map (·.1)))
    (hl : q < T ∧ f < T ∧ b < T ∧ l < T ∧ AllLt T (news ++ tl ++ own)) :
    OwnOff own (((q, oq') :: (f, of') :: (b, ob') :: (l, ol) :: (news ++ (T, o) :: tl)).map (·.1)) ∧ OwnOff ((T, o) :: tl) (b :: l :: news.map (·.1)) ∧ (LCg.Off1 f (news ++ tl) → LCg.Off1 f (news ++ (T, o) :: tl)) ∧ (LCg.Off1 q (news ++ tl) → LCg.Off1 q (news ++ (T, o) :: tl)) := by
  obtain ⟨h1, h2, h3, h4, h5⟩ := hl
  have h6 := ktn_ltOf h5
  refine ⟨fun p hp a ha => ?_, fun p hp a ha => ?_, fun hq => ?_, fun hq => ?_⟩
  · have k : a = T ∨ a ∈ ((q, oq) :: (f, o_f) :: (b, ob) :: (l, ol) :: (news ++ tl)).map (·.1) := by
      simp only [List.map_cons, List.map_append, List.mem_cons, List.mem_append] at ha ⊢
      rcases ha with e | e | e | e | e | e | e <;> simp only [e, true_or, or_true]
    rcases k with rfl | k
    · exact Nat.ne_of_lt (h6 p (List.mem_append_right _ hp))
    · exact h p hp a k
  · rcases List.mem_cons.mp hp with rfl | hp
    · rcases List.mem_cons.mp ha with rfl | ha
      · exact Nat.ne_of_gt h3
      · rcases List.mem_cons.mp ha with rfl | ha
        · exact Nat.ne_of_gt h4
        · obtain ⟨x, hx, rfl⟩ := List.mem_map.mp ha
          exact Nat.ne_of_gt (h6 x (List.mem_append_left _ (List.mem_append_left _ hx)))
    · exact ht p hp a ha
  · refine off1_of fun p hp => ?_
    rcases List.mem_append.mp hp with hp | hp
    · exact off1_mem hq p (List.mem_append_left _ hp)
    · rcases List.mem_cons.mp hp with rfl | hp
      · exact Nat.ne_of_gt h2
      · exact off1_mem hq p (List.mem_append_right _ hp)
  · refine off1_of fun p hp => ?_
    rcases List.mem_append.mp hp with hp | hp
    · exact off1_mem hq p (List.mem_append_left _ hp)
    · rcases List.mem_cons.mp hp with rfl | hp
      · exact Nat.ne_of_gt h1
      · exact off1_mem hq p (List.mem_append_right _ hp)
theorem off1_split {D : Addr} {A B : List (Addr × Obj)} (h : LCg.Off1 D (A ++ B)) : LCg.Off1 D A ∧ LCg.Off1 D B :=
  ⟨off1_of fun p hp => off1_mem h p (List.mem_append_left _ hp), off1_of fun p hp => off1_mem h p (List.mem_append_right _ hp)⟩
theorem mem_mid {x y z v T D : Addr × Obj} {news tl own : List (Addr × Obj)} : ∀ p ∈ x :: y :: z :: v :: (news ++ T :: tl), p ∈ T :: D :: x :: y :: z :: v :: ((news ++ tl) ++ own) := by
  intro p hp
  simp only [List.mem_cons, List.mem_append] at hp ⊢
  rcases hp with e | e | e | e | e | e | e <;> simp only [e, true_or, or_true]
theorem mem_own {x y z v T D : Addr × Obj} {A own : List (Addr × Obj)} : ∀ p ∈ own, p ∈ T :: D :: x :: y :: z :: v :: (A ++ own) := by
  intro p hp
  simp only [List.mem_cons, List.mem_append]
  simp only [hp, or_true]
theorem frame5 {a b c d e : Str} {m base : Str → Option Value} {v : Value} (h1 : m a = some v) (h2 : ∀ y, y ≠ a → y ≠ b → y ≠ c → y ≠ d → y ≠ e → m y = base y) :
    m = fun y => if y = a then some v else if y = b then m y else if y = c then m y else if y = d then m y else if y = e then m y else base y := by
  funext y
  by_cases e1 : y = a
  · simp only [if_pos e1]; rw [e1, h1]
  · simp only [if_neg e1]
    by_cases e2 : y = b
    · simp only [if_pos e2]
    · simp only [if_neg e2]
      by_cases e3 : y = c
      · simp only [if_pos e3]
      · simp only [if_neg e3]
        by_cases e4 : y = d
        · simp only [if_pos e4]
        · simp only [if_neg e4]
          by_cases e5 : y = e
          · simp only [if_pos e5]
          · simp only [if_neg e5]; exact h2 y e1 e2 e3 e4 e5
theorem frame6 {a b c d e f : Str} {m base : Str → Option Value} {v : Value} (h1 : m a = some v) (h2 : ∀ y, y ≠ a → y ≠ b → y ≠ c → y ≠ d → y ≠ e → y ≠ f → m y = base y) :
    m = fun y => if y = a then some v else if y = b then m y else if y = c then m y else if y = d then m y else if y = e then m y else if y = f then m y else base y :=
  (frame5 (base := fun y => if y = f then m y else base y) h1 fun y e1 e2 e3 e4 e5 => by
    by_cases e6 : y = f
    · simp only [if_pos e6]
    · simp only [if_neg e6]; exact h2 y e1 e2 e3 e4 e5 e6)
section
variable {prog : Program} {w : World} {A : Around} {E : Value → Shared → Prop} {s : Shared}
theorem item_tupI {value slice : PySem.Expr} {l : Addr} {vs : List Value} {ns : List Int} {i : Int} {u : Tok} {Q : Value → Shared → Prop} (ht : IsTup s.heap l vs.toArray) (hi : IntsAre vs ns) (h0 : 0 ≤ i) (h1 : i < (ns.length : Int)) (hfit : i < 2 ^ 63)
    (h : ∀ t', Q (.int (ns.getD i.toNat 0) t') s) (hs : subscripted slice false (.ref l) (.int i u) = operate [.ref l, .int i u] (getItem (.ref l) (.int i u)) := by with_unfolding_all rfl) :
    wpAny (model prog w) A (subscriptTail value slice (.ref l) (.int i u)) Q E s := by
  obtain ⟨t, hx⟩ := hi.get i.toNat _ (ints_getD h0 h1)
  have hn : i < ((vs.toArray.size : Nat) : Int) := by rw [List.size_toArray, hi.length]; exact h1
  exact tail_any ht.typeIs slot_tuple_getitem.lookup (getItem_tuple ht (by omega) hfit (seqIndex_of h0 hn) (x := .int _ t) (by simpa using hx) (h t)) hs
end
theorem rot2 {α : Type} {a b : α} {X : List α} : ∀ p ∈ a :: b :: X, p ∈ b :: a :: X := by
  intro p hp
  simp only [List.mem_cons] at hp ⊢
  rcases hp with e | e | e <;> simp only [e, true_or, or_true]
theorem rot3 {α : Type} {a b c : α} {X : List α} : ∀ p ∈ a :: b :: c :: X, p ∈ c :: a :: b :: X := by
  intro p hp
  simp only [List.mem_cons] at hp ⊢
  rcases hp with e | e | e | e <;> simp only [e, true_or, or_true]
theorem rot4 {α : Type} {a b c d : α} {X : List α} : ∀ p ∈ a :: b :: c :: d :: X, p ∈ b :: c :: d :: a :: X := by
  intro p hp
  simp only [List.mem_cons] at hp ⊢
  rcases hp with e | e | e | e | e <;> simp only [e, true_or, or_true]
theorem rot3b {α : Type} {a b c : α} {X : List α} : ∀ p ∈ a :: b :: c :: X, p ∈ b :: c :: a :: X := by
  intro p hp
  simp only [List.mem_cons] at hp ⊢
  rcases hp with e | e | e | e <;> simp only [e, true_or, or_true]
theorem Prs.at {l : List (Addr × Obj)} {vs : List Value} {ps : List (Int × Int)} (h : Prs l vs ps) : ∀ (i : Nat) (v : Value), vs[i]? = some v → ∃ a p n t t', v = .ref a ∧ (a, tupOf #[.int p t, .int n t']) ∈ l ∧ ps[i]? = some (p, n) := by
  induction h with
  | nil => intro i v h; simp at h
  | cons hm _ ih =>
    intro i v h
    cases i with
    | zero =>
      rw [List.getElem?_cons_zero] at h
      cases h
      exact ⟨_, _, _, _, _, rfl, hm, rfl⟩
    | succ i =>
      rw [List.getElem?_cons_succ] at h
      exact ih i v h
/-- a comprehension of the first parts over a list of pairs of the ledger -/
theorem rest_fst {prog : Program} {w : World} {A : Around} {h₀ : Heap} {L : Addr} {m : Str → Option Value} {env : Env} {s : Shared} {elt : PySem.Expr} {x x₂ : Str} {scope : Scope} {cl : List (Str × Addr)} {S : List (Addr × Obj) → Prop} {Fin : List Value → List (Addr × Obj) → Prop} {news : List (Addr × Obj)}
    {vs : List Value} {ps : List (Int × Int)} (hi : Prs news vs ps)
    (turn : ∀ p n t t' I oI C oC D m₂ ys h tk (E' : Value → Shared → Prop), LCg.NsObj oC m₂ → m₂ x = some (.int p t) → m₂ x₂ = some (.int n t') → Fr h₀ L h m → News h₀ L h ((I, oI) :: (C, oC) :: (D, LCg.lst ys) :: news) → LCg.Off3 I C D news → ((@Ne Nat I C) ∧ (@Ne Nat I D) ∧ (@Ne Nat C D)) →
      wpAny (model prog w) A (eval elt (compEnvC scope cl C env)) (LCg.CompEnd h₀ L m { s with heap := h, toks := tk } I oI C oC D (LCg.lst ys) S (fun y news' => news' = news ∧ ∃ t', y = .int p t')) E' { s with heap := h, toks := tk })
    (fin : KPfDone (∀ ys, IntsAre ys (ps.map Prod.fst) → Fin ys news)) : LCp.CompRestP prog w A h₀ L m env elt x x₂ scope cl s S (fun i v => vs.toArray[i]? = some v) Fin vs.toArray.size 0 [] news := by
  unfold KPfDone at fin
  have hks : ps.length = vs.toArray.size := by rw [List.size_toArray]; exact hi.length.symm
  have key : ∀ (j i : Nat) (ys : List Value), i + j = vs.toArray.size → IntsAre ys ((ps.take i).map Prod.fst) → LCp.CompRestP prog w A h₀ L m env elt x x₂ scope cl s S (fun i v => vs.toArray[i]? = some v) Fin j i ys news := by
    intro j
    induction j with
    | zero =>
      intro i ys h1 hy
      have e : i = ps.length := by omega
      subst e
      rw [List.take_length] at hy
      exact LCp.CompRestP.zero (fin ys hy)
    | succ j ih =>
      intro i ys h1 hy
      refine LCp.CompRestP.succ ?_
      intro v hv
      obtain ⟨a, p, n, t, t', e, hm, hk⟩ := Prs.at hi i v (by simpa using hv)
      refine ⟨a, _, _, _, _, e, hm, rfl, rfl, ?_⟩
      intro I oI C oC D m₂ h tk E' hC hx hx2 F N off ne
      refine wpAny_mono (turn p n t t' I oI C oC D m₂ ys h tk E' hC hx hx2 F N off ne) (fun y s₂ hq => ?_) fun _ _ e => e
      obtain ⟨h', tk', nw, e, F', N', off', hS, hn, t', hy'⟩ := hq
      rw [hn] at N' off' hS
      refine ⟨h', tk', news, e, F', N', off', hS, ?_⟩
      rw [hy']
      refine ih (i + 1) _ (by omega) ?_
      rw [List.take_add_one, hk]
      simpa using ksk_snoc (t := t') hy
  exact key _ 0 [] (by omega) (by simp only [List.take_zero, List.map_nil]; exact .nil)
/-- what a call of the def at f hands back: ret says, for any end K of the value and of the ledger behind the call, what K must be shown of -/
abbrev FnSpec (w : World) (mean : ExcName → Option Value) (mg mb : Str → Option Value) (room : Nat) (f : Addr) (vs : List Value) (news : List (Addr × Obj)) (ret : (Value → List (Addr × Obj) → Prop) → Prop) : Prop :=
  ∀ (dp un : Nat) (gd : Option (List Code)) (cn : Str) (cs : Scope) (a : Addr) (ccd : Value) (cl : List (Str × Addr)) (outer : List Env) (A₀ : Around) (base h₀ : Heap) (L : Addr) (m : Str → Option Value) (s : Shared) (Q E : Value → Shared → Prop),
    Below A₀ base outer h₀ → Fr h₀ L s.heap m → (Mine.pre.heap_1 w.params).In h₀ → News h₀ L s.heap news →
    Top Mine.pre.view_1 (looseW Mine.pre.view_1 [Str.ofString "Limits"]) mean mg mb h₀ → cs.kind = .function →
    dp + room < recursionLimit → un + 8 * room < cLine →
    ret (fun v nw => ∀ (h' : Heap) (tk' : Nat), Fr h₀ L h' m → News h₀ L h' nw → Q v { s with heap := h', toks := tk' }) →
    wpAny (model PySem.Challenge.pw_sz0089_01 w) (ktrTop dp un gd cn cs L a ccd cl outer) (call (.ref f) vs) Q E s
theorem fn_use {w : World} {mean : ExcName → Option Value} {mg mb : Str → Option Value} {room : Nat} {f : Addr} {vs : List Value} {news : List (Addr × Obj)} {ret : (Value → List (Addr × Obj) → Prop) → Prop}
    {dp un : Nat} {gd : Option (List Code)} {cn : Str} {cs : Scope} {a : Addr} {ccd : Value} {cl : List (Str × Addr)} {outer : List Env} {A₀ : Around} {base h₀ : Heap} {L : Addr} {m : Str → Option Value} {s : Shared} {Q E : Value → Shared → Prop}
    (B : Below A₀ base outer h₀) (F : Fr h₀ L s.heap m) (X : (Mine.pre.heap_1 w.params).In h₀) (N : News h₀ L s.heap news)
    (T : Top Mine.pre.view_1 (looseW Mine.pre.view_1 [Str.ofString "Limits"]) mean mg mb h₀) (hk : cs.kind = .function) (C : FnSpec w mean mg mb room f vs news ret) (hd : dp + room < recursionLimit) (hu : un + 8 * room < cLine)
    (h : ret (fun v nw => ∀ (h' : Heap) (tk' : Nat), Fr h₀ L h' m → News h₀ L h' nw → Q v { s with heap := h', toks := tk' })) :
    wpAny (model PySem.Challenge.pw_sz0089_01 w) (ktrTop dp un gd cn cs L a ccd cl outer) (call (.ref f) vs) Q E s := C _ _ _ _ _ _ _ _ _ _ _ _ _ _ _ _ _ B F X N T hk hd hu h
theorem vint {x y : Int} {t : Tok} (e : x = y) : Value.int x t = Value.int y t := e ▸ rfl
theorem fill1 : PySem.Challenge.rw_sz0089_01 = PySem.Challenge.rw_sz0089_01 ∧ @Mine.pre.heap_1 = @Mine.pre.heap_1 := by
  k_fill
  exact ⟨rfl, rfl⟩
local macro_rules | `(tactic| k_ne) => `(tactic| (refine neN ?_; (try dsimp only); first | assumption | exact Ne.symm (by assumption) | exact Nat.ne_of_lt (by assumption) | exact Nat.ne_of_gt (by assumption) | exact Nat.ne_of_lt (And.left (by assumption)) | exact Nat.ne_of_gt (And.left (by assumption)) | exact (And.left (by assumption)) | exact Ne.symm (And.left (by assumption)) | exact Nat.ne_of_lt (And.left (And.right (by assumption))) | exact Nat.ne_of_gt (And.left (And.right (by assumption))) | exact (And.left (And.right (by assumption))) | exact Ne.symm (And.left (And.right (by assumption))) | exact Nat.ne_of_lt (And.right (by assumption)) | exact Nat.ne_of_gt (And.right (by assumption)) | exact (And.right (by assumption)) | exact Ne.symm (And.right (by assumption)) | exact Nat.ne_of_lt (And.left (And.right (And.right (by assumption)))) | exact Nat.ne_of_gt (And.left (And.right (And.right (by assumption)))) | exact (And.left (And.right (And.right (by assumption)))) | exact Ne.symm (And.left (And.right (And.right (by assumption)))) | exact Nat.ne_of_lt (And.right (And.right (by assumption))) | exact Nat.ne_of_gt (And.right (And.right (by assumption))) | exact (And.right (And.right (by assumption))) | exact Ne.symm (And.right (And.right (by assumption))) | exact Nat.ne_of_lt (And.left (And.right (And.right (And.right (by assumption))))) | exact Nat.ne_of_gt (And.left (And.right (And.right (And.right (by assumption))))) | exact (And.left (And.right (And.right (And.right (by assumption))))) | exact Ne.symm (And.left (And.right (And.right (And.right (by assumption))))) | exact Nat.ne_of_lt (And.right (And.right (And.right (by assumption)))) | exact Nat.ne_of_gt (And.right (And.right (And.right (by assumption)))) | exact (And.right (And.right (And.right (by assumption)))) | exact Ne.symm (And.right (And.right (And.right (by assumption)))) | exact Nat.ne_of_lt (And.left (And.right (And.right (And.right (And.right (by assumption)))))) | exact Nat.ne_of_gt (And.left (And.right (And.right (And.right (And.right (by assumption)))))) | exact (And.left (And.right (And.right (And.right (And.right (by assumption)))))) | exact Ne.symm (And.left (And.right (And.right (And.right (And.right (by assumption)))))) | exact Nat.ne_of_lt (And.right (And.right (And.right (And.right (by assumption))))) | exact Nat.ne_of_gt (And.right (And.right (And.right (And.right (by assumption))))) | exact (And.right (And.right (And.right (And.right (by assumption))))) | exact Ne.symm (And.right (And.right (And.right (And.right (by assumption))))) | exact Nat.ne_of_lt (And.left (And.right (And.right (And.right (And.right (And.right (by assumption))))))) | exact Nat.ne_of_gt (And.left (And.right (And.right (And.right (And.right (And.right (by assumption))))))) | exact (And.left (And.right (And.right (And.right (And.right (And.right (by assumption))))))) | exact Ne.symm (And.left (And.right (And.right (And.right (And.right (And.right (by assumption))))))) | exact Nat.ne_of_lt (And.right (And.right (And.right (And.right (And.right (by assumption)))))) | exact Nat.ne_of_gt (And.right (And.right (And.right (And.right (And.right (by assumption)))))) | exact (And.right (And.right (And.right (And.right (And.right (by assumption)))))) | exact Ne.symm (And.right (And.right (And.right (And.right (And.right (by assumption)))))) | exact Nat.ne_of_lt (And.left (And.right (And.right (And.right (And.right (And.right (And.right (by assumption)))))))) | exact Nat.ne_of_gt (And.left (And.right (And.right (And.right (And.right (And.right (And.right (by assumption)))))))) | exact (And.left (And.right (And.right (And.right (And.right (And.right (And.right (by assumption)))))))) | exact Ne.symm (And.left (And.right (And.right (And.right (And.right (And.right (And.right (by assumption)))))))) | exact Nat.ne_of_lt (And.right (And.right (And.right (And.right (And.right (And.right (by assumption))))))) | exact Nat.ne_of_gt (And.right (And.right (And.right (And.right (And.right (And.right (by assumption))))))) | exact (And.right (And.right (And.right (And.right (And.right (And.right (by assumption))))))) | exact Ne.symm (And.right (And.right (And.right (And.right (And.right (And.right (by assumption))))))) | exact Nat.ne_of_lt (And.left (And.right (And.right (And.right (And.right (And.right (And.right (And.right (by assumption))))))))) | exact Nat.ne_of_gt (And.left (And.right (And.right (And.right (And.right (And.right (And.right (And.right (by assumption))))))))) | exact (And.left (And.right (And.right (And.right (And.right (And.right (And.right (And.right (by assumption))))))))) | exact Ne.symm (And.left (And.right (And.right (And.right (And.right (And.right (And.right (And.right (by assumption))))))))) | exact Nat.ne_of_lt (And.right (And.right (And.right (And.right (And.right (And.right (And.right (by assumption)))))))) | exact Nat.ne_of_gt (And.right (And.right (And.right (And.right (And.right (And.right (And.right (by assumption)))))))) | exact (And.right (And.right (And.right (And.right (And.right (And.right (And.right (by assumption)))))))) | exact Ne.symm (And.right (And.right (And.right (And.right (And.right (And.right (And.right (by assumption)))))))) | exact Nat.ne_of_lt (And.left (And.right (And.right (And.right (And.right (And.right (And.right (And.right (And.right (by assumption)))))))))) | exact Nat.ne_of_gt (And.left (And.right (And.right (And.right (And.right (And.right (And.right (And.right (And.right (by assumption)))))))))) | exact (And.left (And.right (And.right (And.right (And.right (And.right (And.right (And.right (And.right (by assumption)))))))))) | exact Ne.symm (And.left (And.right (And.right (And.right (And.right (And.right (And.right (And.right (And.right (by assumption)))))))))) | exact Nat.ne_of_lt (And.right (And.right (And.right (And.right (And.right (And.right (And.right (And.right (by assumption))))))))) | exact Nat.ne_of_gt (And.right (And.right (And.right (And.right (And.right (And.right (And.right (And.right (by assumption))))))))) | exact (And.right (And.right (And.right (And.right (And.right (And.right (And.right (And.right (by assumption))))))))) | exact Ne.symm (And.right (And.right (And.right (And.right (And.right (And.right (And.right (And.right (by assumption))))))))) | exact Nat.ne_of_lt (And.left (And.right (And.right (And.right (And.right (And.right (And.right (And.right (And.right (And.right (by assumption))))))))))) | exact Nat.ne_of_gt (And.left (And.right (And.right (And.right (And.right (And.right (And.right (And.right (And.right (And.right (by assumption))))))))))) | exact (And.left (And.right (And.right (And.right (And.right (And.right (And.right (And.right (And.right (And.right (by assumption))))))))))) | exact Ne.symm (And.left (And.right (And.right (And.right (And.right (And.right (And.right (And.right (And.right (And.right (by assumption))))))))))) | exact Nat.ne_of_lt (And.right (And.right (And.right (And.right (And.right (And.right (And.right (And.right (And.right (by assumption)))))))))) | exact Nat.ne_of_gt (And.right (And.right (And.right (And.right (And.right (And.right (And.right (And.right (And.right (by assumption)))))))))) | exact (And.right (And.right (And.right (And.right (And.right (And.right (And.right (And.right (And.right (by assumption)))))))))) | exact Ne.symm (And.right (And.right (And.right (And.right (And.right (And.right (And.right (And.right (And.right (by assumption)))))))))) | exact Nat.ne_of_lt (And.left (And.right (And.right (And.right (And.right (And.right (And.right (And.right (And.right (And.right (And.right (by assumption)))))))))))) | exact Nat.ne_of_gt (And.left (And.right (And.right (And.right (And.right (And.right (And.right (And.right (And.right (And.right (And.right (by assumption)))))))))))) | exact (And.left (And.right (And.right (And.right (And.right (And.right (And.right (And.right (And.right (And.right (And.right (by assumption)))))))))))) | exact Ne.symm (And.left (And.right (And.right (And.right (And.right (And.right (And.right (And.right (And.right (And.right (And.right (by assumption)))))))))))) | exact Nat.ne_of_lt (And.right (And.right (And.right (And.right (And.right (And.right (And.right (And.right (And.right (And.right (by assumption))))))))))) | exact Nat.ne_of_gt (And.right (And.right (And.right (And.right (And.right (And.right (And.right (And.right (And.right (And.right (by assumption))))))))))) | exact (And.right (And.right (And.right (And.right (And.right (And.right (And.right (And.right (And.right (And.right (by assumption))))))))))) | exact Ne.symm (And.right (And.right (And.right (And.right (And.right (And.right (And.right (And.right (And.right (And.right (by assumption))))))))))) | exact Nat.ne_of_lt (And.left (And.right (And.right (And.right (And.right (And.right (And.right (And.right (And.right (And.right (And.right (And.right (by assumption))))))))))))) | exact Nat.ne_of_gt (And.left (And.right (And.right (And.right (And.right (And.right (And.right (And.right (And.right (And.right (And.right (And.right (by assumption))))))))))))) | exact (And.left (And.right (And.right (And.right (And.right (And.right (And.right (And.right (And.right (And.right (And.right (And.right (by assumption))))))))))))) | exact Ne.symm (And.left (And.right (And.right (And.right (And.right (And.right (And.right (And.right (And.right (And.right (And.right (And.right (by assumption))))))))))))) | exact Nat.ne_of_lt (And.right (And.right (And.right (And.right (And.right (And.right (And.right (And.right (And.right (And.right (And.right (by assumption)))))))))))) | exact Nat.ne_of_gt (And.right (And.right (And.right (And.right (And.right (And.right (And.right (And.right (And.right (And.right (And.right (by assumption)))))))))))) | exact (And.right (And.right (And.right (And.right (And.right (And.right (And.right (And.right (And.right (And.right (And.right (by assumption)))))))))))) | exact Ne.symm (And.right (And.right (And.right (And.right (And.right (And.right (And.right (And.right (And.right (And.right (And.right (by assumption)))))))))))) | exact Nat.ne_of_lt (And.left (And.right (And.right (And.right (And.right (And.right (And.right (And.right (And.right (And.right (And.right (And.right (And.right (by assumption)))))))))))))) | exact Nat.ne_of_gt (And.left (And.right (And.right (And.right (And.right (And.right (And.right (And.right (And.right (And.right (And.right (And.right (And.right (by assumption)))))))))))))) | exact (And.left (And.right (And.right (And.right (And.right (And.right (And.right (And.right (And.right (And.right (And.right (And.right (And.right (by assumption)))))))))))))) | exact Ne.symm (And.left (And.right (And.right (And.right (And.right (And.right (And.right (And.right (And.right (And.right (And.right (And.right (And.right (by assumption)))))))))))))) | exact Nat.ne_of_lt (And.right (And.right (And.right (And.right (And.right (And.right (And.right (And.right (And.right (And.right (And.right (And.right (by assumption))))))))))))) | exact Nat.ne_of_gt (And.right (And.right (And.right (And.right (And.right (And.right (And.right (And.right (And.right (And.right (And.right (And.right (by assumption))))))))))))) | exact (And.right (And.right (And.right (And.right (And.right (And.right (And.right (And.right (And.right (And.right (And.right (And.right (by assumption))))))))))))) | exact Ne.symm (And.right (And.right (And.right (And.right (And.right (And.right (And.right (And.right (And.right (And.right (And.right (And.right (by assumption)))))))))))))))
local macro_rules | `(tactic| k_in) => `(tactic| (rename Fr _ _ _ _ => kF9; exact Frag.In.keeps (by with_reducible assumption) (Fr.keep kF9)))
local macro_rules | `(tactic| walk_at "callWith ref nil nil") => `(tactic| (k_here; k_dflt (refine' callWith_K0 ?k1 ?k2 ?_; (case k1 => k_in); (case k2 => k_is); k_whole)))
local macro_rules | `(tactic| k_qdec) => `(tactic| decide +kernel)
theorem fill : PySem.Challenge.rw_sz0089_01 = PySem.Challenge.rw_sz0089_01 ∧ @Mine.pre.heap_1 = @Mine.pre.heap_1 := by
  k_fill
  exact ⟨rfl, rfl⟩

local macro_rules | `(tactic| k_all) => `(tactic| exact off1_mem (by assumption))
theorem peg0 {w : World} {mean : ExcName → Option Value} {mg mb : Str → Option Value} {news : List (Addr × Obj)} {b l : Addr} {vs : List Value} {ns : List Int} {k : Int} {tk : Tok} {nb nl : Nat} {many : Int} {tm : Tok}
    (hlb : l ≠ b) (hnb : LCg.Off1 b news) (hi : IntsAre vs ns) (h24 : ns.length ≤ 24) (h0 : 0 ≤ k) (h100 : k ≤ 100) (hm0 : 0 < many) (hm1 : many ≤ 256) :
    FnSpec w mean mg mb 1 402 [.ref b, .int many tm] ((b, listOf #[.ref l, .int k tk] nb) :: (l, listOf vs.toArray nl) :: news)
      (fun K => ∀ t t', K (.int (pegAt ns (k + 1) % many) t) ((b, listOf #[.ref l, .int (k + 1) t'] nb) :: (l, listOf vs.toArray nl) :: news)) := by
  intro dp un gd cn cs a ccd cl outer A₀ base h₀ L m s Q E B F X N T hk hd hu hret
  refine wpAny_call ?_
  k_dflt cell_enter
  k_steps
  all_goals (refine cb_retI (hret := fun t h' tk' F N => hret t _ h' tk' F N) ?_ (by k_asm) (by k_asm))
  · rw [pegAt, if_pos (by omega), fmod_emod hm0]
  · rw [pegAt, if_neg (by omega), fmod_emod hm0, fmod_emod (b := 15) (by decide)]; rfl
theorem peg {w : World} {mean : ExcName → Option Value} {mg mb : Str → Option Value} {news : List (Addr × Obj)} {news' : Tok → List (Addr × Obj)} {b l : Addr} {vs : List Value} {ns : List Int} {k : Int} {tk : Tok} {nb nl : Nat} {many : Int} {tm : Tok}
    (hU : ∀ t', Upd b (listOf #[.ref l, .int k tk] nb) (listOf #[.ref l, .int (k + 1) t'] nb) news (news' t')) (hl : (l, listOf vs.toArray nl) ∈ news) (hlb : l ≠ b)
    (hi : IntsAre vs ns) (h24 : ns.length ≤ 24) (h0 : 0 ≤ k) (h100 : k ≤ 100) (hm0 : 0 < many) (hm1 : many ≤ 256) :
    FnSpec w mean mg mb 1 402 [.ref b, .int many tm] news (fun K => ∀ t t', K (.int (pegAt ns (k + 1) % many) t) (news' t')) := by
  intro dp un gd cn cs a ccd cl outer A₀ base h₀ L m s Q E B F X N T hk hd hu hret
  obtain ⟨pre, post, e1, _, h1, h2⟩ := (hU 0).split
  refine peg0 (news := pre ++ post) (nb := nb) (vs := vs) (nl := nl) (tk := tk) (tm := tm) hlb (off1_of fun p hp => ?_) hi h24 h0 h100 hm0 hm1 dp un gd cn cs a ccd cl outer A₀ base h₀ L m s Q E B F X ?_ T hk hd hu ?_
  · rcases List.mem_append.mp hp with hp | hp
    · exact h1 p hp
    · exact h2 p hp
  · intro p hp
    refine N p ?_
    rcases List.mem_cons.mp hp with rfl | hp
    · exact upd_old (hU 0)
    · rcases List.mem_cons.mp hp with rfl | hp
      · exact hl
      · rw [e1]
        rcases List.mem_append.mp hp with hp | hp
        · exact List.mem_append_left _ hp
        · exact List.mem_append_right _ (List.mem_cons_of_mem _ hp)
  · intro t t' h' tk' F' N'
    refine hret t t' h' tk' F' fun p hp => N' p ?_
    obtain ⟨pre', post', e1', e2', h1', h2'⟩ := (hU t').split
    by_cases hpb : p.1 = b
    · rw [e2'] at hp
      rcases List.mem_append.mp hp with hp | hp
      · exact absurd hpb (h1' p hp)
      · rcases List.mem_cons.mp hp with rfl | hp
        · exact List.mem_cons_self
        · exact absurd hpb (h2' p hp)
    · have hq : p ∈ news := by
        rw [e2'] at hp; rw [e1']
        rcases List.mem_append.mp hp with hp | hp
        · exact List.mem_append_left _ hp
        · rcases List.mem_cons.mp hp with rfl | hp
          · exact absurd rfl hpb
          · exact List.mem_append_right _ (List.mem_cons_of_mem _ hp)
      rw [e1] at hq
      refine List.mem_cons_of_mem _ (List.mem_cons_of_mem _ ?_)
      rcases List.mem_append.mp hq with hq | hq
      · exact List.mem_append_left _ hq
      · rcases List.mem_cons.mp hq with rfl | hq
        · exact absurd rfl hpb
        · exact List.mem_append_right _ hq
local macro_rules | `(tactic| walk_at "exec Assign cons ListComp") => `(tactic| (k_here; (with_reducible show wpAny _ _ (exec (Stmt.Assign [_] (Expr.ListComp (Expr.Call (Expr.Name (Str.ofString "ord") _) _ _ _) _ _ _) _) _) _ _ _); k_dflt (refine Assign_ListComp_T (by k_asm) (by rfl) (by with_unfolding_all rfl) (by with_unfolding_all rfl) (by decide) (by rfl) (by decide) (by rfl) (by rfl) (by rfl) ?_)))
local macro_rules | `(tactic| walk_at "SrcT") => `(tactic| (k_here; k_dflt (refine ⟨_, _, _, rfl, by rfl, by k_asm, by k_asm, by assumption, ?_⟩; refine fun s' hs' => Exists.elim hs' fun g' e' => ?_; subst e'; refine' rest_text (fun c' t' I' oI' C' oC' D' m' ys' h' tk' E' hk' hC' hx' F' N' off' ne' => ?_) ?_; (all_goals (try (simp only [LCg.Off3, and_true] at off'))); kcf_last)))
local macro_rules | `(tactic| walk_at "pyIter ref") => `(tactic| ((with_reducible show wpAny _ _ (pyIter (Value.ref _)) (fun it s₂ => LoopAtV _ _ _ _ _ _ _ _ _ it s₂) _ _); k_dflt (refine iter_chk (by rfl) (by k_asm) (by k_asm) (by k_mem) (by assumption) (fun n' t' h' tk' own' hn' hoff' F' N' => ?_) (fun u' h' tk' F' N' => ?_); (try (have hb' := (show ∀ c ∈ codes _, c ≤ (255 : Int) by assumption) _ hn')))))
local macro_rules | `(tactic| walk_at "KCfEl") => `(tactic| exact ⟨rfl, _, rfl⟩)
local macro_rules | `(tactic| walk_at "InvEndN") => `(tactic| (refine InvEndN.intro (by k_asm) (by k_asm) ⟨rfl, ?_⟩ (by rfl) ?_ ?_; (intro z hz; (try dsimp only); first | rfl | exact if_neg hz | (simp [hz]; done)); (intro p hp; (try simp only [List.mem_append, List.mem_cons] at hp ⊢); grind); (intro p hp; (try simp only [List.mem_append, List.mem_cons] at hp ⊢); grind)))
theorem oct {w : World} {mean : ExcName → Option Value} {mg mb : Str → Option Value} {news : List (Addr × Obj)} {t : Str} {tt : Tok} (h255 : ∀ c ∈ codes t, c ≤ 255) (h12 : t.length ≤ 12) :
    FnSpec w mean mg mb 1 66 [.str t tt] news (fun K => ∀ r vs, IntsAre vs (codes t) → LCg.Off1 r news → K (.ref r) ((r, LCg.lst vs) :: news)) := by
  intro dp un gd cn cs a ccd cl outer A₀ base h₀ L m s Q E B F X N T hk hd hu hret
  have hsz : t.cps.size ≤ sizeLine := by rw [sizeLine_eq]; exact Nat.le_trans h12 (by decide)
  refine wpAny_call ?_
  k_dflt cell_enter
  k_steps
  all_goals (exact hret _ _ (by assumption) (by assumption) _ _ (by k_asm) (by k_asm))
local macro_rules | `(tactic| walk_at "compareOp NotIn int ref") => `(tactic| (k_here; k_dflt (refine notin_topK (by k_asm) (by k_asm) (by k_is) (by repeat constructor) ?_); (first | (refine Eq.mpr (congrArg (fun b => _) (show (!_) = false by decide)) ?_) | skip)))
theorem checkBits {w : World} {mean : ExcName → Option Value} {mg mb : Str → Option Value} {news : List (Addr × Obj)} {bits : Int} {tb : Tok} (hb : Bits bits) :
    FnSpec w mean mg mb 1 61 [.int bits tb] news (fun K => K .none news) := by
  intro dp un gd cn cs a ccd cl outer A₀ base h₀ L m s Q E B F X N T hk hd hu hret
  rcases hb with rfl | rfl | rfl | rfl
  all_goals (
    refine wpAny_call ?_
    k_dflt cell_enter
    k_steps
    exact hret _ _ (by k_asm) (by k_asm))

theorem vecSmall {w : World} {mean : ExcName → Option Value} {mg mb : Str → Option Value} {news : List (Addr × Obj)} {off bits : Int} {to tb : Tok} (hb : Bits bits) (h8 : bits < 8) :
    FnSpec w mean mg mb 1 73 [.int off to, .int bits tb] news (fun K => ∀ r t1 t2, LCg.Off1 r news → K (.ref r) ((r, tupOf #[.int (plc off bits) t1, .int (shf off bits) t2]) :: news)) := by
  intro dp un gd cn cs a ccd cl outer A₀ base h₀ L m s Q E B F X N T hk hd hu hret
  rcases hb with rfl | rfl | rfl | rfl
  rotate_right
  omega
  all_goals (
    refine wpAny_call ?_
    k_dflt cell_enter
    k_steps
    unfold plc shf at hret
    exact hret _ _ _ (off1_lt (by assumption)) _ _ (by k_asm) (by k_asm))
local macro_rules | `(tactic| k_all) => `(tactic| first
  | exact off1_mem (by assumption) | exact off1_mem (And.right (by assumption)) | exact off1_mem (And.right (And.right (by assumption)))
  | exact allLt_ne (by assumption) | exact allLt_ne (And.right (by assumption)) | exact allLt_ne (And.right (And.right (by assumption))) | exact allLt_ne (And.right (And.right (And.right (by assumption)))))
local macro_rules | `(tactic| k_room) => `(tactic| ktr_room)
local macro_rules | `(tactic| walk_at "UnrEnd") => `(tactic| (refine UnrEnd.intro (by assumption) (by assumption) _ (fun p hp => hp) (by k_all) ?_))
local macro_rules | `(tactic| walk_at "call ref") => `(tactic| (k_here; (with_reducible show wpAny _ _ (call (Value.ref 61) _ _) _ _ _); k_dflt (refine' fn_use ?k1 ?k2 ?k3 ?k4 ?k5 ?kK (checkBits (by assumption)) ?kd ?ku ?_; (case k1 => k_asm); (case k2 => k_asm); (case k3 => k_asm); (case k4 => first | k_asm | exact cb_drop (by assumption) (fun p hp => List.mem_cons_of_mem _ hp)); (case k5 => k_asm); (case kK => first | exact rfl | assumption); (case kd => ktr_room); (case ku => ktr_units); refine fun  h9 tk9 F9 N9 => ?_; (try dsimp only); (try k_fold))))
local macro_rules | `(tactic| walk_at "call ref") => `(tactic| (k_here; (with_reducible show wpAny _ _ (call (Value.ref 66) _ _) _ _ _); k_dflt (refine' fn_use ?k1 ?k2 ?k3 ?k4 ?k5 ?kK (oct (by assumption) (by assumption)) ?kd ?ku ?_; (case k1 => k_asm); (case k2 => k_asm); (case k3 => k_asm); (case k4 => first | k_asm | exact cb_drop (by assumption) (fun p hp => List.mem_cons_of_mem _ hp)); (case k5 => k_asm); (case kK => first | exact rfl | assumption); (case kd => ktr_room); (case ku => ktr_units); refine fun r9 vs9 i9 o9 h9 tk9 F9 N9 => ?_; (try simp only [LCg.Off1, and_true] at o9); (try dsimp only); (try k_fold))))
local macro_rules | `(tactic| walk_at "call ref") => `(tactic| (k_here; (with_reducible show wpAny _ _ (call (Value.ref 73) _ _) _ _ _); k_dflt (refine' fn_use ?k1 ?k2 ?k3 ?k4 ?k5 ?kK (vecSmall (by assumption) (by assumption)) ?kd ?ku ?_; (case k1 => k_asm); (case k2 => k_asm); (case k3 => k_asm); (case k4 => first | k_asm | exact cb_drop (by assumption) (fun p hp => List.mem_cons_of_mem _ hp)); (case k5 => k_asm); (case kK => first | exact rfl | assumption); (case kd => ktr_room); (case ku => ktr_units); refine fun r9 t9 u9 o9 h9 tk9 F9 N9 => ?_; (try simp only [LCg.Off1, and_true] at o9); (try dsimp only); (try k_fold))))
theorem vecGet {w : World} {mean : ExcName → Option Value} {mg mb : Str → Option Value} {news : List (Addr × Obj)} {t : Str} {tt to tb : Tok} {off bits : Int} (hb : Bits bits) (h255 : ∀ c ∈ codes t, c ≤ 255) (h12 : t.length ≤ 12) (h0 : 0 ≤ off) (h13 : off ≤ 12) :
    FnSpec w mean mg mb 2 80 [.str t tt, .int off to, .int bits tb] news (fun K => ∀ t', K (.int (vget (codes t) off bits) t') news) := by
  intro dp un gd cn cs a ccd cl outer A₀ base h₀ L m s Q E B F X N T hk hd hu hret
  have hcl : (codes t).length ≤ 12 := by rw [codes_length]; exact h12
  by_cases h8 : bits < 8
  · obtain ⟨hp0, hp6, hs0, hs8, hb1, hb4⟩ := plc_shf hb h8 h0 h13
    refine wpAny_call ?_
    k_dflt cell_enter
    k_steps
    all_goals (refine cb_retI (hret := fun t h' tk' F N => hret t h' tk' F N) ?_ (by k_asm) (cb_drop (by k_asm) (fun p hp => List.mem_cons_of_mem _ (List.mem_cons_of_mem _ hp))))
    · rw [vget, if_pos h8, if_neg (by omega)]
    · rw [vget, if_pos h8, if_pos (by omega)]
  · obtain rfl : bits = 8 := by rcases hb with rfl | rfl | rfl | rfl <;> omega
    refine wpAny_call ?_
    k_dflt cell_enter
    k_steps
    all_goals (refine cb_retI (hret := fun t h' tk' F N => hret t h' tk' F N) ?_ (by k_asm) (cb_drop (by k_asm) (fun p hp => List.mem_cons_of_mem _ hp)))
    all_goals rw [bitOr_nn (by decide) (by first | exact codes_nn | decide)]
    all_goals rw [show Int.fdiv 8 8 = 1 by decide, Int.mul_one] at *
    all_goals rw [vget, if_neg (by decide)]
    · rw [if_pos (by omega)]
      have e : off + (0 + ((0 : Nat) : Int)) = off := by omega
      rw [e]
      have z := codes_nn (t := t) (k := off.toNat)
      generalize (codes t).getD off.toNat 0 = y at z
      rw [show (0 * 2 ^ Int.toNat 8 : Int).toNat = 0 by decide, Nat.zero_or]
      omega
    · rw [if_neg (by omega)]; rfl
abbrev limEs (P : Params) (k1 k2 k3 k4 k5 : Tok) : List DictEntry :=
  [⟨PyData.keyHash P (Str.ofString "width"), .str (Str.ofString "width") k1, .int 64 719⟩, ⟨PyData.keyHash P (Str.ofString "depth"), .str (Str.ofString "depth") k2, .int 50 720⟩,
   ⟨PyData.keyHash P (Str.ofString "steps"), .str (Str.ofString "steps") k3, .int 1000000 723⟩, ⟨PyData.keyHash P (Str.ofString "text"), .str (Str.ofString "text") k4, .int 100000 726⟩,
   ⟨PyData.keyHash P (Str.ofString "items"), .str (Str.ofString "items") k5, .int 10000 729⟩]
/-- the object that Limits() makes, at x, its dict at d -/
abbrev limLed (w : World) (x d : Addr) (k1 k2 k3 k4 k5 : Tok) (news : List (Addr × Obj)) : List (Addr × Obj) := (x, instObj 390 d) :: (d, dictOf (limEs w.params k1 k2 k3 k4 k5) 5) :: news
local macro_rules | `(tactic| walk_at "call builtin:list.extend") => `(tactic| (k_here; k_dflt (refine' ext_any ?F ?N ?b ?e ?U ?z ?_; (case F => k_asm); (case N => k_asm); (case b => k_mem); (case e => exact rfl); (case U => intro n9; k_upd); (case z => rw [sizeLine_eq]; (simp only [List.size_toArray] at *); omega)); intro n9 h9 F9 N9))
theorem limits {w : World} {mean : ExcName → Option Value} {mg mb : Str → Option Value} {news : List (Addr × Obj)} :
    FnSpec w mean mg mb 2 390 [] news (fun K => ∀ (x d : Addr) (k1 k2 k3 k4 k5 : Tok), (@Ne Nat d x) → LCg.Off1 x news → LCg.Off1 d news → K (.ref x) (limLed w x d k1 k2 k3 k4 k5 news)) := by
  intro dp un gd cn cs a ccd cl outer A₀ base h₀ L m s Q E B F X N T hk hd hu hret
  k_dflt (refine' call_cls ?k1 ?k2 ?k3 ?k4 ?k5 ?k6 ?_)
  (case k1 => k_asm); (case k2 => k_asm); (case k3 => k_asm); (case k4 => k_is); (case k5 => k_is); (case k6 => k_is)
  intro x' d' h' F' N' l1 l2
  have o1 : LCg.Off1 d' news := off1_lt l1
  have o2 : LCg.Off1 x' news := off1_lt fun p hp => Nat.lt_trans (l1 p hp) l2
  have o3 : @Ne Nat d' x' := Nat.ne_of_lt l2
  (try k_lt l1)
  k_dflt (refine' code_def ?k1 ?k2 ?k3 ?k4 ?k5 ?kA ?kF ?kK ?k6 ?k7 ?k8 ?k9 ?kB ?_ ?c2 ?c3 ?c4 ?c5)
  (case kA => exact rfl); (case kF => exact rfl); (case kK => assumption); (case k1 => k_asm); (case k2 => k_asm); (case k3 => k_asm); (case k4 => k_asm); (case k5 => k_asm); (case k6 => k_is); (case k7 => k_is); (case k8 => ktr_room)
  (case k9 => exact binds_K (by k_in) rfl (by k_is) rfl rfl rfl)
  (case c5 => decide); (case kB => exact locs rfl); (case c2 => exact rfl); (case c3 => exact rfl); (case c4 => exact rfl)
  intro g' L' h' FG' F' N' B' X' T'
  (try dsimp only); (try k_lift B'); (try k_fold)
  k_steps
  exact hret _ _ _ _ _ _ _ o3 o2 o1 _ _ (by k_asm) (by k_asm)

theorem vecFill {w : World} {mean : ExcName → Option Value} {mg mb : Str → Option Value} {news : List (Addr × Obj)} {r x d : Addr} {k1 k2 k3 k4 k5 : Tok} {vs : List Value} {ns : List Int} {n : Nat} {many : Int} {tm : Tok} (hi : IntsAre vs ns) (hn : ns.length ≤ 12) (h0 : 0 ≤ many) (h1 : many ≤ 12)
    (hx : LCg.Off1 r news) (hrx : @Ne Nat r x) (hrd : @Ne Nat r d) :
    FnSpec w mean mg mb 1 87 [.ref r, .int many tm, .ref x] ((r, listOf vs.toArray n) :: limLed w x d k1 k2 k3 k4 k5 news)
      (fun K => ∀ (us : List Value) (n' : Nat), IntsAre us (pad ns many) → (many ≤ (pad ns many).length ∧ (ns.length : Int) ≤ (pad ns many).length ∧ (((pad ns many).length : Int) = many ∨ (pad ns many).length = ns.length)) → K .none ((r, listOf us.toArray n') :: limLed w x d k1 k2 k3 k4 k5 news)) := by
  intro dp un gd cn cs a ccd cl outer A₀ base h₀ L m s Q E B F X N T hk hd hu hret
  have hvl := IntsAre.length hi
  refine wpAny_call ?_
  k_dflt cell_enter
  k_steps
  refine hret _ _ ?_ (pad_len ns h0) _ _ (by k_asm) (cb_drop (by k_asm) (fun p hp => List.mem_cons_of_mem _ (List.mem_cons_of_mem _ hp)))
  have q := IntsAre.append hi (by assumption)
  rw [List.flatten_replicate_singleton (a := (0 : Int))] at q
  unfold pad
  exact q
local macro_rules | `(tactic| walk_at "call ref") => `(tactic| (k_here; (with_reducible show wpAny _ _ (call (Value.ref 87) _ _) _ _ _); k_dflt (refine' fn_use ?k1 ?k2 ?k3 ?k4 ?k5 ?kK (vecFill ?f1 ?f2 ?f3 ?f4 ?f5 ?f6 ?f7) ?kd ?ku ?_; (case k1 => k_asm); (case k2 => k_asm); (case k3 => k_asm); (case k4 => first | k_asm | exact cb_drop (by assumption) (fun p hp => List.mem_cons_of_mem _ hp)); (case k5 => k_asm); (case f1 => assumption); (case f2 => omega); (case f3 => omega); (case f4 => omega); (case f5 => first | assumption | exact (And.right (by assumption)) | exact (And.right (And.right (by assumption)))); (case f6 => omega); (case f7 => omega); (case kK => first | exact rfl | assumption); (case kd => ktr_room); (case ku => ktr_units); refine fun u9 n9 i9 p9 h9 tk9 F9 N9 => ?_; (have l9 := IntsAre.length i9); (try dsimp only); (try k_fold))))
theorem floordiv88 {prog : Program} {w : World} {A : Around} {E : Value → Shared → Prop} {s : Shared} {t u : Tok} {Q : Value → Shared → Prop} (h : Q (.int 1 s.toks) { s with toks := s.toks + 1 }) : wpAny (model prog w) A (binaryOp .FloorDiv (.int 8 t) (.int 8 u)) Q E s :=
  floordiv_int (by decide) (by rw [show Int.fdiv 8 8 = 1 by decide]; exact h)
local macro_rules | `(tactic| walk_at "binaryOp FloorDiv int int") => `(tactic| (with_reducible refine floordiv88 ?_))
local macro_rules | `(tactic| walk_at "binaryOp LShift int int") => `(tactic| (k_here; (refine lshift_int_small ?kb1 ?kb2 ?kb3 ?_); (case kb1 => omega); (case kb2 => omega); (case kb3 => assumption)))
local macro_rules | `(tactic| walk_at "eval ListComp") => `(tactic| (k_here; (with_reducible show wpAny _ _ (eval (Expr.ListComp (Expr.Call (Expr.Name (Str.ofString "chr") _) _ _ _) _ _ _) _) _ _ _); k_dflt (refine LCg.ListComp_U (F₀ := by k_asm) (by with_unfolding_all rfl) (by decide) (by rfl) (by decide) (by rfl) ?_)))
local macro_rules | `(tactic| walk_at "CompSrc") => `(tactic| (k_here; k_dflt (refine LCg.CompSrc.ledger (by rfl) (by k_asm) (by k_asm) (by k_mem) ?cz ?_; (case cz => rw [sizeLine_eq]; (simp only [List.size_toArray, List.length_set] at *); omega); intro g'; (refine' rest_strs (fun k => ⟨#[k.toNat]⟩) (by l_ints) (fun k' t' I' oI' C' oC' D' m' ys' h' tk' E' hk' hC' hx' F' N' off' ne' => ?_) ?_); (try (have hb' := (show ∀ c ∈ _, Oct c by assumption) _ hk'; unfold Oct at hb')); kcf_last)))
local macro_rules | `(tactic| walk_at "call builtin:chr") => `(tactic| (k_here; k_dflt (refine chr_of_range (by omega) (by omega) ?_)))
local macro_rules | `(tactic| walk_at "CompEnd") => `(tactic| (k_dflt (refine LCg.CompEnd.intro (by k_asm) (by k_asm) _ (fun p hp => hp) (by assumption) (Or.inr ⟨_, by k_mem, rfl, _, rfl⟩) ?_)))
local macro_rules | `(tactic| walk_at "KCtEl") => `(tactic| exact ⟨rfl, _, rfl⟩)
local macro_rules | `(tactic| walk_at "call builtin:str.join") => `(tactic| (k_here; k_dflt (refine join_txt (News.isList (by k_asm) (by k_mem)) (by assumption) ?jz ?_; (case jz => (simp only [List.length_set] at *); omega)); intro t9 k9))
theorem vecSet {w : World} {mean : ExcName → Option Value} {mg mb : Str → Option Value} {news : List (Addr × Obj)} {x d : Addr} {k1 k2 k3 k4 k5 : Tok} {t : Str} {tt to tb tv : Tok} {off bits val : Int} (hb : Bits bits) (h255 : ∀ c ∈ codes t, c ≤ 255) (h12 : t.length ≤ 12) (h0 : 0 ≤ off) (h11 : off ≤ 11) (hv0 : 0 ≤ val) (hv1 : val < 2 ^ bits.toNat)
    (hdx : @Ne Nat d x) (hx : LCg.Off1 x news) (hd : LCg.Off1 d news) :
    FnSpec w mean mg mb 2 92 [.str t tt, .int off to, .int bits tb, .int val tv, .ref x] (limLed w x d k1 k2 k3 k4 k5 news) (fun K => ∀ t', K (.str (txt (vset (codes t) off bits val)) t') news) := by
  intro dp un gd cn cs a ccd cl outer A₀ base h₀ L m s Q E B F X N T hk hd hu hret
  have hcl : (codes t).length ≤ 12 := by rw [codes_length]; exact h12
  have hoct := codes_oct h255
  have hmk := mask_of hb hv0 hv1
  have hba : (Builtin.bitAnd val (1 * 2 ^ bits.toNat - 1)).natAbs < 2 ^ 64 := by
    rw [hmk]
    rcases hb with rfl | rfl | rfl | rfl
    · have q : val < 2 := hv1; omega
    · have q : val < 4 := hv1; omega
    · have q : val < 16 := hv1; omega
    · have q : val < 256 := hv1; omega
  by_cases h8 : bits < 8
  · obtain ⟨hp0, hp6, hs0, hs8, hb1, hb4⟩ := plc_shf hb h8 h0 (by omega)
    have hrow : ∀ c ∈ (pad (codes t) (plc off bits + 1)).set (plc off bits).toNat (Builtin.bitOr (Builtin.bitAnd ((pad (codes t) (plc off bits + 1)).getD (plc off bits).toNat 0) (Builtin.bitNot ((1 * 2 ^ bits.toNat - 1) * 2 ^ (shf off bits).toNat))) (Builtin.bitAnd val (1 * 2 ^ bits.toNat - 1) * 2 ^ (shf off bits).toNat)), Oct c :=
      set_oct (pad_oct hoct) (vput_oct (getD_oct (pad_oct hoct)) hb hs0 hs8 hv0 hv1)
    refine wpAny_call ?_
    k_dflt cell_enter
    k_steps
    simp only [vset, if_pos h8, vput] at hret
    exact hret _ _ _ (by k_asm) (cb_drop (by k_asm) (fun p hp => List.mem_cons_of_mem _ (List.mem_cons_of_mem _ (List.mem_cons_of_mem _ (List.mem_cons_of_mem _ hp)))))
  · obtain rfl : bits = 8 := by rcases hb with rfl | rfl | rfl | rfl <;> omega
    have e8 : (pad (codes t) ((off + 1) * 1)).set (off * 1 + (0 + ((0 : Nat) : Int))).toNat (Builtin.bitAnd ((Builtin.bitAnd val (1 * 2 ^ Int.toNat 8 - 1)).fdiv (2 ^ (8 * (1 - 1 - (0 + ((0 : Nat) : Int)))).toNat)) 255) = vset (codes t) off 8 val := by
      have q : val < 256 := hv1
      have w1 : Builtin.bitAnd val (1 * 2 ^ Int.toNat 8 - 1) = val := hmk
      have w2 : Builtin.bitAnd val 255 = val := hmk
      rw [w1, Int.mul_one, Int.mul_one, show off + (0 + ((0 : Nat) : Int)) = off by omega, show (2 ^ (8 * (1 - 1 - (0 + ((0 : Nat) : Int)))).toNat : Int) = 1 by decide, show val.fdiv 1 = val by rw [Int.fdiv_eq_ediv_of_nonneg _ (by decide)]; omega, w2, vset, if_neg (by decide)]
    have hrow : ∀ c ∈ (pad (codes t) ((off + 1) * 1)).set (off * 1 + (0 + ((0 : Nat) : Int))).toNat (Builtin.bitAnd ((Builtin.bitAnd val (1 * 2 ^ Int.toNat 8 - 1)).fdiv (2 ^ (8 * (1 - 1 - (0 + ((0 : Nat) : Int)))).toNat)) 255), Oct c := by
      rw [e8, vset, if_neg (by decide)]
      exact set_oct (pad_oct hoct) ⟨hv0, by have q : val < 256 := hv1; omega⟩
    rw [← e8] at hret
    refine wpAny_call ?_
    k_dflt cell_enter
    k_steps
    exact hret _ _ _ (by k_asm) (cb_drop (by k_asm) (fun p hp => List.mem_cons_of_mem _ (List.mem_cons_of_mem _ (List.mem_cons_of_mem _ (List.mem_cons_of_mem _ hp)))))
local macro_rules | `(tactic| walk_at "call ref") => `(tactic| (k_here; (with_reducible show wpAny _ _ (call (Value.ref 80) _ _) _ _ _); k_dflt (refine' fn_use ?k1 ?k2 ?k3 ?k4 ?k5 ?kK (vecGet (by assumption) (by assumption) (by assumption) (by omega) (by omega)) ?kd ?ku ?_; (case k1 => k_asm); (case k2 => k_asm); (case k3 => k_asm); (case k4 => first | k_asm | exact cb_drop (by assumption) (fun p hp => List.mem_cons_of_mem _ hp)); (case k5 => k_asm); (case kK => first | exact rfl | assumption); (case kd => ktr_room); (case ku => ktr_units); refine fun t9 h9 tk9 F9 N9 => ?_; (try dsimp only); (try k_fold))))
theorem lawRow {w : World} {mean : ExcName → Option Value} {mg mb : Str → Option Value} {news : List (Addr × Obj)} {t : Str} {tt tb : Tok} {bits : Int} (hb : Bits bits) (h255 : ∀ c ∈ codes t, c ≤ 255) (h12 : t.length ≤ 12) :
    FnSpec w mean mg mb 3 421 [.str t tt, .int bits tb] news (fun K => ∀ r vs, IntsAre vs ((rangeKs 0 13).map fun k => vget (codes t) k bits) → LCg.Off1 r news → K (.ref r) ((r, LCg.lst vs) :: news)) := by
  intro dp un gd cn cs a ccd cl outer A₀ base h₀ L m s Q E B F X N T hk hd hu hret
  refine wpAny_call ?_
  k_dflt (refine' code_defC ?k1 ?k2 ?k3 ?k4 ?k5 ?kA ?kF ?kK ?k6 ?k7 ?k8 ?k9 ?kB ?kD ?_ ?c2 ?c3 ?c4)
  (case kA => exact rfl); (case kF => exact rfl); (case kK => assumption); (case k1 => k_asm); (case k2 => k_asm); (case k3 => k_asm); (case k4 => k_asm); (case k5 => k_asm); (case k6 => k_is); (case k7 => k_is); (case k8 => ktr_room)
  (case k9 => exact BindsTo.of_eq rfl); (case kB => exact rfl); (case kD => decide +kernel); (case c2 => exact rfl); (case c3 => exact rfl); (case c4 => exact rfl)
  intro g' L' h' tk' cells' FG' F' N' Y' B' X' T' l1
  have ol := off1_lt l1
  (try k_lt l1); k_cells Y'; (try simp only [List.cons_append, List.nil_append] at N'); (try dsimp only); (try k_lift B'); (try k_fold)
  k_steps
  exact hret _ _ (by assumption) (And.right (And.right (by assumption))) _ _ (by k_asm) (cb_drop (by k_asm) (fun p hp => by
    rcases List.mem_cons.mp hp with rfl | hp
    · exact List.mem_cons_self
    · exact List.mem_cons_of_mem _ (List.mem_cons_of_mem _ (List.mem_cons_of_mem _ hp))))
local macro_rules | `(tactic| walk_at "call ref") => `(tactic| (k_here; (with_reducible show wpAny _ _ (call (Value.ref 390) _ _) _ _ _); k_dflt (refine' fn_use ?k1 ?k2 ?k3 ?k4 ?k5 ?kK limits ?kd ?ku ?_; (case k1 => k_asm); (case k2 => k_asm); (case k3 => k_asm); (case k4 => first | k_asm | exact cb_drop (by assumption) (fun p hp => List.mem_cons_of_mem _ hp)); (case k5 => k_asm); (case kK => first | exact rfl | assumption); (case kd => ktr_room); (case ku => ktr_units); refine fun x9 d9 q1 q2 q3 q4 q5 e9 o9 u9 h9 tk9 F9 N9 => ?_; (have o8 := o9); (have u8 := u9); (try simp only [LCg.Off1, and_true] at o8 u8); (try dsimp only); (try k_fold))))
local macro_rules | `(tactic| walk_at "call ref") => `(tactic| (k_here; (with_reducible show wpAny _ _ (call (Value.ref 92) _ _) _ _ _); k_dflt (refine' fn_use ?k1 ?k2 ?k3 ?k4 ?k5 ?kK (vecSet ?f1 ?f2 ?f3 ?f4 ?f5 ?f6 ?f7 ?f8 ?f9 ?fa) ?kd ?ku ?_; (case k1 => k_asm); (case k2 => k_asm); (case k3 => k_asm); (case k4 => first | k_asm | exact cb_drop (by assumption) (fun p hp => List.mem_cons_of_mem _ hp)); (case k5 => k_asm); (case f1 => assumption); (case f2 => assumption); (case f3 => omega); (case f4 => omega); (case f5 => omega); (case f6 => omega); (case f7 => assumption); (case f8 => assumption); (case f9 => assumption); (case fa => assumption); (case kK => first | exact rfl | assumption); (case kd => ktr_room); (case ku => ktr_units); refine fun t9 h9 tk9 F9 N9 => ?_; (try dsimp only); (try k_fold))))
local macro_rules | `(tactic| walk_at "exec For Tuple Name cons nil") => `(tactic| (k_here; (rename Fr _ _ _ _ => lF'); (with_unfolding_all refine' For_turns lF' ?_; k_whole)))
theorem lawLaid {w : World} {mean : ExcName → Option Value} {mg mb : Str → Option Value} {news : List (Addr × Obj)} {lp : Addr} {vs : List Value} {ps : List (Int × Int)} {n : Nat} {tb : Tok} {bits : Int} (hb : Bits bits) (hps : Prs news vs ps) (hok : ∀ p ∈ ps, PairOk bits p) :
    FnSpec w mean mg mb 4 416 [.ref lp, .int bits tb] ((lp, listOf vs.toArray n) :: news) (fun K => ∀ t', K (.str (txt (laidO bits ps)) t') ((lp, listOf vs.toArray n) :: news)) := by
  intro dp un gd cn cs a ccd cl outer A₀ base h₀ L m s Q E B F X N T hk hd hu hret
  refine wpAny_call ?_
  k_dflt cell_enter
  k_steps
  refine list_inv (by rfl) (by k_asm) (by k_asm) (by k_mem) (by rfl) (by rfl) (fun r m' n' => ∃ (u : Str → Option Value) (T : Str) (tk : Tok) (qs : List (Int × Int)), n' = (lp, listOf vs.toArray n) :: news ∧ Prs news r qs ∧ (∀ p ∈ qs, PairOk bits p) ∧ (∀ c ∈ codes T, c ≤ 255) ∧ T.length ≤ 12 ∧ qs.foldl (fun o p => vset o p.1 bits p.2) (codes T) = laidO bits ps ∧
    m' = fun y => if y = Str.ofString "text" then some (.str T tk) else if y = Str.ofString "place" then u y else if y = Str.ofString "number" then u y else List.lookup y [(Str.ofString "bits", Value.int bits tb), (Str.ofString "pairs", Value.ref lp)]) ?_ ?_ ?_
  · exact ⟨_, Str.ofString "", _, ps, rfl, hps, hok, (fun c hc => by rw [show codes (Str.ofString "") = [] by decide +kernel] at hc; cases hc), by decide +kernel, by rw [show codes (Str.ofString "") = [] by decide +kernel]; rfl, frame3 (by with_unfolding_all rfl) (fun y e1 e2 e3 => by simp only [if_neg e1]; rfl)⟩
  · rintro I oI v r m₁ n₁ h tk ⟨u, T, tk, qs, rfl, hq, hqs, hT, hT12, hfold, rfl⟩ hx ho F' N'
    cases hq with
    | cons ha hr =>
      rename_i a p nu t t' qs
      obtain ⟨a1, a2, a3, a4⟩ := hqs _ List.mem_cons_self
      have N'' : News _ _ h ((I, oI) :: (a, tupOf #[.int p t, .int nu t']) :: (lp, listOf vs.toArray n) :: news) := fun q hq => by
        rcases List.mem_cons.mp hq with rfl | hq
        · exact N' _ List.mem_cons_self
        · rcases List.mem_cons.mp hq with rfl | hq
          · exact N' _ (List.mem_cons_of_mem _ (List.mem_cons_of_mem _ ha))
          · exact N' _ (List.mem_cons_of_mem _ hq)
      clear N'
      have hoct := codes_oct hT
      have hv := vset_oct hb a1 a2 a3 a4 hoct
      have hc := codes_txt hv
      have hl := vset_len hb a1 a2 (val := nu) (show (codes T).length ≤ 12 by rw [codes_length]; exact hT12)
      k_steps
      refine ⟨_, _, _, (lp, listOf vs.toArray n) :: news, rfl, by k_asm, ?_, ?_, ⟨hx, ho⟩, _, _, _, qs, rfl, hr, (fun q hq => hqs q (List.mem_cons_of_mem _ hq)), ?_, ?_, ?_, frame3 (by with_unfolding_all rfl) (fun y e1 e2 e3 => by simp only [if_neg e1, if_neg e2, if_neg e3])⟩
      · refine cb_drop (by k_asm) (fun q hq => ?_)
        rcases List.mem_cons.mp hq with rfl | hq
        · exact List.mem_cons_self
        · exact List.mem_cons_of_mem _ (List.mem_cons_of_mem _ hq)
      · intro q hq r hr'
        rw [List.mem_singleton.mp hr']
        exact off1_mem ho q hq
      · rw [hc]; exact fun c hc' => (hv c hc').2
      · rw [← codes_length, hc]; exact hl
      · rw [hc]; exact hfold
  · rintro m₁ n₁ h tk ⟨u, T, tk, qs, rfl, hq, hqs, hT, hT12, hfold, rfl⟩ hx F' N'
    cases hq
    k_steps
    have e : T = txt (laidO bits ps) := by rw [← hfold]; exact (txt_codes T).symm
    rw [← e] at hret
    exact hret _ _ _ (by k_asm) (by k_asm)
theorem lawDue {w : World} {mean : ExcName → Option Value} {mg mb : Str → Option Value} {news : List (Addr × Obj)} {lp : Addr} {vs : List Value} {ps : List (Int × Int)} {n : Nat} {bits : Int} (hps : Prs news vs ps) (hok : ∀ p ∈ ps, PairOk bits p) :
    FnSpec w mean mg mb 4 428 [.ref lp] ((lp, listOf vs.toArray n) :: news) (fun K => ∀ r us k, IntsAre us (dueO ps) → (@Ne Nat lp r) → LCg.Off1 r news → K (.ref r) ((r, listOf us.toArray k) :: (lp, listOf vs.toArray n) :: news)) := by
  intro dp un gd cn cs a ccd cl outer A₀ base h₀ L m s Q E B F X N T hk hd hu hret
  refine wpAny_call ?_
  k_dflt cell_enter
  k_steps
  have dropN : ∀ (x y : Addr × Obj) (l : List (Addr × Obj)), ∀ p ∈ x :: l, p ∈ x :: y :: l := fun x y l p hp => by
    rcases List.mem_cons.mp hp with rfl | hp
    · exact List.mem_cons_self
    · exact List.mem_cons_of_mem _ (List.mem_cons_of_mem _ hp)
  refine list_inv (by rfl) (by k_asm) (cb_drop (by k_asm) (dropN _ _ _)) (by k_mem) (by rfl) (by rfl) (fun r m' n' => ∃ (D : Addr) (u : Str → Option Value) (us : List Value) (o : List Int) (k : Nat) (qs : List (Int × Int)), n' = (D, listOf us.toArray k) :: (lp, listOf vs.toArray n) :: news ∧ (@Ne Nat lp D) ∧ LCg.Off1 D news ∧ IntsAre us o ∧ o.length = 13 ∧ Prs news r qs ∧ (∀ p ∈ qs, PairOk bits p) ∧ qs.foldl (fun row p => row.set p.1.toNat p.2) o = dueO ps ∧
    m' = fun y => if y = Str.ofString "row" then some (.ref D) else if y = Str.ofString "place" then u y else if y = Str.ofString "number" then u y else List.lookup y [(Str.ofString "pairs", Value.ref lp)]) ?_ ?_ ?_
  · refine ⟨_, _, _, List.replicate 13 0, _, ps, rfl, by omega, off1_lt (ktn_ltOf (And.right (And.right (by assumption)))), by repeat constructor, by decide, hps, hok, rfl, frame3 (by with_unfolding_all rfl) (fun y e1 e2 e3 => by simp only [if_neg e1]; rfl)⟩
  · rintro I oI v r m₁ n₁ h tk ⟨D, u, us, o, k, qs, rfl, hne, hD, hus, ho13, hq, hqs, hfold, rfl⟩ hx ho F' N'
    cases hq with
    | cons ha hr =>
      rename_i a p nu t t' qs
      obtain ⟨a1, a2, a3, a4⟩ := hqs _ List.mem_cons_self
      have N'' : News _ _ h ((I, oI) :: (a, tupOf #[.int p t, .int nu t']) :: (D, listOf us.toArray k) :: (lp, listOf vs.toArray n) :: news) := fun q hq => by
        rcases List.mem_cons.mp hq with rfl | hq
        · exact N' _ List.mem_cons_self
        · rcases List.mem_cons.mp hq with rfl | hq
          · exact N' _ (List.mem_cons_of_mem _ (List.mem_cons_of_mem _ (List.mem_cons_of_mem _ ha)))
          · exact N' _ (List.mem_cons_of_mem _ hq)
      have haD : @Ne Nat a D := off1_mem hD _ ha
      have ho' := ho
      simp only [LCg.Off1] at ho'
      clear N'
      k_steps
      refine ⟨_, _, _, (D, listOf (us.set p.toNat (Value.int nu t')).toArray k) :: (lp, listOf vs.toArray n) :: news, rfl, by k_asm, cb_drop (by k_asm) (dropN _ _ _), ?_, ⟨List.mem_cons_of_mem _ List.mem_cons_self, ho⟩, D, _, _, o.set p.toNat nu, k, qs, rfl, hne, hD, by assumption, by rw [List.length_set]; exact ho13, hr, (fun q hq => hqs q (List.mem_cons_of_mem _ hq)), hfold, frame3 (by with_unfolding_all rfl) (fun y e1 e2 e3 => by simp only [if_neg e1, if_neg e2, if_neg e3])⟩
      intro q hq r hr'
      rw [List.mem_singleton.mp hr']
      exact off1_mem (show LCg.Off1 I ((D, listOf (us.set p.toNat (Value.int nu t')).toArray k) :: (lp, listOf vs.toArray n) :: news) from ho) q hq
  · rintro m₁ n₁ h tk ⟨D, u, us, o, k, qs, rfl, hne, hD, hus, ho13, hq, hqs, hfold, rfl⟩ hx F' N'
    cases hq
    k_steps
    rw [show o = dueO ps from hfold] at hus
    exact hret _ _ _ hus hne hD _ _ (by k_asm) (by k_asm)
def Stop (P : Prop) : Prop := P
theorem Stop.out {P : Prop} (h : Stop P) : P := h
local macro_rules | `(tactic| walk_at "call ref") => `(tactic| (k_here; (with_reducible show wpAny _ _ (call (Value.ref 402) _ _) _ _ _); k_dflt (refine' fn_use ?k1 ?k2 ?k3 ?k4 ?k5 ?kK (peg ?f1 ?f2 ?f3 ?f4 ?f5 ?f6 ?f7 ?f8 ?f9) ?kd ?ku ?_; (case k1 => k_asm); (case k2 => k_asm); (case k3 => k_asm); (case k4 => first | k_asm | exact cb_drop (by assumption) (fun p hp => List.mem_cons_of_mem _ hp)); (case k5 => k_asm); (case f1 => intro t9; k_upd); (case f2 => k_mem); (case f3 => omega); (case f4 => assumption); (case f5 => assumption); (case f6 => omega); (case f7 => omega); (case f8 => first | decide | assumption); (case f9 => first | decide | assumption); (case kK => first | exact rfl | assumption); (case kd => ktr_room); (case ku => ktr_units); refine fun t9 u9 h9 tk9 F9 N9 => ?_; (try dsimp only); (try k_fold))))
local macro_rules | `(tactic| walk_at "call type:range") => `(tactic| (k_here; (with_reducible show wpAny _ _ (call (Value.type "range") [Value.int _ _]) _ _ _); (with_unfolding_all refine range1_rows (by k_asm) (by k_asm) ?_); intro h9 tk9 q1 q2 q3 R9 F9 N9 k9))
local macro_rules | `(tactic| walk_at "pyIter ref") => `(tactic| ((with_reducible show wpAny _ _ (pyIter (Value.ref _)) (fun it s₂ => LoopAtV _ _ _ _ _ _ _ _ _ it s₂) _ _); refine Stop.out ?_))
theorem lawPairs {w : World} {mean : ExcName → Option Value} {mg mb : Str → Option Value} {news : List (Addr × Obj)} {b l : Addr} {vs : List Value} {ns : List Int} {k bits : Int} {tk tb : Tok} {nb nl : Nat} (hb : Bits bits)
    (hlb : @Ne Nat l b) (hnb : LCg.Off1 b news) (hi : IntsAre vs ns) (h24 : ns.length ≤ 24) (h0 : 0 ≤ k) (h100 : k ≤ 50) :
    FnSpec w mean mg mb 4 409 [.ref b, .int bits tb] ((b, listOf #[.ref l, .int k tk] nb) :: (l, listOf vs.toArray nl) :: news)
      (fun K => ∀ f us nf t' tl, Prs tl us (pairsGo ns bits (pegAt ns (k + 1) % 6).toNat (k + 1) []) → (@Ne Nat f b) → (@Ne Nat f l) → LCg.Off1 f news → LCg.Off1 f tl → OwnOff tl (b :: l :: news.map (·.1)) →
        K (.ref f) ((f, listOf us.toArray nf) :: (b, listOf #[.ref l, .int (k + 1 + 2 * (pegAt ns (k + 1) % 6)) t'] nb) :: (l, listOf vs.toArray nl) :: (news ++ tl))) := by
  intro dp un gd cn cs a ccd cl outer A₀ base h₀ L m s Q E B F X N T hk hd hu hret
  have hm0 : (0 : Int) < 2 ^ bits.toNat := by rcases hb with rfl | rfl | rfl | rfl <;> decide
  have hm1 : (2 : Int) ^ bits.toNat ≤ 256 := by rcases hb with rfl | rfl | rfl | rfl <;> decide
  have hb1 : 1 ≤ bits := by rcases hb with rfl | rfl | rfl | rfl <;> decide
  have hb8 : bits ≤ 8 := by rcases hb with rfl | rfl | rfl | rfl <;> decide
  refine wpAny_call ?_
  k_dflt cell_enter
  k_steps
  unfold Stop
  rename News _ _ _ _ => N0
  have N1 := cb_drop N0 (fun p hp => List.mem_cons_of_mem _ hp)
  clear N0
  rw [← List.append_nil news] at N1
  rename _ < _ ∧ _ < _ ∧ _ < _ ∧ AllLt _ _ => l2
  rename _ < _ ∧ _ < _ ∧ AllLt _ _ => l1
  refine range_grow (by rfl) (by assumption) (by omega) (by omega) rfl (by k_asm) N1 (fun i m nx => ∃ (f q : Addr) (us ws : List Value) (nf nq : Nat) (ps : List (Int × Int)) (kk : Int) (t' : Tok) (tl : List (Addr × Obj)) (u : Str → Option Value),
    nx = (q, listOf ws.toArray nq) :: (f, listOf us.toArray nf) :: (b, listOf #[.ref l, .int kk t'] nb) :: (l, listOf vs.toArray nl) :: (news ++ tl) ∧ kk = k + 1 + 2 * (i : Int) ∧
    ((@Ne Nat f q) ∧ (@Ne Nat f b) ∧ (@Ne Nat f l) ∧ (@Ne Nat q b) ∧ (@Ne Nat q l)) ∧ LCg.Off1 f (news ++ tl) ∧ LCg.Off1 q (news ++ tl) ∧ OwnOff tl (b :: l :: news.map (·.1)) ∧ Prs tl us ps ∧ IntsAre ws (ps.map Prod.fst) ∧ ps.length ≤ i ∧
    pairsGo ns bits ((pegAt ns (k + 1) % 6).toNat - i) kk ps = pairsGo ns bits (pegAt ns (k + 1) % 6).toNat (k + 1) [] ∧
    m = fun y => if y = Str.ofString "turn" then u y else if y = Str.ofString "place" then u y else if y = Str.ofString "number" then u y else if y = Str.ofString "found" then some (.ref f) else if y = Str.ofString "places" then some (.ref q) else List.lookup y [(Str.ofString "bits", Value.int bits tb), (Str.ofString "board", Value.ref b)]) ?_ ?_ ?_
  · have hne : @Ne Nat _ _ := Nat.ne_of_lt l2.1
    refine ⟨_, _, [], [], _, _, [], _, _, [], _, rfl, by omega, ⟨hne, Nat.ne_of_gt l1.1, Nat.ne_of_gt l1.2.1, Nat.ne_of_gt l2.2.1, Nat.ne_of_gt l2.2.2.1⟩, ?_, ?_, (fun p hp => nomatch hp), .nil, .nil, Nat.zero_le _, rfl, frame3u (fun y e1 e2 e3 => by rfl)⟩
    · rw [List.append_nil]; exact off1_lt (ktn_ltOf l1.2.2)
    · rw [List.append_nil]; exact off1_lt (ktn_ltOf l2.2.2.2)
  · rintro i t m₁ nx h tk own hin hown ⟨f, q, us, ws, nf, nq, ps, kk, t', tl, u, rfl, hkk, ⟨hfq, hfb, hfl, hqb, hql⟩, hof, hoq, htl, hps, hws, hlen, hgo, rfl⟩ F' N'
    have hoB : LCg.Off1 b ((news ++ tl) ++ own) := off1_app (off1_app hnb (off1_of_own htl List.mem_cons_self)) (off1_of_own hown (List.mem_cons_of_mem _ (List.mem_cons_of_mem _ List.mem_cons_self)))
    have hoF : LCg.Off1 f ((news ++ tl) ++ own) := off1_app hof (off1_of_own hown (List.mem_cons_of_mem _ List.mem_cons_self))
    have hoQ : LCg.Off1 q ((news ++ tl) ++ own) := off1_app hoq (off1_of_own hown List.mem_cons_self)
    obtain ⟨X, hX⟩ : ∃ X, X = (news ++ tl) ++ own := ⟨_, rfl⟩
    simp only [List.cons_append] at N'
    rw [← hX] at hoB hoF hoQ N'
    have hi5 : (i : Int) ≤ 5 := by omega
    have hk0 : 0 ≤ kk := by omega
    have hk1 : kk ≤ 70 := by omega
    have hlw := IntsAre.length hws
    rw [List.length_map] at hlw
    have hlu := Prs.length hps
    k_steps
    · rename Fr _ _ _ _ => FF
      rename News _ _ _ _ => NN
      rename (_ = true) => hany
      subst hX
      refine InvEndG.intro (nx := (q, listOf ws.toArray nq) :: (f, listOf us.toArray nf) :: (b, listOf #[.ref l, .int (kk + 1 + 1) _] nb) :: (l, listOf vs.toArray nl) :: (news ++ tl)) FF NN
        ⟨f, q, us, ws, nf, nq, ps, _, _, tl, _, rfl, by omega, ⟨hfq, hfb, hfl, hqb, hql⟩, hof, hoq, htl, hps, hws, by omega, ?_, frame3u (fun y e1 e2 e3 => ?_)⟩ hown (fun p hp => List.mem_cons_of_mem _ (List.mem_append_left own hp)) (fun p hp => List.mem_cons_of_mem _ (List.mem_append_right ((q, listOf ws.toArray nq) :: (f, listOf us.toArray nf) :: (b, listOf #[.ref l, .int (kk + 1 + 1) _] nb) :: (l, listOf vs.toArray nl) :: (news ++ tl)) hp))
      · rw [← hgo, pairsGo_step hin, if_pos hany]
      · simp only [if_neg e1, if_neg e2, if_neg e3]
    · rename Fr _ _ _ _ => FF
      rename News _ _ _ _ => NN
      rename (_ = false) => hany
      rename _ ∧ _ => l1
      subst hX
      simp only [List.push_toArray] at NN
      obtain ⟨g1, g2, g3, g4⟩ := own_grow hown htl l1.2
      refine InvEndG.intro FF NN ⟨f, q, _, _, _, _, ps ++ [(pegAt ns (kk + 1) % 12, pegAt ns (kk + 1 + 1) % 2 ^ bits.toNat)], _, _, _ :: tl, _, rfl, ?_, ⟨hfq, hfb, hfl, hqb, hql⟩, g3 hof, g4 hoq, g2, ?_, ?_, ?_, ?_, frame3u (fun y e1 e2 e3 => ?_)⟩ g1 mem_mid mem_own
      · omega
      · exact Prs.append (hps.mono fun p hp => List.mem_cons_of_mem _ hp) (.cons List.mem_cons_self .nil)
      · rw [List.map_append]; exact ksk_snoc hws
      · rw [List.length_append]; exact Nat.succ_le_succ hlen
      · rw [← hgo, pairsGo_step hin, if_neg (by rw [hany]; decide)]
      · simp only [if_neg e1, if_neg e2, if_neg e3]
  · rintro m₁ nx h tk ⟨f, q, us, ws, nf, nq, ps, kk, t', tl, u, rfl, hkk, ⟨hfq, hfb, hfl, hqb, hql⟩, hof, hoq, htl, hps, hws, hlen, hgo, rfl⟩ F' N'
    have hn : ((pegAt ns (k + 1) % 6).toNat : Int) = pegAt ns (k + 1) % 6 := by omega
    rw [hn] at hkk
    rw [Nat.sub_self] at hgo
    have hps' : Prs tl us (pairsGo ns bits (pegAt ns (k + 1) % 6).toNat (k + 1) []) := by rw [← hgo]; exact hps
    subst hkk
    k_steps
    obtain ⟨o1, o2⟩ := off1_split hof
    exact hret _ _ _ _ _ hps' hfb hfl o1 o2 htl _ _ (by k_asm) (cb_drop (by k_asm) (fun p hp => List.mem_cons_of_mem _ hp))
theorem textBitsAnd {w : World} {mean : ExcName → Option Value} {mg mb : Str → Option Value} {news : List (Addr × Obj)} {x y : Str} {tp tx ty : Tok} (hx : x.length ≤ 100) (hy : y.length ≤ 100) (hcx : ∀ c ∈ codes x, c ≤ 255) (hcy : ∀ c ∈ codes y, c ≤ 255) :
    FnSpec w mean mg mb 4 316 [.str (Str.ofString "&") tp, .str x tx, .str y ty] news (fun K => ∀ t', K (.str (txt (bitsO Builtin.bitAnd (min x.length y.length) (codes x) (codes y))) t') news) := by
  intro dp un gd cn cs a ccd cl outer A₀ base h₀ L m s Q E B F X N T hk hd hu hret
  refine wpAny_call ?_
  k_dflt cell_enter
  k_steps
  unfold Stop
  refine range_grow (n := min x.length y.length) (by rfl) (by assumption) (by omega) (by omega) (by omega) (by k_asm) (by k_asm) (fun i m nx => ∃ (u : Str → Option Value) (O : Str) (tk : Tok), nx = news ∧ O = txt (bitsO Builtin.bitAnd i (codes x) (codes y)) ∧
    m = fun z => if z = Str.ofString "out" then some (.str O tk) else if z = Str.ofString "at" then u z else if z = Str.ofString "a" then u z else if z = Str.ofString "b" then u z else if z = Str.ofString "code" then u z else if z = Str.ofString "size" then u z else List.lookup z [(Str.ofString "y", Value.str y ty), (Str.ofString "x", Value.str x tx), (Str.ofString "op", Value.str (Str.ofString "&") tp)]) ?_ ?_ ?_
  · exact ⟨_, Str.ofString "", _, rfl, (by show _ = txt []; decide +kernel), frame6 (by with_unfolding_all rfl) (fun z e1 e2 e3 e4 e5 e6 => by simp only [if_neg e1, if_neg e6]; rfl)⟩
  · rintro i t m₁ nx h tk own hin hown ⟨u, O, tko, rfl, hO, rfl⟩ F' N'
    have hL : O.length ≤ 100 := by rw [hO]; exact Nat.le_trans (Nat.le_of_eq (bitsO_len _ _ _ _)) (by omega)
    have cx := octD hcx i
    have cy := octD hcy i
    have hxi : i < x.length := by omega
    have hyi : i < y.length := by omega
    have ex := item_code hxi
    have ey := item_code hyi
    rw [← ex] at cx
    rw [← ey] at cy
    have hB := bitAnd_oct cx cy
    unfold Oct at hB
    k_steps
    all_goals
      rename Fr _ _ _ _ => FF
      rename News _ _ _ _ => NN
      refine InvEndG.intro FF NN ⟨_, _, _, rfl, ?_, frame6 (by with_unfolding_all rfl) (fun z e1 e2 e3 e4 e5 e6 => ?_)⟩ hown (fun p hp => List.mem_append_left own hp) (fun p hp => List.mem_append_right nx hp)
      · rw [bitsO_snoc hO]
        rw [ex, ey]
        (try rfl)
      · simp only [if_neg e1, if_neg e2, if_neg e3, if_neg e4, if_neg e5, if_neg e6]

  · rintro m₁ nx h tk ⟨u, O, tko, rfl, hO, rfl⟩ F' N'
    k_steps
    rw [← hO] at hret
    exact hret _ _ _ (by k_asm) (by k_asm)

theorem textBitsOr {w : World} {mean : ExcName → Option Value} {mg mb : Str → Option Value} {news : List (Addr × Obj)} {x y : Str} {tp tx ty : Tok} (hx : x.length ≤ 100) (hy : y.length ≤ 100) (hcx : ∀ c ∈ codes x, c ≤ 255) (hcy : ∀ c ∈ codes y, c ≤ 255) :
    FnSpec w mean mg mb 4 316 [.str (Str.ofString "|") tp, .str x tx, .str y ty] news (fun K => ∀ t', K (.str (txt (bitsO Builtin.bitOr (max x.length y.length) (codes x) (codes y))) t') news) := by
  intro dp un gd cn cs a ccd cl outer A₀ base h₀ L m s Q E B F X N T hk hd hu hret
  refine wpAny_call ?_
  k_dflt cell_enter
  k_steps
  unfold Stop
  refine range_grow (n := max x.length y.length) (by rfl) (by assumption) (by omega) (by omega) (by omega) (by k_asm) (by k_asm) (fun i m nx => ∃ (u : Str → Option Value) (O : Str) (tk : Tok), nx = news ∧ O = txt (bitsO Builtin.bitOr i (codes x) (codes y)) ∧
    m = fun z => if z = Str.ofString "out" then some (.str O tk) else if z = Str.ofString "at" then u z else if z = Str.ofString "a" then u z else if z = Str.ofString "b" then u z else if z = Str.ofString "code" then u z else if z = Str.ofString "size" then u z else List.lookup z [(Str.ofString "y", Value.str y ty), (Str.ofString "x", Value.str x tx), (Str.ofString "op", Value.str (Str.ofString "|") tp)]) ?_ ?_ ?_
  · exact ⟨_, Str.ofString "", _, rfl, (by show _ = txt []; decide +kernel), frame6 (by with_unfolding_all rfl) (fun z e1 e2 e3 e4 e5 e6 => by simp only [if_neg e1, if_neg e6]; rfl)⟩
  · rintro i t m₁ nx h tk own hin hown ⟨u, O, tko, rfl, hO, rfl⟩ F' N'
    have hL : O.length ≤ 100 := by rw [hO]; exact Nat.le_trans (Nat.le_of_eq (bitsO_len _ _ _ _)) (by omega)
    have cx := octD hcx i
    have cy := octD hcy i
    by_cases hxi : i < x.length
    · by_cases hyi : i < y.length
      · skip
        have ex := item_code hxi
        have ey := item_code hyi
        rw [← ex] at cx
        rw [← ey] at cy
        have hB := bitOr_oct cx cy
        unfold Oct at hB
        k_steps
        all_goals
          rename Fr _ _ _ _ => FF
          rename News _ _ _ _ => NN
          refine InvEndG.intro FF NN ⟨_, _, _, rfl, ?_, frame6 (by with_unfolding_all rfl) (fun z e1 e2 e3 e4 e5 e6 => ?_)⟩ hown (fun p hp => List.mem_append_left own hp) (fun p hp => List.mem_append_right nx hp)
          · rw [bitsO_snoc hO]
            rw [ex, ey]
            (try rfl)
          · simp only [if_neg e1, if_neg e2, if_neg e3, if_neg e4, if_neg e5, if_neg e6]
      · skip
        have ex := item_code hxi
        have ey := codes_out (x := y) (i := i) (by omega)
        rw [← ex] at cx
        have hB := bitOr_oct cx oct0
        unfold Oct at hB
        k_steps
        all_goals
          rename Fr _ _ _ _ => FF
          rename News _ _ _ _ => NN
          refine InvEndG.intro FF NN ⟨_, _, _, rfl, ?_, frame6 (by with_unfolding_all rfl) (fun z e1 e2 e3 e4 e5 e6 => ?_)⟩ hown (fun p hp => List.mem_append_left own hp) (fun p hp => List.mem_append_right nx hp)
          · rw [bitsO_snoc hO]
            rw [ex, ← ey]
            (try rfl)
          · simp only [if_neg e1, if_neg e2, if_neg e3, if_neg e4, if_neg e5, if_neg e6]
    · have hyi : i < y.length := by omega
      have ex := codes_out (x := x) (i := i) (by omega)
      have ey := item_code hyi
      rw [← ey] at cy
      have hB := bitOr_oct oct0 cy
      unfold Oct at hB
      k_steps
      all_goals
        rename Fr _ _ _ _ => FF
        rename News _ _ _ _ => NN
        refine InvEndG.intro FF NN ⟨_, _, _, rfl, ?_, frame6 (by with_unfolding_all rfl) (fun z e1 e2 e3 e4 e5 e6 => ?_)⟩ hown (fun p hp => List.mem_append_left own hp) (fun p hp => List.mem_append_right nx hp)
        · rw [bitsO_snoc hO]
          rw [← ex, ey]
          (try rfl)
        · simp only [if_neg e1, if_neg e2, if_neg e3, if_neg e4, if_neg e5, if_neg e6]

  · rintro m₁ nx h tk ⟨u, O, tko, rfl, hO, rfl⟩ F' N'
    k_steps
    rw [← hO] at hret
    exact hret _ _ _ (by k_asm) (by k_asm)

theorem textBitsXor {w : World} {mean : ExcName → Option Value} {mg mb : Str → Option Value} {news : List (Addr × Obj)} {x y : Str} {tp tx ty : Tok} (hx : x.length ≤ 100) (hy : y.length ≤ 100) (hcx : ∀ c ∈ codes x, c ≤ 255) (hcy : ∀ c ∈ codes y, c ≤ 255) :
    FnSpec w mean mg mb 4 316 [.str (Str.ofString "^") tp, .str x tx, .str y ty] news (fun K => ∀ t', K (.str (txt (bitsO Builtin.bitXor (max x.length y.length) (codes x) (codes y))) t') news) := by
  intro dp un gd cn cs a ccd cl outer A₀ base h₀ L m s Q E B F X N T hk hd hu hret
  refine wpAny_call ?_
  k_dflt cell_enter
  k_steps
  unfold Stop
  refine range_grow (n := max x.length y.length) (by rfl) (by assumption) (by omega) (by omega) (by omega) (by k_asm) (by k_asm) (fun i m nx => ∃ (u : Str → Option Value) (O : Str) (tk : Tok), nx = news ∧ O = txt (bitsO Builtin.bitXor i (codes x) (codes y)) ∧
    m = fun z => if z = Str.ofString "out" then some (.str O tk) else if z = Str.ofString "at" then u z else if z = Str.ofString "a" then u z else if z = Str.ofString "b" then u z else if z = Str.ofString "code" then u z else if z = Str.ofString "size" then u z else List.lookup z [(Str.ofString "y", Value.str y ty), (Str.ofString "x", Value.str x tx), (Str.ofString "op", Value.str (Str.ofString "^") tp)]) ?_ ?_ ?_
  · exact ⟨_, Str.ofString "", _, rfl, (by show _ = txt []; decide +kernel), frame6 (by with_unfolding_all rfl) (fun z e1 e2 e3 e4 e5 e6 => by simp only [if_neg e1, if_neg e6]; rfl)⟩
  · rintro i t m₁ nx h tk own hin hown ⟨u, O, tko, rfl, hO, rfl⟩ F' N'
    have hL : O.length ≤ 100 := by rw [hO]; exact Nat.le_trans (Nat.le_of_eq (bitsO_len _ _ _ _)) (by omega)
    have cx := octD hcx i
    have cy := octD hcy i
    by_cases hxi : i < x.length
    · by_cases hyi : i < y.length
      · skip
        have ex := item_code hxi
        have ey := item_code hyi
        rw [← ex] at cx
        rw [← ey] at cy
        have hB := bitXor_oct cx cy
        unfold Oct at hB
        k_steps
        all_goals
          rename Fr _ _ _ _ => FF
          rename News _ _ _ _ => NN
          refine InvEndG.intro FF NN ⟨_, _, _, rfl, ?_, frame6 (by with_unfolding_all rfl) (fun z e1 e2 e3 e4 e5 e6 => ?_)⟩ hown (fun p hp => List.mem_append_left own hp) (fun p hp => List.mem_append_right nx hp)
          · rw [bitsO_snoc hO]
            rw [ex, ey]
            (try rfl)
          · simp only [if_neg e1, if_neg e2, if_neg e3, if_neg e4, if_neg e5, if_neg e6]
      · skip
        have ex := item_code hxi
        have ey := codes_out (x := y) (i := i) (by omega)
        rw [← ex] at cx
        have hB := bitXor_oct cx oct0
        unfold Oct at hB
        k_steps
        all_goals
          rename Fr _ _ _ _ => FF
          rename News _ _ _ _ => NN
          refine InvEndG.intro FF NN ⟨_, _, _, rfl, ?_, frame6 (by with_unfolding_all rfl) (fun z e1 e2 e3 e4 e5 e6 => ?_)⟩ hown (fun p hp => List.mem_append_left own hp) (fun p hp => List.mem_append_right nx hp)
          · rw [bitsO_snoc hO]
            rw [ex, ← ey]
            (try rfl)
          · simp only [if_neg e1, if_neg e2, if_neg e3, if_neg e4, if_neg e5, if_neg e6]
    · have hyi : i < y.length := by omega
      have ex := codes_out (x := x) (i := i) (by omega)
      have ey := item_code hyi
      rw [← ey] at cy
      have hB := bitXor_oct oct0 cy
      unfold Oct at hB
      k_steps
      all_goals
        rename Fr _ _ _ _ => FF
        rename News _ _ _ _ => NN
        refine InvEndG.intro FF NN ⟨_, _, _, rfl, ?_, frame6 (by with_unfolding_all rfl) (fun z e1 e2 e3 e4 e5 e6 => ?_)⟩ hown (fun p hp => List.mem_append_left own hp) (fun p hp => List.mem_append_right nx hp)
        · rw [bitsO_snoc hO]
          rw [← ex, ey]
          (try rfl)
        · simp only [if_neg e1, if_neg e2, if_neg e3, if_neg e4, if_neg e5, if_neg e6]

  · rintro m₁ nx h tk ⟨u, O, tko, rfl, hO, rfl⟩ F' N'
    k_steps
    rw [← hO] at hret
    exact hret _ _ _ (by k_asm) (by k_asm)
local macro_rules | `(tactic| walk_at "call ref") => `(tactic| (k_here; (with_reducible show wpAny _ _ (call (Value.ref 316) _ _) _ _ _); first | (k_dflt (refine' fn_use ?k1 ?k2 ?k3 ?k4 ?k5 ?kK (textBitsAnd ?f1 ?f2 ?f3 ?f4) ?kd ?ku ?_; (case k1 => k_asm); (case k2 => k_asm); (case k3 => k_asm); (case k4 => first | k_asm | exact cb_drop (by assumption) (fun p hp => List.mem_cons_of_mem _ hp)); (case k5 => k_asm); (case f1 => assumption); (case f2 => assumption); (case f3 => assumption); (case f4 => assumption); (case kK => first | exact rfl | assumption); (case kd => ktr_room); (case ku => ktr_units); refine fun t9 h9 tk9 F9 N9 => ?_; (try dsimp only); (try k_fold))) | (k_dflt (refine' fn_use ?k1 ?k2 ?k3 ?k4 ?k5 ?kK (textBitsOr ?f1 ?f2 ?f3 ?f4) ?kd ?ku ?_; (case k1 => k_asm); (case k2 => k_asm); (case k3 => k_asm); (case k4 => first | k_asm | exact cb_drop (by assumption) (fun p hp => List.mem_cons_of_mem _ hp)); (case k5 => k_asm); (case f1 => assumption); (case f2 => assumption); (case f3 => assumption); (case f4 => assumption); (case kK => first | exact rfl | assumption); (case kd => ktr_room); (case ku => ktr_units); refine fun t9 h9 tk9 F9 N9 => ?_; (try dsimp only); (try k_fold))) | (k_dflt (refine' fn_use ?k1 ?k2 ?k3 ?k4 ?k5 ?kK (textBitsXor ?f1 ?f2 ?f3 ?f4) ?kd ?ku ?_; (case k1 => k_asm); (case k2 => k_asm); (case k3 => k_asm); (case k4 => first | k_asm | exact cb_drop (by assumption) (fun p hp => List.mem_cons_of_mem _ hp)); (case k5 => k_asm); (case f1 => assumption); (case f2 => assumption); (case f3 => assumption); (case f4 => assumption); (case kK => first | exact rfl | assumption); (case kd => ktr_room); (case ku => ktr_units); refine fun t9 h9 tk9 F9 N9 => ?_; (try dsimp only); (try k_fold)))))

theorem opTxtAnd {w : World} {mean : ExcName → Option Value} {mg mb : Str → Option Value} {news : List (Addr × Obj)} {x y : Str} {tx ty : Tok} {l : Addr} (hx : x.length ≤ 100) (hy : y.length ≤ 100) (hcx : ∀ c ∈ codes x, c ≤ 255) (hcy : ∀ c ∈ codes y, c ≤ 255) :
    FnSpec w mean mg mb 6 351 [.str x tx, .str y ty, .ref l] news (fun K => ∀ t', K (.str (txt (bitsO Builtin.bitAnd (min x.length y.length) (codes x) (codes y))) t') news) := by
  intro dp un gd cn cs a ccd cl outer A₀ base h₀ L m s Q E B F X N T hk hd hu hret
  refine wpAny_call ?_
  k_dflt cell_enter
  k_steps
  exact hret _ _ _ (by k_asm) (by k_asm)

theorem opTxtOr {w : World} {mean : ExcName → Option Value} {mg mb : Str → Option Value} {news : List (Addr × Obj)} {x y : Str} {tx ty : Tok} {l : Addr} (hx : x.length ≤ 100) (hy : y.length ≤ 100) (hcx : ∀ c ∈ codes x, c ≤ 255) (hcy : ∀ c ∈ codes y, c ≤ 255) :
    FnSpec w mean mg mb 6 358 [.str x tx, .str y ty, .ref l] news (fun K => ∀ t', K (.str (txt (bitsO Builtin.bitOr (max x.length y.length) (codes x) (codes y))) t') news) := by
  intro dp un gd cn cs a ccd cl outer A₀ base h₀ L m s Q E B F X N T hk hd hu hret
  refine wpAny_call ?_
  k_dflt cell_enter
  k_steps
  exact hret _ _ _ (by k_asm) (by k_asm)

theorem opTxtXor {w : World} {mean : ExcName → Option Value} {mg mb : Str → Option Value} {news : List (Addr × Obj)} {x y : Str} {tx ty : Tok} {l : Addr} (hx : x.length ≤ 100) (hy : y.length ≤ 100) (hcx : ∀ c ∈ codes x, c ≤ 255) (hcy : ∀ c ∈ codes y, c ≤ 255) :
    FnSpec w mean mg mb 6 365 [.str x tx, .str y ty, .ref l] news (fun K => ∀ t', K (.str (txt (bitsO Builtin.bitXor (max x.length y.length) (codes x) (codes y))) t') news) := by
  intro dp un gd cn cs a ccd cl outer A₀ base h₀ L m s Q E B F X N T hk hd hu hret
  refine wpAny_call ?_
  k_dflt cell_enter
  k_steps
  exact hret _ _ _ (by k_asm) (by k_asm)
theorem wrap_small {n : Int} (h0 : 0 ≤ n) (h1 : n ≤ 255) : (if ¬(n.fmod (1 * 2 ^ Int.toNat 64)).fdiv (2 ^ Int.toNat (64 - 1)) = 0 then n.fmod (1 * 2 ^ Int.toNat 64) - 1 * 2 ^ Int.toNat 64 else n.fmod (1 * 2 ^ Int.toNat 64)) = n := by
  have e1 : (1 * 2 ^ Int.toNat 64 : Int) = 18446744073709551616 := by decide
  have e2 : (2 ^ Int.toNat (64 - 1) : Int) = 9223372036854775808 := by decide
  have e3 : n.fmod 18446744073709551616 = n := by rw [Int.fmod_eq_emod_of_nonneg _ (by decide)]; omega
  have e4 : n.fdiv 9223372036854775808 = 0 := by rw [Int.fdiv_eq_ediv_of_nonneg _ (by decide)]; omega
  rw [e1, e2, e3, e4, if_neg (fun h => h rfl)]

theorem opIntAnd {w : World} {mean : ExcName → Option Value} {mg mb : Str → Option Value} {news : List (Addr × Obj)} {a b : Int} {ta tb : Tok} {x d : Addr} {k1 k2 k3 k4 k5 : Tok} (ha : Oct n1) (hb : Oct n2) (hdx : @Ne Nat d x) (hox : LCg.Off1 x news) (hod : LCg.Off1 d news) :
    FnSpec w mean mg mb 6 351 [.int n1 ta, .int n2 tb, .ref x] (limLed w x d k1 k2 k3 k4 k5 news) (fun K => ∀ t', K (.int (Builtin.bitAnd n1 n2) t') news) := by
  intro dp un gd cn cs a ccd cl outer A₀ base h₀ L m s Q E B F X N T hk hd hu hret
  have hB := bitAnd_oct ha hb
  unfold Oct at hB
  unfold limLed at N
  refine wpAny_call ?_
  k_dflt cell_enter
  k_steps
  rw [wrap_small hB.1 hB.2]
  exact hret _ _ _ (by k_asm) (cb_drop (by k_asm) (fun p hp => List.mem_cons_of_mem _ (List.mem_cons_of_mem _ hp)))

theorem opIntOr {w : World} {mean : ExcName → Option Value} {mg mb : Str → Option Value} {news : List (Addr × Obj)} {a b : Int} {ta tb : Tok} {x d : Addr} {k1 k2 k3 k4 k5 : Tok} (ha : Oct n1) (hb : Oct n2) (hdx : @Ne Nat d x) (hox : LCg.Off1 x news) (hod : LCg.Off1 d news) :
    FnSpec w mean mg mb 6 358 [.int n1 ta, .int n2 tb, .ref x] (limLed w x d k1 k2 k3 k4 k5 news) (fun K => ∀ t', K (.int (Builtin.bitOr n1 n2) t') news) := by
  intro dp un gd cn cs a ccd cl outer A₀ base h₀ L m s Q E B F X N T hk hd hu hret
  have hB := bitOr_oct ha hb
  unfold Oct at hB
  unfold limLed at N
  refine wpAny_call ?_
  k_dflt cell_enter
  k_steps
  rw [wrap_small hB.1 hB.2]
  exact hret _ _ _ (by k_asm) (cb_drop (by k_asm) (fun p hp => List.mem_cons_of_mem _ (List.mem_cons_of_mem _ hp)))

theorem opIntXor {w : World} {mean : ExcName → Option Value} {mg mb : Str → Option Value} {news : List (Addr × Obj)} {a b : Int} {ta tb : Tok} {x d : Addr} {k1 k2 k3 k4 k5 : Tok} (ha : Oct n1) (hb : Oct n2) (hdx : @Ne Nat d x) (hox : LCg.Off1 x news) (hod : LCg.Off1 d news) :
    FnSpec w mean mg mb 6 365 [.int n1 ta, .int n2 tb, .ref x] (limLed w x d k1 k2 k3 k4 k5 news) (fun K => ∀ t', K (.int (Builtin.bitXor n1 n2) t') news) := by
  intro dp un gd cn cs a ccd cl outer A₀ base h₀ L m s Q E B F X N T hk hd hu hret
  have hB := bitXor_oct ha hb
  unfold Oct at hB
  unfold limLed at N
  refine wpAny_call ?_
  k_dflt cell_enter
  k_steps
  rw [wrap_small hB.1 hB.2]
  exact hret _ _ _ (by k_asm) (cb_drop (by k_asm) (fun p hp => List.mem_cons_of_mem _ (List.mem_cons_of_mem _ hp)))
theorem sub_and (a m : Nat) : a - (a &&& m) = a ^^^ (a &&& m) := by
  have h := xor_and_nat (a + 1) a (a &&& m) (Nat.lt_succ_self _)
  have e : a &&& (a &&& m) = a &&& m := by rw [← Nat.and_assoc, Nat.and_self]
  rw [e] at h
  have : a &&& m ≤ a := Nat.and_le_left
  omega
/-- the octet with a number of b bits laid from bit s on -/
def nput (c s b v : Nat) : Nat := (c ^^^ (c &&& ((2 ^ b - 1) <<< s))) ||| v <<< s
theorem vput_nat {o sh bits val : Int} (ho : 0 ≤ o) (hb : Bits bits) (hs0 : 0 ≤ sh) (h0 : 0 ≤ val) (h1 : val < 2 ^ bits.toNat) : vput o sh bits val = (nput o.toNat sh.toNat bits.toNat val.toNat : Nat) := by
  unfold vput nput
  rw [mask_of hb h0 h1, pow_one_sub hb]
  obtain ⟨a, rfl⟩ := Int.eq_ofNat_of_zero_le ho
  obtain ⟨v, rfl⟩ := Int.eq_ofNat_of_zero_le h0
  obtain ⟨s, rfl⟩ := Int.eq_ofNat_of_zero_le hs0
  have e2 : ((2 : Int) ^ ((s : Int)).toNat) = ((2 ^ s : Nat) : Int) := by rw [Int.toNat_natCast]; exact (PySem.W.kbt_cast s).symm
  rw [e2, ← Int.natCast_mul, bitAnd_not (Int.natCast_nonneg _) (Int.natCast_nonneg _)]
  simp only [Int.toNat_natCast]
  rw [← Nat.shiftLeft_eq]
  generalize (2 ^ bits.toNat - 1) <<< s = mk
  have hle : a &&& mk ≤ a := Nat.and_le_left
  have e3 : ((a : Int) - ((a &&& mk : Nat) : Int)) = ((a ^^^ (a &&& mk) : Nat) : Int) := by rw [← sub_and]; omega
  rw [e3, ← Int.natCast_mul, bitOr_nn (Int.natCast_nonneg _) (Int.natCast_nonneg _)]
  simp only [Int.toNat_natCast]
  rw [Nat.shiftLeft_eq]
theorem nput_bit (c s b v i : Nat) (hv : v < 2 ^ b) : (nput c s b v).testBit i = if s ≤ i ∧ i < s + b then v.testBit (i - s) else c.testBit i := by
  unfold nput
  rw [Nat.testBit_or, Nat.testBit_xor, Nat.testBit_and, Nat.testBit_shiftLeft, Nat.testBit_shiftLeft, Nat.testBit_two_pow_sub_one]
  by_cases h1 : s ≤ i
  · by_cases h2 : i < s + b
    · rw [if_pos ⟨h1, h2⟩]
      have : i - s < b := by omega
      simp [h1, this]
    · rw [if_neg (fun h => h2 h.2)]
      have h3 : ¬ i - s < b := by omega
      have h4 : v.testBit (i - s) = false := Nat.testBit_lt_two_pow (Nat.lt_of_lt_of_le hv (Nat.pow_le_pow_right (by decide) (by omega)))
      simp [h1, h3, h4]
  · rw [if_neg (fun h => h1 h.1)]
    simp [h1]
/-- the number of b bits that stands from bit s on -/
def nget (c s b : Nat) : Nat := (c >>> s) &&& (2 ^ b - 1)
theorem nget_bit (c s b i : Nat) : (nget c s b).testBit i = (c.testBit (s + i) && decide (i < b)) := by
  unfold nget
  rw [Nat.testBit_and, Nat.testBit_shiftRight, Nat.testBit_two_pow_sub_one]
theorem nget_nput_same {c s b v : Nat} (hv : v < 2 ^ b) : nget (nput c s b v) s b = v := by
  refine Nat.eq_of_testBit_eq fun i => ?_
  rw [nget_bit, nput_bit _ _ _ _ _ hv]
  by_cases h : i < b
  · rw [if_pos ⟨by omega, by omega⟩, Nat.add_sub_cancel_left]; simp [h]
  · have q : v.testBit i = false := Nat.testBit_lt_two_pow (Nat.lt_of_lt_of_le hv (Nat.pow_le_pow_right (by decide) (by omega)))
    simp [h, q]
theorem nget_nput_other {c s s' b v : Nat} (hv : v < 2 ^ b) (h : s + b ≤ s' ∨ s' + b ≤ s) : nget (nput c s b v) s' b = nget c s' b := by
  refine Nat.eq_of_testBit_eq fun i => ?_
  rw [nget_bit, nget_bit, nput_bit _ _ _ _ _ hv]
  by_cases hi : i < b
  · rw [if_neg (by omega)]
  · simp [hi]
theorem nput_comm {c s s' b v v' : Nat} (hv : v < 2 ^ b) (hv' : v' < 2 ^ b) (h : s + b ≤ s' ∨ s' + b ≤ s) : nput (nput c s b v) s' b v' = nput (nput c s' b v') s b v := by
  refine Nat.eq_of_testBit_eq fun i => ?_
  rw [nput_bit _ _ _ _ _ hv', nput_bit _ _ _ _ _ hv, nput_bit _ _ _ _ _ hv, nput_bit _ _ _ _ _ hv']
  by_cases h1 : s ≤ i ∧ i < s + b
  · have h2 : ¬ (s' ≤ i ∧ i < s' + b) := by omega
    simp only [if_pos h1, if_neg h2]
  · simp only [if_neg h1]
def oc (o : List Int) (i : Nat) : Nat := (o.getD i 0).toNat
/-- how many numbers stand in an octet -/
def per (bits : Int) : Nat := 8 / bits.toNat
theorem plc_nat {bits : Int} (hb : Bits bits) (h8 : bits < 8) (k : Nat) : plc (k : Int) bits = ((k / per bits : Nat) : Int) ∧ shf (k : Int) bits = (((k % per bits) * bits.toNat : Nat) : Int) := by
  unfold plc shf per
  rcases hb with rfl | rfl | rfl | rfl
  · rw [show Int.fdiv 8 1 = 8 by decide, fmod_emod (b := 8) (by decide), Int.fdiv_eq_ediv_of_nonneg _ (by decide)]
    exact ⟨rfl, by rw [show Int.toNat 1 = 1 from rfl]; omega⟩
  · rw [show Int.fdiv 8 2 = 4 by decide, fmod_emod (b := 4) (by decide), Int.fdiv_eq_ediv_of_nonneg _ (by decide)]
    exact ⟨rfl, by rw [show Int.toNat 2 = 2 from rfl]; omega⟩
  · rw [show Int.fdiv 8 4 = 2 by decide, fmod_emod (b := 2) (by decide), Int.fdiv_eq_ediv_of_nonneg _ (by decide)]
    exact ⟨rfl, by rw [show Int.toNat 4 = 4 from rfl]; omega⟩
  · omega
theorem oc_lt {o : List Int} (h : ∀ c ∈ o, Oct c) (i : Nat) : oc o i < 256 := by
  have q := getD_oct h (i := i)
  unfold oc
  obtain ⟨a, b⟩ := q
  omega
theorem oc_cast {o : List Int} (h : ∀ c ∈ o, Oct c) (i : Nat) : o.getD i 0 = (oc o i : Int) := by
  unfold oc
  exact (Int.toNat_of_nonneg (getD_oct h (i := i)).1).symm
theorem oc_out {o : List Int} {i : Nat} (h : o.length ≤ i) : oc o i = 0 := by
  unfold oc
  rw [List.getD_eq_getElem?_getD, List.getElem?_eq_none h]
  rfl
theorem nget_zero (s b : Nat) : nget 0 s b = 0 := by unfold nget; simp
theorem nget_all {c : Nat} (h : c < 256) : nget c 0 8 = c := by
  unfold nget
  rw [Nat.shiftRight_zero, show 2 ^ 8 - 1 = 2 ^ 8 - 1 from rfl, Nat.and_two_pow_sub_one_eq_mod]
  exact Nat.mod_eq_of_lt h
theorem nput_all {c v : Nat} (hc : c < 256) (hv : v < 256) : nput c 0 8 v = v := by
  refine Nat.eq_of_testBit_eq fun i => ?_
  rw [nput_bit _ _ _ _ _ hv]
  by_cases h : i < 8
  · rw [if_pos ⟨by omega, by omega⟩]; rfl
  · rw [if_neg (by omega)]
    have p : (2 : Nat) ^ 8 ≤ 2 ^ i := Nat.pow_le_pow_right (by decide) (by omega)
    rw [Nat.testBit_lt_two_pow (Nat.lt_of_lt_of_le hc p), Nat.testBit_lt_two_pow (Nat.lt_of_lt_of_le hv p)]
theorem vget_nat {o : List Int} {bits : Int} (hb : Bits bits) (ho : ∀ c ∈ o, Oct c) (k : Nat) : vget o (k : Int) bits = (nget (oc o (k / per bits)) ((k % per bits) * bits.toNat) bits.toNat : Nat) := by
  unfold vget
  by_cases h8 : bits < 8
  · obtain ⟨e1, e2⟩ := plc_nat hb h8 k
    rw [if_pos h8, e1, e2]
    split
    · simp only [Int.toNat_natCast]
      rw [oc_cast ho, pow_one_sub hb, show ((2 : Int) ^ ((k % per bits) * bits.toNat)) = ((2 ^ ((k % per bits) * bits.toNat) : Nat) : Int) from (PySem.W.kbt_cast _).symm, Int.fdiv_eq_ediv_of_nonneg _ (Int.natCast_nonneg _), ← Int.natCast_ediv,
        bitAnd_nn (Int.natCast_nonneg _) (Int.natCast_nonneg _)]
      simp only [Int.toNat_natCast]
      unfold nget
      rw [Nat.shiftRight_eq_div_pow]
    · rename_i hn
      rw [oc_out (by omega), nget_zero]
      rfl
  · obtain rfl : bits = 8 := by rcases hb with rfl | rfl | rfl | rfl <;> omega
    rw [if_neg h8]
    have e : per 8 = 1 := by decide
    rw [e, Nat.div_one, Nat.mod_one, Nat.zero_mul, show Int.toNat 8 = 8 from rfl, nget_all (oc_lt ho k), ← oc_cast ho, Int.toNat_natCast]
    split
    · rfl
    · rename_i hn
      rw [List.getD_eq_getElem?_getD, List.getElem?_eq_none (by omega)]
      rfl
theorem pad_oc (o : List Int) (many : Int) (i : Nat) : (pad o many).getD i 0 = o.getD i 0 := by
  unfold pad
  rw [List.getD_eq_getElem?_getD, List.getD_eq_getElem?_getD, List.getElem?_append]
  split
  · rfl
  · rename_i h
    rw [List.getElem?_eq_none (l := o) (by omega), List.getElem?_replicate]
    split <;> rfl
theorem set_oc {o : List Int} {j : Nat} {v : Int} (hj : j < o.length) (i : Nat) : oc (o.set j v) i = if i = j then v.toNat else oc o i := by
  unfold oc
  rw [List.getD_eq_getElem?_getD, List.getD_eq_getElem?_getD, List.getElem?_set]
  by_cases h : i = j
  · subst h; simp [hj]
  · rw [if_neg (fun e => h e.symm), if_neg h]
theorem vset_nat {o : List Int} {bits val : Int} {off : Nat} (hb : Bits bits) (ho : ∀ c ∈ o, Oct c) (h0 : 0 ≤ val) (h1 : val < 2 ^ bits.toNat) :
    (∀ i, oc (vset o (off : Int) bits val) i = if i = off / per bits then nput (oc o i) ((off % per bits) * bits.toNat) bits.toNat val.toNat else oc o i) ∧ (vset o (off : Int) bits val).length = max o.length (off / per bits + 1) := by
  unfold vset
  by_cases h8 : bits < 8
  · obtain ⟨e1, e2⟩ := plc_nat hb h8 off
    rw [if_pos h8, e1, e2]
    have hl : (pad o (((off / per bits : Nat) : Int) + 1)).length = max o.length (off / per bits + 1) := by
      unfold pad; rw [List.length_append, List.length_replicate]; omega
    refine ⟨fun i => ?_, by rw [List.length_set, hl]⟩
    rw [Int.toNat_natCast, set_oc (by omega), pad_oc]
    by_cases h : i = off / per bits
    · rw [if_pos h, if_pos h, vput_nat (getD_oct ho).1 hb (Int.natCast_nonneg _) h0 h1, Int.toNat_natCast, Int.toNat_natCast, h]
      rfl
    · rw [if_neg h, if_neg h]
      unfold oc
      rw [pad_oc]
  · obtain rfl : bits = 8 := by rcases hb with rfl | rfl | rfl | rfl <;> omega
    rw [if_neg h8]
    have e : per 8 = 1 := by decide
    have hl : (pad o ((off : Int) + 1)).length = max o.length (off + 1) := by
      unfold pad; rw [List.length_append, List.length_replicate]; omega
    rw [e, Nat.div_one, Nat.mod_one, Nat.zero_mul]
    refine ⟨fun i => ?_, by rw [List.length_set, hl]⟩
    rw [Int.toNat_natCast, set_oc (by omega)]
    by_cases h : i = off
    · have hv : val < 256 := h1
      rw [if_pos h, if_pos h, show Int.toNat 8 = 8 from rfl, nput_all (oc_lt ho i) (by omega)]
    · rw [if_neg h, if_neg h]
      unfold oc
      rw [pad_oc]
theorem per_pos {bits : Int} (hb : Bits bits) : 0 < per bits ∧ per bits * bits.toNat = 8 ∧ 0 < bits.toNat := by
  rcases hb with rfl | rfl | rfl | rfl <;> decide
theorem vget_vset {o : List Int} {bits val : Int} {off : Nat} (hb : Bits bits) (ho : ∀ c ∈ o, Oct c) (h11 : off ≤ 11) (h0 : 0 ≤ val) (h1 : val < 2 ^ bits.toNat) (k : Nat) :
    vget (vset o (off : Int) bits val) (k : Int) bits = if k = off then val else vget o (k : Int) bits := by
  have ho' := vset_oct hb (off := (off : Int)) (Int.natCast_nonneg _) (by omega) h0 h1 ho
  obtain ⟨e, _⟩ := vset_nat (off := off) hb ho h0 h1
  obtain ⟨p1, p2, p3⟩ := per_pos hb
  have hv : val.toNat < 2 ^ bits.toNat := by
    have q : ((val.toNat : Nat) : Int) < ((2 ^ bits.toNat : Nat) : Int) := by
      rw [Int.toNat_of_nonneg h0, ← show ((2 : Int) ^ bits.toNat) = ((2 ^ bits.toNat : Nat) : Int) from (PySem.W.kbt_cast _).symm]; exact h1
    exact Int.ofNat_lt.mp q
  rw [vget_nat hb ho', vget_nat hb ho, e]
  by_cases hk : k = off
  · subst hk
    rw [if_pos rfl, if_pos rfl, nget_nput_same hv]
    exact Int.toNat_of_nonneg h0
  · rw [if_neg hk]
    by_cases hq : k / per bits = off / per bits
    · rw [if_pos hq]
      have hr : k % per bits ≠ off % per bits := fun h => hk (by rw [← Nat.div_add_mod k (per bits), ← Nat.div_add_mod off (per bits), hq, h])
      rw [nget_nput_other hv]
      rcases Nat.lt_or_gt_of_ne hr with h | h
      · right
        calc k % per bits * bits.toNat + bits.toNat = (k % per bits + 1) * bits.toNat := by rw [Nat.add_mul, Nat.one_mul]
          _ ≤ off % per bits * bits.toNat := Nat.mul_le_mul_right _ h
      · left
        calc off % per bits * bits.toNat + bits.toNat = (off % per bits + 1) * bits.toNat := by rw [Nat.add_mul, Nat.one_mul]
          _ ≤ k % per bits * bits.toNat := Nat.mul_le_mul_right _ h
    · rw [if_neg hq]
def rowO (o : List Int) (bits : Int) : List Int := (rangeKs 0 13).map fun k => vget o k bits
theorem rowO_eq (o : List Int) (bits : Int) : rowO o bits = (List.range 13).map fun (k : Nat) => vget o (k : Int) bits := by
  unfold rowO rangeKs
  rw [List.map_map]
  refine List.map_congr_left fun k _ => ?_
  show vget o (0 + (k : Int)) bits = _
  rw [Int.zero_add]
theorem rowO_len (o : List Int) (bits : Int) : (rowO o bits).length = 13 := by rw [rowO_eq, List.length_map, List.length_range]
theorem rowO_at (o : List Int) (bits : Int) {k : Nat} (h : k < 13) : (rowO o bits)[k]? = some (vget o (k : Int) bits) := by
  rw [rowO_eq, List.getElem?_map, List.getElem?_range h]; rfl
theorem row_set {o : List Int} {bits val : Int} {off : Int} (hb : Bits bits) (ho : ∀ c ∈ o, Oct c) (hp : PairOk bits (off, val)) : rowO (vset o off bits val) bits = (rowO o bits).set off.toNat val := by
  obtain ⟨a0, a1, h0, h1⟩ := hp
  obtain ⟨j, rfl⟩ := Int.eq_ofNat_of_zero_le a0
  have h11 : j ≤ 11 := by have q : (j : Int) ≤ 11 := a1; omega
  refine List.ext_getElem? fun k => ?_
  by_cases hk : k < 13
  · rw [rowO_at _ _ hk, vget_vset hb ho h11 h0 h1, List.getElem?_set, Int.toNat_natCast]
    by_cases e : k = j
    · rw [if_pos e, if_pos e.symm, if_pos (by rw [rowO_len]; omega)]
    · rw [if_neg e, if_neg (fun h => e h.symm), rowO_at _ _ hk]
  · rw [List.getElem?_eq_none (by rw [rowO_len]; omega), List.getElem?_eq_none (by rw [List.length_set, rowO_len]; omega)]
theorem row_nil {bits : Int} (hb : Bits bits) : rowO [] bits = List.replicate 13 0 := by
  rcases hb with rfl | rfl | rfl | rfl
  all_goals
    rw [rowO_eq]
    refine List.ext_getElem? fun k => ?_
    by_cases hk : k < 13
    · rw [List.getElem?_map, List.getElem?_range hk, List.getElem?_replicate, if_pos hk]
      rw [Option.map_some, vget_nat (o := []) (by unfold Bits; decide) (fun c hc => nomatch hc), oc_out (Nat.zero_le _), nget_zero]
      rfl
    · rw [List.getElem?_eq_none (by rw [List.length_map, List.length_range]; omega), List.getElem?_eq_none (by rw [List.length_replicate]; omega)]
theorem row_fold {bits : Int} (hb : Bits bits) : ∀ (ps : List (Int × Int)) (o : List Int), (∀ p ∈ ps, PairOk bits p) → (∀ c ∈ o, Oct c) →
    rowO (ps.foldl (fun o p => vset o p.1 bits p.2) o) bits = ps.foldl (fun row p => row.set p.1.toNat p.2) (rowO o bits)
  | [], _, _, _ => rfl
  | p :: r, o, h, ho => by
    obtain ⟨a0, a1, a2, a3⟩ := h p List.mem_cons_self
    rw [List.foldl_cons, List.foldl_cons, row_fold hb r _ (fun q hq => h q (List.mem_cons_of_mem _ hq)) (vset_oct hb a0 a1 a2 a3 ho), row_set hb ho (h p List.mem_cons_self)]
theorem row_laid {bits : Int} {ps : List (Int × Int)} (hb : Bits bits) (h : Good bits ps) : rowO (laidO bits ps) bits = dueO ps := by
  unfold laidO dueO
  rw [row_fold hb ps [] h.1 (fun c hc => nomatch hc), row_nil hb]
theorem oct_ext {a b : List Int} (ha : ∀ c ∈ a, Oct c) (hb : ∀ c ∈ b, Oct c) (hl : a.length = b.length) (h : ∀ i, oc a i = oc b i) : a = b := by
  refine List.ext_getElem hl fun i h1 h2 => ?_
  have e := h i
  unfold oc at e
  rw [List.getD_eq_getElem?_getD, List.getD_eq_getElem?_getD, List.getElem?_eq_getElem h1, List.getElem?_eq_getElem h2, Option.getD_some, Option.getD_some] at e
  have q1 := (ha _ (List.getElem_mem h1)).1
  have q2 := (hb _ (List.getElem_mem h2)).1
  omega
theorem vset_comm {o : List Int} {bits : Int} {p q : Int × Int} (hb : Bits bits) (ho : ∀ c ∈ o, Oct c) (hp : PairOk bits p) (hq : PairOk bits q) (hne : p.1 ≠ q.1) :
    vset (vset o p.1 bits p.2) q.1 bits q.2 = vset (vset o q.1 bits q.2) p.1 bits p.2 := by
  obtain ⟨p, v⟩ := p
  obtain ⟨q, u⟩ := q
  obtain ⟨a0, a1, a2, a3⟩ := hp
  obtain ⟨b0, b1, b2, b3⟩ := hq
  dsimp only at *
  have op := vset_oct hb a0 a1 a2 a3 ho
  have oq := vset_oct hb b0 b1 b2 b3 ho
  have opq := vset_oct hb b0 b1 b2 b3 op
  have oqp := vset_oct hb a0 a1 a2 a3 oq
  obtain ⟨j, rfl⟩ := Int.eq_ofNat_of_zero_le a0
  obtain ⟨k, rfl⟩ := Int.eq_ofNat_of_zero_le b0
  have hjk : j ≠ k := fun h => hne (by rw [h])
  obtain ⟨p1, p2, p3⟩ := per_pos hb
  have cast : ∀ x : Int, 0 ≤ x → x < 2 ^ bits.toNat → x.toNat < 2 ^ bits.toNat := fun x h0 h1 => by
    have q : ((x.toNat : Nat) : Int) < ((2 ^ bits.toNat : Nat) : Int) := by
      rw [Int.toNat_of_nonneg h0, ← show ((2 : Int) ^ bits.toNat) = ((2 ^ bits.toNat : Nat) : Int) from (PySem.W.kbt_cast _).symm]; exact h1
    exact Int.ofNat_lt.mp q
  have hv := cast v a2 a3
  have hu := cast u b2 b3
  obtain ⟨e1, l1⟩ := vset_nat (off := j) hb ho a2 a3
  obtain ⟨e2, l2⟩ := vset_nat (off := k) hb ho b2 b3
  obtain ⟨e3, l3⟩ := vset_nat (off := k) hb op b2 b3
  obtain ⟨e4, l4⟩ := vset_nat (off := j) hb oq a2 a3
  refine oct_ext opq oqp (by rw [l3, l4, l1, l2]; omega) fun i => ?_
  rw [e3, e4, e1, e2]
  by_cases hi : i = j / per bits
  · by_cases hi' : i = k / per bits
    · simp only [if_pos hi, if_pos hi']
      have hr : j % per bits ≠ k % per bits := fun h => hjk (by rw [← Nat.div_add_mod j (per bits), ← Nat.div_add_mod k (per bits), ← hi, ← hi', h])
      refine nput_comm hv hu ?_
      rcases Nat.lt_or_gt_of_ne hr with h | h
      · left
        calc j % per bits * bits.toNat + bits.toNat = (j % per bits + 1) * bits.toNat := by rw [Nat.add_mul, Nat.one_mul]
          _ ≤ k % per bits * bits.toNat := Nat.mul_le_mul_right _ h
      · right
        calc k % per bits * bits.toNat + bits.toNat = (k % per bits + 1) * bits.toNat := by rw [Nat.add_mul, Nat.one_mul]
          _ ≤ j % per bits * bits.toNat := Nat.mul_le_mul_right _ h
    · simp only [if_pos hi, if_neg hi']
  · simp only [if_neg hi]
theorem fold_move {bits : Int} (hb : Bits bits) : ∀ (r : List (Int × Int)) (o : List Int) (p : Int × Int), (∀ q ∈ r, PairOk bits q) → PairOk bits p → (∀ q ∈ r, p.1 ≠ q.1) → (∀ c ∈ o, Oct c) →
    r.foldl (fun o p => vset o p.1 bits p.2) (vset o p.1 bits p.2) = vset (r.foldl (fun o p => vset o p.1 bits p.2) o) p.1 bits p.2
  | [], _, _, _, _, _, _ => rfl
  | q :: r, o, p, h, hp, hne, ho => by
    obtain ⟨b0, b1, b2, b3⟩ := h q List.mem_cons_self
    rw [List.foldl_cons, List.foldl_cons, vset_comm hb ho hp (h q List.mem_cons_self) (hne q List.mem_cons_self)]
    exact fold_move hb r _ p (fun x hx => h x (List.mem_cons_of_mem _ hx)) hp (fun x hx => hne x (List.mem_cons_of_mem _ hx)) (vset_oct hb b0 b1 b2 b3 ho)
theorem fold_rev {bits : Int} (hb : Bits bits) : ∀ (ps : List (Int × Int)) (o : List Int), (∀ q ∈ ps, PairOk bits q) → (ps.map Prod.fst).Nodup → (∀ c ∈ o, Oct c) →
    ps.reverse.foldl (fun o p => vset o p.1 bits p.2) o = ps.foldl (fun o p => vset o p.1 bits p.2) o
  | [], _, _, _, _ => rfl
  | p :: r, o, h, hn, ho => by
    rw [List.map_cons, List.nodup_cons] at hn
    rw [List.reverse_cons, List.foldl_append, List.foldl_cons, List.foldl_nil, fold_rev hb r o (fun q hq => h q (List.mem_cons_of_mem _ hq)) hn.2 ho, List.foldl_cons]
    exact (fold_move hb r o p (fun q hq => h q (List.mem_cons_of_mem _ hq)) (h p List.mem_cons_self) (fun q hq e => hn.1 (e ▸ List.mem_map_of_mem hq)) ho).symm
theorem laid_rev {bits : Int} {ps : List (Int × Int)} (hb : Bits bits) (h : Good bits ps) : laidO bits ps.reverse = laidO bits ps :=
  fold_rev hb ps [] h.1 h.2.1 (fun c hc => nomatch hc)
theorem fold_len {bits : Int} (hb : Bits bits) : ∀ (ps : List (Int × Int)) (o : List Int), (∀ p ∈ ps, PairOk bits p) → (∀ c ∈ o, Oct c) →
    o.length ≤ (ps.foldl (fun o p => vset o p.1 bits p.2) o).length ∧ (∀ p ∈ ps, p.1.toNat / per bits + 1 ≤ (ps.foldl (fun o p => vset o p.1 bits p.2) o).length) ∧
      ((ps.foldl (fun o p => vset o p.1 bits p.2) o).length = o.length ∨ ∃ p ∈ ps, (ps.foldl (fun o p => vset o p.1 bits p.2) o).length = p.1.toNat / per bits + 1)
  | [], _, _, _ => ⟨Nat.le_refl _, fun p hp => (nomatch hp), .inl rfl⟩
  | p :: r, o, h, ho => by
    obtain ⟨a0, a1, a2, a3⟩ := h p List.mem_cons_self
    obtain ⟨i1, i2, i3⟩ := fold_len hb r (vset o p.1 bits p.2) (fun q hq => h q (List.mem_cons_of_mem _ hq)) (vset_oct hb a0 a1 a2 a3 ho)
    obtain ⟨q1, q2⟩ := p
    obtain ⟨j, rfl⟩ := Int.eq_ofNat_of_zero_le a0
    have e := (vset_nat (off := j) hb ho a2 a3).2
    rw [List.foldl_cons]
    dsimp only at e i1 i2 i3 ⊢
    rw [e] at i1 i3
    refine ⟨by omega, fun p hp => ?_, ?_⟩
    · rcases List.mem_cons.mp hp with rfl | hp
      · dsimp only
        rw [Int.toNat_natCast]
        omega
      · exact i2 p hp
    · rcases i3 with i3 | ⟨p, hp, i3⟩
      · by_cases hm : o.length ≤ j / per bits + 1
        · exact .inr ⟨_, List.mem_cons_self, by rw [i3]; dsimp only; rw [Int.toNat_natCast]; omega⟩
        · exact .inl (by omega)
      · exact .inr ⟨p, List.mem_cons_of_mem _ hp, i3⟩
theorem len_laid {bits : Int} {ps : List (Int × Int)} {one : Str} {m : Int} (hb : Bits bits) (G : Good bits ps) (h : one = txt (laidO bits ps)) (a : m ∈ ps.map Prod.fst ++ [-1]) (b : ∀ x ∈ ps.map Prod.fst ++ [-1], x ≤ m) :
    (one.length : Int) = ((m + 1) * bits + 7).fdiv 8 := by
  have e : one.length = (laidO bits ps).length := by rw [h, ← codes_length, (laid_facts hb G).1]
  obtain ⟨i1, i2, i3⟩ := fold_len hb ps [] G.1 (fun c hc => nomatch hc)
  rw [e]
  unfold laidO
  generalize (ps.foldl (fun o p => vset o p.1 bits p.2) []).length = n at i1 i2 i3 ⊢
  rw [List.length_nil] at i3
  rcases List.mem_append.mp a with ha | ha
  · obtain ⟨p, hp, rfl⟩ := List.mem_map.mp ha
    have k1 := i2 p hp
    obtain ⟨a0, _⟩ := G.1 p hp
    have k2 : n ≤ p.1.toNat / per bits + 1 := by
      rcases i3 with i3 | ⟨q, hq, i3⟩
      · rw [i3]; exact Nat.zero_le _
      · have w := b q.1 (List.mem_append_left _ (List.mem_map_of_mem hq))
        rw [i3]
        exact Nat.succ_le_succ (Nat.div_le_div_right (by omega))
    have k3 : n = p.1.toNat / per bits + 1 := Nat.le_antisymm k2 k1
    obtain ⟨j, hj⟩ := Int.eq_ofNat_of_zero_le a0
    rw [hj] at k3 ⊢
    rw [Int.toNat_natCast] at k3
    rw [Int.fdiv_eq_ediv_of_nonneg _ (by decide)]
    rcases hb with rfl | rfl | rfl | rfl
    · have k4 : n = j / 8 + 1 := k3
      omega
    · have k4 : n = j / 4 + 1 := k3
      omega
    · have k4 : n = j / 2 + 1 := k3
      omega
    · have k4 : n = j / 1 + 1 := k3
      omega
  · have q := List.mem_singleton.mp ha
    subst q
    have hn : n = 0 := by
      rcases i3 with i3 | ⟨p, hp, i3⟩
      · exact i3
      · have w := b p.1 (List.mem_append_left _ (List.mem_map_of_mem hp))
        have w2 := (G.1 p hp).1
        omega
    subst hn
    simp only [Int.add_left_neg, Int.zero_mul]
    decide
structure GoodOp (f : Int → Int → Int) (g : Nat → Nat → Nat) (h : Bool → Bool → Bool) : Prop where
  cast : ∀ a b : Nat, f (a : Int) (b : Int) = ((g a b : Nat) : Int)
  bit : ∀ a b i : Nat, (g a b).testBit i = h (a.testBit i) (b.testBit i)
  zero : h false false = false
theorem and_good : GoodOp Builtin.bitAnd (fun a b => a &&& b) and :=
  ⟨fun a b => by rw [bitAnd_nn (Int.natCast_nonneg _) (Int.natCast_nonneg _)]; rfl, fun a b i => Nat.testBit_and .., rfl⟩
theorem or_good : GoodOp Builtin.bitOr (fun a b => a ||| b) or :=
  ⟨fun a b => by rw [bitOr_nn (Int.natCast_nonneg _) (Int.natCast_nonneg _)]; rfl, fun a b i => Nat.testBit_or .., rfl⟩
theorem xor_good : GoodOp Builtin.bitXor (fun a b => a ^^^ b) xor :=
  ⟨fun a b => by rw [bitXor_nn (Int.natCast_nonneg _) (Int.natCast_nonneg _)]; rfl, fun a b i => Nat.testBit_xor .., rfl⟩
section
variable {f : Int → Int → Int} {g : Nat → Nat → Nat} {h : Bool → Bool → Bool}
theorem GoodOp.g0 (H : GoodOp f g h) : g 0 0 = 0 := Nat.eq_of_testBit_eq fun i => by rw [H.bit, Nat.zero_testBit, H.zero]
theorem GoodOp.oct (H : GoodOp f g h) {a b : Int} (ha : Oct a) (hb : Oct b) : Oct (f a b) := by
  obtain ⟨a0, a1⟩ := ha
  obtain ⟨b0, b1⟩ := hb
  obtain ⟨m, rfl⟩ := Int.eq_ofNat_of_zero_le a0
  obtain ⟨n, rfl⟩ := Int.eq_ofNat_of_zero_le b0
  rw [H.cast]
  refine oct_nat (Nat.lt_pow_two_of_testBit _ fun i hi => ?_)
  have p : (2 : Nat) ^ 8 ≤ 2 ^ i := Nat.pow_le_pow_right (by decide) hi
  rw [H.bit, Nat.testBit_lt_two_pow (by omega), Nat.testBit_lt_two_pow (by omega), H.zero]
theorem GoodOp.nget (H : GoodOp f g h) (c d s b : Nat) : Mine.nget (g c d) s b = g (Mine.nget c s b) (Mine.nget d s b) := by
  refine Nat.eq_of_testBit_eq fun i => ?_
  rw [nget_bit, H.bit, H.bit, nget_bit, nget_bit]
  cases decide (i < b)
  · simp only [Bool.and_false]; exact H.zero.symm
  · simp only [Bool.and_true]
theorem bitsO_at {n : Nat} {a b : List Int} (hn : ∀ i, n ≤ i → f (a.getD i 0) (b.getD i 0) = 0) (i : Nat) : (bitsO f n a b).getD i 0 = f (a.getD i 0) (b.getD i 0) := by
  unfold bitsO
  rw [List.getD_eq_getElem?_getD, List.getElem?_map]
  by_cases q : i < n
  · rw [List.getElem?_range q]; rfl
  · rw [List.getElem?_eq_none (by rw [List.length_range]; omega), hn i (by omega)]; rfl
theorem GoodOp.bitsOct (H : GoodOp f g h) {n : Nat} {a b : List Int} (ha : ∀ c ∈ a, Oct c) (hb : ∀ c ∈ b, Oct c) : ∀ c ∈ bitsO f n a b, Oct c := by
  intro c hc
  obtain ⟨k, -, rfl⟩ := List.mem_map.mp hc
  exact H.oct (getD_oct ha) (getD_oct hb)
theorem GoodOp.oc (H : GoodOp f g h) {n : Nat} {a b : List Int} (ha : ∀ c ∈ a, Oct c) (hb : ∀ c ∈ b, Oct c) (hn : ∀ i, n ≤ i → f (a.getD i 0) (b.getD i 0) = 0) (i : Nat) : Mine.oc (bitsO f n a b) i = g (Mine.oc a i) (Mine.oc b i) := by
  show ((bitsO f n a b).getD i 0).toNat = _
  rw [bitsO_at hn, oc_cast ha, oc_cast hb, H.cast, Int.toNat_natCast]
theorem GoodOp.vget (H : GoodOp f g h) {n : Nat} {a b : List Int} {bits : Int} (hb : Bits bits) (ha : ∀ c ∈ a, Oct c) (hb' : ∀ c ∈ b, Oct c) (hn : ∀ i, n ≤ i → f (a.getD i 0) (b.getD i 0) = 0) (k : Nat) :
    Mine.vget (bitsO f n a b) (k : Int) bits = f (Mine.vget a (k : Int) bits) (Mine.vget b (k : Int) bits) := by
  rw [vget_nat hb (H.bitsOct ha hb'), vget_nat hb ha, vget_nat hb hb', H.oc ha hb' hn, H.nget, H.cast]
def zipO (f : Int → Int → Int) (x y : List Int) : List Int := (rangeKs 0 13).map fun k => f (x.getD k.toNat 0) (y.getD k.toNat 0)
theorem rowD {a : List Int} {bits : Int} {k : Nat} (hk : k < 13) : (rowO a bits).getD k 0 = Mine.vget a (k : Int) bits := by
  rw [List.getD_eq_getElem?_getD, rowO_at _ _ hk]; rfl
theorem rangeKs13 (F : Int → Int) : (rangeKs 0 13).map F = (List.range 13).map fun k => F ((k : Nat) : Int) := by
  unfold rangeKs
  rw [List.map_map]
  refine List.map_congr_left fun k _ => ?_
  show F (0 + (k : Int)) = _
  rw [Int.zero_add]
theorem GoodOp.row (H : GoodOp f g h) {n : Nat} {a b : List Int} {bits : Int} (hb : Bits bits) (ha : ∀ c ∈ a, Oct c) (hb' : ∀ c ∈ b, Oct c) (hn : ∀ i, n ≤ i → f (a.getD i 0) (b.getD i 0) = 0) :
    rowO (bitsO f n a b) bits = zipO f (rowO a bits) (rowO b bits) := by
  unfold zipO
  rw [rowO_eq, rangeKs13]
  refine List.map_congr_left fun k hk => ?_
  have hk := List.mem_range.mp hk
  rw [H.vget hb ha hb' hn, Int.toNat_natCast, rowD hk, rowD hk]
end
theorem min_and {a b : List Int} (ha : ∀ c ∈ a, Oct c) (hb : ∀ c ∈ b, Oct c) (i : Nat) (h : min a.length b.length ≤ i) : Builtin.bitAnd (a.getD i 0) (b.getD i 0) = 0 := by
  rw [oc_cast ha, oc_cast hb, and_good.cast]
  rcases Nat.le_total a.length b.length with q | q
  · rw [oc_out (o := a) (by omega), Nat.zero_and]; rfl
  · rw [oc_out (o := b) (by omega), Nat.and_zero]; rfl
theorem max_or {a b : List Int} (ha : ∀ c ∈ a, Oct c) (hb : ∀ c ∈ b, Oct c) (i : Nat) (h : max a.length b.length ≤ i) : Builtin.bitOr (a.getD i 0) (b.getD i 0) = 0 := by
  rw [oc_cast ha, oc_cast hb, or_good.cast, oc_out (o := a) (by omega), oc_out (o := b) (by omega)]; rfl
theorem max_xor {a b : List Int} (ha : ∀ c ∈ a, Oct c) (hb : ∀ c ∈ b, Oct c) (i : Nat) (h : max a.length b.length ≤ i) : Builtin.bitXor (a.getD i 0) (b.getD i 0) = 0 := by
  rw [oc_cast ha, oc_cast hb, xor_good.cast, oc_out (o := a) (by omega), oc_out (o := b) (by omega)]; rfl
theorem txt_facts {l : List Int} {n : Nat} (h : ∀ c ∈ l, Oct c) (e : (txt l).length = n) (hn : n ≤ 12) : codes (txt l) = l ∧ (∀ c ∈ codes (txt l), c ≤ 255) ∧ (txt l).length ≤ 12 := by
  have q := codes_txt h
  exact ⟨q, fun c hc => by rw [q] at hc; exact (h c hc).2, by omega⟩
theorem GoodOp.text {f : Int → Int → Int} {g : Nat → Nat → Nat} {h : Bool → Bool → Bool} (H : GoodOp f g h) {X Y : Str} {n : Nat} {bits : Int} {x y : List Int} (hb : Bits bits) (hX : ∀ c ∈ codes X, c ≤ 255) (hY : ∀ c ∈ codes Y, c ≤ 255)
    (hx : rowO (codes X) bits = x) (hy : rowO (codes Y) bits = y) (hn : ∀ i, n ≤ i → f ((codes X).getD i 0) ((codes Y).getD i 0) = 0) (h12 : n ≤ 12) :
    (∀ c ∈ codes (txt (bitsO f n (codes X) (codes Y))), c ≤ 255) ∧ (txt (bitsO f n (codes X) (codes Y))).length ≤ 12 ∧ rowO (codes (txt (bitsO f n (codes X) (codes Y)))) bits = zipO f x y := by
  obtain ⟨a, b, c⟩ := txt_facts (H.bitsOct (n := n) (codes_oct hX) (codes_oct hY)) (bitsO_len f n _ _) h12
  refine ⟨b, c, ?_⟩
  rw [a, H.row hb (codes_oct hX) (codes_oct hY) hn, hx, hy]
theorem and_text {X Y : Str} {bits : Int} {x y : List Int} (hb : Bits bits) (hX : ∀ c ∈ codes X, c ≤ 255) (hY : ∀ c ∈ codes Y, c ≤ 255) (lX : X.length ≤ 12) (hx : rowO (codes X) bits = x) (hy : rowO (codes Y) bits = y) :
    (∀ c ∈ codes (txt (bitsO Builtin.bitAnd (min X.length Y.length) (codes X) (codes Y))), c ≤ 255) ∧ (txt (bitsO Builtin.bitAnd (min X.length Y.length) (codes X) (codes Y))).length ≤ 12 ∧
      rowO (codes (txt (bitsO Builtin.bitAnd (min X.length Y.length) (codes X) (codes Y)))) bits = zipO Builtin.bitAnd x y :=
  and_good.text hb hX hY hx hy (fun i hi => min_and (codes_oct hX) (codes_oct hY) i (by rw [codes_length, codes_length]; exact hi)) (by omega)
theorem or_text {X Y : Str} {bits : Int} {x y : List Int} (hb : Bits bits) (hX : ∀ c ∈ codes X, c ≤ 255) (hY : ∀ c ∈ codes Y, c ≤ 255) (lX : X.length ≤ 12) (lY : Y.length ≤ 12) (hx : rowO (codes X) bits = x) (hy : rowO (codes Y) bits = y) :
    (∀ c ∈ codes (txt (bitsO Builtin.bitOr (max X.length Y.length) (codes X) (codes Y))), c ≤ 255) ∧ (txt (bitsO Builtin.bitOr (max X.length Y.length) (codes X) (codes Y))).length ≤ 12 ∧
      rowO (codes (txt (bitsO Builtin.bitOr (max X.length Y.length) (codes X) (codes Y)))) bits = zipO Builtin.bitOr x y :=
  or_good.text hb hX hY hx hy (fun i hi => max_or (codes_oct hX) (codes_oct hY) i (by rw [codes_length, codes_length]; exact hi)) (by omega)
theorem xor_text {X Y : Str} {bits : Int} {x y : List Int} (hb : Bits bits) (hX : ∀ c ∈ codes X, c ≤ 255) (hY : ∀ c ∈ codes Y, c ≤ 255) (lX : X.length ≤ 12) (lY : Y.length ≤ 12) (hx : rowO (codes X) bits = x) (hy : rowO (codes Y) bits = y) :
    (∀ c ∈ codes (txt (bitsO Builtin.bitXor (max X.length Y.length) (codes X) (codes Y))), c ≤ 255) ∧ (txt (bitsO Builtin.bitXor (max X.length Y.length) (codes X) (codes Y))).length ≤ 12 ∧
      rowO (codes (txt (bitsO Builtin.bitXor (max X.length Y.length) (codes X) (codes Y)))) bits = zipO Builtin.bitXor x y :=
  xor_good.text hb hX hY hx hy (fun i hi => max_xor (codes_oct hX) (codes_oct hY) i (by rw [codes_length, codes_length]; exact hi)) (by omega)
theorem laid_row {bits : Int} {ps : List (Int × Int)} {one : Str} (hb : Bits bits) (G : Good bits ps) (h : one = txt (laidO bits ps)) : rowO (codes one) bits = dueO ps := by
  rw [h, (laid_facts hb G).1, row_laid hb G]
theorem due_oct {bits : Int} {ps : List (Int × Int)} {i : Nat} (hb : Bits bits) (G : Good bits ps) : Oct ((dueO ps).getD i 0) := by
  have p : (2 : Int) ^ bits.toNat ≤ 256 := by rcases hb with rfl | rfl | rfl | rfl <;> decide
  have key : ∀ (ps : List (Int × Int)) (row : List Int), (∀ p ∈ ps, PairOk bits p) → (∀ c ∈ row, Oct c) → ∀ c ∈ ps.foldl (fun row p => row.set p.1.toNat p.2) row, Oct c := by
    intro ps
    induction ps with
    | nil => exact fun row _ h => h
    | cons q r ih =>
      intro row hk hr
      refine ih _ (fun p hp => hk p (List.mem_cons_of_mem _ hp)) fun c hc => ?_
      rcases List.mem_or_eq_of_mem_set hc with e | e
      · exact hr c e
      · obtain ⟨-, -, a, b⟩ := hk q List.mem_cons_self
        rw [e]
        exact ⟨a, by omega⟩
  refine getD_oct (key ps _ G.1 fun c hc => ?_)
  rw [(List.mem_replicate.mp hc).2]
  exact oct0
theorem row_is {vs : List Value} {T : Str} {bits : Int} {z : List Int} (i : IntsAre vs ((rangeKs 0 13).map fun k => vget (codes T) k bits)) (e : rowO (codes T) bits = z) : IntsAre vs z := by
  subst e
  exact i
def Mark : Prop := True
theorem skip2 {α : Type} {a b c : α} {X : List α} : ∀ p ∈ a :: X, p ∈ a :: b :: c :: X := fun p hp =>
  (List.mem_cons.mp hp).elim (fun h => h ▸ .head _) (fun h => .tail _ (.tail _ (.tail _ h)))
theorem due_len (ps : List (Int × Int)) : (dueO ps).length = 13 := by
  have key : ∀ (ps : List (Int × Int)) (row : List Int), (ps.foldl (fun row p => row.set p.1.toNat p.2) row).length = row.length := by
    intro ps
    induction ps with
    | nil => exact fun _ => rfl
    | cons q r ih => exact fun row => by rw [List.foldl_cons, ih, List.length_set]
  exact key ps _
section
variable {prog : Program} {w : World} {A : Around} {E : Value → Shared → Prop} {s : Shared}
theorem item_due {value slice : PySem.Expr} {l : Addr} {vs : List Value} {ps : List (Int × Int)} {i : Int} {u : Tok} {Q : Value → Shared → Prop} (hl : s.heap.IsList l vs.toArray) (hi : IntsAre vs (dueO ps)) (h0 : 0 ≤ i) (h1 : i < 0 + ((13 - 0 : Int).toNat : Int))
    (h : ∀ t', Q (.int ((dueO ps).getD i.toNat 0) t') s) (hs : subscripted slice false (.ref l) (.int i u) = operate [.ref l, .int i u] (getItem (.ref l) (.int i u)) := by with_unfolding_all rfl)
    (hg : ∀ r, letTemporaryGo value (.ref l) r = pure () := by intro _; with_unfolding_all rfl) : wpAny (model prog w) A (subscriptTail value slice (.ref l) (.int i u)) Q E s := by
  have h1 : i < 13 := by
    have q : (13 - 0 : Int).toNat = 13 := by decide
    omega
  exact item_list_ints hl hi h0 (by rw [due_len]; exact h1) (by omega) h hs hg
end
theorem sum_pt {f g p q : Nat → Int} (h : ∀ k, f k + g k = p k + q k) : ∀ l : List Nat, (l.map f).sum + (l.map g).sum = (l.map p).sum + (l.map q).sum
  | [] => rfl
  | a :: l => by
    have i := sum_pt h l
    have j := h a
    simp only [List.map_cons, List.sum_cons]
    omega
theorem self13 {x : List Int} (hx : x.length = 13) : (List.range 13).map (fun k => x.getD k 0) = x := by
  refine List.ext_getElem (by rw [List.length_map, List.length_range, hx]) fun i h1 h2 => ?_
  rw [List.getElem_map, List.getElem_range, List.getD_eq_getElem?_getD, List.getElem?_eq_getElem h2]
  rfl
theorem zipO_eq (f : Int → Int → Int) (x y : List Int) : zipO f x y = (List.range 13).map fun k => f (x.getD k 0) (y.getD k 0) := by
  unfold zipO
  rw [rangeKs13]
  rfl
theorem sum_andor {x y : List Int} (hx : x.length = 13) (hy : y.length = 13) : (zipO Builtin.bitAnd x y).sum + (zipO Builtin.bitOr x y).sum = x.sum + y.sum := by
  rw [zipO_eq, zipO_eq]
  have e := sum_pt (f := fun k => Builtin.bitAnd (x.getD k 0) (y.getD k 0)) (g := fun k => Builtin.bitOr (x.getD k 0) (y.getD k 0)) (p := fun k => x.getD k 0) (q := fun k => y.getD k 0)
    (fun k => by rw [bitOr_and]; omega) (List.range 13)
  rw [self13 hx, self13 hy] at e
  exact e
theorem sum_xor (x y : List Int) : (zipO Builtin.bitXor x y).sum = (zipO Builtin.bitOr x y).sum - (zipO Builtin.bitAnd x y).sum := by
  rw [zipO_eq, zipO_eq, zipO_eq]
  have e := sum_pt (f := fun k => Builtin.bitXor (x.getD k 0) (y.getD k 0)) (g := fun k => Builtin.bitAnd (x.getD k 0) (y.getD k 0)) (p := fun k => Builtin.bitOr (x.getD k 0) (y.getD k 0)) (q := fun _ => 0)
    (fun k => by rw [bitOr_and, bitXor_and]; omega) (List.range 13)
  have z : ((List.range 13).map fun _ => (0 : Int)).sum = 0 := by decide
  rw [z] at e
  omega
theorem zip_xor {x y : List Int} (hx : x.length = 13) (ox : ∀ i, Oct (x.getD i 0)) (oy : ∀ i, Oct (y.getD i 0)) : zipO Builtin.bitXor (zipO Builtin.bitXor x y) y = x := by
  rw [zipO_eq, zipO_eq]
  conv => rhs; rw [← self13 hx]
  refine List.map_congr_left fun k hk => ?_
  have e : ((List.range 13).map fun k => Builtin.bitXor (x.getD k 0) (y.getD k 0)).getD k 0 = Builtin.bitXor (x.getD k 0) (y.getD k 0) := by
    rw [List.getD_eq_getElem?_getD, List.getElem?_map, List.getElem?_range (List.mem_range.mp hk)]
    rfl
  rw [e]
  obtain ⟨a0, -⟩ := ox k
  obtain ⟨b0, -⟩ := oy k
  obtain ⟨a, ha⟩ := Int.eq_ofNat_of_zero_le a0
  obtain ⟨b, hb⟩ := Int.eq_ofNat_of_zero_le b0
  rw [ha, hb, xor_good.cast, xor_good.cast]
  rw [Nat.xor_assoc, Nat.xor_self, Nat.xor_zero]
theorem xor_back {bits : Int} {ps1 ps2 : List (Int × Int)} (hb : Bits bits) (G1 : Good bits ps1) (G2 : Good bits ps2) : zipO Builtin.bitXor (zipO Builtin.bitXor (dueO ps1) (dueO ps2)) (dueO ps2) = dueO ps1 :=
  zip_xor (due_len ps1) (fun _ => due_oct hb G1) fun _ => due_oct hb G2
theorem lt5 {x a b c d e : Addr} {oa ob oc od oe : Obj} (h : a < x ∧ b < x ∧ c < x ∧ d < x ∧ e < x) : ∀ p ∈ [(a, oa), (b, ob), (c, oc), (d, od), (e, oe)], p.1 ≠ x := by
  obtain ⟨h1, h2, h3, h4, h5⟩ := h
  intro p hp
  simp only [List.mem_cons, List.not_mem_nil, or_false] at hp
  rcases hp with rfl | rfl | rfl | rfl | rfl
  · exact Nat.ne_of_lt h1
  · exact Nat.ne_of_lt h2
  · exact Nat.ne_of_lt h3
  · exact Nat.ne_of_lt h4
  · exact Nat.ne_of_lt h5
theorem set_text {one : Str} {bits place number : Int} {x : List Int} (hb : Bits bits) (h255 : ∀ c ∈ codes one, c ≤ 255) (h12 : one.length ≤ 12) (h0 : 0 ≤ place) (h11 : place ≤ 11) (hv0 : 0 ≤ number) (hv1 : number < 2 ^ bits.toNat) (hx : rowO (codes one) bits = x) :
    (∀ c ∈ codes (txt (vset (codes one) place bits number)), c ≤ 255) ∧ (txt (vset (codes one) place bits number)).length ≤ 12 ∧ rowO (codes (txt (vset (codes one) place bits number))) bits = x.set place.toNat number := by
  have ho := vset_oct hb h0 h11 hv0 hv1 (codes_oct h255)
  obtain ⟨j, rfl⟩ := Int.eq_ofNat_of_zero_le h0
  have e := (vset_nat (off := j) hb (codes_oct h255) hv0 hv1).2
  have k : (txt (vset (codes one) (j : Int) bits number)).length ≤ 12 := by
    rw [← codes_length, codes_txt ho, e, codes_length]
    have q : j / per bits ≤ j := Nat.div_le_self _ _
    omega
  refine ⟨fun c hc => ?_, k, ?_⟩
  · rw [codes_txt ho] at hc
    exact (ho c hc).2
  · rw [codes_txt ho, row_set hb (codes_oct h255) ⟨h0, h11, hv0, hv1⟩, hx]
def bitPairs : List (Str × Value) := [(Str.ofString "&", .ref 351), (Str.ofString "|", .ref 358), (Str.ofString "^", .ref 365), (Str.ofString "<<", .ref 330), (Str.ofString ">>", .ref 337)]
theorem bitOps {w : World} {mean : ExcName → Option Value} {mg mb : Str → Option Value} {news : List (Addr × Obj)} :
    FnSpec w mean mg mb 1 372 [] news (fun K => ∀ d o, LCg.Off1 d news → (d == sysModules) = false → o.IsDictOf (PySem.strKind PySem.Challenge.rw_sz0089_01.row.prog w) bitPairs → K (.ref d) ((d, o) :: news)) := by
  intro dp un gd cn cs a ccd cl outer A₀ base h₀ L m s Q E B F X N T hk hd hu hret
  refine wpAny_call ?_
  k_dflt cell_enter
  k_steps
  exact hret _ _ (off1_lt (by assumption)) (by assumption) (by assumption) _ _ (by k_asm) (by k_asm)
def MarkC : Prop := True
def MarkS : Prop := True
def MarkL : Prop := True
local macro_rules | `(tactic| walk_at "call ref") => `(tactic| (k_here; (with_reducible show wpAny _ _ (call (Value.ref 402) _ _) _ _ _); refine Stop.out ?_))
local macro_rules | `(tactic| walk_at "call ref") => `(tactic| (k_here; (with_reducible show wpAny _ _ (call (Value.ref 409) _ _) _ _ _); refine Stop.out ?_))
local macro_rules | `(tactic| walk_at "call ref") => `(tactic| (k_here; (with_reducible show wpAny _ _ (call (Value.ref 416) _ _) _ _ _); refine Stop.out ?_))
local macro_rules | `(tactic| walk_at "call ref") => `(tactic| (k_here; (with_reducible show wpAny _ _ (call (Value.ref 421) _ _) _ _ _); refine Stop.out ?_))
local macro_rules | `(tactic| walk_at "call ref") => `(tactic| (k_here; (with_reducible show wpAny _ _ (call (Value.ref 428) _ _) _ _ _); refine Stop.out ?_))
local macro_rules | `(tactic| walk_at "call ref") => `(tactic| (k_here; (with_reducible show wpAny _ _ (call (Value.ref 372) _ _) _ _ _); refine Stop.out ?_))
local macro_rules | `(tactic| walk_at "call ref") => `(tactic| (k_here; (with_reducible show wpAny _ _ (call (Value.ref 92) _ _) _ _ _); refine Stop.out ?_))
local macro_rules | `(tactic| walk_at "call ref") => `(tactic| (k_here; (with_reducible show wpAny _ _ (call (Value.ref 351) _ _) _ _ _); refine Stop.out ?_))
local macro_rules | `(tactic| walk_at "call ref") => `(tactic| (k_here; (with_reducible show wpAny _ _ (call (Value.ref 358) _ _) _ _ _); refine Stop.out ?_))
local macro_rules | `(tactic| walk_at "call ref") => `(tactic| (k_here; (with_reducible show wpAny _ _ (call (Value.ref 365) _ _) _ _ _); refine Stop.out ?_))
local macro_rules | `(tactic| walk_at "SrcLP") => `(tactic| (refine Stop.out ?_))
local macro_rules | `(tactic| walk_at "compareOp NotEq str str") => `(tactic| (refine Stop.out ?_))
local macro_rules | `(tactic| walk_at "exec For") => `(tactic| (refine Stop.out ?_))
local macro_rules | `(tactic| walk_at "subscriptTail Name Slice ref ref") => `(tactic| (rename MarkL => mk9; clear mk9; refine Stop.out ?_))
local macro_rules | `(tactic| walk_at "compareOp NotEq int int") => `(tactic| ((with_reducible show wpAny _ _ (compareOp CmpOp.NotEq (Value.int _ _) (Value.int _ _)) _ _ _); refine Stop.out ?_))
local macro_rules | `(tactic| walk_at "eval ListComp") => `(tactic| (rename MarkC => mk9; clear mk9; refine Stop.out ?_))
local macro_rules | `(tactic| walk_at "subscriptTail") => `(tactic| (rename MarkS => mk9; clear mk9; refine Stop.out ?_))
local macro_rules | `(tactic| walk_at "subscriptTail") => `(tactic| (k_here; (with_reducible show wpAny _ _ (subscriptTail _ _ (Value.ref _) (Value.int _ _)) _ _ _); k_dflt (refine item_due (News.isList (by k_asm) (by k_mem)) (by assumption) (by assumption) (by assumption) ?_; intro t9)))
local macro_rules | `(tactic| walk_at "subscriptTail Name Name ref int") => `(tactic| (k_here; (with_reducible show wpAny _ _ (subscriptTail _ _ (Value.ref _) (Value.int _ _)) _ _ _); k_dflt (refine item_due (News.isList (by k_asm) (by k_mem)) (by assumption) (by assumption) (by assumption) ?_; intro t9)))
local macro_rules | `(tactic| walk_at "call ref") => `(tactic| (k_here; (with_reducible show wpAny _ _ (call (Value.ref 351) [Value.int _ _, Value.int _ _, Value.ref _]) _ _ _); k_dflt (refine' fn_use ?w1 ?w2 ?w3 ?w4 ?w5 ?kK (opIntAnd (a := 0) (b := 0) (due_oct ?g1 ?g2) (due_oct ?g3 ?g4) ?g5 ?g6 ?g7) ?kd ?ku ?_; (case w1 => k_asm); (case w2 => k_asm); (case w3 => k_asm); (case w4 => first | k_asm | exact cb_drop (by assumption) (fun p hp => List.mem_cons_of_mem _ hp)); (case w5 => k_asm); (case g1 => assumption); (case g2 => assumption); (case g3 => assumption); (case g4 => assumption); (case g5 => assumption); (case g6 => assumption); (case g7 => assumption); (case kK => first | exact rfl | assumption); (case kd => ktr_room); (case ku => ktr_units); refine fun t9 h9 tk9 F9 N9 => ?_; (try dsimp only); (try k_fold))))
local macro_rules | `(tactic| walk_at "call ref") => `(tactic| (k_here; (with_reducible show wpAny _ _ (call (Value.ref 358) [Value.int _ _, Value.int _ _, Value.ref _]) _ _ _); k_dflt (refine' fn_use ?w1 ?w2 ?w3 ?w4 ?w5 ?kK (opIntOr (a := 0) (b := 0) (due_oct ?g1 ?g2) (due_oct ?g3 ?g4) ?g5 ?g6 ?g7) ?kd ?ku ?_; (case w1 => k_asm); (case w2 => k_asm); (case w3 => k_asm); (case w4 => first | k_asm | exact cb_drop (by assumption) (fun p hp => List.mem_cons_of_mem _ hp)); (case w5 => k_asm); (case g1 => assumption); (case g2 => assumption); (case g3 => assumption); (case g4 => assumption); (case g5 => assumption); (case g6 => assumption); (case g7 => assumption); (case kK => first | exact rfl | assumption); (case kd => ktr_room); (case ku => ktr_units); refine fun t9 h9 tk9 F9 N9 => ?_; (try dsimp only); (try k_fold))))
local macro_rules | `(tactic| walk_at "call ref") => `(tactic| (k_here; (with_reducible show wpAny _ _ (call (Value.ref 365) [Value.int _ _, Value.int _ _, Value.ref _]) _ _ _); k_dflt (refine' fn_use ?w1 ?w2 ?w3 ?w4 ?w5 ?kK (opIntXor (a := 0) (b := 0) (due_oct ?g1 ?g2) (due_oct ?g3 ?g4) ?g5 ?g6 ?g7) ?kd ?ku ?_; (case w1 => k_asm); (case w2 => k_asm); (case w3 => k_asm); (case w4 => first | k_asm | exact cb_drop (by assumption) (fun p hp => List.mem_cons_of_mem _ hp)); (case w5 => k_asm); (case g1 => assumption); (case g2 => assumption); (case g3 => assumption); (case g4 => assumption); (case g5 => assumption); (case g6 => assumption); (case g7 => assumption); (case kK => first | exact rfl | assumption); (case kd => ktr_room); (case ku => ktr_units); refine fun t9 h9 tk9 F9 N9 => ?_; (try dsimp only); (try k_fold))))
local macro_rules | `(tactic| walk_at "assign Name") => `(tactic| ((with_reducible show wpAny _ _ (assign (Expr.Name (Str.ofString "sign") _) _ _) _ _ _); rename Mark => mk9; clear mk9; refine Stop.out ?_))
theorem truthy_same {M : Model} {A : Around} {Q : Bool → Shared → Prop} {E : Value → Shared → Prop} {s : Shared} {a b : List Int} {i : Decidable (a = b)} (e : a = b) (h : wpAny M A (truthy (Value.bool false)) Q E s) : wpAny M A (truthy (Value.bool (!@decide (a = b) i))) Q E s := by
  have q : (!@decide (a = b) i) = false := by simp only [e, decide_true, Bool.not_true]
  rw [q]
  exact h
theorem skip5 {α : Type} {a b c d e f : α} {X : List α} : ∀ p ∈ a :: X, p ∈ a :: b :: c :: d :: e :: f :: X := fun p hp =>
  (List.mem_cons.mp hp).elim (fun h => h ▸ .head _) (fun h => .tail _ (.tail _ (.tail _ (.tail _ (.tail _ (.tail _ h))))))
theorem rowEq {bits : Int} {ps : List (Int × Int)} {one : Str} {vs : List Value} (hb : Bits bits) (G : Good bits ps) (h : one = txt (laidO bits ps)) (i : IntsAre vs ((rangeKs 0 13).map fun k => vget (codes one) k bits)) : IntsAre vs (dueO ps) := by
  rw [h, (laid_facts hb G).1] at i
  rw [← row_laid hb G]
  exact i
theorem keep8 {α : Type} {d a f b g l s c1 c2 c3 c4 : α} {W : List α} : ∀ p ∈ [a, b, l, s, c1, c2, c3, c4], p ∈ d :: a :: f :: b :: g :: l :: s :: c1 :: c2 :: c3 :: c4 :: W := by
  intro p hp
  simp only [List.mem_cons, List.not_mem_nil, or_false] at hp ⊢
  rcases hp with e | e | e | e | e | e | e | e <;> simp only [e, true_or, or_true]
local macro_rules | `(tactic| walk_at "truthy bool") => `(tactic| ((with_reducible show wpAny _ _ (truthy (Value.bool (!decide (zipO _ _ _ = _)))) _ _ _); k_dflt (refine truthy_same rfl ?_)))
set_option maxHeartbeats 40000000 in
theorem walk0 {d : DefRec} {kwd : List (Str × Expr)} (e : defOf Mine.pre.view_1 (Str.ofString "law") = some (d, kwd)) : WalkO Mine.pre.view_1 [Str.ofString "Limits"] (XL Mine.pre.view_1 []) (kHook Mine.pre.heap_1 as0 as0_eq).says PySem.Challenge.rw_sz0089_01.row.toRowW d kwd fun f vs => PySem.call f vs := by
  cases e
  k_go0
  all_goals try k_fold
  k_steps
  unfold Stop
  rename Fr _ _ _ _ => F1
  rename News _ _ _ _ => N1
  rename IntsAre _ (List.take _ _) => hI
  rename List Int => script
  obtain ⟨ns, hns⟩ : ∃ ns, ns = List.take 24 script := ⟨_, rfl⟩
  have h24 : ns.length ≤ 24 := by rw [hns, List.length_take]; omega
  rw [← hns] at hI
  rename _ ∧ _ => lD
  revert lD
  rename _ ∧ _ => lB
  intro lD
  refine fn_use (by assumption) F1 (by assumption) N1 (by assumption) rfl (peg (fun t9 => by k_upd) (by k_mem) ?_ hI h24 (by decide) (by decide) (by decide) (by decide)) (by ktr_room) (by ktr_units) ?_
  · exact Nat.ne_of_lt lB.1
  intro t1 t2 h2 tk2 F2 N2
  clear N1 F1
  (try dsimp only)
  have hp0 : 0 ≤ pegAt ns (0 + 1) % 4 := by omega
  have hp4 : pegAt ns (0 + 1) % 4 < 4 := by omega
  refine item_tupI (ns := [1, 2, 4, 8]) ⟨_, (N2 _ List.mem_cons_self).1, rfl, _, rfl⟩ (.cons _ _ (.cons _ _ (.cons _ _ (.cons _ _ .nil)))) hp0 hp4 (Int.lt_trans hp4 (by decide)) ?_ (by with_unfolding_all rfl)
  obtain ⟨bits, hbits⟩ : ∃ bits, bits = ([1, 2, 4, 8] : List Int).getD (pegAt ns (0 + 1) % 4).toNat 0 := ⟨_, rfl⟩
  rw [← hbits]
  have hb : Bits bits := by
    have q : (pegAt ns (0 + 1) % 4).toNat < 4 := by omega
    rw [hbits]
    revert q
    generalize (pegAt ns (0 + 1) % 4).toNat = z
    intro q
    match z, q with
    | 0, _ => exact Or.inl rfl
    | 1, _ => exact Or.inr (Or.inl rfl)
    | 2, _ => exact Or.inr (Or.inr (Or.inl rfl))
    | 3, _ => exact Or.inr (Or.inr (Or.inr rfl))
  intro tb
  k_steps
  unfold Stop
  rename Fr _ _ _ _ => F1
  rename News _ _ _ _ => N1
  refine fn_use (by assumption) F1 (by assumption) (cb_drop N1 (fun p hp => List.mem_cons_of_mem _ hp)) (by assumption) rfl (lawPairs hb (Nat.ne_of_lt lB.1) ⟨Nat.ne_of_lt lB.2.1, Nat.ne_of_lt lB.2.2.1, Nat.ne_of_lt lB.2.2.2.1, Nat.ne_of_lt lB.2.2.2.2, trivial⟩ hI h24 (by decide) (by decide)) (by ktr_room) (by ktr_units) ?_
  intro f1 us1 nf1 t3 tl1 hP1 f1b f1l f1c f1t ho1 h3 tk3 F3 N3
  clear N1 F1
  (try dsimp only)
  k_steps
  unfold Stop
  simp only [List.cons_append, List.nil_append] at N3
  refine fn_use (by assumption) F3 (by assumption) (cb_drop N3 rot3) (by assumption) rfl (lawPairs hb (Nat.ne_of_lt lB.1) ⟨f1b, Nat.ne_of_lt lB.2.1, Nat.ne_of_lt lB.2.2.1, Nat.ne_of_lt lB.2.2.2.1, Nat.ne_of_lt lB.2.2.2.2, off1_of_own ho1 List.mem_cons_self⟩ hI h24 ?_ ?_) (by ktr_room) (by ktr_units) ?_
  · omega
  · omega
  intro f2 us2 nf2 t4 tl2 hP2 f2b f2l f2c f2t ho2 h4 tk4 F4 N4
  simp only [List.cons_append] at N4
  simp only [List.map_cons, List.map_nil, List.map_append, List.cons_append, List.nil_append] at ho1 ho2
  clear N3 F3
  (try dsimp only)
  obtain ⟨W, hW⟩ : ∃ W, W = tl1 ++ tl2 := ⟨_, rfl⟩
  rw [← hW] at N4
  have hP1' := hP1.mono (l' := W) (fun p hp => hW ▸ List.mem_append_left _ hp)
  have hP2' := hP2.mono (l' := W) (fun p hp => hW ▸ List.mem_append_right _ hp)
  have wb : LCg.Off1 _ W := hW ▸ off1_app (off1_of_own ho1 List.mem_cons_self) (off1_of_own ho2 List.mem_cons_self)
  have wl : LCg.Off1 _ W := hW ▸ off1_app (off1_of_own ho1 (.tail _ (.head _))) (off1_of_own ho2 (.tail _ (.head _)))
  have wc4 : LCg.Off1 _ W := hW ▸ off1_app (off1_of_own ho1 (.tail _ (.tail _ (.head _)))) (off1_of_own ho2 (.tail _ (.tail _ (.tail _ (.head _)))))
  have wc3 : LCg.Off1 _ W := hW ▸ off1_app (off1_of_own ho1 (.tail _ (.tail _ (.tail _ (.head _))))) (off1_of_own ho2 (.tail _ (.tail _ (.tail _ (.tail _ (.head _))))))
  have wc2 : LCg.Off1 _ W := hW ▸ off1_app (off1_of_own ho1 (.tail _ (.tail _ (.tail _ (.tail _ (.head _)))))) (off1_of_own ho2 (.tail _ (.tail _ (.tail _ (.tail _ (.tail _ (.head _)))))))
  have wc1 : LCg.Off1 _ W := hW ▸ off1_app (off1_of_own ho1 (.tail _ (.tail _ (.tail _ (.tail _ (.tail _ (.head _))))))) (off1_of_own ho2 (.tail _ (.tail _ (.tail _ (.tail _ (.tail _ (.tail _ (.head _))))))))
  have wf1 : LCg.Off1 f1 W := hW ▸ off1_app f1t (off1_of_own ho2 (.tail _ (.tail _ (.head _))))
  have wf2 : LCg.Off1 f2 W := hW ▸ off1_app (off1_split (A := [_, _, _, _, _]) f2c).2 f2t
  simp only [LCg.Off1] at f1c f2c
  obtain ⟨ps1, e1⟩ : ∃ ps1, ps1 = pairsGo ns bits (pegAt ns (0 + 1 + 1) % 6).toNat (0 + 1 + 1) [] := ⟨_, rfl⟩
  have G1 : Good bits ps1 := e1 ▸ pairs_good hb
  rw [← e1] at hP1'
  obtain ⟨ps2, e2⟩ : ∃ ps2, ps2 = pairsGo ns bits (pegAt ns (0 + 1 + 1 + 2 * (pegAt ns (0 + 1 + 1) % 6) + 1) % 6).toNat (0 + 1 + 1 + 2 * (pegAt ns (0 + 1 + 1) % 6) + 1) [] := ⟨_, rfl⟩
  have G2 : Good bits ps2 := e2 ▸ pairs_good hb
  rw [← e2] at hP2'
  obtain ⟨kk, ekk⟩ : ∃ kk, kk = 0 + 1 + 1 + 2 * (pegAt ns (0 + 1 + 1) % 6) + 1 + 2 * (pegAt ns (0 + 1 + 1 + 2 * (pegAt ns (0 + 1 + 1) % 6) + 1) % 6) := ⟨_, rfl⟩
  have hkk0 : 0 ≤ kk := by omega
  have hkk1 : kk ≤ 50 := by omega
  rw [← ekk] at N4
  clear hP1 hP2 e1 e2 ekk f1t f2t ho1 ho2 hW wl hp0 hp4 hbits
  k_steps
  unfold Stop
  rename Fr _ _ _ _ => F4
  rename News _ _ _ _ => N4
  refine fn_use (by assumption) F4 (by assumption) (cb_drop N4 (fun p hp => .tail _ (rot4 p hp))) (by assumption) rfl (lawLaid hb (hP1'.mono (fun p hp => (.tail _ (.tail _ (.tail _ (.tail _ (.tail _ (.tail _ (.tail _ hp))))))))) G1.1) (by ktr_room) (by ktr_units) ?_
  intro t5 h5 tk5 F5 N5
  (try dsimp only)
  clear F4 N4
  obtain ⟨one, hone⟩ : ∃ one, one = txt (laidO bits ps1) := ⟨_, rfl⟩
  have one1 : ∀ c ∈ codes one, c ≤ 255 := by rw [hone]; exact (laid_facts hb G1).2.1
  have one2 : one.length ≤ 12 := by rw [hone]; exact (laid_facts hb G1).2.2
  rw [← hone]
  k_steps
  unfold Stop
  refine fn_use (by assumption) F5 (by assumption) (cb_drop N5 (rot2)) (by assumption) rfl (lawLaid hb (hP2'.mono (fun p hp => (.tail _ (.tail _ (.tail _ (.tail _ (.tail _ (.tail _ (.tail _ hp))))))))) G2.1) (by ktr_room) (by ktr_units) ?_
  intro t6 h6 tk6 F6 N6
  (try dsimp only)
  clear F5 N5
  obtain ⟨other, hother⟩ : ∃ other, other = txt (laidO bits ps2) := ⟨_, rfl⟩
  have other1 : ∀ c ∈ codes other, c ≤ 255 := by rw [hother]; exact (laid_facts hb G2).2.1
  have other2 : other.length ≤ 12 := by rw [hother]; exact (laid_facts hb G2).2.2
  rw [← hother]
  k_steps
  unfold Stop
  rename Fr _ _ _ _ => F6
  rename News _ _ _ _ => N6
  refine fn_use (by assumption) F6 (by assumption) (cb_drop N6 (fun p hp => .tail _ (rot2 p hp))) (by assumption) rfl (lawDue (hP1'.mono (fun p hp => (.tail _ (.tail _ (.tail _ (.tail _ (.tail _ (.tail _ (.tail _ hp))))))))) G1.1) (by ktr_room) (by ktr_units) ?_
  intro r1 ux nx hux r1f r1o h7 tk7 F7 N7
  simp only [LCg.Off1] at r1o
  (try dsimp only)
  clear F6 N6
  k_steps
  unfold Stop
  refine fn_use (by assumption) F7 (by assumption) (cb_drop N7 rot3b) (by assumption) rfl (lawDue (hP2'.mono (fun p hp => (.tail _ (.tail _ (.tail _ (.tail _ (.tail _ (.tail _ (.tail _ (.tail _ hp)))))))))) G2.1) (by ktr_room) (by ktr_units) ?_
  intro r2 uy ny huy r2f r2o h8 tk8 F8 N8
  simp only [LCg.Off1] at r2o
  (try dsimp only)
  clear F7 N7
  have mkc : MarkC := trivial
  k_steps
  unfold Stop
  rename Fr _ _ _ _ => F8
  rename News _ _ _ _ => N8
  refine LCp.ListComp_P (F₀ := F8) (by with_unfolding_all rfl) (by decide) (by rfl) (by decide) (by rfl) (by rfl) (by decide) ?_
  k_steps
  unfold Stop
  refine LCp.SrcLP.ledger (by rfl) (by k_asm) (by k_asm) (by k_mem) (by rw [List.size_toArray, hP1'.length, sizeLine_eq]; have := G1.2.2; omega) (fun g9 => ?_)
  refine rest_fst (hP1'.mono (fun p hp => by repeat (first | assumption | refine List.mem_cons_of_mem _ ?_))) (fun p n t t' I oI C oC D m₂ ys h tk E' hC hx hx2 F N off ne => ?_) ?_
  · k_steps
  unfold KPfDone
  intro ym hym D9 h9 tk9 F9 N9 o9
  (try dsimp only)
  simp only [LCg.Off1] at o9
  clear F8 N8
  k_steps
  rename Fr _ _ _ _ => F9
  rename News _ _ _ _ => N9
  refine kmk_add_ints (ns := ps1.map Prod.fst) (ms := [-1]) (vs := ym) (ws := [_]) F9 N9 (News.isList N9 (by k_mem)) (News.isList N9 (by k_mem)) hym (.cons _ _ .nil) ?_ (by rw [List.length_map, sizeLine_eq]; have := G1.2.2; simp only [List.length_cons, List.length_nil]; omega)
  intro Da ua ha Fa Na la hIa
  clear F9 N9
  k_steps
  exact (by
  rename Int => M'
  rename M' ∈ _ => a'
  rename ∀ a, a ∈ _ → a ≤ M' => b'
  rename Fr _ _ _ _ => Fb
  rename News _ _ _ _ => Nb
  unfold Stop
  refine fn_use (by assumption) Fb (by assumption) (cb_drop Nb (fun p hp => hp)) (by assumption) rfl (lawRow hb one1 one2) (by ktr_room) (by ktr_units) ?_
  intro rb vb ib ob hcb tkb Fc Nc
  replace ib := rowEq hb G1 hone ib
  simp only [LCg.Off1] at ob
  clear Fb Nb
  (try dsimp only)
  k_steps
  unfold Stop
  rename Fr _ _ _ _ => Fb
  rename News _ _ _ _ => Nb
  refine fn_use (by assumption) Fb (by assumption) (cb_drop Nb (fun p hp => .tail _ hp)) (by assumption) rfl (lawRow hb other1 other2) (by ktr_room) (by ktr_units) ?_
  intro rc vc ic oc hcc tkc Fd Nd
  replace ic := rowEq hb G2 hother ic
  simp only [LCg.Off1] at oc
  clear Fb Nb
  (try dsimp only)
  have hM0 : -1 ≤ M' := b' _ (List.mem_append_right _ List.mem_cons_self)
  have hM1 : M' ≤ 11 := by
    rcases List.mem_append.mp a' with h | h
    · obtain ⟨p, hp, e⟩ := List.mem_map.mp h
      have q := (G1.1 p hp).2.1
      omega
    · have q := List.mem_singleton.mp h
      omega
  have hbits : 1 ≤ bits ∧ bits ≤ 8 := by rcases hb with rfl | rfl | rfl | rfl <;> decide
  obtain ⟨hb1, hb8⟩ := hbits
  k_steps
  unfold Stop
  rw [← len_laid hb G1 hone a' b']
  refine ne_int ?_
  rw [bne_self_eq_false]
  clear a' b'
  have mkl : MarkL := trivial
  k_steps
  unfold Stop
  rename Fr _ _ _ _ => Fb
  rename News _ _ _ _ => Nb
  refine krv_lit (its := us2.toArray) (zs := us2.reverse) Fb Nb (News.isList Nb (by k_mem)) (IsPart.int _ _) rfl (fun De he Fe Ne le => ?_) (by with_unfolding_all rfl) (by kmk_pure) (by rw [List.size_toArray, hP2'.length, sizeLine_eq]; have := G2.2.2; omega)
  clear Fb Nb
  k_steps
  unfold Stop
  refine fn_use (by assumption) Fe (by assumption) (cb_drop Ne skip5) (by assumption) rfl (lawLaid hb (hP2'.reverse.mono (fun p hp => (.tail _ (.tail _ (.tail _ (.tail _ (.tail _ (.tail _ (.tail _ (.tail _ (.tail _ (.tail _ hp)))))))))))) (fun p hp => G2.1 p (List.mem_reverse.mp hp))) (by ktr_room) (by ktr_units) ?_
  intro t7 hf tkf Ff Nf
  rw [laid_rev hb G2, ← hother]
  (try dsimp only)
  clear Fe Ne
  k_steps
  unfold Stop
  refine ne_str ?_
  rw [bne_self_eq_false]
  k_steps
  exact (by
  unfold Stop
  rename Fr _ _ _ _ => Fb
  rename News _ _ _ _ => Nb
  replace Nb := cb_drop Nb keep8
  obtain ⟨-, q1, q2, q3, q4, q5, q6, -⟩ := r1o
  obtain ⟨p0, -, p1, p2, p3, p4, p5, p6, -⟩ := r2o
  clear f1b f1l f1c f2b f2l f2c wb wc4 wc3 wc2 wc1 wf1 wf2 hP1' hP2' o9 ob oc la le r1f r2f hym hIa ib ic lD
  refine fn_use (by assumption) Fb (by assumption) (cb_drop Nb (fun p hp => hp)) (by assumption) rfl bitOps (by ktr_room) (by ktr_units) ?_
  intro dg og ofg dlg dig hg tkg Fg Ng
  simp only [LCg.Off1, and_true] at ofg
  unfold bitPairs at dig
  obtain ⟨d1, d2, d3, d4, d5, d6, d7, d8⟩ := ofg
  clear Fb Nb
  (try dsimp only)
  have mks : MarkS := trivial
  k_steps
  exact (by
  unfold Stop
  k_steps
  unfold Stop
  rename Fr _ _ _ _ => Fb
  rename News _ _ _ _ => Nb
  refine fn_use (by assumption) Fb (by assumption) (cb_drop Nb (fun p hp => List.mem_cons_of_mem _ (List.mem_cons_of_mem _ hp))) (by assumption) rfl (opTxtAnd (x := one) (y := other) (by omega) (by omega) one1 other1) (by ktr_room) (by ktr_units) ?_
  intro u1 hk1 tkk1 Fc Nc
  (try dsimp only)
  clear Fb Nb
  obtain ⟨A1, A2, A3⟩ := and_text hb one1 other1 one2 (laid_row hb G1 hone) (laid_row hb G2 hother)
  k_steps
  unfold Stop
  refine fn_use (by assumption) Fc (by assumption) (cb_drop Nc (fun p hp => hp)) (by assumption) rfl (lawRow hb A1 A2) (by ktr_room) (by ktr_units) ?_
  intro ra va ia oa hk2 tkk2 Fd Nd
  replace ia := row_is ia A3
  simp only [LCg.Off1, and_true] at oa
  clear Fc Nc A1 A2 A3
  (try dsimp only)
  have mk : Mark := trivial
  k_steps
  unfold Stop
  rename Fr _ _ _ _ => Fb
  rename News _ _ _ _ => Nb
  replace Nb := cb_drop Nb skip2
  repeat (rename LCg.Off1 _ _ => z9; clear z9)
  repeat (rename _ ≠ _ ∧ _ => z9; clear z9)
  exact (by
  k_steps
  unfold Stop
  rename Fr _ _ _ _ => Fb
  rename News _ _ _ _ => Nb
  refine fn_use (by assumption) Fb (by assumption) (cb_drop Nb (fun p hp => List.mem_cons_of_mem _ (List.mem_cons_of_mem _ hp))) (by assumption) rfl (opTxtOr (x := one) (y := other) (by omega) (by omega) one1 other1) (by ktr_room) (by ktr_units) ?_
  intro u1 hk1 tkk1 Fc Nc
  (try dsimp only)
  clear Fb Nb
  obtain ⟨A1, A2, A3⟩ := or_text hb one1 other1 one2 other2 (laid_row hb G1 hone) (laid_row hb G2 hother)
  k_steps
  unfold Stop
  refine fn_use (by assumption) Fc (by assumption) (cb_drop Nc (fun p hp => hp)) (by assumption) rfl (lawRow hb A1 A2) (by ktr_room) (by ktr_units) ?_
  intro ra va ia oa hk2 tkk2 Fd Nd
  replace ia := row_is ia A3
  simp only [LCg.Off1, and_true] at oa
  clear Fc Nc A1 A2 A3
  (try dsimp only)
  have mk : Mark := trivial
  k_steps
  unfold Stop
  rename Fr _ _ _ _ => Fb
  rename News _ _ _ _ => Nb
  replace Nb := cb_drop Nb skip2
  repeat (rename LCg.Off1 _ _ => z9; clear z9)
  repeat (rename _ ≠ _ ∧ _ => z9; clear z9)
  exact (by
  k_steps
  unfold Stop
  rename Fr _ _ _ _ => Fb
  rename News _ _ _ _ => Nb
  refine fn_use (by assumption) Fb (by assumption) (cb_drop Nb (fun p hp => List.mem_cons_of_mem _ (List.mem_cons_of_mem _ hp))) (by assumption) rfl (opTxtXor (x := one) (y := other) (by omega) (by omega) one1 other1) (by ktr_room) (by ktr_units) ?_
  intro u1 hk1 tkk1 Fc Nc
  (try dsimp only)
  clear Fb Nb
  obtain ⟨A1, A2, A3⟩ := xor_text hb one1 other1 one2 other2 (laid_row hb G1 hone) (laid_row hb G2 hother)
  k_steps
  unfold Stop
  refine fn_use (by assumption) Fc (by assumption) (cb_drop Nc (fun p hp => hp)) (by assumption) rfl (lawRow hb A1 A2) (by ktr_room) (by ktr_units) ?_
  intro ra va ia oa hk2 tkk2 Fd Nd
  replace ia := row_is ia A3
  simp only [LCg.Off1, and_true] at oa
  clear Fc Nc A1 A2 A3
  (try dsimp only)
  k_steps
  unfold Stop
  rw [sum_andor (due_len ps1) (due_len ps2)]
  refine ne_int ?_
  rw [bne_self_eq_false]
  rename Fr _ _ _ _ => Fb
  rename News _ _ _ _ => Nb
  repeat (rename LCg.Off1 _ _ => z9; clear z9)
  repeat (rename _ ≠ _ ∧ _ => z9; clear z9)
  exact (by
  k_steps
  unfold Stop
  rw [sum_xor]
  refine ne_int ?_
  rw [bne_self_eq_false]
  k_steps
  unfold Stop
  rename Fr _ _ _ _ => Fb
  rename News _ _ _ _ => Nb
  refine fn_use (by assumption) Fb (by assumption) (cb_drop Nb (fun p hp => List.mem_cons_of_mem _ (List.mem_cons_of_mem _ hp))) (by assumption) rfl (opTxtXor (x := one) (y := other) (by omega) (by omega) one1 other1) (by ktr_room) (by ktr_units) ?_
  intro u1 hk1 tkk1 Fc Nc
  (try dsimp only)
  clear Fb Nb
  obtain ⟨A1, A2, A3⟩ := xor_text hb one1 other1 one2 other2 (laid_row hb G1 hone) (laid_row hb G2 hother)
  obtain ⟨T1, hT1⟩ : ∃ T1, T1 = txt (bitsO Builtin.bitXor (max one.length other.length) (codes one) (codes other)) := ⟨_, rfl⟩
  rw [← hT1] at A1 A2 A3 ⊢
  k_steps
  unfold Stop
  clear Fc Nc
  rename Fr _ _ _ _ => Fb
  rename News _ _ _ _ => Nb
  refine fn_use (by assumption) Fb (by assumption) (cb_drop Nb (fun p hp => List.mem_cons_of_mem _ (List.mem_cons_of_mem _ hp))) (by assumption) rfl (opTxtXor (x := T1) (y := other) (by omega) (by omega) A1 other1) (by ktr_room) (by ktr_units) ?_
  intro u2 hk3 tkk3 Fc Nc
  (try dsimp only)
  clear Fb Nb
  obtain ⟨B1, B2, B3⟩ := xor_text hb A1 other1 A2 other2 A3 (laid_row hb G2 hother)
  rw [xor_back hb G1 G2] at B3
  k_steps
  unfold Stop
  refine fn_use (by assumption) Fc (by assumption) (cb_drop Nc (fun p hp => hp)) (by assumption) rfl (lawRow hb B1 B2) (by ktr_room) (by ktr_units) ?_
  intro ra va ia oa hk2 tkk2 Fd Nd
  replace ia := row_is ia B3
  simp only [LCg.Off1, and_true] at oa
  clear Fc Nc A1 A2 A3 B1 B2 B3
  (try dsimp only)
  k_steps
  unfold Stop
  rename Fr _ _ _ _ => Fb
  rename News _ _ _ _ => Nb
  repeat (rename LCg.Off1 _ _ => z9; clear z9)
  repeat (rename _ ≠ _ ∧ _ => z9; clear z9)
  exact (by
  rename Fr _ _ _ _ => Fz
  rename News _ _ _ _ => Nz
  have Nc := cb_drop Nz (fun p hp => .tail _ (.tail _ (.tail _ (.tail _ (.tail _ (.tail _ (.tail _ (.tail _ hp))))))))
  clear Nz
  refine fn_use (by assumption) Fz (by assumption) Nc (by assumption) rfl (peg (fun t9 => .tail (Ne.symm q1) (.head (lt5 lB))) (.tail _ (.tail _ (.head _))) (Nat.ne_of_lt lB.1) hI h24 hkk0 (by omega) (by decide) (by decide)) (by ktr_room) (by ktr_units) ?_
  intro t11 t12 hm1 tkm1 Fm Nm
  clear Nc
  (try dsimp only)
  obtain ⟨place, hplace⟩ : ∃ place, place = pegAt ns (kk + 1) % 12 := ⟨_, rfl⟩
  have hpl0 : 0 ≤ place := by omega
  have hpl1 : place ≤ 11 := by omega
  rw [← hplace]
  have hm0 : (0 : Int) < 2 ^ bits.toNat := by rcases hb with rfl | rfl | rfl | rfl <;> decide
  have hm1' : (2 : Int) ^ bits.toNat ≤ 256 := by rcases hb with rfl | rfl | rfl | rfl <;> decide
  k_steps
  unfold Stop
  rename Fr _ _ _ _ => Fb
  rename News _ _ _ _ => Nb
  refine fn_use (by assumption) Fb (by assumption) Nb (by assumption) rfl (peg (fun t9 => .tail (Ne.symm q1) (.head (lt5 lB))) (.tail _ (.tail _ (.head _))) (Nat.ne_of_lt lB.1) hI h24 (by omega) (by omega) hm0 hm1') (by ktr_room) (by ktr_units) ?_
  intro t13 t14 hm2 tkm2 Fn Nn
  clear Nb
  (try dsimp only)
  obtain ⟨number, hnumber⟩ : ∃ number, number = pegAt ns (kk + 1 + 1) % 2 ^ bits.toNat := ⟨_, rfl⟩
  have hnu0 : 0 ≤ number := by rw [hnumber]; exact Int.emod_nonneg _ (by omega)
  have hnu1 : number < 2 ^ bits.toNat := by rw [hnumber]; exact Int.emod_lt_of_pos _ hm0
  rw [← hnumber]
  clear p0 p1 p2 p3 p4 p5 p6 d1 d2 d3 d4 d5 d6 d7 d8
  have hx13 : (dueO ps1).length = 13 := due_len ps1
  k_steps
  unfold Stop
  rename Fr _ _ _ _ => Fb
  rename News _ _ _ _ => Nb
  refine fn_use (by assumption) Fb (by assumption) (cb_drop Nb (fun p hp => hp)) (by assumption) rfl (vecSet hb one1 one2 hpl0 hpl1 hnu0 hnu1 (by assumption) (by assumption) (by assumption)) (by ktr_room) (by ktr_units) ?_
  intro t15 hm3 tkm3 Fp Np
  clear Fb Nb
  (try dsimp only)
  obtain ⟨A1, A2, A3⟩ := set_text hb one1 one2 hpl0 hpl1 hnu0 hnu1 (laid_row hb G1 hone)
  k_steps
  unfold Stop
  refine fn_use (by assumption) Fp (by assumption) (cb_drop Np (fun p hp => hp)) (by assumption) rfl (lawRow hb A1 A2) (by ktr_room) (by ktr_units) ?_
  intro ra va ia oa hk2 tkk2 Fd Nd
  replace ia := row_is ia A3
  simp only [LCg.Off1, and_true] at oa
  clear Fp Np A1 A2 A3
  (try dsimp only)
  k_steps)))))))
theorem t.tw5080235682650490528 : True := trivial
theorem t.tw10424864984025695361 : True := trivial
theorem t.tw1941189527368155243 : True := trivial
theorem t.tw1864401995506102867 : True := trivial
theorem t.tw5588737241444955589 : True := trivial
theorem t.tw5465995264152929975 : True := trivial
theorem t.tw9994042511416986438 : True := trivial
theorem t.tw6312337780509686137 : True := trivial
theorem t.tw8500067674714440783 : True := trivial
theorem t.tw18053215466497350500 : True := trivial
theorem t.tw16388015995650517708 : True := trivial
theorem t.tw11669689928384185219 : True := trivial
theorem t.tw10632141893796105518 : True := trivial
theorem t.tw1384758712477683591 : True := trivial
theorem t.tw18357538726190406627 : True := trivial
theorem t.tw14058643134511302948 : True := trivial
theorem t.tw16222308309110703109 : True := trivial
theorem t.tw14747537996636573947 : True := trivial
theorem t.tw9151137219863538466 : True := trivial
theorem t.tw3886729778386688929 : True := trivial
theorem t.tw10203731649938597347 : True := trivial
theorem t.tw525366067405650490 : True := trivial
theorem t.tw2519261865674920565 : True := trivial
theorem t.tw7431717090119660343 : True := trivial
theorem t.tw13834376703629515387 : True := trivial
theorem t.tw12881447281262955170 : True := trivial
theorem t.tw8435961800863731671 : True := trivial
theorem t.tw3831595781883294970 : True := trivial
theorem t.tw6193619939880243084 : True := trivial
theorem t.tw10041753954890356638 : True := trivial
theorem t.tw18036574946328202371 : True := trivial
theorem t.tw7702063737848989530 : True := trivial
theorem t.tw6523699780892489214 : True := trivial
theorem t.tw18201780587446541230 : True := trivial
theorem t.tw14195302474970717319 : True := trivial
theorem t.tw12643616471600577623 : True := trivial
theorem t.tw14404392578945299525 : True := trivial
theorem t.tw14594863371044533954 : True := trivial
theorem t.tw8149656065669925659 : True := trivial
theorem t.tw8497670469855219903 : True := trivial
theorem t.tw13096959981146268498 : True := trivial
theorem t.tw16221084560677292531 : True := trivial
theorem t.tw3994312163295713127 : True := trivial
theorem t.tw16903599136167032668 : True := trivial
theorem t.tw14669977153419653076 : True := trivial
theorem t.tw10810931940749879904 : True := trivial
theorem t.tw13026307106290632698 : True := trivial
theorem t.tw1643507866249868214 : True := trivial
theorem t.tw10440598492560237765 : True := trivial
theorem t.tw8729987952180307955 : True := trivial
theorem t.tw3264001815810215935 : True := trivial
theorem t.tw9814709635179122401 : True := trivial
theorem t.tw16687308159627569954 : True := trivial
theorem t.tw8751352328825627427 : True := trivial
theorem t.tw8342177176307113014 : True := trivial
theorem t.tw10563615123700313624 : True := trivial
theorem t.tw8143278256011086783 : True := trivial
theorem t.tw1059478941996871391 : True := trivial
theorem t.tw6998424756325864561 : True := trivial
theorem t.tw840579726631181855 : True := trivial
theorem t.tw9355889925583856762 : True := trivial
theorem t.tw203247603270318984 : True := trivial
theorem t.tw804432764779568513 : True := trivial
theorem t.tw3312724710714486047 : True := trivial
theorem t.tw15116892315292367000 : True := trivial
theorem t.tw17506895802582741703 : True := trivial
theorem t.tw17141993515687210974 : True := trivial
theorem t.tw17793944399389843750 : True := trivial
theorem t.tw4334577720623413774 : True := trivial
theorem t.tw9406760551963101899 : True := trivial
theorem t.tw13360827191387063172 : True := trivial
theorem t.tw5317508456004773301 : True := trivial
theorem t.tw6854509106710523367 : True := trivial
theorem t.tw4112596745025495571 : True := trivial
theorem t.tw12546818603524537029 : True := trivial
theorem t.tw4871556276614502690 : True := trivial
theorem t.tw6412166833428047700 : True := trivial
theorem t.tw4416449686347171480 : True := trivial
theorem t.tw15322862540050973937 : True := trivial
theorem t.tw9759804012065166999 : True := trivial
theorem t.tw10698328449051009877 : True := trivial
theorem t.tw5378968050229844658 : True := trivial
theorem t.tw8359141778808790459 : True := trivial
theorem t.tw1270927861667604707 : True := trivial
theorem t.tw16738280171760728021 : True := trivial
theorem t.tw16144646665701004317 : True := trivial
theorem t.tw3239728353872976266 : True := trivial
theorem t.tw1604679568309815345 : True := trivial
theorem t.tw12548274375298704219 : True := trivial
theorem t.tw11144666246068070455 : True := trivial
theorem t.tw13294108383511745824 : True := trivial
theorem t.tw14202673451165575891 : True := trivial
theorem t.tw16823655598308593670 : True := trivial
theorem t.tw2778591491835690121 : True := trivial
theorem t.tw9429474522324904728 : True := trivial
theorem t.tw18414514197003991142 : True := trivial
theorem t.tw3573342055281033277 : True := trivial
theorem t.tw11539270835194307026 : True := trivial
theorem t.tw3194993071471358584 : True := trivial
theorem t.tw13921477781307257163 : True := trivial
theorem t.tw10192660305098834306 : True := trivial
theorem t.tw8751032299008168679 : True := trivial
theorem t.tw1454213223219910220 : True := trivial
theorem t.tw14585500971112378551 : True := trivial
theorem t.tw6043796424592133028 : True := trivial
theorem t.tw9384692925257468737 : True := trivial
theorem t.tw1986364855353497651 : True := trivial
theorem t.tw15383735737711684854 : True := trivial
theorem t.tw10977321126657971894 : True := trivial
theorem t.tw11096504295191847356 : True := trivial
theorem t.tw2740992726653951318 : True := trivial
theorem t.tw17779523576241033247 : True := trivial
theorem t.tw7404208503825960077 : True := trivial
theorem t.tw1158242873490461438 : True := trivial
theorem t.tw9632193212678212682 : True := trivial
theorem t.tw5853258199472070578 : True := trivial
theorem t.tw9975589585012612045 : True := trivial
theorem t.tw137637523542946550 : True := trivial
theorem t.tw7423170727919461618 : True := trivial
theorem t.tw10616771175189657334 : True := trivial
theorem t.tw7156271503478238185 : True := trivial
theorem t.tw4109040031166177660 : True := trivial
theorem t.tw14903861890355198756 : True := trivial
theorem t.tw171432191445611375 : True := trivial
theorem t.tw17862868487539514014 : True := trivial
theorem t.tw9043771073200158444 : True := trivial
theorem t.tw9906114675573211196 : True := trivial
theorem t.tw9417473809765670105 : True := trivial
theorem t.tw15416396835045857388 : True := trivial
theorem t.tw10411305550413447970 : True := trivial
theorem t.tw4824961505363468867 : True := trivial
theorem t.tw4602654398657202251 : True := trivial
theorem t.tw3906769233747623497 : True := trivial
theorem t.tw12951373186386577162 : True := trivial
theorem t.tw2883554421499353392 : True := trivial
theorem t.tw8047605400425414640 : True := trivial
theorem t.tw3698502849004752912 : True := trivial
theorem t.tw3694364031710741355 : True := trivial
theorem t.tw17703970071567475373 : True := trivial
theorem t.tw5290798863477243697 : True := trivial
theorem t.tw3198826617247943772 : True := trivial
theorem t.tw15938348709528978692 : True := trivial
theorem t.tw12117053460722275250 : True := trivial
theorem t.tw9882549796475363782 : True := trivial
theorem t.tw6574685239288912464 : True := trivial
theorem t.tw6467061834020590701 : True := trivial
theorem t.tw4635852739855399777 : True := trivial
theorem t.tw5192491486283747762 : True := trivial
theorem t.tw7345203747615911520 : True := trivial
theorem t.tw10156726217929275961 : True := trivial
theorem t.tw16896412874748268072 : True := trivial
theorem t.tw15210291241352270146 : True := trivial
theorem t.tw3873597319043596651 : True := trivial
theorem t.tw8557224120903194542 : True := trivial
theorem t.tw9093801727026474936 : True := trivial
theorem t.tw14268621268340073097 : True := trivial
theorem t.tw11569894722483422133 : True := trivial
theorem t.tw1491229496488398562 : True := trivial
theorem t.tw340379612014038192 : True := trivial
theorem t.tw6308966137986381094 : True := trivial
theorem t.tw2077412986280654028 : True := trivial
theorem t.tw17405135080307922463 : True := trivial
theorem t.tw11357995668970500933 : True := trivial
theorem t.tw17150468241619998056 : True := trivial
theorem t.tw5115691105366252614 : True := trivial
theorem t.tw14700540507343753829 : True := trivial
theorem t.tw7746724031025784752 : True := trivial
theorem t.tw9547089969607501081 : True := trivial
theorem t.tw17011751763303219310 : True := trivial
theorem t.tw6345205833704035819 : True := trivial
theorem t.tw13657071425704192426 : True := trivial
theorem t.tw12570831819464518780 : True := trivial
theorem t.tw16263920453340475803 : True := trivial
theorem t.tw5363589842833734709 : True := trivial
theorem t.tw6653666352923025226 : True := trivial
theorem t.tw3592543522987669008 : True := trivial
theorem t.tw4461317284911954239 : True := trivial
theorem t.tw8657247750322844444 : True := trivial
theorem t.tw13589260592868502054 : True := trivial
theorem t.tw13996007131139766157 : True := trivial
theorem t.tw10444745881692918663 : True := trivial
theorem t.tw10303118593217332821 : True := trivial
theorem t.tw17549851983277961724 : True := trivial
theorem t.tw2863041327874763544 : True := trivial
theorem t.tw658102074345887862 : True := trivial
theorem t.tw3941302338098832967 : True := trivial
theorem t.tw16655777344997256494 : True := trivial
theorem t.tw10035081960757731234 : True := trivial
theorem t.tw11519060278220708172 : True := trivial
theorem t.tw547503211946484581 : True := trivial
theorem t.tw12315898900300011428 : True := trivial
theorem t.tw8823384097646444772 : True := trivial
theorem t.tw1306697635686173151 : True := trivial
theorem t.tw18328265664796163912 : True := trivial
theorem t.tw12654488530713614955 : True := trivial
theorem t.tw15509620800707267869 : True := trivial
theorem t.tw8207903273157304334 : True := trivial
theorem t.tw3846789886799805975 : True := trivial
theorem t.tw3375279882101034282 : True := trivial
theorem t.tw14965004087778030538 : True := trivial
theorem t.tw5166861451633927222 : True := trivial
theorem t.tw3571913728133230825 : True := trivial
theorem t.tw7235021283476966737 : True := trivial
theorem t.tw16188777196982488016 : True := trivial
theorem t.tw5716242199975065905 : True := trivial
theorem t.tw9292854436321513403 : True := trivial
theorem t.tw8571481839844021172 : True := trivial
theorem t.tw18354930847772701202 : True := trivial
theorem t.tw14731787122588773562 : True := trivial
theorem t.tw15317304689134058550 : True := trivial
theorem t.tw2828460952467709636 : True := trivial
theorem t.tw15574606245611727671 : True := trivial
theorem t.tw14636283202353201177 : True := trivial
theorem t.tw17736380109705625125 : True := trivial
theorem t.tw9876743320656935789 : True := trivial
theorem t.tw12439512732231948027 : True := trivial
theorem t.tw13987540602641253879 : True := trivial
theorem t.tw15399285930252966044 : True := trivial
theorem t.tw9846665612098300038 : True := trivial
theorem t.tw6842838110983270509 : True := trivial
theorem t.tw6848965280784891344 : True := trivial
theorem t.tw1121687693947301159 : True := trivial
theorem t.tw17290861831503776288 : True := trivial
theorem t.tw17545338473452859214 : True := trivial
theorem t.tw8496518975422055554 : True := trivial
theorem t.tw2919312949314562588 : True := trivial
theorem t.tw9482025222605875330 : True := trivial
theorem t.tw9077804948671240276 : True := trivial
theorem t.tw3625788560305602034 : True := trivial
theorem t.tw18239148815295677835 : True := trivial
theorem t.tw14358104503110323187 : True := trivial
theorem t.tw15799254309259826080 : True := trivial
theorem t.tw10417194463113361853 : True := trivial
theorem t.tw14888434258396601769 : True := trivial
theorem t.tw18152470001565954096 : True := trivial
theorem t.tw11973071949968568264 : True := trivial
theorem t.tw14937267425431677485 : True := trivial
theorem t.tw16982222559009426401 : True := trivial
theorem t.tw83795195151029920 : True := trivial
theorem t.tw7170146204411458274 : True := trivial
theorem t.tw15706125578940620056 : True := trivial
theorem t.tw6315536302804481089 : True := trivial
theorem t.tw7064446276773701155 : True := trivial
theorem t.tw348087809420509200 : True := trivial
theorem t.tw14999658015838719557 : True := trivial
theorem t.tw567187406890510793 : True := trivial
theorem t.tw15823355144244564892 : True := trivial
theorem t.tw3368480393061434210 : True := trivial
theorem t.tw2224724296459346082 : True := trivial
theorem t.tw14324219730292680086 : True := trivial
theorem t.tw2252191041633795831 : True := trivial
theorem t.tw777528023031565547 : True := trivial
theorem t.tw15844157597705847566 : True := trivial
theorem t.tw13591116220866063894 : True := trivial
theorem t.tw13253804752354173070 : True := trivial
theorem t.tw5510886775613128667 : True := trivial
theorem t.tw10407492007723431039 : True := trivial
theorem t.tw6127543978397321891 : True := trivial
theorem t.tw6720456403870207322 : True := trivial
theorem t.tw16534400057113985147 : True := trivial
theorem t.tw2684392932995232340 : True := trivial
theorem t.tw63802966000111848 : True := trivial
theorem t.tw12248465176713855973 : True := trivial
theorem t.tw11752110006643400490 : True := trivial
theorem t.tw2927354649861347117 : True := trivial
theorem t.tw18361815171942870836 : True := trivial
theorem t.tw3279317601279889206 : True := trivial
theorem t.tw6339198341577673439 : True := trivial
theorem t.tw3395362497303751092 : True := trivial
theorem t.tw10917161854080269120 : True := trivial
theorem t.tw440540905644855773 : True := trivial
theorem t.tw9146982838059933524 : True := trivial
theorem t.tw7292420324971342777 : True := trivial
theorem t.tw14260681713972633172 : True := trivial
theorem t.tw4931345382548571435 : True := trivial
theorem t.tw12072163389214221923 : True := trivial
theorem t.tw13745784543103562952 : True := trivial
theorem t.tw9879308759620744776 : True := trivial
theorem t.tw17723893184479682961 : True := trivial
theorem t.tw12017351982171620213 : True := trivial
theorem t.tw11984616265815269620 : True := trivial
theorem t.tw16681791124208089332 : True := trivial
theorem t.tw352521684459799452 : True := trivial
theorem t.tw14360452582705570968 : True := trivial
theorem t.tw1348008649472942227 : True := trivial
theorem t.tw7510224330680608926 : True := trivial
theorem t.tw8338651392246572694 : True := trivial
theorem t.tw14845417977995127743 : True := trivial
theorem t.tw15946661969018253987 : True := trivial
theorem t.tw2663412439361033715 : True := trivial
theorem t.tw7505500496765597222 : True := trivial
theorem t.tw17623901450683595076 : True := trivial
theorem t.tw6807723790183360566 : True := trivial
theorem t.tw9801163518217642881 : True := trivial
theorem t.tw203436778716262470 : True := trivial
theorem t.tw15902025900290729940 : True := trivial
theorem t.tw10707151266043249734 : True := trivial
theorem t.tw825288630641523616 : True := trivial
theorem t.tw12896636891628211620 : True := trivial
theorem t.tw444574814690821998 : True := trivial
theorem t.tw10887505865754599017 : True := trivial
theorem t.tw1269526868138142313 : True := trivial
theorem t.tw1119069458679710588 : True := trivial
theorem t.tw1578629435574841185 : True := trivial
theorem t.tw6347352852808101672 : True := trivial
theorem t.tw10850573284365932470 : True := trivial
theorem t.tw16310764057689931692 : True := trivial
theorem t.tw6381729991846412775 : True := trivial
theorem t.tw6626842921849653603 : True := trivial
theorem t.tw592150893358827281 : True := trivial
theorem t.tw4917153408244547345 : True := trivial
theorem t.tw4137868747374227627 : True := trivial
theorem t.tw11391103240747988177 : True := trivial
theorem t.tw3622858184622793728 : True := trivial
theorem t.tw1172108066755902079 : True := trivial
theorem t.tw13265202117867704961 : True := trivial
theorem t.tw15567623841975074628 : True := trivial
theorem t.tw11540330659390353493 : True := trivial
theorem t.tw2124931999166378902 : True := trivial
theorem t.tw10199499253055831713 : True := trivial
theorem t.tw11326192992270069098 : True := trivial
theorem t.tw6407558861232127640 : True := trivial
theorem t.tw10306733208023754254 : True := trivial
theorem t.tw11532261022210009172 : True := trivial
theorem t.tw11976090190550024099 : True := trivial
theorem t.tw16187222284356627979 : True := trivial
theorem t.tw3029536933784715188 : True := trivial
theorem t.tw5963725973854031540 : True := trivial
theorem t.tw8308778266341959830 : True := trivial
theorem t.tw9699126099414021394 : True := trivial
theorem t.tw10151270453553886041 : True := trivial
theorem t.tw3604888478777844327 : True := trivial
theorem t.tw1653157685239022320 : True := trivial
theorem t.tw2968504996976588420 : True := trivial
theorem t.tw1759794398200007720 : True := trivial
theorem t.tw13221832203644247601 : True := trivial
theorem t.tw8969958137698728741 : True := trivial
theorem t.tw10484500519408165254 : True := trivial
theorem t.tw2604831074916750984 : True := trivial
theorem t.tw16228875905145819412 : True := trivial
theorem t.tw56732574939149492 : True := trivial
theorem t.tw5394619553815188234 : True := trivial
theorem t.tw10407950262028102945 : True := trivial
theorem t.tw10088626172295154333 : True := trivial
theorem t.tw2545979821887454551 : True := trivial
theorem t.tw6647821756170339169 : True := trivial
theorem t.tw16495804245011725330 : True := trivial
theorem t.tw4317138512581786801 : True := trivial
theorem t.tw13312010554322680396 : True := trivial
theorem t.tw1705838166840047854 : True := trivial
theorem t.tw3161720777801551796 : True := trivial
theorem t.tw3184355813959788794 : True := trivial
theorem t.tw1297885781022292861 : True := trivial
theorem t.tw12363223522514397087 : True := trivial
theorem t.tw9113017957604208496 : True := trivial
theorem t.tw11221638331509336719 : True := trivial
theorem t.tw7393771109369454039 : True := trivial
theorem t.tw8147027352631410249 : True := trivial
theorem t.tw11814428077274664379 : True := trivial
theorem t.tw5952678989898044026 : True := trivial
theorem t.tw17908574728009647881 : True := trivial
theorem t.tw2337928935384228330 : True := trivial
theorem t.tw3232936825735925144 : True := trivial
theorem t.tw3176315110041411799 : True := trivial
theorem t.tw14321417247457888668 : True := trivial
theorem t.tw11461340973035847762 : True := trivial
theorem t.tw4752194607475718203 : True := trivial
theorem t.tw3253141385565403271 : True := trivial
theorem t.tw3966851412898218354 : True := trivial
theorem t.tw700263171764648334 : True := trivial
theorem t.tw12918755224041156345 : True := trivial
theorem t.tw10432378822608522094 : True := trivial
theorem t.tw9226127557677055081 : True := trivial
theorem t.tw13106389409897508277 : True := trivial
theorem t.tw3187315120525503949 : True := trivial
theorem t.tw3715846019876210496 : True := trivial
theorem t.tw14025595978270203706 : True := trivial
theorem t.tw17509003371951085970 : True := trivial
theorem t.tw12349397827985705623 : True := trivial
theorem t.tw16658655651822082523 : True := trivial
theorem t.tw3041895000002325537 : True := trivial
theorem t.tw2453202393215896233 : True := trivial
theorem t.tw2191067436519797298 : True := trivial
theorem t.tw1194846575482796152 : True := trivial
theorem t.tw12536241781338717954 : True := trivial
theorem t.tw11100816704155064989 : True := trivial
theorem t.tw11539556534233449701 : True := trivial
theorem t.tw2053616136419103728 : True := trivial
theorem t.tw4125962023988990147 : True := trivial
theorem t.tw9749346905081659561 : True := trivial
theorem t.tw5078140545874411479 : True := trivial
theorem t.tw18398312093377120261 : True := trivial
theorem t.tw6189516061151867586 : True := trivial
theorem t.tw13796233866835574089 : True := trivial
theorem t.tw11503472614763083054 : True := trivial
theorem t.tw2445674106132954415 : True := trivial
theorem t.tw11090215843837524735 : True := trivial
theorem t.tw5071637156394640629 : True := trivial
theorem t.tw12632603849395549757 : True := trivial
theorem t.tw6585169717607189740 : True := trivial
theorem t.tw17312789782852293488 : True := trivial
theorem t.tw1638691776069158710 : True := trivial
theorem t.tw12445031586567827895 : True := trivial
theorem t.tw12539456211103441151 : True := trivial
theorem t.tw16866224180969092560 : True := trivial
theorem t.tw8266507387357748175 : True := trivial
theorem t.tw5319832878436674271 : True := trivial
theorem t.tw7183413702335326227 : True := trivial
theorem t.tw12438107940824330746 : True := trivial
theorem t.tw12033797387551961126 : True := trivial
theorem t.tw4312214170325830029 : True := trivial
theorem t.tw6555389172923364501 : True := trivial
theorem t.tw317401857096222650 : True := trivial
theorem t.tw17585397641814230836 : True := trivial
theorem t.tw6980744517799188787 : True := trivial
theorem t.tw15523858948417019471 : True := trivial
theorem t.tw6341063168425251983 : True := trivial
theorem t.tw6296284081725722684 : True := trivial
theorem t.tw4270260775421162211 : True := trivial
set_option maxHeartbeats 8000000 in
set_option Elab.async true in
theorem t : PySem.Challenge.rw_sz0089_01.Holds := by
  w_on
  o_law
  o_head (kHook Mine.pre.heap_1 as0 as0_eq)
  case hw => w_witness2
  exact walk0 rfl
end Mine
theorem PySem.Challenge.cw_sz0089_01_holds : PySem.Challenge.rw_sz0089_01.Holds :=
  Mine.t
