import PyProof.Rows.All
import Wide.All
import OpenK.AllK
import Wide.FinOn
import PySem.Challenge.RW_xm0029_01
set_option Elab.async false
open PySem PySem.W PyProof.Rows
namespace Mine
set_option maxRecDepth 100000 in
set_option maxHeartbeats 8000000 in
open_top hd for PySem.Challenge.rw_xm0029_01
end Mine
section
open PySem PySem.W PyProof.Rows PySem.Spec PySem.Calls
namespace Mine
open PyProof.Rows.LCg

section
variable {prog : Program} {w : World} {A : Around} {E : Value → Shared → Prop} {s : Shared} {h₀ : Heap} {L : Addr} {m : Str → Option Value} {env : Env}

theorem strIter_st {I : Addr} {c : String} {x : Str} {t : Tok} {h₀ : Heap} {L : Addr} : ∀ i (h h' : Heap) (o : Obj) (nw : List (Addr × Obj)), h.IsStrIter I c x t i → h.get? I = some o → h'.get? I = some o → (∀ b o, h₀.get? b = some o → h'.get? b = some o) → News h₀ L h' nw → True → h'.IsStrIter I c x t i :=
  fun i h h' o nw st e e' _ _ _ => by obtain ⟨o', q, r⟩ := st; rw [e] at q; cases q; exact ⟨o, e', r⟩

def StrSrc (prog : Program) (w : World) (A : Around) (h₀ : Heap) (L : Addr) (m : Str → Option Value) (env : Env) (elt : Expr) (x : Str) (scope : Scope) (cl : List (Str × Addr)) (Q : Value → Shared → Prop) (xv : Value) (s₁ : Shared) : Prop :=
  ∃ y t news, xv = .str y t ∧ A.handled = none ∧ y.cps.all (· < 128) = true ∧ y.cps.size ≤ sizeLine ∧ Fr h₀ L s₁.heap m ∧ News h₀ L s₁.heap news ∧
      ∀ g, CompRest prog w A h₀ L m env elt x scope cl { s₁ with heap := g } (fun _ => True) (SignAt y) (FinE h₀ L m { s₁ with heap := g } Q) y.cps.size 0 [] news
theorem StrSrc.intro {elt : Expr} {x : Str} {scope : Scope} {cl : List (Str × Addr)} {Q : Value → Shared → Prop} {y : Str} {t : Tok} {news : List (Addr × Obj)} {s₁ : Shared}
    (hh : A.handled = none) (ha : y.cps.all (· < 128) = true) (hsz : y.length ≤ 64) (F : Fr h₀ L s₁.heap m) (N : News h₀ L s₁.heap news)
    (h : ∀ g, CompRest prog w A h₀ L m env elt x scope cl { s₁ with heap := g } (fun _ => True) (SignAt y) (FinE h₀ L m { s₁ with heap := g } Q) y.cps.size 0 [] news) :
    StrSrc prog w A h₀ L m env elt x scope cl Q (.str y t) s₁ :=
  ⟨y, t, news, rfl, hh, ha, by rw [PySem.sizeLine_eq]; have : y.cps.size ≤ 64 := hsz; omega, F, N, h⟩

/-- a comprehension over the signs of a text of letters below 128, its element walked with the ledger -/
theorem listComp_str {elt iter : Expr} {x : Str} {px : Pos} {scope : Scope} {cl : List (Str × Addr)} {pos : Pos} {Q : Value → Shared → Prop} (F₀ : Fr h₀ L s.heap m)
    (hclos : closureFor scope env = pure cl) (hcell : ∀ y ∈ scope.names, y.2 ≠ .cell) (hkind : scope.kind = .function)
    (hnames : ∀ y ∈ scope.names, y.2 = .local → scope.names.lookup y.1 = some .local) (hx : scope.names.lookup x = some .local)
    (h : wpAny (model prog w) A (eval iter env) (StrSrc prog w A h₀ L m env elt x scope cl Q) E s)
    (hs : ∀ x, foldedSetIterable iter env x = pure x := by intro _; rfl) :
    wpAny (model prog w) A (eval (.ListComp elt [⟨.Name x px, iter, [], 0⟩] scope pos) env) Q E s := by
  rw [eval_ListComp]
  refine wpAny_comprehension_free (use := none) rfl hs hclos hkind hnames (wpAny_mono h (fun xv s₁ h₁ => ?_) fun _ _ e => e)
  obtain ⟨y, t, news, rfl, hh, ha, hsz, F, N, R⟩ := h₁
  refine wpAny_pyIter_ascii ha ?_
  refine block_U (Walks.strAscii hh s₁.heap.objs.size y t) hsz (fun i h st => by obtain ⟨o, e, _⟩ := st; exact ⟨o, e⟩) strIter_st hcell hkind hx ⟨_, Heap.get?_push_size _ rfl, rfl, rfl⟩ (fun b hb => ?_)
    (F.keeps fun _ _ e => Heap.get?_push_of_some _ e) (N.grown fun _ _ e => Heap.get?_push_of_some _ e) (Nat.ne_of_lt F.ns.lt) (next_is_new F) (fun p hp => Nat.ne_of_lt (Heap.lt_size (N p hp).1)) trivial (R _) ?_
  · rw [List.mem_singleton.mp hb]
    show s₁.heap.objs.size < (s₁.heap.push _).objs.size
    rw [Heap.size_push]; exact Nat.lt_succ_self _
  · intro D C h tk m' ys news' F' N' o1 hn hC₀ hD₀ hCL hDL hCD offC fin
    refine ⟨m', hn, fun h'' hs'' => fin D h'' tk (F'.change hs'' hCL hC₀) (fun p hp => ?_) o1⟩
    refine ⟨hs''.extBut _ _ ?_ (N' p hp).1, (N' p hp).2⟩
    rcases List.mem_cons.mp hp with rfl | hp
    · exact Ne.symm hCD
    · exact offC p hp

variable {elt : Expr} {x : Str} {scope : Scope} {cl : List (Str × Addr)} {S : List (Addr × Obj) → Prop} {Fin : List Value → List (Addr × Obj) → Prop} {news : List (Addr × Obj)}
/-- its turns, one by one: each sign's int -/
theorem rest_signs {y : Str} (g : Nat → Int)
    (turn : ∀ c t I oI C oC D m₂ ys h tk (E' : Value → Shared → Prop), c ∈ y.cps.toList → NsObj oC m₂ → m₂ x = some (.str ⟨#[c]⟩ t) → Fr h₀ L h m → News h₀ L h ((I, oI) :: (C, oC) :: (D, lst ys) :: news) → Off3 I C D news → ((@Ne Nat I C) ∧ (@Ne Nat I D) ∧ (@Ne Nat C D)) →
      wpAny (model prog w) A (eval elt (compEnvC scope cl C env)) (CompEnd h₀ L m { s with heap := h, toks := tk } I oI C oC D (lst ys) S (fun y news' => KCfEl news (g c) y news')) E' { s with heap := h, toks := tk })
    (fin : ∀ ys, IntsAre ys (y.cps.toList.map g) → Fin ys news) : CompRest prog w A h₀ L m env elt x scope cl s S (SignAt y) Fin y.cps.size 0 [] news := by
  have key : ∀ (j i : Nat) (ys : List Value), i + j = y.cps.size → IntsAre ys ((y.cps.toList.take i).map g) → CompRest prog w A h₀ L m env elt x scope cl s S (SignAt y) Fin j i ys news := by
    intro j
    induction j with
    | zero =>
      intro i ys hi hy
      have e : i = y.cps.toList.length := by simpa using hi
      subst e
      rw [List.take_length] at hy
      exact CompRest.zero (fin ys hy)
    | succ j ih =>
      intro i ys hi hy
      refine CompRest.succ ?_
      intro v I oI C oC D m₂ h tk E' hv hC hx F N off ne
      obtain ⟨c, u, hc, rfl⟩ := hv
      have hc' : y.cps.toList[i]? = some c := by simpa using hc
      refine wpAny_mono (turn c u I oI C oC D m₂ ys h tk E' (List.mem_of_getElem? hc') hC hx F N off ne) (fun z s₂ hq => ?_) fun _ _ e => e
      obtain ⟨h', tk', nw, e, F', N', off', hS, hn, t', hy'⟩ := hq
      rw [hn] at N' off' hS
      refine ⟨h', tk', news, e, F', N', off', hS, ?_⟩
      rw [hy']
      refine ih (i + 1) _ (by omega) ?_
      rw [List.take_add_one, hc']
      simpa using IntsAre.append hy (.cons (g c) t' .nil)
  exact key y.cps.size 0 [] (by omega) (by simp only [List.take_zero, List.map_nil]; exact .nil)
end
end Mine
end
section
open PySem PySem.W PyProof.Rows PySem.Spec PySem.Calls
namespace Mine

abbrev Led := List (Addr × Obj)
/-- the end of a turn that goes on -/
def TurnEnd (h₀ : Heap) (L : Addr) (J : (Str → Option Value) → Led → Prop) (own : Led) (adr : List Addr) (s₁ s₂ : Shared) : Prop :=
  ∃ h' tk m' led, s₂ = { s₁ with heap := h', toks := tk } ∧ Fr h₀ L h' m' ∧ News h₀ L h' (led ++ own) ∧ led.map (·.1) = adr ∧ J m' led
def TurnPost (h₀ : Heap) (L : Addr) (J : (Str → Option Value) → Led → Prop) (own : Led) (adr : List Addr) (s₁ : Shared) (Q : Flow → Shared → Prop) (f : Flow) (s₂ : Shared) : Prop :=
  match f with
  | .ret v => Q (.ret v) s₂
  | .brk => Q .next s₂
  | _ => TurnEnd h₀ L J own adr s₁ s₂
theorem TurnEnd.intro {h₀ : Heap} {L : Addr} {J : (Str → Option Value) → Led → Prop} {own : Led} {adr : List Addr} {s₁ : Shared} {h' : Heap} {tk : Nat} {m' : Str → Option Value} {led : Led}
    (F : Fr h₀ L h' m') (N : News h₀ L h' (led ++ own)) (ha : led.map (·.1) = adr) (hj : J m' led) : TurnEnd h₀ L J own adr s₁ { s₁ with heap := h', toks := tk } := ⟨h', tk, m', led, rfl, F, N, ha, hj⟩
theorem OwnOff.app {a b : Led} {adr : List Addr} (h : OwnOff a adr) (k : OwnOff b adr) : OwnOff (a ++ b) adr := fun p hp c hc => (List.mem_append.mp hp).elim (fun q => h p q c hc) fun q => k p q c hc
theorem OwnOff.sub {a : Led} {adr adr' : List Addr} (h : OwnOff a adr) (k : ∀ c ∈ adr', c ∈ adr) : OwnOff a adr' := fun p hp c hc => h p hp c (k c hc)
theorem OwnOff.of {a b : Led} {adr : List Addr} (h : OwnOff a adr) (k : ∀ p ∈ b, p ∈ a) : OwnOff b adr := fun p hp => h p (k p hp)

theorem off1_own {l : Addr} {own : Led} (h : LCg.Off1 l own) : OwnOff own [l] := by
  induction own with
  | nil => exact fun _ hp => nomatch hp
  | cons q r ih =>
    intro p hp b hb
    rw [List.mem_singleton.mp hb]
    rcases List.mem_cons.mp hp with rfl | hp
    · exact h.1
    · exact ih h.2 p hp l (List.mem_singleton.mpr rfl)
theorem off_cons {l : Addr} {own : Led} {adr : List Addr} (h : LCg.Off1 l own) (k : OwnOff own adr) : OwnOff own (l :: adr) := fun p hp b hb => by
  rcases List.mem_cons.mp hb with rfl | hb
  · exact off1_own h p hp b (List.mem_singleton.mpr rfl)
  · exact k p hp b hb
theorem off2 {own : Led} {a b : Addr} (h1 : ∀ p ∈ own, p.1 ≠ a) (h2 : ∀ p ∈ own, p.1 ≠ b) : OwnOff own [a, b] := fun p hp c hc => by
  rcases List.mem_cons.mp hc with rfl | hc
  · exact h1 p hp
  · rw [List.mem_singleton.mp hc]; exact h2 p hp
theorem off3 {own : Led} {a b c : Addr} (h1 : ∀ p ∈ own, p.1 ≠ a) (h2 : ∀ p ∈ own, p.1 ≠ b) (h3 : ∀ p ∈ own, p.1 ≠ c) : OwnOff own [a, b, c] := fun p hp d hd => by
  rcases List.mem_cons.mp hd with rfl | hd
  · exact h1 p hp
  · exact off2 h2 h3 p hp d hd
theorem off4 {own : Led} {a b c d : Addr} (h1 : ∀ p ∈ own, p.1 ≠ a) (h2 : ∀ p ∈ own, p.1 ≠ b) (h3 : ∀ p ∈ own, p.1 ≠ c) (h4 : ∀ p ∈ own, p.1 ≠ d) : OwnOff own [a, b, c, d] := fun p hp x hx => by
  rcases List.mem_cons.mp hx with rfl | hx
  · exact h1 p hp
  · exact off3 h2 h3 h4 p hp x hx

section
variable {prog : Program} {w : World} {A : Around} {E : Value → Shared → Prop} {s : Shared} {env : Env} {h₀ : Heap} {x : Str} {body : List Stmt} {Q : Flow → Shared → Prop}

theorem range_turns {r : Addr} {a₀ b₀ : Int} {t₀ u₀ v₀ : Tok} {n : Nat} {m₀ : Str → Option Value} {led own₀ : Led}
    (J : Nat → (Str → Option Value) → Led → Prop)
    (hh : A.handled = none) (hr : IsRange s.heap r a₀ b₀ 1 t₀ u₀ v₀) (hsmall : Builtin.Range.small a₀ b₀ 1 = true) (hn : Builtin.Range.rangeSize a₀ b₀ 1 = (n : Int)) (F : Fr h₀ env.locals s.heap m₀) (N : News h₀ env.locals s.heap (led ++ own₀))
    (O : OwnOff own₀ (led.map (·.1))) (hJ : J 0 m₀ led)
    (turn : ∀ i t m₁ led₁ h tk own, i < n → led₁.map (·.1) = led.map (·.1) → OwnOff own (led.map (·.1)) → (∀ p ∈ own₀, p ∈ own) → J i m₁ led₁ → Fr h₀ env.locals h (fun y => if y = x then some (.int (a₀ + (i : Int)) t) else m₁ y) → News h₀ env.locals h (led₁ ++ own) →
      wpAny (model prog w) A (execs body env) (TurnPost h₀ env.locals (J (i + 1)) own (led.map (·.1)) { s with heap := h, toks := tk } Q) E { s with heap := h, toks := tk })
    (done : ∀ m₁ led₁ h tk, led₁.map (·.1) = led.map (·.1) → J n m₁ led₁ → Fr h₀ env.locals h m₁ → News h₀ env.locals h (led₁ ++ own₀) → Q .next { s with heap := h, toks := tk }) :
    wpAny (model prog w) A (pyIter (.ref r)) (fun it s₂ => LoopAtV prog w A h₀ env x body Q E it s₂) E s := by
  refine wpAny_pyIter_range hr hsmall ?_
  have W : Walks prog w A s.heap.objs.size [s.heap.objs.size] [s.heap.objs.size] n (fun i v => i < n ∧ ∃ t, v = .int (a₀ + i * 1) t)
      (fun i h => IsRangeIter h s.heap.objs.size (a₀ + (i : Nat) * 1) ((n : Int) - (i : Nat)) 1) := (Walks.range hh _ a₀ 1 n).bound
  refine loop_invN (fun i m nx => ∃ led₁, nx = led₁ ++ own₀ ∧ led₁.map (·.1) = led.map (·.1) ∧ J i m led₁) W ?_ ?_ ?_ ?_ (by show IsRangeIter _ _ _ _ _; rw [hn]; simpa using Heap.get?_push_size _ rfl) (F.push _) (fun p hp => ⟨Heap.get?_push_of_some _ (N p hp).1, (N p hp).2⟩) ⟨led, rfl, rfl, hJ⟩ ?_ ?_
  · intro hm
    exact absurd F.ns.lt ((List.mem_singleton.mp hm) ▸ Nat.lt_irrefl _)
  · intro b hb
    rw [List.mem_singleton.mp hb]
    exact next_is_new F
  · intro p hp hI
    exact absurd (Heap.lt_size (N p hp).1) ((List.mem_singleton.mp hI) ▸ Nat.lt_irrefl _)
  · intro p hp hI
    exact absurd (Heap.lt_size (N p hp).1) ((List.mem_singleton.mp hI) ▸ Nat.lt_irrefl _)
  · rintro i v m₁ news₁ h tk own hi ⟨_, t, rfl⟩ _ hsep ⟨led₁, rfl, ha, hj⟩ F₁ N₁
    rw [Int.mul_one] at F₁
    have hs1 : OwnOff own (led.map (·.1)) := OwnOff.sub hsep fun c hc => by rw [List.map_append]; exact List.mem_append.mpr (.inl hc)
    refine wpAny_mono (turn i t m₁ led₁ h tk (own₀ ++ own) hi ha (OwnOff.app O hs1) (fun p hp => List.mem_append.mpr (.inl hp)) hj F₁ (by rw [← List.append_assoc]; exact N₁)) (fun f s₂ p => ?_) fun _ _ e => e
    have fin : TurnEnd h₀ env.locals (J (i + 1)) (own₀ ++ own) (led.map (·.1)) { s with heap := h, toks := tk } s₂ → InvEndN h₀ env.locals (fun m nx => ∃ led₁, nx = led₁ ++ own₀ ∧ led₁.map (·.1) = led.map (·.1) ∧ J (i + 1) m led₁) own ((led ++ own₀).map (·.1)) { s with heap := h, toks := tk } s₂ := by
      rintro ⟨h', tk', m', led', e, F', N', ha', hj'⟩
      refine ⟨h', tk', m', led' ++ (own₀ ++ own), led' ++ own₀, e, F', N', fun p hp => ?_, fun p hp => ?_, by rw [List.map_append, List.map_append, ha'], led', rfl, ha', hj'⟩
      · rw [← List.append_assoc]; exact List.mem_append.mpr (.inl hp)
      · rw [← List.append_assoc]; exact List.mem_append.mpr (.inr hp)
    cases f with
    | ret v => exact p
    | brk => exact p
    | next => exact fin p
    | cont => exact fin p
  · rintro m₁ news₁ h tk ⟨led₁, rfl, ha, hj⟩ F₁ N₁
    exact done m₁ led₁ h tk ha hj F₁ N₁
end

section
variable {prog : Program} {w : World} {A : Around} {E : Value → Shared → Prop} {s : Shared} {h₀ : Heap} {L : Addr} {m : Str → Option Value} {news : Led}
/-- enumerate over a list of ints that the ledger holds -/
theorem enum_led {q : Addr} {vs : List Value} {ns : List Int} {e2 : Nat} {Q : Value → Shared → Prop} (hh : A.handled = none) (hi : IntsAre vs ns)
    (F : Fr h₀ L s.heap m) (N : News h₀ L s.heap news) (hq : News h₀ L s.heap [(q, listOf vs.toArray e2)]) (off : ∀ p ∈ news, p.1 ≠ q)
    (h : ∀ h' e, Fr h₀ L h' m → News h₀ L h' news → PairSrcL prog w A E h₀ L ItemKind.int ns (.ref e) { s with heap := h' } m news → Q (.ref e) { s with heap := h' }) :
    wpAny (model prog w) A (call (.type "enumerate") [.ref q]) Q E s := by
  have hq' := hq _ (List.mem_singleton.mpr rfl)
  have hls : s.heap.IsList q vs.toArray := ⟨_, hq'.1, rfl, _, rfl⟩
  have hLs : L < s.heap.objs.size := F.ns.lt
  have hqs : q < s.heap.objs.size := Heap.lt_size hq'.1
  have hab : h₀.objs.size ≤ L := F.above
  refine call_enumerate_list hls fun h' he hit hsz hk => ?_
  have F' : Fr h₀ L h' m := ⟨F.ns.keeps hk, fun b o e => hk b o (F.keep b o e), F.above⟩
  have N' : News h₀ L h' news := fun p hp => ⟨hk _ _ (N p hp).1, (N p hp).2⟩
  refine h h' _ F' N' fun env hL => ?_
  subst hL
  have hi' := IntsAre.areOf hi
  refine enumSrc (Draws.list (A := A.in1) hh s.heap.objs.size q (Nat.ne_of_lt hqs) vs.toArray) he ⟨hit, hls.at fun o e => hk q o e⟩ (Nat.succ_ne_self _) ?_ (by simp) ?_
    (Heap.get?_none_of_le (Nat.le_trans hab (Nat.le_of_lt (Nat.lt_succ_of_lt hLs)))) (Heap.get?_none_of_le (Nat.le_trans hab (Nat.le_of_lt hLs))) ?_ (by simp [hi'.length]) (fun i x hx => hi'.get i x (by simpa using hx)) F' N'
  · intro hm
    rcases List.mem_cons.mp hm with e | hm
    · exact Nat.succ_ne_self _ e
    · exact Nat.ne_of_gt (Nat.lt_succ_of_lt hqs) (List.mem_singleton.mp hm)
  · intro hm
    rcases List.mem_cons.mp hm with e | hm
    · exact Nat.ne_of_lt (Nat.lt_succ_of_lt hLs) e
    · rcases List.mem_cons.mp hm with e | hm
      · exact Nat.ne_of_lt hLs e
      · exact hq'.2.1 (List.mem_singleton.mp hm).symm
  · intro b hb p hp e
    have hq1 : p.1 < s.heap.objs.size := Heap.lt_size (N p hp).1
    rcases List.mem_cons.mp hb with e1 | hb
    · exact Nat.ne_of_gt (Nat.lt_succ_of_lt hq1) (e1.symm.trans e)
    · rcases List.mem_cons.mp hb with e1 | hb
      · exact Nat.ne_of_gt hq1 (e1.symm.trans e)
      · exact off p hp (by rw [← e, List.mem_singleton.mp hb])

theorem bind2 {xi xc : Str} {v0 v1 : Value} {m₁ m : Str → Option Value} (e : ∀ y, y ≠ xi → y ≠ xc → m₁ y = m y) :
    (fun y => if y = xc then some v1 else if y = xi then some v0 else m₁ y) = fun y => if y = xc then some v1 else if y = xi then some v0 else m y := by
  funext y
  by_cases h1 : y = xc
  · simp [h1]
  · by_cases h2 : y = xi
    · simp [h1, h2]
    · simp [h1, h2, e y h2 h1]

/-- the turns of «for i, k in enumerate(list of ints)», their state in the ledger alone -/
theorem enum_turns {env : Env} {ns : List Int} {xi xc : Str} {body : List Stmt} {Q : Flow → Shared → Prop} {xv : Value} {led own₀ : Led} (J : Nat → Led → Prop)
    (S : PairSrcL prog w A E h₀ L ItemKind.int ns xv s m (led ++ own₀)) (hL : env.locals = L) (O : OwnOff own₀ (led.map (·.1))) (hJ : J 0 led)
    (turn : ∀ (i : Nat) k t tv led₁ h tk own, ns[i]? = some k → i < ns.length → led₁.map (·.1) = led.map (·.1) → OwnOff own (led.map (·.1)) → J i led₁ →
      Fr h₀ L h (fun y => if y = xc then some (.int k tv) else if y = xi then some (.int i t) else m y) → News h₀ L h (led₁ ++ own) →
      wpAny (model prog w) A (execs body env) (TurnPost h₀ L (fun m' nx => (∀ y, y ≠ xi → y ≠ xc → m' y = m y) ∧ J (i + 1) nx) own (led.map (·.1)) { s with heap := h, toks := tk } Q) E { s with heap := h, toks := tk })
    (done : ∀ m₁ led₁ h tk, J ns.length led₁ → Fr h₀ L h m₁ → News h₀ L h (led₁ ++ own₀) → Q .next { s with heap := h, toks := tk }) :
    wpAny (model prog w) A (pyIter xv) (fun it s₂ => PairAt3 prog w A h₀ env xi xc body Q E it s₂) E s := by
  subst hL
  refine S env rfl xi xc body Q (fun i m₁ nx => (∀ y, y ≠ xi → y ≠ xc → m₁ y = m y) ∧ ∃ led₁, nx = led₁ ++ own₀ ∧ led₁.map (·.1) = led.map (·.1) ∧ J i led₁) ⟨fun _ _ _ => rfl, led, rfl, rfl, hJ⟩ ?_ ?_
  · rintro i k t v m₁ news₁ s₁ own ⟨h, tk, rfl⟩ hk hv ⟨hm, led₁, rfl, ha, hj⟩ _ hsep F₁ N₁
    obtain ⟨tv, rfl⟩ := ItemKind.int_is hv
    rw [bind2 hm] at F₁
    have hs1 : OwnOff own (led.map (·.1)) := fun p hp c hc => by
      obtain ⟨q, hq, rfl⟩ := List.mem_map.mp hc
      exact hsep p hp q (List.mem_append.mpr (.inl hq))
    have hi : i < ns.length := by
      rcases Nat.lt_or_ge i ns.length with h | h
      · exact h
      · rw [List.getElem?_eq_none h] at hk; cases hk
    refine wpAny_mono (turn i k t tv led₁ h tk (own₀ ++ own) hk hi ha (OwnOff.app O hs1) hj F₁ (fun p hp => N₁ p ?_)) (fun f s₂ p => ?_) fun _ _ e => e
    · rcases List.mem_append.mp hp with hp | hp
      · exact List.mem_append.mpr (.inr (List.mem_append.mpr (.inl hp)))
      · rcases List.mem_append.mp hp with hp | hp
        · exact List.mem_append.mpr (.inr (List.mem_append.mpr (.inr hp)))
        · exact List.mem_append.mpr (.inl hp)
    have fin : TurnEnd h₀ env.locals (fun m' nx => (∀ y, y ≠ xi → y ≠ xc → m' y = m y) ∧ J (i + 1) nx) (own₀ ++ own) (led.map (·.1)) { s with heap := h, toks := tk } s₂ →
        LoopStep2 h₀ env.locals own (led₁ ++ own₀) (fun m₁ nx => (∀ y, y ≠ xi → y ≠ xc → m₁ y = m y) ∧ ∃ led₁, nx = led₁ ++ own₀ ∧ led₁.map (·.1) = led.map (·.1) ∧ J (i + 1) led₁) { s with heap := h, toks := tk } .next s₂ := by
      rintro ⟨h', tk', m', led', e, F', N', ha', hm', hj'⟩
      refine ⟨rfl, h', tk', m', led' ++ own₀, e, F', fun p hp => N' p ?_, by rw [List.map_append, List.map_append, ha', ha], hm', led', rfl, ha', hj'⟩
      rcases List.mem_append.mp hp with hp | hp
      · exact List.mem_append.mpr (.inr (List.mem_append.mpr (.inr hp)))
      · rcases List.mem_append.mp hp with hp | hp
        · exact List.mem_append.mpr (.inl hp)
        · exact List.mem_append.mpr (.inr (List.mem_append.mpr (.inl hp)))
    cases f with
    | ret v => exact p
    | brk => exact p
    | next => exact fin p
    | cont => exact fin p
  · rintro h' tk m' news' F' N' _ ⟨_, led₁, rfl, _, hj⟩
    exact done m' led₁ h' tk hj F' N'
end
end Mine
end
section
open PySem PySem.W PyProof.Rows PySem.Spec PySem.Calls
namespace Mine
/-- the text of a list of octets -/
def txt (ks : List Int) : Str := ⟨(ks.map Int.toNat).toArray⟩
def one (k : Int) : Str := ⟨#[k.toNat]⟩
theorem txt_cps (ks : List Int) : (txt ks).cps.toList = ks.map Int.toNat := by simp [txt]
theorem txt_length (ks : List Int) : (txt ks).length = ks.length := by simp [txt, Str.length]
theorem str_ext {a b : Str} (h : a.cps.toList = b.cps.toList) : a = b := by
  cases a; cases b; exact congrArg Str.mk (Array.toList_inj.mp h)
theorem join_one : ∀ ks : List Int, Str.join (Str.ofString "") (ks.map one) = txt ks
  | [] => rfl
  | [a] => rfl
  | a :: b :: r => by
    show one a ++ Str.ofString "" ++ Str.join (Str.ofString "") ((b :: r).map one) = _
    rw [join_one (b :: r)]
    refine str_ext ?_
    rw [Str.cps_append, Str.cps_append, Array.toList_append, Array.toList_append, txt_cps, txt_cps]
    rfl
theorem signs_txt (ks : List Int) : signs (txt ks) = ks.map one := by
  unfold signs
  rw [txt_cps, List.map_map]
  rfl
theorem StrsAre.ofItems {x : Str} {acc : Array Value} (h : ItemsOf (SignAt x) acc x.cps.size) : StrsAre acc.toList (signs x) := by
  have e : acc.toList.map strOf = signs x := by
    refine List.ext_getElem? fun i => ?_
    rw [List.getElem?_map]
    cases hv : acc.toList[i]? with
    | none =>
      have : acc.size ≤ i := by simpa using List.getElem?_eq_none_iff.mp hv
      rw [h.1] at this
      rw [List.getElem?_eq_none (by simpa [signs] using this)]; rfl
    | some v =>
      obtain ⟨c, u, hc, rfl⟩ := h.2 i v (by simpa using hv)
      have : (signs x)[i]? = some ⟨#[c]⟩ := by simp [signs, hc]
      rw [this]; rfl
  rw [← e]
  refine strsAre_map _ fun v hv => ?_
  obtain ⟨i, hi⟩ := List.getElem?_of_mem hv
  obtain ⟨c, u, _, rfl⟩ := h.2 i v (by simpa using hi)
  exact ⟨_, _, rfl⟩
theorem sorted_le : ∀ (l : List Str) (p : Str), risingS p l = true → (p :: l).Pairwise fun a b => a.cps.toList ≤ b.cps.toList
  | [], p, _ => List.pairwise_singleton _ _
  | x :: r, p, h => by
    have h' : (!ltCps x.cps.toList p.cps.toList && risingS x r) = true := h
    rw [Bool.and_eq_true, ltCps_eq, Bool.not_eq_true', decide_eq_false_iff_not, List.not_lt] at h'
    have ih := sorted_le r x h'.2
    refine List.pairwise_cons.mpr ⟨fun b hb => ?_, ih⟩
    rcases List.mem_cons.mp hb with rfl | hb
    · exact h'.1
    · exact List.le_trans h'.1 ((List.pairwise_cons.mp ih).1 b hb)
theorem sorted_same {a b c d : List Str} (pa : a.Perm c) (pb : b.Perm d) (pc : c.Perm d) (sa : sortedS a = true) (sb : sortedS b = true) : a = b := by
  have key : ∀ l : List Str, sortedS l = true → l.Pairwise fun a b => a.cps.toList ≤ b.cps.toList := by
    intro l hl
    cases l with
    | nil => exact .nil
    | cons x r => exact sorted_le r x hl
  exact List.Perm.eq_of_pairwise (fun x y _ _ h1 h2 => str_ext (List.le_antisymm h1 h2)) (key a sa) (key b sb) (pa.trans (pc.trans pb.symm))

section
variable {prog : Program} {w : World} {A : Around} {E : Value → Shared → Prop} {s : Shared} {h₀ : Heap} {L : Addr} {m : Str → Option Value} {news : Led} {Q : Value → Shared → Prop}
/-- sorted of a text -/
theorem sorted_text {x : Str} {t : Tok} (hh : A.handled = none) (F : Fr h₀ L s.heap m) (N : News h₀ L s.heap news) (h64 : x.length < 64)
    (h : ∀ (D : Addr) (h' : Heap) (tk : Nat) (vs' : List Value) (ss' : List Str) (e : Nat), Fr h₀ L h' m → News h₀ L h' ((D, listOf vs'.toArray e) :: news) → (∀ q ∈ news, q.1 < D) →
      StrsAre vs' ss' → ss'.Perm (signs x) → sortedS ss' = true → Q (.ref D) { s with heap := h', toks := tk }) :
    wpAny (model prog w) A (call (.builtin "sorted") [.str x t]) Q E s := by
  refine call_function_entry kind_sorted plain_sorted entry_sorted (args_sorted1 _) ?_
  unfold Builtin.«sorted»
  refine wpAny_bind (m := checkCount "sorted" 1 1 _) (wpAny_pure ?_)
  have hsz : x.cps.size < 64 := h64
  refine wpAny_bind (wpAny_collect_str (A := A.in1) hh x t (fun s' acc hk hg hd ho hacc => ?_) (by rw [sizeLine_eq]; omega))
  obtain ⟨hp', g', dr', tk', os'⟩ := s'
  cases hg; cases hd; cases ho
  have hS := StrsAre.ofItems hacc
  have hlen : acc.toList.length < 64 := by simpa [hacc.1] using hsz
  refine wpAny_bind (wpAny_newList ?_ (by rw [sizeLine_eq]; omega))
  have F1 : Fr h₀ L hp' m := F.kept hk
  have N1 : News h₀ L hp' news := N.grown hk
  have hoL : (hp'.push (seqObj "list" acc.toList.toArray 0)).get? hp'.objs.size = some (seqObj "list" acc.toList.toArray 0) := Heap.get?_push_size _ rfl
  have F2 := F1.kept (h' := hp'.push (seqObj "list" acc.toList.toArray 0)) fun b o e => Heap.get?_push_of_some _ e
  have N2 := N1.grown (h' := hp'.push (seqObj "list" acc.toList.toArray 0)) fun b o e => Heap.get?_push_of_some _ e
  refine wpAny_bind (wpAny_holding (wpAny_call_entry slot_list_sort ⟨_, hoL, rfl⟩ entry_list_sort (list_sort_treeK strKind_oneLt hoL hS.keysOf (fun v₁ v₂ rest e => keyKind_strs (by rw [← e]; exact hS)) hlen fun st' a1 a2 => ⟨_, rfl, ?_⟩) (args_list_sort _)))
  obtain ⟨ss', h1, h2, h3⟩ := sorted_out_str hS a1 a2
  have old : ∀ b o, hp'.get? b = some o → (sortedHeap (hp'.push (seqObj "list" acc.toList.toArray 0)) hp'.objs.size acc.toList ((arrOf st').map (·.2))).get? b = some o := fun b o e => by
    have hlt := Heap.lt_size e
    rw [sortedHeap_old (Nat.ne_of_lt hlt) (by rw [size_push']; exact Nat.lt_succ_of_lt hlt)]
    exact Heap.get?_push_of_some _ e
  obtain ⟨e, he⟩ := sortedHeap_at (vs := acc.toList) (out := (arrOf st').map (·.2)) hoL
  refine wpAny_pure ⟨_, rfl, h _ _ _ (((arrOf st').map (·.2)).toList) ss' e (F1.kept old) (N1.kept_cons F1 old (Nat.le_refl _) (by rw [he])) (fun q hq => Heap.lt_size (N1 q hq).1) h1 h2 h3⟩

theorem canLayAll_strs (ss : List Str) (h : ss.all PyData.strOk = true) : SeqAt.shaped (.list (ss.map PyData.str)) = true := by
  simp [SeqAt.shaped, PyData.canLay0, PyData.depth, canLayAll_strs', depthAll_strs', h]
theorem sameAll_strs : ∀ ss : List Str, PySem.Spec.sameAll (ss.map PyData.str) (ss.map PyData.str) = true
  | [] => by simp [PySem.Spec.sameAll]
  | a :: r => by simp [PySem.Spec.sameAll, PySem.Spec.same, sameAll_strs r]
/-- two lists of the same texts are not unequal -/
theorem ne_strs {a b : Addr} {xs ys : List Value} {ss : List Str} (ha : s.heap.IsList a xs.toArray) (hb : s.heap.IsList b ys.toArray) (hi : StrsAre xs ss) (hj : StrsAre ys ss) (hok : ss.all PyData.strOk = true) (hu : A.units + 64 < cLine) (h : Q (.bool false) s) :
    wpAny (model prog w) A (compareOp .NotEq (.ref a) (.ref b)) Q E s :=
  ne_dataH_same (reads_newData ha hi.carried) (reads_newData hb hj.carried) (canLayAll_strs _ hok) (canLayAll_strs _ hok) hu (SeqAt.noMix_of_shape (.list .str) rfl _ _ (list_map_has fun _ => rfl) (list_map_has fun _ => rfl))
    (by rw [show PySem.Spec.same (.list (ss.map PyData.str)) (.list (ss.map PyData.str)) = true by simp only [PySem.Spec.same]; exact sameAll_strs ss]; exact h)
theorem charAt_txt {ks : List Int} {i : Int} (h0 : 0 ≤ i) (h1 : i < ks.length) : Txt.item (txt ks) i = one (ks.getD i.toNat 0) := by
  obtain ⟨j, rfl⟩ := Int.eq_ofNat_of_zero_le h0
  have hj : j < ks.length := by omega
  have e : (txt ks).cps[j]? = some (ks.getD j 0).toNat := by
    simp [txt, List.getD, hj]
  have hl : (txt ks).length = ks.length := txt_length ks
  have es : seqIndex? (j : Int) (txt ks).length = some j := by
    unfold seqIndex?
    have e0 : ¬ (j : Int) < 0 := by omega
    simp [hl, e0, hj]
  unfold Txt.item Txt.charAt
  rw [es, Option.bind_some, e]
  rfl
/-- a sign of a text of octets -/
theorem item_txt {value slice : PySem.Expr} {ks : List Int} {i : Int} {t u : Tok} (h0 : 0 ≤ i) (h1 : i < ks.length) (hn : ks.length ≤ 64) (h : Q (.str (one (ks.getD i.toNat 0)) s.toks) { s with toks := s.toks + 1 })
    (hs : subscripted slice false (.str (txt ks) t) (.int i u) = operate [.str (txt ks) t, .int i u] (getItem (.str (txt ks) t) (.int i u)) := by with_unfolding_all rfl)
    (ht : ∀ r, letTemporaryGo value (.str (txt ks) t) r = pure () := by intro _; with_unfolding_all rfl) :
    wpAny (model prog w) A (subscriptTail value slice (.str (txt ks) t) (.int i u)) Q E s :=
  KXi.item (n := ks.length) (txt_length ks) (by omega) h1 (by omega) (fun _ => by rw [charAt_txt h0 h1]; exact h) hs ht
/-- join of one-sign texts -/
theorem join_txt {D : Addr} {ys : List Value} {ks : List Int} {t : Tok} (hl : s.heap.IsList D ys.toArray) (hc : CarriedAll ys (ks.map fun k => PyData.str (one k))) (hn : ks.length ≤ 1048576)
    (h : ∀ t' k, Q (.str (txt ks) t') { s with toks := k }) : wpAny (model prog w) A (call (.builtin "str.join") [.str (Str.ofString "") t, .ref D]) Q E s :=
  KT.join_1 hl hc (fun _ _ => rfl) hn fun t' k _ => by
    have e : Txt.join (Str.ofString "") (ks.map one) = txt ks := (StrLaws.glued_eq_join _ _).trans (join_one ks)
    rw [e]; exact h t' k
end
end Mine
end
section
open PySem PySem.W PyProof.Rows PySem.Spec PySem.Calls
namespace Mine
theorem news_tail {h₀ h : Heap} {L : Addr} {x : Addr × Obj} {r : Led} (N : News h₀ L h (x :: r)) : News h₀ L h r := fun p hp => N p (List.mem_cons_of_mem _ hp)
theorem news_sub {h₀ h : Heap} {L : Addr} {a r q : Led} (N : News h₀ L h (a ++ r)) (hs : ∀ p ∈ q, p ∈ r) : News h₀ L h (a ++ q) := fun p hp => N p ((List.mem_append.mp hp).elim (fun h => List.mem_append.mpr (.inl h)) fun h => List.mem_append.mpr (.inr (hs p h)))
theorem news_sub6 {h₀ h : Heap} {L : Addr} {a b c d e f : Addr × Obj} {r q : Led} (N : News h₀ L h (a :: b :: c :: d :: e :: f :: r)) (hs : ∀ p ∈ q, p ∈ r) : News h₀ L h (a :: b :: c :: d :: e :: f :: q) := news_sub (a := [a, b, c, d, e, f]) N hs
theorem news_rot3 {h₀ h : Heap} {L : Addr} {i c d b s : Addr × Obj} {r : Led} (N : News h₀ L h (i :: c :: d :: b :: s :: r)) : News h₀ L h (b :: s :: i :: c :: d :: r) := fun p hp => N p (by
  simp only [List.mem_cons] at hp ⊢
  rcases hp with h | h | h | h | h | h <;> simp [h])
section
variable {σ : Type} {h₀ : Heap} {L : Addr}
/-- a turn's end over a state of one's own -/
def RgEnd (h₀ : Heap) (L : Addr) (Ld : σ → Led) (ps : σ → List (Str × Value)) (stored : List Str) (m₀ : Str → Option Value) (P : σ → Prop) (own : Led) (s₁ s₂ : Shared) : Prop :=
  ∃ c' h' tk m', s₂ = { s₁ with heap := h', toks := tk } ∧ Fr h₀ L h' m' ∧ News h₀ L h' (Ld c' ++ own) ∧ (∀ p ∈ ps c', m' p.1 = some p.2) ∧ (∀ z, (∀ p ∈ ps c', z ≠ p.1) → stored.contains z = false → m' z = m₀ z) ∧ P c'
def RgPost (h₀ : Heap) (L : Addr) (Ld : σ → Led) (ps : σ → List (Str × Value)) (stored : List Str) (m₀ : Str → Option Value) (P : σ → Prop) (own : Led) (s₁ : Shared) (Q : Flow → Shared → Prop) (f : Flow) (s₂ : Shared) : Prop :=
  match f with
  | .ret v => Q (.ret v) s₂
  | .brk => Q .next s₂
  | _ => RgEnd h₀ L Ld ps stored m₀ P own s₁ s₂
theorem rg_end {Ld : σ → Led} {ps : σ → List (Str × Value)} {stored : List Str} {m₀ m' : Str → Option Value} {P : σ → Prop} {own : Led} {s₁ : Shared} {h' : Heap} {tk : Nat} (c' : σ)
    (F : Fr h₀ L h' m') (N : News h₀ L h' (Ld c' ++ own)) (hk : ∀ p ∈ ps c', m' p.1 = some p.2) (hr : ∀ z, (∀ p ∈ ps c', z ≠ p.1) → stored.contains z = false → m' z = m₀ z) (hp : P c') :
    RgEnd h₀ L Ld ps stored m₀ P own s₁ { s₁ with heap := h', toks := tk } := ⟨c', h', tk, m', rfl, F, N, hk, hr, hp⟩
theorem kst_form {ps : List (Str × Value)} {stored : List Str} {m₀ m₁ : Str → Option Value} (h1 : ∀ p ∈ ps, m₁ p.1 = some p.2) (h2 : ∀ z, (∀ p ∈ ps, z ≠ p.1) → stored.contains z = false → m₁ z = m₀ z) :
    kstB (fun z => if stored.contains z then m₁ z else m₀ z) ps = m₁ := by
  refine funext fun y => kstB_eq h1 fun hn => ?_
  by_cases h3 : stored.contains y = true
  · simp only [h3, if_true]
  · simp only [h3, if_false]
    exact (h2 y hn (by simpa using h3)).symm
end
section
variable {prog : Program} {w : World} {A : Around} {E : Value → Shared → Prop} {s : Shared} {env : Env} {h₀ : Heap} {x : Str} {body : List Stmt} {Q : Flow → Shared → Prop} {σ : Type}
theorem range_st {r : Addr} {a₀ b₀ : Int} {t₀ u₀ v₀ : Tok} {n : Nat} {m₀ : Str → Option Value} {own₀ : Led} (Ld : σ → Led) (ps : σ → List (Str × Value)) (stored : List Str) (P : Nat → σ → Prop) (c₀ : σ)
    (hh : A.handled = none) (hr : IsRange s.heap r a₀ b₀ 1 t₀ u₀ v₀) (hsmall : Builtin.Range.small a₀ b₀ 1 = true) (hn : Builtin.Range.rangeSize a₀ b₀ 1 = (n : Int)) (F : Fr h₀ env.locals s.heap m₀) (N : News h₀ env.locals s.heap (Ld c₀ ++ own₀))
    (O : OwnOff own₀ ((Ld c₀).map (·.1))) (hadr : ∀ c, (Ld c).map (·.1) = (Ld c₀).map (·.1)) (hk : ∀ p ∈ ps c₀, m₀ p.1 = some p.2) (hP : P 0 c₀)
    (turn : ∀ i t c (u : Str → Option Value) h tk own, i < n → P i c → OwnOff own ((Ld c₀).map (·.1)) → (∀ p ∈ own₀, p ∈ own) → Fr h₀ env.locals h (fun y => if y = x then some (.int (a₀ + (i : Int)) t) else kstB (fun z => if stored.contains z then u z else m₀ z) (ps c) y) → News h₀ env.locals h (Ld c ++ own) →
      wpAny (model prog w) A (execs body env) (RgPost h₀ env.locals Ld ps stored m₀ (P (i + 1)) own { s with heap := h, toks := tk } Q) E { s with heap := h, toks := tk })
    (done : ∀ c (u : Str → Option Value) h tk, P n c → Fr h₀ env.locals h (kstB (fun z => if stored.contains z then u z else m₀ z) (ps c)) → News h₀ env.locals h (Ld c ++ own₀) → Q .next { s with heap := h, toks := tk }) :
    wpAny (model prog w) A (pyIter (.ref r)) (fun it s₂ => LoopAtV prog w A h₀ env x body Q E it s₂) E s := by
  refine range_turns (led := Ld c₀) (own₀ := own₀) (fun i m₁ led₁ => ∃ c, led₁ = Ld c ∧ (∀ p ∈ ps c, m₁ p.1 = some p.2) ∧ (∀ z, (∀ p ∈ ps c, z ≠ p.1) → stored.contains z = false → m₁ z = m₀ z) ∧ P i c)
    hh hr hsmall hn F N O ⟨c₀, rfl, hk, fun _ _ _ => rfl, hP⟩ ?_ ?_
  · rintro i t m₁ led₁ h tk own hi ha hoff hsub ⟨c, rfl, h1, h2, hp⟩ F₁ N₁
    rw [← kst_form h1 h2] at F₁
    refine wpAny_mono (turn i t c m₁ h tk own hi hp hoff hsub F₁ N₁) (fun f s₂ p => ?_) fun _ _ e => e
    have fin : RgEnd h₀ env.locals Ld ps stored m₀ (P (i + 1)) own { s with heap := h, toks := tk } s₂ → TurnEnd h₀ env.locals (fun m₁ led₁ => ∃ c, led₁ = Ld c ∧ (∀ p ∈ ps c, m₁ p.1 = some p.2) ∧ (∀ z, (∀ p ∈ ps c, z ≠ p.1) → stored.contains z = false → m₁ z = m₀ z) ∧ P (i + 1) c) own ((Ld c₀).map (·.1)) { s with heap := h, toks := tk } s₂ := by
      rintro ⟨c', h', tk', m', e, F', N', k1, k2, k3⟩
      exact ⟨h', tk', m', Ld c', e, F', N', hadr c', c', rfl, k1, k2, k3⟩
    cases f with
    | ret v => exact p
    | brk => exact p
    | next => exact fin p
    | cont => exact fin p
  · rintro m₁ led₁ h tk _ ⟨c, rfl, h1, h2, hp⟩ F₁ N₁
    rw [← kst_form h1 h2] at F₁
    exact done c m₁ h tk hp F₁ N₁
end
section
variable {prog : Program} {w : World} {A : Around} {h₀ : Heap} {L : Addr} {m : Str → Option Value} {env : Env} {elt : Expr} {x : Str} {scope : Scope} {cl : List (Str × Addr)} {s : Shared} {S : Led → Prop} {P : Nat → Value → Prop} {Fin : List Value → Led → Prop}
/-- a comprehension's turns by an invariant over what is built and the ledger -/
theorem rest_ind {n : Nat} {news : Led} (J : Nat → List Value → Led → Prop)
    (step : ∀ i ys news v I oI C oC D m₂ h tk (E' : Value → Shared → Prop), i < n → J i ys news → P i v → LCg.NsObj oC m₂ → m₂ x = some v → Fr h₀ L h m → News h₀ L h ((I, oI) :: (C, oC) :: (D, LCg.lst ys) :: news) → LCg.Off3 I C D news → ((@Ne Nat I C) ∧ (@Ne Nat I D) ∧ (@Ne Nat C D)) →
      wpAny (model prog w) A (eval elt (compEnvC scope cl C env)) (LCg.CompEnd h₀ L m { s with heap := h, toks := tk } I oI C oC D (LCg.lst ys) S (fun y news' => J (i + 1) (ys ++ [y]) news')) E' { s with heap := h, toks := tk })
    (fin : ∀ ys news, J n ys news → Fin ys news) (h0 : J 0 [] news) : LCg.CompRest prog w A h₀ L m env elt x scope cl s S P Fin n 0 [] news := by
  have key : ∀ (j i : Nat) (ys : List Value) (news : Led), i + j = n → J i ys news → LCg.CompRest prog w A h₀ L m env elt x scope cl s S P Fin j i ys news := by
    intro j
    induction j with
    | zero =>
      intro i ys news hi hy
      exact LCg.CompRest.zero (fin ys news ((show i = n by omega) ▸ hy))
    | succ j ih =>
      intro i ys news hi hy
      refine LCg.CompRest.succ fun v I oI C oC D m₂ h tk E' hv hC hx F N off ne => ?_
      refine wpAny_mono (step i ys news v I oI C oC D m₂ h tk E' (by omega) hy hv hC hx F N off ne) (fun y s₂ hq => ?_) fun _ _ e => e
      obtain ⟨h', tk', nw, e, F', N', off', hS, hn⟩ := hq
      exact ⟨h', tk', nw, e, F', N', off', hS, ih (i + 1) _ nw (by omega) hn⟩
  exact key n 0 [] news (by omega) h0
end
end Mine
end
section
open PySem PySem.W PyProof.Rows
namespace Mine
def Stop (P : Prop) : Prop := P
theorem stop_at {P : Prop} (h : Stop P) : P := h
theorem fill : (fun (_ : OpenLaw) (_ : Params → Frag) => True) PySem.Challenge.rw_xm0029_01 Mine.hd.heap_39 := by
  k_fill
  trivial
/-- the dict of a Space: its eight fields -/
abbrev spD (w : World) (k1 k2 k3 k4 k5 k6 k7 k8 : Tok) (v1 v2 v3 v4 v5 v6 v7 v8 : Value) : Obj := dictOf [⟨PyData.keyHash w.params (Str.ofString "size"), .str (Str.ofString "size") k1, v1⟩,
      ⟨PyData.keyHash w.params (Str.ofString "octets"), .str (Str.ofString "octets") k2, v2⟩,
      ⟨PyData.keyHash w.params (Str.ofString "low"), .str (Str.ofString "low") k3, v3⟩,
      ⟨PyData.keyHash w.params (Str.ofString "free"), .str (Str.ofString "free") k4, v4⟩,
      ⟨PyData.keyHash w.params (Str.ofString "held"), .str (Str.ofString "held") k5, v5⟩,
      ⟨PyData.keyHash w.params (Str.ofString "waiting"), .str (Str.ofString "waiting") k6, v6⟩,
      ⟨PyData.keyHash w.params (Str.ofString "most_waiting"), .str (Str.ofString "most_waiting") k7, v7⟩,
      ⟨PyData.keyHash w.params (Str.ofString "collections"), .str (Str.ofString "collections") k8, v8⟩] 8
section
variable {prog : Program} {w : World} {p : Program} {loose : List Str} {mean : ExcName → Option Value} {mg mb : Str → Option Value}
  {dp un : Nat} {gd : Option (List Code)} {cn : Str} {cs : Scope} {a : Addr} {ccd : Value} {cl : List (Str × Addr)} {outer : List Env} {A₀ : Around} {base h₀ : Heap} {L : Addr} {m : Str → Option Value} {s : Shared} {Q E : Value → Shared → Prop}

set_option maxRecDepth 100000 in
set_option maxHeartbeats 8000000 in
theorem told_c {bg sl : Addr} {k below : Int} {tk tb : Tok} {e e2 : Nat} {ws : List Value} {ns : List Int} {own : List (Addr × Obj)}
    (B : Below A₀ base outer h₀) (F : Fr h₀ L s.heap m) (X : (Mine.hd.heap_39 w.params).In h₀)
    (N : News h₀ L s.heap ((bg, listOf #[.ref sl, .int k tk] e) :: (sl, listOf ws.toArray e2) :: own))
    (O : OwnOff own [bg, sl]) (hne : @Ne Nat bg sl)
    (T : Top p loose mean mg mb h₀) (hk : cs.kind = .function) (hI : IntsAre ws ns) (hlen : ns.length ≤ 8) (h0 : 0 ≤ k) (h1 : k < 100) (hb : 0 < below)
    (hd : dp + 5 < recursionLimit) (hu : un + 40 < cLine)
    (ret : ∀ (r : Int) (t tk' t' : Tok) (h' : Heap) (tk' : Nat), 0 ≤ r → r < below → Fr h₀ L h' m → News h₀ L h' ((bg, listOf #[.ref sl, .int (k+1) t'] e) :: (sl, listOf ws.toArray e2) :: own) → Q (.int r t) { s with heap := h', toks := tk' }) :
    wpAny (model prog w) (ktrTop dp un gd cn cs L a ccd cl outer) (call (.ref 148) [.ref bg, .int below tb]) Q E s := by
  refine wpAny_call ?_
  k_dflt cell_enter
  k_steps
  all_goals (refine' ret _ _ 0 _ _ _ ?e1 ?e2 ?e3 ?e4; (case e1 => exact fmod_lo _ hb); (case e2 => exact fmod_hi _ hb); (case e3 => k_asm); (case e4 => k_asm))

local macro_rules | `(tactic| walk_at "eval ListComp") => `(tactic| (k_here; refine stop_at ?_))
local macro_rules | `(tactic| walk_at "StrSrc") => `(tactic| (k_here; refine stop_at ?_))
set_option maxRecDepth 100000 in
set_option maxHeartbeats 8000000 in
theorem octs_c {x : Str} {tx : Tok} {own : List (Addr × Obj)}
    (B : Below A₀ base outer h₀) (F : Fr h₀ L s.heap m) (X : (Mine.hd.heap_39 w.params).In h₀)
    (N : News h₀ L s.heap own)
    (T : Top p loose mean mg mb h₀) (hk : cs.kind = .function) (hlen : x.length ≤ 64) (ha : x.cps.all (· < 128) = true)
    (hd : dp + 5 < recursionLimit) (hu : un + 40 < cLine)
    (ret : ∀ (l : Addr) (us : List Value) (e : Nat) (h' : Heap) (tk' : Nat), IntsAre us (x.cps.toList.map Int.ofNat) → LCg.Off1 l own → Fr h₀ L h' m → News h₀ L h' ((l, listOf us.toArray e) :: own) → Q (.ref l) { s with heap := h', toks := tk' }) :
    wpAny (model prog w) (ktrTop dp un gd cn cs L a ccd cl outer) (call (.ref 63) [.str x tx]) Q E s := by
  refine wpAny_call ?_
  k_dflt cell_enter
  k_steps
  unfold Stop
  k_dflt (refine listComp_str (by k_asm) (by with_unfolding_all rfl) (by decide) (by rfl) (by decide) (by rfl) ?_)
  k_steps
  unfold Stop
  k_dflt (refine StrSrc.intro (by with_unfolding_all rfl) (by assumption) (by assumption) (by k_asm) (by k_asm) (fun g => rest_signs (fun c => (c : Int)) (fun c' t' I' oI' C' oC' D' m' ys' h' tk' E' hc' hC' hx' F' N' off' ne' => ?_) (fun ys' hi' => ?_))); (all_goals (try simp only [LCg.Off3, and_true] at off'))
  all_goals k_steps
  · exact kcf_el rfl rfl rfl
  · exact ret _ _ _ _ _ (by assumption) (by assumption) (by k_asm) (by k_asm)

end
end Mine
end
section
open PySem PySem.W PyProof.Rows
namespace Mine
def wrAt (ns : List Int) (a : Nat) (ks : List Int) : List Int := ns.take a ++ ks ++ ns.drop (a + ks.length)
theorem wrAt_step {ns ks : List Int} {a i : Nat} {k : Int} (hk : ks[i]? = some k) (h : a + ks.length ≤ ns.length) : (wrAt ns a (ks.take i)).set (a + i) k = wrAt ns a (ks.take (i + 1)) := by
  have hi : i < ks.length := by
    rcases Nat.lt_or_ge i ks.length with h | h
    · exact h
    · rw [List.getElem?_eq_none h] at hk; cases hk
  have h1 : (ks.take i).length = i := by rw [List.length_take]; omega
  have h2 : (ks.take (i + 1)).length = i + 1 := by rw [List.length_take]; omega
  have h3 : (ns.take a ++ ks.take i).length = a + i := by rw [List.length_append, List.length_take, h1]; omega
  unfold wrAt
  rw [h1, h2, List.drop_eq_getElem_cons (show a + i < ns.length by omega), List.set_append_right (h := by omega), h3, Nat.sub_self, List.set_cons_zero, List.take_add_one, hk]
  simp [Nat.add_assoc]
section
variable {prog : Program} {w : World} {p : Program} {loose : List Str} {mean : ExcName → Option Value} {mg mb : Str → Option Value}
  {dp un : Nat} {gd : Option (List Code)} {cn : Str} {cs : Scope} {a : Addr} {ccd : Value} {cl : List (Str × Addr)} {outer : List Env} {A₀ : Around} {base h₀ : Heap} {L : Addr} {m : Str → Option Value} {s : Shared} {Q E : Value → Shared → Prop}

section
local macro_rules | `(tactic| walk_at "call type:enumerate") => `(tactic| (k_here; refine stop_at ?_))
set_option maxRecDepth 100000 in
set_option maxHeartbeats 8000000 in
theorem write_c {sp dx ol q : Addr} {v1 v3 v4 v5 v6 v7 v8 : Value} {k1 k2 k3 k4 k5 k6 k7 k8 : Tok} {own : List (Addr × Obj)} {vs us : List Value} {ns ks : List Int} {e e2 : Nat} {az : Int} {ta : Tok}
    (B : Below A₀ base outer h₀) (F : Fr h₀ L s.heap m) (X : (Mine.hd.heap_39 w.params).In h₀)
    (N : News h₀ L s.heap ((q, listOf us.toArray e2) :: (ol, listOf vs.toArray e) :: (sp, instObj 54 dx) :: (dx, spD w k1 k2 k3 k4 k5 k6 k7 k8 v1 (.ref ol) v3 v4 v5 v6 v7 v8) :: own))
    (O : OwnOff own [q, ol, sp, dx]) (ne1 : @Ne Nat ol q) (ne2 : @Ne Nat ol sp) (ne3 : @Ne Nat ol dx) (ne4 : @Ne Nat sp q) (ne5 : @Ne Nat dx q)
    (T : Top p loose mean mg mb h₀) (hk : cs.kind = .function) (hI : IntsAre vs ns) (hU : IntsAre us ks) (hlen : ns.length ≤ 200) (hz : 0 ≤ az) (h1 : az.toNat + ks.length ≤ ns.length)
    (hd : dp + 5 < recursionLimit) (hu : un + 40 < cLine)
    (ret : ∀ (vs' : List Value) (e' : Nat) (h' : Heap) (tk' : Nat), IntsAre vs' (wrAt ns az.toNat ks) → Fr h₀ L h' m →
      News h₀ L h' ((ol, listOf vs'.toArray e') :: (sp, instObj 54 dx) :: (dx, spD w k1 k2 k3 k4 k5 k6 k7 k8 v1 (.ref ol) v3 v4 v5 v6 v7 v8) :: own) → Q .none { s with heap := h', toks := tk' }) :
    wpAny (model prog w) (ktrTop dp un gd cn cs L a ccd cl outer) (call (.ref 75) [.ref sp, .int az ta, .ref q]) Q E s := by
  obtain ⟨a₀, rfl⟩ := Int.eq_ofNat_of_zero_le hz
  rw [Int.toNat_natCast] at *
  dsimp only [spD] at *
  refine wpAny_call ?_
  k_dflt cell_enter
  k_steps
  unfold Stop
  (rename News _ _ _ _ => lN'); (rename IntsAre _ _ => hU'); k_dflt (refine enum_led (by with_unfolding_all rfl) hU' (by k_asm) (fun p hp => lN' p (List.mem_cons_of_mem _ hp)) (fun p hp => lN' p (by rw [List.mem_singleton.mp hp]; exact List.mem_cons_self)) (by k_all) ?_); intro h9' e9' F9' N9' S9'
  k_steps
  rename PairSrcL _ _ _ _ _ _ _ _ _ _ _ _ => S'
  k_dflt (refine enum_turns (led := [(ol, _), (sp, _), (dx, _)]) (own₀ := own) (fun i led => ∃ vs₁ e₁, led = [(ol, listOf vs₁.toArray e₁), (sp, _), (dx, _)] ∧ IntsAre vs₁ (wrAt ns a₀ (ks.take i))) S' rfl (OwnOff.sub O (by simp)) ⟨vs, e, rfl, by simpa [wrAt] using hI⟩ ?_ ?_)
  · rintro i k t tv led₁ h tk own' hk' hi' ha' hoff' ⟨vs₁, e₁, rfl, hI₁⟩ F1 N1
    simp only [List.cons_append, List.nil_append, List.map_cons, List.map_nil] at N1 hoff'
    clear hI
    have hl₁ := hI₁.length
    have hl₂ : (wrAt ns a₀ (ks.take i)).length = ns.length := by simp [wrAt]; omega
    k_steps
    dsimp only [TurnPost]
    rename News _ _ _ _ => lN'
    refine TurnEnd.intro (led := [(ol, _), (sp, _), (dx, _)]) (by k_asm) lN' rfl ⟨fun y h1 h2 => by simp [h1, h2], _, _, rfl, ?_⟩
    rw [show ((a₀ : Int) + (i : Int)).toNat = a₀ + i by omega, wrAt_step hk' h1] at *
    assumption
  · rintro m₁ led₁ h tk ⟨vs₁, e₁, rfl, hI₁⟩ F1 N1
    rw [List.take_length] at hI₁
    simp only [List.cons_append, List.nil_append] at N1
    k_steps
    exact ret _ _ _ _ hI₁ (by k_asm) (by k_asm)
end
end
end Mine
end
section
open PySem PySem.W PyProof.Rows
namespace Mine
theorem off_lt {l : Addr} {own : Led} {adr : List Addr} (h : AllLt l own) (k : OwnOff own adr) : OwnOff own (l :: adr) := by
  refine off_cons ?_ k
  clear k
  induction own with
  | nil => exact trivial
  | cons q r ih => exact ⟨Nat.ne_of_lt h.1, ih h.2⟩
theorem wrAt_end {ns ks : List Int} {a n : Nat} (h : ns.length = n + ks.length) (e : a = n) : wrAt ns a ks = ns.take n ++ ks := by
  subst e
  unfold wrAt
  rw [List.drop_eq_nil_of_le (by omega), List.append_nil]
theorem wrAt_start {ns ks : List Int} {a : Nat} (e : a = 0) : wrAt ns a ks = ks ++ ns.drop ks.length := by
  subst e
  unfold wrAt
  rw [List.take_zero, List.nil_append, Nat.zero_add]
section
variable {prog : Program} {w : World} {p : Program} {loose : List Str} {mean : ExcName → Option Value} {mg mb : Str → Option Value}
  {dp un : Nat} {gd : Option (List Code)} {cn : Str} {cs : Scope} {a : Addr} {ccd : Value} {cl : List (Str × Addr)} {outer : List Env} {A₀ : Around} {base h₀ : Heap} {L : Addr} {m : Str → Option Value} {s : Shared} {Q E : Value → Shared → Prop}
section
local macro_rules | `(tactic| walk_at "call ref") => `(tactic| (k_here; refine stop_at ?_))
set_option maxRecDepth 100000 in
set_option maxHeartbeats 8000000 in
theorem assignA_c {sp dx ol hd wl : Addr} {v7 v8 : Value} {k1 k2 k3 k4 k5 k6 k7 k8 ts tl tf : Tok} {own : List (Addr × Obj)} {vs : List Value} {ns : List Int} {e : Nat} {x : Str} {tn tx : Tok} {od : Obj} {n : Nat} {z1 z2 : Int}
    (B : Below A₀ base outer h₀) (F : Fr h₀ L s.heap m) (X : (Mine.hd.heap_39 w.params).In h₀)
    (N : News h₀ L s.heap ((ol, listOf vs.toArray e) :: (sp, instObj 54 dx) :: (dx, spD w k1 k2 k3 k4 k5 k6 k7 k8 (.int z1 ts) (.ref ol) (.int 0 tl) (.int z2 tf) (.ref hd) (.ref wl) v7 v8) :: (hd, od) :: own))
    (O : OwnOff own [ol, sp, dx, hd]) (ne2 : @Ne Nat ol sp) (ne3 : @Ne Nat ol dx) (ne4 : @Ne Nat sp dx) (ne5 : @Ne Nat hd ol) (ne6 : @Ne Nat hd sp) (ne7 : @Ne Nat hd dx)
    (T : Top p loose mean mg mb h₀) (hk : cs.kind = .function) (hI : IntsAre vs ns) (hlen : ns.length = 2 * n) (hz2 : z2 = 2 * n)
    (hs : od.IsDictOf (PySem.strKind prog w) []) (fs : PyProof.V.FlatPairs PyData.str [] []) (hi : Obj.IsDictOf (intKind prog w) od []) (fi : PyProof.V.FlatPairs PyData.int [] []) (lo : (hd == sysModules) = false)
    (hx : x.length = n) (hn : n ≤ 64) (hx6 : x.length ≤ 64) (ha : x.cps.all (· < 128) = true)
    (hdp : dp + 10 < recursionLimit) (hu : un + 80 < cLine)
    (ret : ∀ (la : Addr) (o' : Obj) (vs' : List Value) (e' : Nat) (t1 t2 t3 : Tok) (h' : Heap) (tk' : Nat), IntsAre vs' (ns.take n ++ x.cps.toList.map Int.ofNat) → Obj.IsDictOf (PySem.strKind prog w) o' [(Str.ofString "A$", Value.ref la)] →
      OwnOff own [la, ol, sp, dx, hd] → @LT.lt Nat _ ol la → @LT.lt Nat _ sp la → @LT.lt Nat _ dx la → @LT.lt Nat _ hd la → AllLt la own → Fr h₀ L h' m →
      News h₀ L h' ((la, W.listOf #[Value.int (z2 - x.length) t1, Value.int x.length t2] 0) :: (ol, listOf vs'.toArray e') :: (sp, instObj 54 dx) :: (dx, spD w k1 k2 k3 k4 k5 k6 k7 k8 (.int z1 ts) (.ref ol) (.int 0 tl) (.int (z2 - x.length) t3) (.ref hd) (.ref wl) v7 v8) :: (hd, o') :: own) →
      Q .none { s with heap := h', toks := tk' }) :
    wpAny (model prog w) (ktrTop dp un gd cn cs L a ccd cl outer) (call (.ref 120) [.ref sp, .str (Str.ofString "A$") tn, .str x tx]) Q E s := by
  dsimp only [spD] at *
  refine wpAny_call ?_
  k_dflt cell_enter
  k_steps
  repeat (first
    | (unfold Stop; (with_reducible show wpAny _ _ (call (Value.ref 75) _) _ _ _); (rename News _ _ _ _ => lN'); k_dflt (refine write_c (by k_asm) (by k_asm) (by k_asm) lN' (by (refine' off4 ?_ ?_ ?_ ?_ <;> k_all)) (by k_ne) (by k_ne) (by k_ne) (by k_ne) (by k_ne) (by k_asm) (by first | exact rfl | assumption) (by assumption) (by assumption) (by omega) (by omega) (by ((simp only [List.length_map, Array.length_toList, PySem.Str.length] at *); omega)) (by ktr_room) (by ktr_units) ?_); intro vs9' e9' h9' tk9' i9' F9' N9'; k_steps)
    | (unfold Stop; (with_reducible show wpAny _ _ (call (Value.ref 63) _) _ _ _); k_dflt (refine octs_c (by k_asm) (by k_asm) (by k_asm) (by k_asm) (by k_asm) (by first | exact rfl | assumption) (by assumption) (by assumption) (by ktr_room) (by ktr_units) ?_); intro l9' us9' e9' h9' tk9' i9' n9' F9' N9'; (simp only [LCg.Off1, and_true] at n9'); (repeat (obtain ⟨_, n9'⟩ := n9')); (try (rename OwnOff _ _ => O8'; have O9' := off_cons n9' O8')); k_steps)
    | (unfold Stop; (with_reducible show wpAny _ _ (call (Value.ref _) _) _ _ _); k_dflt (refine wpAny_call ?_; refine' code_def ?b ?f ?x ?n ?t ?fr ?lo ?kf ?ho ?hc ?ro ?bi ?bl ?_ ?g1 ?g2 ?g3 ?g4; (case fr => exact rfl); (case lo => exact rfl); (case kf => first | exact rfl | assumption); (case b => k_asm); (case f => k_asm); (case x => k_asm); (case n => k_asm); (case t => k_asm); (case ho => k_is); (case hc => k_is); (case ro => ktr_room); (case bi => first | exact BindsTo.of_eq rfl | exact binds_K (by k_in) rfl (by k_is) rfl rfl rfl); (case g4 => decide); (case bl => exact locs rfl); (case g1 => exact rfl); (case g2 => exact rfl); (case g3 => exact rfl); k_whole; intro g' L' h' FG' F' N' B' X' T'; (try dsimp only); (try k_fold)); k_steps))
  rename IntsAre _ (wrAt _ _ _) => hW
  rename @LT.lt Nat _ _ _ ∧ _ => hL1
  rename Obj.IsDictOf _ _ [_] => hD9
  rename OwnOff _ (_ :: _ :: _ :: _ :: _ :: _) => hO9
  obtain ⟨g1, g2, g3, g4, g5⟩ := hL1
  refine ret _ _ _ _ _ _ _ _ _ ?_ hD9 (off_lt g5 (OwnOff.sub hO9 (by simp))) g1 g2 g3 g4 g5 (by k_asm) (by k_asm)
  have hx' : x.cps.size = n := hx
  have hE := wrAt_end (ns := ns) (ks := x.cps.toList.map Int.ofNat) (n := n) (a := (z2 - (x.length : Int)).toNat) (by rw [List.length_map, Array.length_toList (xs := x.cps)]; omega) (by omega)
  rw [hE] at hW
  exact hW
set_option maxRecDepth 100000 in
set_option maxHeartbeats 8000000 in
theorem assignB_c {sp dx ol hd wl lA : Addr} {oA : Obj} {v7 v8 : Value} {k1 k2 k3 k4 k5 k6 k7 k8 ts tl tf : Tok} {own : List (Addr × Obj)} {vs : List Value} {ns : List Int} {e : Nat} {x : Str} {tn tx : Tok} {od : Obj} {n : Nat} {z1 z2 : Int}
    (B : Below A₀ base outer h₀) (F : Fr h₀ L s.heap m) (X : (Mine.hd.heap_39 w.params).In h₀)
    (N : News h₀ L s.heap ((ol, listOf vs.toArray e) :: (sp, instObj 54 dx) :: (dx, spD w k1 k2 k3 k4 k5 k6 k7 k8 (.int z1 ts) (.ref ol) (.int 0 tl) (.int z2 tf) (.ref hd) (.ref wl) v7 v8) :: (hd, od) :: own))
    (O : OwnOff own [ol, sp, dx, hd]) (ne2 : @Ne Nat ol sp) (ne3 : @Ne Nat ol dx) (ne4 : @Ne Nat sp dx) (ne5 : @Ne Nat hd ol) (ne6 : @Ne Nat hd sp) (ne7 : @Ne Nat hd dx)
    (T : Top p loose mean mg mb h₀) (hk : cs.kind = .function) (hI : IntsAre vs ns) (hlen : ns.length = 2 * n) (hz2 : z2 = n)
    (hs : od.IsDictOf (PySem.strKind prog w) [(Str.ofString "A$", Value.ref lA)]) (lo : (hd == sysModules) = false)
    (hx : x.length = n) (hn : n ≤ 64) (hx6 : x.length ≤ 64) (ha : x.cps.all (· < 128) = true)
    (hdp : dp + 10 < recursionLimit) (hu : un + 80 < cLine)
    (ret : ∀ (la : Addr) (o' : Obj) (vs' : List Value) (e' : Nat) (t1 t2 t3 : Tok) (h' : Heap) (tk' : Nat), IntsAre vs' (x.cps.toList.map Int.ofNat ++ ns.drop n) → Obj.IsDictOf (PySem.strKind prog w) o' [(Str.ofString "A$", Value.ref lA), (Str.ofString "B$", Value.ref la)] →
      OwnOff own [la, ol, sp, dx, hd] → @LT.lt Nat _ ol la → @LT.lt Nat _ sp la → @LT.lt Nat _ dx la → @LT.lt Nat _ hd la → AllLt la own → Fr h₀ L h' m →
      News h₀ L h' ((la, W.listOf #[Value.int (z2 - x.length) t1, Value.int x.length t2] 0) :: (ol, listOf vs'.toArray e') :: (sp, instObj 54 dx) :: (dx, spD w k1 k2 k3 k4 k5 k6 k7 k8 (.int z1 ts) (.ref ol) (.int 0 tl) (.int (z2 - x.length) t3) (.ref hd) (.ref wl) v7 v8) :: (hd, o') :: own) →
      Q .none { s with heap := h', toks := tk' }) :
    wpAny (model prog w) (ktrTop dp un gd cn cs L a ccd cl outer) (call (.ref 120) [.ref sp, .str (Str.ofString "B$") tn, .str x tx]) Q E s := by
  dsimp only [spD] at *
  refine wpAny_call ?_
  k_dflt cell_enter
  k_steps
  repeat (first
    | (unfold Stop; (with_reducible show wpAny _ _ (call (Value.ref 75) _) _ _ _); (rename News _ _ _ _ => lN'); k_dflt (refine write_c (by k_asm) (by k_asm) (by k_asm) lN' (by (refine' off4 ?_ ?_ ?_ ?_ <;> k_all)) (by k_ne) (by k_ne) (by k_ne) (by k_ne) (by k_ne) (by k_asm) (by first | exact rfl | assumption) (by assumption) (by assumption) (by omega) (by omega) (by ((simp only [List.length_map, Array.length_toList, PySem.Str.length] at *); omega)) (by ktr_room) (by ktr_units) ?_); intro vs9' e9' h9' tk9' i9' F9' N9'; k_steps)
    | (unfold Stop; (with_reducible show wpAny _ _ (call (Value.ref 63) _) _ _ _); k_dflt (refine octs_c (by k_asm) (by k_asm) (by k_asm) (by k_asm) (by k_asm) (by first | exact rfl | assumption) (by assumption) (by assumption) (by ktr_room) (by ktr_units) ?_); intro l9' us9' e9' h9' tk9' i9' n9' F9' N9'; (simp only [LCg.Off1, and_true] at n9'); (repeat (obtain ⟨_, n9'⟩ := n9')); (try (rename OwnOff _ _ => O8'; have O9' := off_cons n9' O8')); k_steps)
    | (unfold Stop; (with_reducible show wpAny _ _ (call (Value.ref _) _) _ _ _); k_dflt (refine wpAny_call ?_; refine' code_def ?b ?f ?x ?n ?t ?fr ?lo ?kf ?ho ?hc ?ro ?bi ?bl ?_ ?g1 ?g2 ?g3 ?g4; (case fr => exact rfl); (case lo => exact rfl); (case kf => first | exact rfl | assumption); (case b => k_asm); (case f => k_asm); (case x => k_asm); (case n => k_asm); (case t => k_asm); (case ho => k_is); (case hc => k_is); (case ro => ktr_room); (case bi => first | exact BindsTo.of_eq rfl | exact binds_K (by k_in) rfl (by k_is) rfl rfl rfl); (case g4 => decide); (case bl => exact locs rfl); (case g1 => exact rfl); (case g2 => exact rfl); (case g3 => exact rfl); k_whole; intro g' L' h' FG' F' N' B' X' T'; (try dsimp only); (try k_fold)); k_steps))
  rename IntsAre _ (wrAt _ _ _) => hW
  rename @LT.lt Nat _ _ _ ∧ _ => hL1
  rename Obj.IsDictOf _ _ [_, _] => hD9
  rename OwnOff _ (_ :: _ :: _ :: _ :: _ :: _) => hO9
  obtain ⟨g1, g2, g3, g4, g5⟩ := hL1
  refine ret _ _ _ _ _ _ _ _ _ ?_ hD9 (off_lt g5 (OwnOff.sub hO9 (by simp))) g1 g2 g3 g4 g5 (by k_asm) (by k_asm)
  rw [wrAt_start (by omega), List.length_map, Array.length_toList (xs := x.cps), show x.cps.size = n from hx] at hW
  exact hW
end
end
end Mine
end
section
open PySem PySem.W PyProof.Rows
namespace Mine
section
variable {prog : Program} {w : World} {p : Program} {loose : List Str} {mean : ExcName → Option Value} {mg mb : Str → Option Value}
  {dp un : Nat} {gd : Option (List Code)} {cn : Str} {cs : Scope} {a : Addr} {ccd : Value} {cl : List (Str × Addr)} {outer : List Env} {A₀ : Around} {base h₀ : Heap} {L : Addr} {m : Str → Option Value} {s : Shared} {Q E : Value → Shared → Prop}
section
local macro_rules | `(tactic| walk_at "call ref") => `(tactic| (k_here; refine stop_at ?_))
local macro_rules | `(tactic| walk_at "compareOp In str ref") => `(tactic| (k_here; k_dflt (refine kda_in (knd := PySem.strKind _ _) (by k_asm) (by k_mem) (by k_asm) (by k_asm) (strKind_is _ _ _ _) true (by rfl) ?_)))
local macro_rules | `(tactic| walk_at "subscriptTail") => `(tactic| (k_here; k_dflt ((with_reducible show wpAny _ _ (subscriptTail _ _ (Value.ref _) (Value.str _ _)) _ _ _); refine kda_item (knd := PySem.strKind _ _) (by k_asm) (by k_mem) (by k_asm) (strKind_is _ _ _ _) (by rfl) ?_)))
local macro_rules | `(tactic| walk_at "subscriptTail Name Constant ref int") => `(tactic| (k_here; (with_unfolding_all refine' item_litK ?k1 ?k2 ?k3 ?k4 ?_ ?k6; (case k1 => exact News.isList (by k_asm) (by k_mem)); (case k2 => decide); (case k3 => decide); (case k4 => rfl); (case k6 => with_unfolding_all rfl); k_whole)))
local macro_rules | `(tactic| walk_at "call builtin:chr") => `(tactic| (k_here; refine stop_at ?_))
local macro_rules | `(tactic| walk_at "eval ListComp") => `(tactic| (k_here; refine stop_at ?_))
local macro_rules | `(tactic| walk_at "CompSrc") => `(tactic| (k_here; refine stop_at ?_))
local macro_rules | `(tactic| walk_at "CompEnd") => `(tactic| (k_here; refine stop_at ?_))
local macro_rules | `(tactic| walk_at "call builtin:str.join") => `(tactic| (k_here; refine stop_at ?_))
set_option maxRecDepth 100000 in
set_option maxHeartbeats 8000000 in
theorem textA_c {sp dx ol hd lA lB : Addr} {v1 v3 v4 v6 v7 v8 : Value} {k1 k2 k3 k4 k5 k6 k7 k8 t1 t2 t3 t4 tn : Tok} {own : List (Addr × Obj)} {vs : List Value} {ns : List Int} {e eA eB : Nat} {od : Obj} {pA qA pB qB : Int}
    (B : Below A₀ base outer h₀) (F : Fr h₀ L s.heap m) (X : (Mine.hd.heap_39 w.params).In h₀)
    (N : News h₀ L s.heap ((ol, listOf vs.toArray e) :: (sp, instObj 54 dx) :: (dx, spD w k1 k2 k3 k4 k5 k6 k7 k8 v1 (.ref ol) v3 v4 (.ref hd) v6 v7 v8) :: (hd, od) :: (lA, W.listOf #[.int pA t1, .int qA t2] eA) :: (lB, W.listOf #[.int pB t3, .int qB t4] eB) :: own))
    (O : OwnOff own [ol, sp, dx, hd, lA, lB])
    (T : Top p loose mean mg mb h₀) (hk : cs.kind = .function) (hI : IntsAre vs ns) (hlen : ns.length ≤ 64)
    (hs : od.IsDictOf (PySem.strKind prog w) [(Str.ofString "A$", Value.ref lA), (Str.ofString "B$", Value.ref lB)])
    (lo : (hd == sysModules) = false) (hp : 0 ≤ pA) (hq : 0 ≤ qA) (hpq : pA + qA ≤ ns.length) (ha : ∀ k ∈ ns, 0 ≤ k ∧ k < 128)
    (hdp : dp + 10 < recursionLimit) (hu : un + 80 < cLine)
    (ret : ∀ (t : Tok) (h' : Heap) (tk' : Nat), Fr h₀ L h' m →
      News h₀ L h' ((ol, listOf vs.toArray e) :: (sp, instObj 54 dx) :: (dx, spD w k1 k2 k3 k4 k5 k6 k7 k8 v1 (.ref ol) v3 v4 (.ref hd) v6 v7 v8) :: (hd, od) :: (lA, W.listOf #[.int pA t1, .int qA t2] eA) :: (lB, W.listOf #[.int pB t3, .int qB t4] eB) :: own) →
      Q (.str (txt ((ns.drop pA.toNat).take qA.toNat)) t) { s with heap := h', toks := tk' }) :
    wpAny (model prog w) (ktrTop dp un gd cn cs L a ccd cl outer) (call (.ref 127) [.ref sp, .str (Str.ofString "A$") tn]) Q E s := by
  dsimp only [spD] at *
  refine wpAny_call ?_
  k_dflt cell_enter
  k_steps
  repeat' (first
    | (unfold Stop; (rename _ ∈ List.take _ _ => hM'); (rename ∀ k ∈ _, 0 ≤ k ∧ k < 128 => hA'); (have hc9' := hA' _ (List.mem_of_mem_drop (List.mem_of_mem_take hM'))); k_dflt (refine chr_of_range hc9'.1 (by omega) ?_); all_goals k_steps)
    | (unfold Stop; k_dflt (refine LCg.ListComp_U (F₀ := by k_asm) (by with_unfolding_all rfl) (by decide) (by rfl) (by decide) (by rfl) ?_); all_goals k_steps)
    | (unfold Stop; k_dflt (refine LCg.CompSrc.ledger (by rfl) (by k_asm) (by k_asm) (by k_mem) (by kcf_size) ?_; intro g'; (refine' kct_list one (by first | assumption | l_ints) (fun k' t' I' oI' C' oC' D' m' ys' h' tk' E' hk' hC' hx' F' N' off' ne' hMark' => ?_) ?_); (all_goals (try (simp only [LCg.Off3, and_true] at off')))); all_goals k_steps)
    | (unfold Stop; refine LCg.CompEnd.intro (by k_asm) (by k_asm) _ ?s ?o ?S (kct_el (by rfl) rfl rfl); (case s => kcf_all); (case o => first | assumption | (simp only [LCg.Off3, and_true]; assumption)); (case S => first | lcg_src | assumption); all_goals k_steps)
    | (unfold Stop; k_dflt (refine join_txt (by first | is_list | exact News.isList (by k_asm) (by k_mem)) (by assumption) (by simp; omega) ?_); intro _ _; all_goals k_steps)
    | (unfold Stop; (with_reducible show wpAny _ _ (call (Value.ref _) _) _ _ _); k_dflt (refine wpAny_call ?_; refine' code_def ?b ?f ?x ?n ?t ?fr ?lo ?kf ?ho ?hc ?ro ?bi ?bl ?_ ?g1 ?g2 ?g3 ?g4; (case fr => exact rfl); (case lo => exact rfl); (case kf => first | exact rfl | assumption); (case b => k_asm); (case f => k_asm); (case x => k_asm); (case n => k_asm); (case t => k_asm); (case ho => k_is); (case hc => k_is); (case ro => ktr_room); (case bi => first | exact BindsTo.of_eq rfl | exact binds_K (by k_in) rfl (by k_is) rfl rfl rfl); (case g4 => decide); (case bl => exact locs rfl); (case g1 => exact rfl); (case g2 => exact rfl); (case g3 => exact rfl); k_whole; intro g' L' h' FG' F' N' B' X' T'; (try dsimp only); (try k_fold)); all_goals k_steps))
  rename News _ _ _ (_ :: _ :: _) => lN'
  rw [show min (pA + qA).toNat ns.length - pA.toNat = qA.toNat by omega]
  exact ret _ _ _ (by k_asm) (fun p hp => lN' p (List.mem_cons_of_mem _ (List.mem_cons_of_mem _ hp)))
set_option maxRecDepth 100000 in
set_option maxHeartbeats 8000000 in
theorem textB_c {sp dx ol hd lA lB : Addr} {v1 v3 v4 v6 v7 v8 : Value} {k1 k2 k3 k4 k5 k6 k7 k8 t1 t2 t3 t4 tn : Tok} {own : List (Addr × Obj)} {vs : List Value} {ns : List Int} {e eA eB : Nat} {od : Obj} {pA qA pB qB : Int}
    (B : Below A₀ base outer h₀) (F : Fr h₀ L s.heap m) (X : (Mine.hd.heap_39 w.params).In h₀)
    (N : News h₀ L s.heap ((ol, listOf vs.toArray e) :: (sp, instObj 54 dx) :: (dx, spD w k1 k2 k3 k4 k5 k6 k7 k8 v1 (.ref ol) v3 v4 (.ref hd) v6 v7 v8) :: (hd, od) :: (lA, W.listOf #[.int pA t1, .int qA t2] eA) :: (lB, W.listOf #[.int pB t3, .int qB t4] eB) :: own))
    (O : OwnOff own [ol, sp, dx, hd, lA, lB])
    (T : Top p loose mean mg mb h₀) (hk : cs.kind = .function) (hI : IntsAre vs ns) (hlen : ns.length ≤ 64)
    (hs : od.IsDictOf (PySem.strKind prog w) [(Str.ofString "A$", Value.ref lA), (Str.ofString "B$", Value.ref lB)])
    (lo : (hd == sysModules) = false) (hp : 0 ≤ pB) (hq : 0 ≤ qB) (hpq : pB + qB ≤ ns.length) (ha : ∀ k ∈ ns, 0 ≤ k ∧ k < 128)
    (hdp : dp + 10 < recursionLimit) (hu : un + 80 < cLine)
    (ret : ∀ (t : Tok) (h' : Heap) (tk' : Nat), Fr h₀ L h' m →
      News h₀ L h' ((ol, listOf vs.toArray e) :: (sp, instObj 54 dx) :: (dx, spD w k1 k2 k3 k4 k5 k6 k7 k8 v1 (.ref ol) v3 v4 (.ref hd) v6 v7 v8) :: (hd, od) :: (lA, W.listOf #[.int pA t1, .int qA t2] eA) :: (lB, W.listOf #[.int pB t3, .int qB t4] eB) :: own) →
      Q (.str (txt ((ns.drop pB.toNat).take qB.toNat)) t) { s with heap := h', toks := tk' }) :
    wpAny (model prog w) (ktrTop dp un gd cn cs L a ccd cl outer) (call (.ref 127) [.ref sp, .str (Str.ofString "B$") tn]) Q E s := by
  dsimp only [spD] at *
  refine wpAny_call ?_
  k_dflt cell_enter
  k_steps
  repeat' (first
    | (unfold Stop; (rename _ ∈ List.take _ _ => hM'); (rename ∀ k ∈ _, 0 ≤ k ∧ k < 128 => hA'); (have hc9' := hA' _ (List.mem_of_mem_drop (List.mem_of_mem_take hM'))); k_dflt (refine chr_of_range hc9'.1 (by omega) ?_); all_goals k_steps)
    | (unfold Stop; k_dflt (refine LCg.ListComp_U (F₀ := by k_asm) (by with_unfolding_all rfl) (by decide) (by rfl) (by decide) (by rfl) ?_); all_goals k_steps)
    | (unfold Stop; k_dflt (refine LCg.CompSrc.ledger (by rfl) (by k_asm) (by k_asm) (by k_mem) (by kcf_size) ?_; intro g'; (refine' kct_list one (by first | assumption | l_ints) (fun k' t' I' oI' C' oC' D' m' ys' h' tk' E' hk' hC' hx' F' N' off' ne' hMark' => ?_) ?_); (all_goals (try (simp only [LCg.Off3, and_true] at off')))); all_goals k_steps)
    | (unfold Stop; refine LCg.CompEnd.intro (by k_asm) (by k_asm) _ ?s ?o ?S (kct_el (by rfl) rfl rfl); (case s => kcf_all); (case o => first | assumption | (simp only [LCg.Off3, and_true]; assumption)); (case S => first | lcg_src | assumption); all_goals k_steps)
    | (unfold Stop; k_dflt (refine join_txt (by first | is_list | exact News.isList (by k_asm) (by k_mem)) (by assumption) (by simp; omega) ?_); intro _ _; all_goals k_steps)
    | (unfold Stop; (with_reducible show wpAny _ _ (call (Value.ref _) _) _ _ _); k_dflt (refine wpAny_call ?_; refine' code_def ?b ?f ?x ?n ?t ?fr ?lo ?kf ?ho ?hc ?ro ?bi ?bl ?_ ?g1 ?g2 ?g3 ?g4; (case fr => exact rfl); (case lo => exact rfl); (case kf => first | exact rfl | assumption); (case b => k_asm); (case f => k_asm); (case x => k_asm); (case n => k_asm); (case t => k_asm); (case ho => k_is); (case hc => k_is); (case ro => ktr_room); (case bi => first | exact BindsTo.of_eq rfl | exact binds_K (by k_in) rfl (by k_is) rfl rfl rfl); (case g4 => decide); (case bl => exact locs rfl); (case g1 => exact rfl); (case g2 => exact rfl); (case g3 => exact rfl); k_whole; intro g' L' h' FG' F' N' B' X' T'; (try dsimp only); (try k_fold)); all_goals k_steps))
  rename News _ _ _ (_ :: _ :: _) => lN'
  rw [show min (pB + qB).toNat ns.length - pB.toNat = qB.toNat by omega]
  exact ret _ _ _ (by k_asm) (fun p hp => lN' p (List.mem_cons_of_mem _ (List.mem_cons_of_mem _ hp)))
end
end
end Mine
end
section
open PySem PySem.W PyProof.Rows
namespace Mine
theorem news_drop2 {h₀ h : Heap} {L : Addr} {x y z : Addr × Obj} {r : Led} (N : News h₀ L h (x :: y :: z :: r)) : News h₀ L h (x :: r) := fun p hp => N p (by
  rcases List.mem_cons.mp hp with e | e
  · exact e ▸ List.mem_cons_self
  · exact List.mem_cons_of_mem _ (List.mem_cons_of_mem _ (List.mem_cons_of_mem _ e)))
theorem take_one {k : Int} {n : Nat} (h : 1 ≤ n) : List.take n [k] = [k] := by
  cases n with
  | zero => omega
  | succ n => simp
theorem wrAt_one {ns : List Int} {k : Int} {a : Nat} (h : a < ns.length) : wrAt ns a [k] = ns.set a k := by
  unfold wrAt
  rw [List.set_eq_take_append_cons_drop, if_pos h]
  simp
/-- the six places of a room are six -/
def Sp6 (ol sp dx hd lA lB : Nat) : Prop := dx < sp ∧ sp < ol ∧ ol < hd ∧ hd < lA ∧ lA < lB
theorem octs_one {k : Int} (h : 0 ≤ k) : (one k).cps.toList.map Int.ofNat = [k] := by
  show [Int.ofNat k.toNat] = [k]
  rw [Int.ofNat_eq_natCast, Int.toNat_of_nonneg h]
section
variable {prog : Program} {w : World} {p : Program} {loose : List Str} {mean : ExcName → Option Value} {mg mb : Str → Option Value}
  {dp un : Nat} {gd : Option (List Code)} {cn : Str} {cs : Scope} {a : Addr} {ccd : Value} {cl : List (Str × Addr)} {outer : List Env} {A₀ : Around} {base h₀ : Heap} {L : Addr} {m : Str → Option Value} {s : Shared} {Q E : Value → Shared → Prop}
section
local macro_rules | `(tactic| walk_at "call ref") => `(tactic| (k_here; refine stop_at ?_))
local macro_rules | `(tactic| walk_at "compareOp In str ref") => `(tactic| (k_here; k_dflt (refine kda_in (knd := PySem.strKind _ _) (by k_asm) (by k_mem) (by k_asm) (by k_asm) (strKind_is _ _ _ _) true (by rfl) ?_)))
local macro_rules | `(tactic| walk_at "subscriptTail") => `(tactic| (k_here; k_dflt ((with_reducible show wpAny _ _ (subscriptTail _ _ (Value.ref _) (Value.str _ _)) _ _ _); refine kda_item (knd := PySem.strKind _ _) (by k_asm) (by k_mem) (by k_asm) (strKind_is _ _ _ _) (by rfl) ?_)))
local macro_rules | `(tactic| walk_at "subscriptTail Name Constant ref int") => `(tactic| (k_here; (with_unfolding_all refine' item_litK ?k1 ?k2 ?k3 ?k4 ?_ ?k6; (case k1 => exact News.isList (by k_asm) (by k_mem)); (case k2 => decide); (case k3 => decide); (case k4 => rfl); (case k6 => with_unfolding_all rfl); k_whole)))
set_option maxRecDepth 100000 in
set_option maxHeartbeats 8000000 in
theorem putA_c {sp dx ol hd lA lB : Addr} {v3 v4 v6 v7 v8 : Value} {k1 k2 k3 k4 k5 k6 k7 k8 t0 t1 t2 t3 t4 tn ts tx : Tok} {own : List (Addr × Obj)} {vs : List Value} {ns : List Int} {e eA eB : Nat} {od : Obj} {sz pA qA pB qB spot k : Int}
    (B : Below A₀ base outer h₀) (F : Fr h₀ L s.heap m) (X : (Mine.hd.heap_39 w.params).In h₀)
    (N : News h₀ L s.heap ((ol, listOf vs.toArray e) :: (sp, instObj 54 dx) :: (dx, spD w k1 k2 k3 k4 k5 k6 k7 k8 (.int sz t0) (.ref ol) v3 v4 (.ref hd) v6 v7 v8) :: (hd, od) :: (lA, W.listOf #[.int pA t1, .int qA t2] eA) :: (lB, W.listOf #[.int pB t3, .int qB t4] eB) :: own))
    (O : OwnOff own [ol, sp, dx, hd, lA, lB]) (D6 : Sp6 ol sp dx hd lA lB)
    (T : Top p loose mean mg mb h₀) (hk : cs.kind = .function) (hI : IntsAre vs ns) (hlen : ns.length ≤ 64)
    (hs : od.IsDictOf (PySem.strKind prog w) [(Str.ofString "A$", Value.ref lA), (Str.ofString "B$", Value.ref lB)])
    (lo : (hd == sysModules) = false) (hp : 0 ≤ pA) (hpq : pA + qA ≤ ns.length) (hs1 : 1 ≤ spot) (hs2 : spot ≤ qA) (hk0 : 0 ≤ k) (hk1 : k < 128)
    (hdp : dp + 10 < recursionLimit) (hu : un + 80 < cLine)
    (ret : ∀ (vs' : List Value) (e' : Nat) (h' : Heap) (tk' : Nat), IntsAre vs' (ns.set (pA + spot - 1).toNat k) → Fr h₀ L h' m →
      News h₀ L h' ((ol, listOf vs'.toArray e') :: (sp, instObj 54 dx) :: (dx, spD w k1 k2 k3 k4 k5 k6 k7 k8 (.int sz t0) (.ref ol) v3 v4 (.ref hd) v6 v7 v8) :: (hd, od) :: (lA, W.listOf #[.int pA t1, .int qA t2] eA) :: (lB, W.listOf #[.int pB t3, .int qB t4] eB) :: own) →
      Q .none { s with heap := h', toks := tk' }) :
    wpAny (model prog w) (ktrTop dp un gd cn cs L a ccd cl outer) (call (.ref 134) [.ref sp, .str (Str.ofString "A$") tn, .int spot ts, .str (one k) tx]) Q E s := by
  have D6' := D6
  unfold Sp6 at D6'
  dsimp only [spD] at *
  refine wpAny_call ?_
  k_dflt cell_enter
  have hx6 : (one k).length ≤ 64 := by simp [one, Str.length]
  have ha : (one k).cps.all (· < 128) = true := by simp [one]; omega
  k_steps
  repeat (first
    | (unfold Stop; (with_reducible show wpAny _ _ (call (Value.ref 75) _) _ _ _); (rename News _ _ _ _ => lN'); (rename @LT.lt Nat _ _ _ ∧ _ => hL1'); (repeat (obtain ⟨_, hL1'⟩ := hL1')); (rename OwnOff _ _ => O8'); (have O9' := off_lt hL1' O8'); (rename IntsAre _ (List.take _ _) => hT'); (simp (disch := omega) only [take_one] at hT'); k_dflt (refine write_c (by k_asm) (by k_asm) (by k_asm) (news_drop2 lN') (by (refine' off4 ?_ ?_ ?_ ?_ <;> k_all)) (by k_ne) (by k_ne) (by k_ne) (by k_ne) (by k_ne) (by k_asm) (by first | exact rfl | assumption) (by assumption) (by assumption) (by omega) (by omega) (by ((simp only [List.length_cons, List.length_nil]); omega)) (by ktr_room) (by ktr_units) ?_); intro vs9' e9' h9' tk9' i9' F9' N9'; k_steps)
    | (unfold Stop; (with_reducible show wpAny _ _ (call (Value.ref 63) _) _ _ _); k_dflt (refine octs_c (by k_asm) (by k_asm) (by k_asm) (by k_asm) (by k_asm) (by first | exact rfl | assumption) (by assumption) (by assumption) (by ktr_room) (by ktr_units) ?_); intro l9' us9' e9' h9' tk9' i9' n9' F9' N9'; (simp (disch := omega) only [octs_one] at i9'); (simp only [LCg.Off1, and_true] at n9'); (repeat (obtain ⟨_, n9'⟩ := n9')); (try (rename OwnOff _ _ => O8'; have O9' := off_cons n9' O8')); k_steps))
  rename IntsAre _ (wrAt _ _ _) => hW
  rw [wrAt_one (by omega)] at hW
  exact ret _ _ _ _ hW (by k_asm) (by k_asm)
set_option maxRecDepth 100000 in
set_option maxHeartbeats 8000000 in
theorem putB_c {sp dx ol hd lA lB : Addr} {v3 v4 v6 v7 v8 : Value} {k1 k2 k3 k4 k5 k6 k7 k8 t0 t1 t2 t3 t4 tn ts tx : Tok} {own : List (Addr × Obj)} {vs : List Value} {ns : List Int} {e eA eB : Nat} {od : Obj} {sz pA qA pB qB spot k : Int}
    (B : Below A₀ base outer h₀) (F : Fr h₀ L s.heap m) (X : (Mine.hd.heap_39 w.params).In h₀)
    (N : News h₀ L s.heap ((ol, listOf vs.toArray e) :: (sp, instObj 54 dx) :: (dx, spD w k1 k2 k3 k4 k5 k6 k7 k8 (.int sz t0) (.ref ol) v3 v4 (.ref hd) v6 v7 v8) :: (hd, od) :: (lA, W.listOf #[.int pA t1, .int qA t2] eA) :: (lB, W.listOf #[.int pB t3, .int qB t4] eB) :: own))
    (O : OwnOff own [ol, sp, dx, hd, lA, lB]) (D6 : Sp6 ol sp dx hd lA lB)
    (T : Top p loose mean mg mb h₀) (hk : cs.kind = .function) (hI : IntsAre vs ns) (hlen : ns.length ≤ 64)
    (hs : od.IsDictOf (PySem.strKind prog w) [(Str.ofString "A$", Value.ref lA), (Str.ofString "B$", Value.ref lB)])
    (lo : (hd == sysModules) = false) (hp : 0 ≤ pB) (hpq : pB + qB ≤ ns.length) (hs1 : 1 ≤ spot) (hs2 : spot ≤ qB) (hk0 : 0 ≤ k) (hk1 : k < 128)
    (hdp : dp + 10 < recursionLimit) (hu : un + 80 < cLine)
    (ret : ∀ (vs' : List Value) (e' : Nat) (h' : Heap) (tk' : Nat), IntsAre vs' (ns.set (pB + spot - 1).toNat k) → Fr h₀ L h' m →
      News h₀ L h' ((ol, listOf vs'.toArray e') :: (sp, instObj 54 dx) :: (dx, spD w k1 k2 k3 k4 k5 k6 k7 k8 (.int sz t0) (.ref ol) v3 v4 (.ref hd) v6 v7 v8) :: (hd, od) :: (lA, W.listOf #[.int pA t1, .int qA t2] eA) :: (lB, W.listOf #[.int pB t3, .int qB t4] eB) :: own) →
      Q .none { s with heap := h', toks := tk' }) :
    wpAny (model prog w) (ktrTop dp un gd cn cs L a ccd cl outer) (call (.ref 134) [.ref sp, .str (Str.ofString "B$") tn, .int spot ts, .str (one k) tx]) Q E s := by
  have D6' := D6
  unfold Sp6 at D6'
  dsimp only [spD] at *
  refine wpAny_call ?_
  k_dflt cell_enter
  have hx6 : (one k).length ≤ 64 := by simp [one, Str.length]
  have ha : (one k).cps.all (· < 128) = true := by simp [one]; omega
  k_steps
  repeat (first
    | (unfold Stop; (with_reducible show wpAny _ _ (call (Value.ref 75) _) _ _ _); (rename News _ _ _ _ => lN'); (rename @LT.lt Nat _ _ _ ∧ _ => hL1'); (repeat (obtain ⟨_, hL1'⟩ := hL1')); (rename OwnOff _ _ => O8'); (have O9' := off_lt hL1' O8'); (rename IntsAre _ (List.take _ _) => hT'); (simp (disch := omega) only [take_one] at hT'); k_dflt (refine write_c (by k_asm) (by k_asm) (by k_asm) (news_drop2 lN') (by (refine' off4 ?_ ?_ ?_ ?_ <;> k_all)) (by k_ne) (by k_ne) (by k_ne) (by k_ne) (by k_ne) (by k_asm) (by first | exact rfl | assumption) (by assumption) (by assumption) (by omega) (by omega) (by ((simp only [List.length_cons, List.length_nil]); omega)) (by ktr_room) (by ktr_units) ?_); intro vs9' e9' h9' tk9' i9' F9' N9'; k_steps)
    | (unfold Stop; (with_reducible show wpAny _ _ (call (Value.ref 63) _) _ _ _); k_dflt (refine octs_c (by k_asm) (by k_asm) (by k_asm) (by k_asm) (by k_asm) (by first | exact rfl | assumption) (by assumption) (by assumption) (by ktr_room) (by ktr_units) ?_); intro l9' us9' e9' h9' tk9' i9' n9' F9' N9'; (simp (disch := omega) only [octs_one] at i9'); (simp only [LCg.Off1, and_true] at n9'); (repeat (obtain ⟨_, n9'⟩ := n9')); (try (rename OwnOff _ _ => O8'; have O9' := off_cons n9' O8')); k_steps))
  rename IntsAre _ (wrAt _ _ _) => hW
  rw [wrAt_one (by omega)] at hW
  exact ret _ _ _ _ hW (by k_asm) (by k_asm)
end
end
end Mine
end
section
open PySem PySem.W PyProof.Rows
namespace Mine
def Ok (xs : List Int) : Prop := ∀ k ∈ xs, 0 ≤ k ∧ k < 128
theorem Ok.set {xs : List Int} {k : Int} (h : Ok xs) (i : Nat) (hk : 0 ≤ k ∧ k < 128) : Ok (xs.set i k) := fun y hy => by
  rcases List.mem_or_eq_of_mem_set hy with h' | h'
  · exact h y h'
  · exact h' ▸ hk
theorem Ok.at {xs : List Int} (h : Ok xs) {i : Nat} (hi : i < xs.length) : 0 ≤ xs.getD i 0 ∧ xs.getD i 0 < 128 := by
  rw [List.getD_eq_getElem?_getD, List.getElem?_eq_getElem hi]
  exact h _ (List.getElem_mem hi)
theorem Ok.app {xs ys : List Int} (h : Ok xs) (k : Ok ys) : Ok (xs ++ ys) := fun y hy => (List.mem_append.mp hy).elim (h y) (k y)
section
variable {prog : Program} {w : World} {p : Program} {loose : List Str} {mean : ExcName → Option Value} {mg mb : Str → Option Value}
  {dp un : Nat} {gd : Option (List Code)} {cn : Str} {cs : Scope} {a : Addr} {ccd : Value} {cl : List (Str × Addr)} {outer : List Env} {A₀ : Around} {base h₀ : Heap} {L : Addr} {m : Str → Option Value} {s : Shared} {Q E : Value → Shared → Prop}
variable {sp dx ol hd lA lB : Addr} {v3 v4 v6 v7 v8 : Value} {k1 k2 k3 k4 k5 k6 k7 k8 t0 t1 t2 t3 t4 tn ts tx : Tok} {own : List (Addr × Obj)} {vs : List Value} {xa xb : List Int} {e eA eB n : Nat} {od : Obj} {sz pA qA pB qB spot k : Int}
theorem getA_c
    (B : Below A₀ base outer h₀) (F : Fr h₀ L s.heap m) (X : (Mine.hd.heap_39 w.params).In h₀)
    (N : News h₀ L s.heap ((ol, listOf vs.toArray e) :: (sp, instObj 54 dx) :: (dx, spD w k1 k2 k3 k4 k5 k6 k7 k8 (.int sz t0) (.ref ol) v3 v4 (.ref hd) v6 v7 v8) :: (hd, od) :: (lA, W.listOf #[.int pA t1, .int qA t2] eA) :: (lB, W.listOf #[.int pB t3, .int qB t4] eB) :: own))
    (O : OwnOff own [ol, sp, dx, hd, lA, lB]) (D6 : Sp6 ol sp dx hd lA lB) (T : Top p loose mean mg mb h₀) (hk : cs.kind = .function) (hI : IntsAre vs (xb ++ xa)) (hxa : xa.length = n) (hxb : xb.length = n) (hn : n ≤ 32)
    (hs : od.IsDictOf (PySem.strKind prog w) [(Str.ofString "A$", Value.ref lA), (Str.ofString "B$", Value.ref lB)])
    (lo : (hd == sysModules) = false) (hpA : pA = n) (hqA : qA = n) (hpB : pB = 0) (hqB : qB = n)
    (hoA : Ok xa) (hoB : Ok xb) (hdp : dp + 10 < recursionLimit) (hu : un + 80 < cLine)
    (ret : ∀ (t : Tok) (h' : Heap) (tk' : Nat), Fr h₀ L h' m → News h₀ L h' ((ol, listOf vs.toArray e) :: (sp, instObj 54 dx) :: (dx, spD w k1 k2 k3 k4 k5 k6 k7 k8 (.int sz t0) (.ref ol) v3 v4 (.ref hd) v6 v7 v8) :: (hd, od) :: (lA, W.listOf #[.int pA t1, .int qA t2] eA) :: (lB, W.listOf #[.int pB t3, .int qB t4] eB) :: own) → Q (.str (txt xa) t) { s with heap := h', toks := tk' }) :
    wpAny (model prog w) (ktrTop dp un gd cn cs L a ccd cl outer) (call (.ref 127) [.ref sp, .str (Str.ofString "A$") tn]) Q E s := by
  have hlen : (xb ++ xa).length = n + n := by rw [List.length_append, hxa, hxb]
  refine textA_c B F X N O T hk hI (by omega) hs lo (by omega) (by omega) (by omega) (hoB.app hoA) hdp hu fun t h' tk' F' N' => ?_
  have e : ((xb ++ xa).drop pA.toNat).take qA.toNat = xa := by
    rw [show pA.toNat = xb.length by omega, List.drop_left, List.take_of_length_le (by omega)]
  rw [e]
  exact ret t h' tk' F' N'
theorem setA_c
    (B : Below A₀ base outer h₀) (F : Fr h₀ L s.heap m) (X : (Mine.hd.heap_39 w.params).In h₀)
    (N : News h₀ L s.heap ((ol, listOf vs.toArray e) :: (sp, instObj 54 dx) :: (dx, spD w k1 k2 k3 k4 k5 k6 k7 k8 (.int sz t0) (.ref ol) v3 v4 (.ref hd) v6 v7 v8) :: (hd, od) :: (lA, W.listOf #[.int pA t1, .int qA t2] eA) :: (lB, W.listOf #[.int pB t3, .int qB t4] eB) :: own))
    (O : OwnOff own [ol, sp, dx, hd, lA, lB]) (D6 : Sp6 ol sp dx hd lA lB) (T : Top p loose mean mg mb h₀) (hk : cs.kind = .function) (hI : IntsAre vs (xb ++ xa)) (hxa : xa.length = n) (hxb : xb.length = n) (hn : n ≤ 32)
    (hs : od.IsDictOf (PySem.strKind prog w) [(Str.ofString "A$", Value.ref lA), (Str.ofString "B$", Value.ref lB)])
    (lo : (hd == sysModules) = false) (hpA : pA = n) (hqA : qA = n) (hpB : pB = 0) (hqB : qB = n)
    (hs1 : 1 ≤ spot) (hs2 : spot ≤ n) (hkk : 0 ≤ k ∧ k < 128) (ho : Ok xa) (hdp : dp + 10 < recursionLimit) (hu : un + 80 < cLine)
    (ret : ∀ (vs' : List Value) (e' : Nat) (h' : Heap) (tk' : Nat), IntsAre vs' (xb ++ xa.set (spot - 1).toNat k) → (xa.set (spot - 1).toNat k).length = n → Ok (xa.set (spot - 1).toNat k) → Fr h₀ L h' m → News h₀ L h' ((ol, listOf vs'.toArray e') :: (sp, instObj 54 dx) :: (dx, spD w k1 k2 k3 k4 k5 k6 k7 k8 (.int sz t0) (.ref ol) v3 v4 (.ref hd) v6 v7 v8) :: (hd, od) :: (lA, W.listOf #[.int pA t1, .int qA t2] eA) :: (lB, W.listOf #[.int pB t3, .int qB t4] eB) :: own) → Q .none { s with heap := h', toks := tk' }) :
    wpAny (model prog w) (ktrTop dp un gd cn cs L a ccd cl outer) (call (.ref 134) [.ref sp, .str (Str.ofString "A$") tn, .int spot ts, .str (one k) tx]) Q E s := by
  have hlen : (xb ++ xa).length = n + n := by rw [List.length_append, hxa, hxb]
  refine putA_c B F X N O D6 T hk hI (by omega) hs lo (by omega) (by omega) hs1 (by omega) hkk.1 hkk.2 hdp hu fun vs' e' h' tk' hI' F' N' => ?_
  refine ret vs' e' h' tk' ?_ (by rw [List.length_set]; assumption) (ho.set _ hkk) F' N'
  rw [List.set_append_right (h := by omega), show (pA + spot - 1).toNat - xb.length = (spot - 1).toNat by omega] at hI'
  exact hI'
theorem getB_c
    (B : Below A₀ base outer h₀) (F : Fr h₀ L s.heap m) (X : (Mine.hd.heap_39 w.params).In h₀)
    (N : News h₀ L s.heap ((ol, listOf vs.toArray e) :: (sp, instObj 54 dx) :: (dx, spD w k1 k2 k3 k4 k5 k6 k7 k8 (.int sz t0) (.ref ol) v3 v4 (.ref hd) v6 v7 v8) :: (hd, od) :: (lA, W.listOf #[.int pA t1, .int qA t2] eA) :: (lB, W.listOf #[.int pB t3, .int qB t4] eB) :: own))
    (O : OwnOff own [ol, sp, dx, hd, lA, lB]) (D6 : Sp6 ol sp dx hd lA lB) (T : Top p loose mean mg mb h₀) (hk : cs.kind = .function) (hI : IntsAre vs (xb ++ xa)) (hxa : xa.length = n) (hxb : xb.length = n) (hn : n ≤ 32)
    (hs : od.IsDictOf (PySem.strKind prog w) [(Str.ofString "A$", Value.ref lA), (Str.ofString "B$", Value.ref lB)])
    (lo : (hd == sysModules) = false) (hpA : pA = n) (hqA : qA = n) (hpB : pB = 0) (hqB : qB = n)
    (hoA : Ok xa) (hoB : Ok xb) (hdp : dp + 10 < recursionLimit) (hu : un + 80 < cLine)
    (ret : ∀ (t : Tok) (h' : Heap) (tk' : Nat), Fr h₀ L h' m → News h₀ L h' ((ol, listOf vs.toArray e) :: (sp, instObj 54 dx) :: (dx, spD w k1 k2 k3 k4 k5 k6 k7 k8 (.int sz t0) (.ref ol) v3 v4 (.ref hd) v6 v7 v8) :: (hd, od) :: (lA, W.listOf #[.int pA t1, .int qA t2] eA) :: (lB, W.listOf #[.int pB t3, .int qB t4] eB) :: own) → Q (.str (txt xb) t) { s with heap := h', toks := tk' }) :
    wpAny (model prog w) (ktrTop dp un gd cn cs L a ccd cl outer) (call (.ref 127) [.ref sp, .str (Str.ofString "B$") tn]) Q E s := by
  have hlen : (xb ++ xa).length = n + n := by rw [List.length_append, hxa, hxb]
  refine textB_c B F X N O T hk hI (by omega) hs lo (by omega) (by omega) (by omega) (hoB.app hoA) hdp hu fun t h' tk' F' N' => ?_
  have e : ((xb ++ xa).drop pB.toNat).take qB.toNat = xb := by
    rw [show pB.toNat = 0 by omega, List.drop_zero, show qB.toNat = xb.length by omega, List.take_left]
  rw [e]
  exact ret t h' tk' F' N'
theorem setB_c
    (B : Below A₀ base outer h₀) (F : Fr h₀ L s.heap m) (X : (Mine.hd.heap_39 w.params).In h₀)
    (N : News h₀ L s.heap ((ol, listOf vs.toArray e) :: (sp, instObj 54 dx) :: (dx, spD w k1 k2 k3 k4 k5 k6 k7 k8 (.int sz t0) (.ref ol) v3 v4 (.ref hd) v6 v7 v8) :: (hd, od) :: (lA, W.listOf #[.int pA t1, .int qA t2] eA) :: (lB, W.listOf #[.int pB t3, .int qB t4] eB) :: own))
    (O : OwnOff own [ol, sp, dx, hd, lA, lB]) (D6 : Sp6 ol sp dx hd lA lB) (T : Top p loose mean mg mb h₀) (hk : cs.kind = .function) (hI : IntsAre vs (xb ++ xa)) (hxa : xa.length = n) (hxb : xb.length = n) (hn : n ≤ 32)
    (hs : od.IsDictOf (PySem.strKind prog w) [(Str.ofString "A$", Value.ref lA), (Str.ofString "B$", Value.ref lB)])
    (lo : (hd == sysModules) = false) (hpA : pA = n) (hqA : qA = n) (hpB : pB = 0) (hqB : qB = n)
    (hs1 : 1 ≤ spot) (hs2 : spot ≤ n) (hkk : 0 ≤ k ∧ k < 128) (ho : Ok xb) (hdp : dp + 10 < recursionLimit) (hu : un + 80 < cLine)
    (ret : ∀ (vs' : List Value) (e' : Nat) (h' : Heap) (tk' : Nat), IntsAre vs' (xb.set (spot - 1).toNat k ++ xa) → (xb.set (spot - 1).toNat k).length = n → Ok (xb.set (spot - 1).toNat k) → Fr h₀ L h' m → News h₀ L h' ((ol, listOf vs'.toArray e') :: (sp, instObj 54 dx) :: (dx, spD w k1 k2 k3 k4 k5 k6 k7 k8 (.int sz t0) (.ref ol) v3 v4 (.ref hd) v6 v7 v8) :: (hd, od) :: (lA, W.listOf #[.int pA t1, .int qA t2] eA) :: (lB, W.listOf #[.int pB t3, .int qB t4] eB) :: own) → Q .none { s with heap := h', toks := tk' }) :
    wpAny (model prog w) (ktrTop dp un gd cn cs L a ccd cl outer) (call (.ref 134) [.ref sp, .str (Str.ofString "B$") tn, .int spot ts, .str (one k) tx]) Q E s := by
  have hlen : (xb ++ xa).length = n + n := by rw [List.length_append, hxa, hxb]
  refine putB_c B F X N O D6 T hk hI (by omega) hs lo (by omega) (by omega) hs1 (by omega) hkk.1 hkk.2 hdp hu fun vs' e' h' tk' hI' F' N' => ?_
  refine ret vs' e' h' tk' ?_ (by rw [List.length_set]; assumption) (ho.set _ hkk) F' N'
  rw [List.set_append_left (h := by omega), show (pB + spot - 1).toNat = (spot - 1).toNat by omega] at hI'
  exact hI'
end
end Mine
end
section
open PySem PySem.W PyProof.Rows
local macro_rules | `(tactic| walk_at "subscriptTail") => `(tactic| (k_here; (with_reducible show wpAny _ _ (subscriptTail _ _ (Value.str (txt _) _) (Value.int _ _)) _ _ _); k_dflt (refine Mine.item_txt (by omega) (by omega) (by omega) ?_)))
local macro_rules | `(tactic| walk_at "subscriptTail Name Name str int") => `(tactic| (k_here; k_dflt (refine Mine.item_txt (by omega) (by omega) (by omega) ?_)))
section
open PySem PySem.W PyProof.Rows
namespace Mine

def swp (xs : List Int) (i j : Nat) : List Int := (xs.set i (xs.getD j 0)).set j (xs.getD i 0)
def revF : Nat → Nat → Nat → List Int → List Int
  | 0, _, _, xs => xs
  | f + 1, lo, hi, xs => if 1 < hi - lo then revF f (lo + 1) (hi - 1) (swp xs lo (hi - 1)) else xs
theorem swp_perm {xs : List Int} {i j : Nat} (hi : i < xs.length) (hj : j < xs.length) : (swp xs i j).Perm xs := by
  unfold swp
  rw [List.getD_eq_getElem?_getD, List.getD_eq_getElem?_getD, List.getElem?_eq_getElem hi, List.getElem?_eq_getElem hj]
  exact List.set_set_perm hi hj
theorem ne_sorted {prog : Program} {w : World} {A : Around} {E Q : Value → Shared → Prop} {s : Shared} {a b : Addr} {xs ys : List Value} {ss tt : List Str} {u v : List Int} (ha : s.heap.IsList a xs.toArray) (hb : s.heap.IsList b ys.toArray) (hi : StrsAre xs ss) (hj : StrsAre ys tt)
    (p : ss.Perm (signs (txt u))) (q : tt.Perm (signs (txt v))) (s1 : sortedS ss = true) (s2 : sortedS tt = true) (uv : u.Perm v) (ho : Ok v) (hu : A.units + 64 < cLine) (h : Q (.bool false) s) :
    wpAny (model prog w) A (compareOp .NotEq (.ref a) (.ref b)) Q E s := by
  rw [signs_txt] at p q
  have e : ss = tt := sorted_same p q (uv.map one) s1 s2
  subst e
  refine ne_strs ha hb hi hj ?_ hu h
  rw [q.all_eq, List.all_eq_true]
  intro x hx
  obtain ⟨k, hk, rfl⟩ := List.mem_map.mp hx
  have := ho k hk
  simp [PyData.strOk, one]
  omega
theorem revF_stop {f lo hi : Nat} {xs : List Int} (h : ¬ 1 < hi - lo) : revF f lo hi xs = xs := by
  cases f with
  | zero => rfl
  | succ f => rw [revF, if_neg h]
theorem swp_length (xs : List Int) (i j : Nat) : (swp xs i j).length = xs.length := by simp [swp]
structure RS where
  vs : List Value
  e : Nat
  xa : List Int
  lo : Int
  hi : Int
  many : Int
  tl : Tok
  th : Tok
  tm : Tok
section
variable {prog : Program} {w : World} {p : Program} {loose : List Str} {mean : ExcName → Option Value} {mg mb : Str → Option Value}
  {dp un : Nat} {gd : Option (List Code)} {cn : Str} {cs : Scope} {a : Addr} {ccd : Value} {cl : List (Str × Addr)} {outer : List Env} {A₀ : Around} {base h₀ : Heap} {L : Addr} {m : Str → Option Value} {s : Shared} {Q E : Value → Shared → Prop}
variable {sp dx ol hd lA lB : Addr} {v3 v4 v6 v7 v8 : Value} {k1 k2 k3 k4 k5 k6 k7 k8 t0 t1 t2 t3 t4 tn ts tx : Tok} {own : List (Addr × Obj)} {vs : List Value} {xa xb : List Int} {e eA eB n : Nat} {od : Obj} {sz pA qA pB qB spot k : Int}
section
local macro_rules | `(tactic| walk_at "call ref") => `(tactic| (k_here; refine stop_at ?_))
local macro_rules | `(tactic| walk_at "compareOp NotEq ref ref") => `(tactic| (k_here; refine stop_at ?_))
local macro_rules | `(tactic| walk_at "call builtin:sorted") => `(tactic| (k_here; refine stop_at ?_))
local macro_rules | `(tactic| walk_at "exec While Compare cons nil") => `(tactic| (k_here; refine stop_at ?_))
set_option maxRecDepth 100000 in
set_option maxHeartbeats 8000000 in
theorem rev_c {low high : Int} {tlo thi : Tok}
    (B : Below A₀ base outer h₀) (F : Fr h₀ L s.heap m) (X : (Mine.hd.heap_39 w.params).In h₀)
    (N : News h₀ L s.heap ((ol, listOf vs.toArray e) :: (sp, instObj 54 dx) :: (dx, spD w k1 k2 k3 k4 k5 k6 k7 k8 (.int sz t0) (.ref ol) v3 v4 (.ref hd) v6 v7 v8) :: (hd, od) :: (lA, W.listOf #[.int pA t1, .int qA t2] eA) :: (lB, W.listOf #[.int pB t3, .int qB t4] eB) :: own))
    (O : OwnOff own [ol, sp, dx, hd, lA, lB]) (D6 : Sp6 ol sp dx hd lA lB) (T : Top p loose mean mg mb h₀) (hk : cs.kind = .function) (hI : IntsAre vs (xb ++ xa)) (hxa : xa.length = n) (hxb : xb.length = n) (hn : n ≤ 32)
    (hs : od.IsDictOf (PySem.strKind prog w) [(Str.ofString "A$", Value.ref lA), (Str.ofString "B$", Value.ref lB)])
    (lo : (hd == sysModules) = false) (hpA : pA = n) (hqA : qA = n) (hpB : pB = 0) (hqB : qB = n) (hoA : Ok xa) (hoB : Ok xb)
    (hl0 : 0 ≤ low) (hlh : low ≤ high) (hhn : high ≤ n) (hdp : dp + 15 < recursionLimit) (hu : un + 160 < cLine)
    (ret : ∀ (vs' : List Value) (e' : Nat) (t : Tok) (h' : Heap) (tk' : Nat), IntsAre vs' (xb ++ revF n low.toNat high.toNat xa) → Fr h₀ L h' m → News h₀ L h' ((ol, listOf vs'.toArray e') :: (sp, instObj 54 dx) :: (dx, spD w k1 k2 k3 k4 k5 k6 k7 k8 (.int sz t0) (.ref ol) v3 v4 (.ref hd) v6 v7 v8) :: (hd, od) :: (lA, W.listOf #[.int pA t1, .int qA t2] eA) :: (lB, W.listOf #[.int pB t3, .int qB t4] eB) :: own) → Q (.int ((high - low) / 2) t) { s with heap := h', toks := tk' }) :
    wpAny (model prog w) (ktrTop dp un gd cn cs L a ccd cl outer) (call (.ref 155) [.ref sp, .int low tlo, .int high thi]) Q E s := by
  refine wpAny_call ?_
  k_dflt cell_enter
  k_steps
  unfold Stop
  rename Fr _ _ _ _ => lF'
  rename News _ _ _ _ => lN'
  k_dflt (refine' ksw_while (σ := RS) (fun c => (ol, listOf c.vs.toArray c.e) :: (sp, instObj 54 dx) :: (dx, spD w k1 k2 k3 k4 k5 k6 k7 k8 (.int sz t0) (.ref ol) v3 v4 (.ref hd) v6 v7 v8) :: (hd, od) :: (lA, W.listOf #[.int pA t1, .int qA t2] eA) :: (lB, W.listOf #[.int pB t3, .int qB t4] eB) :: own) (fun c => [(Str.ofString "low", .int c.lo c.tl), (Str.ofString "high", .int c.hi c.th), (Str.ofString "many", .int c.many c.tm)]) (fun c => IntsAre c.vs (xb ++ c.xa)) [Str.ofString "signs"] (fun c => c.xa.length = n ∧ Ok c.xa ∧ 0 ≤ c.lo ∧ c.lo ≤ c.hi ∧ c.hi ≤ n ∧ 2 * c.many + c.hi - c.lo = high - low ∧ ∃ f, (c.hi - c.lo).toNat ≤ f ∧ revF f c.lo.toNat c.hi.toNat c.xa = revF n low.toNat high.toNat xa) (fun c => (c.hi - c.lo).toNat) ⟨vs, e, xa, low, high, 0, _, _, _⟩ lF' lN' hI ?hk9 ⟨hxa, hoA, hl0, hlh, hhn, by dsimp only; omega, n, by dsimp only; omega, rfl⟩ ?turn)
  case hk9 => exact List.forall_mem_cons.mpr ⟨by with_unfolding_all rfl, List.forall_mem_cons.mpr ⟨by with_unfolding_all rfl, List.forall_mem_cons.mpr ⟨by with_unfolding_all rfl, List.forall_mem_nil _⟩⟩⟩
  case turn =>
    clear hI lF' lN'
    rintro ⟨vs, e, xa, clo, chi, many, tl, th, tm⟩ u h tk hI ⟨hxa, hoA, hl0, hlh, hhn, hm, f, hf, hR⟩ lF' lN'
    dsimp only at *
    k_steps
    repeat' (first
      | (unfold Stop; (with_reducible show wpAny _ _ (call (Value.builtin _) [Value.str _ _]) _ _ _); k_dflt (refine' sorted_text ?zzhh9 ?F ?N ?zzz9 ?_; (case zzhh9 => with_unfolding_all rfl); (case F => k_asm); (case N => k_asm); (case zzz9 => (rw [txt_length]; omega))); intro D' h' tk' vs' ss' e' F' N' l1' S' P' Q'; k_lt l1'; all_goals k_steps)
      | (unfold Stop; k_dflt (refine' ne_sorted ?zzha9 ?zzhb9 ?zzhi9 ?zzhj9 ?zzp9 ?zzq9 ?zzs19 ?zzs29 ?zzuv9 ?zzho9 ?zzhu9 ?_; (case zzha9 => exact News.isList (by k_asm) (by k_mem)); (case zzhb9 => exact News.isList (by k_asm) (by k_mem)); (case zzhi9 => assumption); (case zzhj9 => assumption); (case zzp9 => assumption); (case zzq9 => assumption); (case zzs19 => assumption); (case zzs29 => assumption); (case zzuv9 => (refine swp_perm ?_ ?_ <;> omega)); (case zzho9 => assumption); (case zzhu9 => ke_room)); all_goals k_steps)
      | (unfold Stop; (with_reducible show wpAny _ _ (call (Value.ref 134) [Value.ref _, Value.str (Str.ofString "A$") _, _, _]) _ _ _); (rename News _ _ _ _ => lN'); k_dflt (refine setA_c (by k_asm) (by k_asm) (by k_asm) (by first | exact lN' | exact news_tail lN') (by k_asm) (by k_asm) (by k_asm) (by first | exact rfl | assumption) (by k_asm) (by k_asm) (by k_asm) (by k_asm) (by k_asm) (by k_asm) (by k_asm) (by k_asm) (by k_asm) (by k_asm) (by omega) (by omega) (by (refine Ok.at ?_ ?_; k_asm; omega)) (by k_asm) (by first | exact Nat.le_of_ble_eq_true rfl | ktr_room) (by first | exact Nat.le_of_ble_eq_true rfl | ktr_units) ?_); intro vs9' e9' h9' tk9' i9' l9' o9' F9' N9'; (simp only [Int.add_sub_cancel] at i9' l9' o9'); all_goals k_steps)
      | (unfold Stop; (with_reducible show wpAny _ _ (call (Value.ref 127) [Value.ref _, Value.str (Str.ofString "A$") _]) _ _ _); (rename News _ _ _ _ => lN'); k_dflt (refine getA_c (by k_asm) (by k_asm) (by k_asm) (by first | exact lN' | exact news_tail lN') (by k_asm) (by k_asm) (by k_asm) (by first | exact rfl | assumption) (by k_asm) (by k_asm) (by k_asm) (by k_asm) (by k_asm) (by k_asm) (by k_asm) (by k_asm) (by k_asm) (by k_asm) (by k_asm) (by k_asm) (by first | exact Nat.le_of_ble_eq_true rfl | ktr_room) (by first | exact Nat.le_of_ble_eq_true rfl | ktr_units) ?_); intro t9' h9' tk9' F9' N9'; all_goals k_steps))
    · rename Fr _ _ _ _ => lF'
      rename News _ _ _ _ => lN'
      rename IntsAre _ _ => hI9
      rename (List.set _ _ _).length = _ => hL9
      rename Ok (List.set _ _ _) => hO9
      cases f with
      | zero => exfalso; omega
      | succ f =>
        rw [revF, if_pos (by omega), show chi.toNat - 1 = (chi - 1).toNat by omega, show clo.toNat + 1 = (clo + 1).toNat by omega] at hR
        refine' ksw_end ⟨_, _, swp xa clo.toNat (chi - 1).toNat, clo + 1, chi - 1, many + 1, _, _, _⟩ lF' lN' (fun p hp => List.mem_cons_of_mem _ (List.mem_cons_of_mem _ (List.mem_cons_of_mem _ hp))) hI9 ?b ?c ?d ?e
        case b => exact List.forall_mem_cons.mpr ⟨by with_unfolding_all rfl, List.forall_mem_cons.mpr ⟨by with_unfolding_all rfl, List.forall_mem_cons.mpr ⟨by with_unfolding_all rfl, List.forall_mem_nil _⟩⟩⟩
        case c =>
          intro z h2 h3
          have e1 : z ≠ Str.ofString "low" := h2 _ List.mem_cons_self
          have e2 : z ≠ Str.ofString "high" := h2 _ (List.mem_cons_of_mem _ List.mem_cons_self)
          have e3 : z ≠ Str.ofString "many" := h2 _ (List.mem_cons_of_mem _ (List.mem_cons_of_mem _ List.mem_cons_self))
          have e4 : z ≠ Str.ofString "signs" := by simpa using h3
          simp only [e1, e2, e3, e4, if_false, kstB, h3]
          rfl
        case d =>
          dsimp only
          exact ⟨hL9, hO9, by omega, by omega, by omega, by omega, f, by omega, hR⟩
        case e =>
          dsimp only
          omega
    · have hm9 : many = (high - low) / 2 := by omega
      rw [hm9]
      rw [revF_stop (by omega)] at hR
      rw [hR] at hI
      exact ret _ _ _ _ _ hI (by k_asm) (by k_asm)
end
end
end Mine
end
section
open PySem PySem.W PyProof.Rows
namespace Mine

def inn (n many b : Nat) : Nat → Nat → Nat → List Int → Nat × Nat × List Int
  | 0, p, mv, xs => (p, mv, xs)
  | f + 1, p, mv, xs => if (p + many) % n = b then (p, mv + 1, xs) else inn n many b f ((p + many) % n) (mv + 1) (xs.set p (xs.getD ((p + many) % n) 0))
def outer (n many : Nat) : Nat → Nat → Nat → List Int → Nat × List Int
  | 0, _, _, xs => (n, xs)
  | f + 1, b, mv, xs => if mv = n then (b, xs) else outer n many f (b + 1) (inn n many b n b mv xs).2.1 ((inn n many b n b mv xs).2.2.set (inn n many b n b mv xs).1 (xs.getD b 0))
theorem mod_nat {prog : Program} {w : World} {A : Around} {E Q : Value → Shared → Prop} {s : Shared} {a b : Int} {t u : Tok} (ha : 0 ≤ a) (hb : 0 < b) (h : ∀ r : Int, 0 ≤ r → r < b → r.toNat = a.toNat % b.toNat → Q (.int r s.toks) { s with toks := s.toks + 1 }) :
    wpAny (model prog w) A (binaryOp .Mod (.int a t) (.int b u)) Q E s := by
  refine mod_int' (by omega) (h _ (fmod_lo a hb) (fmod_hi a hb) ?_)
  rw [Int.fmod_eq_emod_of_nonneg a (by omega), Int.toNat_emod ha (by omega)]
structure OS where
  vs : List Value
  e : Nat
  xb : List Int
  mv : Int
  t : Tok
structure IS where
  vs : List Value
  e : Nat
  xb : List Int
  pl : Int
  mv : Int
  tp : Tok
  t : Tok
section
variable {prog : Program} {w : World} {p : Program} {loose : List Str} {mean : ExcName → Option Value} {mg mb : Str → Option Value}
  {dp un : Nat} {gd : Option (List Code)} {cn : Str} {cs : Scope} {a : Addr} {ccd : Value} {cl : List (Str × Addr)} {outer₀ : List Env} {A₀ : Around} {base h₀ : Heap} {L : Addr} {m : Str → Option Value} {s : Shared} {Q E : Value → Shared → Prop}
variable {sp dx ol hd lA lB : Addr} {v3 v4 v6 v7 v8 : Value} {k1 k2 k3 k4 k5 k6 k7 k8 t0 t1 t2 t3 t4 tn ts tx : Tok} {own : List (Addr × Obj)} {vs : List Value} {xa xb : List Int} {e eA eB n : Nat} {od : Obj} {sz pA qA pB qB spot k : Int}
section
local macro_rules | `(tactic| walk_at "call ref") => `(tactic| (k_here; refine stop_at ?_))
local macro_rules | `(tactic| walk_at "pyIter ref") => `(tactic| (k_here; refine stop_at ?_))
local macro_rules | `(tactic| walk_at "binaryOp Mod int int") => `(tactic| (k_here; k_dflt (refine mod_nat (by omega) (by omega) ?_); intro r9' m1' m2' m3'))
set_option maxRecDepth 100000 in
set_option maxHeartbeats 8000000 in
theorem rounds_c {size many : Int} {tsz tmn : Tok}
    (B : Below A₀ base outer₀ h₀) (F : Fr h₀ L s.heap m) (X : (Mine.hd.heap_39 w.params).In h₀)
    (N : News h₀ L s.heap ((ol, listOf vs.toArray e) :: (sp, instObj 54 dx) :: (dx, spD w k1 k2 k3 k4 k5 k6 k7 k8 (.int sz t0) (.ref ol) v3 v4 (.ref hd) v6 v7 v8) :: (hd, od) :: (lA, W.listOf #[.int pA t1, .int qA t2] eA) :: (lB, W.listOf #[.int pB t3, .int qB t4] eB) :: own))
    (O : OwnOff own [ol, sp, dx, hd, lA, lB]) (D6 : Sp6 ol sp dx hd lA lB) (T : Top p loose mean mg mb h₀) (hk : cs.kind = .function) (hI : IntsAre vs (xb ++ xa)) (hxa : xa.length = n) (hxb : xb.length = n) (hn : n ≤ 32)
    (hs : od.IsDictOf (PySem.strKind prog w) [(Str.ofString "A$", Value.ref lA), (Str.ofString "B$", Value.ref lB)])
    (lo : (hd == sysModules) = false) (hpA : pA = n) (hqA : qA = n) (hpB : pB = 0) (hqB : qB = n) (hoA : Ok xa) (hoB : Ok xb)
    (hsz : size = n) (hn1 : 1 ≤ n) (hm0 : 0 ≤ many) (hm1 : many < n) (hdp : dp + 15 < recursionLimit) (hu : un + 160 < cLine)
    (ret : ∀ (vs' : List Value) (e' : Nat) (t : Tok) (h' : Heap) (tk' : Nat) (r : Int), r = ((outer n many.toNat n 0 0 xb).1 : Int) → IntsAre vs' ((outer n many.toNat n 0 0 xb).2 ++ xa) → Fr h₀ L h' m → News h₀ L h' ((ol, listOf vs'.toArray e') :: (sp, instObj 54 dx) :: (dx, spD w k1 k2 k3 k4 k5 k6 k7 k8 (.int sz t0) (.ref ol) v3 v4 (.ref hd) v6 v7 v8) :: (hd, od) :: (lA, W.listOf #[.int pA t1, .int qA t2] eA) :: (lB, W.listOf #[.int pB t3, .int qB t4] eB) :: own) → Q (.int r t) { s with heap := h', toks := tk' }) :
    wpAny (model prog w) (ktrTop dp un gd cn cs L a ccd cl outer₀) (call (.ref 162) [.ref sp, .int size tsz, .int many tmn]) Q E s := by
  obtain ⟨xb₀, hxb₀⟩ : ∃ x, x = xb := ⟨_, rfl⟩
  rw [← hxb₀] at ret
  refine wpAny_call ?_
  k_dflt cell_enter
  k_steps
  repeat' (first
    | (unfold Stop; (with_reducible show wpAny _ _ (call (Value.ref 134) [Value.ref _, Value.str (Str.ofString "B$") _, _, _]) _ _ _); (rename News _ _ _ _ => lN'); k_dflt (refine setB_c (by k_asm) (by k_asm) (by k_asm) (by first | exact lN' | exact news_tail lN') (by k_asm) (by k_asm) (by k_asm) (by first | exact rfl | assumption) (by k_asm) (by k_asm) (by k_asm) (by k_asm) (by k_asm) (by k_asm) (by k_asm) (by k_asm) (by k_asm) (by k_asm) (by omega) (by omega) (by (refine Ok.at ?_ ?_; k_asm; omega)) (by k_asm) (by first | exact Nat.le_of_ble_eq_true rfl | ktr_room) (by first | exact Nat.le_of_ble_eq_true rfl | ktr_units) ?_); intro vs9' e9' h9' tk9' i9' l9' o9' F9' N9'; (simp only [Int.add_sub_cancel] at i9' l9' o9'); all_goals k_steps)
    | (unfold Stop; (with_reducible show wpAny _ _ (call (Value.ref 127) [Value.ref _, Value.str (Str.ofString "B$") _]) _ _ _); (rename News _ _ _ _ => lN'); k_dflt (refine getB_c (by k_asm) (by k_asm) (by k_asm) (by first | exact lN' | exact news_tail lN') (by k_asm) (by k_asm) (by k_asm) (by first | exact rfl | assumption) (by k_asm) (by k_asm) (by k_asm) (by k_asm) (by k_asm) (by k_asm) (by k_asm) (by k_asm) (by k_asm) (by k_asm) (by k_asm) (by k_asm) (by first | exact Nat.le_of_ble_eq_true rfl | ktr_room) (by first | exact Nat.le_of_ble_eq_true rfl | ktr_units) ?_); intro t9' h9' tk9' F9' N9'; all_goals k_steps))
  unfold Stop
  rename Fr _ _ _ _ => lF'
  rename News _ _ _ _ => lN'
  rename IsRange _ _ _ _ _ _ _ _ => hRg9
  k_dflt (refine' range_st (σ := OS) (n := n) (own₀ := own) (fun c => [(ol, listOf c.vs.toArray c.e), (sp, instObj 54 dx), (dx, spD w k1 k2 k3 k4 k5 k6 k7 k8 (.int sz t0) (.ref ol) v3 v4 (.ref hd) v6 v7 v8), (hd, od), (lA, W.listOf #[.int pA t1, .int qA t2] eA), (lB, W.listOf #[.int pB t3, .int qB t4] eB)]) (fun c => [(Str.ofString "moved", .int c.mv c.t)]) [Str.ofString "begin", Str.ofString "first", Str.ofString "at", Str.ofString "turn", Str.ofString "goal", Str.ofString "sign"] (fun i c => IntsAre c.vs (c.xb ++ xa) ∧ c.xb.length = n ∧ Ok c.xb ∧ 0 ≤ c.mv ∧ outer n many.toNat (n - i) i c.mv.toNat c.xb = outer n many.toNat n 0 0 xb₀) ⟨vs, e, xb, 0, _⟩ (by with_unfolding_all rfl) hRg9 (small_one (by omega) (by omega) (by omega) (by omega)) (by rw [rangeSize_one]; split <;> omega) lF' lN' O (fun _ => rfl) ?hk9 ⟨hI, hxb, hoB, by dsimp only; omega, by rw [hxb₀]; rfl⟩ ?turn ?done)
  case hk9 => exact List.forall_mem_cons.mpr ⟨by with_unfolding_all rfl, List.forall_mem_nil _⟩
  case turn =>
    clear hI lF' lN' hRg9 O
    rintro i t ⟨vs, e, xb, mv, tmv⟩ u h tk own hi ⟨hI, hxb, hoB, hmv, hR⟩ O hsub lF' lN'
    replace O : OwnOff own [ol, sp, dx, hd, lA, lB] := O
    dsimp only at hI hxb hoB hmv hR lF'
    simp only [List.cons_append, List.nil_append] at lN'
    show wpAny _ _ _ _ _ _
    k_fold
    k_steps
    repeat' (first
      | (unfold Stop; (with_reducible show wpAny _ _ (call (Value.ref 134) [Value.ref _, Value.str (Str.ofString "B$") _, _, _]) _ _ _); (rename News _ _ _ _ => lN'); k_dflt (refine setB_c (by k_asm) (by k_asm) (by k_asm) (by first | exact lN' | exact news_tail lN') (by k_asm) (by k_asm) (by k_asm) (by first | exact rfl | assumption) (by k_asm) (by k_asm) (by k_asm) (by k_asm) (by k_asm) (by k_asm) (by k_asm) (by k_asm) (by k_asm) (by k_asm) (by omega) (by omega) (by (refine Ok.at ?_ ?_; k_asm; omega)) (by k_asm) (by first | exact Nat.le_of_ble_eq_true rfl | ktr_room) (by first | exact Nat.le_of_ble_eq_true rfl | ktr_units) ?_); intro vs9' e9' h9' tk9' i9' l9' o9' F9' N9'; (simp only [Int.add_sub_cancel] at i9' l9' o9'); all_goals k_steps)
      | (unfold Stop; (with_reducible show wpAny _ _ (call (Value.ref 127) [Value.ref _, Value.str (Str.ofString "B$") _]) _ _ _); (rename News _ _ _ _ => lN'); k_dflt (refine getB_c (by k_asm) (by k_asm) (by k_asm) (by first | exact lN' | exact news_tail lN') (by k_asm) (by k_asm) (by k_asm) (by first | exact rfl | assumption) (by k_asm) (by k_asm) (by k_asm) (by k_asm) (by k_asm) (by k_asm) (by k_asm) (by k_asm) (by k_asm) (by k_asm) (by k_asm) (by k_asm) (by first | exact Nat.le_of_ble_eq_true rfl | ktr_room) (by first | exact Nat.le_of_ble_eq_true rfl | ktr_units) ?_); intro t9' h9' tk9' F9' N9'; all_goals k_steps))
    · dsimp only
      k_steps
      repeat' (first
        | (unfold Stop; (with_reducible show wpAny _ _ (call (Value.ref 134) [Value.ref _, Value.str (Str.ofString "B$") _, _, _]) _ _ _); (rename News _ _ _ _ => lN'); k_dflt (refine setB_c (by k_asm) (by k_asm) (by k_asm) (by first | exact lN' | exact news_tail lN') (by k_asm) (by k_asm) (by k_asm) (by first | exact rfl | assumption) (by k_asm) (by k_asm) (by k_asm) (by k_asm) (by k_asm) (by k_asm) (by k_asm) (by k_asm) (by k_asm) (by k_asm) (by omega) (by omega) (by (refine Ok.at ?_ ?_; k_asm; omega)) (by k_asm) (by first | exact Nat.le_of_ble_eq_true rfl | ktr_room) (by first | exact Nat.le_of_ble_eq_true rfl | ktr_units) ?_); intro vs9' e9' h9' tk9' i9' l9' o9' F9' N9'; (simp only [Int.add_sub_cancel] at i9' l9' o9'); all_goals k_steps)
        | (unfold Stop; (with_reducible show wpAny _ _ (call (Value.ref 127) [Value.ref _, Value.str (Str.ofString "B$") _]) _ _ _); (rename News _ _ _ _ => lN'); k_dflt (refine getB_c (by k_asm) (by k_asm) (by k_asm) (by first | exact lN' | exact news_tail lN') (by k_asm) (by k_asm) (by k_asm) (by first | exact rfl | assumption) (by k_asm) (by k_asm) (by k_asm) (by k_asm) (by k_asm) (by k_asm) (by k_asm) (by k_asm) (by k_asm) (by k_asm) (by k_asm) (by k_asm) (by first | exact Nat.le_of_ble_eq_true rfl | ktr_room) (by first | exact Nat.le_of_ble_eq_true rfl | ktr_units) ?_); intro t9' h9' tk9' F9' N9'; all_goals k_steps))
      dsimp only [RgPost]
      k_steps
      repeat' (first
        | (unfold Stop; (with_reducible show wpAny _ _ (call (Value.ref 134) [Value.ref _, Value.str (Str.ofString "B$") _, _, _]) _ _ _); (rename News _ _ _ _ => lN'); k_dflt (refine setB_c (by k_asm) (by k_asm) (by k_asm) (by first | exact lN' | exact news_tail lN') (by k_asm) (by k_asm) (by k_asm) (by first | exact rfl | assumption) (by k_asm) (by k_asm) (by k_asm) (by k_asm) (by k_asm) (by k_asm) (by k_asm) (by k_asm) (by k_asm) (by k_asm) (by omega) (by omega) (by (refine Ok.at ?_ ?_; k_asm; omega)) (by k_asm) (by first | exact Nat.le_of_ble_eq_true rfl | ktr_room) (by first | exact Nat.le_of_ble_eq_true rfl | ktr_units) ?_); intro vs9' e9' h9' tk9' i9' l9' o9' F9' N9'; (simp only [Int.add_sub_cancel] at i9' l9' o9'); all_goals k_steps)
        | (unfold Stop; (with_reducible show wpAny _ _ (call (Value.ref 127) [Value.ref _, Value.str (Str.ofString "B$") _]) _ _ _); (rename News _ _ _ _ => lN'); k_dflt (refine getB_c (by k_asm) (by k_asm) (by k_asm) (by first | exact lN' | exact news_tail lN') (by k_asm) (by k_asm) (by k_asm) (by first | exact rfl | assumption) (by k_asm) (by k_asm) (by k_asm) (by k_asm) (by k_asm) (by k_asm) (by k_asm) (by k_asm) (by k_asm) (by k_asm) (by k_asm) (by k_asm) (by first | exact Nat.le_of_ble_eq_true rfl | ktr_room) (by first | exact Nat.le_of_ble_eq_true rfl | ktr_units) ?_); intro t9' h9' tk9' F9' N9'; all_goals k_steps))
      have hRR : outer n many.toNat n 0 0 xb₀ = (i, xb) := by
        rw [← hR, show n - i = (n - (i + 1)) + 1 by omega, outer, if_pos (by omega)]
      rw [hRR] at ret
      rename News h₀ _ _ _ => lN9
      exact ret _ _ _ _ _ _ (by show (0 + (i : Int)) = ((i : Nat) : Int); omega) hI (by k_asm) (news_sub6 lN9 hsub)
    · unfold Stop
      rename Fr _ _ _ _ => lF2
      rename News _ _ _ _ => lN2
      rename IsRange _ _ _ _ _ _ _ _ => hRg2
      k_dflt (refine' range_st (σ := IS) (n := n) (own₀ := own) (fun c => [(ol, listOf c.vs.toArray c.e), (sp, instObj 54 dx), (dx, spD w k1 k2 k3 k4 k5 k6 k7 k8 (.int sz t0) (.ref ol) v3 v4 (.ref hd) v6 v7 v8), (hd, od), (lA, W.listOf #[.int pA t1, .int qA t2] eA), (lB, W.listOf #[.int pB t3, .int qB t4] eB)]) (fun c => [(Str.ofString "at", .int c.pl c.tp), (Str.ofString "moved", .int c.mv c.t)]) [Str.ofString "turn", Str.ofString "goal", Str.ofString "sign"] (fun j c => IntsAre c.vs (c.xb ++ xa) ∧ c.xb.length = n ∧ Ok c.xb ∧ 0 ≤ c.mv ∧ 0 ≤ c.pl ∧ c.pl < n ∧ inn n many.toNat i (n - j) c.pl.toNat c.mv.toNat c.xb = inn n many.toNat i n i mv.toNat xb) ⟨vs, e, xb, 0 + (i : Int), mv, _, _⟩ (by with_unfolding_all rfl) hRg2 (small_one (by omega) (by omega) (by omega) (by omega)) (by rw [rangeSize_one]; split <;> omega) lF2 (fun p hp => lN2 p (List.mem_cons_of_mem _ hp)) O (fun _ => rfl) ?hk8 ⟨hI, hxb, hoB, hmv, by dsimp only; omega, by dsimp only; omega, by dsimp only; rw [show (0 + (i : Int)).toNat = i by omega]; rfl⟩ ?turn2 ?done2)
      case hk8 => exact List.forall_mem_cons.mpr ⟨by with_unfolding_all rfl, List.forall_mem_cons.mpr ⟨by with_unfolding_all rfl, List.forall_mem_nil _⟩⟩
      case turn2 =>
        clear lF2 lN2 hRg2 O
        rintro j tj ⟨vs2, e2, xb2, pl, mv2, tp2, tm2⟩ u2 h2 tk2 own2 hj ⟨hI2, hxb2, hoB2, hmv2, hp0, hp1, hR2⟩ O2 hsub2 lF3 lN3
        replace O2 : OwnOff own2 [ol, sp, dx, hd, lA, lB] := O2
        dsimp only at hI2 hxb2 hoB2 hmv2 hp0 hp1 hR2 lF3
        simp only [List.cons_append, List.nil_append] at lN3
        show wpAny _ _ _ _ _ _
        k_fold
        k_steps
        repeat' (first
          | (unfold Stop; (with_reducible show wpAny _ _ (call (Value.ref 134) [Value.ref _, Value.str (Str.ofString "B$") _, _, _]) _ _ _); (rename News _ _ _ _ => lN'); k_dflt (refine setB_c (by k_asm) (by k_asm) (by k_asm) (by first | exact lN' | exact news_tail lN') (by k_asm) (by k_asm) (by k_asm) (by first | exact rfl | assumption) (by k_asm) (by k_asm) (by k_asm) (by k_asm) (by k_asm) (by k_asm) (by k_asm) (by k_asm) (by k_asm) (by k_asm) (by omega) (by omega) (by (refine Ok.at ?_ ?_; k_asm; omega)) (by k_asm) (by first | exact Nat.le_of_ble_eq_true rfl | ktr_room) (by first | exact Nat.le_of_ble_eq_true rfl | ktr_units) ?_); intro vs9' e9' h9' tk9' i9' l9' o9' F9' N9'; (simp only [Int.add_sub_cancel] at i9' l9' o9'); all_goals k_steps)
          | (unfold Stop; (with_reducible show wpAny _ _ (call (Value.ref 127) [Value.ref _, Value.str (Str.ofString "B$") _]) _ _ _); (rename News _ _ _ _ => lN'); k_dflt (refine getB_c (by k_asm) (by k_asm) (by k_asm) (by first | exact lN' | exact news_tail lN') (by k_asm) (by k_asm) (by k_asm) (by first | exact rfl | assumption) (by k_asm) (by k_asm) (by k_asm) (by k_asm) (by k_asm) (by k_asm) (by k_asm) (by k_asm) (by k_asm) (by k_asm) (by k_asm) (by k_asm) (by first | exact Nat.le_of_ble_eq_true rfl | ktr_room) (by first | exact Nat.le_of_ble_eq_true rfl | ktr_units) ?_); intro t9' h9' tk9' F9' N9'; all_goals k_steps))
        · rename _ = _ % _ => hM3
          have hG : (pl.toNat + many.toNat) % n = i := by
            rw [show pl.toNat + many.toNat = (pl + many).toNat by omega, show n = size.toNat by omega, ← hM3]
            omega
          rw [show n - j = (n - (j + 1)) + 1 by omega, inn, if_pos hG] at hR2
          dsimp only
          show qk Flow.brk _
          k_unfold
          dsimp only [RgPost]
          k_steps
          repeat' (first
            | (unfold Stop; (with_reducible show wpAny _ _ (call (Value.ref 134) [Value.ref _, Value.str (Str.ofString "B$") _, _, _]) _ _ _); (rename News _ _ _ _ => lN'); k_dflt (refine setB_c (by k_asm) (by k_asm) (by k_asm) (by first | exact lN' | exact news_tail lN') (by k_asm) (by k_asm) (by k_asm) (by first | exact rfl | assumption) (by k_asm) (by k_asm) (by k_asm) (by k_asm) (by k_asm) (by k_asm) (by k_asm) (by k_asm) (by k_asm) (by k_asm) (by omega) (by omega) (by (refine Ok.at ?_ ?_; k_asm; omega)) (by k_asm) (by first | exact Nat.le_of_ble_eq_true rfl | ktr_room) (by first | exact Nat.le_of_ble_eq_true rfl | ktr_units) ?_); intro vs9' e9' h9' tk9' i9' l9' o9' F9' N9'; (simp only [Int.add_sub_cancel] at i9' l9' o9'); all_goals k_steps)
            | (unfold Stop; (with_reducible show wpAny _ _ (call (Value.ref 127) [Value.ref _, Value.str (Str.ofString "B$") _]) _ _ _); (rename News _ _ _ _ => lN'); k_dflt (refine getB_c (by k_asm) (by k_asm) (by k_asm) (by first | exact lN' | exact news_tail lN') (by k_asm) (by k_asm) (by k_asm) (by first | exact rfl | assumption) (by k_asm) (by k_asm) (by k_asm) (by k_asm) (by k_asm) (by k_asm) (by k_asm) (by k_asm) (by k_asm) (by k_asm) (by k_asm) (by k_asm) (by first | exact Nat.le_of_ble_eq_true rfl | ktr_room) (by first | exact Nat.le_of_ble_eq_true rfl | ktr_units) ?_); intro t9' h9' tk9' F9' N9'; all_goals k_steps))
          rename IntsAre _ _ => hI9
          rename (List.set _ _ _).length = _ => hL9
          rename Ok (List.set _ _ _) => hO9
          rw [show (0 + (i : Int)).toNat = i by omega] at hI9 hL9 hO9
          dsimp only [RgPost]
          rename Fr _ _ _ _ => lF9
          rename News _ _ _ _ => lN9
          refine' rg_end ⟨_, _, xb2.set pl.toNat (xb.getD i 0), mv2 + 1, _⟩ lF9 (news_sub6 lN9 hsub2) ?b9 ?c9 ?d9
          case b9 => exact List.forall_mem_cons.mpr ⟨by with_unfolding_all rfl, List.forall_mem_nil _⟩
          case c9 =>
            intro z h2 h3
            have e1 : z ≠ Str.ofString "moved" := h2 _ List.mem_cons_self
            have e2 := h3
            simp only [List.contains_cons, List.contains_nil, Bool.or_false, Bool.or_eq_false_iff, beq_eq_false_iff_ne, ne_eq] at e2
            obtain ⟨f1, f2, f3, f4, f5, f6⟩ := e2
            have h4 : [Str.ofString "turn", Str.ofString "goal", Str.ofString "sign"].contains z = false := by simp only [List.contains_cons, List.contains_nil, Bool.or_false, Bool.or_eq_false_iff, beq_eq_false_iff_ne, ne_eq]; exact ⟨f4, f5, f6⟩
            simp only [e1, f1, f2, f3, f4, f5, f6, if_false, kstB, h3, h4]
            rfl
          case d9 =>
            dsimp only
            refine ⟨hI9, hL9, hO9, by omega, ?_⟩
            rw [← hR, show n - i = (n - (i + 1)) + 1 by omega, outer, if_neg (by omega), ← hR2]
            rw [show (mv2 + 1).toNat = mv2.toNat + 1 by omega]
        · rename _ = _ % _ => hM3
          rw [show (pl + many).toNat = pl.toNat + many.toNat by omega, show size.toNat = n by omega] at hM3
          rw [show n - j = (n - (j + 1)) + 1 by omega, inn, if_neg (by omega), ← hM3] at hR2
          rename IntsAre _ _ => hI9
          rename (List.set _ _ _).length = _ => hL9
          rename Ok (List.set _ _ _) => hO9
          dsimp only [RgPost]
          rename Fr _ _ _ _ => lF9
          rename News _ _ _ _ => lN9
          refine' rg_end ⟨_, _, _, _, mv2 + 1, _, _⟩ lF9 lN9 ?b8 ?c8 ?d8
          case b8 => exact List.forall_mem_cons.mpr ⟨by with_unfolding_all rfl, List.forall_mem_cons.mpr ⟨by with_unfolding_all rfl, List.forall_mem_nil _⟩⟩
          case c8 =>
            intro z h2 h3
            have e1 : z ≠ Str.ofString "at" := h2 _ List.mem_cons_self
            have e2 : z ≠ Str.ofString "moved" := h2 _ (List.mem_cons_of_mem _ List.mem_cons_self)
            have e3 := h3
            simp only [List.contains_cons, List.contains_nil, Bool.or_false, Bool.or_eq_false_iff, beq_eq_false_iff_ne, ne_eq] at e3
            obtain ⟨f4, f5, f6⟩ := e3
            simp only [e1, e2, f4, f5, f6, if_false, kstB, h3]
            rfl
          case d8 =>
            dsimp only
            refine' ⟨hI9, hL9, hO9, ?_, ?_, ?_, ?_⟩
            · omega
            · omega
            · omega
            rw [← hR2, show (mv2 + 1).toNat = mv2.toNat + 1 by omega]
      case done2 =>
        clear lF2 lN2 hRg2
        rintro ⟨vs2, e2, xb2, pl, mv2, tp2, tm2⟩ u2 h2 tk2 ⟨hI2, hxb2, hoB2, hmv2, hp0, hp1, hR2⟩ lF3 lN3
        dsimp only at hI2 hxb2 hoB2 hmv2 hp0 hp1 hR2 lF3
        simp only [List.cons_append, List.nil_append] at lN3
        rw [Nat.sub_self, inn] at hR2
        dsimp only
        k_steps
        repeat' (first
          | (unfold Stop; (with_reducible show wpAny _ _ (call (Value.ref 134) [Value.ref _, Value.str (Str.ofString "B$") _, _, _]) _ _ _); (rename News _ _ _ _ => lN'); k_dflt (refine setB_c (by k_asm) (by k_asm) (by k_asm) (by first | exact lN' | exact news_tail lN') (by k_asm) (by k_asm) (by k_asm) (by first | exact rfl | assumption) (by k_asm) (by k_asm) (by k_asm) (by k_asm) (by k_asm) (by k_asm) (by k_asm) (by k_asm) (by k_asm) (by k_asm) (by omega) (by omega) (by (refine Ok.at ?_ ?_; k_asm; omega)) (by k_asm) (by first | exact Nat.le_of_ble_eq_true rfl | ktr_room) (by first | exact Nat.le_of_ble_eq_true rfl | ktr_units) ?_); intro vs9' e9' h9' tk9' i9' l9' o9' F9' N9'; (simp only [Int.add_sub_cancel] at i9' l9' o9'); all_goals k_steps)
          | (unfold Stop; (with_reducible show wpAny _ _ (call (Value.ref 127) [Value.ref _, Value.str (Str.ofString "B$") _]) _ _ _); (rename News _ _ _ _ => lN'); k_dflt (refine getB_c (by k_asm) (by k_asm) (by k_asm) (by first | exact lN' | exact news_tail lN') (by k_asm) (by k_asm) (by k_asm) (by first | exact rfl | assumption) (by k_asm) (by k_asm) (by k_asm) (by k_asm) (by k_asm) (by k_asm) (by k_asm) (by k_asm) (by k_asm) (by k_asm) (by k_asm) (by k_asm) (by first | exact Nat.le_of_ble_eq_true rfl | ktr_room) (by first | exact Nat.le_of_ble_eq_true rfl | ktr_units) ?_); intro t9' h9' tk9' F9' N9'; all_goals k_steps))
        rename IntsAre _ _ => hI9
        rename (List.set _ _ _).length = _ => hL9
        rename Ok (List.set _ _ _) => hO9
        rw [show (0 + (i : Int)).toNat = i by omega] at hI9 hL9 hO9
        dsimp only [RgPost]
        rename Fr _ _ _ _ => lF9
        rename News _ _ _ _ => lN9
        refine' rg_end ⟨_, _, xb2.set pl.toNat (xb.getD i 0), mv2, _⟩ lF9 lN9 ?b9 ?c9 ?d9
        case b9 => exact List.forall_mem_cons.mpr ⟨by with_unfolding_all rfl, List.forall_mem_nil _⟩
        case c9 =>
          intro z h2 h3
          have e1 : z ≠ Str.ofString "moved" := h2 _ List.mem_cons_self
          have e2 := h3
          simp only [List.contains_cons, List.contains_nil, Bool.or_false, Bool.or_eq_false_iff, beq_eq_false_iff_ne, ne_eq] at e2
          obtain ⟨f1, f2, f3, f4, f5, f6⟩ := e2
          have h4 : [Str.ofString "turn", Str.ofString "goal", Str.ofString "sign"].contains z = false := by simp only [List.contains_cons, List.contains_nil, Bool.or_false, Bool.or_eq_false_iff, beq_eq_false_iff_ne, ne_eq]; exact ⟨f4, f5, f6⟩
          simp only [e1, f1, f2, f3, f4, f5, f6, if_false, kstB, h3, h4]
          rfl
        case d9 =>
          dsimp only
          refine ⟨hI9, hL9, hO9, by omega, ?_⟩
          rw [← hR, show n - i = (n - (i + 1)) + 1 by omega, outer, if_neg (by omega), ← hR2]
  case done =>
    clear hI lF' lN' hRg9
    rintro ⟨vs, e, xb, mv, tmv⟩ u h tk ⟨hI, hxb, hoB, hmv, hR⟩ lF' lN'
    dsimp only at hI hxb hoB hmv hR lF'
    simp only [List.cons_append, List.nil_append] at lN'
    rw [Nat.sub_self, outer] at hR
    dsimp only
    k_steps
    repeat' (first
      | (unfold Stop; (with_reducible show wpAny _ _ (call (Value.ref 134) [Value.ref _, Value.str (Str.ofString "B$") _, _, _]) _ _ _); (rename News _ _ _ _ => lN'); k_dflt (refine setB_c (by k_asm) (by k_asm) (by k_asm) (by first | exact lN' | exact news_tail lN') (by k_asm) (by k_asm) (by k_asm) (by first | exact rfl | assumption) (by k_asm) (by k_asm) (by k_asm) (by k_asm) (by k_asm) (by k_asm) (by k_asm) (by k_asm) (by k_asm) (by k_asm) (by omega) (by omega) (by (refine Ok.at ?_ ?_; k_asm; omega)) (by k_asm) (by first | exact Nat.le_of_ble_eq_true rfl | ktr_room) (by first | exact Nat.le_of_ble_eq_true rfl | ktr_units) ?_); intro vs9' e9' h9' tk9' i9' l9' o9' F9' N9'; (simp only [Int.add_sub_cancel] at i9' l9' o9'); all_goals k_steps)
      | (unfold Stop; (with_reducible show wpAny _ _ (call (Value.ref 127) [Value.ref _, Value.str (Str.ofString "B$") _]) _ _ _); (rename News _ _ _ _ => lN'); k_dflt (refine getB_c (by k_asm) (by k_asm) (by k_asm) (by first | exact lN' | exact news_tail lN') (by k_asm) (by k_asm) (by k_asm) (by first | exact rfl | assumption) (by k_asm) (by k_asm) (by k_asm) (by k_asm) (by k_asm) (by k_asm) (by k_asm) (by k_asm) (by k_asm) (by k_asm) (by k_asm) (by k_asm) (by first | exact Nat.le_of_ble_eq_true rfl | ktr_room) (by first | exact Nat.le_of_ble_eq_true rfl | ktr_units) ?_); intro t9' h9' tk9' F9' N9'; all_goals k_steps))
    rw [← hR] at ret
    exact ret _ _ _ _ _ _ (by show _ = ((n : Nat) : Int); exact hsz) hI (by k_asm) (by k_asm)
end
end
end Mine
end
section
open PySem PySem.W PyProof.Rows
namespace Mine
structure GS where
  x : Int
  y : Int
  tx : Tok
  ty : Tok
section
variable {prog : Program} {w : World} {p : Program} {loose : List Str} {mean : ExcName → Option Value} {mg mb : Str → Option Value}
  {dp un : Nat} {gd : Option (List Code)} {cn : Str} {cs : Scope} {a : Addr} {ccd : Value} {cl : List (Str × Addr)} {outer₀ : List Env} {A₀ : Around} {base h₀ : Heap} {L : Addr} {m : Str → Option Value} {s : Shared} {Q E : Value → Shared → Prop}
section
local macro_rules | `(tactic| walk_at "exec While Compare cons nil") => `(tactic| (k_here; refine stop_at ?_))
local macro_rules | `(tactic| walk_at "binaryOp Mod int int") => `(tactic| (k_here; k_dflt (refine mod_nat (by omega) (by omega) ?_); intro r9' m1' m2' m3'))
set_option maxRecDepth 100000 in
set_option maxHeartbeats 8000000 in
theorem gcd_c {own : List (Addr × Obj)} {x y : Int} {tx ty : Tok}
    (B : Below A₀ base outer₀ h₀) (F : Fr h₀ L s.heap m) (X : (Mine.hd.heap_39 w.params).In h₀)
    (N : News h₀ L s.heap own)
    (T : Top p loose mean mg mb h₀) (hk : cs.kind = .function) (hx : 0 ≤ x) (hy : 0 ≤ y)
    (hdp : dp + 5 < recursionLimit) (hu : un + 40 < cLine)
    (ret : ∀ (t : Tok) (h' : Heap) (tk' : Nat) (r : Int), r = (Nat.gcd x.toNat y.toNat : Int) → Fr h₀ L h' m → News h₀ L h' own → Q (.int r t) { s with heap := h', toks := tk' }) :
    wpAny (model prog w) (ktrTop dp un gd cn cs L a ccd cl outer₀) (call (.ref 141) [.int x tx, .int y ty]) Q E s := by
  refine wpAny_call ?_
  k_dflt cell_enter
  k_steps
  unfold Stop
  rename Fr _ _ _ _ => lF'
  rename News _ _ _ _ => lN'
  have ex : (if x < 0 then -x else x) = x := if_neg (by omega)
  have ey : (if y < 0 then -y else y) = y := if_neg (by omega)
  k_dflt (refine' ksw_while (σ := GS) (fun _ => own) (fun c => [(Str.ofString "one", .int c.x c.tx), (Str.ofString "other", .int c.y c.ty)]) (fun _ => True) [] (fun c => 0 ≤ c.x ∧ 0 ≤ c.y ∧ Nat.gcd c.x.toNat c.y.toNat = Nat.gcd x.toNat y.toNat) (fun c => c.y.toNat) ⟨if x < 0 then -x else x, if y < 0 then -y else y, _, _⟩ lF' (news_tail lN') trivial ?hk9 ⟨by dsimp only; omega, by dsimp only; omega, by dsimp only; rw [ex, ey]⟩ ?turn)
  case hk9 => exact List.forall_mem_cons.mpr ⟨by with_unfolding_all rfl, List.forall_mem_cons.mpr ⟨by with_unfolding_all rfl, List.forall_mem_nil _⟩⟩
  case turn =>
    clear lF' lN' ex ey
    rintro ⟨x', y', tx', ty'⟩ u h tk _ ⟨hx', hy', hg⟩ lF' lN'
    dsimp only at hx' hy' hg lF'
    k_steps
    · rename Fr _ _ _ _ => lF9
      rename News _ _ _ _ => lN9
      rename _ = _ % _ => hM3
      refine' ksw_end ⟨_, _, _, _⟩ lF9 lN9 (fun p hp => List.mem_cons_of_mem _ hp) trivial ?b ?c ?d ?e
      case b => exact List.forall_mem_cons.mpr ⟨by with_unfolding_all rfl, List.forall_mem_cons.mpr ⟨by with_unfolding_all rfl, List.forall_mem_nil _⟩⟩
      case c =>
        intro z h2 h3
        have e1 : z ≠ Str.ofString "one" := h2 _ List.mem_cons_self
        have e2 : z ≠ Str.ofString "other" := h2 _ (List.mem_cons_of_mem _ List.mem_cons_self)
        simp only [e1, e2, if_false, kstB, h3]
        rfl
      case d =>
        dsimp only
        refine ⟨by omega, by omega, ?_⟩
        rw [hM3, ← hg, Nat.gcd_comm y'.toNat, ← Nat.gcd_rec, Nat.gcd_comm]
      case e =>
        dsimp only
        have := Nat.mod_lt x'.toNat (show y'.toNat > 0 by omega)
        omega
    · have e0 : y'.toNat = 0 := by omega
      rw [e0, Nat.gcd_zero_right] at hg
      exact ret _ _ _ _ (by omega) (by k_asm) (by k_asm)
end
end
end Mine
end
section
open PySem PySem.W PyProof.Rows
namespace Mine
def rot (m : Nat) (xs : List Int) : List Int := xs.drop m ++ xs.take m
def dueF : Nat → List Int → List Int
  | 0, ks => ks
  | i + 1, ks => rot (i + 1) (dueF i ks)
theorem rot_length (m : Nat) (xs : List Int) : (rot m xs).length = xs.length := by
  unfold rot
  rw [List.length_append, List.length_drop, List.length_take]
  omega
theorem Ok.rot {xs : List Int} (h : Ok xs) (m : Nat) : Ok (rot m xs) := Ok.app (fun y hy => h y (List.mem_of_mem_drop hy)) (fun y hy => h y (List.mem_of_mem_take hy))
theorem dueF_length (i : Nat) (xs : List Int) : (dueF i xs).length = xs.length := by
  induction i with
  | zero => rfl
  | succ i ih => rw [dueF, rot_length, ih]
theorem Ok.dueF {xs : List Int} (h : Ok xs) : ∀ i, Ok (dueF i xs)
  | 0 => h
  | i + 1 => (Ok.dueF h i).rot _
theorem revF_length : ∀ (f lo hi : Nat) (xs : List Int), (revF f lo hi xs).length = xs.length
  | 0, _, _, _ => rfl
  | f + 1, lo, hi, xs => by
    rw [revF]
    split
    · rw [revF_length, swp_length]
    · rfl
theorem Ok.swp {xs : List Int} (h : Ok xs) {i j : Nat} (hi : i < xs.length) (hj : j < xs.length) : Ok (swp xs i j) := (h.set _ (h.at hj)).set _ (h.at hi)
theorem Ok.revF : ∀ {f lo hi : Nat} {xs : List Int}, Ok xs → hi ≤ xs.length → Ok (revF f lo hi xs)
  | 0, _, _, _, h, _ => h
  | f + 1, lo, hi, xs, h, hl => by
    rw [Mine.revF]
    split
    · exact Ok.revF (h.swp (by omega) (by omega)) (by rw [swp_length]; omega)
    · exact h
theorem five {xs : List Int} (h : xs.length = 5) : ∃ a b c d e, xs = [a, b, c, d, e] := by
  match xs, h with
  | [a, b, c, d, e], _ => exact ⟨a, b, c, d, e, rfl⟩
theorem six {xs : List Int} (h : xs.length = 6) : ∃ a b c d e f, xs = [a, b, c, d, e, f] := by
  match xs, h with
  | [a, b, c, d, e, f], _ => exact ⟨a, b, c, d, e, f, rfl⟩
theorem seven {xs : List Int} (h : xs.length = 7) : ∃ a b c d e f g, xs = [a, b, c, d, e, f, g] := by
  match xs, h with
  | [a, b, c, d, e, f, g], _ => exact ⟨a, b, c, d, e, f, g, rfl⟩
theorem revs_law {n m : Nat} {xs : List Int} (h5 : 5 ≤ n) (h7 : n ≤ 7) (h1 : 1 ≤ m) (hm : m < n) (hl : xs.length = n) : revF n 0 n (revF n m n (revF n 0 m xs)) = rot m xs := by
  have hn : n = 5 ∨ n = 6 ∨ n = 7 := by omega
  rcases hn with rfl | rfl | rfl
  · obtain ⟨a, b, c, d, e, rfl⟩ := five hl
    have hm' : m = 1 ∨ m = 2 ∨ m = 3 ∨ m = 4 := by omega
    rcases hm' with rfl | rfl | rfl | rfl <;> rfl
  · obtain ⟨a, b, c, d, e, f, rfl⟩ := six hl
    have hm' : m = 1 ∨ m = 2 ∨ m = 3 ∨ m = 4 ∨ m = 5 := by omega
    rcases hm' with rfl | rfl | rfl | rfl | rfl <;> rfl
  · obtain ⟨a, b, c, d, e, f, g, rfl⟩ := seven hl
    have hm' : m = 1 ∨ m = 2 ∨ m = 3 ∨ m = 4 ∨ m = 5 ∨ m = 6 := by omega
    rcases hm' with rfl | rfl | rfl | rfl | rfl | rfl <;> rfl
theorem rounds_law {n m : Nat} {xs : List Int} (h5 : 5 ≤ n) (h7 : n ≤ 7) (h1 : 1 ≤ m) (hm : m < n) (hl : xs.length = n) : outer n m n 0 0 xs = (Nat.gcd n m, rot m xs) := by
  have hn : n = 5 ∨ n = 6 ∨ n = 7 := by omega
  rcases hn with rfl | rfl | rfl
  · obtain ⟨a, b, c, d, e, rfl⟩ := five hl
    have hm' : m = 1 ∨ m = 2 ∨ m = 3 ∨ m = 4 := by omega
    rcases hm' with rfl | rfl | rfl | rfl <;> rfl
  · obtain ⟨a, b, c, d, e, f, rfl⟩ := six hl
    have hm' : m = 1 ∨ m = 2 ∨ m = 3 ∨ m = 4 ∨ m = 5 := by omega
    rcases hm' with rfl | rfl | rfl | rfl | rfl <;> rfl
  · obtain ⟨a, b, c, d, e, f, g, rfl⟩ := seven hl
    have hm' : m = 1 ∨ m = 2 ∨ m = 3 ∨ m = 4 ∨ m = 5 ∨ m = 6 := by omega
    rcases hm' with rfl | rfl | rfl | rfl | rfl | rfl <;> rfl
/-- behind all turns: the first text, or that turned half -/
theorem due_law {n : Nat} {xs : List Int} (h5 : 5 ≤ n) (h7 : n ≤ 7) (hl : xs.length = n) : dueF (n - 1) xs = rot (if n % 2 = 0 then n / 2 else 0) xs := by
  have hn : n = 5 ∨ n = 6 ∨ n = 7 := by omega
  rcases hn with rfl | rfl | rfl
  · obtain ⟨a, b, c, d, e, rfl⟩ := five hl; rfl
  · obtain ⟨a, b, c, d, e, f, rfl⟩ := six hl; rfl
  · obtain ⟨a, b, c, d, e, f, g, rfl⟩ := seven hl; rfl
end Mine
end
section
open PySem PySem.W PyProof.Rows PySem.Spec PySem.Calls
set_option maxRecDepth 100000
namespace Mine
theorem getAttrQ_miss_list {prog : Program} {w : World} {A : Around} {E : Value → Shared → Prop} {s : Shared} {a : Addr} {xs : Array Value} {k : Nat} {name : Str} {Q : Option Value → Shared → Prop}
    (hx : s.heap.get? a = some { cls := .type "list", data := .seq xs k }) (hmiss : typeLookup (.type "list") name = pure none) (hname : (["__module__", "__name__", "__qualname__", "__doc__", "__annotations__"] : List Str).contains name = false) (hA : A.handled = none)
    (h : ∀ h' tk, (∀ b o, s.heap.get? b = some o → h'.get? b = some o) → Q none { s with heap := h', toks := tk }) (hsz : name.length + 100 ≤ sizeLine := by size_fits) :
    wpAny (model prog w) A (getAttr? (.ref a) name) Q E s := by
  obtain ⟨hp, g, d, tk, os⟩ := s
  have hT : ∀ tk', (⟨hp, g, d, tk', os⟩ : Shared).TypeIs (.ref a) "list" := fun _ => ⟨_, hx, rfl⟩
  have f1 := sub_AttributeError
  have f3 := F.slot_list_getattribute.lookup
  have f4 := F.slot_list_getattribute.bind (.ref a)
  have f5 := am_list_getattr_none
  unfold getAttr? getAttrBy? getAttrBy
  repeat (any_goals (first | assumption | exact hT _ | ((with_reducible show wpAny _ _ (call (Value.builtin "list.__getattribute__") _ _) _ _ _); refine call_meets F.slot_list_getattribute (hT _) am_entry_list_getattribute (F.args_list_getattribute_2 _ _) (meets_getattribute_miss_list a xs k #[] name _ hmiss hname hsz) ⟨hx, hA, fun h' tk' e hx' => ?_⟩) | wp_step))
  obtain ⟨t', u', he⟩ := hx'.there
  show wpAny _ _ (getattributeRaised _ _ _ _ _ _ _) _ _ _
  unfold getattributeRaised
  repeat (any_goals (first | assumption | wp_step))
  exact h _ _ hx'.keeps
end Mine
end
section
open PySem PySem.W PyProof.Rows PySem.Spec PySem.Calls
set_option maxRecDepth 100000
namespace Mine
theorem entry_upd : entryFor table "dict.update.loop" = some Builtin.«dict.update.loop» := entryFor_of_tree (by kernel_rfl)
theorem plain_upd : plainId "dict.update.loop" = true := by decide +kernel
theorem keys_miss : typeLookup (.type "list") (Str.ofString "keys") = pure none := am_miss_of_fast (by kernel_rfl)
section
variable {prog : Program} {w : World} {A : Around} {s : Shared} {R : Result → Shared → Prop}
theorem upd_item {d it l p : Addr} {i n n1 : Nat} {ti : Tok} {items : Array Value} {x : Str} {t : Tok} {v res : Value} {kvs : List (Str × Value)}
    (hit : s.heap.IsListIter it l i) (hl : s.heap.IsList l items) (hx : items[i]? = some (.ref p)) (hp : s.heap.get? p = some { cls := .type "tuple", data := .seq #[.str x t, v] n1 })
    (hm : s.heap.DictOf (PySem.strKind prog w) d kvs) (hdi : d ≠ it) (hpi : p ≠ it) (hsz : kvs.length ≤ sizeLine)
    (next : ∀ h' tk, h'.IsListIter it l (i + 1) → h'.DictOf (PySem.strKind prog w) d (stored kvs x v) → (∀ b o, b ≠ it → b ≠ d → s.heap.get? b = some o → h'.get? b = some o) →
      codeAny (model prog w) A (.builtin "dict.update.loop" ⟨[.ref d, .ref it, rawInt ((i : Int) + 1), res], []⟩) R { s with heap := h', toks := tk }) :
    codeAny (model prog w) A (.builtin "dict.update.loop" ⟨[.ref d, .ref it, .int i ti, res], []⟩) R s := by
  refine codeAny_builtin entry_upd ?_
  rw [Around.under_plainId plain_upd _]
  show wpAny _ A.in1 (pyNext (.ref it) >>= _) _ _ s
  refine wpAny_bind (wpAny_pyNext_list_item hit hl hx fun h1 hit1 sb1 => ?_)
  have hp1 : h1.get? p = some { cls := .type "tuple", data := .seq #[.str x t, v] n1 } := sb1.extBut _ _ hpi hp
  have hm1 : h1.DictOf (PySem.strKind prog w) d kvs := by
    obtain ⟨o, es, ep, ho, r⟩ := hm
    exact ⟨o, es, ep, sb1.extBut _ _ hdi ho, r⟩
  dsimp only
  refine wpAny_bind (wpAny_holding ?_)
  refine wpAny_bind (wpAny_tryCatch ?_)
  unfold Builtin.Dict.pairItems
  refine wpAny_bind (wpAny_typeOf (T := "tuple") ⟨_, hp1, rfl⟩ ?_)
  rw [if_pos (by decide)]
  refine wpAny_bind (wpAny_seqItems hp1 rfl ?_)
  refine wpAny_pure ?_
  show wpAny _ _ (holding [.str x t, v] (dictSet d (.str x t) v)) _ _ _
  refine wpAny_holding (wpAny_dictSet_pairs (knd := PySem.strKind prog w) (strKind_is _ _ _ _) hm1 (fun h2 hm2 sb2 => ?_) hsz)
  refine wpAny_pure ⟨plainId_quiet plain_upd _, next h2 _ ?_ hm2 fun b o hb hb2 e => sb2.extBut _ _ hb2 (sb1.extBut _ _ hb e)⟩
  obtain ⟨o, ho, r⟩ := hit1
  exact ⟨o, sb2.extBut _ _ (Ne.symm hdi) ho, r⟩
theorem upd_end {d it l : Addr} {i : Nat} {ti : Tok} {items : Array Value} {res : Value} (hh : A.handled = none)
    (hit : s.heap.IsListIter it l i) (hl : s.heap.IsList l items) (hx : items[i]? = none)
    (h : ∀ h', Heap.ExtBut it s.heap h' → R (.ok (.ret res)) { s with heap := h' }) :
    codeAny (model prog w) A (.builtin "dict.update.loop" ⟨[.ref d, .ref it, .int i ti, res], []⟩) R s := by
  refine codeAny_builtin entry_upd ?_
  rw [Around.under_plainId plain_upd _]
  show wpAny _ A.in1 (pyNext (.ref it) >>= _) _ _ s
  refine wpAny_bind (wpAny_pyNext_list_end hh hit hl hx fun h' he => ?_)
  dsimp only
  show wpAny _ _ (Builtin.Dict.addKeywords d [] >>= _) _ _ _
  exact wpAny_bind (wpAny_pure (wpAny_pure (h h' he)))
end
end Mine
end
section
open PySem PySem.W PyProof.Rows PySem.Spec PySem.Calls
set_option maxRecDepth 100000
namespace Mine
section
variable {prog : Program} {w : World} {A : Around} {E : Value → Shared → Prop} {s : Shared}
/-- dict of a list of two pairs -/
theorem call_dict_two {l p1 p2 : Addr} {n n1 n2 : Nat} {x1 x2 : Str} {t1 t2 : Tok} {v1 v2 : Value} {Q : Value → Shared → Prop} (hA : A.handled = none)
    (hl : s.heap.get? l = some { cls := .type "list", data := .seq #[.ref p1, .ref p2] n }) (h1 : s.heap.get? p1 = some { cls := .type "tuple", data := .seq #[.str x1 t1, v1] n1 }) (h2 : s.heap.get? p2 = some { cls := .type "tuple", data := .seq #[.str x2 t2, v2] n2 })
    (h : ∀ h' tk, h'.DictOf (PySem.strKind prog w) s.heap.objs.size (stored (stored [] x1 v1) x2 v2) → (∀ b o, s.heap.get? b = some o → h'.get? b = some o) → Q (.ref s.heap.objs.size) { s with heap := h', toks := tk }) :
    wpAny (model prog w) A (call (.type "dict") [.ref l]) Q E s := by
  refine callType_codes (Q₁ := fun obj s₁ => obj = .ref s.heap.objs.size ∧ s₁ = { s with heap := s.heap.push { cls := .type "dict", data := .dict #[] } }) F.kt_called_dict (F.kt_typeCall_dict_1 _) F.entry_dict_init (kt_code_dict_new _ ⟨rfl, rfl⟩) ?_
  rintro obj s₁ ⟨rfl, rfl⟩
  have hnew : (s.heap.push { cls := .type "dict", data := .dict #[] }).DictOf (PySem.strKind prog w) s.heap.objs.size [] := Heap.DictOf.new s.heap
  have up : ∀ b o, s.heap.get? b = some o → (s.heap.push { cls := .type "dict", data := .dict #[] }).get? b = some o := fun b o e => Heap.get?_push_of_some _ e
  refine ⟨hnew.typeIs, F.args_dict_init_2 _ _, ?_⟩
  unfold Builtin.«dict.__init__»
  refine wpAny_bind ?_
  unfold Builtin.Dict.selfAndRest
  refine wpAny_bind (wpAny_notOrdered_dict hnew.typeIs ?_)
  show wpAny _ _ (pure (s.heap.objs.size, [Value.ref l])) _ _ _
  refine wpAny_pure ?_
  show wpAny _ _ (Builtin.Dict.updateFrom "dict.__init__" s.heap.objs.size (.ref l) [] .none) _ _ _
  unfold Builtin.Dict.updateFrom
  refine wpAny_bind (wpAny_typeOf (T := "list") ⟨_, up _ _ hl, rfl⟩ ?_)
  rw [if_pos (by decide)]
  refine wpAny_bind (getAttrQ_miss_list (up _ _ hl) keys_miss (by decide +kernel) hA (fun g tk kg => ?_) (by rw [sizeLine_eq]; decide))
  simp only [Option.isNone_none, if_true]
  refine wpAny_bind (wpAny_rule ?_)
  have hlt : l < g.objs.size := Heap.lt_size (kg _ _ (up _ _ hl))
  have hd0 : s.heap.objs.size < g.objs.size := by
    obtain ⟨o, _, _, ho, _⟩ := hnew
    exact Heap.lt_size (kg _ _ ho)
  refine wpAny_bind (wpAny_pyIter_list (items := #[.ref p1, .ref p2]) ⟨_, kg _ _ (up _ _ hl), rfl, _, rfl⟩ ?_)
  refine wpAny_pure ⟨plainId_quiet plain_upd _, ?_⟩
  have kp : ∀ b o, s.heap.get? b = some o → (g.push { cls := .type "list_iterator", data := .fields #[.ref l, .int 0 0] }).get? b = some o := fun b o e => Heap.get?_push_of_some _ (kg _ _ (up _ _ e))
  have lt : ∀ {b o}, s.heap.get? b = some o → b < g.objs.size := fun e => Heap.lt_size (kg _ _ (up _ _ e))
  have hD0 : (g.push { cls := .type "list_iterator", data := .fields #[.ref l, .int 0 0] }).DictOf (PySem.strKind prog w) s.heap.objs.size [] := by
    obtain ⟨o, es, ep, ho, r⟩ := hnew
    exact ⟨o, es, ep, Heap.get?_push_of_some _ (kg _ _ ho), r⟩
  have nd : ∀ {b o}, s.heap.get? b = some o → b ≠ s.heap.objs.size := fun e => Nat.ne_of_lt (Heap.lt_size e)
  refine upd_item (i := 0) (n := n) (x := x1) (t := t1) (v := v1) (items := #[.ref p1, .ref p2]) ⟨_, Heap.get?_push_size _ rfl, rfl, rfl⟩ ⟨_, kp _ _ hl, rfl, _, rfl⟩ rfl (kp _ _ h1) hD0 (Nat.ne_of_lt hd0) (Nat.ne_of_lt (lt h1)) (Nat.zero_le _) fun g1 tk1 it1 m1 k1 => ?_
  have kp1 : ∀ b o, s.heap.get? b = some o → g1.get? b = some o := fun b o e => k1 b o (Nat.ne_of_lt (lt e)) (nd e) (kp b o e)
  refine upd_item (i := 1) (n := n) (x := x2) (t := t2) (v := v2) (items := #[.ref p1, .ref p2]) it1 ⟨_, kp1 _ _ hl, rfl, _, rfl⟩ rfl (kp1 _ _ h2) m1 (Nat.ne_of_lt hd0) (Nat.ne_of_lt (lt h2)) (by rw [sizeLine_eq]; exact Nat.le_trans (show _ ≤ 1 from Nat.le_refl _) (by decide)) fun g2 tk2 it2 m2 k2 => ?_
  have kp2 : ∀ b o, s.heap.get? b = some o → g2.get? b = some o := fun b o e => k2 b o (Nat.ne_of_lt (lt e)) (nd e) (kp1 b o e)
  refine upd_end (i := 2) (items := #[.ref p1, .ref p2]) hA it2 ⟨_, kp2 _ _ hl, rfl, _, rfl⟩ rfl fun g3 e3 => ?_
  refine ⟨rfl, h g3 _ ?_ fun b o e => e3 _ _ (Nat.ne_of_lt (lt e)) (kp2 b o e)⟩
  obtain ⟨o, es, ep, ho, r⟩ := m2
  exact ⟨o, es, ep, e3 _ _ (Nat.ne_of_lt hd0) ho, r⟩
end
end Mine
end
section
open PySem PySem.W PyProof.Rows PySem.Spec PySem.Calls
set_option maxRecDepth 100000
namespace Mine
section
variable {prog : Program} {w : World} {A : Around} {E : Value → Shared → Prop} {s : Shared} {h₀ : Heap} {L : Addr} {m : Str → Option Value} {news : Led} {Q : Value → Shared → Prop}
theorem dict_led {l p1 p2 : Addr} {n n1 n2 : Nat} {x1 x2 : Str} {t1 t2 : Tok} {v1 v2 : Value} (hA : A.handled = none) (F : Fr h₀ L s.heap m) (N : News h₀ L s.heap news) (hbig : sysModules < h₀.objs.size)
    (hl : (l, ({ cls := .type "list", data := .seq #[.ref p1, .ref p2] n } : Obj)) ∈ news) (h1 : (p1, ({ cls := .type "tuple", data := .seq #[.str x1 t1, v1] n1 } : Obj)) ∈ news) (h2 : (p2, ({ cls := .type "tuple", data := .seq #[.str x2 t2, v2] n2 } : Obj)) ∈ news)
    (h : ∀ D o' h' tk, Fr h₀ L h' m → News h₀ L h' ((D, o') :: news) → (D == sysModules) = false → o'.IsDictOf (PySem.strKind prog w) (stored (stored [] x1 v1) x2 v2) → Q (.ref D) { s with heap := h', toks := tk }) :
    wpAny (model prog w) A (call (.type "dict") [.ref l]) Q E s := by
  refine call_dict_two hA (N _ hl).1 (N _ h1).1 (N _ h2).1 fun h' tk hm k => ?_
  obtain ⟨o', ho', hd'⟩ := Heap.dictOf_iff.mp hm
  exact h _ o' h' tk (F.kept k) (N.kept_cons F k (Nat.le_refl _) ho') (F.notModules hbig) hd'
theorem held_same {hd D lA lB a b : Addr} {od o' : Obj} {pA qA pB qB z : Int} {t1 t2 t3 t4 u1 u2 u3 u4 : Tok} {eA eB ea eb : Nat} (N : News h₀ L s.heap news) (pa : (hd, od) ∈ news) (pb : (D, o') ∈ news)
    (da : od.IsDictOf (PySem.strKind prog w) [(Str.ofString "A$", Value.ref lA), (Str.ofString "B$", Value.ref lB)]) (db : o'.IsDictOf (PySem.strKind prog w) (stored (stored [] (Str.ofString "A$") (Value.ref a)) (Str.ofString "B$") (Value.ref b)))
    (la : (hd == sysModules) = false) (lb : (D == sysModules) = false)
    (m1 : (lA, W.listOf #[.int pA t1, .int qA t2] eA) ∈ news) (m2 : (lB, W.listOf #[.int pB t3, .int qB t4] eB) ∈ news) (m3 : (a, W.listOf #[.int z u1, .int z u2] ea) ∈ news) (m4 : (b, W.listOf #[.int 0 u3, .int z u4] eb) ∈ news)
    (e1 : pA = z) (e2 : qA = z) (e3 : pB = 0) (e4 : qB = z) (hu : A.units < cLine) (hu2 : A.in1.units + 64 < cLine) (h : Q (.bool false) s) :
    wpAny (model prog w) A (compareOp .NotEq (.ref hd) (.ref D)) Q E s := by
  subst e1 e3
  subst e2
  subst e4
  have i1 : ∀ (x y : Int) (t u : Tok), IntsAre [Value.int x t, Value.int y u] [x, y] := fun x y t u => .cons x t (.cons y u .nil)
  refine kne_pairs (knd := PySem.strKind _ _) N pa pb da db la lb (by rfl) hu (KeqHits.hit (by rfl) (keq_ints (News.isList N m1) (i1 _ _ _ _) (News.isList N m3) (i1 _ _ _ _) hu2) (KeqHits.hit (by rfl) (keq_ints (News.isList N m2) (i1 _ _ _ _) (News.isList N m4) (i1 _ _ _ _) hu2) KeqHits.nil)) ?_
  simpa using h
end
end Mine
end
section
open PySem PySem.W PyProof.Rows
namespace Mine
section
variable {prog : Program} {w : World} {p : Program} {loose : List Str} {mean : ExcName → Option Value} {mg mb : Str → Option Value}
  {dp un : Nat} {gd : Option (List Code)} {cn : Str} {cs : Scope} {a : Addr} {ccd : Value} {cl : List (Str × Addr)} {outer₀ : List Env} {A₀ : Around} {base h₀ : Heap} {L : Addr} {m : Str → Option Value} {s : Shared} {Q E : Value → Shared → Prop}
variable {sp dx ol hd lA lB : Addr} {v3 v4 v6 v7 v8 : Value} {k1 k2 k3 k4 k5 k6 k7 k8 t0 t1 t2 t3 t4 tn ts tx : Tok} {own : List (Addr × Obj)} {vs : List Value} {xa xb : List Int} {e eA eB n : Nat} {od : Obj} {sz pA qA pB qB spot k : Int}
theorem rev_d {low high : Int} {tlo thi : Tok}
    (B : Below A₀ base outer₀ h₀) (F : Fr h₀ L s.heap m) (X : (Mine.hd.heap_39 w.params).In h₀)
    (N : News h₀ L s.heap ((ol, listOf vs.toArray e) :: (sp, instObj 54 dx) :: (dx, spD w k1 k2 k3 k4 k5 k6 k7 k8 (.int sz t0) (.ref ol) v3 v4 (.ref hd) v6 v7 v8) :: (hd, od) :: (lA, W.listOf #[.int pA t1, .int qA t2] eA) :: (lB, W.listOf #[.int pB t3, .int qB t4] eB) :: own))
    (O : OwnOff own [ol, sp, dx, hd, lA, lB]) (D6 : Sp6 ol sp dx hd lA lB) (T : Top p loose mean mg mb h₀) (hk : cs.kind = .function) (hI : IntsAre vs (xb ++ xa)) (hxa : xa.length = n) (hxb : xb.length = n) (hn : n ≤ 32)
    (hs : od.IsDictOf (PySem.strKind prog w) [(Str.ofString "A$", Value.ref lA), (Str.ofString "B$", Value.ref lB)])
    (lo : (hd == sysModules) = false) (hpA : pA = n) (hqA : qA = n) (hpB : pB = 0) (hqB : qB = n) (hoA : Ok xa) (hoB : Ok xb)
    (hl0 : 0 ≤ low) (hlh : low ≤ high) (hhn : high ≤ n) (hdp : dp + 15 < recursionLimit) (hu : un + 160 < cLine)
    (ret : ∀ (vs' : List Value) (e' : Nat) (t : Tok) (h' : Heap) (tk' : Nat), IntsAre vs' (xb ++ revF n low.toNat high.toNat xa) → (revF n low.toNat high.toNat xa).length = n → Ok (revF n low.toNat high.toNat xa) → Fr h₀ L h' m → News h₀ L h' ((ol, listOf vs'.toArray e') :: (sp, instObj 54 dx) :: (dx, spD w k1 k2 k3 k4 k5 k6 k7 k8 (.int sz t0) (.ref ol) v3 v4 (.ref hd) v6 v7 v8) :: (hd, od) :: (lA, W.listOf #[.int pA t1, .int qA t2] eA) :: (lB, W.listOf #[.int pB t3, .int qB t4] eB) :: own) → Q (.int ((high - low) / 2) t) { s with heap := h', toks := tk' }) :
    wpAny (model prog w) (ktrTop dp un gd cn cs L a ccd cl outer₀) (call (.ref 155) [.ref sp, .int low tlo, .int high thi]) Q E s :=
  rev_c B F X N O D6 T hk hI hxa hxb hn hs lo hpA hqA hpB hqB hoA hoB hl0 hlh hhn hdp hu fun vs' e' t h' tk' hI' F' N' => ret vs' e' t h' tk' hI' (by rw [revF_length, hxa]) (hoA.revF (by omega)) F' N'
theorem rounds_d {size many : Int} {tsz tmn : Tok}
    (B : Below A₀ base outer₀ h₀) (F : Fr h₀ L s.heap m) (X : (Mine.hd.heap_39 w.params).In h₀)
    (N : News h₀ L s.heap ((ol, listOf vs.toArray e) :: (sp, instObj 54 dx) :: (dx, spD w k1 k2 k3 k4 k5 k6 k7 k8 (.int sz t0) (.ref ol) v3 v4 (.ref hd) v6 v7 v8) :: (hd, od) :: (lA, W.listOf #[.int pA t1, .int qA t2] eA) :: (lB, W.listOf #[.int pB t3, .int qB t4] eB) :: own))
    (O : OwnOff own [ol, sp, dx, hd, lA, lB]) (D6 : Sp6 ol sp dx hd lA lB) (T : Top p loose mean mg mb h₀) (hk : cs.kind = .function) (hI : IntsAre vs (xb ++ xa)) (hxa : xa.length = n) (hxb : xb.length = n) (hn : n ≤ 32)
    (hs : od.IsDictOf (PySem.strKind prog w) [(Str.ofString "A$", Value.ref lA), (Str.ofString "B$", Value.ref lB)])
    (lo : (hd == sysModules) = false) (hpA : pA = n) (hqA : qA = n) (hpB : pB = 0) (hqB : qB = n) (hoA : Ok xa) (hoB : Ok xb)
    (h5 : 5 ≤ n) (h7 : n ≤ 7) (hsz : size = n) (hm0 : 1 ≤ many) (hm1 : many < n) (hdp : dp + 15 < recursionLimit) (hu : un + 160 < cLine)
    (ret : ∀ (vs' : List Value) (e' : Nat) (t : Tok) (h' : Heap) (tk' : Nat) (r : Int), r = (Nat.gcd n many.toNat : Int) → IntsAre vs' (rot many.toNat xb ++ xa) → Fr h₀ L h' m → News h₀ L h' ((ol, listOf vs'.toArray e') :: (sp, instObj 54 dx) :: (dx, spD w k1 k2 k3 k4 k5 k6 k7 k8 (.int sz t0) (.ref ol) v3 v4 (.ref hd) v6 v7 v8) :: (hd, od) :: (lA, W.listOf #[.int pA t1, .int qA t2] eA) :: (lB, W.listOf #[.int pB t3, .int qB t4] eB) :: own) → Q (.int r t) { s with heap := h', toks := tk' }) :
    wpAny (model prog w) (ktrTop dp un gd cn cs L a ccd cl outer₀) (call (.ref 162) [.ref sp, .int size tsz, .int many tmn]) Q E s := by
  refine rounds_c B F X N O D6 T hk hI hxa hxb hn hs lo hpA hqA hpB hqB hoA hoB hsz (by omega) (by omega) hm1 hdp hu fun vs' e' t h' tk' r hr hI' F' N' => ?_
  rw [rounds_law h5 h7 (by omega) (by omega) hxb] at hr hI'
  exact ret vs' e' t h' tk' r hr hI' F' N'
theorem room_hide {h : Heap} {l f mw : Int} {tl tf t7 t8 : Tok} {wl : Value} {P : Prop}
    (N : News h₀ L h [(ol, listOf vs.toArray e), (sp, instObj 54 dx), (dx, spD w k1 k2 k3 k4 k5 k6 k7 k8 (.int sz t0) (.ref ol) (.int l tl) (.int f tf) (.ref hd) wl (.int mw t7) (.int 0 t8)), (hd, od), (lA, W.listOf #[.int pA t1, .int qA t2] eA), (lB, W.listOf #[.int pB t3, .int qB t4] eB)])
    (c : dx < sp ∧ sp < ol ∧ ol < hd) (c2 : hd < lA) (c3 : lA < lB)
    (hl : l = 0) (hf : f = 0) (h1 : pA = n) (h2 : qA = n) (h3 : pB = 0) (h4 : qB = n)
    (K : ∀ (k1 k2 k3 k4 k5 k6 k7 k8 t0 t1 t2 t3 t4 tl tf t7 t8 : Tok) (sz l f mw pA qA pB qB : Int) (wl : Value),
      News h₀ L h [(ol, listOf vs.toArray e), (sp, instObj 54 dx), (dx, spD w k1 k2 k3 k4 k5 k6 k7 k8 (.int sz t0) (.ref ol) (.int l tl) (.int f tf) (.ref hd) wl (.int mw t7) (.int 0 t8)), (hd, od), (lA, W.listOf #[.int pA t1, .int qA t2] eA), (lB, W.listOf #[.int pB t3, .int qB t4] eB)] →
      Sp6 ol sp dx hd lA lB → l = 0 → f = 0 → pA = n → qA = n → pB = 0 → qB = n → P) : P := K _ _ _ _ _ _ _ _ _ _ _ _ _ _ _ _ _ _ _ _ _ _ _ _ _ _ N ⟨c.1, c.2.1, c.2.2, c2, c3⟩ hl hf h1 h2 h3 h4
structure LS where
  vs : List Value
  e : Nat
  ks : List Int
  t : Tok
abbrev lawP (ks : List Int) (i : Nat) (c : LS) : Prop := IntsAre c.vs (dueF i ks ++ dueF i ks) ∧ c.ks = dueF i ks
abbrev lawPs (c : LS) : List (Str × Value) := [(Str.ofString "due", .str (txt c.ks) c.t)]
abbrev lawSt : List Str := [Str.ofString "many", Str.ofString "exchanges", Str.ofString "rounds"]
theorem room_range {A : Around} {env : Env} {x : Str} {body : List Stmt} {Q : Flow → Shared → Prop} {r : Addr} {b₀ : Int} {u₀ v₀ w₀ td : Tok} {m₀ : Str → Option Value} {ks : List Int}
    (hh : A.handled = none) (hr : IsRange s.heap r 1 b₀ 1 u₀ v₀ w₀) (hb : b₀ = n) (hn1 : 1 ≤ n) (hn : n ≤ 32) (F : Fr h₀ env.locals s.heap m₀) (N : News h₀ env.locals s.heap [(ol, listOf vs.toArray e), (sp, instObj 54 dx), (dx, spD w k1 k2 k3 k4 k5 k6 k7 k8 (.int sz t0) (.ref ol) v3 v4 (.ref hd) v6 v7 v8), (hd, od), (lA, W.listOf #[.int pA t1, .int qA t2] eA), (lB, W.listOf #[.int pB t3, .int qB t4] eB)])
    (hI : IntsAre vs (ks ++ ks)) (hk : m₀ (Str.ofString "due") = some (.str (txt ks) td))
    (turn : ∀ (i : Nat) t (vs : List Value) e td (u : Str → Option Value) h tk own, i < n - 1 → IntsAre vs (dueF i ks ++ dueF i ks) → OwnOff own [ol, sp, dx, hd, lA, lB] →
      Fr h₀ env.locals h (fun y => if y = x then some (.int (1 + (i : Int)) t) else kstB (fun z => if lawSt.contains z then u z else m₀ z) [(Str.ofString "due", .str (txt (dueF i ks)) td)] y) → News h₀ env.locals h ((ol, listOf vs.toArray e) :: (sp, instObj 54 dx) :: (dx, spD w k1 k2 k3 k4 k5 k6 k7 k8 (.int sz t0) (.ref ol) v3 v4 (.ref hd) v6 v7 v8) :: (hd, od) :: (lA, W.listOf #[.int pA t1, .int qA t2] eA) :: (lB, W.listOf #[.int pB t3, .int qB t4] eB) :: own) →
      wpAny (model prog w) A (execs body env) (RgPost h₀ env.locals (fun c : LS => [(ol, listOf c.vs.toArray c.e), (sp, instObj 54 dx), (dx, spD w k1 k2 k3 k4 k5 k6 k7 k8 (.int sz t0) (.ref ol) v3 v4 (.ref hd) v6 v7 v8), (hd, od), (lA, W.listOf #[.int pA t1, .int qA t2] eA), (lB, W.listOf #[.int pB t3, .int qB t4] eB)]) lawPs lawSt m₀ (lawP ks (i + 1)) own { s with heap := h, toks := tk } Q) E { s with heap := h, toks := tk })
    (done : ∀ (vs : List Value) e td (u : Str → Option Value) h tk, IntsAre vs (dueF (n - 1) ks ++ dueF (n - 1) ks) → Fr h₀ env.locals h (kstB (fun z => if lawSt.contains z then u z else m₀ z) [(Str.ofString "due", .str (txt (dueF (n - 1) ks)) td)]) → News h₀ env.locals h [(ol, listOf vs.toArray e), (sp, instObj 54 dx), (dx, spD w k1 k2 k3 k4 k5 k6 k7 k8 (.int sz t0) (.ref ol) v3 v4 (.ref hd) v6 v7 v8), (hd, od), (lA, W.listOf #[.int pA t1, .int qA t2] eA), (lB, W.listOf #[.int pB t3, .int qB t4] eB)] → Q .next { s with heap := h, toks := tk }) :
    wpAny (model prog w) A (pyIter (.ref r)) (fun it s₂ => LoopAtV prog w A h₀ env x body Q E it s₂) E s := by
  refine range_st (σ := LS) (n := n - 1) (own₀ := []) (fun c => [(ol, listOf c.vs.toArray c.e), (sp, instObj 54 dx), (dx, spD w k1 k2 k3 k4 k5 k6 k7 k8 (.int sz t0) (.ref ol) v3 v4 (.ref hd) v6 v7 v8), (hd, od), (lA, W.listOf #[.int pA t1, .int qA t2] eA), (lB, W.listOf #[.int pB t3, .int qB t4] eB)]) lawPs lawSt (lawP ks) ⟨vs, e, ks, td⟩ hh hr (small_one (by omega) (by omega) (by omega) (by omega)) (by rw [rangeSize_one]; split <;> omega) F N (fun _ h => nomatch h) (fun _ => rfl)
    (List.forall_mem_cons.mpr ⟨hk, List.forall_mem_nil _⟩) ⟨hI, rfl⟩ ?_ ?_
  · rintro i t ⟨vs, e, ks', td⟩ u h tk own hi ⟨hI', hE⟩ hO _ F' N'
    dsimp only at hE
    subst hE
    exact turn i t vs e td u h tk own hi hI' hO F' N'
  · rintro ⟨vs, e, ks', td⟩ u h tk ⟨hI', hE⟩ F' N'
    dsimp only at hE
    subst hE
    exact done vs e td u h tk hI' F' N'
end
/-- two slices of a text glued: turned -/
theorem slice_from {ks : List Int} {k : Int} (h0 : 0 ≤ k) (h1 : k ≤ ks.length) : Txt.slice (txt ks) (some k) none = txt (ks.drop k.toNat) := by
  rw [slice_from_eq (b := (ks.length : Int)) h0 (by rw [txt_length]; exact h1) (by rw [txt_length])]
  refine str_ext ?_
  show ((txt ks).cps.toList.drop k.toNat).take _ = _
  rw [txt_cps, txt_cps, List.map_drop, List.take_of_length_le]
  rw [List.length_drop, List.length_map]
  omega
theorem slice_to {ks : List Int} {k : Int} (h0 : 0 ≤ k) (h1 : k ≤ ks.length) : Txt.slice (txt ks) none (some k) = txt (ks.take k.toNat) := by
  rw [eq_of_beq (slice_closes_to (x := txt ks) (j := k) ⟨h0, by rw [txt_cps, List.length_map]; exact h1⟩)]
  refine str_ext ?_
  show ((txt ks).cps.toList.drop (0 : Int).toNat).take _ = _
  rw [txt_cps, txt_cps, List.map_take, Int.sub_zero]
  rfl
theorem txt_app (a b : List Int) : txt a ++ txt b = txt (a ++ b) := by
  refine str_ext ?_
  rw [Str.cps_append, Array.toList_append, txt_cps, txt_cps, txt_cps, List.map_append]
section
variable {prog : Program} {w : World} {A : Around} {E Q : Value → Shared → Prop} {s : Shared} {t u : Tok}
theorem add_rot {ks : List Int} {k : Int} (h0 : 0 ≤ k) (h1 : k ≤ ks.length) (h64 : ks.length ≤ 64) (h : ∀ t' tk, Q (.str (txt (rot k.toNat ks)) t') { s with toks := tk }) :
    wpAny (model prog w) A (binaryOp .Add (.str (Txt.slice (txt ks) (some k) none) t) (.str (Txt.slice (txt ks) none (some k)) u)) Q E s := by
  rw [slice_from h0 h1, slice_to h0 h1]
  refine add_str (fun t' tk => ?_) (by rw [txt_length, txt_length, List.length_drop, List.length_take, sizeLine_eq]; omega)
  rw [txt_app]
  exact h t' tk
theorem add_due {j : Nat} {ks : List Int} {k : Int} (hk : k = 1 + (j : Int)) (hj : j + 1 ≤ (dueF j ks).length) (h64 : (dueF j ks).length ≤ 64) (h : ∀ t' tk, Q (.str (txt (dueF (j + 1) ks)) t') { s with toks := tk }) :
    wpAny (model prog w) A (binaryOp .Add (.str (Txt.slice (txt (dueF j ks)) (some k) none) t) (.str (Txt.slice (txt (dueF j ks)) none (some k)) u)) Q E s := by
  refine add_rot (by omega) (by omega) h64 fun t' tk => ?_
  rw [show k.toNat = j + 1 by omega]
  exact h t' tk
theorem div_two {a : Int} (h : ∀ r : Int, r = a / 2 → Q (.int r s.toks) { s with toks := s.toks + 1 }) :
    wpAny (model prog w) A (binaryOp .FloorDiv (.int a t) (.int 2 u)) Q E s := by
  refine floordiv_int (by decide) (h _ ?_)
  rw [Int.fdiv_eq_ediv_of_nonneg a (by decide)]
end
theorem revs_int {n : Nat} {z many size : Int} {xs : List Int} (h5 : 5 ≤ n) (h7 : n ≤ 7) (hz : z = 0) (hm : 1 ≤ many) (hm2 : many < n) (hs : size = n) (hl : xs.length = n) : revF n z.toNat size.toNat (revF n many.toNat size.toNat (revF n z.toNat many.toNat xs)) = rot many.toNat xs := by
  subst hz
  rw [show size.toNat = n by omega]
  exact revs_law h5 h7 (by omega) (by omega) hl
end Mine
end
section
open PySem PySem.W PyProof.Rows
namespace Mine
theorem octs_txt {ks : List Int} (h : Ok ks) : (txt ks).cps.toList.map Int.ofNat = ks := by
  rw [txt_cps, List.map_map]
  refine (List.map_congr_left fun k hk => ?_).trans (List.map_id _)
  show Int.ofNat k.toNat = k
  rw [Int.ofNat_eq_natCast, Int.toNat_of_nonneg (h k hk).1]
theorem ascii_txt {ks : List Int} (h : Ok ks) : (txt ks).cps.all (· < 128) = true := by
  rw [← Array.all_toList, txt_cps, List.all_eq_true]
  intro c hc
  obtain ⟨k, hk, rfl⟩ := List.mem_map.mp hc
  have := h k hk
  simp
  omega
theorem ok_two {ks : List Int} (h : Ok ks) : [txt ks, txt ks].all PyData.strOk = true := by
  have e : PyData.strOk (txt ks) = true := by
    show (txt ks).cps.all _ = true
    rw [← Array.all_toList, txt_cps, List.all_eq_true]
    intro c hc
    obtain ⟨k, hk, rfl⟩ := List.mem_map.mp hc
    have := h k hk
    simp
    omega
  rw [List.all_cons, List.all_cons, e]
  rfl
section
variable {prog : Program} {w : World} {A : Around} {E Q : Value → Shared → Prop} {s : Shared} {t u : Tok}
theorem ne_eqI {a b : Int} (e : a = b) (h : Q (.bool false) s) : wpAny (model prog w) A (compareOp .NotEq (.int a t) (.int b u)) Q E s := by
  subst e
  refine ne_int ?_
  rw [bne_self_eq_false]
  exact h
theorem stop_call {n : Addr} {xs : List Value} {l : List Nat} (_ : l.contains n = true) (h : Stop (wpAny (model prog w) A (call (.ref n) xs) Q E s)) : wpAny (model prog w) A (call (.ref n) xs) Q E s := h
theorem eq_eqI {a b : Int} (e : a = b) (h : Q (.bool true) s) : wpAny (model prog w) A (compareOp .Eq (.int a t) (.int b u)) Q E s := by
  subst e
  refine eq_int ?_
  rw [beq_self_eq_true]
  exact h
theorem ne_eqS {a b : Str} (e : a = b) (h : Q (.bool false) s) : wpAny (model prog w) A (compareOp .NotEq (.str a t) (.str b u)) Q E s := by
  subst e
  refine ne_str ?_
  rw [bne_self_eq_false]
  exact h
end
theorem half_even {n : Nat} {m r z : Int} {ks : List Int} (h5 : 5 ≤ n) (h7 : n ≤ 7) (hl : ks.length = n) (hs : z = n) (hm : m.toNat = z.toNat % Int.toNat 2) (h0 : m = 0) (hr : r = z / 2) : txt (dueF (n - 1) ks) = txt (rot r.toNat ks) := by
  have e2 : Int.toNat 2 = 2 := rfl
  rw [e2] at hm
  rw [due_law h5 h7 hl, if_pos (by omega), show r.toNat = n / 2 by omega]
theorem half_odd {n : Nat} {m z : Int} {ks : List Int} (h5 : 5 ≤ n) (h7 : n ≤ 7) (hl : ks.length = n) (hs : z = n) (hm : m.toNat = z.toNat % Int.toNat 2) (h0 : m ≠ 0) (hp : 0 ≤ m) : txt (dueF (n - 1) ks) = txt (rot (Int.toNat 0) ks) := by
  have e2 : Int.toNat 2 = 2 := rfl
  rw [e2] at hm
  rw [due_law h5 h7 hl, if_neg (by omega)]
  rfl
theorem ar_f {r T : Int} {n : Nat} (h : 5 + r = n) (hT : T = n) : 2 * (5 + r) - T - T = 0 := by omega
theorem ar_p {r T : Int} {n : Nat} (h : 5 + r = n) (hT : T = n) : 2 * (5 + r) - T = n := by omega
theorem ar_2 {r : Int} {n : Nat} (h : 5 + r = n) : 2 * (5 + r) = 2 * n := by omega
theorem ar_e {r : Int} {n k : Nat} (h : 5 + r = n) (e : 0 ≤ 2 * (5 + r) → (k : Int) = ((0 + 1 : Nat) : Int) * (2 * (5 + r))) : k = 2 * n := by
  have := e (by omega)
  omega
theorem pick4 {h₀ h : Heap} {L : Addr} {t wl hd ol z sp dx : Addr × Obj} {r : Led} (N : News h₀ L h (t :: wl :: hd :: ol :: z :: sp :: dx :: r)) : News h₀ L h [ol, sp, dx, hd] := fun p hp => N p (by
  simp only [List.mem_cons, List.not_mem_nil, or_false] at hp ⊢
  rcases hp with h | h | h | h <;> simp [h])
structure Ch4 (ol sp dx hd : Nat) : Prop where
  a : dx < sp
  b : sp < ol
  c : ol < hd
theorem chain4 {h₀ h : Heap} {L ol sp dx hd : Addr} {o1 o2 o3 o4 : Obj} (_ : News h₀ L h [(ol, o1), (sp, o2), (dx, o3), (hd, o4)]) (c : @LT.lt Nat _ dx sp ∧ @LT.lt Nat _ sp ol ∧ @LT.lt Nat _ ol hd) : Ch4 ol sp dx hd := ⟨c.1, c.2.1, c.2.2⟩
theorem turn5 {h₀ h : Heap} {L : Addr} {la ol sp dx hd : Addr × Obj} (N : News h₀ L h [la, ol, sp, dx, hd]) : News h₀ L h [ol, sp, dx, hd, la] := fun p hp => N p (by
  simp only [List.mem_cons, List.not_mem_nil, or_false] at hp ⊢
  rcases hp with h | h | h | h | h <;> simp [h])
theorem turn6 {h₀ h : Heap} {L : Addr} {lb ol sp dx hd la : Addr × Obj} (N : News h₀ L h [lb, ol, sp, dx, hd, la]) : News h₀ L h [ol, sp, dx, hd, la, lb] := fun p hp => N p (by
  simp only [List.mem_cons, List.not_mem_nil, or_false] at hp ⊢
  rcases hp with h | h | h | h | h | h <;> simp [h])
section
local macro_rules | `(tactic| walk_at "call ref") => `(tactic| (k_here; refine stop_call (l := [127, 155, 162, 141, 148, 120]) (by decide) ?_))
local macro_rules | `(tactic| walk_at "binaryOp Add str str") => `(tactic| (k_here; refine stop_at ?_))
local macro_rules | `(tactic| walk_at "binaryOp FloorDiv int int") => `(tactic| (k_here; k_dflt (refine div_two ?_); intro r9' q9'))
local macro_rules | `(tactic| walk_at "binaryOp Mod int int") => `(tactic| (k_here; k_dflt (refine mod_nat (by omega) (by omega) ?_); intro r9' m1' m2' m3'))
local macro_rules | `(tactic| walk_at "compareOp NotEq ref ref") => `(tactic| (k_here; refine stop_at ?_))
local macro_rules | `(tactic| walk_at "subscriptTail Name Slice str ref") => `(tactic| (k_here; refine stop_at ?_))
local macro_rules | `(tactic| walk_at "compareOp Eq int int") => `(tactic| (k_here; k_dflt (refine eq_eqI (by first | exact rfl | assumption) ?_)))
local macro_rules | `(tactic| walk_at "call type:dict") => `(tactic| (k_here; refine stop_at ?_))
local macro_rules | `(tactic| walk_at "compareOp NotEq int int") => `(tactic| (k_here; refine stop_at ?_))
local macro_rules | `(tactic| walk_at "compareOp NotEq str str") => `(tactic| (k_here; refine stop_at ?_))
local macro_rules | `(tactic| walk_at "pyIter ref") => `(tactic| (k_here; refine stop_at ?_))
local macro_rules | `(tactic| walk_at "eval ListComp") => `(tactic| (k_here; k_dflt (refine LCg.ListComp_U (F₀ := by k_asm) (by with_unfolding_all rfl) (by decide) (by rfl) (by decide) (by rfl) ?_)))
local macro_rules | `(tactic| walk_at "CompSrc") => `(tactic| (k_here; refine stop_at ?_))
local macro_rules | `(tactic| walk_at "CompEnd") => `(tactic| (k_here; refine stop_at ?_))
local macro_rules | `(tactic| walk_at "call builtin:chr") => `(tactic| (k_here; refine stop_at ?_))
local macro_rules | `(tactic| walk_at "call builtin:str.join") => `(tactic| (k_here; refine stop_at ?_))
set_option maxRecDepth 100000 in
set_option maxHeartbeats 40000000 in
theorem law_t : PySem.Challenge.rw_xm0029_01.Holds := Mine.hd (by
  k_go0
  (all_goals try k_fold)
  k_steps
  repeat' (first
    | (unfold Stop; (with_reducible show wpAny _ _ (call (Value.ref 148) _) _ _ _); (rename News _ _ _ _ => lN'); k_dflt (refine told_c (by k_asm) (by k_asm) (by k_asm) (by first | exact lN' | exact news_rot3 lN') (by (refine' off2 ?_ ?_ <;> k_all)) (by k_ne) (by k_asm) (by first | exact rfl | assumption) (by l_ints) (by (simp only [List.length_take]; omega)) (by omega) (by omega) (by omega) (by first | exact Nat.le_of_ble_eq_true rfl | ktr_room) (by first | exact Nat.le_of_ble_eq_true rfl | ktr_units) ?_); intro r9' t9' u9' v9' h9' tk9' lo9' hi9' F9' N9'; all_goals k_steps)
    | (unfold Stop; (with_reducible show wpAny _ _ (call (Value.builtin _) _) _ _ _); k_dflt (refine join_txt (by first | is_list | exact News.isList (by k_asm) (by k_mem)) (by assumption) (by omega) ?_); intro _ _; all_goals k_steps)
    | (unfold Stop; (with_reducible show wpAny _ _ (call (Value.builtin _) [Value.int _ _]) _ _ _); k_dflt (refine chr_of_range (by omega) (by omega) ?_); all_goals k_steps)
    | (unfold Stop; (with_reducible show wpAny _ _ (compareOp _ (Value.ref _) (Value.ref _)) _ _ _); k_dflt (refine held_same (by k_asm) (by k_mem) (by k_mem) (by k_asm) (by k_asm) (by k_asm) (by k_asm) (by k_mem) (by k_mem) (by k_mem) (by k_mem) (by assumption) (by assumption) (by assumption) (by assumption) (Nat.le_of_ble_eq_true rfl) (Nat.le_of_ble_eq_true rfl) ?_); all_goals k_steps)
    | (unfold Stop; (with_reducible show wpAny _ _ (call (Value.type _) _) _ _ _); k_dflt (refine dict_led (by with_unfolding_all rfl) (by k_asm) (by k_asm) (modules_low (Top.nolimit (by k_asm))) (by k_mem) (by k_mem) (by k_mem) ?_); intro D' o' h' tk' F' N' lo' hd'; all_goals k_steps)
    | (unfold Stop; (with_reducible show wpAny _ _ (subscriptTail _ (Expr.Slice (some _) none none _) _ _) _ _ _); (with_reducible rename Fr _ _ _ _ => F'); (with_reducible rename News _ _ _ _ => N'); (refine slice_strN_sn (hsz := ?zzhsz9) (s := ⟨_, _, _, _, _⟩) F' N' ?_); (case zzhsz9 => (rw [txt_length, sizeLine_eq]; omega)); intro h' t' k' F' N'; all_goals k_steps)
    | (unfold Stop; (with_reducible show wpAny _ _ (subscriptTail _ (Expr.Slice none (some _) none _) _ _) _ _ _); (with_reducible rename Fr _ _ _ _ => F'); (with_reducible rename News _ _ _ _ => N'); (refine slice_strN_ns (hsz := ?zzhsz9) (s := ⟨_, _, _, _, _⟩) F' N' ?_); (case zzhsz9 => (rw [txt_length, sizeLine_eq]; omega)); intro h' t' k' F' N'; all_goals k_steps)
    | (unfold Stop; (with_reducible show wpAny _ _ (compareOp _ (Value.ref _) (Value.ref _)) _ _ _); k_dflt (refine' ne_strs ?zzha9 ?zzhb9 ?zzhi9 ?zzhj9 ?zzho9 ?zzhu9 ?_; (case zzha9 => exact News.isList (by k_asm) (by k_mem)); (case zzhb9 => exact News.isList (by k_asm) (by k_mem)); (case zzhi9 => exact .cons _ _ (.cons _ _ .nil)); (case zzhj9 => exact .cons _ _ (.cons _ _ .nil)); (case zzho9 => exact ok_two (by assumption)); (case zzhu9 => ke_room)); all_goals k_steps)
    | (unfold Stop; (with_reducible show wpAny _ _ (binaryOp _ (Value.str (Txt.slice (txt (dueF _ _)) _ _) _) _) _ _ _); k_dflt (refine add_due rfl (by omega) (by omega) ?_); intro t9' tk9'; all_goals k_steps)
    | (unfold Stop; (with_reducible show wpAny _ _ (binaryOp _ (Value.str _ _) (Value.str _ _)) _ _ _); k_dflt (refine add_rot (by omega) (by omega) (by omega) ?_); intro t9' tk9'; all_goals k_steps)
    | (unfold Stop; (with_reducible show wpAny _ _ (call (Value.ref 141) _) _ _ _); (rename News _ _ _ _ => lN'); k_dflt (refine gcd_c (by k_asm) (by k_asm) (by k_asm) lN' (by k_asm) (by exact rfl) (by omega) (by omega) (by first | exact Nat.le_of_ble_eq_true rfl | ktr_room) (by first | exact Nat.le_of_ble_eq_true rfl | ktr_units) ?_); intro t9' h9' tk9' r9' g9' F9' N9'; all_goals k_steps)
    | (unfold Stop; (with_reducible show wpAny _ _ (call (Value.ref 155) _) _ _ _); (rename News _ _ _ _ => lN'); k_dflt (refine rev_d (by k_asm) (by k_asm) (by k_asm) lN' (by assumption) (by assumption) (by k_asm) (by first | exact rfl | assumption) (by assumption) (by assumption) (by assumption) (by assumption) (by assumption) (by assumption) (by assumption) (by assumption) (by assumption) (by assumption) (by assumption) (by assumption) (by omega) (by omega) (by omega) (by first | exact Nat.le_of_ble_eq_true rfl | ktr_room) (by first | exact Nat.le_of_ble_eq_true rfl | ktr_units) ?_); intro vs9' e9' t9' h9' tk9' i9' l9' o9' F9' N9'; all_goals k_steps)
    | (unfold Stop; (with_reducible show wpAny _ _ (call (Value.ref 127) [Value.ref _, Value.str (Str.ofString "B$") _]) _ _ _); (rename News _ _ _ _ => lN'); k_dflt (refine getB_c (by k_asm) (by k_asm) (by k_asm) (by first | exact lN' | exact news_tail lN') (by k_asm) (by k_asm) (by k_asm) (by first | exact rfl | assumption) (by k_asm) (by k_asm) (by k_asm) (by k_asm) (by k_asm) (by k_asm) (by k_asm) (by k_asm) (by k_asm) (by k_asm) (by k_asm) (by k_asm) (by first | exact Nat.le_of_ble_eq_true rfl | ktr_room) (by first | exact Nat.le_of_ble_eq_true rfl | ktr_units) ?_); intro t9' h9' tk9' F9' N9'; all_goals k_steps)
    | (unfold Stop; (with_reducible show wpAny _ _ (call (Value.ref 127) [Value.ref _, Value.str (Str.ofString "A$") _]) _ _ _); (rename News _ _ _ _ => lN'); k_dflt (refine getA_c (by k_asm) (by k_asm) (by k_asm) (by first | exact lN' | exact news_tail lN') (by k_asm) (by k_asm) (by k_asm) (by first | exact rfl | assumption) (by k_asm) (by k_asm) (by k_asm) (by k_asm) (by k_asm) (by k_asm) (by k_asm) (by k_asm) (by k_asm) (by k_asm) (by k_asm) (by k_asm) (by first | exact Nat.le_of_ble_eq_true rfl | ktr_room) (by first | exact Nat.le_of_ble_eq_true rfl | ktr_units) ?_); intro t9' h9' tk9' F9' N9'; all_goals k_steps))
  unfold Stop
  rename 0 ≤ _ => hr0
  rename _ < (3 : Int) => hr3
  rename IsRange _ _ _ _ _ _ _ _ => hRg
  rename Fr _ _ _ _ => lF'
  rename News _ _ _ _ => lN'
  rename _ < _ ∧ _ < _ => lt1
  rename IntsAre _ (List.take _ _) => hI8
  obtain ⟨n, hn⟩ := Int.eq_ofNat_of_zero_le (Int.add_nonneg (show (0 : Int) ≤ 5 by decide) hr0)
  k_dflt (refine' LCg.CompSrc.range (n := n) (by rfl) lF' lN' hRg (small_one (by omega) (by omega) (by omega) (by omega)) (by rw [rangeSize_one]; split <;> omega) (by rw [sizeLine_eq]; omega) ?_)
  intro g'
  refine' rest_ind (n := n) (fun i ys news => ∃ k t ks, news = [(_, W.listOf #[Value.ref _, Value.int k t] 0), (_, _), (_, _)] ∧ k = 1 + (i : Int) ∧ StrsAre ys (ks.map one) ∧ ks.length = i ∧ Ok ks) ?step ?fin ⟨_, _, [], rfl, by omega, .nil, rfl, fun _ h => nomatch h⟩
  case step =>
    clear lF' lN'
    rintro i ys news v I oI C oC D m₂ h tk E' hi ⟨k, t, ks, rfl, hk, hS, hl, hok⟩ ⟨tv, rfl⟩ hC hx F' N' off ne
    simp only [LCg.Off3, and_true] at off
    k_steps
    repeat' (first
      | (unfold Stop; (with_reducible show wpAny _ _ (call (Value.ref 148) _) _ _ _); (rename News _ _ _ _ => lN'); k_dflt (refine told_c (by k_asm) (by k_asm) (by k_asm) (by first | exact lN' | exact news_rot3 lN') (by (refine' off2 ?_ ?_ <;> k_all)) (by k_ne) (by k_asm) (by first | exact rfl | assumption) (by l_ints) (by (simp only [List.length_take]; omega)) (by omega) (by omega) (by omega) (by first | exact Nat.le_of_ble_eq_true rfl | ktr_room) (by first | exact Nat.le_of_ble_eq_true rfl | ktr_units) ?_); intro r9' t9' u9' v9' h9' tk9' lo9' hi9' F9' N9'; all_goals k_steps)
      | (unfold Stop; (with_reducible show wpAny _ _ (call (Value.builtin _) _) _ _ _); k_dflt (refine join_txt (by first | is_list | exact News.isList (by k_asm) (by k_mem)) (by assumption) (by omega) ?_); intro _ _; all_goals k_steps)
      | (unfold Stop; (with_reducible show wpAny _ _ (call (Value.builtin _) [Value.int _ _]) _ _ _); k_dflt (refine chr_of_range (by omega) (by omega) ?_); all_goals k_steps)
      | (unfold Stop; (with_reducible show wpAny _ _ (compareOp _ (Value.ref _) (Value.ref _)) _ _ _); k_dflt (refine held_same (by k_asm) (by k_mem) (by k_mem) (by k_asm) (by k_asm) (by k_asm) (by k_asm) (by k_mem) (by k_mem) (by k_mem) (by k_mem) (by assumption) (by assumption) (by assumption) (by assumption) (Nat.le_of_ble_eq_true rfl) (Nat.le_of_ble_eq_true rfl) ?_); all_goals k_steps)
      | (unfold Stop; (with_reducible show wpAny _ _ (call (Value.type _) _) _ _ _); k_dflt (refine dict_led (by with_unfolding_all rfl) (by k_asm) (by k_asm) (modules_low (Top.nolimit (by k_asm))) (by k_mem) (by k_mem) (by k_mem) ?_); intro D' o' h' tk' F' N' lo' hd'; all_goals k_steps)
      | (unfold Stop; (with_reducible show wpAny _ _ (subscriptTail _ (Expr.Slice (some _) none none _) _ _) _ _ _); (with_reducible rename Fr _ _ _ _ => F'); (with_reducible rename News _ _ _ _ => N'); (refine slice_strN_sn (hsz := ?zzhsz9) (s := ⟨_, _, _, _, _⟩) F' N' ?_); (case zzhsz9 => (rw [txt_length, sizeLine_eq]; omega)); intro h' t' k' F' N'; all_goals k_steps)
      | (unfold Stop; (with_reducible show wpAny _ _ (subscriptTail _ (Expr.Slice none (some _) none _) _ _) _ _ _); (with_reducible rename Fr _ _ _ _ => F'); (with_reducible rename News _ _ _ _ => N'); (refine slice_strN_ns (hsz := ?zzhsz9) (s := ⟨_, _, _, _, _⟩) F' N' ?_); (case zzhsz9 => (rw [txt_length, sizeLine_eq]; omega)); intro h' t' k' F' N'; all_goals k_steps)
      | (unfold Stop; (with_reducible show wpAny _ _ (compareOp _ (Value.ref _) (Value.ref _)) _ _ _); k_dflt (refine' ne_strs ?zzha9 ?zzhb9 ?zzhi9 ?zzhj9 ?zzho9 ?zzhu9 ?_; (case zzha9 => exact News.isList (by k_asm) (by k_mem)); (case zzhb9 => exact News.isList (by k_asm) (by k_mem)); (case zzhi9 => exact .cons _ _ (.cons _ _ .nil)); (case zzhj9 => exact .cons _ _ (.cons _ _ .nil)); (case zzho9 => exact ok_two (by assumption)); (case zzhu9 => ke_room)); all_goals k_steps)
      | (unfold Stop; (with_reducible show wpAny _ _ (binaryOp _ (Value.str (Txt.slice (txt (dueF _ _)) _ _) _) _) _ _ _); k_dflt (refine add_due rfl (by omega) (by omega) ?_); intro t9' tk9'; all_goals k_steps)
      | (unfold Stop; (with_reducible show wpAny _ _ (binaryOp _ (Value.str _ _) (Value.str _ _)) _ _ _); k_dflt (refine add_rot (by omega) (by omega) (by omega) ?_); intro t9' tk9'; all_goals k_steps)
      | (unfold Stop; (with_reducible show wpAny _ _ (call (Value.ref 141) _) _ _ _); (rename News _ _ _ _ => lN'); k_dflt (refine gcd_c (by k_asm) (by k_asm) (by k_asm) lN' (by k_asm) (by exact rfl) (by omega) (by omega) (by first | exact Nat.le_of_ble_eq_true rfl | ktr_room) (by first | exact Nat.le_of_ble_eq_true rfl | ktr_units) ?_); intro t9' h9' tk9' r9' g9' F9' N9'; all_goals k_steps)
      | (unfold Stop; (with_reducible show wpAny _ _ (call (Value.ref 155) _) _ _ _); (rename News _ _ _ _ => lN'); k_dflt (refine rev_d (by k_asm) (by k_asm) (by k_asm) lN' (by assumption) (by assumption) (by k_asm) (by first | exact rfl | assumption) (by assumption) (by assumption) (by assumption) (by assumption) (by assumption) (by assumption) (by assumption) (by assumption) (by assumption) (by assumption) (by assumption) (by assumption) (by omega) (by omega) (by omega) (by first | exact Nat.le_of_ble_eq_true rfl | ktr_room) (by first | exact Nat.le_of_ble_eq_true rfl | ktr_units) ?_); intro vs9' e9' t9' h9' tk9' i9' l9' o9' F9' N9'; all_goals k_steps)
      | (unfold Stop; (with_reducible show wpAny _ _ (call (Value.ref 127) [Value.ref _, Value.str (Str.ofString "B$") _]) _ _ _); (rename News _ _ _ _ => lN'); k_dflt (refine getB_c (by k_asm) (by k_asm) (by k_asm) (by first | exact lN' | exact news_tail lN') (by k_asm) (by k_asm) (by k_asm) (by first | exact rfl | assumption) (by k_asm) (by k_asm) (by k_asm) (by k_asm) (by k_asm) (by k_asm) (by k_asm) (by k_asm) (by k_asm) (by k_asm) (by k_asm) (by k_asm) (by first | exact Nat.le_of_ble_eq_true rfl | ktr_room) (by first | exact Nat.le_of_ble_eq_true rfl | ktr_units) ?_); intro t9' h9' tk9' F9' N9'; all_goals k_steps)
      | (unfold Stop; (with_reducible show wpAny _ _ (call (Value.ref 127) [Value.ref _, Value.str (Str.ofString "A$") _]) _ _ _); (rename News _ _ _ _ => lN'); k_dflt (refine getA_c (by k_asm) (by k_asm) (by k_asm) (by first | exact lN' | exact news_tail lN') (by k_asm) (by k_asm) (by k_asm) (by first | exact rfl | assumption) (by k_asm) (by k_asm) (by k_asm) (by k_asm) (by k_asm) (by k_asm) (by k_asm) (by k_asm) (by k_asm) (by k_asm) (by k_asm) (by k_asm) (by first | exact Nat.le_of_ble_eq_true rfl | ktr_room) (by first | exact Nat.le_of_ble_eq_true rfl | ktr_units) ?_); intro t9' h9' tk9' F9' N9'; all_goals k_steps))
    unfold Stop
    rename Fr _ _ _ _ => lF9
    rename News _ _ _ _ => lN9
    refine' LCg.CompEnd.intro lF9 lN9 _ ?zsub ?zoff trivial ⟨_, _, ks ++ [_], rfl, ?zk, ?zs, ?zl, ?zo⟩
    case zsub => kcf_all
    case zoff => (simp only [LCg.Off3, and_true]; exact off)
    case zk => omega
    case zs =>
      rw [List.map_append]
      exact kct_snoc hS
    case zl => rw [List.length_append, hl]; rfl
    case zo =>
      refine Ok.app hok fun y hy => ?_
      rw [List.mem_singleton.mp hy]
      exact ⟨by omega, by omega⟩
  case fin =>
    clear lF' lN' hRg
    rintro ys news ⟨k, t, ks, rfl, hk, hS, hl, hok⟩
    have hCar : CarriedAll ys (ks.map fun k => PyData.str (one k)) := by
      have := hS.carried
      rwa [List.map_map] at this
    k_steps
    repeat' (first
      | (unfold Stop; (with_reducible show wpAny _ _ (call (Value.ref 148) _) _ _ _); (rename News _ _ _ _ => lN'); k_dflt (refine told_c (by k_asm) (by k_asm) (by k_asm) (by first | exact lN' | exact news_rot3 lN') (by (refine' off2 ?_ ?_ <;> k_all)) (by k_ne) (by k_asm) (by first | exact rfl | assumption) (by l_ints) (by (simp only [List.length_take]; omega)) (by omega) (by omega) (by omega) (by first | exact Nat.le_of_ble_eq_true rfl | ktr_room) (by first | exact Nat.le_of_ble_eq_true rfl | ktr_units) ?_); intro r9' t9' u9' v9' h9' tk9' lo9' hi9' F9' N9'; all_goals k_steps)
      | (unfold Stop; (with_reducible show wpAny _ _ (call (Value.builtin _) _) _ _ _); k_dflt (refine join_txt (by first | is_list | exact News.isList (by k_asm) (by k_mem)) (by assumption) (by omega) ?_); intro _ _; all_goals k_steps)
      | (unfold Stop; (with_reducible show wpAny _ _ (call (Value.builtin _) [Value.int _ _]) _ _ _); k_dflt (refine chr_of_range (by omega) (by omega) ?_); all_goals k_steps)
      | (unfold Stop; (with_reducible show wpAny _ _ (compareOp _ (Value.ref _) (Value.ref _)) _ _ _); k_dflt (refine held_same (by k_asm) (by k_mem) (by k_mem) (by k_asm) (by k_asm) (by k_asm) (by k_asm) (by k_mem) (by k_mem) (by k_mem) (by k_mem) (by assumption) (by assumption) (by assumption) (by assumption) (Nat.le_of_ble_eq_true rfl) (Nat.le_of_ble_eq_true rfl) ?_); all_goals k_steps)
      | (unfold Stop; (with_reducible show wpAny _ _ (call (Value.type _) _) _ _ _); k_dflt (refine dict_led (by with_unfolding_all rfl) (by k_asm) (by k_asm) (modules_low (Top.nolimit (by k_asm))) (by k_mem) (by k_mem) (by k_mem) ?_); intro D' o' h' tk' F' N' lo' hd'; all_goals k_steps)
      | (unfold Stop; (with_reducible show wpAny _ _ (subscriptTail _ (Expr.Slice (some _) none none _) _ _) _ _ _); (with_reducible rename Fr _ _ _ _ => F'); (with_reducible rename News _ _ _ _ => N'); (refine slice_strN_sn (hsz := ?zzhsz9) (s := ⟨_, _, _, _, _⟩) F' N' ?_); (case zzhsz9 => (rw [txt_length, sizeLine_eq]; omega)); intro h' t' k' F' N'; all_goals k_steps)
      | (unfold Stop; (with_reducible show wpAny _ _ (subscriptTail _ (Expr.Slice none (some _) none _) _ _) _ _ _); (with_reducible rename Fr _ _ _ _ => F'); (with_reducible rename News _ _ _ _ => N'); (refine slice_strN_ns (hsz := ?zzhsz9) (s := ⟨_, _, _, _, _⟩) F' N' ?_); (case zzhsz9 => (rw [txt_length, sizeLine_eq]; omega)); intro h' t' k' F' N'; all_goals k_steps)
      | (unfold Stop; (with_reducible show wpAny _ _ (compareOp _ (Value.ref _) (Value.ref _)) _ _ _); k_dflt (refine' ne_strs ?zzha9 ?zzhb9 ?zzhi9 ?zzhj9 ?zzho9 ?zzhu9 ?_; (case zzha9 => exact News.isList (by k_asm) (by k_mem)); (case zzhb9 => exact News.isList (by k_asm) (by k_mem)); (case zzhi9 => exact .cons _ _ (.cons _ _ .nil)); (case zzhj9 => exact .cons _ _ (.cons _ _ .nil)); (case zzho9 => exact ok_two (by assumption)); (case zzhu9 => ke_room)); all_goals k_steps)
      | (unfold Stop; (with_reducible show wpAny _ _ (binaryOp _ (Value.str (Txt.slice (txt (dueF _ _)) _ _) _) _) _ _ _); k_dflt (refine add_due rfl (by omega) (by omega) ?_); intro t9' tk9'; all_goals k_steps)
      | (unfold Stop; (with_reducible show wpAny _ _ (binaryOp _ (Value.str _ _) (Value.str _ _)) _ _ _); k_dflt (refine add_rot (by omega) (by omega) (by omega) ?_); intro t9' tk9'; all_goals k_steps)
      | (unfold Stop; (with_reducible show wpAny _ _ (call (Value.ref 141) _) _ _ _); (rename News _ _ _ _ => lN'); k_dflt (refine gcd_c (by k_asm) (by k_asm) (by k_asm) lN' (by k_asm) (by exact rfl) (by omega) (by omega) (by first | exact Nat.le_of_ble_eq_true rfl | ktr_room) (by first | exact Nat.le_of_ble_eq_true rfl | ktr_units) ?_); intro t9' h9' tk9' r9' g9' F9' N9'; all_goals k_steps)
      | (unfold Stop; (with_reducible show wpAny _ _ (call (Value.ref 155) _) _ _ _); (rename News _ _ _ _ => lN'); k_dflt (refine rev_d (by k_asm) (by k_asm) (by k_asm) lN' (by assumption) (by assumption) (by k_asm) (by first | exact rfl | assumption) (by assumption) (by assumption) (by assumption) (by assumption) (by assumption) (by assumption) (by assumption) (by assumption) (by assumption) (by assumption) (by assumption) (by assumption) (by omega) (by omega) (by omega) (by first | exact Nat.le_of_ble_eq_true rfl | ktr_room) (by first | exact Nat.le_of_ble_eq_true rfl | ktr_units) ?_); intro vs9' e9' t9' h9' tk9' i9' l9' o9' F9' N9'; all_goals k_steps)
      | (unfold Stop; (with_reducible show wpAny _ _ (call (Value.ref 127) [Value.ref _, Value.str (Str.ofString "B$") _]) _ _ _); (rename News _ _ _ _ => lN'); k_dflt (refine getB_c (by k_asm) (by k_asm) (by k_asm) (by first | exact lN' | exact news_tail lN') (by k_asm) (by k_asm) (by k_asm) (by first | exact rfl | assumption) (by k_asm) (by k_asm) (by k_asm) (by k_asm) (by k_asm) (by k_asm) (by k_asm) (by k_asm) (by k_asm) (by k_asm) (by k_asm) (by k_asm) (by first | exact Nat.le_of_ble_eq_true rfl | ktr_room) (by first | exact Nat.le_of_ble_eq_true rfl | ktr_units) ?_); intro t9' h9' tk9' F9' N9'; all_goals k_steps)
      | (unfold Stop; (with_reducible show wpAny _ _ (call (Value.ref 127) [Value.ref _, Value.str (Str.ofString "A$") _]) _ _ _); (rename News _ _ _ _ => lN'); k_dflt (refine getA_c (by k_asm) (by k_asm) (by k_asm) (by first | exact lN' | exact news_tail lN') (by k_asm) (by k_asm) (by k_asm) (by first | exact rfl | assumption) (by k_asm) (by k_asm) (by k_asm) (by k_asm) (by k_asm) (by k_asm) (by k_asm) (by k_asm) (by k_asm) (by k_asm) (by k_asm) (by k_asm) (by first | exact Nat.le_of_ble_eq_true rfl | ktr_room) (by first | exact Nat.le_of_ble_eq_true rfl | ktr_units) ?_); intro t9' h9' tk9' F9' N9'; all_goals k_steps))
    unfold Stop
    rename News _ _ _ _ => lN'
    rename IntsAre (List.flatten _) _ => hI9
    rename List.length _ = _ => hE1
    rename 0 ≤ _ → _ = _ => hE3
    rename (_ == sysModules) = false => hLo
    replace hE1 := hE1.trans (ar_e hn hE3)
    have hTL : ((txt ks).length : Int) = n := by rw [txt_length, hl]
    have hTN : (txt ks).length = n := by rw [txt_length, hl]
    have hn64 : n ≤ 64 := by omega
    have lN4 := pick4 lN'
    have hCh := chain4 lN4 (by omega)
    (repeat (rename @LT.lt Nat _ _ _ ∧ _ => hz9; clear hz9))
    clear hE3 lN'
    obtain ⟨c1, c2, c3⟩ := hCh
    k_dflt (refine' assignA_c (n := n) (own := []) ?k1 ?k2 ?k3 lN4 (fun _ h => nomatch h) ?n2 ?n3 ?n4 ?n5 ?n6 ?n7 ?kT ?kK hI9 ?len ?z2 ?ds ?dfs ?dh ?dfi hLo ?x1 ?x2 ?x3 (ascii_txt hok) ?kd ?ku ?_)
    case k1 => k_asm
    case k2 => k_asm
    case k3 => k_asm
    case kT => k_asm
    case kK => exact rfl
    case n2 => exact Nat.ne_of_gt c2
    case n3 => exact Nat.ne_of_gt (Nat.lt_trans c1 c2)
    case n4 => exact Nat.ne_of_gt c1
    case n5 => exact Nat.ne_of_gt c3
    case n6 => exact Nat.ne_of_gt (Nat.lt_trans c2 c3)
    case n7 => exact Nat.ne_of_gt (Nat.lt_trans c1 (Nat.lt_trans c2 c3))
    case len => exact hE1
    case z2 => exact ar_2 hn
    case ds => assumption
    case dfs => assumption
    case dh => assumption
    case dfi => assumption
    case x1 => exact hTN
    case x2 => exact hn64
    case x3 => rw [hTN]; exact hn64
    case kd => first | exact Nat.le_of_ble_eq_true rfl | ktr_room
    case ku => first | exact Nat.le_of_ble_eq_true rfl | ktr_units
    clear hI9 lN4
    rw [octs_txt hok]
    intro la oA vs' e' t1 t2 t3 h' tk' hIA hDA _ g1 g2 g3 g4 _ F' N'
    k_steps
    repeat' (first
      | (unfold Stop; (with_reducible show wpAny _ _ (call (Value.ref 148) _) _ _ _); (rename News _ _ _ _ => lN'); k_dflt (refine told_c (by k_asm) (by k_asm) (by k_asm) (by first | exact lN' | exact news_rot3 lN') (by (refine' off2 ?_ ?_ <;> k_all)) (by k_ne) (by k_asm) (by first | exact rfl | assumption) (by l_ints) (by (simp only [List.length_take]; omega)) (by omega) (by omega) (by omega) (by first | exact Nat.le_of_ble_eq_true rfl | ktr_room) (by first | exact Nat.le_of_ble_eq_true rfl | ktr_units) ?_); intro r9' t9' u9' v9' h9' tk9' lo9' hi9' F9' N9'; all_goals k_steps)
      | (unfold Stop; (with_reducible show wpAny _ _ (call (Value.builtin _) _) _ _ _); k_dflt (refine join_txt (by first | is_list | exact News.isList (by k_asm) (by k_mem)) (by assumption) (by omega) ?_); intro _ _; all_goals k_steps)
      | (unfold Stop; (with_reducible show wpAny _ _ (call (Value.builtin _) [Value.int _ _]) _ _ _); k_dflt (refine chr_of_range (by omega) (by omega) ?_); all_goals k_steps)
      | (unfold Stop; (with_reducible show wpAny _ _ (compareOp _ (Value.ref _) (Value.ref _)) _ _ _); k_dflt (refine held_same (by k_asm) (by k_mem) (by k_mem) (by k_asm) (by k_asm) (by k_asm) (by k_asm) (by k_mem) (by k_mem) (by k_mem) (by k_mem) (by assumption) (by assumption) (by assumption) (by assumption) (Nat.le_of_ble_eq_true rfl) (Nat.le_of_ble_eq_true rfl) ?_); all_goals k_steps)
      | (unfold Stop; (with_reducible show wpAny _ _ (call (Value.type _) _) _ _ _); k_dflt (refine dict_led (by with_unfolding_all rfl) (by k_asm) (by k_asm) (modules_low (Top.nolimit (by k_asm))) (by k_mem) (by k_mem) (by k_mem) ?_); intro D' o' h' tk' F' N' lo' hd'; all_goals k_steps)
      | (unfold Stop; (with_reducible show wpAny _ _ (subscriptTail _ (Expr.Slice (some _) none none _) _ _) _ _ _); (with_reducible rename Fr _ _ _ _ => F'); (with_reducible rename News _ _ _ _ => N'); (refine slice_strN_sn (hsz := ?zzhsz9) (s := ⟨_, _, _, _, _⟩) F' N' ?_); (case zzhsz9 => (rw [txt_length, sizeLine_eq]; omega)); intro h' t' k' F' N'; all_goals k_steps)
      | (unfold Stop; (with_reducible show wpAny _ _ (subscriptTail _ (Expr.Slice none (some _) none _) _ _) _ _ _); (with_reducible rename Fr _ _ _ _ => F'); (with_reducible rename News _ _ _ _ => N'); (refine slice_strN_ns (hsz := ?zzhsz9) (s := ⟨_, _, _, _, _⟩) F' N' ?_); (case zzhsz9 => (rw [txt_length, sizeLine_eq]; omega)); intro h' t' k' F' N'; all_goals k_steps)
      | (unfold Stop; (with_reducible show wpAny _ _ (compareOp _ (Value.ref _) (Value.ref _)) _ _ _); k_dflt (refine' ne_strs ?zzha9 ?zzhb9 ?zzhi9 ?zzhj9 ?zzho9 ?zzhu9 ?_; (case zzha9 => exact News.isList (by k_asm) (by k_mem)); (case zzhb9 => exact News.isList (by k_asm) (by k_mem)); (case zzhi9 => exact .cons _ _ (.cons _ _ .nil)); (case zzhj9 => exact .cons _ _ (.cons _ _ .nil)); (case zzho9 => exact ok_two (by assumption)); (case zzhu9 => ke_room)); all_goals k_steps)
      | (unfold Stop; (with_reducible show wpAny _ _ (binaryOp _ (Value.str (Txt.slice (txt (dueF _ _)) _ _) _) _) _ _ _); k_dflt (refine add_due rfl (by omega) (by omega) ?_); intro t9' tk9'; all_goals k_steps)
      | (unfold Stop; (with_reducible show wpAny _ _ (binaryOp _ (Value.str _ _) (Value.str _ _)) _ _ _); k_dflt (refine add_rot (by omega) (by omega) (by omega) ?_); intro t9' tk9'; all_goals k_steps)
      | (unfold Stop; (with_reducible show wpAny _ _ (call (Value.ref 141) _) _ _ _); (rename News _ _ _ _ => lN'); k_dflt (refine gcd_c (by k_asm) (by k_asm) (by k_asm) lN' (by k_asm) (by exact rfl) (by omega) (by omega) (by first | exact Nat.le_of_ble_eq_true rfl | ktr_room) (by first | exact Nat.le_of_ble_eq_true rfl | ktr_units) ?_); intro t9' h9' tk9' r9' g9' F9' N9'; all_goals k_steps)
      | (unfold Stop; (with_reducible show wpAny _ _ (call (Value.ref 155) _) _ _ _); (rename News _ _ _ _ => lN'); k_dflt (refine rev_d (by k_asm) (by k_asm) (by k_asm) lN' (by assumption) (by assumption) (by k_asm) (by first | exact rfl | assumption) (by assumption) (by assumption) (by assumption) (by assumption) (by assumption) (by assumption) (by assumption) (by assumption) (by assumption) (by assumption) (by assumption) (by assumption) (by omega) (by omega) (by omega) (by first | exact Nat.le_of_ble_eq_true rfl | ktr_room) (by first | exact Nat.le_of_ble_eq_true rfl | ktr_units) ?_); intro vs9' e9' t9' h9' tk9' i9' l9' o9' F9' N9'; all_goals k_steps)
      | (unfold Stop; (with_reducible show wpAny _ _ (call (Value.ref 127) [Value.ref _, Value.str (Str.ofString "B$") _]) _ _ _); (rename News _ _ _ _ => lN'); k_dflt (refine getB_c (by k_asm) (by k_asm) (by k_asm) (by first | exact lN' | exact news_tail lN') (by k_asm) (by k_asm) (by k_asm) (by first | exact rfl | assumption) (by k_asm) (by k_asm) (by k_asm) (by k_asm) (by k_asm) (by k_asm) (by k_asm) (by k_asm) (by k_asm) (by k_asm) (by k_asm) (by k_asm) (by first | exact Nat.le_of_ble_eq_true rfl | ktr_room) (by first | exact Nat.le_of_ble_eq_true rfl | ktr_units) ?_); intro t9' h9' tk9' F9' N9'; all_goals k_steps)
      | (unfold Stop; (with_reducible show wpAny _ _ (call (Value.ref 127) [Value.ref _, Value.str (Str.ofString "A$") _]) _ _ _); (rename News _ _ _ _ => lN'); k_dflt (refine getA_c (by k_asm) (by k_asm) (by k_asm) (by first | exact lN' | exact news_tail lN') (by k_asm) (by k_asm) (by k_asm) (by first | exact rfl | assumption) (by k_asm) (by k_asm) (by k_asm) (by k_asm) (by k_asm) (by k_asm) (by k_asm) (by k_asm) (by k_asm) (by k_asm) (by k_asm) (by k_asm) (by first | exact Nat.le_of_ble_eq_true rfl | ktr_room) (by first | exact Nat.le_of_ble_eq_true rfl | ktr_units) ?_); intro t9' h9' tk9' F9' N9'; all_goals k_steps))
    unfold Stop
    rename News _ _ _ _ => lN'
    k_dflt (refine' assignB_c (n := n) (oA := oA) (own := [_]) ?k1 ?k2 ?k3 (turn5 lN') ?o ?n2 ?n3 ?n4 ?n5 ?n6 ?n7 ?kT ?kK hIA ?len ?z2 hDA hLo ?x1 ?x2 ?x3 (ascii_txt hok) ?kd ?ku ?_)
    case k1 => k_asm
    case k2 => k_asm
    case k3 => k_asm
    case kT => k_asm
    case kK => exact rfl
    case o => exact off4 (fun p h => by rw [List.mem_singleton.mp h]; exact Nat.ne_of_gt g1) (fun p h => by rw [List.mem_singleton.mp h]; exact Nat.ne_of_gt g2) (fun p h => by rw [List.mem_singleton.mp h]; exact Nat.ne_of_gt g3) (fun p h => by rw [List.mem_singleton.mp h]; exact Nat.ne_of_gt g4)
    case n2 => exact Nat.ne_of_gt c2
    case n3 => exact Nat.ne_of_gt (Nat.lt_trans c1 c2)
    case n4 => exact Nat.ne_of_gt c1
    case n5 => exact Nat.ne_of_gt c3
    case n6 => exact Nat.ne_of_gt (Nat.lt_trans c2 c3)
    case n7 => exact Nat.ne_of_gt (Nat.lt_trans c1 (Nat.lt_trans c2 c3))
    case len => rw [List.length_append, List.length_take, hE1, hl, Nat.min_eq_left (Nat.le_mul_of_pos_left n (by decide)), Nat.two_mul]
    case z2 => exact ar_p hn hTL
    case x1 => exact hTN
    case x2 => exact hn64
    case x3 => rw [hTN]; exact hn64
    case kd => first | exact Nat.le_of_ble_eq_true rfl | ktr_room
    case ku => first | exact Nat.le_of_ble_eq_true rfl | ktr_units
    clear lN'
    rw [octs_txt hok]
    intro lb oB vs2 e2 t4 t5 t6 h2 tk2 hIB hDB _ f1 f2 f3 f4 f5 F2 N2
    have N3 := turn6 N2
    clear N2
    have hIB' : IntsAre vs2 (ks ++ ks) := by
      rw [List.drop_append_of_le_length (by rw [List.length_take, hE1, Nat.min_eq_left (Nat.le_mul_of_pos_left n (by decide))]; exact Nat.le_refl _), List.drop_take_self] at hIB
      exact hIB
    clear hIB hE1 hIA hDA g1 g2 g3
    refine room_hide (n := n) N3 ⟨c1, c2, c3⟩ g4 f5.1 rfl (ar_f hn hTL) (ar_p hn hTL) hTL (ar_f hn hTL) hTL ?_
    clear N3 c1 c2 c3 g4 f1 f2 f3 f4 f5
    intro k1 k2 k3 k4 k5 k6 k7 k8 t0 t1 t2 t3 t4 tl tf t7 t8 sz l f mw pA qA pB qB wl N3 D6 hlz hfz hpA hqA hpB hqB
    k_steps
    repeat' (first
      | (unfold Stop; (with_reducible show wpAny _ _ (call (Value.ref 148) _) _ _ _); (rename News _ _ _ _ => lN'); k_dflt (refine told_c (by k_asm) (by k_asm) (by k_asm) (by first | exact lN' | exact news_rot3 lN') (by (refine' off2 ?_ ?_ <;> k_all)) (by k_ne) (by k_asm) (by first | exact rfl | assumption) (by l_ints) (by (simp only [List.length_take]; omega)) (by omega) (by omega) (by omega) (by first | exact Nat.le_of_ble_eq_true rfl | ktr_room) (by first | exact Nat.le_of_ble_eq_true rfl | ktr_units) ?_); intro r9' t9' u9' v9' h9' tk9' lo9' hi9' F9' N9'; all_goals k_steps)
      | (unfold Stop; (with_reducible show wpAny _ _ (call (Value.builtin _) _) _ _ _); k_dflt (refine join_txt (by first | is_list | exact News.isList (by k_asm) (by k_mem)) (by assumption) (by omega) ?_); intro _ _; all_goals k_steps)
      | (unfold Stop; (with_reducible show wpAny _ _ (call (Value.builtin _) [Value.int _ _]) _ _ _); k_dflt (refine chr_of_range (by omega) (by omega) ?_); all_goals k_steps)
      | (unfold Stop; (with_reducible show wpAny _ _ (compareOp _ (Value.ref _) (Value.ref _)) _ _ _); k_dflt (refine held_same (by k_asm) (by k_mem) (by k_mem) (by k_asm) (by k_asm) (by k_asm) (by k_asm) (by k_mem) (by k_mem) (by k_mem) (by k_mem) (by assumption) (by assumption) (by assumption) (by assumption) (Nat.le_of_ble_eq_true rfl) (Nat.le_of_ble_eq_true rfl) ?_); all_goals k_steps)
      | (unfold Stop; (with_reducible show wpAny _ _ (call (Value.type _) _) _ _ _); k_dflt (refine dict_led (by with_unfolding_all rfl) (by k_asm) (by k_asm) (modules_low (Top.nolimit (by k_asm))) (by k_mem) (by k_mem) (by k_mem) ?_); intro D' o' h' tk' F' N' lo' hd'; all_goals k_steps)
      | (unfold Stop; (with_reducible show wpAny _ _ (subscriptTail _ (Expr.Slice (some _) none none _) _ _) _ _ _); (with_reducible rename Fr _ _ _ _ => F'); (with_reducible rename News _ _ _ _ => N'); (refine slice_strN_sn (hsz := ?zzhsz9) (s := ⟨_, _, _, _, _⟩) F' N' ?_); (case zzhsz9 => (rw [txt_length, sizeLine_eq]; omega)); intro h' t' k' F' N'; all_goals k_steps)
      | (unfold Stop; (with_reducible show wpAny _ _ (subscriptTail _ (Expr.Slice none (some _) none _) _ _) _ _ _); (with_reducible rename Fr _ _ _ _ => F'); (with_reducible rename News _ _ _ _ => N'); (refine slice_strN_ns (hsz := ?zzhsz9) (s := ⟨_, _, _, _, _⟩) F' N' ?_); (case zzhsz9 => (rw [txt_length, sizeLine_eq]; omega)); intro h' t' k' F' N'; all_goals k_steps)
      | (unfold Stop; (with_reducible show wpAny _ _ (compareOp _ (Value.ref _) (Value.ref _)) _ _ _); k_dflt (refine' ne_strs ?zzha9 ?zzhb9 ?zzhi9 ?zzhj9 ?zzho9 ?zzhu9 ?_; (case zzha9 => exact News.isList (by k_asm) (by k_mem)); (case zzhb9 => exact News.isList (by k_asm) (by k_mem)); (case zzhi9 => exact .cons _ _ (.cons _ _ .nil)); (case zzhj9 => exact .cons _ _ (.cons _ _ .nil)); (case zzho9 => exact ok_two (by assumption)); (case zzhu9 => ke_room)); all_goals k_steps)
      | (unfold Stop; (with_reducible show wpAny _ _ (binaryOp _ (Value.str (Txt.slice (txt (dueF _ _)) _ _) _) _) _ _ _); k_dflt (refine add_due rfl (by omega) (by omega) ?_); intro t9' tk9'; all_goals k_steps)
      | (unfold Stop; (with_reducible show wpAny _ _ (binaryOp _ (Value.str _ _) (Value.str _ _)) _ _ _); k_dflt (refine add_rot (by omega) (by omega) (by omega) ?_); intro t9' tk9'; all_goals k_steps)
      | (unfold Stop; (with_reducible show wpAny _ _ (call (Value.ref 141) _) _ _ _); (rename News _ _ _ _ => lN'); k_dflt (refine gcd_c (by k_asm) (by k_asm) (by k_asm) lN' (by k_asm) (by exact rfl) (by omega) (by omega) (by first | exact Nat.le_of_ble_eq_true rfl | ktr_room) (by first | exact Nat.le_of_ble_eq_true rfl | ktr_units) ?_); intro t9' h9' tk9' r9' g9' F9' N9'; all_goals k_steps)
      | (unfold Stop; (with_reducible show wpAny _ _ (call (Value.ref 155) _) _ _ _); (rename News _ _ _ _ => lN'); k_dflt (refine rev_d (by k_asm) (by k_asm) (by k_asm) lN' (by assumption) (by assumption) (by k_asm) (by first | exact rfl | assumption) (by assumption) (by assumption) (by assumption) (by assumption) (by assumption) (by assumption) (by assumption) (by assumption) (by assumption) (by assumption) (by assumption) (by assumption) (by omega) (by omega) (by omega) (by first | exact Nat.le_of_ble_eq_true rfl | ktr_room) (by first | exact Nat.le_of_ble_eq_true rfl | ktr_units) ?_); intro vs9' e9' t9' h9' tk9' i9' l9' o9' F9' N9'; all_goals k_steps)
      | (unfold Stop; (with_reducible show wpAny _ _ (call (Value.ref 127) [Value.ref _, Value.str (Str.ofString "B$") _]) _ _ _); (rename News _ _ _ _ => lN'); k_dflt (refine getB_c (by k_asm) (by k_asm) (by k_asm) (by first | exact lN' | exact news_tail lN') (by k_asm) (by k_asm) (by k_asm) (by first | exact rfl | assumption) (by k_asm) (by k_asm) (by k_asm) (by k_asm) (by k_asm) (by k_asm) (by k_asm) (by k_asm) (by k_asm) (by k_asm) (by k_asm) (by k_asm) (by first | exact Nat.le_of_ble_eq_true rfl | ktr_room) (by first | exact Nat.le_of_ble_eq_true rfl | ktr_units) ?_); intro t9' h9' tk9' F9' N9'; all_goals k_steps)
      | (unfold Stop; (with_reducible show wpAny _ _ (call (Value.ref 127) [Value.ref _, Value.str (Str.ofString "A$") _]) _ _ _); (rename News _ _ _ _ => lN'); k_dflt (refine getA_c (by k_asm) (by k_asm) (by k_asm) (by first | exact lN' | exact news_tail lN') (by k_asm) (by k_asm) (by k_asm) (by first | exact rfl | assumption) (by k_asm) (by k_asm) (by k_asm) (by k_asm) (by k_asm) (by k_asm) (by k_asm) (by k_asm) (by k_asm) (by k_asm) (by k_asm) (by k_asm) (by first | exact Nat.le_of_ble_eq_true rfl | ktr_room) (by first | exact Nat.le_of_ble_eq_true rfl | ktr_units) ?_); intro t9' h9' tk9' F9' N9'; all_goals k_steps))
    unfold Stop
    rename Fr _ _ _ _ => lF'
    rename News _ _ _ _ => lN'
    rename IsRange _ _ _ _ _ _ _ _ => hRg
    have h5 : 5 ≤ n := by omega
    have h7 : n ≤ 7 := by omega
    have hn32 : n ≤ 32 := by omega
    have hsn := congrArg Int.toNat hn
    rw [Int.toNat_natCast] at hsn
    k_dflt (refine' room_range (n := n) (ks := ks) (by with_unfolding_all rfl) hRg hn (by omega) hn32 lF' lN' hIB' (by with_unfolding_all rfl) ?turn ?done)
    case turn =>
      clear lF' lN' hRg hIB'
      intro i t vs e td u h tk own hi hI O lF' lN'
      have hLd : (dueF i ks).length = n := by rw [dueF_length, hl]
      have hOd : Ok (dueF i ks) := hok.dueF i
      have hLr : (dueF (i + 1) ks).length = n := by rw [dueF_length, hl]
      have hOr : Ok (dueF (i + 1) ks) := hok.dueF (i + 1)
      show wpAny _ _ _ _ _ _
      k_fold
      k_steps
      repeat' (first
        | (unfold Stop; (with_reducible show wpAny _ _ (call (Value.ref 148) _) _ _ _); (rename News _ _ _ _ => lN'); k_dflt (refine told_c (by k_asm) (by k_asm) (by k_asm) (by first | exact lN' | exact news_rot3 lN') (by (refine' off2 ?_ ?_ <;> k_all)) (by k_ne) (by k_asm) (by first | exact rfl | assumption) (by l_ints) (by (simp only [List.length_take]; omega)) (by omega) (by omega) (by omega) (by first | exact Nat.le_of_ble_eq_true rfl | ktr_room) (by first | exact Nat.le_of_ble_eq_true rfl | ktr_units) ?_); intro r9' t9' u9' v9' h9' tk9' lo9' hi9' F9' N9'; all_goals k_steps)
        | (unfold Stop; (with_reducible show wpAny _ _ (call (Value.builtin _) _) _ _ _); k_dflt (refine join_txt (by first | is_list | exact News.isList (by k_asm) (by k_mem)) (by assumption) (by omega) ?_); intro _ _; all_goals k_steps)
        | (unfold Stop; (with_reducible show wpAny _ _ (call (Value.builtin _) [Value.int _ _]) _ _ _); k_dflt (refine chr_of_range (by omega) (by omega) ?_); all_goals k_steps)
        | (unfold Stop; (with_reducible show wpAny _ _ (compareOp _ (Value.ref _) (Value.ref _)) _ _ _); k_dflt (refine held_same (by k_asm) (by k_mem) (by k_mem) (by k_asm) (by k_asm) (by k_asm) (by k_asm) (by k_mem) (by k_mem) (by k_mem) (by k_mem) (by assumption) (by assumption) (by assumption) (by assumption) (Nat.le_of_ble_eq_true rfl) (Nat.le_of_ble_eq_true rfl) ?_); all_goals k_steps)
        | (unfold Stop; (with_reducible show wpAny _ _ (call (Value.type _) _) _ _ _); k_dflt (refine dict_led (by with_unfolding_all rfl) (by k_asm) (by k_asm) (modules_low (Top.nolimit (by k_asm))) (by k_mem) (by k_mem) (by k_mem) ?_); intro D' o' h' tk' F' N' lo' hd'; all_goals k_steps)
        | (unfold Stop; (with_reducible show wpAny _ _ (subscriptTail _ (Expr.Slice (some _) none none _) _ _) _ _ _); (with_reducible rename Fr _ _ _ _ => F'); (with_reducible rename News _ _ _ _ => N'); (refine slice_strN_sn (hsz := ?zzhsz9) (s := ⟨_, _, _, _, _⟩) F' N' ?_); (case zzhsz9 => (rw [txt_length, sizeLine_eq]; omega)); intro h' t' k' F' N'; all_goals k_steps)
        | (unfold Stop; (with_reducible show wpAny _ _ (subscriptTail _ (Expr.Slice none (some _) none _) _ _) _ _ _); (with_reducible rename Fr _ _ _ _ => F'); (with_reducible rename News _ _ _ _ => N'); (refine slice_strN_ns (hsz := ?zzhsz9) (s := ⟨_, _, _, _, _⟩) F' N' ?_); (case zzhsz9 => (rw [txt_length, sizeLine_eq]; omega)); intro h' t' k' F' N'; all_goals k_steps)
        | (unfold Stop; (with_reducible show wpAny _ _ (compareOp _ (Value.ref _) (Value.ref _)) _ _ _); k_dflt (refine' ne_strs ?zzha9 ?zzhb9 ?zzhi9 ?zzhj9 ?zzho9 ?zzhu9 ?_; (case zzha9 => exact News.isList (by k_asm) (by k_mem)); (case zzhb9 => exact News.isList (by k_asm) (by k_mem)); (case zzhi9 => exact .cons _ _ (.cons _ _ .nil)); (case zzhj9 => exact .cons _ _ (.cons _ _ .nil)); (case zzho9 => exact ok_two (by assumption)); (case zzhu9 => ke_room)); all_goals k_steps)
        | (unfold Stop; (with_reducible show wpAny _ _ (binaryOp _ (Value.str (Txt.slice (txt (dueF _ _)) _ _) _) _) _ _ _); k_dflt (refine add_due rfl (by omega) (by omega) ?_); intro t9' tk9'; all_goals k_steps)
        | (unfold Stop; (with_reducible show wpAny _ _ (binaryOp _ (Value.str _ _) (Value.str _ _)) _ _ _); k_dflt (refine add_rot (by omega) (by omega) (by omega) ?_); intro t9' tk9'; all_goals k_steps)
        | (unfold Stop; (with_reducible show wpAny _ _ (call (Value.ref 141) _) _ _ _); (rename News _ _ _ _ => lN'); k_dflt (refine gcd_c (by k_asm) (by k_asm) (by k_asm) lN' (by k_asm) (by exact rfl) (by omega) (by omega) (by first | exact Nat.le_of_ble_eq_true rfl | ktr_room) (by first | exact Nat.le_of_ble_eq_true rfl | ktr_units) ?_); intro t9' h9' tk9' r9' g9' F9' N9'; all_goals k_steps)
        | (unfold Stop; (with_reducible show wpAny _ _ (call (Value.ref 155) _) _ _ _); (rename News _ _ _ _ => lN'); k_dflt (refine rev_d (by k_asm) (by k_asm) (by k_asm) lN' (by assumption) (by assumption) (by k_asm) (by first | exact rfl | assumption) (by assumption) (by assumption) (by assumption) (by assumption) (by assumption) (by assumption) (by assumption) (by assumption) (by assumption) (by assumption) (by assumption) (by assumption) (by omega) (by omega) (by omega) (by first | exact Nat.le_of_ble_eq_true rfl | ktr_room) (by first | exact Nat.le_of_ble_eq_true rfl | ktr_units) ?_); intro vs9' e9' t9' h9' tk9' i9' l9' o9' F9' N9'; all_goals k_steps)
        | (unfold Stop; (with_reducible show wpAny _ _ (call (Value.ref 127) [Value.ref _, Value.str (Str.ofString "B$") _]) _ _ _); (rename News _ _ _ _ => lN'); k_dflt (refine getB_c (by k_asm) (by k_asm) (by k_asm) (by first | exact lN' | exact news_tail lN') (by k_asm) (by k_asm) (by k_asm) (by first | exact rfl | assumption) (by k_asm) (by k_asm) (by k_asm) (by k_asm) (by k_asm) (by k_asm) (by k_asm) (by k_asm) (by k_asm) (by k_asm) (by k_asm) (by k_asm) (by first | exact Nat.le_of_ble_eq_true rfl | ktr_room) (by first | exact Nat.le_of_ble_eq_true rfl | ktr_units) ?_); intro t9' h9' tk9' F9' N9'; all_goals k_steps)
        | (unfold Stop; (with_reducible show wpAny _ _ (call (Value.ref 127) [Value.ref _, Value.str (Str.ofString "A$") _]) _ _ _); (rename News _ _ _ _ => lN'); k_dflt (refine getA_c (by k_asm) (by k_asm) (by k_asm) (by first | exact lN' | exact news_tail lN') (by k_asm) (by k_asm) (by k_asm) (by first | exact rfl | assumption) (by k_asm) (by k_asm) (by k_asm) (by k_asm) (by k_asm) (by k_asm) (by k_asm) (by k_asm) (by k_asm) (by k_asm) (by k_asm) (by k_asm) (by first | exact Nat.le_of_ble_eq_true rfl | ktr_room) (by first | exact Nat.le_of_ble_eq_true rfl | ktr_units) ?_); intro t9' h9' tk9' F9' N9'; all_goals k_steps))
      unfold Stop
      rename News _ _ _ _ => lN2
      rename IntsAre _ _ => hI3
      have hm1 : (1 + (i : Int)).toNat = i + 1 := by omega
      rw [revs_int (n := n) (xs := dueF i ks) (many := 1 + (i : Int)) h5 h7 rfl (by omega) (by omega) hn hLd, hm1] at hI3
      k_dflt (refine' rounds_d (n := n) (xa := dueF (i + 1) ks) ?k1 ?k2 ?k3 lN2 ?o ?d6 ?k5 ?kK hI3 hLr hLd hn32 ?hs ?lo ?p1 ?p2 ?p3 ?p4 hOr hOd h5 h7 hn ?z1 ?z2 ?kd ?ku ?_)
      case k1 => k_asm
      case k2 => k_asm
      case k3 => k_asm
      case k5 => k_asm
      case kK => exact rfl
      case o => assumption
      case d6 => assumption
      case hs => assumption
      case lo => assumption
      case p1 => assumption
      case p2 => assumption
      case p3 => assumption
      case p4 => assumption
      case z1 => omega
      case z2 => omega
      case kd => exact Nat.le_of_ble_eq_true rfl
      case ku => exact Nat.le_of_ble_eq_true rfl
      intro vs4 e4 t4' h4 tk4 r4 hr4 hI4 F4 N4
      rw [hm1] at hI4
      have hI5 : IntsAre vs4 (dueF (i + 1) ks ++ dueF (i + 1) ks) := hI4
      clear hI4 hI3 lN2
      have hgc := congrArg (fun z => Nat.gcd z (1 + (i : Int)).toNat) hsn
      k_steps
      repeat' (first
        | (unfold Stop; (with_reducible show wpAny _ _ (call (Value.ref 148) _) _ _ _); (rename News _ _ _ _ => lN'); k_dflt (refine told_c (by k_asm) (by k_asm) (by k_asm) (by first | exact lN' | exact news_rot3 lN') (by (refine' off2 ?_ ?_ <;> k_all)) (by k_ne) (by k_asm) (by first | exact rfl | assumption) (by l_ints) (by (simp only [List.length_take]; omega)) (by omega) (by omega) (by omega) (by first | exact Nat.le_of_ble_eq_true rfl | ktr_room) (by first | exact Nat.le_of_ble_eq_true rfl | ktr_units) ?_); intro r9' t9' u9' v9' h9' tk9' lo9' hi9' F9' N9'; all_goals k_steps)
        | (unfold Stop; (with_reducible show wpAny _ _ (call (Value.builtin _) _) _ _ _); k_dflt (refine join_txt (by first | is_list | exact News.isList (by k_asm) (by k_mem)) (by assumption) (by omega) ?_); intro _ _; all_goals k_steps)
        | (unfold Stop; (with_reducible show wpAny _ _ (call (Value.builtin _) [Value.int _ _]) _ _ _); k_dflt (refine chr_of_range (by omega) (by omega) ?_); all_goals k_steps)
        | (unfold Stop; (with_reducible show wpAny _ _ (compareOp _ (Value.ref _) (Value.ref _)) _ _ _); k_dflt (refine held_same (by k_asm) (by k_mem) (by k_mem) (by k_asm) (by k_asm) (by k_asm) (by k_asm) (by k_mem) (by k_mem) (by k_mem) (by k_mem) (by assumption) (by assumption) (by assumption) (by assumption) (Nat.le_of_ble_eq_true rfl) (Nat.le_of_ble_eq_true rfl) ?_); all_goals k_steps)
        | (unfold Stop; (with_reducible show wpAny _ _ (call (Value.type _) _) _ _ _); k_dflt (refine dict_led (by with_unfolding_all rfl) (by k_asm) (by k_asm) (modules_low (Top.nolimit (by k_asm))) (by k_mem) (by k_mem) (by k_mem) ?_); intro D' o' h' tk' F' N' lo' hd'; all_goals k_steps)
        | (unfold Stop; (with_reducible show wpAny _ _ (subscriptTail _ (Expr.Slice (some _) none none _) _ _) _ _ _); (with_reducible rename Fr _ _ _ _ => F'); (with_reducible rename News _ _ _ _ => N'); (refine slice_strN_sn (hsz := ?zzhsz9) (s := ⟨_, _, _, _, _⟩) F' N' ?_); (case zzhsz9 => (rw [txt_length, sizeLine_eq]; omega)); intro h' t' k' F' N'; all_goals k_steps)
        | (unfold Stop; (with_reducible show wpAny _ _ (subscriptTail _ (Expr.Slice none (some _) none _) _ _) _ _ _); (with_reducible rename Fr _ _ _ _ => F'); (with_reducible rename News _ _ _ _ => N'); (refine slice_strN_ns (hsz := ?zzhsz9) (s := ⟨_, _, _, _, _⟩) F' N' ?_); (case zzhsz9 => (rw [txt_length, sizeLine_eq]; omega)); intro h' t' k' F' N'; all_goals k_steps)
        | (unfold Stop; (with_reducible show wpAny _ _ (compareOp _ (Value.ref _) (Value.ref _)) _ _ _); k_dflt (refine' ne_strs ?zzha9 ?zzhb9 ?zzhi9 ?zzhj9 ?zzho9 ?zzhu9 ?_; (case zzha9 => exact News.isList (by k_asm) (by k_mem)); (case zzhb9 => exact News.isList (by k_asm) (by k_mem)); (case zzhi9 => exact .cons _ _ (.cons _ _ .nil)); (case zzhj9 => exact .cons _ _ (.cons _ _ .nil)); (case zzho9 => exact ok_two (by assumption)); (case zzhu9 => ke_room)); all_goals k_steps)
        | (unfold Stop; (with_reducible show wpAny _ _ (binaryOp _ (Value.str (Txt.slice (txt (dueF _ _)) _ _) _) _) _ _ _); k_dflt (refine add_due rfl (by omega) (by omega) ?_); intro t9' tk9'; all_goals k_steps)
        | (unfold Stop; (with_reducible show wpAny _ _ (binaryOp _ (Value.str _ _) (Value.str _ _)) _ _ _); k_dflt (refine add_rot (by omega) (by omega) (by omega) ?_); intro t9' tk9'; all_goals k_steps)
        | (unfold Stop; (with_reducible show wpAny _ _ (call (Value.ref 141) _) _ _ _); (rename News _ _ _ _ => lN'); k_dflt (refine gcd_c (by k_asm) (by k_asm) (by k_asm) lN' (by k_asm) (by exact rfl) (by omega) (by omega) (by first | exact Nat.le_of_ble_eq_true rfl | ktr_room) (by first | exact Nat.le_of_ble_eq_true rfl | ktr_units) ?_); intro t9' h9' tk9' r9' g9' F9' N9'; all_goals k_steps)
        | (unfold Stop; (with_reducible show wpAny _ _ (call (Value.ref 155) _) _ _ _); (rename News _ _ _ _ => lN'); k_dflt (refine rev_d (by k_asm) (by k_asm) (by k_asm) lN' (by assumption) (by assumption) (by k_asm) (by first | exact rfl | assumption) (by assumption) (by assumption) (by assumption) (by assumption) (by assumption) (by assumption) (by assumption) (by assumption) (by assumption) (by assumption) (by assumption) (by assumption) (by omega) (by omega) (by omega) (by first | exact Nat.le_of_ble_eq_true rfl | ktr_room) (by first | exact Nat.le_of_ble_eq_true rfl | ktr_units) ?_); intro vs9' e9' t9' h9' tk9' i9' l9' o9' F9' N9'; all_goals k_steps)
        | (unfold Stop; (with_reducible show wpAny _ _ (call (Value.ref 127) [Value.ref _, Value.str (Str.ofString "B$") _]) _ _ _); (rename News _ _ _ _ => lN'); k_dflt (refine getB_c (by k_asm) (by k_asm) (by k_asm) (by first | exact lN' | exact news_tail lN') (by k_asm) (by k_asm) (by k_asm) (by first | exact rfl | assumption) (by k_asm) (by k_asm) (by k_asm) (by k_asm) (by k_asm) (by k_asm) (by k_asm) (by k_asm) (by k_asm) (by k_asm) (by k_asm) (by k_asm) (by first | exact Nat.le_of_ble_eq_true rfl | ktr_room) (by first | exact Nat.le_of_ble_eq_true rfl | ktr_units) ?_); intro t9' h9' tk9' F9' N9'; all_goals k_steps)
        | (unfold Stop; (with_reducible show wpAny _ _ (call (Value.ref 127) [Value.ref _, Value.str (Str.ofString "A$") _]) _ _ _); (rename News _ _ _ _ => lN'); k_dflt (refine getA_c (by k_asm) (by k_asm) (by k_asm) (by first | exact lN' | exact news_tail lN') (by k_asm) (by k_asm) (by k_asm) (by first | exact rfl | assumption) (by k_asm) (by k_asm) (by k_asm) (by k_asm) (by k_asm) (by k_asm) (by k_asm) (by k_asm) (by k_asm) (by k_asm) (by k_asm) (by k_asm) (by first | exact Nat.le_of_ble_eq_true rfl | ktr_room) (by first | exact Nat.le_of_ble_eq_true rfl | ktr_units) ?_); intro t9' h9' tk9' F9' N9'; all_goals k_steps))
      unfold Stop
      rename _ = (1 + (i : Int)) / 2 => q1
      rename _ = (_ - (1 + (i : Int))) / 2 => q2
      rename _ = (5 + _) / 2 => q3
      refine ne_eqI (by rw [q1, q2, q3, Int.sub_zero, Int.sub_zero]) ?_
      k_steps
      repeat' (first
        | (unfold Stop; (with_reducible show wpAny _ _ (call (Value.ref 148) _) _ _ _); (rename News _ _ _ _ => lN'); k_dflt (refine told_c (by k_asm) (by k_asm) (by k_asm) (by first | exact lN' | exact news_rot3 lN') (by (refine' off2 ?_ ?_ <;> k_all)) (by k_ne) (by k_asm) (by first | exact rfl | assumption) (by l_ints) (by (simp only [List.length_take]; omega)) (by omega) (by omega) (by omega) (by first | exact Nat.le_of_ble_eq_true rfl | ktr_room) (by first | exact Nat.le_of_ble_eq_true rfl | ktr_units) ?_); intro r9' t9' u9' v9' h9' tk9' lo9' hi9' F9' N9'; all_goals k_steps)
        | (unfold Stop; (with_reducible show wpAny _ _ (call (Value.builtin _) _) _ _ _); k_dflt (refine join_txt (by first | is_list | exact News.isList (by k_asm) (by k_mem)) (by assumption) (by omega) ?_); intro _ _; all_goals k_steps)
        | (unfold Stop; (with_reducible show wpAny _ _ (call (Value.builtin _) [Value.int _ _]) _ _ _); k_dflt (refine chr_of_range (by omega) (by omega) ?_); all_goals k_steps)
        | (unfold Stop; (with_reducible show wpAny _ _ (compareOp _ (Value.ref _) (Value.ref _)) _ _ _); k_dflt (refine held_same (by k_asm) (by k_mem) (by k_mem) (by k_asm) (by k_asm) (by k_asm) (by k_asm) (by k_mem) (by k_mem) (by k_mem) (by k_mem) (by assumption) (by assumption) (by assumption) (by assumption) (Nat.le_of_ble_eq_true rfl) (Nat.le_of_ble_eq_true rfl) ?_); all_goals k_steps)
        | (unfold Stop; (with_reducible show wpAny _ _ (call (Value.type _) _) _ _ _); k_dflt (refine dict_led (by with_unfolding_all rfl) (by k_asm) (by k_asm) (modules_low (Top.nolimit (by k_asm))) (by k_mem) (by k_mem) (by k_mem) ?_); intro D' o' h' tk' F' N' lo' hd'; all_goals k_steps)
        | (unfold Stop; (with_reducible show wpAny _ _ (subscriptTail _ (Expr.Slice (some _) none none _) _ _) _ _ _); (with_reducible rename Fr _ _ _ _ => F'); (with_reducible rename News _ _ _ _ => N'); (refine slice_strN_sn (hsz := ?zzhsz9) (s := ⟨_, _, _, _, _⟩) F' N' ?_); (case zzhsz9 => (rw [txt_length, sizeLine_eq]; omega)); intro h' t' k' F' N'; all_goals k_steps)
        | (unfold Stop; (with_reducible show wpAny _ _ (subscriptTail _ (Expr.Slice none (some _) none _) _ _) _ _ _); (with_reducible rename Fr _ _ _ _ => F'); (with_reducible rename News _ _ _ _ => N'); (refine slice_strN_ns (hsz := ?zzhsz9) (s := ⟨_, _, _, _, _⟩) F' N' ?_); (case zzhsz9 => (rw [txt_length, sizeLine_eq]; omega)); intro h' t' k' F' N'; all_goals k_steps)
        | (unfold Stop; (with_reducible show wpAny _ _ (compareOp _ (Value.ref _) (Value.ref _)) _ _ _); k_dflt (refine' ne_strs ?zzha9 ?zzhb9 ?zzhi9 ?zzhj9 ?zzho9 ?zzhu9 ?_; (case zzha9 => exact News.isList (by k_asm) (by k_mem)); (case zzhb9 => exact News.isList (by k_asm) (by k_mem)); (case zzhi9 => exact .cons _ _ (.cons _ _ .nil)); (case zzhj9 => exact .cons _ _ (.cons _ _ .nil)); (case zzho9 => exact ok_two (by assumption)); (case zzhu9 => ke_room)); all_goals k_steps)
        | (unfold Stop; (with_reducible show wpAny _ _ (binaryOp _ (Value.str (Txt.slice (txt (dueF _ _)) _ _) _) _) _ _ _); k_dflt (refine add_due rfl (by omega) (by omega) ?_); intro t9' tk9'; all_goals k_steps)
        | (unfold Stop; (with_reducible show wpAny _ _ (binaryOp _ (Value.str _ _) (Value.str _ _)) _ _ _); k_dflt (refine add_rot (by omega) (by omega) (by omega) ?_); intro t9' tk9'; all_goals k_steps)
        | (unfold Stop; (with_reducible show wpAny _ _ (call (Value.ref 141) _) _ _ _); (rename News _ _ _ _ => lN'); k_dflt (refine gcd_c (by k_asm) (by k_asm) (by k_asm) lN' (by k_asm) (by exact rfl) (by omega) (by omega) (by first | exact Nat.le_of_ble_eq_true rfl | ktr_room) (by first | exact Nat.le_of_ble_eq_true rfl | ktr_units) ?_); intro t9' h9' tk9' r9' g9' F9' N9'; all_goals k_steps)
        | (unfold Stop; (with_reducible show wpAny _ _ (call (Value.ref 155) _) _ _ _); (rename News _ _ _ _ => lN'); k_dflt (refine rev_d (by k_asm) (by k_asm) (by k_asm) lN' (by assumption) (by assumption) (by k_asm) (by first | exact rfl | assumption) (by assumption) (by assumption) (by assumption) (by assumption) (by assumption) (by assumption) (by assumption) (by assumption) (by assumption) (by assumption) (by assumption) (by assumption) (by omega) (by omega) (by omega) (by first | exact Nat.le_of_ble_eq_true rfl | ktr_room) (by first | exact Nat.le_of_ble_eq_true rfl | ktr_units) ?_); intro vs9' e9' t9' h9' tk9' i9' l9' o9' F9' N9'; all_goals k_steps)
        | (unfold Stop; (with_reducible show wpAny _ _ (call (Value.ref 127) [Value.ref _, Value.str (Str.ofString "B$") _]) _ _ _); (rename News _ _ _ _ => lN'); k_dflt (refine getB_c (by k_asm) (by k_asm) (by k_asm) (by first | exact lN' | exact news_tail lN') (by k_asm) (by k_asm) (by k_asm) (by first | exact rfl | assumption) (by k_asm) (by k_asm) (by k_asm) (by k_asm) (by k_asm) (by k_asm) (by k_asm) (by k_asm) (by k_asm) (by k_asm) (by k_asm) (by k_asm) (by first | exact Nat.le_of_ble_eq_true rfl | ktr_room) (by first | exact Nat.le_of_ble_eq_true rfl | ktr_units) ?_); intro t9' h9' tk9' F9' N9'; all_goals k_steps)
        | (unfold Stop; (with_reducible show wpAny _ _ (call (Value.ref 127) [Value.ref _, Value.str (Str.ofString "A$") _]) _ _ _); (rename News _ _ _ _ => lN'); k_dflt (refine getA_c (by k_asm) (by k_asm) (by k_asm) (by first | exact lN' | exact news_tail lN') (by k_asm) (by k_asm) (by k_asm) (by first | exact rfl | assumption) (by k_asm) (by k_asm) (by k_asm) (by k_asm) (by k_asm) (by k_asm) (by k_asm) (by k_asm) (by k_asm) (by k_asm) (by k_asm) (by k_asm) (by first | exact Nat.le_of_ble_eq_true rfl | ktr_room) (by first | exact Nat.le_of_ble_eq_true rfl | ktr_units) ?_); intro t9' h9' tk9' F9' N9'; all_goals k_steps))
      unfold Stop
      rename _ = ((Nat.gcd _ _ : Nat) : Int) => hg9
      refine ne_eqI (by rw [hr4, hg9, hgc]) ?_
      k_steps
      repeat' (first
        | (unfold Stop; (with_reducible show wpAny _ _ (call (Value.ref 148) _) _ _ _); (rename News _ _ _ _ => lN'); k_dflt (refine told_c (by k_asm) (by k_asm) (by k_asm) (by first | exact lN' | exact news_rot3 lN') (by (refine' off2 ?_ ?_ <;> k_all)) (by k_ne) (by k_asm) (by first | exact rfl | assumption) (by l_ints) (by (simp only [List.length_take]; omega)) (by omega) (by omega) (by omega) (by first | exact Nat.le_of_ble_eq_true rfl | ktr_room) (by first | exact Nat.le_of_ble_eq_true rfl | ktr_units) ?_); intro r9' t9' u9' v9' h9' tk9' lo9' hi9' F9' N9'; all_goals k_steps)
        | (unfold Stop; (with_reducible show wpAny _ _ (call (Value.builtin _) _) _ _ _); k_dflt (refine join_txt (by first | is_list | exact News.isList (by k_asm) (by k_mem)) (by assumption) (by omega) ?_); intro _ _; all_goals k_steps)
        | (unfold Stop; (with_reducible show wpAny _ _ (call (Value.builtin _) [Value.int _ _]) _ _ _); k_dflt (refine chr_of_range (by omega) (by omega) ?_); all_goals k_steps)
        | (unfold Stop; (with_reducible show wpAny _ _ (compareOp _ (Value.ref _) (Value.ref _)) _ _ _); k_dflt (refine held_same (by k_asm) (by k_mem) (by k_mem) (by k_asm) (by k_asm) (by k_asm) (by k_asm) (by k_mem) (by k_mem) (by k_mem) (by k_mem) (by assumption) (by assumption) (by assumption) (by assumption) (Nat.le_of_ble_eq_true rfl) (Nat.le_of_ble_eq_true rfl) ?_); all_goals k_steps)
        | (unfold Stop; (with_reducible show wpAny _ _ (call (Value.type _) _) _ _ _); k_dflt (refine dict_led (by with_unfolding_all rfl) (by k_asm) (by k_asm) (modules_low (Top.nolimit (by k_asm))) (by k_mem) (by k_mem) (by k_mem) ?_); intro D' o' h' tk' F' N' lo' hd'; all_goals k_steps)
        | (unfold Stop; (with_reducible show wpAny _ _ (subscriptTail _ (Expr.Slice (some _) none none _) _ _) _ _ _); (with_reducible rename Fr _ _ _ _ => F'); (with_reducible rename News _ _ _ _ => N'); (refine slice_strN_sn (hsz := ?zzhsz9) (s := ⟨_, _, _, _, _⟩) F' N' ?_); (case zzhsz9 => (rw [txt_length, sizeLine_eq]; omega)); intro h' t' k' F' N'; all_goals k_steps)
        | (unfold Stop; (with_reducible show wpAny _ _ (subscriptTail _ (Expr.Slice none (some _) none _) _ _) _ _ _); (with_reducible rename Fr _ _ _ _ => F'); (with_reducible rename News _ _ _ _ => N'); (refine slice_strN_ns (hsz := ?zzhsz9) (s := ⟨_, _, _, _, _⟩) F' N' ?_); (case zzhsz9 => (rw [txt_length, sizeLine_eq]; omega)); intro h' t' k' F' N'; all_goals k_steps)
        | (unfold Stop; (with_reducible show wpAny _ _ (compareOp _ (Value.ref _) (Value.ref _)) _ _ _); k_dflt (refine' ne_strs ?zzha9 ?zzhb9 ?zzhi9 ?zzhj9 ?zzho9 ?zzhu9 ?_; (case zzha9 => exact News.isList (by k_asm) (by k_mem)); (case zzhb9 => exact News.isList (by k_asm) (by k_mem)); (case zzhi9 => exact .cons _ _ (.cons _ _ .nil)); (case zzhj9 => exact .cons _ _ (.cons _ _ .nil)); (case zzho9 => exact ok_two (by assumption)); (case zzhu9 => ke_room)); all_goals k_steps)
        | (unfold Stop; (with_reducible show wpAny _ _ (binaryOp _ (Value.str (Txt.slice (txt (dueF _ _)) _ _) _) _) _ _ _); k_dflt (refine add_due rfl (by omega) (by omega) ?_); intro t9' tk9'; all_goals k_steps)
        | (unfold Stop; (with_reducible show wpAny _ _ (binaryOp _ (Value.str _ _) (Value.str _ _)) _ _ _); k_dflt (refine add_rot (by omega) (by omega) (by omega) ?_); intro t9' tk9'; all_goals k_steps)
        | (unfold Stop; (with_reducible show wpAny _ _ (call (Value.ref 141) _) _ _ _); (rename News _ _ _ _ => lN'); k_dflt (refine gcd_c (by k_asm) (by k_asm) (by k_asm) lN' (by k_asm) (by exact rfl) (by omega) (by omega) (by first | exact Nat.le_of_ble_eq_true rfl | ktr_room) (by first | exact Nat.le_of_ble_eq_true rfl | ktr_units) ?_); intro t9' h9' tk9' r9' g9' F9' N9'; all_goals k_steps)
        | (unfold Stop; (with_reducible show wpAny _ _ (call (Value.ref 155) _) _ _ _); (rename News _ _ _ _ => lN'); k_dflt (refine rev_d (by k_asm) (by k_asm) (by k_asm) lN' (by assumption) (by assumption) (by k_asm) (by first | exact rfl | assumption) (by assumption) (by assumption) (by assumption) (by assumption) (by assumption) (by assumption) (by assumption) (by assumption) (by assumption) (by assumption) (by assumption) (by assumption) (by omega) (by omega) (by omega) (by first | exact Nat.le_of_ble_eq_true rfl | ktr_room) (by first | exact Nat.le_of_ble_eq_true rfl | ktr_units) ?_); intro vs9' e9' t9' h9' tk9' i9' l9' o9' F9' N9'; all_goals k_steps)
        | (unfold Stop; (with_reducible show wpAny _ _ (call (Value.ref 127) [Value.ref _, Value.str (Str.ofString "B$") _]) _ _ _); (rename News _ _ _ _ => lN'); k_dflt (refine getB_c (by k_asm) (by k_asm) (by k_asm) (by first | exact lN' | exact news_tail lN') (by k_asm) (by k_asm) (by k_asm) (by first | exact rfl | assumption) (by k_asm) (by k_asm) (by k_asm) (by k_asm) (by k_asm) (by k_asm) (by k_asm) (by k_asm) (by k_asm) (by k_asm) (by k_asm) (by k_asm) (by first | exact Nat.le_of_ble_eq_true rfl | ktr_room) (by first | exact Nat.le_of_ble_eq_true rfl | ktr_units) ?_); intro t9' h9' tk9' F9' N9'; all_goals k_steps)
        | (unfold Stop; (with_reducible show wpAny _ _ (call (Value.ref 127) [Value.ref _, Value.str (Str.ofString "A$") _]) _ _ _); (rename News _ _ _ _ => lN'); k_dflt (refine getA_c (by k_asm) (by k_asm) (by k_asm) (by first | exact lN' | exact news_tail lN') (by k_asm) (by k_asm) (by k_asm) (by first | exact rfl | assumption) (by k_asm) (by k_asm) (by k_asm) (by k_asm) (by k_asm) (by k_asm) (by k_asm) (by k_asm) (by k_asm) (by k_asm) (by k_asm) (by k_asm) (by first | exact Nat.le_of_ble_eq_true rfl | ktr_room) (by first | exact Nat.le_of_ble_eq_true rfl | ktr_units) ?_); intro t9' h9' tk9' F9' N9'; all_goals k_steps))
      dsimp only [RgPost]
      rename Fr _ _ _ _ => lF9
      rename News _ _ _ _ => lN9
      refine' rg_end ⟨_, _, dueF (i + 1) ks, _⟩ lF9 (news_tail (news_tail lN9)) ?b9 ?c9 ⟨hI5, rfl⟩
      case b9 => exact List.forall_mem_cons.mpr ⟨by with_unfolding_all rfl, List.forall_mem_nil _⟩
      case c9 =>
        intro z h2 h3
        have e1 : z ≠ Str.ofString "due" := h2 _ List.mem_cons_self
        have e2 := h3
        simp only [lawSt, List.contains_cons, List.contains_nil, Bool.or_false, Bool.or_eq_false_iff, beq_eq_false_iff_ne, ne_eq] at e2
        obtain ⟨f1, f2, f3⟩ := e2
        simp only [e1, f1, f2, f3, if_false, kstB, h3]
        rfl
    case done =>
      clear lF' lN' hRg hIB'
      intro vs e td u h tk hI lF' lN'
      have hLd : (dueF (n - 1) ks).length = n := by rw [dueF_length, hl]
      have hOd : Ok (dueF (n - 1) ks) := hok.dueF (n - 1)
      have eA := hpA.trans hn.symm
      have eF : f - l = 0 := by rw [hlz, hfz]; rfl
      have eB := hqA.trans hn.symm
      have eC := hqB.trans hn.symm
      dsimp only
      k_steps
      repeat' (first
        | (unfold Stop; (with_reducible show wpAny _ _ (call (Value.ref 148) _) _ _ _); (rename News _ _ _ _ => lN'); k_dflt (refine told_c (by k_asm) (by k_asm) (by k_asm) (by first | exact lN' | exact news_rot3 lN') (by (refine' off2 ?_ ?_ <;> k_all)) (by k_ne) (by k_asm) (by first | exact rfl | assumption) (by l_ints) (by (simp only [List.length_take]; omega)) (by omega) (by omega) (by omega) (by first | exact Nat.le_of_ble_eq_true rfl | ktr_room) (by first | exact Nat.le_of_ble_eq_true rfl | ktr_units) ?_); intro r9' t9' u9' v9' h9' tk9' lo9' hi9' F9' N9'; all_goals k_steps)
        | (unfold Stop; (with_reducible show wpAny _ _ (call (Value.builtin _) _) _ _ _); k_dflt (refine join_txt (by first | is_list | exact News.isList (by k_asm) (by k_mem)) (by assumption) (by omega) ?_); intro _ _; all_goals k_steps)
        | (unfold Stop; (with_reducible show wpAny _ _ (call (Value.builtin _) [Value.int _ _]) _ _ _); k_dflt (refine chr_of_range (by omega) (by omega) ?_); all_goals k_steps)
        | (unfold Stop; (with_reducible show wpAny _ _ (compareOp _ (Value.ref _) (Value.ref _)) _ _ _); k_dflt (refine held_same (by k_asm) (by k_mem) (by k_mem) (by k_asm) (by k_asm) (by k_asm) (by k_asm) (by k_mem) (by k_mem) (by k_mem) (by k_mem) (by assumption) (by assumption) (by assumption) (by assumption) (Nat.le_of_ble_eq_true rfl) (Nat.le_of_ble_eq_true rfl) ?_); all_goals k_steps)
        | (unfold Stop; (with_reducible show wpAny _ _ (call (Value.type _) _) _ _ _); k_dflt (refine dict_led (by with_unfolding_all rfl) (by k_asm) (by k_asm) (modules_low (Top.nolimit (by k_asm))) (by k_mem) (by k_mem) (by k_mem) ?_); intro D' o' h' tk' F' N' lo' hd'; all_goals k_steps)
        | (unfold Stop; (with_reducible show wpAny _ _ (subscriptTail _ (Expr.Slice (some _) none none _) _ _) _ _ _); (with_reducible rename Fr _ _ _ _ => F'); (with_reducible rename News _ _ _ _ => N'); (refine slice_strN_sn (hsz := ?zzhsz9) (s := ⟨_, _, _, _, _⟩) F' N' ?_); (case zzhsz9 => (rw [txt_length, sizeLine_eq]; omega)); intro h' t' k' F' N'; all_goals k_steps)
        | (unfold Stop; (with_reducible show wpAny _ _ (subscriptTail _ (Expr.Slice none (some _) none _) _ _) _ _ _); (with_reducible rename Fr _ _ _ _ => F'); (with_reducible rename News _ _ _ _ => N'); (refine slice_strN_ns (hsz := ?zzhsz9) (s := ⟨_, _, _, _, _⟩) F' N' ?_); (case zzhsz9 => (rw [txt_length, sizeLine_eq]; omega)); intro h' t' k' F' N'; all_goals k_steps)
        | (unfold Stop; (with_reducible show wpAny _ _ (compareOp _ (Value.ref _) (Value.ref _)) _ _ _); k_dflt (refine' ne_strs ?zzha9 ?zzhb9 ?zzhi9 ?zzhj9 ?zzho9 ?zzhu9 ?_; (case zzha9 => exact News.isList (by k_asm) (by k_mem)); (case zzhb9 => exact News.isList (by k_asm) (by k_mem)); (case zzhi9 => exact .cons _ _ (.cons _ _ .nil)); (case zzhj9 => exact .cons _ _ (.cons _ _ .nil)); (case zzho9 => exact ok_two (by assumption)); (case zzhu9 => ke_room)); all_goals k_steps)
        | (unfold Stop; (with_reducible show wpAny _ _ (binaryOp _ (Value.str (Txt.slice (txt (dueF _ _)) _ _) _) _) _ _ _); k_dflt (refine add_due rfl (by omega) (by omega) ?_); intro t9' tk9'; all_goals k_steps)
        | (unfold Stop; (with_reducible show wpAny _ _ (binaryOp _ (Value.str _ _) (Value.str _ _)) _ _ _); k_dflt (refine add_rot (by omega) (by omega) (by omega) ?_); intro t9' tk9'; all_goals k_steps)
        | (unfold Stop; (with_reducible show wpAny _ _ (call (Value.ref 141) _) _ _ _); (rename News _ _ _ _ => lN'); k_dflt (refine gcd_c (by k_asm) (by k_asm) (by k_asm) lN' (by k_asm) (by exact rfl) (by omega) (by omega) (by first | exact Nat.le_of_ble_eq_true rfl | ktr_room) (by first | exact Nat.le_of_ble_eq_true rfl | ktr_units) ?_); intro t9' h9' tk9' r9' g9' F9' N9'; all_goals k_steps)
        | (unfold Stop; (with_reducible show wpAny _ _ (call (Value.ref 155) _) _ _ _); (rename News _ _ _ _ => lN'); k_dflt (refine rev_d (by k_asm) (by k_asm) (by k_asm) lN' (by assumption) (by assumption) (by k_asm) (by first | exact rfl | assumption) (by assumption) (by assumption) (by assumption) (by assumption) (by assumption) (by assumption) (by assumption) (by assumption) (by assumption) (by assumption) (by assumption) (by assumption) (by omega) (by omega) (by omega) (by first | exact Nat.le_of_ble_eq_true rfl | ktr_room) (by first | exact Nat.le_of_ble_eq_true rfl | ktr_units) ?_); intro vs9' e9' t9' h9' tk9' i9' l9' o9' F9' N9'; all_goals k_steps)
        | (unfold Stop; (with_reducible show wpAny _ _ (call (Value.ref 127) [Value.ref _, Value.str (Str.ofString "B$") _]) _ _ _); (rename News _ _ _ _ => lN'); k_dflt (refine getB_c (by k_asm) (by k_asm) (by k_asm) (by first | exact lN' | exact news_tail lN') (by k_asm) (by k_asm) (by k_asm) (by first | exact rfl | assumption) (by k_asm) (by k_asm) (by k_asm) (by k_asm) (by k_asm) (by k_asm) (by k_asm) (by k_asm) (by k_asm) (by k_asm) (by k_asm) (by k_asm) (by first | exact Nat.le_of_ble_eq_true rfl | ktr_room) (by first | exact Nat.le_of_ble_eq_true rfl | ktr_units) ?_); intro t9' h9' tk9' F9' N9'; all_goals k_steps)
        | (unfold Stop; (with_reducible show wpAny _ _ (call (Value.ref 127) [Value.ref _, Value.str (Str.ofString "A$") _]) _ _ _); (rename News _ _ _ _ => lN'); k_dflt (refine getA_c (by k_asm) (by k_asm) (by k_asm) (by first | exact lN' | exact news_tail lN') (by k_asm) (by k_asm) (by k_asm) (by first | exact rfl | assumption) (by k_asm) (by k_asm) (by k_asm) (by k_asm) (by k_asm) (by k_asm) (by k_asm) (by k_asm) (by k_asm) (by k_asm) (by k_asm) (by k_asm) (by first | exact Nat.le_of_ble_eq_true rfl | ktr_room) (by first | exact Nat.le_of_ble_eq_true rfl | ktr_units) ?_); intro t9' h9' tk9' F9' N9'; all_goals k_steps))
      · unfold Stop
        k_dflt (refine ne_eqS (half_even h5 h7 hl hn (by assumption) (by assumption) (by assumption)) ?_)
        k_steps
        repeat' (first
          | (unfold Stop; (with_reducible show wpAny _ _ (call (Value.ref 148) _) _ _ _); (rename News _ _ _ _ => lN'); k_dflt (refine told_c (by k_asm) (by k_asm) (by k_asm) (by first | exact lN' | exact news_rot3 lN') (by (refine' off2 ?_ ?_ <;> k_all)) (by k_ne) (by k_asm) (by first | exact rfl | assumption) (by l_ints) (by (simp only [List.length_take]; omega)) (by omega) (by omega) (by omega) (by first | exact Nat.le_of_ble_eq_true rfl | ktr_room) (by first | exact Nat.le_of_ble_eq_true rfl | ktr_units) ?_); intro r9' t9' u9' v9' h9' tk9' lo9' hi9' F9' N9'; all_goals k_steps)
          | (unfold Stop; (with_reducible show wpAny _ _ (call (Value.builtin _) _) _ _ _); k_dflt (refine join_txt (by first | is_list | exact News.isList (by k_asm) (by k_mem)) (by assumption) (by omega) ?_); intro _ _; all_goals k_steps)
          | (unfold Stop; (with_reducible show wpAny _ _ (call (Value.builtin _) [Value.int _ _]) _ _ _); k_dflt (refine chr_of_range (by omega) (by omega) ?_); all_goals k_steps)
          | (unfold Stop; (with_reducible show wpAny _ _ (compareOp _ (Value.ref _) (Value.ref _)) _ _ _); k_dflt (refine held_same (by k_asm) (by k_mem) (by k_mem) (by k_asm) (by k_asm) (by k_asm) (by k_asm) (by k_mem) (by k_mem) (by k_mem) (by k_mem) (by assumption) (by assumption) (by assumption) (by assumption) (Nat.le_of_ble_eq_true rfl) (Nat.le_of_ble_eq_true rfl) ?_); all_goals k_steps)
          | (unfold Stop; (with_reducible show wpAny _ _ (call (Value.type _) _) _ _ _); k_dflt (refine dict_led (by with_unfolding_all rfl) (by k_asm) (by k_asm) (modules_low (Top.nolimit (by k_asm))) (by k_mem) (by k_mem) (by k_mem) ?_); intro D' o' h' tk' F' N' lo' hd'; all_goals k_steps)
          | (unfold Stop; (with_reducible show wpAny _ _ (subscriptTail _ (Expr.Slice (some _) none none _) _ _) _ _ _); (with_reducible rename Fr _ _ _ _ => F'); (with_reducible rename News _ _ _ _ => N'); (refine slice_strN_sn (hsz := ?zzhsz9) (s := ⟨_, _, _, _, _⟩) F' N' ?_); (case zzhsz9 => (rw [txt_length, sizeLine_eq]; omega)); intro h' t' k' F' N'; all_goals k_steps)
          | (unfold Stop; (with_reducible show wpAny _ _ (subscriptTail _ (Expr.Slice none (some _) none _) _ _) _ _ _); (with_reducible rename Fr _ _ _ _ => F'); (with_reducible rename News _ _ _ _ => N'); (refine slice_strN_ns (hsz := ?zzhsz9) (s := ⟨_, _, _, _, _⟩) F' N' ?_); (case zzhsz9 => (rw [txt_length, sizeLine_eq]; omega)); intro h' t' k' F' N'; all_goals k_steps)
          | (unfold Stop; (with_reducible show wpAny _ _ (compareOp _ (Value.ref _) (Value.ref _)) _ _ _); k_dflt (refine' ne_strs ?zzha9 ?zzhb9 ?zzhi9 ?zzhj9 ?zzho9 ?zzhu9 ?_; (case zzha9 => exact News.isList (by k_asm) (by k_mem)); (case zzhb9 => exact News.isList (by k_asm) (by k_mem)); (case zzhi9 => exact .cons _ _ (.cons _ _ .nil)); (case zzhj9 => exact .cons _ _ (.cons _ _ .nil)); (case zzho9 => exact ok_two (by assumption)); (case zzhu9 => ke_room)); all_goals k_steps)
          | (unfold Stop; (with_reducible show wpAny _ _ (binaryOp _ (Value.str (Txt.slice (txt (dueF _ _)) _ _) _) _) _ _ _); k_dflt (refine add_due rfl (by omega) (by omega) ?_); intro t9' tk9'; all_goals k_steps)
          | (unfold Stop; (with_reducible show wpAny _ _ (binaryOp _ (Value.str _ _) (Value.str _ _)) _ _ _); k_dflt (refine add_rot (by omega) (by omega) (by omega) ?_); intro t9' tk9'; all_goals k_steps)
          | (unfold Stop; (with_reducible show wpAny _ _ (call (Value.ref 141) _) _ _ _); (rename News _ _ _ _ => lN'); k_dflt (refine gcd_c (by k_asm) (by k_asm) (by k_asm) lN' (by k_asm) (by exact rfl) (by omega) (by omega) (by first | exact Nat.le_of_ble_eq_true rfl | ktr_room) (by first | exact Nat.le_of_ble_eq_true rfl | ktr_units) ?_); intro t9' h9' tk9' r9' g9' F9' N9'; all_goals k_steps)
          | (unfold Stop; (with_reducible show wpAny _ _ (call (Value.ref 155) _) _ _ _); (rename News _ _ _ _ => lN'); k_dflt (refine rev_d (by k_asm) (by k_asm) (by k_asm) lN' (by assumption) (by assumption) (by k_asm) (by first | exact rfl | assumption) (by assumption) (by assumption) (by assumption) (by assumption) (by assumption) (by assumption) (by assumption) (by assumption) (by assumption) (by assumption) (by assumption) (by assumption) (by omega) (by omega) (by omega) (by first | exact Nat.le_of_ble_eq_true rfl | ktr_room) (by first | exact Nat.le_of_ble_eq_true rfl | ktr_units) ?_); intro vs9' e9' t9' h9' tk9' i9' l9' o9' F9' N9'; all_goals k_steps)
          | (unfold Stop; (with_reducible show wpAny _ _ (call (Value.ref 127) [Value.ref _, Value.str (Str.ofString "B$") _]) _ _ _); (rename News _ _ _ _ => lN'); k_dflt (refine getB_c (by k_asm) (by k_asm) (by k_asm) (by first | exact lN' | exact news_tail lN') (by k_asm) (by k_asm) (by k_asm) (by first | exact rfl | assumption) (by k_asm) (by k_asm) (by k_asm) (by k_asm) (by k_asm) (by k_asm) (by k_asm) (by k_asm) (by k_asm) (by k_asm) (by k_asm) (by k_asm) (by first | exact Nat.le_of_ble_eq_true rfl | ktr_room) (by first | exact Nat.le_of_ble_eq_true rfl | ktr_units) ?_); intro t9' h9' tk9' F9' N9'; all_goals k_steps)
          | (unfold Stop; (with_reducible show wpAny _ _ (call (Value.ref 127) [Value.ref _, Value.str (Str.ofString "A$") _]) _ _ _); (rename News _ _ _ _ => lN'); k_dflt (refine getA_c (by k_asm) (by k_asm) (by k_asm) (by first | exact lN' | exact news_tail lN') (by k_asm) (by k_asm) (by k_asm) (by first | exact rfl | assumption) (by k_asm) (by k_asm) (by k_asm) (by k_asm) (by k_asm) (by k_asm) (by k_asm) (by k_asm) (by k_asm) (by k_asm) (by k_asm) (by k_asm) (by first | exact Nat.le_of_ble_eq_true rfl | ktr_room) (by first | exact Nat.le_of_ble_eq_true rfl | ktr_units) ?_); intro t9' h9' tk9' F9' N9'; all_goals k_steps))
      · unfold Stop
        k_dflt (refine ne_eqS (half_odd h5 h7 hl hn (by assumption) (by assumption) (by assumption)) ?_)
        k_steps
        repeat' (first
          | (unfold Stop; (with_reducible show wpAny _ _ (call (Value.ref 148) _) _ _ _); (rename News _ _ _ _ => lN'); k_dflt (refine told_c (by k_asm) (by k_asm) (by k_asm) (by first | exact lN' | exact news_rot3 lN') (by (refine' off2 ?_ ?_ <;> k_all)) (by k_ne) (by k_asm) (by first | exact rfl | assumption) (by l_ints) (by (simp only [List.length_take]; omega)) (by omega) (by omega) (by omega) (by first | exact Nat.le_of_ble_eq_true rfl | ktr_room) (by first | exact Nat.le_of_ble_eq_true rfl | ktr_units) ?_); intro r9' t9' u9' v9' h9' tk9' lo9' hi9' F9' N9'; all_goals k_steps)
          | (unfold Stop; (with_reducible show wpAny _ _ (call (Value.builtin _) _) _ _ _); k_dflt (refine join_txt (by first | is_list | exact News.isList (by k_asm) (by k_mem)) (by assumption) (by omega) ?_); intro _ _; all_goals k_steps)
          | (unfold Stop; (with_reducible show wpAny _ _ (call (Value.builtin _) [Value.int _ _]) _ _ _); k_dflt (refine chr_of_range (by omega) (by omega) ?_); all_goals k_steps)
          | (unfold Stop; (with_reducible show wpAny _ _ (compareOp _ (Value.ref _) (Value.ref _)) _ _ _); k_dflt (refine held_same (by k_asm) (by k_mem) (by k_mem) (by k_asm) (by k_asm) (by k_asm) (by k_asm) (by k_mem) (by k_mem) (by k_mem) (by k_mem) (by assumption) (by assumption) (by assumption) (by assumption) (Nat.le_of_ble_eq_true rfl) (Nat.le_of_ble_eq_true rfl) ?_); all_goals k_steps)
          | (unfold Stop; (with_reducible show wpAny _ _ (call (Value.type _) _) _ _ _); k_dflt (refine dict_led (by with_unfolding_all rfl) (by k_asm) (by k_asm) (modules_low (Top.nolimit (by k_asm))) (by k_mem) (by k_mem) (by k_mem) ?_); intro D' o' h' tk' F' N' lo' hd'; all_goals k_steps)
          | (unfold Stop; (with_reducible show wpAny _ _ (subscriptTail _ (Expr.Slice (some _) none none _) _ _) _ _ _); (with_reducible rename Fr _ _ _ _ => F'); (with_reducible rename News _ _ _ _ => N'); (refine slice_strN_sn (hsz := ?zzhsz9) (s := ⟨_, _, _, _, _⟩) F' N' ?_); (case zzhsz9 => (rw [txt_length, sizeLine_eq]; omega)); intro h' t' k' F' N'; all_goals k_steps)
          | (unfold Stop; (with_reducible show wpAny _ _ (subscriptTail _ (Expr.Slice none (some _) none _) _ _) _ _ _); (with_reducible rename Fr _ _ _ _ => F'); (with_reducible rename News _ _ _ _ => N'); (refine slice_strN_ns (hsz := ?zzhsz9) (s := ⟨_, _, _, _, _⟩) F' N' ?_); (case zzhsz9 => (rw [txt_length, sizeLine_eq]; omega)); intro h' t' k' F' N'; all_goals k_steps)
          | (unfold Stop; (with_reducible show wpAny _ _ (compareOp _ (Value.ref _) (Value.ref _)) _ _ _); k_dflt (refine' ne_strs ?zzha9 ?zzhb9 ?zzhi9 ?zzhj9 ?zzho9 ?zzhu9 ?_; (case zzha9 => exact News.isList (by k_asm) (by k_mem)); (case zzhb9 => exact News.isList (by k_asm) (by k_mem)); (case zzhi9 => exact .cons _ _ (.cons _ _ .nil)); (case zzhj9 => exact .cons _ _ (.cons _ _ .nil)); (case zzho9 => exact ok_two (by assumption)); (case zzhu9 => ke_room)); all_goals k_steps)
          | (unfold Stop; (with_reducible show wpAny _ _ (binaryOp _ (Value.str (Txt.slice (txt (dueF _ _)) _ _) _) _) _ _ _); k_dflt (refine add_due rfl (by omega) (by omega) ?_); intro t9' tk9'; all_goals k_steps)
          | (unfold Stop; (with_reducible show wpAny _ _ (binaryOp _ (Value.str _ _) (Value.str _ _)) _ _ _); k_dflt (refine add_rot (by omega) (by omega) (by omega) ?_); intro t9' tk9'; all_goals k_steps)
          | (unfold Stop; (with_reducible show wpAny _ _ (call (Value.ref 141) _) _ _ _); (rename News _ _ _ _ => lN'); k_dflt (refine gcd_c (by k_asm) (by k_asm) (by k_asm) lN' (by k_asm) (by exact rfl) (by omega) (by omega) (by first | exact Nat.le_of_ble_eq_true rfl | ktr_room) (by first | exact Nat.le_of_ble_eq_true rfl | ktr_units) ?_); intro t9' h9' tk9' r9' g9' F9' N9'; all_goals k_steps)
          | (unfold Stop; (with_reducible show wpAny _ _ (call (Value.ref 155) _) _ _ _); (rename News _ _ _ _ => lN'); k_dflt (refine rev_d (by k_asm) (by k_asm) (by k_asm) lN' (by assumption) (by assumption) (by k_asm) (by first | exact rfl | assumption) (by assumption) (by assumption) (by assumption) (by assumption) (by assumption) (by assumption) (by assumption) (by assumption) (by assumption) (by assumption) (by assumption) (by assumption) (by omega) (by omega) (by omega) (by first | exact Nat.le_of_ble_eq_true rfl | ktr_room) (by first | exact Nat.le_of_ble_eq_true rfl | ktr_units) ?_); intro vs9' e9' t9' h9' tk9' i9' l9' o9' F9' N9'; all_goals k_steps)
          | (unfold Stop; (with_reducible show wpAny _ _ (call (Value.ref 127) [Value.ref _, Value.str (Str.ofString "B$") _]) _ _ _); (rename News _ _ _ _ => lN'); k_dflt (refine getB_c (by k_asm) (by k_asm) (by k_asm) (by first | exact lN' | exact news_tail lN') (by k_asm) (by k_asm) (by k_asm) (by first | exact rfl | assumption) (by k_asm) (by k_asm) (by k_asm) (by k_asm) (by k_asm) (by k_asm) (by k_asm) (by k_asm) (by k_asm) (by k_asm) (by k_asm) (by k_asm) (by first | exact Nat.le_of_ble_eq_true rfl | ktr_room) (by first | exact Nat.le_of_ble_eq_true rfl | ktr_units) ?_); intro t9' h9' tk9' F9' N9'; all_goals k_steps)
          | (unfold Stop; (with_reducible show wpAny _ _ (call (Value.ref 127) [Value.ref _, Value.str (Str.ofString "A$") _]) _ _ _); (rename News _ _ _ _ => lN'); k_dflt (refine getA_c (by k_asm) (by k_asm) (by k_asm) (by first | exact lN' | exact news_tail lN') (by k_asm) (by k_asm) (by k_asm) (by first | exact rfl | assumption) (by k_asm) (by k_asm) (by k_asm) (by k_asm) (by k_asm) (by k_asm) (by k_asm) (by k_asm) (by k_asm) (by k_asm) (by k_asm) (by k_asm) (by first | exact Nat.le_of_ble_eq_true rfl | ktr_room) (by first | exact Nat.le_of_ble_eq_true rfl | ktr_units) ?_); intro t9' h9' tk9' F9' N9'; all_goals k_steps))
  )
end
end Mine
end
end
theorem PySem.Challenge.cw_xm0029_01_holds : PySem.Challenge.rw_xm0029_01.Holds := by
  exact Mine.law_t
