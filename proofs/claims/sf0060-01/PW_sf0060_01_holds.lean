import PyProof.Rows.All
import Wide.All
import OpenK.AllK
import Wide.FinOn
import PySem.Challenge.RW_sf0060_01
open PySem PySem.W PySem.Calls PyProof.Rows
set_option Elab.async false
set_option maxRecDepth 100000
set_option rowWalk.seconds 0
namespace Mine
theorem off_TopA : True := by
  w_top off
  trivial
section
set_option maxRecDepth 100000 in
set_option maxHeartbeats 8000000 in
open_top hd for PySem.Challenge.rw_sf0060_01


end
theorem off_Base : True := by
  w_top off
  trivial
section

abbrev A0 (d u : Nat) : Around := { handled := none, depth := d, frames := none, guards := none, units := u }

theorem at_A0 {α : Type} {M : Model} {A : Around} {t : Sem α} {Q : α → Shared → Prop} {E : Value → Shared → Prop} {s : Shared} {d u : Nat} (h : wpAny M (A0 d u) t Q E s)
    (h1 : A.handled = none) (h2 : A.depth ≤ d) (h3 : A.units ≤ u) : wpAny M A t Q E s :=
  fun Γ p hΓ => h Γ p ⟨hΓ.1.trans h1, Nat.le_trans hΓ.2.1 h2, (fun _ hl => nomatch hl), (fun _ hg => nomatch hg), Nat.le_trans hΓ.2.2.2.2 h3⟩

/-- a frame's names, written out -/
def mk : List (Str × Option Value) → Str → Option Value
  | [], _ => none
  | (a, b) :: r, y => if y = a then b else mk r y

theorem lookup_mk (y : Str) : ∀ l : List (Str × Value), l.lookup y = mk (l.map fun p => (p.1, some p.2)) y
  | [] => rfl
  | (a, b) :: r => by
    rw [List.lookup_cons, List.map_cons, mk]
    by_cases h : y = a
    · subst h; simp
    · rw [if_neg h]
      have : (y == a) = false := by simpa using h
      rw [this]
      exact lookup_mk y r

def AllL (P : Str → Prop) : List Str → Prop
  | [] => True
  | x :: r => P x ∧ AllL P r

theorem mk_ext {m m' : Str → Option Value} (ns : List Str) (h1 : AllL (fun x => m x = m' x) ns) (h2 : ∀ y, AllL (fun x => y ≠ x) ns → m y = m' y) : m = m' := by
  funext y
  have key : ∀ l : List Str, AllL (fun x => m x = m' x) l → (AllL (fun x => y ≠ x) l → m y = m' y) → m y = m' y := by
    intro l
    induction l with
    | nil => intro _ h; exact h trivial
    | cons x r ih =>
      rintro ⟨ha, hr⟩ h
      by_cases e : y = x
      · rw [e]; exact ha
      · exact ih hr fun hh => h ⟨e, hh⟩
  exact key ns h1 (h2 y)

theorem enter {prog : Program} {w : World} {A : Around} {s : Shared} {K : Frag} {Q E : Value → Shared → Prop}
    {name qual : Str} {params : Arguments} {body : List Stmt} {scope : Scope} {dV kV doc pm cdv ct oc : Value} {an od : Option Addr} {osl : Array (Option Value)} {f : Addr} {vals : List Value}
    (binds : List (Str × Value)) (ms : List (Str × Option Value))
    (X : K.In s.heap) (hlim : s.heap.NoLimit)
    (ho : K.lookup f = some ⟨oc, od, .func (fnOf name qual params body scope dV kV doc pm an cdv ct), osl⟩) (hcd : codeIn K cdv qual = true) (hroom : A.depth < recursionLimit)
    (hbind : BindsTo s (fnOf name qual params body scope dV kV doc pm an cdv ct) ⟨vals, []⟩ binds) (hms : ms = binds.reverse.map fun p => (p.1, some p.2)) (hloc : ∀ y ∈ binds, scope.names.lookup y.1 = some .local)
    (h : ∀ L h₁ tk, Fr s.heap L h₁ (mk ms) → News s.heap L h₁ [] →
      wpAny (model prog w) (A.deeper (envOf qual scope L f cdv)) (execs body (envOf qual scope L f cdv))
        (fun fl s' => Q (match fl with | .ret v => v | _ => .none) s') (fun _ _ => False)
        { s with heap := h₁, toks := tk })
    (hco : scope.isCoroutine = false := by rfl) (hgen : scope.isGenerator = false := by rfl) (hk : scope.kind = .function := by rfl)
    (hcell : ∀ x ∈ scope.names, x.2 ≠ .cell := by decide) :
    wpAny (model prog w) A (call (.ref f) vals) Q E s := by
  refine wpAny_call ?_
  refine codeAny_call_def (fd := fnOf name qual params body scope dV kV doc pm an cdv ct) (body := body) (binds := binds) hroom (X _ _ ho) rfl hlim (codeRec_of X hcd) rfl hbind hcell hloc (fun h₁ hns hk₁ => ?_) hco hgen hk
  have e : (fun y => binds.reverse.lookup y) = mk ms := by funext y; rw [lookup_mk, hms]
  rw [e] at hns
  exact wpAny_mono (h _ h₁ _ ⟨hns, hk₁, Nat.le_refl _⟩ .nil) (fun _ _ x => x) (fun _ _ x => x.elim)

theorem enterC {prog : Program} {w : World} {A : Around} {s : Shared} {K : Frag} {Q E : Value → Shared → Prop}
    {name qual : Str} {params : Arguments} {body : List Stmt} {scope : Scope} {dV kV doc pm cdv ct oc : Value} {an od : Option Addr} {osl : Array (Option Value)} {f : Addr} {vals : List Value}
    (binds : List (Str × Value)) (ms : List (Str × Option Value))
    (X : K.In s.heap) (hlim : s.heap.NoLimit)
    (ho : K.lookup f = some ⟨oc, od, .func (fnOf name qual params body scope dV kV doc pm an cdv ct), osl⟩) (hcd : codeIn K cdv qual = true) (hroom : A.depth < recursionLimit)
    (hbind : BindsTo s (fnOf name qual params body scope dV kV doc pm an cdv ct) ⟨vals, []⟩ binds)
    (hkind : (binds.all fun y => scope.names.lookup y.1 == some .local || scope.names.lookup y.1 == some .cell) = true)
    (hnd : ((cellsFrom 0 scope.names []).map (·.1)).Nodup)
    (hms : ∀ L, bindL (envOfC qual scope L f cdv).kindOf binds (fun _ => none) = mk ms)
    (h : ∀ L h₁ tk cells, Fr s.heap L h₁ (mk ms) → News s.heap L h₁ cells → CellsAre (bindC (envOfC qual scope L f cdv).kindOf binds fun _ => none) (cellsFrom (L + 1) scope.names []) cells →
      wpAny (model prog w) (A.deeper (envOfC qual scope L f cdv)) (execs body (envOfC qual scope L f cdv))
        (fun fl s' => Q (match fl with | .ret v => v | _ => .none) s') (fun _ _ => False)
        { s with heap := h₁, toks := tk })
    (hco : scope.isCoroutine = false := by rfl) (hgen : scope.isGenerator = false := by rfl) (hk : scope.kind = .function := by rfl) :
    wpAny (model prog w) A (call (.ref f) vals) Q E s := by
  refine wpAny_call ?_
  refine codeAny_call_function (X _ _ ho |> fun _ => hroom) (X _ _ ho) rfl hco hgen rfl (codeRec_of X hcd) (hbind _ _ _ _ ?_)
  refine wpAny_newFunctionEnv_cells hk (kindsX hkind _) fun env' he s' x => ?_
  subst he
  refine ⟨hlim.keeps x.toInCall.keep, codeAny_func ?_⟩
  obtain ⟨h₁, tk, rfl, _⟩ := x.done
  obtain ⟨cells, N, Y⟩ := Cl.news (h₀ := s.heap) (Nat.le_refl _) fun n c hm => ⟨x.cell n c (lookup_of_mem_nodup (cellsFrom_names scope.names 0 (s.heap.objs.size + 1) [] [] rfl ▸ hnd) hm), x.above n c hm⟩
  have hn := x.toInCall.ns
  refine wpAny_mono (h s.heap.objs.size h₁ tk cells ⟨(hms s.heap.objs.size) ▸ hn, x.toInCall.keep, Nat.le_refl _⟩ N Y) (fun _ _ y => y) fun _ _ y => y.elim

def Stop (P : Prop) : Prop := P
theorem stop {P : Prop} (h : Stop P) : P := h
theorem Stop.of {P : Prop} (h : P) : Stop P := h
def tagg (_ : OpenLaw) (_ : Params → Frag) : Prop := True

/-- the list's facts, from a ledger that has more -/
theorem News.sub {h₀ h : Heap} {L : Addr} {news news' : List (Addr × Obj)} (N : News h₀ L h news) (hs : ∀ p ∈ news', p ∈ news) : News h₀ L h news' := fun p hp => N p (hs p hp)

theorem ne_of_get {h : Heap} {a b : Addr} {o : Obj} (e : h.get? a = some o) (n : h.get? b = none) : a ≠ b := fun q => by rw [q, n] at e; cases e
theorem News.add {h₀ h h' : Heap} {L a : Addr} {m : Str → Option Value} {o : Obj} {news : List (Addr × Obj)} (F : Fr h₀ L h m) (N : News h₀ L h' news) (hn : h.get? a = none) (ho : h'.get? a = some o) : News h₀ L h' ((a, o) :: news) := by
  intro p hp
  rcases List.mem_cons.mp hp with rfl | hp
  · refine ⟨ho, ?_, ?_⟩
    · obtain ⟨oL, _, _, e, _⟩ := F.ns
      exact fun q => ne_of_get e hn q.symm
    · cases q : h₀.get? a with
      | none => rfl
      | some o' => have := F.keep a o' q; rw [hn] at this; cases this
  · exact N p hp
theorem off_fresh {h₀ h : Heap} {L a : Addr} {news : List (Addr × Obj)} (N : News h₀ L h news) (hn : h.get? a = none) : ∀ p ∈ news, p.1 ≠ a := fun p hp => ne_of_get (N p hp).1 hn
theorem allLt_mem {d : Addr} {l : List (Addr × Obj)} (h : AllLt d l) : ∀ p ∈ l, @LT.lt Nat _ p.1 d := by
  induction l with
  | nil => intro p hp; cases hp
  | cons q r ih =>
    intro p hp
    rcases List.mem_cons.mp hp with e | hp
    · rw [e]; exact h.1
    · exact ih h.2 p hp

end
theorem off_Comp : True := by
  w_top off
  trivial
section

section
variable {prog : Program} {w : World} {A : Around} {E : Value → Shared → Prop} {s : Shared} {h₀ : Heap} {L : Addr} {m : Str → Option Value} {env : Env}

/-- a comprehension's source, of any iterator -/
def CSrc (prog : Program) (w : World) (A : Around) (h₀ : Heap) (L : Addr) (m : Str → Option Value) (env : Env) (elt : Expr) (x : Str) (scope : Scope) (cl : List (Str × Addr)) (Fin : Shared → List Value → List (Addr × Obj) → Prop) (it : Value) (s₂ : Shared) : Prop :=
  ∃ (I : Addr) (fp : List Addr) (n : Nat) (P : Nat → Value → Prop) (St : Nat → Heap → Prop) (S : List (Addr × Obj) → Prop) (news : List (Addr × Obj)),
    it = .ref I ∧ Walks prog w A I fp [I] n P St ∧ n ≤ sizeLine ∧ (∀ i h, St i h → ∃ o, h.get? I = some o) ∧
    (∀ i h h' o nw, St i h → h.get? I = some o → h'.get? I = some o → (∀ b o, h₀.get? b = some o → h'.get? b = some o) → News h₀ L h' nw → S nw → St i h') ∧
    St 0 s₂.heap ∧ (∀ b ∈ fp, b < s₂.heap.objs.size) ∧ Fr h₀ L s₂.heap m ∧ News h₀ L s₂.heap news ∧ L ≠ I ∧ h₀.get? I = none ∧ (∀ p ∈ news, p.1 ≠ I) ∧ S news ∧
    LCg.CompRest prog w A h₀ L m env elt x scope cl s₂ S P (Fin s₂) n 0 [] news

theorem comp_assign {elt iter : Expr} {x y : Str} {px py : Pos} {scope : Scope} {cl : List (Str × Addr)} {pos spos : Pos} {Q : Flow → Shared → Prop} (_F₀ : Fr h₀ L s.heap m) (hLe : env.locals = L)
    (hsw : swapsWith (.ListComp elt [⟨.Name x px, iter, [], 0⟩] scope pos) (some (.Name y py)) spos.line env = pure true)
    (hclos : closureFor scope env = pure cl) (hcell : ∀ z ∈ scope.names, z.2 ≠ .cell) (hkind : scope.kind = .function)
    (hnames : ∀ z ∈ scope.names, z.2 = .local → scope.names.lookup z.1 = some .local) (hx : scope.names.lookup x = some .local)
    (hy : env.kindOf y = some .local) (hp : (env.scope.kind == .class || (env.scope.kind == .module && env.locals != env.globals)) = false)
    (h : wpAny (model prog w) A (eval iter env) (fun xv s₁ => wpAny (model prog w) A (pyIter xv) (fun it s₂ => CSrc prog w A h₀ L m env elt x scope cl (fun s₃ => LCg.FinA h₀ L m s₃ y Q) it s₂) E s₁) E s)
    (hs : ∀ x, foldedSetIterable iter env x = pure x := by intro _; rfl) :
    wpAny (model prog w) A (exec (.Assign [.Name y py] (.ListComp elt [⟨.Name x px, iter, [], 0⟩] scope pos) spos) env) Q E s := by
  subst hLe
  rw [exec_Assign_Name_used _ _ _ _ hsw]
  refine wpAny_bind (wpAny_standAt (wpAny_bind ?_))
  show wpAny _ A (do let _ ← comprehension (.ListComp elt [⟨.Name x px, iter, [], 0⟩] scope pos) scope env _ (newList []) false (eval iter env) (some (assign (.Name y py) env))) _ _ s
  refine wpAny_bind (wpAny_mono (wpAny_comprehension_free (use := some (assign (.Name y py) env)) (Q := fun _ s' => Q .next s') rfl hs hclos hkind hnames
    (wpAny_mono h (fun xv s₁ h₁ => wpAny_mono h₁ (fun it s₂ h₂ => ?_) fun _ _ e => e) fun _ _ e => e)) (fun _ s' hq => wpAny_pure (wpAny_pure hq)) fun _ _ e => e)
  obtain ⟨I, fp, n, P, St, S, news, rfl, W, hsz, hIo, hSt, hst, hfp, F, N, hIL, hI₀, off, hS, R⟩ := h₂
  refine LCg.block_U W hsz hIo hSt hcell hkind hx hst hfp F N hIL hI₀ off hS R ?_
  intro D C h' tk m' ys news' F' N' o1 hn hC₀ hD₀ hCL hDL hCD offC fin
  show wpAny _ A (assign (.Name y py) env (.ref D)) _ _ _
  refine wpAny_assign_Name (wpAny_storeName_local hy F'.ns (fun h₂ hn₂ hs₂ => ?_) hp)
  have hL₀ : h₀.get? env.locals = none := Heap.get?_none_of_le F'.above
  have F₂ : Fr h₀ env.locals h₂ (fun z => if z = y then some (.ref D) else m z) := ⟨hn₂, fun b o e => hs₂.extBut b o (fun q => by rw [q, hL₀] at e; cases e) (F'.keep b o e), F'.above⟩
  refine ⟨m', hn.sameBut hs₂ hCL, fun h'' hs'' => fin D h'' _ (F₂.change hs'' hCL hC₀) (fun p hp => ?_) o1⟩
  have z : h₂.get? p.1 = some p.2 := hs₂.extBut _ _ (N' p hp).2.1 (N' p hp).1
  refine ⟨hs''.extBut _ _ ?_ z, (N' p hp).2⟩
  rcases List.mem_cons.mp hp with rfl | hp
  · exact Ne.symm hCD
  · exact offC p hp

/-- a turn's end, where the element's evaluation changes nothing -/
def PureEnd (R : Nat → Value → Prop) (j : Nat) (s : Shared) (h : Heap) (y : Value) (s' : Shared) : Prop := (∃ tk', s' = { s with heap := h, toks := tk' }) ∧ R j y

theorem rest_pure {elt : Expr} {x : Str} {scope : Scope} {cl : List (Str × Addr)} {S : List (Addr × Obj) → Prop} {P : Nat → Value → Prop} {Fin : List Value → List (Addr × Obj) → Prop} {n : Nat} {news : List (Addr × Obj)}
    (R : Nat → Value → Prop) (hS : S news)
    (turn : ∀ j v I oI C oC D ys m₂ h tk (E' : Value → Shared → Prop), j < n → P j v → LCg.NsObj oC m₂ → m₂ x = some v → Fr h₀ L h m → News h₀ L h ((I, oI) :: (C, oC) :: (D, LCg.lst ys) :: news) →
      wpAny (model prog w) A (eval elt (compEnvC scope cl C env)) (PureEnd R j s h) E' { s with heap := h, toks := tk })
    (fin : ∀ ys : List Value, ys.length = n → (∀ j y, ys[j]? = some y → R j y) → Fin ys news) :
    LCg.CompRest prog w A h₀ L m env elt x scope cl s S P Fin n 0 [] news := by
  have key : ∀ k i (ys : List Value), i + k = n → ys.length = i → (∀ j y, ys[j]? = some y → R j y) → LCg.CompRest prog w A h₀ L m env elt x scope cl s S P Fin k i ys news := by
    intro k
    induction k with
    | zero => exact fun i ys e hl hr => LCg.CompRest.zero (fin ys (by omega) hr)
    | succ k ih =>
      intro i ys e hl hr
      refine LCg.CompRest.succ ?_
      intro v I oI C oC D m₂ h tk E' hv hC hx F N off ne
      refine wpAny_mono (turn i v I oI C oC D ys m₂ h tk E' (by omega) hv hC hx F N) (fun y s' hy => ?_) fun _ _ e => e
      obtain ⟨⟨tk', rfl⟩, hR⟩ := hy
      refine LCg.CompEnd.intro F N news (fun p hp => hp) off hS (ih (i + 1) (ys ++ [y]) (by omega) (by simp [hl]) ?_)
      intro j z hz
      rcases Nat.lt_trichotomy j i with h | h | h
      · exact hr j z (by rwa [List.getElem?_append_left (by omega)] at hz)
      · subst h
        rw [List.getElem?_append_right (by omega), hl, Nat.sub_self] at hz
        cases hz; exact hR
      · rw [List.getElem?_eq_none (by rw [List.length_append, List.length_singleton]; omega)] at hz
        cases hz
  exact key n 0 [] (by omega) rfl (fun j y h => by simp at h)

/-- the source is a range, by any step -/
theorem csrc_range {elt : Expr} {x : Str} {scope : Scope} {cl : List (Str × Addr)} {Fin : Shared → List Value → List (Addr × Obj) → Prop} {r : Addr} {a b c : Int} {t u v : Tok} {n : Nat} {news : List (Addr × Obj)}
    (hh : A.handled = none) (F : Fr h₀ L s.heap m) (N : News h₀ L s.heap news) (hr : IsRange s.heap r a b c t u v) (hsm : Builtin.Range.small a b c = true) (hn : Builtin.Range.rangeSize a b c = ((n : Nat) : Int)) (hsz : n ≤ sizeLine)
    (h : ∀ g, LCg.CompRest prog w A h₀ L m env elt x scope cl { s with heap := g } (fun _ => True) (fun i v => ∃ t, v = .int (a + (i : Int) * c) t) (Fin { s with heap := g }) n 0 [] news) :
    wpAny (model prog w) A (pyIter (.ref r)) (fun it s₂ => CSrc prog w A h₀ L m env elt x scope cl Fin it s₂) E s := by
  refine wpAny_pyIter_range hr hsm ?_
  refine ⟨s.heap.objs.size, [s.heap.objs.size], n, _, _, fun _ => True, news, rfl, Walks.range hh s.heap.objs.size a c n, hsz, fun i h st => ⟨_, st⟩, ?_, ?_, ?_, F.push _, (fun p hp => ⟨Heap.get?_push_of_some _ (N p hp).1, (N p hp).2⟩), Nat.ne_of_lt F.ns.lt, next_is_new F, fun p hp => Nat.ne_of_lt (Heap.lt_size (N p hp).1), trivial, h _⟩
  · intro i h h' o nw st e e' _ _ _
    have st' : h.get? s.heap.objs.size = some _ := st
    show h'.get? s.heap.objs.size = some _
    rw [e', ← e]; exact st'
  · show IsRangeIter _ _ _ _ _
    rw [hn]; simpa using Heap.get?_push_size _ rfl
  · intro b hb
    rw [List.mem_singleton.mp hb]
    show s.heap.objs.size < (s.heap.push _).objs.size
    rw [Heap.size_push]; exact Nat.lt_succ_self _
end

end
theorem off_Comp2 : True := by
  w_top off
  trivial
section
section
variable {prog : Program} {w : World} {A : Around} {E : Value → Shared → Prop} {s : Shared} {h₀ : Heap} {L : Addr} {m : Str → Option Value} {env : Env}
theorem frWr {h h' : Heap} {wr : List Addr} (F : Fr h₀ L h m) (hk : ∀ b o, b ∉ wr → h.get? b = some o → h'.get? b = some o) (hwr : ∀ b ∈ wr, h₀.get? b = none ∧ b ≠ L) : Fr h₀ L h' m :=
  ⟨F.ns.at' fun o e => hk L o (fun hm => (hwr L hm).2 rfl) e, fun b o e => hk b o (fun hm => by rw [(hwr b hm).1] at e; cases e) (F.keep b o e), F.above⟩
theorem newsWr {h h' : Heap} {wr : List Addr} {news : List (Addr × Obj)} (N : News h₀ L h news) (hk : ∀ b o, b ∉ wr → h.get? b = some o → h'.get? b = some o) (off : ∀ p ∈ news, p.1 ∉ wr) : News h₀ L h' news :=
  fun p hp => ⟨hk _ _ (off p hp) (N p hp).1, (N p hp).2⟩

/-- a comprehension over pairs, of elements whose evaluation changes nothing -/
theorem block_K {elt iter : Expr} {x x₂ : Str} {px px₂ tp : Pos} {kk : Nat} {scope : Scope} {cl : List (Str × Addr)} {pos : Pos} {s₂ : Shared} {I : Addr} {fp wr : List Addr} {n : Nat} {Pt : Nat → Value → Value → Prop} {Md : Nat → Value → Heap → Prop} {St : Nat → Heap → Prop} {news : List (Addr × Obj)}
    {R : Nat → Value → Prop} {RR : Value → Addr → Result → Shared → Prop}
    (W : KTurns prog w A (.Tuple [.Name x px, .Name x₂ px₂] kk tp) I fp wr n (fun i v h => ∃ T vals, v = .ref T ∧ (∃ a b, Pt i a b ∧ vals = #[a, b]) ∧ h.IsTuple T vals) Md St) (hsz : n ≤ sizeLine)
    (hself : ∀ (s : Shared) (Q : Value → Shared → Prop) (E : Value → Shared → Prop), St 0 s.heap → Q (.ref I) s → wpAny (model prog w) A (pyIter (.ref I)) Q E s)
    (hcell : ∀ y ∈ scope.names, y.2 ≠ .cell) (hkind : scope.kind = .function) (hx : scope.names.lookup x = some .local) (hx₂ : scope.names.lookup x₂ = some .local) (hxx : x ≠ x₂) (hh : A.handled = none)
    (hst : St 0 s₂.heap) (hfp : ∀ b ∈ fp, b < s₂.heap.objs.size) (hwr : ∀ b ∈ wr, h₀.get? b = none ∧ b ≠ L) (F : Fr h₀ L s₂.heap m) (N : News h₀ L s₂.heap news) (off : ∀ p ∈ news, p.1 ∉ wr)
    (turn : ∀ j a b C oC D ys m₂ h tk (E' : Value → Shared → Prop), j < n → Pt j a b → LCg.NsObj oC m₂ → m₂ x = some a → m₂ x₂ = some b → Fr h₀ L h m → News h₀ L h ((C, oC) :: (D, LCg.lst ys) :: news) →
      wpAny (model prog w) A (eval elt (compEnvC scope cl C env)) (PureEnd R j s₂ h) E' { s₂ with heap := h, toks := tk })
    (hRR : ∀ D C h tk m' ys, Fr h₀ L h m → News h₀ L h ((D, LCg.lst ys) :: news) → LCg.Off1 D news → h.Ns C m' → h₀.get? C = none → h₀.get? D = none → C ≠ L → D ≠ L → C ≠ D → (∀ p ∈ news, p.1 ≠ C) → ys.length = n → (∀ j y, ys[j]? = some y → R j y) → RR (.ref D) C (.ok .next) { s₂ with heap := h, toks := tk }) :
    wpAny (model prog w) A (newList []) (fun acc s₃ => wpAny (model prog w) A (newFunctionEnv scope env.globals cl [] env.qual none .none (some env)) (fun cenv s₄ =>
      codeAny (model prog w) A (.compStart (.ListComp elt [⟨.Tuple [.Name x px, .Name x₂ px₂] kk tp, iter, [], 0⟩] scope pos) 0 (.ref I) acc { cenv with scope := relabel scope env }) (RR acc cenv.locals) s₄) E s₃) E s₂ := by
  refine wpAny_newObj_type (wpAny_newFunctionEnv hcell (by intro y hy; simp at hy) (fun h₁ hns₁ hsb₁ => ?_) hkind)
  dsimp only at hns₁ hsb₁ ⊢
  generalize hH2 : s₂.heap.push { cls := .type "list", dict := none, data := .seq ([] : List Value).toArray } = H2 at hns₁ hsb₁ ⊢
  have hC : H2.objs.size = s₂.heap.objs.size + 1 := by rw [← hH2, Heap.size_push]
  have hDC : s₂.heap.objs.size ≠ H2.objs.size := by rw [hC]; exact Nat.ne_of_lt (Nat.lt_succ_self _)
  have below : ∀ b, b < s₂.heap.objs.size → b ≠ H2.objs.size ∧ b ≠ s₂.heap.objs.size := fun b hb => ⟨by rw [hC]; exact Nat.ne_of_lt (Nat.lt_succ_of_lt hb), Nat.ne_of_lt hb⟩
  have hDf : s₂.heap.objs.size ∉ fp := fun hm => Nat.lt_irrefl _ (hfp _ hm)
  have hCf : H2.objs.size ∉ fp := fun hm => by have := hfp _ hm; rw [hC] at this; exact Nat.lt_irrefl _ (Nat.lt_of_succ_lt this)
  have hDw : s₂.heap.objs.size ∉ wr := fun hm => hDf (W.sub _ hm)
  have hCw : H2.objs.size ∉ wr := fun hm => hCf (W.sub _ hm)
  have old : ∀ b o, s₂.heap.get? b = some o → h₁.get? b = some o := fun b o e => hsb₁.extBut b o (below b (Heap.lt_size e)).1 (Heap.get?_push_of_some _ (hH2 ▸ Heap.get?_push_of_some _ e))
  have hacc : h₁.get? s₂.heap.objs.size = some (LCg.lst []) := hsb₁.extBut _ _ hDC (Heap.get?_push_of_some _ (hH2 ▸ Heap.get?_push_size _ rfl))
  have hst₁ : St 0 h₁ := W.frame _ _ _ hst fun b _ o e => old b o e
  have fresh : ∀ a, s₂.heap.objs.size ≤ a → s₂.heap.get? a = none := fun a ha => by
    cases e : s₂.heap.get? a with
    | none => rfl
    | some o' => exact absurd (Heap.lt_size e) (Nat.not_lt.mpr ha)
  have fresh₀ : ∀ a, s₂.heap.objs.size ≤ a → h₀.get? a = none := fun a ha => by
    cases e : h₀.get? a with
    | none => rfl
    | some o' => have := F.keep a o' e; rw [fresh a ha] at this; cases this
  have hD₀ : h₀.get? s₂.heap.objs.size = none := fresh₀ _ (Nat.le_refl _)
  have hC₀ : h₀.get? H2.objs.size = none := fresh₀ _ (by rw [hC]; exact Nat.le_succ _)
  have hLlt : L < s₂.heap.objs.size := F.ns.lt
  have hDL : s₂.heap.objs.size ≠ L := Ne.symm (below L hLlt).2
  have hCL : H2.objs.size ≠ L := Ne.symm (below L hLlt).1
  have offC : ∀ p ∈ news, p.1 ≠ H2.objs.size ∧ p.1 ≠ s₂.heap.objs.size := fun p hp => below _ (Heap.lt_size (N p hp).1)
  have o1 : LCg.Off1 s₂.heap.objs.size news := by
    have key : ∀ l : List (Addr × Obj), (∀ p ∈ l, p.1 ≠ s₂.heap.objs.size) → LCg.Off1 s₂.heap.objs.size l := by
      intro l
      induction l with
      | nil => intro _; exact trivial
      | cons q r ih => intro h; exact ⟨h q (.head _), ih fun p hp => h p (.tail _ hp)⟩
    exact key _ fun p hp => (offC p hp).2
  have offD : ∀ ys, ∀ p ∈ (s₂.heap.objs.size, LCg.lst ys) :: news, p.1 ∉ wr := fun ys p hp => by
    rcases List.mem_cons.mp hp with rfl | hp
    · exact hDw
    · exact off p hp
  have loop : ∀ s₃ : Shared, s₃ = { s₂ with heap := h₁, toks := s₂.toks + ([] : List (Str × Value)).length } →
      codeAny (model prog w) A (.compLoop (.ListComp elt [⟨.Tuple [.Name x px, .Name x₂ px₂] kk tp, iter, [], 0⟩] scope pos) 0 (.ref I) (.ref s₂.heap.objs.size) (compEnvC scope cl H2.objs.size env))
        (RR (.ref s₂.heap.objs.size) H2.objs.size) s₃ := by
    rintro s₃ rfl
    refine LCp.codeAny_compLoop_pair
      (fun k s' => ∃ h' tk i ys m', s' = { s₂ with heap := h', toks := tk } ∧ i ≤ n ∧ k = n + 1 - i ∧ ys.length = i ∧ St i h' ∧ Fr h₀ L h' m ∧ h'.Ns H2.objs.size m' ∧ News h₀ L h' ((s₂.heap.objs.size, LCg.lst ys) :: news) ∧
        (∀ j y, ys[j]? = some y → R j y)) ?_ (n + 1)
      ⟨h₁, _, 0, [], _, rfl, Nat.zero_le _, rfl, rfl, hst₁, F.keeps old, hns₁, fun p hp => ?_, fun j y h => by simp at h⟩
    · rintro k s' ⟨h', tk, i, ys, m', rfl, hi, rfl, hyl, hst', F', hn', N', hR⟩
      by_cases hlt : i < n
      · refine W.item i _ _ _ hlt hst' fun v h₂ tk₂ hMd hk₂ => ?_
        refine W.go i v _ _ _ hMd fun h₂' ⟨T, vals, hv, ⟨v₁, v₂, hP, hvals⟩, ht⟩ hst₂ hk₂' => ?_
        subst hv hvals
        have hk3 : ∀ b o, b ∉ wr → h'.get? b = some o → h₂'.get? b = some o := fun b o hb e => hk₂' b o hb (hk₂ b o hb e)
        have N₂ : News h₀ L h₂' ((s₂.heap.objs.size, LCg.lst ys) :: news) := newsWr N' hk3 (offD ys)
        refine assign_Tuple_tuple hh ht rfl rfl fun h₅ he => ?_
        have he' : ∀ b o, h₂'.get? b = some o → h₅.get? b = some o := fun b o e => he b o (Nat.ne_of_lt (Heap.lt_size e)) e
        refine assignInOrder_cons (wpAny_assign_Name (wpAny_storeName_local (lookup_relabel_local hx) ((hn'.at' fun o e => hk3 _ o hCw e).at' fun o e => he' _ o e) (fun h₆ hn₆ hs₆ => ?_) (by simp [compEnvC, relabel, hkind])))
        refine assignInOrder_cons (wpAny_assign_Name (wpAny_storeName_local (lookup_relabel_local hx₂) hn₆ (fun h₃ hn₃ hs₃ => ?_) (by simp [compEnvC, relabel, hkind])))
        refine assignInOrder_nil ?_
        have old3 : ∀ b o, b ≠ H2.objs.size → h₂'.get? b = some o → h₃.get? b = some o := fun b o hb e => hs₃.extBut b o hb (hs₆.extBut b o hb (he' b o e))
        have hst₃ : St (i + 1) h₃ := W.frame _ _ _ hst₂ fun b hb o e => old3 b o (fun q => hCf (by rw [← q]; exact hb)) e
        obtain ⟨oC, heC, hoC⟩ := LCg.ns_obj hn₃
        have F₃ : Fr h₀ L h₃ m := (((frWr F' hk3 hwr).keeps he').change hs₆ hCL hC₀).change hs₃ hCL hC₀
        have N₃ : News h₀ L h₃ ((H2.objs.size, oC) :: (s₂.heap.objs.size, LCg.lst ys) :: news) := fun p hp => by
          rcases List.mem_cons.mp hp with rfl | hp
          · exact ⟨heC, hCL, hC₀⟩
          · have z := N₂ p hp
            refine ⟨old3 _ _ ?_ z.1, z.2⟩
            rcases List.mem_cons.mp hp with rfl | hp
            · exact hDC
            · exact (offC p hp).1
        refine wpAny_mono (turn i v₁ v₂ H2.objs.size oC s₂.heap.objs.size ys _ h₃ _ _ hlt hP hoC (by simp [hxx]) (by simp) F₃ N₃) (fun y s₄ h₄ => ?_) fun _ _ e => e
        obtain ⟨⟨tk₄, rfl⟩, hRy⟩ := h₄
        have zC := (N₃ (H2.objs.size, oC) List.mem_cons_self).1
        have zD := (N₃ (s₂.heap.objs.size, LCg.lst ys) (List.mem_cons_of_mem _ List.mem_cons_self)).1
        refine append_at (hsz := by show ys.toArray.size ≤ sizeLine; rw [List.size_toArray, hyl]; exact Nat.le_trans hi hsz) zD fun h₅ hs₅ hD₅ => ?_
        refine ⟨n + 1 - (i + 1), by omega, h₅, tk₄, i + 1, ys ++ [y], _, rfl, hlt, rfl, by rw [List.length_append, List.length_singleton, hyl], W.frame _ _ _ hst₃ fun b hb o e => hs₅.extBut b o (fun q => hDf (q ▸ hb)) e, F₃.change hs₅ hDL hD₀,
          (hoC.ns zC).sameBut hs₅ (Ne.symm hDC), fun p hp => ?_, ?_⟩
        · rcases List.mem_cons.mp hp with rfl | hp
          · exact ⟨hD₅.trans (congrArg some (LCg.lst_snoc ys y)), hDL, hD₀⟩
          · have z := N₃ p (List.mem_cons_of_mem _ (List.mem_cons_of_mem _ hp))
            exact ⟨hs₅.extBut _ _ (offC p hp).2 z.1, z.2⟩
        · intro j z hz
          rcases Nat.lt_trichotomy j i with h | h | h
          · exact hR j z (by rwa [List.getElem?_append_left (by omega)] at hz)
          · subst h
            rw [List.getElem?_append_right (by omega), hyl, Nat.sub_self] at hz
            cases hz; exact hRy
          · rw [List.getElem?_eq_none (by rw [List.length_append, List.length_singleton]; omega)] at hz
            cases hz
      · obtain rfl : i = n := Nat.le_antisymm hi (Nat.not_lt.mp hlt)
        refine W.done _ _ _ hst' fun h₂ tk₂ hk₂ => ?_
        exact hRR _ _ h₂ tk₂ _ ys (frWr F' hk₂ hwr) (newsWr N' hk₂ (offD ys)) o1 (hn'.at' fun o e => hk₂ _ o hCw e) hC₀ hD₀ hCL hDL (Ne.symm hDC) (fun p hp => (offC p hp).1) hyl hR
    · rcases List.mem_cons.mp hp with rfl | hp
      · exact ⟨hacc, hDL, hD₀⟩
      · exact ⟨old _ _ (N p hp).1, (N p hp).2⟩
  exact codeAny_compStart_list (loop _ rfl) (hself _ _ _ hst₁ (loop _ rfl))

/-- a source of pairs, for elements of pure evaluation -/
def KSrc (prog : Program) (w : World) (A : Around) (h₀ : Heap) (L : Addr) (m : Str → Option Value) (env : Env) (elt target : Expr) (x x₂ : Str) (scope : Scope) (cl : List (Str × Addr)) (Fin : Shared → (Nat → Value → Prop) → Nat → List (Addr × Obj) → Prop) (it : Value) (s₂ : Shared) : Prop :=
  ∃ (I : Addr) (fp wr : List Addr) (n : Nat) (Pt : Nat → Value → Value → Prop) (Md : Nat → Value → Heap → Prop) (St : Nat → Heap → Prop) (news : List (Addr × Obj)) (R : Nat → Value → Prop),
    it = .ref I ∧ KTurns prog w A target I fp wr n (fun i v h => ∃ T vals, v = .ref T ∧ (∃ a b, Pt i a b ∧ vals = #[a, b]) ∧ h.IsTuple T vals) Md St ∧ n ≤ sizeLine ∧
    (∀ (s : Shared) (Q : Value → Shared → Prop) (E : Value → Shared → Prop), St 0 s.heap → Q (.ref I) s → wpAny (model prog w) A (pyIter (.ref I)) Q E s) ∧
    St 0 s₂.heap ∧ (∀ b ∈ fp, b < s₂.heap.objs.size) ∧ (∀ b ∈ wr, h₀.get? b = none ∧ b ≠ L) ∧ Fr h₀ L s₂.heap m ∧ News h₀ L s₂.heap news ∧ (∀ p ∈ news, p.1 ∉ wr) ∧
    (∀ j a b C oC D ys m₂ h tk (E' : Value → Shared → Prop), j < n → Pt j a b → LCg.NsObj oC m₂ → m₂ x = some a → m₂ x₂ = some b → Fr h₀ L h m → News h₀ L h ((C, oC) :: (D, LCg.lst ys) :: news) →
      wpAny (model prog w) A (eval elt (compEnvC scope cl C env)) (PureEnd R j s₂ h) E' { s₂ with heap := h, toks := tk }) ∧ Fin s₂ R n news

theorem comp_pairs {elt iter : Expr} {x x₂ : Str} {px px₂ tp : Pos} {kk : Nat} {scope : Scope} {cl : List (Str × Addr)} {pos : Pos} {Q : Value → Shared → Prop} (_F₀ : Fr h₀ L s.heap m) (hh : A.handled = none)
    (hclos : closureFor scope env = pure cl) (hcell : ∀ y ∈ scope.names, y.2 ≠ .cell) (hkind : scope.kind = .function)
    (hnames : ∀ y ∈ scope.names, y.2 = .local → scope.names.lookup y.1 = some .local) (hx : scope.names.lookup x = some .local) (hx₂ : scope.names.lookup x₂ = some .local) (hxx : x ≠ x₂)
    (h : wpAny (model prog w) A (eval iter env) (fun xv s₁ => wpAny (model prog w) A (pyIter xv) (fun it s₂ => KSrc prog w A h₀ L m env elt (.Tuple [.Name x px, .Name x₂ px₂] kk tp) x x₂ scope cl
      (fun s₂ R n news => ∀ ys : List Value, ys.length = n → (∀ j y, ys[j]? = some y → R j y) → LCg.FinE h₀ L m s₂ Q ys news) it s₂) E s₁) E s)
    (hs : ∀ x, foldedSetIterable iter env x = pure x := by intro _; rfl) :
    wpAny (model prog w) A (eval (.ListComp elt [⟨.Tuple [.Name x px, .Name x₂ px₂] kk tp, iter, [], 0⟩] scope pos) env) Q E s := by
  rw [eval_ListComp]
  refine wpAny_comprehension_free (use := none) rfl hs hclos hkind hnames (wpAny_mono h (fun xv s₁ h₁ => wpAny_mono h₁ (fun it s₂ h₂ => ?_) fun _ _ e => e) fun _ _ e => e)
  obtain ⟨I, fp, wr, n, Pt, Md, St, news, R, rfl, W, hsz, hself, hst, hfp, hwr, F, N, off, turn, fin⟩ := h₂
  refine block_K W hsz hself hcell hkind hx hx₂ hxx hh hst hfp hwr F N off turn ?_
  intro D C h tk m' ys F' N' o1 hn hC₀ hD₀ hCL hDL hCD offC hl hR
  refine ⟨m', hn, fun h'' hs'' => fin ys hl hR D h'' tk (F'.change hs'' hCL hC₀) (fun p hp => ?_) o1⟩
  refine ⟨hs''.extBut _ _ ?_ (N' p hp).1, (N' p hp).2⟩
  rcases List.mem_cons.mp hp with rfl | hp
  · exact Ne.symm hCD
  · exact offC p hp

theorem kt_imp {target : Expr} {I : Addr} {fp wr : List Addr} {n : Nat} {P P' Md : Nat → Value → Heap → Prop} {St : Nat → Heap → Prop} (K : KTurns prog w A target I fp wr n P Md St) (hi : ∀ i v h, P i v h → P' i v h) : KTurns prog w A target I fp wr n P' Md St :=
  { sub := K.sub, frame := K.frame, item := K.item, done := K.done, go := fun i v s Q E hm hQ => K.go i v s Q E hm fun h' hP hS hk' => hQ h' (hi _ _ _ hP) hS hk' }
theorem kt_lt {target : Expr} {I : Addr} {fp wr : List Addr} {n : Nat} {P Md : Nat → Value → Heap → Prop} {St : Nat → Heap → Prop} (K : KTurns prog w A target I fp wr n P Md St) : KTurns prog w A target I fp wr n (fun i v h => i < n ∧ P i v h) (fun i v h => i < n ∧ Md i v h) St :=
  { sub := K.sub, frame := K.frame, item := fun i s Q E hi hst hQ => K.item i s Q E hi hst fun v h' tk hm hk => hQ v h' tk ⟨hi, hm⟩ hk, done := K.done, go := fun i v s Q E hm hQ => K.go i v s Q E hm.2 fun h' hP hS hk' => hQ h' ⟨hm.1, hP⟩ hS hk' }

/-- the source is zip of two lists -/
theorem ksrc_zip {elt : Expr} {elts : List Expr} {kk : Nat} {tp : Pos} {x x₂ : Str} {scope : Scope} {cl : List (Str × Addr)} {Fin : Shared → (Nat → Value → Prop) → Nat → List (Addr × Obj) → Prop} {l1 l2 : Addr} {xs ys : List Value} {news : List (Addr × Obj)} {n : Nat} (R : Nat → Value → Prop)
    (hh : A.handled = none) (F : Fr h₀ L s.heap m) (N : News h₀ L s.heap news) (hl1 : s.heap.IsList l1 xs.toArray) (hl2 : s.heap.IsList l2 ys.toArray) (hn1 : xs.length = n) (hn2 : ys.length = n) (hsz : n ≤ sizeLine)
    (turn : ∀ g j a b C oC D zs m₂ h tk (E' : Value → Shared → Prop), xs[j]? = some a → ys[j]? = some b → LCg.NsObj oC m₂ → m₂ x = some a → m₂ x₂ = some b → Fr h₀ L h m → News h₀ L h ((C, oC) :: (D, LCg.lst zs) :: news) →
      wpAny (model prog w) A (eval elt (compEnvC scope cl C env)) (PureEnd R j { s with heap := g } h) E' { s with heap := h, toks := tk })
    (fin : ∀ g, Fin { s with heap := g } R n news) :
    wpAny (model prog w) A (call (.type "zip") [.ref l1, .ref l2]) (fun xv s₁ => wpAny (model prog w) A (pyIter xv) (fun it s₂ => KSrc prog w A h₀ L m env elt (.Tuple elts kk tp) x x₂ scope cl Fin it s₂) E s₁) E s := by
  have hlt1 : l1 < s.heap.objs.size := by obtain ⟨o, e, _⟩ := hl1; exact Heap.lt_size e
  have hlt2 : l2 < s.heap.objs.size := by obtain ⟨o, e, _⟩ := hl2; exact Heap.lt_size e
  have hLs : L < s.heap.objs.size := F.ns.lt
  have D : ZipApart (s.heap.objs.size + 4) (s.heap.objs.size + 2) (s.heap.objs.size + 3) s.heap.objs.size (s.heap.objs.size + 1) l1 l2 := ktu_apart _ _ _ hlt1 hlt2
  refine call_zip_2 hl1 hl2 fun h' hz hTI hTO hi1 hi2 hsz' hk => ?_
  refine wpAny_pyIter_zip hz ?_
  have W := (WalksT.zip2 (prog := prog) (w := w) (A := A) hh _ _ _ _ _ _ _ D xs.toArray ys.toArray).toU
  have hmin : min xs.toArray.size ys.toArray.size = n := by simp [hn1, hn2]
  rw [hmin] at W
  have hwr : ∀ b ∈ [s.heap.objs.size + 4, s.heap.objs.size + 3, s.heap.objs.size, s.heap.objs.size + 1], s.heap.objs.size ≤ b := by
    intro b hb
    simp only [List.mem_cons, List.not_mem_nil, or_false] at hb
    rcases hb with rfl | rfl | rfl | rfl
    · exact Nat.le_add_right _ _
    · exact Nat.le_add_right _ _
    · exact Nat.le_refl _
    · exact Nat.le_add_right _ _
  have K := kt_imp (P' := fun i v h => ∃ T vals, v = .ref T ∧ (∃ a b, (xs.toArray[i]? = some a ∧ ys.toArray[i]? = some b) ∧ vals = #[a, b]) ∧ h.IsTuple T vals) (KTurns.ofWalksU (elts := elts) (k := kk) (pos := tp) W) (fun i v h hP => by
    obtain ⟨T, vals, e1, ⟨a, b, e2, e3, e4⟩, e5⟩ := hP
    exact ⟨T, vals, e1, ⟨a, b, ⟨e2, e3⟩, e4⟩, e5⟩)
  refine ⟨_, _, [s.heap.objs.size + 4, s.heap.objs.size + 3, s.heap.objs.size, s.heap.objs.size + 1], n, (fun i a b => xs.toArray[i]? = some a ∧ ys.toArray[i]? = some b), _, _, news, R, rfl, K, hsz, ?_, ⟨hz, hTI, ⟨_, _, hTO⟩, hi1, hi2, hl1.at fun o e => hk _ o e, hl2.at fun o e => hk _ o e⟩, ?_, ?_, F.keeps hk, N.grown hk, ?_, ?_, fin _⟩
  · intro s' Q' E' hst hq
    exact W.self 0 s' Q' E' hst hq
  · intro b hb
    have hb' : b = s.heap.objs.size + 4 ∨ b = s.heap.objs.size + 2 ∨ b = s.heap.objs.size + 3 ∨ b = s.heap.objs.size ∨ b = s.heap.objs.size + 1 ∨ b = l1 ∨ b = l2 := by simpa using hb
    show b < h'.objs.size
    rw [hsz']
    rcases hb' with rfl | rfl | rfl | rfl | rfl | rfl | rfl
    · exact Nat.add_lt_add_left (by decide) _
    · exact Nat.add_lt_add_left (by decide) _
    · exact Nat.add_lt_add_left (by decide) _
    · exact Nat.lt_add_of_pos_right (by decide)
    · exact Nat.add_lt_add_left (by decide) _
    · exact Nat.lt_of_lt_of_le hlt1 (Nat.le_add_right _ _)
    · exact Nat.lt_of_lt_of_le hlt2 (Nat.le_add_right _ _)
  · intro b hb
    refine ⟨Heap.get?_none_of_le (Nat.le_trans F.above (Nat.le_trans (Nat.le_of_lt hLs) (hwr b hb))), ?_⟩
    exact Ne.symm (Nat.ne_of_lt (Nat.lt_of_lt_of_le hLs (hwr b hb)))
  · intro p hp hb
    exact Nat.lt_irrefl _ (Nat.lt_of_lt_of_le (Heap.lt_size (N p hp).1) (hwr _ hb))
  · intro j a b C oC D' zs m₂ h tk E' hj hP hC h1 h2 F' N'
    exact turn _ j a b C oC D' zs m₂ h tk E' (by simpa using hP.1) (by simpa using hP.2) hC h1 h2 F' N'

/-- the source is a list of pairs -/
theorem ksrc_tups {elt : Expr} {elts : List Expr} {kk : Nat} {tp : Pos} {x x₂ : Str} {scope : Scope} {cl : List (Str × Addr)} {Fin : Shared → (Nat → Value → Prop) → Nat → List (Addr × Obj) → Prop} {l : Addr} {vs : List Value} {news : List (Addr × Obj)} {n : Nat} (R : Nat → Value → Prop) (Pt : Nat → Value → Value → Prop)
    (hh : A.handled = none) (F : Fr h₀ L s.heap m) (N : News h₀ L s.heap news) (hl : s.heap.IsList l vs.toArray) (hn : vs.length = n) (hsz : n ≤ sizeLine)
    (hT : ∀ j, j < n → ∃ T a b, vs[j]? = some (.ref T) ∧ s.heap.IsTuple T #[a, b] ∧ Pt j a b)
    (turn : ∀ g j a b C oC D zs m₂ h tk (E' : Value → Shared → Prop), j < n → Pt j a b → LCg.NsObj oC m₂ → m₂ x = some a → m₂ x₂ = some b → Fr h₀ L h m → News h₀ L h ((C, oC) :: (D, LCg.lst zs) :: news) →
      wpAny (model prog w) A (eval elt (compEnvC scope cl C env)) (PureEnd R j { s with heap := g } h) E' { s with heap := h, toks := tk })
    (fin : ∀ g, Fin { s with heap := g } R n news) :
    wpAny (model prog w) A (pyIter (.ref l)) (fun it s₂ => KSrc prog w A h₀ L m env elt (.Tuple elts kk tp) x x₂ scope cl Fin it s₂) E s := by
  have hlt : l < s.heap.objs.size := by obtain ⟨o, e, _⟩ := hl; exact Heap.lt_size e
  have hLs : L < s.heap.objs.size := F.ns.lt
  obtain ⟨f, hf⟩ := Classical.skolem.mp (fun j => (show ∃ q : Addr × Value × Value, j < n → vs[j]? = some (.ref q.1) ∧ s.heap.IsTuple q.1 #[q.2.1, q.2.2] ∧ Pt j q.2.1 q.2.2 from by
    by_cases hj : j < n
    · obtain ⟨T, a, b, h⟩ := hT j hj
      exact ⟨(T, a, b), fun _ => h⟩
    · exact ⟨(0, .none, .none), fun h => absurd h hj⟩))
  refine wpAny_pyIter_list hl ?_
  have hlen : vs.toArray.size = n := by simp [hn]
  have hTlt : ∀ j, j < n → (f j).1 < s.heap.objs.size := fun j hj => by obtain ⟨o, e, _⟩ := (hf j hj).2.1; exact Heap.lt_size e
  have W := WalksU.listOfTuples (prog := prog) (w := w) (A := A) hh s.heap.objs.size l (Nat.ne_of_lt hlt) vs.toArray (fun j => (f j).1) (fun j => #[(f j).2.1, (f j).2.2])
    (fun j hj => by rw [hlen] at hj; simpa using (hf j hj).1) (fun j hj => by rw [hlen] at hj; exact Nat.ne_of_lt (hTlt j hj))
  rw [hlen] at W
  have up : ∀ b o, s.heap.get? b = some o → (s.heap.push { cls := .type "list_iterator", data := .fields #[.ref l, .int 0 0] }).get? b = some o := fun b o e => Heap.get?_push_of_some _ e
  have K := kt_imp (P' := fun i v h => ∃ T vals, v = .ref T ∧ (∃ a b, Pt i a b ∧ vals = #[a, b]) ∧ h.IsTuple T vals) (kt_lt (KTurns.ofWalksU (elts := elts) (k := kk) (pos := tp) W)) (fun i v h hP => by
    obtain ⟨hi, T, vals, e1, e2, e5⟩ := hP
    exact ⟨T, vals, e1, ⟨_, _, (hf i hi).2.2, e2⟩, e5⟩)
  refine ⟨_, _, [s.heap.objs.size], n, Pt, _, _, news, R, rfl, K, hsz, ?_, ⟨⟨_, Heap.get?_push_size _ rfl, rfl, rfl⟩, hl.at fun o e => up _ o e, fun k hk => (hf k hk).2.1.at fun o e => up _ o e⟩, ?_, ?_, F.keeps up, N.grown up, ?_, ?_, fin _⟩
  · intro s' Q' E' hst hq
    exact W.self 0 s' Q' E' hst hq
  · intro b hb
    show b < (s.heap.push _).objs.size
    rw [Heap.size_push]
    rcases List.mem_cons.mp hb with rfl | hb
    · exact Nat.lt_succ_self _
    · rcases List.mem_cons.mp hb with rfl | hb
      · exact Nat.lt_succ_of_lt hlt
      · obtain ⟨j, hj, rfl⟩ := List.mem_map.mp hb
        exact Nat.lt_succ_of_lt (hTlt j (List.mem_range.mp hj))
  · intro b hb
    rw [List.mem_singleton.mp hb]
    exact ⟨Heap.get?_none_of_le (Nat.le_trans F.above (Nat.le_of_lt hLs)), Ne.symm (Nat.ne_of_lt hLs)⟩
  · intro p hp hb
    rw [List.mem_singleton] at hb
    exact Nat.lt_irrefl _ (hb ▸ Heap.lt_size (N p hp).1)
  · intro j a b C oC D' zs m₂ h tk E' hj hP hC h1 h2 F' N'
    exact turn _ j a b C oC D' zs m₂ h tk E' hj hP hC h1 h2 F' N'
end

end
theorem off_Loop : True := by
  w_top off
  trivial
section

/-- what a turn hands on: the ledger nx of the loop's own, off the iterator's addresses fp -/
def LEnd (h₀ : Heap) (L : Addr) (fp : List Addr) (J : (Str → Option Value) → List (Addr × Obj) → Prop) (own : List (Addr × Obj)) (s₁ s₂ : Shared) : Prop :=
  ∃ h' tk m' news' nx, s₂ = { s₁ with heap := h', toks := tk } ∧ Fr h₀ L h' m' ∧ News h₀ L h' news' ∧ (∀ p ∈ nx, p ∈ news') ∧ (∀ p ∈ own, p ∈ news') ∧ (∀ p ∈ nx, p.1 ∉ fp) ∧ J m' nx
def LPost (h₀ : Heap) (L : Addr) (fp : List Addr) (J : (Str → Option Value) → List (Addr × Obj) → Prop) (own : List (Addr × Obj)) (s₁ : Shared) (Q : Flow → Shared → Prop) (f : Flow) (s₂ : Shared) : Prop :=
  match f with
  | .ret v => Q (.ret v) s₂
  | .brk => Q .next s₂
  | _ => LEnd h₀ L fp J own s₁ s₂

section
variable {prog : Program} {w : World} {A : Around} {E : Value → Shared → Prop} {s : Shared} {env : Env} {h₀ : Heap} {x : Str} {body : List Stmt} {Q : Flow → Shared → Prop}

theorem loop_any {I : Addr} {fp : List Addr} {n : Nat} {P : Nat → Value → Prop} {St : Nat → Heap → Prop} {m₀ : Str → Option Value} {news : List (Addr × Obj)} (J : Nat → (Str → Option Value) → List (Addr × Obj) → Prop)
    (W : Walks prog w A I fp [I] n P St) (hLf : env.locals ∉ fp) (hI : h₀.get? I = none) (hst : St 0 s.heap)
    (F : Fr h₀ env.locals s.heap m₀) (N : News h₀ env.locals s.heap news) (hoff : ∀ p ∈ news, p.1 ∉ fp) (hj : J 0 m₀ news)
    (turn : ∀ i v m₁ nx h tk own, i < n → P i v → (∀ p ∈ own, p.1 ∈ fp) → (∀ p ∈ nx, p.1 ∉ fp) → J i m₁ nx → Fr h₀ env.locals h (fun y => if y = x then some v else m₁ y) → News h₀ env.locals h (nx ++ own) →
      wpAny (model prog w) A (execs body env) (LPost h₀ env.locals fp (J (i + 1)) own { s with heap := h, toks := tk } Q) E { s with heap := h, toks := tk })
    (done : ∀ m₁ nx h tk, J n m₁ nx → Fr h₀ env.locals h m₁ → News h₀ env.locals h nx → Q .next { s with heap := h, toks := tk }) :
    LoopAtV prog w A h₀ env x body Q E (.ref I) s := by
  have hIf : I ∈ fp := W.sub I (List.mem_singleton.mpr rfl)
  refine ⟨I, fp, [I], n, P, St, m₀, news, fun i m nx => (∀ p ∈ nx, p.1 ∉ fp) ∧ J i m nx, rfl, W, hLf, ?_, ?_, hst, F, N, ⟨hoff, hj⟩, ?_, ?_⟩
  · intro b hb; rw [List.mem_singleton.mp hb]; exact hI
  · intro p hp hm; exact hoff p hp (List.mem_singleton.mp hm ▸ hIf)
  · rintro i v m₁ news₁ s₁ own ⟨hh', tk', rfl⟩ hin hP ⟨hof, hJ⟩ _ hown _ _ _ F₁ N₁
    have N₂ : News h₀ env.locals hh' (news₁ ++ own) := fun p hp => N₁ p ((List.mem_append.mp hp).elim (fun h => List.mem_append.mpr (.inr h)) fun h => List.mem_append.mpr (.inl h))
    refine wpAny_mono (turn i v m₁ news₁ hh' tk' own hin hP hown hof hJ F₁ N₂) (fun f s₂ p => ?_) fun _ _ e => e
    have fin : LEnd h₀ env.locals fp (J (i + 1)) own { s with heap := hh', toks := tk' } s₂ → LoopStepU h₀ env.locals [I] own (fun m nx => (∀ p ∈ nx, p.1 ∉ fp) ∧ J (i + 1) m nx) { s with heap := hh', toks := tk' } .next s₂ := by
      rintro ⟨h', tk, m', news', nx, e, F', N', hn, ho, ha, hm⟩
      exact ⟨rfl, h', tk, m', nx, e, F', fun p hp => N' p ((List.mem_append.mp hp).elim (ho p) (hn p)), fun p hp hq => ha p hp (List.mem_singleton.mp hq ▸ hIf), ha, hm⟩
    cases f with
    | ret v => exact .ret p
    | brk => exact .brk p
    | next => exact .next (fin p)
    | cont => exact .cont (fin p)
  · rintro h' tk m' news' F' N' _ ⟨_, hJ⟩
    exact done m' news' h' tk hJ F' N'

/-- over a list of the ledger, whatever it holds -/
theorem loop_list {l : Addr} {vs : List Value} {lo : Obj} {m₀ : Str → Option Value} {news₀ news : List (Addr × Obj)} (J : Nat → (Str → Option Value) → List (Addr × Obj) → Prop)
    (hh : A.handled = none) (hm : (l, lo) ∈ news₀) (hc : lo.cls = .type "list") (hd : ∃ k, lo.data = .seq vs.toArray k) (F : Fr h₀ env.locals s.heap m₀) (N : News h₀ env.locals s.heap news₀) (hsub : ∀ p ∈ news, p ∈ news₀) (hoff : ∀ p ∈ news, p.1 ≠ l) (hj : J 0 m₀ news)
    (turn : ∀ I i v m₁ nx h tk own, vs[i]? = some v → (∀ p ∈ own, p.1 ∈ [I, l]) → (∀ p ∈ nx, p.1 ∉ [I, l]) → J i m₁ nx → Fr h₀ env.locals h (fun y => if y = x then some v else m₁ y) → News h₀ env.locals h (nx ++ own) →
      wpAny (model prog w) A (execs body env) (LPost h₀ env.locals [I, l] (J (i + 1)) own { s with heap := h, toks := tk } Q) E { s with heap := h, toks := tk })
    (done : ∀ m₁ nx h tk, J vs.length m₁ nx → Fr h₀ env.locals h m₁ → News h₀ env.locals h nx → Q .next { s with heap := h, toks := tk }) :
    wpAny (model prog w) A (pyIter (.ref l)) (fun it s₂ => LoopAtV prog w A h₀ env x body Q E it s₂) E s := by
  have hls : s.heap.IsList l vs.toArray := ⟨lo, (N _ hm).1, hc, hd⟩
  have hlt : l < s.heap.objs.size := Heap.lt_size (N _ hm).1
  have hne : l ≠ s.heap.objs.size := Nat.ne_of_lt hlt
  refine wpAny_pyIter_list hls ?_
  have W := Walks.list (prog := prog) (w := w) hh s.heap.objs.size l hne vs.toArray
  have hlen : vs.toArray.size = vs.length := List.size_toArray ..
  rw [hlen] at W
  refine loop_any J W ?_ (next_is_new F) ⟨⟨_, Heap.get?_push_size _ rfl, rfl, rfl⟩, hls.at fun o e => Heap.get?_push_of_some _ e⟩ (F.push _) (fun p hp => ⟨Heap.get?_push_of_some _ (N p (hsub p hp)).1, (N p (hsub p hp)).2⟩) ?_ hj ?_ done
  · intro hm'
    rcases List.mem_cons.mp hm' with e | hm'
    · exact absurd F.ns.lt (e ▸ Nat.lt_irrefl _)
    · exact (N _ hm).2.1 (List.mem_singleton.mp hm').symm
  · intro p hp hm'
    rcases List.mem_cons.mp hm' with e | hm'
    · exact absurd (Heap.lt_size (N p (hsub p hp)).1) (e ▸ Nat.lt_irrefl _)
    · exact hoff p hp (List.mem_singleton.mp hm')
  · intro i v m₁ nx h tk own hi hP ho hn hJ F' N'
    exact turn _ i v m₁ nx h tk own (by simpa using hP) ho hn hJ F' N'

/-- over a list of the ledger from behind -/
theorem loop_rev {l I : Addr} {vs : List Value} {lo : Obj} {m₀ : Str → Option Value} {news₀ news : List (Addr × Obj)} (J : Nat → (Str → Option Value) → List (Addr × Obj) → Prop)
    (hh : A.handled = none) (hI : (I, revObj l ((vs.length : Int) - 1)) ∈ news₀) (hm : (l, lo) ∈ news₀) (hne : l ≠ I) (hc : lo.cls = .type "list") (hd : ∃ k, lo.data = .seq vs.toArray k) (F : Fr h₀ env.locals s.heap m₀) (N : News h₀ env.locals s.heap news₀)
    (hsub : ∀ p ∈ news, p ∈ news₀) (hoff : ∀ p ∈ news, p.1 ∉ [I, l]) (hj : J 0 m₀ news)
    (turn : ∀ i v m₁ nx h tk own, i < vs.length → vs[vs.length - 1 - i]? = some v → (∀ p ∈ own, p.1 ∈ [I, l]) → (∀ p ∈ nx, p.1 ∉ [I, l]) → J i m₁ nx → Fr h₀ env.locals h (fun y => if y = x then some v else m₁ y) → News h₀ env.locals h (nx ++ own) →
      wpAny (model prog w) A (execs body env) (LPost h₀ env.locals [I, l] (J (i + 1)) own { s with heap := h, toks := tk } Q) E { s with heap := h, toks := tk })
    (done : ∀ m₁ nx h tk, J vs.length m₁ nx → Fr h₀ env.locals h m₁ → News h₀ env.locals h nx → Q .next { s with heap := h, toks := tk }) :
    wpAny (model prog w) A (pyIter (.ref I)) (fun it s₂ => LoopAtV prog w A h₀ env x body Q E it s₂) E s := by
  have hls : s.heap.IsList l vs.toArray := ⟨lo, (N _ hm).1, hc, hd⟩
  have W := Walks.listRev (prog := prog) (w := w) hh I l hne vs.toArray
  have hlen : vs.toArray.size = vs.length := List.size_toArray ..
  rw [hlen] at W
  have hst : (0 : Nat) ≤ vs.length ∧ s.heap.IsRevIter I l ((vs.length : Int) - 1 - ((0 : Nat) : Int)) ∧ s.heap.IsList l vs.toArray := by
    refine ⟨Nat.zero_le _, ?_, hls⟩
    have e : (vs.length : Int) - 1 - ((0 : Nat) : Int) = (vs.length : Int) - 1 := by omega
    rw [e]
    exact ⟨_, (N _ hI).1, rfl, rfl⟩
  refine W.self 0 _ _ _ hst ?_
  refine loop_any J W ?_ (N _ hI).2.2 hst F (fun p hp => N p (hsub p hp)) hoff hj ?_ done
  · intro hm'
    rcases List.mem_cons.mp hm' with e | hm'
    · exact (N _ hI).2.1 e.symm
    · exact (N _ hm).2.1 (List.mem_singleton.mp hm').symm
  · intro i v m₁ nx h tk own hi hP ho hn hJ F' N'
    exact turn i v m₁ nx h tk own hi (by simpa using hP) ho hn hJ F' N'

/-- for a, b in enumerate(l), l a list of the base, whatever it holds -/
theorem loop_enum {target : Expr} {elts : List Expr} {kx : Nat} {px : Pos} (ht : target = .Tuple elts kx px) {l : Addr} {vs : List Value} {m₀ : Str → Option Value} {news : List (Addr × Obj)} (J : Nat → (Str → Option Value) → List (Addr × Obj) → Prop)
    (hh : A.handled = none) (hl : h₀.IsList l vs.toArray) (F : Fr h₀ env.locals s.heap m₀) (N : News h₀ env.locals s.heap news) (hj : J 0 m₀ news)
    (turn : ∀ i v t T m₁ nx h tk own, vs[i]? = some v → (∀ p ∈ own, ∀ q ∈ nx, p.1 ≠ q.1) → J i m₁ nx → h.IsTuple T #[.int (i : Int) t, v] → Fr h₀ env.locals h m₁ → News h₀ env.locals h (nx ++ own) →
      wpAny (model prog w) A (assign target env (.ref T)) (fun _ s₃ => wpAny (model prog w) A (execs body env) (TbPost h₀ env.locals (J (i + 1)) own { s with heap := h, toks := tk } Q) E s₃) E { s with heap := h, toks := tk })
    (done : ∀ m₁ nx h tk, J vs.length m₁ nx → Fr h₀ env.locals h m₁ → News h₀ env.locals h nx → Q .next { s with heap := h, toks := tk }) :
    wpAny (model prog w) A (call (.type "enumerate") [.ref l]) (fun xv s₁ => wpAny (model prog w) A (pyIter xv) (fun it s₂ => TurnsAt prog w A h₀ env target body Q E it s₂) E s₁) E s := by
  subst ht
  have hls : s.heap.IsList l vs.toArray := hl.at fun o e => F.keep l o e
  have hlb : ∃ o, h₀.get? l = some o := by obtain ⟨o, e, _⟩ := hl; exact ⟨o, e⟩
  obtain ⟨lo, hlo⟩ := hlb
  have hlt : l < s.heap.objs.size := Heap.lt_size (F.keep _ _ hlo)
  refine call_enumerate_list hls fun h' he hit hsz hk => ?_
  have F' : Fr h₀ env.locals h' m₀ := F.keeps hk
  have N' : News h₀ env.locals h' news := N.grown hk
  refine wpAny_pyIter_enum he ?_
  have hL : env.locals < s.heap.objs.size := F.ns.lt
  have hab : h₀.objs.size ≤ env.locals := F.above
  have W := (WalksT.enumerate (prog := prog) (w := w) (A := A) hh (s.heap.objs.size + 1) s.heap.objs.size l (Nat.succ_ne_self _) (Nat.ne_of_lt (Nat.lt_succ_of_lt hlt)) (Nat.ne_of_lt hlt) vs.toArray).toU
  have hnone : ∀ b, s.heap.objs.size ≤ b → h₀.get? b = none := fun b hb => Heap.get?_none_of_le (Nat.le_trans hab (Nat.le_trans (Nat.le_of_lt hL) hb))
  have hwr0 : ∀ b ∈ [s.heap.objs.size + 1, s.heap.objs.size], h₀.get? b = none := fun b hb => by
    rcases List.mem_cons.mp hb with rfl | hb
    · exact hnone _ (Nat.le_succ _)
    · rw [List.mem_singleton.mp hb]; exact hnone _ (Nat.le_refl _)
  have hlen : vs.toArray.size = vs.length := List.size_toArray ..
  rw [hlen] at W
  refine ⟨s.heap.objs.size + 1, [s.heap.objs.size + 1, s.heap.objs.size, l], [s.heap.objs.size + 1, s.heap.objs.size], vs.length, _, _, _, m₀, news, J, rfl, KTurns.ofWalksU W, ?_, hwr0, ?_, ⟨⟨_, he⟩, hit, hls.at fun o e => hk l o e⟩, F', N', hj, ?_, ?_⟩
  · intro hm
    rcases List.mem_cons.mp hm with e | hm
    · exact Nat.ne_of_lt (Nat.lt_succ_of_lt hL) e
    · rcases List.mem_cons.mp hm with e | hm
      · exact Nat.ne_of_lt hL e
      · exact Nat.ne_of_gt (Nat.lt_of_lt_of_le (Heap.lt_size hlo) hab) (List.mem_singleton.mp hm)
  · intro p hp hm
    have hpl : p.1 < s.heap.objs.size := Heap.lt_size (N p hp).1
    rcases List.mem_cons.mp hm with e | hm
    · exact Nat.ne_of_lt (Nat.lt_succ_of_lt hpl) e
    · exact Nat.ne_of_lt hpl (List.mem_singleton.mp hm)
  · rintro i v m₁ news₁ h₁ tk₁ own hin ⟨T, vals, rfl, ⟨t, x, hx, rfl⟩, hT⟩ hJ hoff hown hget hmem hst₁ F₁ N₁
    have N₂ : News h₀ env.locals h₁ (news₁ ++ own) := fun p hp => N₁ p ((List.mem_append.mp hp).elim (fun h => List.mem_append.mpr (.inr h)) fun h => List.mem_append.mpr (.inl h))
    have hwo : ∀ p ∈ own, p.1 ∈ [s.heap.objs.size + 1, s.heap.objs.size] := fun p hp => by
      have h1 := hown p hp
      rcases List.mem_cons.mp h1 with e | h1
      · rw [e]; exact .head _
      · rcases List.mem_cons.mp h1 with e | h1
        · rw [e]; exact .tail _ (.head _)
        · have h2 := (N₁ p (List.mem_append_left _ hp)).2.2
          rw [List.mem_singleton.mp h1, hlo] at h2
          cases h2
    have hsep : ∀ p ∈ own, ∀ q ∈ news₁, p.1 ≠ q.1 := fun p hp q hq e => hoff q hq (e ▸ hwo p hp)
    refine wpAny_mono (turn i x t T m₁ news₁ h₁ tk₁ own (by simpa using hx) hsep hJ hT F₁ N₂) (fun _ s₃ h₃ => wpAny_mono h₃ (fun f s₄ p => ?_) fun _ _ e => e) fun _ _ e => e
    have fin : TbEnd h₀ env.locals (J (i + 1)) own { s with heap := h₁, toks := tk₁ } s₄ → LoopStepU h₀ env.locals [s.heap.objs.size + 1, s.heap.objs.size] own (J (i + 1)) { s with heap := h₁, toks := tk₁ } .next s₄ := by
      rintro ⟨h', tk, m', news', nx, e, F', N', hn, ho, ha, hm⟩
      refine ⟨rfl, h', tk, m', nx, e, F', fun p hp => N' p ((List.mem_append.mp hp).elim (ho p) (hn p)), fun p hp hq => ?_, hm⟩
      have hold : ∃ o, h₁.get? p.1 = some o := by
        obtain ⟨⟨old, he₁⟩, hit₁, _⟩ := hst₁
        rcases List.mem_cons.mp hq with e | hq
        · rw [e]; exact ⟨_, he₁⟩
        · rw [List.mem_singleton.mp hq]; obtain ⟨o, e, _⟩ := hit₁; exact ⟨o, e⟩
      obtain ⟨o, ho'⟩ := hold
      have hfp : p.1 ∈ [s.heap.objs.size + 1, s.heap.objs.size, l] := by
        rcases List.mem_cons.mp hq with e | hq
        · rw [e]; exact .head _
        · rw [List.mem_singleton.mp hq]; exact .tail _ (.head _)
      exact ha _ (hmem _ hfp (hwr0 _ hq) o ho') p hp rfl
    cases f with
    | ret v => exact .ret p
    | brk => exact .brk p
    | next => exact .next (fin p)
    | cont => exact .cont (fin p)
  · rintro h'' tk m' news' F'' N'' _ hJ
    exact done m' news' h'' tk hJ F'' N''
end

end
theorem off_F2 : True := by
  w_top off
  trivial
section
theorem fill_now : tagg PySem.Challenge.rw_sf0060_01 hd.heap_39 := by
  k_fill
  trivial

def mergeF : List Int → List Int → List Int × List Bool
  | [], ps => (ps, ps.map fun _ => false)
  | w :: ws, [] => ((w :: (mergeF ws []).1), true :: (mergeF ws []).2)
  | w :: ws, p :: ps => if w ≤ p then (w :: (mergeF ws (p :: ps)).1, true :: (mergeF ws (p :: ps)).2) else (p :: (mergeF (w :: ws) ps).1, false :: (mergeF (w :: ws) ps).2)


theorem mergeF_nil (ws : List Int) : mergeF ws [] = (ws, ws.map fun _ => true) := by
  induction ws with
  | nil => simp [mergeF]
  | cons w r ih => rw [mergeF, ih]; rfl
theorem drop_get {l : List Int} {i : Nat} (h : i < l.length) : l.drop i = l.getD i 0 :: l.drop (i + 1) := by
  rw [List.drop_eq_getElem_cons h, List.getD_eq_getElem?_getD, List.getElem?_eq_getElem h]; rfl
theorem mergeF_leaf {ws ps : List Int} {i j : Nat} (hi : i < ws.length) (h : ps.length ≤ j ∨ (j < ps.length ∧ ws.getD i 0 ≤ ps.getD j 0)) :
    mergeF (ws.drop i) (ps.drop j) = (ws.getD i 0 :: (mergeF (ws.drop (i + 1)) (ps.drop j)).1, true :: (mergeF (ws.drop (i + 1)) (ps.drop j)).2) := by
  rw [drop_get hi]
  rcases h with h | ⟨h, h'⟩
  · rw [List.drop_of_length_le h, mergeF]
  · rw [drop_get h, mergeF, if_pos h']
theorem mergeF_pair {ws ps : List Int} {i j : Nat} (hj : j < ps.length) (h : ws.length ≤ i ∨ (i < ws.length ∧ ¬ ws.getD i 0 ≤ ps.getD j 0)) :
    mergeF (ws.drop i) (ps.drop j) = (ps.getD j 0 :: (mergeF (ws.drop i) (ps.drop (j + 1))).1, false :: (mergeF (ws.drop i) (ps.drop (j + 1))).2) := by
  rw [drop_get hj]
  rcases h with h | ⟨h, h'⟩
  · rw [List.drop_of_length_le h, mergeF, mergeF]; rfl
  · rw [drop_get h, mergeF, if_neg h']

abbrev mMap (wa pa r l : Addr) (i j : Int) (ti tj : Tok) (iv : Option Value) : Str → Option Value :=
  mk [("is_leaf", iv), ("pair", some (.int j tj)), ("leaf", some (.int i ti)), ("leaves", some (.ref l)), ("row", some (.ref r)), ("pairs", some (.ref pa)), ("weights", some (.ref wa))]

def mInv (wa pa : Addr) (ws ps : List Int) (n : Nat) (m : Str → Option Value) (news : List (Addr × Obj)) : Prop :=
  ∃ (i j : Nat) (ti tj : Tok) (iv : Option Value) (r l : Addr) (rv : List Value) (rn : List Int) (lb : List Bool) (kr kl : Nat),
    i ≤ ws.length ∧ j ≤ ps.length ∧ n = (ws.length - i) + (ps.length - j) ∧ m = mMap wa pa r l i j ti tj iv ∧
    news = [(l, listOf (lb.map Value.bool).toArray kl), (r, listOf rv.toArray kr)] ∧ @LT.lt Nat _ r l ∧ IntsAre rv rn ∧
    (mergeF ws ps).1 = rn ++ (mergeF (ws.drop i) (ps.drop j)).1 ∧ (mergeF ws ps).2 = lb ++ (mergeF (ws.drop i) (ps.drop j)).2 ∧
    rn.length = i + j ∧ lb.length = i + j

theorem intsAre_snoc {vs : List Value} {ns : List Int} (h : IntsAre vs ns) (n : Int) (t : Tok) : IntsAre (vs ++ [.int n t]) (ns ++ [n]) := by
  induction h with
  | nil => exact .cons _ _ .nil
  | cons _ _ _ ih => exact .cons _ _ ih

section
variable {h₀ h' : Heap} {L wa pa r l : Addr} {s : Shared} {ws ps rn : List Int} {rv : List Value} {lb : List Bool} {kr kl i j : Nat} {ti tj tn tv : Tok} {iv : Option Value} {b : Bool} {tk : Nat}
theorem step_leaf (hi : i ≤ ws.length) (hj : j ≤ ps.length) (hrl : @LT.lt Nat _ r l) (hrv : IntsAre rv rn)
    (hm1 : (mergeF ws ps).1 = rn ++ (mergeF (ws.drop i) (ps.drop j)).1) (hm2 : (mergeF ws ps).2 = lb ++ (mergeF (ws.drop i) (ps.drop j)).2)
    (hn1 : rn.length = i + j) (hn2 : lb.length = i + j)
    (F : Fr h₀ L h' (fun y => if y = "leaf" then some (.int ((i : Int) + 1) tn) else if y = "is_leaf" then some (.bool b) else mMap wa pa r l i j ti tj iv y))
    (N : News h₀ L h' [(l, listOf ((lb.map Value.bool).toArray.push (.bool b)) (kl + 1)), (r, listOf (rv.toArray.push (.int (ws.getD (i : Int).toNat 0) tv)) (kr + 1))])
    (hi' : i < ws.length) (hb : b = true) (hc : ps.length ≤ j ∨ (j < ps.length ∧ ws.getD i 0 ≤ ps.getD j 0)) :
    WhileStep h₀ L s (mInv wa pa ws ps) ((ws.length - i) + (ps.length - j)) .next { s with heap := h', toks := tk } := by
  subst hb
  rw [mergeF_leaf hi' hc] at hm1 hm2
  refine WhileStep.intro F N (n' := (ws.length - (i + 1)) + (ps.length - j)) (by omega) ?_
  refine ⟨i + 1, j, tn, tj, some (.bool true), r, l, rv ++ [.int (ws.getD i 0) tv], rn ++ [ws.getD i 0], lb ++ [true], kr + 1, kl + 1, hi', hj, rfl, ?_, ?_, hrl, intsAre_snoc hrv _ _, ?_, ?_, ?_, ?_⟩
  · refine mk_ext ["is_leaf", "pair", "leaf", "leaves", "row", "pairs", "weights"] ⟨rfl, rfl, rfl, rfl, rfl, rfl, rfl, trivial⟩ ?_
    rintro y ⟨h1, h2, h3, h4, h5, h6, h7, -⟩
    simp only [mk, h1, h2, h3, h4, h5, h6, h7, if_false]
  · simp
  · rw [hm1]; simp
  · rw [hm2]; simp
  · simp; omega
  · simp; omega
theorem step_pair (hi : i ≤ ws.length) (hj : j ≤ ps.length) (hrl : @LT.lt Nat _ r l) (hrv : IntsAre rv rn)
    (hm1 : (mergeF ws ps).1 = rn ++ (mergeF (ws.drop i) (ps.drop j)).1) (hm2 : (mergeF ws ps).2 = lb ++ (mergeF (ws.drop i) (ps.drop j)).2)
    (hn1 : rn.length = i + j) (hn2 : lb.length = i + j)
    (F : Fr h₀ L h' (fun y => if y = "pair" then some (.int ((j : Int) + 1) tn) else if y = "is_leaf" then some (.bool b) else mMap wa pa r l i j ti tj iv y))
    (N : News h₀ L h' [(l, listOf ((lb.map Value.bool).toArray.push (.bool b)) (kl + 1)), (r, listOf (rv.toArray.push (.int (ps.getD (j : Int).toNat 0) tv)) (kr + 1))])
    (hj' : j < ps.length) (hb : b = false) (hc : ws.length ≤ i ∨ (i < ws.length ∧ ¬ ws.getD i 0 ≤ ps.getD j 0)) :
    WhileStep h₀ L s (mInv wa pa ws ps) ((ws.length - i) + (ps.length - j)) .next { s with heap := h', toks := tk } := by
  subst hb
  rw [mergeF_pair hj' hc] at hm1 hm2
  refine WhileStep.intro F N (n' := (ws.length - i) + (ps.length - (j + 1))) (by omega) ?_
  refine ⟨i, j + 1, ti, tn, some (.bool false), r, l, rv ++ [.int (ps.getD j 0) tv], rn ++ [ps.getD j 0], lb ++ [false], kr + 1, kl + 1, hi, hj', rfl, ?_, ?_, hrl, intsAre_snoc hrv _ _, ?_, ?_, ?_, ?_⟩
  · refine mk_ext ["is_leaf", "pair", "leaf", "leaves", "row", "pairs", "weights"] ⟨rfl, rfl, rfl, rfl, rfl, rfl, rfl, trivial⟩ ?_
    rintro y ⟨h1, h2, h3, h4, h5, h6, h7, -⟩
    simp only [mk, h1, h2, h3, h4, h5, h6, h7, if_false]
  · simp
  · rw [hm1]; simp
  · rw [hm2]; simp
  · simp; omega
  · simp; omega
end

local macro_rules | `(tactic| walk_at "exec While BoolOp") => `(tactic| refine stop ?_)
set_option maxHeartbeats 4000000 in
theorem merged_spec {w : World} {mean : ExcName → Option Value} {mg mb : Str → Option Value} {s : Shared} {Q E : Value → Shared → Prop}
    (X : (hd.heap_39 w.params).In s.heap) (T : Top hd.view_39 (looseW hd.view_39 ["PressError"]) mean mg mb s.heap)
    {wa pa : Addr} {wv pv : List Value} {ws ps : List Int} (hw : s.heap.IsList wa wv.toArray) (hwi : IntsAre wv ws) (hp : s.heap.IsList pa pv.toArray) (hpi : IntsAre pv ps)
    (hl1 : ws.length ≤ 1000) (hl2 : ps.length ≤ 1000)
    (h : ∀ h' tk t r l rv kr kl, s.heap.StaysIn h' → s.heap.get? t = none → s.heap.get? r = none → s.heap.get? l = none → t ≠ r → t ≠ l → r ≠ l →
      h'.get? t = some { cls := .type "tuple", data := .seq #[.ref r, .ref l] } → h'.get? r = some (listOf rv.toArray kr) → h'.get? l = some (listOf ((mergeF ws ps).2.map Value.bool).toArray kl) →
      IntsAre rv (mergeF ws ps).1 → Q (.ref t) { s with heap := h', toks := tk }) :
    wpAny (model PySem.Challenge.pw_sf0060_01 w) (A0 500 5000) (call (.ref 82) [.ref wa, .ref pa]) Q E s := by
  refine enter [("weights", .ref wa), ("pairs", .ref pa)] [("pairs", some (.ref pa)), ("weights", some (.ref wa))] X T.nolimit (by k_is) (by k_is) (by decide) (BindsTo.of_eq rfl) rfl (locs rfl) (fun L h₁ tk F N => ?_) rfl rfl rfl
  k_steps
  apply Stop.of
  rename Fr _ _ _ _ => F'
  rename News _ _ _ _ => N'
  rename_i l1 h1 l2 h2 h3 h4 h5 h6 h7
  refine While_inv (mInv wa pa ws ps) (n₀ := ws.length + ps.length) (news := [(_, listOf (([] : List Bool).map Value.bool).toArray 0), (_, listOf ([] : List Value).toArray 0)]) F' (fun p hp => N' p (List.mem_cons_of_mem _ hp)) ?_ ?_ ?_
  · refine ⟨0, 0, _, _, none, _, _, [], [], [], 0, 0, Nat.zero_le _, Nat.zero_le _, rfl, mk_ext ["is_leaf", "pair", "leaf", "leaves", "row", "pairs", "weights"] ⟨rfl, rfl, rfl, rfl, rfl, rfl, rfl, trivial⟩ ?_, rfl, ?_, .nil, rfl, rfl, rfl, rfl⟩
    · rintro y ⟨h1, h2, h3, h4, h5, h6, h7, -⟩
      simp only [mk, h1, h2, h3, h4, h5, h6, h7, if_false]
    · omega
  · rintro n m₁ news₁ h₁ tk₁ F₁ N₁ ⟨i, j, ti, tj, iv, r, l, rv, rn, lb, kr, kl, hi, hj, rfl, rfl, rfl, hrl, hrv, hm1, hm2, hn1, hn2⟩
    clear F' N'
    have hsz : rv.length = i + j := by rw [hrv.length, hn1]
    k_steps
    all_goals first
      | (exfalso; omega)
      | (refine step_leaf hi hj hrl hrv hm1 hm2 hn1 hn2 (by assumption) (by assumption) (by omega) ?_ ?_ <;> first
          | exact beq_iff_eq.mpr (by omega)
          | exact decide_eq_true (by assumption)
          | (left; omega)
          | exact .inr ⟨by omega, by assumption⟩)
      | (refine step_pair hi hj hrl hrv hm1 hm2 hn1 hn2 (by assumption) (by assumption) (by omega) ?_ ?_ <;> first
          | exact decide_eq_false (by first | assumption | omega)
          | (left; omega)
          | exact .inr ⟨by omega, by assumption⟩)
      | skip
    rename News _ _ _ _ => N2
    rename Fr _ _ _ _ => F2
    rename_i lD
    have ei : i = ws.length := by omega
    have ej : j = ps.length := by omega
    have em : mergeF (ws.drop i) (ps.drop j) = ([], []) := by rw [ei, ej, List.drop_length, List.drop_length, mergeF]; rfl
    rw [em] at hm1 hm2
    dsimp only at hm1 hm2
    rw [List.append_nil] at hm1 hm2
    refine h _ _ _ r l rv kr kl F2.keep (N2 _ (.head _)).2.2 (N2 _ (.tail _ (.tail _ (.head _)))).2.2 (N2 _ (.tail _ (.head _))).2.2 (neN (by omega)) (neN (by omega)) (neN (by omega)) (N2 _ (.head _)).1 (N2 _ (.tail _ (.tail _ (.head _)))).1 ?_ ?_
    · rw [hm2]; exact (N2 _ (.tail _ (.head _))).1
    · rw [hm1]; exact hrv
  · exact PassesOwn.never

end
theorem off_F3a : True := by
  w_top off
  trivial
section
/-- the sums of neighbours -/
def pairsF : List Int → List Int
  | a :: b :: r => (a + b) :: pairsF r
  | _ => []
/-- the rows: what row the loop holds after n laps, and the leaves' marks of the laps -/
def rowF (ws : List Int) : Nat → List Int
  | 0 => []
  | n + 1 => (mergeF ws (pairsF (rowF ws n))).1
def marksF (ws : List Int) (n : Nat) : List Bool := (mergeF ws (pairsF (rowF ws n))).2

/-- a list of refs to lists of bools -/
inductive Leaves (news : List (Addr × Obj)) : List Value → List (List Bool) → Prop
  | nil : Leaves news [] []
  | cons {a : Addr} {bs : List Bool} {n : Nat} {vs : List Value} {bss : List (List Bool)} : (a, listOf (bs.map Value.bool).toArray n) ∈ news → Leaves news vs bss → Leaves news (.ref a :: vs) (bs :: bss)
theorem Leaves.mono {news news' : List (Addr × Obj)} {vs : List Value} {bss : List (List Bool)} (h : Leaves news vs bss) (hs : ∀ p ∈ news, p ∈ news') : Leaves news' vs bss := by
  induction h with
  | nil => exact .nil
  | cons hm _ ih => exact .cons (hs _ hm) ih
theorem Leaves.snoc {news : List (Addr × Obj)} {vs : List Value} {bss : List (List Bool)} (h : Leaves news vs bss) {a : Addr} {bs : List Bool} {n : Nat} (hm : (a, listOf (bs.map Value.bool).toArray n) ∈ news) : Leaves news (vs ++ [.ref a]) (bss ++ [bs]) := by
  induction h with
  | nil => exact .cons hm .nil
  | cons hm' _ ih => exact .cons hm' ih

theorem pairsF_length : ∀ l : List Int, (pairsF l).length = l.length / 2
  | [] => by simp [pairsF]
  | [_] => by simp [pairsF]
  | a :: b :: r => by
    rw [pairsF, List.length_cons, pairsF_length r, List.length_cons, List.length_cons]; omega
theorem pairsF_getD : ∀ (l : List Int) (j : Nat), j < l.length / 2 → (pairsF l).getD j 0 = l.getD (2 * j) 0 + l.getD (2 * j + 1) 0
  | [], j, h => by simp at h
  | [_], j, h => by simp at h
  | a :: b :: r, 0, _ => by simp [pairsF]
  | a :: b :: r, j + 1, h => by
    have ih := pairsF_getD r j (by simp only [List.length_cons] at h; omega)
    have e1 : 2 * (j + 1) = (2 * j) + 1 + 1 := by omega
    have e2 : 2 * (j + 1) + 1 = (2 * j + 1) + 1 + 1 := by omega
    rw [e1, pairsF, List.getD_cons_succ, List.getD_cons_succ, List.getD_cons_succ, List.getD_cons_succ, List.getD_cons_succ]
    exact ih
theorem ints_of_get : ∀ {vs : List Value} {ns : List Int}, vs.length = ns.length → (∀ j v, vs[j]? = some v → ∃ t, v = Value.int (ns.getD j 0) t) → IntsAre vs ns
  | [], [], _, _ => .nil
  | [], _ :: _, h, _ => by simp at h
  | _ :: _, [], h, _ => by simp at h
  | v :: vs, n :: ns, h, hg => by
    obtain ⟨t, rfl⟩ := hg 0 v rfl
    refine .cons _ _ (ints_of_get (by simpa using h) fun j u hu => ?_)
    obtain ⟨t', e⟩ := hg (j + 1) u (by simpa using hu)
    exact ⟨t', by simpa using e⟩
theorem range2 (n : Nat) (h : n ≤ 100000) : Builtin.Range.rangeSize 0 ((n : Int) - 1) 2 = ((n / 2 : Nat) : Int) ∧ Builtin.Range.small 0 ((n : Int) - 1) 2 = true := by
  have e : Builtin.Range.rangeSize 0 ((n : Int) - 1) 2 = ((n / 2 : Nat) : Int) := by
    unfold Builtin.Range.rangeSize
    simp only [show (2 : Int) > 0 by decide, if_true]
    split <;> omega
  refine ⟨e, ?_⟩
  unfold Builtin.Range.small
  rw [e]
  simp only [Builtin.Range.rangeFitsLong, Bool.and_eq_true, Bool.or_eq_true, decide_eq_true_eq, beq_iff_eq, show (2 : Int) > 0 by decide, if_true]
  omega
theorem mergeF_length : ∀ ws ps : List Int, (mergeF ws ps).1.length = ws.length + ps.length ∧ (mergeF ws ps).2.length = ws.length + ps.length
  | [], ps => by simp [mergeF]
  | w :: ws, [] => by rw [mergeF_nil]; simp
  | w :: ws, p :: ps => by
    rw [mergeF]
    have h1 := mergeF_length ws (p :: ps)
    have h2 := mergeF_length (w :: ws) ps
    simp only [List.length_cons] at h1 h2 ⊢
    split <;> simp only [List.length_cons] <;> omega
theorem rowF_length (ws : List Int) : ∀ i, (rowF ws i).length ≤ 2 * ws.length
  | 0 => Nat.zero_le _
  | i + 1 => by
    have h := rowF_length ws i
    rw [rowF, (mergeF_length _ _).1, pairsF_length]
    omega
theorem my_len {prog : Program} {w : World} {A : Around} {E : Value → Shared → Prop} {s : Shared} {l : Addr} {vs : List Value} {Q : Value → Shared → Prop} (hl : s.heap.IsList l vs.toArray) (hfit : vs.length ≤ 1000000)
    (h : ∀ t tk, Q (.int (vs.length : Int) t) { s with toks := tk }) : wpAny (model prog w) A (call (.builtin "len") [.ref l]) Q E s := by
  have e : vs.toArray.size = vs.length := List.size_toArray ..
  exact len_list hl (by rw [e]; omega) (by rw [e]; exact h _ _)
abbrev p1Map (wa ra : Addr) (longest : Int) (tl : Tok) (lap pairs leaves : Option Value) : Str → Option Value :=
  mk [("lap", lap), ("pairs", pairs), ("leaves", leaves), ("rows", some (.ref ra)), ("longest", some (.int longest tl)), ("weights", some (.ref wa))]
def p1Inv (wa : Addr) (ws : List Int) (longest : Int) (tl : Tok) (c : Addr) (i : Nat) (m : Str → Option Value) (nx : List (Addr × Obj)) : Prop :=
  ∃ (ra rowA : Addr) (lap pairs leaves : Option Value) (refs rv : List Value) (k kr : Nat) (o : Obj) (tlx : List (Addr × Obj)),
    m = p1Map wa ra longest tl lap pairs leaves ∧ nx = (ra, listOf refs.toArray k) :: (rowA, listOf rv.toArray kr) :: (c, o) :: tlx ∧
    o.data = .cell (some (.ref rowA)) ∧ IntsAre rv (rowF ws i) ∧ Leaves tlx refs ((List.range i).map (marksF ws)) ∧ rv.length ≤ 2 * ws.length ∧ refs.length = i ∧
    c ≠ ra ∧ c ≠ rowA ∧ ra ≠ rowA ∧ (∀ p ∈ tlx, p.1 ≠ ra ∧ p.1 ≠ c ∧ p.1 ≠ rowA)


section
variable {h₀ h7 : Heap} {L wa c t2 r2 l2 D' ra rowA : Addr} {ws : List Int} {longest k : Int} {tl t : Tok} {lap pairs leaves : Option Value} {refs rv rv2 : List Value} {kk kr2 kl2 i tk : Nat} {o7 tobj dobj robj : Obj} {rest tlx own : List (Addr × Obj)} {s₁ : Shared}
theorem p1_end (F7 : Fr h₀ L h7 (fun y => if y = "leaves" then some (.ref l2) else if y = "pairs" then some (.ref D') else if y = "lap" then some (.int k t) else p1Map wa ra longest tl lap pairs leaves y))
    (N7 : News h₀ L h7 ((t2, tobj) :: (r2, listOf rv2.toArray kr2) :: (l2, listOf ((mergeF ws (pairsF (rowF ws i))).2.map Value.bool).toArray kl2) :: (D', dobj) :: (ra, listOf (refs.toArray.push (.ref l2)) (kk + 1)) :: (rowA, robj) :: (c, o7) :: rest))
    (hrest : tlx ++ own = rest) (d7 : o7.data = .cell (some (.ref r2))) (hi2 : IntsAre rv2 (mergeF ws (pairsF (rowF ws i))).1)
    (hof : OwnOff rest [ra, rowA, c]) (hoff : ∀ p ∈ own, ∀ q ∈ tlx, p.1 ≠ q.1)
    (or : D' ≠ r2 ∧ ra ≠ r2 ∧ rowA ≠ r2 ∧ c ≠ r2 ∧ ∀ x ∈ rest, x.1 ≠ r2) (ol : D' ≠ l2 ∧ ra ≠ l2 ∧ rowA ≠ l2 ∧ c ≠ l2 ∧ ∀ x ∈ rest, x.1 ≠ l2) (n3 : r2 ≠ l2)
    (hlv : Leaves tlx refs ((List.range i).map (marksF ws))) (hs2 : refs.length = i) (ho1 : c ≠ ra) :
    TbEnd h₀ L (p1Inv wa ws longest tl c (i + 1)) own s₁ { s₁ with heap := h7, toks := tk } := by
  simp only [List.push_toArray] at N7
  refine ⟨_, _, _, _, (ra, listOf (refs ++ [Value.ref l2]).toArray (kk + 1)) :: (r2, listOf rv2.toArray kr2) :: (c, o7) :: (l2, listOf ((marksF ws i).map Value.bool).toArray kl2) :: tlx, rfl, F7, N7, ?_, ?_, ?_, ?_⟩
  · intro p hp
    simp only [List.mem_cons] at hp ⊢
    rcases hp with rfl | rfl | rfl | rfl | hp
    · simp
    · simp
    · simp
    · simp [marksF]
    · simp [← hrest, hp]
  · intro p hp
    simp [← hrest, hp]
  · intro p hp q hq
    have hpr : p ∈ rest := by simp [← hrest, hp]
    simp only [List.mem_cons] at hq
    rcases hq with rfl | rfl | rfl | rfl | hq
    · exact hof p hpr _ (.head _)
    · exact or.2.2.2.2 p hpr
    · exact hof p hpr _ (.tail _ (.tail _ (.head _)))
    · exact ol.2.2.2.2 p hpr
    · exact hoff p hp q hq
  · refine ⟨ra, r2, some (.int k t), some (.ref D'), some (.ref l2), refs ++ [Value.ref l2], rv2, kk + 1, kr2, o7, (l2, listOf ((marksF ws i).map Value.bool).toArray kl2) :: tlx, mk_ext ["lap", "pairs", "leaves", "rows", "longest", "weights"] ⟨rfl, rfl, rfl, rfl, rfl, rfl, trivial⟩ ?_, rfl, d7, hi2, ?_, ?_, ?_, ho1, or.2.2.2.1, or.2.1, ?_⟩
    · rintro y ⟨h1, h2, h3, h4, h5, h6, -⟩
      simp only [mk, h1, h2, h3, h4, h5, h6, if_false]
    · rw [List.range_succ, List.map_append]
      exact Leaves.snoc (hlv.mono fun p hp => List.mem_cons_of_mem _ hp) (List.mem_cons_self ..)
    · rw [hi2.length]; exact rowF_length ws (i + 1)
    · simp [hs2]
    · intro p hp
      rcases List.mem_cons.mp hp with rfl | hp
      · exact ⟨Ne.symm ol.2.1, Ne.symm ol.2.2.2.1, Ne.symm n3⟩
      · have hpr : p ∈ rest := by simp [← hrest, hp]
        exact ⟨hof p hpr _ (.head _), hof p hpr _ (.tail _ (.tail _ (.head _))), or.2.2.2.2 p hpr⟩
end

/-- the marks that are taken among the first of a row -/
def takenF (marks : List Bool) (wanted : Nat) : Nat := (marks.take wanted).count true
/-- one more for the first k -/
def bump : Nat → List Int → List Int
  | 0, ds => ds
  | _ + 1, [] => []
  | k + 1, d :: ds => (d + 1) :: bump k ds
/-- the depths and what is wanted, after i rows from the last one -/
def backF (ws : List Int) (top : Nat) : Nat → List Int × Nat
  | 0 => (List.replicate ws.length 0, 2 * ws.length - 2)
  | i + 1 => (bump (takenF (marksF ws (top - 1 - i)) (backF ws top i).2) (backF ws top i).1, 2 * ((backF ws top i).2 - takenF (marksF ws (top - 1 - i)) (backF ws top i).2))
def depthsF (ws : List Int) (top : Nat) : List Int := (backF ws top top).1

theorem bump_length : ∀ (k : Nat) (ds : List Int), (bump k ds).length = ds.length
  | 0, _ => rfl
  | _ + 1, [] => rfl
  | k + 1, d :: ds => by rw [bump, List.length_cons, bump_length k ds, List.length_cons]
theorem bump_succ : ∀ (k : Nat) (ds : List Int), k < ds.length → bump (k + 1) ds = (bump k ds).set k ((bump k ds).getD k 0 + 1)
  | 0, [], h => by simp at h
  | 0, d :: ds, _ => by simp [bump]
  | k + 1, [], h => by simp at h
  | k + 1, d :: ds, h => by
    have ih := bump_succ k ds (by simpa using h)
    rw [bump, ih, bump]
    simp
theorem mergeF_count : ∀ ws ps : List Int, (mergeF ws ps).2.count true = ws.length
  | [], ps => by simp [mergeF, List.count_eq_zero]
  | w :: ws, [] => by rw [mergeF_nil]; simp [List.count, List.countP_map, Function.comp_def]
  | w :: ws, p :: ps => by
    have h1 := mergeF_count ws (p :: ps)
    have h2 := mergeF_count (w :: ws) ps
    rw [mergeF]
    split
    · simp [h1]
    · simpa using h2
theorem takenF_le (marks : List Bool) (w : Nat) : takenF marks w ≤ w ∧ takenF marks w ≤ marks.count true := by
  constructor
  · exact Nat.le_trans List.count_le_length (List.length_take_le _ _)
  · exact List.Sublist.count_le _ (List.take_sublist _ _)
theorem taken_le_ws (ws : List Int) (i w : Nat) : takenF (marksF ws i) w ≤ ws.length := by
  rw [← mergeF_count ws (pairsF (rowF ws i))]
  exact (takenF_le _ _).2
theorem backF_length (ws : List Int) (top : Nat) : ∀ i, (backF ws top i).1.length = ws.length
  | 0 => by simp [backF]
  | i + 1 => by rw [backF, bump_length]; exact backF_length ws top i
theorem backF_wanted (ws : List Int) (top : Nat) : ∀ i, (backF ws top i).2 ≤ 2 * ws.length * 2 ^ i
  | 0 => by simp [backF]
  | i + 1 => by
    have h := backF_wanted ws top i
    rw [backF, Nat.pow_succ, ← Nat.mul_assoc]
    show 2 * (_ - _) ≤ _
    omega
theorem Leaves.get {news : List (Addr × Obj)} {vs : List Value} {bss : List (List Bool)} (h : Leaves news vs bss) : ∀ {k : Nat} {v : Value}, vs[k]? = some v → ∃ a bs n, v = .ref a ∧ bss[k]? = some bs ∧ (a, listOf (bs.map Value.bool).toArray n) ∈ news := by
  induction h with
  | nil => intro k v e; simp at e
  | cons hm _ ih =>
    intro k v e
    cases k with
    | zero => cases e; exact ⟨_, _, _, rfl, rfl, hm⟩
    | succ k => exact ih (by simpa using e)

abbrev p2Map (wa ra da : Addr) (longest : Int) (tl : Tok) (lap pairs leaves taken isLeaf place : Option Value) (wanted : Int) (tw : Tok) : Str → Option Value :=
  mk [("taken", taken), ("is_leaf", isLeaf), ("place", place), ("wanted", some (.int wanted tw)), ("depths", some (.ref da)), ("leaves", leaves), ("lap", lap), ("pairs", pairs), ("rows", some (.ref ra)), ("longest", some (.int longest tl)), ("weights", some (.ref wa))]
def p2Inv (wa ra da : Addr) (ws : List Int) (longest : Int) (tl : Tok) (top : Nat) (lap pairs : Option Value) (tlx : List (Addr × Obj)) (i : Nat) (m : Str → Option Value) (nx : List (Addr × Obj)) : Prop :=
  ∃ (leaves taken isLeaf place : Option Value) (dv : List Value) (kd tw : Nat),
    m = p2Map wa ra da longest tl lap pairs leaves taken isLeaf place ((backF ws top i).2 : Int) tw ∧ nx = (da, listOf dv.toArray kd) :: tlx ∧ IntsAre dv (backF ws top i).1

theorem my_upto {vs : List Value} {y : Int} (h : 0 ≤ y) : (slicePick vs.toArray none (some y) none).toList = vs.take y.toNat := by
  have e : sliceBounds none (some y) none vs.toArray.size = (((0 : Nat) : Int), ((min y.toNat vs.toArray.size : Nat) : Int), 1) := by
    simp only [sliceBounds, Option.getD_none, show (1 : Int) > 0 by decide, if_true, if_neg (show ¬ (y < 0) by omega)]
    congr 1
    congr 1
    omega
  rw [kmk_pick_nat _ e]
  show (vs.drop 0).take (min y.toNat vs.toArray.size - 0) = _
  rw [List.drop_zero, Nat.sub_zero, List.size_toArray, kmk_take_min]
theorem marksF_length (ws : List Int) (i : Nat) : (marksF ws i).length ≤ 2 * ws.length := by
  rw [marksF, (mergeF_length _ _).2, pairsF_length]
  have := rowF_length ws i
  omega

theorem take_map_get {bs : List Bool} {n i : Nat} {v : Value} (h : (List.take n (bs.map Value.bool))[i]? = some v) : ∃ b, (bs.take n)[i]? = some b ∧ v = .bool b := by
  rw [← List.map_take, List.getElem?_map] at h
  cases e : (bs.take n)[i]? with
  | none => rw [e] at h; cases h
  | some b => rw [e] at h; exact ⟨b, rfl, (Option.some.inj h).symm⟩
theorem count_take_succ {bs : List Bool} {i : Nat} {b : Bool} (h : bs[i]? = some b) : (bs.take (i + 1)).count true = (bs.take i).count true + (if b then 1 else 0) := by
  rw [List.take_add_one, h, List.count_append]
  cases b <;> rfl
def iaInv (wa ra da a : Addr) (longest : Int) (tl : Tok) (lap pairs place : Option Value) (wanted : Int) (tw : Tok) (bs : List Bool) (led : List (Addr × Obj)) (i : Nat) (m : Str → Option Value) (nx : List (Addr × Obj)) : Prop :=
  ∃ (isLeaf : Option Value) (tt : Tok), m = p2Map wa ra da longest tl lap pairs (some (.ref a)) (some (.int (((bs.take i).count true : Nat) : Int) tt)) isLeaf place wanted tw ∧ nx = led
def ibInv (wa ra da a : Addr) (longest : Int) (tl : Tok) (lap pairs taken isLeaf : Option Value) (wanted : Int) (tw : Tok) (ds : List Int) (rest : List (Addr × Obj)) (i : Nat) (m : Str → Option Value) (nx : List (Addr × Obj)) : Prop :=
  ∃ (place : Option Value) (dv : List Value) (kd : Nat), m = p2Map wa ra da longest tl lap pairs (some (.ref a)) taken isLeaf place wanted tw ∧ nx = (da, listOf dv.toArray kd) :: rest ∧ IntsAre dv (bump i ds)

section
variable {h₀ h : Heap} {L wa ra da a : Addr} {longest wanted : Int} {tl tw tt t9 : Tok} {lap pairs place isl : Option Value} {bs : List Bool} {led own : List (Addr × Obj)} {i tk : Nat} {b : Bool} {fp : List Addr} {s₁ : Shared}
theorem ia_end (hb : bs[i]? = some b)
    (F : Fr h₀ L h (fun y => if y = "taken" then some (.int ((((bs.take i).count true : Nat) : Int) + if b = true then 1 else 0) t9) else if y = "is_leaf" then some (.bool b) else p2Map wa ra da longest tl lap pairs (some (.ref a)) (some (.int (((bs.take i).count true : Nat) : Int) tt)) isl place wanted tw y))
    (N : News h₀ L h (led ++ own)) (hoff : ∀ p ∈ led, p.1 ∉ fp) :
    LEnd h₀ L fp (iaInv wa ra da a longest tl lap pairs place wanted tw bs led (i + 1)) own s₁ { s₁ with heap := h, toks := tk } := by
  refine ⟨_, _, _, _, led, rfl, F, N, fun p hp => List.mem_append_left _ hp, fun p hp => List.mem_append_right _ hp, hoff, some (.bool b), t9, ?_, rfl⟩
  refine mk_ext ["taken", "is_leaf", "place", "wanted", "depths", "leaves", "lap", "pairs", "rows", "longest", "weights"] ⟨congrArg (fun z => some (Value.int z _)) ?_, rfl, rfl, rfl, rfl, rfl, rfl, rfl, rfl, rfl, rfl, trivial⟩ ?_
  · rw [count_take_succ hb]; cases b <;> simp
  · rintro y ⟨h1, h2, h3, h4, h5, h6, h7, h8, h9, h10, h11, -⟩
    simp only [mk, h1, h2, h3, h4, h5, h6, h7, h8, h9, h10, h11, if_false]
end
theorem taken_all {mbs : List Bool} {wn k : Nat} (h : (mbs.take wn).length ≤ k) : ((mbs.take wn).take k).count true = takenF mbs wn := by
  rw [List.take_of_length_le h]; rfl

section
variable {h₀ h : Heap} {L wa ra da a : Addr} {longest wanted : Int} {tl tw t9 tv : Tok} {lap pairs taken isl pl : Option Value} {ds ds' : List Int} {rest rest2 own : List (Addr × Obj)} {dv : List Value} {v : Value} {j kd tk : Nat} {s₁ : Shared}
theorem ib_end (hj : j < ds.length)
    (F : Fr h₀ L h (fun y => if y = "place" then some (.int (j : Int) t9) else p2Map wa ra da longest tl lap pairs (some (.ref a)) taken isl pl wanted tw y))
    (N : News h₀ L h ((da, listOf (dv.set (j : Int).toNat v).toArray kd) :: rest2)) (hr : rest ++ own = rest2) (hof : OwnOff rest2 [da]) (hoff : ∀ p ∈ own, ∀ q ∈ rest, p.1 ≠ q.1)
    (hi : IntsAre (dv.set (j : Int).toNat v) ((bump j ds).set (j : Int).toNat ((bump j ds).getD (j : Int).toNat 0 + 1))) :
    TbEnd h₀ L (ibInv wa ra da a longest tl lap pairs taken isl wanted tw ds rest (j + 1)) own s₁ { s₁ with heap := h, toks := tk } := by
  refine ⟨_, _, _, _, (da, listOf (dv.set (j : Int).toNat v).toArray kd) :: rest, rfl, F, N, ?_, ?_, ?_, some (.int (j : Int) t9), _, kd, ?_, rfl, ?_⟩
  · intro p hp
    rcases List.mem_cons.mp hp with rfl | hp
    · exact .head _
    · simp [← hr, hp]
  · intro p hp; simp [← hr, hp]
  · intro p hp q hq
    rcases List.mem_cons.mp hq with rfl | hq
    · exact hof p (by simp [← hr, hp]) _ (.head _)
    · exact hoff p hp q hq
  · refine mk_ext ["taken", "is_leaf", "place", "wanted", "depths", "leaves", "lap", "pairs", "rows", "longest", "weights"] ⟨rfl, rfl, rfl, rfl, rfl, rfl, rfl, rfl, rfl, rfl, rfl, trivial⟩ ?_
    rintro y ⟨h1, h2, h3, h4, h5, h6, h7, h8, h9, h10, h11, -⟩
    simp only [mk, h1, h2, h3, h4, h5, h6, h7, h8, h9, h10, h11, if_false]
  · rw [bump_succ _ _ hj]; exact hi
theorem p2_end {ws : List Int} {top i : Nat} {tlx : List (Addr × Obj)} {fp : List Addr}
    (F : Fr h₀ L h (fun y => if y = "wanted" then some (.int (2 * (((backF ws top i).2 : Int) - (takenF (marksF ws (top - 1 - i)) (backF ws top i).2 : Nat))) t9) else p2Map wa ra da longest tl lap pairs (some (.ref a)) taken isl pl wanted tw y))
    (N : News h₀ L h ((da, listOf dv.toArray kd) :: rest)) (hr : tlx ++ own = rest) (hoff : ∀ p ∈ tlx, p.1 ∉ fp) (hda : da ∉ fp)
    (hi : IntsAre dv (bump (takenF (marksF ws (top - 1 - i)) (backF ws top i).2) (backF ws top i).1)) :
    LEnd h₀ L fp (p2Inv wa ra da ws longest tl top lap pairs tlx (i + 1)) own s₁ { s₁ with heap := h, toks := tk } := by
  refine ⟨_, _, _, _, (da, listOf dv.toArray kd) :: tlx, rfl, F, N, ?_, ?_, ?_, some (.ref a), taken, isl, pl, dv, kd, t9, ?_, rfl, hi⟩
  · intro p hp
    rcases List.mem_cons.mp hp with rfl | hp
    · exact .head _
    · simp [← hr, hp]
  · intro p hp; simp [← hr, hp]
  · intro p hp
    rcases List.mem_cons.mp hp with rfl | hp
    · exact hda
    · exact hoff p hp
  · refine mk_ext ["taken", "is_leaf", "place", "wanted", "depths", "leaves", "lap", "pairs", "rows", "longest", "weights"] ⟨rfl, rfl, rfl, congrArg (fun z => some (Value.int z _)) ?_, rfl, rfl, rfl, rfl, rfl, rfl, rfl, trivial⟩ ?_
    · have h1 := (takenF_le (marksF ws (top - 1 - i)) (backF ws top i).2).1
      show 2 * _ = (((2 * ((backF ws top i).2 - takenF (marksF ws (top - 1 - i)) (backF ws top i).2) : Nat)) : Int)
      omega
    · rintro y ⟨h1, h2, h3, h4, h5, h6, h7, h8, h9, h10, h11, -⟩
      simp only [mk, h1, h2, h3, h4, h5, h6, h7, h8, h9, h10, h11, if_false]
end

end
theorem off_F3 : True := by
  w_top off
  trivial
section
theorem fill_now3 : tagg PySem.Challenge.rw_sf0060_01 hd.heap_39 := by
  k_fill
  trivial
local macro_rules | `(tactic| walk_at "call builtin:len") => `(tactic| ((with_reducible show wpAny _ _ (call (Value.builtin "len") [Value.ref _]) _ _ _); refine my_len (News.isList (by k_asm) (by k_mem)) (by omega) ?_; intro _ _))
local macro_rules | `(tactic| k_ne) => `(tactic| ((try dsimp only); first | assumption | (refine Ne.symm ?_; assumption)))
local macro_rules | `(tactic| walk_at "exec For Name Call cons nil") => `(tactic| refine stop ?_)
local macro_rules | `(tactic| walk_at "pyIter ref") => `(tactic| refine stop ?_)
local macro_rules | `(tactic| walk_at "exec Assign cons ListComp") => `(tactic| refine stop ?_)
local macro_rules | `(tactic| walk_at "TbPost") => `(tactic| refine stop ?_)
local macro_rules | `(tactic| walk_at "call ref") => `(tactic| refine stop ?_)
local macro_rules | `(tactic| walk_at "PureEnd") => `(tactic| refine stop ?_)
local macro_rules | `(tactic| walk_at "FinA") => `(tactic| refine stop ?_)
local macro_rules | `(tactic| walk_at "subscriptTail Name Slice ref ref") => `(tactic| (k_here; (with_reducible show wpAny _ _ (subscriptTail _ (PySem.Expr.Slice _ _ none _) (Value.ref _) (Value.ref _)) _ _ _); k_dflt (refine' kmk_slice_lit ?F ?N ?l ?p ?q ?e ?_ ?s ?t ?z; (case F => k_asm); (case N => k_asm); (case l => kmk_list); (case p => kmk_part); (case q => kmk_part); (case e => exact my_upto (by omega)); (case s => with_unfolding_all rfl); (case t => kmk_pure); (case z => (rw [List.size_toArray, List.length_map, sizeLine_eq]; omega))); intro D' h' F' N' l1; (try k_lt l1); (try k_sweep)))
local macro_rules | `(tactic| walk_at "exec For Name Subscript cons nil") => `(tactic| refine stop ?_)
set_option maxHeartbeats 4000000 in
theorem package_spec {w : World} {mean : ExcName → Option Value} {mg mb : Str → Option Value} {s : Shared} {Q E : Value → Shared → Prop}
    (X : (hd.heap_39 w.params).In s.heap) (T : Top hd.view_39 (looseW hd.view_39 ["PressError"]) mean mg mb s.heap)
    {wa : Addr} {wv : List Value} {ws : List Int} (hw : s.heap.IsList wa wv.toArray) (hwi : IntsAre wv ws)
    (hl0 : 1 ≤ ws.length) (hl1 : ws.length ≤ 100) {longest : Int} {tl : Tok} (h1 : 1 ≤ longest) (h2 : longest ≤ 20)
    (hret : ∀ h' tk d dv kd, s.heap.StaysIn h' → s.heap.get? d = none → h'.get? d = some (listOf dv.toArray kd) → IntsAre dv (depthsF ws longest.toNat) → Q (.ref d) { s with heap := h', toks := tk }) :
    wpAny (model PySem.Challenge.pw_sf0060_01 w) (A0 450 4500) (call (.ref 87) [.ref wa, .int longest tl]) Q E s := by
  refine enterC [("weights", .ref wa), ("longest", .int longest tl)] [("longest", some (.int longest tl)), ("weights", some (.ref wa))] X T.nolimit (by k_is) (by k_is) (by decide) (BindsTo.of_eq rfl) rfl (by decide +kernel) (fun _ => rfl) (fun L h₁ tk cells F N Y => ?_) rfl rfl rfl
  k_cells Y
  k_steps
  refine Stop.of ?_
  rename Fr _ _ _ _ => F1
  refine For_invVF F1 rfl rfl ?_ ?_ ?_
  · k_steps
    refine Stop.of ?_
    rename Fr _ _ _ _ => F2
    rename News _ _ _ _ => N2
    rename IsRange _ _ _ _ _ _ _ _ => R2
    rename_i ra1 hh1 q1 row1 hh2 q2 tp1 hh3 q3 hh4 hh5 hh6 o1 F1' N1' d1 hh7 tk7 t7 u7 v7 stay7
    refine tbr_invG (p1Inv wa ws longest tl (L + 1)) (n := longest.toNat) rfl R2 (small_one (by omega) (by omega) (by omega) (by omega)) (by rw [rangeSize_nat]; omega) F2 (news := [(ra1, listOf ([] : List Value).toArray 0), (row1, listOf ([] : List Value).toArray 0), (L + 1, o1)]) (News.sub N2 ?_) ?_ ?_ ?_
    · simp only [List.mem_cons]; grind
    · refine ⟨ra1, row1, none, none, none, [], [], 0, 0, o1, [], mk_ext ["lap", "pairs", "leaves", "rows", "longest", "weights"] ⟨rfl, rfl, rfl, rfl, rfl, rfl, trivial⟩ ?_, rfl, d1, .nil, .nil, Nat.zero_le _, rfl, neN (by omega), neN (by omega), neN (by omega), fun _ hp => nomatch hp⟩
      rintro y ⟨h1, h2, h3, h4, h5, h6, -⟩
      simp only [mk, h1, h2, h3, h4, h5, h6, if_false]
    · rintro i k t m₁ nx h tk own hk hoff ⟨ra, rowA, lap, pairs, leaves, refs, rv, kk, kr, o, tlx, rfl, rfl, ho, hrv, hlv, hs1, hs2, ho1, ho2, ho3, ho4⟩ F3 N3
      clear F2 N2 R2
      have hi : i < longest.toNat := by
        have h9 := (List.getElem?_eq_some_iff.mp hk).1
        rwa [rangeKs_length] at h9
      replace F3 : Fr s.heap L _ _ := F3
      replace N3 : News s.heap L _ _ := N3
      have hof : OwnOff (tlx ++ own) [ra, rowA, L + 1] := by
        intro p hp b hb
        rcases List.mem_append.mp hp with hp | hp
        · have := ho4 p hp
          simp only [List.mem_cons, List.not_mem_nil, or_false] at hb
          rcases hb with rfl | rfl | rfl
          · exact this.1
          · exact this.2.2
          · exact this.2.1
        · simp only [List.mem_cons, List.not_mem_nil, or_false] at hb
          rcases hb with rfl | rfl | rfl
          · exact hoff p hp _ (.head _)
          · exact hoff p hp _ (.tail _ (.head _))
          · exact hoff p hp _ (.tail _ (.tail _ (.head _)))
      simp only [List.cons_append] at N3
      generalize hrest : tlx ++ own = rest at N3 hof
      k_steps
      refine Stop.of ?_
      refine comp_assign (L := L) F3 rfl (by with_unfolding_all rfl) (by with_unfolding_all rfl) (by decide) rfl (by decide) rfl rfl rfl ?_
      k_steps
      refine Stop.of ?_
      rename Fr _ _ _ _ => F4
      rename News _ _ _ _ => N4
      rename IsRange _ _ _ _ _ _ _ _ => R4
      have hr2 := range2 rv.length (by omega)
      have hrl : (rowF ws i).length = rv.length := hrv.length.symm
      refine csrc_range (n := rv.length / 2) rfl F4 N4 R4 hr2.2 hr2.1 (by rw [sizeLine_eq]; omega) (fun g => ?_)
      refine rest_pure (fun j y => ∃ t, y = .int ((rowF ws i).getD (2 * j) 0 + (rowF ws i).getD (2 * j + 1) 0) t) trivial ?_ ?_
      · rintro j v I oI C oC D ys m₂ h5 tk5 E' hj ⟨t5, rfl⟩ hC hx F5 N5
        clear F4 N4 R4
        k_steps
        refine Stop.of ?_
        refine ⟨⟨_, rfl⟩, ?_⟩
        have e1 : (0 + (j : Int) * 2).toNat = 2 * j := by omega
        have e2 : (0 + (j : Int) * 2 + 1).toNat = 2 * j + 1 := by omega
        rw [e1, e2]
        exact ⟨_, rfl⟩
      · intro pv hpl hpg
        clear F4 N4 R4
        unfold LCg.FinA
        intro D' h' tk' F' N' o1'
        simp only [LCg.Off1] at o1'
        dsimp only
        have hpi : IntsAre pv (pairsF (rowF ws i)) := by
          refine ints_of_get (by rw [hpl, pairsF_length, hrl]) fun j y hy => ?_
          obtain ⟨t6, rfl⟩ := hpg j y hy
          have hj : j < rv.length / 2 := by rw [← hpl]; exact (List.getElem?_eq_some_iff.mp hy).1
          exact ⟨t6, by rw [pairsF_getD _ _ (by rw [hrl]; exact hj)]⟩
        k_steps
        refine Stop.of ?_
        refine at_A0 (merged_spec (X.keeps F'.keep) (T.keeps F'.keep) (stays_list F'.keep hw) hwi (News.isList N' (.head _)) hpi (by omega) (by rw [pairsF_length]; omega) ?_) rfl (Nat.le_of_ble_eq_true rfl) (Nat.le_of_ble_eq_true rfl)
        intro h6 tk6 t2 r2 l2 rv2 kr2 kl2 st ft fr fl n1 n2 n3 gt gr gl hi2
        have F6 := F'.keeps st
        have N6 := News.add F' (News.add F' (News.add F' (N'.grown st) fl gl) fr gr) ft gt
        have ot := off_fresh N' ft
        have or := off_fresh N' fr
        have ol := off_fresh N' fl
        simp only [List.forall_mem_cons] at ot or ol
        obtain ⟨ot1, ot2, ot3, ot4, ot5⟩ := ot
        obtain ⟨or1, or2, or3, or4, or5⟩ := or
        obtain ⟨ol1, ol2, ol3, ol4, ol5⟩ := ol
        obtain ⟨oD1, oD2, oD3, oD4⟩ := o1'
        clear F' N'
        dsimp only
        k_steps
        refine Stop.of ?_
        dsimp only [TbPost]
        exact p1_end (by assumption) (by assumption) hrest (by assumption) hi2 hof (fun p hp q hq => hoff p hp q (.tail _ (.tail _ (.tail _ hq)))) ⟨or1, or2, or3, or4, or5⟩ ⟨ol1, ol2, ol3, ol4, ol5⟩ n3 hlv hs2 ho1
    · rintro m₁ nx h tk ⟨ra, rowA, lap, pairs, leaves, refs, rv, kk, kr, o, tlx, rfl, rfl, ho, hrv, hlv, hs1, hs2, ho1, ho2, ho3, ho4⟩ F3 N3
      clear F2 N2 R2
      replace F3 : Fr s.heap L _ _ := F3
      replace N3 : News s.heap L _ _ := N3
      dsimp only
      k_steps
      refine Stop.of ?_
      rename Fr _ _ _ _ => F4
      rename News _ _ _ _ => N4
      refine For_invVF F4 rfl rfl ?_ ?_ ?_
      · k_steps
        refine Stop.of ?_
        rename Fr _ _ _ _ => F5
        rename News _ _ _ _ => N5
        rename_i l'0 h'0 q0 da hda i1 nn1 ss1 ee1 ee2 ee3 qda tp htp qtp ha hb hc rI hI qI
        have hda1 : ∀ p ∈ tlx, p.1 ≠ da := fun p hp => neN (Nat.ne_of_lt (allLt_mem qda.2.2.2.2 p hp))
        have hI1 : ∀ p ∈ tlx, p.1 ≠ rI := fun p hp => neN (Nat.ne_of_lt (allLt_mem qI.2.2.2.2.2.2 p hp))
        have hdr : da ≠ ra := neN (by omega)
        have hdI : da ≠ rI := neN (by omega)
        have ez : (List.replicate ((ws.length : Nat) : Int).toNat [(0 : Int)]).flatten = List.replicate ws.length 0 := by simp
        obtain ⟨dv0, hdv0, N5d⟩ : ∃ dv0 : List Value, IntsAre dv0 (List.replicate ws.length 0) ∧ News s.heap L hI ((rI, revObj ra ((refs.length : Int) - 1)) :: (ra, listOf refs.toArray kk) :: (da, listOf dv0.toArray 0) :: tlx) :=
          ⟨_, ez ▸ i1, News.sub N5 (fun p hp => by simp only [List.mem_cons] at hp ⊢; grind)⟩
        clear N5
        refine loop_rev (p2Inv wa ra da ws longest tl longest.toNat lap pairs tlx) rfl (List.Mem.head _) (l := ra) (lo := listOf refs.toArray kk) (by k_mem) (neN (by omega)) rfl ⟨_, rfl⟩ F5 N5d (news := (da, listOf dv0.toArray 0) :: tlx) ?_ ?_ ?_ ?_ ?_
        · intro p hp
          exact .tail _ (.tail _ hp)
        · intro p hp
          simp only [List.mem_cons, List.not_mem_nil, or_false, not_or]
          rcases List.mem_cons.mp hp with rfl | hp
          · exact ⟨hdI, hdr⟩
          · exact ⟨hI1 p hp, (ho4 p hp).1⟩
        · refine ⟨leaves, none, none, none, dv0, 0, _, mk_ext ["taken", "is_leaf", "place", "wanted", "depths", "leaves", "lap", "pairs", "rows", "longest", "weights"] ⟨rfl, rfl, rfl, congrArg (fun z => some (Value.int z _)) ?_, rfl, rfl, rfl, rfl, rfl, rfl, rfl, trivial⟩ ?_, rfl, hdv0⟩
          · show 2 * (ws.length : Int) - 2 = ((2 * ws.length - 2 : Nat) : Int)
            omega
          · rintro y ⟨h1, h2, h3, h4, h5, h6, h7, h8, h9, h10, h11, -⟩
            simp only [mk, h1, h2, h3, h4, h5, h6, h7, h8, h9, h10, h11, if_false]
        · rintro i v m₁ nx h tk own hi hv hown hnx ⟨leaves', taken, isLeaf, place, dv, kd, tw, rfl, rfl, hdv⟩ F6 N6
          clear F5 N5d
          obtain ⟨a, bs, na, rfl, hbs, hmem⟩ := hlv.get hv
          have hbs' : bs = marksF ws (longest.toNat - 1 - i) := by
            rw [hs2] at hbs hi
            rw [List.getElem?_map, List.getElem?_range (by omega)] at hbs
            exact (Option.some.inj hbs).symm
          subst hbs'
          have had : a ≠ da := hda1 _ hmem
          have hof : OwnOff (tlx ++ own) [da] := by
            intro p hp b hb
            rw [List.mem_singleton.mp hb]
            rcases List.mem_append.mp hp with hp | hp
            · exact hda1 p hp
            · have h9 := hown p hp
              simp only [List.mem_cons, List.not_mem_nil, or_false] at h9
              rcases h9 with h9 | h9
              · rw [h9]; exact Ne.symm hdI
              · rw [h9]; exact Ne.symm hdr
          have N7 : News s.heap L h ((da, listOf dv.toArray kd) :: (a, listOf ((marksF ws (longest.toNat - 1 - i)).map Value.bool).toArray na) :: (tlx ++ own)) := News.sub N6 (fun p hp => by
            rcases List.mem_cons.mp hp with rfl | hp
            · exact .head _
            · rcases List.mem_cons.mp hp with rfl | hp
              · exact .tail _ (List.mem_append_left _ hmem)
              · exact .tail _ hp)
          replace F6 : Fr s.heap L _ _ := F6
          clear N6
          generalize hrest : tlx ++ own = rest at N7 hof
          dsimp only
          have hml := marksF_length ws (longest.toNat - 1 - i)
          have hwb : (backF ws longest.toNat i).2 ≤ 1000000000000 := by
            have h8 := backF_wanted ws longest.toNat i
            have h9 : 2 ^ i ≤ 2 ^ 20 := Nat.pow_le_pow_right (by omega) (by omega)
            have h10 : 2 * ws.length * 2 ^ i ≤ 200 * 2 ^ 20 := Nat.mul_le_mul (by omega) h9
            omega
          k_steps
          refine Stop.of ?_
          rename Fr _ _ _ _ => F8
          refine For_invVF F8 rfl rfl ?_ ?_ ?_
          · k_steps
            refine Stop.of ?_
            rename Fr _ _ _ _ => F9
            rename News _ _ _ _ => N9
            rename_i hx1 sD hx2 l9
            have hDda : da ≠ sD := neN (by omega)
            have hDr : ∀ p ∈ rest, p.1 ≠ sD := fun p hp => neN (Nat.ne_of_lt (allLt_mem l9.2.2 p hp))
            generalize hbs2 : marksF ws (longest.toNat - 1 - i) = mbs at *
            generalize hwn : (backF ws longest.toNat i).2 = wn at *
            refine loop_list (iaInv wa ra da a longest tl lap pairs place (wn : Int) tw (mbs.take wn) ((da, listOf dv.toArray kd) :: rest)) rfl (List.Mem.head _) rfl ⟨_, rfl⟩ F9 N9 (news := (da, listOf dv.toArray kd) :: rest) ?_ ?_ ?_ ?_ ?_
            · intro p hp
              rcases List.mem_cons.mp hp with rfl | hp
              · exact .tail _ (.head _)
              · simp [hp]
            · intro p hp
              rcases List.mem_cons.mp hp with rfl | hp
              · exact hDda
              · exact hDr p hp
            · refine ⟨isLeaf, _, mk_ext ["taken", "is_leaf", "place", "wanted", "depths", "leaves", "lap", "pairs", "rows", "longest", "weights"] ⟨rfl, rfl, rfl, rfl, rfl, rfl, rfl, rfl, rfl, rfl, rfl, trivial⟩ ?_, rfl⟩
              rintro y ⟨h1, h2, h3, h4, h5, h6, h7, h8, h9, h10, h11, -⟩
              simp only [mk, h1, h2, h3, h4, h5, h6, h7, h8, h9, h10, h11, if_false]
            · rintro I i5 v m₁ nx h10 tk10 own5 hv5 hown5 hnx5 ⟨isl, tt, rfl, rfl⟩ F10 N10
              clear F9 N9
              replace F10 : Fr s.heap L _ _ := F10
              replace N10 : News s.heap L _ _ := N10
              obtain ⟨b, hb5, rfl⟩ := take_map_get hv5
              dsimp only
              k_steps
              dsimp only [LPost]
              exact ia_end hb5 (by assumption) (by assumption) hnx5
            · rintro m₁ nx h10 tk10 ⟨isl, tt, rfl, rfl⟩ F10 N10
              clear F9 N9
              replace F10 : Fr s.heap L _ _ := F10
              replace N10 : News s.heap L _ _ := N10
              have htk : ((mbs.take wn).take (List.take ((wn : Int)).toNat (mbs.map Value.bool)).length).count true = takenF mbs wn := taken_all (by simp)
              rw [htk] at F10
              have htw : takenF mbs wn ≤ ws.length := by rw [← hbs2]; exact taken_le_ws _ _ _
              dsimp only
              k_steps
              refine Stop.of ?_
              rename Fr _ _ _ _ => F11
              refine For_invVF F11 rfl rfl ?_ ?_ ?_
              · k_steps
                refine Stop.of ?_
                rename Fr _ _ _ _ => F12
                rename News _ _ _ _ => N12
                rename IsRange _ _ _ _ _ _ _ _ => R12
                refine tbr_invG (ibInv wa ra da a longest tl lap pairs (some (.int (takenF mbs wn : Int) tt)) isl (wn : Int) tw (backF ws longest.toNat i).1 rest) (n := takenF mbs wn) rfl R12 (small_one (by omega) (by omega) (by omega) (by omega)) (by rw [rangeSize_nat]; omega) F12 N12 ?_ ?_ ?_
                · refine ⟨place, dv, kd, mk_ext ["taken", "is_leaf", "place", "wanted", "depths", "leaves", "lap", "pairs", "rows", "longest", "weights"] ⟨rfl, rfl, rfl, rfl, rfl, rfl, rfl, rfl, rfl, rfl, rfl, trivial⟩ ?_, rfl, hdv⟩
                  rintro y ⟨h1, h2, h3, h4, h5, h6, h7, h8, h9, h10, h11, -⟩
                  simp only [mk, h1, h2, h3, h4, h5, h6, h7, h8, h9, h10, h11, if_false]
                · rintro j k t m₁ nx h20 tk20 own20 hk20 hoff20 ⟨pl, dv2, kd2, rfl, rfl, hdv2⟩ F20 N20
                  clear F12 N12 R12
                  replace F20 : Fr s.heap L _ _ := F20
                  replace N20 : News s.heap L _ _ := N20
                  have hj : j < takenF mbs wn := by
                    have h9 := (List.getElem?_eq_some_iff.mp hk20).1
                    rwa [rangeKs_length] at h9
                  have hkj : k = (j : Int) := by
                    simp only [rangeKs, List.getElem?_map, List.getElem?_range hj, Option.map_some, Option.some.injEq] at hk20
                    omega
                  subst hkj
                  have hof2 : OwnOff (rest ++ own20) [da] := by
                    intro p hp b hb
                    rw [List.mem_singleton.mp hb]
                    rcases List.mem_append.mp hp with hp | hp
                    · exact hof p hp _ (.head _)
                    · exact hoff20 p hp _ (.head _)
                  simp only [List.cons_append] at N20
                  generalize hrest2 : rest ++ own20 = rest2 at N20 hof2
                  have hdl : dv2.length = ws.length := by rw [hdv2.length, bump_length, backF_length]
                  have hbl : (bump j (backF ws longest.toNat i).1).length = ws.length := by rw [bump_length, backF_length]
                  dsimp only
                  k_steps
                  refine Stop.of ?_
                  dsimp only [TbPost]
                  exact ib_end (by rw [backF_length]; omega) (by assumption) (by assumption) hrest2 hof2 (fun p hp q hq => hoff20 p hp q (.tail _ hq)) (by assumption)
                · rintro m₁ nx h20 tk20 ⟨pl, dv2, kd2, rfl, rfl, hdv2⟩ F20 N20
                  clear F12 N12 R12
                  replace F20 : Fr s.heap L _ _ := F20
                  replace N20 : News s.heap L _ _ := N20
                  dsimp only
                  k_steps
                  dsimp only [LPost]
                  subst hbs2 hwn
                  exact p2_end (by assumption) (by assumption) hrest (fun p hp => by simp only [List.mem_cons, List.not_mem_nil, or_false, not_or]; exact ⟨hI1 p hp, (ho4 p hp).1⟩) (by simp only [List.mem_cons, List.not_mem_nil, or_false, not_or]; exact ⟨hdI, hdr⟩) hdv2
              · exact fun _ => rfl
              · exact PassesOwn.never
          · exact fun _ => rfl
          · exact PassesOwn.never
        · rintro m₁ nx h10 tk10 ⟨leaves', taken, isLeaf, place, dv, kd, tw, rfl, rfl, hdv⟩ F6 N6
          clear F5 N5d
          replace F6 : Fr s.heap L _ _ := F6
          replace N6 : News s.heap L _ _ := N6
          rw [hs2] at hdv F6
          dsimp only
          k_steps
          exact hret _ _ da dv kd F6.keep (N6 _ (.head _)).2.2 (N6 _ (.head _)).1 hdv
      · exact fun _ => rfl
      · exact PassesOwn.never
  · exact fun _ => rfl
  · exact PassesOwn.never

end
theorem off_F1 : True := by
  w_top off
  trivial
section
theorem fill_now1 : tagg PySem.Challenge.rw_sf0060_01 hd.heap_39 := by
  k_fill
  trivial
set_option maxHeartbeats 4000000 in
theorem check_room_spec {w : World} {mean : ExcName → Option Value} {mg mb : Str → Option Value} {s : Shared} {Q E : Value → Shared → Prop}
    (X : (hd.heap_39 w.params).In s.heap) (T : Top hd.view_39 (looseW hd.view_39 ["PressError"]) mean mg mb s.heap)
    {many longest : Int} {t1 t2 : Tok} (h0 : 0 ≤ many) (h1 : 1 ≤ longest) (h2 : longest ≤ 100) (h3 : many ≤ 2 ^ longest.toNat)
    (h : ∀ h' tk, s.heap.StaysIn h' → Q .none { s with heap := h', toks := tk }) :
    wpAny (model PySem.Challenge.pw_sf0060_01 w) (A0 500 5000) (call (.ref 75) [.int many t1, .int longest t2]) Q E s := by
  refine enter [("many", .int many t1), ("longest", .int longest t2)] [("longest", some (.int longest t2)), ("many", some (.int many t1))] X T.nolimit (by k_is) (by k_is) (by decide) (BindsTo.of_eq rfl) rfl (locs rfl) (fun L h₁ tk F N => ?_) rfl rfl rfl
  have h4 : many ≤ 1 * 2 ^ (if longest > 0 then longest else 0).toNat := by rw [if_pos (by omega)]; omega
  k_steps
  all_goals exact h _ _ (Fr.keep (by assumption))

abbrev tbMap (ca la : Addr) (sy co : Option Value) (found : Int) (tf : Tok) : Str → Option Value :=
  mk [("symbol", sy), ("count", co), ("found", some (.int found tf)), ("lengths", some (.ref la)), ("counts", some (.ref ca))]
def bitsF (cs ls : List Int) : Int := ((cs.zip ls).map fun p => if p.1 > 0 then p.1 * p.2 else 0).sum
theorem bitsF_succ : ∀ (cs ls : List Int) (i : Nat), i < cs.length → i < ls.length →
    bitsF (cs.take (i + 1)) ls = bitsF (cs.take i) ls + (if cs.getD i 0 > 0 then cs.getD i 0 * ls.getD i 0 else 0)
  | [], _, _, h, _ => by simp at h
  | _ :: _, [], _, _, h => by simp at h
  | c :: cs, l :: ls, 0, _, _ => by simp [bitsF]
  | c :: cs, l :: ls, i + 1, h1, h2 => by
    have ih := bitsF_succ cs ls i (by simpa using h1) (by simpa using h2)
    simp only [bitsF] at ih
    simp only [bitsF, List.take_succ_cons, List.zip_cons_cons, List.map_cons, List.sum_cons, List.getD_cons_succ] at *
    omega
def tbInv (ca la : Addr) (cs ls : List Int) (i : Nat) (m : Str → Option Value) (nx : List (Addr × Obj)) : Prop :=
  ∃ sy co tf, m = tbMap ca la sy co (bitsF (cs.take i) ls) tf ∧ nx = []

section
variable {h₀ h : Heap} {L ca la : Addr} {cs ls : List Int} {i tk : Nat} {c : Int} {t tc tf tf' : Tok} {sy co : Option Value} {own : List (Addr × Obj)} {s₁ : Shared}
theorem tb_end_no (h1 : i < cs.length) (h2 : i < ls.length) (hc : cs.getD i 0 = c) (hn : ¬ 0 < c)
    (F : Fr h₀ L h (fun y => if y = "count" then some (.int c tc) else if y = "symbol" then some (.int (i : Int) t) else tbMap ca la sy co (bitsF (cs.take i) ls) tf y)) (N : News h₀ L h ([] ++ own)) :
    TbEnd h₀ L (tbInv ca la cs ls (i + 1)) own s₁ { s₁ with heap := h, toks := tk } := by
  refine ⟨_, _, _, _, [], rfl, F, N, fun _ hp => (nomatch hp), fun _ hp => hp, fun _ _ _ hp => (nomatch hp), some (.int (i : Int) t), some (.int c tc), tf, ?_, rfl⟩
  rw [bitsF_succ _ _ _ h1 h2, hc, if_neg hn, Int.add_zero]
  refine mk_ext ["symbol", "count", "found", "lengths", "counts"] ⟨rfl, rfl, rfl, rfl, rfl, trivial⟩ ?_
  rintro y ⟨h1, h2, h3, h4, h5, -⟩
  simp only [mk, h1, h2, h3, h4, h5, if_false]
theorem tb_end_yes (h1 : i < cs.length) (h2 : i < ls.length) (hc : cs.getD i 0 = c) (hn : 0 < c)
    (F : Fr h₀ L h (fun y => if y = "found" then some (.int (bitsF (cs.take i) ls + c * ls.getD (i : Int).toNat 0) tf') else if y = "count" then some (.int c tc) else if y = "symbol" then some (.int (i : Int) t) else tbMap ca la sy co (bitsF (cs.take i) ls) tf y)) (N : News h₀ L h ([] ++ own)) :
    TbEnd h₀ L (tbInv ca la cs ls (i + 1)) own s₁ { s₁ with heap := h, toks := tk } := by
  refine ⟨_, _, _, _, [], rfl, F, N, fun _ hp => (nomatch hp), fun _ hp => hp, fun _ _ _ hp => (nomatch hp), some (.int (i : Int) t), some (.int c tc), tf', ?_, rfl⟩
  rw [bitsF_succ _ _ _ h1 h2, hc, if_pos hn]
  refine mk_ext ["symbol", "count", "found", "lengths", "counts"] ⟨rfl, rfl, rfl, rfl, rfl, trivial⟩ ?_
  rintro y ⟨h1, h2, h3, h4, h5, -⟩
  simp only [mk, h1, h2, h3, h4, h5, if_false]
end

local macro_rules | `(tactic| walk_at "exec For Tuple Call cons nil") => `(tactic| refine stop ?_)
local macro_rules | `(tactic| walk_at "call type:enumerate") => `(tactic| refine stop ?_)
local macro_rules | `(tactic| walk_at "exec Raise some none") => `(tactic| refine stop ?_)
local macro_rules | `(tactic| walk_at "TbPost") => `(tactic| refine stop ?_)
set_option maxHeartbeats 4000000 in
theorem total_bits_spec {w : World} {mean : ExcName → Option Value} {mg mb : Str → Option Value} {s : Shared} {Q E : Value → Shared → Prop}
    (X : (hd.heap_39 w.params).In s.heap) (T : Top hd.view_39 (looseW hd.view_39 ["PressError"]) mean mg mb s.heap)
    {ca la : Addr} {cv lv : List Value} {cs ls : List Int} (hc : s.heap.IsList ca cv.toArray) (hci : IntsAre cv cs) (hl : s.heap.IsList la lv.toArray) (hli : IntsAre lv ls)
    (hlen : cs.length = ls.length) (hl1 : cs.length ≤ 1000) (hpos : ∀ (i : Nat), cs.getD i 0 > 0 → ls.getD i 0 ≠ 0) (hb1 : ∀ c ∈ cs, 0 ≤ c ∧ c ≤ 1000000) (hb2 : ∀ l ∈ ls, 0 ≤ l ∧ l ≤ 1000)
    (hret : ∀ h' tk t, s.heap.StaysIn h' → Q (.int (bitsF cs ls) t) { s with heap := h', toks := tk }) :
    wpAny (model PySem.Challenge.pw_sf0060_01 w) (A0 500 5000) (call (.ref 61) [.ref ca, .ref la]) Q E s := by
  refine enter [("counts", .ref ca), ("lengths", .ref la)] [("lengths", some (.ref la)), ("counts", some (.ref ca))] X T.nolimit (by k_is) (by k_is) (by decide) (BindsTo.of_eq rfl) rfl (locs rfl) (fun L h₁ tk F N => ?_) rfl rfl rfl
  k_steps
  refine Stop.of ?_
  rename Fr _ _ _ _ => F1
  refine For_turns F1 ?_ ?_ ?_
  · k_steps
    refine Stop.of ?_
    rename Fr _ _ _ _ => F2
    rename News _ _ _ _ => N2
    refine loop_enum rfl (tbInv ca la cs ls) rfl hc F2 N2 ?_ ?_ ?_
    · refine ⟨none, none, _, mk_ext ["symbol", "count", "found", "lengths", "counts"] ⟨rfl, rfl, rfl, rfl, rfl, trivial⟩ ?_, rfl⟩
      rintro y ⟨h1, h2, h3, h4, h5, -⟩
      simp only [mk, h1, h2, h3, h4, h5, if_false]
    · rintro i v t T m₁ nx h tk own hv hoff ⟨sy, co, tf, rfl, rfl⟩ hT F3 N3
      clear F2 N2
      replace F3 : Fr s.heap L _ _ := F3
      replace N3 : News s.heap L _ _ := N3
      obtain ⟨c, tc, rfl, hcg⟩ := hci.at i v hv
      dsimp only
      have hil : i < cs.length := by rw [← hci.length]; exact (List.getElem?_eq_some_iff.mp hv).1
      have hcd : cs.getD i 0 = c := by rw [List.getD_eq_getElem?_getD, hcg]; rfl
      have hlm : ls.getD i 0 ∈ ls := by rw [List.getD_eq_getElem?_getD, List.getElem?_eq_getElem (by omega)]; exact List.getElem_mem _
      have hbc := hb1 c (List.mem_of_getElem? hcg)
      have hbl : 0 ≤ ls.getD ((i : Nat) : Int).toNat 0 ∧ ls.getD ((i : Nat) : Int).toNat 0 ≤ 1000 := hb2 _ hlm
      by_cases hc0 : 0 < c
      · have hne : ls.getD ((i : Nat) : Int).toNat 0 ≠ 0 := hpos i (by omega)
        k_steps
        · exfalso; exact hne (by assumption)
        · refine Stop.of ?_
          dsimp only [TbPost]
          exact tb_end_yes hil (by omega) hcd hc0 (by assumption) (by assumption)
      · k_steps
        refine Stop.of ?_
        dsimp only [TbPost]
        exact tb_end_no hil (by omega) hcd hc0 (by assumption) (by assumption)
    · rintro m₁ nx h tk ⟨sy, co, tf, rfl, rfl⟩ F3 N3
      replace F3 : Fr s.heap L _ _ := F3
      dsimp only
      k_steps
      dsimp only
      have e : cs.take cv.length = cs := by rw [hci.length]; exact List.take_length
      rw [e]
      exact hret _ _ _ F3.keep
  · exact fun _ => rfl
  · exact PassesOwn.never

end
theorem off_F4 : True := by
  w_top off
  trivial
section
theorem fill_now4 : tagg PySem.Challenge.rw_sf0060_01 hd.heap_39 := by
  k_fill
  trivial
/-- refs to pairs of ints -/
inductive TupsAt (h : Heap) : List Value → List (Int × Int) → Prop
  | nil : TupsAt h [] []
  | cons {a : Addr} {c y : Int} {t u : Tok} {vs : List Value} {rs : List (Int × Int)} : h.IsTuple a #[.int c t, .int y u] → TupsAt h vs rs → TupsAt h (.ref a :: vs) ((c, y) :: rs)
theorem TupsAt.mono {h h' : Heap} {vs : List Value} {rs : List (Int × Int)} (x : TupsAt h vs rs) (st : h.StaysIn h') : TupsAt h' vs rs := by
  induction x with
  | nil => exact .nil
  | cons hm _ ih => exact .cons (hm.at fun o e => st _ o e) ih
theorem TupsAt.length {h : Heap} {vs : List Value} {rs : List (Int × Int)} (x : TupsAt h vs rs) : vs.length = rs.length := by
  induction x with
  | nil => rfl
  | cons _ _ ih => rw [List.length_cons, List.length_cons, ih]
theorem TupsAt.get {h : Heap} {vs : List Value} {rs : List (Int × Int)} (x : TupsAt h vs rs) : ∀ {k : Nat}, k < rs.length → ∃ a t u, vs[k]? = some (.ref a) ∧ h.IsTuple a #[.int (rs.getD k (0, 0)).1 t, .int (rs.getD k (0, 0)).2 u] := by
  induction x with
  | nil => intro k hk; simp at hk
  | cons hm _ ih =>
    intro k hk
    cases k with
    | zero => exact ⟨_, _, _, rfl, hm⟩
    | succ k =>
      obtain ⟨a, t, u, h1, h2⟩ := ih (k := k) (by simpa using hk)
      exact ⟨a, t, u, by simpa using h1, by simpa using h2⟩

/-- the depths at their symbols -/
def placedF (rs : List (Int × Int)) (ds : List Int) (found : List Int) : List Int := (rs.zip ds).foldl (fun f p => f.set p.1.2.toNat p.2) found
theorem placedF_length (rs : List (Int × Int)) (ds found : List Int) : (placedF rs ds found).length = found.length := by
  unfold placedF
  generalize rs.zip ds = l
  induction l generalizing found with
  | nil => rfl
  | cons p r ih => rw [List.foldl_cons, ih, List.length_set]
theorem placedF_succ (rs : List (Int × Int)) (ds found : List Int) (i : Nat) (h1 : i < rs.length) (h2 : i < ds.length) :
    placedF rs (ds.take (i + 1)) found = (placedF rs (ds.take i) found).set (rs.getD i (0, 0)).2.toNat (ds.getD i 0) := by
  induction rs generalizing ds found i with
  | nil => simp at h1
  | cons r rs ih =>
    cases ds with
    | nil => simp at h2
    | cons d ds =>
      cases i with
      | zero => simp [placedF]
      | succ i =>
        have := ih ds (found.set r.2.toNat d) i (by simpa using h1) (by simpa using h2)
        simpa [placedF] using this
abbrev plMap (ra da fa : Addr) (size : Int) (ts : Tok) (pl dp : Option Value) : Str → Option Value :=
  mk [("place", pl), ("depth", dp), ("found", some (.ref fa)), ("depths", some (.ref da)), ("rows", some (.ref ra)), ("size", some (.int size ts))]
def plInv (ra da fa : Addr) (size : Int) (ts : Tok) (rs : List (Int × Int)) (ds : List Int) (i : Nat) (m : Str → Option Value) (nx : List (Addr × Obj)) : Prop :=
  ∃ pl dp fv kf, m = plMap ra da fa size ts pl dp ∧ nx = [(fa, listOf (List.toArray fv) kf)] ∧ IntsAre fv (placedF rs (ds.take i) (List.replicate size.toNat 0))

theorem pl_end {h₀ h : Heap} {L ra da fa : Addr} {size : Int} {ts t tc : Tok} {pl dp : Option Value} {rs : List (Int × Int)} {ds : List Int} {i kf tk : Nat} {c y : Int} {fv : List Value} {v : Value} {own : List (Addr × Obj)} {s₁ : Shared}
    (h1 : i < rs.length) (h2 : i < ds.length) (hy : (rs.getD i (0, 0)).2 = y) (hc : ds.getD i 0 = c)
    (F : Fr h₀ L h (fun z => if z = "depth" then some (.int c tc) else if z = "place" then some (.int (i : Int) t) else plMap ra da fa size ts pl dp z))
    (N : News h₀ L h ((fa, listOf (fv.set y.toNat v).toArray kf) :: own)) (hof : OwnOff own [fa])
    (hi : IntsAre (fv.set y.toNat v) ((placedF rs (ds.take i) (List.replicate size.toNat 0)).set y.toNat c)) :
    TbEnd h₀ L (plInv ra da fa size ts rs ds (i + 1)) own s₁ { s₁ with heap := h, toks := tk } := by
  refine ⟨_, _, _, _, [(fa, listOf (fv.set y.toNat v).toArray kf)], rfl, F, N, fun p hp => by rw [List.mem_singleton.mp hp]; exact .head _, fun p hp => .tail _ hp, fun p hp q hq => by rw [List.mem_singleton.mp hq]; exact hof p hp _ (.head _), some (.int (i : Int) t), some (.int c tc), fv.set y.toNat v, kf, ?_, rfl, ?_⟩
  · refine mk_ext ["place", "depth", "found", "depths", "rows", "size"] ⟨rfl, rfl, rfl, rfl, rfl, rfl, trivial⟩ ?_
    rintro y ⟨h1, h2, h3, h4, h5, h6, -⟩
    simp only [mk, h1, h2, h3, h4, h5, h6, if_false]
  · rw [placedF_succ _ _ _ _ h1 h2, hy, hc]; exact hi

local macro_rules | `(tactic| walk_at "exec For Tuple Call cons nil") => `(tactic| refine stop ?_)
local macro_rules | `(tactic| walk_at "call type:enumerate") => `(tactic| refine stop ?_)
local macro_rules | `(tactic| walk_at "TbPost") => `(tactic| refine stop ?_)
set_option maxHeartbeats 4000000 in
theorem placed_spec {w : World} {mean : ExcName → Option Value} {mg mb : Str → Option Value} {s : Shared} {Q E : Value → Shared → Prop}
    (X : (hd.heap_39 w.params).In s.heap) (T : Top hd.view_39 (looseW hd.view_39 ["PressError"]) mean mg mb s.heap)
    {ra da : Addr} {rv dv : List Value} {rs : List (Int × Int)} {ds : List Int} {size : Int} {ts : Tok} (hr : s.heap.IsList ra rv.toArray) (hrt : TupsAt s.heap rv rs) (hd0 : s.heap.IsList da dv.toArray) (hdi : IntsAre dv ds)
    (hlen : rs.length = ds.length) (hdl : ds.length ≤ 1000) (hs1 : 0 ≤ size) (hs2 : size ≤ 1000) (hb : ∀ p ∈ rs, 0 ≤ p.2 ∧ p.2 < size)
    (hret : ∀ h' tk f fv kf, s.heap.StaysIn h' → s.heap.get? f = none → h'.get? f = some (listOf (List.toArray fv) kf) → IntsAre fv (placedF rs ds (List.replicate size.toNat 0)) → Q (.ref f) { s with heap := h', toks := tk }) :
    wpAny (model PySem.Challenge.pw_sf0060_01 w) (A0 500 5000) (call (.ref 68) [.int size ts, .ref ra, .ref da]) Q E s := by
  refine enter [("size", .int size ts), ("rows", .ref ra), ("depths", .ref da)] [("depths", some (.ref da)), ("rows", some (.ref ra)), ("size", some (.int size ts))] X T.nolimit (by k_is) (by k_is) (by decide) (BindsTo.of_eq rfl) rfl (locs rfl) (fun L h₁ tk F N => ?_) rfl rfl rfl
  k_steps
  refine Stop.of ?_
  rename Fr _ _ _ _ => F1
  refine For_turns F1 ?_ ?_ ?_
  · k_steps
    refine Stop.of ?_
    rename Fr _ _ _ _ => F2
    rename News _ _ _ _ => N2
    rename_i hA qA fa hB i1 nn ss ee1 ee2 ee3 qB hC
    have ez : (List.replicate size.toNat [(0 : Int)]).flatten = List.replicate size.toNat 0 := by simp
    obtain ⟨fv0, hfv0, N2d⟩ : ∃ fv0 : List Value, IntsAre fv0 (List.replicate size.toNat 0) ∧ News s.heap L hC [(fa, listOf fv0.toArray 0)] :=
      ⟨_, ez ▸ i1, News.sub N2 (fun p hp => by rw [List.mem_singleton.mp hp]; exact .head _)⟩
    clear N2
    refine loop_enum rfl (plInv ra da fa size ts rs ds) rfl hd0 F2 N2d ?_ ?_ ?_
    · refine ⟨none, none, fv0, 0, mk_ext ["place", "depth", "found", "depths", "rows", "size"] ⟨rfl, rfl, rfl, rfl, rfl, rfl, trivial⟩ ?_, rfl, ?_⟩
      · rintro y ⟨h1, h2, h3, h4, h5, h6, -⟩
        simp only [mk, h1, h2, h3, h4, h5, h6, if_false]
      · simpa [placedF] using hfv0
    · rintro i v t T m₁ nx h tk own hv hoff ⟨pl, dp, fv, kf, rfl, rfl, hfv⟩ hT F3 N3
      clear F2 N2d
      replace F3 : Fr s.heap L _ _ := F3
      replace N3 : News s.heap L _ _ := N3
      obtain ⟨c, tc, rfl, hcg⟩ := hdi.at i v hv
      have hil : i < ds.length := by rw [← hdi.length]; exact (List.getElem?_eq_some_iff.mp hv).1
      obtain ⟨a, t1, u1, hra, hta⟩ := hrt.get (k := i) (by omega)
      have hbi := hb (rs.getD i (0, 0)) (by rw [List.getD_eq_getElem?_getD, List.getElem?_eq_getElem (by omega)]; exact List.getElem_mem _)
      have hra2 : rv[((i : Nat) : Int).toNat]? = some (.ref a) := hra
      have hof2 : OwnOff own [fa] := by
        intro p hp b hb
        rw [List.mem_singleton.mp hb]
        exact hoff p hp _ (.head _)
      generalize hy : (rs.getD i (0, 0)).2 = y at *
      generalize hc0 : (rs.getD i (0, 0)).1 = c0 at *
      have hpl : (placedF rs (ds.take i) (List.replicate size.toNat 0)).length = size.toNat := by rw [placedF_length, List.length_replicate]
      have hfl : fv.length = size.toNat := by rw [hfv.length, hpl]
      simp only [List.cons_append, List.nil_append] at N3
      dsimp only
      k_steps
      rename Fr _ _ _ _ => F5
      refine item_listL (stays_list F5.keep hr) (by omega) (by omega) hra2 ?_
      have hta2 := hta.at (F5.keep a)
      k_steps
      refine Stop.of ?_
      dsimp only [TbPost]
      exact pl_end (by omega) hil hy (by rw [List.getD_eq_getElem?_getD, hcg, Option.getD_some]) (by assumption) (by assumption) hof2 (by assumption)
    · rintro m₁ nx h tk ⟨pl, dp, fv, kf, rfl, rfl, hfv⟩ F3 N3
      clear F2 N2d
      replace F3 : Fr s.heap L _ _ := F3
      replace N3 : News s.heap L _ _ := N3
      rw [hdi.length, List.take_length] at hfv
      dsimp only
      k_steps
      dsimp only
      exact hret _ _ fa fv kf F3.keep (N3 _ (.head _)).2.2 (N3 _ (.head _)).1 hfv
  · exact fun _ => rfl
  · exact PassesOwn.never

end
theorem off_SortA : True := by
  w_top off
  trivial
section

/-- what a sort's questions end in, where lt answers them; every question is about places below n -/
def good (n : Nat) (lt : Nat → Nat → Bool) {α : Type} : KasT α → (α → Prop) → Prop
  | .ret a, R => R a
  | .ask i j k, R => i < n ∧ j < n ∧ good n lt (k (lt i j)) R

theorem good_bind {n : Nat} {lt : Nat → Nat → Bool} {α β : Type} {f : α → KasT β} {R : β → Prop} : ∀ (t : KasT α), good n lt t (fun a => good n lt (f a) R) → good n lt (t.bind f) R
  | .ret _, h => h
  | .ask i j k, ⟨h1, h2, h3⟩ => ⟨h1, h2, good_bind (k (lt i j)) h3⟩
theorem good_mono {n : Nat} {lt : Nat → Nat → Bool} {α : Type} {R R' : α → Prop} (hr : ∀ a, R a → R' a) : ∀ (t : KasT α), good n lt t R → good n lt t R'
  | .ret a, h => hr a h
  | .ask i j k, ⟨h1, h2, h3⟩ => ⟨h1, h2, good_mono hr (k (lt i j)) h3⟩

theorem kasWp_of_good {n : Nat} {lt : Nat → Nat → Bool} {α : Type} {cmp : Nat → Nat → (Bool → Shared → Prop) → Shared → Prop} {s : Shared} {R : α → Prop} {Q : α → Shared → Prop}
    (hc : ∀ i j C tk, i < n → j < n → (∀ tk', C (lt i j) { s with toks := tk' }) → cmp i j C { s with toks := tk }) (hq : ∀ a tk, R a → Q a { s with toks := tk }) :
    ∀ (t : KasT α) (tk : Nat), good n lt t R → t.kasWp cmp Q { s with toks := tk }
  | .ret a, tk, h => hq a tk h
  | .ask i j k, tk, ⟨h1, h2, h3⟩ => hc i j _ tk h1 h2 fun tk' => kasWp_of_good hc hq (k (lt i j)) tk' h3

section
variable {O : KeyOrd} {key : Nat → O.α} {n : Nat} {p : Array Nat}

abbrev gl (O : KeyOrd) (key : Nat → O.α) (i j : Nat) : Bool := O.blt (key i) (key j)
abbrev Kp (key : Nat → O.α) (p : Array Nat) (i : Nat) : O.α := key (p.getD i 0)
def Pm (n : Nat) (p : Array Nat) : Prop := p.Perm (List.range n).toArray
def Srt (key : Nat → O.α) (p : Array Nat) (k : Nat) : Prop := ∀ i j, i ≤ j → j < k → O.kle (Kp key p i) (Kp key p j)
def Ninc (key : Nat → O.α) (p : Array Nat) (k : Nat) : Prop := ∀ i j, i ≤ j → j < k → O.kle (Kp key p j) (Kp key p i)

theorem Pm.size (h : Pm n p) : p.size = n := by
  have := (Array.perm_iff_toList_perm.mp h).length_eq
  simpa using this
theorem Pm.lt (h : Pm n p) {i : Nat} (hi : i < n) : p.getD i 0 < n := by
  have hs := h.size
  have hm : p[i]'(by omega) ∈ (List.range n).toArray.toList := (Array.perm_iff_toList_perm.mp h).mem_iff.mp (by simp)
  have e : p.getD i 0 = p[i]'(by omega) := by simp [Array.getD, hs, hi]
  rw [e]
  simpa using hm
theorem getD_eq {xs ys : Array Nat} {i j : Nat} (h : xs[i]? = ys[j]?) : xs.getD i 0 = ys.getD j 0 := by
  rw [Array.getD_eq_getD_getElem?, Array.getD_eq_getD_getElem?, h]
theorem rev_getD {i j : Nat} (hj : j ≤ p.size) (k : Nat) : (kas_rev p i j).getD k 0 = if i ≤ k ∧ k < j then p.getD (i + j - 1 - k) 0 else p.getD k 0 := by
  have e := getElem?_mirror_all (xs := p) (i := i) hj k
  split at e
  · rename_i h; rw [if_pos h]; exact getD_eq e
  · rename_i h; rw [if_neg h]; exact getD_eq e
theorem rev_pm (h : Pm n p) (i j : Nat) : Pm n (kas_rev p i j) := (mirror_perm _ _ _ _).trans h
theorem bub_getD {src d : Nat} (hs : src < p.size) (hd : d ≤ src) (k : Nat) :
    (bubble p src d).getD k 0 = if k = src - d then p.getD src 0 else if src - d < k ∧ k ≤ src then p.getD (k - 1) 0 else p.getD k 0 := by
  have e := getElem?_bubble (xs := p) hs d hd k
  by_cases h1 : k = src - d
  · rw [if_pos h1] at e ⊢; exact getD_eq e
  · rw [if_neg h1] at e ⊢
    by_cases h2 : src - d < k ∧ k ≤ src
    · rw [if_pos h2] at e ⊢; exact getD_eq e
    · rw [if_neg h2] at e ⊢; exact getD_eq e
theorem bub_pm (h : Pm n p) (i j : Nat) : Pm n (bubble p i j) := (bubble_perm _ _ _).trans h
theorem rev_same {i j : Nat} (hj : j ≤ p.size) (heq : ∀ k, i ≤ k → k < j → Kp key p k = Kp key p (j - 1)) (k : Nat) : Kp key (kas_rev p i j) k = Kp key p k := by
  show key _ = key _
  rw [rev_getD hj]
  split
  · rename_i h
    have a := heq (i + j - 1 - k) (by omega) (by omega)
    have b := heq k (by omega) (by omega)
    exact a.trans b.symm
  · rfl

theorem good_asc (hp : Pm n p) : ∀ (f k : Nat), 1 ≤ k → k + f ≤ n → Srt key p k →
    good n (gl O key) (kas_asc p f k) (fun m => k ≤ m ∧ m ≤ k + f ∧ Srt key p m ∧ (m = k + f ∨ O.klt (Kp key p m) (Kp key p (m - 1))))
  | 0, k, _, _, hs => ⟨Nat.le_refl _, Nat.le_refl _, hs, .inl rfl⟩
  | f + 1, k, h1, hn, hs => by
    refine ⟨hp.lt (by omega), hp.lt (by omega), ?_⟩
    cases hl : gl O key (p.getD k 0) (p.getD (k - 1) 0) with
    | true =>
      try dsimp only
      rw [if_pos rfl]
      exact ⟨Nat.le_refl _, by omega, hs, .inr hl⟩
    | false =>
      try dsimp only
      rw [if_neg Bool.false_ne_true]
      refine good_mono (fun m hm => ?_) _ (good_asc hp f (k + 1) (by omega) (by omega) ?_)
      · obtain ⟨a, b, c, d⟩ := hm
        exact ⟨by omega, by omega, c, d.imp (fun e => by omega) id⟩
      · intro i j hij hj
        by_cases hjk : j < k
        · exact hs i j hij hjk
        · have hj' : j = k := by omega
          subst hj'
          by_cases hi : i = j
          · subst hi; exact KeyOrd.kle_refl _
          · exact KeyOrd.kle_trans (hs i (j - 1) (by omega) (by omega)) hl

theorem good_desc : ∀ (f : Nat) (p : Array Nat) (k q : Nat), Pm n p → 1 ≤ k → k + f ≤ n → Ninc key p k → q + 1 ≤ k → (∀ i, k - (q + 1) ≤ i → i < k → Kp key p i = Kp key p (k - 1)) →
    good n (gl O key) (kas_desc f p k q) (fun r => Pm n r.1 ∧ k ≤ r.2.1 ∧ r.2.1 ≤ k + f ∧ Ninc key r.1 r.2.1 ∧ r.2.2 + 1 ≤ r.2.1 ∧ ∀ i, r.2.1 - (r.2.2 + 1) ≤ i → i < r.2.1 → Kp key r.1 i = Kp key r.1 (r.2.1 - 1))
  | 0, p, k, q, hp, _, _, hs, hq, he => ⟨hp, Nat.le_refl _, Nat.le_refl _, hs, hq, he⟩
  | f + 1, p, k, q, hp, h1, hn, hs, hq, he => by
    have hsz := hp.size
    refine ⟨hp.lt (by omega), hp.lt (by omega), ?_⟩
    have step1 : O.klt (Kp key p k) (Kp key p (k - 1)) → ∀ xs : Array Nat, (∀ i, Kp key xs i = Kp key p i) → Ninc key xs (k + 1) := by
      intro hl xs hx i j hij hj
      rw [hx, hx]
      by_cases hjk : j < k
      · exact hs i j hij hjk
      · have hj' : j = k := by omega
        subst hj'
        by_cases hi : i = j
        · subst hi; exact KeyOrd.kle_refl _
        · exact KeyOrd.kle_trans (KeyOrd.kle_of_klt hl) (hs i (j - 1) (by omega) (by omega))
    have more : ∀ (p' : Array Nat) (q' : Nat), Pm n p' → Ninc key p' (k + 1) → q' + 1 ≤ k + 1 → (∀ i, k + 1 - (q' + 1) ≤ i → i < k + 1 → Kp key p' i = Kp key p' (k + 1 - 1)) →
        good n (gl O key) (kas_desc f p' (k + 1) q') (fun r => Pm n r.1 ∧ k ≤ r.2.1 ∧ r.2.1 ≤ k + (f + 1) ∧ Ninc key r.1 r.2.1 ∧ r.2.2 + 1 ≤ r.2.1 ∧ ∀ i, r.2.1 - (r.2.2 + 1) ≤ i → i < r.2.1 → Kp key r.1 i = Kp key r.1 (r.2.1 - 1)) := by
      intro p' q' a b c d
      refine good_mono (fun r hr => ?_) _ (good_desc f p' (k + 1) q' a (by omega) (by omega) b c d)
      obtain ⟨r1, r2, r3, r4, r5, r6⟩ := hr
      exact ⟨r1, by omega, by omega, r4, r5, r6⟩
    cases hl : gl O key (p.getD k 0) (p.getD (k - 1) 0) with
    | true =>
      try dsimp only
      rw [if_pos rfl]
      by_cases hq0 : q > 0
      · try dsimp only
        rw [if_pos hq0]
        exact more _ 0 (rev_pm hp _ _) (step1 hl _ fun i => rev_same (by omega) he i) (by omega) (fun i a b => by congr 1; congr 1; omega)
      · try dsimp only
        rw [if_neg hq0]
        exact more _ 0 hp (step1 hl _ fun _ => rfl) (by omega) (fun i a b => by congr 1; congr 1; omega)
    | false =>
      try dsimp only
      rw [if_neg Bool.false_ne_true]
      refine ⟨hp.lt (by omega), hp.lt (by omega), ?_⟩
      cases hg : gl O key (p.getD (k - 1) 0) (p.getD k 0) with
      | true =>
        try dsimp only
        rw [if_pos rfl]
        exact ⟨hp, Nat.le_refl _, (by show k ≤ k + (f + 1); omega), hs, hq, he⟩
      | false =>
        try dsimp only
        rw [if_neg Bool.false_ne_true]
        have heq : Kp key p k = Kp key p (k - 1) := KeyOrd.kle_antisymm hg hl
        refine more p (q + 1) hp ?_ (by omega) ?_
        · intro i j hij hj
          by_cases hjk : j < k
          · exact hs i j hij hjk
          · have hj' : j = k := by omega
            subst hj'
            by_cases hi : i = j
            · subst hi; exact KeyOrd.kle_refl _
            · rw [heq]; exact hs i (j - 1) (by omega) (by omega)
        · intro i a b
          rw [show k + 1 - 1 = k by omega]
          by_cases hi : i = k
          · subst hi; rfl
          · rw [heq]; exact he i (by omega) (by omega)

theorem good_tail3 {k nrem : Nat} (hp : Pm n p) (h1 : 1 ≤ k) (hk : k ≤ nrem) (hn : nrem ≤ n) (hs : Ninc key p k) :
    good n (gl O key) (kas_tail3 k nrem p) (fun r => 1 ≤ r.1 ∧ r.1 ≤ nrem ∧ Pm n r.2 ∧ Srt key r.2 r.1) := by
  have hsz := hp.size
  refine good_bind _ (good_mono (fun m hm => ?_) _ (good_asc (rev_pm hp 0 k) (nrem - k) k h1 (by omega) ?_))
  · obtain ⟨a, b, c, _⟩ := hm
    exact ⟨by omega, by omega, rev_pm hp _ _, c⟩
  · intro i j hij hj
    show O.kle (key _) (key _)
    rw [rev_getD (by omega), rev_getD (by omega), if_pos (by omega), if_pos (by omega)]
    exact hs _ _ (by omega) (by omega)

theorem good_descPart {k nrem : Nat} (hp : Pm n p) (h1 : 1 ≤ k) (hk : k + 1 ≤ nrem) (hn : nrem ≤ n) (hs : Ninc key p (k + 1)) :
    good n (gl O key) (kas_descPart k nrem p) (fun r => 1 ≤ r.1 ∧ r.1 ≤ nrem ∧ Pm n r.2 ∧ Srt key r.2 r.1) := by
  refine good_bind _ (good_mono (fun r hr => ?_) _ (good_desc (nrem - (k + 1)) p (k + 1) 0 hp (by omega) (by omega) hs (by omega) (fun i a b => by congr 1; congr 1; omega)))
  obtain ⟨r1, r2, r3, r4, r5, r6⟩ := hr
  have hsz := r1.size
  by_cases hq : r.2.2 > 0
  · rw [if_pos hq]
    refine good_tail3 (rev_pm r1 _ _) (by omega) (by omega) hn ?_
    intro i j hij hj
    rw [rev_same (by omega) r6, rev_same (by omega) r6]
    exact r4 i j hij hj
  · rw [if_neg hq]
    exact good_tail3 r1 (by omega) (by omega) hn r4

theorem good_count {nrem : Nat} (hp : Pm n p) (h1 : 1 ≤ nrem) (hn : nrem ≤ n) :
    good n (gl O key) (kas_count nrem p) (fun r => 1 ≤ r.1 ∧ r.1 ≤ nrem ∧ Pm n r.2 ∧ Srt key r.2 r.1) := by
  have hsz := hp.size
  refine good_bind _ (good_mono (fun k hk => ?_) _ (good_asc hp (nrem - 1) 1 (by omega) (by omega) (fun i j hij hj => by
    have e : i = j := by omega
    rw [e]; exact KeyOrd.kle_refl _)))
  obtain ⟨k1, k2, k3, k4⟩ := hk
  by_cases e1 : (k == nrem) = true
  · try dsimp only
    rw [if_pos e1]
    exact ⟨k1, by omega, hp, k3⟩
  · try dsimp only
    rw [if_neg e1]
    have hkn : k < nrem := by
      have : k ≠ nrem := fun q => e1 (by rw [q]; exact beq_self_eq_true _)
      omega
    have hlt : O.klt (Kp key p k) (Kp key p (k - 1)) := k4.resolve_left (by omega)
    by_cases e2 : k > 1
    · try dsimp only
      rw [if_pos e2]
      refine ⟨hp.lt (by omega), hp.lt (by omega), ?_⟩
      cases hg : gl O key (p.getD 0 0) (p.getD (k - 1) 0) with
      | true =>
        try dsimp only
        rw [if_pos rfl]
        exact ⟨k1, by omega, hp, k3⟩
      | false =>
        try dsimp only
        rw [if_neg Bool.false_ne_true]
        have hall : ∀ i, 0 ≤ i → i < k → Kp key p i = Kp key p (k - 1) := by
          intro i _ hi
          have a1 := k3 0 i (by omega) hi
          have a2 := k3 i (k - 1) (by omega) (by omega)
          exact KeyOrd.kle_antisymm a2 (KeyOrd.kle_trans hg a1)
        refine good_descPart (rev_pm hp _ _) (by omega) (by omega) hn ?_
        intro i j hij hj
        rw [rev_same (by omega) hall, rev_same (by omega) hall]
        by_cases hjk : j < k
        · rw [hall i (by omega) (by omega), hall j (by omega) hjk]; exact KeyOrd.kle_refl _
        · have hj' : j = k := by omega
          subst hj'
          by_cases hi : i = j
          · subst hi; exact KeyOrd.kle_refl _
          · rw [hall i (by omega) (by omega)]; exact KeyOrd.kle_of_klt hlt
    · try dsimp only
      rw [if_neg e2]
      have hk1 : k = 1 := by omega
      subst hk1
      refine good_descPart hp (by omega) (by omega) hn ?_
      intro i j hij hj
      by_cases hi : i = j
      · subst hi; exact KeyOrd.kle_refl _
      · have hi0 : i = 0 := by omega
        have hj1 : j = 1 := by omega
        subst hi0; subst hj1
        exact KeyOrd.kle_of_klt hlt

theorem good_place {k : Nat} (hp : Pm n p) (hk : k < n) (hs : Srt key p k) : ∀ (f l r : Nat), l ≤ r → r ≤ k → r - l ≤ f → (∀ i, i < l → O.kle (Kp key p i) (Kp key p k)) → (∀ i, r ≤ i → i < k → O.klt (Kp key p k) (Kp key p i)) →
    good n (gl O key) (kas_place p k f l r) (fun l' => l' ≤ k ∧ (∀ i, i < l' → O.kle (Kp key p i) (Kp key p k)) ∧ ∀ i, l' ≤ i → i < k → O.klt (Kp key p k) (Kp key p i))
  | 0, l, r, hlr, hrk, hf, hlo, hhi => by
    have : l = r := by omega
    subst this
    exact ⟨hrk, hlo, hhi⟩
  | f + 1, l, r, hlr, hrk, hf, hlo, hhi => by
    unfold kas_place
    by_cases hge : l ≥ r
    · rw [if_pos hge]
      have : l = r := by omega
      subst this
      exact ⟨hrk, hlo, hhi⟩
    · rw [if_neg hge]
      refine ⟨hp.lt hk, hp.lt (by omega), ?_⟩
      cases hl : gl O key (p.getD k 0) (p.getD ((l + r) / 2) 0) with
      | true =>
        try dsimp only
        rw [if_pos rfl]
        exact good_place hp hk hs f l ((l + r) / 2) (by omega) (by omega) (by omega) hlo fun i a b => KeyOrd.klt_of_klt_of_kle hl (hs _ _ a b)
      | false =>
        try dsimp only
        rw [if_neg Bool.false_ne_true]
        exact good_place hp hk hs f ((l + r) / 2 + 1) r (by omega) hrk (by omega) (fun i a => KeyOrd.kle_trans (hs i ((l + r) / 2) (by omega) (by omega)) hl) hhi

theorem good_bin : ∀ (f : Nat) (p : Array Nat) (k : Nat), Pm n p → k + f = n → Srt key p k → good n (gl O key) (kas_bin f p k) (fun p' => Pm n p' ∧ Srt key p' n)
  | 0, p, k, hp, hk, hs => by
    have : k = n := by omega
    subst this
    exact ⟨hp, hs⟩
  | f + 1, p, k, hp, hk, hs => by
    have hsz := hp.size
    refine good_bind _ (good_mono (fun l hl => ?_) _ (good_place hp (by omega) hs k 0 k (by omega) (Nat.le_refl _) (by omega) (fun i h => by omega) (fun i a b => by omega)))
    obtain ⟨hlk, hlo, hhi⟩ := hl
    refine good_bin f _ (k + 1) (bub_pm hp _ _) (by omega) ?_
    intro i j hij hj
    show O.kle (key _) (key _)
    rw [bub_getD (by omega) (by omega), bub_getD (by omega) (by omega), show k - (k - l) = l by omega]
    repeat' split
    all_goals first
      | (exfalso; omega)
      | exact KeyOrd.kle_refl _
      | exact hlo _ (by omega)
      | exact KeyOrd.kle_of_klt (hhi _ (by omega) (by omega))
      | exact hs _ _ (by omega) (by omega)

theorem good_sort (hn : 1 ≤ n) : good n (gl O key) (kas_sort n) (fun p => Pm n p ∧ Srt key p n) := by
  refine good_bind _ (good_mono (fun r hr => ?_) _ (good_count (Array.Perm.refl _) hn (Nat.le_refl _)))
  obtain ⟨r1, r2, r3, r4⟩ := hr
  by_cases hlt : r.1 < n
  · try dsimp only
    rw [if_pos hlt, show max r.1 1 = r.1 by omega]
    exact good_bin _ _ _ r3 (by omega) r4
  · try dsimp only
    rw [if_neg hlt]
    have : r.1 = n := by omega
    rw [this] at r4
    exact ⟨r3, r4⟩
end

end
theorem off_F5a : True := by
  w_top off
  trivial
section
def blt2 (a b : Int × Int) : Bool := decide (a.1 < b.1 ∨ (a.1 = b.1 ∧ a.2 < b.2))
def O2 : KeyOrd where
  α := Int × Int
  blt := blt2
  irrefl a := by unfold blt2; simp
  trans a b c := by
    unfold blt2; simp only [decide_eq_true_eq]; omega
  negTrans a b c := by
    unfold blt2; simp only [decide_eq_true_eq]; omega
  total a b := by
    unfold blt2
    simp only [decide_eq_false_iff_not]
    intro h1 h2
    exact Prod.ext (by omega) (by omega)
/-- the symbols in use among the first ones -/
def usedF (cs : List Int) : Nat → List (Int × Int)
  | 0 => []
  | i + 1 => if 0 < cs.getD i 0 then usedF cs i ++ [(cs.getD i 0, (i : Int))] else usedF cs i
theorem usedF_length (cs : List Int) : ∀ i, (usedF cs i).length ≤ i
  | 0 => Nat.le_refl _
  | i + 1 => by
    have := usedF_length cs i
    unfold usedF
    split
    · rw [List.length_append, List.length_singleton]; omega
    · omega
inductive TupsL (news : List (Addr × Obj)) : List Value → List (Int × Int) → Prop
  | nil : TupsL news [] []
  | cons {a : Addr} {o : Obj} {c y : Int} {t u : Tok} {n : Nat} {vs : List Value} {rs : List (Int × Int)} : (a, o) ∈ news → o.cls = .type "tuple" → o.data = .seq #[.int c t, .int y u] n → TupsL news vs rs → TupsL news (.ref a :: vs) ((c, y) :: rs)
theorem TupsL.mono {news news' : List (Addr × Obj)} {vs : List Value} {rs : List (Int × Int)} (h : TupsL news vs rs) (hs : ∀ p ∈ news, p ∈ news') : TupsL news' vs rs := by
  induction h with
  | nil => exact .nil
  | cons hm h1 h2 _ ih => exact .cons (hs _ hm) h1 h2 ih
theorem TupsL.snoc {news : List (Addr × Obj)} {vs : List Value} {rs : List (Int × Int)} (h : TupsL news vs rs) {a : Addr} {o : Obj} {c y : Int} {t u : Tok} {n : Nat} (hm : (a, o) ∈ news) (h1 : o.cls = .type "tuple") (h2 : o.data = .seq #[.int c t, .int y u] n) : TupsL news (vs ++ [.ref a]) (rs ++ [(c, y)]) := by
  induction h with
  | nil => exact .cons hm h1 h2 .nil
  | cons hm' h1' h2' _ ih => exact .cons hm' h1' h2' ih
theorem TupsL.at {h₀ h : Heap} {L : Addr} {news : List (Addr × Obj)} {vs : List Value} {rs : List (Int × Int)} (x : TupsL news vs rs) (N : News h₀ L h news) : TupsAt h vs rs := by
  induction x with
  | nil => exact .nil
  | cons hm h1 h2 _ ih => exact .cons ⟨_, (N _ hm).1, h1, _, h2⟩ ih
theorem TupsL.length {news : List (Addr × Obj)} {vs : List Value} {rs : List (Int × Int)} (h : TupsL news vs rs) : vs.length = rs.length := by
  induction h with
  | nil => rfl
  | cons _ _ _ _ ih => rw [List.length_cons, List.length_cons, ih]
theorem TupsAt.getD {h : Heap} {vs : List Value} {rs : List (Int × Int)} (x : TupsAt h vs rs) {k : Nat} (hk : k < rs.length) : ∃ a t u, vs.getD k Value.none = .ref a ∧ h.IsTuple a #[.int (rs.getD k (0, 0)).1 t, .int (rs.getD k (0, 0)).2 u] := by
  obtain ⟨a, t, u, h1, h2⟩ := x.get hk
  exact ⟨a, t, u, by rw [List.getD_eq_getElem?_getD, h1]; rfl, h2⟩
theorem TupsAt.pick {h : Heap} {vs : List Value} {rs : List (Int × Int)} (x : TupsAt h vs rs) : ∀ l : List Nat, (∀ i ∈ l, i < rs.length) → TupsAt h (l.map fun i => vs.getD i Value.none) (l.map fun i => rs.getD i (0, 0))
  | [], _ => .nil
  | i :: l, hl => by
    obtain ⟨a, t, u, h1, h2⟩ := x.getD (hl i (.head _))
    rw [List.map_cons, List.map_cons, h1]
    exact .cons h2 (x.pick l fun j hj => hl j (.tail _ hj))
theorem TupsL.getD {news : List (Addr × Obj)} {vs : List Value} {rs : List (Int × Int)} (x : TupsL news vs rs) : ∀ {k : Nat}, k < rs.length → ∃ a o t u n, vs.getD k Value.none = .ref a ∧ (a, o) ∈ news ∧ o.cls = .type "tuple" ∧ o.data = .seq #[.int (rs.getD k (0, 0)).1 t, .int (rs.getD k (0, 0)).2 u] n := by
  induction x with
  | nil => intro k hk; simp at hk
  | cons hm h1 h2 _ ih =>
    intro k hk
    cases k with
    | zero => exact ⟨_, _, _, _, _, rfl, hm, h1, h2⟩
    | succ k => simpa using ih (k := k) (by simpa using hk)
theorem TupsL.pick {news : List (Addr × Obj)} {vs : List Value} {rs : List (Int × Int)} (x : TupsL news vs rs) : ∀ l : List Nat, (∀ i ∈ l, i < rs.length) → TupsL news (l.map fun i => vs.getD i Value.none) (l.map fun i => rs.getD i (0, 0))
  | [], _ => .nil
  | i :: l, hl => by
    obtain ⟨a, o, t, u, n, h1, h2, h3, h4⟩ := x.getD (hl i (.head _))
    rw [List.map_cons, List.map_cons, h1]
    exact .cons h2 h3 h4 (x.pick l fun j hj => hl j (.tail _ hj))
theorem TupsAt.firsts {h : Heap} {vs : List Value} {rs : List (Int × Int)} (x : TupsAt h vs rs) : ∃ fs : List Value, fs.length = rs.length ∧ KatTups h vs fs ∧ ∀ v ∈ fs, ∃ c t, v = .int c t := by
  induction x with
  | nil => exact ⟨[], rfl, KatTups.nil, fun _ h => nomatch h⟩
  | @cons a c y t u vs rs hm _ ih =>
    obtain ⟨fs, h1, h2, h3⟩ := ih
    obtain ⟨o, e1, e2, n, e3⟩ := hm
    refine ⟨.int c t :: fs, by simp [h1], KatTups.cons e1 e2 e3 rfl h2, fun v hv => ?_⟩
    rcases List.mem_cons.mp hv with rfl | hv
    · exact ⟨c, t, rfl⟩
    · exact h3 v hv
/-- a question about two places -/
theorem ask_tups {prog : Program} {w : World} {A : Around} {s : Shared} {vs : List Value} {rs : List (Int × Int)} (x : TupsAt s.heap vs rs) (i j : Nat) (C : Bool → Shared → Prop) (hi : i < rs.length) (hj : j < rs.length)
    (hC : C (gl O2 (fun k => rs.getD k (0, 0)) i j) s) : kas_ask prog w A (tuples' true) vs i j C s := by
  obtain ⟨a, t1, u1, e1, oa, a1, a2, na, a3⟩ := x.getD hi
  obtain ⟨b, t2, u2, e2, ob, b1, b2, nb, b3⟩ := x.getD hj
  unfold kas_ask
  rw [e1, e2]
  have hC' : C (blt2 (rs.getD i (0, 0)) (rs.getD j (0, 0))) s := hC
  generalize rs.getD i (0, 0) = p at *
  generalize rs.getD j (0, 0) = q at *
  refine kat_lt a1 a3 b1 b3 ?_
  refine kat_cons (wpAny_eqBool_int ?_)
  refine kat_go (fun h1 => ?_) (fun h1 => ?_)
  · have h1 : p.1 = q.1 := by simpa using h1
    refine kat_yes (kat_cons (wpAny_eqBool_int ?_))
    refine kat_go (fun h2 => ?_) (fun h2 => ?_)
    · have h2 : p.2 = q.2 := by simpa using h2
      refine kat_yes (kat_nil ?_)
      have e : blt2 p q = decide ((#[Value.int p.1 t1, Value.int p.2 u1]).size < (#[Value.int q.1 t2, Value.int q.2 u2]).size) := by
        unfold blt2; simp [h1, h2]
      rw [e] at hC'
      exact hC'
    · have h2 := h2
      have e : blt2 p q = decide (p.2 < q.2) := by
        unfold blt2; simp [h1]
      rw [e] at hC'
      exact kat_no (kat_one _ _ (lt_int hC'))
  · have h1 : ¬ p.1 = q.1 := by simpa using h1
    have e : blt2 p q = decide (p.1 < q.1) := by
      unfold blt2; simp [h1]
    rw [e] at hC'
    exact kat_no (oneLt_int hC')
theorem range_map_getD (rs : List (Int × Int)) : (List.range rs.length).map (fun i => rs.getD i (0, 0)) = rs := by
  refine List.ext_getElem (by simp) fun i h1 h2 => ?_
  simp [h2]
theorem sorted_pairs {rs : List (Int × Int)} {p : Array Nat} (h1 : Pm rs.length p) (h2 : Srt (O := O2) (fun k => rs.getD k (0, 0)) p rs.length) :
    (p.toList.map fun i => rs.getD i (0, 0)).Perm rs ∧ (p.toList.map fun i => rs.getD i (0, 0)).Pairwise (fun a b => blt2 b a = false) := by
  constructor
  · have := (Array.perm_iff_toList_perm.mp h1).map (fun i => rs.getD i (0, 0))
    rw [List.toList_toArray, range_map_getD] at this
    exact this
  · rw [List.pairwise_iff_getElem]
    intro i j hi hj hij
    have hz := h1.size
    simp only [List.length_map, Array.length_toList] at hi hj
    have := h2 i j (by omega) (by omega)
    have q : blt2 (rs.getD (p.getD j 0) (0, 0)) (rs.getD (p.getD i 0) (0, 0)) = false := this
    have g1 : p.getD i 0 = p[i] := by simp [Array.getD, hi]
    have g2 : p.getD j 0 = p[j] := by simp [Array.getD, hj]
    rw [g1, g2] at q
    simpa using q

end
theorem off_F5 : True := by
  w_top off
  trivial
section
theorem fill_now5 : tagg PySem.Challenge.rw_sf0060_01 hd.heap_39 := by
  k_fill
  trivial
abbrev usMap (ca fa : Addr) (sy co : Option Value) : Str → Option Value :=
  mk [("symbol", sy), ("count", co), ("found", some (.ref fa)), ("counts", some (.ref ca))]
def usInv (ca fa : Addr) (cs : List Int) (i : Nat) (m : Str → Option Value) (nx : List (Addr × Obj)) : Prop :=
  ∃ sy co fv kf tlx, m = usMap ca fa sy co ∧ nx = (fa, listOf (List.toArray fv) kf) :: tlx ∧ TupsL tlx fv (usedF cs i) ∧ OwnOff tlx [fa]
theorem us_end_no {h₀ h : Heap} {L ca fa : Addr} {t tc : Tok} {sy co : Option Value} {cs : List Int} {i kf tk : Nat} {c : Int} {fv : List Value} {tlx own rest : List (Addr × Obj)} {s₁ : Shared}
    (hc : cs.getD i 0 = c) (hn : ¬ 0 < c) (hrest : tlx ++ own = rest)
    (F : Fr h₀ L h (fun z => if z = "count" then some (.int c tc) else if z = "symbol" then some (.int (i : Int) t) else usMap ca fa sy co z))
    (N : News h₀ L h ((fa, listOf fv.toArray kf) :: rest)) (htl : TupsL tlx fv (usedF cs i)) (hof : OwnOff rest [fa]) (hoff : ∀ p ∈ own, ∀ q ∈ tlx, p.1 ≠ q.1) :
    TbEnd h₀ L (usInv ca fa cs (i + 1)) own s₁ { s₁ with heap := h, toks := tk } := by
  subst hrest
  refine ⟨_, _, _, _, (fa, listOf fv.toArray kf) :: tlx, rfl, F, N, fun p hp => ?_, fun p hp => .tail _ (List.mem_append_right _ hp), fun p hp q hq => ?_, some (.int (i : Int) t), some (.int c tc), fv, kf, tlx, ?_, rfl, ?_, fun p hp => hof p (List.mem_append_left _ hp)⟩
  · rcases List.mem_cons.mp hp with rfl | hp
    · exact .head _
    · exact .tail _ (List.mem_append_left _ hp)
  · rcases List.mem_cons.mp hq with rfl | hq
    · exact hof p (List.mem_append_right _ hp) _ (.head _)
    · exact hoff p hp q hq
  · refine mk_ext ["symbol", "count", "found", "counts"] ⟨rfl, rfl, rfl, rfl, trivial⟩ ?_
    rintro y ⟨h1, h2, h3, h4, -⟩
    simp only [mk, h1, h2, h3, h4, if_false]
  · unfold usedF
    rw [hc, if_neg hn]
    exact htl
theorem us_end_yes {h₀ h : Heap} {L ca fa D : Addr} {t tc : Tok} {sy co : Option Value} {cs : List Int} {i kf n tk : Nat} {c : Int} {fv : List Value} {tlx own rest : List (Addr × Obj)} {s₁ : Shared} {o : Obj}
    (hc : cs.getD i 0 = c) (hn : 0 < c) (hrest : tlx ++ own = rest)
    (F : Fr h₀ L h (fun z => if z = "count" then some (.int c tc) else if z = "symbol" then some (.int (i : Int) t) else usMap ca fa sy co z))
    (N : News h₀ L h ((D, o) :: (fa, listOf (fv.toArray.push (.ref D)) kf) :: rest)) (h1 : o.cls = .type "tuple") (h2 : o.data = .seq #[.int c tc, .int (i : Int) t] n) (hDf : D ≠ fa) (hDo : ∀ p ∈ rest, p.1 ≠ D) (htl : TupsL tlx fv (usedF cs i)) (hof : OwnOff rest [fa]) (hoff : ∀ p ∈ own, ∀ q ∈ tlx, p.1 ≠ q.1) :
    TbEnd h₀ L (usInv ca fa cs (i + 1)) own s₁ { s₁ with heap := h, toks := tk } := by
  subst hrest
  rw [List.push_toArray] at N
  refine ⟨_, _, _, _, (fa, listOf (fv ++ [Value.ref D]).toArray kf) :: (D, o) :: tlx, rfl, F, N, fun p hp => ?_, fun p hp => .tail _ (.tail _ (List.mem_append_right _ hp)), fun p hp q hq => ?_, some (.int (i : Int) t), some (.int c tc), fv ++ [.ref D], kf, (D, o) :: tlx, ?_, rfl, ?_, fun p hp => ?_⟩
  · rcases List.mem_cons.mp hp with rfl | hp
    · exact .tail _ (.head _)
    · rcases List.mem_cons.mp hp with rfl | hp
      · exact .head _
      · exact .tail _ (.tail _ (List.mem_append_left _ hp))
  · rcases List.mem_cons.mp hq with rfl | hq
    · exact hof p (List.mem_append_right _ hp) _ (.head _)
    · rcases List.mem_cons.mp hq with rfl | hq
      · exact hDo p (List.mem_append_right _ hp)
      · exact hoff p hp q hq
  · refine mk_ext ["symbol", "count", "found", "counts"] ⟨rfl, rfl, rfl, rfl, trivial⟩ ?_
    rintro y ⟨h1, h2, h3, h4, -⟩
    simp only [mk, h1, h2, h3, h4, if_false]
  · unfold usedF
    rw [hc, if_pos hn]
    exact (htl.mono fun p hp => .tail _ hp).snoc (.head _) h1 h2
  · rcases List.mem_cons.mp hp with rfl | hp
    · intro b hb
      rw [List.mem_singleton.mp hb]
      exact hDf
    · exact hof p (List.mem_append_left _ hp)
local macro_rules | `(tactic| k_ne) => `(tactic| ((try dsimp only); first | assumption | (refine Ne.symm ?_; assumption)))
local macro_rules | `(tactic| walk_at "exec For Tuple Call cons nil") => `(tactic| refine stop ?_)
local macro_rules | `(tactic| walk_at "call type:enumerate") => `(tactic| refine stop ?_)
local macro_rules | `(tactic| walk_at "TbPost") => `(tactic| refine stop ?_)
local macro_rules | `(tactic| walk_at "call builtin:sorted") => `(tactic| refine stop ?_)
local macro_rules | `(tactic| walk_at "exec Raise some none") => `(tactic| refine stop ?_)
set_option maxHeartbeats 4000000 in
theorem used_spec {w : World} {mean : ExcName → Option Value} {mg mb : Str → Option Value} {s : Shared} {Q E : Value → Shared → Prop}
    (X : (hd.heap_39 w.params).In s.heap) (T : Top hd.view_39 (looseW hd.view_39 ["PressError"]) mean mg mb s.heap)
    {ca : Addr} {cv : List Value} {cs : List Int} (hc : s.heap.IsList ca cv.toArray) (hci : IntsAre cv cs) (hlen : cs.length < 64) (hpos : ∀ c ∈ cs, 0 ≤ c) (h2 : 2 ≤ (usedF cs cs.length).length)
    (hret : ∀ h' tk f fv kf rs, s.heap.StaysIn h' → s.heap.get? f = none → h'.get? f = some (listOf (List.toArray fv) kf) → TupsAt h' fv rs → (∃ tl, TupsL tl fv rs ∧ ∀ p ∈ tl, h'.get? p.1 = some p.2 ∧ s.heap.get? p.1 = none) → rs.Perm (usedF cs cs.length) → rs.Pairwise (fun a b => blt2 b a = false) → Q (.ref f) { s with heap := h', toks := tk }) :
    wpAny (model PySem.Challenge.pw_sf0060_01 w) (A0 500 5000) (call (.ref 54) [.ref ca]) Q E s := by
  refine enter [("counts", .ref ca)] [("counts", some (.ref ca))] X T.nolimit (by k_is) (by k_is) (by decide) (BindsTo.of_eq rfl) rfl (locs rfl) (fun L h₁ tk F N => ?_) rfl rfl rfl
  k_steps
  refine Stop.of ?_
  rename Fr _ _ _ _ => F1
  refine For_turns F1 ?_ ?_ ?_
  · k_steps
    refine Stop.of ?_
    rename Fr _ _ _ _ => F2
    rename News _ _ _ _ => N2
    rename_i fa hA l1 hB
    refine loop_enum rfl (usInv ca fa cs) rfl hc F2 N2 ?_ ?_ ?_
    · refine ⟨none, none, [], 0, [], mk_ext ["symbol", "count", "found", "counts"] ⟨rfl, rfl, rfl, rfl, trivial⟩ ?_, rfl, .nil, fun p hp => nomatch hp⟩
      rintro y ⟨h1, h2, h3, h4, -⟩
      simp only [mk, h1, h2, h3, h4, if_false]
    · rintro i v t T m₁ nx h tk own hv hoff ⟨sy, co, fv, kf, tlx, rfl, rfl, htl, hof0⟩ hT F3 N3
      clear F2 N2
      replace F3 : Fr s.heap L _ _ := F3
      replace N3 : News s.heap L _ _ := N3
      obtain ⟨c, tc, rfl, hcg⟩ := hci.at i v hv
      have hil : i < cs.length := by rw [← hci.length]; exact (List.getElem?_eq_some_iff.mp hv).1
      have hcd : cs.getD i 0 = c := by rw [List.getD_eq_getElem?_getD, hcg]; rfl
      have hbc := hpos c (List.mem_of_getElem? hcg)
      have hof : OwnOff (tlx ++ own) [fa] := by
        intro p hp b hb
        rcases List.mem_append.mp hp with hp | hp
        · exact hof0 p hp b hb
        · rw [List.mem_singleton.mp hb]; exact hoff p hp _ (.head _)
      have hfl : fv.length ≤ 64 := by rw [htl.length]; have := usedF_length cs i; omega
      simp only [List.cons_append] at N3
      generalize hrest : tlx ++ own = rest at N3 hof
      dsimp only
      by_cases hc0 : 0 < c
      · k_steps
        refine Stop.of ?_
        rename_i D' _ l1 _ F5 N5
        dsimp only [TbPost]
        exact us_end_yes hcd hc0 hrest F5 N5 rfl rfl (neN (by omega)) (fun p hp => neN (Nat.ne_of_lt (allLt_mem l1.2 p hp))) htl hof fun p hp q hq => hoff p hp q (.tail _ hq)
      · k_steps
        refine Stop.of ?_
        dsimp only [TbPost]
        exact us_end_no hcd hc0 hrest (by assumption) (by assumption) htl hof fun p hp q hq => hoff p hp q (.tail _ hq)
    · rintro m₁ nx h tk ⟨sy, co, fv, kf, tlx, rfl, rfl, htl, hof0⟩ F3 N3
      clear F2 N2
      replace F3 : Fr s.heap L _ _ := F3
      replace N3 : News s.heap L _ _ := N3
      dsimp only
      k_steps
      refine Stop.of ?_
      have e : usedF cs cv.length = usedF cs cs.length := by rw [hci.length]
      rw [e] at htl
      have hfl := htl.length
      have hus := usedF_length cs cs.length
      generalize usedF cs cs.length = rs at *
      refine kat_sorted F3 N3 (News.isList N3 (.head _)) (by omega) (by omega) fun D e1 h' F4 N4 hlt => ?_
      have tA : TupsAt h' fv rs := htl.at (News.sub N4 fun p hp => .tail _ (.tail _ hp))
      obtain ⟨fs, f1, f2, f3⟩ := tA.firsts
      refine kat_kind (T := .type "int") f2 (by omega) (fun v hv => ?_) rfl ?_
      · obtain ⟨c, t, rfl⟩ := f3 v hv
        exact Looks.of_pure rfl
      have eb : (Value.type "int" != Value.type "tuple") = true := rfl
      rw [eb]
      rw [hfl]
      refine kasWp_of_good (s := { s with heap := h' }) (n := rs.length) (lt := gl O2 (fun k => rs.getD k (0, 0))) (R := fun p => Pm rs.length p ∧ Srt (O := O2) (fun k => rs.getD k (0, 0)) p rs.length) (fun i j C tk hi hj hC => ask_tups (s := { s with heap := h', toks := tk }) tA i j C hi hj (hC tk)) ?_ _ _ (good_sort (by omega))
      rintro p tk5 ⟨p1, p2⟩
      obtain ⟨q1, q2⟩ := sorted_pairs p1 p2
      refine KasFin.intro F4 N4 (UpdF.head (fun p hp => neN (Nat.ne_of_lt (hlt p hp)))) ?_
      intro h6 c6 F6 N6
      dsimp only
      have hpl : ∀ i ∈ p.toList, i < rs.length := fun i hi => by
        have := (Array.perm_iff_toList_perm.mp p1).mem_iff.mp hi
        simpa using this
      refine hret _ _ D _ _ _ F6.keep (N6 _ (.head _)).2.2 (N6 _ (.head _)).1 (TupsAt.pick (htl.at (News.sub N6 fun p hp => .tail _ (.tail _ hp))) p.toList hpl) ⟨tlx, htl.pick p.toList hpl, fun p hp => ?_⟩ q1 q2
      have z := N6 p (.tail _ (.tail _ hp))
      exact ⟨z.1, z.2.2⟩
  · exact fun _ => rfl
  · exact PassesOwn.never

end
theorem off_F6 : True := by
  w_top off
  trivial
section
theorem fill_now6 : tagg PySem.Challenge.rw_sf0060_01 hd.heap_39 := by
  k_fill
  trivial
local macro_rules | `(tactic| k_ne) => `(tactic| ((try dsimp only); first | assumption | (refine Ne.symm ?_; assumption)))
local macro_rules | `(tactic| walk_at "call ref") => `(tactic| refine stop ?_)
local macro_rules | `(tactic| walk_at "call builtin:len") => `(tactic| ((with_reducible show wpAny _ _ (call (Value.builtin "len") [Value.ref _]) _ _ _); refine my_len (by first | assumption | exact News.isList (by k_asm) (by k_mem)) (by omega) ?_; intro _ _))
local macro_rules | `(tactic| walk_at "call builtin:sorted") => `(tactic| refine stop ?_)
local macro_rules | `(tactic| walk_at "eval ListComp") => `(tactic| refine stop ?_)
local macro_rules | `(tactic| walk_at "pyIter ref") => `(tactic| refine stop ?_)
local macro_rules | `(tactic| walk_at "PureEnd") => `(tactic| refine stop ?_)
theorem usedF_mem (cs : List Int) : ∀ (i : Nat) (p : Int × Int), p ∈ usedF cs i → 0 ≤ p.2 ∧ p.2 < i ∧ 0 < p.1 ∧ cs.getD p.2.toNat 0 = p.1
  | 0, p, h => by unfold usedF at h; cases h
  | i + 1, p, h => by
    unfold usedF at h
    split at h
    · rename_i hc
      rcases List.mem_append.mp h with h | h
      · have := usedF_mem cs i p h
        exact ⟨this.1, by omega, this.2.2⟩
      · rw [List.mem_singleton.mp h]
        refine ⟨Int.natCast_nonneg _, by omega, hc, by simp⟩
    · have := usedF_mem cs i p h
      exact ⟨this.1, by omega, this.2.2⟩
theorem News.adds {h₀ h h' : Heap} {L : Addr} {m : Str → Option Value} {tl : List (Addr × Obj)} (F : Fr h₀ L h m) (hl : ∀ p ∈ tl, h'.get? p.1 = some p.2 ∧ h.get? p.1 = none) {q : Addr × Obj} (N : News h₀ L h' [q]) : News h₀ L h' (q :: tl) := by
  intro p hp
  rcases List.mem_cons.mp hp with rfl | hp
  · exact N _ (.head _)
  · have N0 : News h₀ L h' [] := fun p hp => nomatch hp
    exact News.add F N0 (hl p hp).2 (hl p hp).1 _ (.head _)
/-- the lengths that the pairs make, sorted -/
def leastF (n : Nat) (rs : List (Int × Int)) (longest : Nat) : List Int := placedF rs (depthsF (rs.map (·.1)) longest) (List.replicate n 0)
set_option maxHeartbeats 4000000 in
theorem least_spec {w : World} {mean : ExcName → Option Value} {mg mb : Str → Option Value} {s : Shared} {Q E : Value → Shared → Prop}
    (X : (hd.heap_39 w.params).In s.heap) (T : Top hd.view_39 (looseW hd.view_39 ["PressError"]) mean mg mb s.heap)
    {ca : Addr} {cv : List Value} {cs : List Int} (hc : s.heap.IsList ca cv.toArray) (hci : IntsAre cv cs) (hlen : cs.length < 64) (hpos : ∀ c ∈ cs, 0 ≤ c) (h2 : 2 ≤ (usedF cs cs.length).length)
    {longest : Int} {tl : Tok} (hl1 : 1 ≤ longest) (hl2 : longest ≤ 20) (hroom : ((usedF cs cs.length).length : Int) ≤ 2 ^ longest.toNat)
    (hret : ∀ h' tk f fv kf rs, s.heap.StaysIn h' → s.heap.get? f = none → h'.get? f = some (listOf (List.toArray fv) kf) → rs.Perm (usedF cs cs.length) → rs.Pairwise (fun a b => blt2 b a = false) → IntsAre fv (leastF cs.length rs longest.toNat) → Q (.ref f) { s with heap := h', toks := tk }) :
    wpAny (model PySem.Challenge.pw_sf0060_01 w) (A0 400 4000) (call (.ref 92) [.ref ca, .int longest tl]) Q E s := by
  refine enter [("counts", .ref ca), ("longest", .int longest tl)] [("longest", some (.int longest tl)), ("counts", some (.ref ca))] X T.nolimit (by k_is) (by k_is) (by decide) (BindsTo.of_eq rfl) rfl (locs rfl) (fun L h₁ tk F N => ?_) rfl rfl rfl
  k_steps
  refine Stop.of ?_
  rename Fr _ _ _ _ => F1
  rename News _ _ _ _ => N1
  refine at_A0 (used_spec (X.keeps F1.keep) (T.keeps F1.keep) (stays_list F1.keep hc) hci hlen hpos h2 ?_) rfl (Nat.le_of_ble_eq_true rfl) (Nat.le_of_ble_eq_true rfl)
  intro h3 tk3 ra rv kr rs st fr gr tu tul hperm hsrt
  have F3 := F1.keeps st
  obtain ⟨tlx, htl, htf⟩ := tul
  have N3 : News s.heap L h3 ((ra, listOf rv.toArray kr) :: tlx) := News.adds F1 htf (News.add F1 (N1.grown st) fr gr)
  clear F1 N1
  dsimp only
  have hrl : rv.length = rs.length := tu.length
  have hrs : rs.length = (usedF cs cs.length).length := hperm.length_eq
  have hus := usedF_length cs cs.length
  k_steps
  refine Stop.of ?_
  rename Fr _ _ _ _ => F4
  rename News _ _ _ _ => N4
  refine at_A0 (check_room_spec (X.keeps F4.keep) (T.keeps F4.keep) (by omega) (by omega) (by omega) (by rw [hrl, hrs]; exact hroom) ?_) rfl (Nat.le_of_ble_eq_true rfl) (Nat.le_of_ble_eq_true rfl)
  intro h5 tk5 st5
  have F5 := F4.keeps st5
  have N5 := N4.grown st5
  clear F4 N4
  dsimp only
  k_steps
  refine Stop.of ?_
  refine comp_pairs F5 rfl (by with_unfolding_all rfl) (by decide) rfl (by decide) rfl rfl (by decide) ?_
  k_steps
  refine Stop.of ?_
  refine ksrc_tups (n := rs.length) (fun j y => ∃ t, y = .int (rs.getD j (0, 0)).1 t) (fun j a b => ∃ t u, a = .int (rs.getD j (0, 0)).1 t ∧ b = .int (rs.getD j (0, 0)).2 u) rfl F5 N5 (News.isList N5 (.head _)) hrl (by rw [sizeLine_eq]; omega) ?_ ?_ ?_
  · intro j hj
    obtain ⟨a, t, u, e1, e2⟩ := (htl.at (News.sub N5 fun p hp => .tail _ hp)).get hj
    exact ⟨a, _, _, e1, e2, t, u, rfl, rfl⟩
  · rintro g j a b C oC D ys m₂ h6 tk6 E' hj ⟨t6, u6, rfl, rfl⟩ hC hx hx2 F6 N6
    clear F5 N5
    k_steps
    refine Stop.of ?_
    exact ⟨⟨_, rfl⟩, _, rfl⟩
  · intro g ys hys hyg
    unfold LCg.FinE
    intro D h6 tk6 F6 N6 o6
    clear F5 N5
    dsimp only
    have hyi : IntsAre ys (rs.map (·.1)) := by
      refine ints_of_get (by rw [hys, List.length_map]) fun j y hy => ?_
      obtain ⟨t, rfl⟩ := hyg j y hy
      have hj : j < rs.length := by rw [← hys]; exact (List.getElem?_eq_some_iff.mp hy).1
      refine ⟨t, ?_⟩
      congr 1
      simp [List.getD_eq_getElem?_getD, List.getElem?_map, hj]
    k_steps
    refine Stop.of ?_
    refine at_A0 (package_spec (X.keeps F6.keep) (T.keeps F6.keep) (News.isList N6 (.head _)) hyi (by rw [List.length_map]; omega) (by rw [List.length_map]; omega) hl1 hl2 ?_) rfl (Nat.le_of_ble_eq_true rfl) (Nat.le_of_ble_eq_true rfl)
    intro h7 tk7 d dv kd st7 fd gd hdi
    have F7 := F6.keeps st7
    have N7 := News.add F6 (N6.grown st7) fd gd
    clear F6 N6
    dsimp only
    have hdl : (depthsF (rs.map (·.1)) longest.toNat).length = rs.length := by unfold depthsF; rw [backF_length, List.length_map]
    have hcl : cv.length = cs.length := hci.length
    k_steps
    refine Stop.of ?_
    refine at_A0 (placed_spec (X.keeps F7.keep) (T.keeps F7.keep) (News.isList N7 (.tail _ (.tail _ (.head _)))) (htl.at (News.sub N7 fun p hp => .tail _ (.tail _ (.tail _ hp)))) (News.isList N7 (.head _)) hdi hdl.symm (by omega) (by omega) (by omega) ?_ ?_) rfl (Nat.le_of_ble_eq_true rfl) (Nat.le_of_ble_eq_true rfl)
    · intro p hp
      have := usedF_mem cs cs.length p (hperm.mem_iff.mp hp)
      omega
    · intro h8 tk8 f fv kf st8 ff gf hfi
      have F8 := F7.keeps st8
      have hf0 : s.heap.get? f = none := by
        cases q : s.heap.get? f with
        | none => rfl
        | some o' => have z := F7.keep f o' q; rw [ff] at z; cases z
      clear F7 N7
      dsimp only
      k_steps
      refine hret _ _ f fv kf rs F8.keep hf0 gf hperm hsrt ?_
      unfold leastF
      rw [Int.toNat_natCast] at hfi
      exact hfi

end
theorem off_G1 : True := by
  w_top off
  trivial
section
theorem fill_now7 : tagg PySem.Challenge.rw_sf0060_01 hd.heap_39 := by
  k_fill
  trivial
def gone (a : Addr) (h : Heap) : Heap := h.update a fun _ => ⟨.none, none, .freed, #[]⟩
theorem gone_ne {a b : Addr} {h : Heap} (e : b ≠ a) : (gone a h).get? b = h.get? b := Heap.get?_update_ne _ _ _ _ e
theorem gone_self {a : Addr} {h : Heap} : (gone a h).get? a = none := by
  unfold gone Heap.update Heap.get?
  cases h
  rename_i objs life
  dsimp only
  rw [Array.getElem?_modify, if_pos rfl]
  cases objs[a]? <;> rfl
theorem gone_size {a : Addr} {h : Heap} : (gone a h).objs.size = h.objs.size := Heap.size_update ..
theorem gone_old {a b : Addr} {h : Heap} {o : Obj} (e : (gone a h).get? b = some o) : h.get? b = some o := by
  by_cases q : b = a
  · rw [q, gone_self] at e; cases e
  · rw [gone_ne q] at e; exact e
theorem base_gone {a : Addr} {hb h : Heap} (hk : ∀ b o, hb.get? b = some o → h.get? b = some o) (h0 : hb.get? a = none) : ∀ b o, hb.get? b = some o → (gone a h).get? b = some o := fun b o e => by
  rw [gone_ne (fun q => by rw [q, h0] at e; cases e)]
  exact hk b o e
/-- enters a def, over a base that may lack some of the heap's objects -/
theorem enter0 {prog : Program} {w : World} {A : Around} {s : Shared} {K : Frag} {h₀ : Heap} {Q E : Value → Shared → Prop}
    {name qual : Str} {params : Arguments} {body : List Stmt} {scope : Scope} {dV kV doc pm cdv ct oc : Value} {an od : Option Addr} {osl : Array (Option Value)} {f : Addr} {vals : List Value}
    (binds : List (Str × Value)) (ms : List (Str × Option Value)) (hk₀ : ∀ b o, h₀.get? b = some o → s.heap.get? b = some o) (hz : h₀.objs.size ≤ s.heap.objs.size)
    (X : K.In h₀) (hlim : s.heap.NoLimit)
    (ho : K.lookup f = some ⟨oc, od, .func (fnOf name qual params body scope dV kV doc pm an cdv ct), osl⟩) (hcd : codeIn K cdv qual = true) (hroom : A.depth < recursionLimit)
    (hbind : BindsTo s (fnOf name qual params body scope dV kV doc pm an cdv ct) ⟨vals, []⟩ binds) (hms : ms = binds.reverse.map fun p => (p.1, some p.2)) (hloc : ∀ y ∈ binds, scope.names.lookup y.1 = some .local)
    {news : List (Addr × Obj)} (hn : ∀ p ∈ news, s.heap.get? p.1 = some p.2 ∧ h₀.get? p.1 = none)
    (h : ∀ L h₁ tk, Fr h₀ L h₁ (mk ms) → News h₀ L h₁ news → (∀ b o, s.heap.get? b = some o → b ≠ L ∧ h₁.get? b = some o) →
      wpAny (model prog w) (A.deeper (envOf qual scope L f cdv)) (execs body (envOf qual scope L f cdv))
        (fun fl s' => Q (match fl with | .ret v => v | _ => .none) s') (fun _ _ => False)
        { s with heap := h₁, toks := tk })
    (hco : scope.isCoroutine = false := by rfl) (hgen : scope.isGenerator = false := by rfl) (hk : scope.kind = .function := by rfl)
    (hcell : ∀ x ∈ scope.names, x.2 ≠ .cell := by decide) :
    wpAny (model prog w) A (call (.ref f) vals) Q E s := by
  refine wpAny_call ?_
  have X1 := X.keeps hk₀
  refine codeAny_call_def (fd := fnOf name qual params body scope dV kV doc pm an cdv ct) (body := body) (binds := binds) hroom (X1 _ _ ho) rfl hlim (codeRec_of X1 hcd) rfl hbind hcell hloc (fun h₁ hns hk₁ => ?_) hco hgen hk
  have e : (fun y => binds.reverse.lookup y) = mk ms := by funext y; rw [lookup_mk, hms]
  rw [e] at hns
  refine wpAny_mono (h _ h₁ _ ⟨hns, fun b o e => hk₁ b o (hk₀ b o e), hz⟩ (fun p hp => ⟨hk₁ _ _ (hn p hp).1, Nat.ne_of_lt (Heap.lt_size (hn p hp).1), (hn p hp).2⟩) (fun b o e => ⟨Nat.ne_of_lt (Heap.lt_size e), hk₁ b o e⟩)) (fun _ _ x => x) (fun _ _ x => x.elim)
local macro_rules | `(tactic| k_ne) => `(tactic| ((try dsimp only); first | assumption | (refine Ne.symm ?_; assumption)))
theorem fmod_in {a m : Int} (h : 1 ≤ m) : 0 ≤ a.fmod m ∧ a.fmod m < m := by
  rw [Int.fmod_eq_emod_of_nonneg _ (by omega)]
  exact ⟨Int.emod_nonneg _ (by omega), Int.emod_lt_of_pos _ (by omega)⟩
set_option maxHeartbeats 4000000 in
theorem pick_spec {w : World} {mean : ExcName → Option Value} {mg mb : Str → Option Value} {s : Shared} {Q E : Value → Shared → Prop} {hb : Heap}
    (X : (hd.heap_39 w.params).In hb) (T : Top hd.view_39 (looseW hd.view_39 ["PressError"]) mean mg mb hb) (hk : ∀ b o, hb.get? b = some o → s.heap.get? b = some o)
    {jar row : Addr} {rv : List Value} {ks : List Int} {at1 many : Int} {ta tm : Tok} {kj : Nat} (hj0 : hb.get? jar = none) (hj : s.heap.get? jar = some (listOf [Value.ref row, .int at1 ta].toArray kj))
    (hr : s.heap.IsList row rv.toArray) (hrj : row ≠ jar) (hri : IntsAre rv ks) (hkl : ks.length ≤ 20) (ha0 : 0 ≤ at1) (ha1 : at1 ≤ 100) (hm0 : 1 ≤ many) (hm1 : many ≤ 1000)
    (hret : ∀ h' tk x tx t' kj', (∀ b o, b ≠ jar → s.heap.get? b = some o → h'.get? b = some o) → h'.get? jar = some (listOf [Value.ref row, .int (at1 + 1) t'].toArray kj') → 0 ≤ x → x < many → Q (.int x tx) { s with heap := h', toks := tk }) :
    wpAny (model PySem.Challenge.pw_sf0060_01 w) (A0 500 5000) (call (.ref 104) [.ref jar, .int many tm]) Q E s := by
  have hbg := base_gone hk hj0
  have X := X.keeps hbg
  have T := T.keeps hbg
  have hr0 : (gone jar s.heap).IsList row rv.toArray := hr.at fun o e => by rw [gone_ne hrj]; exact e
  have hg0 : (gone jar s.heap).get? jar = none := gone_self
  refine enter0 (h₀ := gone jar s.heap) [("jar", .ref jar), ("many", .int many tm)] [("many", some (.int many tm)), ("jar", some (.ref jar))] (fun b o e => gone_old e) (Nat.le_of_eq gone_size) X (T.keeps fun b o e => gone_old e).nolimit (by k_is) (by k_is) (by decide) (BindsTo.of_eq rfl) rfl (locs rfl)
    (news := [(jar, listOf [Value.ref row, .int at1 ta].toArray kj)]) (fun p hp => by rw [List.mem_singleton.mp hp]; exact ⟨hj, hg0⟩) (fun L h₁ tk F N hk1 => ?_) rfl rfl rfl
  have hrl := hri.length
  k_steps
  all_goals
    rename Fr _ _ _ _ => FF
    rename News _ _ _ _ => NN
    dsimp only
    refine hret _ _ _ _ _ _ (fun b o hb e => FF.keep b o (by rw [gone_ne hb]; exact e)) (NN _ (.head _)).1 (fmod_in hm0).1 (fmod_in hm0).2
local macro_rules | `(tactic| walk_at "call ref") => `(tactic| refine stop ?_)
set_option maxHeartbeats 4000000 in
theorem jar_spec {w : World} {mean : ExcName → Option Value} {mg mb : Str → Option Value} {s : Shared} {Q E : Value → Shared → Prop}
    (X : (hd.heap_39 w.params).In s.heap) (T : Top hd.view_39 (looseW hd.view_39 ["PressError"]) mean mg mb s.heap)
    {sa : Addr} {sv : List Value} {ns : List Int} (hs : s.heap.IsList sa sv.toArray) (hsi : IntsAre sv ns) (hsl : ns.length ≤ 63)
    (hret : ∀ h' tk jar row rv ks t kr kj, s.heap.StaysIn h' → s.heap.get? jar = none → s.heap.get? row = none → row ≠ jar → h'.get? jar = some (listOf [Value.ref row, .int 0 t].toArray kj) → h'.get? row = some (listOf (List.toArray rv) kr) → IntsAre rv ks → ks.length ≤ 20 → Q (.ref jar) { s with heap := h', toks := tk }) :
    wpAny (model PySem.Challenge.pw_sf0060_01 w) (A0 500 5000) (call (.ref 97) [.ref sa]) Q E s := by
  refine enter [("script", .ref sa)] [("script", some (.ref sa))] X T.nolimit (by k_is) (by k_is) (by decide) (BindsTo.of_eq rfl) rfl (locs rfl) (fun L h₁ tk F N => ?_) rfl rfl rfl
  have hl := hsi.length
  k_steps
  rename_i ys hI8 hL8 D' h' tk' o1' l' hh F' N' l1
  dsimp only
  exact hret _ _ l' D' ys _ _ _ 0 F'.keep (N' _ (.head _)).2.2 (N' _ (.tail _ (.head _))).2.2 (neN (by omega)) (N' _ (.head _)).1 (N' _ (.tail _ (.head _))).1 hI8 (by rw [List.length_map, List.length_take]; omega)

end
theorem off_G2 : True := by
  w_top off
  trivial
section
theorem fill_now8 : tagg PySem.Challenge.rw_sf0060_01 hd.heap_39 := by
  k_fill
  trivial
/-- a leaf is split -/
def splitF (ls : List Int) (x : Nat) : List Int := ls.take x ++ [ls.getD x 0 + 1, ls.getD x 0 + 1] ++ ls.drop (x + 1)
inductive Code : Nat → List Int → Prop
  | zero : Code 0 [0]
  | split {t : Nat} {ls : List Int} {x : Nat} : Code t ls → x < ls.length → Code (t + 1) (splitF ls x)
theorem Code.length {t : Nat} {ls : List Int} (h : Code t ls) : ls.length = t + 1 := by
  induction h with
  | zero => rfl
  | split _ hx ih => unfold splitF; simp only [List.length_append, List.length_take, List.length_cons, List.length_nil, List.length_drop]; omega
theorem Code.bound {t : Nat} {ls : List Int} (h : Code t ls) : ∀ l ∈ ls, 0 ≤ l ∧ l ≤ t := by
  induction h with
  | zero => intro l hl; rw [List.mem_singleton.mp hl]; omega
  | @split t ls x _ hx ih =>
    intro l hl
    unfold splitF at hl
    have hg := ih (ls.getD x 0) (by rw [List.getD_eq_getElem?_getD, List.getElem?_eq_getElem hx]; exact List.getElem_mem _)
    rcases List.mem_append.mp hl with hl | hl
    · rcases List.mem_append.mp hl with hl | hl
      · have := ih l (List.mem_of_mem_take hl); omega
      · simp only [List.mem_cons, List.not_mem_nil, or_false] at hl
        omega
    · have := ih l (List.mem_of_mem_drop hl); omega
theorem fr_pick {h₀ h h' : Heap} {L jar : Addr} {m : Str → Option Value} (F : Fr h₀ L h m) (hk : ∀ b o, b ≠ jar → h.get? b = some o → h'.get? b = some o) (h0 : h₀.get? jar = none) (hL : jar ≠ L) : Fr h₀ L h' m :=
  ⟨F.ns.at' fun o e => hk L o (Ne.symm hL) e, fun b o e => hk b o (fun q => by rw [q, h0] at e; cases e) (F.keep b o e), F.above⟩
theorem news_pick {h₀ h h' : Heap} {L jar : Addr} {o o' : Obj} {news : List (Addr × Obj)} (N : News h₀ L h ((jar, o) :: news)) (hk : ∀ b o, b ≠ jar → h.get? b = some o → h'.get? b = some o) (hj : h'.get? jar = some o') (off : ∀ p ∈ news, p.1 ≠ jar) : News h₀ L h' ((jar, o') :: news) := by
  intro p hp
  rcases List.mem_cons.mp hp with rfl | hp
  · exact ⟨hj, (N _ (.head _)).2⟩
  · have z := N p (.tail _ hp)
    exact ⟨hk _ _ (off p hp) z.1, z.2⟩
abbrev lcMap (jar fa : Addr) (tu sp : Option Value) : Str → Option Value :=
  mk [("spot", sp), ("turn", tu), ("found", some (.ref fa)), ("jar", some (.ref jar))]
def lcInv (jar row : Addr) (i : Nat) (m : Str → Option Value) (nx : List (Addr × Obj)) : Prop :=
  ∃ fa tu sp fv ls kf at1 ta kj, m = lcMap jar fa tu sp ∧ nx = [(jar, listOf [Value.ref row, .int at1 ta].toArray kj), (fa, listOf (List.toArray fv) kf)] ∧ fa ≠ jar ∧ IntsAre fv ls ∧ Code i ls ∧ at1 = (i : Int) + 1
theorem lc_end {h₀ h : Heap} {L jar row fa D : Addr} {tu sp : Option Value} {x6 k at1 : Int} {tx6 t t6 : Tok} {kj6 i tk kw : Nat} {ws : List Value} {ls : List Int} {nn own : List (Addr × Obj)} {s₁ : Shared}
    (F : Fr h₀ L h (fun y => if y = "found" then some (.ref D) else if y = "spot" then some (.int x6 tx6) else if y = "turn" then some (.int k t) else lcMap jar fa tu sp y))
    (N : News h₀ L h nn) (hD : (D, listOf ws.toArray kw) ∈ nn) (hj : (jar, listOf [Value.ref row, .int (at1 + 1) t6].toArray kj6) ∈ nn) (ho : ∀ p ∈ own, p ∈ nn)
    (hDj : D ≠ jar) (hDo : ∀ p ∈ own, p.1 ≠ D) (hob : ∀ p ∈ own, p.1 ≠ jar) (hi : IntsAre ws (ls.take x6.toNat ++ (List.replicate (Int.toNat 2) [ls.getD x6.toNat 0 + 1]).flatten ++ ls.drop (x6 + 1).toNat))
    (hco : Code i ls) (h0 : 0 ≤ x6) (h1 : x6 < ls.length) (hat : at1 = (i : Int) + 1) :
    TbEnd h₀ L (lcInv jar row (i + 1)) own s₁ { s₁ with heap := h, toks := tk } := by
  refine ⟨_, _, _, _, [(jar, listOf [Value.ref row, .int (at1 + 1) t6].toArray kj6), (D, listOf ws.toArray kw)], rfl, F, N, fun p hp => ?_, ho, fun p hp q hq => ?_, D, some (.int k t), some (.int x6 tx6), ws, splitF ls x6.toNat, kw, at1 + 1, t6, kj6, ?_, rfl, hDj, ?_, hco.split (by omega), by omega⟩
  · simp only [List.mem_cons, List.not_mem_nil, or_false] at hp
    rcases hp with rfl | rfl
    · exact hj
    · exact hD
  · simp only [List.mem_cons, List.not_mem_nil, or_false] at hq
    rcases hq with rfl | rfl
    · exact hob p hp
    · exact hDo p hp
  · refine mk_ext ["spot", "turn", "found", "jar"] ⟨rfl, rfl, rfl, rfl, trivial⟩ ?_
    rintro y ⟨h1, h2, h3, h4, -⟩
    simp only [mk, h1, h2, h3, h4, if_false]
  · have e : (x6 + 1).toNat = x6.toNat + 1 := by omega
    rw [e] at hi
    exact hi
local macro_rules | `(tactic| k_ne) => `(tactic| ((try dsimp only); first | assumption | (refine Ne.symm ?_; assumption)))
local macro_rules | `(tactic| walk_at "call ref") => `(tactic| refine stop ?_)
local macro_rules | `(tactic| walk_at "exec For Name Call cons nil") => `(tactic| refine stop ?_)
local macro_rules | `(tactic| walk_at "pyIter ref") => `(tactic| refine stop ?_)
local macro_rules | `(tactic| walk_at "TbPost") => `(tactic| refine stop ?_)
set_option maxHeartbeats 4000000 in
theorem code_spec {w : World} {mean : ExcName → Option Value} {mg mb : Str → Option Value} {s : Shared} {Q E : Value → Shared → Prop} {hb : Heap}
    (X : (hd.heap_39 w.params).In hb) (T : Top hd.view_39 (looseW hd.view_39 ["PressError"]) mean mg mb hb) (hk : ∀ b o, hb.get? b = some o → s.heap.get? b = some o)
    {jar row : Addr} {rv : List Value} {ks : List Int} {ta : Tok} {kj : Nat} (hj0 : hb.get? jar = none) (hj : s.heap.get? jar = some (listOf [Value.ref row, .int 0 ta].toArray kj))
    (hr : s.heap.IsList row rv.toArray) (hrj : row ≠ jar) (hri : IntsAre rv ks) (hkl : ks.length ≤ 20)
    (hret : ∀ h' tk f fv kf ls n t' kj', (∀ b o, b ≠ jar → s.heap.get? b = some o → h'.get? b = some o) → h'.get? jar = some (listOf [Value.ref row, .int ((n : Nat) + 1 : Int) t'].toArray kj') → s.heap.get? f = none → h'.get? f = some (listOf (List.toArray fv) kf) → IntsAre fv ls → Code n ls → 1 ≤ n → n ≤ 11 → Q (.ref f) { s with heap := h', toks := tk }) :
    wpAny (model PySem.Challenge.pw_sf0060_01 w) (A0 400 4000) (call (.ref 111) [.ref jar]) Q E s := by
  have hbg := base_gone hk hj0
  have X := X.keeps hbg
  have T := T.keeps hbg
  have hr0 : (gone jar s.heap).IsList row rv.toArray := hr.at fun o e => by rw [gone_ne hrj]; exact e
  have hg0 : (gone jar s.heap).get? jar = none := gone_self
  refine enter0 (h₀ := gone jar s.heap) [("jar", .ref jar)] [("jar", some (.ref jar))] (fun b o e => gone_old e) (Nat.le_of_eq gone_size) X (T.keeps fun b o e => gone_old e).nolimit (by k_is) (by k_is) (by decide) (BindsTo.of_eq rfl) rfl (locs rfl)
    (news := [(jar, listOf [Value.ref row, .int 0 ta].toArray kj)]) (fun p hp => by rw [List.mem_singleton.mp hp]; exact ⟨hj, hg0⟩) (fun L h₁ tk F N hk1 => ?_) rfl rfl rfl
  have hrl := hri.length
  k_steps
  refine Stop.of ?_
  rename Fr _ _ _ _ => F1
  refine For_invVF F1 rfl rfl ?_ ?_ ?_
  · k_steps
    refine Stop.of ?_
    rename Fr _ _ _ _ => F2
    rename News _ _ _ _ => N2
    rename_i fa hA l1 hB
    have hfj : fa ≠ jar := neN (by omega)
    obtain ⟨tkB, N2'⟩ : ∃ tkB, News (gone jar s.heap) L hB [(jar, listOf [Value.ref row, .int 0 ta].toArray kj), (fa, listOf [Value.int 0 tkB].toArray 0)] := ⟨_, News.sub N2 (fun p hp => by simp only [List.mem_cons, List.not_mem_nil, or_false] at hp ⊢; exact hp.symm)⟩
    refine at_A0 (pick_spec X T F2.keep hg0 (N2' _ (.head _)).1 (stays_list F2.keep hr0) hrj hri hkl (by omega) (by omega) (by omega) (by omega) ?_) rfl (Nat.le_of_ble_eq_true rfl) (Nat.le_of_ble_eq_true rfl)
    intro h3 tk3 x tx t3 kj3 hk3 hj3 hx0 hx1
    have F3 := fr_pick F2 hk3 hg0 (N2' _ (.head _)).2.1
    have N3 := news_pick N2' hk3 hj3 (fun p hp => by rw [List.mem_singleton.mp hp]; exact hfj)
    clear F2 N2 N2'
    dsimp only
    k_steps
    refine Stop.of ?_
    rename Fr _ _ _ _ => F4
    rename News _ _ _ _ => N4
    rename IsRange _ _ _ _ _ _ _ _ => R4
    refine tbr_invG (lcInv jar row) (n := (1 + x).toNat) rfl R4 (small_one (by omega) (by omega) (by omega) (by omega)) (by rw [rangeSize_nat]; omega) F4 N4 ?_ ?_ ?_
    · refine ⟨fa, none, none, _, [0], 0, _, _, _, mk_ext ["spot", "turn", "found", "jar"] ⟨rfl, rfl, rfl, rfl, trivial⟩ ?_, rfl, hfj, IntsAre.cons _ _ IntsAre.nil, Code.zero, rfl⟩
      rintro y ⟨h1, h2, h3, h4, -⟩
      simp only [mk, h1, h2, h3, h4, if_false]
    · rintro i k t m₁ nx h tk own hk hoff ⟨fa, tu, sp, fv, ls, kf, at1, ta1, kj1, rfl, rfl, hfj, hfi, hco, hat⟩ F5 N5
      clear F4 N4 R4
      have hi : i < (1 + x).toNat := by
        have h9 := (List.getElem?_eq_some_iff.mp hk).1
        rwa [rangeKs_length] at h9
      replace F5 : Fr (gone jar s.heap) L _ _ := F5
      replace N5 : News (gone jar s.heap) L _ _ := N5
      have hcl := hco.length
      have hfl := hfi.length
      have hob : ∀ p ∈ own, p.1 ≠ jar := fun p hp => hoff p hp _ (.head _)
      have hof : ∀ p ∈ own, p.1 ≠ fa := fun p hp => hoff p hp _ (.tail _ (.head _))
      simp only [List.cons_append, List.nil_append] at N5
      dsimp only
      k_steps
      refine Stop.of ?_
      refine at_A0 (pick_spec X T F5.keep hg0 (N5 _ (.head _)).1 (stays_list F5.keep hr0) hrj hri hkl (by omega) (by omega) (by omega) (by omega) ?_) rfl (Nat.le_of_ble_eq_true rfl) (Nat.le_of_ble_eq_true rfl)
      intro h6 tk6 x6 tx6 t6 kj6 hk6 hj6 hx60 hx61
      have F6 := fr_pick F5 hk6 hg0 (N5 _ (.head _)).2.1
      have N6 := news_pick N5 hk6 hj6 (fun p hp => by
        rcases List.mem_cons.mp hp with rfl | hp
        · exact hfj
        · exact hob p hp)
      clear F5 N5
      dsimp only
      k_steps
      refine Stop.of ?_
      rename_i D _ _ hI l1 _ FF NN
      dsimp only [TbPost]
      exact lc_end FF NN (.head _) (by k_mem) (fun p hp => by simp [hp]) (neN (by omega)) (fun p hp => neN (Nat.ne_of_lt (allLt_mem l1.2.2.2.2.2.2.2 p hp))) hob hI hco hx60 hx61 hat
    · rintro m₁ nx h tk ⟨fa, tu, sp, fv, ls, kf, at1, ta1, kj1, rfl, rfl, hfj, hfi, hco, hat⟩ F5 N5
      clear F4 N4 R4
      replace F5 : Fr (gone jar s.heap) L _ _ := F5
      replace N5 : News (gone jar s.heap) L _ _ := N5
      dsimp only
      have hf0 : s.heap.get? fa = none := by
        rw [← gone_ne hfj]; exact (N5 _ (.tail _ (.head _))).2.2
      have hat' : at1 = (((1 + x).toNat : Nat) : Int) + 1 := hat
      subst hat'
      k_steps
      exact hret _ _ fa fv kf ls (1 + x).toNat _ _ (fun b o hb e => F5.keep b o (by rw [gone_ne hb]; exact e)) (N5 _ (.head _)).1 hf0 (N5 _ (.tail _ (.head _))).1 hfi hco (by omega) (by omega)
  · exact fun _ => rfl
  · exact PassesOwn.never

end
theorem off_M1 : True := by
  w_top off
  trivial
section
def Sortd (l : List Int) : Prop := l.Pairwise (fun a b => a ≤ b)
def clt (t : Int) (l : List Int) : Nat := l.countP (fun x => decide (x < t))
def cle (t : Int) (l : List Int) : Nat := l.countP (fun x => decide (x ≤ t))
theorem pairs_all (t : Int) : ∀ l : List Int, (∀ x ∈ l, t ≤ x) → ∀ y ∈ pairsF l, 2 * t ≤ y
  | [], _, y, hy => by simp [pairsF] at hy
  | [_], _, y, hy => by simp [pairsF] at hy
  | a :: b :: r, h, y, hy => by
    rw [pairsF] at hy
    have ha := h a (by simp)
    have hb := h b (by simp)
    rcases List.mem_cons.mp hy with rfl | hy
    · omega
    · exact pairs_all t r (fun x hx => h x (by simp [hx])) y hy
theorem clt_zero {t : Int} {l : List Int} (h : ∀ x ∈ l, t ≤ x) : clt t l = 0 := by
  unfold clt
  rw [List.countP_eq_zero]
  intro x hx
  have := h x hx
  simp; omega
theorem cle_zero {t : Int} {l : List Int} (h : ∀ x ∈ l, t < x) : cle t l = 0 := by
  unfold cle
  rw [List.countP_eq_zero]
  intro x hx
  have := h x hx
  simp; omega
theorem cle_le_clt {t u : Int} (h : t < u) (l : List Int) : cle t l ≤ clt u l := by
  unfold cle clt
  exact List.countP_mono_left fun x _ hx => by simp only [decide_eq_true_eq] at hx ⊢; omega
theorem clt_cons (t a : Int) (l : List Int) : clt t (a :: l) = clt t l + (if a < t then 1 else 0) := by unfold clt; rw [List.countP_cons]; simp
theorem cle_cons (t a : Int) (l : List Int) : cle t (a :: l) = cle t l + (if a ≤ t then 1 else 0) := by unfold cle; rw [List.countP_cons]; simp
theorem pairs_le (t : Int) : ∀ l : List Int, Sortd l → clt (2 * t) (pairsF l) ≤ (clt t l + 1) / 2
  | [], _ => by simp [pairsF, clt]
  | [_], _ => by simp [pairsF, clt]
  | a :: b :: r, h => by
    have h1 := List.pairwise_cons.mp h
    have h2 := List.pairwise_cons.mp h1.2
    have hab := h1.1 b (by simp)
    have ih := pairs_le t r h2.2
    rw [pairsF, clt_cons, clt_cons, clt_cons]
    by_cases hb : b < t
    · rw [if_pos hb, if_pos (by omega : a < t)]
      split <;> omega
    · have z1 : clt t r = 0 := clt_zero fun x hx => by have := h2.1 x hx; omega
      have z2 : clt (2 * t) (pairsF r) = 0 := clt_zero (pairs_all t r fun x hx => by have := h2.1 x hx; omega)
      rw [z1, z2, if_neg hb]
      by_cases ha : a < t
      · rw [if_pos ha]; split <;> omega
      · rw [if_neg ha, if_neg (by omega)]; omega
theorem pairs_ge (t : Int) : ∀ l : List Int, Sortd l → cle t l / 2 ≤ cle (2 * t) (pairsF l)
  | [], _ => by simp [pairsF, cle]
  | [a], _ => by
    rw [cle_cons]; unfold cle; simp only [List.countP_nil, pairsF]; split <;> omega
  | a :: b :: r, h => by
    have h1 := List.pairwise_cons.mp h
    have h2 := List.pairwise_cons.mp h1.2
    have hab := h1.1 b (by simp)
    have ih := pairs_ge t r h2.2
    rw [pairsF, cle_cons, cle_cons, cle_cons]
    by_cases hb : b ≤ t
    · rw [if_pos hb, if_pos (by omega : a ≤ t), if_pos (by omega)]
      omega
    · have z1 : cle t r = 0 := cle_zero fun x hx => by have := h2.1 x hx; omega
      rw [z1, if_neg hb]
      split <;> omega
theorem merge_countP (p : Int → Bool) : ∀ ws ps : List Int, (mergeF ws ps).1.countP p = ws.countP p + ps.countP p
  | [], ps => by simp [mergeF]
  | w :: ws, [] => by rw [mergeF_nil]; simp
  | w :: ws, q :: ps => by
    have h1 := merge_countP p ws (q :: ps)
    have h2 := merge_countP p (w :: ws) ps
    rw [mergeF]
    split
    · rw [List.countP_cons, h1, List.countP_cons (a := w)]; omega
    · rw [List.countP_cons, h2, List.countP_cons (a := q) (l := ps)]; omega
theorem merge_mem : ∀ (ws ps : List Int) (x : Int), x ∈ (mergeF ws ps).1 → x ∈ ws ∨ x ∈ ps := by
  intro ws ps x hx
  have h := merge_countP (fun y => y == x) ws ps
  have h0 : 0 < (mergeF ws ps).1.countP (fun y => y == x) := List.countP_pos_iff.mpr ⟨x, hx, by simp⟩
  rw [h] at h0
  by_cases h1 : 0 < ws.countP (fun y => y == x)
  · obtain ⟨y, hy, e⟩ := List.countP_pos_iff.mp h1
    exact .inl (by simp at e; exact e ▸ hy)
  · obtain ⟨y, hy, e⟩ := List.countP_pos_iff.mp (by omega : 0 < ps.countP (fun y => y == x))
    exact .inr (by simp at e; exact e ▸ hy)
theorem merge_sorted : ∀ ws ps : List Int, Sortd ws → Sortd ps → Sortd (mergeF ws ps).1
  | [], ps, _, h => by simpa [mergeF] using h
  | w :: ws, [], h, _ => by rw [mergeF_nil]; exact h
  | w :: ws, q :: ps, hw, hp => by
    have w1 := List.pairwise_cons.mp hw
    have p1 := List.pairwise_cons.mp hp
    have h1 := merge_sorted ws (q :: ps) w1.2 hp
    have h2 := merge_sorted (w :: ws) ps hw p1.2
    rw [mergeF]
    split
    · rename_i h
      refine List.pairwise_cons.mpr ⟨fun x hx => ?_, h1⟩
      rcases merge_mem _ _ _ hx with hx | hx
      · exact w1.1 x hx
      · rcases List.mem_cons.mp hx with rfl | hx
        · exact h
        · have := p1.1 x hx; omega
    · rename_i h
      refine List.pairwise_cons.mpr ⟨fun x hx => ?_, h2⟩
      rcases merge_mem _ _ _ hx with hx | hx
      · rcases List.mem_cons.mp hx with rfl | hx
        · omega
        · have := w1.1 x hx; omega
      · exact p1.1 x hx
theorem pairs_sorted : ∀ l : List Int, Sortd l → Sortd (pairsF l)
  | [], _ => .nil
  | [_], _ => .nil
  | a :: b :: r, h => by
    have h1 := List.pairwise_cons.mp h
    have h2 := List.pairwise_cons.mp h1.2
    have hab := h1.1 b (by simp)
    rw [pairsF]
    refine List.pairwise_cons.mpr ⟨fun y hy => ?_, pairs_sorted r h2.2⟩
    have := pairs_all b r h2.1 y hy
    omega
theorem row_sorted {ws : List Int} (h : Sortd ws) : ∀ j, Sortd (rowF ws j)
  | 0 => .nil
  | j + 1 => merge_sorted _ _ h (pairs_sorted _ (row_sorted h j))
theorem row_all {ws : List Int} {m : Int} (h0 : 0 ≤ m) (h : ∀ x ∈ ws, m ≤ x) : ∀ j, ∀ x ∈ rowF ws j, m ≤ x
  | 0, x, hx => by simp [rowF] at hx
  | j + 1, x, hx => by
    rcases merge_mem _ _ _ hx with hx | hx
    · exact h x hx
    · have := pairs_all m _ (row_all h0 h j) x hx; omega
theorem taken_zero (l : List Bool) : takenF l 0 = 0 := by simp [takenF]
theorem taken_thresh (t : Int) : ∀ ws ps : List Int, Sortd ws → Sortd ps → takenF (mergeF ws ps).2 (cle t ws + cle t ps) = cle t ws
  | [], ps, _, _ => by
    have : cle t [] = 0 := rfl
    rw [this]
    unfold takenF
    simp [mergeF, List.count_eq_zero]
    intro h
    have := List.mem_of_mem_take h
    simp at this
  | w :: ws, [], hw, _ => by
    rw [mergeF_nil]
    have e : cle t [] = 0 := rfl
    rw [e]
    have hle : cle t (w :: ws) ≤ (w :: ws).length := List.countP_le_length
    have em : (w :: ws).map (fun _ => true) = List.replicate (w :: ws).length true := List.map_const' ..
    unfold takenF
    rw [em, List.take_replicate, List.count_replicate]
    simp only [beq_self_eq_true, if_true]
    omega
  | w :: ws, q :: ps, hw, hp => by
    have w1 := List.pairwise_cons.mp hw
    have p1 := List.pairwise_cons.mp hp
    have h1 := taken_thresh t ws (q :: ps) w1.2 hp
    have h2 := taken_thresh t (w :: ws) ps hw p1.2
    have tk : ∀ (b : Bool) (l : List Bool) (n : Nat), takenF (b :: l) (n + 1) = takenF l n + (if b = true then 1 else 0) := by
      intro b l n
      unfold takenF
      rw [List.take_succ_cons, List.count_cons]
      cases b <;> simp
    rw [mergeF]
    split
    · rename_i h
      by_cases hwt : w ≤ t
      · rw [cle_cons, if_pos hwt, show cle t ws + 1 + cle t (q :: ps) = (cle t ws + cle t (q :: ps)) + 1 by omega]
        show takenF (true :: _) _ = _
        rw [tk, h1]; simp
      · have z1 : cle t (w :: ws) = 0 := cle_zero fun x hx => by
          rcases List.mem_cons.mp hx with rfl | hx
          · omega
          · have := w1.1 x hx; omega
        have z2 : cle t (q :: ps) = 0 := cle_zero fun x hx => by
          rcases List.mem_cons.mp hx with rfl | hx
          · omega
          · have := p1.1 x hx; omega
        rw [z1, z2]; exact taken_zero _
    · rename_i h
      by_cases hqt : q ≤ t
      · rw [cle_cons t q, if_pos hqt, show cle t (w :: ws) + (cle t ps + 1) = (cle t (w :: ws) + cle t ps) + 1 by omega]
        show takenF (false :: _) _ = _
        rw [tk, h2]; simp
      · have z1 : cle t (w :: ws) = 0 := cle_zero fun x hx => by
          rcases List.mem_cons.mp hx with rfl | hx
          · omega
          · have := w1.1 x hx; omega
        have z2 : cle t (q :: ps) = 0 := cle_zero fun x hx => by
          rcases List.mem_cons.mp hx with rfl | hx
          · omega
          · have := p1.1 x hx; omega
        rw [z1, z2]; exact taken_zero _
/-- how many exponents are at most k -/
def Ck (es : List Nat) (k : Nat) : Nat := es.countP (fun e => decide (e ≤ k))
def Rk (es : List Nat) : Nat → Nat
  | 0 => 0
  | k + 1 => Ck es k + Rk es k / 2
theorem bump_map (f : Nat → Int) (k : Nat) : ∀ es : List Nat, es.Pairwise (fun a b => a ≤ b) → bump (Ck es k) (es.map f) = es.map (fun e => if e ≤ k then f e + 1 else f e)
  | [], _ => by simp [Ck, bump]
  | e :: es, h => by
    have h1 := List.pairwise_cons.mp h
    have ih := bump_map f k es h1.2
    have e1 : Ck (e :: es) k = Ck es k + (if e ≤ k then 1 else 0) := by unfold Ck; rw [List.countP_cons]; simp
    rw [e1]
    by_cases hk : e ≤ k
    · rw [if_pos hk, List.map_cons, bump, ih, List.map_cons, if_pos hk]
    · have z : Ck es k = 0 := by
        unfold Ck
        rw [List.countP_eq_zero]
        intro x hx
        have := h1.1 x hx
        simp; omega
      rw [if_neg hk, z, List.map_cons, List.map_cons, if_neg hk]
      show f e :: es.map f = _
      congr 1
      refine List.map_congr_left fun x hx => ?_
      have := h1.1 x hx
      rw [if_neg (by omega)]

end
theorem off_M2 : True := by
  w_top off
  trivial
section
abbrev wsF (m : Int) (es : List Nat) : List Int := es.map fun e => m * 2 ^ e
theorem pow_cmp {m : Int} (hm : 0 < m) (e k : Nat) : (m * 2 ^ e ≤ m * 2 ^ k ↔ e ≤ k) ∧ (m * 2 ^ e < 2 * (m * 2 ^ k) ↔ e ≤ k) := by
  have le : ∀ a b : Nat, a ≤ b → m * (2 : Int) ^ a ≤ m * 2 ^ b := fun a b h => Int.mul_le_mul_of_nonneg_left (by
    have := Nat.pow_le_pow_right (n := 2) (by omega) h
    exact_mod_cast this) (by omega)
  have pos : 0 < m * (2 : Int) ^ k := Int.mul_pos hm (Int.pow_pos (by omega))
  have dbl : ∀ k : Nat, m * (2 : Int) ^ (k + 1) = 2 * (m * 2 ^ k) := fun k => by rw [Int.pow_succ]; rw [← Int.mul_assoc, Int.mul_comm]
  by_cases h : e ≤ k
  · have := le e k h
    exact ⟨⟨fun _ => h, fun _ => this⟩, ⟨fun _ => h, fun _ => by omega⟩⟩
  · have h1 := le (k + 1) e (by omega)
    rw [dbl] at h1
    exact ⟨⟨fun _ => by omega, fun q => absurd q h⟩, ⟨fun _ => by omega, fun q => absurd q h⟩⟩
theorem ws_cle {m : Int} (hm : 0 < m) (es : List Nat) (k : Nat) : cle (m * 2 ^ k) (wsF m es) = Ck es k := by
  unfold cle Ck
  rw [List.countP_map]
  exact List.countP_congr fun e _ => by simp [(pow_cmp hm e k).1]
theorem ws_clt {m : Int} (hm : 0 < m) (es : List Nat) (k : Nat) : clt (2 * (m * 2 ^ k)) (wsF m es) = Ck es k := by
  unfold clt Ck
  rw [List.countP_map]
  exact List.countP_congr fun e _ => by simp [(pow_cmp hm e k).2]
theorem ws_sorted {m : Int} (hm : 0 < m) {es : List Nat} (h : es.Pairwise (fun a b => a ≤ b)) : Sortd (wsF m es) := by
  unfold Sortd
  rw [List.pairwise_map]
  exact h.imp fun {a b} hab => (pow_cmp hm a b).1.mpr hab
theorem ws_all {m : Int} (hm : 0 < m) (es : List Nat) : ∀ x ∈ wsF m es, m ≤ x := by
  intro x hx
  obtain ⟨e, _, rfl⟩ := List.mem_map.mp hx
  have := (pow_cmp hm 0 e).1.mpr (Nat.zero_le e)
  simpa using this
theorem dbl (m : Int) (k : Nat) : m * (2 : Int) ^ (k + 1) = 2 * (m * 2 ^ k) := by rw [Int.pow_succ, ← Int.mul_assoc, Int.mul_comm]
section
variable {m : Int} {es : List Nat} {deep : Nat} (hm : 0 < m) (hs : es.Pairwise (fun a b => a ≤ b)) (hev : ∀ k, k ≤ deep → 2 ∣ Rk es k)
include hm hs hev
theorem rowA : ∀ j k, k < deep → clt (2 * (m * 2 ^ k)) (rowF (wsF m es) j) ≤ Rk es (k + 1)
  | 0, k, _ => by simp [rowF, clt]
  | j + 1, k, hk => by
    have e : clt (2 * (m * 2 ^ k)) (rowF (wsF m es) (j + 1)) = clt (2 * (m * 2 ^ k)) (wsF m es) + clt (2 * (m * 2 ^ k)) (pairsF (rowF (wsF m es) j)) := merge_countP _ _ _
    have hp := pairs_le (m * 2 ^ k) _ (row_sorted (ws_sorted hm hs) j)
    rw [e, ws_clt hm, Rk]
    cases k with
    | zero =>
      have z : clt (m * 2 ^ 0) (rowF (wsF m es) j) = 0 := clt_zero (by simpa using row_all (by omega) (ws_all hm es) j)
      rw [z] at hp
      omega
    | succ k =>
      have ih := rowA j k (by omega)
      rw [← dbl m k] at ih
      obtain ⟨q, hq⟩ := hev (k + 1) (by omega)
      omega
theorem rowB : ∀ j k, k < deep → k + 1 ≤ j → Rk es (k + 1) ≤ cle (m * 2 ^ k) (rowF (wsF m es) j)
  | 0, k, _, h => by omega
  | j + 1, k, hk, hj => by
    have e : cle (m * 2 ^ k) (rowF (wsF m es) (j + 1)) = cle (m * 2 ^ k) (wsF m es) + cle (m * 2 ^ k) (pairsF (rowF (wsF m es) j)) := merge_countP _ _ _
    rw [e, ws_cle hm, Rk]
    cases k with
    | zero => simp [Rk]
    | succ k =>
      have hp := pairs_ge (m * 2 ^ k) _ (row_sorted (ws_sorted hm hs) j)
      have ih := rowB j k (by omega) (by omega)
      rw [dbl m k]
      omega
theorem taken_row (j k : Nat) (hk : k < deep) (hj : k ≤ j) : takenF (marksF (wsF m es) j) (Rk es (k + 1)) = Ck es k := by
  have e : cle (m * 2 ^ k) (rowF (wsF m es) (j + 1)) = cle (m * 2 ^ k) (wsF m es) + cle (m * 2 ^ k) (pairsF (rowF (wsF m es) j)) := merge_countP _ _ _
  have h1 := rowA hm hs hev (j + 1) k hk
  have h2 := rowB hm hs hev (j + 1) k hk (by omega)
  have pos : 0 < m * (2 : Int) ^ k := Int.mul_pos hm (Int.pow_pos (by omega))
  have h3 := cle_le_clt (t := m * 2 ^ k) (u := 2 * (m * 2 ^ k)) (by omega) (rowF (wsF m es) (j + 1))
  have h4 : Rk es (k + 1) = cle (m * 2 ^ k) (wsF m es) + cle (m * 2 ^ k) (pairsF (rowF (wsF m es) j)) := by omega
  rw [h4]
  show takenF (mergeF _ _).2 _ = _
  rw [taken_thresh _ _ _ (ws_sorted hm hs) (pairs_sorted _ (row_sorted (ws_sorted hm hs) j)), ws_cle hm]
theorem back_closed (hn : 2 * es.length - 2 = Rk es deep) {top : Nat} (ht : deep ≤ top) : ∀ i, i ≤ deep → backF (wsF m es) top i = (es.map (fun e => ((min i (deep - e) : Nat) : Int)), Rk es (deep - i))
  | 0, _ => by
    rw [backF, List.length_map, hn]
    simp [List.map_const']
  | i + 1, hi => by
    have ih := back_closed hn ht i (by omega)
    obtain ⟨k, hk⟩ : ∃ k, deep - i = k + 1 := ⟨deep - i - 1, by omega⟩
    have ht2 := taken_row hm hs hev (top - 1 - i) k (by omega) (by omega)
    rw [backF, ih]
    dsimp only
    rw [hk, ht2, bump_map _ _ _ hs]
    have e1 : deep - (i + 1) = k := by omega
    rw [e1]
    refine Prod.ext ?_ ?_
    · dsimp only
      refine List.map_congr_left fun e he => ?_
      by_cases hek : e ≤ k
      · rw [if_pos hek]; omega
      · rw [if_neg hek]; omega
    · dsimp only
      rw [Rk]
      obtain ⟨q, hq⟩ := hev k (by omega)
      omega
theorem back_after (hn : 2 * es.length - 2 = Rk es deep) {top : Nat} (ht : deep ≤ top) : ∀ d, backF (wsF m es) top (deep + d) = (es.map (fun e => ((deep - e : Nat) : Int)), 0)
  | 0 => by
    rw [Nat.add_zero, back_closed hm hs hev hn ht deep (Nat.le_refl _), Nat.sub_self]
    refine Prod.ext ?_ rfl
    dsimp only
    exact List.map_congr_left fun e he => by rw [Nat.min_eq_right (Nat.sub_le _ _)]
  | d + 1 => by
    have ih := back_after hn ht d
    rw [show deep + (d + 1) = deep + d + 1 by omega, backF, ih]
    dsimp only
    rw [taken_zero]
    rfl
theorem depths_eq (hn : 2 * es.length - 2 = Rk es deep) {top : Nat} (ht : deep ≤ top) : depthsF (wsF m es) top = es.map (fun e => ((deep - e : Nat) : Int)) := by
  unfold depthsF
  obtain ⟨d, rfl⟩ : ∃ d, top = deep + d := ⟨top - deep, by omega⟩
  rw [back_after hm hs hev hn ht d]
end

/-- the exponents' Kraft sum -/
def Mk (es : List Nat) (k : Nat) : Nat := (es.map fun e => if e ≤ k then 2 ^ e else 0).sum
def Hk (es : List Nat) (k : Nat) : Nat := (es.map fun e => if e ≤ k then 0 else 2 ^ e).sum
theorem mk_hk (k : Nat) : ∀ es : List Nat, Mk es k + Hk es k = (es.map fun e => 2 ^ e).sum
  | [] => rfl
  | e :: es => by
    have ih := mk_hk k es
    unfold Mk Hk at ih ⊢
    simp only [List.map_cons, List.sum_cons]
    split <;> omega
theorem hk_dvd (k : Nat) : ∀ es : List Nat, 2 ^ (k + 1) ∣ Hk es k
  | [] => ⟨0, rfl⟩
  | e :: es => by
    have ih := hk_dvd k es
    unfold Hk at ih ⊢
    simp only [List.map_cons, List.sum_cons]
    refine Nat.dvd_add ?_ ih
    split
    · exact Nat.dvd_zero _
    · exact Nat.pow_dvd_pow 2 (by omega)
theorem mk_dvd {es : List Nat} {deep k : Nat} (hK : (es.map fun e => 2 ^ e).sum = 2 ^ deep) (hk : k < deep) : 2 ^ (k + 1) ∣ Mk es k := by
  have h := mk_hk k es
  rw [hK] at h
  have h1 : 2 ^ (k + 1) ∣ Mk es k + Hk es k := by rw [h]; exact Nat.pow_dvd_pow 2 (by omega)
  exact (Nat.dvd_add_left (hk_dvd k es)).mp h1
theorem ck_cons (e : Nat) (es : List Nat) (k : Nat) : Ck (e :: es) k = Ck es k + (if e ≤ k then 1 else 0) := by unfold Ck; rw [List.countP_cons]; simp
theorem mk_zero : ∀ es : List Nat, Mk es 0 = Ck es 0
  | [] => rfl
  | e :: es => by
    have ih := mk_zero es
    rw [ck_cons, ← ih]
    unfold Mk
    simp only [List.map_cons, List.sum_cons]
    by_cases h : e ≤ 0
    · have : e = 0 := by omega
      subst this
      simp; omega
    · rw [if_neg h, if_neg h]; omega
theorem mk_succ (k : Nat) : ∀ es : List Nat, Mk es (k + 1) + 2 ^ (k + 1) * Ck es k = Mk es k + 2 ^ (k + 1) * Ck es (k + 1)
  | [] => rfl
  | e :: es => by
    have ih := mk_succ k es
    rw [ck_cons, ck_cons]
    unfold Mk at ih ⊢
    simp only [List.map_cons, List.sum_cons, Nat.mul_add]
    by_cases h : e ≤ k
    · rw [if_pos h, if_pos h, if_pos (by omega), if_pos (by omega)]; omega
    · by_cases h1 : e = k + 1
      · subst h1
        rw [if_neg h, if_neg h, if_pos (Nat.le_refl _), if_pos (Nat.le_refl _)]; omega
      · rw [if_neg h, if_neg h, if_neg (by omega), if_neg (by omega)]; omega
theorem rk_kraft {es : List Nat} {deep : Nat} (hK : (es.map fun e => 2 ^ e).sum = 2 ^ deep) : ∀ k, k < deep → 2 ^ k * Rk es (k + 1) + Mk es k = 2 ^ (k + 1) * Ck es k ∧ 2 ∣ Rk es (k + 1)
  | 0, hk => by
    have h0 : 2 ^ 0 * Rk es (0 + 1) + Mk es 0 = 2 ^ (0 + 1) * Ck es 0 := by
      rw [mk_zero]; simp [Rk]; omega
    refine ⟨h0, ?_⟩
    have hd := mk_dvd hK hk
    have e : Rk es (0 + 1) = Ck es 0 := by simp [Rk]
    rw [e, ← mk_zero]
    simpa using hd
  | k + 1, hk => by
    obtain ⟨ih, q, hq⟩ := rk_kraft hK k (by omega)
    have hs := mk_succ k es
    have hr : Rk es (k + 1 + 1) = Ck es (k + 1) + q := by rw [Rk, hq]; omega
    have e1 : 2 ^ (k + 1 + 1) * Ck es (k + 1) = 2 * (2 ^ (k + 1) * Ck es (k + 1)) := by rw [Nat.pow_succ 2 (k + 1)]; rw [Nat.mul_comm (2 ^ (k + 1)) 2, Nat.mul_assoc]
    have e2 : 2 ^ k * Rk es (k + 1) = 2 ^ (k + 1) * q := by rw [hq, ← Nat.mul_assoc, ← Nat.pow_succ]
    have main : 2 ^ (k + 1) * Rk es (k + 1 + 1) + Mk es (k + 1) = 2 ^ (k + 1 + 1) * Ck es (k + 1) := by
      rw [hr, Nat.mul_add, e1]; omega
    refine ⟨main, ?_⟩
    have hd := mk_dvd hK hk
    have h2 : 2 ^ (k + 1 + 1) ∣ 2 ^ (k + 1) * Rk es (k + 1 + 1) := by
      have h3 : 2 ^ (k + 1 + 1) ∣ 2 ^ (k + 1) * Rk es (k + 1 + 1) + Mk es (k + 1) := by rw [main]; exact Nat.dvd_mul_right _ _
      exact (Nat.dvd_add_left hd).mp h3
    rw [Nat.pow_succ 2 (k + 1)] at h2
    exact Nat.dvd_of_mul_dvd_mul_left (Nat.pow_pos (by omega)) h2
theorem rk_even {es : List Nat} {deep : Nat} (hK : (es.map fun e => 2 ^ e).sum = 2 ^ deep) : ∀ k, k ≤ deep → 2 ∣ Rk es k
  | 0, _ => ⟨0, rfl⟩
  | k + 1, hk => (rk_kraft hK k (by omega)).2
theorem rk_end {es : List Nat} {deep : Nat} (hK : (es.map fun e => 2 ^ e).sum = 2 ^ deep) (hd : 0 < deep) (hlt : ∀ e ∈ es, e < deep) : 2 * es.length - 2 = Rk es deep := by
  obtain ⟨k, rfl⟩ : ∃ k, deep = k + 1 := ⟨deep - 1, by omega⟩
  have h := (rk_kraft hK k (by omega)).1
  have hC : Ck es k = es.length := by
    unfold Ck
    rw [List.countP_eq_length]
    intro e he
    have := hlt e he
    simp; omega
  have hM : Mk es k = 2 ^ (k + 1) := by
    rw [← hK]
    unfold Mk
    congr 1
    refine List.map_congr_left fun e he => ?_
    have := hlt e he
    rw [if_pos (by omega)]
  rw [hC, hM] at h
  have e1 : 2 ^ k * Rk es (k + 1) + 2 ^ k * 2 = 2 ^ k * (2 * es.length) := by
    rw [Nat.pow_succ] at h
    rw [h, Nat.mul_assoc]
  rw [← Nat.mul_add] at e1
  have := Nat.eq_of_mul_eq_mul_left (Nat.pow_pos (by omega)) e1
  omega
/-- the depths of a full code's own counts are its lengths -/
theorem depths_full {m : Int} {es : List Nat} {deep top : Nat} (hm : 0 < m) (hs : es.Pairwise (fun a b => a ≤ b)) (hK : (es.map fun e => 2 ^ e).sum = 2 ^ deep) (hd : 0 < deep) (hlt : ∀ e ∈ es, e < deep) (ht : deep ≤ top) :
    depthsF (wsF m es) top = es.map (fun e => ((deep - e : Nat) : Int)) :=
  depths_eq hm hs (rk_even hK) (rk_end hK hd hlt) ht

end
theorem off_M3 : True := by
  w_top off
  trivial
section
/-- the depths' Kraft sum -/
def kr (top : Nat) (ds : List Int) : Nat := (ds.map fun d => 2 ^ (top - d.toNat)).sum
theorem kr_bump (top i : Nat) (hi : i < top) : ∀ (c : Nat) (ds : List Int), c ≤ ds.length → (∀ d ∈ ds, 0 ≤ d ∧ d ≤ (i : Int)) → kr top (bump c ds) + c * 2 ^ (top - i - 1) ≤ kr top ds
  | 0, ds, _, _ => by simp [bump]
  | c + 1, [], h, _ => by simp at h
  | c + 1, d :: ds, h, hd => by
    have ih := kr_bump top i hi c ds (by simpa using h) (fun x hx => hd x (.tail _ hx))
    have hd0 := hd d (.head _)
    unfold kr at ih ⊢
    rw [bump]
    simp only [List.map_cons, List.sum_cons]
    have e1 : (d + 1).toNat = d.toNat + 1 := by omega
    have e2 : 2 ^ (top - d.toNat) = 2 * 2 ^ (top - (d.toNat + 1)) := by
      rw [← Nat.pow_succ', show (top - (d.toNat + 1)).succ = top - d.toNat by omega]
    have e3 : 2 ^ (top - i - 1) ≤ 2 ^ (top - (d.toNat + 1)) := Nat.pow_le_pow_right (by omega) (by omega)
    rw [e1, e2, Nat.add_mul]
    omega
theorem bump_bound (i : Nat) : ∀ (c : Nat) (ds : List Int), (∀ d ∈ ds, 0 ≤ d ∧ d ≤ (i : Int)) → ∀ d ∈ bump c ds, 0 ≤ d ∧ d ≤ ((i + 1 : Nat) : Int)
  | 0, ds, h, d, hd => by have := h d (by simpa [bump] using hd); omega
  | c + 1, [], _, d, hd => by simp [bump] at hd
  | c + 1, x :: ds, h, d, hd => by
    rw [bump] at hd
    rcases List.mem_cons.mp hd with rfl | hd
    · have := h x (.head _); omega
    · exact bump_bound i c ds (fun y hy => h y (.tail _ hy)) d hd
theorem count_tf : ∀ l : List Bool, l.count true + l.count false = l.length
  | [] => rfl
  | b :: l => by
    have := count_tf l
    cases b <;> simp <;> omega
theorem wanted_len {ws : List Int} {top : Nat} (h0 : 2 * ws.length - 2 ≤ (rowF ws top).length) : ∀ i, i ≤ top → (backF ws top i).2 ≤ (rowF ws (top - i)).length
  | 0, _ => by simpa [backF] using h0
  | i + 1, hi => by
    have ih := wanted_len h0 i (by omega)
    obtain ⟨j, hj⟩ : ∃ j, top - i = j + 1 := ⟨top - i - 1, by omega⟩
    have e1 : top - 1 - i = j := by omega
    have e2 : top - (i + 1) = j := by omega
    rw [hj] at ih
    rw [backF, e1, e2]
    dsimp only
    generalize (backF ws top i).2 = w at *
    have hl := mergeF_length ws (pairsF (rowF ws j))
    have hr : (rowF ws (j + 1)).length = ws.length + (pairsF (rowF ws j)).length := hl.1
    rw [hr] at ih
    have hm : (marksF ws j).length = ws.length + (pairsF (rowF ws j)).length := hl.2
    have hc := count_tf ((marksF ws j).take w)
    have hlt : ((marksF ws j).take w).length = w := by rw [List.length_take]; omega
    have hf : ((marksF ws j).take w).count false ≤ (marksF ws j).count false := List.Sublist.count_le _ (List.take_sublist _ _)
    have hc2 := count_tf (marksF ws j)
    have hct : (marksF ws j).count true = ws.length := mergeF_count ws _
    have hp := pairsF_length (rowF ws j)
    unfold takenF
    omega
theorem back_kraft {ws : List Int} {top : Nat} (h1 : 1 ≤ ws.length) : ∀ i, i ≤ top → 2 * kr top (backF ws top i).1 ≤ 2 * 2 ^ top + (backF ws top i).2 * 2 ^ (top - i) ∧ ∀ d ∈ (backF ws top i).1, 0 ≤ d ∧ d ≤ (i : Int)
  | 0, _ => by
    have e : kr top (List.replicate ws.length 0) = ws.length * 2 ^ top := by
      unfold kr; rw [List.map_replicate, List.sum_replicate_nat]; rfl
    refine ⟨?_, fun d hd => ?_⟩
    · rw [backF]
      dsimp only
      rw [e, Nat.sub_zero]
      have e2 : (2 * ws.length - 2) * 2 ^ top + 2 * 2 ^ top = 2 * ws.length * 2 ^ top := by rw [← Nat.add_mul]; congr 1; omega
      rw [Nat.mul_assoc] at e2
      omega
    · rw [backF] at hd
      rw [List.eq_of_mem_replicate hd]
      omega
  | i + 1, hi => by
    obtain ⟨ih, hb⟩ := back_kraft (top := top) h1 i (by omega)
    have hlen := backF_length ws top i
    have ht := taken_le_ws ws (top - 1 - i) (backF ws top i).2
    have htw := (takenF_le (marksF ws (top - 1 - i)) (backF ws top i).2).1
    rw [backF]
    dsimp only
    generalize hw : (backF ws top i).2 = w at *
    generalize htk : takenF (marksF ws (top - 1 - i)) w = c at *
    have hk := kr_bump top i (by omega) c _ (by omega) hb
    refine ⟨?_, bump_bound i c _ hb⟩
    have e0 : 2 ^ (top - i) = 2 * 2 ^ (top - i - 1) := by rw [← Nat.pow_succ', show (top - i - 1).succ = top - i by omega]
    have e1 : top - (i + 1) = top - i - 1 := by omega
    rw [e1]
    rw [e0] at ih
    generalize 2 ^ (top - i - 1) = P at *
    have e2 : w * (2 * P) = 2 * (w * P) := by rw [Nat.mul_left_comm]
    have e3 : 2 * (w - c) * P + 2 * (c * P) = 2 * (w * P) := by
      rw [Nat.mul_assoc, ← Nat.mul_add, ← Nat.add_mul, Nat.sub_add_cancel htw]
    omega
theorem row_long {ws : List Int} {top : Nat} (hn : ws.length ≤ 2 ^ top) : ∀ j, j + 1 ≤ top → 2 * ws.length ≤ (rowF ws (j + 1)).length + 2 ^ (top - j)
  | 0, _ => by
    have hr : (rowF ws 1).length = ws.length + (pairsF (rowF ws 0)).length := (mergeF_length ws (pairsF (rowF ws 0))).1
    rw [hr, Nat.sub_zero]; omega
  | j + 1, hj => by
    have ih := row_long hn j (by omega)
    have hr : (rowF ws (j + 1 + 1)).length = ws.length + (pairsF (rowF ws (j + 1))).length := (mergeF_length ws (pairsF (rowF ws (j + 1)))).1
    rw [hr, pairsF_length]
    have e0 : 2 ^ (top - j) = 2 * 2 ^ (top - (j + 1)) := by rw [← Nat.pow_succ', show (top - (j + 1)).succ = top - j by omega]
    omega
/-- the depths within top fulfil Kraft's inequality -/
theorem depths_kraft {ws : List Int} {top : Nat} (h1 : 1 ≤ ws.length) (ht : 1 ≤ top) (hn : ws.length ≤ 2 ^ top) :
    kr top (depthsF ws top) ≤ 2 ^ top ∧ (∀ d ∈ depthsF ws top, 0 ≤ d ∧ d ≤ (top : Int)) ∧ (depthsF ws top).length = ws.length := by
  obtain ⟨j, rfl⟩ : ∃ j, top = j + 1 := ⟨top - 1, by omega⟩
  have hl := row_long hn j (Nat.le_refl _)
  have e : 2 ^ (j + 1 - j) = 2 := by rw [show j + 1 - j = 1 by omega]
  rw [e] at hl
  have hw := wanted_len (ws := ws) (top := j + 1) (by omega) (j + 1) (Nat.le_refl _)
  obtain ⟨hk, hb⟩ := back_kraft (top := j + 1) h1 (j + 1) (Nat.le_refl _)
  rw [Nat.sub_self] at hw hk
  have e0 : (rowF ws 0).length = 0 := rfl
  rw [e0] at hw
  have ez : (backF ws (j + 1) (j + 1)).2 = 0 := by omega
  rw [ez] at hk
  unfold depthsF
  refine ⟨by omega, hb, backF_length _ _ _⟩
theorem kr_len (top : Nat) : ∀ ds : List Int, ds.length ≤ kr top ds
  | [] => Nat.le_refl _
  | d :: ds => by
    have := kr_len top ds
    have h2 : 1 ≤ 2 ^ (top - d.toNat) := Nat.one_le_two_pow
    unfold kr at this ⊢
    simp only [List.map_cons, List.sum_cons, List.length_cons]; omega
theorem kr_mem (top : Nat) : ∀ (ds : List Int) (d : Int), d ∈ ds → 2 ^ (top - d.toNat) + ds.length ≤ kr top ds + 1
  | [], d, h => by cases h
  | x :: ds, d, h => by
    have h2 : 1 ≤ 2 ^ (top - x.toNat) := Nat.one_le_two_pow
    have hl := kr_len top ds
    rcases List.mem_cons.mp h with rfl | h
    · unfold kr at hl ⊢
      simp only [List.map_cons, List.sum_cons, List.length_cons]; omega
    · have ih := kr_mem top ds d h
      unfold kr at ih ⊢
      simp only [List.map_cons, List.sum_cons, List.length_cons]; omega
theorem depths_pos {ws : List Int} {top : Nat} (h1 : 2 ≤ ws.length) (ht : 1 ≤ top) (hn : ws.length ≤ 2 ^ top) : ∀ d ∈ depthsF ws top, 1 ≤ d := by
  obtain ⟨hk, hb, hl⟩ := depths_kraft (by omega) ht hn
  intro d hd
  have h0 := hb d hd
  have hm := kr_mem top _ d hd
  rcases Int.lt_or_le 0 d with h | h
  · omega
  · have : d = 0 := by omega
    subst this
    rw [show top - (0 : Int).toNat = top from rfl] at hm
    omega
/-- the cost of depths, in units -/
def cst : List Nat → List Int → Int
  | e :: es, d :: ds => (2 : Int) ^ e * d + cst es ds
  | _, _ => 0
theorem pow_lin (m : Nat) : 4 + 3 * (m : Int) ≤ 4 * 2 ^ m ∧ (1 ≤ m → 4 + 3 * (m : Int) < 4 * 2 ^ m) := by
  induction m with
  | zero => simp
  | succ m ih =>
    have e : (2 : Int) ^ (m + 1) = 2 * 2 ^ m := by rw [Int.pow_succ, Int.mul_comm]
    have h1 : 1 ≤ (2 : Int) ^ m := Int.pow_pos (by omega)
    rw [e]
    have h2 := ih.1
    have h3 : (2 : Int) ^ 0 = 1 := rfl
    rcases Nat.eq_zero_or_pos m with rfl | hm
    · refine ⟨by omega, fun _ => by omega⟩
    · have := ih.2 hm
      refine ⟨by omega, fun _ => by omega⟩
/-- one symbol's share -/
theorem share (e y : Nat) : 4 * (2 : Int) ^ e ≤ 4 * 2 ^ y + 3 * (2 ^ e * ((e : Int) - y)) ∧ (e ≠ y → 4 * (2 : Int) ^ e < 4 * 2 ^ y + 3 * (2 ^ e * ((e : Int) - y))) := by
  have pe : 1 ≤ (2 : Int) ^ e := Int.pow_pos (by omega)
  by_cases h : e ≤ y
  · obtain ⟨m, rfl⟩ : ∃ m, y = e + m := ⟨y - e, by omega⟩
    have hp := pow_lin m
    rw [Int.pow_add]
    have e1 : (e : Int) - ((e + m : Nat) : Int) = -(m : Int) := by omega
    rw [e1]
    generalize (2 : Int) ^ m = M at *
    generalize (2 : Int) ^ e = P at *
    have k1 : 0 ≤ P * (4 * M - (4 + 3 * (m : Int))) := Int.mul_nonneg (by omega) (by omega)
    have k2 : P * (4 * M - (4 + 3 * (m : Int))) = 4 * (P * M) - 4 * P - 3 * (P * m) := by
      rw [Int.mul_sub, Int.mul_add, Int.mul_left_comm, Int.mul_comm P 4, Int.mul_left_comm P 3]; omega
    have k3 : P * -(m : Int) = -(P * m) := Int.mul_neg ..
    rw [k3]
    refine ⟨by omega, fun hne => ?_⟩
    have k4 : 0 < P * (4 * M - (4 + 3 * (m : Int))) := Int.mul_pos (by omega) (by have := hp.2 (by omega); omega)
    omega
  · obtain ⟨m, hm, rfl⟩ : ∃ m, 1 ≤ m ∧ e = y + m := ⟨e - y, by omega, by omega⟩
    have py : 1 ≤ (2 : Int) ^ y := Int.pow_pos (by omega)
    have e1 : ((y + m : Nat) : Int) - (y : Int) = (m : Int) := by omega
    rw [e1]
    have key : 4 * (2 : Int) ^ (y + m) < 4 * 2 ^ y + 3 * (2 ^ (y + m) * (m : Int)) := by
      rcases Nat.eq_or_lt_of_le hm with h1 | h1
      · subst h1
        have e2 : (2 : Int) ^ (y + 1) = 2 * 2 ^ y := by rw [Int.pow_succ, Int.mul_comm]
        rw [e2]
        have e3 : (2 * (2 : Int) ^ y * ((1 : Nat) : Int)) = 2 * 2 ^ y := by simp
        rw [e3]; omega
      · have k : 2 * (2 : Int) ^ (y + m) ≤ 2 ^ (y + m) * (m : Int) := by
          rw [Int.mul_comm]
          exact Int.mul_le_mul_of_nonneg_left (by omega) (by omega)
        omega
    exact ⟨by omega, fun _ => key⟩
theorem cost_weak (deep : Nat) : ∀ (es : List Nat) (ds : List Int), es.length = ds.length → (∀ e ∈ es, e ≤ deep) → (∀ d ∈ ds, 0 ≤ d ∧ d ≤ (deep : Int)) →
    4 * ((es.map fun e => 2 ^ e).sum : Nat) ≤ 4 * ((kr deep ds : Nat) : Int) + 3 * (cst es ds - cst es (es.map fun e => ((deep - e : Nat) : Int))) ∧
    (0 ∈ es → (∀ d ∈ ds, d < (deep : Int)) → 4 * ((es.map fun e => 2 ^ e).sum : Nat) < 4 * ((kr deep ds : Nat) : Int) + 3 * (cst es ds - cst es (es.map fun e => ((deep - e : Nat) : Int))))
  | [], [], _, _, _ => by simp [kr, cst]
  | [], _ :: _, h, _, _ => by simp at h
  | _ :: _, [], h, _, _ => by simp at h
  | e :: es, d :: ds, h, he, hd => by
    obtain ⟨ih1, ih2⟩ := cost_weak deep es ds (by simpa using h) (fun x hx => he x (.tail _ hx)) (fun x hx => hd x (.tail _ hx))
    have he0 := he e (.head _)
    have hd0 := hd d (.head _)
    have sh := share e (deep - d.toNat)
    have ec : (e : Int) - ((deep - d.toNat : Nat) : Int) = d - ((deep - e : Nat) : Int) := by omega
    rw [ec, Int.mul_sub] at sh
    unfold kr at ih1 ih2 ⊢
    simp only [List.map_cons, List.sum_cons, cst, Int.natCast_add, Int.natCast_pow] at ih1 ih2 ⊢
    have c2 : ((2 : Nat) : Int) = 2 := rfl
    rw [c2] at *
    refine ⟨by omega, fun h0 hlt => ?_⟩
    rcases List.mem_cons.mp h0 with h0 | h0
    · have hdl := hlt d (.head _)
      have := sh.2 (by omega)
      omega
    · have := ih2 h0 (fun x hx => hlt x (.tail _ hx))
      omega
theorem kr_double (top : Nat) : ∀ ds : List Int, (∀ d ∈ ds, 0 ≤ d ∧ d ≤ (top : Int)) → kr (top + 1) ds = 2 * kr top ds
  | [], _ => rfl
  | d :: ds, h => by
    have ih := kr_double top ds (fun x hx => h x (.tail _ hx))
    have h0 := h d (.head _)
    unfold kr at ih ⊢
    simp only [List.map_cons, List.sum_cons]
    have e0 : 2 ^ (top + 1 - d.toNat) = 2 * 2 ^ (top - d.toNat) := by rw [← Nat.pow_succ', show top + 1 - d.toNat = top - d.toNat + 1 by omega]
    omega
/-- with one bit less every code costs more -/
theorem cost_more {es : List Nat} {ds : List Int} {top : Nat} (hl : es.length = ds.length) (hK : (es.map fun e => 2 ^ e).sum = 2 ^ (top + 1)) (h0 : 0 ∈ es) (hlt : ∀ e ∈ es, e < top + 1) (hd : ∀ d ∈ ds, 0 ≤ d ∧ d ≤ (top : Int)) (hk : kr top ds ≤ 2 ^ top) :
    cst es (es.map fun e => ((top + 1 - e : Nat) : Int)) < cst es ds := by
  have h := (cost_weak (top + 1) es ds hl (fun e he => Nat.le_of_lt (hlt e he)) (fun d hd' => by have := hd d hd'; omega)).2 h0 (fun d hd' => by have := hd d hd'; omega)
  rw [hK, kr_double top ds hd] at h
  have e : 2 ^ (top + 1) = 2 * 2 ^ top := by rw [Nat.pow_succ, Nat.mul_comm]
  have : (2 * kr top ds : Nat) ≤ 2 ^ (top + 1) := by omega
  have h3 : ((2 * kr top ds : Nat) : Int) ≤ ((2 ^ (top + 1) : Nat) : Int) := Int.ofNat_le.mpr this
  omega

end
theorem off_M4 : True := by
  w_top off
  trivial
section
/-- the counts of lengths -/
def gF (m M l : Int) : Int := if l = 0 then 0 else m * 2 ^ (M - l).toNat
theorem gF_pos {m M l : Int} (hm : 0 < m) (h : l ≠ 0) : 0 < gF m M l := by
  unfold gF; rw [if_neg h]; exact Int.mul_pos hm (Int.pow_pos (by omega))
theorem map_getD (m M : Int) : ∀ (LS : List Int) (i : Nat), (LS.map (gF m M)).getD i 0 = gF m M (LS.getD i 0)
  | [], i => by simp [gF]
  | l :: LS, 0 => by simp
  | l :: LS, i + 1 => by simpa using map_getD m M LS i
theorem used_filter {m M : Int} (hm : 0 < m) (LS : List Int) : ∀ i, i ≤ LS.length → (usedF (LS.map (gF m M)) i).map (fun p => LS.getD p.2.toNat 0) = (LS.take i).filter (fun l => decide (l ≠ 0))
  | 0, _ => by simp [usedF]
  | i + 1, hi => by
    have ih := used_filter (M := M) hm LS i (by omega)
    have hg : LS.getD i 0 = LS[i] := by rw [List.getD_eq_getElem?_getD, List.getElem?_eq_getElem (by omega)]; rfl
    rw [List.take_add_one, List.getElem?_eq_getElem (by omega), List.filter_append, ← ih, usedF, map_getD, hg]
    by_cases h : LS[i] = 0
    · have e : gF m M LS[i] = 0 := by unfold gF; rw [if_pos h]
      rw [e, if_neg (by omega)]
      simp [h]
    · rw [if_pos (gF_pos hm h), List.map_append]
      simp [h, List.getElem?_eq_getElem (show i < LS.length by omega)]
theorem used_mem' (cs : List Int) : ∀ (n i : Nat), i < n → 0 < cs.getD i 0 → (cs.getD i 0, (i : Int)) ∈ usedF cs n
  | 0, i, h, _ => by omega
  | n + 1, i, h, hp => by
    unfold usedF
    by_cases e : i = n
    · subst e
      rw [if_pos hp]
      simp
    · have := used_mem' cs n i (by omega) hp
      split
      · exact List.mem_append_left _ this
      · exact this
theorem used_inc (cs : List Int) : ∀ n, (usedF cs n).Pairwise (fun a b => a.2 ≠ b.2)
  | 0 => .nil
  | n + 1 => by
    unfold usedF
    split
    · refine List.pairwise_append.mpr ⟨used_inc cs n, List.pairwise_singleton _ _, fun a ha b hb => ?_⟩
      have := usedF_mem cs n a ha
      rw [List.mem_singleton.mp hb]
      show a.2 ≠ (n : Int)
      omega
    · exact used_inc cs n
theorem bits_set : ∀ (cs ls : List Int) (y : Nat) (d : Int), y < cs.length → y < ls.length → 0 < cs.getD y 0 → ls.getD y 0 = 0 → bitsF cs (ls.set y d) = bitsF cs ls + cs.getD y 0 * d
  | [], _, _, _, h, _, _, _ => by simp at h
  | _ :: _, [], _, _, _, h, _, _ => by simp at h
  | c :: cs, l :: ls, 0, d, _, _, hc, hl => by
    simp only [List.getD_cons_zero] at hc hl
    subst hl
    simp [bitsF, hc]
    omega
  | c :: cs, l :: ls, y + 1, d, h1, h2, hc, hl => by
    simp only [List.getD_cons_succ] at hc hl ⊢
    have ih := bits_set cs ls y d (by simpa using h1) (by simpa using h2) hc hl
    unfold bitsF at ih ⊢
    simp only [List.set_cons_succ, List.zip_cons_cons, List.map_cons, List.sum_cons]
    omega
/-- the pairs' cost -/
def pcost : List (Int × Int) → List Int → Int
  | p :: rs, d :: ds => p.1 * d + pcost rs ds
  | _, _ => 0
theorem bits_placed (cs : List Int) : ∀ (rs : List (Int × Int)) (ds found : List Int), found.length = cs.length → rs.length = ds.length → rs.Pairwise (fun a b => a.2 ≠ b.2) →
    (∀ p ∈ rs, 0 ≤ p.2 ∧ p.2 < cs.length ∧ 0 < p.1 ∧ cs.getD p.2.toNat 0 = p.1 ∧ found.getD p.2.toNat 0 = 0) → bitsF cs (placedF rs ds found) = bitsF cs found + pcost rs ds
  | [], ds, found, _, _, _, _ => by simp [placedF, pcost]
  | _ :: _, [], _, _, h, _, _ => by simp at h
  | p :: rs, d :: ds, found, hf, hl, hn, hp => by
    have h1 := List.pairwise_cons.mp hn
    obtain ⟨p1, p2, p3, p4, p5⟩ := hp p (.head _)
    have hs := bits_set cs found p.2.toNat d (by omega) (by omega) (by omega) p5
    have ih := bits_placed cs rs ds (found.set p.2.toNat d) (by rw [List.length_set]; exact hf) (by simpa using hl) h1.2 (fun q hq => by
      obtain ⟨q1, q2, q3, q4, q5⟩ := hp q (.tail _ hq)
      refine ⟨q1, q2, q3, q4, ?_⟩
      have hne := h1.1 q hq
      rw [List.getD_eq_getElem?_getD, List.getElem?_set_ne (by omega), ← List.getD_eq_getElem?_getD]
      exact q5)
    show bitsF cs (placedF rs ds (found.set p.2.toNat d)) = _
    rw [ih, hs, p4, pcost]
    omega
theorem placed_cases : ∀ (rs : List (Int × Int)) (ds found : List Int) (i : Nat), rs.length = ds.length → (placedF rs ds found).getD i 0 = found.getD i 0 ∨ (placedF rs ds found).getD i 0 ∈ ds
  | [], ds, found, i, _ => .inl (by simp [placedF])
  | _ :: _, [], _, _, h => by simp at h
  | p :: rs, d :: ds, found, i, h => by
    show (placedF rs ds (found.set p.2.toNat d)).getD i 0 = _ ∨ (placedF rs ds (found.set p.2.toNat d)).getD i 0 ∈ _
    rcases placed_cases rs ds (found.set p.2.toNat d) i (by simpa using h) with e | e
    · by_cases hi : p.2.toNat = i
      · subst hi
        by_cases hl : p.2.toNat < found.length
        · refine .inr ?_
          rw [e, List.getD_eq_getElem?_getD, List.getElem?_set_self hl]
          exact .head _
        · refine .inl ?_
          rw [e, List.set_eq_of_length_le (by omega)]
      · refine .inl ?_
        rw [e, List.getD_eq_getElem?_getD, List.getElem?_set_ne hi, ← List.getD_eq_getElem?_getD]
    · exact .inr (.tail _ e)
theorem placed_used : ∀ (rs : List (Int × Int)) (ds found : List Int) (p : Int × Int), rs.length = ds.length → p ∈ rs → p.2.toNat < found.length → (placedF rs ds found).getD p.2.toNat 0 ∈ ds
  | [], _, _, _, _, h, _ => by cases h
  | _ :: _, [], _, _, h, _, _ => by simp at h
  | q :: rs, d :: ds, found, p, hl, hp, hi => by
    show (placedF rs ds (found.set q.2.toNat d)).getD p.2.toNat 0 ∈ _
    rcases List.mem_cons.mp hp with rfl | hp
    · rcases placed_cases rs ds (found.set p.2.toNat d) p.2.toNat (by simpa using hl) with e | e
      · rw [e, List.getD_eq_getElem?_getD, List.getElem?_set_self hi]
        exact .head _
      · exact .tail _ e
    · exact .tail _ (placed_used rs ds (found.set q.2.toNat d) p (by simpa using hl) hp (by rw [List.length_set]; exact hi))
/-- where each depth is a function of its place -/
theorem placed_map (LS : List Int) : ∀ (rs : List (Int × Int)) (found : List Int) (i : Nat), found.length = LS.length → i < LS.length → ((∃ p ∈ rs, p.2.toNat = i) ∨ found.getD i 0 = LS.getD i 0) →
    (placedF rs (rs.map fun p => LS.getD p.2.toNat 0) found).getD i 0 = LS.getD i 0
  | [], found, i, _, _, h => by
    rcases h with ⟨p, hp, _⟩ | h
    · cases hp
    · simpa [placedF] using h
  | q :: rs, found, i, hf, hi, h => by
    show (placedF rs (rs.map fun p => LS.getD p.2.toNat 0) (found.set q.2.toNat (LS.getD q.2.toNat 0))).getD i 0 = _
    refine placed_map LS rs _ i (by rw [List.length_set]; exact hf) hi ?_
    by_cases e : q.2.toNat = i
    · refine .inr ?_
      subst e
      rw [List.getD_eq_getElem?_getD, List.getElem?_set_self (by omega)]; rfl
    · rcases h with ⟨p, hp, hpi⟩ | h
      · rcases List.mem_cons.mp hp with rfl | hp
        · exact absurd hpi e
        · exact .inl ⟨p, hp, hpi⟩
      · refine .inr ?_
        rw [List.getD_eq_getElem?_getD, List.getElem?_set_ne e, ← List.getD_eq_getElem?_getD]; exact h
theorem perm_sum {l l' : List Nat} (h : l.Perm l') : l.sum = l'.sum := by
  induction h with
  | nil => rfl
  | cons x _ ih => simp [ih]
  | swap x y l => simp only [List.sum_cons]; omega
  | trans _ _ h1 h2 => exact h1.trans h2
theorem Code.kraft {t : Nat} {ls : List Int} (h : Code t ls) : ∀ D : Nat, (∀ l ∈ ls, l ≤ (D : Int)) → kr D ls = 2 ^ D := by
  induction h with
  | zero => intro D _; simp [kr]
  | @split t ls x hc hx ih =>
    intro D hD
    have hb := hc.bound
    unfold splitF at hD ⊢
    have hgd : ls.getD x 0 = ls[x] := by rw [List.getD_eq_getElem?_getD, List.getElem?_eq_getElem hx]; rfl
    have h1 : ls.getD x 0 + 1 ≤ (D : Int) := hD _ (by simp)
    have hg := hb (ls.getD x 0) (by rw [hgd]; exact List.getElem_mem _)
    have ih := ih D (fun l hl => by
      rw [← List.take_append_drop x ls] at hl
      rcases List.mem_append.mp hl with hl | hl
      · exact hD l (by simp [hl])
      · rw [List.drop_eq_getElem_cons hx] at hl
        rcases List.mem_cons.mp hl with rfl | hl
        · rw [← hgd]; omega
        · exact hD l (by simp [hl]))
    rw [← List.take_append_drop x ls, List.drop_eq_getElem_cons hx] at ih
    unfold kr at ih ⊢
    simp only [List.map_append, List.sum_append_nat, List.map_cons, List.sum_cons, List.map_nil, List.sum_nil] at ih ⊢
    have e0 : 2 ^ (D - (ls[x]).toNat) = 2 * 2 ^ (D - (ls.getD x 0 + 1).toNat) := by
      rw [← hgd, ← Nat.pow_succ', show (D - (ls.getD x 0 + 1).toNat).succ = D - (ls.getD x 0).toNat by omega]
    omega

end
theorem off_M5 : True := by
  w_top off
  trivial
section
structure Setup (ls CS LS : List Int) (m M : Int) : Prop where
  hG : CS = LS.map (gF m M)
  hF : LS.filter (fun l => decide (l ≠ 0)) = ls
  hL : ∀ l ∈ LS, 0 ≤ l ∧ l ≤ M
  hm : 0 < m
  hm2 : m ≤ 50
  hM : 1 ≤ M ∧ M ≤ 11
  hmem : M ∈ ls
  hk : kr M.toNat ls = 2 ^ M.toNat
  h2 : 2 ≤ ls.length
section
variable {ls CS LS : List Int} {m M : Int}
theorem Setup.bound (S : Setup ls CS LS m M) : ∀ c ∈ CS, 0 ≤ c ∧ c ≤ 1000000 := by
  intro c hc
  rw [S.hG] at hc
  obtain ⟨l, hl, rfl⟩ := List.mem_map.mp hc
  have h1 := S.hL l hl
  have h2 := S.hM
  unfold gF
  split
  · omega
  · have e : (M - l).toNat ≤ 11 := by omega
    have p : 2 ^ (M - l).toNat ≤ 2 ^ 11 := Nat.pow_le_pow_right (by omega) e
    have p2 : (2 : Int) ^ (M - l).toNat ≤ 2048 := by exact_mod_cast p
    have p3 : 0 < (2 : Int) ^ (M - l).toNat := Int.pow_pos (by omega)
    have a := Int.mul_le_mul S.hm2 p2 (by omega) (by omega)
    have b := Int.mul_pos S.hm p3
    omega
theorem Setup.getD (S : Setup ls CS LS m M) (i : Nat) : CS.getD i 0 = gF m M (LS.getD i 0) := by rw [S.hG]; exact map_getD m M LS i
theorem Setup.len (S : Setup ls CS LS m M) : CS.length = LS.length := by rw [S.hG, List.length_map]
theorem Setup.used (S : Setup ls CS LS m M) : (usedF CS CS.length).map (fun p => LS.getD p.2.toNat 0) = ls := by
  have h := used_filter (M := M) S.hm LS LS.length (Nat.le_refl _)
  rw [List.take_length, S.hF, ← S.hG, ← S.len] at h
  exact h
theorem Setup.used_len (S : Setup ls CS LS m M) : (usedF CS CS.length).length = ls.length := by
  have := congrArg List.length S.used
  rwa [List.length_map] at this
theorem Setup.room (S : Setup ls CS LS m M) : (ls.length : Int) ≤ 2 ^ M.toNat := by
  have := kr_len M.toNat ls
  rw [S.hk] at this
  exact_mod_cast this
theorem Setup.hz (S : Setup ls CS LS m M) : ∀ (i : Nat), CS.getD i 0 > 0 → LS.getD i 0 ≠ 0 := by
  intro i h e
  rw [S.getD, e] at h
  unfold gF at h
  simp at h
theorem Setup.getL (S : Setup ls CS LS m M) (i : Nat) : 0 ≤ LS.getD i 0 ∧ LS.getD i 0 ≤ M := by
  by_cases h : i < LS.length
  · rw [List.getD_eq_getElem?_getD, List.getElem?_eq_getElem h]; exact S.hL _ (List.getElem_mem _)
  · rw [List.getD_eq_getElem?_getD, List.getElem?_eq_none (by omega)]
    have := S.hM
    exact ⟨Int.le_refl _, by show (0 : Int) ≤ M; omega⟩
/-- the exponents, in the pairs' order -/
def esF (LS : List Int) (M : Int) (rs : List (Int × Int)) : List Nat := rs.map fun p => (M - LS.getD p.2.toNat 0).toNat
theorem Setup.pairs (S : Setup ls CS LS m M) {rs : List (Int × Int)} (hp : rs.Perm (usedF CS CS.length)) : ∀ p ∈ rs, 0 ≤ p.2 ∧ p.2 < CS.length ∧ 0 < p.1 ∧ CS.getD p.2.toNat 0 = p.1 ∧ 1 ≤ LS.getD p.2.toNat 0 ∧ p.1 = m * 2 ^ (M - LS.getD p.2.toNat 0).toNat := by
  intro p hpm
  obtain ⟨h1, h2, h3, h4⟩ := usedF_mem CS CS.length p (hp.mem_iff.mp hpm)
  have h5 := S.hz p.2.toNat (by omega)
  have h6 := S.getL p.2.toNat
  refine ⟨h1, h2, h3, h4, by omega, ?_⟩
  rw [← h4, S.getD]
  unfold gF
  rw [if_neg h5]
theorem Setup.ws (S : Setup ls CS LS m M) {rs : List (Int × Int)} (hp : rs.Perm (usedF CS CS.length)) : rs.map (·.1) = wsF m (esF LS M rs) := by
  unfold wsF esF
  rw [List.map_map]
  exact List.map_congr_left fun p hpm => (S.pairs hp p hpm).2.2.2.2.2
theorem Setup.esSorted (S : Setup ls CS LS m M) {rs : List (Int × Int)} (hp : rs.Perm (usedF CS CS.length)) (hs : rs.Pairwise (fun a b => blt2 b a = false)) : (esF LS M rs).Pairwise (fun a b => a ≤ b) := by
  unfold esF
  rw [List.pairwise_map]
  refine List.Pairwise.imp_of_mem (fun {a b} ha hb hab => ?_) hs
  have h1 := (S.pairs hp a ha).2.2.2.2.2
  have h2 := (S.pairs hp b hb).2.2.2.2.2
  have h3 : a.1 ≤ b.1 := by
    unfold blt2 at hab
    simp only [decide_eq_false_iff_not] at hab
    omega
  rw [h1, h2] at h3
  exact (pow_cmp S.hm _ _).1.mp h3
theorem Setup.perm (S : Setup ls CS LS m M) {rs : List (Int × Int)} (hp : rs.Perm (usedF CS CS.length)) : (rs.map fun p => LS.getD p.2.toNat 0).Perm ls := by
  have := hp.map (fun p => LS.getD p.2.toNat 0)
  rwa [S.used] at this
theorem esF_eq (LS : List Int) (M : Int) (rs : List (Int × Int)) : esF LS M rs = (rs.map fun p => LS.getD p.2.toNat 0).map fun l => (M - l).toNat := by
  unfold esF; rw [List.map_map]; rfl
theorem Setup.esKraft (S : Setup ls CS LS m M) {rs : List (Int × Int)} (hp : rs.Perm (usedF CS CS.length)) : ((esF LS M rs).map fun e => 2 ^ e).sum = 2 ^ M.toNat := by
  rw [← S.hk, esF_eq]
  have h := ((S.perm hp).map (fun l => (M - l).toNat)).map (fun e => 2 ^ e)
  rw [perm_sum h]
  unfold kr
  rw [List.map_map]
  congr 1
  refine List.map_congr_left fun l hl => ?_
  rw [← S.hF] at hl
  have := S.hL l (List.mem_filter.mp hl).1
  show 2 ^ (M - l).toNat = _
  congr 1
  omega
theorem Setup.esZero (S : Setup ls CS LS m M) {rs : List (Int × Int)} (hp : rs.Perm (usedF CS CS.length)) : 0 ∈ esF LS M rs := by
  rw [esF_eq]
  exact List.mem_map.mpr ⟨M, (S.perm hp).mem_iff.mpr S.hmem, by omega⟩
theorem Setup.esLt (S : Setup ls CS LS m M) {rs : List (Int × Int)} (hp : rs.Perm (usedF CS CS.length)) : ∀ e ∈ esF LS M rs, e < M.toNat := by
  intro e he
  obtain ⟨p, hpm, rfl⟩ := List.mem_map.mp he
  have h := (S.pairs hp p hpm).2.2.2.2.1
  have := S.hM
  show (M - LS.getD p.2.toNat 0).toNat < _
  omega
theorem Setup.full (S : Setup ls CS LS m M) {rs : List (Int × Int)} (hp : rs.Perm (usedF CS CS.length)) (hs : rs.Pairwise (fun a b => blt2 b a = false)) {top : Nat} (ht : M.toNat ≤ top) : depthsF (rs.map (·.1)) top = rs.map fun p => LS.getD p.2.toNat 0 := by
  have hM := S.hM
  rw [S.ws hp, depths_full S.hm (S.esSorted hp hs) (S.esKraft hp) (by omega) (S.esLt hp) ht]
  unfold esF
  rw [List.map_map]
  refine List.map_congr_left fun p hpm => ?_
  have h1 := S.getL p.2.toNat
  show ((M.toNat - (M - LS.getD p.2.toNat 0).toNat : Nat) : Int) = _
  omega
theorem zeros_getD (n i : Nat) : (List.replicate n (0 : Int)).getD i 0 = 0 := by
  rw [List.getD_eq_getElem?_getD, List.getElem?_replicate]
  split <;> rfl
theorem Setup.placed_full (S : Setup ls CS LS m M) {rs : List (Int × Int)} (hp : rs.Perm (usedF CS CS.length)) : placedF rs (rs.map fun p => LS.getD p.2.toNat 0) (List.replicate CS.length 0) = LS := by
  refine List.ext_getElem (by rw [placedF_length, List.length_replicate, S.len]) fun i h1 h2 => ?_
  have h := placed_map LS rs (List.replicate CS.length 0) i (by rw [List.length_replicate, S.len]) h2 ?_
  · rw [List.getD_eq_getElem?_getD, List.getD_eq_getElem?_getD, List.getElem?_eq_getElem h1, List.getElem?_eq_getElem h2] at h
    exact h
  · by_cases e : LS.getD i 0 = 0
    · exact .inr (by rw [zeros_getD, e])
    · refine .inl ⟨(CS.getD i 0, (i : Int)), hp.mem_iff.mpr (used_mem' CS CS.length i (by rw [S.len]; exact h2) ?_), by simp⟩
      rw [S.getD]; exact gF_pos S.hm e
theorem Setup.same (S : Setup ls CS LS m M) (rs : List (Int × Int)) (top : Nat) (hp : rs.Perm (usedF CS CS.length)) (hs : rs.Pairwise (fun a b => blt2 b a = false)) (ht : M.toNat ≤ top) : leastF CS.length rs top = LS := by
  unfold leastF
  rw [S.full hp hs ht]
  exact S.placed_full hp
theorem tot_eq (M : Int) : ∀ (CS LS : List Int), CS.length = LS.length → (∀ c ∈ CS, 0 ≤ c) → bitsF CS LS = M * CS.sum - (List.zipWith (fun c l => c * (M - l)) CS LS).sum
  | [], [], _, _ => by simp [bitsF]
  | [], _ :: _, h, _ => by simp at h
  | _ :: _, [], h, _ => by simp at h
  | c :: CS, l :: LS, h, hc => by
    have ih := tot_eq M CS LS (by simpa using h) (fun x hx => hc x (.tail _ hx))
    have h0 := hc c (.head _)
    unfold bitsF at ih ⊢
    simp only [List.zip_cons_cons, List.map_cons, List.sum_cons, List.zipWith_cons_cons]
    rw [ih, Int.mul_add, Int.mul_sub, Int.mul_comm c M]
    split
    · omega
    · have : c = 0 := by omega
      subst this
      simp
theorem pcost_cst (m : Int) : ∀ (rs : List (Int × Int)) (es : List Nat) (ds : List Int), rs.map (·.1) = wsF m es → rs.length = ds.length → pcost rs ds = m * cst es ds
  | [], [], ds, _, _ => by simp [pcost, cst]
  | [], _ :: _, _, h, _ => by simp at h
  | _ :: _, [], _, h, _ => by simp at h
  | _ :: _, _ :: _, [], _, h => by simp at h
  | p :: rs, e :: es, d :: ds, h, hl => by
    simp only [wsF, List.map_cons, List.cons.injEq] at h
    have ih := pcost_cst m rs es ds h.2 (by simpa using hl)
    rw [pcost, cst, ih, h.1, Int.mul_add, Int.mul_assoc]
theorem bits_zero : ∀ (cs : List Int), bitsF cs (List.replicate cs.length 0) = 0
  | [] => rfl
  | c :: cs => by
    have ih := bits_zero cs
    unfold bitsF at ih ⊢
    simp only [List.length_cons, List.replicate_succ, List.zip_cons_cons, List.map_cons, List.sum_cons, ih]
    simp
theorem Setup.bits (S : Setup ls CS LS m M) {rs : List (Int × Int)} (hp : rs.Perm (usedF CS CS.length)) (ds : List Int) (hl : rs.length = ds.length) : bitsF CS (placedF rs ds (List.replicate CS.length 0)) = m * cst (esF LS M rs) ds := by
  rw [bits_placed CS rs ds (List.replicate CS.length 0) (List.length_replicate ..) hl ?_ ?_, bits_zero, Int.zero_add, pcost_cst m rs _ ds (S.ws hp) hl]
  · exact (hp.pairwise_iff (fun {a b} h => Ne.symm h)).mpr (used_inc CS CS.length)
  · intro p hpm
    obtain ⟨h1, h2, h3, h4, _⟩ := S.pairs hp p hpm
    exact ⟨h1, h2, h3, h4, zeros_getD _ _⟩
theorem Setup.less (S : Setup ls CS LS m M) (hM2 : 2 ≤ M) (hbig : (ls.length : Int) ≤ 2 ^ (M - 1).toNat) (rs : List (Int × Int)) (hp : rs.Perm (usedF CS CS.length)) (hs : rs.Pairwise (fun a b => blt2 b a = false)) :
    (leastF CS.length rs (M - 1).toNat).length = CS.length ∧ (∀ d ∈ leastF CS.length rs (M - 1).toNat, 0 ≤ d ∧ d ≤ 1000) ∧ (∀ (i : Nat), CS.getD i 0 > 0 → (leastF CS.length rs (M - 1).toNat).getD i 0 ≠ 0) ∧ bitsF CS LS < bitsF CS (leastF CS.length rs (M - 1).toNat) := by
  have hM := S.hM
  obtain ⟨top, htop⟩ : ∃ top : Nat, (M - 1).toNat = top := ⟨_, rfl⟩
  have hMt : M.toNat = top + 1 := by omega
  have hrl : rs.length = ls.length := by rw [hp.length_eq, S.used_len]
  have hwl : (rs.map (·.1)).length = ls.length := by rw [List.length_map, hrl]
  have hbn : (rs.map (·.1)).length ≤ 2 ^ top := by
    rw [hwl]
    rw [htop] at hbig
    exact_mod_cast hbig
  have h2 := S.h2
  obtain ⟨hk, hb, hdl⟩ := depths_kraft (ws := rs.map (·.1)) (top := top) (by omega) (by omega) hbn
  have hd1 := depths_pos (ws := rs.map (·.1)) (top := top) (by omega) (by omega) hbn
  rw [htop]
  unfold leastF
  generalize hds : depthsF (rs.map (·.1)) top = ds at *
  have hrd : rs.length = ds.length := by omega
  refine ⟨by rw [placedF_length, List.length_replicate], fun d hd => ?_, fun i hi => ?_, ?_⟩
  · obtain ⟨i, hi, rfl⟩ := List.getElem_of_mem hd
    have hc := placed_cases rs ds (List.replicate CS.length 0) i hrd
    rw [zeros_getD, List.getD_eq_getElem?_getD, List.getElem?_eq_getElem hi] at hc
    rcases hc with e | e
    · have e' : (placedF rs ds (List.replicate CS.length 0))[i] = 0 := e
      omega
    · have := hb _ e
      simp only [Option.getD_some] at this
      omega
  · have hil : i < CS.length := by
      rcases Nat.lt_or_ge i CS.length with h | h
      · exact h
      · rw [List.getD_eq_getElem?_getD, List.getElem?_eq_none h] at hi
        exact absurd hi (by show ¬ (0 : Int) > 0; omega)
    have hmem := hp.mem_iff.mpr (used_mem' CS CS.length i hil hi)
    have hu := placed_used rs ds (List.replicate CS.length 0) _ hrd hmem (by simpa using hil)
    have := hd1 _ hu
    simp only [Int.toNat_natCast] at this
    omega
  · rw [S.bits hp ds hrd]
    have e := S.placed_full hp
    have hb2 := S.bits hp (rs.map fun p => LS.getD p.2.toNat 0) (by rw [List.length_map])
    rw [e] at hb2
    rw [hb2]
    have hes : (rs.map fun p => LS.getD p.2.toNat 0) = (esF LS M rs).map (fun e => ((top + 1 - e : Nat) : Int)) := by
      unfold esF
      rw [List.map_map]
      refine List.map_congr_left fun p hpm => ?_
      have h1 := S.getL p.2.toNat
      show _ = ((top + 1 - (M - LS.getD p.2.toNat 0).toNat : Nat) : Int)
      omega
    rw [hes]
    refine Int.mul_lt_mul_of_pos_left ?_ S.hm
    exact cost_more (by unfold esF; rw [List.length_map]; exact hrd) (by rw [S.esKraft hp, hMt]) (S.esZero hp) (fun e he => by have := S.esLt hp e he; omega) hb hk
end
/-- a list with a zero put in -/
theorem setup_of {n x : Nat} {ls cs CS LS : List Int} {M m : Int} (hco : Code n ls) (hn : 1 ≤ n) (hM : 1 ≤ M ∧ M ≤ 11) (hmem : M ∈ ls) (hmax : ∀ a ∈ ls, a ≤ M) (hpos : ∀ l ∈ ls, 1 ≤ l) (hm : 0 < m) (hm2 : m ≤ 50)
    (hcs : ls.map (fun k => m * 2 ^ (M - k).toNat) = cs) (hCS : cs.take x ++ [0] ++ cs.drop x = CS) (hLS : ls.take x ++ [0] ++ ls.drop x = LS) : Setup ls CS LS m M where
  hG := by
    have e : cs = ls.map (gF m M) := by
      rw [← hcs]
      refine List.map_congr_left fun l hl => ?_
      unfold gF
      rw [if_neg (by have := hpos l hl; omega)]
    rw [← hCS, ← hLS, e]
    simp [gF]
  hF := by
    rw [← hLS]
    have key : ∀ l : List Int, (∀ y ∈ l, 1 ≤ y) → l.filter (fun l => decide (l ≠ 0)) = l := fun l hl => List.filter_eq_self.mpr fun y hy => by have := hl y hy; simp; omega
    rw [List.filter_append, List.filter_append, key _ (fun y hy => hpos y (List.mem_of_mem_take hy)), key _ (fun y hy => hpos y (List.mem_of_mem_drop hy))]
    simp
  hL := by
    intro l hl
    rw [← hLS] at hl
    rcases List.mem_append.mp hl with hl | hl
    · rcases List.mem_append.mp hl with hl | hl
      · have h1 := hpos l (List.mem_of_mem_take hl)
        have h2 := hmax l (List.mem_of_mem_take hl)
        omega
      · rw [List.mem_singleton.mp hl]; omega
    · have h1 := hpos l (List.mem_of_mem_drop hl)
      have h2 := hmax l (List.mem_of_mem_drop hl)
      omega
  hm := hm
  hm2 := hm2
  hM := hM
  hmem := hmem
  hk := hco.kraft M.toNat fun l hl => by have := hmax l hl; omega
  h2 := by have := hco.length; omega

end
theorem off_L1 : True := by
  w_top off
  trivial
section
def Feed (ls : List Int) (M : Int) : Prop := ∀ l ∈ ls, 0 ≤ l ∧ l ≤ M ∧ M ≤ 11
theorem Feed.of {ls : List Int} {M k : Int} (h1 : ∀ l ∈ ls, 0 ≤ l ∧ l ≤ k) (h2 : ∀ a ∈ ls, a ≤ M) (h3 : M ≤ 11) : Feed ls M := fun l hl => ⟨(h1 l hl).1, h2 l hl, h3⟩
theorem Feed.use {ls : List Int} {M l : Int} (f : Feed ls M) (h : l ∈ ls) : 0 ≤ l ∧ l ≤ M ∧ M ≤ 11 := f l h
theorem Code.pos {t : Nat} {ls : List Int} (h : Code t ls) : 1 ≤ t → ∀ l ∈ ls, 1 ≤ l := by
  induction h with
  | zero => intro h; omega
  | @split t ls x hc hx ih =>
    intro _ l hl
    have hb := hc.bound
    unfold splitF at hl
    have hg := hb (ls.getD x 0) (by rw [List.getD_eq_getElem?_getD, List.getElem?_eq_getElem hx]; exact List.getElem_mem _)
    by_cases ht : 1 ≤ t
    · rcases List.mem_append.mp hl with hl | hl
      · rcases List.mem_append.mp hl with hl | hl
        · exact ih ht l (List.mem_of_mem_take hl)
        · simp only [List.mem_cons, List.not_mem_nil, or_false] at hl
          omega
      · exact ih ht l (List.mem_of_mem_drop hl)
    · have hl1 := hc.length
      have hx0 : x = 0 := by omega
      subst hx0
      have hd : ls.drop 1 = [] := List.drop_of_length_le (by omega)
      rw [List.take_zero, hd] at hl
      simp only [List.nil_append, List.append_nil, List.mem_cons, List.not_mem_nil, or_false] at hl
      omega
local macro_rules | `(tactic| k_ne) => `(tactic| ((try dsimp only); first | assumption | (refine Ne.symm ?_; assumption)))
local macro_rules | `(tactic| walk_at "call ref") => `(tactic| refine stop ?_)
theorem Feed.small {ls : List Int} {M l : Int} (f : Feed ls M) (h : l ∈ ls) : 0 ≤ M - l ∧ M - l ≤ 1000000 := by
  have := f l h; omega
local macro_rules | `(tactic| walk_at "binaryOp Pow int int") => `(tactic| ((rename Feed _ _ => fd1); (with_unfolding_all refine pow_int_small (Feed.small fd1 (by assumption)).1 (Feed.small fd1 (by assumption)).2 (by decide) ?_)))
local macro_rules | `(tactic| walk_at "exec Assign cons ListComp") => `(tactic| refine stop ?_)
local macro_rules | `(tactic| walk_at "eval ListComp") => `(tactic| refine stop ?_)
local macro_rules | `(tactic| walk_at "call type:zip") => `(tactic| refine stop ?_)
local macro_rules | `(tactic| walk_at "PureEnd") => `(tactic| refine stop ?_)
theorem News.pick {h₀ h : Heap} {L : Addr} {news rest : List (Addr × Obj)} {p : Addr × Obj} (N : News h₀ L h news) (hm : p ∈ news) (N' : News h₀ L h rest) : News h₀ L h (p :: rest) := by
  intro q hq
  rcases List.mem_cons.mp hq with rfl | hq
  · exact N q hm
  · exact N' q hq
set_option maxHeartbeats 8000000 in
theorem tt : PySem.Challenge.rw_sf0060_01.Holds := by
  refine hd ?_
  k_go0
  rename Shared => s1
  rename Ground _ _ _ _ _ _ _ _ _ => G0
  rename Frag.In _ _ => X
  rename Top _ _ _ _ _ _ => T
  rename Fr _ _ _ _ => F0
  rename News _ _ _ _ => N0
  rename IntsAre _ _ => hsi
  rename Heap.IsList _ _ _ => hsl
  rename CellsAre _ _ _ => X0
  rename ¬ _ => hlen63
  have hns := hlen63
  clear hlen63
  k_steps
  refine Stop.of ?_
  refine at_A0 (jar_spec (X.keeps F0.keep) (T.keeps F0.keep) (stays_list F0.keep hsl) hsi (by omega) ?_) rfl (Nat.le_of_ble_eq_true rfl) (Nat.le_of_ble_eq_true rfl)
  intro h2 tk2 jar row rv ks t0 kr kj st2 fj fr hrj gj gr hri hkl
  have F2 := F0.keeps st2
  have N2 := News.add F0 (News.add F0 (N0.grown st2) fr gr) fj gj
  have oj := off_fresh N0 fj
  have orw := off_fresh N0 fr
  clear F0 N0
  dsimp only
  k_steps
  refine Stop.of ?_
  rename Fr _ _ _ _ => F3
  rename News _ _ _ _ => N3
  refine at_A0 (code_spec X T F3.keep (N3 _ (.head _)).2.2 (N3 _ (.head _)).1 (News.isList N3 (.tail _ (.head _))) hrj hri hkl ?_) rfl (Nat.le_of_ble_eq_true rfl) (Nat.le_of_ble_eq_true rfl)
  intro h4 tk4 f fv kf ls n t4 kj4 hk4 hj4 hf4 gf4 hfi hco hn1 hn2
  have F4 := fr_pick F3 hk4 (N3 _ (.head _)).2.2 (N3 _ (.head _)).2.1
  have N4 := News.add F3 (news_pick N3 hk4 hj4 (by
    intro p hp
    rcases List.mem_cons.mp hp with rfl | hp
    · exact hrj
    · exact oj p hp)) hf4 gf4
  have of4 := off_fresh N3 hf4
  clear F3 N3
  simp only [List.forall_mem_cons] at of4
  obtain ⟨of1, of2, of3, of4, -⟩ := of4
  have hll := hco.length
  have hlb := hco.bound
  have hfl := hfi.length
  dsimp only
  k_steps
  refine Stop.of ?_
  rename Fr _ _ _ _ => F5
  rename News _ _ _ _ => N5
  rename ∀ a ∈ ls, a ≤ _ => hmax
  rename _ ∈ ls => hmem
  rename_i M tM kM
  have N5' : News _ _ _ _ := News.sub (news' := (jar, listOf [Value.ref row, .int ((n : Nat) + 1 : Int) t4].toArray kj4) :: (f, listOf fv.toArray kf) :: (row, listOf rv.toArray kr) :: _) N5 (fun p hp => by
    rcases List.mem_cons.mp hp with rfl | hp
    · exact .tail _ (.head _)
    · rcases List.mem_cons.mp hp with rfl | hp
      · exact .head _
      · exact .tail _ (.tail _ hp))
  clear N5
  have hfj : f ≠ jar := Ne.symm of1
  refine at_A0 (pick_spec X T F5.keep (N5' _ (.head _)).2.2 (N5' _ (.head _)).1 (News.isList N5' (.tail _ (.tail _ (.head _)))) hrj hri hkl (by omega) (by omega) (by omega) (by omega) ?_) rfl (Nat.le_of_ble_eq_true rfl) (Nat.le_of_ble_eq_true rfl)
  intro h6 tk6 x6 tx6 t6 kj6 hk6 hj6 hx60 hx61
  have F6 := fr_pick F5 hk6 (N5' _ (.head _)).2.2 (N5' _ (.head _)).2.1
  have N6 := news_pick N5' hk6 hj6 (by
    intro p hp
    rcases List.mem_cons.mp hp with rfl | hp
    · exact hfj
    · rcases List.mem_cons.mp hp with rfl | hp
      · exact hrj
      · exact oj p hp)
  clear F5 N5'
  dsimp only
  simp only [List.forall_mem_cons] at oj orw
  obtain ⟨oj1, oj2, -⟩ := oj
  obtain ⟨or1, or2, -⟩ := orw
  k_steps
  refine Stop.of ?_
  rename Fr _ _ _ _ => F7
  rename News _ _ _ _ => N7
  rename ∀ a ∈ ls, a ≤ _ => hmax
  have hM0 := hlb _ hmem
  have hM1 := hco.pos hn1 _ hmem
  have feed := Feed.of hlb hmax (by omega)
  refine LCg.Assign_ListComp_U (F₀ := F7) (by rfl) (by with_unfolding_all rfl) (by with_unfolding_all rfl) (by decide) (by rfl) (by decide) (by rfl) (by rfl) (by rfl) ?_
  k_steps
  refine Stop.of ?_
  rename Fr _ _ _ _ => F8
  rename News _ _ _ _ => N8
  rename (@Ne Nat _ _) ∧ _ => o8
  rename IntsAre _ (List.map _ _) => hci
  rename_i D8 h8 tk8
  obtain ⟨-, o81, o82, o83, o84, o85⟩ := o8
  change @Ne Addr _ _ at o81 o82 o83 o84 o85
  have N8' : News _ _ _ _ := News.sub (news' := (jar, listOf [Value.ref row, .int ((n : Nat) + 1 + 1 : Int) t6].toArray kj6) :: (D8, _) :: (f, listOf fv.toArray kf) :: (row, listOf rv.toArray kr) :: _) N8 (fun p hp => by
    rcases List.mem_cons.mp hp with rfl | hp
    · exact .tail _ (.tail _ (.head _))
    · rcases List.mem_cons.mp hp with rfl | hp
      · exact .head _
      · exact .tail _ (.tail _ (.tail _ hp)))
  clear N8
  generalize hcs : List.map (fun k' => (1 + x6) * 2 ^ (M - k').toNat) ls = cs at hci ⊢
  have hcl : cs.length = ls.length := by rw [← hcs]; exact List.length_map ..
  refine at_A0 (pick_spec X T F8.keep (N8' _ (.head _)).2.2 (N8' _ (.head _)).1 (News.isList N8' (.tail _ (.tail _ (.tail _ (.head _))))) hrj hri hkl (by omega) (by omega) (by omega) (by omega) ?_) rfl (Nat.le_of_ble_eq_true rfl) (Nat.le_of_ble_eq_true rfl)
  intro h9 tk9 x9 tx9 t9 kj9 hk9 hj9 hx90 hx91
  have F9 := fr_pick F8 hk9 (N8' _ (.head _)).2.2 (N8' _ (.head _)).2.1
  have N9 := news_pick N8' hk9 hj9 (by
    simp only [List.forall_mem_cons]
    exact ⟨Ne.symm o81, hfj, hrj, oj1, oj2, fun p hp => nomatch hp⟩)
  clear F8 N8'
  dsimp only
  k_steps
  refine Stop.of ?_
  rename Fr _ _ _ _ => F10
  rename News _ _ _ _ => N10
  rename IntsAre _ (List.take _ ls ++ [0] ++ List.drop _ ls) => hui
  rename IntsAre _ (List.take _ cs ++ [0] ++ List.drop _ cs) => hci2
  rename_i h10
  rename _ = Data.cell (some (Value.int M tM)) => d0
  rename _ = Data.cell (some (Value.int (1 + x6) _)) => d1
  obtain ⟨C, U, cv, uv, m0, o1, o0, t1, hC2, hU2, hci3, hui3, d1, d0, FX, NX⟩ : ∃ (C U : Addr) (cv uv : List Value) (m0 : Str → Option Value) (o1 o0 : Obj) (t1 : Tok), C ≠ jar ∧ U ≠ jar ∧ IntsAre cv (cs.take x9.toNat ++ [0] ++ cs.drop x9.toNat) ∧ IntsAre uv (ls.take x9.toNat ++ [0] ++ ls.drop x9.toNat) ∧
      o1.data = Data.cell (some (Value.int (1 + x6) t1)) ∧ o0.data = Data.cell (some (Value.int M tM)) ∧
      Fr s1.heap s1.heap.objs.size h10 (fun y => if y = "counts" then some (Value.ref C) else if y = "due" then some (Value.ref U) else if y = "spot" then some (Value.int x9 tx9) else if y = "counts" then some (Value.ref D8) else (fun y : Str => if y = "lengths" then some (Value.ref f) else if y = "jar" then some (Value.ref jar) else m0 y) y) ∧
      News s1.heap s1.heap.objs.size h10 [(jar, listOf [Value.ref row, .int ((n : Nat) + 1 + 1 + 1 : Int) t9].toArray kj9), (C, listOf (List.toArray cv) 0), (U, listOf (List.toArray uv) 0), (f, listOf fv.toArray kf), (row, listOf rv.toArray kr), (s1.heap.objs.size + 1 + 1, o1), (s1.heap.objs.size + 1, o0)] := by
    refine ⟨_, _, _, _, _, _, _, _, ?_, ?_, hci2, hui, d1, d0, F10, ?_⟩
    · exact neN (by omega)
    · exact neN (by omega)
    exact List.forall_mem_cons.mpr ⟨N10 _ (by k_mem), List.forall_mem_cons.mpr ⟨N10 _ (by k_mem), List.forall_mem_cons.mpr ⟨N10 _ (by k_mem), List.forall_mem_cons.mpr ⟨N10 _ (by k_mem), List.forall_mem_cons.mpr ⟨N10 _ (by k_mem), List.forall_mem_cons.mpr ⟨N10 _ (by k_mem), List.forall_mem_cons.mpr ⟨N10 _ (by k_mem), fun _ h => nomatch h⟩⟩⟩⟩⟩⟩⟩
  clear F10 N10 hci2 hui
  refine at_A0 (pick_spec X T FX.keep (NX _ (.head _)).2.2 (NX _ (.head _)).1 (News.isList NX (.tail _ (.tail _ (.tail _ (.tail _ (.head _)))))) hrj hri hkl (by omega) (by omega) (by omega) (by omega) ?_) rfl (Nat.le_of_ble_eq_true rfl) (Nat.le_of_ble_eq_true rfl)
  intro h11 tk11 x11 tx11 t11 kj11 hk11 hj11 hx110 hx111
  have F11 := fr_pick FX hk11 (NX _ (.head _)).2.2 (NX _ (.head _)).2.1
  have N11 := news_pick NX hk11 hj11 (by
    simp only [List.forall_mem_cons]
    exact ⟨hC2, hU2, hfj, hrj, oj1, oj2, fun p hp => nomatch hp⟩)
  clear FX NX
  generalize hCS : List.take x9.toNat cs ++ [0] ++ List.drop x9.toNat cs = CS at hci3
  generalize hLS : List.take x9.toNat ls ++ [0] ++ List.drop x9.toNat ls = LS at hui3
  dsimp only
  k_steps
  refine Stop.of ?_
  rename Fr _ _ _ _ => F12
  rename News _ _ _ _ => N12
  have hSet : Setup ls CS LS (1 + x6) M := setup_of hco hn1 ⟨hM1, by omega⟩ hmem hmax (hco.pos hn1) (by omega) (by omega) hcs hCS hLS
  have hLl : LS.length = ls.length + 1 := by
    rw [← hLS, List.length_append, List.length_append, List.length_take, List.length_drop]
    show min x9.toNat ls.length + 1 + (ls.length - x9.toNat) = _
    omega
  have hCl : CS.length = ls.length + 1 := by rw [hSet.len, hLl]
  have hC1 := hSet.bound
  have hC0 : ∀ c ∈ CS, 0 ≤ c := fun c hc => (hC1 c hc).1
  have hL1 := hSet.hL
  have hus := hSet.used_len
  have hroom := hSet.room
  have hsame := hSet.same
  refine at_A0 (least_spec (X.keeps F12.keep) (T.keeps F12.keep) (News.isList N12 (.tail _ (.head _))) hci3 (by omega) hC0 (by omega) (by omega) (by omega) (by rw [hus]; exact hroom) ?_) rfl (Nat.le_of_ble_eq_true rfl) (Nat.le_of_ble_eq_true rfl)
  intro h13 tk13 f13 fv13 kf13 rs13 st13 fr13 gf13 hp13 hq13 hi13
  have F13 := F12.keeps st13
  have N13 := News.add F12 (N12.grown st13) fr13 gf13
  clear F12 N12
  rw [hsame rs13 _ hp13 hq13 (Nat.le_refl _)] at hi13
  dsimp only
  k_steps
  refine Stop.of ?_
  rename Fr _ _ _ _ => F14
  rename News _ _ _ _ => N14
  refine at_A0 (least_spec (X.keeps F14.keep) (T.keeps F14.keep) (News.isList N14 (.tail _ (.tail _ (.head _)))) hci3 (by omega) hC0 (by omega) (by omega) (by omega) (by
    rw [hus]
    refine Int.le_trans hroom ?_
    exact_mod_cast Nat.pow_le_pow_right (n := 2) (by omega) (show M.toNat ≤ (M + x11).toNat by omega)) ?_) rfl (Nat.le_of_ble_eq_true rfl) (Nat.le_of_ble_eq_true rfl)
  intro h15 tk15 f15 fv15 kf15 rs15 st15 fr15 gf15 hp15 hq15 hi15
  have F15 := F14.keeps st15
  have N15 := News.add F14 (N14.grown st15) fr15 gf15
  clear F14 N14
  rw [hsame rs15 _ hp15 hq15 (by omega)] at hi15
  dsimp only
  k_steps
  refine Stop.of ?_
  rename Fr _ _ _ _ => F16
  rename News _ _ _ _ => N16
  have hcvl := hci3.length
  have huvl := hui3.length
  have htot : bitsF CS LS = M * CS.sum - (List.zipWith (fun c l => c * (M - l)) CS LS).sum := tot_eq M CS LS (by omega) hC0
  refine comp_pairs F16 rfl (by with_unfolding_all rfl) (by decide) rfl (by decide) rfl rfl (by decide) ?_
  k_steps
  refine Stop.of ?_
  refine ksrc_zip (n := CS.length) (fun j y => ∃ t, y = .int (CS.getD j 0 * (M - LS.getD j 0)) t) rfl F16 N16 (News.isList N16 (.tail _ (.tail _ (.tail _ (.head _))))) (News.isList N16 (.tail _ (.tail _ (.tail _ (.tail _ (.head _)))))) (by omega) (by omega) (by rw [sizeLine_eq]; omega) ?_ ?_
  · rintro g j a b C2 oC D2 zs m₂ h17 tk17 E' ha hb hC hx hx2 F17 N17
    clear F16 N16
    obtain ⟨c, tc, rfl, hcg⟩ := hci3.at j a ha
    obtain ⟨l, tl, rfl, hlg⟩ := hui3.at j b hb
    have hcb := hC1 c (List.mem_of_getElem? hcg)
    have hlb2 := hL1 l (List.mem_of_getElem? hlg)
    k_steps
    refine Stop.of ?_
    have e1 : CS.getD j 0 = c := by rw [List.getD_eq_getElem?_getD, hcg]; rfl
    have e2 : LS.getD j 0 = l := by rw [List.getD_eq_getElem?_getD, hlg]; rfl
    refine ⟨⟨_, rfl⟩, ?_⟩
    dsimp only
    rw [e1, e2]
    exact ⟨_, rfl⟩
  · intro g ys hys hyg
    unfold LCg.FinE
    intro D3 h17 tk17 F17 N17 o17
    clear F16 N16
    dsimp only
    have hyi : IntsAre ys (List.zipWith (fun c l => c * (M - l)) CS LS) := by
      refine ints_of_get (by rw [hys, List.length_zipWith]; omega) fun j y hy => ?_
      obtain ⟨t, rfl⟩ := hyg j y hy
      have hj : j < CS.length := by rw [← hys]; exact (List.getElem?_eq_some_iff.mp hy).1
      refine ⟨t, ?_⟩
      congr 1
      rw [List.getD_eq_getElem?_getD, List.getD_eq_getElem?_getD, List.getD_eq_getElem?_getD, List.getElem?_zipWith, List.getElem?_eq_getElem hj, List.getElem?_eq_getElem (show j < LS.length by omega)]
      rfl
    k_steps
    refine Stop.of ?_
    rename Fr _ _ _ _ => F18
    rename News _ _ _ _ => N18
    have hpz := hSet.hz
    refine at_A0 (total_bits_spec (X.keeps F18.keep) (T.keeps F18.keep) (News.isList N18 (by k_mem)) hci3 (News.isList N18 (by k_mem)) hui3 (by omega) (by omega) hpz hC1 (fun l hl => by have := hL1 l hl; omega) ?_) rfl (Nat.le_of_ble_eq_true rfl) (Nat.le_of_ble_eq_true rfl)
    intro h19 tk19 t19 st19
    have F19 := F18.keeps st19
    have N19 := N18.grown st19
    clear F18 N18
    rw [htot]
    dsimp only
    k_steps
    refine Stop.of ?_
    rename ¬ ((2 : Int) ^ (M - 1).toNat < (ls.length : Int)) => hbig
    rename Fr _ _ _ _ => F20
    rename News _ _ _ _ => N20
    have hM2 : 2 ≤ M := by
      rcases Int.lt_or_le M 2 with h | h
      · exfalso
        have e : M = 1 := by omega
        rw [e] at hbig
        have e2 : (2 : Int) ^ ((1 : Int) - 1).toNat = 1 := rfl
        omega
      · exact h
    have hless := hSet.less hM2 (by omega)
    refine at_A0 (least_spec (X.keeps F20.keep) (T.keeps F20.keep) (News.isList N20 (.tail _ (.tail _ (.tail _ (.tail _ (.head _)))))) hci3 (by omega) hC0 (by omega) (by omega) (by omega) (by rw [hus]; omega) ?_) rfl (Nat.le_of_ble_eq_true rfl) (Nat.le_of_ble_eq_true rfl)
    intro h21 tk21 f21 fv21 kf21 rs21 st21 fr21 gf21 hp21 hq21 hi21
    have F21 := F20.keeps st21
    have N21 := News.add F20 (N20.grown st21) fr21 gf21
    clear F20 N20
    obtain ⟨b1, b2, b3, b4⟩ := hless rs21 hp21 hq21
    clear hless
    rw [htot] at b4
    generalize leastF CS.length rs21 (M - 1).toNat = DS at *
    dsimp only
    k_steps
    refine Stop.of ?_
    rename Fr _ _ _ _ => F22
    rename News _ _ _ _ => N22
    refine at_A0 (total_bits_spec (X.keeps F22.keep) (T.keeps F22.keep) (News.isList N22 (.tail _ (.tail _ (.tail _ (.tail _ (.tail _ (.head _))))))) hci3 (News.isList N22 (.head _)) hi21 (by omega) (by omega) b3 hC1 b2 ?_) rfl (Nat.le_of_ble_eq_true rfl) (Nat.le_of_ble_eq_true rfl)
    intro h23 tk23 t23 st23
    have F23 := F22.keeps st23
    have N23 := N22.grown st23
    clear F22 N22
    dsimp only
    k_steps

end
end Mine
theorem PySem.Challenge.cw_sf0060_01_holds : PySem.Challenge.rw_sf0060_01.Holds := by
  exact Mine.tt
