import PyProof.Rows.All
import Wide.All
import OpenK.AllK
import Wide.FinOn
import Lean
import PySem.Challenge.RW_no0226_01
set_option Elab.async false

/-! part T226 -/
namespace Mine
section
open PySem PySem.W PyProof.Rows
set_option maxRecDepth 100000 in
set_option maxHeartbeats 8000000 in
open_top hd for PySem.Challenge.rw_no0226_01
end
end Mine

/-! part L1 -/
namespace Mine
theorem back_L1 : True ∧ True := by
  w_top off
  first | (walk1; done) | exact ⟨trivial, trivial⟩
section
open PySem PySem.W PyProof.Rows PySem.Spec PySem.Calls
theorem fr_as {h₀ h : Heap} {L : Addr} {m m' : Str → Option Value} (F : Fr h₀ L h m) (e : ∀ y, m y = m' y) : Fr h₀ L h m' := by
  have : m = m' := funext e
  exact this ▸ F
theorem look_if (k : Str) (v : Value) (r : List (Str × Value)) (y : Str) : List.lookup y ((k, v) :: r) = if y = k then some v else List.lookup y r := by
  rw [List.lookup_cons]
  by_cases h : y = k
  · subst h; simp
  · rw [if_neg h]
    have : (y == k) = false := by simpa using h
    simp only [this]
theorem look1 (k : Str) (v : Value) (y : Str) : [(k, v)].reverse.lookup y = if y = k then some v else none := by
  show List.lookup y [(k, v)] = _
  rw [look_if]; rfl
theorem look2 (k k' : Str) (v v' : Value) (y : Str) : [(k, v), (k', v')].reverse.lookup y = if y = k' then some v' else if y = k then some v else none := by
  show List.lookup y [(k', v'), (k, v)] = _
  rw [look_if, look_if]; rfl
theorem look3 (k k' k'' : Str) (v v' v'' : Value) (y : Str) : [(k, v), (k', v'), (k'', v'')].reverse.lookup y = if y = k'' then some v'' else if y = k' then some v' else if y = k then some v else none := by
  show List.lookup y [(k'', v''), (k', v'), (k, v)] = _
  rw [look_if, look_if, look_if]; rfl

section
variable {prog : Program} {w : World} {A : Around} {E : Value → Shared → Prop} {s : Shared} {env : Env} {h₀ : Heap} {x : Str} {body : List Stmt} {Q : Flow → Shared → Prop}

/-- what stands between two turns: the ledger, the names that count, the word -/
def JS {σ : Type} (Led : σ → List (Addr × Obj)) (ps : σ → List (Str × Value)) (P : σ → Prop) (m : Str → Option Value) (nx : List (Addr × Obj)) : Prop :=
  ∃ c, nx = Led c ∧ (∀ p ∈ ps c, m p.1 = some p.2) ∧ P c

theorem kstB_self {m : Str → Option Value} : ∀ {ps : List (Str × Value)}, (∀ p ∈ ps, m p.1 = some p.2) → kstB m ps = m := fun h => funext fun _ => kstB_eq h fun _ => rfl
theorem off_x {x : Str} {v : Value} {m : Str → Option Value} {ps : List (Str × Value)} (h : ∀ p ∈ ps, m p.1 = some p.2) : (fun y => if y = x then some v else m y) = fun y => if y = x then some v else kstB m ps y := by
  funext y; rw [kstB_self h]

theorem js_end {σ : Type} {Led : σ → List (Addr × Obj)} {ps : σ → List (Str × Value)} {P : σ → Prop} (c : σ) {L : Addr} {m' : Str → Option Value} {own news' : List (Addr × Obj)} {adr : List Addr} {s₁ : Shared} {h' : Heap} {tk : Nat}
    (F : Fr h₀ L h' m') (N : News h₀ L h' news') (hn : ∀ p ∈ Led c, p ∈ news') (ho : ∀ p ∈ own, p ∈ news') (ha : (Led c).map (·.1) = adr) (hk : ∀ p ∈ ps c, m' p.1 = some p.2) (hp : P c) :
    InvEndN h₀ L (JS Led ps P) own adr s₁ { s₁ with heap := h', toks := tk } :=
  InvEndN.intro F N ⟨c, rfl, hk, hp⟩ ha hn ho

theorem loop_js {σ : Type} {I : Addr} {fp wr : List Addr} {n : Nat} {Pv : Nat → Value → Prop} {St : Nat → Heap → Prop} {m₀ : Str → Option Value} (Led : σ → List (Addr × Obj)) (ps : σ → List (Str × Value)) (J : Nat → σ → Prop) (c₀ : σ)
    (W : Walks prog w A I fp wr n Pv St) (hLf : env.locals ∉ fp) (hwr : ∀ b ∈ wr, h₀.get? b = none) (hnw : ∀ p ∈ Led c₀, p.1 ∉ wr) (hfp : ∀ p ∈ Led c₀, p.1 ∉ fp) (hst : St 0 s.heap)
    (F : Fr h₀ env.locals s.heap m₀) (N : News h₀ env.locals s.heap (Led c₀)) (hk : ∀ p ∈ ps c₀, m₀ p.1 = some p.2) (hj : J 0 c₀)
    (turn : ∀ i v c (u : Str → Option Value) h tk own, i < n → Pv i v → OwnOff own ((Led c₀).map (·.1)) → J i c → Fr h₀ env.locals h (fun y => if y = x then some v else kstB u (ps c) y) → News h₀ env.locals h (Led c ++ own) →
      wpAny (model prog w) A (execs body env) (InvPostN h₀ env.locals (JS Led ps (J (i + 1))) own ((Led c₀).map (·.1)) { s with heap := h, toks := tk } Q) E { s with heap := h, toks := tk })
    (done : ∀ c (u : Str → Option Value) h tk, J n c → Fr h₀ env.locals h (kstB u (ps c)) → News h₀ env.locals h (Led c) → Q .next { s with heap := h, toks := tk }) :
    LoopAtV prog w A h₀ env x body Q E (.ref I) s := by
  refine loop_invN (fun i m nx => JS Led ps (J i) m nx) W hLf hwr hnw hfp hst F N ⟨c₀, rfl, hk, hj⟩ ?_ ?_
  · rintro i v m₁ nx h tk own hi hv _ hoff ⟨c, rfl, h1, h2⟩ F₁ N₁
    rw [off_x h1] at F₁
    exact turn i v c m₁ h tk own hi hv hoff h2 F₁ N₁
  · rintro m₁ nx h tk ⟨c, rfl, h1, h2⟩ F₁ N₁
    refine done c m₁ h tk h2 ?_ N₁
    rw [kstB_self h1]; exact F₁

theorem iter_off {m₀ : Str → Option Value} {L : Addr} {h : Heap} (F : Fr h₀ L h m₀) : L ∉ [h.objs.size] := fun hm => absurd F.ns.lt ((List.mem_singleton.mp hm) ▸ Nat.lt_irrefl _)
theorem iter_new {m₀ : Str → Option Value} {L : Addr} {h : Heap} (F : Fr h₀ L h m₀) : ∀ b ∈ [h.objs.size], h₀.get? b = none := fun b hb => by
  rw [List.mem_singleton.mp hb]; exact next_is_new F
theorem iter_led {L : Addr} {h : Heap} {news : List (Addr × Obj)} (N : News h₀ L h news) : ∀ p ∈ news, p.1 ∉ [h.objs.size] := fun p hp hI => absurd (Heap.lt_size (N p hp).1) ((List.mem_singleton.mp hI) ▸ Nat.lt_irrefl _)
theorem news_pushd {L : Addr} {h : Heap} {news : List (Addr × Obj)} (N : News h₀ L h news) (o : Obj) : News h₀ L (h.push o) news := fun p hp => ⟨Heap.get?_push_of_some _ (N p hp).1, (N p hp).2⟩

/-- for x in a text -/
theorem my_text {σ : Type} {xt : Str} {tx : Tok} {m₀ : Str → Option Value} (Led : σ → List (Addr × Obj)) (ps : σ → List (Str × Value)) (J : Nat → σ → Prop) (c₀ : σ)
    (hh : A.handled = none) (F : Fr h₀ env.locals s.heap m₀) (N : News h₀ env.locals s.heap (Led c₀)) (hk : ∀ p ∈ ps c₀, m₀ p.1 = some p.2) (hj : J 0 c₀)
    (turn : ∀ (i : Nat) (n : Nat) t c (u : Str → Option Value) h tk own, xt.cps[i]? = some n → OwnOff own ((Led c₀).map (·.1)) → J i c → Fr h₀ env.locals h (fun y => if y = x then some (.str ⟨#[n]⟩ t) else kstB u (ps c) y) → News h₀ env.locals h (Led c ++ own) →
      wpAny (model prog w) A (execs body env) (InvPostN h₀ env.locals (JS Led ps (J (i + 1))) own ((Led c₀).map (·.1)) { s with heap := h, toks := tk } Q) E { s with heap := h, toks := tk })
    (done : ∀ c (u : Str → Option Value) h tk, J xt.cps.size c → Fr h₀ env.locals h (kstB u (ps c)) → News h₀ env.locals h (Led c) → Q .next { s with heap := h, toks := tk }) :
    wpAny (model prog w) A (pyIter (.str xt tx)) (fun it s₂ => LoopAtV prog w A h₀ env x body Q E it s₂) E s := by
  refine wpAny_pyIter_str fun o St hW hst => ?_
  refine loop_js Led ps J c₀ (hW A hh) (iter_off F) (iter_new F) (iter_led N) (iter_led N) hst (F.push _) (news_pushd N _) hk hj ?_ done
  rintro i v c u h tk own _ ⟨n, t, hn, rfl⟩ hoff hJ F₁ N₁
  exact turn i n t c u h tk own hn hoff hJ F₁ N₁

/-- for x in range(a, b) -/
theorem my_range {σ : Type} {r : Addr} {a₀ b₀ : Int} {t₀ u₀ v₀ : Tok} {m₀ : Str → Option Value} (n : Nat) (Led : σ → List (Addr × Obj)) (ps : σ → List (Str × Value)) (J : Nat → σ → Prop) (c₀ : σ)
    (hh : A.handled = none) (hr : IsRange s.heap r a₀ b₀ 1 t₀ u₀ v₀) (h1 : -(2 ^ 60) ≤ a₀) (h2 : a₀ < 2 ^ 60) (h3 : -(2 ^ 60) ≤ b₀) (h4 : b₀ < 2 ^ 60) (hn : (b₀ - a₀).toNat = n)
    (F : Fr h₀ env.locals s.heap m₀) (N : News h₀ env.locals s.heap (Led c₀)) (hk : ∀ p ∈ ps c₀, m₀ p.1 = some p.2) (hj : J 0 c₀)
    (turn : ∀ (i : Nat) t c (u : Str → Option Value) h tk own, i < n → OwnOff own ((Led c₀).map (·.1)) → J i c → Fr h₀ env.locals h (fun y => if y = x then some (.int (a₀ + (i : Int)) t) else kstB u (ps c) y) → News h₀ env.locals h (Led c ++ own) →
      wpAny (model prog w) A (execs body env) (InvPostN h₀ env.locals (JS Led ps (J (i + 1))) own ((Led c₀).map (·.1)) { s with heap := h, toks := tk } Q) E { s with heap := h, toks := tk })
    (done : ∀ c (u : Str → Option Value) h tk, J n c → Fr h₀ env.locals h (kstB u (ps c)) → News h₀ env.locals h (Led c) → Q .next { s with heap := h, toks := tk }) :
    wpAny (model prog w) A (pyIter (.ref r)) (fun it s₂ => LoopAtV prog w A h₀ env x body Q E it s₂) E s := by
  refine wpAny_pyIter_range hr (small_one (by omega) (by omega) (by omega) (by omega)) ?_
  rw [rangeSize_nat, hn]
  refine loop_js Led ps J c₀ (Walks.range hh s.heap.objs.size a₀ 1 n).bound (iter_off F) (iter_new F) (iter_led N) (iter_led N) (by simpa [IsRangeIter] using Heap.get?_push_size _ rfl) (F.push _) (news_pushd N _) hk hj (fun i v c u h tk own hi hv hoff hJ F₁ N₁ => ?_) done
  obtain ⟨-, t, rfl⟩ := hv
  rw [Int.mul_one] at F₁
  exact turn i t c u h tk own hi hoff hJ F₁ N₁

/-- for x in a dict of the ledger; no turn touches the ledger -/
theorem my_keys {knd : KeyKind prog w Int} {d : Addr} {od : Obj} {kvs : List (Int × Value)} {ep : Nat} {m₀ : Str → Option Value} (led : List (Addr × Obj)) (ps : List (Str × Value))
    (hh : A.handled = none) (hsys : (d == sysModules) = false) (hD : s.heap.DictAt knd d kvs ep) (hin : (d, od) ∈ led) (hknd : ∀ k v, knd.is k v = true → ∃ t, v = .int k t)
    (F : Fr h₀ env.locals s.heap m₀) (N : News h₀ env.locals s.heap led) (hk : ∀ p ∈ ps, m₀ p.1 = some p.2)
    (turn : ∀ (i : Nat) k y t (u : Str → Option Value) h tk own, kvs[i]? = some (k, y) → Fr h₀ env.locals h (fun z => if z = x then some (.int k t) else kstB u ps z) → News h₀ env.locals h (led ++ own) →
      wpAny (model prog w) A (execs body env) (InvPostN h₀ env.locals (JS (fun _ : Unit => led) (fun _ => ps) fun _ => True) own (led.map (·.1)) { s with heap := h, toks := tk } Q) E { s with heap := h, toks := tk })
    (done : ∀ (u : Str → Option Value) h tk, Fr h₀ env.locals h (kstB u ps) → News h₀ env.locals h led → Q .next { s with heap := h, toks := tk }) :
    wpAny (model prog w) A (pyIter (.ref d)) (fun it s₂ => LoopAtV prog w A h₀ env x body Q E it s₂) E s := by
  have dI : d ≠ s.heap.objs.size := Nat.ne_of_lt hD.lt_size
  have off : env.locals ∉ [s.heap.objs.size, d] := fun z => (List.mem_cons.mp z).elim (fun z => iter_off F (z ▸ .head _)) fun z => (N _ hin).2.1 (List.mem_singleton.mp z).symm
  have back : ∀ {own : List (Addr × Obj)} {s₁ s₂ : Shared}, InvEndN h₀ env.locals (JS (fun _ : Unit => led) (fun _ => ps) fun _ => True) own (led.map (·.1)) s₁ s₂ →
      LoopStepU h₀ env.locals [s.heap.objs.size] own (fun m nx => nx = led ∧ ∀ p ∈ ps, m p.1 = some p.2) s₁ .next s₂ := by
    rintro own s₁ s₂ ⟨h', tk, m', all, nx, rfl, F', N', inL, inO, -, _, eq, hm, -⟩
    exact ⟨rfl, h', tk, m', led, rfl, F', fun p hp => N' p ((List.mem_append.mp hp).elim (inO p) fun z => inL p (eq ▸ z)), iter_led N, rfl, hm⟩
  refine wpAny_pyIter_dict hsys hD ⟨_, _, _, _, _, _, m₀, led, fun _ m nx => nx = led ∧ ∀ p ∈ ps, m p.1 = some p.2, rfl, Walks.dictKeys hh _ d dI kvs ep, off, iter_new F, iter_led N, ⟨⟨_, Heap.get?_push_size _ rfl, rfl, rfl⟩, hD.push _⟩, F.push _, news_pushd N _, ⟨rfl, hk⟩, ?_, ?_⟩
  · rintro i v m₁ nx _ own ⟨h, tk, rfl⟩ - ⟨k, y, hi, hv⟩ ⟨rfl, hm⟩ - - - - - F₁ N₁
    obtain ⟨t, rfl⟩ := hknd k v hv
    rw [off_x hm] at F₁
    refine wpAny_mono (turn i k y t m₁ h tk own hi F₁ fun p hp => N₁ p (List.mem_append.mpr (List.mem_append.mp hp).symm)) (fun f s₂ z => ?_) fun _ _ z => z
    cases f with
    | ret v => exact .ret z
    | brk => exact .brk z
    | next => exact .next (back z)
    | cont => exact .cont (back z)
  · rintro h tk m₁ nx F₁ N₁ - ⟨rfl, hm⟩
    rw [← kstB_self hm] at F₁
    exact done m₁ h tk F₁ N₁
end

/-- how a call comes back -/
abbrev Back (Q E : Value → Shared → Prop) (r : Result) (s' : Shared) : Prop := match r with | .ok (.ret v) => Q v s' | .ok _ => False | .error e => E e s'
section
variable {w : World} {A₀ A : Around} {E : Value → Shared → Prop} {s : Shared} {K : Frag} {base h₀ : Heap} {outer : List Env} {L : Addr} {m mg mb : Str → Option Value} {env : Env} {news : List (Addr × Obj)} {p : Program} {loose : List Str} {mean : ExcName → Option Value}
  {Q : Value → Shared → Prop} {name qual : Str} {params : Arguments} {body : List Stmt} {scope : Scope} {dV kV doc pm cdv ct oc : Value} {an od : Option Addr} {osl : Array (Option Value)} {f : Addr} {vs : List Value} {binds : List (Str × Value)} {prog : Program}

/-- a def of the text is entered, from whatever frame; what it raises leaves it -/
theorem enterE (B : Below A₀ base outer h₀) (F : Fr h₀ L s.heap m) (X₀ : K.In h₀) (N : News h₀ L s.heap news) (T : Top p loose mean mg mb h₀) (hA : A.frames = some (env :: outer)) (hf : env.frame = some L) (hke : env.scope.kind = .function)
    (ho : K.lookup f = some ⟨oc, od, .func (fnOf name qual params body scope dV kV doc pm an cdv ct), osl⟩) (hcd : codeIn K cdv qual = true) (hroom : A.depth < recursionLimit)
    (hbind : BindsTo s (fnOf name qual params body scope dV kV doc pm an cdv ct) ⟨vs, []⟩ binds) (hloc : ∀ y ∈ binds, scope.names.lookup y.1 = some .local)
    (h : ∀ g L' h₁ tk, Fr h₀ L g m → Fr g L' h₁ (fun y => binds.reverse.lookup y) → News g L' h₁ news → Below A base (env :: outer) g → K.In g → Top p loose mean mg mb g → (∀ p ∈ news, p.1 < L') →
      wpAny (model prog w) (A.deeper (envOf qual scope L' f cdv)) (execs body (envOf qual scope L' f cdv)) (fun fl s' => LeaveK h₀ L m g (Back Q E) (match fl with | .ret v => v | _ => .none) s')
        (fun e s' => wpAny (model prog w) (A.deeper (envOf qual scope L' f cdv)) (leaving (envOf qual scope L' f cdv) e) (fun _ => E e) E s') { s with heap := h₁, toks := tk })
    (hco : scope.isCoroutine = false) (hgen : scope.isGenerator = false) (hk : scope.kind = .function) (hcell : ∀ x ∈ scope.names, x.2 ≠ .cell) : wpAny (model prog w) A (call (.ref f) vs) Q E s :=
  have X := X₀.keeps F.keep
  wpAny_call (callX_plain (cl := []) (R := Back Q E) B F N T.nolimit hA hf hke (X _ _ ho) rfl (codeRec_of X hcd) hroom hbind hloc (fun g L' h₁ Fg F' N' B' st => h g L' h₁ _ Fg F' N' B' (X₀.keeps st) (T.keeps st)) hcell hco hgen hk)
/-- the same where nothing is raised -/
theorem enter (B : Below A₀ base outer h₀) (F : Fr h₀ L s.heap m) (X₀ : K.In h₀) (N : News h₀ L s.heap news) (T : Top p loose mean mg mb h₀) (hA : A.frames = some (env :: outer)) (hf : env.frame = some L) (hke : env.scope.kind = .function)
    (ho : K.lookup f = some ⟨oc, od, .func (fnOf name qual params body scope dV kV doc pm an cdv ct), osl⟩) (hcd : codeIn K cdv qual = true) (hroom : A.depth < recursionLimit)
    (hbind : BindsTo s (fnOf name qual params body scope dV kV doc pm an cdv ct) ⟨vs, []⟩ binds) (hloc : ∀ y ∈ binds, scope.names.lookup y.1 = some .local)
    (h : ∀ g L' h₁ tk, Fr g L' h₁ (fun y => binds.reverse.lookup y) → News g L' h₁ news → Below A base (env :: outer) g → K.In g → Top p loose mean mg mb g → (∀ p ∈ news, p.1 < L') →
      wpAny (model prog w) (A.deeper (envOf qual scope L' f cdv)) (execs body (envOf qual scope L' f cdv)) (fun fl s' => LeaveK h₀ L m g (Back Q E) (match fl with | .ret v => v | _ => .none) s') (fun _ _ => False) { s with heap := h₁, toks := tk })
    (hco : scope.isCoroutine = false) (hgen : scope.isGenerator = false) (hk : scope.kind = .function) (hcell : ∀ x ∈ scope.names, x.2 ≠ .cell) : wpAny (model prog w) A (call (.ref f) vs) Q E s :=
  enterE B F X₀ N T hA hf hke ho hcd hroom hbind hloc (fun g L' h₁ tk _ F' N' B' X' T' lt => wpAny_mono (h g L' h₁ tk F' N' B' X' T' lt) (fun _ _ z => z) fun _ _ z => z.elim) hco hgen hk hcell
end
theorem led1 {a : Addr} {o : Obj} {news own : List (Addr × Obj)} : ∀ p ∈ (a, o) :: news, p ∈ (a, o) :: (news ++ own) := fun p hp => by
  rcases List.mem_cons.mp hp with rfl | hp
  · exact .head _
  · exact .tail _ (List.mem_append_left _ hp)
theorem own1 {a : Addr} {o : Obj} {news own : List (Addr × Obj)} : ∀ p ∈ own, p ∈ (a, o) :: (news ++ own) := fun p hp => .tail _ (List.mem_append_right _ hp)
theorem sg (n c : Nat) (x : String) (h : Str.ofString x = ⟨#[c]⟩) : (({ cps := #[n] } : Str) == Str.ofString x) = decide (n = c) := by
  rw [h]
  by_cases e : n = c
  · subst e; simp
  · simp [e]
theorem sg39 (n : Nat) : (({ cps := #[n] } : Str) == Str.ofString "'") = decide (n = 39) := sg n 39 _ (by decide +kernel)
theorem sg40 (n : Nat) : (({ cps := #[n] } : Str) == Str.ofString "(") = decide (n = 40) := sg n 40 _ (by decide +kernel)
theorem sg41 (n : Nat) : (({ cps := #[n] } : Str) == Str.ofString ")") = decide (n = 41) := sg n 41 _ (by decide +kernel)
theorem sg44 (n : Nat) : (({ cps := #[n] } : Str) == Str.ofString ",") = decide (n = 44) := sg n 44 _ (by decide +kernel)
theorem two_signs {n : Nat} {P : Prop} (a : (({ cps := #[n] } : Str) == Str.ofString "(") = true) (b : (({ cps := #[n] } : Str) == Str.ofString ")") = true) : P := by
  rw [sg40] at a; rw [sg41] at b
  simp at a b; omega
theorem news_drop {h₀ h : Heap} {L a : Addr} {o : Obj} {news own : List (Addr × Obj)} (N : News h₀ L h ((a, o) :: (news ++ own))) : News h₀ L h news := fun p hp => N p (.tail _ (List.mem_append_left _ hp))
theorem news_tail {h₀ h : Heap} {L a : Addr} {o : Obj} {news : List (Addr × Obj)} (N : News h₀ L h ((a, o) :: news)) : News h₀ L h news := fun p hp => N p (.tail _ hp)
end
end Mine

/-! part D5 -/
namespace Mine
theorem back_D5 : True ∧ True := by
  w_top off
  first | (walk1; done) | exact ⟨trivial, trivial⟩
section
open PySem PySem.W PyProof.Rows PySem.Spec PySem.Calls
/-- one sign: the levels so far, the depth, within a constant -/
def dS (st : List Int × Int × Bool) (c : Nat) : List Int × Int × Bool :=
  if c = 39 then (st.1 ++ [-1], st.2.1, !st.2.2)
  else if st.2.2 = true then (st.1 ++ [-1], st.2.1, st.2.2)
  else if c = 40 ∧ 0 ≤ st.2.1 then (st.1 ++ [st.2.1], st.2.1 + 1, st.2.2)
  else if c = 41 ∧ 0 < st.2.1 then (st.1 ++ [st.2.1 - 1], st.2.1 - 1, st.2.2)
  else if c = 41 then (st.1 ++ [-2], -2, st.2.2)
  else (st.1 ++ [st.2.1], st.2.1, st.2.2)
def dAt (row : Str) (i : Nat) : List Int × Int × Bool := (row.cps.toList.take i).foldl dS ([], 0, false)
def lev (row : Str) : List Int := (dAt row row.cps.size).1
theorem dAt_succ {row : Str} {i n : Nat} (h : row.cps[i]? = some n) : dAt row (i + 1) = dS (dAt row i) n := by
  unfold dAt
  have h' : row.cps.toList[i]? = some n := by simpa using h
  rw [List.take_add_one, h', List.foldl_append]
  rfl
section
variable {row : Str} {i n : Nat} {ns : List Int} {d : Int} {q : Bool}
def DJ (row : Str) (i : Nat) (ns : List Int) (d : Int) (q : Bool) : Prop := ns.length = i ∧ (ns, d, q) = dAt row i
theorem dj_step (h : row.cps[i]? = some n) (J : DJ row i ns d q) {l : Int} {d' : Int} {q' : Bool} (e : dS (ns, d, q) n = (ns ++ [l], d', q')) : DJ row (i + 1) (ns ++ [l]) d' q' := by
  refine ⟨by simp [J.1], ?_⟩
  rw [dAt_succ h, ← J.2, e]
theorem dj1 (h : row.cps[i]? = some n) (J : DJ row i ns d q) (a : (({ cps := #[n] } : Str) == Str.ofString "'") = true) : DJ row (i + 1) (ns ++ [-1]) d (!q) := by
  rw [sg39] at a
  exact dj_step h J (by simp at a; simp [dS, a])
theorem dj2 (h : row.cps[i]? = some n) (J : DJ row i ns d q) (a : (({ cps := #[n] } : Str) == Str.ofString "'") = false) (b : q = true) : DJ row (i + 1) (ns ++ [-1]) d q := by
  rw [sg39] at a
  exact dj_step h J (by simp at a; simp [dS, a, b])
theorem dj3 (h : row.cps[i]? = some n) (J : DJ row i ns d q) (b : q = false) (c : (({ cps := #[n] } : Str) == Str.ofString "(") = true) (e : 0 ≤ d) : DJ row (i + 1) (ns ++ [d]) (d + 1) q := by
  rw [sg40] at c
  exact dj_step h J (by simp at c; subst c; simp [dS, b, e])
theorem dj3' (h : row.cps[i]? = some n) (J : DJ row i ns d q) (b : q = false) (c : (({ cps := #[n] } : Str) == Str.ofString "(") = true) (e : ¬ 0 ≤ d) : DJ row (i + 1) (ns ++ [d]) d q := by
  rw [sg40] at c
  exact dj_step h J (by simp at c; subst c; simp [dS, b, e])
theorem dj4 (h : row.cps[i]? = some n) (J : DJ row i ns d q) (b : q = false) (c : (({ cps := #[n] } : Str) == Str.ofString ")") = true) (e : 0 < d) : DJ row (i + 1) (ns ++ [d - 1]) (d - 1) q := by
  rw [sg41] at c
  exact dj_step h J (by simp at c; subst c; simp [dS, b, e])
theorem dj5 (h : row.cps[i]? = some n) (J : DJ row i ns d q) (b : q = false) (c : (({ cps := #[n] } : Str) == Str.ofString ")") = true) (e : ¬ 0 < d) : DJ row (i + 1) (ns ++ [-2]) (-2) q := by
  rw [sg41] at c
  exact dj_step h J (by simp at c; subst c; simp [dS, b, e])
theorem dj6 (h : row.cps[i]? = some n) (J : DJ row i ns d q) (a : (({ cps := #[n] } : Str) == Str.ofString "'") = false) (b : q = false) (c : (({ cps := #[n] } : Str) == Str.ofString "(") = false) (e : (({ cps := #[n] } : Str) == Str.ofString ")") = false) : DJ row (i + 1) (ns ++ [d]) d q := by
  rw [sg39] at a; rw [sg40] at c; rw [sg41] at e
  exact dj_step h J (by simp at a c e; simp [dS, a, b, c, e])
end
local macro_rules | `(tactic| walk_at "MINE go") => `(tactic| repeat' ((fail_if_success (with_reducible show InvEndN _ _ _ _ _ _ _)); first | (k_unfold; (try dsimp only)) | walk1 | (dsimp only; walk1)))
local macro_rules | `(tactic| walk_at "exec For Name Name cons nil") => `(tactic| (k_here; (rename Fr _ _ _ _ => lF'); (with_unfolding_all refine' For_invVF lF' ?k1 ?k2 ?_; (case k1 => exact rfl); (case k2 => exact rfl); k_whole)))
local macro_rules | `(tactic| walk_at "exec For Name Call cons nil") => `(tactic| (k_here; (rename Fr _ _ _ _ => lF'); (with_unfolding_all refine' For_invVF lF' ?k1 ?k2 ?_; (case k1 => exact rfl); (case k2 => exact rfl); k_whole)))
set_option maxRecDepth 100000 in
set_option maxHeartbeats 400000 in
theorem depths_c (w : World) {p : Program} {loose : List Str} {mean : ExcName → Option Value} {mg mb : Str → Option Value} (_h : PySem.Challenge.rw_no0226_01 = PySem.Challenge.rw_no0226_01)
    {A A₀ : Around} {base h₀ : Heap} {outer : List Env} {env : Env} {L : Addr} {m : Str → Option Value} {news : List (Addr × Obj)} {s : Shared} {row : Str} {t : Tok} {Q E : Value → Shared → Prop}
    (B : Below A₀ base outer h₀) (F : Fr h₀ L s.heap m) (X : (Mine.hd.heap_39 w.params).In h₀) (N : News h₀ L s.heap news) (T : Top p loose mean mg mb h₀)
    (hA : A.frames = some (env :: outer)) (hf : env.frame = some L) (hke : env.scope.kind = .function) (hh : A.handled = none) (hrow : row.cps.size ≤ 64) (hd : A.depth + 1 < recursionLimit)
    (hret : ∀ (l : Addr) (vs : List Value) (k : Nat) h' tk', Fr h₀ L h' m → News h₀ L h' ((l, listOf vs.toArray k) :: news) → IntsAre vs (lev row) → (∀ p ∈ news, p.1 < l) → Q (.ref l) { s with heap := h', toks := tk' }) :
    wpAny (model PySem.Challenge.pw_no0226_01 w) A (call (.ref 21) [.str row t]) Q E s := by
  revert X _h; k_fill; intro _h X
  clear _h
  refine' enter (binds := [(Str.ofString "row", .str row t)]) B F X N T hA hf hke ?k6 ?k7 ?k8 ?k9 ?kB ?_ ?c2 ?c3 ?c4 ?c5
  case k6 => k_is
  case k7 => k_is
  case k8 => omega
  case k9 => exact BindsTo.of_eq rfl
  case c5 => decide
  case kB => exact locs rfl
  case c2 => exact rfl
  case c3 => exact rfl
  case c4 => exact rfl
  intro g L' h₁ tk₁ F' N' B' X' T' lt'
  replace F' := fr_as F' (look1 _ _)
  (try k_fold)
  repeat' ((fail_if_success (with_reducible show wpAny _ _ (pyIter _) _ _ _)); first | (k_unfold; (try dsimp only)) | walk1 | (dsimp only; walk1))
  rename Fr _ _ _ _ => lF
  rename News _ _ _ _ => lN
  rename_i lx _ lt1 _ _ _
  refine' my_text (σ := List Value × List Int × Nat × Int × Tok × Bool) (fun c => (lx, listOf c.1.toArray c.2.2.1) :: news)
    (fun c => [(Str.ofString "row", .str row t), (Str.ofString "out", .ref lx), (Str.ofString "depth", .int c.2.2.2.1 c.2.2.2.2.1), (Str.ofString "is_inside", .bool c.2.2.2.2.2)])
    (fun i c => IntsAre c.1 c.2.1 ∧ DJ row i c.2.1 c.2.2.2.1 c.2.2.2.2.2) ([], [], 0, 0, _, false) hh lF ?kn ?kk ⟨IntsAre.nil, rfl, rfl⟩ ?_ ?_
  case kn => exact lN
  case kk => kst_all
  · rintro i n t' ⟨vs, ns, k, d, tk, q⟩ u h tk2 own hi hoff ⟨hf, hJ⟩ F1 N1
    dsimp only [kstB] at hf hJ F1 N1 hoff ⊢
    clear lF lN
    have hi' : i < row.cps.size := (Array.getElem?_eq_some_iff.mp hi).1
    have hb1 := hf.length
    have hb2 : vs.length ≤ 64 := by have := hJ.1; omega
    have kM := kstMark
    replace N1 : News g L' h ((lx, listOf vs.toArray k) :: (news ++ own)) := N1
    (try k_fold)
    walk_at "MINE go"
    all_goals (
      rename Fr _ _ _ _ => F9
      rename News _ _ _ _ => N9
      (try simp only [List.push_toArray] at N9)
      refine' js_end ⟨_, _, _, _, _, _⟩ F9 N9 ?hn ?ho rfl ?hk ⟨?hi, ?hj⟩
      case hn => exact led1
      case ho => exact own1
      case hk => kst_all
      case hi => exact IntsAre.append hf (.cons _ _ .nil)
      case hj => first | exact two_signs (by assumption) (by assumption) | exact dj1 hi hJ (by assumption) | exact dj2 hi hJ (by assumption) (by assumption) | exact dj3 hi hJ (by assumption) (by assumption) (by assumption) | exact dj3' hi hJ (by assumption) (by assumption) (by assumption) | exact dj4 hi hJ (by assumption) (by assumption) (by assumption) | exact dj5 hi hJ (by assumption) (by assumption) (by assumption) | exact dj6 hi hJ (by assumption) (by assumption) (by assumption) (by assumption))
  · rintro ⟨vs, ns, k, d, tk, q⟩ u h' tk' ⟨hf, hJ⟩ F1 N1
    dsimp only [kstB] at hf hJ F1 N1 ⊢
    clear lF lN
    walk_at "MINE go"
    refine hret lx vs k _ _ (by assumption) (by assumption) ?_ lt1
    have e : ns = lev row := congrArg Prod.fst hJ.2
    rw [← e]; exact hf
end
end Mine

/-! part L2 -/
namespace Mine
theorem back_L2 : True ∧ True := by
  w_top off
  first | (walk1; done) | exact ⟨trivial, trivial⟩
section
open PySem PySem.W PyProof.Rows PySem.Spec PySem.Calls

section
variable {prog : Program} {w : World} {A : Around} {E : Value → Shared → Prop} {s : Shared} {value slice : Expr} {x : Str} {t u : Tok} {k : Int} {Q : Value → Shared → Prop} {h₀ : Heap} {L l : Addr} {news : List (Addr × Obj)} {vs : List Value} {ns : List Int} {ys : List Str} {c : Nat}
theorem m_len_str (hx : x.cps.size ≤ 64) (h : ∀ t', Q (.int (x.cps.size : Int) t') { s with toks := s.toks + 1 + 1 }) : wpAny (model prog w) A (call (.builtin "len") [.str x t]) Q E s :=
  len_str (by show ¬ ((x.cps.size : Int) ≥ 2 ^ 63); omega) (h _)
theorem m_item_str (h0 : 0 ≤ k) (h1 : k < (x.cps.size : Int)) (hx : x.cps.size ≤ 64) (h : ∀ t', Q (.str ⟨#[x.cps.getD k.toNat 0]⟩ t') { s with toks := s.toks + 1 })
    (hs : subscripted slice false (.str x t) (.int k u) = operate [.str x t, .int k u] (getItem (.str x t) (.int k u)) := by with_unfolding_all rfl)
    (ht : ∀ r, letTemporaryGo value (.str x t) r = pure () := by intro _; with_unfolding_all rfl) :
    wpAny (model prog w) A (subscriptTail value slice (.str x t) (.int k u)) Q E s := by
  have e : Txt.item x k = ⟨#[x.cps.getD k.toNat 0]⟩ := by
    have h2 : k.toNat < x.cps.size := by omega
    have h3 : ¬ (k < 0) := by omega
    have e2 : seqIndex? k x.length = some k.toNat := by
      show seqIndex? k x.cps.size = _
      unfold seqIndex?
      simp [h3, h0, h1]
    unfold Txt.item Txt.charAt
    rw [e2]
    simp [h2]
  exact item_str (by unfold fitsSsize; simp; omega) (by show -((x.cps.size : Nat) : Int) ≤ k; omega) (by exact h1) (fun _ => by rw [e]; exact h _) hs ht
theorem m_item_ints (N : News h₀ L s.heap news) (hm : (l, listOf vs.toArray c) ∈ news) (hI : IntsAre vs ns) (h0 : 0 ≤ k) (h1 : k < (ns.length : Int)) (hx : ns.length ≤ 64) (h : ∀ t', Q (.int (ns.getD k.toNat 0) t') s)
    (hs : subscripted slice false (.ref l) (.int k u) = operate [.ref l, .int k u] (getItem (.ref l) (.int k u)) := by with_unfolding_all rfl) :
    wpAny (model prog w) A (subscriptTail value slice (.ref l) (.int k u)) Q E s := by
  have hl : s.heap.IsList l vs.toArray := ⟨_, (N _ hm).1, rfl, c, rfl⟩
  have h2 : k.toNat < ns.length := by omega
  obtain ⟨t', ht⟩ := hI.get k.toNat (ns.getD k.toNat 0) (by rw [List.getD_eq_getElem?_getD, List.getElem?_eq_getElem h2]; rfl)
  exact tail_any hl.typeIs slot_list_getitem.lookup (wpAny_getItem_list hl h0 (by omega) (by simpa using ht) (h t')) hs
theorem m_item_strs (N : News h₀ L s.heap news) (hm : (l, listOf vs.toArray c) ∈ news) (hI : StrsAre vs ys) (h0 : 0 ≤ k) (h1 : k < (ys.length : Int)) (hx : ys.length ≤ 65) (h : ∀ t', Q (.str (ys.getD k.toNat PySem.Str.empty) t') s)
    (hs : subscripted slice false (.ref l) (.int k u) = operate [.ref l, .int k u] (getItem (.ref l) (.int k u)) := by with_unfolding_all rfl) :
    wpAny (model prog w) A (subscriptTail value slice (.ref l) (.int k u)) Q E s := by
  have hl : s.heap.IsList l vs.toArray := ⟨_, (N _ hm).1, rfl, c, rfl⟩
  have h2 : k.toNat < ys.length := by omega
  obtain ⟨t', ht⟩ := hI.get k.toNat (ys.getD k.toNat PySem.Str.empty) (by rw [List.getD_eq_getElem?_getD, List.getElem?_eq_getElem h2]; rfl)
  exact tail_any hl.typeIs slot_list_getitem.lookup (wpAny_getItem_list hl h0 (by omega) (by simpa using ht) (h t')) hs
theorem m_len_list (N : News h₀ L s.heap news) (hm : (l, listOf vs.toArray c) ∈ news) (hx : vs.length ≤ 65) (h : ∀ t', Q (.int (vs.length : Int) t') { s with toks := s.toks + 1 + 1 }) : wpAny (model prog w) A (call (.builtin "len") [.ref l]) Q E s := by
  have hl : s.heap.IsList l vs.toArray := ⟨_, (N _ hm).1, rfl, c, rfl⟩
  exact len_list hl (by simp; omega) (by simpa using h _)
end
theorem lev_length (row : Str) : (lev row).length = row.cps.size := by
  have h : ∀ (l : List Nat) (st : List Int × Int × Bool), (l.foldl dS st).1.length = st.1.length + l.length := by
    intro l
    induction l with
    | nil => intro st; simp
    | cons a r ih =>
      intro st
      rw [List.foldl_cons, ih]
      have : (dS st a).1.length = st.1.length + 1 := by unfold dS; (repeat' split) <;> simp
      rw [this, List.length_cons]; omega
  unfold lev dAt
  rw [h]; simp
end
end Mine

/-! part D7 -/
namespace Mine
theorem back_D7 : True ∧ True := by
  w_top off
  first | (walk1; done) | exact ⟨trivial, trivial⟩
section
open PySem PySem.W PyProof.Rows PySem.Spec PySem.Calls

local macro_rules | `(tactic| walk_at "MINE go") => `(tactic| repeat' ((fail_if_success (with_reducible show InvEndN _ _ _ _ _ _ _)); first | (k_unfold; (try dsimp only)) | walk1 | (dsimp only; walk1)))
local macro_rules | `(tactic| walk_at "exec For Name Name cons nil") => `(tactic| (k_here; (rename Fr _ _ _ _ => lF'); (with_unfolding_all refine' For_invVF lF' ?k1 ?k2 ?_; (case k1 => exact rfl); (case k2 => exact rfl); k_whole)))
local macro_rules | `(tactic| walk_at "exec For Name Call cons nil") => `(tactic| (k_here; (rename Fr _ _ _ _ => lF'); (with_unfolding_all refine' For_invVF lF' ?k1 ?k2 ?_; (case k1 => exact rfl); (case k2 => exact rfl); k_whole)))
local macro_rules | `(tactic| walk_at "MINE site") => `(tactic| first | assumption | exact rfl | exact Around.frames_deeper (Below.stack (by assumption)) | (simp only [depth_deeper]; omega) | omega)
local macro_rules | `(tactic| walk_at "MINE str item") => `(tactic| (k_here; (with_reducible show wpAny _ _ (subscriptTail _ _ (Value.str _ _) (Value.int _ _)) _ _ _); (with_unfolding_all refine' m_item_str ?k1 ?k2 ?k3 ?_ ?k5 ?k6); (case k1 => omega); (case k2 => omega); (case k3 => assumption); (case k5 => with_unfolding_all rfl); (case k6 => intro _; with_unfolding_all rfl); intro t'; (try dsimp only)))
local macro_rules | `(tactic| walk_at "MINE int item") => `(tactic| (k_here; (with_reducible show wpAny _ _ (subscriptTail _ _ (Value.ref _) (Value.int _ _)) _ _ _); (with_unfolding_all refine' m_item_ints ?k1 ?k2 ?k3 ?k4 ?k5 ?k6 ?_ ?k8); (case k1 => k_asm); (case k2 => k_memK); (case k3 => assumption); (case k4 => omega); (case k5 => omega); (case k6 => omega); (case k8 => with_unfolding_all rfl); intro t'; (try dsimp only)))
local macro_rules | `(tactic| walk_at "subscriptTail Name Name str int") => `(tactic| walk_at "MINE str item")
local macro_rules | `(tactic| walk_at "subscriptTail Name Name ref int") => `(tactic| walk_at "MINE int item")
local macro_rules | `(tactic| walk_at "call builtin:len") => `(tactic| (k_here; (with_reducible show wpAny _ _ (call (Value.builtin "len") [Value.str _ _]) _ _ _); (refine' m_len_str ?k1 ?_); (case k1 => assumption); intro t'; (try dsimp only)))
local macro_rules | `(tactic| walk_at "call builtin:len") => `(tactic| (k_here; (with_reducible show wpAny _ _ (call (Value.builtin "len") [Value.ref _]) _ _ _); (refine' m_len_list ?k1 ?k2 ?k3 ?_); (case k1 => k_asm); (case k2 => k_memK); (case k3 => first | omega | (simp only [List.length_dropLast]; omega)); intro t'; (try dsimp only)))

local macro_rules | `(tactic| walk_at "call ref") => `(tactic| (k_here; (with_reducible show wpAny _ _ (call (Value.ref 21) [Value.str _ _]) _ _ _); (refine' depths_c _ rfl ?k1 ?k2 ?k3 ?k4 ?k5 ?kA ?kf ?kk ?kh ?kr ?kd ?_); (case k1 => k_asm); (case k2 => k_asm); (case k3 => k_asm); (case k4 => k_asm); (case k5 => k_asm); (case kA => walk_at "MINE site"); (case kf => walk_at "MINE site"); (case kk => walk_at "MINE site"); (case kh => walk_at "MINE site"); (case kr => walk_at "MINE site"); (case kd => walk_at "MINE site"); intro l' vs' k' h' tk' F' N' hI' lt'; (try dsimp only)))

abbrev HitO (row : Str) (j : Nat) : Prop := row.cps.getD j 0 = 44 ∧ (lev row).getD j 0 = 0
section
variable {row : Str} {at_ i : Nat}
theorem hito_yes (a : (({ cps := #[row.cps.getD ((at_ : Int) + (i : Int)).toNat 0] } : Str) == Str.ofString ",") = true) (b : (lev row).getD ((at_ : Int) + (i : Int)).toNat 0 = 0) : HitO row (at_ + i) := by
  have e : ((at_ : Int) + (i : Int)).toNat = at_ + i := by omega
  rw [sg44, e] at a; rw [e] at b
  exact ⟨of_decide_eq_true a, b⟩
theorem hito_noB (hJ : ∀ j, at_ ≤ j → j < at_ + i → ¬ HitO row j) (b : (lev row).getD ((at_ : Int) + (i : Int)).toNat 0 ≠ 0) : ∀ j, at_ ≤ j → j < at_ + (i + 1) → ¬ HitO row j := by
  have e : ((at_ : Int) + (i : Int)).toNat = at_ + i := by omega
  rw [e] at b
  intro j h1 h2 h3
  by_cases q : j = at_ + i
  · subst q; exact b h3.2
  · exact hJ j h1 (by omega) h3
theorem hito_noA (hJ : ∀ j, at_ ≤ j → j < at_ + i → ¬ HitO row j) (a : (({ cps := #[row.cps.getD ((at_ : Int) + (i : Int)).toNat 0] } : Str) == Str.ofString ",") = false) : ∀ j, at_ ≤ j → j < at_ + (i + 1) → ¬ HitO row j := by
  have e : ((at_ : Int) + (i : Int)).toNat = at_ + i := by omega
  rw [sg44, e] at a
  intro j h1 h2 h3
  by_cases q : j = at_ + i
  · subst q; exact of_decide_eq_false a h3.1
  · exact hJ j h1 (by omega) h3
end
set_option maxRecDepth 100000 in
set_option maxHeartbeats 400000 in
theorem find_open_c (w : World) {p : Program} {loose : List Str} {mean : ExcName → Option Value} {mg mb : Str → Option Value} (_h : PySem.Challenge.rw_no0226_01 = PySem.Challenge.rw_no0226_01)
    {A A₀ : Around} {base h₀ : Heap} {outer : List Env} {env : Env} {L : Addr} {m : Str → Option Value} {news : List (Addr × Obj)} {s : Shared} {Q E : Value → Shared → Prop}
    (B : Below A₀ base outer h₀) (F : Fr h₀ L s.heap m) (X : (Mine.hd.heap_39 w.params).In h₀) (N : News h₀ L s.heap news) (T : Top p loose mean mg mb h₀)
    (hA : A.frames = some (env :: outer)) (hf : env.frame = some L) (hke : env.scope.kind = .function) (hh : A.handled = none)
    {row : Str} {t ts : Tok} {at_ : Nat} {ta : Tok} (hat : at_ ≤ row.cps.size) (hrow : row.cps.size ≤ 64) (hd : A.depth + 2 < recursionLimit)
    (hret : ∀ (r : Int) (tr : Tok) h' tk', Fr h₀ L h' m → News h₀ L h' news → (r = -1 ∧ (∀ j, at_ ≤ j → j < row.cps.size → ¬ HitO row j)) ∨ (∃ e : Nat, r = (e : Int) ∧ at_ ≤ e ∧ e < row.cps.size ∧ HitO row e ∧ ∀ j, at_ ≤ j → j < e → ¬ HitO row j) → Q (.int r tr) { s with heap := h', toks := tk' }) :
    wpAny (model PySem.Challenge.pw_no0226_01 w) A (call (.ref 35) [.str row t, .str (Str.ofString ",") ts, .int (at_ : Int) ta]) Q E s := by
  revert X _h; k_fill; intro _h X
  clear _h
  refine' enter (binds := [(Str.ofString "row", .str row t), (Str.ofString "sign", .str (Str.ofString ",") ts), (Str.ofString "at", .int (at_ : Int) ta)]) B F X N T hA hf hke ?k6 ?k7 ?k8 ?k9 ?kB ?_ ?c2 ?c3 ?c4 ?c5
  case k6 => k_is
  case k7 => k_is
  case k8 => omega
  case k9 => exact BindsTo.of_eq rfl
  case c5 => decide
  case kB => exact locs rfl
  case c2 => exact rfl
  case c3 => exact rfl
  case c4 => exact rfl
  intro g L' h₁ tk₁ F' N' B' X' T' lt'
  replace F' := fr_as F' (look3 _ _ _ _ _ _)
  (try k_fold)
  repeat' ((fail_if_success (with_reducible show wpAny _ _ (pyIter _) _ _ _)); first | (k_unfold; (try dsimp only)) | walk1 | (dsimp only; walk1))
  rename Fr _ _ _ _ => lF
  rename News _ _ _ _ => lN
  rename IntsAre _ _ => lI
  rename IsRange _ _ _ _ _ _ _ _ => lR
  rename_i lx vs k _ _ ltx _ _ _ _ _ _ _ _ _ _
  refine' my_range (σ := Unit) (row.cps.size - at_) (fun _ => (lx, listOf vs.toArray k) :: news)
    (fun _ => [(Str.ofString "row", .str row t), (Str.ofString "sign", .str (Str.ofString ",") ts), (Str.ofString "levels", .ref lx)])
    (fun i _ => ∀ j, at_ ≤ j → j < at_ + i → ¬ HitO row j) () hh lR (by omega) (by omega) (by omega) (by omega) (by omega) lF ?kn ?kk ?kj ?_ ?_
  case kn => exact lN
  case kk => kst_all
  case kj => intro j h1 h2; omega
  · rintro i t' _ u h tk2 own hi hoff hJ F1 N1
    dsimp only [kstB] at hJ F1 N1 hoff ⊢
    clear lF lN
    have hll := lev_length row
    replace N1 : News g L' h ((lx, listOf vs.toArray k) :: (news ++ own)) := N1
    (try k_fold)
    walk_at "MINE go"
    · exact hret _ _ _ _ (by assumption) (news_drop (by assumption)) (.inr ⟨at_ + i, by omega, by omega, by omega, hito_yes (by assumption) (by assumption), hJ⟩)
    all_goals (
      rename Fr _ _ _ _ => F9
      rename News _ _ _ _ => N9
      refine' js_end () F9 N9 led1 own1 rfl ?hk ?hj
      case hk => kst_all
      case hj => first | exact hito_noB hJ (by assumption) | exact hito_noA hJ (by assumption))
  · rintro _ u h' tk' hJ F1 N1
    dsimp only [kstB] at hJ F1 N1 ⊢
    clear lF lN
    walk_at "MINE go"
    exact hret _ _ _ _ (by assumption) (news_tail (by assumption)) (.inl ⟨rfl, fun j h1 h2 => hJ j h1 (by omega)⟩)
end
end Mine

/-! part D6 -/
namespace Mine
theorem back_D6 : True ∧ True := by
  w_top off
  first | (walk1; done) | exact ⟨trivial, trivial⟩
section
open PySem PySem.W PyProof.Rows PySem.Spec PySem.Calls

local macro_rules | `(tactic| walk_at "MINE go") => `(tactic| repeat' ((fail_if_success (with_reducible show InvEndN _ _ _ _ _ _ _)); first | (k_unfold; (try dsimp only)) | walk1 | (dsimp only; walk1)))
local macro_rules | `(tactic| walk_at "exec For Name Name cons nil") => `(tactic| (k_here; (rename Fr _ _ _ _ => lF'); (with_unfolding_all refine' For_invVF lF' ?k1 ?k2 ?_; (case k1 => exact rfl); (case k2 => exact rfl); k_whole)))
local macro_rules | `(tactic| walk_at "exec For Name Call cons nil") => `(tactic| (k_here; (rename Fr _ _ _ _ => lF'); (with_unfolding_all refine' For_invVF lF' ?k1 ?k2 ?_; (case k1 => exact rfl); (case k2 => exact rfl); k_whole)))
local macro_rules | `(tactic| walk_at "MINE site") => `(tactic| first | assumption | exact rfl | exact Around.frames_deeper (Below.stack (by assumption)) | (simp only [depth_deeper]; omega) | omega)
local macro_rules | `(tactic| walk_at "MINE str item") => `(tactic| (k_here; (with_reducible show wpAny _ _ (subscriptTail _ _ (Value.str _ _) (Value.int _ _)) _ _ _); (with_unfolding_all refine' m_item_str ?k1 ?k2 ?k3 ?_ ?k5 ?k6); (case k1 => omega); (case k2 => omega); (case k3 => assumption); (case k5 => with_unfolding_all rfl); (case k6 => intro _; with_unfolding_all rfl); intro t'; (try dsimp only)))
local macro_rules | `(tactic| walk_at "MINE int item") => `(tactic| (k_here; (with_reducible show wpAny _ _ (subscriptTail _ _ (Value.ref _) (Value.int _ _)) _ _ _); (with_unfolding_all refine' m_item_ints ?k1 ?k2 ?k3 ?k4 ?k5 ?k6 ?_ ?k8); (case k1 => k_asm); (case k2 => k_memK); (case k3 => assumption); (case k4 => omega); (case k5 => omega); (case k6 => omega); (case k8 => with_unfolding_all rfl); intro t'; (try dsimp only)))
local macro_rules | `(tactic| walk_at "subscriptTail Name Name str int") => `(tactic| walk_at "MINE str item")
local macro_rules | `(tactic| walk_at "subscriptTail Name Name ref int") => `(tactic| walk_at "MINE int item")
local macro_rules | `(tactic| walk_at "call builtin:len") => `(tactic| (k_here; (with_reducible show wpAny _ _ (call (Value.builtin "len") [Value.str _ _]) _ _ _); (refine' m_len_str ?k1 ?_); (case k1 => assumption); intro t'; (try dsimp only)))
local macro_rules | `(tactic| walk_at "call builtin:len") => `(tactic| (k_here; (with_reducible show wpAny _ _ (call (Value.builtin "len") [Value.ref _]) _ _ _); (refine' m_len_list ?k1 ?k2 ?k3 ?_); (case k1 => k_asm); (case k2 => k_memK); (case k3 => first | omega | (simp only [List.length_dropLast]; omega)); intro t'; (try dsimp only)))

local macro_rules | `(tactic| walk_at "call ref") => `(tactic| (k_here; (with_reducible show wpAny _ _ (call (Value.ref 21) [Value.str _ _]) _ _ _); (refine' depths_c _ rfl ?k1 ?k2 ?k3 ?k4 ?k5 ?kA ?kf ?kk ?kh ?kr ?kd ?_); (case k1 => k_asm); (case k2 => k_asm); (case k3 => k_asm); (case k4 => k_asm); (case k5 => k_asm); (case kA => walk_at "MINE site"); (case kf => walk_at "MINE site"); (case kk => walk_at "MINE site"); (case kh => walk_at "MINE site"); (case kr => walk_at "MINE site"); (case kd => walk_at "MINE site"); intro l' vs' k' h' tk' F' N' hI' lt'; (try dsimp only)))

def Hit (row : Str) (at_ j : Nat) : Prop := row.cps.getD j 0 = 41 ∧ (lev row).getD j 0 = (lev row).getD at_ 0
section
variable {row : Str} {at_ i : Nat}
theorem hit_yes (a : (({ cps := #[row.cps.getD ((at_ : Int) + 1 + (i : Int)).toNat 0] } : Str) == Str.ofString ")") = true) (b : (lev row).getD ((at_ : Int) + 1 + (i : Int)).toNat 0 = (lev row).getD ((at_ : Int)).toNat 0) : Hit row at_ (at_ + 1 + i) := by
  have e : ((at_ : Int) + 1 + (i : Int)).toNat = at_ + 1 + i := by omega
  rw [sg41, e] at a; rw [e, Int.toNat_natCast] at b
  exact ⟨of_decide_eq_true a, b⟩
theorem hit_noB (hJ : ∀ j, at_ < j → j < at_ + 1 + i → ¬ Hit row at_ j) (b : (lev row).getD ((at_ : Int) + 1 + (i : Int)).toNat 0 ≠ (lev row).getD ((at_ : Int)).toNat 0) : ∀ j, at_ < j → j < at_ + 1 + (i + 1) → ¬ Hit row at_ j := by
  have e : ((at_ : Int) + 1 + (i : Int)).toNat = at_ + 1 + i := by omega
  rw [e, Int.toNat_natCast] at b
  intro j h1 h2 h3
  by_cases q : j = at_ + 1 + i
  · subst q; exact b h3.2
  · exact hJ j h1 (by omega) h3
theorem hit_noA (hJ : ∀ j, at_ < j → j < at_ + 1 + i → ¬ Hit row at_ j) (a : (({ cps := #[row.cps.getD ((at_ : Int) + 1 + (i : Int)).toNat 0] } : Str) == Str.ofString ")") = false) : ∀ j, at_ < j → j < at_ + 1 + (i + 1) → ¬ Hit row at_ j := by
  have e : ((at_ : Int) + 1 + (i : Int)).toNat = at_ + 1 + i := by omega
  rw [sg41, e] at a
  intro j h1 h2 h3
  by_cases q : j = at_ + 1 + i
  · subst q; exact of_decide_eq_false a h3.1
  · exact hJ j h1 (by omega) h3
end
set_option maxRecDepth 100000 in
set_option maxHeartbeats 400000 in
theorem closing_c (w : World) {p : Program} {loose : List Str} {mean : ExcName → Option Value} {mg mb : Str → Option Value} (_h : PySem.Challenge.rw_no0226_01 = PySem.Challenge.rw_no0226_01)
    {A A₀ : Around} {base h₀ : Heap} {outer : List Env} {env : Env} {L : Addr} {m : Str → Option Value} {news : List (Addr × Obj)} {s : Shared} {Q E : Value → Shared → Prop}
    (B : Below A₀ base outer h₀) (F : Fr h₀ L s.heap m) (X : (Mine.hd.heap_39 w.params).In h₀) (N : News h₀ L s.heap news) (T : Top p loose mean mg mb h₀)
    (hA : A.frames = some (env :: outer)) (hf : env.frame = some L) (hke : env.scope.kind = .function) (hh : A.handled = none)
    {row : Str} {t : Tok} {at_ : Nat} {ta : Tok} (hat : at_ < row.cps.size) (hrow : row.cps.size ≤ 64) (hd : A.depth + 2 < recursionLimit)
    (hret : ∀ (r : Int) (tr : Tok) h' tk', Fr h₀ L h' m → News h₀ L h' news → (r = -1 ∧ (∀ j, at_ < j → j < row.cps.size → ¬ Hit row at_ j)) ∨ (∃ e : Nat, r = (e : Int) ∧ at_ < e ∧ e < row.cps.size ∧ Hit row at_ e ∧ ∀ j, at_ < j → j < e → ¬ Hit row at_ j) → Q (.int r tr) { s with heap := h', toks := tk' }) :
    wpAny (model PySem.Challenge.pw_no0226_01 w) A (call (.ref 28) [.str row t, .int (at_ : Int) ta]) Q E s := by
  revert X _h; k_fill; intro _h X
  clear _h
  refine' enter (binds := [(Str.ofString "row", .str row t), (Str.ofString "at", .int (at_ : Int) ta)]) B F X N T hA hf hke ?k6 ?k7 ?k8 ?k9 ?kB ?_ ?c2 ?c3 ?c4 ?c5
  case k6 => k_is
  case k7 => k_is
  case k8 => omega
  case k9 => exact BindsTo.of_eq rfl
  case c5 => decide
  case kB => exact locs rfl
  case c2 => exact rfl
  case c3 => exact rfl
  case c4 => exact rfl
  intro g L' h₁ tk₁ F' N' B' X' T' lt'
  replace F' := fr_as F' (look2 _ _ _ _)
  (try k_fold)
  repeat' ((fail_if_success (with_reducible show wpAny _ _ (pyIter _) _ _ _)); first | (k_unfold; (try dsimp only)) | walk1 | (dsimp only; walk1))
  rename Fr _ _ _ _ => lF
  rename News _ _ _ _ => lN
  rename IntsAre _ _ => lI
  rename IsRange _ _ _ _ _ _ _ _ => lR
  rename_i lx vs k _ _ ltx _ _ _ _ _ _ _ _ _ _
  refine' my_range (σ := Unit) (row.cps.size - (at_ + 1)) (fun _ => (lx, listOf vs.toArray k) :: news)
    (fun _ => [(Str.ofString "row", .str row t), (Str.ofString "at", .int (at_ : Int) ta), (Str.ofString "levels", .ref lx)])
    (fun i _ => ∀ j, at_ < j → j < at_ + 1 + i → ¬ Hit row at_ j) () hh lR (by omega) (by omega) (by omega) (by omega) (by omega) lF ?kn ?kk ?kj ?_ ?_
  case kn => exact lN
  case kk => kst_all
  case kj => intro j h1 h2; omega
  · rintro i t' _ u h tk2 own hi hoff hJ F1 N1
    dsimp only [kstB] at hJ F1 N1 hoff ⊢
    clear lF lN
    have hll := lev_length row
    replace N1 : News g L' h ((lx, listOf vs.toArray k) :: (news ++ own)) := N1
    (try k_fold)
    walk_at "MINE go"
    · exact hret _ _ _ _ (by assumption) (news_drop (by assumption)) (.inr ⟨at_ + 1 + i, by omega, by omega, by omega, hit_yes (by assumption) (by assumption), hJ⟩)
    all_goals (
      rename Fr _ _ _ _ => F9
      rename News _ _ _ _ => N9
      refine' js_end () F9 N9 led1 own1 rfl ?hk ?hj
      case hk => kst_all
      case hj => first | exact hit_noB hJ (by assumption) | exact hit_noA hJ (by assumption))
  · rintro _ u h' tk' hJ F1 N1
    dsimp only [kstB] at hJ F1 N1 ⊢
    clear lF lN
    walk_at "MINE go"
    exact hret _ _ _ _ (by assumption) (news_tail (by assumption)) (.inl ⟨rfl, fun j h1 h2 => hJ j h1 (by omega)⟩)
end
end Mine

/-! part D8 -/
namespace Mine
theorem back_D8 : True ∧ True := by
  w_top off
  first | (walk1; done) | exact ⟨trivial, trivial⟩
section
open PySem PySem.W PyProof.Rows PySem.Spec PySem.Calls

local macro_rules | `(tactic| walk_at "MINE go") => `(tactic| repeat' ((fail_if_success (with_reducible show InvEndN _ _ _ _ _ _ _)); first | (k_unfold; (try dsimp only)) | walk1 | (dsimp only; walk1)))
local macro_rules | `(tactic| walk_at "exec For Name Name cons nil") => `(tactic| (k_here; (rename Fr _ _ _ _ => lF'); (with_unfolding_all refine' For_invVF lF' ?k1 ?k2 ?_; (case k1 => exact rfl); (case k2 => exact rfl); k_whole)))
local macro_rules | `(tactic| walk_at "exec For Name Call cons nil") => `(tactic| (k_here; (rename Fr _ _ _ _ => lF'); (with_unfolding_all refine' For_invVF lF' ?k1 ?k2 ?_; (case k1 => exact rfl); (case k2 => exact rfl); k_whole)))
local macro_rules | `(tactic| walk_at "MINE site") => `(tactic| first | assumption | exact rfl | exact Around.frames_deeper (Below.stack (by assumption)) | (simp only [depth_deeper]; omega) | omega)
local macro_rules | `(tactic| walk_at "MINE str item") => `(tactic| (k_here; (with_reducible show wpAny _ _ (subscriptTail _ _ (Value.str _ _) (Value.int _ _)) _ _ _); (with_unfolding_all refine' m_item_str ?k1 ?k2 ?k3 ?_ ?k5 ?k6); (case k1 => omega); (case k2 => omega); (case k3 => assumption); (case k5 => with_unfolding_all rfl); (case k6 => intro _; with_unfolding_all rfl); intro t'; (try dsimp only)))
local macro_rules | `(tactic| walk_at "MINE int item") => `(tactic| (k_here; (with_reducible show wpAny _ _ (subscriptTail _ _ (Value.ref _) (Value.int _ _)) _ _ _); (with_unfolding_all refine' m_item_ints ?k1 ?k2 ?k3 ?k4 ?k5 ?k6 ?_ ?k8); (case k1 => k_asm); (case k2 => k_memK); (case k3 => assumption); (case k4 => omega); (case k5 => omega); (case k6 => omega); (case k8 => with_unfolding_all rfl); intro t'; (try dsimp only)))
local macro_rules | `(tactic| walk_at "subscriptTail Name Name str int") => `(tactic| walk_at "MINE str item")
local macro_rules | `(tactic| walk_at "subscriptTail Name Name ref int") => `(tactic| walk_at "MINE int item")
local macro_rules | `(tactic| walk_at "call builtin:len") => `(tactic| (k_here; (with_reducible show wpAny _ _ (call (Value.builtin "len") [Value.str _ _]) _ _ _); (refine' m_len_str ?k1 ?_); (case k1 => assumption); intro t'; (try dsimp only)))
local macro_rules | `(tactic| walk_at "call builtin:len") => `(tactic| (k_here; (with_reducible show wpAny _ _ (call (Value.builtin "len") [Value.ref _]) _ _ _); (refine' m_len_list ?k1 ?k2 ?k3 ?_); (case k1 => k_asm); (case k2 => k_memK); (case k3 => first | omega | (simp only [List.length_dropLast]; omega)); intro t'; (try dsimp only)))

local macro_rules | `(tactic| walk_at "subscriptTail Name Slice str ref") => `(tactic| (k_here; (with_reducible show wpAny _ _ (subscriptTail _ (Expr.Slice (some _) (some _) none _) _ _) _ _ _); (rename Fr _ _ _ _ => lF'); (rename News _ _ _ _ => lN'); (refine slice_strN_ss (hsz := ?hsz) (s := ⟨_, _, _, _, _⟩) lF' lN' ?_); (case hsz => size_fits); intro h' t' k' F' N'))
local macro_rules | `(tactic| walk_at "subscriptTail Name Slice str ref") => `(tactic| (k_here; (with_reducible show wpAny _ _ (subscriptTail _ (Expr.Slice (some _) none none _) _ _) _ _ _); (rename Fr _ _ _ _ => lF'); (rename News _ _ _ _ => lN'); (refine slice_strN_sn (hsz := ?hsz) (s := ⟨_, _, _, _, _⟩) lF' lN' ?_); (case hsz => size_fits); intro h' t' k' F' N'))

local macro_rules | `(tactic| walk_at "call ref") => `(tactic| (k_here; (with_reducible show wpAny _ _ (call (Value.ref 21) [Value.str _ _]) _ _ _); (refine' depths_c _ rfl ?k1 ?k2 ?k3 ?k4 ?k5 ?kA ?kf ?kk ?kh ?kr ?kd ?_); (case k1 => k_asm); (case k2 => k_asm); (case k3 => k_asm); (case k4 => k_asm); (case k5 => k_asm); (case kA => walk_at "MINE site"); (case kf => walk_at "MINE site"); (case kk => walk_at "MINE site"); (case kh => walk_at "MINE site"); (case kr => walk_at "MINE site"); (case kd => walk_at "MINE site"); intro l' vs' k' h' tk' F' N' hI' lt'; (try dsimp only)))

def sub (row : Str) (b e : Nat) : Str := ⟨((row.cps.toList.drop b).take (e - b)).toArray⟩
theorem slice_sub {row : Str} {b e : Nat} (h1 : b ≤ e) (h2 : e ≤ row.cps.size) : Txt.slice row (some (b : Int)) (some (e : Int)) = sub row b e := by
  show StrLaws.sliceText row (some (b : Int)) (some (e : Int)) = _
  rw [StrLaws.sliceText_nat row h1 h2]; rfl
theorem slice_subN {row : Str} {b : Nat} (h1 : b ≤ row.cps.size) : Txt.slice row (some (b : Int)) none = sub row b row.cps.size := by
  have e : StrLaws.sliceText row (some (b : Int)) none = StrLaws.sliceText row (some (b : Int)) (some (row.length : Int)) := by
    unfold StrLaws.sliceText
    rw [StrLaws.sliceIdx_none_hi]
  show StrLaws.sliceText row (some (b : Int)) none = _
  rw [e]
  exact slice_sub h1 (Nat.le_refl _)
def spS (row : Str) (st : List Str × Nat) (j : Nat) : List Str × Nat := if HitO row j then (st.1 ++ [sub row st.2 j], j + 1) else st
def spAt (row : Str) (i : Nat) : List Str × Nat := (List.range i).foldl (spS row) ([], 0)
def partsOf (row : Str) : List Str := (spAt row row.cps.size).1 ++ [sub row (spAt row row.cps.size).2 row.cps.size]
theorem spAt_succ (row : Str) (i : Nat) : spAt row (i + 1) = spS row (spAt row i) i := by
  unfold spAt
  rw [List.range_succ, List.foldl_append]; rfl
def SJ (row : Str) (i : Nat) (ys : List Str) (b : Int) : Prop := ys = (spAt row i).1 ∧ b = ((spAt row i).2 : Int) ∧ (spAt row i).2 ≤ i ∧ ys.length ≤ i
theorem sj_yes {row : Str} {i : Nat} {ys : List Str} {b : Int} (J : SJ row i ys b) (hi : i < row.cps.size) (a : (({ cps := #[row.cps.getD ((0 : Int) + (i : Int)).toNat 0] } : Str) == Str.ofString ",") = true) (c : (lev row).getD ((0 : Int) + (i : Int)).toNat 0 = 0) :
    SJ row (i + 1) (ys ++ [Txt.slice row (some b) (some ((0 : Int) + (i : Int)))]) ((0 : Int) + (i : Int) + 1) := by
  have e : ((0 : Int) + (i : Int)).toNat = i := by omega
  rw [sg44, e] at a; rw [e] at c
  have hh : HitO row i := ⟨of_decide_eq_true a, c⟩
  obtain ⟨j1, j2, j3, j4⟩ := J
  have e2 : spAt row (i + 1) = ((spAt row i).1 ++ [sub row (spAt row i).2 i], i + 1) := by
    rw [spAt_succ]; unfold spS; rw [if_pos hh]
  refine ⟨?_, ?_, ?_, ?_⟩
  · rw [e2, j1, j2, show (0 : Int) + (i : Int) = (i : Int) by omega, slice_sub j3 (by omega)]
  · rw [e2]; show _ = ((i + 1 : Nat) : Int); omega
  · rw [e2]; exact Nat.le_refl _
  · rw [List.length_append, List.length_singleton]; omega
theorem sj_no {row : Str} {i : Nat} {ys : List Str} {b : Int} (J : SJ row i ys b) (h : ¬ HitO row i) : SJ row (i + 1) ys b := by
  obtain ⟨j1, j2, j3, j4⟩ := J
  have e2 : spAt row (i + 1) = spAt row i := by rw [spAt_succ]; unfold spS; rw [if_neg h]
  exact ⟨by rw [e2]; exact j1, by rw [e2]; exact j2, by rw [e2]; omega, by omega⟩
theorem sj_noA {row : Str} {i : Nat} {ys : List Str} {b : Int} (J : SJ row i ys b) (a : (({ cps := #[row.cps.getD ((0 : Int) + (i : Int)).toNat 0] } : Str) == Str.ofString ",") = false) : SJ row (i + 1) ys b := by
  have e : ((0 : Int) + (i : Int)).toNat = i := by omega
  rw [sg44, e] at a
  exact sj_no J fun h => of_decide_eq_false a h.1
theorem sj_noB {row : Str} {i : Nat} {ys : List Str} {b : Int} (J : SJ row i ys b) (c : (lev row).getD ((0 : Int) + (i : Int)).toNat 0 ≠ 0) : SJ row (i + 1) ys b := by
  have e : ((0 : Int) + (i : Int)).toNat = i := by omega
  rw [e] at c
  exact sj_no J fun h => c h.2
theorem led2 {a a' : Addr} {o o' : Obj} {news own : List (Addr × Obj)} : ∀ p ∈ (a, o) :: (a', o') :: news, p ∈ (a, o) :: (a', o') :: (news ++ own) := fun p hp => by
  rcases List.mem_cons.mp hp with rfl | hp
  · exact .head _
  · exact .tail _ (led1 p hp)
theorem own2 {a a' : Addr} {o o' : Obj} {news own : List (Addr × Obj)} : ∀ p ∈ own, p ∈ (a, o) :: (a', o') :: (news ++ own) := fun p hp => .tail _ (own1 p hp)
set_option maxRecDepth 100000 in
set_option maxHeartbeats 400000 in
theorem split_open_c (w : World) {p : Program} {loose : List Str} {mean : ExcName → Option Value} {mg mb : Str → Option Value} (_h : PySem.Challenge.rw_no0226_01 = PySem.Challenge.rw_no0226_01)
    {A A₀ : Around} {base h₀ : Heap} {outer : List Env} {env : Env} {L : Addr} {m : Str → Option Value} {news : List (Addr × Obj)} {s : Shared} {Q E : Value → Shared → Prop}
    (B : Below A₀ base outer h₀) (F : Fr h₀ L s.heap m) (X : (Mine.hd.heap_39 w.params).In h₀) (N : News h₀ L s.heap news) (T : Top p loose mean mg mb h₀)
    (hA : A.frames = some (env :: outer)) (hf : env.frame = some L) (hke : env.scope.kind = .function) (hh : A.handled = none)
    {row : Str} {t ts : Tok} (hrow : row.cps.size ≤ 64) (hd : A.depth + 2 < recursionLimit)
    (hret : ∀ (l : Addr) (vs : List Value) (k : Nat) h' tk', Fr h₀ L h' m → News h₀ L h' ((l, listOf vs.toArray k) :: news) → StrsAre vs (partsOf row) → (∀ p ∈ news, p.1 < l) → Q (.ref l) { s with heap := h', toks := tk' }) :
    wpAny (model PySem.Challenge.pw_no0226_01 w) A (call (.ref 42) [.str row t, .str (Str.ofString ",") ts]) Q E s := by
  revert X _h; k_fill; intro _h X
  clear _h
  refine' enter (binds := [(Str.ofString "row", .str row t), (Str.ofString "sign", .str (Str.ofString ",") ts)]) B F X N T hA hf hke ?k6 ?k7 ?k8 ?k9 ?kB ?_ ?c2 ?c3 ?c4 ?c5
  case k6 => k_is
  case k7 => k_is
  case k8 => omega
  case k9 => exact BindsTo.of_eq rfl
  case c5 => decide
  case kB => exact locs rfl
  case c2 => exact rfl
  case c3 => exact rfl
  case c4 => exact rfl
  intro g L' h₁ tk₁ F' N' B' X' T' lt'
  replace F' := fr_as F' (look2 _ _ _ _)
  (try k_fold)
  repeat' ((fail_if_success (with_reducible show wpAny _ _ (pyIter _) _ _ _)); first | (k_unfold; (try dsimp only)) | walk1 | (dsimp only; walk1))
  rename Fr _ _ _ _ => lF
  rename News _ _ _ _ => lN
  rename IntsAre _ _ => lI
  rename IsRange _ _ _ _ _ _ _ _ => lR
  rename_i lp _ ltp _ _ _ lv vs k _ _ ltv _ _ _ _ _ _ _ _ _ _
  refine' my_range (σ := List Value × List Str × Nat × Int × Tok) row.cps.size (fun c => (lv, listOf vs.toArray k) :: (lp, listOf c.1.toArray c.2.2.1) :: news)
    (fun c => [(Str.ofString "row", .str row t), (Str.ofString "sign", .str (Str.ofString ",") ts), (Str.ofString "parts", .ref lp), (Str.ofString "begin", .int c.2.2.2.1 c.2.2.2.2), (Str.ofString "levels", .ref lv)])
    (fun i c => StrsAre c.1 c.2.1 ∧ SJ row i c.2.1 c.2.2.2.1) ([], [], 0, 0, _) hh lR (by omega) (by omega) (by omega) (by omega) (by omega) lF ?kn ?kk ⟨StrsAre.nil, rfl, rfl, Nat.le_refl _, Nat.le_refl _⟩ ?_ ?_
  case kn => exact lN
  case kk => kst_all
  · rintro i t' ⟨vp, ys, kp, b, tb⟩ u h tk2 own hi hoff ⟨hS, hJ⟩ F1 N1
    dsimp only [kstB] at hS hJ F1 N1 hoff ⊢
    clear lF lN
    have hll := lev_length row
    have hrow' : row.length ≤ 64 := hrow
    have hsl := hS.length
    have hy := hJ.2.2.2
    have kM := kstMark
    have hne : @LT.lt Nat _ lp lv := ltv _ (.head _)
    replace hoff : OwnOff own (lv :: lp :: news.map (·.1)) := hoff
    replace F1 : Fr g L' h _ := F1
    replace N1 : News g L' h ((lv, listOf vs.toArray k) :: (lp, listOf vp.toArray kp) :: (news ++ own)) := N1
    (try k_fold)
    walk_at "MINE go"
    all_goals (
      rename Fr _ _ _ _ => F9
      rename News _ _ _ _ => N9
      (try simp only [List.push_toArray] at N9)
      refine' js_end ⟨_, _, _, _, _⟩ F9 N9 ?hn ?ho rfl ?hk ⟨?hi, ?hj⟩
      case hn => exact led2
      case ho => exact own2
      case hk => kst_all
      case hi => first | exact hS | exact StrsAre.append' hS (.cons _ _ .nil)
      case hj => first | exact sj_yes hJ hi (by assumption) (by assumption) | exact sj_noB hJ (by assumption) | exact sj_noA hJ (by assumption))
  · rintro ⟨vp, ys, kp, b, tb⟩ u h' tk' ⟨hS, hJ⟩ F1 N1
    dsimp only [kstB] at hS hJ F1 N1 ⊢
    clear lF lN
    have hrow' : row.length ≤ 64 := hrow
    have hsl := hS.length
    have hy := hJ.2.2.2
    have kM := kstMark
    have hne : @LT.lt Nat _ lp lv := ltv _ (.head _)
    walk_at "MINE go"
    rename News _ _ _ _ => N9
    (try simp only [List.push_toArray] at N9)
    refine hret lp _ _ _ _ (by assumption) (news_tail N9) ?_ ltp
    have e : partsOf row = ys ++ [Txt.slice row (some b) none] := by
      unfold partsOf
      rw [hJ.1, hJ.2.1, slice_subN hJ.2.2.1]
    rw [e]
    exact StrsAre.append' hS (.cons _ _ .nil)
end
end Mine

/-! part D9 -/
namespace Mine
theorem back_D9 : True ∧ True := by
  w_top off
  first | (walk1; done) | exact ⟨trivial, trivial⟩
section
open PySem PySem.W PyProof.Rows PySem.Spec PySem.Calls

local macro_rules | `(tactic| walk_at "MINE go") => `(tactic| repeat' ((fail_if_success (with_reducible show InvEndN _ _ _ _ _ _ _)); first | (k_unfold; (try dsimp only)) | walk1 | (dsimp only; walk1)))
local macro_rules | `(tactic| walk_at "exec For Name Name cons nil") => `(tactic| (k_here; (rename Fr _ _ _ _ => lF'); (with_unfolding_all refine' For_invVF lF' ?k1 ?k2 ?_; (case k1 => exact rfl); (case k2 => exact rfl); k_whole)))
local macro_rules | `(tactic| walk_at "exec For Name Call cons nil") => `(tactic| (k_here; (rename Fr _ _ _ _ => lF'); (with_unfolding_all refine' For_invVF lF' ?k1 ?k2 ?_; (case k1 => exact rfl); (case k2 => exact rfl); k_whole)))
local macro_rules | `(tactic| walk_at "MINE site") => `(tactic| first | assumption | exact rfl | exact Around.frames_deeper (Below.stack (by assumption)) | (simp only [depth_deeper]; omega) | omega)
local macro_rules | `(tactic| walk_at "MINE str item") => `(tactic| (k_here; (with_reducible show wpAny _ _ (subscriptTail _ _ (Value.str _ _) (Value.int _ _)) _ _ _); (with_unfolding_all refine' m_item_str ?k1 ?k2 ?k3 ?_ ?k5 ?k6); (case k1 => omega); (case k2 => omega); (case k3 => assumption); (case k5 => with_unfolding_all rfl); (case k6 => intro _; with_unfolding_all rfl); intro t'; (try dsimp only)))
local macro_rules | `(tactic| walk_at "MINE int item") => `(tactic| (k_here; (with_reducible show wpAny _ _ (subscriptTail _ _ (Value.ref _) (Value.int _ _)) _ _ _); (with_unfolding_all refine' m_item_ints ?k1 ?k2 ?k3 ?k4 ?k5 ?k6 ?_ ?k8); (case k1 => k_asm); (case k2 => k_memK); (case k3 => assumption); (case k4 => omega); (case k5 => omega); (case k6 => omega); (case k8 => with_unfolding_all rfl); intro t'; (try dsimp only)))
local macro_rules | `(tactic| walk_at "subscriptTail Name Name str int") => `(tactic| walk_at "MINE str item")
local macro_rules | `(tactic| walk_at "subscriptTail Name Name ref int") => `(tactic| walk_at "MINE int item")
local macro_rules | `(tactic| walk_at "call builtin:len") => `(tactic| (k_here; (with_reducible show wpAny _ _ (call (Value.builtin "len") [Value.str _ _]) _ _ _); (refine' m_len_str ?k1 ?_); (case k1 => assumption); intro t'; (try dsimp only)))
local macro_rules | `(tactic| walk_at "call builtin:len") => `(tactic| (k_here; (with_reducible show wpAny _ _ (call (Value.builtin "len") [Value.ref _]) _ _ _); (refine' m_len_list ?k1 ?k2 ?k3 ?_); (case k1 => k_asm); (case k2 => k_memK); (case k3 => first | omega | (simp only [List.length_dropLast]; omega)); intro t'; (try dsimp only)))

def RJ (r : Str) (i : Nat) (d : Int) (q : Bool) : Prop := r.cps.size = i ∧ (dAt r i).2 = (d, q) ∧ 0 ≤ d ∧ (∀ j, j < i → r.cps.getD j 0 = 41 → (dAt r j).2.2 = false → 0 < (dAt r j).2.1)
theorem app_cps (r : Str) (c : Nat) : (r ++ (⟨#[c]⟩ : Str)).cps.toList = r.cps.toList ++ [c] := by
  rw [Str.cps_append, Array.toList_append]
theorem dAt_app {r : Str} {c j : Nat} (h : j ≤ r.cps.size) : dAt (r ++ (⟨#[c]⟩ : Str)) j = dAt r j := by
  unfold dAt
  rw [app_cps, List.take_append_of_le_length (by simpa using h)]
theorem app_size (r : Str) (c : Nat) : (r ++ (⟨#[c]⟩ : Str)).cps.size = r.cps.size + 1 := by
  rw [Str.cps_append]; simp
theorem app_last (r : Str) (c : Nat) : (r ++ (⟨#[c]⟩ : Str)).cps[r.cps.size]? = some c := by
  rw [Str.cps_append]; simp
theorem app_getD {r : Str} {c j : Nat} (h : j < r.cps.size) : (r ++ (⟨#[c]⟩ : Str)).cps.getD j 0 = r.cps.getD j 0 := by
  have e : (r ++ (⟨#[c]⟩ : Str)).cps[j]? = r.cps[j]? := by
    rw [Str.cps_append, Array.getElem?_append]; simp [h]
  rw [Array.getD_eq_getD_getElem?, Array.getD_eq_getD_getElem?, e]
theorem rj_step {r : Str} {i : Nat} {d d' : Int} {q q' : Bool} (J : RJ r i d q) (c : Nat) (hc : c = 41 → q = false → 0 < d) (e : ∀ l, (dS (l, d, q) c).2 = (d', q')) (h0 : 0 ≤ d') : RJ (r ++ (⟨#[c]⟩ : Str)) (i + 1) d' q' := by
  obtain ⟨j1, j2, j3, j4⟩ := J
  subst j1
  have e1 : dAt (r ++ (⟨#[c]⟩ : Str)) (r.cps.size + 1) = dS (dAt r r.cps.size) c := by
    rw [dAt_succ (app_last r c), dAt_app (Nat.le_refl _)]
  have e2 : dAt r r.cps.size = ((dAt r r.cps.size).1, d, q) := by rw [← j2]
  refine ⟨app_size r c, ?_, h0, fun j hj h1 h2 => ?_⟩
  · rw [e1, e2, e]
  · by_cases hq : j = r.cps.size
    · subst hq
      rw [dAt_app (Nat.le_refl _)] at h2 ⊢
      have h3 : c = 41 := by
        have := app_last r c
        rw [Array.getD_eq_getD_getElem?, this] at h1
        exact h1
      rw [j2] at h2 ⊢
      exact hc h3 h2
    · have hlt : j < r.cps.size := by omega
      rw [app_getD hlt] at h1
      rw [dAt_app (Nat.le_of_lt hlt)] at h2 ⊢
      exact j4 j hlt h1 h2
section
variable {r : Str} {i : Nat} {d : Int} {q : Bool} {X : Str} {k : Int}
theorem itA : (Txt.item X k == Str.ofString "'") = decide ((Txt.charAt X k).getD 0 = 39) := sg39 _
theorem itB : (Txt.item X k == Str.ofString ")") = decide ((Txt.charAt X k).getD 0 = 41) := sg41 _
theorem itC : (Txt.item X k == Str.ofString "(") = decide ((Txt.charAt X k).getD 0 = 40) := sg40 _
theorem rj1 {P : Prop} (a : (Txt.item X k == Str.ofString "'") = true) (b : (Txt.item X k == Str.ofString ")") = true) : P := by
  rw [itA] at a; rw [itB] at b; have a := of_decide_eq_true a; have b := of_decide_eq_true b; omega
theorem rj2 {P : Prop} (a : (Txt.item X k == Str.ofString "'") = true) (b : (Txt.item X k == Str.ofString "(") = true) : P := by
  rw [itA] at a; rw [itC] at b; have a := of_decide_eq_true a; have b := of_decide_eq_true b; omega
theorem rj4 {P : Prop} (a : (Txt.item X k == Str.ofString ")") = true) (b : (Txt.item X k == Str.ofString "(") = true) : P := by
  rw [itB] at a; rw [itC] at b; have a := of_decide_eq_true a; have b := of_decide_eq_true b; omega
theorem rj3 (J : RJ r i d q) (a : (Txt.item X k == Str.ofString "'") = true) : RJ (r ++ Txt.item X k) (i + 1) d (!q) := by
  rw [itA] at a; have a := of_decide_eq_true a
  exact rj_step J _ (fun h => by omega) (fun l => by simp [dS, a]) J.2.2.1
theorem rj5 (J : RJ r i d q) (a : (Txt.item X k == Str.ofString "'") = false) (b : (Txt.item X k == Str.ofString ")") = true) (c : q = true) : RJ (r ++ Txt.item X k) (i + 1) d q := by
  rw [itA] at a; rw [itB] at b; have a := of_decide_eq_false a; have b := of_decide_eq_true b
  exact rj_step J _ (fun _ h => by rw [c] at h; cases h) (fun l => by simp [dS, a, c]) J.2.2.1
theorem rj6 (J : RJ r i d q) (c : q = false) (e : d = 0) : RJ (r ++ Str.ofString ",") (i + 1) d q := by
  have x : Str.ofString "," = ⟨#[44]⟩ := by decide +kernel
  rw [x]
  exact rj_step J _ (fun h => by omega) (fun l => by simp [dS, c]) J.2.2.1
theorem rj7 (J : RJ r i d q) (b : (Txt.item X k == Str.ofString ")") = true) (c : q = false) (e : d ≠ 0) : RJ (r ++ Txt.item X k) (i + 1) (d - 1) q := by
  rw [itB] at b; have b := of_decide_eq_true b
  have h0 := J.2.2.1
  have h1 : 0 < d := by omega
  exact rj_step J _ (fun _ _ => h1) (fun l => by simp [dS, b, c, h1]) (by omega)
theorem rj8 (J : RJ r i d q) (a : (Txt.item X k == Str.ofString "'") = false) (b : (Txt.item X k == Str.ofString ")") = false) (c : q = true) : RJ (r ++ Txt.item X k) (i + 1) d q := by
  rw [itA] at a; rw [itB] at b; have a := of_decide_eq_false a; have b := of_decide_eq_false b
  exact rj_step J _ (fun h => absurd h b) (fun l => by simp [dS, a, c]) J.2.2.1
theorem rj9 (J : RJ r i d q) (b : (Txt.item X k == Str.ofString "(") = true) (c : q = false) : RJ (r ++ Txt.item X k) (i + 1) (d + 1) q := by
  rw [itC] at b; have b := of_decide_eq_true b
  have h0 := J.2.2.1
  exact rj_step J _ (fun h => by omega) (fun l => by simp [dS, b, c, h0]) (by omega)
theorem rj10 (J : RJ r i d q) (a : (Txt.item X k == Str.ofString "'") = false) (b : (Txt.item X k == Str.ofString ")") = false) (c : (Txt.item X k == Str.ofString "(") = false) : RJ (r ++ Txt.item X k) (i + 1) d q := by
  rw [itA] at a; rw [itB] at b; rw [itC] at c; have a := of_decide_eq_false a; have b := of_decide_eq_false b; have c := of_decide_eq_false c
  refine rj_step J _ (fun h => absurd h b) (fun l => ?_) J.2.2.1
  cases q <;> simp [dS, a, b, c]
end
set_option maxRecDepth 100000 in
set_option maxHeartbeats 4000000 in
theorem law_row_c (w : World) {p : Program} {loose : List Str} {mean : ExcName → Option Value} {mg mb : Str → Option Value} (_h : PySem.Challenge.rw_no0226_01 = PySem.Challenge.rw_no0226_01)
    {A A₀ : Around} {base h₀ : Heap} {outer : List Env} {env : Env} {L : Addr} {m : Str → Option Value} {news : List (Addr × Obj)} {s : Shared} {Q E : Value → Shared → Prop}
    (B : Below A₀ base outer h₀) (F : Fr h₀ L s.heap m) (X : (Mine.hd.heap_39 w.params).In h₀) (N : News h₀ L s.heap news) (T : Top p loose mean mg mb h₀)
    (hA : A.frames = some (env :: outer)) (hf : env.frame = some L) (hke : env.scope.kind = .function) (hh : A.handled = none)
    {n : Int} {tn tm : Tok} {mo : Nat} (hn : 0 ≤ n) (hmo : mo ≤ 64) (hd : A.depth + 1 < recursionLimit)
    (hret : ∀ (r : Str) (t : Tok) h' tk', Fr h₀ L h' m → News h₀ L h' news → (∃ d q, RJ r mo d q) → Q (.str r t) { s with heap := h', toks := tk' }) :
    wpAny (model PySem.Challenge.pw_no0226_01 w) A (call (.ref 123) [.int n tn, .int (mo : Int) tm]) Q E s := by
  revert X _h; k_fill; intro _h X
  clear _h
  refine' enter (binds := [(Str.ofString "n", .int n tn), (Str.ofString "most", .int (mo : Int) tm)]) B F X N T hA hf hke ?k6 ?k7 ?k8 ?k9 ?kB ?_ ?c2 ?c3 ?c4 ?c5
  case k6 => k_is
  case k7 => k_is
  case k8 => omega
  case k9 => exact BindsTo.of_eq rfl
  case c5 => decide
  case kB => exact locs rfl
  case c2 => exact rfl
  case c3 => exact rfl
  case c4 => exact rfl
  intro g L' h₁ tk₁ F' N' B' X' T' lt'
  replace F' := fr_as F' (look2 _ _ _ _)
  (try k_fold)
  repeat' ((fail_if_success (with_reducible show wpAny _ _ (pyIter _) _ _ _)); first | (k_unfold; (try dsimp only)) | walk1 | (dsimp only; walk1))
  rename Fr _ _ _ _ => lF
  rename News _ _ _ _ => lN
  rename IsRange _ _ _ _ _ _ _ _ => lR
  refine' my_range (σ := Str × Tok × Int × Tok × Int × Tok × Bool) mo (fun c => news)
    (fun c => [(Str.ofString "n", .int c.2.2.1 c.2.2.2.1), (Str.ofString "row", .str c.1 c.2.1), (Str.ofString "deep", .int c.2.2.2.2.1 c.2.2.2.2.2.1), (Str.ofString "quoted", .bool c.2.2.2.2.2.2)])
    (fun i c => 0 ≤ c.2.2.1 ∧ RJ c.1 i c.2.2.2.2.1 c.2.2.2.2.2.2) (Str.ofString "", _, n, _, 0, _, false) hh lR (by omega) (by omega) (by omega) (by omega) (by omega) lF ?kn ?kk ?kj ?_ ?_
  case kn => exact lN
  case kk => kst_all
  case kj => exact ⟨hn, (by show (Str.ofString "").cps.size = 0; decide +kernel), rfl, Int.le_refl _, fun j h => absurd h (Nat.not_lt_zero _)⟩
  · rintro i t' ⟨r, tr, n, tn, d, td, q⟩ u h tk2 own hi hoff ⟨hn0, hJ⟩ F1 N1
    dsimp only [kstB] at hn0 hJ F1 N1 hoff ⊢
    clear lF lN
    have kM := kstMark
    have hr1 : r.length = i := hJ.1
    have hr2 : r.length ≤ 64 := by omega
    have hm0 := fdiv_fmod_facts n 5
    replace F1 : Fr g L' h _ := F1
    replace N1 : News g L' h (news ++ own) := N1
    (try k_fold)
    walk_at "MINE go"
    all_goals (
      rename Fr _ _ _ _ => F9
      rename News _ _ _ _ => N9
      refine' js_end ⟨_, _, _, _, _, _, _⟩ F9 N9 ?hn ?ho rfl ?hk ⟨?hi, ?hj⟩
      case hn => exact fun p hp => List.mem_append_left _ hp
      case ho => exact fun p hp => List.mem_append_right _ hp
      case hk => kst_all
      case hi => show 0 ≤ Int.fdiv n 5; omega
      case hj => dsimp only; with_reducible first | exact rj1 (by assumption) (by assumption) | exact rj2 (by assumption) (by assumption) | exact rj4 (by assumption) (by assumption) | exact rj3 hJ (by assumption) | exact rj5 hJ (by assumption) (by assumption) (by assumption) | exact rj6 hJ (by assumption) (by assumption) | exact rj7 hJ (by assumption) (by assumption) (by assumption) | exact rj8 hJ (by assumption) (by assumption) (by assumption) | exact rj9 hJ (by assumption) (by assumption) | exact rj10 hJ (by assumption) (by assumption) (by assumption))
  · rintro ⟨r, tr, n, tn, d, td, q⟩ u h tk2 ⟨hn0, hJ⟩ F1 N1
    dsimp only [kstB] at hn0 hJ F1 N1 ⊢
    clear lF lN
    walk_at "MINE go"
    exact hret _ _ _ _ (by assumption) (by assumption) ⟨_, _, hJ⟩
end
end Mine

/-! part D10 -/
namespace Mine
theorem back_D10 : True ∧ True := by
  w_top off
  first | (walk1; done) | exact ⟨trivial, trivial⟩
section
open PySem PySem.W PyProof.Rows PySem.Spec PySem.Calls

local macro_rules | `(tactic| walk_at "MINE go") => `(tactic| repeat' ((fail_if_success (with_reducible show InvEndN _ _ _ _ _ _ _)); first | (k_unfold; (try dsimp only)) | walk1 | (dsimp only; walk1)))
local macro_rules | `(tactic| walk_at "exec For Name Name cons nil") => `(tactic| (k_here; (rename Fr _ _ _ _ => lF'); (with_unfolding_all refine' For_invVF lF' ?k1 ?k2 ?_; (case k1 => exact rfl); (case k2 => exact rfl); k_whole)))
local macro_rules | `(tactic| walk_at "exec For Name Call cons nil") => `(tactic| (k_here; (rename Fr _ _ _ _ => lF'); (with_unfolding_all refine' For_invVF lF' ?k1 ?k2 ?_; (case k1 => exact rfl); (case k2 => exact rfl); k_whole)))
local macro_rules | `(tactic| walk_at "MINE site") => `(tactic| first | assumption | exact rfl | exact Around.frames_deeper (Below.stack (by assumption)) | (simp only [depth_deeper]; omega) | omega)
local macro_rules | `(tactic| walk_at "MINE str item") => `(tactic| (k_here; (with_reducible show wpAny _ _ (subscriptTail _ _ (Value.str _ _) (Value.int _ _)) _ _ _); (with_unfolding_all refine' m_item_str ?k1 ?k2 ?k3 ?_ ?k5 ?k6); (case k1 => omega); (case k2 => omega); (case k3 => assumption); (case k5 => with_unfolding_all rfl); (case k6 => intro _; with_unfolding_all rfl); intro t'; (try dsimp only)))
local macro_rules | `(tactic| walk_at "MINE int item") => `(tactic| (k_here; (with_reducible show wpAny _ _ (subscriptTail _ _ (Value.ref _) (Value.int _ _)) _ _ _); (with_unfolding_all refine' m_item_ints ?k1 ?k2 ?k3 ?k4 ?k5 ?k6 ?_ ?k8); (case k1 => k_asm); (case k2 => k_memK); (case k3 => assumption); (case k4 => omega); (case k5 => omega); (case k6 => omega); (case k8 => with_unfolding_all rfl); intro t'; (try dsimp only)))
local macro_rules | `(tactic| walk_at "subscriptTail Name Name str int") => `(tactic| walk_at "MINE str item")
local macro_rules | `(tactic| walk_at "subscriptTail Name Name ref int") => `(tactic| walk_at "MINE int item")
local macro_rules | `(tactic| walk_at "call builtin:len") => `(tactic| (k_here; (with_reducible show wpAny _ _ (call (Value.builtin "len") [Value.str _ _]) _ _ _); (refine' m_len_str ?k1 ?_); (case k1 => assumption); intro t'; (try dsimp only)))
local macro_rules | `(tactic| walk_at "call builtin:len") => `(tactic| (k_here; (with_reducible show wpAny _ _ (call (Value.builtin "len") [Value.ref _]) _ _ _); (refine' m_len_list ?k1 ?k2 ?k3 ?_); (case k1 => k_asm); (case k2 => k_memK); (case k3 => first | omega | (simp only [List.length_dropLast]; omega)); intro t'; (try dsimp only)))

local macro_rules | `(tactic| walk_at "setItem ref int") => `(tactic| (k_here; (with_reducible show wpAny _ _ (setItem (Value.ref _) (Value.int _ _) (Value.int _ _)) _ _ _); k_dflt (refine' kdf_setItem ?F ?N ?U ?d ?f ?z ?_; (case F => k_asm); (case N => k_asm); (case U => k_updF); (case d => assumption); (case f => assumption); (case z => omega)); (intro h' o' kvs' F' N' hD' hP'; (try dsimp only [List.nil_append, List.cons_append] at N'))))
local macro_rules | `(tactic| walk_at "call builtin:list.pop") => `(tactic| (k_here; (with_reducible show wpAny _ _ (call (Value.builtin _) [Value.ref _]) _ _ _); k_dflt (refine' kpa_pop ?F ?N ?U ?i ?l ?z ?_; (case F => k_asm); (case N => k_asm); (case U => k_upd); (case i => with_reducible assumption); (case l => ((rename _ = true → _ = false → 0 < List.length _ => hp9); exact hp9 (by with_reducible assumption) (by with_reducible assumption))); (case z => size_fits)); (intro h' t' F' N' hI'; (try dsimp only [List.nil_append, List.cons_append] at N'))))
/-- ends, levels, the open ones, the commas, within a constant -/
structure PSt where
  ends : List (Int × Int)
  levels : List Int
  pile : List Int
  commas : List Int
  q : Bool
def pS (row : Str) (st : PSt) (i : Nat) : PSt :=
  let c := row.cps.getD i 0
  if c = 39 then { st with q := !st.q, levels := st.levels ++ [-1] }
  else if st.q = true then { st with levels := st.levels ++ [-1] }
  else if c = 40 then { st with levels := st.levels ++ [(st.pile.length : Int)], pile := st.pile ++ [(i : Int)], ends := kdfPut st.ends i (-1) }
  else if c = 41 then { st with ends := kdfPut st.ends (st.pile.getLastD 0) i, pile := st.pile.dropLast, levels := st.levels ++ [(st.pile.dropLast.length : Int)] }
  else { st with levels := st.levels ++ [(st.pile.length : Int)], commas := if c = 44 ∧ st.pile = [] then st.commas ++ [(i : Int)] else st.commas }
def pAt (row : Str) (i : Nat) : PSt := (List.range i).foldl (pS row) ⟨[], [], [], [], false⟩
theorem pAt_succ (row : Str) (i : Nat) : pAt row (i + 1) = pS row (pAt row i) i := by
  unfold pAt
  rw [List.range_succ, List.foldl_append]; rfl
def Wf (row : Str) : Prop := ∀ j, j < row.cps.size → row.cps.getD j 0 = 41 → (dAt row j).2.2 = false → 0 < (dAt row j).2.1
/-- on a well-made row the pile and the depth go together -/
theorem pile_depth {row : Str} (hw : Wf row) : ∀ i, i ≤ row.cps.size → dAt row i = ((pAt row i).levels, ((pAt row i).pile.length : Int), (pAt row i).q) := by
  intro i
  induction i with
  | zero => intro _; rfl
  | succ i ih =>
    intro h
    have hlt : i < row.cps.size := by omega
    have ih := ih (by omega)
    have hg : row.cps[i]? = some (row.cps.getD i 0) := by simp [hlt]
    have hw := hw i hlt
    rw [dAt_succ hg, pAt_succ]
    rw [ih] at hw ⊢
    generalize pAt row i = st at hw ⊢
    obtain ⟨e, l, p, cm, q⟩ := st
    dsimp only at hw
    unfold dS pS
    dsimp only
    generalize row.cps.getD i 0 = c at hw ⊢
    by_cases h1 : c = 39
    · simp [h1]
    rw [if_neg h1, if_neg h1]
    by_cases h2 : q = true
    · simp [h2]
    rw [if_neg h2, if_neg h2]
    have h2' : q = false := by simpa using h2
    by_cases h3 : c = 40
    · subst h3
      simp
    rw [if_neg (by simp [h3]), if_neg h3]
    by_cases h4 : c = 41
    · have h5 := hw h4 h2'
      rw [if_pos ⟨h4, h5⟩, if_pos h4, List.length_dropLast]
      have h6 : ((p.length - 1 : Nat) : Int) = (p.length : Int) - 1 := by omega
      rw [h6]
    · rw [if_neg (by simp [h4]), if_neg h4, if_neg h4]
theorem pAt_len (row : Str) : ∀ i, (pAt row i).ends.length ≤ i ∧ (pAt row i).levels.length = i ∧ (pAt row i).pile.length ≤ i ∧ (pAt row i).commas.length ≤ i := by
  intro i
  induction i with
  | zero => exact ⟨Nat.le_refl _, rfl, Nat.le_refl _, Nat.le_refl _⟩
  | succ i ih =>
    rw [pAt_succ]
    generalize pAt row i = st at ih ⊢
    obtain ⟨e, l, p, cm, q⟩ := st
    dsimp only at ih
    obtain ⟨h1, h2, h3, h4⟩ := ih
    have k1 := kdfPut_len e i (-1)
    have k2 := kdfPut_len e (p.getLastD 0) i
    unfold pS
    dsimp only
    (repeat' split) <;> simp only [List.length_append, List.length_singleton, List.length_dropLast] <;> omega
section
variable {w : World} {row : Str} {i : Nat} {od : Obj} {kvs : List (Int × Value)} {vl vp vc : List Value} {e : List (Int × Int)} {l p cm : List Int} {q : Bool} {t t2 : Tok}
structure PJ (w : World) (row : Str) (i : Nat) (od : Obj) (kvs : List (Int × Value)) (vl vp vc : List Value) (q : Bool) : Prop where
  d : od.IsDictOf (PySem.intKind PySem.Challenge.pw_no0226_01 w) kvs
  f : PyProof.V.FlatPairs PyData.int kvs (kdfD (pAt row i).ends)
  l : IntsAre vl (pAt row i).levels
  p : IntsAre vp (pAt row i).pile
  c : IntsAre vc (pAt row i).commas
  q : q = (pAt row i).q
theorem z0 (i : Nat) : ((0 : Int) + (i : Int)).toNat = i := by omega
theorem z1 (i : Nat) : ((0 : Int) + (i : Int)) = (i : Int) := by omega
theorem pj1 (hst : pAt row i = ⟨e, l, p, cm, q⟩) (a : (({ cps := #[row.cps.getD ((0 : Int) + (i : Int)).toNat 0] } : Str) == Str.ofString "'") = true)
    (hD : od.IsDictOf (PySem.intKind PySem.Challenge.pw_no0226_01 w) kvs) (hF : PyProof.V.FlatPairs PyData.int kvs (kdfD e)) (hL : IntsAre vl l) (hP : IntsAre vp p) (hC : IntsAre vc cm) :
    PJ w row (i + 1) od kvs (vl ++ [.int (-1) t]) vp vc (!q) := by
  rw [sg39, z0] at a
  have e1 : pAt row (i + 1) = ⟨e, l ++ [-1], p, cm, !q⟩ := by rw [pAt_succ, hst]; unfold pS; simp [of_decide_eq_true a]
  exact ⟨hD, by rw [e1]; exact hF, by rw [e1]; exact hL.append (.cons _ _ .nil), by rw [e1]; exact hP, by rw [e1]; exact hC, by rw [e1]⟩
theorem pj2 (hst : pAt row i = ⟨e, l, p, cm, q⟩) (a : (({ cps := #[row.cps.getD ((0 : Int) + (i : Int)).toNat 0] } : Str) == Str.ofString "'") = false) (b : q = true)
    (hD : od.IsDictOf (PySem.intKind PySem.Challenge.pw_no0226_01 w) kvs) (hF : PyProof.V.FlatPairs PyData.int kvs (kdfD e)) (hL : IntsAre vl l) (hP : IntsAre vp p) (hC : IntsAre vc cm) :
    PJ w row (i + 1) od kvs (vl ++ [.int (-1) t]) vp vc q := by
  rw [sg39, z0] at a
  have e1 : pAt row (i + 1) = ⟨e, l ++ [-1], p, cm, q⟩ := by rw [pAt_succ, hst]; unfold pS; dsimp only; rw [if_neg (of_decide_eq_false a), if_pos b]
  exact ⟨hD, by rw [e1]; exact hF, by rw [e1]; exact hL.append (.cons _ _ .nil), by rw [e1]; exact hP, by rw [e1]; exact hC, by rw [e1]⟩
theorem pj3 {x : Int} (hx : x = (p.length : Int)) (hst : pAt row i = ⟨e, l, p, cm, q⟩) (b : q = false) (a : (({ cps := #[row.cps.getD ((0 : Int) + (i : Int)).toNat 0] } : Str) == Str.ofString "(") = true)
    (hD : od.IsDictOf (PySem.intKind PySem.Challenge.pw_no0226_01 w) kvs) (hF : PyProof.V.FlatPairs PyData.int kvs (kdfD (kdfPut e ((0 : Int) + (i : Int)) (-1)))) (hL : IntsAre vl l) (hP : IntsAre vp p) (hC : IntsAre vc cm) :
    PJ w row (i + 1) od kvs (vl ++ [.int x t]) (vp ++ [.int ((0 : Int) + (i : Int)) t2]) vc q := by
  rw [sg40, z0] at a
  rw [z1] at hF ⊢
  have e1 : pAt row (i + 1) = ⟨kdfPut e i (-1), l ++ [(p.length : Int)], p ++ [(i : Int)], cm, q⟩ := by rw [pAt_succ, hst]; unfold pS; simp [of_decide_eq_true a, b]
  exact ⟨hD, by rw [e1]; exact hF, by rw [e1, hx]; exact hL.append (.cons _ _ .nil), by rw [e1]; exact hP.append (.cons _ _ .nil), by rw [e1]; exact hC, by rw [e1]⟩
theorem pj4 (hst : pAt row i = ⟨e, l, p, cm, q⟩) (b : q = false) (a : (({ cps := #[row.cps.getD ((0 : Int) + (i : Int)).toNat 0] } : Str) == Str.ofString ")") = true)
    (hD : od.IsDictOf (PySem.intKind PySem.Challenge.pw_no0226_01 w) kvs) (hF : PyProof.V.FlatPairs PyData.int kvs (kdfD (kdfPut e (p.getLastD 0) ((0 : Int) + (i : Int))))) (hL : IntsAre vl l) (hP : IntsAre vp.dropLast p.dropLast) (hC : IntsAre vc cm) :
    PJ w row (i + 1) od kvs (vl ++ [.int (vp.dropLast.length : Int) t]) vp.dropLast vc q := by
  rw [sg41, z0] at a
  rw [z1] at hF
  have e1 : pAt row (i + 1) = ⟨kdfPut e (p.getLastD 0) i, l ++ [(p.dropLast.length : Int)], p.dropLast, cm, q⟩ := by rw [pAt_succ, hst]; unfold pS; simp only [of_decide_eq_true a, b]; simp
  exact ⟨hD, by rw [e1]; exact hF, by rw [e1, hP.length]; exact hL.append (.cons _ _ .nil), by rw [e1]; exact hP, by rw [e1]; exact hC, by rw [e1]⟩
theorem pj5 {x : Int} (hx : x = (p.length : Int)) (hst : pAt row i = ⟨e, l, p, cm, q⟩) (b : q = false) (a1 : (({ cps := #[row.cps.getD ((0 : Int) + (i : Int)).toNat 0] } : Str) == Str.ofString "'") = false) (a2 : (({ cps := #[row.cps.getD ((0 : Int) + (i : Int)).toNat 0] } : Str) == Str.ofString "(") = false)
    (a3 : (({ cps := #[row.cps.getD ((0 : Int) + (i : Int)).toNat 0] } : Str) == Str.ofString ")") = false) (a4 : (({ cps := #[row.cps.getD ((0 : Int) + (i : Int)).toNat 0] } : Str) == Str.ofString ",") = true) (hp0 : decide (p = []) = true)
    (hD : od.IsDictOf (PySem.intKind PySem.Challenge.pw_no0226_01 w) kvs) (hF : PyProof.V.FlatPairs PyData.int kvs (kdfD e)) (hL : IntsAre vl l) (hP : IntsAre vp p) (hC : IntsAre vc cm) :
    PJ w row (i + 1) od kvs (vl ++ [.int x t]) vp (vc ++ [.int ((0 : Int) + (i : Int)) t2]) q := by
  rw [sg39, z0] at a1; rw [sg40, z0] at a2; rw [sg41, z0] at a3; rw [sg44, z0] at a4
  rw [z1]
  have hp := of_decide_eq_true hp0
  have e1 : pAt row (i + 1) = ⟨e, l ++ [(p.length : Int)], p, cm ++ [(i : Int)], q⟩ := by
    rw [pAt_succ, hst]; unfold pS; simp only [of_decide_eq_true a4, b, hp]; simp
  exact ⟨hD, by rw [e1]; exact hF, by rw [e1, hx]; exact hL.append (.cons _ _ .nil), by rw [e1]; exact hP, by rw [e1]; exact hC.append (.cons _ _ .nil), by rw [e1]⟩
theorem pj6 {x : Int} (hx : x = (p.length : Int)) (hst : pAt row i = ⟨e, l, p, cm, q⟩) (b : q = false) (a1 : (({ cps := #[row.cps.getD ((0 : Int) + (i : Int)).toNat 0] } : Str) == Str.ofString "'") = false) (a2 : (({ cps := #[row.cps.getD ((0 : Int) + (i : Int)).toNat 0] } : Str) == Str.ofString "(") = false)
    (a3 : (({ cps := #[row.cps.getD ((0 : Int) + (i : Int)).toNat 0] } : Str) == Str.ofString ")") = false) (hp : ¬ (row.cps.getD i 0 = 44 ∧ p = []))
    (hD : od.IsDictOf (PySem.intKind PySem.Challenge.pw_no0226_01 w) kvs) (hF : PyProof.V.FlatPairs PyData.int kvs (kdfD e)) (hL : IntsAre vl l) (hP : IntsAre vp p) (hC : IntsAre vc cm) :
    PJ w row (i + 1) od kvs (vl ++ [.int x t]) vp vc q := by
  rw [sg39, z0] at a1; rw [sg40, z0] at a2; rw [sg41, z0] at a3
  have e1 : pAt row (i + 1) = ⟨e, l ++ [(p.length : Int)], p, cm, q⟩ := by
    rw [pAt_succ, hst]; unfold pS
    dsimp only
    rw [if_neg (of_decide_eq_false a1), if_neg (by rw [b]; simp), if_neg (of_decide_eq_false a2), if_neg (of_decide_eq_false a3), if_neg hp]
  exact ⟨hD, by rw [e1]; exact hF, by rw [e1, hx]; exact hL.append (.cons _ _ .nil), by rw [e1]; exact hP, by rw [e1]; exact hC, by rw [e1]⟩
theorem pj6a {p : List Int} (a4 : (({ cps := #[row.cps.getD ((0 : Int) + (i : Int)).toNat 0] } : Str) == Str.ofString ",") = false) : ¬ (row.cps.getD i 0 = 44 ∧ p = []) := by
  rw [sg44, z0] at a4
  exact fun h => of_decide_eq_false a4 h.1
theorem pj6b {p : List Int} (h : decide (p = []) = false) : ¬ (row.cps.getD i 0 = 44 ∧ p = []) := fun x => of_decide_eq_false h x.2
end
set_option maxRecDepth 100000 in
set_option maxHeartbeats 4000000 in
theorem law_pile_c (w : World) {p : Program} {loose : List Str} {mean : ExcName → Option Value} {mg mb : Str → Option Value} (_h : PySem.Challenge.rw_no0226_01 = PySem.Challenge.rw_no0226_01)
    {A A₀ : Around} {base h₀ : Heap} {outer : List Env} {env : Env} {L : Addr} {m : Str → Option Value} {news : List (Addr × Obj)} {s : Shared} {Q E : Value → Shared → Prop}
    (B : Below A₀ base outer h₀) (F : Fr h₀ L s.heap m) (X : (Mine.hd.heap_39 w.params).In h₀) (N : News h₀ L s.heap news) (T : Top p loose mean mg mb h₀)
    (hA : A.frames = some (env :: outer)) (hf : env.frame = some L) (hke : env.scope.kind = .function) (hh : A.handled = none)
    {row : Str} {t : Tok} (hw : Wf row) (hrow : row.cps.size ≤ 64) (hd : A.depth + 1 < recursionLimit) (hu : A.units + 100 < cLine)
    (hret : ∀ (tp cm lv de : Addr) (vc vl : List Value) (kc kl : Nat) (od : Obj) (kvs : List (Int × Value)) h' tk', Fr h₀ L h' m →
      News h₀ L h' ((tp, { cls := .type "tuple", data := .seq [Value.ref de, Value.ref lv, Value.ref cm].toArray }) :: (cm, listOf vc.toArray kc) :: (lv, listOf vl.toArray kl) :: (de, od) :: news) →
      od.IsDictOf (PySem.intKind PySem.Challenge.pw_no0226_01 w) kvs → PyProof.V.FlatPairs PyData.int kvs (kdfD (pAt row row.cps.size).ends) → IntsAre vl (pAt row row.cps.size).levels → IntsAre vc (pAt row row.cps.size).commas →
      (∀ p ∈ news, p.1 < de) → de < lv → lv < cm → cm < tp → Q (.ref tp) { s with heap := h', toks := tk' }) :
    wpAny (model PySem.Challenge.pw_no0226_01 w) A (call (.ref 116) [.str row t]) Q E s := by
  revert X _h; k_fill; intro _h X
  clear _h
  refine' enter (binds := [(Str.ofString "row", .str row t)]) B F X N T hA hf hke ?k6 ?k7 ?k8 ?k9 ?kB ?_ ?c2 ?c3 ?c4 ?c5
  case k6 => k_is
  case k7 => k_is
  case k8 => omega
  case k9 => exact BindsTo.of_eq rfl
  case c5 => decide
  case kB => exact locs rfl
  case c2 => exact rfl
  case c3 => exact rfl
  case c4 => exact rfl
  intro g L' h₁ tk₁ F' N' B' X' T' lt'
  replace F' := fr_as F' (look1 _ _)
  (try k_fold)
  repeat' ((fail_if_success (with_reducible show wpAny _ _ (pyIter _) _ _ _)); first | (k_unfold; (try dsimp only)) | walk1 | (dsimp only; walk1))
  rename Fr _ _ _ _ => lF
  rename News _ _ _ _ => lN
  rename IsRange _ _ _ _ _ _ _ _ => lR
  rename_i de _ od hDe _ _ _ hDn hFn _ lv _ hx2 _ _ pi _ hx1 _ _ cm _ hx0 _ _ _ _ _ _ _ _ _ _ _
  refine' my_range (σ := Obj × List Value × Nat × List Value × Nat × List Value × Nat × Bool) row.cps.size
    (fun c => (cm, listOf c.2.2.2.2.2.1.toArray c.2.2.2.2.2.2.1) :: (pi, listOf c.2.2.2.1.toArray c.2.2.2.2.1) :: (lv, listOf c.2.1.toArray c.2.2.1) :: (de, c.1) :: news)
    (fun c => [(Str.ofString "row", .str row t), (Str.ofString "ends", .ref de), (Str.ofString "levels", .ref lv), (Str.ofString "pile", .ref pi), (Str.ofString "commas", .ref cm), (Str.ofString "quoted", .bool c.2.2.2.2.2.2.2)])
    (fun i c => ∃ kvs, PJ w row i c.1 kvs c.2.1 c.2.2.2.1 c.2.2.2.2.2.1 c.2.2.2.2.2.2.2) (od, [], 0, [], 0, [], 0, false) hh lR (by omega) (by omega) (by omega) (by omega) (by omega) lF ?kn ?kk ⟨_, hDn, hFn, .nil, .nil, .nil, rfl⟩ ?_ ?_
  case kn => exact lN
  case kk => kst_all
  · rintro i t' ⟨od, vl, kl, vp, kp, vc, kc, q⟩ u h tk2 own hi hoff ⟨kvs, hD, hF, hL, hP, hC, hq⟩ F1 N1
    dsimp only [kstB] at hD hF hL hP hC hq F1 N1 hoff ⊢
    clear lF lN
    have hlen := pAt_len row i
    have hdep := pile_depth hw i (Nat.le_of_lt hi)
    have hwi := hw i hi
    generalize hst : pAt row i = st at hF hL hP hC hq hlen hdep
    obtain ⟨e, l, p, cmm, q'⟩ := st
    dsimp only at hF hL hP hC hq hlen hdep
    subst hq
    obtain ⟨hl1, hl2, hl3, hl4⟩ := hlen
    have hP1 := hP.length
    have hL1 := hL.length
    have hC1 := hC.length
    have kM := kstMark
    have hpop : (({ cps := #[row.cps.getD ((0 : Int) + (i : Int)).toNat 0] } : Str) == Str.ofString ")") = true → q = false → 0 < vp.length := by
      intro a b
      rw [sg41, z0] at a
      rw [hdep] at hwi
      have := hwi (of_decide_eq_true a) b
      dsimp only at this
      omega
    clear hwi hdep
    have ho1 : @LT.lt Nat _ de lv := hx2.1
    have ho2 : @LT.lt Nat _ lv pi := hx1.1
    have ho3 : @LT.lt Nat _ pi cm := hx0.1
    replace hoff : OwnOff own (cm :: pi :: lv :: de :: news.map (·.1)) := hoff
    replace F1 : Fr g L' h _ := F1
    replace N1 : News g L' h ((cm, listOf vc.toArray kc) :: (pi, listOf vp.toArray kp) :: (lv, listOf vl.toArray kl) :: (de, od) :: (news ++ own)) := N1
    (try k_fold)
    walk_at "MINE go"
    all_goals (
      rename Fr _ _ _ _ => F9
      rename News _ _ _ _ => N9
      (try simp only [List.push_toArray] at N9)
      refine' js_end ⟨_, _, _, _, _, _, _, _⟩ F9 N9 ?hn ?ho rfl ?hk ?hj
      case hn => first | kst_in | kst_inAny
      case ho => intro p9 h9; simp only [List.mem_cons, List.mem_append]; simp [h9]
      case hk => kst_all
      case hj => dsimp only; with_reducible first
        | exact ⟨_, pj1 hst (by assumption) hD hF hL hP hC⟩
        | exact ⟨_, pj2 hst (by assumption) (by assumption) hD hF hL hP hC⟩
        | exact ⟨_, pj3 rfl hst (by assumption) (by assumption) (by assumption) (by assumption) hL hP hC⟩
        | exact ⟨_, pj4 hst (by assumption) (by assumption) (by assumption) (by assumption) hL (by assumption) hC⟩
        | exact ⟨_, pj5 rfl hst (by assumption) (by assumption) (by assumption) (by assumption) (by assumption) (by assumption) hD hF hL hP hC⟩
        | exact ⟨_, pj6 rfl hst (by assumption) (by assumption) (by assumption) (by assumption) (pj6a (by assumption)) hD hF hL hP hC⟩
        | exact ⟨_, pj6 rfl hst (by assumption) (by assumption) (by assumption) (by assumption) (pj6b (by assumption)) hD hF hL hP hC⟩)
  · rintro ⟨od, vl, kl, vp, kp, vc, kc, q⟩ u h tk2 ⟨kvs, hJ⟩ F1 N1
    dsimp only [kstB] at hJ F1 N1 ⊢
    clear lF lN
    have hct : @LT.lt Nat _ cm h.objs.size := Heap.lt_size (N1 _ (.head _)).1
    walk_at "MINE go"
    obtain ⟨hD, hF, hL, hP, hC, hq⟩ := hJ
    have ho1 : @LT.lt Nat _ de lv := hx2.1
    have ho2 : @LT.lt Nat _ lv pi := hx1.1
    have ho3 : @LT.lt Nat _ pi cm := hx0.1
    rename News _ _ _ _ => N9
    refine hret _ cm lv de vc vl kc kl od kvs _ _ (by assumption) ?_ hD hF hL hC hDe ho1 (Nat.lt_trans ho2 ho3) ?_
    · intro p9 h9
      rcases List.mem_cons.mp h9 with rfl | h9
      · exact N9 _ (.head _)
      rcases List.mem_cons.mp h9 with rfl | h9
      · exact N9 _ (.tail _ (.head _))
      rcases List.mem_cons.mp h9 with rfl | h9
      · exact N9 _ (.tail _ (.tail _ (.tail _ (.head _))))
      rcases List.mem_cons.mp h9 with rfl | h9
      · exact N9 _ (.tail _ (.tail _ (.tail _ (.tail _ (.head _)))))
      exact N9 _ (.tail _ (.tail _ (.tail _ (.tail _ (.tail _ h9)))))
    · exact hct
end
end Mine

/-! part L3 -/
namespace Mine
theorem back_L3 : True ∧ True := by
  w_top off
  first | (walk1; done) | exact ⟨trivial, trivial⟩
section
open PySem PySem.W PyProof.Rows PySem.Spec PySem.Calls
section
variable {row : Str}
theorem rj_wf {r : Str} {i : Nat} {d : Int} {q : Bool} (J : RJ r i d q) : Wf r ∧ r.cps.size = i := by
  obtain ⟨h1, h2, h3, h4⟩ := J
  exact ⟨fun j hj a b => h4 j (h1 ▸ hj) a b, h1⟩
theorem lev_is (hw : Wf row) : lev row = (pAt row row.cps.size).levels := by
  unfold lev
  rw [pile_depth hw _ (Nat.le_refl _)]
def xOf (c : Nat) (st : PSt) : Int := if c = 39 then -1 else if st.q = true then -1 else if c = 40 then (st.pile.length : Int) else if c = 41 then (st.pile.dropLast.length : Int) else (st.pile.length : Int)
theorem pS_levels (st : PSt) (i : Nat) : (pS row st i).levels = st.levels ++ [xOf (row.cps.getD i 0) st] := by
  unfold pS xOf
  dsimp only
  (repeat' split) <;> rfl
theorem lv_pref (i : Nat) : ∀ k, ((pAt row (i + k)).levels).take i = (pAt row i).levels := by
  intro k
  induction k with
  | zero => exact List.take_of_length_le (Nat.le_of_eq (pAt_len row i).2.1)
  | succ k ih =>
    rw [show i + (k + 1) = (i + k) + 1 from rfl, pAt_succ, pS_levels, List.take_append_of_le_length (by rw [(pAt_len row (i + k)).2.1]; omega), ih]
theorem lv_at (hw : Wf row) {i : Nat} (hi : i < row.cps.size) : (lev row).getD i 0 = xOf (row.cps.getD i 0) (pAt row i) := by
  rw [lev_is hw]
  have h1 := lv_pref (row := row) (i + 1) (row.cps.size - (i + 1))
  rw [show i + 1 + (row.cps.size - (i + 1)) = row.cps.size by omega] at h1
  have h2 : ((pAt row row.cps.size).levels.take (i + 1)).getD i 0 = (pAt row row.cps.size).levels.getD i 0 := by
    rw [List.getD_eq_getElem?_getD, List.getD_eq_getElem?_getD, List.getElem?_take]
    simp
  rw [← h2, h1, pAt_succ, pS_levels, List.getD_eq_getElem?_getD, List.getElem?_append_right (by rw [(pAt_len row i).2.1]; omega), (pAt_len row i).2.1]
  simp
theorem has_put (c : List (Int × Int)) (k v x : Int) : kdfHas (kdfPut c k v) x = (decide (k = x) || kdfHas c x) :=
  (kdyHas_put c k x v).trans (congrArg (· || kdfHas c x) (decide_eq_decide.mpr eq_comm))
theorem look_put (c : List (Int × Int)) (k v x : Int) : kdfLook (kdfPut c k v) x 0 = if k = x then v else kdfLook c x 0 := by
  unfold kdfLook kdfPut
  split
  · rename_i h
    rw [List.find?_map]
    by_cases e : k = x
    · subst e
      rw [if_pos rfl]
      have h2 : (c.find? ((fun p : Int × Int => decide (p.1 = k)) ∘ fun p => if decide (p.1 = k) = true then (p.1, v) else p)) = c.find? fun p => decide (p.1 = k) := by
        congr 1
        funext p
        show decide ((if decide (p.1 = k) = true then (p.1, v) else p).1 = k) = _
        split <;> rfl
      rw [h2]
      cases hf : c.find? fun p => decide (p.1 = k) with
      | none =>
        rw [List.find?_eq_none] at hf
        rw [List.any_eq_true] at h
        obtain ⟨p, hp, hq⟩ := h
        exact absurd hq (hf p hp)
      | some p =>
        have := List.find?_some hf
        simp only [Option.map_some, Option.getD_some]
        rw [if_pos this]
    · rw [if_neg e]
      have h2 : (c.find? ((fun p : Int × Int => decide (p.1 = x)) ∘ fun p => if decide (p.1 = k) = true then (p.1, v) else p)) = c.find? fun p => decide (p.1 = x) := by
        congr 1
        funext p
        show decide ((if decide (p.1 = k) = true then (p.1, v) else p).1 = x) = _
        split <;> rfl
      rw [h2]
      cases hf : c.find? fun p => decide (p.1 = x) with
      | none => rfl
      | some p =>
        have h3 := List.find?_some hf
        have h4 : p.1 = x := of_decide_eq_true h3
        simp only [Option.map_some, Option.getD_some]
        rw [if_neg (by simp; omega)]
  · rename_i h
    rw [List.find?_append]
    by_cases e : k = x
    · subst e
      rw [if_pos rfl]
      have : (c.find? fun p => decide (p.1 = k)) = none := by
        rw [List.find?_eq_none]
        intro p hp hq
        exact h (List.any_eq_true.mpr ⟨p, hp, hq⟩)
      rw [this]
      simp
    · rw [if_neg e]
      have : ([(k, v)].find? fun p => decide (p.1 = x)) = none := by simp [e]
      rw [this, Option.or_none]
theorem not_hit_c {a i : Nat} (h : row.cps.getD i 0 ≠ 41) : ¬ Hit row a i := fun x => h x.1
theorem not_hit_l {a i : Nat} (h : (lev row).getD i 0 ≠ (lev row).getD a 0) : ¬ Hit row a i := fun x => h x.2
theorem hits_succ {a i : Nat} (h : ∀ j, a < j → j < i → ¬ Hit row a j) (hi : ¬ Hit row a i) : ∀ j, a < j → j < i + 1 → ¬ Hit row a j := fun j h1 h2 => by
  by_cases e : j = i
  · rw [e]; exact hi
  · exact h j h1 (by omega)
/-- the open ones, and the pairs so far -/
structure EInv (row : Str) (i : Nat) (st : PSt) : Prop where
  op : ∀ k, k < st.pile.length → ∃ a : Nat, st.pile[k]? = some (a : Int) ∧ a < i ∧ (lev row).getD a 0 = (k : Int) ∧ kdfHas st.ends a = true ∧ kdfLook st.ends a 0 = -1 ∧ ∀ j, a < j → j < i → ¬ Hit row a j
  en : ∀ x, kdfHas st.ends x = true → ∃ a : Nat, x = (a : Int) ∧ a < i ∧ 0 ≤ (lev row).getD a 0 ∧ ((kdfLook st.ends x 0 = -1 ∧ (a : Int) ∈ st.pile) ∨ ∃ b : Nat, kdfLook st.ends x 0 = (b : Int) ∧ a < b ∧ b < i ∧ Hit row a b ∧ ∀ j, a < j → j < b → ¬ Hit row a j)
/-- a sign that closes nothing and opens nothing -/
theorem EInv.skip {i : Nat} {st st' : PSt} (I : EInv row i st) (hp : st'.pile = st.pile) (he : st'.ends = st.ends) (h : ∀ a, 0 ≤ (lev row).getD a 0 → ¬ Hit row a i) : EInv row (i + 1) st' := by
  refine ⟨fun k hk => ?_, fun x hx => ?_⟩
  · rw [hp] at hk ⊢
    rw [he]
    obtain ⟨a, h1, h2, h3, h4, h5, h6⟩ := I.op k hk
    exact ⟨a, h1, by omega, h3, h4, h5, hits_succ h6 (h a (by omega))⟩
  · rw [he] at hx ⊢
    rw [hp]
    obtain ⟨a, h1, h2, h3, h4⟩ := I.en x hx
    refine ⟨a, h1, by omega, h3, h4.imp id ?_⟩
    rintro ⟨b, g1, g2, g3, g4⟩
    exact ⟨b, g1, g2, by omega, g4⟩
theorem einv (hw : Wf row) : ∀ i, i ≤ row.cps.size → EInv row i (pAt row i) := by
  intro i
  induction i with
  | zero => exact fun _ => ⟨fun k hk => absurd hk (Nat.not_lt_zero _), fun x hx => by cases hx⟩
  | succ i ih =>
    intro hi
    have I := ih (by omega)
    have hlt : i < row.cps.size := by omega
    have hl := lv_at hw hlt
    have hpd := pile_depth hw i (by omega)
    have hwi := hw i hlt
    rw [pAt_succ]
    generalize hst : pAt row i = st at I hl hpd hwi ⊢
    obtain ⟨e, l, p, cm, q⟩ := st
    rw [hpd] at hwi
    dsimp only at hwi
    unfold pS
    dsimp only
    unfold xOf at hl
    dsimp only at hl
    by_cases c1 : row.cps.getD i 0 = 39
    · rw [if_pos c1]
      exact I.skip rfl rfl fun a _ => not_hit_c (by omega)
    rw [if_neg c1] at hl ⊢
    by_cases c2 : q = true
    · rw [if_pos c2] at hl ⊢
      exact I.skip rfl rfl fun a ha => not_hit_l (by omega)
    rw [if_neg c2] at hl ⊢
    have c2' : q = false := by simpa using c2
    by_cases c3 : row.cps.getD i 0 = 40
    · rw [if_pos c3] at hl ⊢
      refine ⟨fun k hk => ?_, fun x hx => ?_⟩
      · dsimp only at hk ⊢
        by_cases hk2 : k < p.length
        · obtain ⟨a, h1, h2, h3, h4, h5, h6⟩ := I.op k hk2
          dsimp only at h1 h4 h5
          refine ⟨a, ?_, by omega, h3, ?_, ?_, hits_succ h6 (not_hit_c (by omega))⟩
          · rw [List.getElem?_append_left hk2]; exact h1
          · rw [has_put, h4, Bool.or_true]
          · rw [look_put, if_neg (by omega)]; exact h5
        · have : k = p.length := by simp at hk; omega
          subst this
          refine ⟨i, ?_, by omega, hl, ?_, ?_, fun j h1 h2 => by omega⟩
          · rw [List.getElem?_append_right (Nat.le_refl _)]; simp
          · rw [has_put]; simp
          · rw [look_put, if_pos rfl]
      · dsimp only at hx ⊢
        rw [has_put] at hx
        rw [look_put]
        by_cases ex : (i : Int) = x
        · subst ex
          exact ⟨i, rfl, by omega, by rw [hl]; omega, .inl ⟨if_pos rfl, by simp⟩⟩
        · rw [decide_eq_false ex, Bool.false_or] at hx
          rw [if_neg ex]
          obtain ⟨a, h1, h2, h3, h4⟩ := I.en x hx
          refine ⟨a, h1, by omega, h3, h4.imp (fun z => ⟨z.1, List.mem_append_left _ z.2⟩) ?_⟩
          rintro ⟨b, g1, g2, g3, g4⟩
          exact ⟨b, g1, g2, by omega, g4⟩
    rw [if_neg c3] at hl ⊢
    by_cases c4 : row.cps.getD i 0 = 41
    · rw [if_pos c4] at hl ⊢
      have hpos : 0 < p.length := by have := hwi c4 c2'; omega
      obtain ⟨a₀, h1, h2, h3, h4, h5, h6⟩ := I.op (p.length - 1) (by dsimp only; omega)
      dsimp only at h1 h4 h5
      have hlast : p.getLastD 0 = (a₀ : Int) := by
        rw [List.getLastD_eq_getLast?, List.getLast?_eq_getElem?, h1]; rfl
      rw [hlast]
      have hlen : (p.dropLast.length : Int) = ((p.length - 1 : Nat) : Int) := by rw [List.length_dropLast]
      rw [hlen] at hl
      have hhit : Hit row a₀ i := ⟨c4, by rw [hl, h3]⟩
      refine ⟨fun k hk => ?_, fun x hx => ?_⟩
      · dsimp only at hk ⊢
        rw [List.length_dropLast] at hk
        obtain ⟨a, g1, g2, g3, g4, g5, g6⟩ := I.op k (by dsimp only; omega)
        dsimp only at g1 g4 g5
        have hne : a₀ ≠ a := fun z => by rw [z, g3] at h3; omega
        refine ⟨a, ?_, by omega, g3, ?_, ?_, hits_succ g6 (not_hit_l (by rw [hl, g3]; omega))⟩
        · rw [List.getElem?_dropLast, if_pos (by omega)]; exact g1
        · rw [has_put, g4, Bool.or_true]
        · rw [look_put, if_neg (by omega)]; exact g5
      · dsimp only at hx ⊢
        rw [has_put] at hx
        rw [look_put]
        by_cases ex : (a₀ : Int) = x
        · subst ex
          exact ⟨a₀, rfl, by omega, by rw [h3]; omega, .inr ⟨i, if_pos rfl, h2, by omega, hhit, h6⟩⟩
        · rw [decide_eq_false ex, Bool.false_or] at hx
          rw [if_neg ex]
          obtain ⟨a, f1, f2, f3, f4⟩ := I.en x hx
          refine ⟨a, f1, by omega, f3, ?_⟩
          rcases f4 with ⟨f4, f5⟩ | ⟨b, g1, g2, g3, g4⟩
          · refine .inl ⟨f4, ?_⟩
            dsimp only at f5
            obtain ⟨k, hk⟩ := List.getElem?_of_mem f5
            have hkl : k < p.length := (List.getElem?_eq_some_iff.mp hk).1
            have hkn : k ≠ p.length - 1 := fun z => by
              rw [z, h1] at hk
              have := Option.some.inj hk
              omega
            refine List.mem_of_getElem? (i := k) ?_
            rw [List.getElem?_dropLast, if_pos (by omega)]; exact hk
          · exact .inr ⟨b, g1, g2, by omega, g4⟩
    · rw [if_neg c4]
      exact I.skip rfl rfl fun a _ => not_hit_c c4
/-- what closing says of an open bracket is what the pile says -/
theorem close_law (hw : Wf row) {x : Int} (hx : kdfHas (pAt row row.cps.size).ends x = true) : ∃ a : Nat, x = (a : Int) ∧ a < row.cps.size ∧
    ∀ r : Int, (r = -1 ∧ (∀ j, a < j → j < row.cps.size → ¬ Hit row a j)) ∨ (∃ e : Nat, r = (e : Int) ∧ a < e ∧ e < row.cps.size ∧ Hit row a e ∧ ∀ j, a < j → j < e → ¬ Hit row a j) → r = kdfLook (pAt row row.cps.size).ends x 0 := by
  have I := einv hw _ (Nat.le_refl _)
  obtain ⟨a, h1, h2, h3, h4⟩ := I.en x hx
  refine ⟨a, h1, h2, fun r hr => ?_⟩
  rcases h4 with ⟨h4, h5⟩ | ⟨b, g1, g2, g3, g4, g5⟩
  · rw [h4]
    obtain ⟨k, hk⟩ := List.getElem?_of_mem h5
    obtain ⟨a', f1, f2, f3, f4, f5, f6⟩ := I.op k (List.getElem?_eq_some_iff.mp hk).1
    rw [hk] at f1
    have f1 := Option.some.inj f1
    have : a = a' := by omega
    subst this
    rcases hr with ⟨hr, _⟩ | ⟨e, _, k2, k3, k4, _⟩
    · exact hr
    · exact absurd k4 (f6 e k2 k3)
  · rw [g1]
    rcases hr with ⟨_, hr⟩ | ⟨e, k1, k2, k3, k4, k5⟩
    · exact absurd g4 (hr b g2 g3)
    · rw [k1]
      have : ¬ e < b := fun z => g5 e k2 z k4
      have : ¬ b < e := fun z => k5 b g2 z g4
      omega
end
end
end Mine

/-! part L4 -/
namespace Mine
theorem back_L4 : True ∧ True := by
  w_top off
  first | (walk1; done) | exact ⟨trivial, trivial⟩
section
open PySem PySem.W PyProof.Rows PySem.Spec PySem.Calls
def cN (row : Str) (i : Nat) : List Nat := (List.range i).filter fun j => decide (HitO row j)
def beg (cs : List Nat) (k : Nat) : Nat := if k = 0 then 0 else cs.getD (k - 1) 0 + 1
section
variable {row : Str}
theorem cN_succ (i : Nat) : cN row (i + 1) = if HitO row i then cN row i ++ [i] else cN row i := by
  unfold cN
  rw [List.range_succ, List.filter_append]
  by_cases h : HitO row i
  · rw [if_pos h, List.filter_cons_of_pos (by exact decide_eq_true h)]; rfl
  · rw [if_neg h, List.filter_cons_of_neg (by rw [decide_eq_false h]; exact Bool.false_ne_true)]; exact List.append_nil _
theorem cN_lt {i j : Nat} (h : j ∈ cN row i) : j < i ∧ HitO row j := by
  unfold cN at h
  rw [List.mem_filter, List.mem_range] at h
  exact ⟨h.1, of_decide_eq_true h.2⟩
theorem commas_is (hw : Wf row) : ∀ i, i ≤ row.cps.size → (pAt row i).commas = (cN row i).map fun j : Nat => (j : Int) := by
  intro i
  induction i with
  | zero => intro _; rfl
  | succ i ih =>
    intro hi
    have ih := ih (by omega)
    have hl := lv_at hw (show i < row.cps.size by omega)
    rw [pAt_succ, cN_succ]
    generalize pAt row i = st at ih hl ⊢
    obtain ⟨e, l, p, cm, q⟩ := st
    dsimp only at ih
    unfold xOf at hl
    dsimp only at hl
    unfold pS
    dsimp only
    have hno : ¬ (row.cps.getD i 0 = 44 ∧ (lev row).getD i 0 = 0) → cm = (if HitO row i then cN row i ++ [i] else cN row i).map fun j : Nat => (j : Int) := fun h => by
      rw [if_neg h, ih]
    by_cases c1 : row.cps.getD i 0 = 39
    · rw [if_pos c1]
      exact hno fun h => by omega
    rw [if_neg c1] at hl ⊢
    by_cases c2 : q = true
    · rw [if_pos c2] at hl ⊢
      exact hno fun h => by omega
    rw [if_neg c2] at hl ⊢
    by_cases c3 : row.cps.getD i 0 = 40
    · rw [if_pos c3]
      exact hno fun h => by omega
    rw [if_neg c3] at hl ⊢
    by_cases c4 : row.cps.getD i 0 = 41
    · rw [if_pos c4]
      exact hno fun h => by omega
    rw [if_neg c4] at hl ⊢
    dsimp only
    by_cases c5 : row.cps.getD i 0 = 44 ∧ p = []
    · obtain ⟨c5, rfl⟩ := c5
      rw [if_pos ⟨c5, rfl⟩, if_pos ⟨c5, hl⟩, ih, List.map_append]
      rfl
    · rw [if_neg c5]
      refine hno fun h => c5 ⟨h.1, ?_⟩
      have h2 := h.2
      rw [hl] at h2
      exact List.length_eq_zero_iff.mp (by omega)
theorem beg_app {cs : List Nat} {i k : Nat} (h : k ≤ cs.length) : beg (cs ++ [i]) k = beg cs k := by
  unfold beg
  split
  · rfl
  · rw [List.getD_eq_getElem?_getD, List.getD_eq_getElem?_getD, List.getElem?_append_left (by omega)]
structure SpI (row : Str) (i : Nat) : Prop where
  len : (spAt row i).1.length = (cN row i).length
  cur : (spAt row i).2 = beg (cN row i) (cN row i).length
  le : (spAt row i).2 ≤ i
  part : ∀ k, k < (cN row i).length → (spAt row i).1[k]? = some (sub row (beg (cN row i) k) ((cN row i).getD k 0)) ∧ beg (cN row i) k ≤ (cN row i).getD k 0 ∧ (cN row i).getD k 0 < i
theorem spI : ∀ i, SpI row i := by
  intro i
  induction i with
  | zero => exact ⟨rfl, rfl, Nat.le_refl _, fun k hk => absurd hk (Nat.not_lt_zero _)⟩
  | succ i ih =>
    obtain ⟨h1, h2, h3, h4⟩ := ih
    have e1 := spAt_succ row i
    have e2 := cN_succ (row := row) i
    unfold spS at e1
    by_cases hh : HitO row i
    · rw [if_pos hh] at e1 e2
      have hb : beg (cN row i ++ [i]) ((cN row i).length + 1) = i + 1 := by
        unfold beg
        rw [if_neg (by omega), List.getD_eq_getElem?_getD, List.getElem?_append_right (by omega)]
        simp
      refine ⟨?_, ?_, ?_, fun k hk => ?_⟩
      · rw [e1, e2]; simp [h1]
      · rw [e1, e2, List.length_append, List.length_singleton, hb]
      · rw [e1]; exact Nat.le_refl _
      · rw [e2] at hk ⊢
        rw [e1]
        rw [List.length_append, List.length_singleton] at hk
        dsimp only
        by_cases hk2 : k < (cN row i).length
        · obtain ⟨g1, g2, g3⟩ := h4 k hk2
          have eg : (cN row i ++ [i]).getD k 0 = (cN row i).getD k 0 := by
            rw [List.getD_eq_getElem?_getD, List.getD_eq_getElem?_getD, List.getElem?_append_left hk2]
          rw [beg_app (by omega), eg, List.getElem?_append_left (by omega)]
          exact ⟨g1, g2, by omega⟩
        · have : k = (cN row i).length := by omega
          subst this
          have eg : (cN row i ++ [i]).getD (cN row i).length 0 = i := by
            rw [List.getD_eq_getElem?_getD, List.getElem?_append_right (Nat.le_refl _)]; simp
          rw [beg_app (Nat.le_refl _), eg, ← h2, ← h1, List.getElem?_append_right (Nat.le_refl _)]
          exact ⟨by simp, h3, by omega⟩
    · rw [if_neg hh] at e1 e2
      refine ⟨by rw [e1, e2]; exact h1, by rw [e1, e2]; exact h2, by rw [e1]; omega, fun k hk => ?_⟩
      rw [e2] at hk ⊢
      rw [e1]
      obtain ⟨g1, g2, g3⟩ := h4 k hk
      exact ⟨g1, g2, by omega⟩
theorem sub_len {b e : Nat} (h1 : b ≤ e) (h2 : e ≤ row.cps.size) : (sub row b e).cps.size = e - b := by
  unfold sub
  simp
  omega
theorem parts_len : (partsOf row).length = (cN row row.cps.size).length + 1 := by
  unfold partsOf
  rw [List.length_append, (spI row.cps.size).len]
  rfl
theorem parts_at {k : Nat} (h : k < (cN row row.cps.size).length) : (partsOf row)[k]? = some (sub row (beg (cN row row.cps.size) k) ((cN row row.cps.size).getD k 0)) := by
  have S := spI (row := row) row.cps.size
  unfold partsOf
  rw [List.getElem?_append_left (by rw [S.len]; exact h)]
  exact (S.part k h).1
/-- the place behind a part is the comma's -/
theorem place_law {k : Nat} (h : k < (cN row row.cps.size).length) : ((partsOf row).getD k PySem.Str.empty).cps.size + beg (cN row row.cps.size) k = (cN row row.cps.size).getD k 0 := by
  have S := (spI (row := row) row.cps.size).part k h
  rw [List.getD_eq_getElem?_getD, parts_at h, Option.getD_some, sub_len S.2.1 (by omega)]
  omega
theorem beg_succ {cs : List Nat} (k : Nat) : beg cs (k + 1) = cs.getD k 0 + 1 := by
  unfold beg
  rw [if_neg (by omega)]
  rfl
theorem sub_codes (b e : Nat) : (sub row b e).cps.toList = (row.cps.toList.drop b).take (e - b) := by
  unfold sub; rfl
theorem flat_take : ∀ i, i ≤ row.cps.size → ((spAt row i).1.flatMap fun p : Str => p.cps.toList ++ [44]) = row.cps.toList.take (spAt row i).2 := by
  intro i
  induction i with
  | zero => intro _; rfl
  | succ i ih =>
    intro hi
    have ih := ih (by omega)
    have hb := (spI (row := row) i).le
    rw [spAt_succ]
    unfold spS
    by_cases hh : HitO row i
    · rw [if_pos hh]
      dsimp only
      rw [List.flatMap_append, ih]
      simp only [List.flatMap_cons, List.flatMap_nil, List.append_nil]
      rw [sub_codes]
      have hc : row.cps.toList[i]? = some 44 := by
        have h1 := hh.1
        rw [Array.getD_eq_getD_getElem?] at h1
        have h2 : row.cps[i]? = some (row.cps[i]'(by omega)) := by simp
        rw [h2] at h1
        rw [Array.getElem?_toList, h2]
        exact congrArg some h1
      rw [List.take_add_one, hc]
      have e : row.cps.toList.take i = row.cps.toList.take (spAt row i).2 ++ (row.cps.toList.drop (spAt row i).2).take (i - (spAt row i).2) := by
        rw [← List.take_add]
        congr 1
        omega
      rw [e, List.append_assoc]
      rfl
    · rw [if_neg hh]
      exact ih
theorem join_codes (sep : Str) (x : Str) : ∀ ps : List Str, (PySem.Str.join sep (ps ++ [x])).cps.toList = (ps.flatMap fun p : Str => p.cps.toList ++ sep.cps.toList) ++ x.cps.toList
  | [] => rfl
  | p :: ps => by
    have ih := join_codes sep x ps
    cases ps with
    | nil =>
      show (p ++ sep ++ PySem.Str.join sep [x]).cps.toList = _
      rw [Str.cps_append, Str.cps_append, Array.toList_append, Array.toList_append]
      simp [PySem.Str.join]
    | cons p2 ps =>
      show (p ++ sep ++ PySem.Str.join sep ((p2 :: ps) ++ [x])).cps.toList = _
      rw [Str.cps_append, Str.cps_append, Array.toList_append, Array.toList_append, ih]
      simp
/-- the parts, glued, are the row -/
theorem join_law : PySem.Txt.join (Str.ofString ",") (partsOf row) = row := by
  unfold PySem.Txt.join
  rw [StrLaws.glued_eq_join]
  have hx : (Str.ofString ",").cps.toList = [44] := by decide +kernel
  have h : (PySem.Str.join (Str.ofString ",") (partsOf row)).cps.toList = row.cps.toList := by
    unfold partsOf
    rw [join_codes, hx, flat_take _ (Nat.le_refl _), sub_codes]
    have hb := (spI (row := row) row.cps.size).le
    have e : (row.cps.toList.drop (spAt row row.cps.size).2).take (row.cps.size - (spAt row row.cps.size).2) = row.cps.toList.drop (spAt row row.cps.size).2 := by
      apply List.take_of_length_le
      simp
    rw [e, List.take_append_drop]
  generalize PySem.Str.join (Str.ofString ",") (partsOf row) = y at h
  obtain ⟨⟨y⟩⟩ := y
  obtain ⟨⟨z⟩⟩ := row
  simp at h
  rw [h]
theorem flat_len : ∀ ps : List Str, (ps.flatMap fun p : Str => p.cps.toList ++ [44]).length = (ps.map (·.length)).sum + ps.length
  | [] => rfl
  | p :: ps => by
    rw [List.flatMap_cons, List.length_append, flat_len ps, List.length_append, List.length_singleton, List.map_cons, List.sum_cons, List.length_cons]
    show p.cps.toList.length + 1 + _ = p.cps.size + _ + _
    rw [Array.length_toList]
    omega
theorem parts_sum : ((partsOf row).map (·.length)).sum ≤ row.cps.size := by
  have hb := (spI (row := row) row.cps.size).le
  have h1 := congrArg List.length (flat_take (row := row) _ (Nat.le_refl _))
  rw [flat_len, List.length_take, Array.length_toList] at h1
  unfold partsOf
  rw [List.map_append, List.sum_append]
  have h2 : (sub row (spAt row row.cps.size).2 row.cps.size).length = row.cps.size - (spAt row row.cps.size).2 := sub_len hb (Nat.le_refl _)
  simp only [List.map_cons, List.map_nil, List.sum_cons, List.sum_nil]
  rw [h2]
  omega
/-- find_open finds the first comma from a place on -/
theorem find_law {st : Nat} {r : Int} (hr : (r = -1 ∧ (∀ j, st ≤ j → j < row.cps.size → ¬ HitO row j)) ∨ (∃ e : Nat, r = (e : Int) ∧ st ≤ e ∧ e < row.cps.size ∧ HitO row e ∧ ∀ j, st ≤ j → j < e → ¬ HitO row j)) :
    ((((cN row row.cps.size).map fun j : Nat => (j : Int)).filter fun a => decide ((st : Int) ≤ a)) ++ [-1])[0]? = some r := by
  have e1 : (((cN row row.cps.size).map fun j : Nat => (j : Int)).filter fun a => decide ((st : Int) ≤ a)) = ((cN row row.cps.size).filter fun j => decide (st ≤ j)).map fun j : Nat => (j : Int) := by
    rw [List.filter_map]
    congr 1
    refine List.filter_congr fun j _ => ?_
    show decide ((st : Int) ≤ (j : Int)) = decide (st ≤ j)
    rw [decide_eq_decide]; omega
  rw [e1]
  have e2 : (cN row row.cps.size).filter (fun j => decide (st ≤ j)) = (List.range row.cps.size).filter fun j => decide (HitO row j) && decide (st ≤ j) := by
    unfold cN
    rw [List.filter_filter]
    refine List.filter_congr fun j _ => Bool.and_comm _ _
  rw [e2]
  rcases hr with ⟨rfl, hn⟩ | ⟨e, rfl, h1, h2, h3, h4⟩
  · have : (List.range row.cps.size).filter (fun j => decide (HitO row j) && decide (st ≤ j)) = [] := by
      rw [List.filter_eq_nil_iff]
      intro j hj hc
      rw [Bool.and_eq_true, decide_eq_true_eq, decide_eq_true_eq] at hc
      exact hn j hc.2 (List.mem_range.mp hj) hc.1
    rw [this]
    rfl
  · have hf : ((List.range row.cps.size).filter (fun j => decide (HitO row j) && decide (st ≤ j))).head? = some e := by
      rw [List.head?_filter, List.find?_range_eq_some]
      refine ⟨by rw [decide_eq_true h3, decide_eq_true h1]; rfl, List.mem_range.mpr h2, fun j hj => ?_⟩
      by_cases hs : st ≤ j
      · have := h4 j hs hj
        rw [decide_eq_false this]; rfl
      · rw [decide_eq_false hs, Bool.and_false]; rfl
    generalize (List.range row.cps.size).filter (fun j => decide (HitO row j) && decide (st ≤ j)) = xs at hf
    cases xs with
    | nil => cases hf
    | cons x xs =>
      have := Option.some.inj hf
      subst this
      rfl
end
end
end Mine

/-! part E1 -/
namespace Mine
theorem back_E1 : True ∧ True := by
  w_top off
  first | (walk1; done) | exact ⟨trivial, trivial⟩
section
open PySem PySem.W PyProof.Rows PySem.Spec PySem.Calls
set_option maxRecDepth 100000
abbrev tupO (vs : List Value) : Obj := { cls := .type "tuple", data := .seq vs.toArray }
abbrev excO (C t : Addr) (od : Option Addr) : Obj := { cls := .ref C, dict := od, data := .fields #[.ref t, .none, .none, .none, .bool false, .none] }
/-- the text's own heap answers the machine's question -/
theorem told {w : World} {α : Type} {t : Sem α} {r : α} {h : Heap} (X : (Mine.hd.heap_39 w.params).In h) (e : peek (Mine.hd.heap_39 w.params) ⟨PySem.Challenge.pw_no0226_01, w.params⟩ t = some r) :
    Looks (model PySem.Challenge.pw_no0226_01 w) h t r := Looks.of_peek X e
theorem cf_obj (w : World) : ∃ oC, List.lookup 72 (Mine.hd.heap_39 w.params) = some oC ∧ (∃ cd, oC.data = .cls cd ∧ cd.hasDel = false) := ⟨_, rfl, _, rfl, rfl⟩
section
variable {w : World} {A : Around} {E : Value → Shared → Prop} {h : Heap} {g : Array GenState} {d : Drawn} {t : Nat} {os : OsState} {v : Value}
/-- Exception.__new__(CheckFault, v) -/
theorem cf_new {R : Result → Shared → Prop} (X : (Mine.hd.heap_39 w.params).In h)
    (hq : R (.ok (.ret (.ref (h.objs.size + 1)))) ⟨(h.push (tupO [v])).push (excO 72 h.objs.size none), g, d, t, os⟩) :
    codeAny (model PySem.Challenge.pw_no0226_01 w) A (.call (.builtin "Exception.__new__") ⟨[.ref 72, v], []⟩) R ⟨h, g, d, t, os⟩ := by
  have sub : ∀ B b, peek (Mine.hd.heap_39 w.params) ⟨PySem.Challenge.pw_no0226_01, w.params⟩ (isSubtype (.ref 72) B) = some b → Looks (model PySem.Challenge.pw_no0226_01 w) h (isSubtype (.ref 72) B) b := fun _ _ e => told X e
  have s1 := sub (.type "Exception") true rfl
  have s2 := sub (.type "AttributeError") false rfl
  have s3 := sub (.type "NameError") false rfl
  have mh : Looks (model PySem.Challenge.pw_no0226_01 w) h (Bind.madeHere "BaseException.__new__" (.ref 72)) () := told X rfl
  obtain ⟨oC, hl, cd, hcd, hdel⟩ := cf_obj w
  have hC := X _ _ hl
  obtain ⟨oc, od, dt, sl⟩ := oC
  obtain rfl : dt = .cls cd := hcd
  refine codeAny_call_builtin_code (Code.quiet_builtin _ (by decide +kernel)) ((told (r := ()) X (by kernel_rfl)).at (codeAny_builtinAt PySem.F.excBase_Exception.entry (PySem.wpAt_bind ?_)))
  show PySem.wpAt _ _ _ (stack >>= _) _ _ _
  refine PySem.wpAt_bind (PySem.wpAt_stack fun _ _ => PySem.wpAt_of_wpAny ?_)
  show wpAny _ _ (ite _ (pure _) _) _ _ _
  rw [if_pos PySem.F.excBase_Exception.ends, PySem.F.excBase_Exception.owner]
  refine wpAny_pure (PySem.wpAt_of_wpAny ?_)
  dsimp only
  repeat lk
  refine nd_load (Heap.get?_push_of_some _ (Heap.get?_push_of_some _ hC)) (wpAny_pure (wpAny_pure ?_))
  show wpAny _ _ (if cd.hasDel = true then _ else _) _ _ _
  rw [hdel]
  refine wpAny_pure (wpAny_pure ?_)
  show R _ _
  rw [Heap.size_push]
  exact hq
/-- CheckFault(v): the object is made, then its __init__ is called -/
theorem cf_make {Q : Value → Shared → Prop} (X : (Mine.hd.heap_39 w.params).In h)
    (hq : wpAny (model PySem.Challenge.pw_no0226_01 w) (A.under (.builtin "type.__call__" ⟨[.ref 72, v], []⟩)) (call (.ref 56) [.ref (h.objs.size + 1), v]) (fun r s' => r = .none ∧ Q (.ref (h.objs.size + 1)) s') E
      ⟨(h.push (tupO [v])).push (excO 72 h.objs.size none), g, d, t, os⟩) :
    wpAny (model PySem.Challenge.pw_no0226_01 w) A (call (.ref 72) [v]) Q E ⟨h, g, d, t, os⟩ := by
  refine wpAny_call (codeAny_of_tree ?_)
  show wpAny _ _ (callAny (.ref 72) ⟨[v], []⟩) _ _ _
  refine (told (r := Fin.again (.call (.builtin "type.__call__") ⟨[.ref 72, v], []⟩)) X rfl).at ⟨rfl, ?_⟩
  refine codeAny_call_builtin_at (Code.quiet_builtin _ (by decide +kernel)) entry_typeCall ((told (r := ()) X (by kernel_rfl)).at ?_)
  have made : Looks (model PySem.Challenge.pw_no0226_01 w) h (Bind.madeBy (.ref 72)) (some "Exception.__new__") := told X rfl
  have line : Looks (model PySem.Challenge.pw_no0226_01 w) h (mroOf (.ref 72)) [.ref 72, .ref 59, .type "Exception", .type "BaseException", .type "object"] := told X rfl
  unfold Builtin.«type.__call__»
  repeat (first | with_reducible refine wpAny_call ?_ | lk)
  refine cf_new X ?_
  have k : ∀ b o, h.get? b = some o → ((h.push (tupO [v])).push (excO 72 h.objs.size none)).get? b = some o := fun _ _ e => Heap.get?_push_of_some _ (Heap.get?_push_of_some _ e)
  have X2 := X.keeps k
  have ex : ((h.push (tupO [v])).push (excO 72 h.objs.size none)).get? (h.objs.size + 1) = some (excO 72 h.objs.size none) := by heap_get
  have isC : Looks (model PySem.Challenge.pw_no0226_01 w) ((h.push (tupO [v])).push (excO 72 h.objs.size none)) (isInstance (.ref (h.objs.size + 1)) (.ref 72)) true := ((Looks.ld ex).andThen .now).andThen (told X2 rfl)
  have init : Looks (model PySem.Challenge.pw_no0226_01 w) ((h.push (tupO [v])).push (excO 72 h.objs.size none)) (specialOf (.ref (h.objs.size + 1)) "__init__") (some (.ref 56)) := ((Looks.ld ex).andThen .now).andThen (told X2 rfl)
  have bnd : Looks (model PySem.Challenge.pw_no0226_01 w) ((h.push (tupO [v])).push (excO 72 h.objs.size none)) (bindSpecial (.ref 56) (.ref (h.objs.size + 1))) (.ref 56, [.ref (h.objs.size + 1)]) := told X2 rfl
  unfold callSpecial?
  repeat ((fail_if_success (with_reducible show wpAny _ _ (call _ _ _) _ _ _)); lk)
  refine wpAny_mono hq (fun r s' z => ?_) fun _ _ z => z
  obtain ⟨rfl, z⟩ := z
  exact wpAny_pure (wpAny_pure z)
end
end
end Mine

/-! part E2 -/
namespace Mine
theorem back_E2 : True ∧ True := by
  w_top off
  first | (walk1; done) | exact ⟨trivial, trivial⟩
section
open PySem PySem.W PyProof.Rows PySem.Spec PySem.Calls
set_option maxRecDepth 100000
section
variable {h₀ h h' : Heap} {L e : Addr} {m : Str → Option Value} {news : List (Addr × Obj)} {o o' : Obj}
/-- one object of the ledger has turned, all others stand -/
theorem turned (F : Fr h₀ L h m) (N : News h₀ L h ((e, o) :: news)) (hne : ∀ p ∈ news, p.1 ≠ e) (k : ∀ b ob, b ≠ e → h.get? b = some ob → h'.get? b = some ob) (he : h'.get? e = some o') :
    Fr h₀ L h' m ∧ News h₀ L h' ((e, o') :: news) := by
  obtain ⟨_, n1, n2⟩ := N _ (.head _)
  refine ⟨⟨F.ns.at' fun ob q => k L ob (Ne.symm n1) q, fun b ob q => k b ob (fun z => ?_) (F.keep b ob q), F.above⟩, fun p hp => ?_⟩
  · rw [z, n2] at q; cases q
  · cases hp with
    | head => exact ⟨he, n1, n2⟩
    | tail _ hp => exact ⟨k _ _ (hne p hp) (N p (.tail _ hp)).1, (N p (.tail _ hp)).2⟩
end
section
variable {w : World} {A : Around} {E : Value → Shared → Prop} {s : Shared} {h₀ : Heap} {L e t0 : Addr} {m : Str → Option Value} {news : List (Addr × Obj)} {v : Value}
theorem cf_isa {od : Option Addr} {B : Value} {b : Bool} {h : Heap} (X : (Mine.hd.heap_39 w.params).In h) (he : h.get? e = some (excO 72 t0 od)) (q : peek (Mine.hd.heap_39 w.params) ⟨PySem.Challenge.pw_no0226_01, w.params⟩ (isSubtype (.ref 72) B) = some b) :
    Looks (model PySem.Challenge.pw_no0226_01 w) h (isInstance (.ref e) B) b := ((Looks.ld he).andThen .now).andThen (told X q)
theorem cf_ask_init {od : Option Addr} {h : Heap} (X : (Mine.hd.heap_39 w.params).In h) (he : h.get? e = some (excO 72 t0 od)) :
    Looks (model PySem.Challenge.pw_no0226_01 w) h (checkBuiltinCall "Exception.__init__" ⟨[.ref e, v], []⟩) () := by
  intro A Q E s k q
  obtain ⟨hp, g, d, tk, os⟩ := s
  have FB := PySem.F.excBase_Exception
  have isa := cf_isa (w := w) (X.keeps k) (k _ _ he) (B := .type "Exception") (b := true) rfl
  have he2 := k _ _ he
  have name : Looks (model PySem.Challenge.pw_no0226_01 w) hp (typeNameWhole (.ref 72)) "CheckFault" := told (X.keeps k) (by kernel_rfl)
  simp only [checkBuiltinCall, FB.initKind, FB.initSplit, FB.initRow]
  repeat lk
  exact q
/-- Exception.__init__(self, v): a new tuple stands in the first place -/
theorem cf_init {od : Option Addr} {Q : Value → Shared → Prop} (X : (Mine.hd.heap_39 w.params).In h₀) (F : Fr h₀ L s.heap m) (N : News h₀ L s.heap ((e, excO 72 t0 od) :: news)) (hne : ∀ p ∈ news, p.1 ≠ e)
    (done : ∀ h' t1, Fr h₀ L h' m → News h₀ L h' ((e, excO 72 t1 od) :: news) → Q .none { s with heap := h' }) :
    wpAny (model PySem.Challenge.pw_no0226_01 w) A (call (.builtin "Exception.__init__") [.ref e, v]) Q E s := by
  obtain ⟨hp, g, d, tk, os⟩ := s
  have he := (N _ (.head _)).1
  have FB := PySem.F.excBase_Exception
  have he2 := Heap.get?_push_of_some (tupO [v]) he
  have fin := turned (h' := (hp.push (tupO [v])).update e (Obj.mapFields (·.setIfInBounds 0 (.ref hp.objs.size)))) (o' := excO 72 hp.objs.size od) F N hne
    (fun b ob hb q => (Heap.get?_update_other _ _ (Ne.symm hb)).trans (Heap.get?_push_of_some _ q)) (Heap.get?_update_self _ he2 rfl)
  refine wpAny_call (codeAny_call_builtin FB.init.plain FB.initEntry ((cf_ask_init (X.keeps F.keep) he).at ?_))
  unfold Builtin.«BaseException.__init__»
  repeat lk
  refine wpAny_update' he2 ?_
  show wpAny _ _ (letGo _) _ _ _
  exact wpAny_letGo (wpAny_pure (done _ _ fin.1 fin.2))
/-- self.name = v upon the fault that has no dict yet -/
theorem cf_set {Q : Unit → Shared → Prop} (X : (Mine.hd.heap_39 w.params).In h₀) (F : Fr h₀ L s.heap m) (N : News h₀ L s.heap ((e, excO 72 t0 none) :: news)) (hne : ∀ p ∈ news, p.1 ≠ e)
    (done : ∀ h' dx tk, Fr h₀ L h' m → News h₀ L h' ((e, excO 72 t0 (some dx)) :: news) → Q () { s with heap := h', toks := tk }) :
    wpAny (model PySem.Challenge.pw_no0226_01 w) A (setAttr (.ref e) "text" v) Q E s := by
  obtain ⟨hp, g, d, tk, os⟩ := s
  have he := (N _ (.head _)).1
  have X1 := X.keeps F.keep
  have SF := PySem.F.store_object
  refine set_plain (s := ⟨hp, g, d, tk, os⟩) (od := none) X1 ⟨he, rfl, rfl, trivial⟩ (by rfl) ?_
  refine codeAny_call_builtin SF.slot.plain SF.entry (@check_slot (model PySem.Challenge.pw_no0226_01 w) _ _ ⟨hp, g, d, tk + 1, os⟩ _ _ _ _ _ _ _ SF.kind SF.split (cf_isa X1 he rfl) (SF.args _ _ v) ?_)
  have cls : Looks (model PySem.Challenge.pw_no0226_01 w) hp (typeOf (.ref e)) (.ref 72) := (Looks.ld he).andThen .now
  have mro : Looks (model PySem.Challenge.pw_no0226_01 w) hp (mroOf (.ref 72)) [.ref 72, .ref 59, .type "Exception", .type "BaseException", .type "object"] := told X1 rfl
  have attr : Looks (model PySem.Challenge.pw_no0226_01 w) hp (typeLookup (.ref 72) "text") none := told X1 rfl
  have cd : ∃ cd, Looks (model PySem.Challenge.pw_no0226_01 w) hp (classData 72) cd ∧ cd.hasDict = true := ⟨_, told X1 rfl, rfl⟩
  obtain ⟨cd, hcd, hasd⟩ := cd
  unfold Builtin.«object.__setattr__»
  repeat lk
  rw [hasd]
  have he2 := Heap.get?_push_of_some emptyDict he
  have de : e ≠ hp.objs.size := Nat.ne_of_lt (Heap.lt_size he)
  repeat lk
  refine wpAny_update' he2 ?_
  have dd : ((hp.push emptyDict).update e fun o => { cls := o.cls, dict := some hp.objs.size, data := o.data, slots := o.slots }).get? hp.objs.size = some emptyDict :=
    (Heap.get?_update_other _ _ de).trans (Heap.get?_push_at rfl rfl)
  repeat lk
  refine wpAny_updatePart dd ?_
  refine wpAny_bind (wpAny_lookBehind (Heap.get?_update_self _ dd rfl) rfl (wpAny_pure ?_))
  have fin := fun f => turned (h' := ((hp.push emptyDict).update e fun o => { cls := o.cls, dict := some hp.objs.size, data := o.data, slots := o.slots }).update hp.objs.size f) (o' := excO 72 t0 (some hp.objs.size)) F N hne
    (fun b ob hb q => (Heap.get?_update_other _ _ (Nat.ne_of_lt (Heap.lt_size q)).symm).trans ((Heap.get?_update_other _ _ (Ne.symm hb)).trans (Heap.get?_push_of_some _ q)))
    ((Heap.get?_update_other _ _ de.symm).trans (Heap.get?_update_self _ he2 rfl))
  exact done _ _ _ (fin _).1 (fin _).2
end
end
end Mine

/-! part E3 -/
namespace Mine
theorem back_E3 : True ∧ True := by
  w_top off
  first | (walk1; done) | exact ⟨trivial, trivial⟩
section
open PySem PySem.W PyProof.Rows PySem.Spec PySem.Calls
set_option maxRecDepth 100000
section
variable {M : Model} {A : Around} {E : Value → Shared → Prop} {s' : Shared} {base g : Heap} {outer : List Env} {L a e t : Addr} {m : Str → Option Value} {name : Str} {scope : Scope} {cd : Value} {Q : Unit → Shared → Prop} {news : List (Addr × Obj)} {C : Addr} {od : Option Addr}
/-- the fault leaves the frame where it was raised -/
theorem cf_leave (K : Below A base outer g) (F : Fr g L s'.heap m) (N : News g L s'.heap ((e, excO C t od) :: news)) (hne : ∀ p ∈ news, p.1 ≠ e)
    (hQ : ∀ h', RaisedSN base g outer e (.ref C) news h' → g.UpToSlots h' → Q () { s' with heap := h' }) (hk : scope.kind = .function := by rfl) :
    wpAny M (A.deeper (envOf name scope L a cd)) (leaving (envOf name scope L a cd) (.ref e)) Q E s' := by
  obtain ⟨he, -, hg⟩ := N _ (.head _)
  have KP := K.push (name := name) (a := a) (cd := cd) F hk
  generalize hfs : (envOf name scope L a cd :: outer).filterMap (·.frame) = fs
  have low : ∀ b ∈ fs, b = L ∨ b ∈ outer.filterMap (·.frame) := fun b hb => kts_mem (hfs ▸ hb)
  have gone : ∀ b ∈ e :: fs, base.get? b = none := fun b hb => (List.mem_cons.mp hb).elim (fun z => z ▸ fresh_of_stays K.stays hg) fun hb => (KP.frames.mem (hfs ▸ hb)).1
  have seen : ∀ b o, s'.heap.get? b = some o → b ≠ e → b ≠ L → b ∉ outer.filterMap (·.frame) → (hideAll s'.heap (e :: fs)).get? b = some o := fun b o q h1 h2 h3 =>
    hideAll_get _ q fun hb => (List.mem_cons.mp hb).elim h1 fun hb => (low b hb).elim h2 h3
  have not : ∀ {b c : Addr} {o : Obj}, g.get? c = none → g.get? b = some o → b ≠ c := fun h1 h2 z => by rw [z, h1] at h2; cases h2
  have ff := funFrames_hide KP.frames (as := e :: fs) fun env hx b hb => .tail _ (hfs ▸ List.mem_filterMap.mpr ⟨env, hx, hb⟩)
  refine wpAny_leaving_firstW (a0 := .ref t) KP.stack ff rfl he (fun _ _ => of_hideAll _) (hideAll_none _ (.head _)) rfl rfl rfl fun h' hW =>
    hQ h' ⟨_, _, fun b o q => ?_, fun b o q nm => ?_, fun p hp => ?_, hW.1, hideAll_none _ (.head _), hW.2.1.2.2, hW.2.2.1⟩ ((Heap.UpToSlots.of_keeps F.keep).trans hW.2.2.2)
  · exact hideAll_get _ (KP.stays b o q) fun hb => by rw [gone b hb] at q; cases q
  · exact seen b o (F.keep b o q) (not hg q) (not (kts_self F) q) nm
  · have Np := N p (.tail _ hp)
    refine ⟨seen _ _ Np.1 (hne p hp) Np.2.1 fun hb => ?_, Np.2.2, fresh_of_stays K.stays Np.2.2⟩
    obtain ⟨-, o, ho, -⟩ := K.frames.mem hb
    exact not Np.2.2 ho rfl
end
section
variable {w : World} {A : Around} {E : Value → Shared → Prop} {s : Shared} {env : Env} {x : Expr} {pos : Pos} {Q : Flow → Shared → Prop}
/-- raise x, where x comes to a fault that was just made -/
theorem cf_raise (hh : A.handled = none)
    (h : wpAny (model PySem.Challenge.pw_no0226_01 w) A (eval x env) (fun v s₁ => ∃ e t od, v = .ref e ∧ (Mine.hd.heap_39 w.params).In s₁.heap ∧ s₁.heap.get? e = some (excO 72 t od) ∧ E (.ref e) s₁) E s) :
    wpAny (model PySem.Challenge.pw_no0226_01 w) A (exec (.Raise (some x) none pos) env) Q E s := by
  rw [arm_exec_Raise]
  refine wpAny_bind (wpAny_standAt ?_)
  refine wpAny_bind (wpAny_bind (wpAny_mono h (fun v s₁ z => wpAny_bind (wpAny_standAt (wpAny_pure ?_))) fun _ _ z => z))
  obtain ⟨e, t, od, rfl, X, he, hE⟩ := z
  obtain ⟨hp, g, d, tk, os⟩ := s₁
  have isa := cf_isa X he (B := .type "BaseException") (b := true) rfl
  have made : Looks (model PySem.Challenge.pw_no0226_01 w) hp (typeOf (.ref 72)) (.type "type") := told X rfl
  repeat ((fail_if_success (with_reducible show wpAny _ _ (raiseNew _) _ _ _)); lk)
  exact wpAny_raiseNew_none hh hE
end
end
end Mine

/-! part D11 -/
namespace Mine
theorem back_D11 : True ∧ True := by
  w_top off
  first | (walk1; done) | exact ⟨trivial, trivial⟩
section
open PySem PySem.W PyProof.Rows PySem.Spec PySem.Calls

local macro_rules | `(tactic| walk_at "MINE go") => `(tactic| repeat' ((fail_if_success (with_reducible show InvEndN _ _ _ _ _ _ _)); first | (k_unfold; (try dsimp only)) | walk1 | (dsimp only; walk1)))
local macro_rules | `(tactic| walk_at "exec For Name Name cons nil") => `(tactic| (k_here; (rename Fr _ _ _ _ => lF'); (with_unfolding_all refine' For_invVF lF' ?k1 ?k2 ?_; (case k1 => exact rfl); (case k2 => exact rfl); k_whole)))
local macro_rules | `(tactic| walk_at "exec For Name Call cons nil") => `(tactic| (k_here; (rename Fr _ _ _ _ => lF'); (with_unfolding_all refine' For_invVF lF' ?k1 ?k2 ?_; (case k1 => exact rfl); (case k2 => exact rfl); k_whole)))
local macro_rules | `(tactic| walk_at "MINE site") => `(tactic| first | assumption | exact rfl | exact Around.frames_deeper (Below.stack (by assumption)) | (simp only [depth_deeper]; omega) | omega)

theorem look0 (y : Str) : ([] : List (Str × Value)).reverse.lookup y = none := rfl
theorem mem_frames {env : Env} {L b : Addr} (hf : env.frame = some L) (hb : b ∈ [env].filterMap (·.frame)) : b = L := by
  simp [hf] at hb; exact hb
section
variable {w : World} {A₀ A : Around} {E : Value → Shared → Prop} {s : Shared} {K : Frag} {base h₀ : Heap} {L : Addr} {m mg mb : Str → Option Value} {env : Env} {news : List (Addr × Obj)} {p : Program} {loose : List Str} {mean : ExcName → Option Value}
  {Q : Value → Shared → Prop} {name qual : Str} {params : Arguments} {body : List Stmt} {scope : Scope} {dV kV doc pm cdv ct oc : Value} {an od : Option Addr} {osl : Array (Option Value)} {f : Addr} {vs : List Value} {binds : List (Str × Value)} {prog : Program}
/-- what stood behind a frame stands when the frame's own slots have turned -/
theorem come_back {g g' h' : Heap} {fs : List Addr} {L' : Addr} {m' : Str → Option Value} {news' : List (Addr × Obj)} (G : Fr h₀ L g m) (T : KtsTurn fs g g') (old : ∀ b ∈ fs, h₀.get? b = none) (F' : Fr g' L' h' m') (N' : News g' L' h' news') :
    Fr h₀ L h' m ∧ News h₀ L h' news' := by
  have lost : ∀ {b : Addr}, g'.get? b = none → g.get? b = none := fun {b} z => by
    cases q : g.get? b with
    | none => rfl
    | some o => obtain ⟨sl, y⟩ := T.up q; exact nomatch z.symm.trans y
  obtain ⟨o, es, n, hL, hd, hk, hl⟩ := G.ns
  obtain ⟨sl, hL'⟩ := T.up hL
  refine ⟨⟨⟨_, es, n, F'.keep _ _ hL', hd, hk, hl⟩, fun b o q => F'.keep b o (T.other b o (G.keep b o q) fun hb => (nomatch (old b hb).symm.trans q)), G.above⟩, fun p hp => ?_⟩
  obtain ⟨n1, -, n3⟩ := N' p hp
  refine ⟨n1, fun z => ?_, kts_none G.keep (lost n3)⟩
  rw [z, hL'] at n3; cases n3
/-- a def of the text is entered from the one frame above the ground; what it calls may raise, and it may catch -/
theorem enterS (B : Below A₀ base [] h₀) (F : Fr h₀ L s.heap m) (X₀ : K.In h₀) (N : News h₀ L s.heap news) (T : Top p loose mean mg mb h₀) (hA : A.frames = some [env]) (hf : env.frame = some L) (hke : env.scope.kind = .function)
    (ho : K.lookup f = some ⟨oc, od, .func (fnOf name qual params body scope dV kV doc pm an cdv ct), osl⟩) (hcd : codeIn K cdv qual = true) (hroom : A.depth < recursionLimit)
    (hbind : BindsTo s (fnOf name qual params body scope dV kV doc pm an cdv ct) ⟨vs, []⟩ binds) (hloc : ∀ y ∈ binds, scope.names.lookup y.1 = some .local)
    (h : ∀ g L' h₁ tk, Fr g L' h₁ (fun y => binds.reverse.lookup y) → News g L' h₁ news → Below A h₀ [env] g → K.In g → Top p loose mean mg mb g → KtsDicts ([env].filterMap (·.frame)) g → (∀ p ∈ news, p.1 < L') →
      wpAny (model prog w) (A.deeper (envOf qual scope L' f cdv)) (execs body (envOf qual scope L' f cdv)) (fun fl s' => LeaveS0 ([env].filterMap (·.frame)) h₀ L m g (Back Q E) (match fl with | .ret v => v | _ => .none) s') (fun _ _ => False)
        { s with heap := h₁, toks := tk })
    (hco : scope.isCoroutine = false) (hgen : scope.isGenerator = false) (hk : scope.kind = .function) (hcell : ∀ x ∈ scope.names, x.2 ≠ .cell) : wpAny (model prog w) A (call (.ref f) vs) Q E s := by
  have X := X₀.keeps F.keep
  obtain ⟨G, BG, st, -⟩ := groundX (R := Back Q E) (base := h₀) ⟨B.stack, fun _ _ q => q, trivial⟩ F N hA hf hke
  have young : ∀ p ∈ news, @LT.lt Nat _ p.1 s.heap.objs.size := fun p hp => Heap.lt_size (N p hp).1
  have dicts : KtsDicts ([env].filterMap (·.frame)) (hideAll s.heap (news.map (·.1))) := fun b hb => by
    obtain ⟨o, es, n, hL, hd, -⟩ := G.ns
    exact ⟨o, es, n, (mem_frames hf hb).symm ▸ hL, hd⟩
  refine wpAny_call (codeAny_call_def hroom (X _ _ ho) rfl (T.nolimit.keeps F.keep) (codeRec_of X hcd) rfl hbind hcell hloc (fun h₁ ns kept => ?_) hco hgen hk)
  have Fn : Fr (hideAll s.heap (news.map (·.1))) s.heap.objs.size h₁ _ := ⟨ns, fun b o q => kept b o (of_hideAll _ q), Nat.le_of_eq (hideAll_size _ _)⟩
  have Nn : News (hideAll s.heap (news.map (·.1))) s.heap.objs.size h₁ news := fun p hp => ⟨kept _ _ (N p hp).1, Nat.ne_of_lt (young p hp), hideAll_none _ (List.mem_map_of_mem hp)⟩
  refine wpAny_mono (h _ _ h₁ _ Fn Nn BG (X₀.keeps st) (T.keeps st) dicts young) ?_ fun _ _ z => z.elim
  rintro fl s' ⟨g', L', m', news', T', F', N', done⟩
  have z := come_back G T' (fun b hb => mem_frames hf hb ▸ kts_self F) F' N'
  exact done z.1 z.2
end
theorem meta_exc : typeOf (.type "Exception") = pure (.type "type") := by first | rfl | kernel_rfl
local macro_rules | `(tactic| walk_at "getMethod type:Exception") => `(tactic| (k_here; refine' method_type ?F ?X ?m (by decide +kernel) ?e ?h ?_; (case F => k_asm); (case X => k_asm); (case m => exact meta_exc); (case e => k_dflt k_is); (case h => k_handed)))
local macro_rules | `(tactic| walk_at "call builtin:Exception.__init__") => `(tactic| (k_here; (rename Fr _ _ _ _ => lF'); (refine' cf_init ?X lF' ?N ?hn ?_); (case X => assumption); (case N => assumption); (case hn => assumption); intro h' t1' F' N'; clear lF'; (try dsimp only)))
local macro_rules | `(tactic| walk_at "setAttr ref") => `(tactic| (k_here; (rename Fr _ _ _ _ => lF'); (refine' cf_set ?X lF' ?N ?hn ?_); (case X => assumption); (case N => assumption); (case hn => assumption); intro h' dx' tk' F' N'; clear lF'; (try dsimp only)))
set_option maxRecDepth 100000 in
set_option maxHeartbeats 400000 in
theorem init_c (w : World) {p : Program} {loose : List Str} {mean : ExcName → Option Value} {mg mb : Str → Option Value} (_h : PySem.Challenge.rw_no0226_01 = PySem.Challenge.rw_no0226_01)
    {A A₀ : Around} {base h₀ : Heap} {outer : List Env} {env : Env} {L : Addr} {m : Str → Option Value} {news : List (Addr × Obj)} {s : Shared} {Q E : Value → Shared → Prop}
    (B : Below A₀ base outer h₀) (F : Fr h₀ L s.heap m) (X : (Mine.hd.heap_39 w.params).In h₀) (N : News h₀ L s.heap news) (T : Top p loose mean mg mb h₀)
    (hA : A.frames = some (env :: outer)) (hf : env.frame = some L) (hke : env.scope.kind = .function) (hh : A.handled = none)
    {e t0 : Addr} {x : Str} {t : Tok} {news₀ : List (Addr × Obj)} (hN : news = (e, excO 72 t0 none) :: news₀) (hne : ∀ p ∈ news₀, p.1 ≠ e) (hd : A.depth + 1 < recursionLimit)
    (hret : ∀ (dx t1 : Addr) h' tk', Fr h₀ L h' m → News h₀ L h' ((e, excO 72 t1 (some dx)) :: news₀) → Q .none { s with heap := h', toks := tk' }) :
    wpAny (model PySem.Challenge.pw_no0226_01 w) A (call (.ref 56) [.ref e, .str x t]) Q E s := by
  subst hN
  revert X _h; k_fill; intro _h X
  clear _h
  refine' enter (binds := [(Str.ofString "self", .ref e), (Str.ofString "text", .str x t)]) B F X N T hA hf hke ?k6 ?k7 ?k8 ?k9 ?kB ?_ ?c2 ?c3 ?c4 ?c5
  case k6 => k_is
  case k7 => k_is
  case k8 => omega
  case k9 => exact BindsTo.of_eq rfl
  case c5 => decide
  case kB => exact locs rfl
  case c2 => exact rfl
  case c3 => exact rfl
  case c4 => exact rfl
  intro g L' h₁ tk₁ F' N' B' X' T' lt'
  replace F' := fr_as F' (look2 _ _ _ _)
  (try k_fold)
  walk_at "MINE go"
  exact hret _ _ _ _ (by assumption) (by assumption)
end
end Mine

/-! part D12 -/
namespace Mine
theorem back_D12 : True ∧ True := by
  w_top off
  first | (walk1; done) | exact ⟨trivial, trivial⟩
section
open PySem PySem.W PyProof.Rows PySem.Spec PySem.Calls

local macro_rules | `(tactic| walk_at "MINE go") => `(tactic| repeat' ((fail_if_success (with_reducible show InvEndN _ _ _ _ _ _ _)); first | (k_unfold; (try dsimp only)) | walk1 | (dsimp only; walk1)))
local macro_rules | `(tactic| walk_at "exec For Name Name cons nil") => `(tactic| (k_here; (rename Fr _ _ _ _ => lF'); (with_unfolding_all refine' For_invVF lF' ?k1 ?k2 ?_; (case k1 => exact rfl); (case k2 => exact rfl); k_whole)))
local macro_rules | `(tactic| walk_at "exec For Name Call cons nil") => `(tactic| (k_here; (rename Fr _ _ _ _ => lF'); (with_unfolding_all refine' For_invVF lF' ?k1 ?k2 ?_; (case k1 => exact rfl); (case k2 => exact rfl); k_whole)))
local macro_rules | `(tactic| walk_at "MINE site") => `(tactic| first | assumption | exact rfl | exact Around.frames_deeper (Below.stack (by assumption)) | (simp only [depth_deeper]; omega) | omega)

theorem fault_c (w : World) {p : Program} {loose : List Str} {mean : ExcName → Option Value} {mg mb : Str → Option Value} (_h : PySem.Challenge.rw_no0226_01 = PySem.Challenge.rw_no0226_01)
    {A A₀ : Around} {base h₀ : Heap} {outer : List Env} {env : Env} {L : Addr} {m : Str → Option Value} {news : List (Addr × Obj)} {s : Shared} {Q E : Value → Shared → Prop}
    (B : Below A₀ base outer h₀) (F : Fr h₀ L s.heap m) (X : (Mine.hd.heap_39 w.params).In h₀) (N : News h₀ L s.heap news) (T : Top p loose mean mg mb h₀)
    (hA : A.frames = some (env :: outer)) (hf : env.frame = some L) (hke : env.scope.kind = .function) (hh : A.handled = none)
    {x : Str} {t : Tok} (hd : A.depth + 2 < recursionLimit)
    (hret : ∀ (e dx t1 : Addr) h' tk', Fr h₀ L h' m → News h₀ L h' ((e, excO 72 t1 (some dx)) :: news) → (∀ p ∈ news, p.1 < e) → Q (.ref e) { s with heap := h', toks := tk' }) :
    wpAny (model PySem.Challenge.pw_no0226_01 w) A (call (.ref 72) [.str x t]) Q E s := by
  obtain ⟨hp, g, d, tk, os⟩ := s
  dsimp only at F N hret
  have F₁ : Fr h₀ L ((hp.push (tupO [.str x t])).push (excO 72 hp.objs.size none)) m := (F.push _).push _
  have N₁ := (N.push F (tupO [.str x t])).push (F.push _) (excO 72 hp.objs.size none)
  rw [Heap.size_push] at N₁
  have N₂ : News h₀ L ((hp.push (tupO [.str x t])).push (excO 72 hp.objs.size none)) ((hp.objs.size + 1, excO 72 hp.objs.size none) :: news) := fun p hp' => by
    rcases List.mem_cons.mp hp' with rfl | hp'
    · exact N₁ _ (.head _)
    · exact N₁ _ (.tail _ (.tail _ hp'))
  have hlt : ∀ p ∈ news, @LT.lt Nat _ p.1 (hp.objs.size + 1) := fun p hp' => Nat.lt_succ_of_lt (Heap.lt_size (N p hp').1)
  refine cf_make (X.keeps F.keep) ?_
  refine init_c (s := ⟨(hp.push (tupO [.str x t])).push (excO 72 hp.objs.size none), g, d, tk, os⟩) (A := A.under (.builtin "type.__call__" ⟨[.ref 72, .str x t], []⟩)) (A₀ := A₀) (outer := outer) (base := base) w rfl ⟨B.stack, B.stays, B.frames⟩ F₁ X N₂ T hA hf hke hh rfl ?_ ?_ ?_
  · exact fun p hp' => Nat.ne_of_lt (hlt p hp')
  · show A.depth + 1 + 1 < _; omega
  · exact fun dx t1 h' tk' F' N' => ⟨rfl, hret _ dx t1 h' tk' F' N' hlt⟩
end
end Mine

/-! part D13 -/
namespace Mine
theorem back_D13 : True ∧ True := by
  w_top off
  first | (walk1; done) | exact ⟨trivial, trivial⟩
section
open PySem PySem.W PyProof.Rows PySem.Spec PySem.Calls

local macro_rules | `(tactic| walk_at "MINE go") => `(tactic| repeat' ((fail_if_success (with_reducible show InvEndN _ _ _ _ _ _ _)); first | (k_unfold; (try dsimp only)) | walk1 | (dsimp only; walk1)))
local macro_rules | `(tactic| walk_at "exec For Name Name cons nil") => `(tactic| (k_here; (rename Fr _ _ _ _ => lF'); (with_unfolding_all refine' For_invVF lF' ?k1 ?k2 ?_; (case k1 => exact rfl); (case k2 => exact rfl); k_whole)))
local macro_rules | `(tactic| walk_at "exec For Name Call cons nil") => `(tactic| (k_here; (rename Fr _ _ _ _ => lF'); (with_unfolding_all refine' For_invVF lF' ?k1 ?k2 ?_; (case k1 => exact rfl); (case k2 => exact rfl); k_whole)))
local macro_rules | `(tactic| walk_at "MINE site") => `(tactic| first | assumption | exact rfl | exact Around.frames_deeper (Below.stack (by assumption)) | (simp only [depth_deeper]; omega) | omega)

theorem q_bool {Q : Value → Shared → Prop} {b b' : Bool} {s : Shared} (h : Q (.bool b) s) (e : b = b') : Q (.bool b') s := e ▸ h
theorem q_int {Q : Value → Shared → Prop} {b b' : Int} {t : Tok} {s : Shared} (h : Q (.int b t) s) (e : b = b') : Q (.int b' t) s := e ▸ h
set_option maxRecDepth 100000 in
set_option maxHeartbeats 400000 in
theorem is_numeric_c (w : World) {p : Program} {loose : List Str} {mean : ExcName → Option Value} {mg mb : Str → Option Value} (_h : PySem.Challenge.rw_no0226_01 = PySem.Challenge.rw_no0226_01)
    {A A₀ : Around} {base h₀ : Heap} {outer : List Env} {env : Env} {L : Addr} {m : Str → Option Value} {news : List (Addr × Obj)} {s : Shared} {Q E : Value → Shared → Prop}
    (B : Below A₀ base outer h₀) (F : Fr h₀ L s.heap m) (X : (Mine.hd.heap_39 w.params).In h₀) (N : News h₀ L s.heap news) (T : Top p loose mean mg mb h₀)
    (hA : A.frames = some (env :: outer)) (hf : env.frame = some L) (hke : env.scope.kind = .function) (hh : A.handled = none)
    {a : Int} {ta : Tok} (hd : A.depth + 1 < recursionLimit)
    (hret : ∀ h' tk', Fr h₀ L h' m → News h₀ L h' news → Q (.bool (decide (0 ≤ a ∧ a ≤ 3))) { s with heap := h', toks := tk' }) :
    wpAny (model PySem.Challenge.pw_no0226_01 w) A (call (.ref 81) [.int a ta]) Q E s := by
  revert X _h; k_fill; intro _h X
  clear _h
  refine' enter (binds := [(Str.ofString "kind", .int a ta)]) B F X N T hA hf hke ?k6 ?k7 ?k8 ?k9 ?kB ?_ ?c2 ?c3 ?c4 ?c5
  case k6 => k_is
  case k7 => k_is
  case k8 => omega
  case k9 => exact BindsTo.of_eq rfl
  case c5 => decide
  case kB => exact locs rfl
  case c2 => exact rfl
  case c3 => exact rfl
  case c4 => exact rfl
  intro g L' h₁ tk₁ F' N' B' X' T' lt'
  replace F' := fr_as F' (look1 _ _)
  (try k_fold)
  walk_at "MINE go"
  · refine q_bool (hret _ _ (by assumption) (by assumption)) ?_
    rw [decide_eq_decide]; constructor <;> (intro; omega)
  · refine q_bool (hret _ _ (by assumption) (by assumption)) ?_
    rw [decide_eq_decide]; constructor <;> (intro; omega)
set_option maxRecDepth 100000 in
set_option maxHeartbeats 400000 in
theorem units_of_c (w : World) {p : Program} {loose : List Str} {mean : ExcName → Option Value} {mg mb : Str → Option Value} (_h : PySem.Challenge.rw_no0226_01 = PySem.Challenge.rw_no0226_01)
    {A A₀ : Around} {base h₀ : Heap} {outer : List Env} {env : Env} {L : Addr} {m : Str → Option Value} {news : List (Addr × Obj)} {s : Shared} {Q E : Value → Shared → Prop}
    (B : Below A₀ base outer h₀) (F : Fr h₀ L s.heap m) (X : (Mine.hd.heap_39 w.params).In h₀) (N : News h₀ L s.heap news) (T : Top p loose mean mg mb h₀)
    (hA : A.frames = some (env :: outer)) (hf : env.frame = some L) (hke : env.scope.kind = .function) (hh : A.handled = none)
    {a : Int} {ta : Tok} (hd : A.depth + 1 < recursionLimit)
    (hret : ∀ t h' tk', Fr h₀ L h' m → News h₀ L h' news → Q (.int (if a = 5 then 0 else if a = 2 ∨ a = 3 then 2 else 1) t) { s with heap := h', toks := tk' }) :
    wpAny (model PySem.Challenge.pw_no0226_01 w) A (call (.ref 95) [.int a ta]) Q E s := by
  revert X _h; k_fill; intro _h X
  clear _h
  refine' enter (binds := [(Str.ofString "kind", .int a ta)]) B F X N T hA hf hke ?k6 ?k7 ?k8 ?k9 ?kB ?_ ?c2 ?c3 ?c4 ?c5
  case k6 => k_is
  case k7 => k_is
  case k8 => omega
  case k9 => exact BindsTo.of_eq rfl
  case c5 => decide
  case kB => exact locs rfl
  case c2 => exact rfl
  case c3 => exact rfl
  case c4 => exact rfl
  intro g L' h₁ tk₁ F' N' B' X' T' lt'
  replace F' := fr_as F' (look1 _ _)
  (try k_fold)
  walk_at "MINE go"
  all_goals (refine q_int (hret _ _ _ (by assumption) (by assumption)) ?_)
  · rw [if_pos (by assumption)]
  · rw [if_neg (by omega), if_pos (by omega)]
  · rw [if_neg (by omega), if_pos (by omega)]
  · rw [if_neg (by omega), if_neg (by omega)]
set_option maxRecDepth 100000 in
set_option maxHeartbeats 400000 in
theorem law_units_c (w : World) {p : Program} {loose : List Str} {mean : ExcName → Option Value} {mg mb : Str → Option Value} (_h : PySem.Challenge.rw_no0226_01 = PySem.Challenge.rw_no0226_01)
    {A A₀ : Around} {base h₀ : Heap} {outer : List Env} {env : Env} {L : Addr} {m : Str → Option Value} {news : List (Addr × Obj)} {s : Shared} {Q E : Value → Shared → Prop}
    (B : Below A₀ base outer h₀) (F : Fr h₀ L s.heap m) (X : (Mine.hd.heap_39 w.params).In h₀) (N : News h₀ L s.heap news) (T : Top p loose mean mg mb h₀)
    (hA : A.frames = some (env :: outer)) (hf : env.frame = some L) (hke : env.scope.kind = .function) (hh : A.handled = none)
    (hd : A.depth + 1 < recursionLimit)
    (hret : ∀ (l : Addr) (vs : List Value) (k : Nat) h' tk', Fr h₀ L h' m → News h₀ L h' ((l, listOf vs.toArray k) :: news) → IntsAre vs [1, 1, 2, 2, 1, 0] → (∀ p ∈ news, p.1 < l) → Q (.ref l) { s with heap := h', toks := tk' }) :
    wpAny (model PySem.Challenge.pw_no0226_01 w) A (call (.ref 109) []) Q E s := by
  revert X _h; k_fill; intro _h X
  clear _h
  refine' enter (binds := []) B F X N T hA hf hke ?k6 ?k7 ?k8 ?k9 ?kB ?_ ?c2 ?c3 ?c4 ?c5
  case k6 => k_is
  case k7 => k_is
  case k8 => omega
  case k9 => exact BindsTo.of_eq rfl
  case c5 => decide
  case kB => exact locs rfl
  case c2 => exact rfl
  case c3 => exact rfl
  case c4 => exact rfl
  intro g L' h₁ tk₁ F' N' B' X' T' lt'
  replace F' := fr_as F' (look0)
  (try k_fold)
  walk_at "MINE go"
  exact hret _ _ _ _ _ (by assumption) (by assumption) (.cons _ _ (.cons _ _ (.cons _ _ (.cons _ _ (.cons _ _ (.cons _ _ .nil)))))) (by assumption)

local macro_rules | `(tactic| walk_at "MINE callsite") => `(tactic| ((case k1 => k_asm); (case k2 => k_asm); (case k3 => k_asm); (case k4 => k_asm); (case k5 => k_asm); (case kA => walk_at "MINE site"); (case kf => walk_at "MINE site"); (case kk => walk_at "MINE site"); (case kh => walk_at "MINE site"); (case kd => walk_at "MINE site")))
local macro_rules | `(tactic| walk_at "call ref") => `(tactic| (k_here; (with_reducible show wpAny _ _ (call (Value.ref 81) [Value.int _ _]) _ _ _); (refine' is_numeric_c _ rfl ?k1 ?k2 ?k3 ?k4 ?k5 ?kA ?kf ?kk ?kh ?kd ?_); walk_at "MINE callsite"; intro h' tk' F' N'; (try dsimp only)))
local macro_rules | `(tactic| walk_at "exec Raise some none") => `(tactic| (k_here; (refine' cf_raise ?hh ?_); (case hh => walk_at "MINE site")))
local macro_rules | `(tactic| walk_at "call ref") => `(tactic| (k_here; (with_reducible show wpAny _ _ (call (Value.ref 72) [Value.str _ _]) _ _ _); (rename Frag.In _ _ => lX'); (refine' fault_c _ rfl ?k1 ?k2 ?k3 ?k4 ?k5 ?kA ?kf ?kk ?kh ?kd ?_); walk_at "MINE callsite"; intro e' dx' t1' h' tk' F' N' lt'; (refine' ⟨e', t1', _, rfl, lX'.keeps F'.keep, (N' _ (.head _)).1, ?_⟩); (try dsimp only)))
local macro_rules | `(tactic| walk_at "call builtin:min") => `(tactic| (k_here; (with_reducible show wpAny _ _ (call (Value.builtin _) [Value.int _ _, Value.int _ _]) _ _ _); (rename News _ _ _ _ => N'); (with_unfolding_all apply min_two_N); (case hh => walk_at "MINE site"); (case N => exact N'); (case F => assumption); clear N'; intro _ _ _ _))
local macro_rules | `(tactic| walk_at "call builtin:max") => `(tactic| (k_here; (with_reducible show wpAny _ _ (call (Value.builtin _) [Value.int _ _, Value.int _ _]) _ _ _); (rename News _ _ _ _ => N'); (with_unfolding_all apply max_two_N); (case hh => walk_at "MINE site"); (case N => exact N'); (case F => assumption); clear N'; intro _ _ _ _))
set_option maxRecDepth 100000 in
set_option maxHeartbeats 400000 in
theorem higher_kind_c (w : World) {p : Program} {loose : List Str} {mean : ExcName → Option Value} {mg mb : Str → Option Value} (_h : PySem.Challenge.rw_no0226_01 = PySem.Challenge.rw_no0226_01)
    {A A₀ : Around} {base h₀ : Heap} {outer : List Env} {env : Env} {L : Addr} {m : Str → Option Value} {news : List (Addr × Obj)} {s : Shared} {Q E : Value → Shared → Prop}
    (B : Below A₀ base outer h₀) (F : Fr h₀ L s.heap m) (X : (Mine.hd.heap_39 w.params).In h₀) (N : News h₀ L s.heap news) (T : Top p loose mean mg mb h₀)
    (hA : A.frames = some (env :: outer)) (hf : env.frame = some L) (hke : env.scope.kind = .function) (hh : A.handled = none)
    {a b : Int} {ta tb : Tok} (hd : A.depth + 4 < recursionLimit)
    (hret : ∀ t h' tk', Fr h₀ L h' m → News h₀ L h' news → 0 ≤ a → a ≤ 3 → 0 ≤ b → b ≤ 3 → ¬ (a ≠ b ∧ min a b = 2) → Q (.int (max a b) t) { s with heap := h', toks := tk' })
    (hexc : ∀ G e h' tk', Fr h₀ L G m → RaisedSN base G (env :: outer) e (.ref 72) news h' → G.UpToSlots h' → ¬ (0 ≤ a ∧ a ≤ 3 ∧ 0 ≤ b ∧ b ≤ 3 ∧ ¬ (a ≠ b ∧ min a b = 2)) → E (.ref e) { s with heap := h', toks := tk' }) :
    wpAny (model PySem.Challenge.pw_no0226_01 w) A (call (.ref 88) [.int a ta, .int b tb]) Q E s := by
  revert X _h; k_fill; intro _h X
  clear _h
  refine' enterE (binds := [(Str.ofString "a", .int a ta), (Str.ofString "b", .int b tb)]) B F X N T hA hf hke ?k6 ?k7 ?k8 ?k9 ?kB ?_ ?c2 ?c3 ?c4 ?c5
  case k6 => k_is
  case k7 => k_is
  case k8 => omega
  case k9 => exact BindsTo.of_eq rfl
  case c5 => decide
  case kB => exact locs rfl
  case c2 => exact rfl
  case c3 => exact rfl
  case c4 => exact rfl
  intro g L' h₁ tk₁ Fg F' N' B' X' T' lt'
  replace F' := fr_as F' (look2 _ _ _ _)
  (try k_fold)
  walk_at "MINE go"
  all_goals first
    | (rename Fr _ _ _ _ => F9
       rename News _ _ _ _ => N9
       refine cf_leave B' F9 N9 (fun p9 h9 => Nat.ne_of_lt ((by assumption : ∀ p ∈ news, @LT.lt Nat _ p.1 _) p9 h9)) (fun h9 R9 U9 => hexc _ _ _ _ Fg R9 U9 ?_)
       intro z9
       omega)
    | (refine q_int (hret _ _ _ (by assumption) (by assumption) (by omega) (by omega) (by omega) (by omega) (by omega)) ?_
       omega)
end
end Mine

/-! part D14 -/
namespace Mine
theorem back_D14 : True ∧ True := by
  w_top off
  first | (walk1; done) | exact ⟨trivial, trivial⟩
section
open PySem PySem.W PyProof.Rows PySem.Spec PySem.Calls

local macro_rules | `(tactic| walk_at "MINE go") => `(tactic| repeat' ((fail_if_success (with_reducible show InvEndN _ _ _ _ _ _ _)); first | (k_unfold; (try dsimp only)) | walk1 | (dsimp only; walk1)))
local macro_rules | `(tactic| walk_at "exec For Name Name cons nil") => `(tactic| (k_here; (rename Fr _ _ _ _ => lF'); (with_unfolding_all refine' For_invVF lF' ?k1 ?k2 ?_; (case k1 => exact rfl); (case k2 => exact rfl); k_whole)))
local macro_rules | `(tactic| walk_at "exec For Name Call cons nil") => `(tactic| (k_here; (rename Fr _ _ _ _ => lF'); (with_unfolding_all refine' For_invVF lF' ?k1 ?k2 ?_; (case k1 => exact rfl); (case k2 => exact rfl); k_whole)))
local macro_rules | `(tactic| walk_at "MINE site") => `(tactic| first | assumption | exact rfl | exact Around.frames_deeper (Below.stack (by assumption)) | (simp only [depth_deeper]; omega) | omega)

local macro_rules | `(tactic| walk_at "MINE callsite") => `(tactic| ((case k1 => k_asm); (case k2 => k_asm); (case k3 => k_asm); (case k4 => k_asm); (case k5 => k_asm); (case kA => walk_at "MINE site"); (case kf => walk_at "MINE site"); (case kk => walk_at "MINE site"); (case kh => walk_at "MINE site"); (case kd => walk_at "MINE site")))
local macro_rules | `(tactic| walk_at "call ref") => `(tactic| (k_here; (with_reducible show wpAny _ _ (call (Value.ref 88) [Value.int _ _, Value.int _ _]) _ _ _); (refine' higher_kind_c _ rfl ?k1 ?k2 ?k3 ?k4 ?k5 ?kA ?kf ?kk ?kh ?kd ?_ ?_); walk_at "MINE callsite"; rotate_left; (intro G' e' h' tk' FG' R' U' hc'; (try dsimp only)); rotate_left; (intro t' h' tk' F' N' c1' c2' c3' c4' c5'; (try dsimp only))))
def kindOf (a b : Int) : Int := if 0 ≤ a ∧ a ≤ 3 ∧ 0 ≤ b ∧ b ≤ 3 ∧ ¬ (a ≠ b ∧ min a b = 2) then max a b else -1
set_option maxRecDepth 100000 in
set_option maxHeartbeats 400000 in
theorem law_kind_c (w : World) {p : Program} {loose : List Str} {mean : ExcName → Option Value} {mg mb : Str → Option Value} (_h : PySem.Challenge.rw_no0226_01 = PySem.Challenge.rw_no0226_01)
    {A A₀ : Around} {base h₀ : Heap} {env : Env} {L : Addr} {m : Str → Option Value} {news : List (Addr × Obj)} {s : Shared} {Q E : Value → Shared → Prop}
    (B : Below A₀ base [] h₀) (F : Fr h₀ L s.heap m) (X : (Mine.hd.heap_39 w.params).In h₀) (N : News h₀ L s.heap news) (T : Top p loose mean mg mb h₀)
    (hA : A.frames = some [env]) (hf : env.frame = some L) (hke : env.scope.kind = .function) (hh : A.handled = none)
    {a b : Int} {ta tb : Tok} (hd : A.depth + 5 < recursionLimit)
    (hret : ∀ (tr : Tok) h' tk', Fr h₀ L h' m → News h₀ L h' news → Q (.int (kindOf a b) tr) { s with heap := h', toks := tk' }) :
    wpAny (model PySem.Challenge.pw_no0226_01 w) A (call (.ref 130) [.int a ta, .int b tb]) Q E s := by
  have X0 := X
  have T0 := T
  revert X _h; k_fill; intro _h X
  clear _h
  refine' enterS (binds := [(Str.ofString "a", .int a ta), (Str.ofString "b", .int b tb)]) B F X N T hA hf hke ?k6 ?k7 ?k8 ?k9 ?kB ?_ ?c2 ?c3 ?c4 ?c5
  case k6 => k_is
  case k7 => k_is
  case k8 => omega
  case k9 => exact BindsTo.of_eq rfl
  case c5 => decide
  case kB => exact locs rfl
  case c2 => exact rfl
  case c3 => exact rfl
  case c4 => exact rfl
  intro g L' h₁ tk₁ F' N' B' X' T' D' lt'
  replace F' := fr_as F' (look2 _ _ _ _)
  (try k_fold)
  walk_at "MINE go"
  · refine q_int (hret _ _ _ (by assumption) (by assumption)) ?_
    unfold kindOf
    rw [if_pos (by omega)]
  · refine q_int (hret _ _ _ (by assumption) (by assumption)) ?_
    unfold kindOf
    rw [if_neg (by assumption)]
end
end Mine

/-! part D15 -/
namespace Mine
theorem back_D15 : True ∧ True := by
  w_top off
  first | (walk1; done) | exact ⟨trivial, trivial⟩
section
open PySem PySem.W PyProof.Rows PySem.Spec PySem.Calls

local macro_rules | `(tactic| walk_at "MINE go") => `(tactic| repeat' ((fail_if_success (with_reducible show InvEndN _ _ _ _ _ _ _)); first | (k_unfold; (try dsimp only)) | walk1 | (dsimp only; walk1)))
local macro_rules | `(tactic| walk_at "exec For Name Name cons nil") => `(tactic| (k_here; (rename Fr _ _ _ _ => lF'); (with_unfolding_all refine' For_invVF lF' ?k1 ?k2 ?_; (case k1 => exact rfl); (case k2 => exact rfl); k_whole)))
local macro_rules | `(tactic| walk_at "exec For Name Call cons nil") => `(tactic| (k_here; (rename Fr _ _ _ _ => lF'); (with_unfolding_all refine' For_invVF lF' ?k1 ?k2 ?_; (case k1 => exact rfl); (case k2 => exact rfl); k_whole)))
local macro_rules | `(tactic| walk_at "MINE site") => `(tactic| first | assumption | exact rfl | exact Around.frames_deeper (Below.stack (by assumption)) | (simp only [depth_deeper]; omega) | omega)

def higherT : List (PyData × PyData) := putAllT [(encTuple PyData.int [0, 0], .int 0), (encTuple PyData.int [0, 1], .int 1), (encTuple PyData.int [0, 2], .int 2), (encTuple PyData.int [0, 3], .int 3), (encTuple PyData.int [1, 1], .int 1), (encTuple PyData.int [1, 2], .int 2), (encTuple PyData.int [1, 3], .int 3), (encTuple PyData.int [2, 2], .int 2), (encTuple PyData.int [3, 3], .int 3)] []
local macro_rules | `(tactic| walk_at "TupStores") => `(tactic| ((apply TupStores.intro (knd := intKind _ _) (enc := PyData.int) same_int); (case hu => omega); (case F => assumption); (case N => assumption); (case T => ((refine TupTab.ofEmpty ?_ (by assumption) (by assumption)); tupd_mem)); (case hk => (tupd_keys_int; done)); (case hsz => size_fits); (case' h => intro _ _ _ _ _ _ _)))
set_option maxRecDepth 100000 in
set_option maxHeartbeats 400000 in
theorem law_higher_c (w : World) {p : Program} {loose : List Str} {mean : ExcName → Option Value} {mg mb : Str → Option Value} (_h : PySem.Challenge.rw_no0226_01 = PySem.Challenge.rw_no0226_01)
    {A A₀ : Around} {base h₀ : Heap} {outer : List Env} {env : Env} {L : Addr} {m : Str → Option Value} {news : List (Addr × Obj)} {s : Shared} {Q E : Value → Shared → Prop}
    (B : Below A₀ base outer h₀) (F : Fr h₀ L s.heap m) (X : (Mine.hd.heap_39 w.params).In h₀) (N : News h₀ L s.heap news) (T : Top p loose mean mg mb h₀)
    (hA : A.frames = some (env :: outer)) (hf : env.frame = some L) (hke : env.scope.kind = .function) (hh : A.handled = none)
    (hd : A.depth + 1 < recursionLimit) (hu : A.units + 100 < cLine)
    (hret : ∀ (d : Addr) news' h' tk', Fr h₀ L h' m → News h₀ L h' news' → TupTab (intKind PySem.Challenge.pw_no0226_01 w) PyData.int news' d higherT → (∀ p ∈ news, p ∈ news') → Q (.ref d) { s with heap := h', toks := tk' }) :
    wpAny (model PySem.Challenge.pw_no0226_01 w) A (call (.ref 102) []) Q E s := by
  revert X _h; k_fill; intro _h X
  clear _h
  refine' enter (binds := []) B F X N T hA hf hke ?k6 ?k7 ?k8 ?k9 ?kB ?_ ?c2 ?c3 ?c4 ?c5
  case k6 => k_is
  case k7 => k_is
  case k8 => omega
  case k9 => exact BindsTo.of_eq rfl
  case c5 => decide
  case kB => exact locs rfl
  case c2 => exact rfl
  case c3 => exact rfl
  case c4 => exact rfl
  intro g L' h₁ tk₁ F' N' B' X' T' lt'
  replace F' := fr_as F' (look0)
  (try k_fold)
  have nl' := T'.nolimit
  have hu' : (A.deeper (envOf (Str.ofString "_law_higher") { kind := .function, names := [], isGenerator := false, isCoroutine := false } L' 102 (.ref 101))).units + 50 < cLine := by
    show A.units + 3 + 50 < cLine
    omega
  have hs9 : ∀ p ∈ news, p.1 ≠ h₁.objs.size := fun p hp => Nat.ne_of_lt (Heap.lt_size (N' p hp).1)
  walk_at "MINE go"
  rename ∀ p : Addr × Obj, p ∈ (_ : List (Addr × Obj)) → p.1 ≠ (_ : Addr) → p ∈ (_ : List (Addr × Obj)) => keep9
  refine hret _ _ _ _ (by assumption) (by assumption) (by assumption) fun p hp => keep9 p ?_ (hs9 p hp)
  repeat (first | exact hp | refine .tail _ ?_)
theorem higher_at {a b : Int} (ha : 0 ≤ a) (ha5 : a ≤ 5) (hb : 0 ≤ b) (hb5 : b ≤ 5) (hab : a ≤ b) : (lookup (encTuple PyData.int [a, b]) higherT).getD (.int (-1)) = .int (if 0 ≤ a ∧ a ≤ 3 ∧ 0 ≤ b ∧ b ≤ 3 ∧ ¬ (a ≠ b ∧ a = 2) then b else -1) := by
  have ha' : a = 0 ∨ a = 1 ∨ a = 2 ∨ a = 3 ∨ a = 4 ∨ a = 5 := by omega
  have hb' : b = 0 ∨ b = 1 ∨ b = 2 ∨ b = 3 ∨ b = 4 ∨ b = 5 := by omega
  rcases ha' with rfl | rfl | rfl | rfl | rfl | rfl <;> rcases hb' with rfl | rfl | rfl | rfl | rfl | rfl <;> first | omega | rfl | decide +kernel
end
end Mine

/-! part R0 -/
namespace Mine
theorem back_R0 : True ∧ True := by
  w_top off
  first | (walk1; done) | exact ⟨trivial, trivial⟩
section
open PySem PySem.W PyProof.Rows PySem.Spec PySem.Calls
noncomputable def lawFn (P : Params) : Option FuncData := match List.lookup 135 (Mine.hd.heap_39 P) with
  | some ⟨_, _, .func fd, _⟩ => some fd
  | _ => none
noncomputable def lawStmts (P : Params) : List Stmt := match lawFn P with
  | some fd => (match fd.body with | .stmts b => b | _ => [])
  | none => []
noncomputable def lawScope (P : Params) : Scope := match lawFn P with
  | some fd => fd.scope
  | none => default
theorem higher_mm {a b : Int} (ha : 0 ≤ a) (ha5 : a ≤ 5) (hb : 0 ≤ b) (hb5 : b ≤ 5) : (lookup (encTuple PyData.int [if b < a then b else a, if b > a then b else a]) higherT).getD (.int (-1)) = .int (kindOf a b) := by
  have e1 : (if b < a then b else a) = min a b := by split <;> omega
  have e2 : (if b > a then b else a) = max a b := by split <;> omega
  rw [e1, e2, higher_at (by omega) (by omega) (by omega) (by omega) (by omega)]
  congr 1
  unfold kindOf
  by_cases h2 : 0 ≤ a ∧ a ≤ 3 ∧ 0 ≤ b ∧ b ≤ 3 ∧ ¬ (a ≠ b ∧ min a b = 2)
  · rw [if_pos h2, if_pos (by omega)]
  · rw [if_neg h2, if_neg (by omega)]
/-- a map is itself with its known names written ahead -/
theorem fr_kst {h₀ h : Heap} {L : Addr} {m : Str → Option Value} {ps : List (Str × Value)} (F : Fr h₀ L h m) (hk : ∀ p ∈ ps, m p.1 = some p.2) : Fr h₀ L h (kstB m ps) := by
  rw [kstB_self hk]; exact F
end
end Mine

/-! part R4 -/
namespace Mine
theorem back_R4 : True ∧ True := by
  w_top off
  first | (walk1; done) | exact ⟨trivial, trivial⟩
section
open PySem PySem.W PyProof.Rows PySem.Spec PySem.Calls

local macro_rules | `(tactic| walk_at "MINE go") => `(tactic| repeat' ((fail_if_success (with_reducible show InvEndN _ _ _ _ _ _ _)); first | (k_unfold; (try dsimp only)) | walk1 | (dsimp only; walk1)))
local macro_rules | `(tactic| walk_at "exec For Name Name cons nil") => `(tactic| (k_here; (rename Fr _ _ _ _ => lF'); (with_unfolding_all refine' For_invVF lF' ?k1 ?k2 ?_; (case k1 => exact rfl); (case k2 => exact rfl); k_whole)))
local macro_rules | `(tactic| walk_at "exec For Name Call cons nil") => `(tactic| (k_here; (rename Fr _ _ _ _ => lF'); (with_unfolding_all refine' For_invVF lF' ?k1 ?k2 ?_; (case k1 => exact rfl); (case k2 => exact rfl); k_whole)))
local macro_rules | `(tactic| walk_at "MINE site") => `(tactic| first | assumption | exact rfl | exact Around.frames_deeper (Below.stack (by assumption)) | (simp only [depth_deeper]; omega) | omega)
local macro_rules | `(tactic| walk_at "MINE str item") => `(tactic| (k_here; (with_reducible show wpAny _ _ (subscriptTail _ _ (Value.str _ _) (Value.int _ _)) _ _ _); (with_unfolding_all refine' m_item_str ?k1 ?k2 ?k3 ?_ ?k5 ?k6); (case k1 => omega); (case k2 => omega); (case k3 => assumption); (case k5 => with_unfolding_all rfl); (case k6 => intro _; with_unfolding_all rfl); intro t'; (try dsimp only)))
local macro_rules | `(tactic| walk_at "MINE int item") => `(tactic| (k_here; (with_reducible show wpAny _ _ (subscriptTail _ _ (Value.ref _) (Value.int _ _)) _ _ _); (with_unfolding_all refine' m_item_ints ?k1 ?k2 ?k3 ?k4 ?k5 ?k6 ?_ ?k8); (case k1 => k_asm); (case k2 => k_memK); (case k3 => assumption); (case k4 => omega); (case k5 => omega); (case k6 => omega); (case k8 => with_unfolding_all rfl); intro t'; (try dsimp only)))
local macro_rules | `(tactic| walk_at "subscriptTail Name Name str int") => `(tactic| walk_at "MINE str item")
local macro_rules | `(tactic| walk_at "subscriptTail Name Name ref int") => `(tactic| walk_at "MINE int item")
local macro_rules | `(tactic| walk_at "call builtin:len") => `(tactic| (k_here; (with_reducible show wpAny _ _ (call (Value.builtin "len") [Value.str _ _]) _ _ _); (refine' m_len_str ?k1 ?_); (case k1 => assumption); intro t'; (try dsimp only)))
local macro_rules | `(tactic| walk_at "call builtin:len") => `(tactic| (k_here; (with_reducible show wpAny _ _ (call (Value.builtin "len") [Value.ref _]) _ _ _); (refine' m_len_list ?k1 ?k2 ?k3 ?_); (case k1 => k_asm); (case k2 => k_memK); (case k3 => first | omega | (simp only [List.length_dropLast]; omega)); intro t'; (try dsimp only)))

local macro_rules | `(tactic| walk_at "MINE room") => `(tactic| first | walk_at "MINE site" | k_room | units_room | decide)
local macro_rules | `(tactic| walk_at "MINE callsite") => `(tactic| ((case k1 => k_asm); (case k2 => k_asm); (case k3 => k_asm); (case k4 => k_asm); (case k5 => k_asm); (case kA => walk_at "MINE site"); (case kf => walk_at "MINE site"); (case kk => walk_at "MINE site"); (case kh => walk_at "MINE site"); (case kd => walk_at "MINE room")))
local macro_rules | `(tactic| walk_at "call ref") => `(tactic| (k_here; (with_reducible show wpAny _ _ (call (Value.ref 81) [Value.int _ _]) _ _ _); (refine' is_numeric_c _ rfl ?k1 ?k2 ?k3 ?k4 ?k5 ?kA ?kf ?kk ?kh ?kd ?_); walk_at "MINE callsite"; intro h' tk' F' N'; (try dsimp only)))
local macro_rules | `(tactic| walk_at "call ref") => `(tactic| (k_here; (with_reducible show wpAny _ _ (call (Value.ref 95) [Value.int _ _]) _ _ _); (refine' units_of_c _ rfl ?k1 ?k2 ?k3 ?k4 ?k5 ?kA ?kf ?kk ?kh ?kd ?_); walk_at "MINE callsite"; intro t' h' tk' F' N'; (try dsimp only)))
local macro_rules | `(tactic| walk_at "call ref") => `(tactic| (k_here; (with_reducible show wpAny _ _ (call (Value.ref 109) _) _ _ _); (show wpAny _ _ (call (Value.ref 109) []) _ _ _); (refine' law_units_c _ rfl ?k1 ?k2 ?k3 ?k4 ?k5 ?kA ?kf ?kk ?kh ?kd ?_); walk_at "MINE callsite"; intro l' vs' k' h' tk' F' N' hI' lt'; (try dsimp only)))
local macro_rules | `(tactic| walk_at "call ref") => `(tactic| (k_here; (with_reducible show wpAny _ _ (call (Value.ref 102) _) _ _ _); (show wpAny _ _ (call (Value.ref 102) []) _ _ _); (refine' law_higher_c _ rfl ?k1 ?k2 ?k3 ?k4 ?k5 ?kA ?kf ?kk ?kh ?kd ?ku ?_); walk_at "MINE callsite"; (case ku => walk_at "MINE room"); intro d' n' h' tk' F' N' T' K'; (try dsimp only)))
local macro_rules | `(tactic| walk_at "call ref") => `(tactic| (k_here; (with_reducible show wpAny _ _ (call (Value.ref 130) [Value.int _ _, Value.int _ _]) _ _ _); (refine' law_kind_c _ rfl ?k1 ?k2 ?k3 ?k4 ?k5 ?kA ?kf ?kk ?kh ?kd ?_); walk_at "MINE callsite"; intro t' h' tk' F' N'; (try dsimp only)))
local macro_rules | `(tactic| walk_at "call builtin:min") => `(tactic| (k_here; (with_reducible show wpAny _ _ (call (Value.builtin _) [Value.int _ _, Value.int _ _]) _ _ _); (rename News _ _ _ _ => N'); (with_unfolding_all apply min_two_N); (case hh => walk_at "MINE site"); (case N => exact N'); (case F => assumption); clear N'; intro _ _ _ _))
local macro_rules | `(tactic| walk_at "call builtin:max") => `(tactic| (k_here; (with_reducible show wpAny _ _ (call (Value.builtin _) [Value.int _ _, Value.int _ _]) _ _ _); (rename News _ _ _ _ => N'); (with_unfolding_all apply max_two_N); (case hh => walk_at "MINE site"); (case N => exact N'); (case F => assumption); clear N'; intro _ _ _ _))

local macro_rules | `(tactic| walk_at "call builtin:dict.get") => `(tactic| (k_here; (with_reducible show wpAny _ _ (call (Value.builtin "dict.get") [Value.ref _, Value.ref _, Value.int _ _]) _ _ _); (rename TupTab _ _ _ _ _ => tT'); (rename News _ _ _ _ => tN'); (refine call_get2_tupTab (knd := intKind _ _) (enc := PyData.int) PyProof.V.same_int (by omega) tN' (TupTab.cons tT' _) (.head _) (TupKeyObj.made (by tuptab_items_int)) (PyProof.V.Flat.int _ _) ?_); intro v' hv'; (replace hv' := (congrArg (PyProof.V.Flat v') (higher_mm (by omega) (by omega) (by omega) (by omega))).mp hv'); (obtain ⟨t', e'⟩ := PyProof.V.Flat.int_inv hv'); subst e'; clear hv'; (try dsimp only)))
theorem units_eq {i : Nat} (hi : i < 6) : (if (0 : Int) + (i : Int) = 5 then (0 : Int) else if (0 : Int) + (i : Int) = 2 ∨ (0 : Int) + (i : Int) = 3 then 2 else 1) = [1, 1, 2, 2, 1, 0].getD ((0 : Int) + (i : Int)).toNat 0 := by
  have : i = 0 ∨ i = 1 ∨ i = 2 ∨ i = 3 ∨ i = 4 ∨ i = 5 := by omega
  rcases this with rfl | rfl | rfl | rfl | rfl | rfl <;> decide
theorem num_eq {i : Nat} (hi : i < 6) : (decide (0 ≤ (0 : Int) + (i : Int) ∧ (0 : Int) + (i : Int) ≤ 3) != decide ((0 : Int) + (i : Int) < 4)) = false := by
  have : i = 0 ∨ i = 1 ∨ i = 2 ∨ i = 3 ∨ i = 4 ∨ i = 5 := by omega
  rcases this with rfl | rfl | rfl | rfl | rfl | rfl <;> decide
theorem store_gen {P : Int → Prop} (x : Int) (h : ∀ b, 0 ≤ b → b ≤ 5 → P b) : P (Int.fmod x 6) := by
  have := Int.fmod_nonneg_of_pos x (b := 6) (by omega)
  have := Int.fmod_lt_of_pos x (b := 6) (by omega)
  exact h _ (by omega) (by omega)
set_option maxRecDepth 100000 in
set_option maxHeartbeats 1000000 in
theorem rest4 (w : World) {p : Program} {loose : List Str} {mean : ExcName → Option Value} {mg mb : Str → Option Value} (_h : PySem.Challenge.rw_no0226_01 = PySem.Challenge.rw_no0226_01)
    {A A₀ : Around} {base h₀ : Heap} {L fa : Addr} {cd : Value} {cl : List (Str × Addr)} {u : Str → Option Value} {s : Shared} {Q : Flow → Shared → Prop}
    (B : Below A₀ base [] h₀) (X : (Mine.hd.heap_39 w.params).In h₀) (T : Top p loose mean mg mb h₀)
    (hA : A.frames = some [envX (Str.ofString "law") (lawScope w.params) L fa cd cl]) (hh : A.handled = none) (hd : A.depth + 10 < recursionLimit) (hu : A.units + 200 < cLine)
    {lc : Addr} {vc : List Value} {cs : List Int} {kc : Nat}
    (F : Fr h₀ L s.heap (kstB u [(Str.ofString "cells", .ref lc)])) (N : News h₀ L s.heap [(lc, listOf vc.toArray kc)]) (hI : IntsAre vc cs) (hcs : 3 ≤ cs.length) (hcs2 : cs.length ≤ 64)
    (hret : ∀ h' tk', (∀ b o, h₀.get? b = some o → h'.get? b = some o) → Q (.ret (.bool true)) { s with heap := h', toks := tk' }) :
    wpAny (model PySem.Challenge.pw_no0226_01 w) A (execs ((lawStmts w.params).drop 13) (envX (Str.ofString "law") (lawScope w.params) L fa cd cl)) Q (fun _ _ => False) s := by
  have hke : (envX (Str.ofString "law") (lawScope w.params) L fa cd cl).scope.kind = .function := rfl
  have hf : (envX (Str.ofString "law") (lawScope w.params) L fa cd cl).frame = some L := rfl
  revert hA hke hf
  show A.frames = some [envX _ (Scope.mk _ _ _ _ _) L fa cd cl] → _ → _ → wpAny _ _ (execs (_ :: _ :: []) (envX _ (Scope.mk _ _ _ _ _) L fa cd cl)) _ _ _
  intro hA hke hf
  revert X _h; k_fill; intro _h X
  clear _h
  (try k_fold)
  dsimp only [kstB] at F
  repeat' ((fail_if_success (with_reducible show wpAny _ _ (pyIter _) _ _ _)); first | (k_unfold; (try dsimp only)) | walk1 | (dsimp only; walk1))
  rename Fr _ _ _ _ => lF
  rename News _ _ _ _ => lN
  rename IsRange _ _ _ _ _ _ _ _ => lR
  refine' my_range (σ := Unit) 6 (fun _ => [(lc, listOf vc.toArray kc)]) (fun _ => [(Str.ofString "cells", .ref lc)]) (fun i _ => True) () hh lR (by omega) (by omega) (by omega) (by omega) (by omega) lF ?kn ?kk trivial ?_ ?_
  case kn => exact lN
  case kk => kst_all
  · rintro i t' _ u2 h tk2 own hi hoff _ F1 N1
    dsimp only [kstB] at F1 N1 hoff ⊢
    clear lF lN
    replace N1 : News h₀ L h ((lc, listOf vc.toArray kc) :: own) := N1
    (try k_fold)
    repeat' ((fail_if_success (with_reducible show wpAny _ _ (storeName _ (Str.ofString "b") _) _ _ _)); first | (k_unfold; (try dsimp only)) | walk1 | (dsimp only; walk1))
    refine store_gen (P := fun b => wpAny (model _ _) A (storeName _ _ (Value.int b _)) _ _ _) _ ?_
    intro b hb0 hb5
    walk_at "MINE go"
    · exact absurd rfl (by assumption)
    · exact absurd (units_eq hi) (by assumption)
    · exact Bool.noConfusion ((num_eq hi).symm.trans (by assumption))
    · rename Fr _ _ _ _ => F9
      rename News _ _ _ _ => N9
      rename ∀ p : Addr × Obj, p ∈ (_ : List (Addr × Obj)) → p ∈ (_ : List (Addr × Obj)) => K9
      refine js_end () F9 N9 ?hn ?ho rfl ?hk trivial
      case hn =>
        intro p9 h9
        have k9 := K9 p9 (List.mem_cons.mpr (.inl (List.mem_singleton.mp h9)))
        repeat (first | exact k9 | refine .tail _ ?_)
      case ho =>
        intro p9 h9
        have k9 := K9 p9 (.tail _ h9)
        repeat (first | exact k9 | refine .tail _ ?_)
      case hk => kst_all
  · rintro _ u2 h' tk' _ F1 N1
    dsimp only [kstB] at F1 N1 ⊢
    clear lF lN
    walk_at "MINE go"
    exact hret _ _ F1.keep
end
end Mine

/-! part C1 -/
namespace Mine
theorem back_C1 : True ∧ True := by
  w_top off
  first | (walk1; done) | exact ⟨trivial, trivial⟩
section
open PySem PySem.W PyProof.Rows PySem.Spec PySem.Calls
open LCg LCt
section
variable {prog : Program} {w : World} {A : Around} {h₀ : Heap} {L : Addr} {m : Str → Option Value} {env : Env} {s : Shared}
theorem end_mono {m : Str → Option Value} {s₁ : Shared} {I C D : Addr} {oI oC oD : Obj} {S : List (Addr × Obj) → Prop} {rest rest' : Value → List (Addr × Obj) → Prop} {y : Value} {s₂ : Shared}
    (h : CompEnd h₀ L m s₁ I oI C oC D oD S rest y s₂) (k : ∀ n, rest y n → rest' y n) : CompEnd h₀ L m s₁ I oI C oC D oD S rest' y s₂ := by
  obtain ⟨h', tk, n, e, F, N, o, hS, r⟩ := h
  exact ⟨h', tk, n, e, F, N, o, hS, k n r⟩
/-- a comprehension with a test, any number of turns, by what holds of the list so far -/
theorem comp_ind {ct elt : Expr} {x : Str} {scope : Scope} {cl : List (Str × Addr)} {S : List (Addr × Obj) → Prop} {P : Nat → Value → Prop} {Fin : List Value → List (Addr × Obj) → Prop} {n : Nat} {news : List (Addr × Obj)} (J : Nat → List Value → Prop) (h0 : J 0 [])
    (step : ∀ i v ys I oI C oC D m₂ h tk (E' : Value → Shared → Prop), i < n → P i v → J i ys → NsObj oC m₂ → m₂ x = some v → Fr h₀ L h m → News h₀ L h ((I, oI) :: (C, oC) :: (D, lst ys) :: news) → Off3 I C D news → ((@Ne Nat I C) ∧ (@Ne Nat I D) ∧ (@Ne Nat C D)) →
      wpAny (model prog w) A (isTrue ct (compEnvC scope cl C env) (eval ct (compEnvC scope cl C env))) (fun ok s' => if ok = true then
        wpAny (model prog w) A (eval elt (compEnvC scope cl C env)) (CompEnd h₀ L m { s with heap := h, toks := tk } I oI C oC D (lst ys) S (fun y news' => news' = news ∧ J (i + 1) (ys ++ [y]))) E' s'
        else CompEnd h₀ L m { s with heap := h, toks := tk } I oI C oC D (lst ys) S (fun _ news' => news' = news ∧ J (i + 1) ys) Value.none s') E' { s with heap := h, toks := tk })
    (fin : ∀ ys, J n ys → Fin ys news) : CompRestT prog w A h₀ L m env ct elt x scope cl s S P Fin n 0 [] news := by
  have key : ∀ k i ys, i + k = n → J i ys → CompRestT prog w A h₀ L m env ct elt x scope cl s S P Fin k i ys news := by
    intro k
    induction k with
    | zero =>
      intro i ys e hJ
      exact .zero (fin ys (by rw [← e]; exact hJ))
    | succ k ih =>
      intro i ys e hJ
      refine .succ fun v I oI C oC D m₂ h tk E' hv hC hx F N off ne => ?_
      refine wpAny_mono (step i v ys I oI C oC D m₂ h tk E' (by omega) hv hJ hC hx F N off ne) (fun ok s' z => ?_) fun _ _ z => z
      by_cases hok : ok = true
      · rw [if_pos hok] at z ⊢
        refine wpAny_mono z (fun y s₂ z => end_mono z ?_) fun _ _ z => z
        rintro n9 ⟨e9, z9⟩
        rw [e9]
        exact ih _ _ (by omega) z9
      · rw [if_neg hok] at z ⊢
        refine end_mono z ?_
        rintro n9 ⟨e9, z9⟩
        rw [e9]
        exact ih _ _ (by omega) z9
  exact key n 0 [] (by omega) h0
end
theorem IntsAre_at {vs : List Value} {ns : List Int} (h : IntsAre vs ns) {i : Nat} {v : Value} (e : vs[i]? = some v) : ∃ a t, v = .int a t ∧ ns[i]? = some a := by
  induction h generalizing i with
  | nil => cases e
  | cons a t r ih =>
    cases i with
    | zero => exact ⟨a, t, (Option.some.inj e).symm, rfl⟩
    | succ i => exact ih e
/-- the ints not below a bound, so far -/
def GeJ (ms : List Int) (st : Int) (i : Nat) (ys : List Value) : Prop := IntsAre ys ((ms.take i).filter fun a => decide (st ≤ a))
theorem geJ_yes {ms : List Int} {st a : Int} {t : Tok} {i : Nat} {ys : List Value} (J : GeJ ms st i ys) (h : ms[i]? = some a) (c : st ≤ a) : GeJ ms st (i + 1) (ys ++ [.int a t]) := by
  unfold GeJ at J ⊢
  rw [List.take_add_one, h, List.filter_append]
  have : ([a].filter fun a => decide (st ≤ a)) = [a] := by simp [c]
  show IntsAre _ (_ ++ ([a].filter fun a => decide (st ≤ a)))
  rw [this]
  exact J.append (.cons _ _ .nil)
theorem geJ_no {ms : List Int} {st a : Int} {i : Nat} {ys : List Value} (J : GeJ ms st i ys) (h : ms[i]? = some a) (c : ¬ st ≤ a) : GeJ ms st (i + 1) ys := by
  unfold GeJ at J ⊢
  rw [List.take_add_one, h, List.filter_append]
  have : ([a].filter fun a => decide (st ≤ a)) = [] := by simp; omega
  show IntsAre _ (_ ++ ([a].filter fun a => decide (st ≤ a)))
  rw [this, List.append_nil]
  exact J
theorem geJ_fin {ms : List Int} {st : Int} {n : Nat} {ys : List Value} (J : GeJ ms st n ys) (h : ms.length ≤ n) : IntsAre ys (ms.filter fun a => decide (st ≤ a)) := by
  unfold GeJ at J
  rw [List.take_of_length_le h] at J
  exact J
end
end Mine

/-! part R3 -/
namespace Mine
theorem back_R3 : True ∧ True := by
  w_top off
  first | (walk1; done) | exact ⟨trivial, trivial⟩
section
open PySem PySem.W PyProof.Rows PySem.Spec PySem.Calls

local macro_rules | `(tactic| walk_at "MINE go") => `(tactic| repeat' ((fail_if_success (with_reducible show InvEndN _ _ _ _ _ _ _)); first | (k_unfold; (try dsimp only)) | walk1 | (dsimp only; walk1)))
local macro_rules | `(tactic| walk_at "exec For Name Name cons nil") => `(tactic| (k_here; (rename Fr _ _ _ _ => lF'); (with_unfolding_all refine' For_invVF lF' ?k1 ?k2 ?_; (case k1 => exact rfl); (case k2 => exact rfl); k_whole)))
local macro_rules | `(tactic| walk_at "exec For Name Call cons nil") => `(tactic| (k_here; (rename Fr _ _ _ _ => lF'); (with_unfolding_all refine' For_invVF lF' ?k1 ?k2 ?_; (case k1 => exact rfl); (case k2 => exact rfl); k_whole)))
local macro_rules | `(tactic| walk_at "MINE site") => `(tactic| first | assumption | exact rfl | exact Around.frames_deeper (Below.stack (by assumption)) | (simp only [depth_deeper]; omega) | omega)
local macro_rules | `(tactic| walk_at "MINE str item") => `(tactic| (k_here; (with_reducible show wpAny _ _ (subscriptTail _ _ (Value.str _ _) (Value.int _ _)) _ _ _); (with_unfolding_all refine' m_item_str ?k1 ?k2 ?k3 ?_ ?k5 ?k6); (case k1 => omega); (case k2 => omega); (case k3 => assumption); (case k5 => with_unfolding_all rfl); (case k6 => intro _; with_unfolding_all rfl); intro t'; (try dsimp only)))
local macro_rules | `(tactic| walk_at "MINE int item") => `(tactic| (k_here; (with_reducible show wpAny _ _ (subscriptTail _ _ (Value.ref _) (Value.int _ _)) _ _ _); (with_unfolding_all refine' m_item_ints ?k1 ?k2 ?k3 ?k4 ?k5 ?k6 ?_ ?k8); (case k1 => k_asm); (case k2 => k_memK); (case k3 => assumption); (case k4 => omega); (case k5 => omega); (case k6 => omega); (case k8 => with_unfolding_all rfl); intro t'; (try dsimp only)))
local macro_rules | `(tactic| walk_at "subscriptTail Name Name str int") => `(tactic| walk_at "MINE str item")
local macro_rules | `(tactic| walk_at "subscriptTail Name Name ref int") => `(tactic| walk_at "MINE int item")
local macro_rules | `(tactic| walk_at "call builtin:len") => `(tactic| (k_here; (with_reducible show wpAny _ _ (call (Value.builtin "len") [Value.str _ _]) _ _ _); (refine' m_len_str ?k1 ?_); (case k1 => assumption); intro t'; (try dsimp only)))
local macro_rules | `(tactic| walk_at "call builtin:len") => `(tactic| (k_here; (with_reducible show wpAny _ _ (call (Value.builtin "len") [Value.ref _]) _ _ _); (refine' m_len_list ?k1 ?k2 ?k3 ?_); (case k1 => k_asm); (case k2 => k_memK); (case k3 => first | omega | (simp only [List.length_dropLast]; omega)); intro t'; (try dsimp only)))

local macro_rules | `(tactic| walk_at "MINE room") => `(tactic| first | walk_at "MINE site" | k_room | units_room | decide)
local macro_rules | `(tactic| walk_at "MINE callsite") => `(tactic| ((case k1 => k_asm); (case k2 => k_asm); (case k3 => k_asm); (case k4 => k_asm); (case k5 => k_asm); (case kA => walk_at "MINE site"); (case kf => walk_at "MINE site"); (case kk => walk_at "MINE site"); (case kh => walk_at "MINE site"); (case kd => walk_at "MINE room")))
local macro_rules | `(tactic| walk_at "call ref") => `(tactic| (k_here; (with_reducible show wpAny _ _ (call (Value.ref 81) [Value.int _ _]) _ _ _); (refine' is_numeric_c _ rfl ?k1 ?k2 ?k3 ?k4 ?k5 ?kA ?kf ?kk ?kh ?kd ?_); walk_at "MINE callsite"; intro h' tk' F' N'; (try dsimp only)))
local macro_rules | `(tactic| walk_at "call ref") => `(tactic| (k_here; (with_reducible show wpAny _ _ (call (Value.ref 95) [Value.int _ _]) _ _ _); (refine' units_of_c _ rfl ?k1 ?k2 ?k3 ?k4 ?k5 ?kA ?kf ?kk ?kh ?kd ?_); walk_at "MINE callsite"; intro t' h' tk' F' N'; (try dsimp only)))
local macro_rules | `(tactic| walk_at "call ref") => `(tactic| (k_here; (with_reducible show wpAny _ _ (call (Value.ref 109) _) _ _ _); (show wpAny _ _ (call (Value.ref 109) []) _ _ _); (refine' law_units_c _ rfl ?k1 ?k2 ?k3 ?k4 ?k5 ?kA ?kf ?kk ?kh ?kd ?_); walk_at "MINE callsite"; intro l' vs' k' h' tk' F' N' hI' lt'; (try dsimp only)))
local macro_rules | `(tactic| walk_at "call ref") => `(tactic| (k_here; (with_reducible show wpAny _ _ (call (Value.ref 102) _) _ _ _); (show wpAny _ _ (call (Value.ref 102) []) _ _ _); (refine' law_higher_c _ rfl ?k1 ?k2 ?k3 ?k4 ?k5 ?kA ?kf ?kk ?kh ?kd ?ku ?_); walk_at "MINE callsite"; (case ku => walk_at "MINE room"); intro d' n' h' tk' F' N' T' K'; (try dsimp only)))
local macro_rules | `(tactic| walk_at "call ref") => `(tactic| (k_here; (with_reducible show wpAny _ _ (call (Value.ref 130) [Value.int _ _, Value.int _ _]) _ _ _); (refine' law_kind_c _ rfl ?k1 ?k2 ?k3 ?k4 ?k5 ?kA ?kf ?kk ?kh ?kd ?_); walk_at "MINE callsite"; intro t' h' tk' F' N'; (try dsimp only)))
local macro_rules | `(tactic| walk_at "call builtin:min") => `(tactic| (k_here; (with_reducible show wpAny _ _ (call (Value.builtin _) [Value.int _ _, Value.int _ _]) _ _ _); (rename News _ _ _ _ => N'); (with_unfolding_all apply min_two_N); (case hh => walk_at "MINE site"); (case N => exact N'); (case F => assumption); clear N'; intro _ _ _ _))
local macro_rules | `(tactic| walk_at "call builtin:max") => `(tactic| (k_here; (with_reducible show wpAny _ _ (call (Value.builtin _) [Value.int _ _, Value.int _ _]) _ _ _); (rename News _ _ _ _ => N'); (with_unfolding_all apply max_two_N); (case hh => walk_at "MINE site"); (case N => exact N'); (case F => assumption); clear N'; intro _ _ _ _))

local macro_rules | `(tactic| walk_at "call ref") => `(tactic| (k_here; (with_reducible show wpAny _ _ (call (Value.ref 35) [Value.str _ _, Value.str _ _, Value.int _ _]) _ _ _); (refine' find_open_c _ rfl ?k1 ?k2 ?k3 ?k4 ?k5 ?kA ?kf ?kk ?kh ?ka ?kr ?kd ?_); walk_at "MINE callsite"; (case ka => assumption); (case kr => assumption); intro r' tr' h' tk' F' N' hr'; (try dsimp only)))
theorem start_gen {P : Int → Prop} (x : Int) (n : Nat) (h : ∀ st : Nat, st ≤ n → P (st : Int)) : P (Int.fmod x ((n : Int) + 1)) := by
  have h1 := Int.fmod_nonneg_of_pos x (b := (n : Int) + 1) (by omega)
  have h2 := Int.fmod_lt_of_pos x (b := (n : Int) + 1) (by omega)
  obtain ⟨st, e⟩ := Int.eq_ofNat_of_zero_le h1
  rw [e] at h2 ⊢
  exact h st (by omega)
set_option maxRecDepth 100000 in
set_option maxHeartbeats 1000000 in
theorem rest3 (w : World) {p : Program} {loose : List Str} {mean : ExcName → Option Value} {mg mb : Str → Option Value} (_h : PySem.Challenge.rw_no0226_01 = PySem.Challenge.rw_no0226_01)
    {A A₀ : Around} {base h₀ : Heap} {L fa : Addr} {cd : Value} {cl : List (Str × Addr)} {u : Str → Option Value} {s : Shared} {Q : Flow → Shared → Prop}
    (B : Below A₀ base [] h₀) (X : (Mine.hd.heap_39 w.params).In h₀) (T : Top p loose mean mg mb h₀)
    (hA : A.frames = some [envX (Str.ofString "law") (lawScope w.params) L fa cd cl]) (hh : A.handled = none) (hd : A.depth + 10 < recursionLimit) (hu : A.units + 200 < cLine)
    {lc lm c : Addr} {vc vm : List Value} {cs : List Int} {kc km : Nat} {row : Str} {tr : Tok} {oc : Obj} (hcl : cl = [(Str.ofString "start", c)]) (hw : Wf row) (hrow : row.cps.size ≤ 64)
    (F : Fr h₀ L s.heap (kstB u [(Str.ofString "cells", .ref lc), (Str.ofString "row", .str row tr), (Str.ofString "commas", .ref lm)])) (N : News h₀ L s.heap [(lm, listOf vm.toArray km), (lc, listOf vc.toArray kc), (c, oc)])
    (hoc : oc.data = .cell none) (hI : IntsAre vc cs) (hcs : 3 ≤ cs.length) (hcs2 : cs.length ≤ 64) (hM : IntsAre vm (pAt row row.cps.size).commas)
    (ho1 : @LT.lt Nat _ c lc) (ho2 : @LT.lt Nat _ lc lm)
    (hret : ∀ h' tk', (∀ b o, h₀.get? b = some o → h'.get? b = some o) → Q (.ret (.bool true)) { s with heap := h', toks := tk' }) :
    wpAny (model PySem.Challenge.pw_no0226_01 w) A (execs ((lawStmts w.params).drop 10) (envX (Str.ofString "law") (lawScope w.params) L fa cd cl)) Q (fun _ _ => False) s := by
  have hke : (envX (Str.ofString "law") (lawScope w.params) L fa cd cl).scope.kind = .function := rfl
  have hf : (envX (Str.ofString "law") (lawScope w.params) L fa cd cl).frame = some L := rfl
  revert hA hke hf
  show A.frames = some [envX _ (Scope.mk _ _ _ _ _) L fa cd cl] → _ → _ → wpAny _ _ (execs (_ :: _ :: _ :: _ :: _ :: []) (envX _ (Scope.mk _ _ _ _ _) L fa cd cl)) _ _ _
  intro hA hke hf
  revert X _h; k_fill; intro _h X
  clear _h
  (try k_fold)
  subst hcl
  dsimp only [kstB] at F
  have hcm := commas_is hw _ (Nat.le_refl _)
  have hcl := (pAt_len row row.cps.size).2.2.2
  have hMl := hM.length
  repeat' ((fail_if_success (with_reducible show wpAny _ _ (storeName _ (Str.ofString "start") _) _ _ _)); first | (k_unfold; (try dsimp only)) | walk1 | (dsimp only; walk1))
  refine start_gen (P := fun b => wpAny (model _ _) A (storeName _ _ (Value.int b _)) _ _ _) _ _ ?_
  intro st hst
  repeat' ((fail_if_success (with_reducible show wpAny _ _ (exec (Stmt.Assign _ (Expr.ListComp _ _ _ _) _) _) _ _ _)); first | (k_unfold; (try dsimp only)) | walk1 | (dsimp only; walk1))
  rename Fr _ _ _ _ => lF
  rename News _ _ _ _ => lN
  rename _ = Data.cell (some _) => lD
  refine LCt.Assign_ListComp_T (F₀ := lF) rfl (by with_unfolding_all rfl) (by with_unfolding_all rfl) (by decide) (by rfl) (by decide) (by rfl) (by rfl) (by rfl) ?_
  walk1
  refine LCt.CompSrcT.ledger hh lF lN (.head _) (by rw [List.size_toArray, sizeLine_eq]; omega) ?_
  intro g'
  refine comp_ind (GeJ (pAt row row.cps.size).commas (st : Int)) .nil ?_ ?_
  · intro i v ys I oI C oC D m₂ h tk2 E' hi hv hJ hC hx F1 N1 off ne
    obtain ⟨a, t, rfl, ha⟩ := IntsAre_at hM (i := i) (v := v) (by simpa using hv)
    clear lF lN
    walk_at "MINE go"
    · exact LCg.CompEnd.intro F1 N1 _ (fun _ h => h) off (.inr ⟨_, .head _, rfl, _, rfl⟩) ⟨rfl, geJ_yes hJ ha (by assumption)⟩
    · exact LCg.CompEnd.intro F1 N1 _ (fun _ h => h) off (.inr ⟨_, .head _, rfl, _, rfl⟩) ⟨rfl, geJ_no hJ ha (by assumption)⟩
  · intro ys hJ
    have hY := geJ_fin hJ (by rw [List.size_toArray]; exact Nat.le_of_eq hMl.symm)
    have hYl := hY.length
    have hfl := List.length_filter_le (fun a => decide ((st : Int) ≤ a)) (pAt row row.cps.size).commas
    intro D h tk2 F1 N1 off
    clear lF lN
    repeat' ((fail_if_success (with_reducible show wpAny _ _ (execs [Stmt.For _ _ _ _ _, Stmt.Return _ _] _) _ _ _)); first | (k_unfold; (try dsimp only)) | walk1 | (dsimp only; walk1))
    · rename (_ = -1 ∧ _) ∨ _ => hr9
      rename _ ≠ _ => hn9
      have hf9 := find_law hr9
      rw [← hcm] at hf9
      refine absurd ?_ hn9
      rw [List.getD_eq_getElem?_getD]
      exact (congrArg (fun o : Option Int => o.getD 0) hf9).symm
    · rename Fr _ _ _ _ => F9
      rename News _ _ _ _ => N9
      have N8 : News h₀ L _ [(lc, listOf vc.toArray kc)] := fun p9 h9 => by
        rw [List.mem_singleton.mp h9]
        exact N9 _ (by repeat (first | exact .head _ | refine .tail _ ?_))
      refine rest4 w rfl B X T hA hh hd hu (fr_kst F9 (ps := [(Str.ofString "cells", .ref lc)]) ?_) N8 hI hcs hcs2 fun h' tk' k9 => hret h' tk' k9
      kst_all
end
end Mine

/-! part R2 -/
namespace Mine
theorem back_R2 : True ∧ True := by
  w_top off
  first | (walk1; done) | exact ⟨trivial, trivial⟩
section
open PySem PySem.W PyProof.Rows PySem.Spec PySem.Calls

local macro_rules | `(tactic| walk_at "MINE go") => `(tactic| repeat' ((fail_if_success (with_reducible show InvEndN _ _ _ _ _ _ _)); first | (k_unfold; (try dsimp only)) | walk1 | (dsimp only; walk1)))
local macro_rules | `(tactic| walk_at "exec For Name Name cons nil") => `(tactic| (k_here; (rename Fr _ _ _ _ => lF'); (with_unfolding_all refine' For_invVF lF' ?k1 ?k2 ?_; (case k1 => exact rfl); (case k2 => exact rfl); k_whole)))
local macro_rules | `(tactic| walk_at "exec For Name Call cons nil") => `(tactic| (k_here; (rename Fr _ _ _ _ => lF'); (with_unfolding_all refine' For_invVF lF' ?k1 ?k2 ?_; (case k1 => exact rfl); (case k2 => exact rfl); k_whole)))
local macro_rules | `(tactic| walk_at "MINE site") => `(tactic| first | assumption | exact rfl | exact Around.frames_deeper (Below.stack (by assumption)) | (simp only [depth_deeper]; omega) | omega)
local macro_rules | `(tactic| walk_at "MINE str item") => `(tactic| (k_here; (with_reducible show wpAny _ _ (subscriptTail _ _ (Value.str _ _) (Value.int _ _)) _ _ _); (with_unfolding_all refine' m_item_str ?k1 ?k2 ?k3 ?_ ?k5 ?k6); (case k1 => omega); (case k2 => omega); (case k3 => assumption); (case k5 => with_unfolding_all rfl); (case k6 => intro _; with_unfolding_all rfl); intro t'; (try dsimp only)))
local macro_rules | `(tactic| walk_at "MINE int item") => `(tactic| (k_here; (with_reducible show wpAny _ _ (subscriptTail _ _ (Value.ref _) (Value.int _ _)) _ _ _); (with_unfolding_all refine' m_item_ints ?k1 ?k2 ?k3 ?k4 ?k5 ?k6 ?_ ?k8); (case k1 => k_asm); (case k2 => k_memK); (case k3 => assumption); (case k4 => omega); (case k5 => omega); (case k6 => omega); (case k8 => with_unfolding_all rfl); intro t'; (try dsimp only)))
local macro_rules | `(tactic| walk_at "subscriptTail Name Name str int") => `(tactic| walk_at "MINE str item")
local macro_rules | `(tactic| walk_at "subscriptTail Name Name ref int") => `(tactic| walk_at "MINE int item")
local macro_rules | `(tactic| walk_at "call builtin:len") => `(tactic| (k_here; (with_reducible show wpAny _ _ (call (Value.builtin "len") [Value.str _ _]) _ _ _); (refine' m_len_str ?k1 ?_); (case k1 => assumption); intro t'; (try dsimp only)))
local macro_rules | `(tactic| walk_at "call builtin:len") => `(tactic| (k_here; (with_reducible show wpAny _ _ (call (Value.builtin "len") [Value.ref _]) _ _ _); (refine' m_len_list ?k1 ?k2 ?k3 ?_); (case k1 => k_asm); (case k2 => k_memK); (case k3 => first | omega | (simp only [List.length_dropLast]; omega)); intro t'; (try dsimp only)))

local macro_rules | `(tactic| walk_at "MINE room") => `(tactic| first | walk_at "MINE site" | k_room | units_room | decide)
local macro_rules | `(tactic| walk_at "MINE callsite") => `(tactic| ((case k1 => k_asm); (case k2 => k_asm); (case k3 => k_asm); (case k4 => k_asm); (case k5 => k_asm); (case kA => walk_at "MINE site"); (case kf => walk_at "MINE site"); (case kk => walk_at "MINE site"); (case kh => walk_at "MINE site"); (case kd => walk_at "MINE room")))
local macro_rules | `(tactic| walk_at "call ref") => `(tactic| (k_here; (with_reducible show wpAny _ _ (call (Value.ref 81) [Value.int _ _]) _ _ _); (refine' is_numeric_c _ rfl ?k1 ?k2 ?k3 ?k4 ?k5 ?kA ?kf ?kk ?kh ?kd ?_); walk_at "MINE callsite"; intro h' tk' F' N'; (try dsimp only)))
local macro_rules | `(tactic| walk_at "call ref") => `(tactic| (k_here; (with_reducible show wpAny _ _ (call (Value.ref 95) [Value.int _ _]) _ _ _); (refine' units_of_c _ rfl ?k1 ?k2 ?k3 ?k4 ?k5 ?kA ?kf ?kk ?kh ?kd ?_); walk_at "MINE callsite"; intro t' h' tk' F' N'; (try dsimp only)))
local macro_rules | `(tactic| walk_at "call ref") => `(tactic| (k_here; (with_reducible show wpAny _ _ (call (Value.ref 109) _) _ _ _); (show wpAny _ _ (call (Value.ref 109) []) _ _ _); (refine' law_units_c _ rfl ?k1 ?k2 ?k3 ?k4 ?k5 ?kA ?kf ?kk ?kh ?kd ?_); walk_at "MINE callsite"; intro l' vs' k' h' tk' F' N' hI' lt'; (try dsimp only)))
local macro_rules | `(tactic| walk_at "call ref") => `(tactic| (k_here; (with_reducible show wpAny _ _ (call (Value.ref 102) _) _ _ _); (show wpAny _ _ (call (Value.ref 102) []) _ _ _); (refine' law_higher_c _ rfl ?k1 ?k2 ?k3 ?k4 ?k5 ?kA ?kf ?kk ?kh ?kd ?ku ?_); walk_at "MINE callsite"; (case ku => walk_at "MINE room"); intro d' n' h' tk' F' N' T' K'; (try dsimp only)))
local macro_rules | `(tactic| walk_at "call ref") => `(tactic| (k_here; (with_reducible show wpAny _ _ (call (Value.ref 130) [Value.int _ _, Value.int _ _]) _ _ _); (refine' law_kind_c _ rfl ?k1 ?k2 ?k3 ?k4 ?k5 ?kA ?kf ?kk ?kh ?kd ?_); walk_at "MINE callsite"; intro t' h' tk' F' N'; (try dsimp only)))
local macro_rules | `(tactic| walk_at "call builtin:min") => `(tactic| (k_here; (with_reducible show wpAny _ _ (call (Value.builtin _) [Value.int _ _, Value.int _ _]) _ _ _); (rename News _ _ _ _ => N'); (with_unfolding_all apply min_two_N); (case hh => walk_at "MINE site"); (case N => exact N'); (case F => assumption); clear N'; intro _ _ _ _))
local macro_rules | `(tactic| walk_at "call builtin:max") => `(tactic| (k_here; (with_reducible show wpAny _ _ (call (Value.builtin _) [Value.int _ _, Value.int _ _]) _ _ _); (rename News _ _ _ _ => N'); (with_unfolding_all apply max_two_N); (case hh => walk_at "MINE site"); (case N => exact N'); (case F => assumption); clear N'; intro _ _ _ _))

local macro_rules | `(tactic| walk_at "call ref") => `(tactic| (k_here; (with_reducible show wpAny _ _ (call (Value.ref 42) [Value.str _ _, Value.str _ _]) _ _ _); (refine' split_open_c _ rfl ?k1 ?k2 ?k3 ?k4 ?k5 ?kA ?kf ?kk ?kh ?kr ?kd ?_); walk_at "MINE callsite"; (case kr => assumption); intro l' vs' k' h' tk' F' N' hS' lt'; (try dsimp only)))
theorem m_join {prog : Program} {w : World} {A : Around} {E : Value → Shared → Prop} {s : Shared} {h₀ : Heap} {L D : Addr} {t : Tok} {news : List (Addr × Obj)} {vs : List Value} {k : Nat} {row : Str} {Q : Value → Shared → Prop}
    (N : News h₀ L s.heap news) (hm : (D, listOf vs.toArray k) ∈ news) (hS : StrsAre vs (partsOf row)) (hrow : row.cps.size ≤ 64) (h : ∀ t' k', Q (.str row t') { s with toks := k' }) : wpAny (model prog w) A (call (.builtin "str.join") [.str (Str.ofString ",") t, .ref D]) Q E s := by
  have hl : s.heap.IsList D vs.toArray := ⟨_, (N _ hm).1, rfl, k, rfl⟩
  refine join_listC hl (by simpa using hS) (by decide +kernel) ?_ fun t' k' => ?_
  · have h1 := parts_sum (row := row)
    have h2 := parts_len (row := row)
    have h3 : (cN row row.cps.size).length ≤ row.cps.size := by
      unfold cN
      refine Nat.le_trans (List.length_filter_le _ _) ?_
      rw [List.length_range]; exact Nat.le_refl _
    omega
  · rw [join_law]; exact h t' k'
local macro_rules | `(tactic| walk_at "call builtin:str.join") => `(tactic| (k_here; (with_reducible show wpAny _ _ (call (Value.builtin "str.join") [Value.str _ _, Value.ref _]) _ _ _); (refine' m_join ?k1 ?k2 ?k3 ?k4 ?_); (case k1 => k_asm); (case k2 => k_memK); (case k3 => assumption); (case k4 => assumption); intro t' k'; (try dsimp only)))
local macro_rules | `(tactic| walk_at "MINE strs item") => `(tactic| (k_here; (with_reducible show wpAny _ _ (subscriptTail _ _ (Value.ref _) (Value.int _ _)) _ _ _); (with_unfolding_all refine' m_item_strs ?k1 ?k2 ?k3 ?k4 ?k5 ?k6 ?_ ?k8); (case k1 => k_asm); (case k2 => k_memK); (case k3 => assumption); (case k4 => omega); (case k5 => omega); (case k6 => omega); (case k8 => with_unfolding_all rfl); intro t'; (try dsimp only)))
local macro_rules | `(tactic| walk_at "subscriptTail Name Name ref int") => `(tactic| walk_at "MINE strs item")
local macro_rules | `(tactic| walk_at "loadName") => `(tactic| (k_here; (rename Fr _ _ _ _ => lF'); (refine wpAny_loadName_local (by rfl) (by rfl) lF'.ns (by rfl) ?_); (try dsimp only)))
set_option maxRecDepth 100000 in
set_option maxHeartbeats 1000000 in
theorem rest2 (w : World) {p : Program} {loose : List Str} {mean : ExcName → Option Value} {mg mb : Str → Option Value} (_h : PySem.Challenge.rw_no0226_01 = PySem.Challenge.rw_no0226_01)
    {A A₀ : Around} {base h₀ : Heap} {L fa : Addr} {cd : Value} {cl : List (Str × Addr)} {u : Str → Option Value} {s : Shared} {Q : Flow → Shared → Prop}
    (B : Below A₀ base [] h₀) (X : (Mine.hd.heap_39 w.params).In h₀) (T : Top p loose mean mg mb h₀)
    (hA : A.frames = some [envX (Str.ofString "law") (lawScope w.params) L fa cd cl]) (hh : A.handled = none) (hd : A.depth + 10 < recursionLimit) (hu : A.units + 200 < cLine)
    {lc lm c : Addr} {vc vm : List Value} {cs : List Int} {kc km : Nat} {row : Str} {tr : Tok} {oc : Obj} (hcl : cl = [(Str.ofString "start", c)]) (hw : Wf row) (hrow : row.cps.size ≤ 64)
    (F : Fr h₀ L s.heap (kstB u [(Str.ofString "cells", .ref lc), (Str.ofString "row", .str row tr), (Str.ofString "commas", .ref lm)])) (N : News h₀ L s.heap [(lm, listOf vm.toArray km), (lc, listOf vc.toArray kc), (c, oc)])
    (hoc : oc.data = .cell none) (hI : IntsAre vc cs) (hcs : 3 ≤ cs.length) (hcs2 : cs.length ≤ 64) (hM : IntsAre vm (pAt row row.cps.size).commas)
    (ho1 : @LT.lt Nat _ c lc) (ho2 : @LT.lt Nat _ lc lm)
    (hret : ∀ h' tk', (∀ b o, h₀.get? b = some o → h'.get? b = some o) → Q (.ret (.bool true)) { s with heap := h', toks := tk' }) :
    wpAny (model PySem.Challenge.pw_no0226_01 w) A (execs ((lawStmts w.params).drop 6) (envX (Str.ofString "law") (lawScope w.params) L fa cd cl)) Q (fun _ _ => False) s := by
  have hke : (envX (Str.ofString "law") (lawScope w.params) L fa cd cl).scope.kind = .function := rfl
  have hf : (envX (Str.ofString "law") (lawScope w.params) L fa cd cl).frame = some L := rfl
  revert hA hke hf
  show A.frames = some [envX _ (Scope.mk _ _ _ _ _) L fa cd cl] → _ → _ → wpAny _ _ (execs (_ :: _ :: _ :: _ :: _ :: _ :: _ :: _ :: _ :: []) (envX _ (Scope.mk _ _ _ _ _) L fa cd cl)) _ _ _
  intro hA hke hf
  revert X _h; k_fill; intro _h X
  clear _h
  (try k_fold)
  dsimp only [kstB] at F
  have hcm := commas_is hw _ (Nat.le_refl _)
  have hcml := congrArg List.length hcm
  rw [List.length_map] at hcml
  have hcl2 := (pAt_len row row.cps.size).2.2.2
  have hMl := hM.length
  have hpl := parts_len (row := row)
  have kM := kstMark
  repeat' ((fail_if_success (with_reducible show wpAny _ _ (pyIter _) _ _ _)); first | (k_unfold; (try dsimp only)) | walk1 | (dsimp only; walk1))
  · omega
  · exact Bool.noConfusion ((bne_self_eq_false row).symm.trans (by assumption))
  rename Fr _ _ _ _ => lF
  rename News _ _ _ _ => lN
  rename IsRange _ _ _ _ _ _ _ _ => lR
  rename StrsAre _ _ => lS
  rename ∀ p : Addr × Obj, p ∈ (_ : List (Addr × Obj)) → p.1 < (_ : Addr) => lLt
  rename_i lp vs kp _ _ _ _ _ _ _ _ _ _ _ _ _ _ _ _
  refine' my_range (σ := Int × Tok) (cN row row.cps.size).length (fun _ => [(lp, listOf vs.toArray kp), (lm, listOf vm.toArray km), (lc, listOf vc.toArray kc), (c, oc)])
    (fun c => [(Str.ofString "cells", .ref lc), (Str.ofString "row", .str row tr), (Str.ofString "commas", .ref lm), (Str.ofString "parts", .ref lp), (Str.ofString "place", .int c.1 c.2)])
    (fun i c => c.1 = (beg (cN row row.cps.size) i : Int)) (0, _) hh lR (by omega) (by omega) (by omega) (by omega) (by omega) lF ?kn ?kk rfl ?_ ?_
  case kn => exact lN
  case kk => kst_all
  · rintro i t' ⟨pl, tp⟩ u2 h tk2 own hi hoff hJ F1 N1
    dsimp only [kstB] at hJ F1 N1 hoff ⊢
    clear lF lN
    have hplace := place_law hi
    have hcn := (spI (row := row) row.cps.size).part i hi
    have hps : ((partsOf row).getD ((0 : Int) + (i : Int)).toNat PySem.Str.empty).cps.size ≤ 64 := by
      rw [z0]; omega
    have hcg : (pAt row row.cps.size).commas.getD ((0 : Int) + (i : Int)).toNat 0 = (((cN row row.cps.size).getD i 0 : Nat) : Int) := by
      rw [z0, hcm, List.getD_eq_getElem?_getD, List.getElem?_map, List.getD_eq_getElem?_getD, List.getElem?_eq_getElem hi]; rfl
    have hpg : (((partsOf row).getD ((0 : Int) + (i : Int)).toNat PySem.Str.empty).cps.size : Int) = (((partsOf row).getD i PySem.Str.empty).cps.size : Int) := by rw [z0]
    have hbs := beg_succ (cs := cN row row.cps.size) i
    have kM := kstMark
    replace N1 : News h₀ L h ((lp, listOf vs.toArray kp) :: (lm, listOf vm.toArray km) :: (lc, listOf vc.toArray kc) :: (c, oc) :: own) := N1
    (try k_fold)
    walk_at "MINE go"
    · refine absurd ?_ (by assumption)
      rw [hcg, hpg, hJ]
      omega
    · rename Fr _ _ _ _ => F9
      rename News _ _ _ _ => N9
      refine' js_end ⟨_, _⟩ F9 N9 ?hn ?ho rfl ?hk ?hj
      case hn => exact fun p9 h9 => (List.mem_append_left own h9)
      case ho => exact fun p9 h9 => .tail _ (.tail _ (.tail _ (.tail _ h9)))
      case hk => kst_all
      case hj =>
        dsimp only
        rw [hpg, hJ, hbs]
        omega
  · rintro ⟨pl, tp⟩ u2 h' tk' hJ F1 N1
    dsimp only [kstB] at hJ F1 N1 ⊢
    clear lF lN
    have N8 : News h₀ L h' [(lm, listOf vm.toArray km), (lc, listOf vc.toArray kc), (c, oc)] := fun p9 h9 => N1 p9 (.tail _ h9)
    refine rest3 w rfl B X T hA hh hd hu hcl hw hrow (fr_kst F1 (ps := [(Str.ofString "cells", .ref lc), (Str.ofString "row", .str row tr), (Str.ofString "commas", .ref lm)]) ?_) N8 hoc hI hcs hcs2 hM ho1 ho2 fun h' tk' k9 => hret h' tk' k9
    kst_all
end
end Mine

/-! part R1 -/
namespace Mine
theorem back_R1 : True ∧ True := by
  w_top off
  first | (walk1; done) | exact ⟨trivial, trivial⟩
section
open PySem PySem.W PyProof.Rows PySem.Spec PySem.Calls

local macro_rules | `(tactic| walk_at "MINE go") => `(tactic| repeat' ((fail_if_success (with_reducible show InvEndN _ _ _ _ _ _ _)); first | (k_unfold; (try dsimp only)) | walk1 | (dsimp only; walk1)))
local macro_rules | `(tactic| walk_at "exec For Name Name cons nil") => `(tactic| (k_here; (rename Fr _ _ _ _ => lF'); (with_unfolding_all refine' For_invVF lF' ?k1 ?k2 ?_; (case k1 => exact rfl); (case k2 => exact rfl); k_whole)))
local macro_rules | `(tactic| walk_at "exec For Name Call cons nil") => `(tactic| (k_here; (rename Fr _ _ _ _ => lF'); (with_unfolding_all refine' For_invVF lF' ?k1 ?k2 ?_; (case k1 => exact rfl); (case k2 => exact rfl); k_whole)))
local macro_rules | `(tactic| walk_at "MINE site") => `(tactic| first | assumption | exact rfl | exact Around.frames_deeper (Below.stack (by assumption)) | (simp only [depth_deeper]; omega) | omega)
local macro_rules | `(tactic| walk_at "MINE str item") => `(tactic| (k_here; (with_reducible show wpAny _ _ (subscriptTail _ _ (Value.str _ _) (Value.int _ _)) _ _ _); (with_unfolding_all refine' m_item_str ?k1 ?k2 ?k3 ?_ ?k5 ?k6); (case k1 => omega); (case k2 => omega); (case k3 => assumption); (case k5 => with_unfolding_all rfl); (case k6 => intro _; with_unfolding_all rfl); intro t'; (try dsimp only)))
local macro_rules | `(tactic| walk_at "MINE int item") => `(tactic| (k_here; (with_reducible show wpAny _ _ (subscriptTail _ _ (Value.ref _) (Value.int _ _)) _ _ _); (with_unfolding_all refine' m_item_ints ?k1 ?k2 ?k3 ?k4 ?k5 ?k6 ?_ ?k8); (case k1 => k_asm); (case k2 => k_memK); (case k3 => assumption); (case k4 => omega); (case k5 => omega); (case k6 => omega); (case k8 => with_unfolding_all rfl); intro t'; (try dsimp only)))
local macro_rules | `(tactic| walk_at "subscriptTail Name Name str int") => `(tactic| walk_at "MINE str item")
local macro_rules | `(tactic| walk_at "subscriptTail Name Name ref int") => `(tactic| walk_at "MINE int item")
local macro_rules | `(tactic| walk_at "call builtin:len") => `(tactic| (k_here; (with_reducible show wpAny _ _ (call (Value.builtin "len") [Value.str _ _]) _ _ _); (refine' m_len_str ?k1 ?_); (case k1 => assumption); intro t'; (try dsimp only)))
local macro_rules | `(tactic| walk_at "call builtin:len") => `(tactic| (k_here; (with_reducible show wpAny _ _ (call (Value.builtin "len") [Value.ref _]) _ _ _); (refine' m_len_list ?k1 ?k2 ?k3 ?_); (case k1 => k_asm); (case k2 => k_memK); (case k3 => first | omega | (simp only [List.length_dropLast]; omega)); intro t'; (try dsimp only)))

local macro_rules | `(tactic| walk_at "MINE room") => `(tactic| first | walk_at "MINE site" | k_room | units_room | decide)
local macro_rules | `(tactic| walk_at "MINE callsite") => `(tactic| ((case k1 => k_asm); (case k2 => k_asm); (case k3 => k_asm); (case k4 => k_asm); (case k5 => k_asm); (case kA => walk_at "MINE site"); (case kf => walk_at "MINE site"); (case kk => walk_at "MINE site"); (case kh => walk_at "MINE site"); (case kd => walk_at "MINE room")))
local macro_rules | `(tactic| walk_at "call ref") => `(tactic| (k_here; (with_reducible show wpAny _ _ (call (Value.ref 81) [Value.int _ _]) _ _ _); (refine' is_numeric_c _ rfl ?k1 ?k2 ?k3 ?k4 ?k5 ?kA ?kf ?kk ?kh ?kd ?_); walk_at "MINE callsite"; intro h' tk' F' N'; (try dsimp only)))
local macro_rules | `(tactic| walk_at "call ref") => `(tactic| (k_here; (with_reducible show wpAny _ _ (call (Value.ref 95) [Value.int _ _]) _ _ _); (refine' units_of_c _ rfl ?k1 ?k2 ?k3 ?k4 ?k5 ?kA ?kf ?kk ?kh ?kd ?_); walk_at "MINE callsite"; intro t' h' tk' F' N'; (try dsimp only)))
local macro_rules | `(tactic| walk_at "call ref") => `(tactic| (k_here; (with_reducible show wpAny _ _ (call (Value.ref 109) _) _ _ _); (show wpAny _ _ (call (Value.ref 109) []) _ _ _); (refine' law_units_c _ rfl ?k1 ?k2 ?k3 ?k4 ?k5 ?kA ?kf ?kk ?kh ?kd ?_); walk_at "MINE callsite"; intro l' vs' k' h' tk' F' N' hI' lt'; (try dsimp only)))
local macro_rules | `(tactic| walk_at "call ref") => `(tactic| (k_here; (with_reducible show wpAny _ _ (call (Value.ref 102) _) _ _ _); (show wpAny _ _ (call (Value.ref 102) []) _ _ _); (refine' law_higher_c _ rfl ?k1 ?k2 ?k3 ?k4 ?k5 ?kA ?kf ?kk ?kh ?kd ?ku ?_); walk_at "MINE callsite"; (case ku => walk_at "MINE room"); intro d' n' h' tk' F' N' T' K'; (try dsimp only)))
local macro_rules | `(tactic| walk_at "call ref") => `(tactic| (k_here; (with_reducible show wpAny _ _ (call (Value.ref 130) [Value.int _ _, Value.int _ _]) _ _ _); (refine' law_kind_c _ rfl ?k1 ?k2 ?k3 ?k4 ?k5 ?kA ?kf ?kk ?kh ?kd ?_); walk_at "MINE callsite"; intro t' h' tk' F' N'; (try dsimp only)))
local macro_rules | `(tactic| walk_at "call builtin:min") => `(tactic| (k_here; (with_reducible show wpAny _ _ (call (Value.builtin _) [Value.int _ _, Value.int _ _]) _ _ _); (rename News _ _ _ _ => N'); (with_unfolding_all apply min_two_N); (case hh => walk_at "MINE site"); (case N => exact N'); (case F => assumption); clear N'; intro _ _ _ _))
local macro_rules | `(tactic| walk_at "call builtin:max") => `(tactic| (k_here; (with_reducible show wpAny _ _ (call (Value.builtin _) [Value.int _ _, Value.int _ _]) _ _ _); (rename News _ _ _ _ => N'); (with_unfolding_all apply max_two_N); (case hh => walk_at "MINE site"); (case N => exact N'); (case F => assumption); clear N'; intro _ _ _ _))

local macro_rules | `(tactic| walk_at "call ref") => `(tactic| (k_here; (with_reducible show wpAny _ _ (call (Value.ref 21) [Value.str _ _]) _ _ _); (refine' depths_c _ rfl ?k1 ?k2 ?k3 ?k4 ?k5 ?kA ?kf ?kk ?kh ?kr ?kd ?_); (case k1 => k_asm); (case k2 => k_asm); (case k3 => k_asm); (case k4 => k_asm); (case k5 => k_asm); (case kA => walk_at "MINE site"); (case kf => walk_at "MINE site"); (case kk => walk_at "MINE site"); (case kh => walk_at "MINE site"); (case kr => walk_at "MINE site"); (case kd => walk_at "MINE site"); intro l' vs' k' h' tk' F' N' hI' lt'; (try dsimp only)))

local macro_rules | `(tactic| walk_at "call ref") => `(tactic| (k_here; (with_reducible show wpAny _ _ (call (Value.ref 116) [Value.str _ _]) _ _ _); (refine' law_pile_c _ rfl ?k1 ?k2 ?k3 ?k4 ?k5 ?kA ?kf ?kk ?kh ?kw ?kr ?kd ?ku ?_); walk_at "MINE callsite"; (case kw => assumption); (case kr => assumption); (case ku => walk_at "MINE room"); intro tp' cm' lv' de' vc' vl' kc' kl' od' kvs' h' tk' F' N' hD' hF' hL' hC' ha' hb' hc' hd'; (try dsimp only)))
local macro_rules | `(tactic| walk_at "assign Tuple") => `(tactic| (k_here; (with_reducible show wpAny _ _ (assign (Expr.Tuple _ _ _) _ (Value.ref _)) _ _ _); k_dflt (refine' unpackN_ ?k1 ?k2 ?k3 ?k4 ?k5 ?k6 ?_; (case k1 => k_asm); (case k2 => k_asm); (case k3 => exact News.isTup (by k_asm) (by k_mem)); (case k4 => first | exact rfl | assumption); (case k5 => first | exact rfl | assumption); (case k6 => first | exact rfl | assumption); k_whole); intro h' F' N'; (try k_sweep)))
local macro_rules | `(tactic| walk_at "call ref") => `(tactic| (k_here; (with_reducible show wpAny _ _ (call (Value.ref 28) [Value.str _ _, Value.int _ _]) _ _ _); (refine' closing_c _ rfl ?k1 ?k2 ?k3 ?k4 ?k5 ?kA ?kf ?kk ?kh ?ka ?kr ?kd ?_); walk_at "MINE callsite"; (case ka => assumption); (case kr => assumption); intro r' tr' h' tk' F' N' hr'; (try dsimp only)))
theorem m_ends {prog : Program} {w : World} {A : Around} {E : Value → Shared → Prop} {s : Shared} {h₀ : Heap} {L d : Addr} {news : List (Addr × Obj)} {od : Obj} {kvs : List (Int × Value)} {en : List (Int × Int)} {k : Int} {tk : Tok} {value slice : Expr} {Q : Value → Shared → Prop}
    (N : News h₀ L s.heap news) (hm : (d, od) ∈ news) (hD : od.IsDictOf (PySem.intKind prog w) kvs) (hF : PyProof.V.FlatPairs PyData.int kvs (kdfD en)) (hsys : (d == sysModules) = false) (hk : kdfHas en k = true)
    (h : ∀ t, Q (.int (kdfLook en k 0) t) { s with toks := s.toks + 1 })
    (hs : subscripted slice false (.ref d) (.int k tk) = operate [.ref d, .int k tk] (getItem (.ref d) (.int k tk)) := by with_unfolding_all rfl) (hg : ∀ r, letTemporaryGo value (.ref d) r = pure () := by intro _; with_unfolding_all rfl) :
    wpAny (model prog w) A (subscriptTail value slice (.ref d) (.int k tk)) Q E s :=
  kdf_item ⟨hsys, kvs, Heap.dictOf_iff.mpr ⟨od, (N _ hm).1, hD⟩, hF⟩ hk h hs hg
theorem has_of {kvs : List (Int × Value)} {en : List (Int × Int)} {i : Nat} {k : Int} {y : Value} (hF : PyProof.V.FlatPairs PyData.int kvs (kdfD en)) (h : kvs[i]? = some (k, y)) : kdfHas en k = true := by
  rw [← kdfD_isSome, ← hF.isSome PyProof.V.same_int]
  unfold valueAt
  rw [Option.isSome_map, List.find?_isSome]
  exact ⟨(k, y), List.mem_of_getElem? h, by simp⟩
local macro_rules | `(tactic| walk_at "MINE dict item") => `(tactic| (k_here; (with_reducible show wpAny _ _ (subscriptTail _ _ (Value.ref _) (Value.int _ _)) _ _ _); (with_unfolding_all refine' m_ends ?k1 ?k2 ?k3 ?k4 ?k5 ?k6 ?_ ?k7 ?k8); (case k1 => k_asm); (case k3 => assumption); (case k2 => k_memK); (case k4 => assumption); (case k5 => assumption); (case k6 => assumption); (case k7 => with_unfolding_all rfl); (case k8 => intro _; with_unfolding_all rfl); intro t'; (try dsimp only)))
local macro_rules | `(tactic| walk_at "subscriptTail Name Name ref int") => `(tactic| walk_at "MINE dict item")
set_option maxRecDepth 100000 in
set_option maxHeartbeats 1000000 in
theorem rest1 (w : World) {p : Program} {loose : List Str} {mean : ExcName → Option Value} {mg mb : Str → Option Value} (_h : PySem.Challenge.rw_no0226_01 = PySem.Challenge.rw_no0226_01)
    {A A₀ : Around} {base h₀ : Heap} {L fa : Addr} {cd : Value} {cl : List (Str × Addr)} {u : Str → Option Value} {s : Shared} {Q : Flow → Shared → Prop}
    (B : Below A₀ base [] h₀) (X : (Mine.hd.heap_39 w.params).In h₀) (T : Top p loose mean mg mb h₀)
    (hA : A.frames = some [envX (Str.ofString "law") (lawScope w.params) L fa cd cl]) (hh : A.handled = none) (hd : A.depth + 10 < recursionLimit) (hu : A.units + 200 < cLine)
    {lc c : Addr} {vc : List Value} {cs : List Int} {kc : Nat} {row : Str} {tr : Tok} {oc : Obj} (hcl : cl = [(Str.ofString "start", c)]) (hw : Wf row) (hrow : row.cps.size ≤ 64)
    (F : Fr h₀ L s.heap (kstB u [(Str.ofString "cells", .ref lc), (Str.ofString "row", .str row tr)])) (N : News h₀ L s.heap [(lc, listOf vc.toArray kc), (c, oc)])
    (hoc : oc.data = .cell none) (hI : IntsAre vc cs) (hcs : 3 ≤ cs.length) (hcs2 : cs.length ≤ 64)
    (ho0 : @LT.lt Nat _ L c) (ho1 : @LT.lt Nat _ c lc)
    (hret : ∀ h' tk', (∀ b o, h₀.get? b = some o → h'.get? b = some o) → Q (.ret (.bool true)) { s with heap := h', toks := tk' }) :
    wpAny (model PySem.Challenge.pw_no0226_01 w) A (execs ((lawStmts w.params).drop 3) (envX (Str.ofString "law") (lawScope w.params) L fa cd cl)) Q (fun _ _ => False) s := by
  have hke : (envX (Str.ofString "law") (lawScope w.params) L fa cd cl).scope.kind = .function := rfl
  have hf : (envX (Str.ofString "law") (lawScope w.params) L fa cd cl).frame = some L := rfl
  revert hA hke hf
  show A.frames = some [envX _ (Scope.mk _ _ _ _ _) L fa cd cl] → _ → _ → wpAny _ _ (execs (_ :: _ :: _ :: _ :: _ :: _ :: _ :: _ :: _ :: _ :: _ :: _ :: []) (envX _ (Scope.mk _ _ _ _ _) L fa cd cl)) _ _ _
  intro hA hke hf
  revert X _h; k_fill; intro _h X
  clear _h
  (try k_fold)
  dsimp only [kstB] at F
  have hlv := lev_is hw
  have hpl := pAt_len row row.cps.size
  obtain ⟨hp1, hp2, hp3, hp4⟩ := hpl
  have hll := lev_length row
  have kM := kstMark
  repeat' ((fail_if_success (with_reducible show wpAny _ _ (pyIter _) _ _ _)); first | (k_unfold; (try dsimp only)) | walk1 | (dsimp only; walk1))
  rename Fr _ _ _ _ => lF
  rename News _ _ _ _ => lN
  rename Obj.IsDictOf _ _ _ => lD
  rename PyProof.V.FlatPairs _ _ _ => lE
  rename IntsAre _ (PSt.commas _) => lC
  rename_i tp cm lv de vcm vl kcm kl od kvs _ _ hL ha hb hc hd9 _ _ _ _ _ _ _ _ _ _ _ _ _
  have hce : @LT.lt Nat _ c de := ha _ (.tail _ (.head _))
  have hle : @LT.lt Nat _ lc de := ha _ (.head _)
  have hsys : (de == sysModules) = false := by
    have h1 := modules_low T.nolimit
    have h2 := lF.above
    refine beq_eq_false_iff_ne.mpr fun z => ?_
    have h3 : @LT.lt Nat _ L de := Nat.lt_trans ho0 hce
    rw [z] at h3
    exact absurd (Nat.lt_of_lt_of_le h1 h2) (Nat.lt_asymm h3)
  have lD2 := lD
  obtain ⟨es, ep, hx1, hx2, hx3⟩ := lD2
  have hm9 := (lN (de, od) (.tail _ (.tail _ (.tail _ (.tail _ (.head _)))))).1
  refine' my_keys (knd := PySem.intKind PySem.Challenge.pw_no0226_01 w) (od := od) (kvs := kvs) (ep := ep) [(cm, listOf vcm.toArray kcm), (de, od), (lc, listOf vc.toArray kc), (c, oc)]
    [(Str.ofString "cells", .ref lc), (Str.ofString "row", .str row tr), (Str.ofString "commas", .ref cm), (Str.ofString "ends", .ref de)] hh hsys ⟨od, es, hm9, hx1, hx2, hx3⟩ (.tail _ (.head _)) ?hknd lF ?kn ?kk ?_ ?_
  case hknd => exact fun k v e => Value.isInt_shape e
  case kn =>
    intro p9 h9
    rcases List.mem_cons.mp h9 with rfl | h9
    · exact lN _ (.tail _ (.tail _ (.head _)))
    rcases List.mem_cons.mp h9 with rfl | h9
    · exact lN _ (.tail _ (.tail _ (.tail _ (.tail _ (.head _)))))
    exact lN _ (.tail _ (.tail _ (.tail _ (.tail _ (.tail _ h9)))))
  case kk => kst_all
  · rintro i k y t' u2 h tk2 own hi F1 N1
    dsimp only [kstB] at F1 N1 ⊢
    clear lF lN
    have hk := has_of lE hi
    obtain ⟨a, rfl, hat, hlaw⟩ := close_law hw hk
    have kM := kstMark
    replace N1 : News h₀ L h ((cm, listOf vcm.toArray kcm) :: (de, od) :: (lc, listOf vc.toArray kc) :: (c, oc) :: own) := N1
    (try k_fold)
    walk_at "MINE go"
    · exact absurd (hlaw _ (by assumption)) (by assumption)
    · rename Fr _ _ _ _ => F9
      rename News _ _ _ _ => N9
      refine' js_end () F9 N9 ?hn ?ho rfl ?hk trivial
      case hn => exact fun p9 h9 => (List.mem_append_left own h9)
      case ho => exact fun p9 h9 => .tail _ (.tail _ (.tail _ (.tail _ h9)))
      case hk => kst_all
  · rintro u2 h' tk' F1 N1
    dsimp only [kstB] at F1 N1 ⊢
    clear lF lN
    have N8 : News h₀ L h' [(cm, listOf vcm.toArray kcm), (lc, listOf vc.toArray kc), (c, oc)] := fun p9 h9 => by
      rcases List.mem_cons.mp h9 with rfl | h9
      · exact N1 _ (.head _)
      · exact N1 _ (.tail _ (.tail _ h9))
    refine rest2 w rfl B X T hA hh hd hu hcl hw hrow (fr_kst F1 (ps := [(Str.ofString "cells", .ref lc), (Str.ofString "row", .str row tr), (Str.ofString "commas", .ref cm)]) ?_) N8 hoc hI hcs hcs2 lC ho1 (Nat.lt_trans hle (Nat.lt_trans hb hc)) fun h' tk' k9 => hret h' tk' k9
    kst_all
end
end Mine

/-! part R5 -/
namespace Mine
theorem back_R5 : True ∧ True := by
  w_top off
  first | (walk1; done) | exact ⟨trivial, trivial⟩
section
open PySem PySem.W PyProof.Rows PySem.Spec PySem.Calls

local macro_rules | `(tactic| walk_at "MINE go") => `(tactic| repeat' ((fail_if_success (with_reducible show InvEndN _ _ _ _ _ _ _)); first | (k_unfold; (try dsimp only)) | walk1 | (dsimp only; walk1)))
local macro_rules | `(tactic| walk_at "exec For Name Name cons nil") => `(tactic| (k_here; (rename Fr _ _ _ _ => lF'); (with_unfolding_all refine' For_invVF lF' ?k1 ?k2 ?_; (case k1 => exact rfl); (case k2 => exact rfl); k_whole)))
local macro_rules | `(tactic| walk_at "exec For Name Call cons nil") => `(tactic| (k_here; (rename Fr _ _ _ _ => lF'); (with_unfolding_all refine' For_invVF lF' ?k1 ?k2 ?_; (case k1 => exact rfl); (case k2 => exact rfl); k_whole)))
local macro_rules | `(tactic| walk_at "MINE site") => `(tactic| first | assumption | exact rfl | exact Around.frames_deeper (Below.stack (by assumption)) | (simp only [depth_deeper]; omega) | omega)
local macro_rules | `(tactic| walk_at "MINE str item") => `(tactic| (k_here; (with_reducible show wpAny _ _ (subscriptTail _ _ (Value.str _ _) (Value.int _ _)) _ _ _); (with_unfolding_all refine' m_item_str ?k1 ?k2 ?k3 ?_ ?k5 ?k6); (case k1 => omega); (case k2 => omega); (case k3 => assumption); (case k5 => with_unfolding_all rfl); (case k6 => intro _; with_unfolding_all rfl); intro t'; (try dsimp only)))
local macro_rules | `(tactic| walk_at "MINE int item") => `(tactic| (k_here; (with_reducible show wpAny _ _ (subscriptTail _ _ (Value.ref _) (Value.int _ _)) _ _ _); (with_unfolding_all refine' m_item_ints ?k1 ?k2 ?k3 ?k4 ?k5 ?k6 ?_ ?k8); (case k1 => k_asm); (case k2 => k_memK); (case k3 => assumption); (case k4 => omega); (case k5 => omega); (case k6 => omega); (case k8 => with_unfolding_all rfl); intro t'; (try dsimp only)))
local macro_rules | `(tactic| walk_at "subscriptTail Name Name str int") => `(tactic| walk_at "MINE str item")
local macro_rules | `(tactic| walk_at "subscriptTail Name Name ref int") => `(tactic| walk_at "MINE int item")
local macro_rules | `(tactic| walk_at "call builtin:len") => `(tactic| (k_here; (with_reducible show wpAny _ _ (call (Value.builtin "len") [Value.str _ _]) _ _ _); (refine' m_len_str ?k1 ?_); (case k1 => assumption); intro t'; (try dsimp only)))
local macro_rules | `(tactic| walk_at "call builtin:len") => `(tactic| (k_here; (with_reducible show wpAny _ _ (call (Value.builtin "len") [Value.ref _]) _ _ _); (refine' m_len_list ?k1 ?k2 ?k3 ?_); (case k1 => k_asm); (case k2 => k_memK); (case k3 => first | omega | (simp only [List.length_dropLast]; omega)); intro t'; (try dsimp only)))

local macro_rules | `(tactic| walk_at "MINE room") => `(tactic| first | walk_at "MINE site" | k_room | units_room | decide)
local macro_rules | `(tactic| walk_at "MINE callsite") => `(tactic| ((case k1 => k_asm); (case k2 => k_asm); (case k3 => k_asm); (case k4 => k_asm); (case k5 => k_asm); (case kA => walk_at "MINE site"); (case kf => walk_at "MINE site"); (case kk => walk_at "MINE site"); (case kh => walk_at "MINE site"); (case kd => walk_at "MINE room")))
local macro_rules | `(tactic| walk_at "call ref") => `(tactic| (k_here; (with_reducible show wpAny _ _ (call (Value.ref 81) [Value.int _ _]) _ _ _); (refine' is_numeric_c _ rfl ?k1 ?k2 ?k3 ?k4 ?k5 ?kA ?kf ?kk ?kh ?kd ?_); walk_at "MINE callsite"; intro h' tk' F' N'; (try dsimp only)))
local macro_rules | `(tactic| walk_at "call ref") => `(tactic| (k_here; (with_reducible show wpAny _ _ (call (Value.ref 95) [Value.int _ _]) _ _ _); (refine' units_of_c _ rfl ?k1 ?k2 ?k3 ?k4 ?k5 ?kA ?kf ?kk ?kh ?kd ?_); walk_at "MINE callsite"; intro t' h' tk' F' N'; (try dsimp only)))
local macro_rules | `(tactic| walk_at "call ref") => `(tactic| (k_here; (with_reducible show wpAny _ _ (call (Value.ref 109) _) _ _ _); (show wpAny _ _ (call (Value.ref 109) []) _ _ _); (refine' law_units_c _ rfl ?k1 ?k2 ?k3 ?k4 ?k5 ?kA ?kf ?kk ?kh ?kd ?_); walk_at "MINE callsite"; intro l' vs' k' h' tk' F' N' hI' lt'; (try dsimp only)))
local macro_rules | `(tactic| walk_at "call ref") => `(tactic| (k_here; (with_reducible show wpAny _ _ (call (Value.ref 102) _) _ _ _); (show wpAny _ _ (call (Value.ref 102) []) _ _ _); (refine' law_higher_c _ rfl ?k1 ?k2 ?k3 ?k4 ?k5 ?kA ?kf ?kk ?kh ?kd ?ku ?_); walk_at "MINE callsite"; (case ku => walk_at "MINE room"); intro d' n' h' tk' F' N' T' K'; (try dsimp only)))
local macro_rules | `(tactic| walk_at "call ref") => `(tactic| (k_here; (with_reducible show wpAny _ _ (call (Value.ref 130) [Value.int _ _, Value.int _ _]) _ _ _); (refine' law_kind_c _ rfl ?k1 ?k2 ?k3 ?k4 ?k5 ?kA ?kf ?kk ?kh ?kd ?_); walk_at "MINE callsite"; intro t' h' tk' F' N'; (try dsimp only)))
local macro_rules | `(tactic| walk_at "call builtin:min") => `(tactic| (k_here; (with_reducible show wpAny _ _ (call (Value.builtin _) [Value.int _ _, Value.int _ _]) _ _ _); (rename News _ _ _ _ => N'); (with_unfolding_all apply min_two_N); (case hh => walk_at "MINE site"); (case N => exact N'); (case F => assumption); clear N'; intro _ _ _ _))
local macro_rules | `(tactic| walk_at "call builtin:max") => `(tactic| (k_here; (with_reducible show wpAny _ _ (call (Value.builtin _) [Value.int _ _, Value.int _ _]) _ _ _); (rename News _ _ _ _ => N'); (with_unfolding_all apply max_two_N); (case hh => walk_at "MINE site"); (case N => exact N'); (case F => assumption); clear N'; intro _ _ _ _))

local macro_rules | `(tactic| walk_at "MINE list slice") => `(tactic| (k_here; (with_reducible show wpAny _ _ (subscriptTail _ (PySem.Expr.Slice _ _ none _) (Value.ref _) (Value.ref _)) _ _ _); k_dflt (refine' kmk_slice_ints ?F ?N ?l ?p ?q ?i ?m ?c ?_ ?s ?t ?z; (case F => k_asm); (case N => k_asm); (case l => kmk_list); (case p => kmk_part); (case q => kmk_part); (case i => exact .cons _ _ (.cons _ _ (.cons _ _ .nil))); (case m => exact kmk_from (.cons _ _ (.cons _ _ (.cons _ _ .nil))) (by omega)); (case c => exact List.length_drop ..); (case s => with_unfolding_all rfl); (case t => kmk_pure); (case z => kmk_size)); intro D' ws' h' F' N' l1 hI' hC' hL'; (try k_lt l1); (try k_sweep)))
local macro_rules | `(tactic| walk_at "subscriptTail Name Slice ref ref") => `(tactic| walk_at "MINE list slice")
theorem cells_ok {ws : List Value} {ns : List Int} {x : Int} (h : IntsAre ws (List.take 4 ns ++ List.drop x.toNat [0, 45, 5])) (hx : x = if 3 < (ns.length : Int) then 3 else (ns.length : Int)) (hn : ns.length ≤ 63) : ∃ cs : List Int, IntsAre ws cs ∧ 3 ≤ cs.length ∧ cs.length ≤ 64 := by
  refine ⟨_, h, ?_, ?_⟩
  · rw [List.length_append, List.length_take, List.length_drop, hx]
    show 3 ≤ min 4 ns.length + (3 - _)
    split <;> omega
  · rw [List.length_append, List.length_take, List.length_drop]
    show min 4 ns.length + (3 - _) ≤ 64
    omega
theorem row_gen {P : Int → Int → Prop} (x y : Int) (hx : 0 ≤ x) (h : ∀ (n : Int) (mo : Nat), 0 ≤ n → mo ≤ 64 → P n mo) : P x (3 + Int.fmod y 28) := by
  have h1 := Int.fmod_nonneg_of_pos y (b := 28) (by omega)
  have h2 := Int.fmod_lt_of_pos y (b := 28) (by omega)
  obtain ⟨k, e⟩ := Int.eq_ofNat_of_zero_le h1
  rw [e] at h2 ⊢
  have := h x (3 + k) hx (by omega)
  rw [show (((3 + k : Nat)) : Int) = 3 + (k : Int) by omega] at this
  exact this
set_option maxRecDepth 100000 in
set_option maxHeartbeats 1000000 in
theorem rest0 (w : World) {p : Program} {loose : List Str} {mean : ExcName → Option Value} {mg mb : Str → Option Value} (_h : PySem.Challenge.rw_no0226_01 = PySem.Challenge.rw_no0226_01)
    {A A₀ : Around} {base h₀ : Heap} {L fa : Addr} {cd : Value} {cl : List (Str × Addr)} {u : Str → Option Value} {s : Shared} {Q : Flow → Shared → Prop}
    (B : Below A₀ base [] h₀) (X : (Mine.hd.heap_39 w.params).In h₀) (T : Top p loose mean mg mb h₀)
    (hA : A.frames = some [envX (Str.ofString "law") (lawScope w.params) L fa cd cl]) (hh : A.handled = none) (hd : A.depth + 10 < recursionLimit) (hu : A.units + 200 < cLine)
    {ls c : Addr} {vs : List Value} {ns : List Int} {oc : Obj} (hcl : cl = [(Str.ofString "start", c)]) (hl : h₀.IsList ls vs.toArray) (hI : IntsAre vs ns) (hns : ns.length ≤ 63)
    (F : Fr h₀ L s.heap (kstB u [(Str.ofString "script", .ref ls)])) (N : News h₀ L s.heap [(c, oc)])
    (hoc : oc.data = .cell none) (ho0 : @LT.lt Nat _ L c)
    (hret : ∀ h' tk', (∀ b o, h₀.get? b = some o → h'.get? b = some o) → Q (.ret (.bool true)) { s with heap := h', toks := tk' }) :
    wpAny (model PySem.Challenge.pw_no0226_01 w) A (execs (lawStmts w.params) (envX (Str.ofString "law") (lawScope w.params) L fa cd cl)) Q (fun _ _ => False) s := by
  have hke : (envX (Str.ofString "law") (lawScope w.params) L fa cd cl).scope.kind = .function := rfl
  have hf : (envX (Str.ofString "law") (lawScope w.params) L fa cd cl).frame = some L := rfl
  revert hA hke hf
  show A.frames = some [envX _ (Scope.mk _ _ _ _ _) L fa cd cl] → _ → _ → wpAny _ _ (execs (_ :: _ :: _ :: _ :: _ :: _ :: _ :: _ :: _ :: _ :: _ :: _ :: _ :: _ :: _ :: []) (envX _ (Scope.mk _ _ _ _ _) L fa cd cl)) _ _ _
  intro hA hke hf
  revert X _h; k_fill; intro _h X
  clear _h
  (try k_fold)
  dsimp only [kstB] at F
  have kM := kstMark
  have hvl := hI.length
  repeat' ((fail_if_success (with_reducible show wpAny _ _ (storeName _ (Str.ofString "cells") _) _ _ _)); first | (k_unfold; (try dsimp only)) | walk1 | (dsimp only; walk1))
  rename IntsAre _ (_ ++ _) => lC
  obtain ⟨cs, lC2, hcs, hcs2⟩ := cells_ok lC rfl hns
  clear lC
  rename News _ _ _ _ => lN
  rename_i lc wc _ _ lo
  repeat' ((fail_if_success (with_reducible show wpAny _ _ (call (Value.ref 123) _) _ _ _)); first | (k_unfold; (try dsimp only)) | walk1 | (dsimp only; walk1))
  refine row_gen (P := fun n k => wpAny (model _ _) A (call _ [Value.int n _, Value.int k _]) _ _ _) _ _ (by split <;> split <;> omega) ?_
  intro n mo hn hmo
  refine' law_row_c _ rfl ?k1 ?k2 ?k3 ?k4 ?k5 ?kA ?kf ?kk ?kh hn hmo ?kd ?_
  walk_at "MINE callsite"
  intro row tr h' tk' F1 N1 hrj
  obtain ⟨d9, q9, hrj⟩ := hrj
  obtain ⟨hw, hrs⟩ := rj_wf hrj
  repeat' ((fail_if_success (with_reducible show wpAny _ _ (execs (Stmt.Assign [Expr.Tuple _ _ _] _ _ :: _) _) _ _ _)); first | (k_unfold; (try dsimp only)) | walk1 | (dsimp only; walk1))
  rename Fr _ _ _ _ => F9
  rename News _ _ _ _ => N9
  have N8 : News h₀ L _ [(lc, listOf wc.toArray 0), (c, oc)] := fun p9 h9 => by
    rcases List.mem_cons.mp h9 with rfl | h9
    · exact N9 _ (.head _)
    · exact N9 _ (.tail _ (.tail _ (.tail _ (.tail _ h9))))
  refine rest1 w rfl B X T hA hh hd hu hcl hw (by omega) (fr_kst F9 (ps := [(Str.ofString "cells", .ref lc), (Str.ofString "row", .str row tr)]) ?_) N8 hoc lC2 hcs hcs2 ho0 lo.2.2.2 fun h' tk' k9 => hret h' tk' k9
  kst_all
end
end Mine

/-! part P2 -/
namespace Mine
theorem back_P2 : True ∧ True := by
  w_top off
  first | (walk1; done) | exact ⟨trivial, trivial⟩
section
open PySem PySem.W PyProof.Rows PySem.Spec PySem.Calls
set_option maxRecDepth 100000 in
set_option maxHeartbeats 1000000 in
theorem law_holds : PySem.Challenge.rw_no0226_01.Holds := hd (by
  k_go0
  (all_goals try k_fold)
  rename Below _ _ _ _ => hB
  rename Top _ _ _ _ _ _ => hT
  rename Frag.In _ _ => hX
  rename Heap.IsList _ _ _ => hl
  rename IntsAre _ _ => hI
  rename ¬ _ < _ => h63
  rename Fr _ _ _ _ => hF
  rename News _ _ _ _ => hN
  rename _ = Data.cell _ => hoc
  refine wpAny_mono (rest0 _ rfl hB hX hT (u := fun _ => none) ?hA rfl ?hd ?hu rfl hl hI ?h63 (fr_as hF ?hm) hN hoc ?ho ?hret) (fun _ _ z => z) (fun _ _ z => z.elim)
  case hA => exact Around.frames_deeper hB.stack
  case hd => show callerA.depth + 1 + 10 < recursionLimit; decide
  case hu => show callerA.units + 3 + 200 < cLine; decide
  case h63 => omega
  case hm => intro y; rfl
  case ho => exact Nat.lt_succ_self _
  case hret =>
    intro h' tk' keep
    exact ⟨.inl ⟨.bool true, .bool true, [], rfl, fun _ => rfl, .bool true, by wrow_post, unshared_nil⟩, keep, rfl, by assumption⟩)
end
end Mine

theorem PySem.Challenge.cw_no0226_01_holds : PySem.Challenge.rw_no0226_01.Holds :=
  Mine.law_holds
