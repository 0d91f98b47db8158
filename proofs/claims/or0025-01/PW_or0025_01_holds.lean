import PyProof.Rows.All
import Wide.All
import OpenK.AllK
import Wide.FinOn
import PySem.Challenge.RW_or0025_01
open PySem PySem.W PyProof.Rows PySem.Calls
set_option Elab.async false
set_option maxRecDepth 100000
set_option maxHeartbeats 8000000
namespace Mine
set_option maxHeartbeats 8000000 in
open_top hd for PySem.Challenge.rw_or0025_01
theorem warm_0 : PySem.Challenge.rw_or0025_01 = PySem.Challenge.rw_or0025_01 ∧ Mine.hd.heap_39 = Mine.hd.heap_39 := by
  k_fill
  w_top off
  exact ⟨rfl, rfl⟩
structure Stop (P : Prop) : Prop where
  out : P
theorem Stop.go {P : Prop} (h : Stop P) : P := h.out
structure Out (P : Prop) : Prop where
  out : P

/-- what stands at the top, kept by every heap that keeps -/
structure Cx (w : World) (h : Heap) : Prop where
  X : (Mine.hd.heap_39 w.params).In h
  T : ∃ p loose mean mg mb, Top p loose mean mg mb h

def Up (h h' : Heap) : Prop := ∀ b o, h.get? b = some o → h'.get? b = some o
theorem Up.refl (h : Heap) : Up h h := fun _ _ e => e
theorem Up.trans {a b c : Heap} (x : Up a b) (y : Up b c) : Up a c := fun q o e => y q o (x q o e)
theorem Cx.up {w : World} {h h' : Heap} (c : Cx w h) (k : Up h h') : Cx w h' :=
  ⟨c.X.keeps k, let ⟨p, l, me, mg, mb, T⟩ := c.T; ⟨p, l, me, mg, mb, T.keeps k⟩⟩

/-- room for n more frames -/
structure Rm (A : Around) (n : Nat) : Prop where
  hh : A.handled = none
  d : A.depth + n < 900
  u : A.units + 4 * n < 9000
theorem Rm.depth {A : Around} {n : Nat} (r : Rm A n) : A.depth < recursionLimit := by
  have := r.d; unfold recursionLimit; omega
theorem Rm.units {A : Around} {n : Nat} (r : Rm A n) : A.units < cLine := by
  have := r.u; unfold cLine; omega
theorem Rm.deeper {A : Around} {n : Nat} (r : Rm A (n + 1)) (env : Env) : Rm (A.deeper env) n :=
  ⟨r.hh, by have := r.d; show A.depth + 1 + n < 900; omega, by have := r.u; show A.units + 3 + 4 * n < 9000; omega⟩
theorem Rm.less {A : Around} {n m : Nat} (r : Rm A n) (h : m ≤ n) : Rm A m :=
  ⟨r.hh, by have := r.d; omega, by have := r.u; omega⟩

theorem Keeps.up {s s' : Shared} (k : Keeps s s') : Up s.heap s'.heap := by
  obtain ⟨h, t, rfl, k⟩ := k; exact k
theorem Keeps.of {s : Shared} {h : Heap} {t : Nat} (k : Up s.heap h) : Keeps s { s with heap := h, toks := t } := ⟨h, t, rfl, k⟩
theorem Keeps.rfl' {s : Shared} : Keeps s s := ⟨s.heap, s.toks, rfl, fun _ _ e => e⟩
theorem Keeps.trans' {a b c : Shared} (x : Keeps a b) (y : Keeps b c) : Keeps a c := by
  obtain ⟨h, t, rfl, k⟩ := x
  obtain ⟨h', t', rfl, k'⟩ := y
  exact ⟨h', t', rfl, fun q o e => k' q o (k q o e)⟩

section
variable {prog : Program} {w : World} {A : Around} {E : Value → Shared → Prop} {s : Shared} {n : Nat}
  {name qual : Str} {params : Arguments} {body : List Stmt} {scope : Scope} {dV kV doc pm cdv ct oc : Value} {an od : Option Addr} {osl : Array (Option Value)} {f : Addr} {vals : List Value} {binds : List (Str × Value)}

/-- a def without cells is entered: the ground is the heap at the call -/
theorem enterP {Q : Value → Shared → Prop} (C : Cx w s.heap) (r : Rm A (n + 1))
    (ho : List.lookup f (Mine.hd.heap_39 w.params) = some ⟨oc, od, .func (fnOf name qual params body scope dV kV doc pm an cdv ct), osl⟩)
    (hcd : codeIn (Mine.hd.heap_39 w.params) cdv qual = true)
    (hbind : bindArgs (fnOf name qual params body scope dV kV doc pm an cdv ct) ⟨vals, []⟩ = pure binds)
    (hloc : (binds.all fun y => decide (scope.names.lookup y.1 = some .local)) = true)
    (hcell : ∀ x ∈ scope.names, x.2 ≠ .cell)
    (h : ∀ L h₁ tk env, env = envOf qual scope L f cdv → Fr s.heap L h₁ (fun y => binds.reverse.lookup y) → Rm (A.deeper env) n →
      wpAny (model prog w) (A.deeper env) (execs body env)
        (fun fl s' => Q (match fl with | .ret v => v | _ => .none) s') (fun _ _ => False) { s with heap := h₁, toks := tk })
    (hco : scope.isCoroutine = false := by rfl) (hgen : scope.isGenerator = false := by rfl) (hk : scope.kind = .function := by rfl) :
    wpAny (model prog w) A (call (.ref f) vals) Q E s := by
  obtain ⟨p, loose, mean, mg, mb, T⟩ := C.T
  refine wpAny_call (codeAny_call_def (fd := fnOf name qual params body scope dV kV doc pm an cdv ct) (body := body) (binds := binds) r.depth (C.X _ _ ho) rfl T.nolimit (codeRec_of C.X hcd) rfl (BindsTo.of_eq hbind) hcell (locs hloc) (fun h₁ hns hk₁ => ?_) hco hgen hk)
  exact wpAny_mono (h s.heap.objs.size h₁ _ _ rfl ⟨hns, hk₁, Nat.le_refl _⟩ (r.deeper _)) (fun fl s' q => q) fun _ _ x => x.elim

/-- a def with cells -/
theorem enterC {Q : Value → Shared → Prop} (C : Cx w s.heap) (r : Rm A (n + 1))
    (ho : List.lookup f (Mine.hd.heap_39 w.params) = some ⟨oc, od, .func (fnOf name qual params body scope dV kV doc pm an cdv ct), osl⟩)
    (hcd : codeIn (Mine.hd.heap_39 w.params) cdv qual = true)
    (hbind : bindArgs (fnOf name qual params body scope dV kV doc pm an cdv ct) ⟨vals, []⟩ = pure binds)
    (hkind : (binds.all fun y => scope.names.lookup y.1 == some .local || scope.names.lookup y.1 == some .cell) = true)
    (h : ∀ L h₁ tk env, env = envOfC qual scope L f cdv → Fr s.heap L h₁ (bindL env.kindOf binds fun _ => none) →
      Cl L (cellsFrom (L + 1) scope.names []) h₁ (bindC env.kindOf binds fun _ => none) → Rm (A.deeper env) n →
      wpAny (model prog w) (A.deeper env) (execs body env)
        (fun fl s' => Q (match fl with | .ret v => v | _ => .none) s') (fun _ _ => False) { s with heap := h₁, toks := tk })
    (hco : scope.isCoroutine = false := by rfl) (hgen : scope.isGenerator = false := by rfl) (hk : scope.kind = .function := by rfl) :
    wpAny (model prog w) A (call (.ref f) vals) Q E s := by
  obtain ⟨p, loose, mean, mg, mb, T⟩ := C.T
  refine wpAny_call (codeAny_call_cells (fd := fnOf name qual params body scope dV kV doc pm an cdv ct) (body := body) (binds := binds) r.depth (C.X _ _ ho) rfl T.nolimit (codeRec_of C.X hcd) rfl hbind rfl (kindsX hkind _) (fun s₁ X => ?_) hco hgen hk)
  obtain ⟨h₁, tk, rfl, _⟩ := X.done
  exact wpAny_mono (h s.heap.objs.size h₁ _ _ rfl ⟨X.toInCall.ns, X.toInCall.keep, X.toInCall.fresh⟩ ⟨X.cell, X.apart, X.above⟩ (r.deeper _)) (fun fl s' q => q) fun _ _ x => x.elim
end
/-- the value's iterator is a new object that walks n values -/
def Src (prog : Program) (w : World) (A : Around) (s : Shared) (xv : Value) (n : Nat) (P : Nat → Value → Prop) : Prop :=
  ∀ (Q : Value → Shared → Prop) (E : Value → Shared → Prop),
    (∀ (o : Obj) (fp : List Addr) (St : Nat → Heap → Prop), Walks prog w A s.heap.objs.size fp [s.heap.objs.size] n P St → St 0 (s.heap.push o) → (∀ b ∈ fp, b < (s.heap.push o).objs.size) → True →
      (∀ i h, St i h → ∀ b ∈ [s.heap.objs.size], h.get? b ≠ none) → (∀ b ∈ fp, b ≠ s.heap.objs.size → xv = .ref b) →
      Q (.ref s.heap.objs.size) { s with heap := s.heap.push o }) → wpAny (model prog w) A (pyIter xv) Q E s

section
variable {prog : Program} {w : World} {A : Around} {E : Value → Shared → Prop} {s : Shared}

theorem src_list {ax : Addr} {items : Array Value} (hh : A.handled = none) (hl : s.heap.IsList ax items) : Src prog w A s (.ref ax) items.size (fun i v => items[i]? = some v) := by
  intro Q E h
  obtain ⟨o, ho, _⟩ := id hl
  have hlt : ax < s.heap.objs.size := Heap.lt_size ho
  refine wpAny_pyIter_list hl (h _ [s.heap.objs.size, ax] _ (Walks.list hh _ _ (Nat.ne_of_lt hlt) items) ⟨⟨_, Heap.get?_push_size _ rfl, rfl, rfl⟩, hl.push _⟩ ?_ trivial ?_ ?_)
  · intro b hb
    rw [Heap.size_push]
    rcases List.mem_cons.mp hb with rfl | hb
    · exact Nat.lt_succ_self _
    · rcases List.mem_cons.mp hb with rfl | hb
      · exact Nat.lt_succ_of_lt hlt
      · cases hb
  · rintro i h ⟨⟨oi, e, _⟩, _⟩ b hb q
    rw [List.mem_singleton.mp hb, e] at q; cases q
  · intro b hb hn
    rcases List.mem_cons.mp hb with rfl | hb
    · exact absurd rfl hn
    · rcases List.mem_cons.mp hb with rfl | hb
      · rfl
      · cases hb

theorem src_one {xv : Value} {n : Nat} {P : Nat → Value → Prop} {St : Nat → Heap → Prop} {o : Obj} (W : Walks prog w A s.heap.objs.size [s.heap.objs.size] [s.heap.objs.size] n P St) (h0 : St 0 (s.heap.push o))
    (hS : ∀ i h, St i h → h.get? s.heap.objs.size ≠ none) {Q : Value → Shared → Prop}
    (h : ∀ (o : Obj) (fp : List Addr) (St : Nat → Heap → Prop), Walks prog w A s.heap.objs.size fp [s.heap.objs.size] n P St → St 0 (s.heap.push o) → (∀ b ∈ fp, b < (s.heap.push o).objs.size) → True →
      (∀ i h, St i h → ∀ b ∈ [s.heap.objs.size], h.get? b ≠ none) → (∀ b ∈ fp, b ≠ s.heap.objs.size → xv = .ref b) →
      Q (.ref s.heap.objs.size) { s with heap := s.heap.push o }) : Q (.ref s.heap.objs.size) { s with heap := s.heap.push o } := by
  refine h o [s.heap.objs.size] St W h0 ?_ trivial ?_ ?_
  · intro b hb
    rw [List.mem_singleton.mp hb, Heap.size_push]; exact Nat.lt_succ_self _
  · intro i h st b hb
    rw [List.mem_singleton.mp hb]; exact hS i h st
  · intro b hb hn
    exact absurd (List.mem_singleton.mp hb) hn

theorem src_str {x : PySem.Str} {t : Tok} (hh : A.handled = none) : Src prog w A s (.str x t) x.cps.size (SignAt x) := by
  intro Q E h
  cases ha : x.cps.all (· < 128)
  · exact wpAny_pyIter_wide ha (src_one (Walks.strWide hh _ x t) ⟨_, Heap.get?_push_size _ rfl, rfl, rfl⟩ (fun i h ⟨oi, e, _⟩ q => by rw [e] at q; cases q) h)
  · exact wpAny_pyIter_ascii ha (src_one (Walks.strAscii hh _ x t) ⟨_, Heap.get?_push_size _ rfl, rfl, rfl⟩ (fun i h ⟨oi, e, _⟩ q => by rw [e] at q; cases q) h)

theorem src_bytes {b : Array UInt8} {t : Tok} (hh : A.handled = none) : Src prog w A s (.bytes b t) b.size (fun i v => ∃ c u, b[i]? = some c ∧ v = .int (c.toNat : Int) u) := by
  intro Q E h
  exact KBw.pyIter_bytes (src_one (KBw.walks hh _ b t) ⟨_, Heap.get?_push_size _ rfl, rfl, rfl⟩ (fun i h ⟨oi, e, _⟩ q => by rw [e] at q; cases q) h)

theorem src_range {r : Addr} {a b c : Int} {t u v : Tok} (hh : A.handled = none) (hr : IsRange s.heap r a b c t u v) (hsmall : Builtin.Range.small a b c = true) {n : Nat} (hn : Builtin.Range.rangeSize a b c = (n : Int)) :
    Src prog w A s (.ref r) n (fun i v => ∃ t, v = .int (a + i * c) t) := by
  intro Q E h
  refine wpAny_pyIter_range hr hsmall ?_
  refine src_one (Walks.range hh _ a c n) ?_ (fun i h e q => by rw [e] at q; cases q) h
  show (s.heap.push _).get? s.heap.objs.size = _
  rw [Heap.get?_push_size _ rfl, hn]
  simp [rawInt]

theorem pairedImp {α β : Type} {F G : α → β → Prop} (h : ∀ a b, F a b → G a b) : ∀ {l : List α} {m : List β}, Paired F l m → Paired G l m
  | _, _, .nil => .nil
  | _, _, .cons x t => .cons (h _ _ x) (pairedImp h t)
def KeepsBut (mu : List Addr) (s s' : Shared) : Prop := ∃ h' tk, s' = { s with heap := h', toks := tk } ∧ ∀ b o, b ∉ mu → s.heap.get? b = some o → h'.get? b = some o
def NewUp (h h' h₅ : Heap) : Prop := ∀ b o, h.get? b = none → h'.get? b = some o → h₅.get? b = some o

/-- the comprehension's loop: what an element yields may be told of the heap; the objects of mu may be turned by the elements -/
theorem comp_loop {R : Result → Shared → Prop} {elt iter : Expr} {x : PySem.Str} {px : Pos} {ifs : List Expr} {scope : Scope} {pos : Pos} {I D : Addr} {fp wr mu : List Addr} {n : Nat} {P : Nat → Value → Prop} {St : Nat → Heap → Prop}
    {cenv : Env} {m : PySem.Str → Option Value} (W : Walks prog w A I fp wr n P St) (p : Value → Bool) (F : Heap → Value → Value → Prop) (Inv : Heap → Prop)
    (hx : cenv.kindOf x = some .local) (hp : (cenv.scope.kind == .class || (cenv.scope.kind == .module && cenv.locals != cenv.globals)) = false)
    (hDC : D ≠ cenv.locals) (hDf : D ∉ fp) (hCf : cenv.locals ∉ fp) (hmD : D ∉ mu) (hmC : cenv.locals ∉ mu) (hmf : ∀ b ∈ fp, b ∉ mu)
    (hInv : ∀ h h', Inv h → (∀ b ∈ mu, ∀ o, h.get? b = some o → h'.get? b = some o) → Inv h') (hIs : ∀ h, Inv h → ∀ b ∈ mu, h.get? b ≠ none)
    (hst : St 0 s.heap) (hwS : ∀ i h, St i h → ∀ b ∈ wr, h.get? b ≠ none) (hacc : s.heap.PlainList D #[]) (hn : s.heap.Ns cenv.locals m) (h0 : Inv s.heap)
    (htests : ∀ i v (s₂ : Shared) m₂, P i v → s₂.heap.Ns cenv.locals m₂ → m₂ x = some v → Inv s₂.heap → (∀ b o, b ≠ cenv.locals → b ∉ wr → b ≠ D → b ∉ mu → s.heap.get? b = some o → s₂.heap.get? b = some o) →
      wpAny (model prog w) A (forIn ifs true fun c r => if r = true then do let ok ← isTrue c cenv (eval c cenv); pure (ForInStep.yield ok) else pure (ForInStep.yield r))
        (fun ok s₃ => ok = p v ∧ Keeps s₂ s₃) (notedBy (model prog w) A cenv fun e s' => R (.error e) s') s₂)
    (helt : ∀ i v (s₂ : Shared) m₂, P i v → p v = true → s₂.heap.Ns cenv.locals m₂ → m₂ x = some v → Inv s₂.heap → (∀ b o, b ≠ cenv.locals → b ∉ wr → b ≠ D → b ∉ mu → s.heap.get? b = some o → s₂.heap.get? b = some o) →
      wpAny (model prog w) A (eval elt cenv) (fun y s₃ => (∀ h₅, (∀ b o, b ≠ cenv.locals → b ∉ wr → b ≠ D → b ∉ mu → s.heap.get? b = some o → h₅.get? b = some o) → NewUp s₂.heap s₃.heap h₅ → F h₅ v y) ∧ Inv s₃.heap ∧ KeepsBut mu s₂ s₃)
        (notedBy (model prog w) A cenv fun e s' => R (.error e) s') s₂)
    (hR : ∀ h' tk m' ys (vs : List Value), h'.Ns cenv.locals m' → h'.PlainList D ys → Inv h' → vs.length = n → (∀ (j : Nat) (v : Value), vs[j]? = some v → P j v) →
      Paired (fun v y => ∀ h₅, (∀ b o, b ≠ cenv.locals → b ∉ wr → b ≠ D → b ∉ mu → h'.get? b = some o → h₅.get? b = some o) → F h₅ v y) (vs.filter p) ys.toList →
      (∀ b o, b ≠ cenv.locals → b ∉ wr → b ≠ D → b ∉ mu → s.heap.get? b = some o → h'.get? b = some o) → R (.ok .next) { s with heap := h', toks := tk })
    (hsz : n ≤ sizeLine) :
    codeAny (model prog w) A (.compLoop (.ListComp elt [⟨.Name x px, iter, ifs, 0⟩] scope pos) 0 (.ref I) (.ref D) cenv) R s := by
  refine codeAny_compLoop_tests
    (fun k s' => ∃ h' tk m' ys, ∃ vs : List Value, s' = { s with heap := h', toks := tk } ∧ St vs.length h' ∧ h'.PlainList D ys ∧ h'.Ns cenv.locals m' ∧ Inv h' ∧ (∀ (j : Nat) (v : Value), vs[j]? = some v → P j v) ∧
      Paired (fun v y => ∀ h₅, (∀ b o, b ≠ cenv.locals → b ∉ wr → b ≠ D → b ∉ mu → h'.get? b = some o → h₅.get? b = some o) → F h₅ v y) (vs.filter p) ys.toList ∧ vs.length ≤ n ∧ k = n + 1 - vs.length ∧
      (∀ b o, b ≠ cenv.locals → b ∉ wr → b ≠ D → b ∉ mu → s.heap.get? b = some o → h'.get? b = some o)) ?_ (n + 1)
    ⟨s.heap, s.toks, m, #[], [], rfl, hst, hacc, hn, h0, by simp, by simpa using Paired.nil, Nat.zero_le _, rfl, fun _ _ _ _ _ _ e => e⟩
  rintro k s' ⟨H, tk, m', ys, vs, rfl, hst', hacc', hn', hI', hP, hF, hi, rfl, hk⟩
  have hCw : cenv.locals ∉ wr := fun h => hCf (W.sub _ h)
  have hDw : D ∉ wr := fun h => hDf (W.sub _ h)
  by_cases hlt : vs.length < n
  · refine W.item vs.length _ _ _ hlt hst' fun v h₁ tk₁ hPv hst₁ hk₁ => ?_
    have hn₁ := hn'.at' fun o e => hk₁ _ o hCw e
    refine wpAny_assign_Name (wpAny_storeName_local hx hn₁ (fun h₂ hn₂ hs₂ => ?_) hp)
    have up₂ : ∀ b o, b ≠ cenv.locals → b ∉ wr → H.get? b = some o → h₂.get? b = some o := fun b o hbC hbf e => hs₂.extBut b o hbC (hk₁ b o hbf e)
    have hI₂ : Inv h₂ := hInv _ _ hI' fun b hb o e => up₂ b o (fun q => hmC (q ▸ hb)) (fun q => hmf b (W.sub _ q) hb) e
    have hst₂ : St (vs.length + 1) h₂ := W.frame _ _ _ hst₁ fun b hb o e => hs₂.extBut b o (fun h => hCf (h ▸ hb)) e
    have hD₂ : h₂.PlainList D ys := hacc'.at fun o e => up₂ D o hDC hDw e
    refine wpAny_mono (htests vs.length v _ _ hPv hn₂ (by simp) hI₂ (fun b o hbC hbf hbD hbm e => up₂ b o hbC hbf (hk b o hbC hbf hbD hbm e))) (fun ok s₃ h₃ => ?_) fun _ _ e => e
    obtain ⟨rfl, h₃, tk₃, rfl, hk₃⟩ := h₃
    have hI₃ : Inv h₃ := hInv _ _ hI₂ fun b _ o e => hk₃ b o e
    have hst₃ : St (vs.length + 1) h₃ := W.frame _ _ _ hst₂ fun b _ o e => hk₃ b o e
    have hacc₃ : h₃.PlainList D ys := hD₂.at fun o e => hk₃ _ o e
    have hn₃ := hn₂.keeps hk₃
    have hP' : ∀ (j : Nat) (u : Value), (vs ++ [v])[j]? = some u → P j u := fun j u hj => by
      rcases Nat.lt_trichotomy j vs.length with h | h | h
      · exact hP j u (by rwa [List.getElem?_append_left h] at hj)
      · subst h; simp at hj; subst hj; exact hPv
      · have hnone : (vs ++ [v])[j]? = none := List.getElem?_eq_none (by rw [List.length_append, List.length_singleton]; omega)
        rw [hnone] at hj; cases hj
    have hw₃ : ∀ b ∈ wr, h₃.get? b ≠ none := hwS _ _ hst₃
    cases hpv : p v with
    | false =>
      simp only [Bool.false_eq_true, if_false]
      refine ⟨n + 1 - (vs.length + 1), by omega, h₃, tk₃, _, ys, vs ++ [v], rfl, by simpa using hst₃, hacc₃, hn₃, hI₃, hP', ?_, (by rw [List.length_append, List.length_singleton]; exact hlt), (by rw [List.length_append, List.length_singleton]), fun b o hbC hbf hbD hbm e => hk₃ b o (up₂ b o hbC hbf (hk b o hbC hbf hbD hbm e))⟩
      rw [List.filter_append]
      have : Paired (fun v y => ∀ h₅, (∀ b o, b ≠ cenv.locals → b ∉ wr → b ≠ D → b ∉ mu → h₃.get? b = some o → h₅.get? b = some o) → F h₅ v y) (vs.filter p) ys.toList :=
        pairedImp (fun v y q h₅ k₅ => q h₅ fun b o hbC hbf hbD hbm e => k₅ b o hbC hbf hbD hbm (hk₃ b o (up₂ b o hbC hbf e))) hF
      simpa [hpv] using this
    | true =>
      simp only [if_true]
      refine wpAny_mono (helt vs.length v _ _ hPv hpv hn₃ (by simp) hI₃ (fun b o hbC hbf hbD hbm e => hk₃ b o (up₂ b o hbC hbf (hk b o hbC hbf hbD hbm e)))) (fun y s₄ h₄ => ?_) fun _ _ e => e
      obtain ⟨hFy, hI₄, h₄, tk₄, rfl, hk₄⟩ := h₄
      have hys : ys.size ≤ sizeLine := by
        have e1 := hF.length
        have e2 : (vs.filter p).length ≤ vs.length := List.length_filter_le _ _
        have e4 : ys.toList.length = ys.size := by simp
        omega
      have hacc₄ : h₄.PlainList D ys := hacc₃.at fun o e => hk₄ _ o hmD e
      refine wpAny_list_append_plain (hsz := hys) hacc₄ fun h₅ hl₅ hs₅ => ?_
      have up₅ : ∀ b o, b ≠ D → b ∉ mu → h₃.get? b = some o → h₅.get? b = some o := fun b o hbD hbm e => hs₅.extBut b o hbD (hk₄ b o hbm e)
      refine ⟨n + 1 - (vs.length + 1), by omega, h₅, tk₄, _, ys.push y, vs ++ [v], rfl, ?_, hl₅, (hn₃.at' fun o e => up₅ _ o (Ne.symm hDC) hmC e), hInv _ _ hI₄ (fun b hb o e => hs₅.extBut b o (fun q => hmD (q ▸ hb)) e), hP', ?_, (by rw [List.length_append, List.length_singleton]; exact hlt), (by rw [List.length_append, List.length_singleton]),
        fun b o hbC hbf hbD hbm e => up₅ b o hbD hbm (hk₃ b o (up₂ b o hbC hbf (hk b o hbC hbf hbD hbm e)))⟩
      · have := W.frame _ _ h₅ hst₃ fun b hb o e => up₅ b o (fun h => hDf (h ▸ hb)) (hmf b hb) e
        simpa using this
      · rw [List.filter_append]
        have h1 : Paired (fun v y => ∀ h₆, (∀ b o, b ≠ cenv.locals → b ∉ wr → b ≠ D → b ∉ mu → h₅.get? b = some o → h₆.get? b = some o) → F h₆ v y) (vs.filter p) ys.toList :=
          pairedImp (fun v y q h₆ k₆ => q h₆ fun b o hbC hbf hbD hbm e => k₆ b o hbC hbf hbD hbm (up₅ b o hbD hbm (hk₃ b o (up₂ b o hbC hbf e)))) hF
        have h2 : ∀ h₆, (∀ b o, b ≠ cenv.locals → b ∉ wr → b ≠ D → b ∉ mu → h₅.get? b = some o → h₆.get? b = some o) → F h₆ v y := fun h₆ k₆ =>
          hFy h₆ (fun b o hbC hbf hbD hbm e => k₆ b o hbC hbf hbD hbm (up₅ b o hbD hbm (hk₃ b o (up₂ b o hbC hbf (hk b o hbC hbf hbD hbm e)))))
            (fun b o hnone e => by
              have n1 : b ≠ cenv.locals := fun q => by
                obtain ⟨oc, _, _, hoc, _⟩ := hn₃
                rw [q] at hnone; rw [hoc] at hnone; cases hnone
              have n2 : b ∉ wr := fun q => hw₃ b q hnone
              have n3 : b ≠ D := fun q => by
                obtain ⟨_, hoc⟩ := hacc₃
                rw [q] at hnone; rw [hoc] at hnone; cases hnone
              have n4 : b ∉ mu := fun q => hIs _ hI₃ b q hnone
              exact k₆ b o n1 n2 n3 n4 (hs₅.extBut b o n3 e))
        simpa [hpv] using Paired.snoc h1 h2
  · have hin : vs.length = n := by omega
    refine W.done _ _ _ (hin ▸ hst') fun h₁ tk₁ hk₁ => ?_
    refine hR h₁ tk₁ m' ys vs (hn'.at' fun o e => hk₁ _ o hCw e) (hacc'.at fun o e => hk₁ _ o hDw e) (hInv _ _ hI' fun b hb o e => hk₁ b o (fun q => hmf b (W.sub _ q) hb) e) hin hP ?_ fun b o hbC hbf hbD hbm e => hk₁ b o hbf (hk b o hbC hbf hbD hbm e)
    exact pairedImp (fun v y q h₅ k₅ => q h₅ fun b o hbC hbf hbD hbm e => k₅ b o hbC hbf hbD hbm (hk₁ b o hbf e)) hF

variable {env : Env}

/-- the block of a comprehension: the new list, the new names, the loop -/
theorem comp_block {elt iter : Expr} {x : PySem.Str} {px : Pos} {ifs : List Expr} {scope : Scope} {cl : List (PySem.Str × Addr)} {pos : Pos} {s₂ : Shared} {I : Addr} {fp mu : List Addr} {n : Nat} {P : Nat → Value → Prop}
    {St : Nat → Heap → Prop} {h₀ : Heap} (W : Walks prog w A I fp [I] n P St) (hsz : n ≤ sizeLine) (p : Value → Bool) (F : Heap → Value → Value → Prop) (Inv : Heap → Prop) {RR : Value → Addr → Result → Shared → Prop}
    (hcell : ∀ y ∈ scope.names, y.2 ≠ .cell) (hkind : scope.kind = .function) (hx : scope.names.lookup x = some .local) (hst : St 0 s₂.heap) (hfp : ∀ b ∈ fp, b < s₂.heap.objs.size)
    (hwS : ∀ i h, St i h → ∀ b ∈ [I], h.get? b ≠ none) (hmf : ∀ b ∈ fp, b ∉ mu)
    (hInv : ∀ h h', Inv h → (∀ b ∈ mu, ∀ o, h.get? b = some o → h'.get? b = some o) → Inv h') (hIs : ∀ h, Inv h → ∀ b ∈ mu, h.get? b ≠ none) (h0 : Inv s₂.heap)
    (hI0 : I = h₀.objs.size) (h02 : ∀ b o, h₀.get? b = some o → s₂.heap.get? b = some o) (hle : h₀.objs.size ≤ s₂.heap.objs.size)
    (htests : ∀ C i v (s₃ : Shared) m₃ E', Fr (hideAll h₀ mu) C s₃.heap m₃ → P i v → m₃ x = some v → Inv s₃.heap →
      wpAny (model prog w) A (forIn ifs true fun c r => if r = true then do let ok ← isTrue c (compEnvC scope cl C env) (eval c (compEnvC scope cl C env)); pure (ForInStep.yield ok) else pure (ForInStep.yield r))
        (fun ok s₄ => Out (ok = p v ∧ Keeps s₃ s₄)) E' s₃)
    (helt : ∀ C i v (s₃ : Shared) m₃ E', Fr (hideAll h₀ mu) C s₃.heap m₃ → P i v → p v = true → m₃ x = some v → Inv s₃.heap →
      wpAny (model prog w) A (eval elt (compEnvC scope cl C env)) (fun y s₄ => Out ((∀ h₅, Up (hideAll h₀ mu) h₅ → NewUp s₃.heap s₄.heap h₅ → F h₅ v y) ∧ Inv s₄.heap ∧ KeepsBut mu s₃ s₄)) E' s₃)
    (hRR : ∀ D C h' tk m' ys (vs : List Value), s₂.heap.get? D = none → s₂.heap.get? C = none → D ≠ C → h'.Ns C m' → h'.PlainList D ys → Inv h' → vs.length = n → (∀ (j : Nat) (v : Value), vs[j]? = some v → P j v) →
      (∀ h₅, (∀ b o, b ≠ C → b ∉ mu → h'.get? b = some o → h₅.get? b = some o) → Paired (F h₅) (vs.filter p) ys.toList) →
      (∀ b o, b ≠ I → b ∉ mu → s₂.heap.get? b = some o → h'.get? b = some o) → RR (.ref D) C (.ok .next) { s₂ with heap := h', toks := tk }) :
    wpAny (model prog w) A (newList []) (fun acc s₃ => wpAny (model prog w) A (newFunctionEnv scope env.globals cl [] env.qual none .none (some env)) (fun cenv s₄ =>
      codeAny (model prog w) A (.compStart (.ListComp elt [⟨.Name x px, iter, ifs, 0⟩] scope pos) 0 (.ref I) acc { cenv with scope := relabel scope env }) (RR acc cenv.locals) s₄) E s₃) E s₂ := by
  refine wpAny_newObj_type (wpAny_newFunctionEnv hcell (by intro y hy; simp at hy) (fun h₁ hns₁ hsb₁ => ?_) hkind)
  dsimp only at hns₁ hsb₁ ⊢
  generalize hH2 : s₂.heap.push { cls := .type "list", dict := none, data := .seq ([] : List Value).toArray } = H2 at hns₁ hsb₁ ⊢
  have hC : H2.objs.size = s₂.heap.objs.size + 1 := by rw [← hH2, Heap.size_push]
  have hDC : s₂.heap.objs.size ≠ H2.objs.size := by rw [hC]; exact Nat.ne_of_lt (Nat.lt_succ_self _)
  have below : ∀ b, b < s₂.heap.objs.size → b ≠ H2.objs.size ∧ b ≠ s₂.heap.objs.size := fun b hb => ⟨by rw [hC]; exact Nat.ne_of_lt (Nat.lt_succ_of_lt hb), Nat.ne_of_lt hb⟩
  have hDf : s₂.heap.objs.size ∉ fp := fun hm => Nat.lt_irrefl _ (hfp _ hm)
  have hCf : H2.objs.size ∉ fp := fun hm => by have := hfp _ hm; rw [hC] at this; exact Nat.lt_irrefl _ (Nat.lt_of_succ_lt this)
  have old : ∀ b o, s₂.heap.get? b = some o → h₁.get? b = some o := fun b o e => hsb₁.extBut b o (below b (Heap.lt_size e)).1 (Heap.get?_push_of_some _ (hH2 ▸ Heap.get?_push_of_some _ e))
  have hacc : h₁.PlainList s₂.heap.objs.size #[] := ⟨_, hsb₁.extBut _ _ hDC (Heap.get?_push_of_some _ (hH2 ▸ Heap.get?_push_size _ rfl))⟩
  have hst₁ : St 0 h₁ := W.frame _ _ _ hst fun b _ o e => old b o e
  have hI₁ : Inv h₁ := hInv _ _ h0 fun b _ o e => old b o e
  have fresh : ∀ a, s₂.heap.objs.size ≤ a → s₂.heap.get? a = none := fun a ha => by
    cases e : s₂.heap.get? a with
    | none => rfl
    | some o' => exact absurd (Heap.lt_size e) (Nat.not_lt.mpr ha)
  have hmlt : ∀ b ∈ mu, b < s₂.heap.objs.size := fun b hb => by
    cases e : s₂.heap.get? b with
    | none => exact absurd e (hIs _ h0 b hb)
    | some o => exact Heap.lt_size e
  have hmD : s₂.heap.objs.size ∉ mu := fun hm => Nat.lt_irrefl _ (hmlt _ hm)
  have hmC : H2.objs.size ∉ mu := fun hm => by have := hmlt _ hm; rw [hC] at this; exact Nat.lt_irrefl _ (Nat.lt_of_succ_lt this)
  -- the ground under a turn
  have ground : ∀ (s₃ : Shared) m₃, s₃.heap.Ns H2.objs.size m₃ → (∀ b o, b ≠ H2.objs.size → b ∉ [I] → b ≠ s₂.heap.objs.size → b ∉ mu → h₁.get? b = some o → s₃.heap.get? b = some o) → Fr (hideAll h₀ mu) H2.objs.size s₃.heap m₃ := fun s₃ m₃ hn hk =>
    ⟨hn, fun b o e => by
      have e0 := of_hideAll _ e
      have nm : b ∉ mu := fun q => by rw [hideAll_none _ q] at e; cases e
      have lt0 : b < h₀.objs.size := Heap.lt_size e0
      have lt := Nat.lt_of_lt_of_le lt0 hle
      exact hk b o (below b lt).1 (fun q => by rw [List.mem_singleton.mp q, hI0] at lt0; exact Nat.lt_irrefl _ lt0) (below b lt).2 nm (old b o (h02 b o e0)),
    by rw [hideAll_size, hC]; exact Nat.le_succ_of_le hle⟩
  have loop : ∀ s₃ : Shared, s₃ = { s₂ with heap := h₁, toks := s₂.toks + ([] : List (PySem.Str × Value)).length } →
      codeAny (model prog w) A (.compLoop (.ListComp elt [⟨.Name x px, iter, ifs, 0⟩] scope pos) 0 (.ref I) (.ref s₂.heap.objs.size) (compEnvC scope cl H2.objs.size env))
        (RR (.ref s₂.heap.objs.size) H2.objs.size) s₃ := by
    rintro s₃ rfl
    refine comp_loop (mu := mu) (hsz := hsz) (cenv := compEnvC scope cl H2.objs.size env) W p F Inv (lookup_relabel_local hx) (by simp [compEnvC, relabel, hkind]) hDC hDf hCf hmD hmC hmf hInv hIs hst₁ hwS hacc hns₁ hI₁
      (fun i v s₃ m₃ hv hn hm hI hk => wpAny_mono (htests _ i v s₃ m₃ _ (ground s₃ m₃ hn hk) hv hm hI) (fun _ _ y => y.out) fun _ _ y => y)
      (fun i v s₃ m₃ hv hpv hn hm hI hk => wpAny_mono (helt _ i v s₃ m₃ _ (ground s₃ m₃ hn hk) hv hpv hm hI) (fun y s₄ q => ⟨fun h₅ k₅ n₅ => q.out.1 h₅ (fun b o e => by
        have e0 := of_hideAll _ e
        have nm : b ∉ mu := fun q => by rw [hideAll_none _ q] at e; cases e
        have lt0 : b < h₀.objs.size := Heap.lt_size e0
        have lt := Nat.lt_of_lt_of_le lt0 hle
        exact k₅ b o (below b lt).1 (fun q => by rw [List.mem_singleton.mp q, hI0] at lt0; exact Nat.lt_irrefl _ lt0) (below b lt).2 nm (old b o (h02 b o e0))) n₅, q.out.2⟩) fun _ _ y => y) ?_
    intro h' tk m' ys vs hn ha hI hlen hP hF hk
    exact hRR _ _ h' tk m' ys vs (fresh _ (Nat.le_refl _)) (fresh _ (by rw [hC]; exact Nat.le_succ _)) hDC hn ha hI hlen hP (fun h₅ k₅ => pairedImp (fun v y q => q h₅ fun b o hbC _ _ hbm e => k₅ b o hbC hbm e) hF) fun b o hbI hbm e =>
      hk b o (below b (Heap.lt_size e)).1 (fun q => hbI (List.mem_singleton.mp q)) (below b (Heap.lt_size e)).2 hbm (old b o e)
  exact codeAny_compStart_list (loop _ rfl) (W.self 0 _ _ _ hst₁ (loop _ rfl))

/-- a list comprehension of one clause -/
theorem comp_mu {elt iter : Expr} {x : PySem.Str} {px : Pos} {ifs : List Expr} {scope : Scope} {cl : List (PySem.Str × Addr)} {pos : Pos} {Q : Value → Shared → Prop} {nn : Nat} {P : Nat → Value → Prop} {mu : List Addr} (p : Value → Bool) (F : Heap → Value → Value → Prop) (Inv : Heap → Prop)
    (hclos : closureFor scope env = pure cl) (hcell : ∀ y ∈ scope.names, y.2 ≠ .cell) (hkind : scope.kind = .function)
    (hnames : ∀ y ∈ scope.names, y.2 = .local → scope.names.lookup y.1 = some .local) (hx : scope.names.lookup x = some .local)
    (hInv : ∀ h h', Inv h → (∀ b ∈ mu, ∀ o, h.get? b = some o → h'.get? b = some o) → Inv h') (hIs : ∀ h, Inv h → ∀ b ∈ mu, h.get? b ≠ none)
    (hiter : wpAny (model prog w) A (eval iter env) (fun xv s₁ => Out (KeepsBut mu s s₁ ∧ Inv s₁.heap ∧ Src prog w A s₁ xv nn P ∧ (∀ b ∈ mu, xv ≠ .ref b))) E s) (hsz : nn ≤ sizeLine)
    (htest : ∀ g C i v (s₃ : Shared) m₃ E', (∀ b o, b ∉ mu → s.heap.get? b = some o → g.get? b = some o) → (∀ b ∈ mu, g.get? b = none) → Fr g C s₃.heap m₃ → m₃ x = some v → P i v → Inv s₃.heap →
      wpAny (model prog w) A (forIn ifs true fun c r => if r = true then do let ok ← isTrue c (compEnvC scope cl C env) (eval c (compEnvC scope cl C env)); pure (ForInStep.yield ok) else pure (ForInStep.yield r))
        (fun ok s₄ => Out (ok = p v ∧ Keeps s₃ s₄)) E' s₃)
    (helt : ∀ g C i v (s₃ : Shared) m₃ E', (∀ b o, b ∉ mu → s.heap.get? b = some o → g.get? b = some o) → (∀ b ∈ mu, g.get? b = none) → Fr g C s₃.heap m₃ → m₃ x = some v → P i v → p v = true → Inv s₃.heap →
      wpAny (model prog w) A (eval elt (compEnvC scope cl C env)) (fun y s₄ => Out ((∀ h₅, Up g h₅ → NewUp s₃.heap s₄.heap h₅ → F h₅ v y) ∧ Inv s₄.heap ∧ KeepsBut mu s₃ s₄)) E' s₃)
    (hQ : ∀ D h' tk ys (vs : List Value), (s.heap.get? D = none ∨ D ∈ mu) → h'.PlainList D ys → Inv h' → vs.length = nn → (∀ (j : Nat) (v : Value), vs[j]? = some v → P j v) → Paired (F h') (vs.filter p) ys.toList → (∀ b o, b ∉ mu → s.heap.get? b = some o → h'.get? b = some o) → D ∉ mu → Q (.ref D) { s with heap := h', toks := tk })
    (hs : ∀ x, foldedSetIterable iter env x = pure x := by intro _; rfl) :
    wpAny (model prog w) A (eval (.ListComp elt [⟨.Name x px, iter, ifs, 0⟩] scope pos) env) Q E s := by
  rw [eval_ListComp]
  refine wpAny_comprehension_free (use := none) rfl hs hclos hkind hnames (wpAny_mono hiter (fun xv s₁ h₁ => ?_) fun _ _ e => e)
  obtain ⟨⟨⟨h₁, tk₁, rfl, k₁⟩, hI₁, S, hxm⟩⟩ := h₁
  refine S _ _ fun o fp St W h0 hfp hfo hwS hfx => ?_
  have hmf : ∀ b ∈ fp, b ∉ mu := fun b hb hm => by
    by_cases hbI : b = h₁.objs.size
    · subst hbI
      cases e : h₁.get? h₁.objs.size with
      | none => exact hIs _ hI₁ _ hm e
      | some o' => exact Nat.lt_irrefl _ (Heap.lt_size e)
    · exact hxm b hm (hfx b hb hbI)
  have hle : h₁.objs.size ≤ (h₁.push o).objs.size := by rw [Heap.size_push]; exact Nat.le_succ _
  refine comp_block (mu := mu) (h₀ := h₁) (RR := fun acc C => compPost (model prog w) A E none Q acc C) W hsz p F Inv hcell hkind hx h0 hfp hwS hmf hInv hIs (hInv _ _ hI₁ fun b _ o e => Heap.get?_push_of_some _ e) rfl (fun b o' e => Heap.get?_push_of_some _ e) hle
    (fun C i v s₃ m₃ E' F₃ hP hm hI => htest _ C i v s₃ m₃ E' (fun b o' nm e => hideAll_get _ (k₁ b o' nm e) nm) (fun b hb => hideAll_none _ hb) F₃ hm hP hI)
    (fun C i v s₃ m₃ E' F₃ hP hpv hm hI => helt _ C i v s₃ m₃ E' (fun b o' nm e => hideAll_get _ (k₁ b o' nm e) nm) (fun b hb => hideAll_none _ hb) F₃ hm hP hpv hI) ?_
  intro D C h' tk m' ys vs hD hC hDC hn hpl hI hlen hP hF hk
  have hDn : D ∉ mu := fun q => by
    cases e : h₁.get? D with
    | none => exact hIs _ hI₁ _ q e
    | some o' => rw [Heap.get?_push_of_some _ e] at hD; cases hD
  have hCm : C ∉ mu := fun q => by
    cases e : h₁.get? C with
    | none => exact hIs _ hI₁ _ q e
    | some o' => rw [Heap.get?_push_of_some _ e] at hC; cases hC
  refine ⟨m', hn, fun h'' hs'' => hQ D h'' tk ys vs ?_ (hpl.extBut hs''.extBut hDC) (hInv _ _ hI fun b hb o' e => hs''.extBut b o' (fun q => hCm (q ▸ hb)) e) hlen hP (hF h'' fun b o' hb _ e => hs''.extBut b o' hb e) ?_ hDn⟩
  · left
    cases e : s.heap.get? D with
    | none => rfl
    | some o' => rw [Heap.get?_push_of_some _ (k₁ _ _ hDn e)] at hD; cases hD
  · intro b o' nm e
    have e1 := k₁ b o' nm e
    have e2 := Heap.get?_push_of_some o e1
    refine hs''.extBut b o' (fun q => by rw [q] at e2; rw [hC] at e2; cases e2) (hk b o' (fun q => ?_) nm e2)
    rw [q] at e1; exact Nat.lt_irrefl _ (Heap.lt_size e1)

/-- nothing is turned -/
theorem comp_ev {elt iter : Expr} {x : PySem.Str} {px : Pos} {ifs : List Expr} {scope : Scope} {cl : List (PySem.Str × Addr)} {pos : Pos} {Q : Value → Shared → Prop} {nn : Nat} {P : Nat → Value → Prop} (p : Value → Bool) (F : Heap → Value → Value → Prop)
    (hclos : closureFor scope env = pure cl) (hcell : ∀ y ∈ scope.names, y.2 ≠ .cell) (hkind : scope.kind = .function)
    (hnames : ∀ y ∈ scope.names, y.2 = .local → scope.names.lookup y.1 = some .local) (hx : scope.names.lookup x = some .local)
    (hiter : wpAny (model prog w) A (eval iter env) (fun xv s₁ => Out (Keeps s s₁ ∧ Src prog w A s₁ xv nn P)) E s) (hsz : nn ≤ sizeLine)
    (htest : ∀ g C i v (s₃ : Shared) m₃ E', Up s.heap g → Fr g C s₃.heap m₃ → m₃ x = some v → P i v →
      wpAny (model prog w) A (forIn ifs true fun c r => if r = true then do let ok ← isTrue c (compEnvC scope cl C env) (eval c (compEnvC scope cl C env)); pure (ForInStep.yield ok) else pure (ForInStep.yield r))
        (fun ok s₄ => Out (ok = p v ∧ Keeps s₃ s₄)) E' s₃)
    (helt : ∀ g C i v (s₃ : Shared) m₃ E', Up s.heap g → Fr g C s₃.heap m₃ → m₃ x = some v → P i v → p v = true →
      wpAny (model prog w) A (eval elt (compEnvC scope cl C env)) (fun y s₄ => Out ((∀ h₅, Up g h₅ → NewUp s₃.heap s₄.heap h₅ → F h₅ v y) ∧ Keeps s₃ s₄)) E' s₃)
    (hQ : ∀ D h' tk ys (vs : List Value), s.heap.get? D = none → h'.PlainList D ys → vs.length = nn → (∀ (j : Nat) (v : Value), vs[j]? = some v → P j v) → Paired (F h') (vs.filter p) ys.toList → Up s.heap h' → Q (.ref D) { s with heap := h', toks := tk })
    (hs : ∀ x, foldedSetIterable iter env x = pure x := by intro _; rfl) :
    wpAny (model prog w) A (eval (.ListComp elt [⟨.Name x px, iter, ifs, 0⟩] scope pos) env) Q E s := by
  refine comp_mu (mu := []) p F (fun _ => True) hclos hcell hkind hnames hx (fun _ _ _ _ => trivial) (fun _ _ _ hb => nomatch hb)
    (wpAny_mono hiter (fun xv s₁ h => ⟨by obtain ⟨⟨⟨h', tk, rfl, k⟩, S⟩⟩ := h; exact ⟨⟨h', tk, rfl, fun b o _ e => k b o e⟩, trivial, S, fun _ hb => nomatch hb⟩⟩) fun _ _ e => e) hsz
    (fun g C i v s₃ m₃ E' hg _ F₃ hm hP _ => htest g C i v s₃ m₃ E' (fun b o e => hg b o (List.not_mem_nil) e) F₃ hm hP)
    (fun g C i v s₃ m₃ E' hg _ F₃ hm hP hpv _ => wpAny_mono (helt g C i v s₃ m₃ E' (fun b o e => hg b o (List.not_mem_nil) e) F₃ hm hP hpv)
      (fun y s₄ q => ⟨q.out.1, trivial, by obtain ⟨h', tk, rfl, k⟩ := q.out.2; exact ⟨h', tk, rfl, fun b o _ e => k b o e⟩⟩) fun _ _ e => e)
    (fun D h' tk ys vs hD hpl _ hlen hP hF hk _ => hQ D h' tk ys vs (hD.elim id fun q => nomatch q) hpl hlen hP hF (fun b o e => hk b o (List.not_mem_nil) e)) hs

/-- a list comprehension stored into a local name; the frame's names are turned last -/
theorem comp_asg_mu {elt iter : Expr} {x y : PySem.Str} {px py : Pos} {ifs : List Expr} {scope : Scope} {cl : List (PySem.Str × Addr)} {pos spos : Pos} {Q : Flow → Shared → Prop} {nn : Nat} {P : Nat → Value → Prop} {mu : List Addr} {L : Addr} {m : PySem.Str → Option Value} (p : Value → Bool) (F : Heap → Value → Value → Prop) (Inv : Heap → Prop)
    (hL : env.locals = L) (hN : s.heap.Ns L m) (hLm : L ∉ mu)
    (hsw : swapsWith (.ListComp elt [⟨.Name x px, iter, ifs, 0⟩] scope pos) (some (.Name y py)) spos.line env = pure true)
    (hclos : closureFor scope env = pure cl) (hcell : ∀ y ∈ scope.names, y.2 ≠ .cell) (hkind : scope.kind = .function)
    (hnames : ∀ y ∈ scope.names, y.2 = .local → scope.names.lookup y.1 = some .local) (hx : scope.names.lookup x = some .local)
    (hy : env.kindOf y = some .local) (hp : (env.scope.kind == .class || (env.scope.kind == .module && env.locals != env.globals)) = false)
    (hInv : ∀ h h', Inv h → (∀ b ∈ mu, ∀ o, h.get? b = some o → h'.get? b = some o) → Inv h') (hIs : ∀ h, Inv h → ∀ b ∈ mu, h.get? b ≠ none)
    (hiter : wpAny (model prog w) A (eval iter env) (fun xv s₁ => Out (KeepsBut mu s s₁ ∧ Inv s₁.heap ∧ Src prog w A s₁ xv nn P ∧ (∀ b ∈ L :: mu, xv ≠ .ref b))) E s) (hsz : nn ≤ sizeLine)
    (htest : ∀ g C i v (s₃ : Shared) m₃ E', (∀ b o, b ≠ L → b ∉ mu → s.heap.get? b = some o → g.get? b = some o) → (∀ b ∈ L :: mu, g.get? b = none) → Fr g C s₃.heap m₃ → m₃ x = some v → P i v → Inv s₃.heap →
      wpAny (model prog w) A (forIn ifs true fun c r => if r = true then do let ok ← isTrue c (compEnvC scope cl C env) (eval c (compEnvC scope cl C env)); pure (ForInStep.yield ok) else pure (ForInStep.yield r))
        (fun ok s₄ => Out (ok = p v ∧ Keeps s₃ s₄)) E' s₃)
    (helt : ∀ g C i v (s₃ : Shared) m₃ E', (∀ b o, b ≠ L → b ∉ mu → s.heap.get? b = some o → g.get? b = some o) → (∀ b ∈ L :: mu, g.get? b = none) → Fr g C s₃.heap m₃ → m₃ x = some v → P i v → p v = true → Inv s₃.heap →
      wpAny (model prog w) A (eval elt (compEnvC scope cl C env)) (fun y s₄ => Out ((∀ h₅, Up g h₅ → NewUp s₃.heap s₄.heap h₅ → F h₅ v y) ∧ Inv s₄.heap ∧ KeepsBut mu s₃ s₄)) E' s₃)
    (hQ : ∀ D h' tk ys (vs : List Value), s.heap.get? D = none → h'.PlainList D ys → Inv h' → vs.length = nn → (∀ (j : Nat) (v : Value), vs[j]? = some v → P j v) → Paired (F h') (vs.filter p) ys.toList → (∀ b o, b ≠ L → b ∉ mu → s.heap.get? b = some o → h'.get? b = some o) →
      h'.Ns L (fun z => if z = y then some (.ref D) else m z) → D ≠ L → Q .next { s with heap := h', toks := tk })
    (hs : ∀ x, foldedSetIterable iter env x = pure x := by intro _; rfl) :
    wpAny (model prog w) A (exec (.Assign [.Name y py] (.ListComp elt [⟨.Name x px, iter, ifs, 0⟩] scope pos) spos) env) Q E s := by
  subst hL
  rw [exec_Assign_Name_used _ _ _ _ hsw]
  refine wpAny_bind (wpAny_standAt (wpAny_bind ?_))
  show wpAny _ A (do let _ ← comprehension (.ListComp elt [⟨.Name x px, iter, ifs, 0⟩] scope pos) scope env _ (newList []) false (eval iter env) (some (assign (.Name y py) env))) _ _ s
  refine wpAny_bind (wpAny_mono (wpAny_comprehension_free (use := some (assign (.Name y py) env)) (Q := fun _ s' => Q .next s') rfl hs hclos hkind hnames
    (wpAny_mono hiter (fun xv s₁ h₁ => ?_) fun _ _ e => e)) (fun _ s' hq => wpAny_pure (wpAny_pure hq)) fun _ _ e => e)
  obtain ⟨⟨⟨h₁, tk₁, rfl, k₁⟩, hI₁, S, hxm⟩⟩ := h₁
  refine S _ _ fun o fp St W h0 hfp hfo hwS hfx => ?_
  have hN₁ : h₁.Ns env.locals m := hN.at' fun o e => k₁ _ o hLm e
  have hI₁' : ∀ b ∈ env.locals :: mu, h₁.get? b ≠ none := fun b hb => by
    rcases List.mem_cons.mp hb with rfl | hb
    · obtain ⟨oL, _, _, e, _⟩ := hN₁; intro q; rw [e] at q; cases q
    · exact hIs _ hI₁ b hb
  have hmf : ∀ b ∈ fp, b ∉ env.locals :: mu := fun b hb hm => by
    by_cases hbI : b = h₁.objs.size
    · subst hbI
      cases e : h₁.get? h₁.objs.size with
      | none => exact hI₁' _ hm e
      | some o' => exact Nat.lt_irrefl _ (Heap.lt_size e)
    · exact hxm b hm (hfx b hb hbI)
  have hle : h₁.objs.size ≤ (h₁.push o).objs.size := by rw [Heap.size_push]; exact Nat.le_succ _
  refine comp_block (mu := env.locals :: mu) (h₀ := h₁) (RR := fun acc C => compPost (model prog w) A E (some (assign (.Name y py) env)) (fun _ s' => Q .next s') acc C) W hsz p F (fun h => Inv h ∧ h.Ns env.locals m) hcell hkind hx h0 hfp hwS hmf
    (fun h h' hi k => ⟨hInv h h' hi.1 fun b hb o e => k b (.tail _ hb) o e, hi.2.at' fun o e => k _ (.head _) o e⟩)
    (fun h hi b hb => by
      rcases List.mem_cons.mp hb with rfl | hb
      · obtain ⟨oL, _, _, e, _⟩ := hi.2; intro q; rw [e] at q; cases q
      · exact hIs _ hi.1 b hb)
    ⟨hInv _ _ hI₁ fun b _ o e => Heap.get?_push_of_some _ e, hN₁.push _⟩ rfl (fun b o' e => Heap.get?_push_of_some _ e) hle
    (fun C i v s₃ m₃ E' F₃ hP hm hI => htest _ C i v s₃ m₃ E' (fun b o' nL nm e => hideAll_get _ (k₁ b o' nm e) (fun q => (List.mem_cons.mp q).elim nL nm)) (fun b hb => hideAll_none _ hb) F₃ hm hP hI.1)
    (fun C i v s₃ m₃ E' F₃ hP hpv hm hI => wpAny_mono (helt _ C i v s₃ m₃ E' (fun b o' nL nm e => hideAll_get _ (k₁ b o' nm e) (fun q => (List.mem_cons.mp q).elim nL nm)) (fun b hb => hideAll_none _ hb) F₃ hm hP hpv hI.1)
      (fun y' s₄ q => by
        obtain ⟨⟨q1, q2, h', tk, rfl, k⟩⟩ := q
        exact ⟨⟨q1, ⟨q2, hI.2.at' fun o e => k _ o hLm e⟩, h', tk, rfl, fun b o nb e => k b o (fun q => nb (.tail _ q)) e⟩⟩) fun _ _ e => e) ?_
  intro D C h' tk m' ys vs hD hC hDC hn hpl hI hlen hP hF hk
  have hDn : D ∉ env.locals :: mu := fun q => by
    cases e : h₁.get? D with
    | none => exact hI₁' _ q e
    | some o' => rw [Heap.get?_push_of_some _ e] at hD; cases hD
  have hCm : C ∉ env.locals :: mu := fun q => by
    cases e : h₁.get? C with
    | none => exact hI₁' _ q e
    | some o' => rw [Heap.get?_push_of_some _ e] at hC; cases hC
  have hDL : D ≠ env.locals := fun q => hDn (q ▸ .head _)
  have hCL : C ≠ env.locals := fun q => hCm (q ▸ .head _)
  show wpAny _ A (assign (.Name y py) env (.ref D)) _ _ _
  refine wpAny_assign_Name (wpAny_storeName_local hy hI.2 (fun h₂ hn₂ hs₂ => ?_) hp)
  refine ⟨m', hn.sameBut hs₂ hCL, fun h₃ hs₃ => ?_⟩
  have up : ∀ b o', b ≠ C → b ∉ env.locals :: mu → h'.get? b = some o' → h₃.get? b = some o' := fun b o' hbC hbm e => hs₃.extBut b o' hbC (hs₂.extBut b o' (fun q => hbm (q ▸ .head _)) e)
  refine hQ D h₃ _ ys vs ?_ ((hpl.extBut hs₂.extBut hDL).extBut hs₃.extBut hDC) (hInv _ _ hI.1 fun b hb o' e => hs₃.extBut b o' (fun q => hCm (q ▸ .tail _ hb)) (hs₂.extBut b o' (fun q => hLm (q ▸ hb)) e)) hlen hP (hF h₃ up) ?_ (hn₂.sameBut hs₃ (Ne.symm hCL)) hDL
  · cases e : s.heap.get? D with
    | none => rfl
    | some o' => rw [Heap.get?_push_of_some _ (k₁ _ _ (fun q => hDn (.tail _ q)) e)] at hD; cases hD
  · intro b o' nL nm e
    have e1 := k₁ b o' nm e
    have e2 := Heap.get?_push_of_some o e1
    refine up b o' (fun q => by rw [q] at e2; rw [hC] at e2; cases e2) (fun q => (List.mem_cons.mp q).elim nL nm) (hk b o' (fun q => ?_) (fun q => (List.mem_cons.mp q).elim nL nm) e2)
    rw [q] at e1; exact Nat.lt_irrefl _ (Heap.lt_size e1)

/-- nothing but the frame is turned -/
theorem comp_asg {elt iter : Expr} {x y : PySem.Str} {px py : Pos} {ifs : List Expr} {scope : Scope} {cl : List (PySem.Str × Addr)} {pos spos : Pos} {Q : Flow → Shared → Prop} {nn : Nat} {P : Nat → Value → Prop} {L : Addr} {h₀ : Heap} {m : PySem.Str → Option Value} (p : Value → Bool) (F : Heap → Value → Value → Prop)
    (FL : Fr h₀ L s.heap m) (hL : env.locals = L)
    (hsw : swapsWith (.ListComp elt [⟨.Name x px, iter, ifs, 0⟩] scope pos) (some (.Name y py)) spos.line env = pure true)
    (hclos : closureFor scope env = pure cl) (hcell : ∀ y ∈ scope.names, y.2 ≠ .cell) (hkind : scope.kind = .function)
    (hnames : ∀ y ∈ scope.names, y.2 = .local → scope.names.lookup y.1 = some .local) (hx : scope.names.lookup x = some .local)
    (hy : env.kindOf y = some .local) (hp : (env.scope.kind == .class || (env.scope.kind == .module && env.locals != env.globals)) = false)
    (hiter : wpAny (model prog w) A (eval iter env) (fun xv s₁ => Out (Keeps s s₁ ∧ Src prog w A s₁ xv nn P ∧ xv ≠ .ref L)) E s) (hsz : nn ≤ sizeLine)
    (htest : ∀ g C i v (s₃ : Shared) m₃ E', (∀ b o, b ≠ L → s.heap.get? b = some o → g.get? b = some o) → g.get? L = none → Fr g C s₃.heap m₃ → m₃ x = some v → P i v →
      wpAny (model prog w) A (forIn ifs true fun c r => if r = true then do let ok ← isTrue c (compEnvC scope cl C env) (eval c (compEnvC scope cl C env)); pure (ForInStep.yield ok) else pure (ForInStep.yield r))
        (fun ok s₄ => Out (ok = p v ∧ Keeps s₃ s₄)) E' s₃)
    (helt : ∀ g C i v (s₃ : Shared) m₃ E', (∀ b o, b ≠ L → s.heap.get? b = some o → g.get? b = some o) → g.get? L = none → Fr g C s₃.heap m₃ → m₃ x = some v → P i v → p v = true →
      wpAny (model prog w) A (eval elt (compEnvC scope cl C env)) (fun y s₄ => Out ((∀ h₅, Up g h₅ → NewUp s₃.heap s₄.heap h₅ → F h₅ v y) ∧ Keeps s₃ s₄)) E' s₃)
    (hQ : ∀ D h' tk ys (vs : List Value), s.heap.get? D = none → h'.PlainList D ys → vs.length = nn → (∀ (j : Nat) (v : Value), vs[j]? = some v → P j v) → Paired (F h') (vs.filter p) ys.toList → (∀ b o, b ≠ L → s.heap.get? b = some o → h'.get? b = some o) →
      Fr h₀ L h' (fun z => if z = y then some (.ref D) else m z) → D ≠ L → Q .next { s with heap := h', toks := tk })
    (hs : ∀ x, foldedSetIterable iter env x = pure x := by intro _; rfl) :
    wpAny (model prog w) A (exec (.Assign [.Name y py] (.ListComp elt [⟨.Name x px, iter, ifs, 0⟩] scope pos) spos) env) Q E s :=
  comp_asg_mu (mu := []) p F (fun _ => True) hL FL.ns (List.not_mem_nil) hsw hclos hcell hkind hnames hx hy hp (fun _ _ _ _ => trivial) (fun _ _ _ hb => nomatch hb)
    (wpAny_mono hiter (fun xv s₁ h => ⟨by
      obtain ⟨⟨⟨h', tk, rfl, k⟩, S, hn⟩⟩ := h
      exact ⟨⟨h', tk, rfl, fun b o _ e => k b o e⟩, trivial, S, fun b hb q => by rw [List.mem_singleton.mp hb] at q; exact hn q⟩⟩) fun _ _ e => e) hsz
    (fun g C i v s₃ m₃ E' hg hn F₃ hm hP _ => htest g C i v s₃ m₃ E' (fun b o nL e => hg b o nL (List.not_mem_nil) e) (hn L (.head _)) F₃ hm hP)
    (fun g C i v s₃ m₃ E' hg hn F₃ hm hP hpv _ => wpAny_mono (helt g C i v s₃ m₃ E' (fun b o nL e => hg b o nL (List.not_mem_nil) e) (hn L (.head _)) F₃ hm hP hpv)
      (fun y s₄ q => ⟨q.out.1, trivial, by obtain ⟨h', tk, rfl, k⟩ := q.out.2; exact ⟨h', tk, rfl, fun b o _ e => k b o e⟩⟩) fun _ _ e => e)
    (fun D h' tk ys vs hD hpl _ hlen hP hF hk hN hDL => hQ D h' tk ys vs hD hpl hlen hP hF (fun b o nL e => hk b o nL (List.not_mem_nil) e)
      ⟨hN, fun b o e => hk b o (Nat.ne_of_lt (Nat.lt_of_lt_of_le (Heap.lt_size e) FL.above)) (List.not_mem_nil) (FL.keep b o e), FL.above⟩ hDL) hs

/-- a for over a list that stands in the ground; what the body turns is the frame and the ledger -/
theorem for_list {x : PySem.Str} {px pos : Pos} {iter : Expr} {body : List Stmt} {Q : Flow → Shared → Prop} {g : Heap} {L : Addr} {m : PySem.Str → Option Value} {news : List (Addr × Obj)} {ax : Addr} {items : List Value}
    (hh : A.handled = none) (hx : env.kindOf x = some .local) (hp : (env.scope.kind == .class || (env.scope.kind == .module && env.locals != env.globals)) = false)
    (hL : env.locals = L) (F : Fr g L s.heap m) (N : News g L s.heap news) (hl : g.IsList ax items.toArray)
    (hiter : ∀ Q' : Value → Shared → Prop, Q' (.ref ax) s → wpAny (model prog w) A (eval iter env) Q' E s)
    (J : List Value → (PySem.Str → Option Value) → List (Addr × Obj) → Prop) (h0 : J [] m news)
    (step : ∀ pre v rest m₁ news₁ I io h tk, items = pre ++ v :: rest → J pre m₁ news₁ → (∀ p ∈ news₁, p.1 ≠ I) → Fr g L h (fun y => if y = x then some v else m₁ y) → News g L h ((I, io) :: news₁) →
      wpAny (model prog w) A (execs body env) (fun f s₂ => match f with
        | .next | .cont => Out (∃ h' tk' m' news', s₂ = { s with heap := h', toks := tk' } ∧ Fr g L h' m' ∧ News g L h' ((I, io) :: news') ∧ (∀ p ∈ news', p.1 ≠ I) ∧ J (pre ++ [v]) m' news')
        | .brk => Q .next s₂
        | .ret v => Q (.ret v) s₂) (fun _ _ => False) { s with heap := h, toks := tk })
    (hQ : ∀ h' tk m' news', Fr g L h' m' → News g L h' news' → J items m' news' → Q .next { s with heap := h', toks := tk })
    (hs : ∀ x, foldedSetIterable iter env x = pure x := by intro _; rfl) :
    wpAny (model prog w) A (exec (.For (.Name x px) iter body [] pos) env) Q E s := by
  subst hL
  have hls : s.heap.IsList ax items.toArray := hl.at fun o e => F.keep ax o e
  obtain ⟨ol, hol, _⟩ := id hl
  have hlt : ax < s.heap.objs.size := Heap.lt_size (F.keep _ _ hol)
  refine wpAny_For (hiter _ (wpAny_pyIter_list hls ?_)) hs
  have W := Walks.list (prog := prog) (w := w) hh s.heap.objs.size ax (Nat.ne_of_lt hlt) items.toArray
  have hIL : s.heap.objs.size ≠ env.locals := Nat.ne_of_gt F.ns.lt
  have hIg : g.get? s.heap.objs.size = none := by
    cases q : g.get? s.heap.objs.size with
    | none => rfl
    | some o' => exact absurd (Heap.lt_size (F.keep _ _ q)) (Nat.lt_irrefl _)
  refine codeAny_forLoop
    (fun k s' => ∃ h' tk m' news' i, s' = { s with heap := h', toks := tk } ∧ h'.IsListIter s.heap.objs.size ax i ∧ Fr g env.locals h' m' ∧ News g env.locals h' news' ∧ (∀ p ∈ news', p.1 ≠ s.heap.objs.size) ∧ J (items.take i) m' news' ∧ i ≤ items.length ∧ k = items.length + 1 - i) ?_ (items.length + 1)
    ⟨_, s.toks, m, news, 0, rfl, ⟨_, Heap.get?_push_size _ rfl, rfl, rfl⟩, F.push _, fun p hp => ⟨Heap.get?_push_of_some _ (N p hp).1, (N p hp).2⟩, fun p hp => Nat.ne_of_lt (Heap.lt_size (N p hp).1), by simpa using h0, Nat.zero_le _, rfl⟩
  rintro k s' ⟨h', tk, m', news', i, rfl, hit, F', N', hne, hJ, hi, rfl⟩
  have hl' : h'.IsList ax items.toArray := hl.at fun o e => F'.keep ax o e
  cases hv : items[i]? with
  | none =>
    have hsz : i = items.length := Nat.le_antisymm hi (by simpa using hv)
    refine wpAny_pyNext_list_end hh hit hl' (by simpa using hv) fun h₁ he₁ => wpAny_execs_nil ?_
    refine hQ h₁ tk m' news' ⟨F'.ns.extBut he₁ (Ne.symm hIL), fun b o e => he₁ b o (fun q => by rw [q, hIg] at e; cases e) (F'.keep b o e), F'.above⟩ (fun p hp => ⟨he₁ _ _ (hne p hp) (N' p hp).1, (N' p hp).2⟩) ?_
    rw [hsz, List.take_length] at hJ; exact hJ
  | some v =>
    have hlt' : i < items.length := (List.getElem?_eq_some_iff.mp hv).1
    refine wpAny_pyNext_list_item hit hl' (by simpa using hv) fun h₁ hit₁ hs₁ => ?_
    have F₁ : Fr g env.locals h₁ m' := ⟨F'.ns.sameBut hs₁ (Ne.symm hIL), fun b o e => (hs₁.2 b fun q => by rw [q, hIg] at e; cases e).trans (F'.keep b o e), F'.above⟩
    have N₁ : News g env.locals h₁ news' := fun p hp => ⟨(hs₁.2 p.1 (hne p hp)).trans (N' p hp).1, (N' p hp).2⟩
    refine wpAny_assign_Name (wpAny_storeName_local hx F₁.ns (fun h₂ hn₂ hs₂ => ?_) hp)
    have F₂ := F₁.set hn₂ hs₂
    have N₂ := N₁.set hs₂
    have hit₂ := hit₁.extBut hs₂.extBut hIL
    obtain ⟨io, hio, hic, hid⟩ := hit₂
    have hsplit : items = items.take i ++ v :: items.drop (i + 1) := by
      have := List.getElem?_eq_some_iff.mp hv
      obtain ⟨h1, rfl⟩ := this
      simp
    have N₃ : News g env.locals h₂ ((s.heap.objs.size, io) :: news') := fun p hp => by
      rcases List.mem_cons.mp hp with rfl | hp
      · exact ⟨hio, hIL, hIg⟩
      · exact N₂ p hp
    refine wpAny_mono (step (items.take i) v (items.drop (i + 1)) m' news' s.heap.objs.size io h₂ _ hsplit hJ hne F₂ N₃) (fun f s₃ h₃ => ?_) fun _ _ e => e.elim
    have fin : (∃ h' tk' m' news', s₃ = { s with heap := h', toks := tk' } ∧ Fr g env.locals h' m' ∧ News g env.locals h' ((s.heap.objs.size, io) :: news') ∧ (∀ p ∈ news', p.1 ≠ s.heap.objs.size) ∧ J (items.take i ++ [v]) m' news') →
        ∃ m, m < items.length + 1 - i ∧ ∃ h' tk m' news' i, s₃ = { s with heap := h', toks := tk } ∧ h'.IsListIter s.heap.objs.size ax i ∧ Fr g env.locals h' m' ∧ News g env.locals h' news' ∧ (∀ p ∈ news', p.1 ≠ s.heap.objs.size) ∧ J (items.take i) m' news' ∧ i ≤ items.length ∧ m = items.length + 1 - i := by
      rintro ⟨h₃', tk₃, m₃, news₃, rfl, F₃, N₄, hne₃, hJ₃⟩
      refine ⟨items.length + 1 - (i + 1), by omega, h₃', tk₃, m₃, news₃, i + 1, rfl, ⟨io, (N₄ _ (.head _)).1, hic, hid⟩, F₃, fun p hp => N₄ p (.tail _ hp), hne₃, ?_, hlt', rfl⟩
      rw [List.take_add_one, hv]; exact hJ₃
    cases f with
    | ret v => exact h₃
    | brk => exact h₃
    | next => exact fin h₃.out
    | cont => exact fin h₃.out
end
theorem int_is {i j : Int} {t : Tok} (h : i = j) : ∃ t', Value.int i t = Value.int j t' := ⟨t, by rw [h]⟩
theorem use_pure {M : Model} {A : Around} {E : Value → Shared → Prop} {s : Shared} {P : Value → Prop} {g : Heap} {L : Addr} {m : Str → Option Value} {news : List (Addr × Obj)} {f : Value} {vs : List Value} {Q : Value → Shared → Prop}
    (F : Fr g L s.heap m) (N : News g L s.heap news) (hc : wpAny M A (call f vs) (fun v s' => Out (P v ∧ Keeps s s')) E s)
    (h : ∀ v h' tk', P v → Up s.heap h' → Fr g L h' m → News g L h' news → Q v { s with heap := h', toks := tk' }) : wpAny M A (call f vs) Q E s := by
  refine wpAny_mono hc (fun v s' x => ?_) fun _ _ e => e
  obtain ⟨hp, h', tk', rfl, k⟩ := x.out
  exact h v h' tk' hp k (F.keeps k) (N.grown k)
/-- a local name of a comprehension -/
theorem ldKv {M : Model} {A : Around} {E : Value → Shared → Prop} {s : Shared} {g : Heap} {C : Addr} {m : Str → Option Value} {scope : Scope} {cl : List (Str × Addr)} {env : Env} {x : Str} {pos : Pos} {v : Value} {Q : Value → Shared → Prop}
    (F : Fr g C s.heap m) (hv : m x = some v) (h : Q v s)
    (hk : (compEnvC scope cl C env).scope.kind = .function) (hl : (compEnvC scope cl C env).kindOf x = some .local) (hd : (x == ("__debug__" : Str)) = false) :
    wpAny M A (eval (.Name x pos) (compEnvC scope cl C env)) Q E s := ldVarK F.ns hv h hk hl hd
local macro_rules | `(tactic| walk_at "eval Name") => `(tactic| (k_here; (with_reducible show wpAny _ _ (eval _ (compEnvC _ _ _ _)) _ _ _); k_dflt (refine' ldKv ?k1 ?k2 ?_ (by rfl) (by rfl) (by decide)); (case k1 => k_asm); (case k2 => assumption); k_whole))
local macro_rules | `(tactic| walk_at "eval ListComp") => `(tactic| refine Stop.go ?_)
local macro_rules | `(tactic| walk_at "call builtin:str.join") => `(tactic| refine Stop.go ?_)
local macro_rules | `(tactic| walk_at "call builtin:chr") => `(tactic| refine Stop.go ?_)

def lowc (i : Int) : Int := if 65 ≤ i ∧ i ≤ 90 then i + 32 else i
def lowN (c : Nat) : Nat := if 65 ≤ c ∧ c ≤ 90 then c + 32 else c
theorem lowc_N (c : Nat) : lowc (c : Int) = (lowN c : Int) := by
  unfold lowc lowN
  by_cases h : 65 ≤ c ∧ c ≤ 90
  · rw [if_pos h, if_pos (by omega)]; omega
  · rw [if_neg h, if_neg (by omega)]
theorem lowN_lt {c : Nat} (h : c < 128) : lowN c < 128 := by unfold lowN; split <;> omega
theorem fold_one : ∀ (l : List Nat) (a : Array Nat), (l.map fun c => (⟨#[c]⟩ : Str)).foldl (fun acc p => acc ++ (⟨#[]⟩ : Str).cps ++ p.cps) a = a ++ l.toArray
  | [], a => by simp
  | c :: l, a => by
    rw [List.map_cons, List.foldl_cons, fold_one l]
    simp
theorem join_one (l : List Nat) : Txt.join ⟨#[]⟩ (l.map fun c => (⟨#[c]⟩ : Str)) = ⟨l.toArray⟩ := by
  show Builtin.Str.glued _ _ = _
  unfold Builtin.Str.glued
  cases l with
  | nil => rfl
  | cons c l =>
    rw [List.map_cons, List.drop_one, List.tail_cons, List.headD_cons, fold_one]
    simp
theorem join_map (f : Nat → Nat) (l : List Nat) : Txt.join ⟨#[]⟩ (l.map fun c => (⟨#[f c]⟩ : Str)) = ⟨(l.map f).toArray⟩ := by
  rw [← join_one (l.map f), List.map_map]; rfl
theorem sum_one (f : Nat → Nat) : ∀ l : List Nat, ((l.map fun c => (⟨#[f c]⟩ : Str)).map (·.length)).sum = l.length
  | [] => rfl
  | c :: l => by
    rw [List.map_cons, List.map_cons, List.sum_cons, sum_one f l, List.length_cons]
    show 1 + _ = _
    omega
theorem chr_is {prog : Program} {w : World} {A : Around} {E : Value → Shared → Prop} {s : Shared} {i : Int} {c : Nat} {t : Tok} {Q : Value → Shared → Prop} (hi : i = (c : Int)) (h1 : c < 128) (h : Q (.str ⟨#[c]⟩ s.toks) { s with toks := s.toks + 1 }) :
    wpAny (model prog w) A (call (.builtin "chr") [.int i t]) Q E s := by
  subst hi
  exact chr_of_range (by omega) (by omega) (by simpa using h)

section
variable {prog : Program} {w : World} {A : Around} {E : Value → Shared → Prop} {s : Shared} {n : Nat}
theorem lower_code_spec (C : Cx w s.heap) (r : Rm A 1) (i : Int) (t : Tok) :
    wpAny (model prog w) A (call (.ref 21) [.int i t]) (fun v s' => Out ((∃ t', v = .int (lowc i) t') ∧ Keeps s s')) E s := by
  refine enterP (binds := [(Str.ofString "code", .int i t)]) C r (by k_is) (by k_is) rfl rfl (by decide) ?_
  intro L h₁ tk env henv F rA
  subst henv
  obtain ⟨p, loose, mean, mg, mb, T⟩ := C.T
  have X := C.X
  have N : News s.heap L h₁ [] := News.nil
  try k_unmd
  k_fold
  k_steps
  all_goals exact ⟨⟨int_is (by unfold lowc; first | rw [if_pos (by omega)] | rw [if_neg (by omega)]), _, _, rfl, F.keep⟩⟩
local macro_rules | `(tactic| walk_at "call ref") => `(tactic| ((with_reducible show wpAny _ _ (call (Value.ref 21) [Value.int _ _]) _ _ _); refine' use_pure ?F ?N (lower_code_spec (Cx.up ?C ?k) ?r _ _) ?_; (case F => k_asm); (case N => k_asm); (case k => exact Fr.keep (by k_asm)); (case C => assumption); (case r => exact Rm.less (by assumption) (by decide)); intro v9 h9 tk9 hv9 hu9 F9 N9; (refine Exists.elim hv9 ?_; clear hv9; intro t9 e9; subst e9)))

theorem strs_of_paired {G : Value → Value → Prop} {f : Nat → Nat} : ∀ {vs ys : List Value} {l : List Nat}, Paired G vs ys →
    (∀ v y, G v y → ∀ c u, v = Value.str ⟨#[c]⟩ u → ∃ u', y = Value.str ⟨#[f c]⟩ u') → vs.length = l.length → (∀ (j : Nat) (v : Value), vs[j]? = some v → ∃ c u, l[j]? = some c ∧ v = Value.str ⟨#[c]⟩ u) →
    StrsAre ys (l.map fun c => ⟨#[f c]⟩) := by
  intro vs ys l hF
  induction hF generalizing l with
  | nil => intro _ hl _; cases l with
    | nil => exact .nil
    | cons => cases hl
  | cons hab t ih =>
    intro hG hl hP
    cases l with
    | nil => cases hl
    | cons c l =>
      obtain ⟨c', u, hc, rfl⟩ := hP 0 _ rfl
      cases hc
      obtain ⟨u', rfl⟩ := hG _ _ hab c u rfl
      exact .cons _ _ (ih hG (Nat.succ.inj hl) fun j v hj => hP (j + 1) v hj)

theorem lower_text_spec (C : Cx w s.heap) (r : Rm A 2) (x : Str) (t : Tok) (h128 : ∀ c ∈ x.cps, c < 128) (hsz : x.cps.size ≤ 100) :
    wpAny (model prog w) A (call (.ref 26) [.str x t]) (fun v s' => Out ((∃ t', v = .str ⟨x.cps.map lowN⟩ t') ∧ Keeps s s')) E s := by
  refine enterP (binds := [(Str.ofString "text", .str x t)]) C r (by k_is) (by k_is) rfl rfl (by decide) ?_
  intro L h₁ tk env henv F rA
  subst henv
  obtain ⟨p, loose, mean, mg, mb, T⟩ := C.T
  have X := C.X
  have N : News s.heap L h₁ [] := News.nil
  try k_unmd
  k_fold
  k_steps
  refine ⟨?_⟩
  refine comp_ev (cl := []) (nn := x.cps.size) (P := SignAt x) (fun _ => true) (fun _ v y => ∃ c u u', v = .str ⟨#[c]⟩ u ∧ y = .str ⟨#[lowN c]⟩ u') rfl (by decide) rfl (by decide) rfl ?_ (by rw [sizeLine_eq]; omega) ?_ ?_ ?_
  · refine ld F rfl ⟨⟨Keeps.rfl', src_str rA.hh⟩⟩
  · intro g C' i v s₃ m₃ E' _ _ _ _
    exact wpAny_tests_nil ⟨⟨rfl, Keeps.rfl'⟩⟩
  · intro g C' i v s₃ m₃ E' hg F' hm hP _
    obtain ⟨c, u, hc, rfl⟩ := hP
    have hc' : c < 128 := h128 c (Array.mem_of_getElem? hc)
    have Cg : Cx w g := C.up (Up.trans F.keep hg)
    clear F N X T
    obtain ⟨p, loose, mean, mg, mb, T⟩ := Cg.T
    have X := Cg.X
    have N : News g C' s₃.heap [] := News.nil
    k_steps
    refine ⟨chr_is (lowc_N c) (lowN_lt hc') ?_⟩
    exact ⟨⟨fun _ _ _ => ⟨_, _, _, rfl, rfl⟩, _, _, rfl, by assumption⟩⟩
  · intro D h' tk' ys vs hD hpl hlen hP hF hup
    have F₂ := F.keeps hup
    have N₂ := N.grown hup
    clear F N
    k_steps
    refine ⟨?_⟩
    rw [List.filter_eq_self.mpr (fun _ _ => rfl)] at hF
    have hS : StrsAre ys.toList (x.cps.toList.map fun c => ⟨#[lowN c]⟩) := strs_of_paired hF (fun v y ⟨c', u, u', e1, e2⟩ c u₂ e3 => by
      subst e1; cases e3; exact ⟨_, e2⟩) (by simpa using hlen) (fun j v hj => by
      obtain ⟨c, u, hc, e⟩ := hP j v hj
      exact ⟨c, u, by simpa using hc, e⟩)
    refine join_list hpl.isList hS ?_ ?_
    · rw [sum_one, List.length_map, Array.length_toList]
      show _ + _ * 0 ≤ _
      omega
    · intro t' k
      k_steps
      refine ⟨⟨⟨t', ?_⟩, _, _, rfl, F₂.keep⟩⟩
      show Value.str (Txt.join ⟨#[]⟩ _) t' = _
      rw [join_map]
      congr 1
      congr 1
      apply Array.ext'
      simp
end
local macro_rules | `(tactic| walk_at "call ref") => `(tactic| ((with_reducible show wpAny _ _ (call (Value.ref 26) _) _ _ _); refine Stop.go ?_))
local macro_rules | `(tactic| walk_at "eval Name") => `(tactic| (k_here; (with_reducible show wpAny _ _ (eval _ (compEnvC _ _ _ _)) _ _ _); k_dflt (refine' ldKv ?k1 ?k2 ?_ (by rfl) (by rfl) (by decide)); (case k1 => k_asm); (case k2 => assumption); k_whole))
local macro_rules | `(tactic| walk_at "eval ListComp") => `(tactic| refine Stop.go ?_)
local macro_rules | `(tactic| walk_at "call builtin:str.join") => `(tactic| refine Stop.go ?_)
local macro_rules | `(tactic| walk_at "call builtin:chr") => `(tactic| refine Stop.go ?_)
local macro_rules | `(tactic| walk_at "call ref") => `(tactic| ((with_reducible show wpAny _ _ (call (Value.ref 21) [Value.int _ _]) _ _ _); refine' use_pure ?F ?N (lower_code_spec (Cx.up ?C ?k) ?r _ _) ?_; (case F => k_asm); (case N => k_asm); (case k => exact Fr.keep (by k_asm)); (case C => assumption); (case r => exact Rm.less (by assumption) (by decide)); intro v9 h9 tk9 hv9 hu9 F9 N9; (refine Exists.elim hv9 ?_; clear hv9; intro t9 e9; subst e9)))
local macro_rules | `(tactic| walk_at "call ref") => `(tactic| ((with_reducible show wpAny _ _ (call (Value.ref 26) _) _ _ _); refine Stop.go ?_))
/-- an object of Field's with its two fields -/
def FieldAt (h : Heap) (a : Addr) (nm raw : Array UInt8) : Prop :=
  ∃ dx h1 k1 t1 h2 k2 t2 n, h.get? a = some (instObj 55 dx) ∧
    h.get? dx = some (dictOf [⟨h1, .str (Str.ofString "name") k1, .bytes nm t1⟩, ⟨h2, .str (Str.ofString "raw") k2, .bytes raw t2⟩] n)
theorem FieldAt.up {h h' : Heap} {a : Addr} {nm raw : Array UInt8} (k : Up h h') (f : FieldAt h a nm raw) : FieldAt h' a nm raw := by
  obtain ⟨dx, h1, k1, t1, h2, k2, t2, n, e1, e2⟩ := f
  exact ⟨dx, h1, k1, t1, h2, k2, t2, n, k _ _ e1, k _ _ e2⟩

section
variable {prog : Program} {w : World} {A : Around} {E : Value → Shared → Prop} {s : Shared} {g : Heap} {L : Addr} {m : Str → Option Value} {a : Addr} {nm raw : Array UInt8}
theorem get_name {expr : Bool} {Q : Value → Shared → Prop} (F : Fr g L s.heap m) (X : (Mine.hd.heap_39 w.params).In g) (f : FieldAt g a nm raw) (h : ∀ t, Q (.bytes nm t) { s with toks := s.toks + 1 }) :
    wpAny (model prog w) A (getAttr (.ref a) (Str.ofString "name") expr) Q E s := by
  obtain ⟨dx, h1, k1, t1, h2, k2, t2, n, e1, e2⟩ := f.up F.keep
  exact get_own F X (ox := instObj 55 dx) ⟨e1, rfl, rfl, e2⟩ (by k_is) (by k_is) (by k_is) (by k_is) (by k_get) rfl (h t1)
theorem get_raw {expr : Bool} {Q : Value → Shared → Prop} (F : Fr g L s.heap m) (X : (Mine.hd.heap_39 w.params).In g) (f : FieldAt g a nm raw) (h : ∀ t, Q (.bytes raw t) { s with toks := s.toks + 1 }) :
    wpAny (model prog w) A (getAttr (.ref a) (Str.ofString "raw") expr) Q E s := by
  obtain ⟨dx, h1, k1, t1, h2, k2, t2, n, e1, e2⟩ := f.up F.keep
  exact get_own F X (ox := instObj 55 dx) ⟨e1, rfl, rfl, e2⟩ (by k_is) (by k_is) (by k_is) (by k_is) (by k_get) rfl (h t2)
theorem meth_word {pl : Sem Bool} {Q : Value × List Value → Shared → Prop} (F : Fr g L s.heap m) (X : (Mine.hd.heap_39 w.params).In g) (f : FieldAt g a nm raw) (h : Q (.ref 45, [.ref a]) s) :
    wpAny (model prog w) A (getMethod (.ref a) (Str.ofString "word") pl) Q E s := by
  obtain ⟨dx, h1, k1, t1, h2, k2, t2, n, e1, e2⟩ := f.up F.keep
  exact method_inst F X (ox := instObj 55 dx) ⟨e1, rfl, rfl, e2⟩ (by k_is) (by k_is) (by k_is) (by k_get) h
theorem meth_told {pl : Sem Bool} {Q : Value × List Value → Shared → Prop} (F : Fr g L s.heap m) (X : (Mine.hd.heap_39 w.params).In g) (f : FieldAt g a nm raw) (h : Q (.ref 52, [.ref a]) s) :
    wpAny (model prog w) A (getMethod (.ref a) (Str.ofString "told") pl) Q E s := by
  obtain ⟨dx, h1, k1, t1, h2, k2, t2, n, e1, e2⟩ := f.up F.keep
  exact method_inst F X (ox := instObj 55 dx) ⟨e1, rfl, rfl, e2⟩ (by k_is) (by k_is) (by k_is) (by k_get) h
end
local macro_rules | `(tactic| walk_at "getAttr ref") => `(tactic| (k_here; (with_reducible show wpAny _ _ (getAttr _ (Str.ofString "name") _) _ _ _); k_dflt (refine' get_name ?F ?X ?f ?_; (case F => k_asm); (case X => k_asm); (case f => assumption); k_whole); intro t9))
local macro_rules | `(tactic| walk_at "getAttr ref") => `(tactic| (k_here; (with_reducible show wpAny _ _ (getAttr _ (Str.ofString "raw") _) _ _ _); k_dflt (refine' get_raw ?F ?X ?f ?_; (case F => k_asm); (case X => k_asm); (case f => assumption); k_whole); intro t9))
local macro_rules | `(tactic| walk_at "getMethod ref") => `(tactic| (k_here; (with_reducible show wpAny _ _ (getMethod _ (Str.ofString "word") _) _ _ _); k_dflt (refine' meth_word ?F ?X ?f ?_; (case F => k_asm); (case X => k_asm); (case f => assumption); k_whole)))
local macro_rules | `(tactic| walk_at "getMethod ref") => `(tactic| (k_here; (with_reducible show wpAny _ _ (getMethod _ (Str.ofString "told") _) _ _ _); k_dflt (refine' meth_told ?F ?X ?f ?_; (case F => k_asm); (case X => k_asm); (case f => assumption); k_whole)))

def low (nm : Array UInt8) : Str := ⟨nm.map fun c => lowN c.toNat⟩
theorem bytes_signs {vs ys : List Value} {G : Value → Value → Prop} (hF : Paired G vs ys) : ∀ {l : List UInt8},
    (∀ v y, G v y → ∀ (c : UInt8) u, v = Value.int (c.toNat : Int) u → ∃ u', y = Value.str ⟨#[c.toNat]⟩ u') → vs.length = l.length → (∀ (j : Nat) (v : Value), vs[j]? = some v → ∃ (c : UInt8) (u : Tok), l[j]? = some c ∧ v = Value.int (c.toNat : Int) u) →
    StrsAre ys (l.map fun c => ⟨#[c.toNat]⟩) := by
  induction hF with
  | nil => intro l _ hl _; cases l with
    | nil => exact .nil
    | cons => cases hl
  | cons hab t ih =>
    intro l hG hl hP
    cases l with
    | nil => cases hl
    | cons c l =>
      obtain ⟨c', u, hc, rfl⟩ := hP 0 _ rfl
      cases hc
      obtain ⟨u', rfl⟩ := hG _ _ hab c u rfl
      exact .cons _ _ (ih hG (Nat.succ.inj hl) fun j v hj => hP (j + 1) v hj)
/-- a str of a bytes' codes -/
def asStr (b : Array UInt8) : Str := ⟨b.map fun c => c.toNat⟩
theorem join_bytes (l : List UInt8) : Txt.join ⟨#[]⟩ (l.map fun c => (⟨#[c.toNat]⟩ : Str)) = asStr l.toArray := by
  have := join_one (l.map fun c => c.toNat)
  rw [List.map_map] at this
  refine Eq.trans this ?_
  unfold asStr
  congr 1
  apply Array.ext'
  simp

section
variable {prog : Program} {w : World} {A : Around} {E : Value → Shared → Prop} {s : Shared} {n : Nat} {a : Addr} {nm raw : Array UInt8}
theorem word_spec (C : Cx w s.heap) (r : Rm A 3) (hf : FieldAt s.heap a nm raw) (h128 : ∀ c ∈ nm, c.toNat < 128) (hsz : nm.size ≤ 100) :
    wpAny (model prog w) A (call (.ref 45) [.ref a]) (fun v s' => Out ((∃ t', v = .str (low nm) t') ∧ Keeps s s')) E s := by
  refine enterP (binds := [(Str.ofString "self", .ref a)]) C r (by k_is) (by k_is) rfl rfl (by decide) ?_
  intro L h₁ tk env henv F rA
  subst henv
  obtain ⟨p, loose, mean, mg, mb, T⟩ := C.T
  have X := C.X
  have N : News s.heap L h₁ [] := News.nil
  try k_unmd
  k_fold
  k_steps
  refine ⟨?_⟩
  refine comp_ev (cl := []) (nn := nm.size) (P := fun i v => ∃ c u, nm[i]? = some c ∧ v = .int (c.toNat : Int) u) (fun _ => true) (fun _ v y => ∃ (c : UInt8) (u : Tok) (u' : Tok), v = Value.int (c.toNat : Int) u ∧ y = Value.str ⟨#[c.toNat]⟩ u') rfl (by decide) rfl (by decide) rfl ?_ (by rw [sizeLine_eq]; omega) ?_ ?_ ?_
  · k_steps
    exact ⟨⟨⟨_, _, rfl, fun _ _ e => e⟩, src_bytes rA.hh⟩⟩
  · intro g C' i v s₃ m₃ E' _ _ _ _
    exact wpAny_tests_nil ⟨⟨rfl, Keeps.rfl'⟩⟩
  · intro g C' i v s₃ m₃ E' hg F' hm hP _
    obtain ⟨c, u, hc, rfl⟩ := hP
    have hc' : c.toNat < 128 := h128 c (Array.mem_of_getElem? hc)
    have Cg : Cx w g := C.up (Up.trans F.keep hg)
    clear F N X T
    obtain ⟨p, loose, mean, mg, mb, T⟩ := Cg.T
    have X := Cg.X
    have N : News g C' s₃.heap [] := News.nil
    k_steps
    refine ⟨chr_is rfl hc' ?_⟩
    exact ⟨⟨fun _ _ _ => ⟨_, _, _, rfl, rfl⟩, _, _, rfl, fun _ _ e => e⟩⟩
  · intro D h' tk' ys vs hD hpl hlen hP hF hup
    have F₂ := F.keeps hup
    have N₂ := N.grown hup
    clear F N
    k_steps
    refine ⟨?_⟩
    rw [List.filter_eq_self.mpr (fun _ _ => rfl)] at hF
    have hS : StrsAre ys.toList (nm.toList.map fun c => ⟨#[c.toNat]⟩) := bytes_signs hF (fun v y ⟨c', u, u', e1, e2⟩ c u₂ e3 => by
      subst e1
      injection e3 with e3
      rw [← Int.ofNat.inj e3]
      exact ⟨_, e2⟩) (by simpa using hlen) (fun j v hj => by
      obtain ⟨c, u, hc, e⟩ := hP j v hj
      exact ⟨c, u, by simpa using hc, e⟩)
    refine join_list hpl.isList hS ?_ ?_
    · have := sum_one id (nm.toList.map fun c => c.toNat)
      rw [List.map_map, List.map_map] at this
      show ((nm.toList.map fun c => (⟨#[c.toNat]⟩ : Str)).map (·.length)).sum + _ * 0 ≤ _
      have e : ((nm.toList.map fun c => (⟨#[c.toNat]⟩ : Str)).map (·.length)).sum = nm.size := by
        rw [List.map_map]
        refine Eq.trans this ?_
        simp
      rw [e]
      omega
    · intro t' k
      k_steps
      have h1 : ∀ c ∈ (asStr nm).cps, c < 128 := fun c hc => by
        obtain ⟨b, hb, rfl⟩ := Array.mem_map.mp hc
        exact h128 b hb
      have e1 : Txt.join (Str.ofString "") (List.map (fun c => { cps := #[c.toNat] }) nm.toList) = asStr nm := join_bytes nm.toList
      refine ⟨?_⟩
      rw [e1]
      refine use_pure F₂ N₂ (lower_text_spec (Cx.up C (h' := h') F₂.keep) (rA.less (by decide)) (asStr nm) t' h1 (by simpa [asStr] using hsz)) ?_
      intro v h3 tk3 hv hu F₃ N₃
      obtain ⟨t4, rfl⟩ := hv
      k_steps
      refine ⟨⟨⟨t4, ?_⟩, _, _, rfl, F₃.keep⟩⟩
      show Value.str _ t4 = _
      unfold low asStr
      congr 2
      apply Array.ext'
      simp
end
abbrev Row := Array UInt8 × Array UInt8
def RowAt (h : Heap) (v : Value) (r : Row) : Prop := ∃ D t1 t2, v = .ref D ∧ h.get? D = some { cls := .type "tuple", data := .seq #[.bytes r.1 t1, .bytes r.2 t2] }
theorem RowAt.up {h h' : Heap} {v : Value} {r : Row} (k : Up h h') (x : RowAt h v r) : RowAt h' v r := by
  obtain ⟨D, t1, t2, e, q⟩ := x
  exact ⟨D, t1, t2, e, k _ _ q⟩
def RowsAt (h : Heap) (vs : List Value) (rs : List Row) : Prop := Paired (RowAt h) vs rs
theorem RowsAt.up {h h' : Heap} {vs : List Value} {rs : List Row} (k : Up h h') (x : RowsAt h vs rs) : RowsAt h' vs rs := pairedImp (fun _ _ y => RowAt.up k y) x
/-- a field's value with its data -/
def FdAt (h : Heap) (v : Value) (r : Row) : Prop := ∃ a, v = .ref a ∧ FieldAt h a r.1 r.2
theorem FdAt.up {h h' : Heap} {v : Value} {r : Row} (k : Up h h') (x : FdAt h v r) : FdAt h' v r := by
  obtain ⟨D, e, q⟩ := x
  exact ⟨D, e, q.up k⟩
def FdsAt (h : Heap) (vs : List Value) (rs : List Row) : Prop := Paired (FdAt h) vs rs
theorem FdsAt.up {h h' : Heap} {vs : List Value} {rs : List Row} (k : Up h h') (x : FdsAt h vs rs) : FdsAt h' vs rs := pairedImp (fun _ _ y => FdAt.up k y) x
/-- a list object of fields, of rows -/
def FL (h : Heap) (v : Value) (rs : List Row) : Prop := ∃ l vs, v = .ref l ∧ h.PlainList l (List.toArray vs) ∧ FdsAt h vs rs
def RL (h : Heap) (v : Value) (rs : List Row) : Prop := ∃ l vs, v = .ref l ∧ h.PlainList l (List.toArray vs) ∧ RowsAt h vs rs
theorem FL.up {h h' : Heap} {v : Value} {rs : List Row} (k : Up h h') (x : FL h v rs) : FL h' v rs := by
  obtain ⟨l, vs, e, q, p⟩ := x
  exact ⟨l, vs, e, q.at (fun o => k _ o), p.up k⟩
theorem RL.up {h h' : Heap} {v : Value} {rs : List Row} (k : Up h h') (x : RL h v rs) : RL h' v rs := by
  obtain ⟨l, vs, e, q, p⟩ := x
  exact ⟨l, vs, e, q.at (fun o => k _ o), p.up k⟩

theorem FieldAt.unique {h : Heap} {a : Addr} {nm raw nm' raw' : Array UInt8} (x : FieldAt h a nm raw) (y : FieldAt h a nm' raw') : nm = nm' ∧ raw = raw' := by
  obtain ⟨dx, h1, k1, t1, h2, k2, t2, n, e1, e2⟩ := x
  obtain ⟨dx', h1', k1', t1', h2', k2', t2', n', e1', e2'⟩ := y
  rw [e1] at e1'
  injection e1' with e1'
  injection e1' with _ e1'
  injection e1' with e1'
  subst e1'
  rw [e2] at e2'
  injection e2' with e2'
  injection e2' with _ _ e2'
  injection e2' with e2'
  have e3 := congrArg Array.toList e2'
  simp only [List.cons.injEq, DictEntry.mk.injEq, Value.bytes.injEq, and_true] at e3
  exact ⟨e3.1.2.2.1, e3.2.2.2.1⟩
theorem FdAt.unique {h : Heap} {v : Value} {r r' : Row} (x : FdAt h v r) (y : FdAt h v r') : r = r' := by
  obtain ⟨a, rfl, x⟩ := x
  obtain ⟨b, e, y⟩ := y
  cases e
  obtain ⟨h1, h2⟩ := x.unique y
  exact Prod.ext h1 h2
theorem paired_get {α β : Type} {F : α → β → Prop} : ∀ {l : List α} {m : List β}, Paired F l m → ∀ (i : Nat) (v : α), l[i]? = some v → ∃ r, m[i]? = some r ∧ F v r
  | _, _, .nil, _, _, h => by simp at h
  | _, _, .cons x t, 0, v, h => by simp at h; subst h; exact ⟨_, rfl, x⟩
  | _, _, .cons x t, i + 1, v, h => paired_get t i v h
theorem paired_swap {α β γ : Type} {F : α → β → Prop} {G : α → γ → Prop} {H : γ → β → Prop} (hu : ∀ v r y, G v y → F v r → H y r) : ∀ {l : List α} {m : List β} {k : List γ}, Paired G l k → Paired F l m → Paired H k m
  | _, _, _, .nil, .nil => .nil
  | _, _, _, .cons x t, .cons y u => .cons (hu _ _ _ x y) (paired_swap hu t u)
theorem filter_tt {α : Type} (l : List α) : l.filter (fun _ => true) = l := List.filter_eq_self.mpr fun _ _ => rfl

section
variable {M : Model} {A : Around} {E : Value → Shared → Prop} {s : Shared} {P : Value → Heap → Prop} {g : Heap} {L : Addr} {m : Str → Option Value} {news : List (Addr × Obj)} {f : Value} {vs : List Value} {Q : Value → Shared → Prop}
theorem use_pureH (F : Fr g L s.heap m) (N : News g L s.heap news) (hc : wpAny M A (call f vs) (fun v s' => Out (P v s'.heap ∧ Keeps s s')) E s)
    (h : ∀ v h' tk', P v h' → Up s.heap h' → Fr g L h' m → News g L h' news → Q v { s with heap := h', toks := tk' }) : wpAny M A (call f vs) Q E s := by
  refine wpAny_mono hc (fun v s' x => ?_) fun _ _ e => e
  obtain ⟨hp, h', tk', rfl, k⟩ := x.out
  exact h v h' tk' hp k (F.keeps k) (N.grown k)
end

section
variable {prog : Program} {w : World} {A : Around} {E : Value → Shared → Prop} {s : Shared} {n : Nat} {a : Addr} {nm raw : Array UInt8}
theorem told_spec (C : Cx w s.heap) (r : Rm A 1) (hf : FieldAt s.heap a nm raw) :
    wpAny (model prog w) A (call (.ref 52) [.ref a]) (fun v s' => Out ((∃ D t1 t2, v = .ref D ∧ s.heap.get? D = none ∧ s'.heap.get? D = some { cls := .type "tuple", data := .seq #[.bytes nm t1, .bytes raw t2] }) ∧ Keeps s s')) E s := by
  refine enterP (binds := [(Str.ofString "self", .ref a)]) C r (by k_is) (by k_is) rfl rfl (by decide) ?_
  intro L h₁ tk env henv F rA
  subst henv
  obtain ⟨p, loose, mean, mg, mb, T⟩ := C.T
  have X := C.X
  have N : News s.heap L h₁ [] := News.nil
  try k_unmd
  k_fold
  k_steps
  rename_i D h' F' N' _
  exact ⟨⟨D, _, _, rfl, (N' _ (.head _)).2.2, (N' _ (.head _)).1⟩, _, _, rfl, F'.keep⟩

theorem row_new {h h' : Heap} {D : Addr} {t1 t2 : Tok} {r : Row} (e : h.get? D = none) (e' : h'.get? D = some { cls := .type "tuple", data := .seq #[.bytes r.1 t1, .bytes r.2 t2] }) :
    ∀ h₅, NewUp h h' h₅ → RowAt h₅ (.ref D) r := fun _ k => ⟨D, t1, t2, rfl, k _ _ e e'⟩

theorem law_told_spec {v : Value} {rs : List Row} (C : Cx w s.heap) (r : Rm A 3) (hl : FL s.heap v rs) (hsz : rs.length ≤ 1000) :
    wpAny (model prog w) A (call (.ref 138) [v]) (fun v s' => Out (RL s'.heap v rs ∧ Keeps s s')) E s := by
  obtain ⟨l, vs, rfl, hpl, hfs⟩ := hl
  have hlen : vs.length = rs.length := hfs.length
  refine enterP (binds := [(Str.ofString "fields", .ref l)]) C r (by k_is) (by k_is) rfl rfl (by decide) ?_
  intro L h₁ tk env henv F rA
  subst henv
  obtain ⟨p, loose, mean, mg, mb, T⟩ := C.T
  have X := C.X
  have N : News s.heap L h₁ [] := News.nil
  try k_unmd
  k_fold
  k_steps
  refine ⟨?_⟩
  refine comp_ev (cl := []) (nn := vs.toArray.size) (P := fun i v => vs.toArray[i]? = some v) (fun _ => true) (fun h v y => ∃ r, FdAt s.heap v r ∧ RowAt h y r) rfl (by decide) rfl (by decide) rfl ?_ (by rw [sizeLine_eq, List.size_toArray]; omega) ?_ ?_ ?_
  · k_steps
    exact ⟨⟨_, _, rfl, fun _ _ e => e⟩, src_list rA.hh (hpl.isList.at fun o e => F.keep _ o e)⟩
  · intro g C' i v s₃ m₃ E' _ _ _ _
    exact wpAny_tests_nil ⟨⟨rfl, Keeps.rfl'⟩⟩
  · intro g C' i v s₃ m₃ E' hg F' hm hP _
    obtain ⟨r₀, hr, a, rfl, hfa⟩ := paired_get hfs i v (by simpa using hP)
    have hgu : Up s.heap g := Up.trans F.keep hg
    have hfg := hfa.up hgu
    have Cg : Cx w g := C.up hgu
    clear F N X T
    obtain ⟨p, loose, mean, mg, mb, T⟩ := Cg.T
    have X := Cg.X
    have N : News g C' s₃.heap [] := News.nil
    k_steps
    refine wpAny_mono (told_spec (Cx.up Cg (h' := s₃.heap) F'.keep) (rA.less (by decide)) (hfg.up F'.keep)) (fun y s₄ q => ?_) fun _ _ e => e
    obtain ⟨⟨⟨D, t1, t2, rfl, e1, e2⟩, k⟩⟩ := q
    exact ⟨⟨fun h₅ _ n => ⟨r₀, ⟨a, rfl, hfa⟩, row_new e1 e2 h₅ n⟩, k⟩⟩
  · intro D h' tk' ys vs' hD hpl' hlen hP hF hup
    have F₂ := F.keeps hup
    rw [filter_tt] at hF
    have e : vs' = vs := by simpa using list_of_places hlen hP
    subst e
    refine ⟨⟨⟨D, ys.toList, rfl, by simpa using hpl', ?_⟩, _, _, rfl, F₂.keep⟩⟩
    exact paired_swap (fun v r y x q => by obtain ⟨r', q1, q2⟩ := x; rw [FdAt.unique q q1]; exact q2) hF hfs
end
theorem int_eq {i j : Int} {t : Tok} (h : i = j) : Value.int i t = Value.int j t := by rw [h]
def lowU (c : UInt8) : UInt8 := (lowN c.toNat).toUInt8
def lowB (b : Array UInt8) : Array UInt8 := b.map lowU
theorem ints_of_paired {f : UInt8 → Int} {vs ys : List Value} {G : Value → Value → Prop} (hF : Paired G vs ys) : ∀ {l : List UInt8},
    (∀ v y, G v y → ∀ (c : UInt8) u, v = Value.int (c.toNat : Int) u → ∃ u', y = Value.int (f c) u') → vs.length = l.length → (∀ (j : Nat) (v : Value), vs[j]? = some v → ∃ (c : UInt8) (u : Tok), l[j]? = some c ∧ v = Value.int (c.toNat : Int) u) →
    IntsAre ys (l.map f) := by
  induction hF with
  | nil => intro l _ hl _; cases l with
    | nil => exact .nil
    | cons => cases hl
  | cons hab t ih =>
    intro l hG hl hP
    cases l with
    | nil => cases hl
    | cons c l =>
      obtain ⟨c', u, hc, rfl⟩ := hP 0 _ rfl
      cases hc
      obtain ⟨u', rfl⟩ := hG _ _ hab c u rfl
      exact .cons _ _ (ih hG (Nat.succ.inj hl) fun j v hj => hP (j + 1) v hj)
local macro_rules | `(tactic| walk_at "call type:bytes") => `(tactic| refine Stop.go ?_)

section
variable {prog : Program} {w : World} {A : Around} {E : Value → Shared → Prop} {s : Shared} {n : Nat} {nm : Array UInt8}
theorem law_low_spec (C : Cx w s.heap) (r : Rm A 2) (t : Tok) (h128 : ∀ c ∈ nm, c.toNat < 128) (hsz : nm.size ≤ 100) :
    wpAny (model prog w) A (call (.ref 128) [.bytes nm t]) (fun v s' => Out ((∃ t', v = .bytes (lowB nm) t') ∧ Keeps s s')) E s := by
  refine enterP (binds := [(Str.ofString "name", .bytes nm t)]) C r (by k_is) (by k_is) rfl rfl (by decide) ?_
  intro L h₁ tk env henv F rA
  subst henv
  obtain ⟨p, loose, mean, mg, mb, T⟩ := C.T
  have X := C.X
  have N : News s.heap L h₁ [] := News.nil
  try k_unmd
  k_fold
  k_steps
  refine ⟨?_⟩
  refine comp_ev (cl := []) (nn := nm.size) (P := fun i v => ∃ c u, nm[i]? = some c ∧ v = .int (c.toNat : Int) u) (fun _ => true) (fun _ v y => ∃ (c : UInt8) (u : Tok) (u' : Tok), v = Value.int (c.toNat : Int) u ∧ y = Value.int (lowc (c.toNat : Int)) u') rfl (by decide) rfl (by decide) rfl ?_ (by rw [sizeLine_eq]; omega) ?_ ?_ ?_
  · k_steps
    exact ⟨⟨⟨_, _, rfl, fun _ _ e => e⟩, src_bytes rA.hh⟩⟩
  · intro g C' i v s₃ m₃ E' _ _ _ _
    exact wpAny_tests_nil ⟨⟨rfl, Keeps.rfl'⟩⟩
  · intro g C' i v s₃ m₃ E' hg F' hm hP _
    obtain ⟨c, u, hc, rfl⟩ := hP
    have Cg : Cx w g := C.up (Up.trans F.keep hg)
    clear F N X T
    obtain ⟨p, loose, mean, mg, mb, T⟩ := Cg.T
    have X := Cg.X
    have N : News g C' s₃.heap [] := News.nil
    k_steps
    all_goals refine ⟨⟨fun _ _ _ => ⟨c, _, _, rfl, int_eq ?_⟩, _, _, rfl, fun _ _ e => e⟩⟩
    all_goals (unfold lowc; first | rw [if_pos (by omega)] | rw [if_neg (by omega)])
  · intro D h' tk' ys vs hD hpl hlen hP hF hup
    have F₂ := F.keeps hup
    have N₂ := N.grown hup
    clear F N
    k_steps
    refine ⟨?_⟩
    rw [filter_tt] at hF
    have hS : IntsAre ys.toList (nm.toList.map fun c => lowc (c.toNat : Int)) := ints_of_paired hF (fun v y ⟨c', u, u', e1, e2⟩ c u₂ e3 => by
      subst e1
      injection e3 with e3
      rw [← e3]
      exact ⟨_, e2⟩) (by simpa using hlen) (fun j v hj => by
      obtain ⟨c, u, hc, e⟩ := hP j v hj
      exact ⟨c, u, by simpa using hc, e⟩)
    have hpl2 : h'.IsList D ys.toList.toArray := by rw [Array.toArray_toList]; exact hpl.isList
    refine call_bytes_ints hpl2 hS ?_ ?_ rA.hh ?_
    · intro n hn
      obtain ⟨c, hc, rfl⟩ := List.mem_map.mp hn
      have := h128 c (by simpa using hc)
      unfold lowc; split <;> omega
    · have := hS.length
      rw [this, List.length_map, Array.length_toList, sizeLine_eq]
      omega
    · intro h₂ t₂ k₂ hk₂
      refine ⟨⟨⟨t₂, ?_⟩, _, _, rfl, fun b o e => hk₂ b o (F₂.keep b o e)⟩⟩
      show Value.bytes _ t₂ = _
      congr 1
      unfold byteArr lowB
      apply Array.ext'
      simp only [List.map_map, Array.toList_map]
      refine List.map_congr_left fun c _ => ?_
      show (lowc (c.toNat : Int)).toNat.toUInt8 = lowU c
      rw [lowc_N]
      rfl
end
section
open PySem.Builtin
theorem slot_find : Slot "bytes" "find" "bytes.find" :=
  .of (owner := "bytes") (n := "find") (by rw [typeLookup_type, builtinLookup_eq_fast]; kernel_rfl) (by decide +kernel) (by decide +kernel) (by decide +kernel)
    (by first | exact .inl (by decide +kernel) | exact .inr (by decide +kernel)) (by rw [isSubtype_type]; kernel_rfl)
theorem type_find : typeOf (.builtin "bytes.find") = pure (.type "method_descriptor") := by show builtinType _ = _; rw [builtinType_eq_fast]; kernel_rfl
theorem entry_find : entryFor table "bytes.find" = some Builtin.«bytes.find» := entryFor_of_tree (by kernel_rfl)
theorem args_find (a b c d : Value) : argsOk "bytes.find" ⟨[a, b, c, d], []⟩ := by unfold argsOk; kernel_rfl
theorem slot_strip : Slot "bytes" "strip" "bytes.strip" :=
  .of (owner := "bytes") (n := "strip") (by rw [typeLookup_type, builtinLookup_eq_fast]; kernel_rfl) (by decide +kernel) (by decide +kernel) (by decide +kernel)
    (by first | exact .inl (by decide +kernel) | exact .inr (by decide +kernel)) (by rw [isSubtype_type]; kernel_rfl)
theorem type_strip : typeOf (.builtin "bytes.strip") = pure (.type "method_descriptor") := by show builtinType _ = _; rw [builtinType_eq_fast]; kernel_rfl
theorem entry_strip : entryFor table "bytes.strip" = some Builtin.«bytes.strip» := entryFor_of_tree (by kernel_rfl)
theorem args_strip (a b : Value) : argsOk "bytes.strip" ⟨[a, b], []⟩ := by unfold argsOk; kernel_rfl
theorem slot_join : Slot "bytes" "join" "bytes.join" :=
  .of (owner := "bytes") (n := "join") (by rw [typeLookup_type, builtinLookup_eq_fast]; kernel_rfl) (by decide +kernel) (by decide +kernel) (by decide +kernel)
    (by first | exact .inl (by decide +kernel) | exact .inr (by decide +kernel)) (by rw [isSubtype_type]; kernel_rfl)
theorem type_join : typeOf (.builtin "bytes.join") = pure (.type "method_descriptor") := by show builtinType _ = _; rw [builtinType_eq_fast]; kernel_rfl
theorem entry_join : entryFor table "bytes.join" = some Builtin.«bytes.join» := entryFor_of_tree (by kernel_rfl)
theorem args_join (a b : Value) : argsOk "bytes.join" ⟨[a, b], []⟩ := by unfold argsOk; kernel_rfl

section
variable {M : Model} {A : Around} {s : Shared} {E : Value → Shared → Prop} {b : Array UInt8} {t : Tok} {pl : Sem Bool} {Q : Value × List Value → Shared → Prop}
theorem meth_find (h : Q (.builtin "bytes.find", [.bytes b t]) s) : wpAny M A (getMethod (.bytes b t) (Str.ofString "find") pl) Q E s := by
  with_reducible exact KBd.method_of (.bytes b t) (typeIs_bytes _ _ _) slot_find type_find KBd.noRef h
theorem meth_strip (h : Q (.builtin "bytes.strip", [.bytes b t]) s) : wpAny M A (getMethod (.bytes b t) (Str.ofString "strip") pl) Q E s := by
  with_reducible exact KBd.method_of (.bytes b t) (typeIs_bytes _ _ _) slot_strip type_strip KBd.noRef h
theorem meth_join (h : Q (.builtin "bytes.join", [.bytes b t]) s) : wpAny M A (getMethod (.bytes b t) (Str.ofString "join") pl) Q E s := by
  with_reducible exact KBd.method_of (.bytes b t) (typeIs_bytes _ _ _) slot_join type_join KBd.noRef h
end
local macro_rules | `(tactic| walk_at "getMethod bytes") => `(tactic| ((with_reducible show wpAny _ _ (getMethod _ (Str.ofString "find") _) _ _ _); refine meth_find ?_))
local macro_rules | `(tactic| walk_at "getMethod bytes") => `(tactic| ((with_reducible show wpAny _ _ (getMethod _ (Str.ofString "strip") _) _ _ _); refine meth_strip ?_))
local macro_rules | `(tactic| walk_at "getMethod bytes") => `(tactic| ((with_reducible show wpAny _ _ (getMethod _ (Str.ofString "join") _) _ _ _); refine meth_join ?_))
local macro_rules | `(tactic| walk_at "call builtin:bytes.find") => `(tactic| refine Stop.go ?_)
local macro_rules | `(tactic| walk_at "call builtin:bytes.strip") => `(tactic| refine Stop.go ?_)
local macro_rules | `(tactic| walk_at "call builtin:bytes.join") => `(tactic| refine Stop.go ?_)

section
variable {prog : Program} {w : World} {A : Around} {E : Value → Shared → Prop} {s : Shared}
theorem find_no {b : Array UInt8} {t u v x : Tok} {i j : Int} {Q : Value → Shared → Prop} (he : «bytes.find» ⟨[.bytes b t, .bytes #[10] u, .int i v, .int j x], []⟩ = (rule "bytes.find.not-found" >>= fun _ => retInt (-1)))
    (h : Q (.int (-1) s.toks) { s with toks := s.toks + 1 }) : wpAny (model prog w) A (call (.builtin "bytes.find") [.bytes b t, .bytes #[10] u, .int i v, .int j x]) Q E s := by
  refine wpAny_call_entry slot_find (typeIs_bytes _ _ _) entry_find ?_ (args_find _ _ _ _)
  rw [he]
  exact wpAny_bind (wpAny_rule (wpAny_bind (wpAny_mkInt (wpAny_pure ⟨_, rfl, h⟩))))
theorem find_yes {b : Array UInt8} {t u v x : Tok} {i j k : Int} {Q : Value → Shared → Prop} (he : «bytes.find» ⟨[.bytes b t, .bytes #[10] u, .int i v, .int j x], []⟩ = retInt k)
    (h : Q (.int k s.toks) { s with toks := s.toks + 1 }) : wpAny (model prog w) A (call (.builtin "bytes.find") [.bytes b t, .bytes #[10] u, .int i v, .int j x]) Q E s := by
  refine wpAny_call_entry slot_find (typeIs_bytes _ _ _) entry_find ?_ (args_find _ _ _ _)
  rw [he]
  exact wpAny_bind (wpAny_mkInt (wpAny_pure ⟨_, rfl, h⟩))

/-- what line_at gives back -/
def PairAt (s s' : Shared) (v : Value) (a b : Int) : Prop := ∃ D t1 t2, v = .ref D ∧ s.heap.get? D = none ∧ s'.heap.get? D = some { cls := .type "tuple", data := .seq #[.int a t1, .int b t2] }

theorem line_no (C : Cx w s.heap) (r : Rm A 1) {b : Array UInt8} {t v x : Tok} {i j : Int} (he : ∀ u, «bytes.find» ⟨[.bytes b t, .bytes #[10] u, .int i v, .int j x], []⟩ = (rule "bytes.find.not-found" >>= fun _ => retInt (-1))) :
    wpAny (model prog w) A (call (.ref 66) [.bytes b t, .int i v, .int j x]) (fun v s' => Out (PairAt s s' v j j ∧ Keeps s s')) E s := by
  refine enterP (binds := [(Str.ofString "data", .bytes b t), (Str.ofString "at", .int i v), (Str.ofString "end", .int j x)]) C r (by k_is) (by k_is) rfl rfl (by decide) ?_
  intro L h₁ tk env henv F rA
  subst henv
  obtain ⟨p, loose, mean, mg, mb, T⟩ := C.T
  have X := C.X
  have N : News s.heap L h₁ [] := News.nil
  try k_unmd
  k_fold
  k_steps
  refine ⟨find_no (he _) ?_⟩
  k_steps
  rename_i D h' F' N' _
  exact ⟨⟨D, _, _, rfl, (N' _ (.head _)).2.2, (N' _ (.head _)).1⟩, _, _, rfl, F'.keep⟩

theorem line_2 (C : Cx w s.heap) (r : Rm A 1) {t v x : Tok} :
    wpAny (model prog w) A (call (.ref 66) [.bytes [98, 13, 10, 32, 99].toArray t, .int 0 v, .int 5 x]) (fun v s' => Out (PairAt s s' v 1 3 ∧ Keeps s s')) E s := by
  refine enterP (binds := [(Str.ofString "data", .bytes [98, 13, 10, 32, 99].toArray t), (Str.ofString "at", .int 0 v), (Str.ofString "end", .int 5 x)]) C r (by k_is) (by k_is) rfl rfl (by decide) ?_
  intro L h₁ tk env henv F rA
  subst henv
  obtain ⟨p, loose, mean, mg, mb, T⟩ := C.T
  have X := C.X
  have N : News s.heap L h₁ [] := News.nil
  try k_unmd
  k_fold
  k_steps
  refine ⟨find_yes (k := 2) (by kernel_rfl) ?_⟩
  k_steps
  rename_i D h' F' N' _
  exact ⟨⟨D, _, _, rfl, (N' _ (.head _)).2.2, (N' _ (.head _)).1⟩, _, _, rfl, F'.keep⟩
theorem line_4 (C : Cx w s.heap) (r : Rm A 1) {t v x : Tok} :
    wpAny (model prog w) A (call (.ref 66) [.bytes [32, 100, 10, 9, 101, 32].toArray t, .int 0 v, .int 6 x]) (fun v s' => Out (PairAt s s' v 2 3 ∧ Keeps s s')) E s := by
  refine enterP (binds := [(Str.ofString "data", .bytes [32, 100, 10, 9, 101, 32].toArray t), (Str.ofString "at", .int 0 v), (Str.ofString "end", .int 6 x)]) C r (by k_is) (by k_is) rfl rfl (by decide) ?_
  intro L h₁ tk env henv F rA
  subst henv
  obtain ⟨p, loose, mean, mg, mb, T⟩ := C.T
  have X := C.X
  have N : News s.heap L h₁ [] := News.nil
  try k_unmd
  k_fold
  k_steps
  refine ⟨find_yes (k := 2) (by kernel_rfl) ?_⟩
  k_steps
  rename_i D h' F' N' _
  exact ⟨⟨D, _, _, rfl, (N' _ (.head _)).2.2, (N' _ (.head _)).1⟩, _, _, rfl, F'.keep⟩
end
end
local macro_rules | `(tactic| walk_at "getMethod bytes") => `(tactic| ((with_reducible show wpAny _ _ (getMethod _ (Str.ofString "find") _) _ _ _); refine meth_find ?_))
local macro_rules | `(tactic| walk_at "getMethod bytes") => `(tactic| ((with_reducible show wpAny _ _ (getMethod _ (Str.ofString "strip") _) _ _ _); refine meth_strip ?_))
local macro_rules | `(tactic| walk_at "getMethod bytes") => `(tactic| ((with_reducible show wpAny _ _ (getMethod _ (Str.ofString "join") _) _ _ _); refine meth_join ?_))
local macro_rules | `(tactic| walk_at "call builtin:bytes.find") => `(tactic| refine Stop.go ?_)
local macro_rules | `(tactic| walk_at "call builtin:bytes.strip") => `(tactic| refine Stop.go ?_)
local macro_rules | `(tactic| walk_at "call builtin:bytes.join") => `(tactic| refine Stop.go ?_)
def AllNe (d : Addr) : List (Addr × Obj) → Prop
  | [] => True
  | p :: r => @Ne Nat p.1 d ∧ AllNe d r
theorem allNe_of {d : Addr} : ∀ {l : List (Addr × Obj)}, (∀ p ∈ l, p.1 ≠ d) → AllNe d l
  | [], _ => trivial
  | p :: _, h => ⟨h p (.head _), allNe_of fun q hq => h q (.tail _ hq)⟩
theorem use_pair {M : Model} {A : Around} {E : Value → Shared → Prop} {s : Shared} {a b : Int} {g : Heap} {L : Addr} {m : Str → Option Value} {news : List (Addr × Obj)} {f : Value} {vs : List Value} {Q : Value → Shared → Prop}
    (F : Fr g L s.heap m) (N : News g L s.heap news) (hc : wpAny M A (call f vs) (fun v s' => Out (PairAt s s' v a b ∧ Keeps s s')) E s)
    (h : ∀ D t1 t2 h' tk', Fr g L h' m → News g L h' ((D, { cls := .type "tuple", data := .seq #[.int a t1, .int b t2] }) :: news) → AllNe D news → Q (.ref D) { s with heap := h', toks := tk' }) : wpAny M A (call f vs) Q E s := by
  refine wpAny_mono hc (fun v s' x => ?_) fun _ _ e => e
  obtain ⟨⟨⟨D, t1, t2, rfl, e1, e2⟩, h', tk', rfl, k⟩⟩ := x
  refine h D t1 t2 h' tk' (F.keeps k) (fun p hp => ?_) (allNe_of fun p hp q => ?_)
  · rcases List.mem_cons.mp hp with rfl | hp
    · refine ⟨e2, fun q => ?_, ?_⟩
      · obtain ⟨oL, _, _, e, _⟩ := F.ns
        have q' : D = L := q
        rw [q', e] at e1; cases e1
      · cases e : g.get? D with
        | none => rfl
        | some o => rw [F.keep _ _ e] at e1; cases e1
    · exact N.grown k p hp
  · rw [← q, (N p hp).1] at e1; cases e1
local macro_rules | `(tactic| walk_at "call ref") => `(tactic| ((with_reducible show wpAny _ _ (call (Value.ref 66) _) _ _ _); refine Stop.go ?_))
local macro_rules | `(tactic| walk_at "subscriptTail") => `(tactic| ((with_reducible show wpAny _ _ (subscriptTail _ (Expr.Slice _ _ none _) (Value.bytes _ _) (Value.ref _)) _ _ _); refine Stop.go ?_))
theorem slice_ok {prog : Program} {w : World} {A : Around} {E : Value → Shared → Prop} {s : Shared} {value slice : PySem.Expr} {b : Array UInt8} {t : Tok} {h₀ : Heap} {L : Addr} {m : PySem.Str → Option Value} {news : List (Addr × Obj)} {lo hi : Int} {tl tu : Tok} {Q : Value → Shared → Prop} (c : Array UInt8)
    (hF : Fr h₀ L s.heap m) (hN : News h₀ L s.heap news) (hz : b.size ≤ 1000) (he : KBy.picked b (some lo) (some hi) = c)
    (h : ∀ h' t' k, Fr h₀ L h' m → News h₀ L h' news → Q (.bytes c t') { s with heap := h', toks := k })
    (hs : subscripted slice false (.bytes b t) (.ref s.heap.objs.size) = operate [.ref s.heap.objs.size, .bytes b t] (getItem (.bytes b t) (.ref s.heap.objs.size)) := by with_unfolding_all rfl)
    (ht : ∀ r, letTemporaryGo value (.bytes b t) r = pure () := by intro _; with_unfolding_all rfl) :
    wpAny (model prog w) A (subscriptTail value slice (.bytes b t) (.ref s.heap.objs.size)) Q E { s with heap := s.heap.push { cls := .type "slice", data := .fields #[.int lo tl, .int hi tu, .none] } } := by
  refine KBc.slice_K hF hN rfl (by constructor) (by constructor) (by rw [KBw.ints_length]; omega) (fun h' t' k F N _ => ?_) hs ht
  rw [he]
  exact h h' t' k F N
section
open PySem.Builtin
variable {prog : Program} {w : World} {A : Around} {E : Value → Shared → Prop} {s : Shared}
theorem rows_1 (C : Cx w s.heap) (r : Rm A 2) {t : Tok} :
    wpAny (model prog w) A (call (.ref 73) [.bytes [32, 97].toArray t]) (fun v s' => Out ((∃ D t1, v = .ref D ∧ s.heap.get? D = none ∧ s'.heap.PlainList D #[.bytes [32, 97].toArray t1]) ∧ Keeps s s')) E s := by
  rcases A with ⟨hd, dp, fr, gd, un⟩
  obtain rfl : hd = none := r.hh
  refine enterP (binds := [(Str.ofString "raw", .bytes [32, 97].toArray t)]) C r (by k_is) (by k_is) rfl rfl (by decide) ?_
  intro L h₁ tk env henv F rA
  subst henv
  obtain ⟨p, loose, mean, mg, mb, T⟩ := C.T
  have X := C.X
  have N : News s.heap L h₁ [] := News.nil
  try k_unmd
  k_fold
  k_steps
  refine ⟨use_pair (by assumption) (by assumption) (line_no (i := 0) (j := 2) (C.up (Fr.keep (by assumption))) (rA.less (by decide)) (fun u => by kernel_rfl)) ?_⟩
  intro D0 ta0 tb0 ha0 ka0 Fa0 Na0 la0
  simp only [AllNe, and_true] at la0
  k_steps
  refine ⟨slice_ok (s := ⟨_, _, _, _, _⟩) [32, 97].toArray (by assumption) (by assumption) (by decide) (by decide +kernel) ?_⟩
  intro hb0 tc0 kb0 Fb0 Nb0
  k_steps
  refine ⟨⟨_, _, rfl, News.fresh (by assumption) (.tail _ (.head _)), _, News.get (by assumption) (.tail _ (.head _))⟩, _, _, rfl, Fr.keep (by assumption)⟩
theorem rows_2 (C : Cx w s.heap) (r : Rm A 2) {t : Tok} :
    wpAny (model prog w) A (call (.ref 73) [.bytes [98, 13, 10, 32, 99].toArray t]) (fun v s' => Out ((∃ D t1 t2, v = .ref D ∧ s.heap.get? D = none ∧ s'.heap.PlainList D #[.bytes [98].toArray t1, .bytes [32, 99].toArray t2]) ∧ Keeps s s')) E s := by
  rcases A with ⟨hd, dp, fr, gd, un⟩
  obtain rfl : hd = none := r.hh
  refine enterP (binds := [(Str.ofString "raw", .bytes [98, 13, 10, 32, 99].toArray t)]) C r (by k_is) (by k_is) rfl rfl (by decide) ?_
  intro L h₁ tk env henv F rA
  subst henv
  obtain ⟨p, loose, mean, mg, mb, T⟩ := C.T
  have X := C.X
  have N : News s.heap L h₁ [] := News.nil
  try k_unmd
  k_fold
  k_steps
  refine ⟨use_pair (by assumption) (by assumption) (line_2 (C.up (Fr.keep (by assumption))) (rA.less (by decide))) ?_⟩
  intro D0 ta0 tb0 ha0 ka0 Fa0 Na0 la0
  simp only [AllNe, and_true] at la0
  k_steps
  refine ⟨slice_ok (s := ⟨_, _, _, _, _⟩) [98].toArray (by assumption) (by assumption) (by decide) (by decide +kernel) ?_⟩
  intro hb0 tc0 kb0 Fb0 Nb0
  k_steps
  refine ⟨use_pair (by assumption) (by assumption) (line_no (i := 3) (j := 5) (C.up (Fr.keep (by assumption))) (rA.less (by decide)) (fun u => by kernel_rfl)) ?_⟩
  intro D1 ta1 tb1 ha1 ka1 Fa1 Na1 la1
  simp only [AllNe, and_true] at la1
  k_steps
  refine ⟨slice_ok (s := ⟨_, _, _, _, _⟩) [32, 99].toArray (by assumption) (by assumption) (by decide) (by decide +kernel) ?_⟩
  intro hb1 tc1 kb1 Fb1 Nb1
  k_steps
  refine ⟨⟨_, _, _, rfl, News.fresh (by assumption) (.tail _ (.tail _ (.head _))), _, News.get (by assumption) (.tail _ (.tail _ (.head _)))⟩, _, _, rfl, Fr.keep (by assumption)⟩
theorem rows_3 (C : Cx w s.heap) (r : Rm A 2) {t : Tok} :
    wpAny (model prog w) A (call (.ref 73) [.bytes [32].toArray t]) (fun v s' => Out ((∃ D t1, v = .ref D ∧ s.heap.get? D = none ∧ s'.heap.PlainList D #[.bytes [32].toArray t1]) ∧ Keeps s s')) E s := by
  rcases A with ⟨hd, dp, fr, gd, un⟩
  obtain rfl : hd = none := r.hh
  refine enterP (binds := [(Str.ofString "raw", .bytes [32].toArray t)]) C r (by k_is) (by k_is) rfl rfl (by decide) ?_
  intro L h₁ tk env henv F rA
  subst henv
  obtain ⟨p, loose, mean, mg, mb, T⟩ := C.T
  have X := C.X
  have N : News s.heap L h₁ [] := News.nil
  try k_unmd
  k_fold
  k_steps
  refine ⟨use_pair (by assumption) (by assumption) (line_no (i := 0) (j := 1) (C.up (Fr.keep (by assumption))) (rA.less (by decide)) (fun u => by kernel_rfl)) ?_⟩
  intro D0 ta0 tb0 ha0 ka0 Fa0 Na0 la0
  simp only [AllNe, and_true] at la0
  k_steps
  refine ⟨slice_ok (s := ⟨_, _, _, _, _⟩) [32].toArray (by assumption) (by assumption) (by decide) (by decide +kernel) ?_⟩
  intro hb0 tc0 kb0 Fb0 Nb0
  k_steps
  refine ⟨⟨_, _, rfl, News.fresh (by assumption) (.tail _ (.head _)), _, News.get (by assumption) (.tail _ (.head _))⟩, _, _, rfl, Fr.keep (by assumption)⟩
theorem rows_4 (C : Cx w s.heap) (r : Rm A 2) {t : Tok} :
    wpAny (model prog w) A (call (.ref 73) [.bytes [32, 100, 10, 9, 101, 32].toArray t]) (fun v s' => Out ((∃ D t1 t2, v = .ref D ∧ s.heap.get? D = none ∧ s'.heap.PlainList D #[.bytes [32, 100].toArray t1, .bytes [9, 101, 32].toArray t2]) ∧ Keeps s s')) E s := by
  rcases A with ⟨hd, dp, fr, gd, un⟩
  obtain rfl : hd = none := r.hh
  refine enterP (binds := [(Str.ofString "raw", .bytes [32, 100, 10, 9, 101, 32].toArray t)]) C r (by k_is) (by k_is) rfl rfl (by decide) ?_
  intro L h₁ tk env henv F rA
  subst henv
  obtain ⟨p, loose, mean, mg, mb, T⟩ := C.T
  have X := C.X
  have N : News s.heap L h₁ [] := News.nil
  try k_unmd
  k_fold
  k_steps
  refine ⟨use_pair (by assumption) (by assumption) (line_4 (C.up (Fr.keep (by assumption))) (rA.less (by decide))) ?_⟩
  intro D0 ta0 tb0 ha0 ka0 Fa0 Na0 la0
  simp only [AllNe, and_true] at la0
  k_steps
  refine ⟨slice_ok (s := ⟨_, _, _, _, _⟩) [32, 100].toArray (by assumption) (by assumption) (by decide) (by decide +kernel) ?_⟩
  intro hb0 tc0 kb0 Fb0 Nb0
  k_steps
  refine ⟨use_pair (by assumption) (by assumption) (line_no (i := 3) (j := 6) (C.up (Fr.keep (by assumption))) (rA.less (by decide)) (fun u => by kernel_rfl)) ?_⟩
  intro D1 ta1 tb1 ha1 ka1 Fa1 Na1 la1
  simp only [AllNe, and_true] at la1
  k_steps
  refine ⟨slice_ok (s := ⟨_, _, _, _, _⟩) [9, 101, 32].toArray (by assumption) (by assumption) (by decide) (by decide +kernel) ?_⟩
  intro hb1 tc1 kb1 Fb1 Nb1
  k_steps
  refine ⟨⟨_, _, _, rfl, News.fresh (by assumption) (.tail _ (.tail _ (.head _))), _, News.get (by assumption) (.tail _ (.tail _ (.head _)))⟩, _, _, rfl, Fr.keep (by assumption)⟩
end
def skipL {α : Type} (o : Obj) : Nat → Sem α → Sem α
  | 0, t => t
  | n + 1, .rule _ k => skipL o n (k ())
  | n + 1, .at _ k => skipL o n (k ())
  | n + 1, .point _ k => skipL o n (k ())
  | n + 1, .load _ _ k => skipL o n (k o)
  | _ + 1, t => t
def loadsL {α : Type} (o : Obj) : Nat → Sem α → List Addr
  | 0, _ => []
  | n + 1, .rule _ k => loadsL o n (k ())
  | n + 1, .at _ k => loadsL o n (k ())
  | n + 1, .point _ k => loadsL o n (k ())
  | n + 1, .load a _ k => a :: loadsL o n (k o)
  | _ + 1, _ => []
theorem wp_skipL {prog : Program} {w : World} {A : Around} {E : Value → Shared → Prop} {s : Shared} {α : Type} {Q : α → Shared → Prop} {o : Obj} : ∀ (n : Nat) {t : Sem α}, (∀ a ∈ loadsL o n t, s.heap.get? a = some o) → wpAny (model prog w) A (skipL o n t) Q E s → wpAny (model prog w) A t Q E s
  | 0, _, _, h => h
  | n + 1, .rule _ _, hl, h => X.x_rule (wp_skipL n hl h)
  | n + 1, .at _ _, hl, h => X.x_at (wp_skipL n hl h)
  | n + 1, .point _ _, hl, h => X.x_point (wp_skipL n hl h)
  | n + 1, .load a q k, hl, h => wpAny_bind (m := loadPart a q) (f := k) (wpAny_loadPart (hl a (.head _)) (wp_skipL n (fun b hb => hl b (.tail _ hb)) h))
  | _ + 1, .pure _, _, h => h
  | _ + 1, .raise _, _, h => h
  | _ + 1, .unsupported _, _, h => h
  | _ + 1, .finish _, _, h => h
  | _ + 1, .update .., _, h => h
  | _ + 1, .alloc .., _, h => h
  | _ + 1, .loadIfAlive .., _, h => h
  | _ + 1, .register .., _, h => h
  | _ + 1, .fresh _, _, h => h
  | _ + 1, .ask _, _, h => h
  | _ + 1, .choose .., _, h => h
  | _ + 1, .os .., _, h => h
  | _ + 1, .call .., _, h => h
  | _ + 1, .handled .., _, h => h
  | _ + 1, .newGen .., _, h => h
  | _ + 1, .genState .., _, h => h
  | _ + 1, .resume .., _, h => h
  | _ + 1, .yield .., _, h => h
  | _ + 1, .stack _, _, h => h
  | _ + 1, .fork .., _, h => h
  | _ + 1, .thread _, _, h => h
  | _ + 1, .await .., _, h => h
def freshK {α : Type} : Sem α → Tok → Sem α
  | .fresh k, t => k t
  | t, _ => t
def isFresh {α : Type} : Sem α → Bool
  | .fresh _ => true
  | _ => false
theorem wp_freshK {prog : Program} {w : World} {A : Around} {E : Value → Shared → Prop} {s : Shared} {α : Type} {Q : α → Shared → Prop} {t : Sem α} (hf : isFresh t = true) (h : wpAny (model prog w) A (freshK t s.toks) Q E { s with toks := s.toks + 1 }) : wpAny (model prog w) A t Q E s := by
  cases t <;> first | exact wpAny_bind (m := fresh) (wpAny_fresh h) | cases hf
section
open PySem.Builtin
variable {prog : Program} {w : World} {A : Around} {E : Value → Shared → Prop} {s : Shared} {l : Addr} {n : Nat} {t t1 t2 : Tok}
def lo1 (b : Array UInt8) (t1 : Tok) (n : Nat) : Obj := { cls := .type "list", data := .seq #[.bytes b t1] n }
def lo2 (b c : Array UInt8) (t1 t2 : Tok) (n : Nat) : Obj := { cls := .type "list", data := .seq #[.bytes b t1, .bytes c t2] n }
theorem join_1a (b : Array UInt8) : loadsL (lo1 b t1 n) 60 («bytes.join» ⟨[.bytes #[] t, .ref l], []⟩) = [l, l] := by kernel_rfl
theorem join_1b (b : Array UInt8) : skipL (lo1 b t1 n) 60 («bytes.join» ⟨[.bytes #[] t, .ref l], []⟩) = .pure (.done (.ret (.bytes b t1))) := by kernel_rfl
theorem join_2a : loadsL (lo2 #[98] #[32, 99] t1 t2 n) 200 («bytes.join» ⟨[.bytes #[] t, .ref l], []⟩) = List.replicate 6 l := by kernel_rfl
theorem join_2b : isFresh (skipL (lo2 #[98] #[32, 99] t1 t2 n) 200 («bytes.join» ⟨[.bytes #[] t, .ref l], []⟩)) = true := by kernel_rfl
theorem join_2c (k : Tok) : skipL (lo2 #[98] #[32, 99] t1 t2 n) 50 (freshK (skipL (lo2 #[98] #[32, 99] t1 t2 n) 200 («bytes.join» ⟨[.bytes #[] t, .ref l], []⟩)) k) = .pure (.done (.ret (.bytes #[98, 32, 99] k))) := by kernel_rfl
theorem join_2d (k : Tok) : loadsL (lo2 #[98] #[32, 99] t1 t2 n) 50 (freshK (skipL (lo2 #[98] #[32, 99] t1 t2 n) 200 («bytes.join» ⟨[.bytes #[] t, .ref l], []⟩)) k) = [] := by kernel_rfl
theorem join_4a : loadsL (lo2 #[32, 100] #[9, 101, 32] t1 t2 n) 200 («bytes.join» ⟨[.bytes #[] t, .ref l], []⟩) = List.replicate 6 l := by kernel_rfl
theorem join_4b : isFresh (skipL (lo2 #[32, 100] #[9, 101, 32] t1 t2 n) 200 («bytes.join» ⟨[.bytes #[] t, .ref l], []⟩)) = true := by kernel_rfl
theorem join_4c (k : Tok) : skipL (lo2 #[32, 100] #[9, 101, 32] t1 t2 n) 50 (freshK (skipL (lo2 #[32, 100] #[9, 101, 32] t1 t2 n) 200 («bytes.join» ⟨[.bytes #[] t, .ref l], []⟩)) k) = .pure (.done (.ret (.bytes #[32, 100, 9, 101, 32] k))) := by kernel_rfl
theorem join_4d (k : Tok) : loadsL (lo2 #[32, 100] #[9, 101, 32] t1 t2 n) 50 (freshK (skipL (lo2 #[32, 100] #[9, 101, 32] t1 t2 n) 200 («bytes.join» ⟨[.bytes #[] t, .ref l], []⟩)) k) = [] := by kernel_rfl

theorem join_one_ok {b : Array UInt8} {Q : Value → Shared → Prop} (hl : s.heap.PlainList l #[.bytes b t1]) (h : Q (.bytes b t1) s) : wpAny (model prog w) A (call (.builtin "bytes.join") [.bytes #[] t, .ref l]) Q E s := by
  obtain ⟨n, ho⟩ := hl
  refine wpAny_call_entry slot_join (typeIs_bytes _ _ _) entry_join ?_ (args_join _ _)
  refine wp_skipL (o := lo1 b t1 n) 60 ?_ ?_
  · rw [join_1a]
    intro a ha
    rcases List.mem_cons.mp ha with rfl | ha
    · exact ho
    · rw [List.mem_singleton.mp ha]; exact ho
  · rw [join_1b]
    exact wpAny_pure ⟨_, rfl, h⟩
theorem join_two_ok {b c d : Array UInt8} {Q : Value → Shared → Prop} (h1 : ∀ n, loadsL (lo2 b c t1 t2 n) 200 («bytes.join» ⟨[.bytes #[] t, .ref l], []⟩) = List.replicate 6 l)
    (h2 : ∀ n, isFresh (skipL (lo2 b c t1 t2 n) 200 («bytes.join» ⟨[.bytes #[] t, .ref l], []⟩)) = true) (h3 : ∀ n k, skipL (lo2 b c t1 t2 n) 50 (freshK (skipL (lo2 b c t1 t2 n) 200 («bytes.join» ⟨[.bytes #[] t, .ref l], []⟩)) k) = .pure (.done (.ret (.bytes d k))))
    (h4 : ∀ n k, loadsL (lo2 b c t1 t2 n) 50 (freshK (skipL (lo2 b c t1 t2 n) 200 («bytes.join» ⟨[.bytes #[] t, .ref l], []⟩)) k) = [])
    (hl : s.heap.PlainList l #[.bytes b t1, .bytes c t2]) (h : ∀ t' k, Q (.bytes d t') { s with toks := k }) : wpAny (model prog w) A (call (.builtin "bytes.join") [.bytes #[] t, .ref l]) Q E s := by
  obtain ⟨n, ho⟩ := hl
  refine wpAny_call_entry slot_join (typeIs_bytes _ _ _) entry_join ?_ (args_join _ _)
  refine wp_skipL (o := lo2 b c t1 t2 n) 200 ?_ (wp_freshK (h2 n) (wp_skipL (o := lo2 b c t1 t2 n) 50 ?_ ?_))
  · rw [h1]
    intro a ha
    rw [List.eq_of_mem_replicate ha]; exact ho
  · rw [h4]
    intro a ha
    cases ha
  · rw [h3]
    exact wpAny_pure ⟨_, rfl, h _ _⟩
theorem strip_cut {b c : Array UInt8} {u : Tok} {Q : Value → Shared → Prop} (he : «bytes.strip» ⟨[.bytes b t, .bytes #[32, 9] u], []⟩ = (mkBytes c >>= fun v => ret v)) (hz : c.size ≤ sizeLine)
    (h : ∀ t' k, Q (.bytes c t') { s with toks := k }) : wpAny (model prog w) A (call (.builtin "bytes.strip") [.bytes b t, .bytes #[32, 9] u]) Q E s := by
  refine wpAny_call_entry slot_strip (typeIs_bytes _ _ _) entry_strip ?_ (args_strip _ _)
  rw [he]
  exact wpAny_bind (wpAny_mkBytes (wpAny_pure ⟨_, rfl, h _ _⟩) hz)
theorem strip_same {b : Array UInt8} {u : Tok} {Q : Value → Shared → Prop} (he : «bytes.strip» ⟨[.bytes b t, .bytes #[32, 9] u], []⟩ = (rule "bytes.strip.unchanged" >>= fun _ => ret (.bytes b t)))
    (h : ∀ t' k, Q (.bytes b t') { s with toks := k }) : wpAny (model prog w) A (call (.builtin "bytes.strip") [.bytes b t, .bytes #[32, 9] u]) Q E s := by
  refine wpAny_call_entry slot_strip (typeIs_bytes _ _ _) entry_strip ?_ (args_strip _ _)
  rw [he]
  exact wpAny_bind (wpAny_rule (wpAny_pure ⟨_, rfl, h _ _⟩))
end
local macro_rules | `(tactic| walk_at "call ref") => `(tactic| ((with_reducible show wpAny _ _ (call (Value.ref 73) _) _ _ _); refine Stop.go ?_))
section
variable {prog : Program} {w : World} {A : Around} {E : Value → Shared → Prop} {s : Shared}
theorem unfolded_1 (C : Cx w s.heap) (r : Rm A 3) {t : Tok} :
    wpAny (model prog w) A (call (.ref 80) [.bytes #[32, 97] t]) (fun v s' => Out ((∃ t', v = .bytes #[97] t') ∧ Keeps s s')) E s := by
  refine enterP (binds := [(Str.ofString "raw", .bytes #[32, 97] t)]) C r (by k_is) (by k_is) rfl rfl (by decide) ?_
  intro L h₁ tk env henv F rA
  subst henv
  obtain ⟨p, loose, mean, mg, mb, T⟩ := C.T
  have X := C.X
  have N : News s.heap L h₁ [] := News.nil
  try k_unmd
  k_fold
  k_steps
  refine ⟨use_pureH (P := fun v h => ∃ D t1, v = .ref D ∧ h.PlainList D #[.bytes #[32, 97] t1]) F N (wpAny_mono (rows_1 (Cx.up C (h' := h₁) F.keep) (rA.less (by decide)) (t := t)) (fun v s' q => ?_) fun _ _ e => e) ?_⟩
  · obtain ⟨⟨⟨D, t1, e1, _, e2⟩, k⟩⟩ := q
    exact ⟨⟨D, t1, e1, e2⟩, k⟩
  intro v h2 tk2 hv hu F₂ N₂
  obtain ⟨D, t1, rfl, hl⟩ := hv
  k_steps
  refine ⟨join_one_ok hl ?_⟩
  k_steps
  refine ⟨strip_cut (c := #[97]) (by kernel_rfl) (by rw [sizeLine_eq]; decide) ?_⟩
  intro t' k'
  k_steps
  exact ⟨⟨t', rfl⟩, _, _, rfl, F₂.keep⟩
theorem unfolded_2 (C : Cx w s.heap) (r : Rm A 3) {t : Tok} :
    wpAny (model prog w) A (call (.ref 80) [.bytes #[98, 13, 10, 32, 99] t]) (fun v s' => Out ((∃ t', v = .bytes #[98, 32, 99] t') ∧ Keeps s s')) E s := by
  refine enterP (binds := [(Str.ofString "raw", .bytes #[98, 13, 10, 32, 99] t)]) C r (by k_is) (by k_is) rfl rfl (by decide) ?_
  intro L h₁ tk env henv F rA
  subst henv
  obtain ⟨p, loose, mean, mg, mb, T⟩ := C.T
  have X := C.X
  have N : News s.heap L h₁ [] := News.nil
  try k_unmd
  k_fold
  k_steps
  refine ⟨use_pureH (P := fun v h => ∃ D t1 t2, v = .ref D ∧ h.PlainList D #[.bytes #[98] t1, .bytes #[32, 99] t2]) F N (wpAny_mono (rows_2 (Cx.up C (h' := h₁) F.keep) (rA.less (by decide)) (t := t)) (fun v s' q => ?_) fun _ _ e => e) ?_⟩
  · obtain ⟨⟨⟨D, t1, t2, e1, _, e2⟩, k⟩⟩ := q
    exact ⟨⟨D, t1, t2, e1, e2⟩, k⟩
  intro v h2 tk2 hv hu F₂ N₂
  obtain ⟨D, t1, t2, rfl, hl⟩ := hv
  k_steps
  refine ⟨join_two_ok (fun n => join_2a) (fun n => join_2b) (fun n => join_2c) (fun n => join_2d) hl ?_⟩
  intro tj kj
  k_steps
  refine ⟨strip_same (by kernel_rfl) ?_⟩
  intro t' k'
  k_steps
  exact ⟨⟨t', rfl⟩, _, _, rfl, F₂.keep⟩
theorem unfolded_3 (C : Cx w s.heap) (r : Rm A 3) {t : Tok} :
    wpAny (model prog w) A (call (.ref 80) [.bytes #[32] t]) (fun v s' => Out ((∃ t', v = .bytes #[] t') ∧ Keeps s s')) E s := by
  refine enterP (binds := [(Str.ofString "raw", .bytes #[32] t)]) C r (by k_is) (by k_is) rfl rfl (by decide) ?_
  intro L h₁ tk env henv F rA
  subst henv
  obtain ⟨p, loose, mean, mg, mb, T⟩ := C.T
  have X := C.X
  have N : News s.heap L h₁ [] := News.nil
  try k_unmd
  k_fold
  k_steps
  refine ⟨use_pureH (P := fun v h => ∃ D t1, v = .ref D ∧ h.PlainList D #[.bytes #[32] t1]) F N (wpAny_mono (rows_3 (Cx.up C (h' := h₁) F.keep) (rA.less (by decide)) (t := t)) (fun v s' q => ?_) fun _ _ e => e) ?_⟩
  · obtain ⟨⟨⟨D, t1, e1, _, e2⟩, k⟩⟩ := q
    exact ⟨⟨D, t1, e1, e2⟩, k⟩
  intro v h2 tk2 hv hu F₂ N₂
  obtain ⟨D, t1, rfl, hl⟩ := hv
  k_steps
  refine ⟨join_one_ok hl ?_⟩
  k_steps
  refine ⟨strip_cut (c := #[]) (by kernel_rfl) (by rw [sizeLine_eq]; decide) ?_⟩
  intro t' k'
  k_steps
  exact ⟨⟨t', rfl⟩, _, _, rfl, F₂.keep⟩
theorem unfolded_4 (C : Cx w s.heap) (r : Rm A 3) {t : Tok} :
    wpAny (model prog w) A (call (.ref 80) [.bytes #[32, 100, 10, 9, 101, 32] t]) (fun v s' => Out ((∃ t', v = .bytes #[100, 9, 101] t') ∧ Keeps s s')) E s := by
  refine enterP (binds := [(Str.ofString "raw", .bytes #[32, 100, 10, 9, 101, 32] t)]) C r (by k_is) (by k_is) rfl rfl (by decide) ?_
  intro L h₁ tk env henv F rA
  subst henv
  obtain ⟨p, loose, mean, mg, mb, T⟩ := C.T
  have X := C.X
  have N : News s.heap L h₁ [] := News.nil
  try k_unmd
  k_fold
  k_steps
  refine ⟨use_pureH (P := fun v h => ∃ D t1 t2, v = .ref D ∧ h.PlainList D #[.bytes #[32, 100] t1, .bytes #[9, 101, 32] t2]) F N (wpAny_mono (rows_4 (Cx.up C (h' := h₁) F.keep) (rA.less (by decide)) (t := t)) (fun v s' q => ?_) fun _ _ e => e) ?_⟩
  · obtain ⟨⟨⟨D, t1, t2, e1, _, e2⟩, k⟩⟩ := q
    exact ⟨⟨D, t1, t2, e1, e2⟩, k⟩
  intro v h2 tk2 hv hu F₂ N₂
  obtain ⟨D, t1, t2, rfl, hl⟩ := hv
  k_steps
  refine ⟨join_two_ok (fun n => join_4a) (fun n => join_4b) (fun n => join_4c) (fun n => join_4d) hl ?_⟩
  intro tj kj
  k_steps
  refine ⟨strip_cut (c := #[100, 9, 101]) (by kernel_rfl) (by rw [sizeLine_eq]; decide) ?_⟩
  intro t' k'
  k_steps
  exact ⟨⟨t', rfl⟩, _, _, rfl, F₂.keep⟩
end
def NAMES : List (Array UInt8) := [#[84, 111], #[116, 79], #[67, 99], #[67, 67], #[88, 45, 49]]
def RAWS : List (Array UInt8) := [#[32, 97], #[98, 13, 10, 32, 99], #[32], #[32, 100, 10, 9, 101, 32]]
def bodyOf (raw : Array UInt8) : Array UInt8 :=
  if raw = #[32, 97] then #[97] else if raw = #[98, 13, 10, 32, 99] then #[98, 32, 99] else if raw = #[32] then #[] else #[100, 9, 101]
structure RowOk (r : Row) : Prop where
  nm : r.1 ∈ NAMES
  raw : r.2 ∈ RAWS
theorem names_all {p : Array UInt8 → Prop} [DecidablePred p] (h : NAMES.all (fun x => decide (p x)) = true) {nm : Array UInt8} (hm : nm ∈ NAMES) : p nm :=
  of_decide_eq_true (List.all_eq_true.mp h nm hm)
theorem names_128 {nm : Array UInt8} (h : nm ∈ NAMES) : ∀ c ∈ nm, c.toNat < 128 := by
  have : ∀ c ∈ nm.toList, c.toNat < 128 := names_all (p := fun nm => ∀ c ∈ nm.toList, c.toNat < 128) (by decide) h
  exact fun c hc => this c (by simpa using hc)
theorem names_size {nm : Array UInt8} (h : nm ∈ NAMES) : nm.size ≤ 100 := names_all (p := fun nm => nm.size ≤ 100) (by decide) h

section
variable {prog : Program} {w : World} {A : Around} {E : Value → Shared → Prop} {s : Shared}
theorem unfolded_spec (C : Cx w s.heap) (r : Rm A 3) {t : Tok} {raw : Array UInt8} (hr : raw ∈ RAWS) :
    wpAny (model prog w) A (call (.ref 80) [.bytes raw t]) (fun v s' => Out ((∃ t', v = .bytes (bodyOf raw) t') ∧ Keeps s s')) E s := by
  simp only [RAWS, List.mem_cons, List.not_mem_nil, or_false] at hr
  rcases hr with rfl | rfl | rfl | rfl
  · exact unfolded_1 C r
  · exact unfolded_2 C r
  · exact unfolded_3 C r
  · exact unfolded_4 C r
end

/-- names of the frame's cells within a comprehension -/
theorem ldCellG {M : Model} {A : Around} {E : Value → Shared → Prop} {s : Shared} {g : Heap} {C : Addr} {m : Str → Option Value} {scope : Scope} {cl : List (Str × Addr)} {env : Env} {x : Str} {pos : Pos} {c : Addr} {v : Value} {Q : Value → Shared → Prop}
    (F : Fr g C s.heap m) (hv : g.IsCell c (some v)) (hc : cl.lookup x = some c) (h : Q v s)
    (hk : (compEnvC scope cl C env).scope.kind = .function) (hl : (compEnvC scope cl C env).kindOf x = some .cell) (hd : (x == ("__debug__" : Str)) = false) :
    wpAny M A (eval (.Name x pos) (compEnvC scope cl C env)) Q E s := ldCellK hc (hv.keeps F.keep) h hk hl hd
local macro_rules | `(tactic| walk_at "eval Name") => `(tactic| (k_here; (with_reducible show wpAny _ _ (eval _ (compEnvC _ _ _ _)) _ _ _); k_dflt (refine' ldCellG ?k1 ?k2 (by rfl) ?_ (by rfl) (by rfl) (by decide)); (case k1 => k_asm); (case k2 => assumption); k_whole))
local macro_rules | `(tactic| walk_at "call ref") => `(tactic| ((show wpAny _ _ (call (Value.ref 45) [Value.ref _]) _ _ _); refine' use_pure ?F ?N (word_spec (Cx.up ?C ?k) ?r (FieldAt.up ?k2 ?f) (names_128 ?h) (names_size ?h2)) ?_; (case F => k_asm); (case N => k_asm); (case k => exact Fr.keep (by k_asm)); (case k2 => exact Fr.keep (by k_asm)); (case C => assumption); (case f => assumption); (case h => assumption); (case h2 => assumption); (case r => exact Rm.less (by assumption) (by decide)); intro v9 h9 tk9 hv9 hu9 F9 N9; (refine Exists.elim hv9 ?_; clear hv9; intro t9 e9; subst e9)))
local macro_rules | `(tactic| walk_at "call ref") => `(tactic| ((with_reducible show wpAny _ _ (call (Value.ref 80) [Value.bytes _ _]) _ _ _); refine' use_pure ?F ?N (unfolded_spec (Cx.up ?C ?k) ?r ?h) ?_; (case F => k_asm); (case N => k_asm); (case k => exact Fr.keep (by k_asm)); (case C => assumption); (case h => assumption); (case r => exact Rm.less (by assumption) (by decide)); intro v9 h9 tk9 hv9 hu9 F9 N9; (refine Exists.elim hv9 ?_; clear hv9; intro t9 e9; subst e9)))

theorem paired_filter {α β : Type} {F : α → β → Prop} {p : α → Bool} {q : β → Bool} (h : ∀ v r, F v r → p v = q r) : ∀ {l : List α} {m : List β}, Paired F l m → Paired F (l.filter p) (m.filter q)
  | _, _, .nil => .nil
  | _, _, .cons (a := a) (b := b) x t => by
    have e := h _ _ x
    cases hb : q b with
    | true => rw [List.filter_cons_of_pos (by rw [e, hb]), List.filter_cons_of_pos hb]; exact .cons x (paired_filter h t)
    | false => rw [List.filter_cons_of_neg (by rw [e, hb]; simp), List.filter_cons_of_neg (by rw [hb]; simp)]; exact paired_filter h t
theorem paired_mem {α β : Type} {F : α → β → Prop} : ∀ {l : List α} {m : List β}, Paired F l m → ∀ v ∈ l, ∃ r ∈ m, F v r
  | _, _, .cons x t, v, h => by
    rcases List.mem_cons.mp h with rfl | h
    · exact ⟨_, .head _, x⟩
    · obtain ⟨r, hr, hF⟩ := paired_mem t v h
      exact ⟨r, .tail _ hr, hF⟩
theorem paired_eq {α : Type} : ∀ {l m : List α}, Paired (fun v y => y = v) l m → m = l
  | _, _, .nil => rfl
  | _, _, .cons x t => by rw [x, paired_eq t]
/-- a test on values that answers for the rows -/
noncomputable def pOf (h : Heap) (q : Row → Bool) (v : Value) : Bool := @decide (∃ r, FdAt h v r ∧ q r = true) (Classical.propDecidable _)
theorem pOf_is {h : Heap} {q : Row → Bool} {v : Value} {r : Row} (x : FdAt h v r) : pOf h q v = q r := by
  unfold pOf
  cases hq : q r with
  | true => exact @decide_eq_true _ (Classical.propDecidable _) ⟨r, x, hq⟩
  | false => exact @decide_eq_false _ (Classical.propDecidable _) fun ⟨r', x', hr⟩ => by rw [x'.unique x, hq] at hr; cases hr

open PySem.SeqAt in
theorem in_strs {prog : Program} {w : World} {A : Around} {E : Value → Shared → Prop} {s : Shared} {l : Addr} {vs : List Value} {ws : List Str} {x : Str} {t : Tok} {Q : Value → Shared → Prop} (hl : s.heap.IsList l vs.toArray) (hs : StrsAre vs ws)
    (h : Q (.bool (ws.any (· == x))) s) : wpAny (model prog w) A (compareOp .In (.str x t) (.ref l)) Q E s := by
  have e : vs.any (fun v => match v with | .str b _ => b == x | _ => false) = ws.any (· == x) := by
    clear h hl
    induction hs with
    | nil => rfl
    | cons y t r ih => rw [List.any_cons, List.any_cons, ih]
  refine in_listAt (fun v => match v with | .str b _ => b == x | _ => false) hl (fun y hy => ?_) (by simpa [e] using h)
  have : ∃ b u, y = .str b u := by
    have hy' : y ∈ vs := by simpa using hy
    clear e h hl hy
    induction hs with
    | nil => cases hy'
    | cons b u r ih =>
      rcases List.mem_cons.mp hy' with rfl | hy'
      · exact ⟨_, _, rfl⟩
      · exact ih hy'
  obtain ⟨b, u, rfl⟩ := this
  exact EqAt.str_str b u x t
open PySem.SeqAt in
theorem notIn_strs {prog : Program} {w : World} {A : Around} {E : Value → Shared → Prop} {s : Shared} {l : Addr} {vs : List Value} {ws : List Str} {x : Str} {t : Tok} {Q : Value → Shared → Prop} (hl : s.heap.IsList l vs.toArray) (hs : StrsAre vs ws)
    (h : Q (.bool (!ws.any (· == x))) s) : wpAny (model prog w) A (compareOp .NotIn (.str x t) (.ref l)) Q E s := by
  have e : vs.any (fun v => match v with | .str b _ => b == x | _ => false) = ws.any (· == x) := by
    clear h hl
    induction hs with
    | nil => rfl
    | cons y t r ih => rw [List.any_cons, List.any_cons, ih]
  refine notIn_listAt (fun v => match v with | .str b _ => b == x | _ => false) hl (fun y hy => ?_) (by simpa [e] using h)
  have : ∃ b u, y = .str b u := by
    have hy' : y ∈ vs := by simpa using hy
    clear e h hl hy
    induction hs with
    | nil => cases hy'
    | cons b u r ih =>
      rcases List.mem_cons.mp hy' with rfl | hy'
      · exact ⟨_, _, rfl⟩
      · exact ih hy'
  obtain ⟨b, u, rfl⟩ := this
  exact EqAt.str_str b u x t
local macro_rules | `(tactic| walk_at "compareOp In str ref") => `(tactic| refine Stop.go ?_)
local macro_rules | `(tactic| walk_at "compareOp NotIn str ref") => `(tactic| refine Stop.go ?_)
def lowS (x : Str) : Str := ⟨x.cps.map lowN⟩
/-- a list object of texts -/
def WL (h : Heap) (v : Value) (ws : List Str) : Prop := ∃ l vs, v = .ref l ∧ h.PlainList l (List.toArray vs) ∧ StrsAre vs ws
structure WOk (x : Str) : Prop where
  c128 : ∀ c ∈ x.cps, c < 128
  size : x.cps.size ≤ 100
theorem strs_get : ∀ {vs : List Value} {ws : List Str}, StrsAre vs ws → ∀ (i : Nat) (v : Value), vs[i]? = some v → ∃ x t, ws[i]? = some x ∧ v = .str x t
  | _, _, .nil, _, _, h => by simp at h
  | _, _, .cons y t r, 0, v, h => by simp at h; subst h; exact ⟨_, _, rfl, rfl⟩
  | _, _, .cons y t r, i + 1, v, h => strs_get r i v h
theorem strs_len {vs : List Value} {ws : List Str} (h : StrsAre vs ws) : vs.length = ws.length := by
  induction h with
  | nil => rfl
  | cons _ _ _ ih => simp [ih]
theorem strs_map {f : Str → Str} : ∀ {vs ys : List Value} {ws : List Str}, StrsAre vs ws → Paired (fun v y => ∃ x t u, v = .str x t ∧ y = .str (f x) u) vs ys → StrsAre ys (ws.map f)
  | _, _, _, .nil, .nil => .nil
  | _, _, _, .cons y t r, .cons q p => by
    obtain ⟨x, t', u, e1, rfl⟩ := q
    cases e1
    exact .cons _ _ (strs_map r p)
theorem stCk {M : Model} {A : Around} {E : Value → Shared → Prop} {s : Shared} {name : Str} {scope : Scope} {L a : Addr} {cd : Value} {h₀ : Heap} {m cm : Str → Option Value} {x : Str} {c : Addr} {v : Value} {Q : Unit → Shared → Prop}
    (F : Fr h₀ L s.heap m) (X : Cl L (cellsFrom (L + 1) scope.names []) s.heap cm) (hc : (cellsFrom (L + 1) scope.names []).lookup x = some c)
    (h : ∀ h', Fr h₀ L h' m → Cl L (cellsFrom (L + 1) scope.names []) h' (fun y => if y = x then some v else cm y) → Heap.SameBut c s.heap h' → (∀ b its, s.heap.PlainList b its → h'.PlainList b its) → Q () { s with heap := h' })
    (hk : scope.kind = .function := by rfl) (hl : (envOfC name scope L a cd).kindOf x = some .cell := by rfl) :
    wpAny M A (storeName (envOfC name scope L a cd) x v) Q E s := by
  have hLc : L < c := X.above x c (mem_of_lookup hc)
  refine wpAny_storeName_cell hk hl hc (X.cell x c hc) fun h' hv hs => h h' ⟨F.ns.sameBut hs (Nat.ne_of_lt hLc), fun b o e => (hs.2 b (Nat.ne_of_lt (Nat.lt_trans (Nat.lt_of_lt_of_le (Heap.lt_size e) F.above) hLc))).trans (F.keep b o e), F.above⟩
    ⟨fun n c' e => ?_, X.apart, X.above⟩ hs fun b its ⟨n, hb⟩ => ⟨n, (hs.2 b fun q => ?_).trans hb⟩
  · by_cases hn : n = x
    · subst hn; rw [hc] at e; cases e; simpa using hv
    · have hcc : c' ≠ c := fun q => hn (name_of_addr X.apart (mem_of_lookup e) (q ▸ mem_of_lookup hc))
      simpa [hn] using (X.cell n c' e).sameBut hs hcc
  · obtain ⟨oc, e1, e2⟩ := X.cell x c hc
    rw [q, e1] at hb
    cases hb
    cases e2
section
variable {prog : Program} {w : World} {A : Around} {E : Value → Shared → Prop} {s : Shared}
theorem only_words_spec {v wv : Value} {rs : List Row} {ws : List Str} (C : Cx w s.heap) (r : Rm A 5) (hl : FL s.heap v rs) (hok : ∀ r ∈ rs, RowOk r) (hz : rs.length ≤ 1000) (hw : WL s.heap wv ws) (hws : ∀ x ∈ ws, WOk x) (hwz : ws.length ≤ 1000) :
    wpAny (model prog w) A (call (.ref 97) [v, wv]) (fun v' s' => Out (FL s'.heap v' (rs.filter fun r => (ws.map lowS).any (· == low r.1)) ∧ Keeps s s')) E s := by
  rcases A with ⟨hd, dp, fr, gd, un⟩
  obtain rfl : hd = none := r.hh
  obtain ⟨l, vs, rfl, hpl, hfs⟩ := hl
  obtain ⟨lw, us, rfl, hwl, hus⟩ := hw
  have hlen : vs.length = rs.length := hfs.length
  have hulen : us.length = ws.length := strs_len hus
  refine enterC (binds := [(Str.ofString "fields", .ref l), (Str.ofString "words", .ref lw)]) C r (by k_is) (by k_is) rfl rfl ?_
  intro L h₁ tk env henv F Xc rA
  subst henv
  obtain ⟨p, loose, mean, mg, mb, T⟩ := C.T
  have X := C.X
  have N : News s.heap L h₁ [] := News.nil
  try k_unmd
  k_fold
  k_steps
  refine ⟨?_⟩
  refine comp_ev (cl := []) (nn := us.toArray.size) (P := fun i v => us.toArray[i]? = some v) (fun _ => true) (fun _ v y => ∃ x t u, v = Value.str x t ∧ y = Value.str (lowS x) u) rfl (by decide) rfl (by decide) rfl ?_ (by rw [sizeLine_eq, List.size_toArray]; omega) ?_ ?_ ?_
  · k_steps
    exact ⟨⟨_, _, rfl, fun _ _ e => e⟩, src_list rA.hh (hwl.isList.at fun o e => F.keep _ o e)⟩
  · intro g C' i v s₃ m₃ E' _ _ _ _
    exact wpAny_tests_nil ⟨⟨rfl, Keeps.rfl'⟩⟩
  · intro g C' i v s₃ m₃ E' hg F' hm hP _
    obtain ⟨x, t, hx, rfl⟩ := strs_get hus i v (by simpa using hP)
    have hxo := hws x (List.mem_of_getElem? hx)
    have hgu : Up s.heap g := Up.trans F.keep hg
    have Cg : Cx w g := C.up hgu
    clear F N X T Xc
    obtain ⟨p, loose, mean, mg, mb, T⟩ := Cg.T
    have X := Cg.X
    have N : News g C' s₃.heap [] := News.nil
    k_steps
    refine ⟨wpAny_mono (lower_text_spec (Cx.up Cg (h' := s₃.heap) F'.keep) (rA.less (by decide)) x t hxo.c128 hxo.size) (fun y s₄ q => ?_) fun _ _ e => e⟩
    obtain ⟨⟨⟨t', rfl⟩, k⟩⟩ := q
    exact ⟨⟨fun _ _ _ => ⟨x, t, t', rfl, rfl⟩, k⟩⟩
  intro D h' tk' ys vs' hD hplD hlenD hPD hFD hupD
  have F₂ := F.keeps hupD
  have Xc₂ := Xc.keeps hupD
  rw [filter_tt] at hFD
  have e : vs' = us := by simpa using list_of_places hlenD hPD
  subst e
  have hSD : StrsAre ys.toList (ws.map lowS) := strs_map hus hFD
  clear F Xc N hFD hPD
  refine stCk F₂ Xc₂ (c := L + 1) rfl ?_ rfl rfl
  intro h₄ F₄ Xc₄ _ up₄
  have hplD₄ : h₄.IsList D ys.toList.toArray := by rw [Array.toArray_toList]; exact (up₄ D ys hplD).isList
  have hcell : h₄.IsCell (L + 1) (some (.ref D)) := Xc₄.cell (Str.ofString "wanted") (L + 1) rfl
  have N₄ : News s.heap L h₄ [] := News.nil
  k_steps
  refine ⟨?_⟩
  refine comp_ev (cl := [(Str.ofString "wanted", L + 1)]) (nn := vs.toArray.size) (P := fun i v => vs.toArray[i]? = some v) (pOf s.heap fun r => (ws.map lowS).any (· == low r.1)) (fun _ v y => y = v) rfl (by decide) rfl (by decide) rfl ?_ (by rw [sizeLine_eq, List.size_toArray]; omega) ?_ ?_ ?_
  · k_steps
    exact ⟨⟨_, _, rfl, fun _ _ e => e⟩, src_list rA.hh (hpl.isList.at fun o e => F₄.keep _ o e)⟩
  · intro g C' i v s₃ m₃ E' hg F' hm hP
    obtain ⟨r₀, hr, a, rfl, hfa⟩ := paired_get hfs i v (by simpa using hP)
    rw [pOf_is (r := r₀) ⟨a, rfl, hfa⟩]
    have hro := (hok r₀ (List.mem_of_getElem? hr)).nm
    have hgu : Up s.heap g := Up.trans F₄.keep hg
    have hfg := hfa.up hgu
    have Cg : Cx w g := C.up hgu
    have hcg : g.IsCell (L + 1) (some (.ref D)) := hcell.keeps hg
    have hlg : g.IsList D ys.toList.toArray := hplD₄.at fun o e => hg _ o e
    clear F₂ F₄ X T Xc₂ Xc₄ N₄ hfa hcell
    obtain ⟨p, loose, mean, mg, mb, T⟩ := Cg.T
    have X := Cg.X
    have N : News g C' s₃.heap [] := News.nil
    refine wpAny_tests_one ?_
    k_steps
    refine ⟨in_strs (hlg.at fun o e => Fr.keep (by assumption) _ o e) hSD ?_⟩
    k_steps
    exact ⟨⟨rfl, _, _, rfl, by assumption⟩⟩
  · intro g C' i v s₃ m₃ E' hg F' hm hP _
    clear F₂ F₄ Xc₂ Xc₄ N₄
    k_steps
    exact ⟨⟨fun _ _ _ => rfl, Keeps.rfl'⟩⟩
  intro D₂ h₅ tk₅ ys₂ vs₂ hD₂ hpl₂ hlen₂ hP₂ hF₂ hup₂
  have e : vs₂ = vs := by simpa using list_of_places hlen₂ hP₂
  subst e
  have e2 := paired_eq hF₂
  have F₅ := F₄.keeps hup₂
  refine ⟨⟨⟨D₂, ys₂.toList, rfl, by simpa using hpl₂, ?_⟩, _, _, rfl, F₅.keep⟩⟩
  rw [e2]
  exact FdsAt.up F₅.keep (paired_filter (fun v r x => pOf_is x) hfs)
end
local macro_rules | `(tactic| walk_at "exec For") => `(tactic| refine Stop.go ?_)
section
variable {prog : Program} {w : World} {A : Around} {E : Value → Shared → Prop} {s : Shared}
theorem without_words_spec {v wv : Value} {rs : List Row} {ws : List Str} (C : Cx w s.heap) (r : Rm A 5) (hl : FL s.heap v rs) (hok : ∀ r ∈ rs, RowOk r) (hz : rs.length ≤ 1000) (hw : WL s.heap wv ws) (hws : ∀ x ∈ ws, WOk x) (hwz : ws.length ≤ 1000) :
    wpAny (model prog w) A (call (.ref 102) [v, wv]) (fun v' s' => Out (FL s'.heap v' (rs.filter fun r => !(ws.map lowS).any (· == low r.1)) ∧ Keeps s s')) E s := by
  rcases A with ⟨hd, dp, fr, gd, un⟩
  obtain rfl : hd = none := r.hh
  obtain ⟨l, vs, rfl, hpl, hfs⟩ := hl
  obtain ⟨lw, us, rfl, hwl, hus⟩ := hw
  have hlen : vs.length = rs.length := hfs.length
  have hulen : us.length = ws.length := strs_len hus
  refine enterC (binds := [(Str.ofString "fields", .ref l), (Str.ofString "words", .ref lw)]) C r (by k_is) (by k_is) rfl rfl ?_
  intro L h₁ tk env henv F Xc rA
  subst henv
  obtain ⟨p, loose, mean, mg, mb, T⟩ := C.T
  have X := C.X
  have N : News s.heap L h₁ [] := News.nil
  try k_unmd
  k_fold
  k_steps
  refine ⟨?_⟩
  refine comp_ev (cl := []) (nn := us.toArray.size) (P := fun i v => us.toArray[i]? = some v) (fun _ => true) (fun _ v y => ∃ x t u, v = Value.str x t ∧ y = Value.str (lowS x) u) rfl (by decide) rfl (by decide) rfl ?_ (by rw [sizeLine_eq, List.size_toArray]; omega) ?_ ?_ ?_
  · k_steps
    exact ⟨⟨_, _, rfl, fun _ _ e => e⟩, src_list rA.hh (hwl.isList.at fun o e => F.keep _ o e)⟩
  · intro g C' i v s₃ m₃ E' _ _ _ _
    exact wpAny_tests_nil ⟨⟨rfl, Keeps.rfl'⟩⟩
  · intro g C' i v s₃ m₃ E' hg F' hm hP _
    obtain ⟨x, t, hx, rfl⟩ := strs_get hus i v (by simpa using hP)
    have hxo := hws x (List.mem_of_getElem? hx)
    have hgu : Up s.heap g := Up.trans F.keep hg
    have Cg : Cx w g := C.up hgu
    clear F N X T Xc
    obtain ⟨p, loose, mean, mg, mb, T⟩ := Cg.T
    have X := Cg.X
    have N : News g C' s₃.heap [] := News.nil
    k_steps
    refine ⟨wpAny_mono (lower_text_spec (Cx.up Cg (h' := s₃.heap) F'.keep) (rA.less (by decide)) x t hxo.c128 hxo.size) (fun y s₄ q => ?_) fun _ _ e => e⟩
    obtain ⟨⟨⟨t', rfl⟩, k⟩⟩ := q
    exact ⟨⟨fun _ _ _ => ⟨x, t, t', rfl, rfl⟩, k⟩⟩
  intro D h' tk' ys vs' hD hplD hlenD hPD hFD hupD
  have F₂ := F.keeps hupD
  have Xc₂ := Xc.keeps hupD
  rw [filter_tt] at hFD
  have e : vs' = us := by simpa using list_of_places hlenD hPD
  subst e
  have hSD : StrsAre ys.toList (ws.map lowS) := strs_map hus hFD
  clear F Xc N hFD hPD
  refine stCk F₂ Xc₂ (c := L + 1) rfl ?_ rfl rfl
  intro h₄ F₄ Xc₄ _ up₄
  have hplD₄ : h₄.IsList D ys.toList.toArray := by rw [Array.toArray_toList]; exact (up₄ D ys hplD).isList
  have hcell : h₄.IsCell (L + 1) (some (.ref D)) := Xc₄.cell (Str.ofString "barred") (L + 1) rfl
  have N₄ : News s.heap L h₄ [] := News.nil
  k_steps
  refine ⟨?_⟩
  refine comp_ev (cl := [(Str.ofString "barred", L + 1)]) (nn := vs.toArray.size) (P := fun i v => vs.toArray[i]? = some v) (pOf s.heap fun r => !(ws.map lowS).any (· == low r.1)) (fun _ v y => y = v) rfl (by decide) rfl (by decide) rfl ?_ (by rw [sizeLine_eq, List.size_toArray]; omega) ?_ ?_ ?_
  · k_steps
    exact ⟨⟨_, _, rfl, fun _ _ e => e⟩, src_list rA.hh (hpl.isList.at fun o e => F₄.keep _ o e)⟩
  · intro g C' i v s₃ m₃ E' hg F' hm hP
    obtain ⟨r₀, hr, a, rfl, hfa⟩ := paired_get hfs i v (by simpa using hP)
    rw [pOf_is (r := r₀) ⟨a, rfl, hfa⟩]
    have hro := (hok r₀ (List.mem_of_getElem? hr)).nm
    have hgu : Up s.heap g := Up.trans F₄.keep hg
    have hfg := hfa.up hgu
    have Cg : Cx w g := C.up hgu
    have hcg : g.IsCell (L + 1) (some (.ref D)) := hcell.keeps hg
    have hlg : g.IsList D ys.toList.toArray := hplD₄.at fun o e => hg _ o e
    clear F₂ F₄ X T Xc₂ Xc₄ N₄ hfa hcell
    obtain ⟨p, loose, mean, mg, mb, T⟩ := Cg.T
    have X := Cg.X
    have N : News g C' s₃.heap [] := News.nil
    refine wpAny_tests_one ?_
    k_steps
    refine ⟨notIn_strs (hlg.at fun o e => Fr.keep (by assumption) _ o e) hSD ?_⟩
    k_steps
    exact ⟨⟨rfl, _, _, rfl, by assumption⟩⟩
  · intro g C' i v s₃ m₃ E' hg F' hm hP _
    clear F₂ F₄ Xc₂ Xc₄ N₄
    k_steps
    exact ⟨⟨fun _ _ _ => rfl, Keeps.rfl'⟩⟩
  intro D₂ h₅ tk₅ ys₂ vs₂ hD₂ hpl₂ hlen₂ hP₂ hF₂ hup₂
  have e : vs₂ = vs := by simpa using list_of_places hlen₂ hP₂
  subst e
  have e2 := paired_eq hF₂
  have F₅ := F₄.keeps hup₂
  refine ⟨⟨⟨D₂, ys₂.toList, rfl, by simpa using hpl₂, ?_⟩, _, _, rfl, F₅.keep⟩⟩
  rw [e2]
  exact FdsAt.up F₅.keep (paired_filter (fun v r x => pOf_is x) hfs)
theorem all_bodies_spec {v : Value} {x : Str} {tx : Tok} {rs : List Row} (C : Cx w s.heap) (r : Rm A 5) (hl : FL s.heap v rs) (hok : ∀ r ∈ rs, RowOk r) (hz : rs.length ≤ 1000) (hx : WOk x) :
    wpAny (model prog w) A (call (.ref 85) [v, .str x tx]) (fun v' s' => Out ((∃ D ys, v' = .ref D ∧ s'.heap.PlainList D (List.toArray ys) ∧ Paired (fun y (r : Row) => ∃ t, y = .bytes (bodyOf r.2) t) ys (rs.filter fun r => low r.1 == lowS x)) ∧ Keeps s s')) E s := by
  rcases A with ⟨hd, dp, fr, gd, un⟩
  obtain rfl : hd = none := r.hh
  obtain ⟨l, vs, rfl, hpl, hfs⟩ := hl
  have hlen : vs.length = rs.length := hfs.length
  refine enterC (binds := [(Str.ofString "fields", .ref l), (Str.ofString "word", .str x tx)]) C r (by k_is) (by k_is) rfl rfl ?_
  intro L h₁ tk env henv F Xc rA
  subst henv
  obtain ⟨p, loose, mean, mg, mb, T⟩ := C.T
  have X := C.X
  have N : News s.heap L h₁ [] := News.nil
  try k_unmd
  k_fold
  k_steps
  refine ⟨use_pure F N (lower_text_spec (C.up (h' := h₁) F.keep) (rA.less (by decide)) x tx hx.c128 hx.size) ?_⟩
  rintro v h₂ tk₂ ⟨t₂, rfl⟩ u₂ F₂ N₂
  have Xc₂ := Xc.keeps u₂
  clear F N Xc
  refine stCk F₂ Xc₂ (c := L + 1) rfl ?_ rfl rfl
  intro h₄ F₄ Xc₄ _ up₄
  have hcell : h₄.IsCell (L + 1) (some (.str (lowS x) t₂)) := Xc₄.cell (Str.ofString "wanted") (L + 1) rfl
  have N₄ : News s.heap L h₄ [] := News.nil
  clear F₂ Xc₂
  k_steps
  refine ⟨?_⟩
  refine comp_ev (cl := [(Str.ofString "wanted", L + 1)]) (nn := vs.toArray.size) (P := fun i v => vs.toArray[i]? = some v) (pOf s.heap fun r => low r.1 == lowS x) (fun _ v y => ∃ r, FdAt s.heap v r ∧ ∃ t, y = .bytes (bodyOf r.2) t) rfl (by decide) rfl (by decide) rfl ?_ (by rw [sizeLine_eq, List.size_toArray]; omega) ?_ ?_ ?_
  · k_steps
    exact ⟨⟨_, _, rfl, fun _ _ e => e⟩, src_list rA.hh (hpl.isList.at fun o e => F₄.keep _ o e)⟩
  · intro g C' i v s₃ m₃ E' hg F' hm hP
    obtain ⟨r₀, hr, a, rfl, hfa⟩ := paired_get hfs i v (by simpa using hP)
    rw [pOf_is (r := r₀) ⟨a, rfl, hfa⟩]
    have hro := (hok r₀ (List.mem_of_getElem? hr)).nm
    have hgu : Up s.heap g := Up.trans F₄.keep hg
    have hfg := hfa.up hgu
    have Cg : Cx w g := C.up hgu
    have hcg : g.IsCell (L + 1) (some (.str (lowS x) t₂)) := hcell.keeps hg
    clear F₄ X T Xc₄ N₄ hfa hcell
    obtain ⟨p, loose, mean, mg, mb, T⟩ := Cg.T
    have X := Cg.X
    have N : News g C' s₃.heap [] := News.nil
    refine wpAny_tests_one ?_
    k_steps
    exact ⟨⟨rfl, _, _, rfl, by assumption⟩⟩
  · intro g C' i v s₃ m₃ E' hg F' hm hP _
    obtain ⟨r₀, hr, a, rfl, hfa⟩ := paired_get hfs i v (by simpa using hP)
    have hro := (hok r₀ (List.mem_of_getElem? hr)).raw
    have hgu : Up s.heap g := Up.trans F₄.keep hg
    have hfg := hfa.up hgu
    have Cg : Cx w g := C.up hgu
    clear F₄ X T Xc₄ N₄ hcell
    obtain ⟨p, loose, mean, mg, mb, T⟩ := Cg.T
    have X := Cg.X
    have N : News g C' s₃.heap [] := News.nil
    k_steps
    exact ⟨⟨fun _ _ _ => ⟨r₀, ⟨a, rfl, hfa⟩, _, rfl⟩, _, _, rfl, by assumption⟩⟩
  intro D₂ h₅ tk₅ ys₂ vs₂ hD₂ hpl₂ hlen₂ hP₂ hF₂ hup₂
  have e : vs₂ = vs := by simpa using list_of_places hlen₂ hP₂
  subst e
  have F₅ := F₄.keeps hup₂
  refine ⟨⟨⟨D₂, ys₂.toList, rfl, by simpa using hpl₂, ?_⟩, _, _, rfl, F₅.keep⟩⟩
  exact paired_swap (fun v r y x q => by obtain ⟨r', q1, q2⟩ := x; rw [FdAt.unique q q1]; exact q2) hF₂ (paired_filter (fun v r x => pOf_is x) hfs)

def FBv (o : Option Row) (v : Value) : Prop := match o with | some r => ∃ t, v = .bytes (bodyOf r.2) t | none => v = .none
theorem first_body_spec {v : Value} {x : Str} {tx : Tok} {rs : List Row} (C : Cx w s.heap) (r : Rm A 5) (hl : FL s.heap v rs) (hok : ∀ r ∈ rs, RowOk r) (hz : rs.length ≤ 1000) (hx : WOk x) :
    wpAny (model prog w) A (call (.ref 92) [v, .str x tx]) (fun v' s' => Out (FBv (rs.find? fun r => low r.1 == lowS x) v' ∧ Keeps s s')) E s := by
  rcases A with ⟨hd, dp, fr, gd, un⟩
  obtain rfl : hd = none := r.hh
  obtain ⟨l, vs, rfl, hpl, hfs⟩ := hl
  have hlen : vs.length = rs.length := hfs.length
  refine enterP (binds := [(Str.ofString "fields", .ref l), (Str.ofString "word", .str x tx)]) C r (by k_is) (by k_is) rfl rfl (by decide) ?_
  intro L h₁ tk env henv F rA
  subst henv
  obtain ⟨p, loose, mean, mg, mb, T⟩ := C.T
  have X := C.X
  have N : News s.heap L h₁ [] := News.nil
  try k_unmd
  k_fold
  k_steps
  refine ⟨use_pure F N (lower_text_spec (C.up (h' := h₁) F.keep) (rA.less (by decide)) x tx hx.c128 hx.size) ?_⟩
  rintro v h₂ tk₂ ⟨t₂, rfl⟩ u₂ F₂ N₂
  clear F N
  k_steps
  rename_i h₃ F₃ N₃
  refine ⟨?_⟩
  have hs : vs.length ≤ 1000 := by omega
  refine for_list (J := fun pre m₁ news => news = [] ∧ (∀ y, y ≠ Str.ofString "field" → m₁ y = (fun y =>
    if y = Str.ofString "wanted" then some (Value.str { cps := Array.map lowN x.cps } t₂)
    else List.lookup y [(Str.ofString "fields", Value.ref l), (Str.ofString "word", Value.str x tx)].reverse) y) ∧ ∀ r ∈ rs.take pre.length, (low r.1 == lowS x) = false) (items := vs) (ax := l) rA.hh rfl rfl rfl F₃ N₃ (hpl.isList) (fun Q' h => ?_) ⟨rfl, fun _ _ => rfl, by simp⟩ ?_ ?_
  · k_steps
    exact h
  · intro pre v rest m₁ news₁ I io h tk' hit hJ _ F₄ N₄
    obtain ⟨rfl, hm, hno⟩ := hJ
    obtain ⟨r₀, hr, a, rfl, hfa⟩ := paired_get hfs pre.length v (by rw [hit]; simp)
    have hro := (hok r₀ (List.mem_of_getElem? hr)).nm
    have hrr := (hok r₀ (List.mem_of_getElem? hr)).raw
    have em : (fun y => if y = Str.ofString "field" then some (Value.ref a) else m₁ y) = fun y => if y = Str.ofString "field" then some (Value.ref a) else if y = Str.ofString "wanted" then some (Value.str (lowS x) t₂)
      else List.lookup y [(Str.ofString "fields", Value.ref l), (Str.ofString "word", Value.str x tx)].reverse := by
      funext y; split
      · rfl
      · exact hm y (by assumption)
    rw [em] at F₄
    clear F₃ N₃ hm em
    have hdrop : rs.take (pre.length + 1) = rs.take pre.length ++ [r₀] := by rw [List.take_add_one, hr]; rfl
    k_steps
    · rename_i F5 N5 _
      refine ⟨⟨?_, _, _, rfl, F5.keep⟩⟩
      have hd : rs = rs.take pre.length ++ r₀ :: rs.drop (pre.length + 1) := by
        obtain ⟨h1, rfl⟩ := List.getElem?_eq_some_iff.mp hr
        simp
      rw [hd, List.find?_append, List.find?_eq_none.mpr fun r hr => by rw [hno r hr]; decide, Option.none_or, List.find?_cons_of_pos (by assumption)]
      exact ⟨_, rfl⟩
    · refine ⟨⟨_, _, _, _, rfl, by assumption, by assumption, by simp, rfl, fun y hy => by simp only [if_neg hy]; rfl, ?_⟩⟩
      intro r hr
      rw [List.length_append, List.length_singleton, hdrop] at hr
      rcases List.mem_append.mp hr with hr | hr
      · exact hno r hr
      · obtain rfl := List.mem_singleton.mp hr
        assumption
  · intro h' tk' m' news' F₄ N₄ hJ
    obtain ⟨rfl, hm, hno⟩ := hJ
    clear F₃ N₃
    k_steps
    refine ⟨⟨?_, _, _, rfl, F₄.keep⟩⟩
    have : rs.find? (fun r => low r.1 == lowS x) = none := List.find?_eq_none.mpr fun r hr => by
      have := hno r (by rw [hlen, List.take_length]; exact hr)
      rw [this]; decide
    rw [this]; rfl
end
section
variable {α : Type} (q : α → Bool) (r : α)
/-- the put: b says whether the field stands already -/
def wfG : Bool → List α → List α
  | b, [] => if b then [] else [r]
  | b, o :: t => if q o then o :: wfG b t else if b then wfG b t else r :: wfG true t
theorem wfG_true : ∀ t : List α, wfG q r true t = t.filter q
  | [] => rfl
  | o :: t => by
    unfold wfG
    cases h : q o
    · simp [h, wfG_true t]
    · simp [h, wfG_true t]
variable {q r} (hr : q r = false)
include hr
theorem wfG_again : ∀ t : List α, wfG q r false (wfG q r false t) = wfG q r false t
  | [] => by simp [wfG, hr]
  | o :: t => by
    rw [wfG]
    cases h : q o
    · simp only [Bool.false_eq_true, if_false]
      rw [wfG]
      simp only [hr, Bool.false_eq_true, if_false]
      rw [wfG_true, wfG_true, List.filter_filter]; simp
    · simp only [if_true]
      rw [wfG]
      simp only [h, if_true]
      rw [wfG_again t]
theorem wfG_same : ∀ t : List α, (wfG q r false t).filter (fun o => !q o) = [r]
  | [] => by simp [wfG, hr]
  | o :: t => by
    rw [wfG]
    cases h : q o
    · simp only [Bool.false_eq_true, if_false]
      rw [List.filter_cons_of_pos (by simp [hr]), wfG_true, List.filter_filter]
      congr 1
      simp
    · simp only [if_true]
      rw [List.filter_cons_of_neg (by simp [h]), wfG_same t]
theorem wfG_rest : ∀ t : List α, (wfG q r false t).filter q = t.filter q
  | [] => by simp [wfG, hr]
  | o :: t => by
    rw [wfG]
    cases h : q o
    · simp only [Bool.false_eq_true, if_false]
      rw [List.filter_cons_of_neg (by simp [hr]), wfG_true, List.filter_filter, List.filter_cons_of_neg (by simp [h])]
      simp
    · simp only [if_true]
      rw [List.filter_cons_of_pos h, List.filter_cons_of_pos h, wfG_rest t]
omit hr
theorem find_of_filter {p : α → Bool} : ∀ {t : List α} {r : α}, t.filter p = [r] → t.find? p = some r := by
  intro t r h
  rw [← List.head?_filter, h]; rfl
theorem wfG_swap {q₂ : α → Bool} {r₂ : α} (h12 : q r₂ = true) (h21 : q₂ r = true) (hno : ∀ o, q o = true ∨ q₂ o = true) :
    ∀ (t : List α) (b b₂ : Bool), (b = true ∨ ∃ o ∈ t, q o = false) → (b₂ = true ∨ ∃ o ∈ t, q₂ o = false) →
      wfG q₂ r₂ b₂ (wfG q r b t) = wfG q r b (wfG q₂ r₂ b₂ t)
  | [], b, b₂, h1, h2 => by
    obtain rfl : b = true := h1.elim id fun ⟨_, h, _⟩ => nomatch h
    obtain rfl : b₂ = true := h2.elim id fun ⟨_, h, _⟩ => nomatch h
    rfl
  | o :: t, b, b₂, h1, h2 => by
    have tail : ∀ {c : Bool} {p : α → Bool}, (c = true ∨ ∃ x ∈ o :: t, p x = false) → p o = true → (c = true ∨ ∃ x ∈ t, p x = false) := by
      intro c p h hp
      refine h.imp id ?_
      rintro ⟨x, hx, hf⟩
      rcases List.mem_cons.mp hx with rfl | hx
      · rw [hp] at hf; cases hf
      · exact ⟨x, hx, hf⟩
    cases e1 : q o with
    | true =>
      cases e2 : q₂ o with
      | true =>
        rw [wfG.eq_2 q r, wfG.eq_2 q₂ r₂ b₂ o t]
        simp only [e1, e2, if_true]
        rw [wfG, wfG]
        simp only [e1, e2, if_true]
        rw [wfG_swap h12 h21 hno t b b₂ (tail h1 e1) (tail h2 e2)]
      | false =>
        have h2' : true = true ∨ ∃ x ∈ t, q₂ x = false := .inl rfl
        rw [wfG.eq_2 q r, wfG.eq_2 q₂ r₂ b₂ o t]
        simp only [e1, e2, if_true, Bool.false_eq_true, if_false]
        rw [wfG.eq_2 q₂ r₂]
        simp only [e2, Bool.false_eq_true, if_false]
        cases b₂ with
        | true => simp only [if_true]; exact wfG_swap h12 h21 hno t b true (tail h1 e1) h2'
        | false =>
          simp only [Bool.false_eq_true, if_false]
          rw [wfG.eq_2 q r]
          simp only [h12, if_true]
          rw [wfG_swap h12 h21 hno t b true (tail h1 e1) h2']
    | false =>
      have e2 : q₂ o = true := (hno o).resolve_left (by rw [e1]; decide)
      have h1' : true = true ∨ ∃ x ∈ t, q x = false := .inl rfl
      rw [wfG.eq_2 q r b o t, wfG.eq_2 q₂ r₂ b₂ o t]
      simp only [e1, e2, if_true, Bool.false_eq_true, if_false]
      rw [wfG.eq_2 q r]
      simp only [e1, Bool.false_eq_true, if_false]
      cases b with
      | true => simp only [if_true]; exact wfG_swap h12 h21 hno t true b₂ h1' (tail h2 e2)
      | false =>
        simp only [Bool.false_eq_true, if_false]
        rw [wfG.eq_2 q₂ r₂]
        simp only [h21, if_true]
        rw [wfG_swap h12 h21 hno t true b₂ h1' (tail h2 e2)]
/-- where the first one stands that fails q -/
def spotOf (q : α → Bool) : List α → Nat
  | [] => 0
  | o :: t => if q o then spotOf q t + 1 else 0
theorem wfG_spot : ∀ t : List α, wfG q r false t = t.take (spotOf q t) ++ [r] ++ (t.drop (spotOf q t)).filter q
  | [] => by simp [wfG, spotOf]
  | o :: t => by
    rw [wfG, spotOf]
    cases h : q o
    · simp [wfG_true, h]
    · simp [wfG_spot t]
theorem spotOf_le (q : α → Bool) : ∀ t : List α, spotOf q t ≤ t.length
  | [] => Nat.le_refl _
  | o :: t => by
    rw [spotOf]
    split
    · exact Nat.succ_le_succ (spotOf_le q t)
    · exact Nat.zero_le _
theorem spot_range (P : Nat → Bool) : ∀ (t : List α) (s : Nat), (∀ j o, t[j]? = some o → P (s + j) = !q o) →
    ((List.range' s t.length).filter P).head?.getD (s + t.length) = s + spotOf q t
  | [], s, _ => by simp [spotOf]
  | o :: t, s, h => by
    rw [List.length_cons, List.range'_succ, spotOf]
    have h0 := h 0 o rfl
    cases e : q o
    · rw [List.filter_cons_of_pos (by rw [← Nat.add_zero s, h0, e]; rfl)]
      simp
    · rw [List.filter_cons_of_neg (by rw [← Nat.add_zero s, h0, e]; simp)]
      have := spot_range P t (s + 1) fun j o' hj => by
        have := h (j + 1) o' (by simpa using hj)
        rw [← this]; congr 1; omega
      simp only [if_true]
      rw [show s + (t.length + 1) = s + 1 + t.length by omega, this]
      omega
end
/-- with_field on rows -/
def wf (rs : List Row) (r : Row) : List Row := wfG (fun o => low o.1 != low r.1) r false rs
def due (rs : List Row) (r : Row) : List Row :=
  let q := fun (o : Row) => lowB o.1 != lowB r.1
  rs.take (spotOf q rs) ++ [r] ++ (rs.drop (spotOf q rs)).filter q
theorem names_low {a b : Array UInt8} (ha : a ∈ NAMES) (hb : b ∈ NAMES) : (low a == low b) = (lowB a == lowB b) := by
  have : NAMES.all (fun a => NAMES.all fun b => (low a == low b) == (lowB a == lowB b)) = true := by decide +kernel
  have h := List.all_eq_true.mp (List.all_eq_true.mp this a ha) b hb
  exact eq_of_beq h
theorem wfG_congr {α : Type} {q q' : α → Bool} {r : α} : ∀ {t : List α} {b : Bool}, (∀ o ∈ t, q o = q' o) → wfG q r b t = wfG q' r b t
  | [], _, _ => rfl
  | o :: t, b, h => by
    rw [wfG, wfG, h o (.head _), wfG_congr (b := b) fun x hx => h x (.tail _ hx), wfG_congr (b := true) fun x hx => h x (.tail _ hx)]
theorem wf_due {rs : List Row} {r : Row} (h : ∀ x ∈ rs, RowOk x) (hr : RowOk r) : wf rs r = due rs r := by
  unfold wf due
  rw [← wfG_spot]
  refine wfG_congr fun o ho => ?_
  show (!(low o.1 == low r.1)) = !(lowB o.1 == lowB r.1)
  rw [names_low (h o ho).nm hr.nm]
theorem wfG_mem {α : Type} {q : α → Bool} {r : α} {x : α} : ∀ {t : List α} {b : Bool}, x ∈ wfG q r b t → x = r ∨ x ∈ t
  | [], b, h => by
    unfold wfG at h
    split at h
    · cases h
    · exact .inl (List.mem_singleton.mp h)
  | o :: t, b, h => by
    unfold wfG at h
    split at h
    · rcases List.mem_cons.mp h with rfl | h
      · exact .inr (.head _)
      · exact (wfG_mem h).imp id (.tail _)
    · split at h
      · exact (wfG_mem h).imp id (.tail _)
      · rcases List.mem_cons.mp h with rfl | h
        · exact .inl rfl
        · exact (wfG_mem h).imp id (.tail _)
theorem wfG_len {α : Type} {q : α → Bool} {r : α} : ∀ {t : List α} {b : Bool}, (wfG q r b t).length ≤ t.length + 1
  | [], b => by unfold wfG; split <;> simp
  | o :: t, b => by
    unfold wfG
    have h1 := wfG_len (q := q) (r := r) (t := t) (b := b)
    have h2 := wfG_len (q := q) (r := r) (t := t) (b := true)
    split
    · simp only [List.length_cons]; omega
    · split
      · simp only [List.length_cons]; omega
      · simp only [List.length_cons]; omega
theorem wf_ok {rs : List Row} {r : Row} (h : ∀ x ∈ rs, RowOk x) (hr : RowOk r) : ∀ x ∈ wf rs r, RowOk x := fun x hx =>
  (wfG_mem hx).elim (fun e => e ▸ hr) (h x)
theorem wf_again (rs : List Row) (r : Row) : wf (wf rs r) r = wf rs r := wfG_again (by simp) rs
theorem wf_only (rs : List Row) (r : Row) : (wf rs r).filter (fun o => low o.1 == low r.1) = [r] := by
  have := wfG_same (q := fun o : Row => low o.1 != low r.1) (r := r) (by simp) rs
  simpa [wf, bne] using this
theorem wf_find (rs : List Row) (r : Row) : (wf rs r).find? (fun o => low o.1 == low r.1) = some r := find_of_filter (wf_only rs r)
theorem wf_rest (rs : List Row) (r : Row) : (wf rs r).filter (fun o => low o.1 != low r.1) = rs.filter (fun o => low o.1 != low r.1) :=
  wfG_rest (q := fun o : Row => low o.1 != low r.1) (r := r) (by simp) rs
theorem wf_swap {rs : List Row} {r r₂ : Row} (hn : low r.1 ≠ low r₂.1) (h1 : ∃ o ∈ rs, low o.1 = low r.1) (h2 : ∃ o ∈ rs, low o.1 = low r₂.1) : wf (wf rs r) r₂ = wf (wf rs r₂) r := by
  refine wfG_swap (q := fun o : Row => low o.1 != low r.1) (q₂ := fun o : Row => low o.1 != low r₂.1) ?_ ?_ (fun o => ?_) rs false false (.inr ?_) (.inr ?_)
  · simpa using fun e => hn e.symm
  · simpa using hn
  · by_cases e : low o.1 = low r.1
    · exact .inr (by simpa [e] using hn)
    · exact .inl (by simpa using e)
  · obtain ⟨o, ho, e⟩ := h1; exact ⟨o, ho, by simpa using e⟩
  · obtain ⟨o, ho, e⟩ := h2; exact ⟨o, ho, by simpa using e⟩
def upN (c : Nat) : Nat := if 97 ≤ c ∧ c ≤ 122 then c - 32 else c
theorem names_word {nm : Array UInt8} (h : nm ∈ NAMES) : lowS (asStr nm) = low nm ∧ low nm ≠ Str.ofString "none" ∧ lowS (asStr nm) = low nm :=
  names_all (p := fun nm => lowS (asStr nm) = low nm ∧ low nm ≠ Str.ofString "none" ∧ lowS (asStr nm) = low nm) (by decide +kernel) h
theorem paired_snoc {α β : Type} {F : α → β → Prop} {x : α} {y : β} (h : F x y) : ∀ {l : List α} {m : List β}, Paired F l m → Paired F (l ++ [x]) (m ++ [y])
  | _, _, .nil => .cons h .nil
  | _, _, .cons a t => .cons a (paired_snoc h t)
section
variable {prog : Program} {w : World} {A : Around} {E : Value → Shared → Prop} {s : Shared}
theorem with_field_spec {v : Value} {a₀ : Addr} {rs : List Row} {r₁ : Row} (C : Cx w s.heap) (r : Rm A 5) (hl : FL s.heap v rs) (hok : ∀ r ∈ rs, RowOk r) (hz : rs.length ≤ 1000) (hf : FieldAt s.heap a₀ r₁.1 r₁.2) (hr₁ : RowOk r₁) :
    wpAny (model prog w) A (call (.ref 109) [v, .ref a₀]) (fun v' s' => Out (FL s'.heap v' (wf rs r₁) ∧ Keeps s s')) E s := by
  rcases A with ⟨hd, dp, fr, gd, un⟩
  obtain rfl : hd = none := r.hh
  obtain ⟨l, vs, rfl, hpl, hfs⟩ := hl
  have hlen : vs.length = rs.length := hfs.length
  refine enterP (binds := [(Str.ofString "fields", .ref l), (Str.ofString "field", .ref a₀)]) C r (by k_is) (by k_is) rfl rfl (by decide) ?_
  intro L h₁ tk env henv F rA
  subst henv
  obtain ⟨p, loose, mean, mg, mb, T⟩ := C.T
  have X := C.X
  have N : News s.heap L h₁ [] := News.nil
  have hro := hr₁.nm
  try k_unmd
  k_fold
  k_steps
  rename_i tw _ D _ _ _ h₃ F₃ N₃
  refine ⟨?_⟩
  refine for_list (J := fun pre m₁ news => ∃ (b : Bool) (acc : List Row) (vals : List Value) (n : Nat), news = [(D, W.listOf vals.toArray n)] ∧ FdsAt s.heap vals acc ∧ vals.length ≤ pre.length ∧
    (∀ y, y ≠ Str.ofString "other" → m₁ y = (fun y => if y = Str.ofString "is_put" then some (Value.bool b) else if y = Str.ofString "found" then some (Value.ref D) else if y = Str.ofString "word" then some (Value.str (low r₁.1) tw) else
      List.lookup y [(Str.ofString "fields", Value.ref l), (Str.ofString "field", Value.ref a₀)].reverse) y) ∧
    acc ++ wfG (fun o => low o.1 != low r₁.1) r₁ b (rs.drop pre.length) = wf rs r₁) (items := vs) (ax := l) rA.hh rfl rfl rfl F₃ N₃ (hpl.isList) (fun Q' h => ?_) ⟨false, [], [], 0, rfl, .nil, Nat.le_refl _, fun _ _ => rfl, rfl⟩ ?_ ?_
  · k_steps
    exact h
  · intro pre v rest m₁ news₁ I io h tk' hit hJ hI F₄ N₄
    obtain ⟨b, acc, vals, n, rfl, hacc, hvl, hm, hgo⟩ := hJ
    obtain ⟨r₀, hr, a, rfl, hfa⟩ := paired_get hfs pre.length v (by rw [hit]; simp)
    have hr0 := (hok r₀ (List.mem_of_getElem? hr)).nm
    have em : (fun y => if y = Str.ofString "other" then some (Value.ref a) else m₁ y) = fun y => if y = Str.ofString "other" then some (Value.ref a) else if y = Str.ofString "is_put" then some (Value.bool b) else if y = Str.ofString "found" then some (Value.ref D) else if y = Str.ofString "word" then some (Value.str (low r₁.1) tw) else
      List.lookup y [(Str.ofString "fields", Value.ref l), (Str.ofString "field", Value.ref a₀)].reverse := by
      funext y; split
      · rfl
      · exact hm y (by assumption)
    rw [em] at F₄
    clear F₃ N₃ hm em
    have hdrop : rs.drop pre.length = r₀ :: rs.drop (pre.length + 1) := by
      obtain ⟨h1, rfl⟩ := List.getElem?_eq_some_iff.mp hr
      simp
    rw [hdrop] at hgo
    have hpz : pre.length ≤ 1000 := by rw [hit, List.length_append] at hlen; omega
    have hDI : @Ne Nat D I := fun q => hI _ (.head _) q
    rw [wfG] at hgo
    have hI' : ∀ (o : Obj), ∀ p ∈ [(D, o)], @Ne Nat p.1 I := fun o p hp => by rw [List.mem_singleton.mp hp]; exact hDI
    cases b
    · k_steps
      · have hq : (low r₀.1 != low r₁.1) = true := by assumption
        simp only [hq, if_true] at hgo
        show Out _
        refine ⟨⟨_, _, _, _, rfl, by assumption, by assumption, hI' _, false, acc ++ [r₀], vals ++ [.ref a], n + 1, by simp, paired_snoc ⟨a, rfl, hfa⟩ hacc, by simpa using hvl, fun y hy => ?_, ?_⟩⟩
        · by_cases hp : y = Str.ofString "is_put" <;> first | (simp only [if_neg hy, if_pos hp]; done) | simp only [if_neg hy, if_neg hp]
        · rw [List.length_append, List.length_singleton, List.append_assoc]; exact hgo
      · have hq : (low r₀.1 != low r₁.1) = false := by assumption
        simp only [hq, if_false, Bool.false_eq_true] at hgo
        show Out _
        refine ⟨⟨_, _, _, _, rfl, by assumption, by assumption, hI' _, true, acc ++ [r₁], vals ++ [.ref a₀], n + 1, by simp, paired_snoc ⟨a₀, rfl, hf⟩ hacc, by simpa using hvl, fun y hy => ?_, ?_⟩⟩
        · by_cases hp : y = Str.ofString "is_put" <;> first | (simp only [if_neg hy, if_pos hp]; done) | simp only [if_neg hy, if_neg hp]
        · rw [List.length_append, List.length_singleton, List.append_assoc]; exact hgo
    · k_steps
      · have hq : (low r₀.1 != low r₁.1) = true := by assumption
        simp only [hq, if_true] at hgo
        show Out _
        refine ⟨⟨_, _, _, _, rfl, by assumption, by assumption, hI' _, true, acc ++ [r₀], vals ++ [.ref a], n + 1, by simp, paired_snoc ⟨a, rfl, hfa⟩ hacc, by simpa using hvl, fun y hy => ?_, ?_⟩⟩
        · by_cases hp : y = Str.ofString "is_put" <;> first | (simp only [if_neg hy, if_pos hp]; done) | simp only [if_neg hy, if_neg hp]
        · rw [List.length_append, List.length_singleton, List.append_assoc]; exact hgo
      · have hq : (low r₀.1 != low r₁.1) = false := by assumption
        simp only [hq, if_false, if_true, Bool.false_eq_true] at hgo
        show Out _
        refine ⟨⟨_, _, _, _, rfl, by assumption, by assumption, hI' _, true, acc, vals, n, by simp, hacc, by simp; omega, fun y hy => ?_, ?_⟩⟩
        · by_cases hp : y = Str.ofString "is_put" <;> first | (simp only [if_neg hy, if_pos hp]; done) | simp only [if_neg hy, if_neg hp]
        · rw [List.length_append, List.length_singleton]; exact hgo
  · intro h' tk' m' news' F₄ N₄ hJ
    obtain ⟨b, acc, vals, n, rfl, hacc, hvl, hm, hgo⟩ := hJ
    clear F₃ N₃
    rw [← hlen.symm, List.drop_length] at hgo
    have em : m' = fun y => if y = Str.ofString "other" then m' y else if y = Str.ofString "is_put" then some (Value.bool b) else if y = Str.ofString "found" then some (Value.ref D) else if y = Str.ofString "word" then some (Value.str (low r₁.1) tw) else
      List.lookup y [(Str.ofString "fields", Value.ref l), (Str.ofString "field", Value.ref a₀)].reverse := by
      funext y; split
      · rfl
      · exact hm y (by assumption)
    generalize hm2 : (fun y => m' y) = m2 at em
    rw [em] at F₄
    clear hm em
    have hcl := hacc.length
    cases b
    · k_steps
      rename_i D₂ _ _ _ _ _ F₅ N₅
      refine ⟨⟨_, vals ++ [.ref a₀], rfl, ⟨_, (N₅ _ (.head _)).1⟩, ?_⟩, _, _, rfl, F₅.keep⟩
      · rw [← hgo, wfG, if_neg (by decide)]
        exact FdsAt.up F₅.keep (paired_snoc ⟨a₀, rfl, hf⟩ hacc)
    · k_steps
      refine ⟨⟨D, vals, rfl, ⟨n, (N₄ _ (.head _)).1⟩, ?_⟩, _, _, rfl, F₄.keep⟩
      rw [← hgo, wfG, if_pos rfl, List.append_nil]
      exact hacc.up F₄.keep
end
local macro_rules | `(tactic| walk_at "subscriptTail Name Constant ref int") => `(tactic| refine Stop.go ?_)
local macro_rules | `(tactic| walk_at "binaryOp Add ref ref") => `(tactic| refine Stop.go ?_)
local macro_rules | `(tactic| walk_at "compareOp NotEq ref ref") => `(tactic| refine Stop.go ?_)
local macro_rules | `(tactic| walk_at "compareOp Eq ref ref") => `(tactic| refine Stop.go ?_)
local macro_rules | `(tactic| walk_at "eval Name") => `(tactic| (k_here; (with_reducible show wpAny _ _ (eval _ (envOfC _ _ _ _ _)) _ _ _); k_dflt (refine' ldC ?X ?hc ?hv ?_ ?hk ?hl ?hd; (case hl => rfl); (case hk => rfl); (case hd => decide); (case X => assumption); (case hc => rfl); (case hv => rfl))))
local macro_rules | `(tactic| walk_at "call builtin:len") => `(tactic| refine Stop.go ?_)
local macro_rules | `(tactic| walk_at "call type:range") => `(tactic| refine Stop.go ?_)
local macro_rules | `(tactic| walk_at "subscriptTail Name Name ref int") => `(tactic| refine Stop.go ?_)
local macro_rules | `(tactic| walk_at "subscriptTail Name Slice ref ref") => `(tactic| refine Stop.go ?_)
local macro_rules | `(tactic| walk_at "exec Assign cons ListComp") => `(tactic| refine Stop.go ?_)
theorem Fr.upNe {h₀ h g : Heap} {L : Addr} {m : Str → Option Value} (F : Fr h₀ L h m) (hg : ∀ b o, b ≠ L → h.get? b = some o → g.get? b = some o) : Up h₀ g :=
  fun b o e => hg b o (Nat.ne_of_lt (Nat.lt_of_lt_of_le (Heap.lt_size e) F.above)) (F.keep b o e)
theorem isCell_ne {h g : Heap} {L c : Addr} {v : Option Value} (hn : @Ne Nat c L) (hg : ∀ b o, b ≠ L → h.get? b = some o → g.get? b = some o) (x : h.IsCell c v) : g.IsCell c v := by
  obtain ⟨o, e, q⟩ := x
  exact ⟨o, hg _ _ hn e, q⟩
/-- a test on indices -/
def qOf (f : Nat → Bool) (v : Value) : Bool := match v with | .int i _ => f i.toNat | _ => false
theorem arr_beq (a b : Array UInt8) : (a.toList == b.toList) = (a == b) := by
  rw [Bool.eq_iff_iff]; simp
theorem arr_bne (a b : Array UInt8) : (a.toList != b.toList) = (a != b) := by
  show (!(a.toList == b.toList)) = !(a == b)
  rw [arr_beq]
theorem spot_vals {α : Type} {q : α → Bool} {f : Nat → Bool} : ∀ (vs : List Value) (t : List α) (s : Nat), vs.length = t.length → (∀ (j : Nat) v, vs[j]? = some v → ∃ u, v = .int ((s + j : Nat) : Int) u) → (∀ j o, t[j]? = some o → f (s + j) = !q o) →
    (vs.filter (qOf f) = [] ∧ spotOf q t = t.length) ∨ (∃ u rest, vs.filter (qOf f) = .int ((s + spotOf q t : Nat) : Int) u :: rest ∧ spotOf q t < t.length)
  | [], [], _, _, _, _ => .inl ⟨rfl, rfl⟩
  | [], _ :: _, _, hl, _, _ => nomatch hl
  | _ :: _, [], _, hl, _, _ => nomatch hl
  | v :: vs, o :: t, s, hl, hv, hf => by
    obtain ⟨u, rfl⟩ := hv 0 v rfl
    have h0 := hf 0 o rfl
    have eq : qOf f (.int ((s + 0 : Nat) : Int) u) = !q o := by rw [← h0]; rfl
    rw [spotOf]
    cases e : q o
    · refine .inr ⟨u, vs.filter (qOf f), ?_, by simp⟩
      rw [List.filter_cons_of_pos (by rw [eq, e]; rfl)]
      simp
    · rw [List.filter_cons_of_neg (by rw [eq, e]; simp)]
      have := spot_vals (q := q) (f := f) vs t (s + 1) (by simpa using hl) (fun j v hj => by
        obtain ⟨u, rfl⟩ := hv (j + 1) v (by simpa using hj)
        exact ⟨u, by congr 2; omega⟩) (fun j o' hj => by
        have := hf (j + 1) o' (by simpa using hj)
        rw [← this]; congr 1; omega)
      simp only [if_true]
      rcases this with ⟨h1, h2⟩ | ⟨u', rest, h1, h2⟩
      · exact .inl ⟨h1, by rw [h2]; rfl⟩
      · refine .inr ⟨u', rest, ?_, by rw [List.length_cons]; omega⟩
        rw [h1]
        congr 3
        omega
open PySem.SeqAt in
theorem ne_lens {prog : Program} {w : World} {A : Around} {E : Value → Shared → Prop} {s : Shared} {l b : Addr} {items items2 : Array Value} {Q : Value → Shared → Prop} (hl : s.heap.IsList l items) (hb : s.heap.IsList b items2) (hsz : (items.size != items2.size) = true) (hu : A.units < cLine)
    (h : Q (.bool true) s) : wpAny (model prog w) A (compareOp .NotEq (.ref l) (.ref b)) Q E s := RcNeAt.lists_lengths hl hb hsz hu prog w E Q h
open PySem.SeqAt in
theorem ne_empty {prog : Program} {w : World} {A : Around} {E : Value → Shared → Prop} {s : Shared} {l b : Addr} {Q : Value → Shared → Prop} (hl : s.heap.IsList l #[]) (hb : s.heap.IsList b #[]) (hu : A.units < cLine)
    (h : Q (.bool false) s) : wpAny (model prog w) A (compareOp .NotEq (.ref l) (.ref b)) Q E s := RcNeAt.lists (e := fun _ => true) hl hb rfl hu (fun j h1 => nomatch h1) prog w E Q h
theorem Cl_keepsBut {L : Addr} {ns : List (Str × NameKind)} {h h' : Heap} {cm : Str → Option Value} (X : Cl L (cellsFrom (L + 1) ns []) h cm) (hk : ∀ b o, b ≠ L → h.get? b = some o → h'.get? b = some o) : Cl L (cellsFrom (L + 1) ns []) h' cm :=
  ⟨fun n c e => by
    obtain ⟨o, e1, e2⟩ := X.cell n c e
    exact ⟨o, hk _ _ (Nat.ne_of_gt (X.above n c (mem_of_lookup e))) e1, e2⟩, X.apart, X.above⟩
theorem isL_of_news {h₀ h : Heap} {L : Addr} {news : List (Addr × Obj)} {a : Addr} {items : Array Value} {n : Nat} {o : Obj} (N : News h₀ L h news) (hm : (a, o) ∈ news) (ho : o = { cls := .type "list", data := .seq items n }) : h.IsList a items :=
  ⟨o, (N _ hm).1, by rw [ho], n, by rw [ho]⟩
theorem paired_drop {α β : Type} {F : α → β → Prop} : ∀ {l : List α} {m : List β}, Paired F l m → ∀ k, Paired F (l.drop k) (m.drop k)
  | _, _, h, 0 => h
  | _, _, .nil, k + 1 => .nil
  | _, _, .cons _ t, k + 1 => paired_drop t k
theorem paired_take {α β : Type} {F : α → β → Prop} : ∀ {l : List α} {m : List β}, Paired F l m → ∀ k, Paired F (l.take k) (m.take k)
  | _, _, _, 0 => .nil
  | _, _, .nil, k + 1 => .nil
  | _, _, .cons x t, k + 1 => .cons x (paired_take t k)
theorem paired_append {α β : Type} {F : α → β → Prop} {l' : List α} {m' : List β} : ∀ {l : List α} {m : List β}, Paired F l m → Paired F l' m' → Paired F (l ++ l') (m ++ m')
  | _, _, .nil, h => h
  | _, _, .cons x t, h => .cons x (paired_append t h)
theorem RowAt.unique {h : Heap} {v : Value} {r r' : Row} (x : RowAt h v r) (y : RowAt h v r') : r = r' := by
  obtain ⟨D, t1, t2, rfl, e⟩ := x
  obtain ⟨D', u1, u2, q, e'⟩ := y
  cases q
  rw [e] at e'
  injection e' with e'
  injection e' with _ _ e'
  injection e' with e'
  injection e' with e'
  injection e' with a b
  injection b with b _
  injection a with a _
  injection b with b _
  exact Prod.ext a b
noncomputable def pRow (h : Heap) (q : Row → Bool) (v : Value) : Bool := @decide (∃ r, RowAt h v r ∧ q r = true) (Classical.propDecidable _)
theorem pRow_is {h : Heap} {q : Row → Bool} {v : Value} {r : Row} (x : RowAt h v r) : pRow h q v = q r := by
  unfold pRow
  cases hq : q r with
  | true => exact @decide_eq_true _ (Classical.propDecidable _) ⟨r, x, hq⟩
  | false => exact @decide_eq_false _ (Classical.propDecidable _) fun ⟨r', x', hr⟩ => by rw [x'.unique x, hq] at hr; cases hr
theorem slice_up {prog : Program} {w : World} {A : Around} {E : Value → Shared → Prop} {s : Shared} {value slice : Expr} {l : Addr} {items : Array Value} {vl vu : Value} {lo hi : Option Int} {Q : Value → Shared → Prop}
    (hl : s.heap.IsList l items) (pl : IsPart vl lo) (pu : IsPart vu hi)
    (h : Q (.ref (s.heap.push { cls := .type "slice", data := .fields #[vl, vu, .none] }).objs.size) { s with heap := (s.heap.push { cls := .type "slice", data := .fields #[vl, vu, .none] }).push { cls := .type "list", data := .seq (slicePick items lo hi none) } })
    (hs : subscripted slice false (.ref l) (.ref s.heap.objs.size) = operate [.ref s.heap.objs.size, .ref l] (getItem (.ref l) (.ref s.heap.objs.size)))
    (ht : ∀ r, letTemporaryGo value (.ref l) r = pure ()) (hsz : items.size ≤ sizeLine) :
    wpAny (model prog w) A (subscriptTail value slice (.ref l) (.ref s.heap.objs.size)) Q E { s with heap := s.heap.push { cls := .type "slice", data := .fields #[vl, vu, .none] } } :=
  subscriptTail_ops (Heap.IsList.typeIs (s := { s with heap := s.heap.push { cls := .type "slice", data := .fields #[vl, vu, .none] } }) (hl.push _)) list_getitem_lookup
    (wpAny_getItem_list_slice (hl.push _) (Heap.IsSliceOf.new ..) pl pu .none (by simp) h hsz) hs ht
theorem row_key0 {prog : Program} {w : World} {A : Around} {E : Value → Shared → Prop} {s : Shared} {g : Heap} {L : Addr} {m : Str → Option Value} {D : Addr} {r : Row} {value slice : Expr} {u : Tok} {Q : Value → Shared → Prop} (F : Fr g L s.heap m) (x : RowAt g (.ref D) r) (h : ∀ t, Q (.bytes r.1 t) s)
    (hs : subscripted slice false (.ref D) (.int 0 u) = operate [.ref D, .int 0 u] (getItem (.ref D) (.int 0 u))) (hg : ∀ r, letTemporaryGo value (.ref D) r = pure ()) :
    wpAny (model prog w) A (subscriptTail value slice (.ref D) (.int 0 u)) Q E s := by
  obtain ⟨D', t1, t2, e, hD⟩ := x
  cases e
  exact item_tupleL (l := [.bytes r.1 t1, .bytes r.2 t2]) (j := 0) ⟨_, F.keep _ _ hD, rfl, _, rfl⟩ (by decide) (by decide) rfl rfl (h t1) hs hg
local macro_rules | `(tactic| walk_at "subscriptTail Name Constant ref int") => `(tactic| (k_here; k_dflt (refine' row_key0 ?F ?x ?_ ?hs ?hg; (case F => k_asm); (case x => assumption); (case hs => with_unfolding_all rfl); (case hg => intro _; with_unfolding_all rfl); k_whole); intro t9))
local macro_rules | `(tactic| walk_at "subscriptTail Subscript Name Name Constant ref int") => `(tactic| (k_here; k_dflt (refine' row_key0 ?F ?x ?_ ?hs ?hg; (case F => k_asm); (case x => assumption); (case hs => with_unfolding_all rfl); (case hg => intro _; with_unfolding_all rfl); k_whole); intro t9))
local macro_rules | `(tactic| walk_at "call ref") => `(tactic| ((with_reducible show wpAny _ _ (call (Value.ref 128) [Value.bytes _ _]) _ _ _); refine' use_pure ?F ?N (law_low_spec (Cx.up ?C ?k) ?r _ (names_128 ?h) (names_size ?h2)) ?_; (case F => k_asm); (case N => k_asm); (case k => exact Fr.keep (by k_asm)); (case C => assumption); (case h => assumption); (case h2 => assumption); (case r => exact Rm.less (by assumption) (by decide)); intro v9 h9 tk9 hv9 hu9 F9 N9; (refine Exists.elim hv9 ?_; clear hv9; intro t9 e9; subst e9)))
theorem srcMono {prog : Program} {w : World} {A : Around} {s : Shared} {xv : Value} {n : Nat} {P P' : Nat → Value → Prop} (S : Src prog w A s xv n P) (hP : ∀ i v, P i v → P' i v) : Src prog w A s xv n P' := fun Q E h => S Q E fun o fp St W a b c d e =>
  h o fp St { W with item := fun i s Q E hi hst k => W.item i s Q E hi hst fun v h' tk hp => k v h' tk (hP i v hp) } a b c d e
theorem src_lt {prog : Program} {w : World} {A : Around} {s : Shared} {xv : Value} {n : Nat} {P : Nat → Value → Prop} (S : Src prog w A s xv n P) : Src prog w A s xv n (fun i v => i < n ∧ P i v) := fun Q E h => S Q E fun o fp St W a b c d e =>
  h o fp St { W with item := fun i s Q E hi hst k => W.item i s Q E hi hst fun v h' tk hP => k v h' tk ⟨hi, hP⟩ } a b c d e
section
variable {prog : Program} {w : World} {A : Around} {E : Value → Shared → Prop} {s : Shared}
theorem law_due_spec {v vr : Value} {rs : List Row} {r₁ : Row} (C : Cx w s.heap) (r : Rm A 5) (hl : RL s.heap v rs) (hok : ∀ r ∈ rs, RowOk r) (hz : rs.length ≤ 1000) (hf : RowAt s.heap vr r₁) (hr₁ : RowOk r₁) :
    wpAny (model prog w) A (call (.ref 133) [v, vr]) (fun v' s' => Out (RL s'.heap v' (due rs r₁) ∧ Keeps s s')) E s := by
  rcases A with ⟨hd, dp, fr, gd, un⟩
  obtain rfl : hd = none := r.hh
  obtain ⟨l, vs, rfl, hpl, hfs⟩ := hl
  obtain ⟨D₀, u1, u2, rfl, hD₀⟩ := hf
  have hlen : vs.length = rs.length := hfs.length
  refine enterC (binds := [(Str.ofString "rows", .ref l), (Str.ofString "row", .ref D₀)]) C r (by k_is) (by k_is) rfl rfl ?_
  intro L h₁ tk env henv F Xc rA
  subst henv
  obtain ⟨p, loose, mean, mg, mb, T⟩ := C.T
  have X := C.X
  have N : News s.heap L h₁ [] := News.nil
  have hro := hr₁.nm
  try k_unmd
  k_fold
  k_steps
  have hcR : h₁.IsCell (L + 1) (some (.ref l)) := Xc.cell (Str.ofString "rows") (L + 1) rfl
  have hcW : h₁.IsCell (L + 2) (some (.ref D₀)) := Xc.cell (Str.ofString "row") (L + 2) rfl
  refine ⟨?_⟩
  refine comp_asg (cl := [(Str.ofString "rows", L + 1), (Str.ofString "row", L + 2)]) (nn := rs.length) (P := fun i v => i < rs.length ∧ ∃ t, v = .int (i : Int) t) (qOf fun i => match rs[i]? with | some r => lowB r.1 == lowB r₁.1 | none => false) (fun _ v y => y = v) F rfl rfl rfl (by decide) rfl (by decide) rfl rfl rfl ?_ (by rw [sizeLine_eq]; omega) ?_ ?_ ?_
  · k_steps
    refine ⟨call_len_list (hpl.isList.at fun o e => F.keep _ o e) (by rw [List.size_toArray]; omega) ?_⟩
    k_steps
    refine ⟨call_range_1 ?_⟩
    k_steps
    have hsz : (vs.toArray.size : Int) = (rs.length : Int) := by rw [List.size_toArray, hlen]
    refine ⟨⟨_, _, rfl, fun b o e => Heap.get?_push_of_some _ e⟩, ?_, ?_⟩
    · have S := src_range (prog := prog) (w := w) (s := { s with heap := h₁.push { cls := .type "range", data := .fields #[.int 0 (tk + 1 + 1), .int (vs.toArray.size : Int) (tk + 1), .int 1 (tk + 1 + 1 + 1)] }, toks := tk + 1 + 1 + 1 + 1 }) (n := rs.length) rA.hh (IsRange.new h₁ 0 (vs.toArray.size : Int) 1 _ _ _) (small_one (a := 0) (b := (vs.toArray.size : Int)) (by omega) (by omega) (by omega) (by omega)) (by rw [rangeSize_one, hsz]; split <;> omega)
      refine src_lt (srcMono S fun i v ⟨t, e⟩ => ⟨t, by rw [e]; congr 1; omega⟩)
    · intro q
      injection q with q
      exact absurd q (Nat.ne_of_gt F.ns.lt)
  · intro g C' i v s₃ m₃ E' hg hgL F' hm hP
    obtain ⟨hilt, ti, rfl⟩ := hP
    have hgu : Up s.heap g := Fr.upNe F hg
    have hlg := hpl.at fun o e => hgu _ o e
    have hcRg : g.IsCell (L + 1) (some (.ref l)) := isCell_ne (by omega) hg hcR
    have hcWg : g.IsCell (L + 2) (some (.ref D₀)) := isCell_ne (by omega) hg hcW
    have Cg : Cx w g := C.up hgu
    clear F X T Xc N
    obtain ⟨p, loose, mean, mg, mb, T⟩ := Cg.T
    have X := Cg.X
    have N : News g C' s₃.heap [] := News.nil
    refine wpAny_tests_one ?_
    obtain ⟨x, D, hx, rfl, hrD, hxr, hrx⟩ : ∃ x D, vs[i]? = some (.ref D) ∧ x = Value.ref D ∧ RowAt g (.ref D) rs[i] ∧ rs[i].1 ∈ NAMES ∧ rs[i]? = some rs[i] := by
      have hv : vs[i]? = some (vs[i]'(by omega)) := List.getElem?_eq_getElem _
      obtain ⟨r₀, hr, hx⟩ := paired_get hfs i _ hv
      have e : r₀ = rs[i] := by rw [List.getElem?_eq_getElem hilt] at hr; exact (Option.some.inj hr).symm
      subst e
      obtain ⟨D, t1, t2, e, hD⟩ := hx
      exact ⟨_, D, by rw [hv, e], rfl, RowAt.up hgu ⟨D, t1, t2, rfl, hD⟩, (hok _ (List.getElem_mem hilt)).nm, List.getElem?_eq_getElem hilt⟩
    have hrW : RowAt g (.ref D₀) r₁ := RowAt.up hgu ⟨D₀, u1, u2, rfl, hD₀⟩
    k_steps
    refine ⟨item_listL (hlg.isList.at fun o e => F'.keep _ o e) (by omega) (by omega) (by simpa using hx) ?_⟩
    k_steps
    refine ⟨⟨?_, _, _, rfl, Up.trans (by assumption) (by assumption)⟩⟩
    rw [arr_beq]
    show _ = (match rs[i]? with | some r => lowB r.1 == lowB r₁.1 | none => false)
    rw [hrx]
  · intro g C' i v s₃ m₃ E' hg _ F' hm hP _
    clear F N Xc
    k_steps
    exact ⟨⟨fun _ _ _ => rfl, Keeps.rfl'⟩⟩
  intro S h₂ tk₂ ys vs₂ hS hplS hlenS hPS hFS hupS F₂ hSL
  have eS := paired_eq hFS
  have hSg : s.heap.get? S = none := by
    cases q : s.heap.get? S with
    | none => rfl
    | some o => rw [F.keep _ _ q] at hS; cases hS
  obtain ⟨nS, hplS'⟩ := id hplS
  obtain ⟨o1, hc1, hd1⟩ := isCell_ne (Nat.succ_ne_self L) hupS hcR
  obtain ⟨o2, hc2, hd2⟩ := isCell_ne (Nat.ne_of_gt (Nat.lt_succ_of_lt (Nat.lt_succ_self L))) hupS hcW
  have hnone : ∀ c, L < c → s.heap.get? c = none := fun c hc => by
    cases q : s.heap.get? c with
    | none => rfl
    | some o => exact absurd (Heap.lt_size q) (Nat.not_lt.mpr (Nat.le_trans F₂.above (Nat.le_of_lt hc)))
  have N₂ : News s.heap L h₂ [(S, { cls := .type "list", data := .seq ys nS }), (L + 1, o1), (L + 2, o2)] := fun p hp => by
    rcases List.mem_cons.mp hp with rfl | hp
    · exact ⟨hplS', hSL, hSg⟩
    rcases List.mem_cons.mp hp with rfl | hp
    · exact ⟨hc1, Nat.ne_of_gt (Nat.lt_succ_self L), hnone _ (Nat.lt_succ_self L)⟩
    · obtain rfl := List.mem_singleton.mp hp
      exact ⟨hc2, Nat.ne_of_gt (Nat.lt_succ_of_lt (Nat.lt_succ_self L)), hnone _ (Nat.lt_succ_of_lt (Nat.lt_succ_self L))⟩
  clear F N Xc hcR hcW
  have hsp := spot_vals (q := fun (o : Row) => lowB o.1 != lowB r₁.1) (f := fun i => match rs[i]? with | some r => lowB r.1 == lowB r₁.1 | none => false) vs₂ rs 0 hlenS (fun j v hj => by
    obtain ⟨_, u, e⟩ := hPS j v hj
    exact ⟨u, by rw [e, Nat.zero_add]⟩) (fun j o hj => by
    rw [Nat.zero_add]
    simp only [hj]
    show _ = !(!_)
    rw [Bool.not_not])
  rw [← eS, Nat.zero_add] at hsp
  have hk := spotOf_le (fun (o : Row) => lowB o.1 != lowB r₁.1) rs
  obtain ⟨K, hK⟩ : ∃ K, spotOf (fun (o : Row) => lowB o.1 != lowB r₁.1) rs = K := ⟨_, rfl⟩
  have hdue : due rs r₁ = rs.take K ++ [r₁] ++ (rs.drop K).filter (fun (o : Row) => lowB o.1 != lowB r₁.1) := by rw [← hK]; rfl
  rw [hK] at hsp hk
  rcases hsp with ⟨e1, e2⟩ | ⟨u, rest, e1, e2⟩
  focus
    have hy : ys = #[] := by apply Array.ext'; simpa using e1
    subst hy
    have hvs : vs.toArray.size = K := by rw [List.size_toArray]; omega
    k_steps
    refine ⟨ne_empty (isL_of_news (by assumption) (.tail _ (.head _)) rfl) (isL_of_news (by assumption) (.head _) rfl) rA.units ?_⟩
    k_steps
    refine ⟨call_len_list (hpl.isList.at fun o e => Fr.keep (by assumption) _ o e) (by rw [hvs]; omega) ?_⟩
    rw [hvs]
    k_steps
  rotate_left
  focus
    k_steps
    refine ⟨ne_lens (isL_of_news (by assumption) (.tail _ (.head _)) rfl) (isL_of_news (by assumption) (.head _) rfl) (by rw [← Array.length_toList, e1]; rfl) rA.units ?_⟩
    k_steps
    refine ⟨item_listL (l := ys.toList) (isL_of_news (by assumption) (.tail _ (.head _)) (by rw [Array.toArray_toList])) (by decide) (by decide) (by rw [e1]; rfl) ?_⟩
    k_steps
  all_goals
    refine ⟨slice_list (hi := some (K : Int)) (by assumption) (by assumption) (hpl.isList.at fun o e => Fr.keep (by assumption) _ o e) .none (.int _ _) ?_ (by with_unfolding_all rfl) (by intro _; with_unfolding_all rfl) (by rw [sizeLine_eq, List.size_toArray]; omega)⟩
    intro h₅ F₅ N₅
    rw [slicePick_upto'] at N₅
    k_steps
    refine ⟨add_lists (vs := vs.take K) (ws := [.ref D₀]) (by assumption) (by assumption) (isL_of_news (by assumption) (.tail _ (.head _)) rfl) (isL_of_news (by assumption) (.head _) rfl) ?_ (by rw [sizeLine_eq, List.length_take]; simp only [List.length_cons, List.length_nil]; omega)⟩
    intro h₆ F₆ N₆
    k_steps
    refine ⟨?_⟩
    have hcW₆ : h₆.IsCell (L + 2) (some (.ref D₀)) := ⟨o2, (N₆ (L + 2, o2) (by repeat (first | exact .head _ | apply List.Mem.tail))).1, hd2⟩
    have hdl : (vs.drop K).length = rs.length - K := by rw [List.length_drop, hlen]
    refine comp_ev (cl := [(Str.ofString "row", L + 2)]) (nn := (vs.drop K).toArray.size) (P := fun i v => (vs.drop K).toArray[i]? = some v) (pRow s.heap fun o => lowB o.1 != lowB r₁.1) (fun _ v y => y = v) rfl (by decide) rfl (by decide) rfl ?_ (by rw [sizeLine_eq, List.size_toArray]; omega) ?_ ?_ ?_
    · k_steps
      refine ⟨slice_up (lo := some (K : Int)) (hpl.isList.at fun o e => Fr.keep (by assumption) _ o e) (.int _ _) .none ?_ (by with_unfolding_all rfl) (by intro _; with_unfolding_all rfl) (by rw [sizeLine_eq, List.size_toArray]; omega)⟩
      rw [slicePick_from']
      k_steps
      refine ⟨⟨_, _, rfl, fun b o e => Heap.get?_push_of_some _ (Heap.get?_push_of_some _ e)⟩, src_list rA.hh (items := (vs.drop K).toArray) ⟨_, Heap.get?_push_size _ rfl, rfl, _, rfl⟩⟩
    · intro g C' i v s₃ m₃ E' hg F' hm hP
      obtain ⟨r₀, hr, hrv⟩ := paired_get (paired_drop hfs K) i v (by simpa using hP)
      obtain ⟨D, t1, t2, rfl, hD⟩ := id hrv
      rw [pRow_is (r := r₀) hrv]
      have hr0 := (hok r₀ (List.mem_of_mem_drop (List.mem_of_getElem? hr))).nm
      have hgu : Up s.heap g := Up.trans F₆.keep hg
      have hrg : RowAt g (.ref D) r₀ := RowAt.up hgu hrv
      have hrW : RowAt g (.ref D₀) r₁ := RowAt.up hgu ⟨D₀, u1, u2, rfl, hD₀⟩
      have Cg : Cx w g := C.up hgu
      have hcg : g.IsCell (L + 2) (some (.ref D₀)) := hcW₆.keeps hg
      clear F₆ X T N₆
      obtain ⟨p, loose, mean, mg, mb, T⟩ := Cg.T
      have X := Cg.X
      have N : News g C' s₃.heap [] := News.nil
      refine wpAny_tests_one ?_
      k_steps
      exact ⟨⟨arr_bne _ _, _, _, rfl, Up.trans (by assumption) (by assumption)⟩⟩
    · intro g C' i v s₃ m₃ E' hg F' hm hP _
      clear F₆ N₆
      k_steps
      exact ⟨⟨fun _ _ _ => rfl, Keeps.rfl'⟩⟩
    intro D₂ h₇ tk₇ ys₂ vs₇ hD₂ hpl₂ hlen₂ hP₂ hF₂ hup₂
    have e : vs₇ = vs.drop K := by simpa using list_of_places hlen₂ hP₂
    subst e
    have e2 := paired_eq hF₂
    have F₇ := F₆.keeps hup₂
    have N₇ := N₆.grown hup₂
    clear F₆ N₆
    have hyl : ys₂.toList.length ≤ rs.length - K := by rw [e2, ← hdl]; exact List.length_filter_le _ _
    k_steps
    refine ⟨add_lists (vs := vs.take K ++ [.ref D₀]) (ws := ys₂.toList) (by assumption) (by assumption) (isL_of_news (by assumption) (.head _) rfl) (by rw [Array.toArray_toList]; exact hpl₂.isList) ?_ (by rw [sizeLine_eq, List.length_append, List.length_take]; simp only [List.length_cons, List.length_nil]; omega)⟩
    intro h₈ F₈ N₈
    k_steps
    refine ⟨⟨_, _, rfl, ⟨_, (N₈ _ (.head _)).1⟩, ?_⟩, _, _, rfl, F₈.keep⟩
    rw [hdue, e2]
    exact RowsAt.up F₈.keep (paired_append (paired_snoc ⟨D₀, u1, u2, rfl, hD₀⟩ (paired_take hfs K)) (paired_filter (fun v r x => pRow_is x) (paired_drop hfs K)))
end
local macro_rules | `(tactic| walk_at "setItem ref int") => `(tactic| refine Stop.go ?_)
local macro_rules | `(tactic| walk_at "call builtin:list.pop") => `(tactic| refine Stop.go ?_)
/-- the pool: a list object of ints that are not too large -/
def PoolAt (pa : Addr) (h : Heap) : Prop := ∃ (vs : List Value) (ns : List Int) (n : Nat), h.get? pa = some (W.listOf vs.toArray n) ∧ IntsAre vs ns ∧ ns.length ≤ 24 ∧ ∀ x ∈ ns, 0 ≤ x ∧ x < 10 ^ 80
def takeV (ns : List Int) (m : Int) : Int := match ns with | [] => 0 | x :: _ => x.fmod m
theorem Cx.hide {w : World} {g₀ h : Heap} {pa : Addr} (C : Cx w g₀) (k : Up g₀ h) (hn : g₀.get? pa = none) : Cx w (hideAll h [pa]) :=
  C.up fun b o e => hideAll_get _ (k b o e) fun q => by rw [List.mem_singleton.mp q, hn] at e; cases e
theorem set0 {prog : Program} {w : World} {A : Around} {E : Value → Shared → Prop} {s : Shared} {g : Heap} {L pa : Addr} {m : Str → Option Value} {v v' : Value} {vs : List Value} {n : Nat} {u : Tok} {Q : Unit → Shared → Prop} (F : Fr g L s.heap m) (N : News g L s.heap [(pa, W.listOf (v :: vs).toArray n)])
    (h : ∀ h', Fr g L h' m → News g L h' [(pa, W.listOf (v' :: vs).toArray n)] → Heap.SameBut pa s.heap h' → Q () { s with heap := h' }) : wpAny (model prog w) A (setItem (.ref pa) (.int 0 u) v') Q E s := by
  have z := N _ (.head _)
  refine W.ki_setAt z.1 (by decide) (by decide) (by simp) (h _ (F.change (Heap.SameBut.update ..) z.2.1 z.2.2) (W.ki_turn (pre := []) (post := []) _ N (by simp) (by simp) ?_ ?_) (Heap.SameBut.update ..))
  · simp
  · simp
section
variable {prog : Program} {w : World} {A : Around} {E : Value → Shared → Prop} {s : Shared}
theorem law_take_val {g₀ : Heap} {pa : Addr} {m : Int} {tm : Tok} {vs : List Value} {ns : List Int} {n : Nat} (C : Cx w g₀) (k₀ : Up g₀ s.heap) (hn : g₀.get? pa = none) (r : Rm A 1) (hpa : s.heap.get? pa = some (W.listOf vs.toArray n)) (hi : IntsAre vs ns) (hl : ns.length ≤ 24) (hb : ∀ x ∈ ns, 0 ≤ x ∧ x < 10 ^ 80) (hm : 0 < m) (_hm2 : m ≤ 100) :
    wpAny (model prog w) A (call (.ref 116) [.ref pa, .int m tm]) (fun v s' => Out ((∃ t, v = .int (takeV ns m) t) ∧ PoolAt pa s'.heap ∧ KeepsBut [pa] s s')) E s := by
  rcases A with ⟨hd, dp, fr, gd, un⟩
  obtain rfl : hd = none := r.hh
  have hlen : vs.length = ns.length := hi.length
  have C₁ := C.hide k₀ hn
  refine enterP (binds := [(Str.ofString "pool", .ref pa), (Str.ofString "many", .int m tm)]) (C.up k₀) r (by k_is) (by k_is) rfl rfl (by decide) ?_
  intro L h₁ tk env henv F₀ rA
  subst henv
  have hpL : @Ne Nat pa L := Nat.ne_of_lt (Nat.lt_of_lt_of_le (Heap.lt_size hpa) F₀.above)
  have F : Fr (hideAll s.heap [pa]) L h₁ _ := ⟨F₀.ns, fun b o e => F₀.keep _ _ (of_hideAll _ e), by rw [hideAll_size]; exact F₀.above⟩
  have N : News (hideAll s.heap [pa]) L h₁ [(pa, W.listOf vs.toArray n)] := fun p hp => by
    obtain rfl := List.mem_singleton.mp hp
    exact ⟨F₀.keep _ _ hpa, hpL, hideAll_none _ (.head _)⟩
  clear F₀
  obtain ⟨p, loose, mean, mg, mb, T⟩ := C₁.T
  have X := C₁.X
  try k_unmd
  k_fold
  cases hi with
  | nil =>
    k_steps
    refine ⟨call_len_list (isL_of_news N (.head _) rfl) (by decide) ?_⟩
    k_steps
    exact ⟨⟨⟨_, rfl⟩, ⟨[], [], n, (N _ (.head _)).1, .nil, by simp, hb⟩, _, _, rfl, fun b o nb e => F.keep b o (hideAll_get _ e nb)⟩⟩
  | @cons x t vs ns rst =>
    have hx := hb x (.head _)
    have hz : (List.toArray (Value.int x t :: vs)).size = vs.length + 1 := by simp
    have hvl : vs.length ≤ 23 := by simp only [List.length_cons] at hl hlen; omega
    k_steps
    refine ⟨call_len_list (isL_of_news N (.head _) rfl) (by rw [hz]; omega) ?_⟩
    rw [hz]
    k_steps
    · rename_i q _
      exfalso; omega
    refine ⟨item_listL (l := .int x t :: vs) (isL_of_news N (.head _) rfl) (by decide) (by decide) rfl ?_⟩
    k_steps
    refine ⟨item_listL (l := .int x t :: vs) (isL_of_news (by assumption) (.head _) rfl) (by decide) (by decide) rfl ?_⟩
    k_steps
    refine ⟨set0 (by assumption) (by assumption) ?_⟩
    intro h₂ F₂ N₂ sb₂
    k_steps
    refine ⟨item_listL (l := .int (x.fdiv m) _ :: vs) (isL_of_news N₂ (.head _) rfl) (by decide) (by decide) rfl ?_⟩
    have hd : x.fdiv m = x / m := Int.fdiv_eq_ediv_of_nonneg _ (by omega)
    have hdv : 0 ≤ x.fdiv m ∧ x.fdiv m < 10 ^ 80 := by rw [hd]; exact ⟨Int.ediv_nonneg hx.1 (by omega), Int.lt_of_le_of_lt (Int.ediv_le_self _ hx.1) hx.2⟩
    have hkeep : ∀ b o, b ∉ [pa] → s.heap.get? b = some o → h₂.get? b = some o := fun b o nb e => F₂.keep b o (hideAll_get _ e nb)
    have hb' : ∀ y ∈ ns, 0 ≤ y ∧ y < 10 ^ 80 := fun y hy => hb y (.tail _ hy)
    have hl' : ns.length ≤ 23 := by simp only [List.length_cons] at hl; omega
    k_steps
    · refine ⟨W.kl_popAt (k := 0) (p := []) (q := vs) F₂ N₂ (by decide) (by unfold seqIndex?; rw [if_pos (by simp)]; rfl) rfl (.head (by simp)) (by rw [sizeLine_eq]; simp; omega) ?_⟩
      intro h₃ F₃ N₃
      k_steps
      exact ⟨⟨⟨_, rfl⟩, ⟨vs, ns, _, (N₃ _ (.head _)).1, rst, by omega, hb'⟩, _, _, rfl, fun b o nb e => F₃.keep b o (hideAll_get _ e nb)⟩⟩
    · exact ⟨⟨⟨_, rfl⟩, ⟨_ :: vs, x.fdiv m :: ns, n, (N₂ _ (.head _)).1, .cons _ _ rst, by simp only [List.length_cons]; omega, fun y hy => (List.mem_cons.mp hy).elim (fun e => e ▸ hdv) (hb' y)⟩, _, _, rfl, hkeep⟩⟩
theorem takeV_in {ns : List Int} {m : Int} (hm : 0 < m) : 0 ≤ takeV ns m ∧ takeV ns m < m := by
  cases ns with
  | nil => exact ⟨Int.le_refl _, hm⟩
  | cons x _ =>
    show 0 ≤ x.fmod m ∧ x.fmod m < m
    rw [Int.fmod_eq_emod_of_nonneg _ (by omega)]
    exact ⟨Int.emod_nonneg _ (by omega), Int.emod_lt_of_pos _ hm⟩
theorem law_take_spec {g₀ : Heap} {pa : Addr} {m : Int} {tm : Tok} (C : Cx w g₀) (k₀ : Up g₀ s.heap) (hn : g₀.get? pa = none) (r : Rm A 1) (hp : PoolAt pa s.heap) (hm : 0 < m) (hm2 : m ≤ 100) :
    wpAny (model prog w) A (call (.ref 116) [.ref pa, .int m tm]) (fun v s' => Out ((∃ d t, v = .int d t ∧ 0 ≤ d ∧ d < m) ∧ PoolAt pa s'.heap ∧ KeepsBut [pa] s s')) E s := by
  obtain ⟨vs, ns, n, hpa, hi, hl, hb⟩ := hp
  refine wpAny_mono (law_take_val C k₀ hn r hpa hi hl hb hm hm2) (fun v s' x => ?_) fun _ _ e => e
  obtain ⟨⟨⟨t, e⟩, y⟩⟩ := x
  exact ⟨⟨_, t, e, takeV_in hm⟩, y⟩
end
local macro_rules | `(tactic| walk_at "subscriptTail Tuple") => `(tactic| refine Stop.go ?_)
local macro_rules | `(tactic| walk_at "call ref") => `(tactic| ((with_reducible show wpAny _ _ (call (Value.ref 116) _) _ _ _); refine Stop.go ?_))
def PoolO (o : Obj) : Prop := ∃ (vs : List Value) (ns : List Int) (n : Nat), o = W.listOf vs.toArray n ∧ IntsAre vs ns ∧ ns.length ≤ 24 ∧ ∀ x ∈ ns, 0 ≤ x ∧ x < 10 ^ 80
theorem PoolAt.obj {pa : Addr} {h : Heap} (x : PoolAt pa h) : ∃ o, h.get? pa = some o ∧ PoolO o := by
  obtain ⟨vs, ns, n, e, r⟩ := x
  exact ⟨_, e, vs, ns, n, rfl, r⟩
theorem PoolO.at {pa : Addr} {h : Heap} {o : Obj} (x : PoolO o) (e : h.get? pa = some o) : PoolAt pa h := by
  obtain ⟨vs, ns, n, rfl, r⟩ := x
  exact ⟨vs, ns, n, e, r⟩
theorem use_mu {M : Model} {A : Around} {E : Value → Shared → Prop} {s : Shared} {P : Value → Heap → Prop} {g : Heap} {L pa : Addr} {m : Str → Option Value} {f : Value} {vs : List Value} {Q : Value → Shared → Prop} (pre : List (Addr × Obj))
    (F : Fr g L s.heap m) (N : News g L s.heap pre) (hpre : ∀ p ∈ pre, @Ne Nat p.1 pa) (hg : g.get? pa = none) (hL : @Ne Nat pa L) (hc : wpAny M A (call f vs) (fun v s' => Out (P v s'.heap ∧ PoolAt pa s'.heap ∧ KeepsBut [pa] s s')) E s)
    (h : ∀ v h' tk' o', P v h' → Fr g L h' m → News g L h' ((pa, o') :: pre) → PoolO o' → (∀ b o, b ∉ [pa] → s.heap.get? b = some o → h'.get? b = some o) → Q v { s with heap := h', toks := tk' }) : wpAny M A (call f vs) Q E s := by
  refine wpAny_mono hc (fun v s' x => ?_) fun _ _ e => e
  obtain ⟨hp, hpool, h', tk', rfl, k⟩ := x.out
  obtain ⟨o', e, ho⟩ := hpool.obj
  refine h v h' tk' o' hp ⟨F.ns.at' fun o e => k _ o (fun q => hL (List.mem_singleton.mp q).symm) e, fun b o e => k b o (fun q => by rw [List.mem_singleton.mp q, hg] at e; cases e) (F.keep b o e), F.above⟩ (fun p hp => ?_) ho k
  rcases List.mem_cons.mp hp with rfl | hp
  · exact ⟨e, hL, hg⟩
  · exact ⟨k _ _ (fun q => hpre p hp (List.mem_singleton.mp q)) (N p hp).1, (N p hp).2⟩
theorem item_tup_any {prog : Program} {w : World} {A : Around} {E : Value → Shared → Prop} {s : Shared} {value slice : Expr} {t : Addr} {l : List Value} {k : Int} {u : Tok} {j : Nat} {x : Value} {Q : Value → Shared → Prop} (ht : IsTup s.heap t l.toArray)
    (hlo : -(2 ^ 63) ≤ k) (hhi : k < 2 ^ 63) (hj : seqIndex? k l.length = some j) (hx : l[j]? = some x) (h : Q x s)
    (hs : subscripted slice false (.ref t) (.int k u) = operate [.ref t, .int k u] (getItem (.ref t) (.int k u)) := by with_unfolding_all rfl) :
    wpAny (model prog w) A (subscriptTail value slice (.ref t) (.int k u)) Q E s :=
  tail_any ht.typeIs slot_tuple_getitem.lookup (PyProof.Rows.getItem_tuple ht hlo hhi (by simpa using hj) (by simpa using hx) h) hs
theorem seqIndex_nn {k : Int} {n : Nat} (h0 : 0 ≤ k) (h1 : k < n) : seqIndex? k n = some k.toNat := by
  unfold seqIndex?
  dsimp only
  rw [if_neg (show ¬ k < 0 by omega), if_pos (by simp; omega)]
theorem News.one {g h : Heap} {L : Addr} {x : Addr × Obj} {r : List (Addr × Obj)} (N : News g L h (x :: r)) : News g L h [x] := fun p hp => by
  rw [List.mem_singleton.mp hp]; exact N x (.head _)
theorem pick5 {d : Int} (h0 : 0 ≤ d) (h1 : d < 5) (t1 t2 t3 t4 t5 : Tok) : ∃ nm t, [Value.bytes #[84, 111] t1, .bytes #[116, 79] t2, .bytes #[67, 99] t3, .bytes #[67, 67] t4, .bytes #[88, 45, 49] t5][d.toNat]? = some (.bytes nm t) ∧ nm ∈ NAMES := by
  have : d = 0 ∨ d = 1 ∨ d = 2 ∨ d = 3 ∨ d = 4 := by omega
  rcases this with rfl | rfl | rfl | rfl | rfl <;> exact ⟨_, _, rfl, by decide⟩
theorem pick4 {d : Int} (h0 : 0 ≤ d) (h1 : d < 4) (t1 t2 t3 t4 : Tok) : ∃ nm t, [Value.bytes #[32, 97] t1, .bytes #[98, 13, 10, 32, 99] t2, .bytes #[32] t3, .bytes #[32, 100, 10, 9, 101, 32] t4][d.toNat]? = some (.bytes nm t) ∧ nm ∈ RAWS := by
  have : d = 0 ∨ d = 1 ∨ d = 2 ∨ d = 3 := by omega
  rcases this with rfl | rfl | rfl | rfl <;> exact ⟨_, _, rfl, by decide⟩
theorem enterI {prog : Program} {w : World} {A : Around} {s : Shared} {R : Result → Shared → Prop} {name qual : Str} {params : Arguments} {body : List Stmt} {scope : Scope} {dV kV doc pm cdv ct oc : Value} {an od : Option Addr} {osl : Array (Option Value)} {f : Addr} {vals : List Value} {binds : List (Str × Value)} (C : Cx w s.heap) (hd : A.depth < recursionLimit)
    (ho : List.lookup f (Mine.hd.heap_39 w.params) = some ⟨oc, od, .func (fnOf name qual params body scope dV kV doc pm an cdv ct), osl⟩)
    (hcd : codeIn (Mine.hd.heap_39 w.params) cdv qual = true)
    (hbind : bindArgs (fnOf name qual params body scope dV kV doc pm an cdv ct) ⟨vals, []⟩ = pure binds)
    (hloc : (binds.all fun y => decide (scope.names.lookup y.1 = some .local)) = true)
    (hcell : ∀ x ∈ scope.names, x.2 ≠ .cell)
    (h : ∀ L h₁ tk env, env = envOf qual scope L f cdv → Fr s.heap L h₁ (fun y => binds.reverse.lookup y) →
      wpAny (model prog w) (A.deeper env) (execs body env)
        (fun fl s' => R (.ok (.ret (match fl with | .ret v => v | _ => .none))) s') (fun _ _ => False) { s with heap := h₁, toks := tk })
    (hco : scope.isCoroutine = false := by rfl) (hgen : scope.isGenerator = false := by rfl) (hk : scope.kind = .function := by rfl) :
    codeAny (model prog w) A (.call (.ref f) ⟨vals, []⟩) R s := by
  obtain ⟨p, loose, mean, mg, mb, T⟩ := C.T
  refine codeAny_call_def (fd := fnOf name qual params body scope dV kV doc pm an cdv ct) (body := body) (binds := binds) hd (C.X _ _ ho) rfl T.nolimit (codeRec_of C.X hcd) rfl (BindsTo.of_eq hbind) hcell (locs hloc) (fun h₁ hns hk₁ => ?_) hco hgen hk
  exact wpAny_mono (h s.heap.objs.size h₁ _ _ rfl ⟨hns, hk₁, Nat.le_refl _⟩) (fun fl s' q => q) fun _ _ x => x.elim
section
variable {prog : Program} {w : World} {A : Around} {E : Value → Shared → Prop} {s : Shared}
theorem law_field_spec {g₀ : Heap} {pa : Addr} (C : Cx w g₀) (k₀ : Up g₀ s.heap) (hn : g₀.get? pa = none) (r : Rm A 3) (hp : PoolAt pa s.heap) :
    wpAny (model prog w) A (call (.ref 123) [.ref pa]) (fun v s' => Out ((∃ a r, v = .ref a ∧ RowOk r ∧ ∀ h₅, NewUp s.heap s'.heap h₅ → FieldAt h₅ a r.1 r.2) ∧ PoolAt pa s'.heap ∧ KeepsBut [pa] s s')) E s := by
  rcases A with ⟨hd, dp, fr, gd, un⟩
  obtain rfl : hd = none := r.hh
  obtain ⟨o, hpa, ho⟩ := hp.obj
  have C₁ := C.hide k₀ hn
  refine enterP (binds := [(Str.ofString "pool", .ref pa)]) (C.up k₀) r (by k_is) (by k_is) rfl rfl (by decide) ?_
  intro L h₁ tk env henv F₀ rA
  subst henv
  have hpL : @Ne Nat pa L := Nat.ne_of_lt (Nat.lt_of_lt_of_le (Heap.lt_size hpa) F₀.above)
  have F : Fr (hideAll s.heap [pa]) L h₁ _ := ⟨F₀.ns, fun b o e => F₀.keep _ _ (of_hideAll _ e), by rw [hideAll_size]; exact F₀.above⟩
  have N : News (hideAll s.heap [pa]) L h₁ [(pa, o)] := fun p hp => by
    obtain rfl := List.mem_singleton.mp hp
    exact ⟨F₀.keep _ _ hpa, hpL, hideAll_none _ (.head _)⟩
  clear F₀
  obtain ⟨p, loose, mean, mg, mb, T⟩ := C₁.T
  have X := C₁.X
  try k_unmd
  k_fold
  k_steps
  rename_i D₁ h₂ F₂ N₂ l₂
  have hk₁ : Up (hideAll s.heap [pa]) h₂ := F₂.keep
  have hpa₂ := (N₂ (pa, o) (.tail _ (.head _))).1
  have no₂ := News.one N₂
  refine ⟨use_mu (P := fun v _ => ∃ d t, v = .int d t ∧ 0 ≤ d ∧ d < 5) _ F₂ no₂ (fun p hp => by rw [List.mem_singleton.mp hp]; exact Nat.ne_of_gt l₂) (hideAll_none _ (.head _)) hpL (law_take_spec (m := 5) C₁ hk₁ (hideAll_none _ (.head _)) (rA.less (by decide)) (PoolO.at ho hpa₂) (by decide) (by decide)) ?_⟩
  rintro v h₃ tk₃ o₃ ⟨d, t, rfl, hd0, hd1⟩ F₃ N₃ ho₃ k₃
  clear F₂ N₂ no₂
  k_steps
  obtain ⟨nm, tn, hnm, hnN⟩ := pick5 hd0 hd1 _ _ _ _ _
  refine ⟨item_tup_any (j := d.toNat) ⟨_, (N₃ _ (.tail _ (.head _))).1, rfl, _, rfl⟩ (by omega) (by omega) (seqIndex_nn hd0 (by simpa using hd1)) hnm ?_⟩
  k_steps
  rename_i D₄ h₄ F₄ N₄ l₄
  have hk₄ : Up (hideAll s.heap [pa]) h₄ := F₄.keep
  have hpa₄ := (N₄ (pa, o₃) (.tail _ (.head _))).1
  have no₄ := News.one N₄
  refine ⟨use_mu (P := fun v _ => ∃ d t, v = .int d t ∧ 0 ≤ d ∧ d < 4) _ F₄ no₄ (fun p hp => by rw [List.mem_singleton.mp hp]; exact Nat.ne_of_gt l₄.1) (hideAll_none _ (.head _)) hpL (law_take_spec (m := 4) C₁ hk₄ (hideAll_none _ (.head _)) (rA.less (by decide)) (PoolO.at ho₃ hpa₄) (by decide) (by decide)) ?_⟩
  rintro v h₅ tk₅ o₅ ⟨e, u, rfl, he0, he1⟩ F₅ N₅ ho₅ k₅
  clear F₄ N₄ no₄
  k_steps
  obtain ⟨raw, tr, hraw, hrR⟩ := pick4 he0 he1 _ _ _ _
  refine ⟨item_tup_any (j := e.toNat) ⟨_, (N₅ _ (.tail _ (.head _))).1, rfl, _, rfl⟩ (by omega) (by omega) (seqIndex_nn he0 (by simpa using he1)) hraw ?_⟩
  have N₆ := News.one N₅
  have hxL := F₅.above
  rw [hideAll_size] at hxL
  clear N₅
  k_steps
  refine call_cls (K := Mine.hd.heap_39 w.params) (fI := 40) F₅ X N₆ (by k_is) (by k_is) (by k_is) ?_
  intro x dx h₆ F₆ N₇ l1 l2
  refine enterI (binds := [(Str.ofString "self", .ref x), (Str.ofString "name", .bytes nm tn), (Str.ofString "raw", .bytes raw tr)]) (C₁.up F₆.keep) (by have q := rA.d; simp only [depth_under_make]; unfold recursionLimit; omega) (by k_is) (by k_is) rfl rfl (by decide) ?_
  intro L₂ h₇ tk₇ env₂ henv₂ F₇'
  subst henv₂
  have F₇ : Fr (hideAll s.heap [pa]) L₂ h₇ _ := ⟨F₇'.ns, fun b o e => F₇'.keep _ _ (F₆.keep _ _ e), Nat.le_trans (Nat.le_trans F₆.above (Nat.le_of_lt F₆.ns.lt)) F₇'.above⟩
  have N₈ : News (hideAll s.heap [pa]) L₂ h₇ [(x, instObj 55 dx), (dx, dictOf [] 0), (pa, o₅)] := fun p hp =>
    ⟨F₇'.keep _ _ (N₇ p hp).1, Nat.ne_of_lt (Nat.lt_of_lt_of_le (Heap.lt_size (N₇ p hp).1) F₇'.above), (N₇ p hp).2.2⟩
  have hnx : ∀ c, @Ne Nat c pa → (hideAll s.heap [pa]).get? c = none → s.heap.get? c = none := fun c hc e => by
    cases q : s.heap.get? c with
    | none => rfl
    | some o' => rw [hideAll_get _ q fun z => hc (List.mem_singleton.mp z)] at e; cases e
  have hxx := (N₇ _ (.head _)).2.2
  have hxd := (N₇ _ (.tail _ (.head _))).2.2
  have l1' : @LT.lt Nat _ pa dx := l1 _ (.head _)
  have l2' : @LT.lt Nat _ dx x := l2
  have hsx := hnx x (Nat.ne_of_gt (Nat.lt_trans l1' l2')) hxx
  have hsd := hnx dx (Nat.ne_of_gt l1') hxd
  clear F₇' F₆ N₇ F₅ N₆ l1 l2
  k_steps
  rename_i F₉ N₉
  refine ⟨rfl, ⟨⟨x, (nm, raw), rfl, ⟨hnN, hrR⟩, fun h₅ nu => ?_⟩, PoolO.at ho₅ (N₉ _ (.tail _ (.tail _ (.head _)))).1, _, _, rfl, fun b o nb e => F₉.keep b o (hideAll_get _ e nb)⟩⟩
  exact ⟨dx, _, _, _, _, _, _, _, nu x _ hsx (N₉ _ (.head _)).1, nu dx _ hsd (N₉ _ (.tail _ (.head _))).1⟩
end
abbrev hid (L : Addr) (h : Heap) : Heap := hideAll h [L]
theorem hid_get {L b : Addr} {h : Heap} {o : Obj} (e : h.get? b = some o) (hb : b ≠ L) : (hid L h).get? b = some o := hideAll_get _ e fun q => hb (List.mem_singleton.mp q)
theorem hid_of {L : Addr} {h : Heap} : Up (hid L h) h := fun _ _ e => of_hideAll _ e
theorem hid_ne {L b : Addr} {h : Heap} {o : Obj} (e : (hid L h).get? b = some o) : b ≠ L := fun q => by
  rw [q, hideAll_none _ (.head _)] at e; cases e
theorem Up.hid {L : Addr} {h h' : Heap} (k : Up h h') : Up (hid L h) (hid L h') := fun b o e => hid_get (k _ _ (hid_of _ _ e)) (hid_ne e)
def Cov (g : Heap) (L : Addr) (H : Heap) (rest : List (Addr × Obj)) : Prop := ∀ b o, b ≠ L → H.get? b = some o → g.get? b = some o ∨ (b, o) ∈ rest
theorem exists_cov {g h : Heap} {L : Addr} {m : Str → Option Value} (F : Fr g L h m) : ∃ rest, News g L h rest ∧ Cov g L h rest := by
  refine ⟨(List.range h.objs.size).filterMap fun b => match h.get? b, g.get? b with | some o, none => if b = L then none else some (b, o) | _, _ => none, fun p hp => ?_, fun b o hb e => ?_⟩
  · obtain ⟨b, _, e⟩ := List.mem_filterMap.mp hp
    split at e
    · rename_i o e1 e2
      split at e
      · cases e
      · cases e; exact ⟨e1, by assumption, e2⟩
    · cases e
  · cases q : g.get? b with
    | some o' => left; rw [F.keep _ _ q] at e; cases e; rfl
    | none =>
      right
      refine List.mem_filterMap.mpr ⟨b, List.mem_range.mpr (Heap.lt_size e), ?_⟩
      rw [e, q]
      simp [hb]
theorem hop {g H h' : Heap} {L : Addr} {m' : Str → Option Value} {rest news : List (Addr × Obj)} (F : Fr g L h' m') (N : News g L h' news) (cov : Cov g L H rest) (sub : ∀ p ∈ rest, p ∈ news) : Up (hid L H) (hid L h') := fun b o e =>
  hid_get ((cov b o (hid_ne e) (hid_of _ _ e)).elim (F.keep b o) fun q => (N _ (sub _ q)).1) (hid_ne e)
theorem hopH {g H h' : Heap} {L : Addr} {m' : Str → Option Value} {rest news : List (Addr × Obj)} (F : Fr g L h' m') (N : News g L h' news) (cov : Cov g L H rest) (sub : ∀ p ∈ rest, p ∈ news) : Up (hid L H) h' := Up.trans (hop F N cov sub) hid_of
theorem ns_not {h : Heap} {L a : Addr} {m : Str → Option Value} {o : Obj} (n : h.Ns L m) (e : h.get? a = some o) (ho : ∀ es ep, o.data ≠ .dict es ep) : a ≠ L := fun q => by
  obtain ⟨o', es, ep, e', d, _⟩ := n
  rw [q, e'] at e; cases e
  exact ho _ _ d
theorem RowAt.hid {h : Heap} {L : Addr} {m : Str → Option Value} {v : Value} {r : Row} (n : h.Ns L m) (x : RowAt h v r) : RowAt (hid L h) v r := by
  obtain ⟨D, t1, t2, rfl, e⟩ := x
  exact ⟨D, t1, t2, rfl, hid_get e (ns_not n e fun _ _ q => by cases q)⟩
theorem RL.hid {h : Heap} {L : Addr} {m : Str → Option Value} {v : Value} {rs : List Row} (n : h.Ns L m) (x : RL h v rs) : RL (hid L h) v rs := by
  obtain ⟨l, vs, rfl, ⟨k, e⟩, p⟩ := x
  exact ⟨l, vs, rfl, ⟨k, hid_get e (ns_not n e fun _ _ q => by cases q)⟩, pairedImp (fun _ _ y => RowAt.hid n y) p⟩
theorem FieldAt.hid {h : Heap} {L a : Addr} {m : Str → Option Value} {nm raw : Array UInt8} (n : h.Ns L m) (hm : m (Str.ofString "raw") = none) (x : FieldAt h a nm raw) : FieldAt (hid L h) a nm raw := by
  obtain ⟨dx, h1, k1, t1, h2, k2, t2, k, e1, e2⟩ := x
  refine ⟨dx, h1, k1, t1, h2, k2, t2, k, hid_get e1 (ns_not n e1 fun _ _ q => by cases q), hid_get e2 fun q => ?_⟩
  obtain ⟨o', es, ep, e', d, _, f⟩ := n
  rw [q, e'] at e2; cases e2
  injection d with d
  subst d
  have := f (Str.ofString "raw")
  rw [hm] at this
  cases (show some (Value.bytes raw t2) = none from this)
theorem FL.hid {h : Heap} {L : Addr} {m : Str → Option Value} {v : Value} {rs : List Row} (n : h.Ns L m) (hm : m (Str.ofString "raw") = none) (x : FL h v rs) : FL (hid L h) v rs := by
  obtain ⟨l, vs, rfl, ⟨k, e⟩, p⟩ := x
  exact ⟨l, vs, rfl, ⟨k, hid_get e (ns_not n e fun _ _ q => by cases q)⟩, pairedImp (fun _ _ ⟨a, q, y⟩ => ⟨a, q, FieldAt.hid n hm y⟩) p⟩
theorem use_law {M : Model} {A : Around} {E : Value → Shared → Prop} {s : Shared} {P : Value → Heap → Prop} {g H : Heap} {L : Addr} {m : Str → Option Value} {news rest : List (Addr × Obj)} {c1 c2 : Addr × Obj} {f : Value} {vs : List Value} {Q : Value → Shared → Prop}
    (F : Fr g L s.heap m) (N : News g L s.heap news) (cov : Cov g L H rest) (sub : ∀ p ∈ rest, p ∈ news) (h1 : c1 ∈ news) (h2 : c2 ∈ news)
    (hc : wpAny M A (call f vs) (fun v s' => Out (P v s'.heap ∧ Keeps s s')) E s)
    (h : ∀ v h' tk' rest', P v h' → Up (hid L H) (hid L h') → Fr g L h' m → News g L h' (c2 :: c1 :: rest') → Cov g L h' rest' → Q v { s with heap := h', toks := tk' }) : wpAny M A (call f vs) Q E s := by
  refine wpAny_mono hc (fun v s' x => ?_) fun _ _ e => e
  obtain ⟨hp, h', tk', rfl, k⟩ := x.out
  have F' := F.keeps k
  obtain ⟨rest', N', cov'⟩ := exists_cov F'
  refine h v h' tk' rest' hp (Up.trans (hop F N cov sub) (Up.hid k)) F' (fun p hp => ?_) cov'
  rcases List.mem_cons.mp hp with rfl | hp
  · exact N.grown k _ h2
  rcases List.mem_cons.mp hp with rfl | hp
  · exact N.grown k _ h1
  · exact N' p hp
open PySem.SeqAt PySem.W in
theorem EqAt_bytes {A : Around} {s : Shared} (b : Array UInt8) (t u : Tok) : EqAt A s (.bytes b t) (.bytes b u) true := fun prog w E Q h => eqBool_bytes (by simpa using h)
open PySem.SeqAt in
theorem EqAt_row {A : Around} {s : Shared} {v v' : Value} {r : Row} (x : RowAt s.heap v r) (y : RowAt s.heap v' r) (hu : A.units < cLine) : EqAt A s v v' true := by
  obtain ⟨D, t1, t2, rfl, e⟩ := x
  obtain ⟨D', u1, u2, rfl, e'⟩ := y
  by_cases q : D = D'
  · subst q; exact EqAt.same _
  · refine EqAt.of_refs q ?_
    have := RcAt.tuples (A := A) (s := s) (e := fun _ => true) (⟨_, e, rfl, _, rfl⟩ : s.heap.IsTuple D #[.bytes r.1 t1, .bytes r.2 t2]) (⟨_, e', rfl, _, rfl⟩ : s.heap.IsTuple D' #[.bytes r.1 u1, .bytes r.2 u2]) hu (fun j h1 h2 => by
      have : j = 0 ∨ j = 1 := by simp at h1; omega
      rcases this with rfl | rfl
      · exact EqAt_bytes _ _ _
      · exact EqAt_bytes _ _ _)
    exact this
theorem paired_at {α β : Type} {F : α → β → Prop} : ∀ {l : List α} {m : List β}, Paired F l m → ∀ (j : Nat) (h1 : j < l.length), ∃ b, m[j]? = some b ∧ F l[j] b
  | _, _, .cons x t, 0, _ => ⟨_, rfl, x⟩
  | _, _, .cons x t, j + 1, h => paired_at t j (by simpa using h)
open PySem.SeqAt in
theorem ne_rows {prog : Program} {w : World} {A : Around} {E : Value → Shared → Prop} {s : Shared} {v v' : Value} {rs : List Row} {Q : Value → Shared → Prop} (x : RL s.heap v rs) (y : RL s.heap v' rs) (hu : A.units + 10 < cLine) (h : Q (.bool false) s) : wpAny (model prog w) A (compareOp .NotEq v v') Q E s := by
  obtain ⟨l, vs, rfl, hl, p⟩ := x
  obtain ⟨l', vs', rfl, hl', p'⟩ := y
  have e : vs.length = vs'.length := p.length.trans p'.length.symm
  refine RcNeAt.lists (e := fun _ => true) hl.isList hl'.isList (by simpa using e) (by omega) (fun j h1 h2 => ?_) prog w E Q (by rw [List.all_eq_true.mpr (fun _ _ => rfl)]; exact h)
  obtain ⟨r, e1, f1⟩ := paired_at p j (by simpa using h1)
  obtain ⟨r', e2, f2⟩ := paired_at p' j (by simpa using h2)
  rw [e1] at e2; cases e2
  simp only [List.getElem_toArray]
  exact EqAt_row f1 f2 (by show A.units + 1 < cLine; omega)
open PySem.SeqAt in
theorem eq_rows {prog : Program} {w : World} {A : Around} {E : Value → Shared → Prop} {s : Shared} {v v' : Value} {rs : List Row} {Q : Value → Shared → Prop} (x : RL s.heap v rs) (y : RL s.heap v' rs) (hu : A.units + 10 < cLine) (h : Q (.bool true) s) : wpAny (model prog w) A (compareOp .Eq v v') Q E s := by
  obtain ⟨l, vs, rfl, hl, p⟩ := x
  obtain ⟨l', vs', rfl, hl', p'⟩ := y
  have e : vs.length = vs'.length := p.length.trans p'.length.symm
  refine eq_listAt (e := fun _ => true) hl.isList hl'.isList (by simpa using e) (by omega) (fun j h1 h2 => ?_) (by rw [List.all_eq_true.mpr (fun _ _ => rfl)]; exact h)
  obtain ⟨r, e1, f1⟩ := paired_at p j (by simpa using h1)
  obtain ⟨r', e2, f2⟩ := paired_at p' j (by simpa using h2)
  rw [e1] at e2; cases e2
  simp only [List.getElem_toArray]
  exact EqAt_row f1 f2 (by show A.units + 1 < cLine; omega)
open PySem.SeqAt in
/-- two lists of one body each -/
theorem ne_body {prog : Program} {w : World} {A : Around} {E : Value → Shared → Prop} {s : Shared} {l l' : Addr} {b : Array UInt8} {t u : Tok} {Q : Value → Shared → Prop} (x : s.heap.IsList l #[.bytes b t]) (y : s.heap.IsList l' #[.bytes b u]) (hu : A.units + 10 < cLine) (h : Q (.bool false) s) : wpAny (model prog w) A (compareOp .NotEq (.ref l) (.ref l')) Q E s := by
  refine RcNeAt.lists (e := fun _ => true) x y rfl (by omega) (fun j h1 h2 => ?_) prog w E Q (by rw [List.all_eq_true.mpr (fun _ _ => rfl)]; exact h)
  obtain rfl : j = 0 := by simp at h1; omega
  exact EqAt_bytes _ _ _
theorem fn_inj {name qual : Str} {params : Arguments} {body : List Stmt} {scope : Scope} {dV kV doc pm cdv ct oc : Value} {an od : Option Addr} {osl : Array (Option Value)} {name' qual' : Str} {params' : Arguments} {body' : List Stmt} {scope' : Scope} {dV' kV' doc' pm' cdv' ct' oc' : Value} {an' od' : Option Addr} {osl' : Array (Option Value)}
    (h : (some ⟨oc, od, .func (fnOf name qual params body scope dV kV doc pm an cdv ct), osl⟩ : Option Obj) = some ⟨oc', od', .func (fnOf name' qual' params' body' scope' dV' kV' doc' pm' an' cdv' ct'), osl'⟩) : qual = qual' ∧ body = body' ∧ scope = scope' ∧ cdv = cdv' := by
  injection h with h
  injection h with _ _ h _
  injection h with h
  unfold fnOf at h
  injection h with _ e1 _ e2 e3 _ _ _ _ _ _ _ e4 _ _
  injection e2 with e2
  exact ⟨e1, e2, e3, e4⟩
def KeepsG (g : Heap) (s s' : Shared) : Prop := ∃ h tk, s' = { s with heap := h, toks := tk } ∧ Up g h
section
variable {prog : Program} {w : World} {A : Around} {E : Value → Shared → Prop} {s : Shared} {g : Heap} {L : Addr} {m : Str → Option Value} {a : Addr} {nm raw : Array UInt8}
theorem get_nameL {expr : Bool} {Q : Value → Shared → Prop} (F : Fr g L s.heap m) (X : (Mine.hd.heap_39 w.params).In g) (f : FieldAt s.heap a nm raw) (h : ∀ t, Q (.bytes nm t) { s with toks := s.toks + 1 }) :
    wpAny (model prog w) A (getAttr (.ref a) (Str.ofString "name") expr) Q E s := by
  obtain ⟨dx, h1, k1, t1, h2, k2, t2, n, e1, e2⟩ := f
  exact get_own F X (ox := instObj 55 dx) ⟨e1, rfl, rfl, e2⟩ (by k_is) (by k_is) (by k_is) (by k_is) (by k_get) rfl (h t1)
theorem get_rawL {expr : Bool} {Q : Value → Shared → Prop} (F : Fr g L s.heap m) (X : (Mine.hd.heap_39 w.params).In g) (f : FieldAt s.heap a nm raw) (h : ∀ t, Q (.bytes raw t) { s with toks := s.toks + 1 }) :
    wpAny (model prog w) A (getAttr (.ref a) (Str.ofString "raw") expr) Q E s := by
  obtain ⟨dx, h1, k1, t1, h2, k2, t2, n, e1, e2⟩ := f
  exact get_own F X (ox := instObj 55 dx) ⟨e1, rfl, rfl, e2⟩ (by k_is) (by k_is) (by k_is) (by k_is) (by k_get) rfl (h t2)
theorem meth_toldL {pl : Sem Bool} {Q : Value × List Value → Shared → Prop} (F : Fr g L s.heap m) (X : (Mine.hd.heap_39 w.params).In g) (f : FieldAt s.heap a nm raw) (h : Q (.ref 52, [.ref a]) s) :
    wpAny (model prog w) A (getMethod (.ref a) (Str.ofString "told") pl) Q E s := by
  obtain ⟨dx, h1, k1, t1, h2, k2, t2, n, e1, e2⟩ := f
  exact method_inst F X (ox := instObj 55 dx) ⟨e1, rfl, rfl, e2⟩ (by k_is) (by k_is) (by k_is) (by k_get) h
theorem told_row (C : Cx w s.heap) (r : Rm A 1) (hf : FieldAt s.heap a nm raw) :
    wpAny (model prog w) A (call (.ref 52) [.ref a]) (fun v s' => Out (RowAt s'.heap v (nm, raw) ∧ Keeps s s')) E s :=
  wpAny_mono (told_spec C r hf) (fun v s' x => by
    obtain ⟨⟨⟨D, t1, t2, rfl, _, e⟩, k⟩⟩ := x
    exact ⟨⟨D, t1, t2, rfl, e⟩, k⟩) fun _ _ e => e
end
local macro_rules | `(tactic| walk_at "getAttr ref") => `(tactic| (k_here; (with_reducible show wpAny _ _ (getAttr _ (Str.ofString "name") _) _ _ _); k_dflt (refine' get_nameL ?F ?X (FieldAt.up (hopH ?F2 ?N ?cov ?sub) ?f) ?_; (case F => k_asm); (case X => k_asm); (case F2 => k_asm); (case N => k_asm); (case cov => assumption); (case sub => (intro p hp; repeat (first | exact hp | apply List.Mem.tail))); (case f => assumption); k_whole); intro t9))
local macro_rules | `(tactic| walk_at "getAttr ref") => `(tactic| (k_here; (with_reducible show wpAny _ _ (getAttr _ (Str.ofString "raw") _) _ _ _); k_dflt (refine' get_rawL ?F ?X (FieldAt.up (hopH ?F2 ?N ?cov ?sub) ?f) ?_; (case F => k_asm); (case X => k_asm); (case F2 => k_asm); (case N => k_asm); (case cov => assumption); (case sub => (intro p hp; repeat (first | exact hp | apply List.Mem.tail))); (case f => assumption); k_whole); intro t9))
local macro_rules | `(tactic| walk_at "getMethod ref") => `(tactic| (k_here; (with_reducible show wpAny _ _ (getMethod _ (Str.ofString "told") _) _ _ _); k_dflt (refine' meth_toldL ?F ?X (FieldAt.up (hopH ?F2 ?N ?cov ?sub) ?f) ?_; (case F => k_asm); (case X => k_asm); (case F2 => k_asm); (case N => k_asm); (case cov => assumption); (case sub => (intro p hp; repeat (first | exact hp | apply List.Mem.tail))); (case f => assumption); k_whole)))
local macro_rules | `(tactic| walk_at "call ref") => `(tactic| ((with_reducible show wpAny _ _ (call (Value.ref 138) _) _ _ _); refine Stop.go ?_))
local macro_rules | `(tactic| walk_at "call ref") => `(tactic| ((with_reducible show wpAny _ _ (call (Value.ref 133) _) _ _ _); refine Stop.go ?_))
local macro_rules | `(tactic| walk_at "call ref") => `(tactic| ((with_reducible show wpAny _ _ (call (Value.ref 109) _) _ _ _); refine Stop.go ?_))
local macro_rules | `(tactic| walk_at "call ref") => `(tactic| ((with_reducible show wpAny _ _ (call (Value.ref 92) _) _ _ _); refine Stop.go ?_))
local macro_rules | `(tactic| walk_at "call ref") => `(tactic| ((with_reducible show wpAny _ _ (call (Value.ref 85) _) _ _ _); refine Stop.go ?_))
local macro_rules | `(tactic| walk_at "call ref") => `(tactic| ((with_reducible show wpAny _ _ (call (Value.ref 97) _) _ _ _); refine Stop.go ?_))
local macro_rules | `(tactic| walk_at "call ref") => `(tactic| ((with_reducible show wpAny _ _ (call (Value.ref 102) _) _ _ _); refine Stop.go ?_))
local macro_rules | `(tactic| walk_at "call ref") => `(tactic| ((with_reducible show wpAny _ _ (call (Value.ref 52) _) _ _ _); refine Stop.go ?_))
local macro_rules | `(tactic| walk_at "compareOp In bytes ref") => `(tactic| refine Stop.go ?_)
theorem News.cells {g h : Heap} {L : Addr} {c1 c2 : Addr × Obj} {rest : List (Addr × Obj)} (N : News g L h (c2 :: c1 :: rest)) : News g L h [c2, c1] := fun p hp => by
  rcases List.mem_cons.mp hp with rfl | hp
  · exact N _ (.head _)
  · rw [List.mem_singleton.mp hp]; exact N _ (.tail _ (.head _))
theorem ww_rows {t : List Row} {r1 : Row} (ok : ∀ x ∈ t, RowOk x) (ok1 : RowOk r1) : t.filter (fun r => !([asStr r1.1].map lowS).any (· == low r.1)) = t.filter fun o => lowB o.1 != lowB r1.1 := by
  refine List.filter_congr fun o ho => ?_
  rw [List.map_cons, List.map_nil, (names_word ok1.nm).1, List.any_cons, List.any_nil, Bool.or_false, names_low ok1.nm (ok o ho).nm]
  show (!(lowB r1.1 == lowB o.1)) = !(lowB o.1 == lowB r1.1)
  rw [BEq.comm]
theorem ww_low {t : List Row} {r1 : Row} (ok : ∀ x ∈ t, RowOk x) (ok1 : RowOk r1) : t.filter (fun o => low o.1 != low r1.1) = t.filter fun o => lowB o.1 != lowB r1.1 :=
  List.filter_congr fun o ho => by
    show (!(low o.1 == low r1.1)) = !(lowB o.1 == lowB r1.1)
    rw [names_low (ok o ho).nm ok1.nm]
theorem ww_found {rs : List Row} {r1 : Row} (ok : ∀ x ∈ rs, RowOk x) (ok1 : RowOk r1) : (wf rs r1).filter (fun r => !([asStr r1.1].map lowS).any (· == low r.1)) = rs.filter fun o => lowB o.1 != lowB r1.1 := by
  rw [ww_rows (wf_ok ok ok1) ok1, ← ww_low (wf_ok ok ok1) ok1, wf_rest, ww_low ok ok1]
theorem swap_of {rs : List Row} {r1 r2 : Row} (ok : ∀ x ∈ rs, RowOk x) (ok1 : RowOk r1) (ok2 : RowOk r2) (q1 : ((lowB r1.1).toList != (lowB r2.1).toList) = true) (q2 : (rs.any fun r => lowB r.1 == lowB r1.1) = true) (q3 : (rs.any fun r => lowB r.1 == lowB r2.1) = true) : wf (wf rs r1) r2 = wf (wf rs r2) r1 := by
  have f : ∀ r : Row, RowOk r → (rs.any fun o => lowB o.1 == lowB r.1) = true → ∃ o ∈ rs, low o.1 = low r.1 := fun r okr h => by
    obtain ⟨o, ho, e⟩ := List.any_eq_true.mp h
    exact ⟨o, ho, eq_of_beq ((names_low (ok o ho).nm okr.nm).trans e)⟩
  refine wf_swap (fun e => ?_) (f r1 ok1 q2) (f r2 ok2 q3)
  have := (names_low ok1.nm ok2.nm).symm.trans (beq_iff_eq.mpr e)
  rw [arr_bne] at q1
  rw [show (lowB r1.1 != lowB r2.1) = !(lowB r1.1 == lowB r2.1) from rfl, this] at q1
  cases q1
def NB (h : Heap) (v : Value) (rs : List Row) : Prop := ∃ l ys, v = .ref l ∧ h.PlainList l (List.toArray ys) ∧ Paired (fun y (r : Row) => ∃ t, y = Value.bytes (lowB r.1) t) ys rs
theorem NB.up {h h' : Heap} {v : Value} {rs : List Row} (k : Up h h') (x : NB h v rs) : NB h' v rs := by
  obtain ⟨l, ys, e, q, p⟩ := x
  exact ⟨l, ys, e, q.at (fun o => k _ o), p⟩
open PySem.SeqAt PySem.W in
theorem in_bytes {prog : Program} {w : World} {A : Around} {E : Value → Shared → Prop} {s : Shared} {l : Value} {rs : List Row} {x : Array UInt8} {t : Tok} {Q : Value → Shared → Prop} (hn : NB s.heap l rs) (h : Q (.bool (rs.any fun r => lowB r.1 == x)) s) : wpAny (model prog w) A (compareOp .In (.bytes x t) l) Q E s := by
  obtain ⟨l, ys, rfl, hl, hp⟩ := hn
  have e : ys.any (fun v => match v with | .bytes b _ => b == x | _ => false) = rs.any fun r => lowB r.1 == x := by
    clear h hl
    induction hp with
    | nil => rfl
    | cons y _ ih => obtain ⟨t, rfl⟩ := y; rw [List.any_cons, List.any_cons, ih]
  refine in_listAt (fun v => match v with | .bytes b _ => b == x | _ => false) hl.isList (fun y hy => ?_) (by simpa [e] using h)
  obtain ⟨r, _, t', rfl⟩ := paired_mem hp y (by simpa using hy)
  intro prog w E Q hQ
  refine eqBool_bytes ?_
  rw [show decide ((lowB r.1).toList = x.toList) = (lowB r.1 == x) by rw [Bool.eq_iff_iff]; simp]
  exact hQ
theorem segD {prog : Program} {w : World} {A : Around} {s : Shared} {h : Heap} {tk : Nat} {code : List Stmt} {g : Heap} {L : Addr} {m₀ : Str → Option Value} {o1 o2 : Obj} {nm0 qual : Str} {params : Arguments} {body : List Stmt} {scope : Scope} {dV kV doc pm cdv ct oc cdw : Value} {fa : Addr} {an od : Option Addr} {osl : Array (Option Value)}
    {a1 a2 : Addr} {vf : Value} {rs : List Row} {r1 r2 : Row} {vb vg : Value} {tb tw : Tok}
    (ho : List.lookup 143 (Mine.hd.heap_39 w.params) = some ⟨oc, od, .func (fnOf nm0 qual params body scope dV kV doc pm an cdv ct), osl⟩) (hcode : body.drop 11 = code)
    (C : Cx w g) (r : Rm A 10) (hm0 : m₀ (Str.ofString "raw") = none) (d2 : o2.data = .cell (some (.ref a1)))
    (F : Fr g L h (fun y => if y = Str.ofString "word" then some (.str (asStr r1.1) tw) else if y = Str.ofString "body" then some (.bytes (bodyOf r1.2) tb) else if y = Str.ofString "found" then some (vg) else if y = Str.ofString "before" then some (vb) else if y = Str.ofString "other" then some (.ref a2) else if y = Str.ofString "fields" then some (vf) else m₀ y)) (N : News g L h [(L + 1 + 1, o2), (L + 1, o1)])
    (ok : ∀ x ∈ rs, RowOk x) (hz : rs.length ≤ 900) (ok1 : RowOk r1) (ok2 : RowOk r2) (hf : FL (hid L h) vf rs) (fA : FieldAt (hid L h) a1 r1.1 r1.2) (fB : FieldAt (hid L h) a2 r2.1 r2.2) (hb : RL (hid L h) vb rs) (hg : FL (hid L h) vg (wf rs r1)) :
    Out (wpAny (model prog w) A (execs code (envOfC qual scope L fa cdw)) (fun fl s' => Out (fl = .ret (.bool true) ∧ KeepsG g s s')) (fun _ _ => False) { s with heap := h, toks := tk }) := by
  obtain ⟨rfl, rfl, rfl, rfl⟩ := fn_inj (ho.symm.trans (by k_is))
  subst hcode
  refine ⟨?_⟩
  rcases A with ⟨hd, dp, fr, gd, un⟩
  obtain rfl : hd = none := r.hh
  have hu : un + 10 < cLine := by have := r.u; unfold cLine; exact Nat.lt_of_le_of_lt (by show un + 10 ≤ un + 4 * 10; omega) (Nat.lt_trans this (by decide))
  obtain ⟨p, loose, mean, mg, mb, T⟩ := C.T
  have X := C.X
  obtain ⟨rest, N0, cov⟩ := exists_cov F
  have NI : News g L h ((L + 1 + 1, o2) :: (L + 1, o1) :: rest) := fun p hp => by
    rcases List.mem_cons.mp hp with rfl | hp
    · exact N _ (.head _)
    rcases List.mem_cons.mp hp with rfl | hp
    · exact N _ (.tail _ (.head _))
    · exact N0 _ hp
  clear N N0
  simp only [List.drop]
  try k_unmd
  k_fold
  obtain ⟨lf, _, rfl, _⟩ := id hf
  obtain ⟨lb, vs, rfl, hplb, hpb⟩ := id hb
  obtain ⟨lg, _, rfl, _⟩ := id hg
  have hlen : vs.length = rs.length := hpb.length
  have hcO : h.IsCell (L + 1 + 1) (some (.ref a1)) := ⟨o2, (NI _ (.head _)).1, d2⟩
  k_steps
  refine ⟨?_⟩
  refine comp_asg (cl := [(Str.ofString "one", L + 1 + 1)]) (nn := vs.toArray.size) (P := fun i v => vs.toArray[i]? = some v) (pRow (hid L h) fun o => lowB o.1 != lowB r1.1) (fun _ v y => y = v) F rfl rfl rfl (by decide) rfl (by decide) rfl rfl rfl ?_ (by rw [sizeLine_eq, List.size_toArray]; omega) ?_ ?_ ?_
  · k_steps
    exact ⟨⟨_, _, rfl, fun _ _ e => e⟩, src_list r.hh ((hplb.at fun o e => hid_of _ o e).isList), fun q => by injection q with q; obtain ⟨n, e⟩ := hplb; exact hid_ne e q⟩
  · intro g' C' i v s₃ m₃ E' hg' hgL F' hm hP
    obtain ⟨r₀, hr, hrv⟩ := paired_get hpb i v (by simpa using hP)
    obtain ⟨D, t1, t2, rfl, hD⟩ := id hrv
    rw [pRow_is (r := r₀) hrv]
    have hr0 := (ok r₀ (List.mem_of_getElem? hr)).nm
    have hr1 := ok1.nm
    have hgh : Up (hid L h) g' := fun b o e => hg' b o (hid_ne e) (hid_of _ _ e)
    have hgu : Up g g' := Fr.upNe F hg'
    have hrg : RowAt g' (.ref D) r₀ := RowAt.up hgh hrv
    have hfg : FieldAt g' a1 r1.1 r1.2 := FieldAt.up hgh fA
    have Cg : Cx w g' := C.up hgu
    have hcg : g'.IsCell (L + 1 + 1) (some (.ref a1)) := isCell_ne (Nat.ne_of_gt (Nat.lt_succ_of_lt (Nat.lt_succ_self L))) hg' hcO
    clear F X T NI cov
    obtain ⟨p, loose, mean, mg, mb, T⟩ := Cg.T
    have X := Cg.X
    have N : News g' C' s₃.heap [] := News.nil
    refine wpAny_tests_one ?_
    k_steps
    exact ⟨⟨arr_bne _ _, _, _, rfl, Up.trans (by assumption) (by assumption)⟩⟩
  · intro g' C' i v s₃ m₃ E' hg' _ F' hm hP _
    clear F NI
    k_steps
    exact ⟨⟨fun _ _ _ => rfl, Keeps.rfl'⟩⟩
  intro D₂ h₂ tk₂ ys₂ vs₂ hD₂ hpl₂ hlen₂ hP₂ hF₂ hup₂ F₂ hD₂L
  have e0 : vs₂ = vs := by simpa using list_of_places hlen₂ hP₂
  subst e0
  have e2 := paired_eq hF₂
  have up2 : Up (hid L h) (hid L h₂) := fun b o e => hid_get (hup₂ b o (hid_ne e) (hid_of _ _ e)) (hid_ne e)
  have xr : RL (hid L h₂) (.ref D₂) (rs.filter fun o => lowB o.1 != lowB r1.1) := by
    obtain ⟨n, q⟩ := hpl₂
    refine ⟨D₂, ys₂.toList, rfl, ⟨n, by rw [Array.toArray_toList]; exact hid_get q hD₂L⟩, ?_⟩
    rw [e2]
    exact RowsAt.up up2 (paired_filter (fun v r x => pRow_is x) hpb)
  obtain ⟨rest2, N2', cov2⟩ := exists_cov F₂
  have N2 : News g L h₂ ((L + 1 + 1, o2) :: (L + 1, o1) :: rest2) := fun p hp => by
    rcases List.mem_cons.mp hp with rfl | hp
    · exact ⟨hup₂ _ _ (NI _ (.head _)).2.1 (NI _ (.head _)).1, (NI _ (.head _)).2⟩
    rcases List.mem_cons.mp hp with rfl | hp
    · exact ⟨hup₂ _ _ (NI _ (.tail _ (.head _))).2.1 (NI _ (.tail _ (.head _))).1, (NI _ (.tail _ (.head _))).2⟩
    · exact N2' _ hp
  replace hf := FL.up up2 hf
  replace fA := FieldAt.up up2 fA
  replace fB := FieldAt.up up2 fB
  replace hb := RL.up up2 hb
  replace hg := FL.up up2 hg
  replace cov := cov2
  have okw := wf_ok ok ok1
  have lw : (wf rs r1).length ≤ 950 := Nat.le_trans wfG_len (by omega)
  have lfi : (rs.filter fun o => lowB o.1 != lowB r1.1).length ≤ 900 := Nat.le_trans (List.length_filter_le _ _) hz
  have hwk : WOk (asStr r1.1) := ⟨fun c hc => by
        obtain ⟨b, hb, rfl⟩ := Array.mem_map.mp hc
        exact names_128 ok1.nm b hb, by simpa [asStr] using names_size ok1.nm⟩
  clear F NI N2' hcO hF₂ hP₂ hlen₂ hpl₂ hplb hpb up2 hup₂ e2
  k_steps
  rename Fr _ _ _ _ => G1
  rename News _ _ _ _ => M1
  refine ⟨use_law (c1 := (L + 1, o1)) (c2 := (L + 1 + 1, o2)) (P := fun v h => FL h v (rs.filter fun o => lowB o.1 != lowB r1.1)) (by assumption) (by assumption) cov (by (intro p hp; repeat (first | exact hp | apply List.Mem.tail))) (by repeat (first | exact .head _ | apply List.Mem.tail)) (by repeat (first | exact .head _ | apply List.Mem.tail)) (wpAny_mono (without_words_spec (C.up (Fr.keep (by assumption))) (r.less (by decide)) (FL.up (hopH (by assumption) (by assumption) cov (by (intro p hp; repeat (first | exact hp | apply List.Mem.tail)))) hg) okw (by omega) (ws := [asStr r1.1]) ⟨_, [.str _ _], rfl, ⟨0, (M1 _ (.head _)).1⟩, .cons _ _ .nil⟩ (fun x hx => by rw [List.mem_singleton.mp hx]; exact hwk) (by simp)) (fun v s' x => ⟨⟨ww_found ok ok1 ▸ x.out.1, x.out.2⟩⟩) fun _ _ e => e) ?_⟩
  intro v1 hh1 tk1 rest1 p1 up1 F1 N1 cov1
  replace hf := FL.up up1 hf
  replace fA := FieldAt.up up1 fA
  replace fB := FieldAt.up up1 fB
  replace hb := RL.up up1 hb
  replace hg := FL.up up1 hg
  replace xr := RL.up up1 xr
  replace cov := cov1
  have x1 := FL.hid F1.ns (by first | rfl | exact hm0) p1
  obtain ⟨l1, _, rfl, _⟩ := id p1
  (try clear up1)
  (try clear M1)
  (try clear G1)
  k_steps
  refine ⟨use_law (c1 := (L + 1, o1)) (c2 := (L + 1 + 1, o2)) (P := fun v h => RL h v (rs.filter fun o => lowB o.1 != lowB r1.1)) (by assumption) (by assumption) cov (by (intro p hp; repeat (first | exact hp | apply List.Mem.tail))) (by repeat (first | exact .head _ | apply List.Mem.tail)) (by repeat (first | exact .head _ | apply List.Mem.tail)) (law_told_spec (C.up (Fr.keep (by assumption))) (r.less (by decide)) (FL.up (hopH (by assumption) (by assumption) cov (by (intro p hp; repeat (first | exact hp | apply List.Mem.tail)))) x1) (by omega)) ?_⟩
  intro v2 hh2 tk2 rest2 p2 up2 F2 N2 cov2
  replace hf := FL.up up2 hf
  replace fA := FieldAt.up up2 fA
  replace fB := FieldAt.up up2 fB
  replace hb := RL.up up2 hb
  replace hg := FL.up up2 hg
  replace xr := RL.up up2 xr
  replace cov := cov2
  have x2 := RL.hid F2.ns p2
  obtain ⟨l2, _, rfl, _⟩ := id p2
  (try clear up2)
  (try clear x1)
  (try clear N1)
  (try clear F1)
  k_steps
  refine ⟨ne_rows (RL.up (hopH (by assumption) (by assumption) cov (by (intro p hp; repeat (first | exact hp | apply List.Mem.tail)))) x2) (RL.up (hopH (by assumption) (by assumption) cov (by (intro p hp; repeat (first | exact hp | apply List.Mem.tail)))) xr) hu ?_⟩
  clear x2
  k_steps
  rename Fr _ _ _ _ => G1
  rename News _ _ _ _ => M1
  refine ⟨use_law (c1 := (L + 1, o1)) (c2 := (L + 1 + 1, o2)) (P := fun v h => FL h v (rs.filter fun o => lowB o.1 != lowB r1.1)) (by assumption) (by assumption) cov (by (intro p hp; repeat (first | exact hp | apply List.Mem.tail))) (by repeat (first | exact .head _ | apply List.Mem.tail)) (by repeat (first | exact .head _ | apply List.Mem.tail)) (wpAny_mono (without_words_spec (C.up (Fr.keep (by assumption))) (r.less (by decide)) (FL.up (hopH (by assumption) (by assumption) cov (by (intro p hp; repeat (first | exact hp | apply List.Mem.tail)))) hf) ok (by omega) (ws := [asStr r1.1]) ⟨_, [.str _ _], rfl, ⟨0, (M1 _ (.head _)).1⟩, .cons _ _ .nil⟩ (fun x hx => by rw [List.mem_singleton.mp hx]; exact hwk) (by simp)) (fun v s' x => ⟨⟨ww_rows ok ok1 ▸ x.out.1, x.out.2⟩⟩) fun _ _ e => e) ?_⟩
  intro v3 hh3 tk3 rest3 p3 up3 F3 N3 cov3
  replace hf := FL.up up3 hf
  replace fA := FieldAt.up up3 fA
  replace fB := FieldAt.up up3 fB
  replace hb := RL.up up3 hb
  replace hg := FL.up up3 hg
  replace xr := RL.up up3 xr
  replace cov := cov3
  have x3 := FL.hid F3.ns (by first | rfl | exact hm0) p3
  obtain ⟨l3, _, rfl, _⟩ := id p3
  (try clear up3)
  (try clear M1)
  (try clear G1)
  (try clear F2)
  k_steps
  refine ⟨use_law (c1 := (L + 1, o1)) (c2 := (L + 1 + 1, o2)) (P := fun v h => RL h v (rs.filter fun o => lowB o.1 != lowB r1.1)) (by assumption) (by assumption) cov (by (intro p hp; repeat (first | exact hp | apply List.Mem.tail))) (by repeat (first | exact .head _ | apply List.Mem.tail)) (by repeat (first | exact .head _ | apply List.Mem.tail)) (law_told_spec (C.up (Fr.keep (by assumption))) (r.less (by decide)) (FL.up (hopH (by assumption) (by assumption) cov (by (intro p hp; repeat (first | exact hp | apply List.Mem.tail)))) x3) (by omega)) ?_⟩
  intro v4 hh4 tk4 rest4 p4 up4 F4 N4 cov4
  replace hf := FL.up up4 hf
  replace fA := FieldAt.up up4 fA
  replace fB := FieldAt.up up4 fB
  replace hb := RL.up up4 hb
  replace hg := FL.up up4 hg
  replace xr := RL.up up4 xr
  replace cov := cov4
  have x4 := RL.hid F4.ns p4
  obtain ⟨l4, _, rfl, _⟩ := id p4
  (try clear up4)
  (try clear x3)
  (try clear N3)
  (try clear F3)
  k_steps
  refine ⟨ne_rows (RL.up (hopH (by assumption) (by assumption) cov (by (intro p hp; repeat (first | exact hp | apply List.Mem.tail)))) x4) (RL.up (hopH (by assumption) (by assumption) cov (by (intro p hp; repeat (first | exact hp | apply List.Mem.tail)))) xr) hu ?_⟩
  clear x4
  k_steps
  refine ⟨?_⟩
  obtain ⟨lb', vs₃, q3, hpl₃, hpb₃⟩ := id hb
  cases q3
  have hlen₃ : vs₃.length = rs.length := hpb₃.length
  refine comp_asg (cl := []) (nn := vs₃.toArray.size) (P := fun i v => vs₃.toArray[i]? = some v) (fun _ => true) (fun _ v y => ∃ r, RowAt (hid L hh4) v r ∧ ∃ t, y = .bytes (lowB r.1) t) F4 rfl rfl rfl (by decide) rfl (by decide) rfl rfl rfl ?_ (by rw [sizeLine_eq, List.size_toArray]; omega) ?_ ?_ ?_
  · k_steps
    exact ⟨⟨_, _, rfl, fun _ _ e => e⟩, src_list r.hh ((hpl₃.at fun o e => hid_of _ o e).isList), fun q => by injection q with q; obtain ⟨n, e⟩ := hpl₃; exact hid_ne e q⟩
  · intro g' C' i v s₃ m₃ E' _ _ _ _ _
    exact wpAny_tests_nil ⟨⟨rfl, Keeps.rfl'⟩⟩
  · intro g' C' i v s₃ m₃ E' hg' hgL F' hm hP _
    obtain ⟨r₀, hr, hrv⟩ := paired_get hpb₃ i v (by simpa using hP)
    obtain ⟨D, t1, t2, rfl, hD⟩ := id hrv
    have hr0 := (ok r₀ (List.mem_of_getElem? hr)).nm
    have hgh : Up (hid L hh4) g' := fun b o e => hg' b o (hid_ne e) (hid_of _ _ e)
    have hrg : RowAt g' (.ref D) r₀ := RowAt.up hgh hrv
    have Cg : Cx w g' := C.up (Fr.upNe F4 hg')
    clear F4 X T N4 cov
    obtain ⟨p, loose, mean, mg, mb, T⟩ := Cg.T
    have X := Cg.X
    have N : News g' C' s₃.heap [] := News.nil
    k_steps
    exact ⟨⟨fun _ _ _ => ⟨r₀, hrv, _, rfl⟩, _, _, rfl, by assumption⟩⟩
  intro S h₅ tk₅ ys₅ vs₅ hS hpl₅ hlen₅ hP₅ hF₅ hup₅ F₅ hSL
  have e0 : vs₅ = vs₃ := by simpa using list_of_places hlen₅ hP₅
  subst e0
  rw [filter_tt] at hF₅
  have up5 : Up (hid L hh4) (hid L h₅) := fun b o e => hid_get (hup₅ b o (hid_ne e) (hid_of _ _ e)) (hid_ne e)
  have xn : NB (hid L h₅) (.ref S) rs := by
    obtain ⟨n, q⟩ := hpl₅
    exact ⟨S, ys₅.toList, rfl, ⟨n, by rw [Array.toArray_toList]; exact hid_get q hSL⟩, paired_swap (fun v r y x q => by obtain ⟨r', q1, q2⟩ := x; rw [RowAt.unique q q1]; exact q2) hF₅ hpb₃⟩
  obtain ⟨rest5, N5', cov5⟩ := exists_cov F₅
  have N5 : News g L h₅ ((L + 1 + 1, o2) :: (L + 1, o1) :: rest5) := fun p hp => by
    rcases List.mem_cons.mp hp with rfl | hp
    · exact ⟨hup₅ _ _ (N4 _ (.head _)).2.1 (N4 _ (.head _)).1, (N4 _ (.head _)).2⟩
    rcases List.mem_cons.mp hp with rfl | hp
    · exact ⟨hup₅ _ _ (N4 _ (.tail _ (.head _))).2.1 (N4 _ (.tail _ (.head _))).1, (N4 _ (.tail _ (.head _))).2⟩
    · exact N5' _ hp
  replace hf := FL.up up5 hf
  replace fA := FieldAt.up up5 fA
  replace fB := FieldAt.up up5 fB
  replace hb := RL.up up5 hb
  replace hg := FL.up up5 hg
  replace cov := cov5
  have hn1 := ok1.nm
  have hn2 := ok2.nm
  clear F4 N4 N5' hF₅ hP₅ hlen₅ hpl₅ hpl₃ hpb₃ up5 hup₅ xr
  k_steps
  rotate_left
  · exact ⟨⟨rfl, _, _, rfl, Fr.keep (by assumption)⟩⟩
  have q1 : ((lowB r1.1).toList != (lowB r2.1).toList) = true := by assumption
  refine ⟨in_bytes (NB.up (hopH (by assumption) (by assumption) cov (by (intro p hp; repeat (first | exact hp | apply List.Mem.tail)))) xn) ?_⟩
  k_steps
  rotate_left
  · exact ⟨⟨rfl, _, _, rfl, Fr.keep (by assumption)⟩⟩
  have q2 : (rs.any fun r => lowB r.1 == lowB r1.1) = true := by assumption
  refine ⟨in_bytes (NB.up (hopH (by assumption) (by assumption) cov (by (intro p hp; repeat (first | exact hp | apply List.Mem.tail)))) xn) ?_⟩
  k_steps
  rotate_left
  · exact ⟨⟨rfl, _, _, rfl, Fr.keep (by assumption)⟩⟩
  have q3 : (rs.any fun r => lowB r.1 == lowB r2.1) = true := by assumption
  have hsw := swap_of ok ok1 ok2 q1 q2 q3
  have okw2 := wf_ok ok ok2
  have lw2 : (wf rs r2).length ≤ 950 := Nat.le_trans wfG_len (by omega)
  have lw12 : (wf (wf rs r1) r2).length ≤ 990 := Nat.le_trans wfG_len (by omega)
  have lw21 : (wf (wf rs r2) r1).length ≤ 990 := Nat.le_trans wfG_len (by omega)
  clear xn hb
  refine ⟨use_law (c1 := (L + 1, o1)) (c2 := (L + 1 + 1, o2)) (P := fun v h => FL h v (wf (wf rs r1) r2)) (by assumption) (by assumption) cov (by (intro p hp; repeat (first | exact hp | apply List.Mem.tail))) (by repeat (first | exact .head _ | apply List.Mem.tail)) (by repeat (first | exact .head _ | apply List.Mem.tail)) (with_field_spec (C.up (Fr.keep (by assumption))) (r.less (by decide)) (FL.up (hopH (by assumption) (by assumption) cov (by (intro p hp; repeat (first | exact hp | apply List.Mem.tail)))) hg) okw (by omega) (FieldAt.up (hopH (by assumption) (by assumption) cov (by (intro p hp; repeat (first | exact hp | apply List.Mem.tail)))) fB) ok2) ?_⟩
  intro v6 hh6 tk6 rest6 p6 up6 F6 N6 cov6
  replace hf := FL.up up6 hf
  replace fA := FieldAt.up up6 fA
  replace fB := FieldAt.up up6 fB
  replace hg := FL.up up6 hg
  replace cov := cov6
  have x6 := FL.hid F6.ns (by first | rfl | exact hm0) p6
  obtain ⟨l6, _, rfl, _⟩ := id p6
  k_steps
  refine ⟨use_law (c1 := (L + 1, o1)) (c2 := (L + 1 + 1, o2)) (P := fun v h => RL h v (wf (wf rs r1) r2)) (by assumption) (by assumption) cov (by (intro p hp; repeat (first | exact hp | apply List.Mem.tail))) (by repeat (first | exact .head _ | apply List.Mem.tail)) (by repeat (first | exact .head _ | apply List.Mem.tail)) (law_told_spec (C.up (Fr.keep (by assumption))) (r.less (by decide)) (FL.up (hopH (by assumption) (by assumption) cov (by (intro p hp; repeat (first | exact hp | apply List.Mem.tail)))) x6) (by omega)) ?_⟩
  intro v7 hh7 tk7 rest7 p7 up7 F7 N7 cov7
  replace hf := FL.up up7 hf
  replace fA := FieldAt.up up7 fA
  replace fB := FieldAt.up up7 fB
  replace hg := FL.up up7 hg
  replace cov := cov7
  have x7 := RL.hid F7.ns p7
  obtain ⟨l7, _, rfl, _⟩ := id p7
  k_steps
  refine ⟨use_law (c1 := (L + 1, o1)) (c2 := (L + 1 + 1, o2)) (P := fun v h => FL h v (wf rs r2)) (by assumption) (by assumption) cov (by (intro p hp; repeat (first | exact hp | apply List.Mem.tail))) (by repeat (first | exact .head _ | apply List.Mem.tail)) (by repeat (first | exact .head _ | apply List.Mem.tail)) (with_field_spec (C.up (Fr.keep (by assumption))) (r.less (by decide)) (FL.up (hopH (by assumption) (by assumption) cov (by (intro p hp; repeat (first | exact hp | apply List.Mem.tail)))) hf) ok (by omega) (FieldAt.up (hopH (by assumption) (by assumption) cov (by (intro p hp; repeat (first | exact hp | apply List.Mem.tail)))) fB) ok2) ?_⟩
  intro v8 hh8 tk8 rest8 p8 up8 F8 N8 cov8
  replace hf := FL.up up8 hf
  replace fA := FieldAt.up up8 fA
  replace fB := FieldAt.up up8 fB
  replace hg := FL.up up8 hg
  replace x7 := RL.up up8 x7
  replace cov := cov8
  have x8 := FL.hid F8.ns (by first | rfl | exact hm0) p8
  obtain ⟨l8, _, rfl, _⟩ := id p8
  k_steps
  refine ⟨use_law (c1 := (L + 1, o1)) (c2 := (L + 1 + 1, o2)) (P := fun v h => FL h v (wf (wf rs r2) r1)) (by assumption) (by assumption) cov (by (intro p hp; repeat (first | exact hp | apply List.Mem.tail))) (by repeat (first | exact .head _ | apply List.Mem.tail)) (by repeat (first | exact .head _ | apply List.Mem.tail)) (with_field_spec (C.up (Fr.keep (by assumption))) (r.less (by decide)) (FL.up (hopH (by assumption) (by assumption) cov (by (intro p hp; repeat (first | exact hp | apply List.Mem.tail)))) x8) okw2 (by omega) (FieldAt.up (hopH (by assumption) (by assumption) cov (by (intro p hp; repeat (first | exact hp | apply List.Mem.tail)))) fA) ok1) ?_⟩
  intro v9 hh9 tk9 rest9 p9 up9 F9 N9 cov9
  replace hf := FL.up up9 hf
  replace fA := FieldAt.up up9 fA
  replace fB := FieldAt.up up9 fB
  replace hg := FL.up up9 hg
  replace x7 := RL.up up9 x7
  replace cov := cov9
  have x9 := FL.hid F9.ns (by first | rfl | exact hm0) p9
  obtain ⟨l9, _, rfl, _⟩ := id p9
  k_steps
  refine ⟨use_law (c1 := (L + 1, o1)) (c2 := (L + 1 + 1, o2)) (P := fun v h => RL h v (wf (wf rs r2) r1)) (by assumption) (by assumption) cov (by (intro p hp; repeat (first | exact hp | apply List.Mem.tail))) (by repeat (first | exact .head _ | apply List.Mem.tail)) (by repeat (first | exact .head _ | apply List.Mem.tail)) (law_told_spec (C.up (Fr.keep (by assumption))) (r.less (by decide)) (FL.up (hopH (by assumption) (by assumption) cov (by (intro p hp; repeat (first | exact hp | apply List.Mem.tail)))) x9) (by omega)) ?_⟩
  intro v10 hh10 tk10 rest10 p10 up10 F10 N10 cov10
  replace hf := FL.up up10 hf
  replace fA := FieldAt.up up10 fA
  replace fB := FieldAt.up up10 fB
  replace hg := FL.up up10 hg
  replace x7 := RL.up up10 x7
  replace cov := cov10
  have x10 := RL.hid F10.ns p10
  obtain ⟨l10, _, rfl, _⟩ := id p10
  k_steps
  rw [hsw] at x7
  refine ⟨eq_rows (RL.up (hopH (by assumption) (by assumption) cov (by (intro p hp; repeat (first | exact hp | apply List.Mem.tail)))) x7) (RL.up (hopH (by assumption) (by assumption) cov (by (intro p hp; repeat (first | exact hp | apply List.Mem.tail)))) x10) hu ?_⟩
  k_steps
  exact ⟨⟨rfl, _, _, rfl, Fr.keep (by assumption)⟩⟩
theorem dict_pick {raw : Array UInt8} (h : raw ∈ RAWS) (t1 t2 t3 t4 : Tok) : ∃ t, valueAt (merged [] [(([32, 97] : List UInt8), Value.bytes #[97] t1), ([98, 13, 10, 32, 99], .bytes #[98, 32, 99] t2), ([32], .bytes #[] t3), ([32, 100, 10, 9, 101, 32], .bytes #[100, 9, 101] t4)]) raw.toList = some (.bytes (bodyOf raw) t) := by
  simp only [RAWS, List.mem_cons, List.not_mem_nil, or_false] at h
  rcases h with rfl | rfl | rfl | rfl <;> exact ⟨_, rfl⟩
theorem names_up {nm : Array UInt8} (h : nm ∈ NAMES) : lowS (Txt.upper (asStr nm)) = low nm ∧ (∀ c ∈ (Txt.upper (asStr nm)).cps.toList, c < 128) ∧ (Txt.upper (asStr nm)).cps.size ≤ 100 :=
  names_all (p := fun nm => lowS (Txt.upper (asStr nm)) = low nm ∧ (∀ c ∈ (Txt.upper (asStr nm)).cps.toList, c < 128) ∧ (Txt.upper (asStr nm)).cps.size ≤ 100) (by decide +kernel) h
def BL (h : Heap) (v : Value) (b : Array UInt8) : Prop := ∃ l t n, v = .ref l ∧ h.get? l = some { cls := .type "list", data := .seq #[.bytes b t] n }
theorem BL.up {h h' : Heap} {v : Value} {b : Array UInt8} (k : Up h h') (x : BL h v b) : BL h' v b := by
  obtain ⟨l, t, n, e, q⟩ := x
  exact ⟨l, t, n, e, k _ _ q⟩
theorem BL.hid {h : Heap} {L : Addr} {m : Str → Option Value} {v : Value} {b : Array UInt8} (n : h.Ns L m) (x : BL h v b) : BL (hid L h) v b := by
  obtain ⟨l, t, k, e, q⟩ := x
  exact ⟨l, t, k, e, hid_get q (ns_not n q fun _ _ q => by cases q)⟩
theorem ab_one {rs : List Row} {r1 : Row} {x : Str} {v : Value} {h : Heap} (e : lowS x = low r1.1) (y : ∃ D ys, v = .ref D ∧ h.PlainList D (List.toArray ys) ∧ Paired (fun y (r : Row) => ∃ t, y = .bytes (bodyOf r.2) t) ys ((wf rs r1).filter fun r => low r.1 == lowS x)) : BL h v (bodyOf r1.2) := by
  rw [e, wf_only] at y
  obtain ⟨D, ys, rfl, ⟨n, hp⟩, p⟩ := y
  cases p with
  | cons a t =>
    cases t
    obtain ⟨t, rfl⟩ := a
    exact ⟨D, t, n, rfl, hp⟩
theorem ow_none {rs : List Row} {r1 : Row} (ok1 : RowOk r1) (okw : ∀ x ∈ wf rs r1, RowOk x) (e : lowS (asStr r1.1) = low r1.1) : (wf rs r1).filter (fun r => ([Str.ofString "none", asStr r1.1].map lowS).any (· == low r.1)) = [r1] := by
  rw [← wf_only rs r1]
  refine List.filter_congr fun o ho => ?_
  have hn := (names_word (okw o ho).nm).2.1
  have h0 : lowS (Str.ofString "none") = Str.ofString "none" := by decide +kernel
  rw [List.map_cons, List.map_cons, List.map_nil, e, h0, List.any_cons, List.any_cons, List.any_nil, Bool.or_false]
  rw [show (Str.ofString "none" == low o.1) = false from beq_eq_false_iff_ne.mpr (Ne.symm hn), Bool.false_or]
  exact BEq.comm
theorem fb_one {rs : List Row} {r1 : Row} {x : Str} {v : Value} (e : lowS x = low r1.1) (h : FBv ((wf rs r1).find? fun r => low r.1 == lowS x) v) : ∃ t, v = .bytes (bodyOf r1.2) t := by
  rw [e, wf_find] at h; exact h
local macro_rules | `(tactic| walk_at "eval Dict") => `(tactic| refine Stop.go ?_)
local macro_rules | `(tactic| walk_at "subscriptTail Dict") => `(tactic| refine Stop.go ?_)
local macro_rules | `(tactic| walk_at "compareOp NotEq bytes bytes") => `(tactic| refine Stop.go ?_)
local macro_rules | `(tactic| walk_at "call builtin:str.upper") => `(tactic| refine Stop.go ?_)
theorem segC {prog : Program} {w : World} {A : Around} {s : Shared} {h : Heap} {tk : Nat} {code : List Stmt} {g : Heap} {L : Addr} {m₀ : Str → Option Value} {o1 o2 : Obj} {nm0 qual : Str} {params : Arguments} {body : List Stmt} {scope : Scope} {dV kV doc pm cdv ct oc cdw : Value} {fa : Addr} {an od : Option Addr} {osl : Array (Option Value)}
    {a1 a2 : Addr} {vf : Value} {rs : List Row} {r1 r2 : Row} {vb vg : Value}
    (ho : List.lookup 143 (Mine.hd.heap_39 w.params) = some ⟨oc, od, .func (fnOf nm0 qual params body scope dV kV doc pm an cdv ct), osl⟩) (hcode : body.drop 7 = code)
    (C : Cx w g) (r : Rm A 10) (hm0 : m₀ (Str.ofString "raw") = none) (d2 : o2.data = .cell (some (.ref a1)))
    (F : Fr g L h (fun y => if y = Str.ofString "found" then some (vg) else if y = Str.ofString "before" then some (vb) else if y = Str.ofString "other" then some (.ref a2) else if y = Str.ofString "fields" then some (vf) else m₀ y)) (N : News g L h [(L + 1 + 1, o2), (L + 1, o1)])
    (ok : ∀ x ∈ rs, RowOk x) (hz : rs.length ≤ 900) (ok1 : RowOk r1) (ok2 : RowOk r2) (hf : FL (hid L h) vf rs) (fA : FieldAt (hid L h) a1 r1.1 r1.2) (fB : FieldAt (hid L h) a2 r2.1 r2.2) (hb : RL (hid L h) vb rs) (hg : FL (hid L h) vg (wf rs r1)) :
    Out (wpAny (model prog w) A (execs code (envOfC qual scope L fa cdw)) (fun fl s' => Out (fl = .ret (.bool true) ∧ KeepsG g s s')) (fun _ _ => False) { s with heap := h, toks := tk }) := by
  have nxt := fun (h' : Heap) (tk' : Nat) (vb vg : Value) (tb tw : Tok) => segD (prog := prog) (w := w) (A := A) (s := s) (h := h') (tk := tk') (L := L) (m₀ := m₀) (o1 := o1) (o2 := o2) (a1 := a1) (a2 := a2) (vf := vf) (rs := rs) (r1 := r1) (r2 := r2) (fa := fa) (cdw := cdw) (vb := vb) (vg := vg) (tb := tb) (tw := tw) ho rfl C r hm0 d2
  obtain ⟨rfl, rfl, rfl, rfl⟩ := fn_inj (ho.symm.trans (by k_is))
  subst hcode
  refine ⟨?_⟩
  rcases A with ⟨hd, dp, fr, gd, un⟩
  obtain rfl : hd = none := r.hh
  have hu : un + 10 < cLine := by have := r.u; unfold cLine; exact Nat.lt_of_le_of_lt (by show un + 10 ≤ un + 4 * 10; omega) (Nat.lt_trans this (by decide))
  obtain ⟨p, loose, mean, mg, mb, T⟩ := C.T
  have X := C.X
  obtain ⟨rest, N0, cov⟩ := exists_cov F
  have NI : News g L h ((L + 1 + 1, o2) :: (L + 1, o1) :: rest) := fun p hp => by
    rcases List.mem_cons.mp hp with rfl | hp
    · exact N _ (.head _)
    rcases List.mem_cons.mp hp with rfl | hp
    · exact N _ (.tail _ (.head _))
    · exact N0 _ hp
  clear N N0
  simp only [List.drop] at nxt ⊢
  try k_unmd
  k_fold
  obtain ⟨lf, _, rfl, _⟩ := id hf
  obtain ⟨lb, _, rfl, _⟩ := id hb
  obtain ⟨lg, _, rfl, _⟩ := id hg
  k_steps
  refine ⟨W.kdn_eval (knd := W.bytesKind prog w) F NI T.nolimit rfl rfl (List.cons_ne_nil _ _) (Nat.le_of_ble_eq_true rfl) ?_⟩
  intro d hd' od' Fd Nd ld lo hdd
  clear NI F
  k_steps
  refine ⟨[([32, 97], .bytes #[97] _), ([98, 13, 10, 32, 99], .bytes #[98, 32, 99] _), ([32], .bytes #[] _), ([32, 100, 10, 9, 101, 32], .bytes #[100, 9, 101] _)], ⟨rfl, rfl, rfl, rfl, rfl, rfl, rfl, rfl, trivial⟩, Heap.dictOf_iff.mpr ⟨od', (Nd _ (.head _)).1, hdd⟩, ?_⟩
  intro h₂ hd₂ sb
  have F₂ := Fd.change sb (Nd _ (.head _)).2.1 (Nd _ (.head _)).2.2
  have N₂ : News g L h₂ ((L + 1 + 1, o2) :: (L + 1, o1) :: rest) := fun p hp => ⟨(sb.2 p.1 (Nat.ne_of_lt (ld p hp))).trans (Nd p (.tail _ hp)).1, (Nd p (.tail _ hp)).2⟩
  clear Fd Nd
  k_steps
  obtain ⟨tv, hv⟩ := dict_pick ok1.raw _ _ _ _
  refine ⟨tail_any hd₂.typeIs slot_dict_getitem.lookup (wpAny_getItem_of (knd := W.bytesKind prog w) (k := r1.2.toList) (by simp [W.bytesKind, W.isBytes]) hd₂.mapOf hv ?_) (by with_unfolding_all rfl)⟩
  k_steps
  rename Fr _ _ _ _ => F3
  rename News _ _ _ _ => N3
  refine ⟨?_⟩
  have h128 := names_128 ok1.nm
  refine comp_ev (cl := []) (nn := r1.1.size) (P := fun i v => ∃ c u, r1.1[i]? = some c ∧ v = .int (c.toNat : Int) u) (fun _ => true) (fun _ v y => ∃ (c : UInt8) (u : Tok) (u' : Tok), v = Value.int (c.toNat : Int) u ∧ y = Value.str ⟨#[c.toNat]⟩ u') rfl (by decide) rfl (by decide) rfl ?_ (by have := names_size ok1.nm; rw [sizeLine_eq]; omega) ?_ ?_ ?_
  · k_steps
    exact ⟨⟨⟨_, _, rfl, fun _ _ e => e⟩, src_bytes r.hh⟩⟩
  · intro g C' i v s₃ m₃ E' _ _ _ _
    exact wpAny_tests_nil ⟨⟨rfl, Keeps.rfl'⟩⟩
  · intro g' C' i v s₃ m₃ E' hg' F' hm hP _
    obtain ⟨c, u, hc, rfl⟩ := hP
    have hc' : c.toNat < 128 := h128 c (Array.mem_of_getElem? hc)
    have Cg : Cx w g' := C.up (Up.trans F3.keep hg')
    clear F3 N3 X T
    obtain ⟨p, loose, mean, mg, mb, T⟩ := Cg.T
    have X := Cg.X
    have N : News g' C' s₃.heap [] := News.nil
    k_steps
    refine ⟨chr_is rfl hc' ?_⟩
    exact ⟨⟨fun _ _ _ => ⟨_, _, _, rfl, rfl⟩, _, _, rfl, fun _ _ e => e⟩⟩
  intro D h₄ tk₄ ys vs hD hpl hlen hP hFF hup
  have up4 := Up.trans (hop F3 N3 cov (by (intro p hp; repeat (first | exact hp | apply List.Mem.tail)))) (Up.hid hup)
  have F4 := F3.keeps hup
  obtain ⟨rest4, N4', cov4⟩ := exists_cov F4
  have N4 : News g L h₄ ((L + 1 + 1, o2) :: (L + 1, o1) :: rest4) := fun p hp => by
    rcases List.mem_cons.mp hp with rfl | hp
    · exact N3.grown hup _ (.head _)
    rcases List.mem_cons.mp hp with rfl | hp
    · exact N3.grown hup _ (.tail _ (.head _))
    · exact N4' _ hp
  replace hf := FL.up up4 hf
  replace fA := FieldAt.up up4 fA
  replace fB := FieldAt.up up4 fB
  replace hb := RL.up up4 hb
  replace hg := FL.up up4 hg
  replace cov := cov4
  clear F3 N3 N4' up4
  k_steps
  refine ⟨?_⟩
  rw [List.filter_eq_self.mpr (fun _ _ => rfl)] at hFF
  have hS : StrsAre ys.toList (r1.1.toList.map fun c => ⟨#[c.toNat]⟩) := bytes_signs hFF (fun v y ⟨c', u, u', e1, e2⟩ c u₂ e3 => by
      subst e1
      injection e3 with e3
      rw [← Int.ofNat.inj e3]
      exact ⟨_, e2⟩) (by simpa using hlen) (fun j v hj => by
      obtain ⟨c, u, hc, e⟩ := hP j v hj
      exact ⟨c, u, by simpa using hc, e⟩)
  have e1 : Txt.join (Str.ofString "") (List.map (fun c => { cps := #[c.toNat] }) r1.1.toList) = asStr r1.1 := join_bytes r1.1.toList
  refine join_list hpl.isList hS ?_ ?_
  · have := sum_one id (r1.1.toList.map fun c => c.toNat)
    rw [List.map_map, List.map_map] at this
    show ((r1.1.toList.map fun c => (⟨#[c.toNat]⟩ : Str)).map (·.length)).sum + _ * 0 ≤ _
    have e : ((r1.1.toList.map fun c => (⟨#[c.toNat]⟩ : Str)).map (·.length)).sum = r1.1.size := by
      rw [List.map_map]
      refine Eq.trans this ?_
      simp
    have := names_size ok1.nm
    rw [e]
    omega
  intro t5 k5
  rw [e1]
  have hwk : WOk (asStr r1.1) := ⟨fun c hc => by
        obtain ⟨b, hb, rfl⟩ := Array.mem_map.mp hc
        exact h128 b hb, by simpa [asStr] using names_size ok1.nm⟩
  have hwl := (names_word ok1.nm).1
  have okw := wf_ok ok ok1
  have lw : (wf rs r1).length ≤ 950 := Nat.le_trans wfG_len (by omega)
  clear hS hFF hP hlen hpl
  k_steps
  refine ⟨use_law (c1 := (L + 1, o1)) (c2 := (L + 1 + 1, o2)) (P := fun v h => ∃ t, v = Value.bytes (bodyOf r1.2) t) (by assumption) (by assumption) cov (by (intro p hp; repeat (first | exact hp | apply List.Mem.tail))) (by repeat (first | exact .head _ | apply List.Mem.tail)) (by repeat (first | exact .head _ | apply List.Mem.tail)) (wpAny_mono (first_body_spec (C.up (Fr.keep (by assumption))) (r.less (by decide)) (FL.up (hopH (by assumption) (by assumption) cov (by (intro p hp; repeat (first | exact hp | apply List.Mem.tail)))) hg) okw (by omega) hwk) (fun v s' x => ⟨⟨fb_one hwl x.out.1, x.out.2⟩⟩) fun _ _ e => e) ?_⟩
  intro v5 hh5 tk5 rest5 p5 up5 F5 N5 cov5
  replace hf := FL.up up5 hf
  replace fA := FieldAt.up up5 fA
  replace fB := FieldAt.up up5 fB
  replace hb := RL.up up5 hb
  replace hg := FL.up up5 hg
  replace cov := cov5
  obtain ⟨t6, rfl⟩ := p5
  (try clear N4)
  (try clear F4)
  (try clear up5)
  k_steps
  refine ⟨?_⟩
  refine W.ne_bytes ?_
  rw [show ((bodyOf r1.2).toList != (bodyOf r1.2).toList) = false by simp]
  k_steps
  have hup := names_up ok1.nm
  refine ⟨SCL.upper (by have := names_size ok1.nm; show _ ≤ _; simp [Str.length, asStr]; omega) ?_⟩
  intro t7
  k_steps
  refine ⟨use_law (c1 := (L + 1, o1)) (c2 := (L + 1 + 1, o2)) (P := fun v h => BL h v (bodyOf r1.2)) (by assumption) (by assumption) cov (by (intro p hp; repeat (first | exact hp | apply List.Mem.tail))) (by repeat (first | exact .head _ | apply List.Mem.tail)) (by repeat (first | exact .head _ | apply List.Mem.tail)) (wpAny_mono (all_bodies_spec (C.up (Fr.keep (by assumption))) (r.less (by decide)) (FL.up (hopH (by assumption) (by assumption) cov (by (intro p hp; repeat (first | exact hp | apply List.Mem.tail)))) hg) okw (by omega) ⟨fun c hc => hup.2.1 c (by simpa using hc), hup.2.2⟩) (fun v s' x => ⟨⟨ab_one hup.1 x.out.1, x.out.2⟩⟩) fun _ _ e => e) ?_⟩
  intro v6 hh6 tk6 rest6 p6 up6 F6 N6 cov6
  replace hf := FL.up up6 hf
  replace fA := FieldAt.up up6 fA
  replace fB := FieldAt.up up6 fB
  replace hb := RL.up up6 hb
  replace hg := FL.up up6 hg
  replace cov := cov6
  have x6 := BL.hid F6.ns p6
  obtain ⟨l6, _, _, rfl, _⟩ := id p6
  (try clear N5)
  (try clear F5)
  (try clear up6)
  k_steps
  refine ⟨?_⟩
  rename Fr _ _ _ _ => F7
  rename News _ _ _ _ => N7
  obtain ⟨l7, t8, n8, q7, e7⟩ := BL.up (hopH F7 N7 cov (by (intro p hp; repeat (first | exact hp | apply List.Mem.tail)))) x6
  cases q7
  refine ne_body ⟨_, e7, rfl, _, rfl⟩ (isL_of_news N7 (.head _) rfl) hu ?_
  have N8 : News g L _ ((L + 1 + 1, o2) :: (L + 1, o1) :: rest6) := fun p hp => N7 p (.tail _ hp)
  clear N7 x6 p6
  k_steps
  rename Fr _ _ _ _ => F9
  rename News _ _ _ _ => N9
  (try clear N8)
  (try clear F7)
  refine ⟨use_law (c1 := (L + 1, o1)) (c2 := (L + 1 + 1, o2)) (P := fun v h => FL h v [r1]) (by assumption) (by assumption) cov (by (intro p hp; repeat (first | exact hp | apply List.Mem.tail))) (by repeat (first | exact .head _ | apply List.Mem.tail)) (by repeat (first | exact .head _ | apply List.Mem.tail)) (wpAny_mono (only_words_spec (C.up (Fr.keep (by assumption))) (r.less (by decide)) (FL.up (hopH (by assumption) (by assumption) cov (by (intro p hp; repeat (first | exact hp | apply List.Mem.tail)))) hg) okw (by omega) (ws := [Str.ofString "none", asStr r1.1]) ⟨_, [.str _ _, .str _ _], rfl, ⟨0, (N9 _ (.head _)).1⟩, .cons _ _ (.cons _ _ .nil)⟩ (fun x hx => by rcases List.mem_cons.mp hx with rfl | hx; exact ⟨by decide, by decide⟩; rw [List.mem_singleton.mp hx]; exact hwk) (by simp)) (fun v s' x => ⟨⟨ow_none ok1 okw hwl ▸ x.out.1, x.out.2⟩⟩) fun _ _ e => e) ?_⟩
  intro v7 hh7 tk7 rest7 p7 up7 F7 N7 cov7
  replace hf := FL.up up7 hf
  replace fA := FieldAt.up up7 fA
  replace fB := FieldAt.up up7 fB
  replace hb := RL.up up7 hb
  replace hg := FL.up up7 hg
  replace cov := cov7
  have x7 := FL.hid F7.ns (by first | rfl | exact hm0) p7
  obtain ⟨l7, _, rfl, _⟩ := id p7
  (try clear up7)
  (try clear N9)
  (try clear F9)
  k_steps
  refine ⟨use_law (c1 := (L + 1, o1)) (c2 := (L + 1 + 1, o2)) (P := fun v h => RL h v [r1]) (by assumption) (by assumption) cov (by (intro p hp; repeat (first | exact hp | apply List.Mem.tail))) (by repeat (first | exact .head _ | apply List.Mem.tail)) (by repeat (first | exact .head _ | apply List.Mem.tail)) (law_told_spec (C.up (Fr.keep (by assumption))) (r.less (by decide)) (FL.up (hopH (by assumption) (by assumption) cov (by (intro p hp; repeat (first | exact hp | apply List.Mem.tail)))) x7) (by simp)) ?_⟩
  intro v8 hh8 tk8 rest8 p8 up8 F8 N8 cov8
  replace hf := FL.up up8 hf
  replace fA := FieldAt.up up8 fA
  replace fB := FieldAt.up up8 fB
  replace hb := RL.up up8 hb
  replace hg := FL.up up8 hg
  replace cov := cov8
  have x8 := RL.hid F8.ns p8
  obtain ⟨l8, _, rfl, _⟩ := id p8
  (try clear up8)
  (try clear x7)
  (try clear N7)
  (try clear F7)
  k_steps
  refine ⟨use_law (c1 := (L + 1, o1)) (c2 := (L + 1 + 1, o2)) (P := fun v h => RowAt h v (r1.1, r1.2)) (by assumption) (by assumption) cov (by (intro p hp; repeat (first | exact hp | apply List.Mem.tail))) (by repeat (first | exact .head _ | apply List.Mem.tail)) (by repeat (first | exact .head _ | apply List.Mem.tail)) (told_row (C.up (Fr.keep (by assumption))) (r.less (by decide)) (FieldAt.up (hopH (by assumption) (by assumption) cov (by (intro p hp; repeat (first | exact hp | apply List.Mem.tail)))) fA)) ?_⟩
  intro v9 hh9 tk9 rest9 p9 up9 F9 N9 cov9
  replace hf := FL.up up9 hf
  replace fA := FieldAt.up up9 fA
  replace fB := FieldAt.up up9 fB
  replace hb := RL.up up9 hb
  replace hg := FL.up up9 hg
  replace x8 := RL.up up9 x8
  replace cov := cov9
  have x9 := RowAt.hid F9.ns p9
  obtain ⟨l9, _, _, rfl, _⟩ := id p9
  (try clear N8)
  (try clear F8)
  (try clear up9)
  k_steps
  rename Fr _ _ _ _ => F10
  rename News _ _ _ _ => N10
  have up10 := hop F10 N10 cov (by (intro p hp; repeat (first | exact hp | apply List.Mem.tail)))
  refine ⟨ne_rows (rs := [r1]) (RL.up (Up.trans up10 hid_of) x8) ⟨_, [.ref l9], rfl, ⟨0, (N10 _ (.head _)).1⟩, .cons (RowAt.up (Up.trans up10 hid_of) x9) .nil⟩ hu ?_⟩
  replace hf := FL.up up10 hf
  replace fA := FieldAt.up up10 fA
  replace fB := FieldAt.up up10 fB
  replace hb := RL.up up10 hb
  replace hg := FL.up up10 hg
  refine wpAny_truthy_bool ?_
  rw [if_neg Bool.false_ne_true]
  refine wpAny_execs_nil ?_
  show wpAny _ _ (execs _ _) _ _ _
  have q := fun tk => nxt _ tk _ _ _ _ F10 (fun p hp => N10 p (.tail _ (by rcases List.mem_cons.mp hp with rfl | hp; exact .head _; rw [List.mem_singleton.mp hp]; exact .tail _ (.head _)))) ok hz ok1 ok2 hf fA fB hb hg
  with_reducible refine wpAny_mono (q _).out ?_ ?_
  rotate_left
  · exact fun _ _ e => e.elim
  intro fl s' x
  obtain ⟨⟨e, h, tk, rfl, k⟩⟩ := x
  exact ⟨⟨e, h, tk, rfl, k⟩⟩
local macro_rules | `(tactic| walk_at "execs cons") => `(tactic| ((with_reducible show wpAny _ _ (execs (Stmt.Assign [Expr.Name (Str.ofString "body") _] _ _ :: _) _) _ _ _); refine Stop.go ?_))
theorem segB {prog : Program} {w : World} {A : Around} {s : Shared} {h : Heap} {tk : Nat} {code : List Stmt} {g : Heap} {L : Addr} {m₀ : Str → Option Value} {o1 o2 : Obj} {nm0 qual : Str} {params : Arguments} {body : List Stmt} {scope : Scope} {dV kV doc pm cdv ct oc cdw : Value} {fa : Addr} {an od : Option Addr} {osl : Array (Option Value)}
    {a1 a2 : Addr} {vf : Value} {rs : List Row} {r1 r2 : Row}
    (ho : List.lookup 143 (Mine.hd.heap_39 w.params) = some ⟨oc, od, .func (fnOf nm0 qual params body scope dV kV doc pm an cdv ct), osl⟩) (hcode : body.drop 3 = code)
    (C : Cx w g) (r : Rm A 10) (hm0 : m₀ (Str.ofString "raw") = none) (d2 : o2.data = .cell (some (.ref a1)))
    (F : Fr g L h (fun y => if y = Str.ofString "other" then some (.ref a2) else if y = Str.ofString "fields" then some (vf) else m₀ y)) (N : News g L h [(L + 1 + 1, o2), (L + 1, o1)])
    (ok : ∀ x ∈ rs, RowOk x) (hz : rs.length ≤ 900) (ok1 : RowOk r1) (ok2 : RowOk r2) (hf : FL (hid L h) vf rs) (fA : FieldAt (hid L h) a1 r1.1 r1.2) (fB : FieldAt (hid L h) a2 r2.1 r2.2) :
    Out (wpAny (model prog w) A (execs code (envOfC qual scope L fa cdw)) (fun fl s' => Out (fl = .ret (.bool true) ∧ KeepsG g s s')) (fun _ _ => False) { s with heap := h, toks := tk }) := by
  have nxt := fun (h' : Heap) (tk' : Nat) (vb vg : Value) => segC (prog := prog) (w := w) (A := A) (s := s) (h := h') (tk := tk') (L := L) (m₀ := m₀) (o1 := o1) (o2 := o2) (a1 := a1) (a2 := a2) (vf := vf) (rs := rs) (r1 := r1) (r2 := r2) (fa := fa) (cdw := cdw) (vb := vb) (vg := vg) ho rfl C r hm0 d2
  obtain ⟨rfl, rfl, rfl, rfl⟩ := fn_inj (ho.symm.trans (by k_is))
  subst hcode
  refine ⟨?_⟩
  rcases A with ⟨hd, dp, fr, gd, un⟩
  obtain rfl : hd = none := r.hh
  have hu : un + 10 < cLine := by have := r.u; unfold cLine; exact Nat.lt_of_le_of_lt (by show un + 10 ≤ un + 4 * 10; omega) (Nat.lt_trans this (by decide))
  obtain ⟨p, loose, mean, mg, mb, T⟩ := C.T
  have X := C.X
  obtain ⟨rest, N0, cov⟩ := exists_cov F
  have NI : News g L h ((L + 1 + 1, o2) :: (L + 1, o1) :: rest) := fun p hp => by
    rcases List.mem_cons.mp hp with rfl | hp
    · exact N _ (.head _)
    rcases List.mem_cons.mp hp with rfl | hp
    · exact N _ (.tail _ (.head _))
    · exact N0 _ hp
  clear N N0
  simp only [List.drop] at nxt ⊢
  try k_unmd
  k_fold
  have okw := wf_ok ok ok1
  have lw : (wf rs r1).length ≤ 950 := Nat.le_trans wfG_len (by omega)
  have lww : (wf (wf rs r1) r1).length ≤ 990 := Nat.le_trans wfG_len (by omega)
  obtain ⟨lf, _, rfl, _⟩ := id hf
  k_steps
  refine ⟨use_law (c1 := (L + 1, o1)) (c2 := (L + 1 + 1, o2)) (P := fun v h => RL h v (rs)) (by assumption) (by assumption) cov (by (intro p hp; repeat (first | exact hp | apply List.Mem.tail))) (by repeat (first | exact .head _ | apply List.Mem.tail)) (by repeat (first | exact .head _ | apply List.Mem.tail)) (law_told_spec (C.up (Fr.keep (by assumption))) (r.less (by decide)) (FL.up (hopH (by assumption) (by assumption) cov (by (intro p hp; repeat (first | exact hp | apply List.Mem.tail)))) hf) (by omega)) ?_⟩
  intro v1 hh1 tk1 rest1 p1 up1 F1 N1 cov1
  replace hf := FL.up up1 hf
  replace fA := FieldAt.up up1 fA
  replace fB := FieldAt.up up1 fB
  replace cov := cov1
  have hb := RL.hid F1.ns p1
  obtain ⟨l1, _, rfl, _⟩ := id p1
  (try clear up1)
  (try clear NI)
  (try clear F)
  k_steps
  refine ⟨use_law (c1 := (L + 1, o1)) (c2 := (L + 1 + 1, o2)) (P := fun v h => FL h v (wf rs r1)) (by assumption) (by assumption) cov (by (intro p hp; repeat (first | exact hp | apply List.Mem.tail))) (by repeat (first | exact .head _ | apply List.Mem.tail)) (by repeat (first | exact .head _ | apply List.Mem.tail)) (with_field_spec (C.up (Fr.keep (by assumption))) (r.less (by decide)) (FL.up (hopH (by assumption) (by assumption) cov (by (intro p hp; repeat (first | exact hp | apply List.Mem.tail)))) hf) ok (by omega) (FieldAt.up (hopH (by assumption) (by assumption) cov (by (intro p hp; repeat (first | exact hp | apply List.Mem.tail)))) fA) ok1) ?_⟩
  intro v2 hh2 tk2 rest2 p2 up2 F2 N2 cov2
  replace hf := FL.up up2 hf
  replace fA := FieldAt.up up2 fA
  replace fB := FieldAt.up up2 fB
  replace hb := RL.up up2 hb
  replace cov := cov2
  have hg := FL.hid F2.ns (by first | rfl | exact hm0) p2
  obtain ⟨l2, _, rfl, _⟩ := id p2
  (try clear up2)
  (try clear N1)
  (try clear F1)
  k_steps
  refine ⟨use_law (c1 := (L + 1, o1)) (c2 := (L + 1 + 1, o2)) (P := fun v h => RL h v (wf rs r1)) (by assumption) (by assumption) cov (by (intro p hp; repeat (first | exact hp | apply List.Mem.tail))) (by repeat (first | exact .head _ | apply List.Mem.tail)) (by repeat (first | exact .head _ | apply List.Mem.tail)) (law_told_spec (C.up (Fr.keep (by assumption))) (r.less (by decide)) (FL.up (hopH (by assumption) (by assumption) cov (by (intro p hp; repeat (first | exact hp | apply List.Mem.tail)))) hg) (by omega)) ?_⟩
  intro v3 hh3 tk3 rest3 p3 up3 F3 N3 cov3
  replace hf := FL.up up3 hf
  replace fA := FieldAt.up up3 fA
  replace fB := FieldAt.up up3 fB
  replace hb := RL.up up3 hb
  replace hg := FL.up up3 hg
  replace cov := cov3
  have x3 := RL.hid F3.ns p3
  obtain ⟨l3, _, rfl, _⟩ := id p3
  (try clear up3)
  (try clear N2)
  (try clear F2)
  k_steps
  refine ⟨use_law (c1 := (L + 1, o1)) (c2 := (L + 1 + 1, o2)) (P := fun v h => RowAt h v (r1.1, r1.2)) (by assumption) (by assumption) cov (by (intro p hp; repeat (first | exact hp | apply List.Mem.tail))) (by repeat (first | exact .head _ | apply List.Mem.tail)) (by repeat (first | exact .head _ | apply List.Mem.tail)) (told_row (C.up (Fr.keep (by assumption))) (r.less (by decide)) (FieldAt.up (hopH (by assumption) (by assumption) cov (by (intro p hp; repeat (first | exact hp | apply List.Mem.tail)))) fA)) ?_⟩
  intro v4 hh4 tk4 rest4 p4 up4 F4 N4 cov4
  replace hf := FL.up up4 hf
  replace fA := FieldAt.up up4 fA
  replace fB := FieldAt.up up4 fB
  replace hb := RL.up up4 hb
  replace hg := FL.up up4 hg
  replace x3 := RL.up up4 x3
  replace cov := cov4
  have x4 := RowAt.hid F4.ns p4
  obtain ⟨l4, _, _, rfl, _⟩ := id p4
  (try clear N3)
  (try clear F3)
  (try clear up4)
  k_steps
  refine ⟨use_law (c1 := (L + 1, o1)) (c2 := (L + 1 + 1, o2)) (P := fun v h => RL h v (due rs r1)) (by assumption) (by assumption) cov (by (intro p hp; repeat (first | exact hp | apply List.Mem.tail))) (by repeat (first | exact .head _ | apply List.Mem.tail)) (by repeat (first | exact .head _ | apply List.Mem.tail)) (law_due_spec (C.up (Fr.keep (by assumption))) (r.less (by decide)) (RL.up (hopH (by assumption) (by assumption) cov (by (intro p hp; repeat (first | exact hp | apply List.Mem.tail)))) hb) ok (by omega) (RowAt.up (hopH (by assumption) (by assumption) cov (by (intro p hp; repeat (first | exact hp | apply List.Mem.tail)))) x4) ok1) ?_⟩
  intro v5 hh5 tk5 rest5 p5 up5 F5 N5 cov5
  replace hf := FL.up up5 hf
  replace fA := FieldAt.up up5 fA
  replace fB := FieldAt.up up5 fB
  replace hb := RL.up up5 hb
  replace hg := FL.up up5 hg
  replace x3 := RL.up up5 x3
  replace cov := cov5
  have x5 := RL.hid F5.ns p5
  obtain ⟨l5, _, rfl, _⟩ := id p5
  (try clear up5)
  (try clear N4)
  (try clear F4)
  rw [← wf_due ok ok1] at x5
  k_steps
  refine ⟨ne_rows (RL.up (hopH (by assumption) (by assumption) cov (by (intro p hp; repeat (first | exact hp | apply List.Mem.tail)))) x3) (RL.up (hopH (by assumption) (by assumption) cov (by (intro p hp; repeat (first | exact hp | apply List.Mem.tail)))) x5) hu ?_⟩
  clear x3 x5
  k_steps
  refine ⟨use_law (c1 := (L + 1, o1)) (c2 := (L + 1 + 1, o2)) (P := fun v h => RL h v (rs)) (by assumption) (by assumption) cov (by (intro p hp; repeat (first | exact hp | apply List.Mem.tail))) (by repeat (first | exact .head _ | apply List.Mem.tail)) (by repeat (first | exact .head _ | apply List.Mem.tail)) (law_told_spec (C.up (Fr.keep (by assumption))) (r.less (by decide)) (FL.up (hopH (by assumption) (by assumption) cov (by (intro p hp; repeat (first | exact hp | apply List.Mem.tail)))) hf) (by omega)) ?_⟩
  intro v6 hh6 tk6 rest6 p6 up6 F6 N6 cov6
  replace hf := FL.up up6 hf
  replace fA := FieldAt.up up6 fA
  replace fB := FieldAt.up up6 fB
  replace hb := RL.up up6 hb
  replace hg := FL.up up6 hg
  replace cov := cov6
  have x6 := RL.hid F6.ns p6
  obtain ⟨l6, _, rfl, _⟩ := id p6
  (try clear up6)
  (try clear N5)
  (try clear F5)
  k_steps
  refine ⟨ne_rows (RL.up (hopH (by assumption) (by assumption) cov (by (intro p hp; repeat (first | exact hp | apply List.Mem.tail)))) x6) (RL.up (hopH (by assumption) (by assumption) cov (by (intro p hp; repeat (first | exact hp | apply List.Mem.tail)))) hb) hu ?_⟩
  clear x6
  k_steps
  refine ⟨use_law (c1 := (L + 1, o1)) (c2 := (L + 1 + 1, o2)) (P := fun v h => FL h v (wf (wf rs r1) r1)) (by assumption) (by assumption) cov (by (intro p hp; repeat (first | exact hp | apply List.Mem.tail))) (by repeat (first | exact .head _ | apply List.Mem.tail)) (by repeat (first | exact .head _ | apply List.Mem.tail)) (with_field_spec (C.up (Fr.keep (by assumption))) (r.less (by decide)) (FL.up (hopH (by assumption) (by assumption) cov (by (intro p hp; repeat (first | exact hp | apply List.Mem.tail)))) hg) okw (by omega) (FieldAt.up (hopH (by assumption) (by assumption) cov (by (intro p hp; repeat (first | exact hp | apply List.Mem.tail)))) fA) ok1) ?_⟩
  intro v7 hh7 tk7 rest7 p7 up7 F7 N7 cov7
  replace hf := FL.up up7 hf
  replace fA := FieldAt.up up7 fA
  replace fB := FieldAt.up up7 fB
  replace hb := RL.up up7 hb
  replace hg := FL.up up7 hg
  replace cov := cov7
  have x7 := FL.hid F7.ns (by first | rfl | exact hm0) p7
  obtain ⟨l7, _, rfl, _⟩ := id p7
  (try clear up7)
  (try clear N6)
  (try clear F6)
  k_steps
  refine ⟨use_law (c1 := (L + 1, o1)) (c2 := (L + 1 + 1, o2)) (P := fun v h => RL h v (wf (wf rs r1) r1)) (by assumption) (by assumption) cov (by (intro p hp; repeat (first | exact hp | apply List.Mem.tail))) (by repeat (first | exact .head _ | apply List.Mem.tail)) (by repeat (first | exact .head _ | apply List.Mem.tail)) (law_told_spec (C.up (Fr.keep (by assumption))) (r.less (by decide)) (FL.up (hopH (by assumption) (by assumption) cov (by (intro p hp; repeat (first | exact hp | apply List.Mem.tail)))) x7) (by omega)) ?_⟩
  intro v8 hh8 tk8 rest8 p8 up8 F8 N8 cov8
  replace hf := FL.up up8 hf
  replace fA := FieldAt.up up8 fA
  replace fB := FieldAt.up up8 fB
  replace hb := RL.up up8 hb
  replace hg := FL.up up8 hg
  replace cov := cov8
  have x8 := RL.hid F8.ns p8
  obtain ⟨l8, _, rfl, _⟩ := id p8
  (try clear x7)
  (try clear up8)
  (try clear N7)
  (try clear F7)
  rw [wf_again] at x8
  k_steps
  refine ⟨use_law (c1 := (L + 1, o1)) (c2 := (L + 1 + 1, o2)) (P := fun v h => RL h v (wf rs r1)) (by assumption) (by assumption) cov (by (intro p hp; repeat (first | exact hp | apply List.Mem.tail))) (by repeat (first | exact .head _ | apply List.Mem.tail)) (by repeat (first | exact .head _ | apply List.Mem.tail)) (law_told_spec (C.up (Fr.keep (by assumption))) (r.less (by decide)) (FL.up (hopH (by assumption) (by assumption) cov (by (intro p hp; repeat (first | exact hp | apply List.Mem.tail)))) hg) (by omega)) ?_⟩
  intro v9 hh9 tk9 rest9 p9 up9 F9 N9 cov9
  replace hf := FL.up up9 hf
  replace fA := FieldAt.up up9 fA
  replace fB := FieldAt.up up9 fB
  replace hb := RL.up up9 hb
  replace hg := FL.up up9 hg
  replace x8 := RL.up up9 x8
  replace cov := cov9
  have x9 := RL.hid F9.ns p9
  obtain ⟨l9, _, rfl, _⟩ := id p9
  (try clear up9)
  (try clear N8)
  (try clear F8)
  k_steps
  refine ⟨ne_rows (RL.up (hopH (by assumption) (by assumption) cov (by (intro p hp; repeat (first | exact hp | apply List.Mem.tail)))) x8) (RL.up (hopH (by assumption) (by assumption) cov (by (intro p hp; repeat (first | exact hp | apply List.Mem.tail)))) x9) hu ?_⟩
  clear x8 x9
  refine wpAny_truthy_bool ?_
  rw [if_neg Bool.false_ne_true]
  refine wpAny_execs_nil ?_
  show wpAny _ _ (execs _ _) _ _ _
  have q := nxt _ tk9 _ _ (by assumption) (News.cells (by assumption)) ok hz ok1 ok2 hf fA fB hb hg
  with_reducible refine wpAny_mono q.out ?_ ?_
  rotate_left
  · exact fun _ _ e => e.elim
  intro fl s' x
  obtain ⟨⟨e, h, tk, rfl, k⟩⟩ := x
  exact ⟨⟨e, h, tk, rfl, k⟩⟩
local macro_rules | `(tactic| walk_at "storeName") => `(tactic| ((with_reducible show wpAny _ _ (storeName _ (Str.ofString "one") _) _ _ _); refine Stop.go ?_))
local macro_rules | `(tactic| walk_at "execs cons") => `(tactic| ((with_reducible show wpAny _ _ (execs (Stmt.Assign [Expr.Name (Str.ofString "before") _] _ _ :: _) _) _ _ _); refine Stop.go ?_))
local macro_rules | `(tactic| walk_at "call ref") => `(tactic| ((with_reducible show wpAny _ _ (call (Value.ref 123) _) _ _ _); refine Stop.go ?_))
def CovX (X : List Addr) (g : Heap) (H : Heap) (rest : List (Addr × Obj)) : Prop := ∀ b o, b ∉ X → H.get? b = some o → g.get? b = some o ∨ (b, o) ∈ rest
theorem exists_covX (X : List Addr) {g h : Heap} {L : Addr} {m : Str → Option Value} (F : Fr g L h m) (hL : L ∈ X) : ∃ rest, News g L h rest ∧ (∀ p ∈ rest, p.1 ∉ X) ∧ CovX X g h rest := by
  obtain ⟨rest, N, cov⟩ := exists_cov F
  refine ⟨rest.filter fun p => decide (p.1 ∉ X), fun p hp => N p (List.mem_filter.mp hp).1, fun p hp => of_decide_eq_true (List.mem_filter.mp hp).2, fun b o hb e => ?_⟩
  exact (cov b o (fun q => hb (q ▸ hL)) e).imp id fun hm => List.mem_filter.mpr ⟨hm, decide_eq_true hb⟩
theorem hidX_get {X : List Addr} {h : Heap} {b : Addr} {o : Obj} (e : (hideAll h X).get? b = some o) : b ∉ X ∧ h.get? b = some o := by
  refine ⟨fun q => ?_, of_hideAll _ e⟩
  rw [hideAll_none _ q] at e; cases e
theorem hopX {X : List Addr} {g H h' : Heap} {L : Addr} {m' : Str → Option Value} {rest news : List (Addr × Obj)} (F : Fr g L h' m') (N : News g L h' news) (cov : CovX X g H rest) (sub : ∀ p ∈ rest, p ∈ news) : Up (hideAll H X) (hideAll h' X) := fun b o e =>
  hideAll_get _ ((cov b o (hidX_get e).1 (hidX_get e).2).elim (F.keep b o) fun q => (N _ (sub _ q)).1) (hidX_get e).1
theorem upX {X : List Addr} {D : Addr} {h h' : Heap} (hD : D ∈ X) (k : ∀ b o, b ∉ [D] → h.get? b = some o → h'.get? b = some o) : Up (hideAll h X) (hideAll h' X) := fun b o e => by
  refine hideAll_get _ (k b o (fun z => (hidX_get e).1 ?_) (hidX_get e).2) (hidX_get e).1
  rw [List.mem_singleton.mp z]; exact hD
theorem hidX_up {X : List Addr} {L : Addr} {h : Heap} (hL : L ∈ X) : Up (hideAll h X) (hid L h) := fun b o e => hid_get (hidX_get e).2 fun q => (hidX_get e).1 (q ▸ hL)
theorem ne_of_data {h : Heap} {a b : Addr} {o o' : Obj} (e : h.get? a = some o) (e' : h.get? b = some o') (hd : o.data ≠ o'.data) : a ≠ b := fun q => by
  subst q; rw [e] at e'; cases e'; exact hd rfl
theorem FieldAt.hid3 {h : Heap} {L a D c : Addr} {m : Str → Option Value} {nm raw : Array UInt8} {oD oc : Obj} {its : Array Value} {k : Nat} {v : Option Value} (n : h.Ns L m) (hm : m (Str.ofString "raw") = none)
    (eD : h.get? D = some oD) (dD : oD.data = .seq its k) (ec : h.get? c = some oc) (dc : oc.data = .cell v) (x : FieldAt h a nm raw) : FieldAt (hideAll h [L, D, c]) a nm raw := by
  have y := FieldAt.hid n hm x
  obtain ⟨dx, h1, k1, t1, h2, k2, t2, q, e1, e2⟩ := y
  refine ⟨dx, h1, k1, t1, h2, k2, t2, q, hideAll_get _ (hid_of _ _ e1) ?_, hideAll_get _ (hid_of _ _ e2) ?_⟩
  · intro z
    rcases List.mem_cons.mp z with rfl | z
    · exact hid_ne e1 rfl
    rcases List.mem_cons.mp z with rfl | z
    · exact ne_of_data (hid_of _ _ e1) eD (by rw [dD]; exact fun q => nomatch q) rfl
    · rw [List.mem_singleton.mp z] at e1
      exact ne_of_data (hid_of _ _ e1) ec (by rw [dc]; exact fun q => nomatch q) rfl
  · intro z
    rcases List.mem_cons.mp z with rfl | z
    · exact hid_ne e2 rfl
    rcases List.mem_cons.mp z with rfl | z
    · exact ne_of_data (hid_of _ _ e2) eD (by rw [dD]; exact fun q => nomatch q) rfl
    · rw [List.mem_singleton.mp z] at e2
      exact ne_of_data (hid_of _ _ e2) ec (by rw [dc]; exact fun q => nomatch q) rfl
theorem rows_of_flds {h : Heap} {vs ys : List Value} (x : Paired (fun (_ y : Value) => ∃ r, RowOk r ∧ FdAt h y r) vs ys) : ∃ rs, FdsAt h ys rs ∧ (∀ r ∈ rs, RowOk r) ∧ rs.length = vs.length := by
  induction x with
  | nil => exact ⟨[], .nil, (fun _ h => nomatch h), rfl⟩
  | cons a _ ih =>
    obtain ⟨r, okr, f⟩ := a
    obtain ⟨rs, i1, i2, i3⟩ := ih
    exact ⟨r :: rs, .cons f i1, fun y hy => (List.mem_cons.mp hy).elim (fun e => e ▸ okr) (i2 y), by simp [i3]⟩
theorem pool_ints {vs ys : List Value} (h : Paired (fun (_ y : Value) => ∃ x u, y = Value.int x u ∧ 0 ≤ x ∧ x < (10 : Int) ^ 80) vs ys) : ∃ ns : List Int, IntsAre ys ns ∧ ns.length = vs.length ∧ ∀ x ∈ ns, 0 ≤ x ∧ x < (10 : Int) ^ 80 := by
  induction h with
  | nil => exact ⟨[], .nil, rfl, fun _ h => nomatch h⟩
  | cons a _ ih =>
    obtain ⟨x, u, rfl, b⟩ := a
    obtain ⟨ns, i1, i2, i3⟩ := ih
    exact ⟨x :: ns, .cons _ _ i1, by simp [i2], fun y hy => (List.mem_cons.mp hy).elim (fun e => e ▸ b) (i3 y)⟩
theorem ints_get {vs : List Value} {ns : List Int} (h : IntsAre vs ns) : ∀ v ∈ vs, ∃ x t, v = .int x t := by
  induction h with
  | nil => intro v hv; cases hv
  | cons x t _ ih => intro v hv; rcases List.mem_cons.mp hv with rfl | hv; exact ⟨_, _, rfl⟩; exact ih v hv
theorem segA {prog : Program} {w : World} {A : Around} {s : Shared} {h : Heap} {tk : Nat} {code : List Stmt} {g : Heap} {L : Addr} {m₀ : Str → Option Value} {o1 o2 : Obj} {nm0 qual : Str} {params : Arguments} {body : List Stmt} {scope : Scope} {dV kV doc pm cdv ct oc cdw : Value} {fa : Addr} {an od : Option Addr} {osl : Array (Option Value)}
    {ls : Addr} {vs : List Value} {ns : List Int}
    (ho : List.lookup 143 (Mine.hd.heap_39 w.params) = some ⟨oc, od, .func (fnOf nm0 qual params body scope dV kV doc pm an cdv ct), osl⟩) (hcode : body = code)
    (C : Cx w g) (r : Rm A 12) (hm0 : m₀ (Str.ofString "raw") = none) (d1 : o1.data = .cell none) (d2 : o2.data = .cell none)
    (hls : g.IsList ls vs.toArray) (his : IntsAre vs ns) (hns : ns.length ≤ 63)
    (F : Fr g L h (fun y => if y = Str.ofString "script" then some (.ref ls) else m₀ y)) (N : News g L h [(L + 1 + 1, o2), (L + 1, o1)]) :
    Out (wpAny (model prog w) A (execs code (envOfC qual scope L fa cdw)) (fun fl s' => Out (fl = .ret (.bool true) ∧ KeepsG g s s')) (fun _ _ => False) { s with heap := h, toks := tk }) := by
  have nxt := fun (h' : Heap) (tk' : Nat) (o1 o2 : Obj) (a1 a2 : Addr) (vf : Value) (rs : List Row) (r1 r2 : Row) => segB (prog := prog) (w := w) (A := A) (s := s) (h := h') (tk := tk') (L := L) (m₀ := fun y => if y = Str.ofString "script" then some (.ref ls) else m₀ y) (o1 := o1) (o2 := o2) (a1 := a1) (a2 := a2) (vf := vf) (rs := rs) (r1 := r1) (r2 := r2) (fa := fa) (cdw := cdw) ho rfl C (r.less (by decide)) hm0
  obtain ⟨rfl, rfl, rfl, rfl⟩ := fn_inj (ho.symm.trans (by k_is))
  subst hcode
  refine ⟨?_⟩
  rcases A with ⟨hd, dp, fr, gd, un⟩
  obtain rfl : hd = none := r.hh
  obtain ⟨p, loose, mean, mg, mb, T⟩ := C.T
  have X := C.X
  simp only [List.drop] at nxt
  try k_unmd
  k_fold
  refine wpAny_execs_cons ?_
  refine wpAny_Assign_Name ?_
  refine comp_ev (cl := []) (nn := (vs.take 24).toArray.size) (P := fun i v => (vs.take 24).toArray[i]? = some v) (fun _ => true) (fun _ v y => ∃ x u, y = Value.int x u ∧ 0 ≤ x ∧ x < 10 ^ 80) rfl (by decide) rfl (by decide) rfl ?_ (by rw [sizeLine_eq, List.size_toArray, List.length_take]; omega) ?_ ?_ ?_
  · k_steps
    refine ⟨slice_up (hi := some 24) (hls.at fun o e => Fr.keep (by assumption) _ o e) .none (.int _ _) ?_ (by with_unfolding_all rfl) (by intro _; with_unfolding_all rfl) (by have := his.length; rw [sizeLine_eq, List.size_toArray]; omega)⟩
    rw [show slicePick vs.toArray none (some 24) none = (vs.take 24).toArray from slicePick_upto' vs.toArray 24]
    k_steps
    exact ⟨⟨_, _, rfl, fun b o e => Heap.get?_push_of_some _ (Heap.get?_push_of_some _ e)⟩, src_list r.hh (items := (vs.take 24).toArray) ⟨_, Heap.get?_push_size _ rfl, rfl, _, rfl⟩⟩
  · intro g' C' i v s₃ m₃ E' _ _ _ _
    exact wpAny_tests_nil ⟨⟨rfl, Keeps.rfl'⟩⟩
  · intro g' C' i v s₃ m₃ E' hg' F' hm hP _
    obtain ⟨x, tx, rfl⟩ := ints_get his v (List.mem_of_mem_take (List.mem_of_getElem? (by simpa using hP)))
    have Cg : Cx w g' := C.up (Up.trans F.keep hg')
    clear F N X T
    obtain ⟨p, loose, mean, mg, mb, T⟩ := Cg.T
    have X := Cg.X
    have N : News g' C' s₃.heap [] := News.nil
    k_steps
    refine ⟨⟨fun _ _ _ => ⟨_, _, rfl, ?_, ?_⟩, _, _, rfl, fun _ _ e => e⟩⟩
    · show 0 ≤ Int.fmod _ _
      rw [Int.fmod_eq_emod_of_nonneg _ (by decide)]
      exact Int.emod_nonneg _ (by decide)
    · show Int.fmod _ _ < _
      rw [Int.fmod_eq_emod_of_nonneg _ (by decide)]
      exact Int.emod_lt_of_pos _ (by decide)
  intro D h₂ tk₂ ys vs₂ hD hpl hlen hP hFF hup
  have hDc : @Ne Nat D (L + 1) := fun q => by rw [q, show (Shared.heap _).get? (L + 1) = some o1 from (N _ (.tail _ (.head _))).1] at hD; cases hD
  have hDL : @Ne Nat D L := fun q => by
    obtain ⟨oL, _, _, e, _⟩ := F.ns
    rw [q, show (Shared.heap _).get? L = some oL from e] at hD; cases hD
  have hDg : g.get? D = none := by
    cases q : g.get? D with
    | none => rfl
    | some o => rw [show (Shared.heap _).get? D = some o from F.keep _ _ q] at hD; cases hD
  obtain ⟨po, hpo, hPo⟩ : ∃ po, h₂.get? D = some po ∧ PoolO po := by
    rw [filter_tt] at hFF
    obtain ⟨n, q⟩ := hpl
    obtain ⟨ns', i1, i2, i3⟩ := pool_ints hFF
    refine ⟨_, q, ys.toList, ns', n, by simp [W.listOf], i1, ?_, i3⟩
    rw [i2, hlen, List.size_toArray, List.length_take]; omega
  have F₂ := F.keeps hup
  have N₂ : News g L h₂ ([(L + 1 + 1, o2)] ++ (L + 1, o1) :: [(D, po)]) := fun p hp => by
    rcases List.mem_cons.mp hp with rfl | hp
    · exact N.grown hup _ (.head _)
    rcases List.mem_cons.mp hp with rfl | hp
    · exact N.grown hup _ (.tail _ (.head _))
    rw [List.mem_singleton.mp hp]
    exact ⟨hpo, hDL, hDg⟩
  clear F N hFF hP hlen hpl
  refine stCN F₂ N₂ rfl d1 (fun p hp => by rw [List.mem_singleton.mp hp]; exact Nat.ne_of_gt (Nat.lt_succ_self _)) (fun p hp => by rw [List.mem_singleton.mp hp]; exact hDc) ?_
  intro h₃ o3 F₃ N₃ d3
  clear F₂ N₂
  k_steps
  obtain ⟨pvs, pns, pn, rfl, pi, pl, pb⟩ := hPo
  have hcP : h₃.IsCell (L + 1) (some (.ref D)) := ⟨o3, (N₃ (L + 1, o3) (by simp)).1, d3⟩
  have hpD : h₃.get? D = some (W.listOf pvs.toArray pn) := (N₃ (D, _) (by simp)).1
  have tv := takeV_in (ns := pns) (m := 7) (by decide)
  have N₄ : News g L h₃ [(L + 1 + 1, o2), (L + 1, o3)] := fun p hp => N₃ p (by
    rcases List.mem_cons.mp hp with rfl | hp
    · exact .head _
    rw [List.mem_singleton.mp hp]; exact .tail _ (.head _))
  refine ⟨?_⟩
  refine comp_asg_mu (mu := [D]) (cl := [(Str.ofString "pool", L + 1)]) (nn := (takeV pns 7).toNat) (P := fun i v => ∃ t, v = .int (i : Int) t) (fun _ => true) (fun h v y => ∃ r, RowOk r ∧ FdAt h y r) (fun h => PoolAt D h) rfl F₃.ns (fun q => hDL (List.mem_singleton.mp q).symm) rfl rfl (by decide) rfl (by decide) rfl rfl rfl
    (fun h h' ⟨vs, ns, n, e, r⟩ k => ⟨vs, ns, n, k D (.head _) _ e, r⟩) (fun h ⟨vs, ns, n, e, r⟩ b hb => by rw [List.mem_singleton.mp hb, e]; exact fun q => nomatch q) ?_ (by rw [sizeLine_eq]; omega) ?_ ?_ ?_
  · k_steps
    have hD2 : @Ne Nat D (L + 1 + 1) := fun q => by
      have e1 := (N₄ (L + 1 + 1, o2) (.head _)).1
      rw [← show D = L + 1 + 1 from q, hpD] at e1
      cases e1
      cases d2
    refine ⟨use_mu (P := fun v _ => ∃ t, v = .int (takeV pns 7) t) [(L + 1 + 1, o2), (L + 1, o3)] F₃ N₄ (fun p hp => by
      rcases List.mem_cons.mp hp with rfl | hp
      · exact fun q => hD2 q.symm
      rw [List.mem_singleton.mp hp]; exact fun q => hDc q.symm) hDg hDL (law_take_val C F₃.keep hDg (r.less (by decide)) hpD pi pl pb (by decide) (by decide)) ?_⟩
    rintro v h₆ tk₆ o₆ ⟨t₆, rfl⟩ F₆ N₆ ho₆ k₆
    k_steps
    refine ⟨call_range_1 ?_⟩
    k_steps
    refine ⟨⟨_, _, rfl, fun b o nb e => Heap.get?_push_of_some _ (k₆ b o nb e)⟩, PoolO.at ho₆ (Heap.get?_push_of_some _ (N₆ _ (.head _)).1), ?_, ?_⟩
    · refine srcMono (src_range (a := 0) (b := takeV pns 7) (c := 1) r.hh (IsRange.new h₆ _ _ _ _ _ _) (small_one (a := 0) (b := takeV pns 7) (by omega) (by omega) (by omega) (by omega)) (by rw [rangeSize_one]; split <;> omega)) fun i v ⟨t, e⟩ => ⟨t, by rw [e]; congr 1; omega⟩
    · intro b hb q
      injection q with q
      rcases List.mem_cons.mp hb with rfl | hb
      · exact absurd q (Nat.ne_of_gt F₆.ns.lt)
      · rw [List.mem_singleton.mp hb] at q
        exact absurd q (Nat.ne_of_gt (Heap.lt_size (N₆ _ (.head _)).1))
  · intro g' C' i v s₃ m₃ E' _ _ _ _ _ _
    exact wpAny_tests_nil ⟨⟨rfl, Keeps.rfl'⟩⟩
  · intro g' C' i v s₃ m₃ E' hg' hgn F' hm hP _ hpool
    have hcg : g'.IsCell (L + 1) (some (.ref D)) := by
      obtain ⟨o, e, q⟩ := hcP
      exact ⟨o, hg' _ _ (Nat.ne_of_gt (Nat.lt_succ_self _)) (fun z => hDc (List.mem_singleton.mp z).symm) e, q⟩
    have Cg : Cx w g' := C.up fun b o e => hg' b o (Nat.ne_of_lt (Nat.lt_of_lt_of_le (Heap.lt_size e) F₃.above)) (fun z => by rw [List.mem_singleton.mp z, hDg] at e; cases e) (F₃.keep _ _ e)
    clear F₃ N₃ N₄ X T
    obtain ⟨p, loose, mean, mg, mb, T⟩ := Cg.T
    have X := Cg.X
    have N : News g' C' s₃.heap [] := News.nil
    k_steps
    refine ⟨wpAny_mono (law_field_spec Cg F'.keep (hgn D (.tail _ (.head _))) (r.less (by decide)) hpool) (fun y s₄ q => ?_) fun _ _ e => e⟩
    obtain ⟨⟨⟨a, r, rfl, okr, hfa⟩, q2, q3⟩⟩ := q
    exact ⟨⟨fun h₅ _ nu => ⟨r, okr, a, rfl, hfa h₅ nu⟩, q2, q3⟩⟩
  intro D₂ h₅ tk₅ ys₅ vs₅ hD₂ hpl₅ hI₅ hlen₅ hP₅ hF₅ hup₅ hN₅ hD₂L
  have F₅ : Fr g L h₅ _ := ⟨hN₅, fun b o e => hup₅ b o (Nat.ne_of_lt (Nat.lt_of_lt_of_le (Heap.lt_size e) F₃.above)) (fun z => by rw [List.mem_singleton.mp z, hDg] at e; cases e) (F₃.keep _ _ e), F₃.above⟩
  have hDc2 : @Ne Nat D (L + 1 + 1) := fun q => by
    have e1 := (N₄ (L + 1 + 1, o2) (.head _)).1
    rw [← show D = L + 1 + 1 from q, hpD] at e1
    cases e1
    cases d2
  have N₅ : News g L h₅ [(L + 1 + 1, o2), (L + 1, o3)] := fun p hp => by
    refine ⟨hup₅ _ _ (N₄ p hp).2.1 (fun z => ?_) (N₄ p hp).1, (N₄ p hp).2⟩
    rcases List.mem_cons.mp hp with rfl | hp
    · exact hDc2 (List.mem_singleton.mp z).symm
    · rw [List.mem_singleton.mp hp] at z; exact hDc (List.mem_singleton.mp z).symm
  have hcP₅ : h₅.IsCell (L + 1) (some (.ref D)) := ⟨o3, (N₅ (L + 1, o3) (.tail _ (.head _))).1, d3⟩
  have hD₂X : D₂ ∉ [L, D, L + 1 + 1] := fun z => by
    rcases List.mem_cons.mp z with q | z
    · exact hD₂L q
    rcases List.mem_cons.mp z with q | z
    · rw [q, hpD] at hD₂; cases hD₂
    · rw [List.mem_singleton.mp z, (N₄ (L + 1 + 1, o2) (.head _)).1] at hD₂; cases hD₂
  obtain ⟨po₅, hpo₅, hPo₅⟩ := hI₅.obj
  obtain ⟨qvs, qns, qn, rfl, _⟩ := id hPo₅
  rw [filter_tt] at hF₅
  obtain ⟨rs, hrs, ok, hrl⟩ := rows_of_flds hF₅
  have hz : rs.length ≤ 900 := by
    rw [hrl, hlen₅]; omega
  have hf : FL (hideAll h₅ [L, D, L + 1 + 1]) (.ref D₂) rs := by
    obtain ⟨n, q⟩ := hpl₅
    exact ⟨D₂, ys₅.toList, rfl, ⟨n, by rw [Array.toArray_toList]; exact hideAll_get _ q hD₂X⟩, pairedImp (fun _ _ ⟨a, q, y⟩ => ⟨a, q, FieldAt.hid3 F₅.ns (by exact hm0) hpo₅ rfl (N₅ (L + 1 + 1, o2) (.head _)).1 d2 y⟩) hrs⟩
  clear hD₂X hF₅ hrs hrl hlen₅ hP₅ hpl₅ hup₅ hN₅ F₃ N₃ N₄ hcP hpD hpo₅
  have hpre : ∀ p ∈ [(L + 1 + 1, o2), (L + 1, o3)], @Ne Nat p.1 D := fun p hp => by
    rcases List.mem_cons.mp hp with rfl | hp
    · exact fun q => hDc2 q.symm
    rw [List.mem_singleton.mp hp]; exact fun q => hDc q.symm
  k_steps
  refine ⟨use_mu (P := fun v h => ∃ a r, v = .ref a ∧ RowOk r ∧ FieldAt h a r.1 r.2) [(L + 1 + 1, o2), (L + 1, o3)] F₅ N₅ hpre hDg hDL (wpAny_mono (law_field_spec C (Fr.keep F₅) hDg (r.less (by decide)) hI₅) (fun y s₄ q => (by
    obtain ⟨⟨⟨a, r₁, rfl, okr, hfa⟩, q2, q3⟩⟩ := q
    exact ⟨⟨⟨a, r₁, rfl, okr, hfa _ (fun _ _ _ e => e)⟩, q2, q3⟩⟩)) fun _ _ e => e) ?_⟩
  rintro v hA tkA oA ⟨a1, r1, rfl, ok1, fA⟩ FA NA hoA kA
  replace hf := FL.up (upX (X := [L, D, L + 1 + 1]) (.tail _ (.head _)) kA) hf
  obtain ⟨qvs, qns, qn, rfl, _⟩ := id hoA
  replace fA := FieldAt.hid3 FA.ns (by exact hm0) (NA _ (.head _)).1 rfl (NA (L + 1 + 1, o2) (.tail _ (.head _))).1 d2 fA
  have hIA : PoolAt D hA := PoolO.at hoA (NA _ (.head _)).1
  have hcA : hA.IsCell (L + 1) (some (.ref D)) := ⟨o3, (NA (L + 1, o3) (.tail _ (.tail _ (.head _)))).1, d3⟩
  clear F₅ N₅ hcP₅ hI₅ hPo₅ kA
  k_steps
  refine ⟨use_mu (P := fun v h => ∃ a r, v = .ref a ∧ RowOk r ∧ FieldAt h a r.1 r.2) [(L + 1 + 1, o2), (L + 1, o3)] FA (fun p hp => NA p (.tail _ hp)) hpre hDg hDL (wpAny_mono (law_field_spec C (Fr.keep FA) hDg (r.less (by decide)) hIA) (fun y s₄ q => (by
    obtain ⟨⟨⟨a, r₁, rfl, okr, hfa⟩, q2, q3⟩⟩ := q
    exact ⟨⟨⟨a, r₁, rfl, okr, hfa _ (fun _ _ _ e => e)⟩, q2, q3⟩⟩)) fun _ _ e => e) ?_⟩
  rintro v hB tkB oB ⟨a2, r2, rfl, ok2, fB⟩ FB NB' hoB kB
  have upB := upX (X := [L, D, L + 1 + 1]) (.tail _ (.head _)) kB
  replace hf := FL.up upB hf
  replace fA := FieldAt.up upB fA
  obtain ⟨qvs, qns, qn, rfl, _⟩ := id hoB
  replace fB := FieldAt.hid3 FB.ns (by exact hm0) (NB' _ (.head _)).1 rfl (NB' (L + 1 + 1, o2) (.tail _ (.head _))).1 d2 fB
  obtain ⟨rest, NR, hrX, cov⟩ := exists_covX [L, D, L + 1 + 1] FB (.head _)
  have NB : News g L hB ((D, W.listOf qvs.toArray qn) :: (L + 1 + 1, o2) :: (L + 1, o3) :: rest) := fun p hp => by
    rcases List.mem_cons.mp hp with rfl | hp
    · exact NB' _ (.head _)
    rcases List.mem_cons.mp hp with rfl | hp
    · exact NB' _ (.tail _ (.head _))
    rcases List.mem_cons.mp hp with rfl | hp
    · exact NB' _ (.tail _ (.tail _ (.head _)))
    · exact NR _ hp
  clear FA NA hIA hcA hoA kB upB NB' NR hoB
  k_steps
  refine ⟨?_⟩
  rename Fr _ _ _ _ => F6
  rename News _ _ _ _ => N6
  refine stCN (own := [(_, _), (D, _)]) (rest := (L + 1, o3) :: rest) F6 N6 rfl d2 (fun p hp => ?_) (fun p hp => ?_) ?_
  · rcases List.mem_cons.mp hp with rfl | hp
    · exact ne_of_data (N6 _ (.head _)).1 (N6 (L + 1 + 1, o2) (.tail _ (.tail _ (.head _)))).1 (by rw [d2]; exact fun q => nomatch q)
    · rw [List.mem_singleton.mp hp]; exact hDc2
  · rcases List.mem_cons.mp hp with rfl | hp
    · exact Nat.ne_of_lt (Nat.lt_succ_self _)
    · exact fun q => hrX p hp (q ▸ .tail _ (.tail _ (.head _)))
  intro h7 o7 F7 N7 d7
  k_steps
  refine ⟨?_⟩
  rename Fr _ _ _ _ => F8
  rename News _ _ _ _ => N8
  have up8 := Up.trans (hopX F8 N8 cov (by (intro p hp; repeat (first | exact hp | apply List.Mem.tail)))) (hidX_up (L := L) (.head _))
  replace hf := FL.up up8 hf
  replace fA := FieldAt.up up8 fA
  replace fB := FieldAt.up up8 fB
  show wpAny _ _ (execs _ _) _ _ _
  have q := fun tk => nxt _ tk _ _ _ _ _ _ _ _ d7 F8 (fun p hp => N8 p (by rcases List.mem_cons.mp hp with rfl | hp; exact .tail _ (.tail _ (.head _)); rw [List.mem_singleton.mp hp]; exact .tail _ (.tail _ (.tail _ (.head _))))) ok hz ok1 ok2 hf fA fB
  with_reducible refine wpAny_mono (q _).out ?_ ?_
  rotate_left
  · exact fun _ _ e => e.elim
  intro fl s' x
  obtain ⟨⟨e, h, tk, rfl, k⟩⟩ := x
  exact ⟨⟨e, h, tk, rfl, k⟩⟩
end Mine
theorem Mine.fin_of {M : Model} {A : Around} {cl : List Stmt} {env : Env} {qk : Flow → Shared → Prop} {ek : Value → Shared → Prop} {s s1 : Shared} {g : Heap}
    (q : Mine.Out (wpAny M A (execs cl env) (fun fl s' => Mine.Out (fl = .ret (.bool true) ∧ Mine.KeepsG g s s')) (fun _ _ => False) s1))
    (h : ∀ h' tk, Mine.Up g h' → qk (.ret (.bool true)) { s with heap := h', toks := tk }) : wpAny M A (execs cl env) qk ek s1 := by
  refine wpAny_mono q.out (fun fl s' x => ?_) fun _ _ e => e.elim
  obtain ⟨⟨rfl, h', tk, rfl, k⟩⟩ := x
  exact h h' tk k
theorem Mine.Fr.cong {g h : Heap} {L : Addr} {m m' : Str → Option Value} (F : Fr g L h m) (e : m = m') : Fr g L h m' := e ▸ F
set_option maxRecDepth 100000 in
set_option maxHeartbeats 8000000 in
theorem PySem.Challenge.cw_or0025_01_holds : PySem.Challenge.rw_or0025_01.Holds := by
  refine Mine.hd ?_
  w_on
  k_go0
  all_goals try k_fold
  rename Fr _ _ _ _ => F
  rename News _ _ _ _ => N
  rename Top _ _ _ _ _ _ => T
  rename Heap.IsList _ _ _ => hL
  rename IntsAre _ _ => hI
  rename Frag.In _ _ => KX
  rename ¬ _ => hn
  rename_i e1 e2 _
  refine Mine.fin_of (s := _) (Mine.segA (m₀ := fun _ => none) (by k_is) rfl ⟨KX, _, _, _, _, _, T⟩ ?r rfl ?e1 ?e2 hL hI ?hn (Mine.Fr.cong F ?F) N) ?h
  case r => exact ⟨rfl, Nat.le_of_ble_eq_true rfl, Nat.le_of_ble_eq_true rfl⟩
  case e1 => exact e2
  case e2 => exact e1
  case hn => omega
  case F => rfl
  case h =>
    intro h' tk k
    show GoodW _ _ _ _ _ (.ok (.ret (.bool _))) _
    exact ⟨Or.inl ⟨_, .bool true, [], rfl, raisesW_false (by wrow_none_raised), ReadsW.bool _, (by wrow_post), fun _ => ⟨List.nodup_nil, fun _ h => nomatch h⟩⟩, k, rfl, by assumption⟩
