import PyProof.Rows.All
import Wide.All
import OpenK.AllK
import Wide.FinOn
import Lean
import PySem.Challenge.RW_sa0073_01
set_option Elab.async false
-- part HD
section
open PySem PySem.W PyProof.Rows
namespace Mine
set_option maxRecDepth 100000 in
set_option maxHeartbeats 8000000 in
open_top hd for PySem.Challenge.rw_sa0073_01
end Mine
open Mine
end
-- part CALC1
section
open PySem PySem.W PySem.Spec PySem.Calls PyProof.Rows
namespace Mine

theorem keeps_refl (s : Shared) : Keeps s s := ⟨s.heap, s.toks, rfl, fun _ _ e => e⟩
theorem keeps_trans {a b c : Shared} (h : Keeps a b) (k : Keeps b c) : Keeps a c := by
  obtain ⟨h1, t1, rfl, k1⟩ := h
  obtain ⟨h2, t2, rfl, k2⟩ := k
  exact ⟨h2, t2, rfl, fun b o e => k2 b o (k1 b o e)⟩
theorem keeps_get {a b : Shared} (h : Keeps a b) {x : Addr} {o : Obj} (e : a.heap.get? x = some o) : b.heap.get? x = some o := by
  obtain ⟨h1, t1, rfl, k1⟩ := h
  exact k1 _ _ e
theorem keeps_tok {a b : Shared} (h : Keeps a b) (t : Nat) : Keeps a { b with toks := t } := by
  obtain ⟨h1, t1, rfl, k1⟩ := h
  exact ⟨h1, t, rfl, k1⟩
theorem keeps_push {a b : Shared} (h : Keeps a b) (o : Obj) : Keeps a { b with heap := b.heap.push o } := by
  obtain ⟨h1, t1, rfl, k1⟩ := h
  exact ⟨_, t1, rfl, fun b o e => Heap.get?_push_of_some _ (k1 b o e)⟩
theorem keeps_heap {a b : Shared} (h : Keeps a b) {h' : Heap} (k : ∀ x o, a.heap.get? x = some o → h'.get? x = some o) (t : Nat) : Keeps a { b with heap := h', toks := t } := by
  obtain ⟨h1, t1, rfl, k1⟩ := h
  exact ⟨h', t, rfl, k⟩

/-- one element of a made list: an int, or a list of ints of its own -/
inductive Sp where
  | i (k : Int)
  | l (ks : List Int)

def LI (ks : List Int) (v : Value) (h : Heap) : Prop := ∃ l vs, v = .ref l ∧ h.IsList l (List.toArray vs) ∧ IntsAre vs ks
def AllLI (h : Heap) : List (List Int) → List Value → Prop
  | [], [] => True
  | ks :: kss, v :: vs => LI ks v h ∧ AllLI h kss vs
  | _, _ => False
def ML (kss : List (List Int)) (v : Value) (h : Heap) : Prop := ∃ l vs, v = .ref l ∧ h.IsList l (List.toArray vs) ∧ AllLI h kss vs

def Elt (d : Sp) (y : Value) (h₀ h : Heap) : Prop := match d with
  | .i k => ∃ t, y = .int k t
  | .l ks => ∃ T vs, y = .ref T ∧ h₀.get? T = none ∧ h.IsList T (List.toArray vs) ∧ IntsAre vs ks
def EltAt (bad : List Addr) (h : Heap) (d : Sp) (y : Value) : Prop := match d with
  | .i k => ∃ t, y = .int k t
  | .l ks => ∃ T vs, y = .ref T ∧ T ∉ bad ∧ h.IsList T (List.toArray vs) ∧ IntsAre vs ks
def EltsAt (bad : List Addr) (h : Heap) : List Sp → List Value → Prop
  | [], [] => True
  | d :: ds, y :: ys => EltAt bad h d y ∧ EltsAt bad h ds ys
  | _, _ => False

theorem isList_at {h h' : Heap} {a : Addr} {its : Array Value} (x : h.IsList a its) (k : ∀ o, h.get? a = some o → h'.get? a = some o) : h'.IsList a its :=
  let ⟨o, e, r⟩ := x; ⟨o, k o e, r⟩
theorem EltAt.keep {bad : List Addr} {h h' : Heap} {d : Sp} {y : Value} (x : EltAt bad h d y) (k : ∀ b o, b ∉ bad → h.get? b = some o → h'.get? b = some o) : EltAt bad h' d y := by
  cases d with
  | i n => exact x
  | l ks =>
    obtain ⟨T, vs, e, hT, hl, hi⟩ := x
    exact ⟨T, vs, e, hT, isList_at hl (fun o e => k T o hT e), hi⟩
theorem EltsAt.keep {bad : List Addr} {h h' : Heap} (k : ∀ b o, b ∉ bad → h.get? b = some o → h'.get? b = some o) : ∀ {ds : List Sp} {ys : List Value}, EltsAt bad h ds ys → EltsAt bad h' ds ys
  | [], [], _ => trivial
  | _ :: _, _ :: _, ⟨a, b⟩ => ⟨a.keep k, EltsAt.keep k b⟩
  | [], _ :: _, x => x.elim
  | _ :: _, [], x => x.elim
theorem EltsAt.snoc {bad : List Addr} {h : Heap} : ∀ {ds : List Sp} {ys : List Value} {d : Sp} {y : Value}, EltsAt bad h ds ys → EltAt bad h d y → EltsAt bad h (ds ++ [d]) (ys ++ [y])
  | [], [], _, _, _, e => ⟨e, trivial⟩
  | _ :: _, _ :: _, _, _, ⟨a, b⟩, e => ⟨a, EltsAt.snoc b e⟩
  | [], _ :: _, _, _, x, _ => x.elim
  | _ :: _, [], _, _, x, _ => x.elim
theorem EltsAt.length {bad : List Addr} {h : Heap} : ∀ {ds : List Sp} {ys : List Value}, EltsAt bad h ds ys → ys.length = ds.length
  | [], [], _ => rfl
  | _ :: _, _ :: _, ⟨_, b⟩ => congrArg (· + 1) (EltsAt.length b)
  | [], _ :: _, x => x.elim
  | _ :: _, [], x => x.elim

structure Turn (prog : Program) (w : World) (A : Around) (target : Expr) (it : Value) (cenv : Env) (n : Nat) (F FP : List Addr) (J V : Nat → Heap → Prop) : Prop where
  sub : ∀ b ∈ F, b ∈ FP
  live : ∀ i h, V i h → ∀ b ∈ F, ∃ o, h.get? b = some o
  frame : ∀ i h h', V i h → (∀ b ∈ FP, ∀ o, h.get? b = some o → h'.get? b = some o) → J (i + 1) h'
  fetch : ∀ i (s : Shared) (Q : Shared → Prop) (E : Value → Shared → Prop), i < n → J i s.heap →
    (∀ h' tk, V i h' → (∀ b o, b ∉ F → s.heap.get? b = some o → h'.get? b = some o) → Q { s with heap := h', toks := tk }) →
    wpAny (model prog w) A (pyNext it) (fun r s₁ => match r with
      | none => False
      | some v => wpAny (model prog w) A (letOwnedTupleGo target it v) (fun _ s₂ => wpAny (model prog w) A (assign target cenv v) (fun _ s₃ => Q s₃) E s₂) E s₁) E s
  stop : ∀ (s : Shared) (Q : Option Value → Shared → Prop) (E : Value → Shared → Prop), J n s.heap →
    (∀ h' tk, (∃ m, h'.Ns cenv.locals m) → (∀ b o, b ∉ F → s.heap.get? b = some o → h'.get? b = some o) → Q none { s with heap := h', toks := tk }) →
    wpAny (model prog w) A (pyNext it) Q E s

section
variable {prog : Program} {w : World} {A : Around} {R : Result → Shared → Prop} {s : Shared}

theorem loop_core {elt target iter : Expr} {scope : Scope} {pos : Pos} {it : Value} {D : Addr} {cenv : Env} {F FP : List Addr} {J V : Nat → Heap → Prop} {ds : List Sp}
    (T : Turn prog w A target it cenv ds.length F FP J V) (hD : D ∉ FP) (h0 : J 0 s.heap) (hacc : s.heap.PlainList D #[])
    (helt : ∀ i d s₂ E, ds[i]? = some d → V i s₂.heap → (∃ h tk, s₂ = { s with heap := h, toks := tk }) → (∀ b o, b ∉ D :: F → s.heap.get? b = some o → s₂.heap.get? b = some o) →
      wpAny (model prog w) A (eval elt cenv) (fun y s₃ => Keeps s₂ s₃ ∧ Elt d y s₂.heap s₃.heap) E s₂)
    (hR : ∀ h' tk ys, (∃ m, h'.Ns cenv.locals m) → h'.PlainList D (List.toArray ys) → EltsAt (D :: F) h' ds ys → (∀ b o, b ∉ D :: F → s.heap.get? b = some o → h'.get? b = some o) → R (.ok .next) { s with heap := h', toks := tk })
    (hsz : ds.length ≤ sizeLine) :
    codeAny (model prog w) A (.compLoop (.ListComp elt [⟨target, iter, [], 0⟩] scope pos) 0 it (.ref D) cenv) R s := by
  have hDF : D ∉ F := fun h => hD (T.sub _ h)
  refine PySem.W.kcp_loop (fun k s' => ∃ h' tk i ys, s' = { s with heap := h', toks := tk } ∧ i ≤ ds.length ∧ k = ds.length + 1 - i ∧ J i h' ∧ h'.PlainList D (List.toArray ys) ∧ EltsAt (D :: F) h' (ds.take i) ys ∧
    (∀ b o, b ∉ D :: F → s.heap.get? b = some o → h'.get? b = some o)) ?_ (ds.length + 1) ⟨s.heap, s.toks, 0, [], rfl, Nat.zero_le _, rfl, h0, hacc, by simp [EltsAt], fun _ _ _ e => e⟩
  rintro k s' ⟨h₁, tk₁, i, ys, rfl, hi, rfl, hJ, hl, hE, hk⟩
  by_cases hlt : i < ds.length
  · refine wpAny_mono (T.fetch i _ (fun s₃ => wpAny (model prog w) A (eval elt cenv) (fun x s₄ =>
              wpAny (model prog w) A (call (.builtin "list.append") [.ref D, x]) (fun _ s₅ => ∃ m, m < ds.length + 1 - i ∧ (∃ h' tk i ys, s₅ = { s with heap := h', toks := tk } ∧ i ≤ ds.length ∧ m = ds.length + 1 - i ∧ J i h' ∧ h'.PlainList D (List.toArray ys) ∧ EltsAt (D :: F) h' (ds.take i) ys ∧
    (∀ b o, b ∉ D :: F → s.heap.get? b = some o → h'.get? b = some o))) (notedBy (model prog w) A cenv fun e s' => R (.error e) s') s₄) (notedBy (model prog w) A cenv fun e s' => R (.error e) s') s₃) _ hlt hJ ?_) (fun r s₁ h => ?_) fun _ _ e => e
    · intro h₂ tk₂ hV hk₂
      have hl₂ : h₂.PlainList D (List.toArray ys) := let ⟨n, e⟩ := hl; ⟨n, hk₂ _ _ hDF e⟩
      have hk₂' : ∀ b o, b ∉ D :: F → s.heap.get? b = some o → h₂.get? b = some o := fun b o hb e => hk₂ b o (fun h => hb (List.mem_cons_of_mem _ h)) (hk b o hb e)
      have hE₂ : EltsAt (D :: F) h₂ (ds.take i) ys := hE.keep fun b o hb e => hk₂ b o (fun h => hb (List.mem_cons_of_mem _ h)) e
      refine wpAny_mono (helt i ds[i] _ _ (by simp [hlt]) hV ⟨_, _, rfl⟩ hk₂') (fun y s₃ h₃ => ?_) fun _ _ e => e
      obtain ⟨⟨h₃, tk₃, rfl, hk₃⟩, hy⟩ := h₃
      have hl₃ : h₃.PlainList D (List.toArray ys) := let ⟨n, e⟩ := hl₂; ⟨n, hk₃ _ _ e⟩
      have hysz : (List.toArray ys).size ≤ sizeLine := by
        have := hE.length
        simp only [List.size_toArray, List.length_take] at this ⊢
        omega
      refine wpAny_list_append_plain (hsz := hysz) hl₃ fun h₄ hl₄ hs₄ => ?_
      have up : ∀ b o, b ≠ D → h₃.get? b = some o → h₄.get? b = some o := fun b o hb e => hs₄.extBut b o hb e
      refine ⟨ds.length + 1 - (i + 1), by omega, h₄, tk₃, i + 1, ys ++ [y], rfl, hlt, rfl, ?_, ?_, ?_, ?_⟩
      · exact T.frame i h₂ h₄ hV fun b hb o e => up b o (fun h => hD (h ▸ hb)) (hk₃ b o e)
      · simpa using hl₄
      · rw [List.take_succ_eq_append_getElem hlt]
        refine EltsAt.snoc (hE₂.keep fun b o hb e => up b o (fun h => hb (h ▸ List.mem_cons_self ..)) (hk₃ b o e)) ?_
        have hy' : Elt ds[i] y h₂ h₃ := hy
        revert hy'
        cases ds[i] with
        | i n => exact fun h => h
        | l ks =>
          rintro ⟨T', vs, rfl, hn, hT, hI⟩
          have hTD : T' ≠ D := by
            rintro rfl
            obtain ⟨n, e⟩ := hl₂
            rw [hn] at e
            cases e
          refine ⟨T', vs, rfl, ?_, isList_at hT (fun o e => up _ o hTD e), hI⟩
          intro hm
          rcases List.mem_cons.mp hm with h | h
          · exact hTD h
          · obtain ⟨o, ho⟩ := T.live i h₂ hV T' h
            rw [hn] at ho
            cases ho
      · exact fun b o hb e => up b o (fun h => hb (h ▸ List.mem_cons_self ..)) (hk₃ b o (hk₂' b o hb e))
    · cases r with
      | none => exact h.elim
      | some v => exact h
  · have hin : i = ds.length := by omega
    subst hin
    refine T.stop _ _ _ hJ fun h₂ tk₂ hm hk₂ => ?_
    refine hR h₂ tk₂ ys hm ?_ ?_ ?_
    · obtain ⟨n, e⟩ := hl; exact ⟨n, hk₂ _ _ hDF e⟩
    · rw [List.take_length] at hE
      exact hE.keep fun b o hb e => hk₂ b o (fun h => hb (List.mem_cons_of_mem _ h)) e
    · exact fun b o hb e => hk₂ b o (fun h => hb (List.mem_cons_of_mem _ h)) (hk b o hb e)
end
end Mine
end
-- part CALC2
section
open PySem PySem.W PySem.Spec PySem.Calls PyProof.Rows
namespace Mine
section
variable {M : Model} {prog : Program} {w : World} {A : Around} {E : Value → Shared → Prop} {s : Shared} {env : Env}

theorem newEnv_comp {scope : Scope} {globals : Addr} {cl : List (Str × Addr)} {qual : Str} {Q : Env → Shared → Prop}
    (h : Q { scope := scope, locals := s.heap.objs.size, globals := globals, cells := cellsFrom (s.heap.objs.size + 1) scope.names cl, qual := qual, func := none, code := env.code, frame := env.frame, builtins := env.builtins }
      { s with heap := pushCells (s.heap.push { cls := .type "dict", data := .dict #[] }) scope.names }) :
    wpAny M A (newFunctionEnv scope globals cl [] qual none .none (some env)) Q E s := by
  simp only [newFunctionEnv, Option.isSome_some, if_true]
  refine wpAny_bind (wpAny_alloc ?_)
  refine wpAny_bind (wpAny_layCells _ (fun name kind cells => by cases hkc : kind == NameKind.cell <;> simp [hkc]) _ _ _ _ ?_)
  rw [show ({ s with heap := s.heap.push { cls := .type "dict", data := .dict #[] } } : Shared).heap.objs.size = s.heap.objs.size + 1 from Heap.size_push ..]
  simp only [List.forIn_nil]
  exact wpAny_bind (wpAny_pure (wpAny_pure h))

/-- the heap behind the new list and the block's own names and cells -/
abbrev cHeap (scope : Scope) (h : Heap) : Heap := pushCells ((h.push { cls := .type "list", data := .seq ([] : List Value).toArray }).push { cls := .type "dict", data := .dict #[] }) scope.names

theorem cHeap_old {scope : Scope} {h : Heap} {b : Addr} {o : Obj} (e : h.get? b = some o) : (cHeap scope h).get? b = some o :=
  pushCells_keeps _ _ _ _ (Heap.get?_push_of_some _ (Heap.get?_push_of_some _ e))

theorem comp_gen {elt target iter : Expr} {scope : Scope} {pos : Pos} {cl : List (Str × Addr)} {Q : Value → Shared → Prop}
    (hclos : closureFor scope env = pure cl) (hkind : scope.kind = .function)
    (hnames : ∀ y ∈ scope.names, y.2 = .local → scope.names.lookup y.1 = some .local)
    (h : wpAny (model prog w) A (eval iter env) (fun xv s₁ => wpAny (model prog w) A (pyIter xv) (fun it s₂ =>
      ∃ F FP J V ds, Turn prog w A target it (compEnvC scope (cellsFrom (s₂.heap.objs.size + 2) scope.names cl) (s₂.heap.objs.size + 1) env) (List.length (α := Sp) ds) F FP J V ∧
        s₂.heap.objs.size ∉ FP ∧ s₂.heap.objs.size + 1 ∈ F ∧ J 0 (cHeap scope s₂.heap) ∧ ds.length ≤ sizeLine ∧ (∃ I, it = .ref I ∧ ∀ (s : Shared) (Q : Value → Shared → Prop) (E : Value → Shared → Prop), J 0 s.heap → Q it s → wpAny (model prog w) A (pyIter it) Q E s) ∧
        (∀ i d s₃ E, ds[i]? = some d → V i s₃.heap → (∃ h tk, s₃ = { s₂ with heap := h, toks := tk }) → (∀ b o, b ∉ F → s₂.heap.get? b = some o → s₃.heap.get? b = some o) →
          wpAny (model prog w) A (eval elt (compEnvC scope (cellsFrom (s₂.heap.objs.size + 2) scope.names cl) (s₂.heap.objs.size + 1) env)) (fun y s₄ => Keeps s₃ s₄ ∧ Elt d y s₃.heap s₄.heap) E s₃) ∧
        (∀ h' tk ys, h'.IsList s₂.heap.objs.size (List.toArray ys) → EltsAt (s₂.heap.objs.size :: F) h' ds ys → (∀ b o, b ∉ F → s₂.heap.get? b = some o → h'.get? b = some o) →
          Q (.ref s₂.heap.objs.size) { s₂ with heap := h', toks := tk })) E s₁) E s)
    (hs : ∀ x, foldedSetIterable iter env x = pure x) :
    wpAny (model prog w) A (eval (.ListComp elt [⟨target, iter, [], 0⟩] scope pos) env) Q E s := by
  rw [eval_ListComp]
  refine wpAny_comprehension_free (use := none) rfl hs hclos hkind hnames (wpAny_mono h (fun xv s₁ h₁ => wpAny_mono h₁ (fun it s₂ h₂ => ?_) fun _ _ e => e) fun _ _ e => e)
  obtain ⟨F, FP, J, V, ds, T, hD, hC, hJ, hsz, ⟨I, hI, hself⟩, helt, hQ⟩ := h₂
  have hlt : ∀ b o, s₂.heap.get? b = some o → b ≠ s₂.heap.objs.size ∧ b ≠ s₂.heap.objs.size + 1 := fun b o e => ⟨Nat.ne_of_lt (Heap.lt_size e), Nat.ne_of_lt (Nat.lt_succ_of_lt (Heap.lt_size e))⟩
  refine wpAny_newObj_type (newEnv_comp ?_)
  have hz : (s₂.heap.push { cls := .type "list", data := .seq ([] : List Value).toArray }).objs.size = s₂.heap.objs.size + 1 := Heap.size_push ..
  dsimp only
  rw [hz]
  have loop : codeAny (model prog w) A (.compLoop (.ListComp elt [⟨target, iter, [], 0⟩] scope pos) 0 it (.ref s₂.heap.objs.size) (compEnvC scope (cellsFrom (s₂.heap.objs.size + 2) scope.names cl) (s₂.heap.objs.size + 1) env))
      (compPost (model prog w) A E none Q (.ref s₂.heap.objs.size) (s₂.heap.objs.size + 1)) { s₂ with heap := cHeap scope s₂.heap } := by
    refine loop_core (s := { s₂ with heap := cHeap scope s₂.heap }) T hD hJ ?_ ?_ ?_ hsz
    · exact ⟨_, pushCells_keeps _ _ _ _ (Heap.get?_push_of_some _ (Heap.get?_push_size _ rfl))⟩
    · intro i d s₃ E' hd hV hs₃ hk
      exact helt i d s₃ E' hd hV (by obtain ⟨h, tk, e⟩ := hs₃; exact ⟨h, tk, e⟩) fun b o hb e => hk b o (fun hm => by
        rcases List.mem_cons.mp hm with hm | hm
        · exact (hlt b o e).1 hm
        · exact hb hm) (cHeap_old e)
    · intro h' tk ys ⟨m, hm⟩ hl hE hk
      refine ⟨m, hm, fun h'' hs'' => ?_⟩
      have up : ∀ b o, b ≠ s₂.heap.objs.size + 1 → h'.get? b = some o → h''.get? b = some o := fun b o hb e => hs''.extBut b o hb e
      refine hQ h'' tk ys ?_ ?_ ?_
      · exact (isList_at hl.isList fun o e => up _ o (Nat.ne_of_lt (Nat.lt_succ_self _)) e)
      · exact hE.keep fun b o hb e => up b o (fun h => hb (h ▸ List.mem_cons_of_mem _ hC)) e
      · exact fun b o hb e => up b o (hlt b o e).2 (hk b o (fun hm => by
          rcases List.mem_cons.mp hm with hm | hm
          · exact (hlt b o e).1 hm
          · exact hb hm) (cHeap_old e))
  refine codeAny_compStart_list loop ?_
  exact hself _ _ _ hJ loop
end

section
variable {prog : Program} {w : World} {A : Around}

theorem turn_local {x : Str} {px : Pos} {I : Addr} {fp wr : List Addr} {n : Nat} {P : Nat → Value → Prop} {St : Nat → Heap → Prop} {cenv : Env} (W : Walks prog w A I fp wr n P St)
    (hx : cenv.kindOf x = some .local) (hk : cenv.scope.kind = .function) (hC : cenv.locals ∉ fp) (hlive : ∀ i h, St i h → ∀ b ∈ wr, ∃ o, h.get? b = some o) :
    Turn prog w A (.Name x px) (.ref I) cenv n (cenv.locals :: wr) (cenv.locals :: fp) (fun i h => St i h ∧ ∃ m, h.Ns cenv.locals m)
      (fun i h => St (i + 1) h ∧ ∃ v m, P i v ∧ h.Ns cenv.locals m ∧ m x = some v) where
  sub := fun b hb => by
    rcases List.mem_cons.mp hb with rfl | hb
    · exact List.mem_cons_self ..
    · exact List.mem_cons_of_mem _ (W.sub b hb)
  live := fun i h ⟨hst, v, m, _, hn, _⟩ b hb => by
    rcases List.mem_cons.mp hb with rfl | hb
    · obtain ⟨o, _, _, e, _⟩ := hn; exact ⟨o, e⟩
    · exact hlive _ _ hst b hb
  frame := fun i h h' ⟨hst, v, m, _, hn, _⟩ hk => ⟨W.frame _ _ _ hst fun b hb o e => hk b (List.mem_cons_of_mem _ hb) o e, m, hn.at' fun o e => hk _ (List.mem_cons_self ..) o e⟩
  fetch := fun i s Q E hi ⟨hst, m, hn⟩ hQ => by
    have hCw : cenv.locals ∉ wr := fun h => hC (W.sub _ h)
    refine W.item i s _ E hi hst fun v h' tk hP hst' hk' => ?_
    show wpAny _ _ (pure ()) _ _ _
    refine wpAny_pure ?_
    refine wpAny_assign_Name (wpAny_storeName_local (s := { s with heap := h', toks := tk }) hx (hn.at' fun o e => hk' _ o hCw e) (fun h₂ hn₂ hs₂ => ?_) (by rw [hk]; rfl))
    refine hQ h₂ _ ⟨W.frame _ _ _ hst' fun b hb o e => hs₂.extBut b o (fun h => hC (h ▸ hb)) e, v, _, hP, hn₂, by simp⟩ fun b o hb e => hs₂.extBut b o (fun h => hb (h ▸ List.mem_cons_self ..)) (hk' b o (fun h => hb (List.mem_cons_of_mem _ h)) e)
  stop := fun s Q E ⟨hst, m, hn⟩ hQ => by
    have hCw : cenv.locals ∉ wr := fun h => hC (W.sub _ h)
    exact W.done s Q E hst fun h' tk hk' => hQ h' tk ⟨m, hn.at' fun o e => hk' _ o hCw e⟩ fun b o hb e => hk' b o (fun h => hb (List.mem_cons_of_mem _ h)) e

theorem turn_cell {x : Str} {px : Pos} {I c : Addr} {fp wr : List Addr} {n : Nat} {P : Nat → Value → Prop} {St : Nat → Heap → Prop} {cenv : Env} (W : Walks prog w A I fp wr n P St)
    (hx : cenv.kindOf x = some .cell) (hk : cenv.scope.kind = .function) (hc : cenv.cells.lookup x = some c) (hCc : c ≠ cenv.locals) (hC : cenv.locals ∉ fp) (hCc' : c ∉ fp) (hlive : ∀ i h, St i h → ∀ b ∈ wr, ∃ o, h.get? b = some o) :
    Turn prog w A (.Name x px) (.ref I) cenv n (cenv.locals :: c :: wr) (cenv.locals :: c :: fp) (fun i h => St i h ∧ (∃ m, h.Ns cenv.locals m) ∧ ∃ o, h.IsCell c o)
      (fun i h => St (i + 1) h ∧ (∃ m, h.Ns cenv.locals m) ∧ ∃ v, P i v ∧ h.IsCell c (some v)) where
  sub := fun b hb => by
    rcases List.mem_cons.mp hb with rfl | hb
    · exact List.mem_cons_self ..
    · rcases List.mem_cons.mp hb with rfl | hb
      · exact List.mem_cons_of_mem _ (List.mem_cons_self ..)
      · exact List.mem_cons_of_mem _ (List.mem_cons_of_mem _ (W.sub b hb))
  live := fun i h ⟨hst, ⟨m, hn⟩, v, _, ho⟩ b hb => by
    rcases List.mem_cons.mp hb with rfl | hb
    · obtain ⟨o, _, _, e, _⟩ := hn; exact ⟨o, e⟩
    · rcases List.mem_cons.mp hb with rfl | hb
      · obtain ⟨o, e, _⟩ := ho; exact ⟨o, e⟩
      · exact hlive _ _ hst b hb
  frame := fun i h h' ⟨hst, ⟨m, hn⟩, v, _, ho⟩ hk => ⟨W.frame _ _ _ hst fun b hb o e => hk b (List.mem_cons_of_mem _ (List.mem_cons_of_mem _ hb)) o e, ⟨m, hn.at' fun o e => hk _ (List.mem_cons_self ..) o e⟩,
    _, let ⟨o, e, r⟩ := ho; ⟨o, hk c (List.mem_cons_of_mem _ (List.mem_cons_self ..)) o e, r⟩⟩
  fetch := fun i s Q E hi ⟨hst, ⟨m, hn⟩, o, ho⟩ hQ => by
    have hCw : cenv.locals ∉ wr := fun h => hC (W.sub _ h)
    have hcw : c ∉ wr := fun h => hCc' (W.sub _ h)
    refine W.item i s _ E hi hst fun v h' tk hP hst' hk' => ?_
    show wpAny _ _ (pure ()) _ _ _
    refine wpAny_pure ?_
    have ho' : h'.IsCell c o := let ⟨ob, e, r⟩ := ho; ⟨ob, hk' c ob hcw e, r⟩
    refine wpAny_assign_Name (wpAny_storeName_cell (s := { s with heap := h', toks := tk }) hk hx hc ho' (fun h₂ hn₂ hs₂ => ?_))
    have up : ∀ b ob, b ≠ c → h'.get? b = some ob → h₂.get? b = some ob := fun b ob hb e => hs₂.extBut b ob hb e
    refine hQ h₂ _ ⟨W.frame _ _ _ hst' fun b hb o e => up b o (fun h => hCc' (h ▸ hb)) e, ⟨m, hn.at' fun o e => up _ o (Ne.symm hCc) (hk' _ o hCw e)⟩, v, hP, hn₂⟩ fun b o hb e =>
      up b o (fun h => hb (h ▸ List.mem_cons_of_mem _ (List.mem_cons_self ..))) (hk' b o (fun h => hb (List.mem_cons_of_mem _ (List.mem_cons_of_mem _ h))) e)
  stop := fun s Q E ⟨hst, ⟨m, hn⟩, o, ho⟩ hQ => by
    have hCw : cenv.locals ∉ wr := fun h => hC (W.sub _ h)
    exact W.done s Q E hst fun h' tk hk' => hQ h' tk ⟨m, hn.at' fun o e => hk' _ o hCw e⟩ fun b o hb e => hk' b o (fun h => hb (List.mem_cons_of_mem _ (List.mem_cons_of_mem _ h))) e
end
end Mine
end
-- part CALC3
section
open PySem PySem.W PySem.Spec PySem.Calls PyProof.Rows
namespace Mine

def Mono (Γ : Shared → Prop) : Prop := ∀ s s', Γ s → Keeps s s' → Γ s'
abbrev VP := Value → Shared → Shared → Prop
def Ev (prog : Program) (w : World) (A : Around) (Γ : Shared → Prop) (env : Env) (e : Expr) (P : VP) : Prop :=
  ∀ s E, Γ s → wpAny (model prog w) A (eval e env) (fun v s' => Keeps s s' ∧ P v s s') E s
def IV (k : Int) : VP := fun v _ _ => ∃ t, v = .int k t
def IsV (u : Value) : VP := fun v _ _ => v = u
def LIV (ks : List Int) : VP := fun v _ s' => LI ks v s'.heap
def MLV (kss : List (List Int)) : VP := fun v _ s' => ML kss v s'.heap
def EV (d : Sp) : VP := fun v s s' => Elt d v s.heap s'.heap

theorem LI.keeps {ks : List Int} {v : Value} {s s' : Shared} (x : LI ks v s.heap) (k : Keeps s s') : LI ks v s'.heap :=
  let ⟨l, vs, e, hl, hi⟩ := x; ⟨l, vs, e, isList_at hl (fun _ e => keeps_get k e), hi⟩
theorem LI.at {ks : List Int} {v : Value} {h h' : Heap} (x : LI ks v h) (k : ∀ b o, h.get? b = some o → h'.get? b = some o) : LI ks v h' :=
  let ⟨l, vs, e, hl, hi⟩ := x; ⟨l, vs, e, isList_at hl (fun o e => k l o e), hi⟩
theorem AllLI.at {h h' : Heap} (k : ∀ b o, h.get? b = some o → h'.get? b = some o) : ∀ {kss : List (List Int)} {vs : List Value}, AllLI h kss vs → AllLI h' kss vs
  | [], [], _ => trivial
  | _ :: _, _ :: _, ⟨a, b⟩ => ⟨a.at k, AllLI.at k b⟩
  | [], _ :: _, x => x.elim
  | _ :: _, [], x => x.elim
theorem AllLI.length {h : Heap} : ∀ {kss : List (List Int)} {vs : List Value}, AllLI h kss vs → vs.length = kss.length
  | [], [], _ => rfl
  | _ :: _, _ :: _, ⟨_, b⟩ => congrArg (· + 1) (AllLI.length b)
  | [], _ :: _, x => x.elim
  | _ :: _, [], x => x.elim
theorem AllLI.get {h : Heap} : ∀ {kss : List (List Int)} {vs : List Value} {i : Nat} {ks : List Int} {v : Value}, AllLI h kss vs → kss[i]? = some ks → vs[i]? = some v → LI ks v h
  | _ :: _, _ :: _, 0, _, _, ⟨a, _⟩, e, f => by
    simp only [List.getElem?_cons_zero, Option.some.injEq] at e f
    subst e f
    exact a
  | _ :: _, _ :: _, i + 1, _, _, ⟨_, b⟩, e, f => AllLI.get (i := i) b (by simpa using e) (by simpa using f)
  | [], [], _, _, _, _, e, _ => by simp at e
  | [], _ :: _, _, _, _, x, _, _ => x.elim
  | _ :: _, [], _, _, _, x, _, _ => x.elim
theorem ML.at {kss : List (List Int)} {v : Value} {h h' : Heap} (x : ML kss v h) (k : ∀ b o, h.get? b = some o → h'.get? b = some o) : ML kss v h' :=
  let ⟨l, vs, e, hl, hi⟩ := x; ⟨l, vs, e, isList_at hl (fun o e => k l o e), hi.at k⟩
theorem ML.keeps {kss : List (List Int)} {v : Value} {s s' : Shared} (x : ML kss v s.heap) (k : Keeps s s') : ML kss v s'.heap := x.at fun _ _ e => keeps_get k e

theorem ints_get : ∀ {vs : List Value} {ns : List Int} {i : Nat} {n : Int}, IntsAre vs ns → ns[i]? = some n → ∃ t, vs[i]? = some (.int n t)
  | _, _, 0, _, .cons n t _, e => by
    simp only [List.getElem?_cons_zero, Option.some.injEq] at e
    subst e
    exact ⟨t, rfl⟩
  | _, _, i + 1, _, .cons _ _ h, e => by
    obtain ⟨t, q⟩ := ints_get (i := i) h (by simpa using e)
    exact ⟨t, by simpa using q⟩
  | _, _, _, _, .nil, e => by simp at e

section
variable {prog : Program} {w : World} {A : Around} {Γ : Shared → Prop} {env : Env}

theorem ev_mono {e : Expr} {P P' : VP} (h : Ev prog w A Γ env e P) (k : ∀ v s s', Keeps s s' → P v s s' → P' v s s') : Ev prog w A Γ env e P' :=
  fun s E g => wpAny_mono (h s E g) (fun v s' ⟨a, b⟩ => ⟨a, k v s s' a b⟩) fun _ _ e => e
theorem ev_int {i : Int} {k : Nat} {pos : Pos} : Ev prog w A Γ env (.Constant (.int i) k pos) (IV i) :=
  fun s E _ => wpAny_Constant_int ⟨keeps_tok (keeps_refl s) _, _, rfl⟩
theorem ev_local {x : Str} {pos : Pos} {P : VP} (hk : env.scope.kind = .function) (hx : env.kindOf x = some .local) (hd : (x == ("__debug__" : Str)) = false)
    (h : ∀ s, Γ s → ∃ m v, s.heap.Ns env.locals m ∧ m x = some v ∧ P v s s) : Ev prog w A Γ env (.Name x pos) P := fun s E g => by
  obtain ⟨m, v, hn, hv, hp⟩ := h s g
  exact wpAny_Name (wpAny_loadName_local hk hx hn hv ⟨keeps_refl s, hp⟩) hd
theorem ev_cell {x : Str} {pos : Pos} {c : Addr} {P : VP} (hk : env.scope.kind = .function) (hx : env.kindOf x = some .cell) (hd : (x == ("__debug__" : Str)) = false) (hc : env.cells.lookup x = some c)
    (h : ∀ s, Γ s → ∃ v, s.heap.IsCell c (some v) ∧ P v s s) : Ev prog w A Γ env (.Name x pos) P := fun s E g => by
  obtain ⟨v, hn, hp⟩ := h s g
  exact wpAny_Name (wpAny_loadName_cell hk hx hc hn ⟨keeps_refl s, hp⟩) hd

/-- what stands at the top, as the calls read it -/
def Tp (w : World) (s : Shared) : Prop := (Mine.hd.heap_39 w.params).In s.heap ∧ s.heap.NoLimit ∧ ∃ mg mb, s.heap.Ns mainGlobals mg ∧ s.heap.Ns builtinsNs mb ∧ ∀ x : Str, x ≠ ("__name__" : Str) → mb x = bootBuiltins x
theorem Tp.keeps {s s' : Shared} (x : Tp w s) (k : Keeps s s') : Tp w s' := by
  obtain ⟨a, b, mg, mb, c, d, e⟩ := x
  exact ⟨a.keeps (fun _ _ e => keeps_get k e), b.keeps (fun _ _ e => keeps_get k e), mg, mb, c.keeps (fun _ _ e => keeps_get k e), d.keeps (fun _ _ e => keeps_get k e), e⟩

theorem ev_builtin {x : Str} {pos : Pos} {u : Value} (ht : ∀ s, Γ s → Tp w s) (hk : env.scope.kind = .function) (hx : env.kindOf x = some .globalImplicit) (hd : (x == ("__debug__" : Str)) = false)
    (hg : env.globals = mainGlobals) (hb : env.builtins = builtinsNs) (e : nsIn (Mine.hd.heap_39 w.params) mainGlobals x = some none) (hv : bootBuiltins x = some u) (hn : x ≠ ("__name__" : Str)) :
    Ev prog w A Γ env (.Name x pos) (IsV u) := fun s E g => by
  obtain ⟨X, _, mg, mb, h1, h2, h3⟩ := ht s g
  exact Name_function_global hk hx (loadGlobal_builtin (hg ▸ h1) (mg_none_of X h1 e) (hb ▸ h2) ((h3 x hn).trans hv) ⟨keeps_refl s, rfl⟩) hd
theorem ev_global {x : Str} {pos : Pos} {u : Value} (ht : ∀ s, Γ s → Tp w s) (hk : env.scope.kind = .function) (hx : env.kindOf x = some .globalImplicit) (hd : (x == ("__debug__" : Str)) = false)
    (hg : env.globals = mainGlobals) (e : nsIn (Mine.hd.heap_39 w.params) mainGlobals x = some (some u)) :
    Ev prog w A Γ env (.Name x pos) (IsV u) := fun s E g => by
  obtain ⟨X, _, mg, mb, h1, h2, h3⟩ := ht s g
  exact Name_function_global hk hx (loadGlobal_global (hg ▸ h1) (mg_of X h1 e) ⟨keeps_refl s, rfl⟩) hd

theorem ev_bin {l r : Expr} {op : Operator} {pos : Pos} {a b c : Int} (hm : Mono Γ) (h1 : Ev prog w A Γ env l (IV a)) (h2 : Ev prog w A Γ env r (IV b))
    (ho : ∀ (s : Shared) E (Q : Value → Shared → Prop) t u, Q (.int c s.toks) { s with toks := s.toks + 1 } → wpAny (model prog w) A (binaryOp op (.int a t) (.int b u)) Q E s) :
    Ev prog w A Γ env (.BinOp l op r pos) (IV c) := fun s E g => by
  refine wpAny_BinOp (wpAny_mono (h1 s E g) (fun v s₁ ⟨k₁, t, hv⟩ => ?_) fun _ _ e => e)
  refine wpAny_mono (h2 s₁ E (hm _ _ g k₁)) (fun u s₂ ⟨k₂, t₂, hu⟩ => ?_) fun _ _ e => e
  subst hv hu
  exact ho _ _ _ _ _ ⟨keeps_tok (keeps_trans k₁ k₂) _, _, rfl⟩
theorem ev_add {l r : Expr} {pos : Pos} {a b : Int} (hm : Mono Γ) (h1 : Ev prog w A Γ env l (IV a)) (h2 : Ev prog w A Γ env r (IV b)) : Ev prog w A Γ env (.BinOp l .Add r pos) (IV (a + b)) :=
  ev_bin hm h1 h2 fun _ _ _ _ _ h => add_int h
theorem ev_sub {l r : Expr} {pos : Pos} {a b : Int} (hm : Mono Γ) (h1 : Ev prog w A Γ env l (IV a)) (h2 : Ev prog w A Γ env r (IV b)) : Ev prog w A Γ env (.BinOp l .Sub r pos) (IV (a - b)) :=
  ev_bin hm h1 h2 fun _ _ _ _ _ h => sub_int h
theorem ev_mul {l r : Expr} {pos : Pos} {a b : Int} (hm : Mono Γ) (h1 : Ev prog w A Γ env l (IV a)) (h2 : Ev prog w A Γ env r (IV b)) (hf : IntMulOk a b) : Ev prog w A Γ env (.BinOp l .Mult r pos) (IV (a * b)) :=
  ev_bin hm h1 h2 fun _ _ _ _ _ h => mul_int h hf
theorem ev_mod {l r : Expr} {pos : Pos} {a b : Int} (hm : Mono Γ) (h1 : Ev prog w A Γ env l (IV a)) (h2 : Ev prog w A Γ env r (IV b)) (hf : b ≠ 0) : Ev prog w A Γ env (.BinOp l .Mod r pos) (IV (a.fmod b)) :=
  ev_bin hm h1 h2 fun _ _ _ _ _ h => PyProof.Rows.mod_int hf h
theorem ev_floordiv {l r : Expr} {pos : Pos} {a b : Int} (hm : Mono Γ) (h1 : Ev prog w A Γ env l (IV a)) (h2 : Ev prog w A Γ env r (IV b)) (hf : b ≠ 0) (hp : Builtin.divisionGoesByPylong a b = false) :
    Ev prog w A Γ env (.BinOp l .FloorDiv r pos) (IV (a.fdiv b)) :=
  ev_bin hm h1 h2 fun _ _ _ _ _ h => PyProof.Rows.floordiv_int hf h (.inl hp)

/-- an item of a list of ints -/
theorem ev_item {value slice : Expr} {pos : Pos} {ks : List Int} {k n : Int} (hm : Mono Γ) (h1 : Ev prog w A Γ env value (LIV ks)) (h2 : Ev prog w A Γ env slice (IV k)) (h0 : 0 ≤ k) (hlt : k < 2 ^ 63) (hn : ks[k.toNat]? = some n)
    (hs : ∀ l t, subscripted slice false (.ref l) (.int k t) = operate [.ref l, .int k t] (getItem (.ref l) (.int k t))) : Ev prog w A Γ env (.Subscript value slice pos) (IV n) := fun s E g => by
  refine Subscript_ (wpAny_mono (h1 s E g) (fun v s₁ ⟨k₁, hv⟩ => ?_) fun _ _ e => e)
  refine wpAny_mono (h2 s₁ E (hm _ _ g k₁)) (fun u s₂ ⟨k₂, t₂, hu⟩ => ?_) fun _ _ e => e
  subst hu
  obtain ⟨l, vs, rfl, hl, hi⟩ := LI.keeps hv k₂
  obtain ⟨t, ht⟩ := ints_get hi hn
  exact tail_any hl.typeIs slot_list_getitem.lookup (wpAny_getItem_list hl h0 hlt (x := .int n t) (by simp [ht]) ⟨keeps_trans k₁ k₂, _, rfl⟩) (hs l t₂)
/-- a row of a list of lists of ints -/
theorem ev_row {value slice : Expr} {pos : Pos} {kss : List (List Int)} {ks : List Int} {k : Int} (hm : Mono Γ) (h1 : Ev prog w A Γ env value (MLV kss)) (h2 : Ev prog w A Γ env slice (IV k)) (h0 : 0 ≤ k) (hlt : k < 2 ^ 63) (hn : kss[k.toNat]? = some ks)
    (hs : ∀ l t, subscripted slice false (.ref l) (.int k t) = operate [.ref l, .int k t] (getItem (.ref l) (.int k t))) : Ev prog w A Γ env (.Subscript value slice pos) (LIV ks) := fun s E g => by
  refine Subscript_ (wpAny_mono (h1 s E g) (fun v s₁ ⟨k₁, hv⟩ => ?_) fun _ _ e => e)
  refine wpAny_mono (h2 s₁ E (hm _ _ g k₁)) (fun u s₂ ⟨k₂, t₂, hu⟩ => ?_) fun _ _ e => e
  subst hu
  obtain ⟨l, vs, rfl, hl, hi⟩ := ML.keeps hv k₂
  have hlen := hi.length
  have hlt' : k.toNat < vs.length := by
    rw [hlen]
    exact (List.getElem?_eq_some_iff.mp hn).1
  have hv' : vs[k.toNat]? = some vs[k.toNat] := by simp [hlt']
  exact tail_any hl.typeIs slot_list_getitem.lookup (wpAny_getItem_list hl h0 hlt (by simpa using hv') ⟨keeps_trans k₁ k₂, hi.get hn hv'⟩) (hs l t₂)

theorem ev_call1 {f : Str} {p pos : Pos} {e : Expr} {id : String} {P R : VP} (hm : Mono Γ) (hf : Ev prog w A Γ env (.Name f p) (IsV (.builtin id))) (he : Ev prog w A Γ env e P)
    (hc : ∀ v s₀ s E, Γ s → Keeps s₀ s → P v s₀ s → wpAny (model prog w) A (call (.builtin id) [v]) (fun r s' => Keeps s s' ∧ R r s s') E s)
    (hR : ∀ v s s₁ s', Keeps s s₁ → R v s₁ s' → R v s s')
    (hst : starEach [e] env = (false, eval e env) :: starEach [] env) : Ev prog w A Γ env (.Call (.Name f p) [e] [] pos) R := fun s E g => by
  refine wpAny_Call_Name_kw (wpAny_mono (hf s E g) (fun v s₁ ⟨k₁, hv⟩ => ?_) fun _ _ e => e)
  obtain rfl : v = .builtin id := hv
  refine PyProof.Rows.callWith_builtin1 (wpAny_items_cons (wpAny_mono (he s₁ E (hm _ _ g k₁)) (fun v s₂ ⟨k₂, hv⟩ => ?_) fun _ _ e => e) hst) hst
  refine wpAny_items_nil (wpAny_mono (hc v s₁ s₂ E (hm _ _ g (keeps_trans k₁ k₂)) k₂ hv) (fun r s₃ ⟨k₃, hr⟩ => ⟨keeps_trans (keeps_trans k₁ k₂) k₃, hR _ _ _ _ (keeps_trans k₁ k₂) hr⟩) fun _ _ e => e)
theorem ev_callT1 {f : Str} {p pos : Pos} {e : Expr} {T : String} {P R : VP} (hm : Mono Γ) (hf : Ev prog w A Γ env (.Name f p) (IsV (.type T))) (he : Ev prog w A Γ env e P)
    (hc : ∀ v s₀ s E, Γ s → Keeps s₀ s → P v s₀ s → wpAny (model prog w) A (call (.type T) [v]) (fun r s' => Keeps s s' ∧ R r s s') E s)
    (hR : ∀ v s s₁ s', Keeps s s₁ → R v s₁ s' → R v s s')
    (hst : starEach [e] env = (false, eval e env) :: starEach [] env) : Ev prog w A Γ env (.Call (.Name f p) [e] [] pos) R := fun s E g => by
  refine wpAny_Call_Name_kw (wpAny_mono (hf s E g) (fun v s₁ ⟨k₁, hv⟩ => ?_) fun _ _ e => e)
  obtain rfl : v = .type T := hv
  refine PyProof.Rows.callWith_type1 (wpAny_items_cons (wpAny_mono (he s₁ E (hm _ _ g k₁)) (fun v s₂ ⟨k₂, hv⟩ => ?_) fun _ _ e => e) hst) hst
  refine wpAny_items_nil (wpAny_mono (hc v s₁ s₂ E (hm _ _ g (keeps_trans k₁ k₂)) k₂ hv) (fun r s₃ ⟨k₃, hr⟩ => ⟨keeps_trans (keeps_trans k₁ k₂) k₃, hR _ _ _ _ (keeps_trans k₁ k₂) hr⟩) fun _ _ e => e)

theorem iv_back {k : Int} : ∀ v s s₁ s', Keeps s s₁ → IV k v s₁ s' → IV k v s s' := fun _ _ _ _ _ h => h

theorem ev_len {f : Str} {p pos : Pos} {e : Expr} {kss : List (List Int)} (hm : Mono Γ) (hf : Ev prog w A Γ env (.Name f p) (IsV (.builtin "len"))) (he : Ev prog w A Γ env e (MLV kss)) (hz : (kss.length : Int) < 2 ^ 63)
    (hst : starEach [e] env = (false, eval e env) :: starEach [] env) : Ev prog w A Γ env (.Call (.Name f p) [e] [] pos) (IV kss.length) :=
  ev_call1 hm hf he (fun v s₀ s E _ _ hv => by
    obtain ⟨l, vs, rfl, hl, hi⟩ := hv
    have hlen : (List.toArray vs).size = kss.length := by rw [List.size_toArray]; exact hi.length
    exact call_len_list hl (by rw [hlen]; exact hz) (by rw [hlen]; exact ⟨keeps_tok (keeps_refl s) _, _, rfl⟩)) iv_back hst
theorem ev_lenI {f : Str} {p pos : Pos} {e : Expr} {ks : List Int} (hm : Mono Γ) (hf : Ev prog w A Γ env (.Name f p) (IsV (.builtin "len"))) (he : Ev prog w A Γ env e (LIV ks)) (hz : (ks.length : Int) < 2 ^ 63)
    (hst : starEach [e] env = (false, eval e env) :: starEach [] env) : Ev prog w A Γ env (.Call (.Name f p) [e] [] pos) (IV ks.length) :=
  ev_call1 hm hf he (fun v s₀ s E _ _ hv => by
    obtain ⟨l, vs, rfl, hl, hi⟩ := hv
    have hlen : (List.toArray vs).size = ks.length := by rw [List.size_toArray]; exact hi.length
    exact call_len_list hl (by rw [hlen]; exact hz) (by rw [hlen]; exact ⟨keeps_tok (keeps_refl s) _, _, rfl⟩)) iv_back hst

/-- the sum of a list of ints -/
theorem ev_sum {f : Str} {p pos : Pos} {e : Expr} {ks : List Int} (hA : A.handled = none) (hm : Mono Γ) (hf : Ev prog w A Γ env (.Name f p) (IsV (.builtin "sum"))) (he : Ev prog w A Γ env e (LIV ks))
    (hst : starEach [e] env = (false, eval e env) :: starEach [] env) : Ev prog w A Γ env (.Call (.Name f p) [e] [] pos) (IV (preSum (fun i => ks.getD i 0) ks.length)) :=
  ev_call1 hm hf he (fun v s₀ s E _ _ hv => by
    obtain ⟨l, vs, rfl, hl, hi⟩ := hv
    have hlen : (List.toArray vs).size = ks.length := by rw [List.size_toArray]; exact hi.length
    obtain ⟨o, ho, _⟩ := id hl
    have hne : l ≠ s.heap.objs.size := Nat.ne_of_lt (Heap.lt_size ho)
    refine call_sum_walkG (wpAny_pyIter_list hl ?_)
    refine ⟨_, _, _, _, _, _, (fun i => ks.getD i 0), rfl, hlen ▸ Walks.list (A := A.in1) hA _ l hne (List.toArray vs), ⟨⟨_, Heap.get?_push_size _ rfl, rfl, rfl⟩, hl.push _⟩, ?_, ?_, ?_⟩
    · intro b hb
      show b < (s.heap.push _).objs.size
      rw [Heap.size_push]
      rcases List.mem_cons.mp hb with rfl | hb
      · exact Nat.lt_succ_self _
      · obtain rfl := List.mem_singleton.mp hb
        exact Nat.lt_succ_of_lt (Heap.lt_size ho)
    · intro i v hv
      have hi' : i < ks.length := by
        rw [← hlen]
        have := (Array.getElem?_eq_some_iff.mp hv).1
        simpa using this
      obtain ⟨t, ht⟩ := ints_get (i := i) (n := ks.getD i 0) hi (by simp [List.getD, hi'])
      refine ⟨t, ?_⟩
      have hv' : vs[i]? = some v := by simpa using hv
      rw [ht] at hv'
      exact (Option.some.inj hv').symm
    · intro h' tk t' hk
      exact ⟨keeps_heap (keeps_push (keeps_refl s) _) (fun x o e => hk x o (by
        simp only [List.mem_singleton]
        exact Nat.ne_of_lt (Heap.lt_size e)) (Heap.get?_push_of_some _ e)) _, _, rfl⟩) iv_back hst
end
end Mine
end
-- part CALC4
section
open PySem PySem.W PySem.Spec PySem.Calls PyProof.Rows
namespace Mine

abbrev HP := Value → Heap → Prop
def ItOk (prog : Program) (w : World) (A : Around) (s₂ : Shared) (I : Addr) (ws : List HP) (s : Shared) : Prop :=
  ∃ fp wr P St, Walks prog w A I fp wr ws.length P St ∧ St 0 s₂.heap ∧ (∀ b ∈ fp, b < s₂.heap.objs.size) ∧ (∀ b ∈ wr, s.heap.get? b = none) ∧ (∀ i h, St i h → ∀ b ∈ wr, ∃ o, h.get? b = some o) ∧
    (∀ i v c h', P i v → ws[i]? = some c → (∀ b o, b ∉ wr → s₂.heap.get? b = some o → h'.get? b = some o) → c v h')
def EvIt (prog : Program) (w : World) (A : Around) (Γ : Shared → Prop) (env : Env) (iter : Expr) (ws : List HP) : Prop :=
  ∀ s E (Q : Value → Shared → Prop), Γ s → (∀ s₂ I, Keeps s s₂ → ItOk prog w A s₂ I ws s → Q (.ref I) s₂) → wpAny (model prog w) A (eval iter env) (fun xv s₁ => wpAny (model prog w) A (pyIter xv) Q E s₁) E s

def CIV (k : Int) : HP := fun v _ => ∃ t, v = .int k t

section
variable {prog : Program} {w : World} {A : Around} {Γ : Shared → Prop} {env : Env}

theorem get_none_of_keeps {s s' : Shared} (k : Keeps s s') {b : Addr} (h : s'.heap.get? b = none) : s.heap.get? b = none := by
  cases e : s.heap.get? b with
  | none => rfl
  | some o => rw [keeps_get k e] at h; cases h
theorem get_none_size (h : Heap) : h.get? h.objs.size = none := by
  cases e : h.get? h.objs.size with
  | none => rfl
  | some o => exact absurd (Heap.lt_size e) (Nat.lt_irrefl _)

/-- a list of lists of ints, row by row -/
theorem evit_rows {iter : Expr} {kss : List (List Int)} (hA : A.handled = none) (h : Ev prog w A Γ env iter (MLV kss)) : EvIt prog w A Γ env iter (kss.map LI) := fun s E Q g hQ => by
  refine wpAny_mono (h s E g) (fun v s₁ ⟨k₁, hv⟩ => ?_) fun _ _ e => e
  obtain ⟨l, vs, rfl, hl, hi⟩ := hv
  obtain ⟨o, ho, _⟩ := id hl
  have hne : l ≠ s₁.heap.objs.size := Nat.ne_of_lt (Heap.lt_size ho)
  have hlen : (List.toArray vs).size = (kss.map LI).length := by rw [List.size_toArray, List.length_map]; exact hi.length
  refine wpAny_pyIter_list hl (hQ _ _ (keeps_push k₁ _) ⟨_, _, _, _, hlen ▸ Walks.list hA _ l hne (List.toArray vs), ⟨⟨_, Heap.get?_push_size _ rfl, rfl, rfl⟩, hl.push _⟩, ?_, ?_, ?_, ?_⟩)
  · intro b hb
    show b < (s₁.heap.push _).objs.size
    rw [Heap.size_push]
    rcases List.mem_cons.mp hb with rfl | hb
    · exact Nat.lt_succ_self _
    · obtain rfl := List.mem_singleton.mp hb
      exact Nat.lt_succ_of_lt (Heap.lt_size ho)
  · intro b hb
    obtain rfl := List.mem_singleton.mp hb
    exact get_none_of_keeps k₁ (get_none_size _)
  · rintro i h ⟨⟨o, e, _⟩, _⟩ b hb
    obtain rfl := List.mem_singleton.mp hb
    exact ⟨o, e⟩
  · intro i v c h' hv hc hk
    have hv' : vs[i]? = some v := by simpa using hv
    rw [List.getElem?_map] at hc
    cases hks : kss[i]? with
    | none => rw [hks] at hc; cases hc
    | some ks =>
      rw [hks] at hc
      cases hc
      obtain ⟨T, ws, rfl, hT, hI⟩ := hi.get hks hv'
      refine ⟨T, ws, rfl, isList_at hT (fun o e => hk T o ?_ (Heap.get?_push_of_some _ e)), hI⟩
      intro hm
      exact absurd (List.mem_singleton.mp hm) (Nat.ne_of_lt (Heap.lt_size e))

theorem evit_range {f : Str} {p pos : Pos} {e : Expr} {n : Nat} (hA : A.handled = none) (hm : Mono Γ) (hf : Ev prog w A Γ env (.Name f p) (IsV (.type "range"))) (he : Ev prog w A Γ env e (IV n)) (hn : n < 2 ^ 62)
    (hst : starEach [e] env = (false, eval e env) :: starEach [] env) :
    EvIt prog w A Γ env (.Call (.Name f p) [e] [] pos) ((List.range n).map fun (i : Nat) => CIV (i : Int)) := fun s E Q g hQ => by
  refine wpAny_Call_Name_kw (wpAny_mono (hf s E g) (fun v s₁ ⟨k₁, hv⟩ => ?_) fun _ _ e => e)
  obtain rfl : v = .type "range" := hv
  refine PyProof.Rows.callWith_type1 (wpAny_items_cons (wpAny_mono (he s₁ E (hm _ _ g k₁)) (fun v s₂ ⟨k₂, t, hv⟩ => ?_) fun _ _ e => e) hst) hst
  subst hv
  refine wpAny_items_nil (call_range_1 ?_)
  have hrs : Builtin.Range.rangeSize 0 (n : Int) 1 = (n : Int) := by rw [rangeSize_one]; split <;> omega
  refine wpAny_pyIter_range (IsRange.new _ _ _ _ _ _ _) (small_one (by decide) (by decide) (by omega) (by omega)) ?_
  rw [hrs]
  have k₃ := keeps_push (keeps_tok (keeps_push (keeps_trans k₁ k₂) { cls := .type "range", data := .fields #[.int 0 s₂.toks, .int n t, .int 1 (s₂.toks + 1)] }) (s₂.toks + 1 + 1)) { cls := .type "range_iterator", data := .fields #[rawInt 0, rawInt (n : Int), rawInt 1] }
  refine hQ _ _ k₃ ⟨_, _, _, _, (by rw [List.length_map, List.length_range]; exact (Walks.range hA _ 0 1 n).bound), ?_, ?_, ?_, ?_, ?_⟩
  · have e1 : (0 : Int) + ((0 : Nat) : Int) * 1 = 0 := by simp
    have e2 : (n : Int) - ((0 : Nat) : Int) = n := by simp
    rw [e1, e2]
    exact Heap.get?_push_size _ rfl
  · intro b hb
    obtain rfl := List.mem_singleton.mp hb
    exact Nat.lt_of_lt_of_eq (Nat.lt_succ_self _) (Heap.size_push ..).symm
  · intro b hb
    obtain rfl := List.mem_singleton.mp hb
    refine get_none_of_keeps (s' := { s₂ with heap := s₂.heap.push { cls := .type "range", data := .fields #[.int 0 s₂.toks, .int n t, .int 1 (s₂.toks + 1)] } }) (keeps_push (keeps_trans k₁ k₂) _) (get_none_size _)
  · intro i h hst b hb
    obtain rfl := List.mem_singleton.mp hb
    exact ⟨_, hst⟩
  · rintro i v c h' ⟨hi, t, rfl⟩ hc _
    rw [List.getElem?_map, List.getElem?_range hi] at hc
    cases hc
    exact ⟨t, by simp⟩

theorem elts_nil {bad : List Addr} {h : Heap} : ∀ {ds : List Sp} {ys : List Value}, EltsAt bad h ds ys → EltsAt [] h ds ys
  | [], [], _ => trivial
  | .i _ :: _, _ :: _, ⟨a, b⟩ => ⟨a, elts_nil b⟩
  | .l _ :: _, _ :: _, ⟨⟨T, vs, e, _, r⟩, b⟩ => ⟨⟨T, vs, e, (by simp), r⟩, elts_nil b⟩
  | [], _ :: _, x => x.elim
  | _ :: _, [], x => x.elim
theorem elts_ints {h : Heap} : ∀ {ks : List Int} {ys : List Value}, EltsAt [] h (ks.map .i) ys → IntsAre ys ks
  | [], [], _ => .nil
  | k :: ks, _ :: _, ⟨⟨t, e⟩, b⟩ => by subst e; exact .cons k t (elts_ints (ks := ks) b)
  | [], _ :: _, x => x.elim
  | _ :: _, [], x => x.elim
theorem elts_rows {h : Heap} : ∀ {kss : List (List Int)} {ys : List Value}, EltsAt [] h (kss.map .l) ys → AllLI h kss ys
  | [], [], _ => trivial
  | _ :: kss, _ :: _, ⟨⟨T, vs, e, _, hl, hi⟩, b⟩ => ⟨⟨T, vs, e, hl, hi⟩, elts_rows (kss := kss) b⟩
  | [], _ :: _, x => x.elim
  | _ :: _, [], x => x.elim

def MadeV (ds : List Sp) : VP := fun v s s' => ∃ l vs, v = .ref l ∧ s.heap.get? l = none ∧ s'.heap.IsList l (List.toArray vs) ∧ EltsAt [] s'.heap ds vs
theorem MadeV.ints {ks : List Int} {v : Value} {s s' : Shared} (x : MadeV (ks.map .i) v s s') : LIV ks v s s' := let ⟨l, vs, e, _, hl, h⟩ := x; ⟨l, vs, e, hl, elts_ints h⟩
theorem MadeV.rows {kss : List (List Int)} {v : Value} {s s' : Shared} (x : MadeV (kss.map .l) v s s') : MLV kss v s s' := let ⟨l, vs, e, _, hl, h⟩ := x; ⟨l, vs, e, hl, elts_rows h⟩
theorem MadeV.elt {ks : List Int} {v : Value} {s s' : Shared} (x : MadeV (ks.map .i) v s s') : EV (.l ks) v s s' := let ⟨l, vs, e, n, hl, h⟩ := x; ⟨l, vs, e, n, hl, elts_ints h⟩

theorem ev_comp_local {elt iter : Expr} {x : Str} {px : Pos} {scope : Scope} {pos : Pos} {cl : List (Str × Addr)} {ws : List HP} {ds : List Sp}
    (hclos : closureFor scope env = pure cl) (hkind : scope.kind = .function) (hnames : ∀ y ∈ scope.names, y.2 = .local → scope.names.lookup y.1 = some .local)
    (hx : scope.names.lookup x = some .local) (hcells : ∀ n (cl : List (Str × Addr)), cellsFrom n scope.names cl = cl) (hpush : ∀ h, pushCells h scope.names = h)
    (hit : EvIt prog w A Γ env iter ws) (hlen : ws.length = ds.length) (hsz : ds.length ≤ sizeLine) (hm : Mono Γ)
    (helt : ∀ (i : Nat) (c : HP) d, ws[i]? = some c → ds[i]? = some d → ∀ C, Ev prog w A (fun s => Γ s ∧ ∃ m v, s.heap.Ns C m ∧ m x = some v ∧ c v s.heap) (compEnvC scope cl C env) elt (EV d))
    (hs : ∀ x, foldedSetIterable iter env x = pure x) :
    Ev prog w A Γ env (.ListComp elt [⟨.Name x px, iter, [], 0⟩] scope pos) (MadeV ds) := fun s E g => by
  refine comp_gen hclos hkind hnames (hit s E _ g fun s₂ I k₂ hI => ?_) hs
  obtain ⟨fp, wr, P, St, W, hst, hfp, hwr, hlive, hP⟩ := hI
  rw [hcells]
  have hCf : s₂.heap.objs.size + 1 ∉ fp := fun h => absurd (hfp _ h) (Nat.not_lt.mpr (Nat.le_succ _))
  have hDf : s₂.heap.objs.size ∉ fp := fun h => absurd (hfp _ h) (Nat.lt_irrefl _)
  have old : ∀ b o, s₂.heap.get? b = some o → b ≠ s₂.heap.objs.size + 1 := fun b o e => Nat.ne_of_lt (Nat.lt_succ_of_lt (Heap.lt_size e))
  have hNs : ∃ m, (cHeap scope s₂.heap).Ns (s₂.heap.objs.size + 1) m := by
    refine ⟨fun _ => none, ?_⟩
    show (pushCells _ _).Ns _ _
    rw [hpush]
    have q := Heap.Ns.new (s₂.heap.push { cls := .type "list", data := .seq ([] : List Value).toArray }) (.type "dict")
    rw [Heap.size_push] at q
    exact q
  have hst₀ : St 0 (cHeap scope s₂.heap) := W.frame _ _ _ hst fun b _ o e => cHeap_old e
  refine ⟨_, _, _, _, ds, hlen ▸ turn_local (cenv := compEnvC scope cl (s₂.heap.objs.size + 1) env) (px := px) W (lookup_relabel_local hx) (by simp [compEnvC, relabel, hkind]) hCf hlive, ?_, List.mem_cons_self .., ⟨hst₀, hNs⟩, hsz, ⟨I, rfl, fun s Q E h q => W.self 0 s Q E h.1 q⟩, ?_, ?_⟩
  · intro h
    rcases List.mem_cons.mp h with h | h
    · exact absurd h (Nat.ne_of_lt (Nat.lt_succ_self _))
    · exact hDf h
  · rintro i d s₃ E' hd ⟨_, v, m, hPv, hn, hv⟩ ⟨h, tk, rfl⟩ hk
    have hi : i < ds.length := (List.getElem?_eq_some_iff.mp hd).1
    obtain ⟨c, hc⟩ : ∃ c, ws[i]? = some c := ⟨ws[i]'(by omega), by simp [hlen, hi]⟩
    have k₃ : Keeps s { s₂ with heap := h, toks := tk } := keeps_heap k₂ (fun b o e => hk b o (fun hm => by
      rcases List.mem_cons.mp hm with rfl | hm
      · exact absurd rfl (old _ o (keeps_get k₂ e))
      · rw [hwr b hm] at e; cases e) (keeps_get k₂ e)) tk
    refine helt i c d hc hd (s₂.heap.objs.size + 1) _ E' ⟨hm _ _ g k₃, m, v, hn, hv, ?_⟩
    exact hP i v c h hPv hc fun b o hb e => hk b o (fun hm => by
      rcases List.mem_cons.mp hm with rfl | hm
      · exact absurd rfl (old _ o e)
      · exact hb hm) e
  · intro h' tk ys hl hE hk
    refine ⟨keeps_heap k₂ (fun b o e => hk b o (fun hm => by
      rcases List.mem_cons.mp hm with rfl | hm
      · exact absurd rfl (old _ o (keeps_get k₂ e))
      · rw [hwr b hm] at e; cases e) (keeps_get k₂ e)) tk, _, ys, rfl, get_none_of_keeps k₂ (get_none_size _), hl, elts_nil hE⟩

theorem ev_comp_cell {elt iter : Expr} {x : Str} {px : Pos} {scope : Scope} {pos : Pos} {cl : List (Str × Addr)} {ws : List HP} {ds : List Sp}
    (hclos : closureFor scope env = pure cl) (hkind : scope.kind = .function) (hnames : ∀ y ∈ scope.names, y.2 = .local → scope.names.lookup y.1 = some .local)
    (hx : (relabel scope env).names.lookup x = some .cell) (hcells : ∀ n (cl : List (Str × Addr)), cellsFrom n scope.names cl = (x, n) :: cl) (hpush : ∀ h : Heap, pushCells h scope.names = h.push { cls := .type "cell", data := .cell none })
    (hit : EvIt prog w A Γ env iter ws) (hlen : ws.length = ds.length) (hsz : ds.length ≤ sizeLine) (hm : Mono Γ)
    (helt : ∀ (i : Nat) (k : HP) d, ws[i]? = some k → ds[i]? = some d → ∀ C c, Ev prog w A (fun s => Γ s ∧ ∃ v, s.heap.IsCell c (some v) ∧ k v s.heap) (compEnvC scope ((x, c) :: cl) C env) elt (EV d))
    (hs : ∀ x, foldedSetIterable iter env x = pure x) :
    Ev prog w A Γ env (.ListComp elt [⟨.Name x px, iter, [], 0⟩] scope pos) (MadeV ds) := fun s E g => by
  refine comp_gen hclos hkind hnames (hit s E _ g fun s₂ I k₂ hI => ?_) hs
  obtain ⟨fp, wr, P, St, W, hst, hfp, hwr, hlive, hP⟩ := hI
  rw [hcells]
  have hCf : s₂.heap.objs.size + 1 ∉ fp := fun h => absurd (hfp _ h) (Nat.not_lt.mpr (Nat.le_succ _))
  have hcf : s₂.heap.objs.size + 2 ∉ fp := fun h => absurd (hfp _ h) (Nat.not_lt.mpr (Nat.le_add_right _ _))
  have hDf : s₂.heap.objs.size ∉ fp := fun h => absurd (hfp _ h) (Nat.lt_irrefl _)
  have old : ∀ b o, s₂.heap.get? b = some o → b ≠ s₂.heap.objs.size + 1 ∧ b ≠ s₂.heap.objs.size + 2 := fun b o e => ⟨Nat.ne_of_lt (Nat.lt_succ_of_lt (Heap.lt_size e)), Nat.ne_of_lt (Nat.lt_succ_of_lt (Nat.lt_succ_of_lt (Heap.lt_size e)))⟩
  have hz1 : (s₂.heap.push { cls := .type "list", data := .seq ([] : List Value).toArray }).objs.size = s₂.heap.objs.size + 1 := Heap.size_push ..
  have hz2 : ((s₂.heap.push { cls := .type "list", data := .seq ([] : List Value).toArray }).push { cls := .type "dict", data := .dict #[] }).objs.size = s₂.heap.objs.size + 2 := by rw [Heap.size_push, hz1]
  have hNs : ∃ m, (cHeap scope s₂.heap).Ns (s₂.heap.objs.size + 1) m := by
    refine ⟨fun _ => none, ?_⟩
    show (pushCells _ _).Ns _ _
    rw [hpush]
    have q := Heap.Ns.new (s₂.heap.push { cls := .type "list", data := .seq ([] : List Value).toArray }) (.type "dict")
    rw [hz1] at q
    exact q.push _
  have hCell : ∃ o, (cHeap scope s₂.heap).IsCell (s₂.heap.objs.size + 2) o := by
    refine ⟨none, { cls := .type "cell", data := .cell none }, ?_, rfl⟩
    show (pushCells _ _).get? _ = _
    rw [hpush, ← hz2]
    exact Heap.get?_push_size _ rfl
  have hst₀ : St 0 (cHeap scope s₂.heap) := W.frame _ _ _ hst fun b _ o e => cHeap_old e
  refine ⟨_, _, _, _, ds, hlen ▸ turn_cell (cenv := compEnvC scope ((x, s₂.heap.objs.size + 2) :: cl) (s₂.heap.objs.size + 1) env) (px := px) (c := s₂.heap.objs.size + 2) W hx (by simp [compEnvC, relabel, hkind]) (by simp [compEnvC])
    (by show s₂.heap.objs.size + 2 ≠ s₂.heap.objs.size + 1; exact fun h => absurd (Nat.add_left_cancel h) (by decide)) hCf hcf hlive, ?_, List.mem_cons_self .., ⟨hst₀, hNs, hCell⟩, hsz, ⟨I, rfl, fun s Q E h q => W.self 0 s Q E h.1 q⟩, ?_, ?_⟩
  · intro h
    rcases List.mem_cons.mp h with h | h
    · exact absurd h (Nat.ne_of_lt (Nat.lt_succ_self _))
    · rcases List.mem_cons.mp h with h | h
      · exact absurd h (Nat.ne_of_lt (Nat.lt_succ_of_lt (Nat.lt_succ_self _)))
      · exact hDf h
  · rintro i d s₃ E' hd ⟨_, _, v, hPv, hn⟩ ⟨h, tk, rfl⟩ hk
    have hi : i < ds.length := (List.getElem?_eq_some_iff.mp hd).1
    obtain ⟨c, hc⟩ : ∃ c, ws[i]? = some c := ⟨ws[i]'(by omega), by simp [hlen, hi]⟩
    have k₃ : Keeps s { s₂ with heap := h, toks := tk } := keeps_heap k₂ (fun b o e => hk b o (fun hm => by
      rcases List.mem_cons.mp hm with rfl | hm
      · exact absurd rfl (old _ o (keeps_get k₂ e)).1
      · rcases List.mem_cons.mp hm with rfl | hm
        · exact absurd rfl (old _ o (keeps_get k₂ e)).2
        · rw [hwr b hm] at e; cases e) (keeps_get k₂ e)) tk
    refine helt i c d hc hd (s₂.heap.objs.size + 1) (s₂.heap.objs.size + 2) _ E' ⟨hm _ _ g k₃, v, hn, ?_⟩
    exact hP i v c h hPv hc fun b o hb e => hk b o (fun hm => by
      rcases List.mem_cons.mp hm with rfl | hm
      · exact absurd rfl (old _ o e).1
      · rcases List.mem_cons.mp hm with rfl | hm
        · exact absurd rfl (old _ o e).2
        · exact hb hm) e
  · intro h' tk ys hl hE hk
    refine ⟨keeps_heap k₂ (fun b o e => hk b o (fun hm => by
      rcases List.mem_cons.mp hm with rfl | hm
      · exact absurd rfl (old _ o (keeps_get k₂ e)).1
      · rcases List.mem_cons.mp hm with rfl | hm
        · exact absurd rfl (old _ o (keeps_get k₂ e)).2
        · rw [hwr b hm] at e; cases e) (keeps_get k₂ e)) tk, _, ys, rfl, get_none_of_keeps k₂ (get_none_size _), hl, elts_nil hE⟩
end
end Mine
end
-- part FN1
section
open PySem PySem.W PySem.Spec PySem.Calls PyProof.Rows
namespace Mine
abbrev PG : Program := PySem.Challenge.pw_sa0073_01
def Fill (_ : OpenLaw) (_ : Params → Frag) (P : Prop) : Prop := P
noncomputable def objAt (P : Params) (a : Nat) : Obj := match (Mine.hd.heap_39 P).lookup a with
  | some o => o
  | none => { cls := .none }
theorem objAt_get {P : Params} {a : Nat} (h : ((Mine.hd.heap_39 P).lookup a).isSome = true) : (Mine.hd.heap_39 P).lookup a = some (objAt P a) := by
  unfold objAt
  cases e : (Mine.hd.heap_39 P).lookup a with
  | some o => rfl
  | none => rw [e] at h; cases h
theorem of_fill {P : Prop} (h : Fill PySem.Challenge.rw_sa0073_01 Mine.hd.heap_39 P) : P := h

theorem ev_if {prog : Program} {w : World} {A : Around} {Γ : Shared → Prop} {env : Env} {l r body orelse : Expr} {op : CmpOp} {pos p : Pos} {a b : Int} {c : Bool} {P : VP} (hm : Mono Γ) (h1 : Ev prog w A Γ env l (IV a)) (h2 : Ev prog w A Γ env r (IV b))
    (ho : ∀ (s : Shared) E (Q : Value → Shared → Prop) t u, Q (.bool c) s → wpAny (model prog w) A (compareOp op (.int a t) (.int b u)) Q E s)
    (hb : if c = true then Ev prog w A Γ env body P else Ev prog w A Γ env orelse P) (hR : ∀ v s s₁ s', Keeps s s₁ → P v s₁ s' → P v s s') (hmk : behindInMarks op r = false) :
    Ev prog w A Γ env (.IfExp (.Compare l [op] [r] p) body orelse pos) P := fun s E g => by
  refine wpAny_IfExp (wpAny_isTrue_Compare1 (wpAny_mono (h1 s E g) (fun v s₁ ⟨k₁, t, hv⟩ => ?_) fun _ _ e => e) hmk)
  refine wpAny_mono (h2 s₁ E (hm _ _ g k₁)) (fun u s₂ ⟨k₂, t₂, hu⟩ => ?_) fun _ _ e => e
  subst hv hu
  refine ho _ _ _ _ _ (wpAny_truthy_bool ?_)
  have k := keeps_trans k₁ k₂
  cases c with
  | true =>
    rw [if_pos rfl] at hb ⊢
    exact wpAny_mono (hb s₂ E (hm _ _ g k)) (fun v s₃ ⟨k₃, hv⟩ => ⟨keeps_trans k k₃, hR _ _ _ _ k hv⟩) fun _ _ e => e
  | false =>
    rw [if_neg (by decide)] at hb ⊢
    exact wpAny_mono (hb s₂ E (hm _ _ g k)) (fun v s₃ ⟨k₃, hv⟩ => ⟨keeps_trans k k₃, hR _ _ _ _ k hv⟩) fun _ _ e => e

/-- the state within a called def: everything of s₀ stands, the names are m, the cells cm -/
def GC (w : World) (s₀ : Shared) (L : Addr) (m : Str → Option Value) (cs : List (Str × Addr)) (cm : Str → Option Value) (s : Shared) : Prop := Tp w s₀ ∧ InCallC s₀ L m cs cm s
section
variable {w : World} {s₀ s : Shared} {L : Addr} {m cm : Str → Option Value} {cs : List (Str × Addr)}
theorem gc_mono : Mono (GC w s₀ L m cs cm) := fun s s' ⟨T, x⟩ k => ⟨T, by obtain ⟨h', tk, rfl, hk⟩ := k; exact x.kept hk⟩
theorem gc_keeps (x : GC w s₀ L m cs cm s) : Keeps s₀ s := x.2.toInCall.done
theorem gc_isCell (x : GC w s₀ L m cs cm s) (n : Str) {c : Addr} {v : Value} (hc : cs.lookup n = some c) (hv : cm n = some v) : s.heap.IsCell c (some v) := hv ▸ x.2.cell n c hc
theorem gc_tp : ∀ s, GC w s₀ L m cs cm s → Tp w s := fun _ x => x.1.keeps (gc_keeps x)
end

/-- no names and no cell: a list, a tuple, an iterator -/
def solid (o : Obj) : Bool := match o.data with
  | .seq .. => true
  | .fields .. => true
  | _ => false
theorem solid_seq {o : Obj} {its : Array Value} {n : Nat} (d : o.data = .seq its n) : solid o = true := by unfold solid; rw [d]
theorem solid_ne_ns {h : Heap} {T L : Addr} {o : Obj} {m : Str → Option Value} (e : h.get? T = some o) (d : solid o = true) (y : h.Ns L m) : T ≠ L := by
  rintro rfl
  obtain ⟨o', es, ep, e', d', _⟩ := y
  rw [e] at e'
  cases e'
  unfold solid at d
  rw [d'] at d
  cases d
theorem solid_ne_cell {h : Heap} {T c : Addr} {o : Obj} {v : Option Value} (e : h.get? T = some o) (d : solid o = true) (y : h.IsCell c v) : T ≠ c := by
  rintro rfl
  obtain ⟨o', e', d'⟩ := y
  rw [e] at e'
  cases e'
  unfold solid at d
  rw [d'] at d
  cases d
theorem list_ne_ns {h : Heap} {T L : Addr} {its : Array Value} {m : Str → Option Value} (x : h.IsList T its) (y : h.Ns L m) : T ≠ L := let ⟨_, e, _, _, d⟩ := x; solid_ne_ns e (solid_seq d) y
theorem list_ne_cell {h : Heap} {T c : Addr} {its : Array Value} {v : Option Value} (x : h.IsList T its) (y : h.IsCell c v) : T ≠ c := let ⟨_, e, _, _, d⟩ := x; solid_ne_cell e (solid_seq d) y
def ListsKept (h h' : Heap) : Prop := ∀ T o, h.get? T = some o → solid o = true → h'.get? T = some o
theorem ListsKept.list {h h' : Heap} (k : ListsKept h h') {T : Addr} {its : Array Value} (x : h.IsList T its) : h'.IsList T its := let ⟨o, e, c, n, d⟩ := x; ⟨o, k _ _ e (solid_seq d), c, n, d⟩
theorem ListsKept.plain {h h' : Heap} (k : ListsKept h h') {T : Addr} {its : Array Value} (x : h.PlainList T its) : h'.PlainList T its := let ⟨n, e⟩ := x; ⟨n, k _ _ e rfl⟩
theorem ListsKept.of_keeps {s s' : Shared} (k : Keeps s s') : ListsKept s.heap s'.heap := fun _ _ e _ => keeps_get k e
theorem ListsKept.trans {a b c : Heap} (h : ListsKept a b) (k : ListsKept b c) : ListsKept a c := fun T o e d => k T o (h T o e d) d
theorem LI.lists {ks : List Int} {v : Value} {h h' : Heap} (x : LI ks v h) (k : ListsKept h h') : LI ks v h' := let ⟨l, vs, e, hl, hi⟩ := x; ⟨l, vs, e, k.list hl, hi⟩
theorem AllLI.lists {h h' : Heap} (k : ListsKept h h') : ∀ {kss : List (List Int)} {vs : List Value}, AllLI h kss vs → AllLI h' kss vs
  | [], [], _ => trivial
  | _ :: _, _ :: _, ⟨a, b⟩ => ⟨a.lists k, AllLI.lists k b⟩
  | [], _ :: _, x => x.elim
  | _ :: _, [], x => x.elim
theorem ML.lists {kss : List (List Int)} {v : Value} {h h' : Heap} (x : ML kss v h) (k : ListsKept h h') : ML kss v h' := let ⟨l, vs, e, hl, hi⟩ := x; ⟨l, vs, e, k.list hl, hi.lists k⟩

section
variable {w : World} {A : Around} {s₀ : Shared} {env : Env} {m cm : Str → Option Value} {Γ : Shared → Prop}
theorem gc_local {x : Str} {pos : Pos} {v : Value} {P : VP} (hg : ∀ s, Γ s → GC w s₀ env.locals m env.cells cm s) (hk : env.scope.kind = .function) (hx : env.kindOf x = some .local) (hd : (x == ("__debug__" : Str)) = false) (hv : m x = some v)
    (h : ∀ s, Γ s → P v s s) : Ev PG w A Γ env (.Name x pos) P :=
  ev_local hk hx hd fun s g => ⟨m, v, (hg s g).2.toInCall.ns, hv, h s g⟩
theorem gc_cell {x : Str} {pos : Pos} {c : Addr} {v : Value} {P : VP} (hg : ∀ s, Γ s → GC w s₀ env.locals m env.cells cm s) (hk : env.scope.kind = .function) (hx : env.kindOf x = some .cell) (hd : (x == ("__debug__" : Str)) = false) (hc : env.cells.lookup x = some c) (hv : cm x = some v)
    (h : ∀ s, Γ s → P v s s) : Ev PG w A Γ env (.Name x pos) P :=
  ev_cell hk hx hd hc fun s g => ⟨v, hv ▸ (hg s g).2.cell x c hc, h s g⟩

theorem st_cell {x : Str} {c : Addr} {v : Value} {Q : Unit → Shared → Prop} {E : Value → Shared → Prop} {s : Shared} (g : GC w s₀ env.locals m env.cells cm s)
    (hk : env.scope.kind = .function) (hx : env.kindOf x = some .cell) (hc : env.cells.lookup x = some c)
    (h : ∀ s', ListsKept s.heap s'.heap → GC w s₀ env.locals m env.cells (fun y => if y = x then some v else cm y) s' → Q () s') : wpAny (model PG w) A (storeName env x v) Q E s := by
  have hl := g.2.cell x c hc
  have X := g.2
  have hLc : env.locals < c := X.above x c (mem_of_lookup hc)
  refine wpAny_storeName_cell hk hx hc hl fun h' hv hs => h _ (fun T o e d => hs.extBut T o (solid_ne_cell e d hl) e) ⟨g.1, ⟨⟨?_, ?_, ?_, X.toInCall.fresh⟩, ?_, X.apart, X.above⟩⟩
  · obtain ⟨h₁, tk, rfl⟩ := X.toInCall.same
    exact ⟨h', tk, rfl⟩
  · exact X.toInCall.ns.sameBut hs (Nat.ne_of_lt hLc)
  · intro b o e
    have lt : b < c := Nat.lt_trans (Nat.lt_of_lt_of_le (Heap.lt_size e) X.toInCall.fresh) hLc
    exact hs.extBut b o (Nat.ne_of_lt lt) (X.toInCall.keep b o e)
  · intro k c' hk'
    by_cases e : k = x
    · subst e
      rw [hc] at hk'
      cases hk'
      simpa using hv
    · have hne : c' ≠ c := fun q => by
        subst q
        exact e (name_of_addr X.apart (mem_of_lookup hk') (mem_of_lookup hc))
      have q := (X.cell k c' hk').sameBut hs hne
      simpa [e] using q
theorem st_local {x : Str} {v : Value} {Q : Unit → Shared → Prop} {E : Value → Shared → Prop} {s : Shared} (g : GC w s₀ env.locals m env.cells cm s)
    (hk : env.scope.kind = .function) (hx : env.kindOf x = some .local)
    (h : ∀ s', ListsKept s.heap s'.heap → GC w s₀ env.locals (fun y => if y = x then some v else m y) env.cells cm s' → Q () s') : wpAny (model PG w) A (storeName env x v) Q E s := by
  have hl := g.2.toInCall.ns
  have X := g.2
  refine wpAny_storeName_local hx hl (fun h' hn hs => h _ (fun T o e d => hs.extBut T o (solid_ne_ns e d hl) e) ⟨g.1, ⟨⟨?_, hn, ?_, X.toInCall.fresh⟩, ?_, X.apart, X.above⟩⟩) (by rw [hk]; rfl)
  · obtain ⟨h₁, tk, rfl⟩ := X.toInCall.same
    exact ⟨h', _, rfl⟩
  · intro b o e
    exact hs.extBut b o (Nat.ne_of_lt (Nat.lt_of_lt_of_le (Heap.lt_size e) X.toInCall.fresh)) (X.toInCall.keep b o e)
  · intro k c' hk'
    exact (X.cell k c' hk').sameBut hs (Nat.ne_of_gt (X.above k c' (mem_of_lookup hk')))
end
def HMono (k : HP) : Prop := ∀ v s s', k v s.heap → Keeps s s' → k v s'.heap
theorem civ_mono {k : Int} : HMono (CIV k) := fun _ _ _ h _ => h
theorem li_mono {ks : List Int} : HMono (LI ks) := fun _ _ _ h k => h.keeps k
theorem mono_cell {Γ : Shared → Prop} {c : Addr} {k : HP} (hm : Mono Γ) (hk : HMono k) : Mono (fun s => Γ s ∧ ∃ v, s.heap.IsCell c (some v) ∧ k v s.heap) :=
  fun _ _ ⟨g, v, hc, hl⟩ q => ⟨hm _ _ g q, v, hc.keeps (fun _ _ e => keeps_get q e), hk _ _ _ hl q⟩
theorem mono_local {Γ : Shared → Prop} {C : Addr} {x : Str} {k : HP} (hm : Mono Γ) (hk : HMono k) : Mono (fun s => Γ s ∧ ∃ m v, s.heap.Ns C m ∧ m x = some v ∧ k v s.heap) :=
  fun _ _ ⟨g, m, v, hc, hv, hl⟩ q => ⟨hm _ _ g q, m, v, hc.keeps (fun _ _ e => keeps_get q e), hv, hk _ _ _ hl q⟩
end Mine
end
-- part FN2
section
open PySem PySem.W PySem.Spec PySem.Calls PyProof.Rows
namespace Mine

def dotAt (r : List Int) (B : List (List Int)) (j : Nat) : List Int := (List.range B.length).map fun t => r.getD t 0 * (B.getD t []).getD j 0
def mulRow (r : List Int) (B : List (List Int)) (wd : Nat) : List Int := (List.range wd).map fun j => preSum (fun t => (dotAt r B j).getD t 0) B.length
theorem getD_get {α : Type} {l : List α} {i : Nat} {d : α} (h : i < l.length) : l[i]? = some (l.getD i d) := by simp [List.getD, h]
theorem map_range_get {α : Type} {n i : Nat} {f : Nat → α} {x : α} (h : ((List.range n).map f)[i]? = some x) : i < n ∧ x = f i := by
  have hi : i < n := by
    have := (List.getElem?_eq_some_iff.mp h).1
    simpa using this
  rw [List.getElem?_map, List.getElem?_range hi] at h
  exact ⟨hi, (Option.some.inj h).symm⟩
theorem map_get {α β : Type} {l : List α} {i : Nat} {f : α → β} {x : β} (h : (l.map f)[i]? = some x) : ∃ a, l[i]? = some a ∧ x = f a := by
  rw [List.getElem?_map] at h
  cases e : l[i]? with
  | none => rw [e] at h; cases h
  | some a => rw [e] at h; exact ⟨a, rfl, (Option.some.inj h).symm⟩

set_option maxRecDepth 100000 in
set_option maxHeartbeats 4000000 in
theorem whole_mul_spec {w : World} {A : Around} {s : Shared} {E : Value → Shared → Prop} (hA : A.handled = none) (hroom : A.depth < recursionLimit) (T : Tp w s) {va vb : Value} {Ma Mb : List (List Int)} {wd : Nat}
    (ha : ML Ma va s.heap) (hb : ML Mb vb s.heap) (hb0 : 0 < Mb.length) (hwd : (Mb.getD 0 []).length = wd) (hra : ∀ r ∈ Ma, Mb.length ≤ r.length) (hrb : ∀ r ∈ Mb, wd ≤ r.length)
    (z1 : Ma.length ≤ 1000) (z2 : Mb.length ≤ 1000) (z3 : wd ≤ 1000) (hm : ∀ r ∈ Ma, ∀ t, t < Mb.length → ∀ j, j < wd → IntMulOk (r.getD t 0) ((Mb.getD t []).getD j 0)) :
    wpAny (model PG w) A (call (.ref 24) [va, vb]) (fun v s' => Keeps s s' ∧ ML (Ma.map fun r => mulRow r Mb wd) v s'.heap) E s := by
  have T' : (Mine.hd.heap_39 w.params).In s.heap := T.1
  refine of_fill ?_
  k_fill
  unfold Fill
  have hline : 1000 ≤ sizeLine := by decide
  have ho : (Mine.hd.heap_39 w.params).lookup 24 = some (objAt w.params 24) := objAt_get rfl
  refine wpAny_call (codeAny_call_cells hroom (T' _ _ ho) rfl T.2.1 (codeRec_of T' ?hcd) rfl (binds := [("a", va), ("b", vb)]) ?hbind rfl ?hkind ?_)
  case hcd => exact rfl
  case hbind => exact rfl
  case hkind => intro x hx; simp only [List.mem_cons, List.not_mem_nil, or_false] at hx; exact hx.elim (fun e => e ▸ .inl rfl) (fun e => e ▸ .inr ⟨rfl, rfl⟩)
  intro s₁ X
  refine wpAny_mono (Q := fun fl s' => Keeps s s' ∧ ML (Ma.map fun r => mulRow r Mb wd) (match fl with | .ret v => v | _ => .none) s'.heap) ?_ (fun fl s' h => h) (fun _ _ h => h)
  have gc : GC w s _ _ _ _ s₁ := ⟨T, X⟩
  refine wpAny_execs_cons (wpAny_Assign_Name (wpAny_mono ((?ev : Ev PG w _ _ _ _ (IV wd)) s₁ _ gc) (fun v s₂ ⟨k₂, t₂, hv⟩ => ?_) (fun _ _ e => e)) ?sw)
  case sw => exact rfl
  case ev =>
    refine ev_if gc_mono (a := Mb.length) (b := 0) (c := true) ?_ ev_int (fun _ _ _ _ _ q => gt_int (by rw [decide_eq_true (by omega)]; exact q)) ?_ iv_back rfl
    · refine ev_len (kss := Mb) gc_mono ?_ ?_ (by omega) rfl
      · exact ev_builtin gc_tp rfl rfl rfl rfl rfl (by k_is) (by boot_fast) (by decide)
      · exact gc_cell (fun _ g => g) rfl rfl rfl rfl rfl (fun s' g' => hb.keeps (gc_keeps g'))
    · show Ev _ _ _ _ _ _ _
      rw [← hwd]
      refine ev_lenI (ks := Mb.getD 0 []) gc_mono ?_ (ev_row (kss := Mb) (k := 0) gc_mono ?_ ev_int (by decide) (by decide) (getD_get hb0) ?_) (by omega) rfl
      · exact ev_builtin gc_tp rfl rfl rfl rfl rfl (by k_is) (by boot_fast) (by decide)
      · exact gc_cell (fun _ g => g) rfl rfl rfl rfl rfl (fun s' g' => hb.keeps (gc_keeps g'))
      · exact fun l t => rfl
  subst hv
  refine st_cell (gc_mono _ _ gc k₂) rfl rfl rfl fun s₃ _ gc₃ => ?_
  refine wpAny_execs_cons (wpAny_Return_some (wpAny_mono ((?ev : Ev PG w _ _ _ _ (MLV _)) s₃ _ gc₃) (fun v s₄ ⟨k₄, hv⟩ => ⟨keeps_trans (gc_keeps gc₃) k₄, hv⟩) (fun _ _ e => e)))
  refine ev_mono (P := MadeV ((Ma.map fun r => mulRow r Mb wd).map .l)) ?_ (fun v s s' _ h => h.rows)
  refine ev_comp_cell (ws := Ma.map LI) rfl rfl (by decide) rfl (fun _ _ => rfl) (fun _ => rfl) (evit_rows (kss := Ma) hA (gc_local (fun _ g => g) rfl rfl rfl rfl (fun s' g' => ha.keeps (gc_keeps g')))) (by simp) (by simp; omega) gc_mono ?_ (fun _ => rfl)
  intro i rv rd hi hj C cell
  obtain ⟨r, hr, rfl⟩ := map_get hi
  rw [List.map_map] at hj
  obtain ⟨r', hr', rfl⟩ := map_get hj
  rw [hr] at hr'
  cases hr'
  have hrm : r ∈ Ma := List.mem_of_getElem? hr
  refine ev_mono (P := MadeV ((mulRow r Mb wd).map .i)) ?_ (fun v s s' _ h => h.elt)
  refine ev_comp_cell (ws := (List.range wd).map fun (i : Nat) => CIV (i : Int)) rfl rfl (by decide) rfl (fun _ _ => rfl) (fun _ => rfl) (evit_range (n := wd) hA (mono_cell gc_mono li_mono) ?_ ?_ (by omega) rfl) (by simp [mulRow]) (by simp [mulRow]; omega) (mono_cell gc_mono li_mono) ?_ (fun _ => rfl)
  · exact ev_builtin (fun s g => gc_tp s g.1) rfl rfl rfl rfl rfl (by k_is) (by boot_fast) (by decide)
  · exact ev_cell rfl rfl rfl rfl (fun s g => ⟨_, gc_isCell g.1 "width" rfl rfl, _, rfl⟩)
  intro j cv cd hj1 hj2 C2 cell2
  obtain ⟨hjw, rfl⟩ := map_range_get hj1
  rw [mulRow, List.map_map] at hj2
  obtain ⟨_, rfl⟩ := map_range_get hj2
  have hdl : (dotAt r Mb j).length = Mb.length := by simp [dotAt]
  show Ev _ _ _ _ _ _ (IV (preSum (fun t => (dotAt r Mb j).getD t 0) Mb.length))
  rw [← hdl]
  refine ev_sum hA (mono_cell (mono_cell gc_mono li_mono) civ_mono) ?_ ?_ rfl
  · exact ev_builtin (fun s g => gc_tp s g.1.1) rfl rfl rfl rfl rfl (by k_is) (by boot_fast) (by decide)
  refine ev_mono (P := MadeV ((dotAt r Mb j).map .i)) ?_ (fun v s s' _ h => h.ints)
  refine ev_comp_local (ws := (List.range Mb.length).map fun (i : Nat) => CIV (i : Int)) rfl rfl (by decide) rfl (fun _ _ => rfl) (fun _ => rfl) (evit_range (n := Mb.length) hA (mono_cell (mono_cell gc_mono li_mono) civ_mono) ?_ ?_ (by omega) rfl) (by simp [dotAt]) (by simp [dotAt]; omega) (mono_cell (mono_cell gc_mono li_mono) civ_mono) ?_ (fun _ => rfl)
  · exact ev_builtin (fun s g => gc_tp s g.1.1) rfl rfl rfl rfl rfl (by k_is) (by boot_fast) (by decide)
  · refine ev_len (kss := Mb) (mono_cell (mono_cell gc_mono li_mono) civ_mono) ?_ ?_ (by omega) rfl
    · exact ev_builtin (fun s g => gc_tp s g.1.1) rfl rfl rfl rfl rfl (by k_is) (by boot_fast) (by decide)
    · exact ev_cell rfl rfl rfl rfl (fun s g => ⟨_, gc_isCell g.1.1 "b" rfl rfl, hb.keeps (gc_keeps g.1.1)⟩)
  intro t tv td ht1 ht2 C3
  obtain ⟨htb, rfl⟩ := map_range_get ht1
  rw [dotAt, List.map_map] at ht2
  obtain ⟨_, rfl⟩ := map_range_get ht2
  have hBt : Mb.getD t [] ∈ Mb := List.mem_of_getElem? (getD_get htb)
  have hrl := hra r hrm
  have hbl := hrb _ hBt
  show Ev _ _ _ _ _ _ (IV (r.getD t 0 * (Mb.getD t []).getD j 0))
  refine ev_mul (mono_local (mono_cell (mono_cell gc_mono li_mono) civ_mono) civ_mono) ?_ ?_ (hm r hrm t htb j hjw)
  · refine ev_item (ks := r) (k := (t : Int)) (mono_local (mono_cell (mono_cell gc_mono li_mono) civ_mono) civ_mono) ?_ ?_ (by omega) (by omega) ?_ (fun l t => rfl)
    · exact ev_cell rfl rfl rfl rfl (fun s g => g.1.1.2)
    · exact ev_local rfl rfl rfl (fun s g => g.2)
    · exact getD_get (by omega)
  · refine ev_item (ks := Mb.getD t []) (k := (j : Int)) (mono_local (mono_cell (mono_cell gc_mono li_mono) civ_mono) civ_mono) (ev_row (kss := Mb) (k := (t : Int)) (mono_local (mono_cell (mono_cell gc_mono li_mono) civ_mono) civ_mono) ?_ ?_ (by omega) (by omega) ?_ (fun l t => rfl)) ?_ (by omega) (by omega) ?_ (fun l t => rfl)
    · exact ev_cell rfl rfl rfl rfl (fun s g => ⟨_, gc_isCell g.1.1.1 "b" rfl rfl, hb.keeps (gc_keeps g.1.1.1)⟩)
    · exact ev_local rfl rfl rfl (fun s g => g.2)
    · exact getD_get htb
    · exact ev_cell rfl rfl rfl rfl (fun s g => g.1.2)
    · exact getD_get (by omega)
end Mine
end
-- part FN3
section
open PySem PySem.W PySem.Spec PySem.Calls PyProof.Rows
namespace Mine
def unitRow (n i : Nat) : List Int := (List.range n).map fun (j : Nat) => if (i : Int) = (j : Int) then 1 else 0
def unitRows (n : Nat) : List (List Int) := (List.range n).map fun i => unitRow n i

set_option maxRecDepth 100000 in
set_option maxHeartbeats 4000000 in
theorem unit_rows_spec {w : World} {A : Around} {s : Shared} {E : Value → Shared → Prop} (hA : A.handled = none) (hroom : A.depth < recursionLimit) (T : Tp w s) {n : Nat} {tn : Tok} (hn : n ≤ 1000) :
    wpAny (model PG w) A (call (.ref 19) [.int n tn]) (fun v s' => Keeps s s' ∧ ML (unitRows n) v s'.heap) E s := by
  have T' : (Mine.hd.heap_39 w.params).In s.heap := T.1
  refine of_fill ?_
  k_fill
  unfold Fill
  have hline : 1000 ≤ sizeLine := by decide
  have ho : (Mine.hd.heap_39 w.params).lookup 19 = some (objAt w.params 19) := objAt_get rfl
  refine wpAny_call (codeAny_call_cells hroom (T' _ _ ho) rfl T.2.1 (codeRec_of T' ?hcd) rfl (binds := [("n", .int n tn)]) ?hbind rfl ?hkind ?_)
  case hcd => exact rfl
  case hbind => exact rfl
  case hkind => intro x hx; simp only [List.mem_cons, List.not_mem_nil, or_false] at hx; exact hx ▸ .inr ⟨rfl, rfl⟩
  intro s₁ X
  refine wpAny_mono (Q := fun fl s' => Keeps s s' ∧ ML (unitRows n) (match fl with | .ret v => v | _ => .none) s'.heap) ?_ (fun fl s' h => h) (fun _ _ h => h)
  have gc : GC w s _ _ _ _ s₁ := ⟨T, X⟩
  refine wpAny_execs_cons (wpAny_Return_some (wpAny_mono ((?ev : Ev PG w _ _ _ _ (MLV _)) s₁ _ gc) (fun v s₄ ⟨k₄, hv⟩ => ⟨keeps_trans (gc_keeps gc) k₄, hv⟩) (fun _ _ e => e)))
  refine ev_mono (P := MadeV ((unitRows n).map .l)) ?_ (fun v s s' _ h => h.rows)
  refine ev_comp_cell (ws := (List.range n).map fun (i : Nat) => CIV (i : Int)) rfl rfl (by decide) rfl (fun _ _ => rfl) (fun _ => rfl) (evit_range (n := n) hA gc_mono ?_ ?_ (by omega) rfl) (by simp [unitRows]) (by simp [unitRows]; omega) gc_mono ?_ (fun _ => rfl)
  · exact ev_builtin gc_tp rfl rfl rfl rfl rfl (by k_is) (by boot_fast) (by decide)
  · exact gc_cell (fun _ g => g) rfl rfl rfl rfl rfl (fun s' g' => ⟨_, rfl⟩)
  intro i rv rd hi hj C cell
  obtain ⟨hin, rfl⟩ := map_range_get hi
  rw [unitRows, List.map_map] at hj
  obtain ⟨_, rfl⟩ := map_range_get hj
  refine ev_mono (P := MadeV ((unitRow n i).map .i)) ?_ (fun v s s' _ h => h.elt)
  refine ev_comp_local (ws := (List.range n).map fun (i : Nat) => CIV (i : Int)) rfl rfl (by decide) rfl (fun _ _ => rfl) (fun _ => rfl) (evit_range (n := n) hA (mono_cell gc_mono civ_mono) ?_ ?_ (by omega) rfl) (by simp [unitRow]) (by simp [unitRow]; omega) (mono_cell gc_mono civ_mono) ?_ (fun _ => rfl)
  · exact ev_builtin (fun s g => gc_tp s g.1) rfl rfl rfl rfl rfl (by k_is) (by boot_fast) (by decide)
  · exact ev_cell rfl rfl rfl rfl (fun s g => ⟨_, gc_isCell g.1 "n" rfl rfl, _, rfl⟩)
  intro j cv cd hj1 hj2 C2
  obtain ⟨hjw, rfl⟩ := map_range_get hj1
  rw [unitRow, List.map_map] at hj2
  obtain ⟨_, rfl⟩ := map_range_get hj2
  show Ev _ _ _ _ _ _ (IV (if (i : Int) = (j : Int) then 1 else 0))
  refine ev_if (mono_local (mono_cell gc_mono civ_mono) civ_mono) (a := (i : Int)) (b := (j : Int)) (c := ((i : Int) == (j : Int))) ?_ ?_ (fun _ _ _ _ _ q => eq_int q) ?_ iv_back rfl
  · exact ev_cell rfl rfl rfl rfl (fun s g => g.1.2)
  · exact ev_local rfl rfl rfl (fun s g => g.2)
  · by_cases e : (i : Int) = (j : Int)
    · rw [if_pos (by simp [e]), if_pos e]
      exact ev_int
    · rw [if_neg (by simp [e]), if_neg e]
      exact ev_int
end Mine
end
-- part FN4
section
open PySem PySem.W PySem.Spec PySem.Calls PyProof.Rows
namespace Mine
section
variable {w : World} {s₀ s : Shared} {L : Addr} {m cm : Str → Option Value} {cs : List (Str × Addr)}
/-- one object that is none of the call's own names or cells, and none of the old ones, may turn -/
theorem gc_but (g : GC w s₀ L m cs cm s) {b : Addr} {h' : Heap} {tk : Nat} (hb : s₀.heap.get? b = none) (hL : b ≠ L) (hc : ∀ n c, cs.lookup n = some c → b ≠ c) (k : ∀ x o, x ≠ b → s.heap.get? x = some o → h'.get? x = some o) :
    GC w s₀ L m cs cm { s with heap := h', toks := tk } := by
  have X := g.2
  refine ⟨g.1, ⟨⟨?_, X.toInCall.ns.at' fun o e => k _ o (Ne.symm hL) e, ?_, X.toInCall.fresh⟩, ?_, X.apart, X.above⟩⟩
  · obtain ⟨h₁, t, rfl⟩ := X.toInCall.same
    exact ⟨h', tk, rfl⟩
  · intro x o e
    exact k x o (fun q => by subst q; rw [hb] at e; cases e) (X.toInCall.keep x o e)
  · intro n c hn
    obtain ⟨o, e, r⟩ := X.cell n c hn
    exact ⟨o, k c o (Ne.symm (hc n c hn)) e, r⟩
theorem gc_list_ne (g : GC w s₀ L m cs cm s) {T : Addr} {its : Array Value} (x : s.heap.IsList T its) : T ≠ L ∧ ∀ n c, cs.lookup n = some c → T ≠ c :=
  ⟨list_ne_ns x g.2.toInCall.ns, fun n c hc => list_ne_cell x (g.2.cell n c hc)⟩
theorem gc_iter_ne (g : GC w s₀ L m cs cm s) {I : Addr} {a b c : Int} (x : IsRangeIter s.heap I a b c) : I ≠ L ∧ ∀ n c, cs.lookup n = some c → I ≠ c := by
  refine ⟨?_, fun n c hc => ?_⟩
  · rintro rfl
    obtain ⟨o, es, ep, e, d, _⟩ := g.2.toInCall.ns
    have x' : s.heap.get? I = some _ := x
    rw [x'] at e
    cases e
    cases d
  · rintro rfl
    obtain ⟨o, e, d⟩ := g.2.cell n _ hc
    have x' : s.heap.get? I = some _ := x
    rw [x'] at e
    cases e
    cases d
end


theorem list_ne_iter {h : Heap} {T I : Addr} {o : Obj} {its : Array Value} {n : Nat} {a b c : Int} (e : h.get? T = some o) (d : o.data = .seq its n) (y : IsRangeIter h I a b c) : T ≠ I := by
  rintro rfl
  have y' : h.get? T = some _ := y
  rw [e] at y'
  cases y'
  cases d
theorem it_range {prog : Program} {w : World} {A : Around} {Γ : Shared → Prop} {env : Env} {f : Str} {p pos : Pos} {e : Expr} {n : Nat} (hm : Mono Γ) (hf : Ev prog w A Γ env (.Name f p) (IsV (.type "range"))) (he : Ev prog w A Γ env e (IV n)) (hn : n < 2 ^ 62)
    (hst : starEach [e] env = (false, eval e env) :: starEach [] env) {s : Shared} {E : Value → Shared → Prop} {Q : Value → Shared → Prop} (g : Γ s) (hQ : ∀ s₂ I, Keeps s s₂ → s.heap.get? I = none → IsRangeIter s₂.heap I 0 n 1 → Q (.ref I) s₂) :
    wpAny (model prog w) A (eval (.Call (.Name f p) [e] [] pos) env) (fun xv s₁ => wpAny (model prog w) A (pyIter xv) Q E s₁) E s := by
  refine wpAny_Call_Name_kw (wpAny_mono (hf s E g) (fun v s₁ ⟨k₁, hv⟩ => ?_) fun _ _ e => e)
  obtain rfl : v = .type "range" := hv
  refine PyProof.Rows.callWith_type1 (wpAny_items_cons (wpAny_mono (he s₁ E (hm _ _ g k₁)) (fun v s₂ ⟨k₂, t, hv⟩ => ?_) fun _ _ e => e) hst) hst
  subst hv
  refine wpAny_items_nil (call_range_1 ?_)
  have hrs : Builtin.Range.rangeSize 0 (n : Int) 1 = (n : Int) := by rw [rangeSize_one]; split <;> omega
  refine wpAny_pyIter_range (IsRange.new _ _ _ _ _ _ _) (small_one (by decide) (by decide) (by omega) (by omega)) ?_
  rw [hrs]
  have k₃ := keeps_push (keeps_tok (keeps_push (keeps_trans k₁ k₂) { cls := .type "range", data := .fields #[.int 0 s₂.toks, .int n t, .int 1 (s₂.toks + 1)] }) (s₂.toks + 1 + 1)) { cls := .type "range_iterator", data := .fields #[rawInt 0, rawInt (n : Int), rawInt 1] }
  exact hQ _ _ k₃ (get_none_of_keeps (s' := { s₂ with heap := s₂.heap.push { cls := .type "range", data := .fields #[.int 0 s₂.toks, .int n t, .int 1 (s₂.toks + 1)] } }) (keeps_push (keeps_trans k₁ k₂) _) (get_none_size _)) (Heap.get?_push_size _ rfl)
theorem plain_list {h : Heap} {T : Addr} {its : Array Value} (x : h.PlainList T its) : PlainL h T its := let ⟨n, e⟩ := x; ⟨_, n, e, rfl, rfl, rfl⟩

abbrev gcLike {w : World} {s₀ s : Shared} {L : Addr} {m cm : Str → Option Value} {cs : List (Str × Addr)} (_ : GC w s₀ L m cs cm s) (cm' : Str → Option Value) (s' : Shared) : Prop := GC w s₀ L m cs cm' s'
abbrev gcLikeM {w : World} {s₀ s : Shared} {L : Addr} {m cm : Str → Option Value} {cs : List (Str × Addr)} (_ : GC w s₀ L m cs cm s) (m' : Str → Option Value) (s' : Shared) : Prop := GC w s₀ L m' cs cm s'
abbrev gcSame {w : World} {s₀ s : Shared} {L : Addr} {m cm : Str → Option Value} {cs : List (Str × Addr)} (_ : GC w s₀ L m cs cm s) (s' : Shared) : Prop := GC w s₀ L m cs cm s'
def FoundV (ks : List Int) : VP := fun v s s' => ∃ D y, v = .ref D ∧ s.heap.get? D = none ∧ s'.heap.PlainList D #[y] ∧ LI ks y s'.heap ∧ y ≠ .ref D
theorem ev_list_of {prog : Program} {w : World} {A : Around} {Γ : Shared → Prop} {env : Env} {f : Str} {p pos : Pos} {e : Expr} {ks : List Int} (hm : Mono Γ) (hf : Ev prog w A Γ env (.Name f p) (IsV (.type "list"))) (he : Ev prog w A Γ env e (LIV ks)) (hz : ks.length ≤ sizeLine)
    (hst : starEach [e] env = (false, eval e env) :: starEach [] env) : Ev prog w A Γ env (.Call (.Name f p) [e] [] pos) (LIV ks) :=
  ev_callT1 hm hf he (fun v s₀ s E _ _ hv => by
    obtain ⟨l, ws, rfl, ⟨o, ho, hc, n, hd⟩, hi⟩ := hv
    have hlen : (List.toArray ws).size ≤ sizeLine := by rw [List.size_toArray, hi.length]; exact hz
    refine call_list_seq l (.inl rfl) ho hc hd (fun h' c' hk hn => ?_) hlen
    exact ⟨keeps_heap (keeps_refl s) hk _, _, ws, rfl, ⟨_, hn, rfl, _, rfl⟩, hi⟩) (fun _ _ _ _ _ h => h) hst
theorem ev_list1 {prog : Program} {w : World} {A : Around} {Γ : Shared → Prop} {env : Env} {pos : Pos} {e : Expr} {ks : List Int} (he : Ev prog w A Γ env e (LIV ks))
    (hst : starEach [e] env = (false, eval e env) :: starEach [] env) : Ev prog w A Γ env (.List [e] pos) (FoundV ks) := fun s E g => by
  refine wpAny_List (wpAny_items_cons (wpAny_mono (he s E g) (fun v s' ⟨k, hv⟩ => wpAny_items_nil ⟨(by show 1 ≤ sizeLine; decide), keeps_push k _, _, v, rfl, get_none_of_keeps k (get_none_size _), ⟨_, Heap.get?_push_size _ rfl⟩, LI.at hv fun b o e => Heap.get?_push_of_some _ e, ?_⟩) (fun _ _ e => e)) hst)
  obtain ⟨l, ws, rfl, ⟨o, ho, _⟩, _⟩ := hv
  intro e
  cases e
  exact absurd (Heap.lt_size ho) (Nat.lt_irrefl _)
def stepM (p r : Int) : List (List Int) := [[p, r], [1, 0]]

set_option maxRecDepth 100000 in
set_option maxHeartbeats 4000000 in
theorem step_matrix_spec {w : World} {A : Around} {s : Shared} {E : Value → Shared → Prop} (hA : A.handled = none) (hroom : A.depth < recursionLimit) (T : Tp w s) {vs : Value} {p r : Int} (hs : LI [p, r] vs s.heap) :
    wpAny (model PG w) A (call (.ref 29) [vs]) (fun v s' => Keeps s s' ∧ ML (stepM p r) v s'.heap) E s := by
  have T' : (Mine.hd.heap_39 w.params).In s.heap := T.1
  refine of_fill ?_
  k_fill
  unfold Fill
  have ho : (Mine.hd.heap_39 w.params).lookup 29 = some (objAt w.params 29) := objAt_get rfl
  refine wpAny_call (codeAny_call_cells hroom (T' _ _ ho) rfl T.2.1 (codeRec_of T' ?hcd) rfl (binds := [("steps", vs)]) ?hbind rfl ?hkind ?_)
  case hcd => exact rfl
  case hbind => exact rfl
  case hkind => intro x hx; simp only [List.mem_cons, List.not_mem_nil, or_false] at hx; exact hx ▸ .inl rfl
  intro s₁ X
  refine wpAny_mono (Q := fun fl s' => Keeps s s' ∧ ML (stepM p r) (match fl with | .ret v => v | _ => .none) s'.heap) ?_ (fun fl s' h => h) (fun _ _ h => h)
  have gc : GC w s _ _ _ _ s₁ := ⟨T, X⟩
  -- size = len(steps)
  refine wpAny_execs_cons (wpAny_Assign_Name (wpAny_mono ((?ev : Ev PG w _ _ _ _ (IV 2)) s₁ _ gc) (fun v s₂ ⟨k₂, t₂, hv⟩ => ?_) (fun _ _ e => e)) rfl)
  case ev =>
    refine ev_lenI (ks := [p, r]) gc_mono ?_ ?_ (by show ((2 : Nat) : Int) < 2 ^ 63; decide) rfl
    · exact ev_builtin gc_tp rfl rfl rfl rfl rfl (by k_is) (by boot_fast) (by decide)
    · exact gc_local (fun _ g => g) rfl rfl rfl rfl (fun s' g' => hs.keeps (gc_keeps g'))
  subst hv
  refine st_local (gc_mono _ _ gc k₂) rfl rfl fun s₃ _ gc₃ => ?_
  -- found = [list(steps)]
  refine wpAny_execs_cons (wpAny_Assign_Name (wpAny_mono ((?ev : Ev PG w _ _ _ _ (FoundV [p, r])) s₃ _ gc₃) (fun v s₄ hh => ?_) (fun _ _ e => e)) rfl)
  case ev =>
    have back : ∀ v s s₁ s', Keeps s s₁ → FoundV [p, r] v s₁ s' → FoundV [p, r] v s s' := fun v s s₁ s' k ⟨D, y, a, b, r⟩ => ⟨D, y, a, get_none_of_keeps k b, r⟩
    refine ev_if gc_mono (a := 2) (b := 0) (c := true) ?_ ev_int (fun _ _ _ _ _ q => gt_int q) ?_ back rfl
    · exact gc_local (fun _ g => g) rfl rfl rfl rfl (fun s' g' => ⟨_, rfl⟩)
    · rw [if_pos rfl]
      refine ev_list1 (ev_list_of gc_mono ?_ ?_ (by show 2 ≤ sizeLine; decide) rfl) rfl
      · exact ev_builtin gc_tp rfl rfl rfl rfl rfl (by k_is) (by boot_fast) (by decide)
      · exact gc_local (fun _ g => g) rfl rfl rfl rfl (fun s' g' => hs.keeps (gc_keeps g'))
  obtain ⟨k₄, D, y, rfl, hDn, hD, hy, hyD⟩ := hh
  have gc₄ := gc_mono _ _ gc₃ k₄
  have hDs : s.heap.get? D = none := get_none_of_keeps (gc_keeps gc₃) hDn
  refine st_local gc₄ rfl rfl fun s₅ lk₅ gc₅ => ?_
  have hD₅ := lk₅.plain hD
  have hy₅ := hy.lists lk₅
  -- the loop, one turn
  refine wpAny_execs_cons (wpAny_For (it_range (n := 1) gc_mono ?_ ?_ (by decide) rfl gc₅ fun s₆ I k₆ hIn hI => ?_) (fun _ => rfl))
  · exact ev_builtin gc_tp rfl rfl rfl rfl rfl (by k_is) (by boot_fast) (by decide)
  · exact ev_sub (a := 2) (b := 1) gc_mono (gc_local (fun _ g => g) rfl rfl rfl rfl (fun s' g' => ⟨_, rfl⟩)) ev_int
  have gc₆ := gc_mono _ _ gc₅ k₆
  have hIs : s.heap.get? I = none := get_none_of_keeps (gc_keeps gc₅) hIn
  have hD₆ : s₆.heap.PlainList D #[y] := let ⟨n, e⟩ := hD₅; ⟨n, keeps_get k₆ e⟩
  have hy₆ := hy₅.keeps k₆
  refine codeAny_forLoop (fun k s' => (k = 2 ∧ gcSame gc₆ s' ∧ IsRangeIter s'.heap I 0 1 1 ∧ s'.heap.PlainList D #[y] ∧ LI [p, r] y s'.heap) ∨
    (k = 1 ∧ ∃ cm' y₂, gcLike gc₆ cm' s' ∧ IsRangeIter s'.heap I 1 0 1 ∧ s'.heap.PlainList D #[y, y₂] ∧ LI [p, r] y s'.heap ∧ LI [1, 0] y₂ s'.heap)) ?_ 2 (.inl ⟨rfl, gc₆, hI, hD₆, hy₆⟩) (fun _ => rfl)
  rintro k s' (⟨rfl, g, hi, hd, hl⟩ | ⟨rfl, cm', y₂, g, hi, hd, hl, hl2⟩)
  · have hIne := gc_iter_ne g hi
    refine wpAny_pyNext_range_item hi (by decide) fun h₇ hi₇ hs₇ => ?_
    have k₇ : ∀ x o, x ≠ I → s'.heap.get? x = some o → h₇.get? x = some o := fun x o hx e => hs₇.extBut x o hx e
    have lk₇ : ∀ T o its n, s'.heap.get? T = some o → o.data = .seq its n → h₇.get? T = some o := fun T o its n e d => k₇ T o (list_ne_iter e d hi) e
    have g₇ := gc_but g (h' := h₇) (tk := s'.toks + 1) hIs hIne.1 hIne.2 k₇
    refine wpAny_assign_Name (st_cell g₇ rfl rfl rfl fun s₈ lk₈ g₈ => ?_)
    have hi₈ : IsRangeIter s₈.heap I 1 0 1 := lk₈ I _ hi₇ rfl
    have hd₈ : s₈.heap.PlainList D #[y] := lk₈.plain (let ⟨n, e⟩ := hd; ⟨n, lk₇ _ _ _ _ e rfl⟩)
    have hl₇ : LI [p, r] y h₇ := let ⟨l, ws, e, ⟨o, q, c, n, d⟩, i⟩ := hl; ⟨l, ws, e, ⟨o, lk₇ _ _ _ _ q d, c, n, d⟩, i⟩
    have hl₈ := hl₇.lists lk₈
    refine wpAny_execs_cons (wpAny_Expr (wpAny_Call_append rfl rfl rfl rfl (wpAny_mono ((?ev : Ev PG w _ _ _ _ (IsV (.ref D))) s₈ _ g₈) (fun v s₉ hv => ?_) (fun _ _ e => e))) rfl rfl)
    case ev => exact gc_local (fun _ g => g) rfl rfl rfl rfl (fun s' g' => rfl)
    obtain ⟨k₉, rfl⟩ := hv
    have g₉ := gc_mono _ _ g₈ k₉
    have hd₉ : s₉.heap.PlainList D #[y] := let ⟨n, e⟩ := hd₈; ⟨n, keeps_get k₉ e⟩
    have hl₉ := hl₈.keeps k₉
    refine ⟨D, _, rfl, plain_list hd₉, ?_⟩
    refine wpAny_mono ((?ev : Ev PG w _ _ _ _ (EV (.l [1, 0]))) s₉ _ g₉) (fun v sA hv => ?_) (fun _ _ e => e)
    case ev =>
      refine ev_mono (P := MadeV ([1, 0].map .i)) ?_ (fun v s s' _ h => h.elt)
      refine ev_comp_local (ws := (List.range 2).map fun (i : Nat) => CIV (i : Int)) rfl rfl (by decide) rfl (fun _ _ => rfl) (fun _ => rfl) (evit_range (n := 2) hA gc_mono ?_ ?_ (by omega) rfl) rfl (by show 2 ≤ sizeLine; decide) gc_mono ?_ (fun _ => rfl)
      · exact ev_builtin gc_tp rfl rfl rfl rfl rfl (by k_is) (by boot_fast) (by decide)
      · exact gc_local (fun _ g => g) rfl rfl rfl rfl (fun s' g' => ⟨_, rfl⟩)
      intro j cv cd hj1 hj2 C2
      obtain ⟨hjw, rfl⟩ := map_range_get hj1
      have hd2 : cd = .i (if (j : Int) = (0 : Int) then 1 else 0) := by
        have h01 : j = 0 ∨ j = 1 := by omega
        rcases h01 with rfl | rfl <;> (cases hj2; rfl)
      subst hd2
      show Ev _ _ _ _ _ _ (IV (if (j : Int) = (0 : Int) then 1 else 0))
      refine ev_if (mono_local gc_mono civ_mono) (a := (j : Int)) (b := 0) (c := ((j : Int) == (0 : Int))) ?_ ?_ (fun _ _ _ _ _ q => eq_int q) ?_ iv_back rfl
      · exact ev_local rfl rfl rfl (fun s g => g.2)
      · exact ev_cell rfl rfl rfl rfl (fun s g => ⟨_, gc_isCell g.1 "at" rfl rfl, _, rfl⟩)
      · by_cases e : (j : Int) = (0 : Int)
        · rw [if_pos (by simp [e]), if_pos e]
          exact ev_int
        · rw [if_neg (by simpa using e), if_neg e]
          exact ev_int
    obtain ⟨kA, Tv, us, rfl, hTn, hT, hIs2⟩ := hv
    have gA := gc_mono _ _ g₉ kA
    have hdA : sA.heap.PlainList D #[y] := let ⟨n, e⟩ := hd₉; ⟨n, keeps_get kA e⟩
    have hlA := hl₉.keeps kA
    have hDne := gc_list_ne gA hdA.isList
    have hiA : IsRangeIter sA.heap I 1 0 1 := keeps_get kA (keeps_get k₉ hi₈)
    have hTD : Tv ≠ D := by
      rintro rfl
      obtain ⟨n, e⟩ := hd₉
      rw [hTn] at e
      cases e
    refine wpAny_list_append_plain hdA (fun hB hdB hsB => ?_) (by show 1 ≤ sizeLine; decide)
    have kB : ∀ x o, x ≠ D → sA.heap.get? x = some o → hB.get? x = some o := fun x o hx e => hsB.extBut x o hx e
    have hID : I ≠ D := Ne.symm (let ⟨_, e⟩ := hdA; list_ne_iter e rfl hiA)
    refine wpAny_execs_nil ?_
    refine ⟨1, by decide, .inr ⟨rfl, _, .ref Tv, gc_but gA hDs hDne.1 hDne.2 kB, kB _ _ hID hiA, hdB, ?_, ?_⟩⟩
    · obtain ⟨l, ws, e, ⟨o, q, r⟩, i⟩ := hlA
      exact ⟨l, ws, e, ⟨o, kB _ _ (fun h => hyD (by rw [e, h])) q, r⟩, i⟩
    · obtain ⟨o, q, r⟩ := hT
      exact ⟨Tv, us, rfl, ⟨o, kB _ _ hTD q, r⟩, hIs2⟩
  · have hIne := gc_iter_ne g hi
    refine wpAny_pyNext_range_end hA hi (by decide) fun h₇ hs₇ => ?_
    have k₇ : ∀ x o, x ≠ I → s'.heap.get? x = some o → h₇.get? x = some o := fun x o hx e => hs₇ x o hx e
    have lk₇ : ∀ T o its n, s'.heap.get? T = some o → o.data = .seq its n → h₇.get? T = some o := fun T o its n e d => k₇ T o (list_ne_iter e d hi) e
    have g₇ := gc_but g (h' := h₇) (tk := s'.toks) hIs hIne.1 hIne.2 k₇
    have up : ∀ {ks : List Int} {v : Value}, LI ks v s'.heap → LI ks v h₇ := fun ⟨l, ws, e, ⟨o, q, c, n, d⟩, i⟩ => ⟨l, ws, e, ⟨o, lk₇ _ _ _ _ q d, c, n, d⟩, i⟩
    have hd₇ : h₇.PlainList D #[y, y₂] := let ⟨n, e⟩ := hd; ⟨n, lk₇ _ _ _ _ e rfl⟩
    refine wpAny_execs_nil ?_
    refine wpAny_execs_cons (wpAny_Return_some (wpAny_mono ((?ev : Ev PG w _ _ _ _ (IsV (.ref D))) _ _ g₇) (fun v s₉ hv => ?_) (fun _ _ e => e)))
    case ev => exact gc_local (fun _ g => g) rfl rfl rfl rfl (fun s' g' => rfl)
    obtain ⟨k₉, rfl⟩ := hv
    refine ⟨keeps_trans (gc_keeps g₇) k₉, D, [y, y₂], rfl, isList_at hd₇.isList fun _ e => keeps_get k₉ e, (up hl).at fun _ _ e => keeps_get k₉ e, (up hl2).at fun _ _ e => keeps_get k₉ e, trivial⟩
end Mine
end
-- part FN5
section
open PySem PySem.W PySem.Spec PySem.Calls PyProof.Rows
namespace Mine

def AllH (h : Heap) : List HP → List Value → Prop
  | [], [] => True
  | k :: ks, v :: vs => k v h ∧ AllH h ks vs
  | _, _ => False
theorem allH1 {h : Heap} {k : HP} : ∀ {vs : List Value}, AllH h [k] vs → ∃ v, vs = [v] ∧ k v h
  | [v], ⟨a, _⟩ => ⟨v, rfl, a⟩
  | [], x => x.elim
  | _ :: _ :: _, ⟨_, x⟩ => x.elim
theorem allH2 {h : Heap} {k l : HP} : ∀ {vs : List Value}, AllH h [k, l] vs → ∃ v u, vs = [v, u] ∧ k v h ∧ l u h
  | [v, u], ⟨a, b, _⟩ => ⟨v, u, rfl, a, b⟩
  | [], x => x.elim
  | [_], ⟨_, x⟩ => x.elim
  | _ :: _ :: _ :: _, ⟨_, _, x⟩ => x.elim
theorem allH3 {h : Heap} {k l m : HP} : ∀ {vs : List Value}, AllH h [k, l, m] vs → ∃ v u x, vs = [v, u, x] ∧ k v h ∧ l u h ∧ m x h
  | [v, u, x], ⟨a, b, c, _⟩ => ⟨v, u, x, rfl, a, b, c⟩
  | [], x => x.elim
  | [_], ⟨_, x⟩ => x.elim
  | [_, _], ⟨_, _, x⟩ => x.elim
  | _ :: _ :: _ :: _ :: _, ⟨_, _, _, x⟩ => x.elim
def HV (k : HP) : VP := fun v _ s' => k v s'.heap
def EvAs (prog : Program) (w : World) (A : Around) (Γ : Shared → Prop) (env : Env) (es : List Expr) (ks : List HP) : Prop :=
  ∀ s E pos, Γ s → wpAny (model prog w) A (spliced (backTo pos (starEach es env))) (fun vs s' => Keeps s s' ∧ AllH s'.heap ks vs) E s
section
variable {prog : Program} {w : World} {A : Around} {Γ : Shared → Prop} {env : Env}
theorem evas_nil : EvAs prog w A Γ env [] [] := fun s _ _ _ => wpAny_items_nil ⟨keeps_refl s, trivial⟩
theorem evas_cons {e : Expr} {es : List Expr} {k : HP} {ks : List HP} (hm : Mono Γ) (hk : HMono k) (he : Ev prog w A Γ env e (HV k)) (hes : EvAs prog w A Γ env es ks)
    (hst : starEach (e :: es) env = (false, eval e env) :: starEach es env) : EvAs prog w A Γ env (e :: es) (k :: ks) := fun s E pos g =>
  wpAny_items_cons (wpAny_mono (he s E g) (fun v s₁ ⟨k₁, hv⟩ => wpAny_mono (hes s₁ E pos (hm _ _ g k₁)) (fun vs s₂ ⟨k₂, hvs⟩ => ⟨keeps_trans k₁ k₂, hk _ _ _ hv k₂, hvs⟩) fun _ _ e => e) fun _ _ e => e) hst
theorem ev_callF {f : Str} {p pos : Pos} {e : Expr} {es : List Expr} {a : Addr} {ks : List HP} {R : HP} (hm : Mono Γ) (ht : ∀ s, Γ s → Tp w s) (hf : Ev prog w A Γ env (.Name f p) (IsV (.ref a))) (hkeep : keepIn (Mine.hd.heap_39 w.params) (.ref a) = true)
    (hes : EvAs prog w A Γ env (e :: es) ks) (hc : ∀ s E vs, Γ s → AllH s.heap ks vs → wpAny (model prog w) A (call (.ref a) vs) (fun v s' => Keeps s s' ∧ R v s'.heap) E s)
    (hst : starEach (e :: es) env = (false, eval e env) :: starEach es env) (hpl : ∀ pos, ((backTo pos (starEach es env)).any (·.1)) = false) :
    Ev prog w A Γ env (.Call (.Name f p) (e :: es) [] pos) (HV R) := fun s E g => by
  refine wpAny_Call_Name_kw (wpAny_mono (hf s E g) (fun v s₁ ⟨k₁, hv⟩ => ?_) fun _ _ e => e)
  obtain rfl : v = .ref a := hv
  have g₁ := hm _ _ g k₁
  refine callWith_K (ht _ g₁).1 hkeep (wpAny_mono (hes s₁ E pos g₁) (fun vs s₂ ⟨k₂, hvs⟩ => ?_) fun _ _ e => e) hst (hpl pos)
  have g₂ := hm _ _ g₁ k₂
  refine ⟨(ht _ g₂).1, ?_⟩
  rw [List.nil_append]
  exact wpAny_mono (hc s₂ E vs g₂ hvs) (fun v s₃ ⟨k₃, hr⟩ => ⟨keeps_trans (keeps_trans k₁ k₂) k₃, hr⟩) fun _ _ e => e
end
/-- the state of a def and two facts about made things -/
def G2 (Γ : Shared → Prop) (k l : Heap → Prop) (s : Shared) : Prop := Γ s ∧ k s.heap ∧ l s.heap
theorem g2_mono {Γ : Shared → Prop} {k l : Heap → Prop} (hm : Mono Γ) (hk : ∀ s s', k s.heap → Keeps s s' → k s'.heap) (hl : ∀ s s', l s.heap → Keeps s s' → l s'.heap) : Mono (G2 Γ k l) :=
  fun _ _ ⟨a, b, c⟩ q => ⟨hm _ _ a q, hk _ _ b q, hl _ _ c q⟩
theorem ml2_mono {Γ : Shared → Prop} {F S : List (List Int)} {v u : Value} (hm : Mono Γ) : Mono (G2 Γ (ML F v) (ML S u)) := g2_mono hm (fun _ _ h k => h.keeps k) (fun _ _ h k => h.keeps k)
theorem ml_mono {kss : List (List Int)} : HMono (ML kss) := fun _ _ _ h k => h.keeps k

abbrev Mat := List (List Int)
def mm (X Y : Mat) : Mat := X.map fun r => mulRow r Y 2
def dim2 (X : Mat) : Bool := X.length == 2 && X.all fun r => r.length == 2
def smallM (X : Mat) : Bool := X.all fun r => r.all fun x => decide (-(2 ^ 60) < x) && decide (x < 2 ^ 60)
def raiseF : Nat → Nat → Mat → Mat → Mat
  | 0, _, f, _ => f
  | k + 1, n, f, sq => if n = 0 then f else raiseF k (n / 2) (if n % 2 = 1 then mm f sq else f) (if 0 < n / 2 then mm sq sq else sq)
def okF : Nat → Nat → Mat → Mat → Bool
  | 0, n, _, _ => decide (n = 0)
  | k + 1, n, f, sq => decide (n = 0) || (dim2 f && dim2 sq && smallM f && smallM sq && okF k (n / 2) (if n % 2 = 1 then mm f sq else f) (if 0 < n / 2 then mm sq sq else sq))

theorem mul_of_small {X Y : Mat} (hX : dim2 X = true) (hY : dim2 Y = true) (sX : smallM X = true) : ∀ r ∈ X, ∀ t, t < Y.length → ∀ j, j < 2 → IntMulOk (r.getD t 0) ((Y.getD t []).getD j 0) := by
  intro r hr t ht j _
  have h1 := List.all_eq_true.mp sX r hr
  have h2 : -(2 ^ 60) < r.getD t 0 ∧ r.getD t 0 < 2 ^ 60 := by
    by_cases hl : t < r.length
    · have := List.all_eq_true.mp h1 (r.getD t 0) (List.mem_of_getElem? (getD_get hl))
      simpa using this
    · have : r.getD t 0 = 0 := by simp [List.getD, hl]
      rw [this]
      decide
  exact IntMulOk.of_left (intBits_le_64 (by omega) (by omega))
theorem dim2_len {X : Mat} (h : dim2 X = true) : X.length = 2 := by
  unfold dim2 at h
  simp only [Bool.and_eq_true, beq_iff_eq] at h
  exact h.1
theorem dim2_row {X : Mat} (h : dim2 X = true) : ∀ r ∈ X, r.length = 2 := by
  unfold dim2 at h
  simp only [Bool.and_eq_true] at h
  intro r hr
  simpa using List.all_eq_true.mp h.2 r hr
theorem mm_spec {w : World} {A : Around} {s : Shared} {E : Value → Shared → Prop} (hA : A.handled = none) (hroom : A.depth < recursionLimit) (T : Tp w s) {va vb : Value} {X Y : Mat} (ha : ML X va s.heap) (hb : ML Y vb s.heap)
    (hX : dim2 X = true) (hY : dim2 Y = true) (sX : smallM X = true) : wpAny (model PG w) A (call (.ref 24) [va, vb]) (fun v s' => Keeps s s' ∧ ML (mm X Y) v s'.heap) E s := by
  have lY := dim2_len hY
  refine whole_mul_spec (wd := 2) hA hroom T ha hb (by omega) ?_ (fun r hr => by rw [dim2_row hX r hr]; omega) (fun r hr => by rw [dim2_row hY r hr]; omega) (by rw [dim2_len hX]; omega) (by omega) (by omega) (mul_of_small hX hY sX)
  exact dim2_row hY _ (List.mem_of_getElem? (getD_get (by omega)))

section
variable {prog : Program} {w : World} {A : Around} {env : Env} {E : Value → Shared → Prop} {s : Shared}
/-- stores of a written tuple into names: the last name first -/
theorem ex_swap {elts : List Expr} {kk : Nat} {tpos : Pos} {value : Expr} {pos : Pos} {names : List Str} {Q : Flow → Shared → Prop} (hA : A.handled = none) (hs : swapsWithSole [.Tuple elts kk tpos] value pos.line env = pure false) (hw : swappedStores [.Tuple elts kk tpos] value env = pure (some names))
    (h : wpAny (model prog w) A (eval value env) (fun v s₁ => ∃ t items, v = .ref t ∧ s₁.heap.IsTuple t items ∧ names.length = items.size ∧ ∀ h', Heap.ExtBut s₁.heap.objs.size s₁.heap h' →
      wpAny (model prog w) A (assignInOrder (names.reverse.map fun n => bindName env n) items.toList.reverse) (fun _ => Q .next) E { s₁ with heap := h' }) E s) :
    wpAny (model prog w) A (exec (.Assign [.Tuple elts kk tpos] value pos) env) Q E s := by
  refine Assign_Tuple_swapped (names := names) (wpAny_mono h (fun v s₁ ⟨t, items, hv, ht, hn, hk⟩ => ?_) fun _ _ e => e) hs hw
  subst hv
  rw [hn]
  exact wpAny_unpackItems_tuple hA ht hk
theorem asg_nil {xs : List Value} {Q : Unit → Shared → Prop} (h : Q () s) : wpAny (model prog w) A (assignInOrder [] xs) Q E s := by
  unfold assignInOrder
  exact wpAny_pure h
theorem asg_cons {t : Value → Sem Unit} {ts : List (Value → Sem Unit)} {x : Value} {xs : List Value} {Q : Unit → Shared → Prop} (h : wpAny (model prog w) A (t x) (fun _ s₁ => wpAny (model prog w) A (assignInOrder ts xs) Q E s₁) E s) :
    wpAny (model prog w) A (assignInOrder (t :: ts) (x :: xs)) Q E s := by
  rw [assignInOrder]
  exact wpAny_bind (wpAny_holding h)
/-- a tuple display -/
theorem ev_tuple {Γ : Shared → Prop} {es : List Expr} {ks : List HP} {k : Nat} {pos : Pos} (he : EvAs prog w A Γ env es ks) (hz : ks.length ≤ sizeLine) (g : Γ s) {Q : Value → Shared → Prop}
    (h : ∀ t vs s', Keeps s s' → s'.heap.IsTuple t (List.toArray vs) → s.heap.get? t = none → AllH s'.heap ks vs → Q (.ref t) s') (hk : ∀ k' ∈ ks, HMono k') : wpAny (model prog w) A (eval (.Tuple es k pos) env) Q E s := by
  refine wpAny_Tuple (wpAny_mono (he s E pos g) (fun vs s₁ ⟨k₁, hv⟩ => ?_) fun _ _ e => e)
  have hlen : ∀ {h : Heap} {ks : List HP} {vs : List Value}, AllH h ks vs → vs.length = ks.length := by
    intro h ks
    induction ks with
    | nil => intro vs hv; cases vs with
      | nil => rfl
      | cons _ _ => exact hv.elim
    | cons k ks ih => intro vs hv; cases vs with
      | nil => exact hv.elim
      | cons v vs => exact congrArg (· + 1) (ih hv.2)
  have up2 : ∀ (o : Obj) {ks : List HP} {vs : List Value}, (∀ k' ∈ ks, HMono k') → AllH s₁.heap ks vs → AllH (s₁.heap.push o) ks vs := by
    intro o ks
    induction ks with
    | nil => intro vs _ hv; cases vs with
      | nil => trivial
      | cons _ _ => exact hv.elim
    | cons k ks ih => intro vs hm hv; cases vs with
      | nil => exact hv.elim
      | cons v vs => exact ⟨hm k (List.mem_cons_self ..) v s₁ { s₁ with heap := s₁.heap.push o } hv.1 (keeps_push (keeps_refl s₁) o), ih (fun k' hk' => hm k' (List.mem_cons_of_mem _ hk')) hv.2⟩
  exact ⟨by rw [hlen hv]; exact hz, h _ vs _ (keeps_push k₁ _) ⟨_, Heap.get?_push_size _ rfl, rfl, _, rfl⟩ (get_none_of_keeps k₁ (get_none_size _)) (up2 _ hk hv)⟩
end
end Mine
end
-- part FN6
section
open PySem PySem.W PySem.Spec PySem.Calls PyProof.Rows
namespace Mine

set_option maxRecDepth 100000 in
set_option maxHeartbeats 400000 in
theorem matrix_raised_spec {w : World} {A : Around} {s : Shared} {E : Value → Shared → Prop} (hA : A.handled = none) (hroom : A.depth + 1 < recursionLimit) (T : Tp w s) {va : Value} {M : Mat} {n k : Nat} {tn : Tok}
    (ha : ML M va s.heap) (hM : dim2 M = true) (hn : n < 2 ^ 60) (hok : okF k n (unitRows 2) M = true) :
    wpAny (model PG w) A (call (.ref 36) [va, .int n tn]) (fun v s' => Keeps s s' ∧ ML (raiseF k n (unitRows 2) M) v s'.heap) E s := by
  have T' : (Mine.hd.heap_39 w.params).In s.heap := T.1
  refine of_fill ?_
  k_fill
  unfold Fill
  have ho : (Mine.hd.heap_39 w.params).lookup 36 = some (objAt w.params 36) := objAt_get rfl
  refine wpAny_call (codeAny_call_cells (Nat.lt_of_succ_lt hroom) (T' _ _ ho) rfl T.2.1 (codeRec_of T' ?hcd) rfl (binds := [("a", va), ("n", .int n tn)]) ?hbind rfl ?hkind ?_)
  case hcd => exact rfl
  case hbind => exact rfl
  case hkind => intro x hx; simp only [List.mem_cons, List.not_mem_nil, or_false] at hx; exact hx.elim (fun e => e ▸ .inl rfl) (fun e => e ▸ .inl rfl)
  intro s₁ X
  refine wpAny_mono (Q := fun fl s' => Keeps s s' ∧ ML (raiseF k n (unitRows 2) M) (match fl with | .ret v => v | _ => .none) s'.heap) ?_ (fun fl s' h => h) (fun _ _ h => h)
  have gc : GC w s _ _ _ _ s₁ := ⟨T, X⟩
  -- found, square = (unit_rows(len(a)), a)
  refine wpAny_execs_cons (ex_swap (names := ["found", "square"]) hA rfl rfl (ev_tuple (ks := [ML (unitRows 2), ML M]) ?ev (by show 2 ≤ sizeLine; decide) gc (fun t vs s₂ k₂ ht _ hvs => ?_) (by
    intro k' hk'
    simp only [List.mem_cons, List.not_mem_nil, or_false] at hk'
    rcases hk' with rfl | rfl <;> exact ml_mono)))
  case ev =>
    refine evas_cons gc_mono ml_mono ?_ (evas_cons gc_mono ml_mono ?_ evas_nil rfl) rfl
    · refine ev_callF (a := 19) (ks := [CIV 2]) gc_mono gc_tp ?_ (by k_is) (evas_cons gc_mono civ_mono ?_ evas_nil rfl) ?_ rfl (fun _ => rfl)
      · exact ev_global gc_tp rfl rfl rfl rfl (by k_is)
      · have hl : (M.length : Int) = 2 := by rw [dim2_len hM]; rfl
        show Ev _ _ _ _ _ _ (IV 2)
        rw [← hl]
        refine ev_len gc_mono ?_ ?_ (by rw [dim2_len hM]; decide) rfl
        · exact ev_builtin gc_tp rfl rfl rfl rfl rfl (by k_is) (by boot_fast) (by decide)
        · exact gc_local (fun _ g => g) rfl rfl rfl rfl (fun s' g' => ha.keeps (gc_keeps g'))
      · rintro s E vs g hvs
        obtain ⟨v, rfl, t, rfl⟩ := allH1 hvs
        exact unit_rows_spec (n := 2) (A := A.deeper _) hA hroom (gc_tp _ g) (by omega)
    · exact gc_local (fun _ g => g) rfl rfl rfl rfl (fun s' g' => ha.keeps (gc_keeps g'))
  obtain ⟨vf, vq, rfl, hf, hq⟩ := allH2 hvs
  have gc₂ := gc_mono _ _ gc k₂
  refine ⟨t, _, rfl, ht, rfl, fun h₃ he₃ => ?_⟩
  have k₃ : Keeps s₂ { s₂ with heap := h₃ } := ⟨h₃, s₂.toks, rfl, fun b o e => he₃ b o (Nat.ne_of_lt (Heap.lt_size e)) e⟩
  have gc₃ := gc_mono _ _ gc₂ k₃
  show wpAny (model PG w) _ (assignInOrder [fun v => bindName _ "square" v, fun v => bindName _ "found" v] [vq, vf]) _ _ _
  refine asg_cons (wpAny_bindName (st_local gc₃ rfl rfl fun s₄ lk₄ gc₄ => ?_))
  refine asg_cons (wpAny_bindName (st_local gc₄ rfl rfl fun s₅ lk₅ gc₅ => ?_))
  refine asg_nil ?_
  have hf₅ : ML (unitRows 2) vf s₅.heap := ((hf.keeps k₃).lists lk₄).lists lk₅
  have hq₅ : ML M vq s₅.heap := ((hq.keeps k₃).lists lk₄).lists lk₅
  refine wpAny_execs_cons (wpAny_While ?_)
  have start : ∃ m' n' k' tn' vf' vq' F S, n = n' ∧ gcLikeM gc₅ m' s₅ ∧ m' "n" = some (.int ((n' : Nat) : Int) tn') ∧ m' "found" = some vf' ∧ m' "square" = some vq' ∧ ML F vf' s₅.heap ∧ ML S vq' s₅.heap ∧
      n' < 2 ^ 60 ∧ okF k' n' F S = true ∧ raiseF k' n' F S = raiseF k n (unitRows 2) M := ⟨_, n, k, tn, vf, vq, _, _, rfl, gc₅, rfl, rfl, rfl, hf₅, hq₅, hn, hok, rfl⟩
  refine codeAny_whileLoop (fun j s' => ∃ m' n' k' tn' vf' vq' F S, j = n' ∧ gcLikeM gc₅ m' s' ∧ m' "n" = some (.int ((n' : Nat) : Int) tn') ∧ m' "found" = some vf' ∧ m' "square" = some vq' ∧ ML F vf' s'.heap ∧ ML S vq' s'.heap ∧
      n' < 2 ^ 60 ∧ okF k' n' F S = true ∧ raiseF k' n' F S = raiseF k n (unitRows 2) M) ?_ n start
  rintro j s₆ ⟨m', n', k', tn', vf', vq', F, S, rfl, g, hmn, hmf, hmq, hF, hS, hn', hok', hR⟩
  have g : GC w s _ m' _ _ s₆ := g
  refine wpAny_isTrue_Compare1 (wpAny_mono ((?e1 : Ev PG w _ _ _ _ (IV (j : Nat))) s₆ _ g) (fun v s₇ h7 => ?_) (fun _ _ e => e)) rfl
  case e1 => exact gc_local (fun _ g => g) rfl rfl rfl hmn (fun s' g' => ⟨_, rfl⟩)
  obtain ⟨k₇, t₇, rfl⟩ := h7
  refine wpAny_mono (ev_int s₇ _ (gc_mono _ _ g k₇)) (fun v s₈ h8 => ?_) (fun _ _ e => e)
  obtain ⟨k₈, t₈, rfl⟩ := h8
  refine gt_int (wpAny_truthy_bool ?_)
  have k68 := keeps_trans k₇ k₈
  have g₈ := gc_mono _ _ g k68
  have hF₈ := hF.keeps k68
  have hS₈ := hS.keeps k68
  by_cases hz : j = 0
  · rw [if_neg (by simp [hz])]
    refine wpAny_execs_nil ?_
    refine wpAny_execs_cons (wpAny_Return_some (wpAny_mono ((?e1 : Ev PG w _ (G2 (GC w s _ m' _ _) (ML F vf') (ML S vq')) _ _ (MLV F)) s₈ _ ⟨g₈, hF₈, hS₈⟩) (fun v s₉ h9 => ?_) (fun _ _ e => e)))
    case e1 => exact gc_local (fun _ g => g.1) rfl rfl rfl hmf (fun s' g' => g'.2.1)
    have hRF : raiseF k' j F S = F := by
      cases k' with
      | zero => rfl
      | succ k' => simp [raiseF, hz]
    rw [← hR, hRF]
    exact ⟨keeps_trans (gc_keeps g₈) h9.1, h9.2⟩
  · rw [if_pos (by simp; omega)]
    obtain ⟨k'', rfl⟩ : ∃ q, k' = q + 1 := by
      cases k' with
      | zero => simp [okF, hz] at hok'
      | succ q => exact ⟨q, rfl⟩
    have hok2 : dim2 F = true ∧ dim2 S = true ∧ smallM F = true ∧ smallM S = true ∧ okF k'' (j / 2) (if j % 2 = 1 then mm F S else F) (if 0 < j / 2 then mm S S else S) = true := by
      simpa [okF, hz, and_assoc] using hok'
    obtain ⟨dF, dS, sF, sS, hok3⟩ := hok2
    have hR2 : raiseF k'' (j / 2) (if j % 2 = 1 then mm F S else F) (if 0 < j / 2 then mm S S else S) = raiseF k n (unitRows 2) M := by
      rw [← hR]
      simp [raiseF, hz]
    have hmod : ((j : Nat) : Int).fmod 2 = ((j % 2 : Nat) : Int) := (Int.ofNat_fmod j 2).symm
    have hdiv : ((j : Nat) : Int).fdiv 2 = ((j / 2 : Nat) : Int) := (Int.ofNat_fdiv j 2).symm
    refine wpAny_execs_cons (wpAny_mono (Q := fun f s' => f = .next ∧ ∃ m'' vf'', gcLikeM g₈ m'' s' ∧ m'' "n" = some (.int ((j : Nat) : Int) tn') ∧ m'' "found" = some vf'' ∧ m'' "square" = some vq' ∧ ML (if j % 2 = 1 then mm F S else F) vf'' s'.heap ∧ ML S vq' s'.heap) (wpAny_If (wpAny_isTrue_Compare1 (wpAny_mono ((?e1 : Ev PG w _ (G2 (GC w s _ m' _ _) (ML F vf') (ML S vq')) _ _ (IV ((j % 2 : Nat) : Int))) s₈ _ ⟨g₈, hF₈, hS₈⟩) (fun v s₉ h9 => ?_) (fun _ _ e => e)) rfl)) (fun f s' h => ?_) (fun _ _ e => e))
    case e1 =>
      rw [← hmod]
      exact ev_mod (ml2_mono gc_mono) (gc_local (fun _ g => g.1) rfl rfl rfl hmn (fun s' g' => ⟨_, rfl⟩)) ev_int (by decide)
    · obtain ⟨k₉, t₉, rfl⟩ := h9
      refine wpAny_mono (ev_int s₉ _ (gc_mono _ _ g₈ k₉)) (fun v sA hA' => ?_) (fun _ _ e => e)
      obtain ⟨kA, tA, rfl⟩ := hA'
      refine eq_int (wpAny_truthy_bool ?_)
      have k8A := keeps_trans k₉ kA
      have gA := gc_mono _ _ g₈ k8A
      have hFA := hF₈.keeps k8A
      have hSA := hS₈.keeps k8A
      by_cases h1 : j % 2 = 1
      · rw [if_pos (by rw [h1]; rfl)]
        refine wpAny_execs_cons (wpAny_Assign_Name (wpAny_mono ((?e1 : Ev PG w _ (G2 (GC w s _ m' _ _) (ML F vf') (ML S vq')) _ _ (HV (ML (mm F S)))) sA _ ⟨gA, hFA, hSA⟩) (fun v sB hB => ?_) (fun _ _ e => e)) rfl)
        case e1 =>
          refine ev_callF (a := 24) (ks := [ML F, ML S]) (ml2_mono gc_mono) (fun s g => gc_tp _ g.1) ?_ (by k_is) (evas_cons (ml2_mono gc_mono) ml_mono ?_ (evas_cons (ml2_mono gc_mono) ml_mono ?_ evas_nil rfl) rfl) ?_ rfl (fun _ => rfl)
          · exact ev_global (fun s g => gc_tp _ g.1) rfl rfl rfl rfl (by k_is)
          · exact gc_local (fun _ g => g.1) rfl rfl rfl hmf (fun s' g' => g'.2.1)
          · exact gc_local (fun _ g => g.1) rfl rfl rfl hmq (fun s' g' => g'.2.2)
          · rintro s E vs g hvs
            obtain ⟨v, u, rfl, hv, hu⟩ := allH2 hvs
            exact mm_spec (A := A.deeper _) hA hroom (gc_tp _ g.1) hv hu dF dS sF
        obtain ⟨kB, hv⟩ := hB
        have gB := gc_mono _ _ gA kB
        refine st_local gB rfl rfl fun sC lkC gC => ?_
        refine wpAny_execs_nil ⟨rfl, _, v, gC, ?_, ?_, ?_, ?_, (hSA.keeps kB).lists lkC⟩
        · exact hmn
        · rfl
        · exact hmq
        · rw [if_pos h1]
          exact hv.lists lkC
      · rw [if_neg (by simpa using (by omega : ¬ ((j % 2 : Nat) : Int) = 1))]
        refine wpAny_execs_nil ⟨rfl, m', vf', gA, hmn, hmf, hmq, ?_, hSA⟩
        rw [if_neg h1]
        exact hFA
    · obtain ⟨rfl, m₂, vf₂, g₂, hmn₂, hmf₂, hmq₂, hF₂, hS₂⟩ := h
      refine wpAny_execs_cons (wpAny_Assign_Name (wpAny_mono ((?e1 : Ev PG w _ (GC w s _ m₂ _ _) _ _ (IV ((j / 2 : Nat) : Int))) s' _ g₂) (fun v sB hB => ?_) (fun _ _ e => e)) rfl)
      case e1 =>
        rw [← hdiv]
        exact ev_floordiv gc_mono (gc_local (fun _ g => g) rfl rfl rfl hmn₂ (fun s' g' => ⟨_, rfl⟩)) ev_int (by decide) (PyProof.noPylong_small (by decide))
      obtain ⟨kB, tB, rfl⟩ := hB
      have gB := gc_mono _ _ g₂ kB
      refine st_local gB rfl rfl fun sC lkC gC => ?_
      have hFC := (hF₂.keeps kB).lists lkC
      have hSC := (hS₂.keeps kB).lists lkC
      generalize hm3 : (fun y => if y = Str.ofString "n" then some (Value.int ((j / 2 : Nat) : Int) tB) else m₂ y) = m₃ at gC
      have hmn₃ : m₃ "n" = some (Value.int ((j / 2 : Nat) : Int) tB) := by rw [← hm3]; rfl
      have hmf₃ : m₃ "found" = some vf₂ := by rw [← hm3]; exact hmf₂
      have hmq₃ : m₃ "square" = some vq' := by rw [← hm3]; exact hmq₂
      refine wpAny_execs_cons (wpAny_Assign_Name (wpAny_mono ((?e1 : Ev PG w _ (G2 (GC w s _ m₃ _ _) (ML (if j % 2 = 1 then mm F S else F) vf₂) (ML S vq')) _ _ (HV (ML (if 0 < j / 2 then mm S S else S)))) sC _ ⟨gC, hFC, hSC⟩) (fun v sD hD => ?_) (fun _ _ e => e)) rfl)
      case e1 =>
        refine ev_if (ml2_mono gc_mono) (a := ((j / 2 : Nat) : Int)) (b := 0) (c := decide (0 < j / 2)) ?_ ev_int (fun _ _ _ _ _ q => gt_int (by rw [show decide ((0 : Int) < ((j / 2 : Nat) : Int)) = decide (0 < j / 2) from decide_eq_decide.mpr (by omega)]; exact q)) ?_ (fun _ _ _ _ _ h => h) rfl
        · exact gc_local (fun _ g => g.1) rfl rfl rfl hmn₃ (fun s' g' => ⟨_, rfl⟩)
        · by_cases hp : 0 < j / 2
          · rw [if_pos (by simpa using hp), if_pos hp]
            refine ev_callF (a := 24) (ks := [ML S, ML S]) (ml2_mono gc_mono) (fun s g => gc_tp _ g.1) ?_ (by k_is) (evas_cons (ml2_mono gc_mono) ml_mono ?_ (evas_cons (ml2_mono gc_mono) ml_mono ?_ evas_nil rfl) rfl) ?_ rfl (fun _ => rfl)
            · exact ev_global (fun s g => gc_tp _ g.1) rfl rfl rfl rfl (by k_is)
            · exact gc_local (fun _ g => g.1) rfl rfl rfl hmq₃ (fun s' g' => g'.2.2)
            · exact gc_local (fun _ g => g.1) rfl rfl rfl hmq₃ (fun s' g' => g'.2.2)
            · rintro s E vs g hvs
              obtain ⟨v, u, rfl, hv, hu⟩ := allH2 hvs
              exact mm_spec (A := A.deeper _) hA hroom (gc_tp _ g.1) hv hu dS dS sS
          · rw [if_neg (by simpa using hp), if_neg hp]
            exact gc_local (fun _ g => g.1) rfl rfl rfl hmq₃ (fun s' g' => g'.2.2)
      obtain ⟨kD, hv⟩ := hD
      have gD := gc_mono _ _ gC kD
      refine st_local gD rfl rfl fun sE lkE gE => ?_
      refine wpAny_execs_nil ⟨j / 2, by omega, _, j / 2, k'', tB, vf₂, v, _, _, rfl, gE, ?_, ?_, rfl, (hFC.keeps kD).lists lkE, hv.lists lkE, by omega, hok3, hR2⟩
      · exact hmn₃
      · exact hmf₃
end Mine
end
-- part FN7
section
open PySem PySem.W PySem.Spec PySem.Calls PyProof.Rows
namespace Mine
section
variable {prog : Program} {w : World} {A : Around}

theorem turn_pair {x1 x2 : Str} {p1 p2 tp : Pos} {kk : Nat} {z : Addr} {fp wr : List Addr} {n : Nat} {Pt : Nat → Array Value → Prop} {St : Nat → Heap → Prop} {Mid : Nat → Addr → Heap → Prop} {P : Nat → Value → Value → Prop} {cenv : Env}
    (W : WalksT prog w A z fp wr n Pt St Mid) (hA : A.handled = none) (h1 : cenv.kindOf x1 = some .local) (h2 : cenv.kindOf x2 = some .local) (hne : x1 ≠ x2) (hk : cenv.scope.kind = .function) (hC : cenv.locals ∉ fp) (hlive : ∀ i h, St i h → ∀ b ∈ wr, ∃ o, h.get? b = some o)
    (hP : ∀ i vals, Pt i vals → ∃ u v, vals = #[u, v] ∧ P i u v) :
    Turn prog w A (.Tuple [.Name x1 p1, .Name x2 p2] kk tp) (.ref z) cenv n (cenv.locals :: wr) (cenv.locals :: fp) (fun i h => St i h ∧ ∃ m, h.Ns cenv.locals m)
      (fun i h => St (i + 1) h ∧ ∃ u v m, P i u v ∧ h.Ns cenv.locals m ∧ m x1 = some u ∧ m x2 = some v) where
  sub := fun b hb => by
    rcases List.mem_cons.mp hb with rfl | hb
    · exact List.mem_cons_self ..
    · exact List.mem_cons_of_mem _ (W.sub b hb)
  live := fun i h ⟨hst, u, v, m, _, hn, _⟩ b hb => by
    rcases List.mem_cons.mp hb with rfl | hb
    · obtain ⟨o, _, _, e, _⟩ := hn; exact ⟨o, e⟩
    · exact hlive _ _ hst b hb
  frame := fun i h h' ⟨hst, u, v, m, _, hn, _⟩ hk => ⟨W.frame _ _ _ hst fun b hb o e => hk b (List.mem_cons_of_mem _ hb) o e, m, hn.at' fun o e => hk _ (List.mem_cons_self ..) o e⟩
  fetch := fun i s Q E hi ⟨hst, m, hn⟩ hQ => by
    have hCw : cenv.locals ∉ wr := fun h => hC (W.sub _ h)
    refine W.item i s _ E hi hst fun T vals h' tk hPt hsz hT hmid hk' => ?_
    obtain ⟨u, v, rfl, hp⟩ := hP i vals hPt
    show wpAny _ _ (letOwnedTupleGo _ _ _) _ _ _
    refine W.go _ _ _ i T _ _ _ hmid fun h₂ hst₂ hk₂ => ?_
    have hTw : T ∉ wr := W.apart i T h' hmid
    have hT₂ : h₂.IsTuple T #[u, v] := let ⟨o, e, r⟩ := hT; ⟨o, hk₂ T o hTw e, r⟩
    refine wpAny_assign_Tuple hA hT₂ rfl rfl fun h₃ hx₃ => ?_
    have k₃ : ∀ b o, h₂.get? b = some o → h₃.get? b = some o := fun b o e => hx₃ b o (Nat.ne_of_lt (Heap.lt_size e)) e
    have hn₃ : h₃.Ns cenv.locals m := (hn.at' fun o e => hk' _ o hCw e).at' fun o e => k₃ _ o (hk₂ _ o hCw e)
    show wpAny _ _ (assignInOrder [assign (.Name x1 p1) cenv, assign (.Name x2 p2) cenv] [u, v]) _ _ _
    refine asg_cons (wpAny_assign_Name (wpAny_storeName_local h1 hn₃ (fun h₄ hn₄ hs₄ => ?_) (by rw [hk]; rfl)))
    refine asg_cons (wpAny_assign_Name (wpAny_storeName_local h2 hn₄ (fun h₅ hn₅ hs₅ => ?_) (by rw [hk]; rfl)))
    refine asg_nil ?_
    have k₅ : ∀ b o, b ≠ cenv.locals → h₂.get? b = some o → h₅.get? b = some o := fun b o hb e => hs₅.extBut b o hb (hs₄.extBut b o hb (k₃ b o e))
    refine hQ h₅ _ ⟨W.frame _ _ _ hst₂ fun b hb o e => k₅ b o (fun h => hC (h ▸ hb)) e, u, v, _, hp, hn₅, ?_, ?_⟩ fun b o hb e => ?_
    · show (if x1 = x2 then _ else if x1 = x1 then _ else _) = _
      rw [if_neg hne, if_pos rfl]
    · show (if x2 = x2 then _ else _) = _
      rw [if_pos rfl]
    · have hbw : b ∉ wr := fun h => hb (List.mem_cons_of_mem _ h)
      exact k₅ b o (fun h => hb (h ▸ List.mem_cons_self ..)) (hk₂ b o hbw (hk' b o hbw e))
  stop := fun s Q E ⟨hst, m, hn⟩ hQ => by
    have hCw : cenv.locals ∉ wr := fun h => hC (W.sub _ h)
    exact W.done s Q E hst fun h' tk hk' => hQ h' tk ⟨m, hn.at' fun o e => hk' _ o hCw e⟩ fun b o hb e => hk' b o (fun h => hb (List.mem_cons_of_mem _ h)) e

theorem mono_pair {Γ : Shared → Prop} {C : Addr} {x1 x2 : Str} {x y : Int} (hm : Mono Γ) : Mono (fun s => Γ s ∧ ∃ m t u, s.heap.Ns C m ∧ m x1 = some (.int x t) ∧ m x2 = some (.int y u)) :=
  fun _ _ ⟨g, m, t, u, hn, h1, h2⟩ q => ⟨hm _ _ g q, m, t, u, hn.keeps (fun _ _ e => keeps_get q e), h1, h2⟩
theorem ints_rev : ∀ {vs : List Value} {ks : List Int}, IntsAre vs ks → IntsAre vs.reverse ks.reverse := fun h => h.reverse
theorem ev_rev {Γ : Shared → Prop} {env : Env} {value : Expr} {p p2 p3 pos : Pos} {ks : List Int} {kc : Nat} (hz : ks.length ≤ sizeLine) (he : Ev prog w A Γ env value (LIV ks)) (ht : ∀ o r, letTemporaryGo value o r = pure ()) :
    Ev prog w A Γ env (.Subscript value (.Slice none none (some (.UnaryOp .USub (.Constant (.int 1) kc p3) p2)) p) pos) (LIV ks.reverse) := fun s E g => by
  refine wpAny_Subscript_Slice_step (T := "list") list_getitem_lookup (wpAny_mono (he s E g) (fun o s₁ ⟨k₁, hv⟩ => wpAny_Slice ?_) fun _ _ e => e) ht
  obtain ⟨l, vs, rfl, hl, hi⟩ := hv
  rw [evalPart_none]
  refine wpAny_pure (wpAny_pure ?_)
  rw [evalPart_some]
  refine wpAny_UnaryOp (wpAny_Constant_int (PyProof.Rows.neg_int ?_))
  have hsz : (List.toArray vs).size ≤ sizeLine := by rw [List.size_toArray, hi.length]; exact hz
  refine ⟨(hl.push _).typeIs, wpAny_getItem_list_slice (hl.push _) (Heap.IsSliceOf.new ..) .none .none (.int _ _) (by decide) ?_ hsz⟩
  rw [krv_pick]
  refine ⟨keeps_push (keeps_push (keeps_tok (keeps_tok k₁ _) _) _) _, _, vs.reverse, rfl, ⟨_, Heap.get?_push_size _ rfl, rfl, _, rfl⟩, ints_rev hi⟩

theorem ev_comp_zip {Γ : Shared → Prop} {env : Env} {elt e1 e2 : Expr} {f x1 x2 : Str} {pf pz p1 p2 tp : Pos} {kk : Nat} {scope : Scope} {pos : Pos} {cl : List (Str × Addr)} {xs ys : List Int} {ds : List Sp}
    (hA : A.handled = none) (hclos : closureFor scope env = pure cl) (hkind : scope.kind = .function) (hnames : ∀ y ∈ scope.names, y.2 = .local → scope.names.lookup y.1 = some .local)
    (hx1 : scope.names.lookup x1 = some .local) (hx2 : scope.names.lookup x2 = some .local) (hne : x1 ≠ x2) (hcells : ∀ n (cl : List (Str × Addr)), cellsFrom n scope.names cl = cl) (hpush : ∀ h, pushCells h scope.names = h)
    (hm : Mono Γ) (hf : Ev prog w A Γ env (.Name f pf) (IsV (.type "zip"))) (h1 : Ev prog w A Γ env e1 (LIV xs)) (h2 : Ev prog w A Γ env e2 (LIV ys)) (hl1 : xs.length = ds.length) (hl2 : ys.length = ds.length) (hsz : ds.length ≤ sizeLine)
    (helt : ∀ (i : Nat) (x y : Int) d, xs[i]? = some x → ys[i]? = some y → ds[i]? = some d → ∀ C, Ev prog w A (fun s => Γ s ∧ ∃ m t u, s.heap.Ns C m ∧ m x1 = some (.int x t) ∧ m x2 = some (.int y u)) (compEnvC scope cl C env) elt (EV d))
    (hs : ∀ x, foldedSetIterable (.Call (.Name f pf) [e1, e2] [] pz) env x = pure x) (hst1 : starEach [e1, e2] env = (false, eval e1 env) :: starEach [e2] env) (hst2 : starEach [e2] env = (false, eval e2 env) :: starEach [] env)
    (hpl : ∀ pos, ((backTo pos (starEach [e2] env)).any (·.1)) = false) :
    Ev prog w A Γ env (.ListComp elt [⟨.Tuple [.Name x1 p1, .Name x2 p2] kk tp, .Call (.Name f pf) [e1, e2] [] pz, [], 0⟩] scope pos) (MadeV ds) := fun s E g => by
  refine comp_gen hclos hkind hnames ?_ hs
  refine wpAny_Call_Name_kw (wpAny_mono (hf s E g) (fun v s₁ ⟨k₁, hv⟩ => ?_) fun _ _ e => e)
  obtain rfl : v = .type "zip" := hv
  refine PyProof.Rows.callWith_type1 (wpAny_items_cons (wpAny_mono (h1 s₁ E (hm _ _ g k₁)) (fun v s₂ ⟨k₂, hv1⟩ => ?_) fun _ _ e => e) hst1) hst1 (hpl _)
  refine wpAny_items_cons (wpAny_mono (h2 s₂ E (hm _ _ g (keeps_trans k₁ k₂))) (fun u s₃ ⟨k₃, hv2⟩ => ?_) fun _ _ e => e) hst2
  refine wpAny_items_nil ?_
  obtain ⟨l1, us, rfl, hu, iu⟩ := LI.keeps hv1 k₃
  obtain ⟨l2, vs, rfl, hv, iv⟩ := hv2
  have lu := iu.length
  have lv := iv.length
  obtain ⟨o1, ho1, _⟩ := id hu
  obtain ⟨o2, ho2, _⟩ := id hv
  have lt1 := Heap.lt_size ho1
  have lt2 := Heap.lt_size ho2
  refine call_zip_2 hu hv fun h' hz hTI hTO hi1 hi2 hsz' hk => ?_
  refine wpAny_pyIter_zip hz ?_
  have k13 := keeps_trans (keeps_trans k₁ k₂) k₃
  have k4 : Keeps s { s₃ with heap := h' } := keeps_trans k13 ⟨h', s₃.toks, rfl, hk⟩
  have W := WalksT.zip2 (prog := prog) (w := w) hA _ _ _ _ _ _ _ (ktu_apart s₃.heap.objs.size l1 l2 lt1 lt2) (List.toArray us) (List.toArray vs)
  have hmin : min (List.toArray us).size (List.toArray vs).size = ds.length := by simp only [List.size_toArray]; omega
  rw [hmin] at W
  generalize hN : s₃.heap.objs.size = N at *
  have hfp : ∀ b ∈ [N + 4, N + 2, N + 3, N, N + 1, l1, l2], b < N + 5 := by
    intro b hb
    simp only [List.mem_cons, List.not_mem_nil, or_false] at hb
    rcases hb with rfl | rfl | rfl | rfl | rfl | rfl | rfl
    · exact Nat.add_lt_add_left (by decide) _
    · exact Nat.add_lt_add_left (by decide) _
    · exact Nat.add_lt_add_left (by decide) _
    · exact Nat.lt_add_of_pos_right (by decide)
    · exact Nat.add_lt_add_left (by decide) _
    · exact Nat.lt_add_right _ lt1
    · exact Nat.lt_add_right _ lt2
  have hCf : h'.objs.size + 1 ∉ [N + 4, N + 2, N + 3, N, N + 1, l1, l2] := fun h => by
    have q := hfp _ h
    rw [hsz'] at q
    exact absurd q (Nat.not_lt.mpr (Nat.le_succ _))
  have hDf : h'.objs.size ∉ [N + 4, N + 2, N + 3, N, N + 1, l1, l2] := fun h => by
    have q := hfp _ h
    rw [hsz'] at q
    exact absurd q (Nat.lt_irrefl _)
  have hwr : ∀ b ∈ [N + 4, N + 3, N, N + 1], s.heap.get? b = none := fun b hb => by
    refine get_none_of_keeps k13 (Heap.get?_none_of_le ?_)
    rw [hN]
    simp only [List.mem_cons, List.not_mem_nil, or_false] at hb
    rcases hb with rfl | rfl | rfl | rfl
    · exact Nat.le_add_right _ _
    · exact Nat.le_add_right _ _
    · exact Nat.le_refl _
    · exact Nat.le_add_right _ _
  have old : ∀ b o, h'.get? b = some o → b ≠ h'.objs.size + 1 := fun b o e => Nat.ne_of_lt (Nat.lt_succ_of_lt (Heap.lt_size e))
  rw [hcells]
  have hNs : ∃ m, (cHeap scope h').Ns (h'.objs.size + 1) m := by
    refine ⟨fun _ => none, ?_⟩
    show (pushCells _ _).Ns _ _
    rw [hpush]
    have q := Heap.Ns.new (h'.push { cls := .type "list", data := .seq ([] : List Value).toArray }) (.type "dict")
    rw [Heap.size_push] at q
    exact q
  have hst₀ := W.frame 0 h' (cHeap scope h') ⟨hz, hTI, ⟨_, _, hTO⟩, hi1, hi2, isList_at hu (fun o e => hk _ o e), isList_at hv (fun o e => hk _ o e)⟩ (fun b _ o e => cHeap_old e)
  refine ⟨_, _, _, _, ds, turn_pair (cenv := compEnvC scope cl (h'.objs.size + 1) env) (p1 := p1) (p2 := p2) (tp := tp) (kk := kk) (P := fun i a b => ∃ x y t u, xs[i]? = some x ∧ ys[i]? = some y ∧ a = .int x t ∧ b = .int y u) W hA (lookup_relabel_local hx1) (lookup_relabel_local hx2) hne (by simp [compEnvC, relabel, hkind]) hCf ?_ ?_, ?_, List.mem_cons_self .., ⟨hst₀, hNs⟩, hsz, ⟨_, rfl, fun s Q E h q => W.self 0 s Q E h.1 q⟩, ?_, ?_⟩
  · rintro i h ⟨a1, _, ⟨_, _, a3⟩, ⟨o1, e1, _⟩, ⟨o2, e2, _⟩, _⟩ b hb
    simp only [List.mem_cons, List.not_mem_nil, or_false] at hb
    rcases hb with rfl | rfl | rfl | rfl
    · exact ⟨_, a1⟩
    · exact ⟨_, a3⟩
    · exact ⟨_, e1⟩
    · exact ⟨_, e2⟩
  · rintro i vals ⟨a, b, ha, hb, rfl⟩
    have hi : i < ds.length := by
      have := (Array.getElem?_eq_some_iff.mp ha).1
      simp only [List.size_toArray] at this
      omega
    obtain ⟨t, ht⟩ := ints_get (i := i) (n := xs.getD i 0) iu (getD_get (by omega))
    obtain ⟨u, hu'⟩ := ints_get (i := i) (n := ys.getD i 0) iv (getD_get (by omega))
    refine ⟨a, b, rfl, xs.getD i 0, ys.getD i 0, t, u, getD_get (by omega), getD_get (by omega), ?_, ?_⟩
    · have ha' : us[i]? = some a := by simpa using ha
      rw [ht] at ha'
      exact (Option.some.inj ha').symm
    · have hb' : vs[i]? = some b := by simpa using hb
      rw [hu'] at hb'
      exact (Option.some.inj hb').symm
  · intro h
    rcases List.mem_cons.mp h with h | h
    · exact absurd h (Nat.ne_of_lt (Nat.lt_succ_self _))
    · exact hDf h
  · rintro i d s₄ E' hd ⟨_, a, b, m, ⟨x, y, t, u, hx, hy, rfl, rfl⟩, hn, hva, hvb⟩ ⟨h, tk, rfl⟩ hk'
    have k₃ : Keeps s { s₃ with heap := h, toks := tk } := keeps_heap k13 (fun b o e => hk' b o (fun hm => by
      rcases List.mem_cons.mp hm with rfl | hm
      · exact absurd rfl (old _ o (keeps_get k4 e))
      · rw [hwr b hm] at e; cases e) (keeps_get k4 e)) tk
    exact helt i x y d hx hy hd (h'.objs.size + 1) _ E' ⟨hm _ _ g k₃, m, t, u, hn, hva, hvb⟩
  · intro h'' tk ys' hl hE hk'
    refine ⟨keeps_heap k13 (fun b o e => hk' b o (fun hm => by
      rcases List.mem_cons.mp hm with rfl | hm
      · exact absurd rfl (old _ o (keeps_get k4 e))
      · rw [hwr b hm] at e; cases e) (keeps_get k4 e)) tk, _, ys', rfl, get_none_of_keeps k4 (get_none_size _), hl, elts_nil hE⟩
end
end Mine
end
-- part FN8
section
open PySem PySem.W PySem.Spec PySem.Calls PyProof.Rows
namespace Mine
def raisedM (p r : Int) (n : Nat) : Mat := raiseF 10 (n - 1) (unitRows 2) (stepM p r)
def numAt (p r a b : Int) (n : Nat) : Int :=
  if n < 2 then [a, b].getD n 0 else ((raisedM p r n).getD 0 []).getD 0 0 * b + ((raisedM p r n).getD 0 []).getD 1 0 * a
def numOk (p r : Int) (n : Nat) : Bool := decide (n < 2) || (okF 10 (n - 1) (unitRows 2) (stepM p r) && dim2 (raisedM p r n) && smallM (raisedM p r n))

set_option maxRecDepth 100000 in
set_option maxHeartbeats 1000000 in
theorem number_at_spec {w : World} {A : Around} {s : Shared} {E : Value → Shared → Prop} (hA : A.handled = none) (hroom : A.depth + 2 < recursionLimit) (T : Tp w s) {vs vf : Value} {p r a b : Int} {n : Nat} {tn : Tok}
    (hs : LI [p, r] vs s.heap) (hf : LI [a, b] vf s.heap) (hn : n ≤ 1000) (hok : numOk p r n = true) :
    wpAny (model PG w) A (call (.ref 41) [vs, vf, .int n tn]) (fun v s' => Keeps s s' ∧ CIV (numAt p r a b n) v s'.heap) E s := by
  have T' : (Mine.hd.heap_39 w.params).In s.heap := T.1
  refine of_fill ?_
  k_fill
  unfold Fill
  have ho : (Mine.hd.heap_39 w.params).lookup 41 = some (objAt w.params 41) := objAt_get rfl
  refine wpAny_call (codeAny_call_cells (Nat.lt_of_succ_lt (Nat.lt_of_succ_lt hroom)) (T' _ _ ho) rfl T.2.1 (codeRec_of T' ?hcd) rfl (binds := [("steps", vs), ("first", vf), ("n", .int n tn)]) ?hbind rfl ?hkind ?_)
  case hcd => exact rfl
  case hbind => exact rfl
  case hkind =>
    intro x hx
    simp only [List.mem_cons, List.not_mem_nil, or_false] at hx
    rcases hx with e | e | e
    · exact e ▸ .inl rfl
    · exact e ▸ .inl rfl
    · exact e ▸ .inl rfl
  intro s₁ X
  refine wpAny_mono (Q := fun fl s' => Keeps s s' ∧ CIV (numAt p r a b n) (match fl with | .ret v => v | _ => .none) s'.heap) ?_ (fun fl s' h => h) (fun _ _ h => h)
  have gc : GC w s _ _ _ _ s₁ := ⟨T, X⟩
  -- if n < len(steps)
  refine wpAny_execs_cons (wpAny_If (wpAny_isTrue_Compare1 (wpAny_mono ((?e1 : Ev PG w _ _ _ _ (IV n)) s₁ _ gc) (fun v s₂ h2 => ?_) (fun _ _ e => e)) rfl))
  case e1 => exact gc_local (fun _ g => g) rfl rfl rfl rfl (fun s' g' => ⟨_, rfl⟩)
  obtain ⟨k₂, t₂, rfl⟩ := h2
  have gc₂ := gc_mono _ _ gc k₂
  refine wpAny_mono ((?e1 : Ev PG w _ _ _ _ (IV 2)) s₂ _ gc₂) (fun v s₃ h3 => ?_) (fun _ _ e => e)
  case e1 =>
    refine ev_lenI (ks := [p, r]) gc_mono ?_ ?_ (by show ((2 : Nat) : Int) < 2 ^ 63; decide) rfl
    · exact ev_builtin gc_tp rfl rfl rfl rfl rfl (by k_is) (by boot_fast) (by decide)
    · exact gc_local (fun _ g => g) rfl rfl rfl rfl (fun s' g' => hs.keeps (gc_keeps g'))
  obtain ⟨k₃, t₃, rfl⟩ := h3
  have gc₃ := gc_mono _ _ gc₂ k₃
  refine lt_int (wpAny_truthy_bool ?_)
  by_cases hn2 : n < 2
  · rw [if_pos (by simp; omega)]
    refine wpAny_execs_cons (wpAny_Return_some (wpAny_mono ((?e1 : Ev PG w _ _ _ _ (IV ([a, b].getD n 0))) s₃ _ gc₃) (fun v s₄ h4 => ?_) (fun _ _ e => e)))
    case e1 =>
      refine ev_item (ks := [a, b]) (k := (n : Int)) gc_mono ?_ ?_ (by omega) (by omega) (getD_get (by simpa using hn2)) (fun _ _ => rfl)
      · exact gc_local (fun _ g => g) rfl rfl rfl rfl (fun s' g' => hf.keeps (gc_keeps g'))
      · exact gc_local (fun _ g => g) rfl rfl rfl rfl (fun s' g' => ⟨_, rfl⟩)
    refine ⟨keeps_trans (gc_keeps gc₃) h4.1, ?_⟩
    unfold numAt
    rw [if_pos hn2]
    exact h4.2
  · rw [if_neg (by simp; omega)]
    refine wpAny_execs_nil ?_
    have hok2 : okF 10 (n - 1) (unitRows 2) (stepM p r) = true ∧ dim2 (raisedM p r n) = true ∧ smallM (raisedM p r n) = true := by
      simpa [numOk, hn2, and_assoc] using hok
    obtain ⟨ok1, dR, sR⟩ := hok2
    -- if len(steps) == 0
    refine wpAny_execs_cons (wpAny_If (wpAny_isTrue_Compare1 (wpAny_mono ((?e1 : Ev PG w _ _ _ _ (IV 2)) s₃ _ gc₃) (fun v s₄ h4 => ?_) (fun _ _ e => e)) rfl))
    case e1 =>
      refine ev_lenI (ks := [p, r]) gc_mono ?_ ?_ (by show ((2 : Nat) : Int) < 2 ^ 63; decide) rfl
      · exact ev_builtin gc_tp rfl rfl rfl rfl rfl (by k_is) (by boot_fast) (by decide)
      · exact gc_local (fun _ g => g) rfl rfl rfl rfl (fun s' g' => hs.keeps (gc_keeps g'))
    obtain ⟨k₄, t₄, rfl⟩ := h4
    have gc₄ := gc_mono _ _ gc₃ k₄
    refine wpAny_mono (ev_int s₄ _ gc₄) (fun v s₅ h5 => ?_) (fun _ _ e => e)
    obtain ⟨k₅, t₅, rfl⟩ := h5
    have gc₅ := gc_mono _ _ gc₄ k₅
    refine eq_int (wpAny_truthy_bool ?_)
    rw [if_neg (by decide)]
    refine wpAny_execs_nil ?_
    -- raised = ..
    refine wpAny_execs_cons (wpAny_Assign_Name (wpAny_mono ((?e1 : Ev PG w _ _ _ _ (HV (ML (raisedM p r n)))) s₅ _ gc₅) (fun v s₆ h6 => ?_) (fun _ _ e => e)) rfl)
    case e1 =>
      refine ev_callF (a := 36) (ks := [ML (stepM p r), CIV ((n - 1 : Nat) : Int)]) gc_mono gc_tp ?_ (by k_is) (evas_cons gc_mono ml_mono ?_ (evas_cons gc_mono civ_mono ?_ evas_nil rfl) rfl) ?_ rfl (fun _ => rfl)
      · exact ev_global gc_tp rfl rfl rfl rfl (by k_is)
      · refine ev_callF (a := 29) (ks := [LI [p, r]]) gc_mono gc_tp ?_ (by k_is) (evas_cons gc_mono li_mono ?_ evas_nil rfl) ?_ rfl (fun _ => rfl)
        · exact ev_global gc_tp rfl rfl rfl rfl (by k_is)
        · exact gc_local (fun _ g => g) rfl rfl rfl rfl (fun s' g' => hs.keeps (gc_keeps g'))
        · rintro s E vs g hvs
          obtain ⟨v, rfl, hv⟩ := allH1 hvs
          exact step_matrix_spec (A := A.deeper _) hA (Nat.lt_of_succ_lt hroom) (gc_tp _ g) hv
      · have e : ((n - 1 : Nat) : Int) = (n : Int) - 2 + 1 := by omega
        rw [e]
        refine ev_add gc_mono (ev_sub gc_mono ?_ ?_) ev_int
        · exact gc_local (fun _ g => g) rfl rfl rfl rfl (fun s' g' => ⟨_, rfl⟩)
        · refine ev_lenI (ks := [p, r]) gc_mono ?_ ?_ (by show ((2 : Nat) : Int) < 2 ^ 63; decide) rfl
          · exact ev_builtin gc_tp rfl rfl rfl rfl rfl (by k_is) (by boot_fast) (by decide)
          · exact gc_local (fun _ g => g) rfl rfl rfl rfl (fun s' g' => hs.keeps (gc_keeps g'))
      · rintro s E vs g hvs
        obtain ⟨v, u, rfl, hv, t, rfl⟩ := allH2 hvs
        exact matrix_raised_spec (A := A.deeper _) hA hroom (gc_tp _ g) hv rfl (by omega) ok1
    obtain ⟨k₆, hv⟩ := h6
    have gc₆ := gc_mono _ _ gc₅ k₆
    refine st_local gc₆ rfl rfl fun s₇ lk₇ gc₇ => ?_
    have hR₇ : ML (raisedM p r n) v s₇.heap := ML.lists hv lk₇
    have hlen := dim2_len dR
    have hR0 : (raisedM p r n)[0]? = some ((raisedM p r n).getD 0 []) := getD_get (by omega)
    have hl0 : ((raisedM p r n).getD 0 []).length = 2 := dim2_row dR _ (List.mem_of_getElem? hR0)
    generalize hrow : (raisedM p r n).getD 0 [] = row at hR0 hl0
    refine wpAny_execs_cons (wpAny_Return_some (wpAny_mono ((?e1 : Ev PG w _ (G2 (GC w s _ _ _ _) (ML (raisedM p r n) v) (ML (raisedM p r n) v)) _ _ (IV (preSum (fun i => [row.getD 0 0 * b, row.getD 1 0 * a].getD i 0) 2))) s₇ _ ⟨gc₇, hR₇, hR₇⟩) (fun v s₈ h8 => ?_) (fun _ _ e => e)))
    case e1 =>
      have sr : ∀ i : Nat, i < 2 → IntMulOk (row.getD i 0) ([b, a].getD i 0) := by
        intro i hi
        have h1 := List.all_eq_true.mp sR row (List.mem_of_getElem? hR0)
        have h2 := List.all_eq_true.mp h1 (row.getD i 0) (List.mem_of_getElem? (getD_get (by omega)))
        have h3 : -(2 ^ 60) < row.getD i 0 ∧ row.getD i 0 < 2 ^ 60 := by simpa using h2
        exact IntMulOk.of_left (intBits_le_64 (by omega) (by omega))
      refine ev_sum (ks := [row.getD 0 0 * b, row.getD 1 0 * a]) hA (ml2_mono gc_mono) ?_ ?_ rfl
      · exact ev_builtin (fun s g => gc_tp _ g.1) rfl rfl rfl rfl rfl (by k_is) (by boot_fast) (by decide)
      refine ev_mono (P := MadeV ([row.getD 0 0 * b, row.getD 1 0 * a].map .i)) ?_ (fun v s s' _ h => h.ints)
      refine ev_comp_zip (xs := row) (ys := [b, a]) hA rfl rfl (by decide) rfl rfl (by decide) (fun _ _ => rfl) (fun _ => rfl) (ml2_mono gc_mono) ?_ ?_ ?_ hl0 rfl (by show 2 ≤ sizeLine; decide) ?_ (fun _ => rfl) rfl rfl (fun _ => rfl)
      · exact ev_builtin (fun s g => gc_tp _ g.1) rfl rfl rfl rfl rfl (by k_is) (by boot_fast) (by decide)
      · refine ev_row (kss := raisedM p r n) (k := 0) (ml2_mono gc_mono) ?_ ev_int (by decide) (by decide) hR0 (fun _ _ => rfl)
        exact gc_local (fun _ g => g.1) rfl rfl rfl rfl (fun s' g' => g'.2.1)
      · refine ev_rev (ks := [a, b]) (by show 2 ≤ sizeLine; decide) ?_ (fun _ _ => rfl)
        exact gc_local (fun _ g => g.1) rfl rfl rfl rfl (fun s' g' => hf.keeps (gc_keeps g'.1))
      · intro i x y d hx hy hd C
        have hi : i < 2 := (List.getElem?_eq_some_iff.mp hy).1
        have hx' : x = row.getD i 0 := by
          rw [getD_get (d := 0) (by omega)] at hx
          exact (Option.some.inj hx).symm
        have hy' : y = [b, a].getD i 0 := by
          rw [getD_get (d := 0) (by simpa using hi)] at hy
          exact (Option.some.inj hy).symm
        have hd' : d = .i (row.getD i 0 * [b, a].getD i 0) := by
          have h01 : i = 0 ∨ i = 1 := by omega
          rcases h01 with rfl | rfl <;> (cases hd; rfl)
        subst hx' hy' hd'
        show Ev _ _ _ _ _ _ (IV _)
        refine ev_mul (mono_pair (ml2_mono gc_mono)) ?_ ?_ (sr i hi)
        · exact ev_local rfl rfl rfl (fun s g => let ⟨_, m, t, u, hn, h1, h2⟩ := g; ⟨m, _, hn, h1, _, rfl⟩)
        · exact ev_local rfl rfl rfl (fun s g => let ⟨_, m, t, u, hn, h1, h2⟩ := g; ⟨m, _, hn, h2, _, rfl⟩)
    refine ⟨keeps_trans (gc_keeps gc₇) h8.1, ?_⟩
    unfold numAt
    rw [if_neg hn2, hrow]
    have q : preSum (fun i => [row.getD 0 0 * b, row.getD 1 0 * a].getD i 0) 2 = row.getD 0 0 * b + row.getD 1 0 * a := by simp [preSum]
    have h9 := h8.2
    rw [q] at h9
    exact h9
end Mine
end
-- part FN9
section
open PySem PySem.W PySem.Spec PySem.Calls PyProof.Rows
namespace Mine

theorem ev_abs {prog : Program} {w : World} {A : Around} {Γ : Shared → Prop} {env : Env} {f : Str} {p pos : Pos} {e : Expr} {k : Int} (hm : Mono Γ) (hf : Ev prog w A Γ env (.Name f p) (IsV (.builtin "abs"))) (he : Ev prog w A Γ env e (IV k))
    (hst : starEach [e] env = (false, eval e env) :: starEach [] env) : Ev prog w A Γ env (.Call (.Name f p) [e] [] pos) (IV ((k.natAbs : Nat) : Int)) :=
  ev_call1 hm hf he (fun v s₀ s E _ _ hv => by
    obtain ⟨t, rfl⟩ := hv
    refine PyProof.Rows.call_abs_int fun u tk => ⟨keeps_tok (keeps_refl s) _, u, ?_⟩
    congr 1
    split <;> omega) iv_back hst

set_option maxRecDepth 100000 in
set_option maxHeartbeats 1000000 in
theorem gcd_spec {w : World} {A : Around} {s : Shared} {E : Value → Shared → Prop} (hA : A.handled = none) (hroom : A.depth < recursionLimit) (T : Tp w s) {a b : Int} {ta tb : Tok} :
    wpAny (model PG w) A (call (.ref 48) [.int a ta, .int b tb]) (fun v s' => Keeps s s' ∧ CIV ((Nat.gcd a.natAbs b.natAbs : Nat) : Int) v s'.heap) E s := by
  have T' : (Mine.hd.heap_39 w.params).In s.heap := T.1
  refine of_fill ?_
  k_fill
  unfold Fill
  have ho : (Mine.hd.heap_39 w.params).lookup 48 = some (objAt w.params 48) := objAt_get rfl
  refine wpAny_call (codeAny_call_cells hroom (T' _ _ ho) rfl T.2.1 (codeRec_of T' ?hcd) rfl (binds := [("a", .int a ta), ("b", .int b tb)]) ?hbind rfl ?hkind ?_)
  case hcd => exact rfl
  case hbind => exact rfl
  case hkind => intro x hx; simp only [List.mem_cons, List.not_mem_nil, or_false] at hx; exact hx.elim (fun e => e ▸ .inl rfl) (fun e => e ▸ .inl rfl)
  intro s₁ X
  refine wpAny_mono (Q := fun fl s' => Keeps s s' ∧ CIV ((Nat.gcd a.natAbs b.natAbs : Nat) : Int) (match fl with | .ret v => v | _ => .none) s'.heap) ?_ (fun fl s' h => h) (fun _ _ h => h)
  have gc : GC w s _ _ _ _ s₁ := ⟨T, X⟩
  refine wpAny_execs_cons (ex_swap (names := ["a", "b"]) hA rfl rfl (ev_tuple (ks := [CIV ((a.natAbs : Nat) : Int), CIV ((b.natAbs : Nat) : Int)]) ?ev (by show 2 ≤ sizeLine; decide) gc (fun t vs s₂ k₂ ht _ hvs => ?_) (by
    intro k' hk'
    simp only [List.mem_cons, List.not_mem_nil, or_false] at hk'
    rcases hk' with rfl | rfl <;> exact civ_mono)))
  case ev =>
    refine evas_cons gc_mono civ_mono ?_ (evas_cons gc_mono civ_mono ?_ evas_nil rfl) rfl
    · refine ev_abs gc_mono ?_ ?_ rfl
      · exact ev_builtin gc_tp rfl rfl rfl rfl rfl (by k_is) (by boot_fast) (by decide)
      · exact gc_local (fun _ g => g) rfl rfl rfl rfl (fun s' g' => ⟨_, rfl⟩)
    · refine ev_abs gc_mono ?_ ?_ rfl
      · exact ev_builtin gc_tp rfl rfl rfl rfl rfl (by k_is) (by boot_fast) (by decide)
      · exact gc_local (fun _ g => g) rfl rfl rfl rfl (fun s' g' => ⟨_, rfl⟩)
  obtain ⟨va, vb, rfl, ⟨t1, rfl⟩, t2, rfl⟩ := allH2 hvs
  have gc₂ := gc_mono _ _ gc k₂
  refine ⟨t, _, rfl, ht, rfl, fun h₃ he₃ => ?_⟩
  have k₃ : Keeps s₂ { s₂ with heap := h₃ } := ⟨h₃, s₂.toks, rfl, fun b o e => he₃ b o (Nat.ne_of_lt (Heap.lt_size e)) e⟩
  have gc₃ := gc_mono _ _ gc₂ k₃
  refine asg_cons (wpAny_bindName (st_local gc₃ rfl rfl fun s₄ lk₄ gc₄ => ?_))
  refine asg_cons (wpAny_bindName (st_local gc₄ rfl rfl fun s₅ lk₅ gc₅ => ?_))
  refine asg_nil ?_
  refine wpAny_execs_cons (wpAny_While ?_)
  have start : ∃ m' x y ta' tb', b.natAbs = y ∧ gcLikeM gc₅ m' s₅ ∧ m' "a" = some (.int ((x : Nat) : Int) ta') ∧ m' "b" = some (.int ((y : Nat) : Int) tb') ∧ Nat.gcd x y = Nat.gcd a.natAbs b.natAbs :=
    ⟨_, a.natAbs, b.natAbs, t1, t2, rfl, gc₅, rfl, rfl, rfl⟩
  refine codeAny_whileLoop (fun j s' => ∃ m' x y ta' tb', j = y ∧ gcLikeM gc₅ m' s' ∧ m' "a" = some (.int ((x : Nat) : Int) ta') ∧ m' "b" = some (.int ((y : Nat) : Int) tb') ∧ Nat.gcd x y = Nat.gcd a.natAbs b.natAbs) ?_ _ start
  rintro j s₆ ⟨m', x, y, ta', tb', rfl, g, hma, hmb, hG⟩
  have g : GC w s _ m' _ _ s₆ := g
  refine wpAny_isTrue_Compare1 (wpAny_mono ((?e1 : Ev PG w _ _ _ _ (IV (j : Nat))) s₆ _ g) (fun v s₇ h7 => ?_) (fun _ _ e => e)) rfl
  case e1 => exact gc_local (fun _ g => g) rfl rfl rfl hmb (fun s' g' => ⟨_, rfl⟩)
  obtain ⟨k₇, t₇, rfl⟩ := h7
  refine wpAny_mono (ev_int s₇ _ (gc_mono _ _ g k₇)) (fun v s₈ h8 => ?_) (fun _ _ e => e)
  obtain ⟨k₈, t₈, rfl⟩ := h8
  refine ne_int (wpAny_truthy_bool ?_)
  have k68 := keeps_trans k₇ k₈
  have g₈ := gc_mono _ _ g k68
  by_cases hz : j = 0
  · rw [if_neg (by simp [hz])]
    refine wpAny_execs_nil ?_
    refine wpAny_execs_cons (wpAny_Return_some (wpAny_mono ((?e1 : Ev PG w _ (GC w s _ m' _ _) _ _ (IV (x : Nat))) s₈ _ g₈) (fun v s₉ h9 => ?_) (fun _ _ e => e)))
    case e1 => exact gc_local (fun _ g => g) rfl rfl rfl hma (fun s' g' => ⟨_, rfl⟩)
    refine ⟨keeps_trans (gc_keeps g₈) h9.1, ?_⟩
    rw [← hG, hz, Nat.gcd_zero_right]
    exact h9.2
  · rw [if_pos (by simpa using hz)]
    have hmod : ((x : Nat) : Int).fmod ((j : Nat) : Int) = ((x % j : Nat) : Int) := (Int.ofNat_fmod x j).symm
    refine wpAny_execs_cons (ex_swap (names := ["a", "b"]) hA rfl rfl (ev_tuple (Γ := GC w s _ m' _ _) (ks := [CIV ((j : Nat) : Int), CIV ((x % j : Nat) : Int)]) ?ev (by show 2 ≤ sizeLine; decide) g₈ (fun t vs s₉ k₉ ht _ hvs => ?_) (by
      intro k' hk'
      simp only [List.mem_cons, List.not_mem_nil, or_false] at hk'
      rcases hk' with rfl | rfl <;> exact civ_mono)))
    case ev =>
      refine evas_cons gc_mono civ_mono ?_ (evas_cons gc_mono civ_mono ?_ evas_nil rfl) rfl
      · exact gc_local (fun _ g => g) rfl rfl rfl hmb (fun s' g' => ⟨_, rfl⟩)
      · rw [← hmod]
        refine ev_mod gc_mono ?_ ?_ (by omega)
        · exact gc_local (fun _ g => g) rfl rfl rfl hma (fun s' g' => ⟨_, rfl⟩)
        · exact gc_local (fun _ g => g) rfl rfl rfl hmb (fun s' g' => ⟨_, rfl⟩)
    obtain ⟨va, vb, rfl, ⟨t3, rfl⟩, t4, rfl⟩ := allH2 hvs
    have g₉ := gc_mono _ _ g₈ k₉
    refine ⟨t, _, rfl, ht, rfl, fun hA' heA => ?_⟩
    have kA : Keeps s₉ { s₉ with heap := hA' } := ⟨hA', s₉.toks, rfl, fun b o e => heA b o (Nat.ne_of_lt (Heap.lt_size e)) e⟩
    have gA := gc_mono _ _ g₉ kA
    refine asg_cons (wpAny_bindName (st_local gA rfl rfl fun sB lkB gB => ?_))
    refine asg_cons (wpAny_bindName (st_local gB rfl rfl fun sC lkC gC => ?_))
    refine asg_nil (wpAny_execs_nil ⟨x % j, Nat.mod_lt _ (by omega), _, j, x % j, t3, t4, rfl, gC, rfl, rfl, ?_⟩)
    rw [← hG, Nat.gcd_comm x j, Nat.gcd_rec j x, Nat.gcd_comm]
end Mine
end
-- part FN10
section
open PySem PySem.W PySem.Spec PySem.Calls PyProof.Rows
namespace Mine
def drawV (ks : List Int) (k M : Nat) : Nat := if k < ks.length then (ks.getD k 0).natAbs % M else (5 * k + 4) % M
/-- the state without the pool -/
def less (s : Shared) (D : Addr) : Shared := { s with heap := hideAll s.heap [D] }
theorem less_keeps (s : Shared) (D : Addr) : Keeps (less s D) s := ⟨s.heap, s.toks, rfl, fun _ _ e => of_hideAll _ e⟩
theorem less_get {s : Shared} {D b : Addr} {o : Obj} (e : s.heap.get? b = some o) (h : b ≠ D) : (less s D).heap.get? b = some o := hideAll_get _ e (by simpa using h)
theorem less_none (s : Shared) (D : Addr) : (less s D).heap.get? D = none := hideAll_none _ (by simp)
theorem incall_base {s₀ s s₁ : Shared} {L : Addr} {m cm : Str → Option Value} {cs : List (Str × Addr)} (k : Keeps s₀ s) (hz : s₀.heap.objs.size ≤ s.heap.objs.size) (x : InCallC s L m cs cm s₁) : InCallC s₀ L m cs cm s₁ := by
  obtain ⟨h₁, t₁, rfl, hk⟩ := k
  obtain ⟨h₂, t₂, rfl⟩ := x.toInCall.same
  exact ⟨⟨⟨h₂, t₂, rfl⟩, x.toInCall.ns, fun b o e => x.toInCall.keep b o (hk b o e), Nat.le_trans hz x.toInCall.fresh⟩, x.cell, x.apart, x.above⟩
def AtV (l : Addr) (its : Array Value) : VP := fun v _ s' => v = .ref l ∧ s'.heap.IsList l its
theorem ev_itemV {prog : Program} {w : World} {A : Around} {Γ : Shared → Prop} {env : Env} {value slice : Expr} {pos : Pos} {l : Addr} {its : Array Value} {k : Int} {x : Value} {P : VP} (hm : Mono Γ) (h1 : Ev prog w A Γ env value (AtV l its)) (h2 : Ev prog w A Γ env slice (IV k)) (h0 : 0 ≤ k) (hlt : k < 2 ^ 63) (hn : its[k.toNat]? = some x)
    (hs : ∀ l t, subscripted slice false (.ref l) (.int k t) = operate [.ref l, .int k t] (getItem (.ref l) (.int k t))) (hp : ∀ s s', Γ s → Keeps s s' → P x s s') : Ev prog w A Γ env (.Subscript value slice pos) P := fun s E g => by
  refine Subscript_ (wpAny_mono (h1 s E g) (fun v s₁ ⟨k₁, hv⟩ => ?_) fun _ _ e => e)
  refine wpAny_mono (h2 s₁ E (hm _ _ g k₁)) (fun u s₂ ⟨k₂, t₂, hu⟩ => ?_) fun _ _ e => e
  subst hu
  obtain ⟨rfl, hl⟩ := hv
  have hl₂ : s₂.heap.IsList l its := isList_at hl fun _ e => keeps_get k₂ e
  exact tail_any hl₂.typeIs slot_list_getitem.lookup (wpAny_getItem_list hl₂ h0 hlt hn ⟨keeps_trans k₁ k₂, hp _ _ g (keeps_trans k₁ k₂)⟩) (hs l t₂)

def GD (w : World) (s₀ : Shared) (L : Addr) (m : Str → Option Value) (cs : List (Str × Addr)) (cm : Str → Option Value) (D : Addr) (its : Array Value) (s : Shared) : Prop := GC w s₀ L m cs cm s ∧ s.heap.IsList D its
theorem gd_mono {w : World} {s₀ : Shared} {L : Addr} {m cm : Str → Option Value} {cs : List (Str × Addr)} {D : Addr} {its : Array Value} : Mono (GD w s₀ L m cs cm D its) :=
  fun _ _ ⟨a, b⟩ k => ⟨gc_mono _ _ a k, isList_at b fun _ e => keeps_get k e⟩
theorem gd_tp {w : World} {s₀ : Shared} {L : Addr} {m cm : Str → Option Value} {cs : List (Str × Addr)} {D : Addr} {its : Array Value} : ∀ s, GD w s₀ L m cs cm D its s → Tp w s := fun _ g => gc_tp _ g.1

def DrawQ (s : Shared) (D : Addr) (vc : Value) (ks : List Int) (k M : Nat) (v : Value) (s' : Shared) : Prop :=
  Keeps (less s D) s' ∧ (∃ t, s'.heap.IsList D #[vc, .int ((k + 1 : Nat) : Int) t]) ∧ ∃ t, v = .int ((drawV ks k M : Nat) : Int) t
set_option maxRecDepth 100000 in
set_option maxHeartbeats 1000000 in
theorem draw_spec {w : World} {A : Around} {s : Shared} {E : Value → Shared → Prop} (hA : A.handled = none) (hroom : A.depth < recursionLimit) {D : Addr} {vc : Value} {ks : List Int} {k M : Nat} {tk tm : Tok} (T : Tp w (less s D))
    (hD : s.heap.IsList D #[vc, .int k tk]) (hc : LI ks vc (less s D).heap) (hk : k ≤ 1000) (hks : ks.length ≤ 1000) (hM : M ≠ 0) :
    wpAny (model PG w) A (call (.ref 55) [.ref D, .int M tm]) (DrawQ s D vc ks k M) E s := by
  have T' : (Mine.hd.heap_39 w.params).In s.heap := (T.keeps (less_keeps s D)).1
  refine of_fill ?_
  k_fill
  unfold Fill
  have ho : (Mine.hd.heap_39 w.params).lookup 55 = some (objAt w.params 55) := objAt_get rfl
  refine wpAny_call (codeAny_call_cells hroom (T' _ _ ho) rfl (T.keeps (less_keeps s D)).2.1 (codeRec_of T' ?hcd) rfl (binds := [("pool", .ref D), ("many", .int M tm)]) ?hbind rfl ?hkind ?_)
  case hcd => exact rfl
  case hbind => exact rfl
  case hkind => intro x hx; simp only [List.mem_cons, List.not_mem_nil, or_false] at hx; exact hx.elim (fun e => e ▸ .inl rfl) (fun e => e ▸ .inl rfl)
  intro s₁ X
  have hD₁ : s₁.heap.IsList D #[vc, .int k tk] := isList_at hD fun o e => X.toInCall.keep _ o e
  have X' := incall_base (less_keeps s D) (Nat.le_of_eq (hideAll_size _ _)) X
  refine wpAny_mono (Q := fun fl s' => DrawQ s D vc ks k M (match fl with | .ret v => v | _ => .none) s') ?_ (fun fl s' h => h) (fun _ _ h => h)
  have gc : GD w (less s D) _ _ _ _ D _ s₁ := ⟨⟨T, X'⟩, hD₁⟩
  -- spot = pool[1]
  refine wpAny_execs_cons (wpAny_Assign_Name (wpAny_mono ((?e1 : Ev PG w _ (GD w (less s D) _ _ _ _ D _) _ _ (IsV (.int k tk))) s₁ _ gc) (fun v s₂ h2 => ?_) (fun _ _ e => e)) rfl)
  case e1 =>
    refine ev_itemV (l := D) (its := #[vc, .int k tk]) (k := 1) gd_mono ?_ ev_int (by decide) (by decide) rfl (fun _ _ => rfl) (fun _ _ _ _ => rfl)
    exact gc_local (fun _ g => g.1) rfl rfl rfl rfl (fun s' g' => ⟨rfl, g'.2⟩)
  obtain ⟨k₂, rfl⟩ := h2
  have gc₂ := gd_mono _ _ gc k₂
  refine st_local gc₂.1 rfl rfl fun s₃ lk₃ gc₃ => ?_
  have gd₃ : GD w (less s D) _ _ _ _ D #[vc, .int k tk] s₃ := ⟨gc₃, lk₃.list gc₂.2⟩
  -- pool[1] = spot + 1
  refine wpAny_execs_cons (wpAny_Assign_Subscript (wpAny_mono ((?e1 : Ev PG w _ (GD w (less s D) _ _ _ _ D _) _ _ (IV ((k + 1 : Nat) : Int))) s₃ _ gd₃) (fun v s₄ h4 => ?_) (fun _ _ e => e)) rfl)
  case e1 =>
    have e : ((k + 1 : Nat) : Int) = (k : Int) + 1 := by omega
    rw [e]
    exact ev_add gd_mono (gc_local (fun _ g => g.1) rfl rfl rfl rfl (fun s' g' => ⟨_, rfl⟩)) ev_int
  obtain ⟨k₄, t₄, rfl⟩ := h4
  have gd₄ := gd_mono _ _ gd₃ k₄
  refine wpAny_mono ((?e1 : Ev PG w _ (GD w (less s D) _ _ _ _ D _) _ _ (IsV (.ref D))) s₄ _ gd₄) (fun v s₅ h5 => ?_) (fun _ _ e => e)
  case e1 => exact gc_local (fun _ g => g.1) rfl rfl rfl rfl (fun s' g' => rfl)
  obtain ⟨k₅, rfl⟩ := h5
  have gd₅ := gd_mono _ _ gd₄ k₅
  refine wpAny_mono (ev_int s₅ _ gd₅) (fun v s₆ h6 => ?_) (fun _ _ e => e)
  obtain ⟨k₆, t₆, rfl⟩ := h6
  have gd₆ := gd_mono _ _ gd₅ k₆
  have hne := gc_list_ne gd₆.1 gd₆.2
  refine wpAny_setItem_list gd₆.2 (by decide) (by decide) (by show (1 : Int) < 2; decide) fun h₇ hl₇ hs₇ => ?_
  have k₇ : ∀ x o, x ≠ D → s₆.heap.get? x = some o → h₇.get? x = some o := fun x o hx e => hs₇.extBut x o hx e
  have gd₇ : GD w (less s D) _ _ _ _ D #[vc, .int ((k + 1 : Nat) : Int) t₄] { s₆ with heap := h₇ } := ⟨gc_but gd₆.1 (less_none s D) hne.1 hne.2 k₇, hl₇⟩
  have hcv : ∀ s', Keeps (less s D) s' → LI ks vc s'.heap := fun s' k => LI.keeps hc k
  -- if spot < len(pool[0])
  refine wpAny_execs_cons (wpAny_If (wpAny_isTrue_Compare1 (wpAny_mono ((?e1 : Ev PG w _ (GD w (less s D) _ _ _ _ D _) _ _ (IV k)) _ _ gd₇) (fun v s₈ h8 => ?_) (fun _ _ e => e)) rfl))
  case e1 => exact gc_local (fun _ g => g.1) rfl rfl rfl rfl (fun s' g' => ⟨_, rfl⟩)
  obtain ⟨k₈, t₈, rfl⟩ := h8
  have gd₈ := gd_mono _ _ gd₇ k₈
  refine wpAny_mono ((?e1 : Ev PG w _ (GD w (less s D) _ _ _ _ D _) _ _ (IV ks.length)) _ _ gd₈) (fun v s₉ h9 => ?_) (fun _ _ e => e)
  case e1 =>
    refine ev_lenI (ks := ks) gd_mono ?_ (ev_itemV (l := D) (its := #[vc, .int ((k + 1 : Nat) : Int) t₄]) (k := 0) gd_mono ?_ ev_int (by decide) (by decide) rfl (fun _ _ => rfl) (fun s s' g q => hcv s' (keeps_trans (gc_keeps g.1) q))) (by omega) rfl
    · exact ev_builtin gd_tp rfl rfl rfl rfl rfl (by k_is) (by boot_fast) (by decide)
    · exact gc_local (fun _ g => g.1) rfl rfl rfl rfl (fun s' g' => ⟨rfl, g'.2⟩)
  obtain ⟨k₉, t₉, rfl⟩ := h9
  have gd₉ := gd_mono _ _ gd₈ k₉
  refine lt_int (wpAny_truthy_bool ?_)
  by_cases hlt : k < ks.length
  · rw [if_pos (by simpa using hlt)]
    have e : drawV ks k M = (ks.getD k 0).natAbs % M := by unfold drawV; rw [if_pos hlt]
    refine wpAny_execs_cons (wpAny_Return_some (wpAny_mono ((?e1 : Ev PG w _ (GD w (less s D) _ _ _ _ D _) _ _ (IV ((drawV ks k M : Nat) : Int))) _ _ gd₉) (fun v sA hA' => ?_) (fun _ _ e => e)))
    case e1 =>
      rw [e, show ((((ks.getD k 0).natAbs % M : Nat)) : Int) = (((ks.getD k 0).natAbs : Nat) : Int).fmod ((M : Nat) : Int) from Int.ofNat_fmod _ _]
      refine ev_mod gd_mono (ev_abs gd_mono ?_ (ev_item (ks := ks) (k := (k : Int)) gd_mono (ev_itemV (l := D) (its := #[vc, .int ((k + 1 : Nat) : Int) t₄]) (k := 0) gd_mono ?_ ev_int (by decide) (by decide) rfl (fun _ _ => rfl) (fun s s' g q => hcv s' (keeps_trans (gc_keeps g.1) q))) ?_ (by omega) (by omega) (getD_get hlt) (fun _ _ => rfl)) rfl) ?_ (by omega)
      · exact ev_builtin gd_tp rfl rfl rfl rfl rfl (by k_is) (by boot_fast) (by decide)
      · exact gc_local (fun _ g => g.1) rfl rfl rfl rfl (fun s' g' => ⟨rfl, g'.2⟩)
      · exact gc_local (fun _ g => g.1) rfl rfl rfl rfl (fun s' g' => ⟨_, rfl⟩)
      · exact gc_local (fun _ g => g.1) rfl rfl rfl rfl (fun s' g' => ⟨_, rfl⟩)
    obtain ⟨kA, t, rfl⟩ := hA'
    have gdA := gd_mono _ _ gd₉ kA
    exact ⟨gc_keeps gdA.1, ⟨_, gdA.2⟩, _, rfl⟩
  · rw [if_neg (by simpa using hlt)]
    refine wpAny_execs_nil ?_
    have e : drawV ks k M = (5 * k + 4) % M := by unfold drawV; rw [if_neg hlt]
    refine wpAny_execs_cons (wpAny_Return_some (wpAny_mono ((?e1 : Ev PG w _ (GD w (less s D) _ _ _ _ D _) _ _ (IV ((drawV ks k M : Nat) : Int))) _ _ gd₉) (fun v sA hA' => ?_) (fun _ _ e => e)))
    case e1 =>
      rw [e, show (((5 * k + 4) % M : Nat) : Int) = ((5 * k + 4 : Nat) : Int).fmod ((M : Nat) : Int) from Int.ofNat_fmod _ _, show ((5 * k + 4 : Nat) : Int) = 5 * (k : Int) + 4 by omega]
      refine ev_mod gd_mono (ev_add gd_mono (ev_mul gd_mono ev_int ?_ (IntMulOk.of_left (intBits_le_64 (by decide) (by decide)))) ev_int) ?_ (by omega)
      · exact gc_local (fun _ g => g.1) rfl rfl rfl rfl (fun s' g' => ⟨_, rfl⟩)
      · exact gc_local (fun _ g => g.1) rfl rfl rfl rfl (fun s' g' => ⟨_, rfl⟩)
    obtain ⟨kA, t, rfl⟩ := hA'
    have gdA := gd_mono _ _ gd₉ kA
    exact ⟨gc_keeps gdA.1, ⟨_, gdA.2⟩, _, rfl⟩
end Mine
end
-- part LW1
section
open PySem PySem.W PySem.Spec PySem.Calls PyProof.Rows
namespace Mine
section
variable {prog : Program} {w : World} {A : Around} {Γ : Shared → Prop} {env : Env}

theorem pow_nat {s : Shared} {E : Value → Shared → Prop} {Q : Value → Shared → Prop} {a : Int} {n : Nat} {t u : Tok} (hz : Builtin.Int.intTooBig (((Builtin.Int.intBits a : Nat) : Int) * (n : Int)) = false) (h : Q (.int (a ^ n) s.toks) { s with toks := s.toks + 1 }) :
    wpAny (model prog w) A (binaryOp .Pow (.int a t) (.int n u)) Q E s := by
  refine AutoIntOpsIf.pow ?_
  rw [if_pos (by omega)]
  have key : ∀ k : Int, k = a ^ n → (Made.int k).post Q s := fun k e => by subst e; exact h
  by_cases h0 : n = 0
  · subst h0
    rw [if_pos (show (((0 : Nat) : Int) == 0) = true from rfl)]
    exact key 1 (by simp)
  · rw [if_neg (by simpa using h0)]
    by_cases h1 : (a == 0 || a == 1) = true
    · rw [if_pos h1]
      refine key a ?_
      simp only [Bool.or_eq_true, beq_iff_eq] at h1
      rcases h1 with rfl | rfl
      · rw [Int.zero_pow h0]
      · rw [Int.one_pow]
    · rw [if_neg h1]
      by_cases h2 : (a == -1) = true
      · rw [if_pos h2]
        have e : a = -1 := by simpa using h2
        subst e
        refine key _ ?_
        have par : ∀ n : Nat, (if (((n : Nat) : Int) % 2 == 0) = true then (1 : Int) else -1) = (-1) ^ n := by
          intro n
          induction n with
          | zero => rfl
          | succ n ih =>
            rw [Int.pow_succ, ← ih]
            by_cases q : ((n : Nat) : Int) % 2 = 0
            · have q' : ¬ (((n + 1 : Nat) : Int) % 2 = 0) := by omega
              rw [if_neg (by simpa using q'), if_pos (by simpa using q)]
              rfl
            · have q' : (((n + 1 : Nat) : Int) % 2 = 0) := by omega
              rw [if_pos (by simpa using q'), if_neg (by simpa using q)]
              rfl
        exact par n
      · rw [if_neg h2, if_neg (by rw [hz]; decide)]
        exact key _ (by rw [Int.toNat_natCast])
theorem ev_pow {l r : Expr} {pos : Pos} {a : Int} {n : Nat} (hm : Mono Γ) (h1 : Ev prog w A Γ env l (IV a)) (h2 : Ev prog w A Γ env r (IV n)) (hz : Builtin.Int.intTooBig (((Builtin.Int.intBits a : Nat) : Int) * (n : Int)) = false) : Ev prog w A Γ env (.BinOp l .Pow r pos) (IV (a ^ n)) :=
  ev_bin hm h1 h2 fun _ _ _ _ _ h => pow_nat hz h
theorem ev_neg {x : Expr} {pos : Pos} {a : Int} (h : Ev prog w A Γ env x (IV a)) : Ev prog w A Γ env (.UnaryOp .USub x pos) (IV (-a)) := fun s E g =>
  wpAny_UnaryOp (wpAny_mono (h s E g) (fun v s₁ ⟨k, t, hv⟩ => by subst hv; exact PyProof.Rows.neg_int ⟨keeps_tok k _, _, rfl⟩) fun _ _ e => e)

theorem evit_ints {iter : Expr} {ks : List Int} (hA : A.handled = none) (h : Ev prog w A Γ env iter (LIV ks)) : EvIt prog w A Γ env iter (ks.map CIV) := fun s E Q g hQ => by
  refine wpAny_mono (h s E g) (fun v s₁ ⟨k₁, hv⟩ => ?_) fun _ _ e => e
  obtain ⟨l, vs, rfl, hl, hi⟩ := hv
  obtain ⟨o, ho, _⟩ := id hl
  have hne : l ≠ s₁.heap.objs.size := Nat.ne_of_lt (Heap.lt_size ho)
  have hlen : (List.toArray vs).size = (ks.map CIV).length := by rw [List.size_toArray, List.length_map]; exact hi.length
  refine wpAny_pyIter_list hl (hQ _ _ (keeps_push k₁ _) ⟨_, _, _, _, hlen ▸ Walks.list hA _ l hne (List.toArray vs), ⟨⟨_, Heap.get?_push_size _ rfl, rfl, rfl⟩, hl.push _⟩, ?_, ?_, ?_, ?_⟩)
  · intro b hb
    show b < (s₁.heap.push _).objs.size
    rw [Heap.size_push]
    rcases List.mem_cons.mp hb with rfl | hb
    · exact Nat.lt_succ_self _
    · obtain rfl := List.mem_singleton.mp hb
      exact Nat.lt_succ_of_lt (Heap.lt_size ho)
  · intro b hb
    obtain rfl := List.mem_singleton.mp hb
    exact get_none_of_keeps k₁ (get_none_size _)
  · rintro i h ⟨⟨o, e, _⟩, _⟩ b hb
    obtain rfl := List.mem_singleton.mp hb
    exact ⟨o, e⟩
  · intro i v c h' hv hc hk
    have hv' : vs[i]? = some v := by simpa using hv
    obtain ⟨k, hk', rfl⟩ := map_get hc
    obtain ⟨t, ht⟩ := ints_get hi hk'
    rw [hv'] at ht
    exact ⟨t, Option.some.inj ht⟩
theorem allH_ints {h : Heap} : ∀ {ks : List Int} {vs : List Value}, AllH h (ks.map CIV) vs → IntsAre vs ks
  | [], [], _ => .nil
  | k :: ks, _ :: _, ⟨⟨t, e⟩, b⟩ => by subst e; exact .cons k t (allH_ints (ks := ks) b)
  | [], _ :: _, x => x.elim
  | _ :: _, [], x => x.elim
theorem evit_tup {es : List Expr} {ks : List Int} {kk : Nat} {pos : Pos} (hA : A.handled = none) (h : EvAs prog w A Γ env es (ks.map CIV)) (hz : ks.length ≤ sizeLine) : EvIt prog w A Γ env (.Tuple es kk pos) (ks.map CIV) := fun s E Q g hQ => by
  refine wpAny_Tuple (wpAny_mono (h s E pos g) (fun vs s₁ ⟨k₁, hvs⟩ => ?_) fun _ _ e => e)
  have hi := allH_ints hvs
  have hl : ({ s₁ with heap := s₁.heap.push { cls := .type "tuple", data := .seq vs.toArray } } : Shared).heap.IsTuple s₁.heap.objs.size (List.toArray vs) := ⟨_, Heap.get?_push_size _ rfl, rfl, _, rfl⟩
  have k₂ := keeps_push k₁ { cls := .type "tuple", data := .seq vs.toArray }
  refine ⟨by rw [hi.length]; exact hz, ?_⟩
  generalize hS : ({ s₁ with heap := s₁.heap.push { cls := .type "tuple", data := .seq vs.toArray } } : Shared) = s₂ at *
  have hl' := hl
  obtain ⟨o, ho, _⟩ := hl'
  have hne : s₁.heap.objs.size ≠ s₂.heap.objs.size := Nat.ne_of_lt (Heap.lt_size ho)
  have hlen : (List.toArray vs).size = (ks.map CIV).length := by rw [List.size_toArray, List.length_map]; exact hi.length
  refine wpAny_pyIter_tuple hl (hQ _ _ (keeps_push k₂ _) ⟨_, _, _, _, hlen ▸ Walks.tuple hA _ s₁.heap.objs.size hne (List.toArray vs), ⟨⟨_, Heap.get?_push_size _ rfl, rfl, rfl⟩, let ⟨o, e, r⟩ := hl; ⟨o, Heap.get?_push_of_some _ e, r⟩⟩, ?_, ?_, ?_, ?_⟩)
  · intro b hb
    show b < (s₂.heap.push _).objs.size
    rw [Heap.size_push]
    rcases List.mem_cons.mp hb with rfl | hb
    · exact Nat.lt_succ_self _
    · obtain rfl := List.mem_singleton.mp hb
      exact Nat.lt_succ_of_lt (Heap.lt_size ho)
  · intro b hb
    obtain rfl := List.mem_singleton.mp hb
    exact get_none_of_keeps k₂ (get_none_size _)
  · rintro i h ⟨⟨o, e, _⟩, _⟩ b hb
    obtain rfl := List.mem_singleton.mp hb
    exact ⟨o, e⟩
  · intro i v c h' hv hc hk
    have hv' : vs[i]? = some v := by simpa using hv
    obtain ⟨k, hk', rfl⟩ := map_get hc
    obtain ⟨t, ht⟩ := ints_get hi hk'
    rw [hv'] at ht
    exact ⟨t, Option.some.inj ht⟩

/-- script[:n] -/
theorem slice_take (items : Array Value) (n : Nat) : slicePick items none (some (n : Int)) none = (items.toList.take n).toArray := by
  unfold slicePick
  have e : sliceBounds none (some (n : Int)) none items.size = (((0 : Nat) : Int), ((min n items.size : Nat) : Int), 1) := by
    simp only [sliceBounds, Option.getD_none]
    have h1 : ¬ ((n : Int) < 0) := by omega
    simp only [h1, if_false, show (1 : Int) > 0 by decide, if_true]
    congr 1
    congr 1
    omega
  rw [e]
  dsimp only
  rw [sliceRange_one, pick_run]
  congr 1
  simp only [List.drop_zero, Nat.sub_zero]
  rw [← Array.length_toList]
  exact (List.take_eq_take_iff.mpr (by omega))
theorem ev_upto {value : Expr} {p p3 pos : Pos} {ks : List Int} {kc n : Nat} (hz : ks.length ≤ sizeLine) (he : Ev prog w A Γ env value (LIV ks)) (ht : ∀ o r, letTemporaryGo value o r = pure ()) :
    Ev prog w A Γ env (.Subscript value (.Slice none (some (.Constant (.int ((n : Nat) : Int)) kc p3)) none p) pos) (LIV (ks.take n)) := fun s E g => by
  refine wpAny_Subscript_list_slice (wpAny_mono (he s E g) (fun o s₁ ⟨k₁, hv⟩ => ?_) fun _ _ e => e) ht
  obtain ⟨l, vs, rfl, hl, hi⟩ := hv
  rw [evalPart_none]
  refine wpAny_pure ?_
  rw [evalPart_some]
  refine wpAny_Constant_int ?_
  have hsz : (List.toArray vs).size ≤ sizeLine := by rw [List.size_toArray, hi.length]; exact hz
  refine ⟨l, _, _, _, rfl, hl, hsz, .none, .int _ _, ?_⟩
  rw [slice_take]
  have hz1 : ∀ (h : Heap) (o : Obj), (h.push o).objs.size = h.objs.size + 1 := fun h o => Heap.size_push ..
  have htake : ∀ {vs : List Value} {ks : List Int} (n : Nat), IntsAre vs ks → IntsAre (vs.take n) (ks.take n) := by
    intro vs ks n h
    induction h generalizing n with
    | nil => simp; exact .nil
    | cons k t _ ih => cases n with
      | zero => exact .nil
      | succ n => exact .cons k t (ih n)
  refine ⟨keeps_heap k₁ (fun x o e => Heap.get?_push_of_some _ (Heap.get?_push_of_some _ (keeps_get k₁ e))) _, _, vs.take n, rfl, ?_, htake n hi⟩
  exact ⟨_, by rw [← hz1]; exact Heap.get?_push_size _ rfl, rfl, _, rfl⟩
end
end Mine
end
-- part LW2
section
open PySem PySem.W PySem.Spec PySem.Calls PyProof.Rows
namespace Mine
section
variable {prog : Program} {w : World} {A : Around} {E : Value → Shared → Prop} {s : Shared} {env : Env}
/-- a list comprehension that is stored at once: the store stands within the block -/
theorem comp_use {elt target iter : Expr} {scope : Scope} {pos spos py : Pos} {y : Str} {cl : List (Str × Addr)} {Q : Flow → Shared → Prop}
    (hsw : swapsWith (.ListComp elt [⟨target, iter, [], 0⟩] scope pos) (some (.Name y py)) spos.line env = pure true)
    (hclos : closureFor scope env = pure cl) (hkind : scope.kind = .function)
    (hnames : ∀ y ∈ scope.names, y.2 = .local → scope.names.lookup y.1 = some .local)
    (h : wpAny (model prog w) A (eval iter env) (fun xv s₁ => wpAny (model prog w) A (pyIter xv) (fun it s₂ =>
      ∃ F FP J V ds, Turn prog w A target it (compEnvC scope (cellsFrom (s₂.heap.objs.size + 2) scope.names cl) (s₂.heap.objs.size + 1) env) (List.length (α := Sp) ds) F FP J V ∧
        s₂.heap.objs.size ∉ FP ∧ s₂.heap.objs.size + 1 ∈ F ∧ J 0 (cHeap scope s₂.heap) ∧ ds.length ≤ sizeLine ∧ (∃ I, it = .ref I ∧ ∀ (s : Shared) (Q : Value → Shared → Prop) (E : Value → Shared → Prop), J 0 s.heap → Q it s → wpAny (model prog w) A (pyIter it) Q E s) ∧
        (∀ i d s₃ E, ds[i]? = some d → V i s₃.heap → (∃ h tk, s₃ = { s₂ with heap := h, toks := tk }) → (∀ b o, b ∉ F → s₂.heap.get? b = some o → s₃.heap.get? b = some o) →
          wpAny (model prog w) A (eval elt (compEnvC scope (cellsFrom (s₂.heap.objs.size + 2) scope.names cl) (s₂.heap.objs.size + 1) env)) (fun y s₄ => Keeps s₃ s₄ ∧ Elt d y s₃.heap s₄.heap) E s₃) ∧
        (∀ h' tk ys, h'.IsList s₂.heap.objs.size (List.toArray ys) → EltsAt (s₂.heap.objs.size :: F) h' ds ys → (∀ b o, b ∉ F → s₂.heap.get? b = some o → h'.get? b = some o) → (∃ m, h'.Ns (s₂.heap.objs.size + 1) m) →
          wpAny (model prog w) A (storeName env y (.ref s₂.heap.objs.size)) (fun _ s'' => ∃ m, s''.heap.Ns (s₂.heap.objs.size + 1) m ∧ ∀ h', Heap.SameBut (s₂.heap.objs.size + 1) s''.heap h' → Q .next { s'' with heap := h' }) E { s₂ with heap := h', toks := tk })) E s₁) E s)
    (hs : ∀ x, foldedSetIterable iter env x = pure x) :
    wpAny (model prog w) A (exec (.Assign [.Name y py] (.ListComp elt [⟨target, iter, [], 0⟩] scope pos) spos) env) Q E s := by
  rw [exec_Assign_Name_used _ _ _ _ hsw]
  refine wpAny_bind (wpAny_standAt (wpAny_bind ?_))
  show wpAny _ A (do let _ ← comprehension (.ListComp elt [⟨target, iter, [], 0⟩] scope pos) scope env _ (newList []) false (eval iter env) (some (assign (.Name y py) env))) _ _ s
  refine wpAny_bind (wpAny_mono (wpAny_comprehension_free (use := some (assign (.Name y py) env)) (Q := fun _ s' => Q .next s') rfl hs hclos hkind hnames (wpAny_mono h (fun xv s₁ h₁ => wpAny_mono h₁ (fun it s₂ h₂ => ?_) fun _ _ e => e) fun _ _ e => e))
    (fun _ s' hq => wpAny_pure (wpAny_pure hq)) fun _ _ e => e)
  obtain ⟨F, FP, J, V, ds, T, hD, hC, hJ, hsz, ⟨I, hI, hself⟩, helt, hQ⟩ := h₂
  have hlt : ∀ b o, s₂.heap.get? b = some o → b ≠ s₂.heap.objs.size ∧ b ≠ s₂.heap.objs.size + 1 := fun b o e => ⟨Nat.ne_of_lt (Heap.lt_size e), Nat.ne_of_lt (Nat.lt_succ_of_lt (Heap.lt_size e))⟩
  refine wpAny_newObj_type (newEnv_comp ?_)
  have hz : (s₂.heap.push { cls := .type "list", data := .seq ([] : List Value).toArray }).objs.size = s₂.heap.objs.size + 1 := Heap.size_push ..
  dsimp only
  rw [hz]
  have loop : codeAny (model prog w) A (.compLoop (.ListComp elt [⟨target, iter, [], 0⟩] scope pos) 0 it (.ref s₂.heap.objs.size) (compEnvC scope (cellsFrom (s₂.heap.objs.size + 2) scope.names cl) (s₂.heap.objs.size + 1) env))
      (compPost (model prog w) A E (some (assign (.Name y py) env)) (fun _ s' => Q .next s') (.ref s₂.heap.objs.size) (s₂.heap.objs.size + 1)) { s₂ with heap := cHeap scope s₂.heap } := by
    refine loop_core (s := { s₂ with heap := cHeap scope s₂.heap }) T hD hJ ?_ ?_ ?_ hsz
    · exact ⟨_, pushCells_keeps _ _ _ _ (Heap.get?_push_of_some _ (Heap.get?_push_size _ rfl))⟩
    · intro i d s₃ E' hd hV hs₃ hk
      exact helt i d s₃ E' hd hV (by obtain ⟨h, tk, e⟩ := hs₃; exact ⟨h, tk, e⟩) fun b o hb e => hk b o (fun hm => by
        rcases List.mem_cons.mp hm with hm | hm
        · exact (hlt b o e).1 hm
        · exact hb hm) (cHeap_old e)
    · intro h' tk ys ⟨m, hm⟩ hl hE hk
      refine wpAny_assign_Name (hQ h' tk ys hl.isList hE (fun b o hb e => hk b o (fun hm => by
          rcases List.mem_cons.mp hm with hm | hm
          · exact (hlt b o e).1 hm
          · exact hb hm) (cHeap_old e)) ⟨m, hm⟩)
  refine codeAny_compStart_list loop ?_
  exact hself _ _ _ hJ loop
end

section
variable {w : World} {A : Around} {s₀ : Shared} {env : Env} {m cm : Str → Option Value} {Γ : Shared → Prop}
theorem st_local2 {x : Str} {v : Value} {Q : Unit → Shared → Prop} {E : Value → Shared → Prop} {s : Shared} (g : GC w s₀ env.locals m env.cells cm s)
    (hk : env.scope.kind = .function) (hx : env.kindOf x = some .local)
    (h : ∀ s', (∀ b o, b ≠ env.locals → s.heap.get? b = some o → s'.heap.get? b = some o) → GC w s₀ env.locals (fun y => if y = x then some v else m y) env.cells cm s' → Q () s') : wpAny (model PG w) A (storeName env x v) Q E s := by
  have hl := g.2.toInCall.ns
  have X := g.2
  refine wpAny_storeName_local hx hl (fun h' hn hs => h _ (fun b o hb e => hs.extBut b o hb e) ⟨g.1, ⟨⟨?_, hn, ?_, X.toInCall.fresh⟩, ?_, X.apart, X.above⟩⟩) (by rw [hk]; rfl)
  · obtain ⟨h₁, tk, rfl⟩ := X.toInCall.same
    exact ⟨h', _, rfl⟩
  · intro b o e
    exact hs.extBut b o (Nat.ne_of_lt (Nat.lt_of_lt_of_le (Heap.lt_size e) X.toInCall.fresh)) (X.toInCall.keep b o e)
  · intro k c' hk'
    exact (X.cell k c' hk').sameBut hs (Nat.ne_of_gt (X.above k c' (mem_of_lookup hk')))
theorem ex_comp_local {elt iter : Expr} {x y : Str} {px py : Pos} {scope : Scope} {pos spos : Pos} {cl : List (Str × Addr)} {ws : List HP} {ks : List Int} {Q : Flow → Shared → Prop} {E : Value → Shared → Prop} {s : Shared}
    (hsw : swapsWith (.ListComp elt [⟨.Name x px, iter, [], 0⟩] scope pos) (some (.Name y py)) spos.line env = pure true)
    (hclos : closureFor scope env = pure cl) (hkind : scope.kind = .function) (hnames : ∀ y ∈ scope.names, y.2 = .local → scope.names.lookup y.1 = some .local)
    (hx : scope.names.lookup x = some .local) (hcells : ∀ n (cl : List (Str × Addr)), cellsFrom n scope.names cl = cl) (hpush : ∀ h, pushCells h scope.names = h)
    (hyk : env.scope.kind = .function) (hy : env.kindOf y = some .local)
    (hit : EvIt PG w A Γ env iter ws) (hlen : ws.length = ks.length) (hsz : ks.length ≤ sizeLine) (hm : Mono Γ) (hg : ∀ s, Γ s → GC w s₀ env.locals m env.cells cm s)
    (helt : ∀ (i : Nat) (c : HP) k, ws[i]? = some c → ks[i]? = some k → ∀ C, Ev PG w A (fun s => Γ s ∧ ∃ m v, s.heap.Ns C m ∧ m x = some v ∧ c v s.heap) (compEnvC scope cl C env) elt (IV k))
    (hs : ∀ x, foldedSetIterable iter env x = pure x) (g : Γ s)
    (hQ : ∀ D s', ListsKept s.heap s'.heap → LI ks (.ref D) s'.heap → GC w s₀ env.locals (fun z => if z = y then some (.ref D) else m z) env.cells cm s' → Q .next s') :
    wpAny (model PG w) A (exec (.Assign [.Name y py] (.ListComp elt [⟨.Name x px, iter, [], 0⟩] scope pos) spos) env) Q E s := by
  refine comp_use hsw hclos hkind hnames (hit s E _ g fun s₂ I k₂ hI => ?_) hs
  obtain ⟨fp, wr, P, St, W, hst, hfp, hwr, hlive, hP⟩ := hI
  rw [hcells]
  have hCf : s₂.heap.objs.size + 1 ∉ fp := fun h => absurd (hfp _ h) (Nat.not_lt.mpr (Nat.le_succ _))
  have hDf : s₂.heap.objs.size ∉ fp := fun h => absurd (hfp _ h) (Nat.lt_irrefl _)
  have old : ∀ b o, s₂.heap.get? b = some o → b ≠ s₂.heap.objs.size + 1 := fun b o e => Nat.ne_of_lt (Nat.lt_succ_of_lt (Heap.lt_size e))
  have hNs : ∃ m, (cHeap scope s₂.heap).Ns (s₂.heap.objs.size + 1) m := by
    refine ⟨fun _ => none, ?_⟩
    show (pushCells _ _).Ns _ _
    rw [hpush]
    have q := Heap.Ns.new (s₂.heap.push { cls := .type "list", data := .seq ([] : List Value).toArray }) (.type "dict")
    rw [Heap.size_push] at q
    exact q
  have hst₀ : St 0 (cHeap scope s₂.heap) := W.frame _ _ _ hst fun b _ o e => cHeap_old e
  have hlen' : ws.length = (ks.map Sp.i).length := by rw [List.length_map]; exact hlen
  have g₂ := hg _ (hm _ _ g k₂)
  refine ⟨_, _, _, _, ks.map Sp.i, hlen' ▸ turn_local (cenv := compEnvC scope cl (s₂.heap.objs.size + 1) env) (px := px) W (lookup_relabel_local hx) (by simp [compEnvC, relabel, hkind]) hCf hlive, ?_, List.mem_cons_self .., ⟨hst₀, hNs⟩, by rw [List.length_map]; exact hsz, ⟨I, rfl, fun s Q E h q => W.self 0 s Q E h.1 q⟩, ?_, ?_⟩
  · intro h
    rcases List.mem_cons.mp h with h | h
    · exact absurd h (Nat.ne_of_lt (Nat.lt_succ_self _))
    · exact hDf h
  · rintro i d s₃ E' hd ⟨_, v, m, hPv, hn, hv⟩ ⟨h, tk, rfl⟩ hk
    have hi : i < ks.length := by have := (List.getElem?_eq_some_iff.mp hd).1; rwa [List.length_map] at this
    obtain ⟨c, hc⟩ : ∃ c, ws[i]? = some c := ⟨ws[i]'(by omega), by simp [hlen, hi]⟩
    have k₃ : Keeps s { s₂ with heap := h, toks := tk } := keeps_heap k₂ (fun b o e => hk b o (fun hm => by
      rcases List.mem_cons.mp hm with rfl | hm
      · exact absurd rfl (old _ o (keeps_get k₂ e))
      · rw [hwr b hm] at e; cases e) (keeps_get k₂ e)) tk
    have hd' : ks[i]? = some ks[i] := by simp [hi]
    have hdd : d = .i ks[i] := by
      rw [List.getElem?_map, hd'] at hd
      exact (Option.some.inj hd).symm
    subst hdd
    refine helt i c ks[i] hc hd' (s₂.heap.objs.size + 1) _ E' ⟨hm _ _ g k₃, m, v, hn, hv, ?_⟩
    exact hP i v c h hPv hc fun b o hb e => hk b o (fun hm => by
      rcases List.mem_cons.mp hm with rfl | hm
      · exact absurd rfl (old _ o e)
      · exact hb hm) e
  · intro h' tk ys hl hE hk ⟨mC, hmC⟩
    have k₃ : Keeps s { s₂ with heap := h', toks := tk } := keeps_heap k₂ (fun b o e => hk b o (fun hm => by
      rcases List.mem_cons.mp hm with rfl | hm
      · exact absurd rfl (old _ o (keeps_get k₂ e))
      · rw [hwr b hm] at e; cases e) (keeps_get k₂ e)) tk
    have g₃ := hg _ (hm _ _ g k₃)
    have LI₃ : LI ks (.ref s₂.heap.objs.size) h' := ⟨_, ys, rfl, hl, elts_ints (elts_nil hE)⟩
    have ltL : env.locals < s₂.heap.objs.size := by
      obtain ⟨o, _, _, e, _⟩ := g₂.2.toInCall.ns
      exact Heap.lt_size e
    have hCL : s₂.heap.objs.size + 1 ≠ env.locals := Ne.symm (Nat.ne_of_lt (Nat.lt_succ_of_lt ltL))
    have hCn : s.heap.get? (s₂.heap.objs.size + 1) = none := get_none_of_keeps k₂ (Heap.get?_none_of_le (Nat.le_succ _))
    refine st_local2 g₃ hyk hy fun s₄ k₄ g₄ => ?_
    refine ⟨mC, hmC.at' fun o e => k₄ _ o hCL e, fun h₅ hs₅ => ?_⟩
    have k₅ : ∀ x o, x ≠ s₂.heap.objs.size + 1 → s₄.heap.get? x = some o → h₅.get? x = some o := fun x o hx e => hs₅.extBut x o hx e
    have g₅ := gc_but g₄ (b := s₂.heap.objs.size + 1) (h' := h₅) (tk := s₄.toks) (get_none_of_keeps (gc_keeps (hg _ g)) hCn) hCL (fun n c hc e => by
      obtain ⟨o, ho, _⟩ := g₂.2.cell n c hc
      rw [← e] at ho
      exact absurd (Heap.lt_size ho) (Nat.not_lt.mpr (Nat.le_succ _))) k₅
    refine hQ _ _ (fun T o e d => ?_) ?_ g₅
    · have hTL : T ≠ env.locals := solid_ne_ns e d (hg _ g).2.toInCall.ns
      refine k₅ T o ?_ (k₄ T o hTL (keeps_get k₃ e))
      rintro rfl
      rw [hCn] at e
      cases e
    · obtain ⟨l, vs, el, ⟨o, ho, c, n, d⟩, hi⟩ := LI₃
      cases el
      refine ⟨_, vs, rfl, ⟨o, k₅ _ o (Nat.ne_of_lt (Nat.lt_succ_self _)) (k₄ _ o (solid_ne_ns ho (solid_seq d) g₃.2.toInCall.ns) ho), c, n, d⟩, hi⟩
end
end Mine
end
-- part LW3
section
open PySem PySem.W PySem.Spec PySem.Calls PyProof.Rows
namespace Mine
def TI (ks : List Int) : HP := fun v h => ∃ t vs, v = .ref t ∧ h.IsTuple t (List.toArray vs) ∧ IntsAre vs ks
def TT (kss : List (List Int)) : HP := fun v h => ∃ t vs, v = .ref t ∧ h.IsTuple t (List.toArray vs) ∧ AllH h (kss.map TI) vs
theorem tup_at {h h' : Heap} {a : Addr} {its : Array Value} (x : h.IsTuple a its) (k : ∀ o, h.get? a = some o → h'.get? a = some o) : h'.IsTuple a its :=
  let ⟨o, e, r⟩ := x; ⟨o, k o e, r⟩
theorem tup_ne_list {h : Heap} {t D : Addr} {its its' : Array Value} (x : h.IsTuple t its) (y : h.IsList D its') : t ≠ D := by
  rintro rfl
  obtain ⟨o, e, c, _⟩ := x
  obtain ⟨o', e', c', _⟩ := y
  rw [e] at e'
  cases e'
  rw [c] at c'
  exact absurd c' (by decide)
theorem TI.at {ks : List Int} {v : Value} {h h' : Heap} {D : Addr} {its : Array Value} (x : TI ks v h) (y : h.IsList D its) (k : ∀ b o, b ≠ D → h.get? b = some o → h'.get? b = some o) : TI ks v h' :=
  let ⟨t, vs, e, ht, hi⟩ := x; ⟨t, vs, e, tup_at ht (fun o e => k t o (tup_ne_list ht y) e), hi⟩
theorem ti_mono {ks : List Int} : HMono (TI ks) := fun _ _ _ x k =>
  let ⟨t, vs, e, ht, hi⟩ := x; ⟨t, vs, e, tup_at ht (fun _ e => keeps_get k e), hi⟩
theorem allTI_at {h h' : Heap} {D : Addr} {its : Array Value} (y : h.IsList D its) (k : ∀ b o, b ≠ D → h.get? b = some o → h'.get? b = some o) : ∀ {kss : List (List Int)} {vs : List Value}, AllH h (kss.map TI) vs → AllH h' (kss.map TI) vs
  | [], [], _ => trivial
  | _ :: kss, _ :: _, ⟨a, b⟩ => ⟨TI.at a y k, allTI_at y k (kss := kss) b⟩
  | [], _ :: _, x => x.elim
  | _ :: _, [], x => x.elim
theorem TT.at {kss : List (List Int)} {v : Value} {h h' : Heap} {D : Addr} {its : Array Value} (x : TT kss v h) (y : h.IsList D its) (k : ∀ b o, b ≠ D → h.get? b = some o → h'.get? b = some o) : TT kss v h' :=
  let ⟨t, vs, e, ht, hi⟩ := x; ⟨t, vs, e, tup_at ht (fun o e => k t o (tup_ne_list ht y) e), allTI_at y k hi⟩
theorem allH_get {h : Heap} : ∀ {ks : List HP} {vs : List Value} {i : Nat} {k : HP}, AllH h ks vs → ks[i]? = some k → ∃ v, vs[i]? = some v ∧ k v h
  | _ :: _, v :: _, 0, _, ⟨a, _⟩, e => by
    simp only [List.getElem?_cons_zero, Option.some.injEq] at e
    subst e
    exact ⟨v, rfl, a⟩
  | _ :: _, _ :: _, i + 1, _, ⟨_, b⟩, e => allH_get (i := i) b (by simpa using e)
  | [], [], _, _, _, e => by simp at e
  | [], _ :: _, _, _, x, _ => x.elim
  | _ :: _, [], _, _, x, _ => x.elim
theorem allH_len {h : Heap} : ∀ {ks : List HP} {vs : List Value}, AllH h ks vs → vs.length = ks.length
  | [], [], _ => rfl
  | _ :: _, _ :: _, ⟨_, b⟩ => congrArg (· + 1) (allH_len b)
  | [], _ :: _, x => x.elim
  | _ :: _, [], x => x.elim

section
variable {w : World} {A : Around} {s₀ : Shared} {env : Env} {m cm : Str → Option Value} {Γ : Shared → Prop}
theorem ev_tupI {prog : Program} {es : List Expr} {ks : List Int} {kk : Nat} {pos : Pos} (he : EvAs prog w A Γ env es (ks.map CIV)) (hz : ks.length ≤ sizeLine) : Ev prog w A Γ env (.Tuple es kk pos) (HV (TI ks)) := fun s E g =>
  ev_tuple he (by rw [List.length_map]; exact hz) g (fun t vs s' k ht _ hv => ⟨k, t, vs, rfl, ht, allH_ints hv⟩) (fun k' hk => by
    obtain ⟨_, _, rfl⟩ := List.mem_map.mp hk
    exact civ_mono)
theorem ev_tupT {prog : Program} {es : List Expr} {kss : List (List Int)} {kk : Nat} {pos : Pos} (he : EvAs prog w A Γ env es (kss.map TI)) (hz : kss.length ≤ sizeLine) : Ev prog w A Γ env (.Tuple es kk pos) (HV (TT kss)) := fun s E g =>
  ev_tuple he (by rw [List.length_map]; exact hz) g (fun t vs s' k ht _ hv => ⟨k, t, vs, rfl, ht, hv⟩) (fun k' hk => by
    obtain ⟨_, _, rfl⟩ := List.mem_map.mp hk
    exact ti_mono)
theorem seqIndex_nat {k n : Nat} (h : k < n) : seqIndex? (k : Int) n = some k := by
  unfold seqIndex?
  simp
  omega
/-- an item of a tuple by an index that a call has drawn -/
theorem tup_item {prog : Program} {t : Addr} {items : Array Value} {value slice : Expr} {k : Nat} {u : Tok} {x : Value} {Q : Value → Shared → Prop} {E : Value → Shared → Prop} {s : Shared} (ht : s.heap.IsTuple t items) (hk : k < 2 ^ 62) (hx : items[k]? = some x) (h : Q x s)
    (hs : ∀ l t, subscripted slice false (.ref l) (.int k t) = operate [.ref l, .int k t] (getItem (.ref l) (.int k t))) : wpAny (model prog w) A (subscriptTail value slice (.ref t) (.int (k : Int) u)) Q E s := by
  have hlt : k < items.size := (Array.getElem?_eq_some_iff.mp hx).1
  have hT : s.TypeIs (.ref t) "tuple" := by
    obtain ⟨o, e, c, _⟩ := ht
    first
      | exact Shared.TypeIs.ref e c
      | exact Heap.IsTuple.typeIs ⟨o, e, c, by assumption⟩
      | exact ⟨o, e, c⟩
  exact tail_any hT slot_tuple_getitem.lookup (getItem_tuple ht (by omega) (by omega) (seqIndex_nat hlt) hx h) (hs t u)

theorem keep_less {s s' : Shared} {D : Addr} (k : Keeps (less s D) s') : ∀ b o, b ≠ D → s.heap.get? b = some o → s'.heap.get? b = some o := fun _ _ hb e => keeps_get k (less_get e hb)
theorem keeps_less {s s' : Shared} {D : Addr} (k : Keeps s s') : Keeps (less s D) (less s' D) := by
  obtain ⟨h', t, rfl, hk⟩ := k
  refine ⟨hideAll h' [D], t, rfl, fun b o e => ?_⟩
  have e' := of_hideAll _ e
  refine hideAll_get _ (hk b o e') ?_
  intro hm
  obtain rfl := List.mem_singleton.mp hm
  rw [show (less s b).heap.get? b = none from less_none s b] at e
  cases e
theorem keeps_to_less {s₀ s : Shared} {D : Addr} (k : Keeps s₀ s) (h : s₀.heap.get? D = none) : Keeps s₀ (less s D) := by
  obtain ⟨h', t, rfl, hk⟩ := k
  refine ⟨hideAll h' [D], t, rfl, fun b o e => hideAll_get _ (hk b o e) ?_⟩
  intro hm
  obtain rfl := List.mem_singleton.mp hm
  rw [h] at e
  cases e
theorem li_less {s : Shared} {D : Addr} {ks : List Int} {v : Value} {h' : Heap} (x : LI ks v s.heap) (hv : v ≠ .ref D) (k : ∀ b o, b ≠ D → s.heap.get? b = some o → h'.get? b = some o) : LI ks v h' := by
  obtain ⟨l, vs, rfl, ⟨o, ho, r⟩, hi⟩ := x
  exact ⟨l, vs, rfl, ⟨o, k l o (fun e => hv (by rw [e])) ho, r⟩, hi⟩
theorem draw_kept : nsIn (Mine.hd.heap_39 w.params) mainGlobals (Str.ofString "_law_draw") = some (some (.ref 55)) ∧ keepIn (Mine.hd.heap_39 w.params) (.ref 55) = true := by
  refine of_fill ?_
  k_fill
  unfold Fill
  exact ⟨by k_is, by k_is⟩
set_option maxRecDepth 100000 in
theorem draw_at {pos p1 p2 p3 : Pos} {kc : Nat} {D : Addr} {vc : Value} {ks : List Int} {k M : Nat} {tk : Tok} {Q : Value → Shared → Prop} {E : Value → Shared → Prop} {s : Shared} (hA : A.handled = none) (hroom : A.depth < recursionLimit)
    (g : GC w s₀ env.locals m env.cells cm s) (hk : env.scope.kind = .function) (hxf : env.kindOf (Str.ofString "_law_draw") = some .globalImplicit) (hgl : env.globals = mainGlobals) (hxp : env.kindOf (Str.ofString "pool") = some .local) (hv : m (Str.ofString "pool") = some (.ref D))
    (hDn : s₀.heap.get? D = none) (hD : s.heap.IsList D #[vc, .int k tk]) (hc : LI ks vc s.heap) (hcD : vc ≠ .ref D) (hkk : k ≤ 1000) (hks : ks.length ≤ 1000) (hM : M ≠ 0)
    (hQ : ∀ s' t u, Keeps (less s D) s' → GC w s₀ env.locals m env.cells cm s' → s'.heap.IsList D #[vc, .int ((k + 1 : Nat) : Int) t] → LI ks vc s'.heap → Q (.int ((drawV ks k M : Nat) : Int) u) s') :
    wpAny (model PG w) A (eval (.Call (.Name (Str.ofString "_law_draw") p1) [.Name (Str.ofString "pool") p2, .Constant (.int (M : Int)) kc p3] [] pos) env) Q E s := by
  refine wpAny_Call_Name_kw (wpAny_mono ((?ef : Ev PG w A (GC w s₀ env.locals m env.cells cm) env _ (IsV (.ref 55))) s _ g) (fun v s₁ ⟨k₁, hv⟩ => ?_) fun _ _ e => e)
  case ef => exact ev_global gc_tp hk hxf rfl hgl draw_kept.1
  obtain rfl : v = .ref 55 := hv
  have g₁ := gc_mono _ _ g k₁
  have hes : EvAs PG w A (GC w s₀ env.locals m env.cells cm) env [.Name (Str.ofString "pool") p2, .Constant (.int (M : Int)) kc p3] [fun v _ => v = .ref D, CIV M] :=
    evas_cons gc_mono (fun _ _ _ h _ => h) (gc_local (fun _ g => g) hk hxp rfl hv (fun _ _ => rfl)) (evas_cons gc_mono civ_mono ev_int evas_nil rfl) rfl
  refine callWith_K (gc_tp _ g₁).1 draw_kept.2 (wpAny_mono (hes s₁ E pos g₁) (fun vs s₂ ⟨k₂, hvs⟩ => ?_) fun _ _ e => e) rfl rfl
  obtain ⟨v, u, rfl, rfl, t, rfl⟩ := allH2 hvs
  have k12 := keeps_trans k₁ k₂
  have g₂ := gc_mono _ _ g₁ k₂
  refine ⟨(gc_tp _ g₂).1, ?_⟩
  have hD₂ : s₂.heap.IsList D #[vc, .int k tk] := isList_at hD fun _ e => keeps_get k12 e
  have hc₂ : LI ks vc s₂.heap := hc.keeps k12
  have T : Tp w (less s₂ D) := g.1.keeps (keeps_to_less (gc_keeps g₂) hDn)
  refine wpAny_mono (draw_spec (M := M) hA hroom T hD₂ (li_less hc₂ hcD fun b o hb e => less_get e hb) hkk hks hM) (fun v s' h => ?_) fun _ _ e => e
  obtain ⟨k₃, ⟨t', hl⟩, u', rfl⟩ := h
  have hne := gc_list_ne g₂ hD₂
  have g₃ : GC w s₀ env.locals m env.cells cm s' := by
    have k₃' := keep_less k₃
    obtain ⟨h', tk', rfl, hk'⟩ := k₃
    exact gc_but g₂ hDn hne.1 hne.2 k₃'
  exact hQ s' t' u' (keeps_trans (keeps_less k12) k₃) g₃ hl (li_less hc₂ hcD (keep_less k₃))
end
end Mine
end
-- part LW3B
section
open PySem PySem.W PySem.Spec PySem.Calls PyProof.Rows
namespace Mine
section
variable {prog : Program} {w : World} {A : Around} {Γ : Shared → Prop} {env : Env} {E : Value → Shared → Prop} {s : Shared}
theorem tr_ne_same {l r : Expr} {p : Pos} {a : Int} {whole : Sem Value} {Q : Bool → Shared → Prop} (hm : Mono Γ) (h1 : Ev prog w A Γ env l (IV a)) (h2 : Ev prog w A Γ env r (IV a)) (m1 : behindInMarks .NotEq r = false) (g : Γ s) (hQ : ∀ s', Keeps s s' → Q false s') :
    wpAny (model prog w) A (isTrue (.Compare l [.NotEq] [r] p) env whole) Q E s := by
  refine wpAny_isTrue_Compare1 (wpAny_mono (h1 s E g) (fun v s₁ ⟨k₁, t, hv⟩ => ?_) fun _ _ e => e) m1
  refine wpAny_mono (h2 s₁ E (hm _ _ g k₁)) (fun u s₂ ⟨k₂, t₂, hu⟩ => ?_) fun _ _ e => e
  subst hv hu
  refine ne_int (wpAny_truthy_bool ?_)
  rw [show (a != a) = false by simp]
  exact hQ _ (keeps_trans k₁ k₂)
theorem if_or_same {l1 r1 l2 r2 : Expr} {p1 p2 pb pos : Pos} {body : List Stmt} {a b : Int} {Q : Flow → Shared → Prop} (hm : Mono Γ) (h1 : Ev prog w A Γ env l1 (IV a)) (h2 : Ev prog w A Γ env r1 (IV a)) (h3 : Ev prog w A Γ env l2 (IV b)) (h4 : Ev prog w A Γ env r2 (IV b))
    (m1 : behindInMarks .NotEq r1 = false) (m2 : behindInMarks .NotEq r2 = false) (g : Γ s) (hQ : ∀ s', Keeps s s' → Q .next s') :
    wpAny (model prog w) A (exec (.If (.BoolOp .Or [.Compare l1 [.NotEq] [r1] p1, .Compare l2 [.NotEq] [r2] p2] pb) body [] pos) env) Q E s := by
  refine wpAny_If (wpAny_isTrue_BoolOp (wpAny_allTrue_Or_cons (tr_ne_same hm h1 h2 m1 g fun s₁ k₁ => ?_)))
  rw [if_neg (by decide)]
  refine wpAny_allTrue_Or_cons (tr_ne_same hm h3 h4 m2 (hm _ _ g k₁) fun s₂ k₂ => ?_)
  rw [if_neg (by decide)]
  refine wpAny_allTrue_Or_nil ?_
  rw [if_neg (by decide)]
  exact wpAny_execs_nil (hQ _ (keeps_trans k₁ k₂))
theorem ev_list2 {e f : Expr} {pos : Pos} {a b : Int} (hm : Mono Γ) (he : Ev prog w A Γ env e (IV a)) (hf : Ev prog w A Γ env f (IV b))
    (hst : starEach [e, f] env = (false, eval e env) :: starEach [f] env) (hst2 : starEach [f] env = (false, eval f env) :: starEach [] env) : Ev prog w A Γ env (.List [e, f] pos) (HV (LI [a, b])) := fun s E g => by
  refine wpAny_List (wpAny_items_cons (wpAny_mono (he s E g) (fun v s₁ ⟨k, t, hv⟩ => wpAny_items_cons (wpAny_mono (hf s₁ _ (hm _ _ g k)) (fun u s₂ ⟨k', t', hu⟩ => wpAny_items_nil ?_) fun _ _ e => e) hst2) (fun _ _ e => e)) hst)
  subst hv hu
  exact ⟨(by show 2 ≤ sizeLine; decide), keeps_push (keeps_trans k k') _, _, _, rfl, ⟨_, Heap.get?_push_size _ rfl, rfl, _, rfl⟩, .cons _ _ (.cons _ _ .nil)⟩
theorem li2_mono {xs ys : List Int} {v u : Value} (hm : Mono Γ) : Mono (G2 Γ (LI xs v) (LI ys u)) := g2_mono hm (fun _ _ h k => h.keeps k) (fun _ _ h k => h.keeps k)
/-- an int within a made list -/
theorem tr_in {l r : Expr} {p : Pos} {a : Int} {ks : List Int} {whole : Sem Value} {Q : Bool → Shared → Prop} (hm : Mono Γ) (h1 : Ev prog w A Γ env l (IV a)) (h2 : Ev prog w A Γ env r (LIV ks)) (m1 : behindInMarks .In r = false) (g : Γ s) (hQ : ∀ s', Keeps s s' → Q (ks.any (· == a)) s') :
    wpAny (model prog w) A (isTrue (.Compare l [.In] [r] p) env whole) Q E s := by
  refine wpAny_isTrue_Compare1 (wpAny_mono (h1 s E g) (fun v s₁ ⟨k₁, t, hv⟩ => ?_) fun _ _ e => e) m1
  refine wpAny_mono (h2 s₁ E (hm _ _ g k₁)) (fun u s₂ ⟨k₂, hu⟩ => ?_) fun _ _ e => e
  subst hv
  obtain ⟨l, vs, rfl, hl, hi⟩ := hu
  exact in_list_ints hl hi (wpAny_truthy_bool (hQ _ (keeps_trans k₁ k₂)))
/-- range(a, b) as what a block walks -/
theorem evit_range2 {f : Str} {p pos : Pos} {e1 e2 : Expr} {b : Nat} (hA : A.handled = none) (hm : Mono Γ) (hf : Ev prog w A Γ env (.Name f p) (IsV (.type "range"))) (he1 : Ev prog w A Γ env e1 (IV 1)) (he2 : Ev prog w A Γ env e2 (IV ((b + 1 : Nat) : Int))) (hn : b < 2 ^ 60)
    (hst : starEach [e1, e2] env = (false, eval e1 env) :: starEach [e2] env) (hst2 : starEach [e2] env = (false, eval e2 env) :: starEach [] env) (hpl : ∀ pos, ((backTo pos (starEach [e2] env)).any (·.1)) = false) :
    EvIt prog w A Γ env (.Call (.Name f p) [e1, e2] [] pos) ((List.range b).map fun (i : Nat) => CIV ((i + 1 : Nat) : Int)) := fun s E Q g hQ => by
  refine wpAny_Call_Name_kw (wpAny_mono (hf s E g) (fun v s₁ ⟨k₁, hv⟩ => ?_) fun _ _ e => e)
  obtain rfl : v = .type "range" := hv
  refine PyProof.Rows.callWith_type1 (wpAny_items_cons (wpAny_mono (he1 s₁ E (hm _ _ g k₁)) (fun v s₂ ⟨k₂, t, hv⟩ => ?_) fun _ _ e => e) hst) hst (hpl _)
  refine wpAny_items_cons (wpAny_mono (he2 s₂ E (hm _ _ g (keeps_trans k₁ k₂))) (fun u s₃ ⟨k₃, t3, hu⟩ => ?_) fun _ _ e => e) hst2
  subst hv hu
  refine wpAny_items_nil (call_range_2 ?_)
  have hrs : Builtin.Range.rangeSize 1 ((b + 1 : Nat) : Int) 1 = (b : Int) := by rw [rangeSize_one]; split <;> omega
  refine wpAny_pyIter_range (IsRange.new _ _ _ _ _ _ _) (small_one (by decide) (by decide) (by omega) (by omega)) ?_
  rw [hrs]
  have k13 := keeps_trans (keeps_trans k₁ k₂) k₃
  have k₄ := keeps_push (keeps_tok (keeps_push k13 { cls := .type "range", data := .fields #[.int 1 t, .int ((b + 1 : Nat) : Int) t3, .int 1 s₃.toks] }) (s₃.toks + 1)) { cls := .type "range_iterator", data := .fields #[rawInt 1, rawInt (b : Int), rawInt 1] }
  refine hQ _ _ k₄ ⟨_, _, _, _, (by rw [List.length_map, List.length_range]; exact (Walks.range hA _ 1 1 b).bound), ?_, ?_, ?_, ?_, ?_⟩
  · have e1 : (1 : Int) + ((0 : Nat) : Int) * 1 = 1 := by simp
    have e2 : (b : Int) - ((0 : Nat) : Int) = b := by simp
    rw [e1, e2]
    exact Heap.get?_push_size _ rfl
  · intro b hb
    obtain rfl := List.mem_singleton.mp hb
    exact Nat.lt_of_lt_of_eq (Nat.lt_succ_self _) (Heap.size_push ..).symm
  · intro x hb
    obtain rfl := List.mem_singleton.mp hb
    refine get_none_of_keeps (s' := { s₃ with heap := s₃.heap.push { cls := .type "range", data := .fields #[.int 1 t, .int ((b + 1 : Nat) : Int) t3, .int 1 s₃.toks] } }) (keeps_push k13 _) (get_none_size _)
  · intro i h hst b hb
    obtain rfl := List.mem_singleton.mp hb
    exact ⟨_, hst⟩
  · rintro i v c h' ⟨hi, t, rfl⟩ hc _
    rw [List.getElem?_map, List.getElem?_range hi] at hc
    cases hc
    exact ⟨t, by
      have e : (1 : Int) + (i : Int) * 1 = ((i + 1 : Nat) : Int) := by omega
      rw [e]⟩
end
end Mine
end
-- part FIN
section
open PySem PySem.W PySem.Spec PySem.Calls PyProof.Rows
namespace Mine
def menu : List (List Int) := [[2, -1], [3, 2], [1, -2], [3, 1], [1, -1], [1, 2], [4, 1], [5, -3]]
def mP (d : Nat) : Int := (menu.getD d []).getD 0 0
def mQ (d : Nat) : Int := (menu.getD d []).getD 1 0
theorem menu_at : ∀ d, d < 8 → menu[d]? = some [mP d, mQ d] := by decide
def mPr (d : Nat) : Nat := [3, 5, 7, 11, 13].getD d 0
theorem mPr_at : ∀ d, d < 5 → ([3, 5, 7, 11, 13] : List Int)[d]? = some ((mPr d : Nat) : Int) := by decide
def tabU : List (List Int) := [[0, 1, 2, 5, 12, 29, 70, 169, 408, 985, 2378, 5741, 13860, 33461, 80782, 195025, 470832, 1136689, 2744210, 6625109, 15994428, 38613965, 93222358, 225058681, 543339720],
  [0, 1, 3, 7, 15, 31, 63, 127, 255, 511, 1023, 2047, 4095, 8191, 16383, 32767, 65535, 131071, 262143, 524287, 1048575, 2097151, 4194303, 8388607, 16777215],
  [0, 1, 1, 3, 5, 11, 21, 43, 85, 171, 341, 683, 1365, 2731, 5461, 10923, 21845, 43691, 87381, 174763, 349525, 699051, 1398101, 2796203, 5592405],
  [0, 1, 3, 8, 21, 55, 144, 377, 987, 2584, 6765, 17711, 46368, 121393, 317811, 832040, 2178309, 5702887, 14930352, 39088169, 102334155, 267914296, 701408733, 1836311903, 4807526976],
  [0, 1, 1, 2, 3, 5, 8, 13, 21, 34, 55, 89, 144, 233, 377, 610, 987, 1597, 2584, 4181, 6765, 10946, 17711, 28657, 46368],
  [0, 1, 1, -1, -3, -1, 5, 7, -3, -17, -11, 23, 45, -1, -91, -89, 93, 271, 85, -457, -627, 287, 1541, 967, -2115],
  [0, 1, 4, 15, 56, 209, 780, 2911, 10864, 40545, 151316, 564719, 2107560, 7865521, 29354524, 109552575, 408855776, 1525870529, 5694626340, 21252634831, 79315912984, 296011017105, 1104728155436, 4122901604639, 15386878263120],
  [0, 1, 5, 28, 155, 859, 4760, 26377, 146165, 809956, 4488275, 24871243, 137821040, 763718929, 4232057765, 23451445612, 129953401355, 720121343611, 3990466922120, 22112698641433, 122534893973525, 679012565791924, 3762667510880195, 20850375251776747, 115539878791524320]]
def tabV : List (List Int) := [[2, 2, 6, 14, 34, 82, 198, 478, 1154, 2786, 6726, 16238, 39202, 94642, 228486],
  [2, 3, 5, 9, 17, 33, 65, 129, 257, 513, 1025, 2049, 4097, 8193, 16385],
  [2, 1, 5, 7, 17, 31, 65, 127, 257, 511, 1025, 2047, 4097, 8191, 16385],
  [2, 3, 7, 18, 47, 123, 322, 843, 2207, 5778, 15127, 39603, 103682, 271443, 710647],
  [2, 1, 3, 4, 7, 11, 18, 29, 47, 76, 123, 199, 322, 521, 843],
  [2, 1, -3, -5, 1, 11, 9, -13, -31, -5, 57, 67, -47, -181, -87],
  [2, 4, 14, 52, 194, 724, 2702, 10084, 37634, 140452, 524174, 1956244, 7300802, 27246964, 101687054],
  [2, 5, 31, 170, 943, 5225, 28954, 160445, 889087, 4926770, 27301111, 151285865, 838332658, 4645520885, 25742602399]]
def nU (d n : Nat) : Int := numAt (mP d) (0 - mQ d) 0 1 n
def nV (d n : Nat) : Int := numAt (mP d) (0 - mQ d) 2 (mP d) n
def tU (d n : Nat) : Int := (tabU.getD d []).getD n 0
def tV (d n : Nat) : Int := (tabV.getD d []).getD n 0
theorem nU_tab : ∀ d, d < 8 → ∀ n, n < 25 → nU d n = tU d n := by decide +kernel
theorem nV_tab : ∀ d, d < 8 → ∀ n, n < 15 → nV d n = tV d n := by decide +kernel
def bentOf (d : Nat) : Int := mP d * mP d - 4 * mQ d
def sgOf (d p : Nat) : Int := if (bentOf d).fmod p = 0 then 0 else if (((List.range (p - 1)).map fun i => (((i + 1 : Nat) : Int) * ((i + 1 : Nat) : Int)).fmod p).any (· == (bentOf d).fmod p)) = true then 1 else -1
def small50 (x : Int) : Bool := decide (-(2 ^ 50) < x) && decide (x < 2 ^ 50)
theorem smallUV : ∀ d, d < 8 → ∀ n, n < 15 → (small50 (tU d n) && small50 (tV d n)) = true := by decide +kernel
def chk2 (d p : Nat) : Bool := (decide ((tU d p - sgOf d p).fmod p = 0)) && decide ((tV d p - mP d).fmod p = 0) && (decide ((mQ d).fmod p = 0) || decide ((tU d ((p : Int) - sgOf d p).toNat).fmod p = 0))
theorem chk2_all : ∀ d, d < 8 → ∀ e, e < 5 → chk2 d (mPr e) = true := by decide +kernel
def chk1 (d a b : Nat) : Bool := decide (Nat.gcd (tU d (a + 1)).natAbs (tU d (b + 1)).natAbs = (tU d (Nat.gcd (a + 1) (b + 1))).natAbs) && decide (tU d (a + b + 2) = tU d (a + 1) * tU d (b + 2) - mQ d * tU d a * tU d (b + 1))
def chk3 (d b : Nat) : Bool := decide (tU d (2 * (b + 1)) = tU d (b + 1) * tV d (b + 1)) && decide (tV d (b + 1) * tV d (b + 1) - bentOf d * tU d (b + 1) * tU d (b + 1) = 4 * (mQ d) ^ (b + 1))
theorem chk3_all : ∀ d, d < 8 → ∀ b, b < 12 → chk3 d b = true := by decide +kernel
theorem chk1_all : ∀ d, d < 8 → ∀ a, a < 12 → ∀ b, b < 12 → chk1 d a b = true := by decide +kernel
end Mine
end
-- part LW3C
section
open PySem PySem.W PySem.Spec PySem.Calls PyProof.Rows
namespace Mine
section
variable {w : World} {A : Around} {Γ : Shared → Prop} {env : Env}
theorem num_kept : nsIn (Mine.hd.heap_39 w.params) mainGlobals (Str.ofString "number_at") = some (some (.ref 41)) ∧ keepIn (Mine.hd.heap_39 w.params) (.ref 41) = true := by
  refine of_fill ?_
  k_fill
  unfold Fill
  exact ⟨by k_is, by k_is⟩
theorem ev_numat {p pos : Pos} {e1 e2 e3 : Expr} {P r a b : Int} {n : Nat} (hA : A.handled = none) (hroom : A.depth + 2 < recursionLimit) (hm : Mono Γ) (ht : ∀ s, Γ s → Tp w s) (hk : env.scope.kind = .function) (hx : env.kindOf (Str.ofString "number_at") = some .globalImplicit) (hg : env.globals = mainGlobals)
    (h1 : Ev PG w A Γ env e1 (HV (LI [P, r]))) (h2 : Ev PG w A Γ env e2 (HV (LI [a, b]))) (h3 : Ev PG w A Γ env e3 (IV n)) (hn : n ≤ 1000) (hok : numOk P r n = true)
    (hst1 : starEach [e1, e2, e3] env = (false, eval e1 env) :: starEach [e2, e3] env) (hst2 : starEach [e2, e3] env = (false, eval e2 env) :: starEach [e3] env) (hst3 : starEach [e3] env = (false, eval e3 env) :: starEach [] env) (hpl : ∀ pos, ((backTo pos (starEach [e2, e3] env)).any (·.1)) = false) :
    Ev PG w A Γ env (.Call (.Name (Str.ofString "number_at") p) [e1, e2, e3] [] pos) (IV (numAt P r a b n)) := by
  show Ev _ _ _ _ _ _ (HV (CIV (numAt P r a b n)))
  refine ev_callF (a := 41) (ks := [LI [P, r], LI [a, b], CIV n]) hm ht (ev_global ht hk hx rfl hg num_kept.1) num_kept.2 (evas_cons hm li_mono h1 (evas_cons hm li_mono h2 (evas_cons hm civ_mono h3 evas_nil hst3) hst2) hst1) ?_ hst1 hpl
  rintro s E vs g hvs
  obtain ⟨v, u, x, rfl, hv, hu, t, rfl⟩ := allH3 hvs
  exact number_at_spec hA hroom (ht _ g) hv hu hn hok
theorem gcd_kept : nsIn (Mine.hd.heap_39 w.params) mainGlobals (Str.ofString "gcd") = some (some (.ref 48)) ∧ keepIn (Mine.hd.heap_39 w.params) (.ref 48) = true := by
  refine of_fill ?_
  k_fill
  unfold Fill
  exact ⟨by k_is, by k_is⟩
theorem ev_gcd {p pos : Pos} {e1 e2 : Expr} {a b : Int} (hA : A.handled = none) (hroom : A.depth < recursionLimit) (hm : Mono Γ) (ht : ∀ s, Γ s → Tp w s) (hk : env.scope.kind = .function) (hx : env.kindOf (Str.ofString "gcd") = some .globalImplicit) (hg : env.globals = mainGlobals)
    (h1 : Ev PG w A Γ env e1 (IV a)) (h2 : Ev PG w A Γ env e2 (IV b))
    (hst1 : starEach [e1, e2] env = (false, eval e1 env) :: starEach [e2] env) (hst2 : starEach [e2] env = (false, eval e2 env) :: starEach [] env) (hpl : ∀ pos, ((backTo pos (starEach [e2] env)).any (·.1)) = false) :
    Ev PG w A Γ env (.Call (.Name (Str.ofString "gcd") p) [e1, e2] [] pos) (IV ((Nat.gcd a.natAbs b.natAbs : Nat) : Int)) := by
  show Ev _ _ _ _ _ _ (HV (CIV ((Nat.gcd a.natAbs b.natAbs : Nat) : Int)))
  refine ev_callF (a := 48) (ks := [CIV a, CIV b]) hm ht (ev_global ht hk hx rfl hg gcd_kept.1) gcd_kept.2 (evas_cons hm civ_mono h1 (evas_cons hm civ_mono h2 evas_nil hst2) hst1) ?_ hst1 hpl
  rintro s E vs g hvs
  obtain ⟨v, u, rfl, ⟨t, rfl⟩, t', rfl⟩ := allH2 hvs
  exact gcd_spec hA hroom (ht _ g)
theorem ev_cast {e : Expr} {a b : Int} (h : a = b) (he : Ev PG w A Γ env e (IV a)) : Ev PG w A Γ env e (IV b) := h ▸ he
theorem gc_upd {s₀ s : Shared} {L : Addr} {m cm : Str → Option Value} {cs : List (Str × Addr)} {x : Str} {a b : Option Value} (g : GC w s₀ L (fun y => if y = x then a else if y = x then b else m y) cs cm s) : GC w s₀ L (fun y => if y = x then a else m y) cs cm s := by
  have e : (fun y => if y = x then a else if y = x then b else m y) = fun y => if y = x then a else m y := by
    funext y
    by_cases h : y = x
    · rw [if_pos h, if_pos h]
    · rw [if_neg h, if_neg h, if_neg h]
  rwa [e] at g
theorem small_mul {a b : Int} (h : small50 a = true) : IntMulOk a b := by
  simp only [small50, Bool.and_eq_true, decide_eq_true_eq] at h
  exact IntMulOk.of_left (intBits_le_64 (by omega) (by omega))
theorem pow_small {Q : Int} {n : Nat} (h : -(2 ^ 50) < Q ∧ Q < 2 ^ 50) (hn : n ≤ 12) : Builtin.Int.intTooBig (((Builtin.Int.intBits Q : Nat) : Int) * (n : Int)) = false := by
  have b : Builtin.Int.intBits Q ≤ 64 := intBits_le_64 (by omega) (by omega)
  have m : Builtin.Int.intBits Q * n ≤ 64 * 12 := Nat.mul_le_mul b hn
  have e : ((Builtin.Int.intBits Q : Nat) : Int) * (n : Int) = ((Builtin.Int.intBits Q * n : Nat) : Int) := by rw [Int.natCast_mul]
  unfold Builtin.Int.intTooBig
  rw [e]
  refine decide_eq_false ?_
  show ¬ ((Builtin.Int.intBits Q * n : Nat) : Int) > ((2 ^ 27 : Nat) : Int)
  omega
theorem tr_ne_diff {l r : Expr} {p : Pos} {a b : Int} {whole : Sem Value} {Q : Bool → Shared → Prop} {E : Value → Shared → Prop} {s : Shared} (hab : a ≠ b) (hm : Mono Γ) (h1 : Ev PG w A Γ env l (IV a)) (h2 : Ev PG w A Γ env r (IV b)) (m1 : behindInMarks .NotEq r = false) (g : Γ s) (hQ : ∀ s', Keeps s s' → Q true s') :
    wpAny (model PG w) A (isTrue (.Compare l [.NotEq] [r] p) env whole) Q E s := by
  refine wpAny_isTrue_Compare1 (wpAny_mono (h1 s E g) (fun v s₁ ⟨k₁, t, hv⟩ => ?_) fun _ _ e => e) m1
  refine wpAny_mono (h2 s₁ E (hm _ _ g k₁)) (fun u s₂ ⟨k₂, t₂, hu⟩ => ?_) fun _ _ e => e
  subst hv hu
  refine ne_int (wpAny_truthy_bool ?_)
  rw [show (a != b) = true by simpa using hab]
  exact hQ _ (keeps_trans k₁ k₂)
theorem ev_ifin {l r body orelse : Expr} {pos p : Pos} {a c : Int} {ks : List Int} (hm : Mono Γ) (h1 : Ev PG w A Γ env l (IV a)) (h2 : Ev PG w A Γ env r (LIV ks)) (m1 : behindInMarks .In r = false)
    (hy : ks.any (· == a) = true → Ev PG w A Γ env body (IV c)) (hn : ks.any (· == a) = false → Ev PG w A Γ env orelse (IV c)) : Ev PG w A Γ env (.IfExp (.Compare l [.In] [r] p) body orelse pos) (IV c) := fun s E g => by
  refine wpAny_IfExp (tr_in hm h1 h2 m1 g fun s₁ k₁ => ?_)
  cases hb : ks.any (· == a) with
  | true =>
    rw [if_pos rfl]
    exact wpAny_mono (hy hb s₁ E (hm _ _ g k₁)) (fun v s₂ ⟨k₂, hv⟩ => ⟨keeps_trans k₁ k₂, hv⟩) fun _ _ e => e
  | false =>
    rw [if_neg (by decide)]
    exact wpAny_mono (hn hb s₁ E (hm _ _ g k₁)) (fun v s₂ ⟨k₂, hv⟩ => ⟨keeps_trans k₁ k₂, hv⟩) fun _ _ e => e
theorem ev_eq {l r : Expr} {p : Pos} {a b : Int} (hm : Mono Γ) (h1 : Ev PG w A Γ env l (IV a)) (h2 : Ev PG w A Γ env r (IV b)) (m1 : behindInMarks .Eq r = false) : Ev PG w A Γ env (.Compare l [.Eq] [r] p) (IsV (.bool (a == b))) := fun s E g => by
  refine wpAny_Compare1 (wpAny_mono (h1 s E g) (fun v s₁ ⟨k₁, t, hv⟩ => ?_) fun _ _ e => e) m1
  refine wpAny_mono (h2 s₁ E (hm _ _ g k₁)) (fun u s₂ ⟨k₂, t₂, hu⟩ => ?_) fun _ _ e => e
  subst hv hu
  exact eq_int ⟨keeps_trans k₁ k₂, rfl⟩
theorem ev_or2 {x y : Expr} {pos : Pos} {b c : Bool} (hm : Mono Γ) (h1 : Ev PG w A Γ env x (IsV (.bool b))) (h2 : Ev PG w A Γ env y (IsV (.bool c))) (h : b = true ∨ c = true) : Ev PG w A Γ env (.BoolOp .Or [x, y] pos) (IsV (.bool true)) := fun s E g => by
  refine wpAny_Or2 (wpAny_mono (h1 s E g) (fun v s₁ ⟨k₁, hv⟩ => ?_) fun _ _ e => e)
  obtain rfl : v = .bool b := hv
  refine wpAny_truthy_bool ?_
  cases b with
  | true =>
    rw [if_pos rfl]
    exact ⟨k₁, rfl⟩
  | false =>
    rw [if_neg (by decide)]
    have hc : c = true := h.elim (fun e => absurd e (by decide)) id
    subst hc
    exact wpAny_mono (h2 s₁ E (hm _ _ g k₁)) (fun v s₂ ⟨k₂, hv⟩ => ⟨keeps_trans k₁ k₂, hv⟩) fun _ _ e => e
def SignQ {s₀ s : Shared} {L : Addr} {m cm : Str → Option Value} {cs : List (Str × Addr)} (_ : GC w s₀ L m cs cm s) (sg : Int) (F : Heap → Prop) (fl : Flow) (s' : Shared) : Prop :=
  fl = .next ∧ (∃ tk, GC w s₀ L (fun y => if y = Str.ofString "sign" then some (.int sg tk) else m y) cs cm s') ∧ F s'.heap
/-- the facts about one pair and two places -/
structure Facts1 (P Q : Int) (d1 d2 : Nat) (x0 x1 x2 x3 x4 x5 x6 V : Int) : Prop where
  us : ([d1, d1 + 1, d2 + 1, d2 + 2, d1 + d2 + 2, 2 * (d2 + 1), Nat.gcd (d1 + 1) (d2 + 1)] : List Nat).map (fun n => numAt P (0 - Q) 0 1 n) = [x0, x1, x2, x3, x4, x5, x6]
  hV : numAt P (0 - Q) 2 P (d2 + 1) = V
  f1 : Nat.gcd x1.natAbs x2.natAbs = x6.natAbs
  f2 : x4 = x1 * x3 - Q * x0 * x2
  f3 : x5 = x2 * V
  f4 : V * V - (P * P - 4 * Q) * x2 * x2 = 4 * Q ^ (d2 + 1)
  s1 : small50 x1 = true
  s2 : small50 x2 = true
  s3 : small50 V = true
  s4 : IntMulOk Q x0
  s5 : IntMulOk (Q * x0) x2
  s6 : IntMulOk (P * P - 4 * Q) x2
  s7 : IntMulOk ((P * P - 4 * Q) * x2) x2
theorem facts1 {d d1 d2 : Nat} (h : d < 8) (h1 : d1 < 12) (h2 : d2 < 12) : ∃ x0 x1 x2 x3 x4 x5 x6 V, Facts1 (mP d) (mQ d) d1 d2 x0 x1 x2 x3 x4 x5 x6 V := by
  have c1 := chk1_all d h d1 h1 d2 h2
  have c3 := chk3_all d h d2 h2
  simp only [chk1, chk3, Bool.and_eq_true, decide_eq_true_eq] at c1 c3
  have hg : Nat.gcd (d1 + 1) (d2 + 1) ≤ d1 + 1 := Nat.gcd_le_left _ (Nat.succ_pos _)
  have eU : ∀ n, n < 25 → numAt (mP d) (0 - mQ d) 0 1 n = tU d n := fun n hn => nU_tab d h n hn
  have eV : ∀ n, n < 15 → numAt (mP d) (0 - mQ d) 2 (mP d) n = tV d n := fun n hn => nV_tab d h n hn
  have sm : ∀ n, n < 15 → small50 (tU d n) = true ∧ small50 (tV d n) = true := fun n hn => by simpa using smallUV d h n hn
  have qs : ∀ d, d < 8 → -(2 ^ 5) < mQ d ∧ mQ d < 2 ^ 5 := by decide
  have bs : ∀ d, d < 8 → -(2 ^ 6) < mP d * mP d - 4 * mQ d ∧ mP d * mP d - 4 * mQ d < 2 ^ 6 := by decide
  have q := qs d h
  have b := bs d h
  have prod : ∀ a x : Int, -64 < a → a < 64 → small50 x = true → IntMulOk a x ∧ ∀ y, IntMulOk (a * x) y := by
    intro a x ha hb hx
    simp only [small50, Bool.and_eq_true, decide_eq_true_eq] at hx
    refine ⟨IntMulOk.of_left (intBits_le_64 (by omega) (by omega)), fun y => ?_⟩
    have up : (a * x).natAbs ≤ 64 * 2 ^ 50 := by
      rw [Int.natAbs_mul]
      exact Nat.mul_le_mul (by omega) (by omega)
    exact IntMulOk.of_left (intBits_le_64 (by omega) (by omega))
  have u0 := prod (mQ d) (tU d d1) (by omega) (by omega) (sm d1 (by omega)).1
  have u2 := prod (mP d * mP d - 4 * mQ d) (tU d (d2 + 1)) (by omega) (by omega) (sm (d2 + 1) (by omega)).1
  refine ⟨tU d d1, tU d (d1 + 1), tU d (d2 + 1), tU d (d2 + 2), tU d (d1 + d2 + 2), tU d (2 * (d2 + 1)), tU d (Nat.gcd (d1 + 1) (d2 + 1)), tV d (d2 + 1), ?_, eV _ (by omega), c1.1, c1.2, c3.1, c3.2, (sm _ (by omega)).1, (sm _ (by omega)).1, (sm _ (by omega)).2, u0.1, u0.2 _, u2.1, u2.2 _⟩
  simp only [List.map_cons, List.map_nil]
  rw [eU d1 (by omega), eU (d1 + 1) (by omega), eU (d2 + 1) (by omega), eU (d2 + 2) (by omega), eU (d1 + d2 + 2) (by omega), eU (2 * (d2 + 1)) (by omega), eU (Nat.gcd (d1 + 1) (d2 + 1)) (by omega)]
def sgn (B : Int) (p : Nat) : Int := if B.fmod p = 0 then 0 else if (((List.range (p - 1)).map fun i => (((i + 1 : Nat) : Int) * ((i + 1 : Nat) : Int)).fmod p).any (· == B.fmod p)) = true then 1 else -1
structure Facts2 (P Q : Int) (p : Nat) (sg : Int) : Prop where
  le : 3 ≤ p ∧ p ≤ 13
  hs : sgn (P * P - 4 * Q) p = sg
  lo : -1 ≤ sg ∧ sg ≤ 1
  f1 : (numAt P (0 - Q) 0 1 p - sg).fmod p = 0
  f2 : (numAt P (0 - Q) 2 P p - P).fmod p = 0
  f3 : Q.fmod p = 0 ∨ (numAt P (0 - Q) 0 1 ((p : Int) - sg).toNat).fmod p = 0
theorem facts2 {d e : Nat} (h : d < 8) (he : e < 5) : Facts2 (mP d) (mQ d) (mPr e) (sgOf d (mPr e)) := by
  have c := chk2_all d h e he
  simp only [chk2, Bool.and_eq_true, Bool.or_eq_true, decide_eq_true_eq] at c
  have eU : ∀ n, n < 25 → numAt (mP d) (0 - mQ d) 0 1 n = tU d n := fun n hn => nU_tab d h n hn
  have eV : ∀ n, n < 15 → numAt (mP d) (0 - mQ d) 2 (mP d) n = tV d n := fun n hn => nV_tab d h n hn
  have pr : ∀ e, e < 5 → 3 ≤ mPr e ∧ mPr e ≤ 13 := by decide
  have p := pr e he
  have lo : -1 ≤ sgOf d (mPr e) ∧ sgOf d (mPr e) ≤ 1 := by
    unfold sgOf
    split
    · decide
    · split <;> decide
  refine ⟨p, rfl, lo, ?_, ?_, ?_⟩
  · rw [eU _ (by omega)]
    exact c.1.1
  · rw [eV _ (by omega)]
    exact c.1.2
  · rw [eU _ (by omega)]
    exact c.2
end
end Mine
end
-- part LW4
section
open PySem PySem.W PySem.Spec PySem.Calls PyProof.Rows

namespace Mine
theorem drawV_lt {ks : List Int} {k M : Nat} (h : M ≠ 0) : drawV ks k M < M := by
  unfold drawV
  split
  · exact Nat.mod_lt _ (Nat.pos_of_ne_zero h)
  · exact Nat.mod_lt _ (Nat.pos_of_ne_zero h)
theorem tpair {w : World} {A : Around} {Γ : Shared → Prop} {env : Env} {pos : Pos} {kk : Nat} {e f : Expr} {a b : Int} (hm : Mono Γ) (he : Ev PG w A Γ env e (IV a)) (hf : Ev PG w A Γ env f (IV b))
    (hst : starEach [e, f] env = (false, eval e env) :: starEach [f] env) (hst2 : starEach [f] env = (false, eval f env) :: starEach [] env) : Ev PG w A Γ env (.Tuple [e, f] kk pos) (HV (TI [a, b])) :=
  ev_tupI (ks := [a, b]) (evas_cons hm civ_mono he (evas_cons hm civ_mono hf evas_nil hst2) hst) (by show 2 ≤ sizeLine; decide)
theorem keeps_ext {s : Shared} {h' : Heap} (hx : Heap.ExtBut s.heap.objs.size s.heap h') : Keeps s { s with heap := h' } := keeps_heap (keeps_refl s) (fun b o e => hx b o (Nat.ne_of_lt (Heap.lt_size e)) e) s.toks
theorem mP_small : ∀ d, d < 8 → -(2 ^ 50) < mP d ∧ mP d < 2 ^ 50 := by decide
theorem mQ_small : ∀ d, d < 8 → -(2 ^ 50) < mQ d ∧ mQ d < 2 ^ 50 := by decide
def atsOf (d1 d2 : Nat) : List Nat := [d1, d1 + 1, d2 + 1, d2 + 2, d1 + d2 + 2, 2 * (d2 + 1), Nat.gcd (d1 + 1) (d2 + 1)]
theorem ats_le {d1 d2 : Nat} (h1 : d1 < 12) (h2 : d2 < 12) : ∀ n ∈ atsOf d1 d2, n ≤ 24 := by
  intro n hn
  have hg : Nat.gcd (d1 + 1) (d2 + 1) ≤ d1 + 1 := Nat.gcd_le_left _ (Nat.succ_pos _)
  simp only [atsOf, List.mem_cons, List.not_mem_nil, or_false] at hn
  omega
theorem numOk_at : ∀ d, d < 8 → ∀ n, n < 25 → numOk (mP d) (0 - mQ d) n = true := by decide +kernel
def PoolV (ks : List Int) : VP := fun v s s' => ∃ D vc t, v = .ref D ∧ s.heap.get? D = none ∧ s'.heap.IsList D #[vc, .int (0 : Nat) t] ∧ LI ks vc s'.heap ∧ vc ≠ .ref D
theorem ev_pool {w : World} {A : Around} {Γ : Shared → Prop} {env : Env} {pos p2 : Pos} {k2 : Nat} {e : Expr} {ks : List Int} (hm : Mono Γ) (he : Ev PG w A Γ env e (LIV ks))
    (hst : starEach [e, .Constant (.int 0) k2 p2] env = (false, eval e env) :: starEach [.Constant (.int 0) k2 p2] env) : Ev PG w A Γ env (.List [e, .Constant (.int 0) k2 p2] pos) (PoolV ks) := fun s E g => by
  refine wpAny_List (wpAny_items_cons (wpAny_mono (he s E g) (fun v s₁ ⟨k, hv⟩ => wpAny_items_cons (wpAny_mono (ev_int (Γ := Γ) (prog := PG) s₁ _ (hm _ _ g k)) (fun u s₂ ⟨k', t, hu⟩ => wpAny_items_nil ?_) fun _ _ e => e) rfl) (fun _ _ e => e)) hst)
  subst hu
  have k2 := keeps_trans k k'
  refine ⟨(by show 2 ≤ sizeLine; decide), keeps_push k2 _, _, v, t, rfl, get_none_of_keeps k2 (get_none_size _), ⟨_, Heap.get?_push_size _ rfl, rfl, _, rfl⟩, LI.at (hv.keeps k') fun b o e => Heap.get?_push_of_some _ e, ?_⟩
  obtain ⟨l, ws, rfl, ⟨o, ho, _⟩, _⟩ := hv.keeps k'
  intro e
  cases e
  exact absurd (Heap.lt_size ho) (Nat.lt_irrefl _)
set_option maxRecDepth 100000 in
set_option maxHeartbeats 4000000 in
theorem law_spec {w : World} {A : Around} {s : Shared} {E : Value → Shared → Prop} (hA : A.handled = none) (hroom : A.depth + 3 < recursionLimit) (T : Tp w s) {l : Addr} {vs : List Value} {ns : List Int}
    (hl : s.heap.IsList l vs.toArray) (hi : IntsAre vs ns) (hz : ns.length ≤ 63) : wpAny (model PG w) A (call (.ref 60) [.ref l]) (fun v s' => Keeps s s' ∧ v = .bool true) E s := by
  have T' : (Mine.hd.heap_39 w.params).In s.heap := T.1
  refine of_fill ?_
  k_fill
  unfold Fill
  have hns : LI ns (.ref l) s.heap := ⟨l, vs, rfl, hl, hi⟩
  have ho : (Mine.hd.heap_39 w.params).lookup 60 = some (objAt w.params 60) := objAt_get rfl
  refine wpAny_call (codeAny_call_cells (Nat.lt_of_succ_lt (Nat.lt_of_succ_lt (Nat.lt_of_succ_lt hroom))) (T' _ _ ho) rfl T.2.1 (codeRec_of T' ?hcd) rfl (binds := [("script", .ref l)]) ?hbind rfl ?hkind ?_)
  case hcd => exact rfl
  case hbind => exact rfl
  case hkind => intro x hx; simp only [List.mem_cons, List.not_mem_nil, or_false] at hx; exact hx ▸ .inl rfl
  intro s₁ X
  refine wpAny_mono (Q := fun fl s' => Keeps s s' ∧ (match fl with | .ret v => v | _ => .none) = .bool true) ?_ (fun fl s' h => h) (fun _ _ h => h)
  have gc : GC w s _ _ _ _ s₁ := ⟨T, X⟩
  have lk : (ns.take 6).length ≤ 63 := Nat.le_trans (List.length_take_le' ..) hz
  generalize hks : ns.take 6 = ks at lk
  have hroom1 : A.depth + 1 < recursionLimit := Nat.lt_of_succ_lt (Nat.lt_of_succ_lt hroom)
  -- pool
  refine wpAny_execs_cons (wpAny_Assign_Name (wpAny_mono ((?e1 : Ev PG w _ _ _ _ (PoolV ks)) s₁ _ gc) (fun v s₂ h2 => ?_) (fun _ _ e => e)) rfl)
  case e1 =>
    refine ev_pool gc_mono (ev_mono (P := MadeV (ks.map .i)) ?_ (fun v s s' _ h => h.ints)) rfl
    refine ev_comp_local (cl := []) (ws := ks.map CIV) rfl rfl (by decide) rfl (fun _ _ => rfl) (fun _ => rfl) ?_ (by rw [List.length_map, List.length_map]) (by rw [List.length_map]; exact Nat.le_trans lk (by decide)) gc_mono ?_ (fun _ => rfl)
    · rw [← hks]
      refine evit_ints hA (ev_upto (n := 6) (Nat.le_trans hz (by decide)) ?_ (fun _ _ => rfl))
      exact gc_local (fun _ g => g) rfl rfl rfl rfl (fun s' g' => hns.keeps (gc_keeps g'))
    · intro i c d hc hd C
      obtain ⟨k, hk, rfl⟩ := map_get hc
      obtain ⟨k', hk', rfl⟩ := map_get hd
      rw [hk] at hk'
      cases hk'
      show Ev _ _ _ _ _ _ (IV k)
      refine ev_callT1 (P := IV k) (T := "int") (mono_local gc_mono civ_mono) ?_ ?_ (fun v s₀ s E _ _ hv => ?_) (fun _ _ _ _ _ h => h) rfl
      · exact ev_builtin (fun s g => gc_tp _ g.1) rfl rfl rfl rfl rfl (by k_is) (by boot_fast) (by decide)
      · exact ev_local rfl rfl rfl (fun s g => let ⟨_, m, v, hn, h1, h2⟩ := g; ⟨m, v, hn, h1, h2⟩)
      · obtain ⟨t, rfl⟩ := hv
        exact call_int_int ⟨keeps_refl s, t, rfl⟩
  obtain ⟨k₂, D, vc, t0, rfl, hDn₁, hD, hc, hcD⟩ := h2
  have hDn : s.heap.get? D = none := get_none_of_keeps (gc_keeps gc) hDn₁
  have gc₂ := gc_mono _ _ gc k₂
  refine st_local gc₂ rfl rfl fun s₃ lk₃ gc₃ => ?_
  have hD₃ := lk₃.list hD
  have hc₃ := hc.lists lk₃
  -- p, q
  refine wpAny_execs_cons (Assign_Tuple ?_ rfl rfl)
  have d0lt : drawV ks 0 8 < 8 := drawV_lt (by decide)
  generalize hd0 : drawV ks 0 8 = d0 at d0lt
  refine Subscript_ (wpAny_mono ((?e1 : Ev PG w _ _ _ _ (HV (TT menu))) s₃ _ gc₃) (fun v s₄ h4 => ?_) (fun _ _ e => e))
  case e1 =>
    refine ev_tupT (kss := menu) (evas_cons gc_mono ti_mono (tpair gc_mono ev_int (ev_neg ev_int) rfl rfl)
      (evas_cons gc_mono ti_mono (tpair gc_mono ev_int ev_int rfl rfl)
      (evas_cons gc_mono ti_mono (tpair gc_mono ev_int (ev_neg ev_int) rfl rfl)
      (evas_cons gc_mono ti_mono (tpair gc_mono ev_int ev_int rfl rfl)
      (evas_cons gc_mono ti_mono (tpair gc_mono ev_int (ev_neg ev_int) rfl rfl)
      (evas_cons gc_mono ti_mono (tpair gc_mono ev_int ev_int rfl rfl)
      (evas_cons gc_mono ti_mono (tpair gc_mono ev_int ev_int rfl rfl)
      (evas_cons gc_mono ti_mono (tpair gc_mono ev_int (ev_neg ev_int) rfl rfl) evas_nil rfl) rfl) rfl) rfl) rfl) rfl) rfl) rfl) (by show 8 ≤ sizeLine; decide)
  obtain ⟨k₄, hTT⟩ := h4
  have gc₄ := gc_mono _ _ gc₃ k₄
  have hD₄ := isList_at hD₃ fun _ e => keeps_get k₄ e
  have hc₄ := hc₃.keeps k₄
  refine draw_at (M := 8) (k := 0) hA hroom1 gc₄ rfl rfl rfl rfl rfl hDn hD₄ hc₄ hcD (by decide) (Nat.le_trans lk (by decide)) (by decide) fun s₅ t5 u5 k₅ gc₅ hD₅ hc₅ => ?_
  rw [hd0]
  obtain ⟨a5, v5, rfl, ht5, ha5⟩ := hTT.at hD₄ (keep_less k₅)
  obtain ⟨y5, hy5, hTI⟩ := allH_get (i := d0) (k := TI [mP d0, mQ d0]) ha5 (by rw [List.getElem?_map, menu_at d0 d0lt]; rfl)
  refine tup_item ht5 (by omega) (x := y5) (by simpa using hy5) ?_ (fun _ _ => rfl)
  obtain ⟨a6, v6, rfl, ht6, ha6⟩ := hTI
  cases ha6 with
  | cons _ tp ha6 => cases ha6 with
    | cons _ tq ha6 =>
      cases ha6
      refine wpAny_assign_Tuple hA ht6 rfl rfl fun h₆ hx₆ => ?_
      have k₆ := keeps_ext hx₆
      have gc₆ := gc_mono _ _ gc₅ k₆
      refine asg_cons (wpAny_assign_Name (st_local gc₆ rfl rfl fun s₇ lk₇ gc₇ => ?_))
      refine asg_cons (wpAny_assign_Name (st_local gc₇ rfl rfl fun s₈ lk₈ gc₈ => asg_nil ?_))
      have hD₈ := lk₈.list (lk₇.list (isList_at hD₅ fun _ e => keeps_get k₆ e))
      have hc₈ := ((hc₅.keeps k₆).lists lk₇).lists lk₈
      -- m, n, prime
      refine wpAny_execs_cons (Assign_Tuple ?_ rfl rfl)
      have d1lt : drawV ks 1 12 < 12 := drawV_lt (by decide)
      have d2lt : drawV ks 2 12 < 12 := drawV_lt (by decide)
      have d3lt : drawV ks 3 5 < 5 := drawV_lt (by decide)
      generalize hd1 : drawV ks 1 12 = d1 at d1lt
      generalize hd2 : drawV ks 2 12 = d2 at d2lt
      generalize hd3 : drawV ks 3 5 = d3 at d3lt
      refine wpAny_Tuple (wpAny_items_cons (wpAny_BinOp (wpAny_mono (ev_int (prog := PG) (Γ := fun _ => True) s₈ _ trivial) (fun v s₉ ⟨k₉, t9, hv9⟩ => ?_) (fun _ _ e => e))) rfl)
      subst hv9
      have gc₉ := gc_mono _ _ gc₈ k₉
      refine draw_at (M := 12) (k := 1) hA hroom1 gc₉ rfl rfl rfl rfl rfl hDn (isList_at hD₈ fun _ e => keeps_get k₉ e) (hc₈.keeps k₉) hcD (by decide) (Nat.le_trans lk (by decide)) (by decide) fun s₁₀ t10 u10 k₁₀ gc₁₀ hD₁₀ hc₁₀ => ?_
      rw [hd1]
      refine add_int ?_
      have k₁₁ := keeps_tok (keeps_refl s₁₀) (s₁₀.toks + 1)
      have gc₁₁ := gc_mono _ _ gc₁₀ k₁₁
      refine wpAny_items_cons (wpAny_BinOp (wpAny_mono (ev_int (prog := PG) (Γ := fun _ => True) _ _ trivial) (fun v s₁₂ ⟨k₁₂, t12, hv12⟩ => ?_) (fun _ _ e => e))) rfl
      subst hv12
      have gc₁₂ := gc_mono _ _ gc₁₁ k₁₂
      have k₁₃ := keeps_trans k₁₁ k₁₂
      refine draw_at (M := 12) (k := 2) hA hroom1 gc₁₂ rfl rfl rfl rfl rfl hDn (isList_at hD₁₀ fun _ e => keeps_get k₁₃ e) (hc₁₀.keeps k₁₃) hcD (by decide) (Nat.le_trans lk (by decide)) (by decide) fun s₁₄ t14 u14 k₁₄ gc₁₄ hD₁₄ hc₁₄ => ?_
      rw [hd2]
      refine add_int ?_
      have k₁₅ := keeps_tok (keeps_refl s₁₄) (s₁₄.toks + 1)
      have gc₁₅ := gc_mono _ _ gc₁₄ k₁₅
      refine wpAny_items_cons (Subscript_ (wpAny_mono ((?e1 : Ev PG w _ _ _ _ (HV (TI [3, 5, 7, 11, 13]))) _ _ gc₁₅) (fun v s₁₆ h16 => ?_) (fun _ _ e => e))) rfl
      case e1 =>
        exact ev_tupI (ks := [3, 5, 7, 11, 13]) (evas_cons gc_mono civ_mono ev_int (evas_cons gc_mono civ_mono ev_int (evas_cons gc_mono civ_mono ev_int (evas_cons gc_mono civ_mono ev_int (evas_cons gc_mono civ_mono ev_int evas_nil rfl) rfl) rfl) rfl) rfl) (by show 5 ≤ sizeLine; decide)
      obtain ⟨k₁₆, hTP⟩ := h16
      have gc₁₆ := gc_mono _ _ gc₁₅ k₁₆
      have k₁₇ := keeps_trans k₁₅ k₁₆
      have hD₁₆ := isList_at hD₁₄ fun _ e => keeps_get k₁₇ e
      refine draw_at (M := 5) (k := 3) hA hroom1 gc₁₆ rfl rfl rfl rfl rfl hDn hD₁₆ (hc₁₄.keeps k₁₇) hcD (by decide) (Nat.le_trans lk (by decide)) (by decide) fun s₁₈ t18 u18 k₁₈ gc₁₈ hD₁₈ hc₁₈ => ?_
      rw [hd3]
      obtain ⟨a18, v18, rfl, ht18, hi18⟩ := TI.at hTP hD₁₆ (keep_less k₁₈)
      obtain ⟨t19, ht19⟩ := ints_get hi18 (mPr_at d3 d3lt)
      refine tup_item ht18 (by omega) (x := .int ((mPr d3 : Nat) : Int) t19) (by simpa using ht19) ?_ (fun _ _ => rfl)
      refine wpAny_items_nil ⟨(by show 3 ≤ sizeLine; decide), ?_⟩
      generalize hV : ([_, _, _] : List Value) = v20
      have k₂₀ := keeps_push (keeps_refl s₁₈) { cls := .type "tuple", data := .seq v20.toArray }
      have ht20 : (s₁₈.heap.push { cls := .type "tuple", data := .seq v20.toArray }).IsTuple s₁₈.heap.objs.size (List.toArray v20) := ⟨_, Heap.get?_push_size _ rfl, rfl, _, rfl⟩
      generalize hS : ({ s₁₈ with heap := s₁₈.heap.push { cls := .type "tuple", data := .seq v20.toArray } } : Shared) = s₂₀ at *
      have ht20' : s₂₀.heap.IsTuple s₁₈.heap.objs.size (List.toArray v20) := by rw [← hS]; exact ht20
      have gc₂₀ := gc_mono _ _ gc₁₈ k₂₀
      subst hV
      refine wpAny_assign_Tuple hA ht20' rfl rfl fun h₂₁ hx₂₁ => ?_
      have k₂₁ := keeps_ext hx₂₁
      have gc₂₁ := gc_mono _ _ gc₂₀ k₂₁
      refine asg_cons (wpAny_assign_Name (st_local gc₂₁ rfl rfl fun s₂₂ lk₂₂ gc₂₂ => ?_))
      refine asg_cons (wpAny_assign_Name (st_local gc₂₂ rfl rfl fun s₂₃ lk₂₃ gc₂₃ => ?_))
      refine asg_cons (wpAny_assign_Name (st_cell gc₂₃ rfl rfl rfl fun s₂₄ lk₂₄ gc₂₄ => asg_nil ?_))
      -- steps, bent
      refine wpAny_execs_cons (Assign_Tuple ?_ rfl rfl)
      have pS := mP_small d0 d0lt
      have qS := mQ_small d0 d0lt
      have okN : ∀ n, n ≤ 24 → numOk (mP d0) (0 - mQ d0) n = true := fun n hn => numOk_at d0 d0lt n (by omega)
      obtain ⟨x0, x1, x2, x3, x4, x5, x6, V, F1⟩ := facts1 d0lt d1lt d2lt
      have F2 := facts2 d0lt d3lt
      have bS : ∀ d, d < 8 → -(2 ^ 50) < mP d * mP d - 4 * mQ d ∧ mP d * mP d - 4 * mQ d < 2 ^ 50 := by decide
      have bS := bS d0 d0lt
      generalize hsg : sgOf d0 (mPr d3) = sg at F2
      generalize hpp : mPr d3 = pp at *
      generalize hP : mP d0 = P at *
      generalize hQ' : mQ d0 = Q₀ at *
      refine ev_tuple (ks := [LI [P, 0 - Q₀], CIV (P * P - 4 * Q₀)]) (Γ := GC w s _ _ _ _) (evas_cons gc_mono li_mono (ev_list2 gc_mono ?ea ?eb rfl rfl) (evas_cons gc_mono civ_mono (ev_sub gc_mono (ev_mul gc_mono ?ec ?ed ?ee) (ev_mul gc_mono ev_int ?ef ?eg)) evas_nil rfl) rfl) (by show 2 ≤ sizeLine; decide) gc₂₄ (fun t25 vs25 s₂₅ k₂₅ ht25 _ hv25 => ?_) ?eh
      case ea => exact gc_local (fun _ g => g) rfl rfl rfl rfl (fun s' g' => ⟨_, rfl⟩)
      case eb => exact ev_sub gc_mono ev_int (gc_local (fun _ g => g) rfl rfl rfl rfl (fun s' g' => ⟨_, rfl⟩))
      case ec => exact gc_local (fun _ g => g) rfl rfl rfl rfl (fun s' g' => ⟨_, rfl⟩)
      case ed => exact gc_local (fun _ g => g) rfl rfl rfl rfl (fun s' g' => ⟨_, rfl⟩)
      case ee => exact IntMulOk.of_left (intBits_le_64 (by omega) (by omega))
      case ef => exact gc_local (fun _ g => g) rfl rfl rfl rfl (fun s' g' => ⟨_, rfl⟩)
      case eg => exact IntMulOk.of_left (intBits_le_64 (by decide) (by decide))
      case eh =>
        intro k' hk'
        simp only [List.mem_cons, List.not_mem_nil, or_false] at hk'
        exact hk'.elim (fun e => e ▸ li_mono) (fun e => e ▸ civ_mono)
      obtain ⟨vS, vB, rfl, hS25, tB, rfl⟩ := allH2 hv25
      have gc₂₅ := gc_mono _ _ gc₂₄ k₂₅
      refine wpAny_assign_Tuple hA ht25 rfl rfl fun h₂₆ hx₂₆ => ?_
      have k₂₆ := keeps_ext hx₂₆
      have gc₂₆ := gc_mono _ _ gc₂₅ k₂₆
      refine asg_cons (wpAny_assign_Name (st_cell gc₂₆ rfl rfl rfl fun s₂₇ lk₂₇ gc₂₇ => ?_))
      refine asg_cons (wpAny_assign_Name (st_local gc₂₇ rfl rfl fun s₂₈ lk₂₈ gc₂₈ => asg_nil ?_))
      have hS₂₈ := ((hS25.keeps k₂₆).lists lk₂₇).lists lk₂₈
      have atL := ats_le d1lt d2lt
      -- u
      have G₁ : G2 (GC w s _ _ _ _) (LI [P, 0 - Q₀] vS) (LI [P, 0 - Q₀] vS) s₂₈ := ⟨gc₂₈, hS₂₈, hS₂₈⟩
      refine wpAny_execs_cons (ex_comp_local (Γ := G2 (GC w s _ _ _ _) (LI [P, 0 - Q₀] vS) (LI [P, 0 - Q₀] vS)) (ws := ((atsOf d1 d2).map fun n => ((n : Nat) : Int)).map CIV) (ks := (atsOf d1 d2).map fun n => numAt P (0 - Q₀) 0 1 n) (cl := _) rfl rfl rfl (by decide) rfl (fun _ _ => rfl) (fun _ => rfl) rfl rfl ?_ rfl (by show 7 ≤ sizeLine; decide) (li2_mono gc_mono) (fun _ g => g.1) ?_ (fun _ => rfl) G₁ (fun D₃ s₂₉ lk₂₉ hU gc₂₉ => ?_))
      · show EvIt _ _ _ _ _ _ (([((d1 : Nat) : Int), ((d1 + 1 : Nat) : Int), ((d2 + 1 : Nat) : Int), ((d2 + 2 : Nat) : Int), ((d1 + d2 + 2 : Nat) : Int), ((2 * (d2 + 1) : Nat) : Int), ((Nat.gcd (d1 + 1) (d2 + 1) : Nat) : Int)] : List Int).map CIV)
        refine evit_tup hA ?_ (by show 7 ≤ sizeLine; decide)
        refine evas_cons (li2_mono gc_mono) civ_mono (ev_cast (a := 1 + ((d1 : Nat) : Int) - 1) (by omega) (ev_sub (li2_mono gc_mono) ?_ ev_int)) (evas_cons (li2_mono gc_mono) civ_mono (ev_cast (a := 1 + ((d1 : Nat) : Int)) (by omega) ?_)
          (evas_cons (li2_mono gc_mono) civ_mono (ev_cast (a := 1 + ((d2 : Nat) : Int)) (by omega) ?_) (evas_cons (li2_mono gc_mono) civ_mono (ev_cast (a := 1 + ((d2 : Nat) : Int) + 1) (by omega) (ev_add (li2_mono gc_mono) ?_ ev_int))
          (evas_cons (li2_mono gc_mono) civ_mono (ev_cast (a := (1 + ((d1 : Nat) : Int)) + (1 + ((d2 : Nat) : Int))) (by omega) (ev_add (li2_mono gc_mono) ?_ ?_)) (evas_cons (li2_mono gc_mono) civ_mono (ev_cast (a := 2 * (1 + ((d2 : Nat) : Int))) (by omega) (ev_mul (li2_mono gc_mono) ev_int ?_ (IntMulOk.of_left (intBits_le_64 (by decide) (by decide)))))
          (evas_cons (li2_mono gc_mono) civ_mono (ev_callF (a := 48) (ks := [CIV (1 + ((d1 : Nat) : Int)), CIV (1 + ((d2 : Nat) : Int))]) (li2_mono gc_mono) (fun s g => gc_tp _ g.1) ?_ (by k_is) (evas_cons (li2_mono gc_mono) civ_mono ?_ (evas_cons (li2_mono gc_mono) civ_mono ?_ evas_nil rfl) rfl) ?_ rfl (fun _ => rfl)) evas_nil rfl) rfl) rfl) rfl) rfl) rfl) rfl
        · exact gc_local (fun _ g => g.1) rfl rfl rfl rfl (fun s' g' => ⟨_, rfl⟩)
        · exact gc_local (fun _ g => g.1) rfl rfl rfl rfl (fun s' g' => ⟨_, rfl⟩)
        · exact gc_local (fun _ g => g.1) rfl rfl rfl rfl (fun s' g' => ⟨_, rfl⟩)
        · exact gc_local (fun _ g => g.1) rfl rfl rfl rfl (fun s' g' => ⟨_, rfl⟩)
        · exact gc_local (fun _ g => g.1) rfl rfl rfl rfl (fun s' g' => ⟨_, rfl⟩)
        · exact gc_local (fun _ g => g.1) rfl rfl rfl rfl (fun s' g' => ⟨_, rfl⟩)
        · exact gc_local (fun _ g => g.1) rfl rfl rfl rfl (fun s' g' => ⟨_, rfl⟩)
        · exact ev_global (fun s g => gc_tp _ g.1) rfl rfl rfl rfl (by k_is)
        · exact gc_local (fun _ g => g.1) rfl rfl rfl rfl (fun s' g' => ⟨_, rfl⟩)
        · exact gc_local (fun _ g => g.1) rfl rfl rfl rfl (fun s' g' => ⟨_, rfl⟩)
        · rintro s E vs g hvs
          obtain ⟨v, u, rfl, ⟨t, rfl⟩, t', rfl⟩ := allH2 hvs
          have e : Nat.gcd (d1 + 1) (d2 + 1) = Nat.gcd (1 + ((d1 : Nat) : Int)).natAbs (1 + ((d2 : Nat) : Int)).natAbs := by
            rw [show (1 + ((d1 : Nat) : Int)).natAbs = d1 + 1 by omega, show (1 + ((d2 : Nat) : Int)).natAbs = d2 + 1 by omega]
          rw [e]
          exact gcd_spec (A := A.deeper _) hA hroom1 (gc_tp _ g.1)
      · intro i c k hc hk C
        obtain ⟨n', hn', rfl⟩ := map_get hc
        obtain ⟨n, hn, rfl⟩ := map_get hn'
        obtain ⟨n2, hn2, rfl⟩ := map_get hk
        rw [hn] at hn2
        cases hn2
        have le := atL n (List.mem_of_getElem? hn)
        show Ev _ _ _ _ _ _ (HV (CIV (numAt P (0 - Q₀) 0 1 n)))
        refine ev_callF (a := 41) (ks := [LI [P, 0 - Q₀], LI [0, 1], CIV n]) (mono_local (li2_mono gc_mono) civ_mono) (fun s g => gc_tp _ g.1.1) ?_ (by k_is) (evas_cons (mono_local (li2_mono gc_mono) civ_mono) li_mono ?_ (evas_cons (mono_local (li2_mono gc_mono) civ_mono) li_mono (ev_list2 (mono_local (li2_mono gc_mono) civ_mono) ev_int ev_int rfl rfl) (evas_cons (mono_local (li2_mono gc_mono) civ_mono) civ_mono ?_ evas_nil rfl) rfl) rfl) ?_ rfl (fun _ => rfl)
        · exact ev_global (fun s g => gc_tp _ g.1.1) rfl rfl rfl rfl (by k_is)
        · exact ev_cell rfl rfl rfl rfl (fun s g => ⟨vS, gc_isCell g.1.1 (Str.ofString "steps") rfl rfl, g.1.2.1⟩)
        · exact ev_local rfl rfl rfl (fun s g => let ⟨_, m, v, hn, h1, h2⟩ := g; ⟨m, v, hn, h1, h2⟩)
        · rintro s E vs g hvs
          obtain ⟨v, u, x, rfl, hv, hu, t, rfl⟩ := allH3 hvs
          exact number_at_spec (A := A.deeper _) hA hroom (gc_tp _ g.1.1) hv hu (by omega) (okN n le)
      · have hU' : LI [x0, x1, x2, x3, x4, x5, x6] (.ref D₃) s₂₉.heap := F1.us ▸ hU
        have G₂ : G2 (GC w s _ _ _ _) (LI [P, 0 - Q₀] vS) (LI [x0, x1, x2, x3, x4, x5, x6] (.ref D₃)) s₂₉ := ⟨gc₂₉, hS₂₈.lists lk₂₉, hU'⟩
        -- the first ask
        refine wpAny_execs_cons (if_or_same (Γ := G2 (GC w s _ _ _ _) (LI [P, 0 - Q₀] vS) (LI [x0, x1, x2, x3, x4, x5, x6] (.ref D₃))) (a := ((Nat.gcd x1.natAbs x2.natAbs : Nat) : Int)) (b := x4) (li2_mono gc_mono) ?_ ?_ ?_ ?_ rfl rfl G₂ fun s₃₀ k₃₀ => ?_)
        · refine ev_gcd hA hroom1 (li2_mono gc_mono) (fun s g => gc_tp _ g.1) rfl rfl rfl (ev_item (ks := [x0, x1, x2, x3, x4, x5, x6]) (k := 1) (li2_mono gc_mono) ?_ ev_int (by decide) (by decide) rfl (fun _ _ => rfl)) (ev_item (ks := [x0, x1, x2, x3, x4, x5, x6]) (k := 2) (li2_mono gc_mono) ?_ ev_int (by decide) (by decide) rfl (fun _ _ => rfl)) rfl rfl (fun _ => rfl)
          · exact gc_local (fun _ g => g.1) rfl rfl rfl rfl (fun s' g' => g'.2.2)
          · exact gc_local (fun _ g => g.1) rfl rfl rfl rfl (fun s' g' => g'.2.2)
        · rw [F1.f1]
          refine ev_abs (li2_mono gc_mono) ?_ (ev_item (ks := [x0, x1, x2, x3, x4, x5, x6]) (k := 6) (li2_mono gc_mono) ?_ ev_int (by decide) (by decide) rfl (fun _ _ => rfl)) rfl
          · exact ev_builtin (fun s g => gc_tp _ g.1) rfl rfl rfl rfl rfl (by k_is) (by boot_fast) (by decide)
          · exact gc_local (fun _ g => g.1) rfl rfl rfl rfl (fun s' g' => g'.2.2)
        · refine ev_item (ks := [x0, x1, x2, x3, x4, x5, x6]) (k := 4) (li2_mono gc_mono) ?_ ev_int (by decide) (by decide) rfl (fun _ _ => rfl)
          exact gc_local (fun _ g => g.1) rfl rfl rfl rfl (fun s' g' => g'.2.2)
        · refine ev_cast F1.f2.symm (ev_sub (li2_mono gc_mono) (ev_mul (li2_mono gc_mono) (ev_item (ks := [x0, x1, x2, x3, x4, x5, x6]) (k := 1) (li2_mono gc_mono) ?_ ev_int (by decide) (by decide) rfl (fun _ _ => rfl)) (ev_item (ks := [x0, x1, x2, x3, x4, x5, x6]) (k := 3) (li2_mono gc_mono) ?_ ev_int (by decide) (by decide) rfl (fun _ _ => rfl)) (small_mul F1.s1))
            (ev_mul (li2_mono gc_mono) (ev_mul (li2_mono gc_mono) ?_ (ev_item (ks := [x0, x1, x2, x3, x4, x5, x6]) (k := 0) (li2_mono gc_mono) ?_ ev_int (by decide) (by decide) rfl (fun _ _ => rfl)) F1.s4) (ev_item (ks := [x0, x1, x2, x3, x4, x5, x6]) (k := 2) (li2_mono gc_mono) ?_ ev_int (by decide) (by decide) rfl (fun _ _ => rfl)) F1.s5))
          · exact gc_local (fun _ g => g.1) rfl rfl rfl rfl (fun s' g' => g'.2.2)
          · exact gc_local (fun _ g => g.1) rfl rfl rfl rfl (fun s' g' => g'.2.2)
          · exact gc_local (fun _ g => g.1) rfl rfl rfl rfl (fun s' g' => ⟨_, rfl⟩)
          · exact gc_local (fun _ g => g.1) rfl rfl rfl rfl (fun s' g' => g'.2.2)
          · exact gc_local (fun _ g => g.1) rfl rfl rfl rfl (fun s' g' => g'.2.2)
        have G₃₀ := li2_mono gc_mono _ _ G₂ k₃₀
        -- v
        refine wpAny_execs_cons (wpAny_Assign_Name (wpAny_mono ((?e1 : Ev PG w _ (G2 (GC w s _ _ _ _) (LI [P, 0 - Q₀] vS) (LI [x0, x1, x2, x3, x4, x5, x6] (.ref D₃))) _ _ (IV V)) s₃₀ _ G₃₀) (fun v s₃₁ h31 => ?_) (fun _ _ e => e)) rfl)
        case e1 =>
          refine ev_cast F1.hV (ev_numat hA hroom (li2_mono gc_mono) (fun s g => gc_tp _ g.1) rfl rfl rfl ?_ (ev_list2 (li2_mono gc_mono) ev_int ?_ rfl rfl) (ev_cast (a := 1 + ((d2 : Nat) : Int)) (by omega) ?_) (by omega) (okN _ (by omega)) rfl rfl rfl (fun _ => rfl))
          · exact gc_cell (fun _ g => g.1) rfl rfl rfl rfl rfl (fun s' g' => g'.2.1)
          · exact gc_local (fun _ g => g.1) rfl rfl rfl rfl (fun s' g' => ⟨_, rfl⟩)
          · exact gc_local (fun _ g => g.1) rfl rfl rfl rfl (fun s' g' => ⟨_, rfl⟩)
        obtain ⟨k₃₁, tV, rfl⟩ := h31
        have G₃₁ := li2_mono gc_mono _ _ G₃₀ k₃₁
        refine st_local G₃₁.1 rfl rfl fun s₃₂ lk₃₂ gc₃₂ => ?_
        have G₃₂ : G2 (GC w s _ _ _ _) (LI [P, 0 - Q₀] vS) (LI [x0, x1, x2, x3, x4, x5, x6] (.ref D₃)) s₃₂ := ⟨gc₃₂, G₃₁.2.1.lists lk₃₂, G₃₁.2.2.lists lk₃₂⟩
        -- the second ask
        refine wpAny_execs_cons (if_or_same (Γ := G2 (GC w s _ _ _ _) (LI [P, 0 - Q₀] vS) (LI [x0, x1, x2, x3, x4, x5, x6] (.ref D₃))) (a := x5) (b := 4 * Q₀ ^ (d2 + 1)) (li2_mono gc_mono) ?_ ?_ ?_ ?_ rfl rfl G₃₂ fun s₃₃ k₃₃ => ?_)
        · refine ev_item (ks := [x0, x1, x2, x3, x4, x5, x6]) (k := 5) (li2_mono gc_mono) ?_ ev_int (by decide) (by decide) rfl (fun _ _ => rfl)
          exact gc_local (fun _ g => g.1) rfl rfl rfl rfl (fun s' g' => g'.2.2)
        · refine ev_cast F1.f3.symm (ev_mul (li2_mono gc_mono) (ev_item (ks := [x0, x1, x2, x3, x4, x5, x6]) (k := 2) (li2_mono gc_mono) ?_ ev_int (by decide) (by decide) rfl (fun _ _ => rfl)) ?_ (small_mul F1.s2))
          · exact gc_local (fun _ g => g.1) rfl rfl rfl rfl (fun s' g' => g'.2.2)
          · exact gc_local (fun _ g => g.1) rfl rfl rfl rfl (fun s' g' => ⟨_, rfl⟩)
        · refine ev_cast F1.f4 (ev_sub (li2_mono gc_mono) (ev_mul (li2_mono gc_mono) ?_ ?_ (small_mul F1.s3)) (ev_mul (li2_mono gc_mono) (ev_mul (li2_mono gc_mono) ?_ (ev_item (ks := [x0, x1, x2, x3, x4, x5, x6]) (k := 2) (li2_mono gc_mono) ?_ ev_int (by decide) (by decide) rfl (fun _ _ => rfl)) F1.s6) (ev_item (ks := [x0, x1, x2, x3, x4, x5, x6]) (k := 2) (li2_mono gc_mono) ?_ ev_int (by decide) (by decide) rfl (fun _ _ => rfl)) F1.s7))
          · exact gc_local (fun _ g => g.1) rfl rfl rfl rfl (fun s' g' => ⟨_, rfl⟩)
          · exact gc_local (fun _ g => g.1) rfl rfl rfl rfl (fun s' g' => ⟨_, rfl⟩)
          · exact gc_local (fun _ g => g.1) rfl rfl rfl rfl (fun s' g' => ⟨_, rfl⟩)
          · exact gc_local (fun _ g => g.1) rfl rfl rfl rfl (fun s' g' => g'.2.2)
          · exact gc_local (fun _ g => g.1) rfl rfl rfl rfl (fun s' g' => g'.2.2)
        · refine ev_mul (li2_mono gc_mono) ev_int (ev_pow (n := d2 + 1) (li2_mono gc_mono) ?_ (ev_cast (a := 1 + ((d2 : Nat) : Int)) (by omega) ?_) (pow_small qS (by omega))) (IntMulOk.of_left (intBits_le_64 (by decide) (by decide)))
          · exact gc_local (fun _ g => g.1) rfl rfl rfl rfl (fun s' g' => ⟨_, rfl⟩)
          · exact gc_local (fun _ g => g.1) rfl rfl rfl rfl (fun s' g' => ⟨_, rfl⟩)
        have G₃₃ := li2_mono gc_mono _ _ G₃₂ k₃₃
        -- sign = 0
        refine wpAny_execs_cons (wpAny_Assign_Name (wpAny_mono (ev_int (prog := PG) (Γ := fun _ => True) s₃₃ _ trivial) (fun v s₃₄ h34 => ?_) (fun _ _ e => e)) rfl)
        obtain ⟨k₃₄, tZ, rfl⟩ := h34
        have G₃₄ := li2_mono gc_mono _ _ G₃₃ k₃₄
        refine st_local G₃₄.1 rfl rfl fun s₃₅ lk₃₅ gc₃₅ => ?_
        have G₃₅ : G2 (GC w s _ _ _ _) (LI [P, 0 - Q₀] vS) (LI [x0, x1, x2, x3, x4, x5, x6] (.ref D₃)) s₃₅ := ⟨gc₃₅, G₃₄.2.1.lists lk₃₅, G₃₄.2.2.lists lk₃₅⟩
        -- the sign
        have pne : ((pp : Nat) : Int) ≠ 0 := by have := F2.le; omega
        refine wpAny_execs_cons (wpAny_mono (Q := SignQ G₃₄.1 sg (fun h => LI [P, 0 - Q₀] vS h ∧ LI [x0, x1, x2, x3, x4, x5, x6] (.ref D₃) h)) ?_ (fun fl s₃₆ h36 => ?_) (fun _ _ e => e))
        · by_cases hB : (P * P - 4 * Q₀).fmod pp = 0
          · have hsg0 : sg = 0 := by
              rw [← F2.hs]
              unfold sgn
              rw [if_pos hB]
            refine wpAny_If (tr_ne_same (Γ := G2 (GC w s _ _ _ _) (LI [P, 0 - Q₀] vS) (LI [x0, x1, x2, x3, x4, x5, x6] (.ref D₃))) (a := 0) (li2_mono gc_mono) (ev_cast hB (ev_mod (li2_mono gc_mono) ?_ ?_ pne)) ev_int rfl G₃₅ fun s₃₆ k₃₆ => ?_)
            · exact gc_local (fun _ g => g.1) rfl rfl rfl rfl (fun s' g' => ⟨_, rfl⟩)
            · exact gc_cell (fun _ g => g.1) rfl rfl rfl rfl rfl (fun s' g' => ⟨_, rfl⟩)
            have G₃₆ := li2_mono gc_mono _ _ G₃₅ k₃₆
            rw [if_neg (by decide)]
            refine wpAny_execs_nil ⟨rfl, ⟨tZ, ?_⟩, G₃₆.2⟩
            rw [hsg0]
            exact G₃₆.1
          · refine wpAny_If (tr_ne_diff (Γ := G2 (GC w s _ _ _ _) (LI [P, 0 - Q₀] vS) (LI [x0, x1, x2, x3, x4, x5, x6] (.ref D₃))) hB (li2_mono gc_mono) (ev_mod (li2_mono gc_mono) ?_ ?_ pne) ev_int rfl G₃₅ fun s₃₆ k₃₆ => ?_)
            · exact gc_local (fun _ g => g.1) rfl rfl rfl rfl (fun s' g' => ⟨_, rfl⟩)
            · exact gc_cell (fun _ g => g.1) rfl rfl rfl rfl rfl (fun s' g' => ⟨_, rfl⟩)
            have G₃₆ := li2_mono gc_mono _ _ G₃₅ k₃₆
            rw [if_pos rfl]
            refine wpAny_execs_cons (wpAny_Assign_Name (wpAny_mono ((?e1 : Ev PG w _ (G2 (GC w s _ _ _ _) (LI [P, 0 - Q₀] vS) (LI [x0, x1, x2, x3, x4, x5, x6] (.ref D₃))) _ _ (IV sg)) s₃₆ _ G₃₆) (fun v s₃₇ h37 => ?_) (fun _ _ e => e)) rfl)
            case e1 =>
              refine ev_ifin (a := (P * P - 4 * Q₀).fmod pp) (ks := (List.range (pp - 1)).map fun (i : Nat) => (((i + 1 : Nat) : Int) * ((i + 1 : Nat) : Int)).fmod pp) (li2_mono gc_mono) (ev_mod (li2_mono gc_mono) ?_ ?_ pne) ?_ rfl (fun hb => ?_) (fun hb => ?_)
              · exact gc_local (fun _ g => g.1) rfl rfl rfl rfl (fun s' g' => ⟨_, rfl⟩)
              · exact gc_cell (fun _ g => g.1) rfl rfl rfl rfl rfl (fun s' g' => ⟨_, rfl⟩)
              · refine ev_mono (P := MadeV (((List.range (pp - 1)).map fun (i : Nat) => (((i + 1 : Nat) : Int) * ((i + 1 : Nat) : Int)).fmod pp).map .i)) ?_ (fun v s s' _ h => h.ints)
                refine ev_comp_local (cl := _) (ws := (List.range (pp - 1)).map fun (i : Nat) => CIV ((i + 1 : Nat) : Int)) rfl rfl (by decide) rfl (fun _ _ => rfl) (fun _ => rfl) (evit_range2 hA (li2_mono gc_mono) ?_ ev_int (ev_cast (a := ((pp : Nat) : Int)) (by have := F2.le; omega) ?_) (by have := F2.le; omega) rfl rfl (fun _ => rfl)) (by simp only [List.length_map]) (by simp only [List.length_map, List.length_range]; have := F2.le; exact Nat.le_trans (show pp - 1 ≤ 13 by omega) (by decide)) (li2_mono gc_mono) ?_ (fun _ => rfl)
                · exact ev_builtin (fun s g => gc_tp _ g.1) rfl rfl rfl rfl rfl (by k_is) (by boot_fast) (by decide)
                · exact gc_cell (fun _ g => g.1) rfl rfl rfl rfl rfl (fun s' g' => ⟨_, rfl⟩)
                · intro i c d hc hd C
                  obtain ⟨j, hj, rfl⟩ := map_get hc
                  obtain ⟨j', hj', rfl⟩ := map_get hd
                  obtain ⟨j2, hj2, rfl⟩ := map_get hj'
                  rw [hj] at hj2
                  cases hj2
                  have hjl : j < pp - 1 := List.mem_range.mp (List.mem_of_getElem? hj)
                  have hle := F2.le
                  show Ev _ _ _ _ _ _ (IV _)
                  refine ev_mod (mono_local (li2_mono gc_mono) civ_mono) (ev_mul (mono_local (li2_mono gc_mono) civ_mono) ?_ ?_ (IntMulOk.of_left (intBits_le_64 (by omega) (by omega)))) ?_ pne
                  · exact ev_local rfl rfl rfl (fun s g => let ⟨_, m, v, hn, h1, h2⟩ := g; ⟨m, v, hn, h1, h2⟩)
                  · exact ev_local rfl rfl rfl (fun s g => let ⟨_, m, v, hn, h1, h2⟩ := g; ⟨m, v, hn, h1, h2⟩)
                  · exact ev_cell rfl rfl rfl rfl (fun s g => ⟨_, gc_isCell g.1.1 (Str.ofString "prime") rfl rfl, _, rfl⟩)
              · have e1 : sg = 1 := by
                  rw [← F2.hs]
                  unfold sgn
                  rw [if_neg hB, if_pos hb]
                exact ev_cast e1.symm ev_int
              · have e1 : sg = -1 := by
                  rw [← F2.hs]
                  unfold sgn
                  rw [if_neg hB, if_neg (by rw [hb]; decide)]
                exact ev_cast e1.symm (ev_neg ev_int)
            obtain ⟨k₃₇, tS, rfl⟩ := h37
            have G₃₇ := li2_mono gc_mono _ _ G₃₆ k₃₇
            refine st_local G₃₇.1 rfl rfl fun s₃₈ lk₃₈ gc₃₈ => ?_
            exact wpAny_execs_nil ⟨rfl, ⟨tS, gc_upd gc₃₈⟩, G₃₇.2.1.lists lk₃₈, G₃₇.2.2.lists lk₃₈⟩
        · obtain ⟨rfl, ⟨tk, gc₃₆⟩, hS₃₆, hU₃₆⟩ := h36
          have G₃₆ : G2 (GC w s _ _ _ _) (LI [P, 0 - Q₀] vS) (LI [x0, x1, x2, x3, x4, x5, x6] (.ref D₃)) s₃₆ := ⟨gc₃₆, hS₃₆, hU₃₆⟩
          -- the third ask
          refine wpAny_execs_cons (if_or_same (Γ := G2 (GC w s _ _ _ _) (LI [P, 0 - Q₀] vS) (LI [x0, x1, x2, x3, x4, x5, x6] (.ref D₃))) (a := 0) (b := 0) (li2_mono gc_mono) ?_ ev_int ?_ ev_int rfl rfl G₃₆ fun s₃₇ k₃₇ => ?_)
          · refine ev_cast F2.f1 (ev_mod (li2_mono gc_mono) (ev_sub (li2_mono gc_mono) (ev_numat (n := pp) hA hroom (li2_mono gc_mono) (fun s g => gc_tp _ g.1) rfl rfl rfl ?_ (ev_list2 (li2_mono gc_mono) ev_int ev_int rfl rfl) ?_ (by have := F2.le; omega) (okN _ (by have := F2.le; omega)) rfl rfl rfl (fun _ => rfl)) ?_) ?_ pne)
            · exact gc_cell (fun _ g => g.1) rfl rfl rfl rfl rfl (fun s' g' => g'.2.1)
            · exact gc_cell (fun _ g => g.1) rfl rfl rfl rfl rfl (fun s' g' => ⟨_, rfl⟩)
            · exact gc_local (fun _ g => g.1) rfl rfl rfl rfl (fun s' g' => ⟨_, rfl⟩)
            · exact gc_cell (fun _ g => g.1) rfl rfl rfl rfl rfl (fun s' g' => ⟨_, rfl⟩)
          · refine ev_cast F2.f2 (ev_mod (li2_mono gc_mono) (ev_sub (li2_mono gc_mono) (ev_numat (n := pp) hA hroom (li2_mono gc_mono) (fun s g => gc_tp _ g.1) rfl rfl rfl ?_ (ev_list2 (li2_mono gc_mono) ev_int ?_ rfl rfl) ?_ (by have := F2.le; omega) (okN _ (by have := F2.le; omega)) rfl rfl rfl (fun _ => rfl)) ?_) ?_ pne)
            · exact gc_cell (fun _ g => g.1) rfl rfl rfl rfl rfl (fun s' g' => g'.2.1)
            · exact gc_local (fun _ g => g.1) rfl rfl rfl rfl (fun s' g' => ⟨_, rfl⟩)
            · exact gc_cell (fun _ g => g.1) rfl rfl rfl rfl rfl (fun s' g' => ⟨_, rfl⟩)
            · exact gc_local (fun _ g => g.1) rfl rfl rfl rfl (fun s' g' => ⟨_, rfl⟩)
            · exact gc_cell (fun _ g => g.1) rfl rfl rfl rfl rfl (fun s' g' => ⟨_, rfl⟩)
          have G₃₇ := li2_mono gc_mono _ _ G₃₆ k₃₇
          -- the answer
          refine wpAny_execs_cons (wpAny_Return_some (wpAny_mono ((?e1 : Ev PG w _ (G2 (GC w s _ _ _ _) (LI [P, 0 - Q₀] vS) (LI [x0, x1, x2, x3, x4, x5, x6] (.ref D₃))) _ _ (IsV (.bool true))) s₃₇ _ G₃₇) (fun v s₃₈ h38 => ?_) (fun _ _ e => e)))
          case e1 =>
            refine ev_or2 (b := (Q₀.fmod pp == 0)) (c := ((numAt P (0 - Q₀) 0 1 ((pp : Int) - sg).toNat).fmod pp == 0)) (li2_mono gc_mono) (ev_eq (li2_mono gc_mono) (ev_mod (li2_mono gc_mono) ?_ ?_ pne) ev_int rfl)
              (ev_eq (li2_mono gc_mono) (ev_mod (li2_mono gc_mono) (ev_numat (n := ((pp : Int) - sg).toNat) hA hroom (li2_mono gc_mono) (fun s g => gc_tp _ g.1) rfl rfl rfl ?_ (ev_list2 (li2_mono gc_mono) ev_int ev_int rfl rfl) (ev_cast (a := (pp : Int) - sg) (by have := F2.le; have := F2.lo; omega) (ev_sub (li2_mono gc_mono) ?_ ?_)) (by have := F2.le; have := F2.lo; omega) (okN _ (by have := F2.le; have := F2.lo; omega)) rfl rfl rfl (fun _ => rfl)) ?_ pne) ev_int rfl) ?_
            · exact gc_local (fun _ g => g.1) rfl rfl rfl rfl (fun s' g' => ⟨_, rfl⟩)
            · exact gc_cell (fun _ g => g.1) rfl rfl rfl rfl rfl (fun s' g' => ⟨_, rfl⟩)
            · exact gc_cell (fun _ g => g.1) rfl rfl rfl rfl rfl (fun s' g' => g'.2.1)
            · exact gc_cell (fun _ g => g.1) rfl rfl rfl rfl rfl (fun s' g' => ⟨_, rfl⟩)
            · exact gc_local (fun _ g => g.1) rfl rfl rfl rfl (fun s' g' => ⟨_, rfl⟩)
            · exact gc_cell (fun _ g => g.1) rfl rfl rfl rfl rfl (fun s' g' => ⟨_, rfl⟩)
            · exact F2.f3.imp (fun e => by rw [e]; rfl) (fun e => by rw [e]; rfl)
          obtain ⟨k₃₈, rfl⟩ := h38
          exact ⟨keeps_trans (gc_keeps G₃₇.1) k₃₈, rfl⟩
end Mine
end
-- part W5
open PySem PySem.W PySem.W.X PySem.Spec PySem.Calls PyProof.Rows
set_option maxRecDepth 100000 in
set_option maxHeartbeats 8000000 in
theorem PySem.Challenge.cw_sa0073_01_holds : PySem.Challenge.rw_sa0073_01.Holds := by
  refine Mine.hd ?_
  k_fill
  intro w s₀ s₁ mg mb G Y fa o pm cd doc dV kV ho hd hcd hD hmg hg args vals as hpre hlay hrd hwl hlo
  have KX := kIn_of Y
  refine Ground.open G ?_
  intro T B D TE TW
  wrow_args hpre hlay hrd hwl hlo
  x_fa T KX hmg
  have TP : Mine.Tp w s₁ := ⟨KX, T.nolimit, mg, mb, T.g, T.b, T.builtins⟩
  rename_i ns _ _ _ _ _ _ _ l vs _ hL ra w1 r0 hI hr hc1 hc2
  refine wpAny_mono (Mine.law_spec (A := callerA) rfl (by decide) TP hL hI (by omega)) (fun v s' h => ?_) (fun _ _ h => h)
  obtain ⟨⟨h', tk, rfl, hk⟩, rfl⟩ := h
  refine ⟨.inl ⟨_, _, [], rfl, ?_, ReadsW.bool true, ?_, fun _ => ⟨List.nodup_nil, fun _ hm => (nomatch hm)⟩⟩, ?_, rfl, ?_⟩
  · intro cls
    rfl
  · first | rfl | wrow_post
  · exact ⟨fun b o e => .inl (hk b o e), fun b o e => ⟨o, hk b o e⟩⟩
  · rw [hg]
    exact AllBare.empty
