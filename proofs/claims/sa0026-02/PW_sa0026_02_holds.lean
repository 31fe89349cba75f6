import PyProof.Rows.All
import Wide.All
import OpenK.AllK
import Wide.FinOn
import PySem.Challenge.RW_sa0026_02
open PySem PySem.W PyProof.Rows PySem.Calls
set_option Elab.async false
set_option linter.unusedVariables false
set_option linter.unusedSimpArgs false
set_option maxRecDepth 100000
set_option maxHeartbeats 8000000
namespace Mine
theorem and3 {a b c d : Prop} (h : a ∧ b ∧ c) (f : a → b → c → d) : d := f h.1 h.2.1 h.2.2
theorem and2 {a b d : Prop} (h : a ∧ b) (f : a → b → d) : d := f h.1 h.2
theorem ex2 {α : Type} {p q : α → Prop} {d : Prop} (h : ∃ o, p o ∧ q o) (f : ∀ o, p o → q o → d) : d := match h with | ⟨o, a, b⟩ => f o a b

inductive V where
  | none | bool (b : Bool) | int (i : Int) | str (x : Str)
  | tup (xs : List V) | lst (xs : List V) | dct (kvs : List (V × V))
  | self (ops : V)
  | tray
  | any
  | oL (xs : List V) | oD (kvs : List (V × V))

noncomputable def NoE : Value → Shared → Prop := fun _ _ => False

structure Cx where
  prog : Program
  w : World
  Base : Heap → Prop
  T : Option Addr
  bag : Addr
  cells : List V
  k1 : Str
  k2 : Str
  K : Frag
  kin : ∀ h, Base h → K.In h
  nolim : ∀ h, Base h → h.NoLimit
  big : ∀ h, Base h → ∃ b o, sysModules < b ∧ h.get? b = some o
  mono : ∀ h h', Base h → (∀ b o, h.get? b = some o → h'.get? b = some o) → Base h'

noncomputable def Sub (h h' : Heap) : Prop := ∀ b o, h.get? b = some o → h'.get? b = some o
theorem Sub.trans {a b c : Heap} (x : Sub a b) (y : Sub b c) : Sub a c := fun _ _ e => y _ _ (x _ _ e)

noncomputable def hid (h : Heap) (M : List Addr) : Heap := hideAll h M
theorem hid_sub (h : Heap) (M : List Addr) : Sub (hid h M) h := fun _ _ e => of_hideAll M e
theorem hid_get {h : Heap} {M : List Addr} {b : Addr} {o : Obj} (e : h.get? b = some o) (n : b ∉ M) : (hid h M).get? b = some o := hideAll_get M e n
theorem hid_not {h : Heap} {M : List Addr} {b : Addr} {o : Obj} (e : (hid h M).get? b = some o) : b ∉ M := fun q => by
  rw [hid, hideAll_none M q] at e; cases e
theorem hid_up {h h' : Heap} {M M' : List Addr} (k : ∀ b o, b ∉ M → h.get? b = some o → h'.get? b = some o) (m : ∀ b o, b ∉ M → h.get? b = some o → b ∉ M') : Sub (hid h M) (hid h' M') := fun b o e =>
  hid_get (k b o (hid_not e) (hid_sub _ _ _ _ e)) (m b o (hid_not e) (hid_sub _ _ _ _ e))
theorem hid_mono {h h' : Heap} {M : List Addr} (k : ∀ b o, b ∉ M → h.get? b = some o → h'.get? b = some o) : Sub (hid h M) (hid h' M) := hid_up k fun _ _ n _ => n
theorem hid_less {h : Heap} {M M' : List Addr} (m : ∀ b ∈ M', b ∈ M) : Sub (hid h M) (hid h M') := hid_up (fun _ _ _ e => e) fun b _ n _ q => n (m b q)
theorem hid_all {h h' : Heap} {M : List Addr} (k : Sub h h') : Sub (hid h M) (hid h' M) := hid_mono fun b o _ e => k b o e

mutual
noncomputable def hashV (P : Params) : V → Int
  | .str x => PyData.keyHash P x
  | .tup xs => reduceHash (Builtin.Tuple.tupleHashOf (hashL P xs))
  | .int i => i
  | .none | .bool _ | .lst _ | .dct _ | .self _ | .tray | .any | .oL _ | .oD _ => 0
noncomputable def hashL (P : Params) : List V → List Int
  | [] => []
  | x :: r => hashV P x :: hashL P r
end

noncomputable def IsTup (h : Heap) (a : Addr) (vs : List Value) : Prop := ∃ o n, h.get? a = some o ∧ o.cls = .type "tuple" ∧ o.data = .seq vs.toArray n ∧ o.dict = none
noncomputable def IsLst (h : Heap) (a : Addr) (vs : List Value) : Prop := ∃ n, h.get? a = some { cls := .type "list", data := .seq vs.toArray n }
noncomputable def IsDct (h : Heap) (a : Addr) (es : List DictEntry) : Prop := (a == sysModules) = false ∧ ∃ n, h.get? a = some { cls := .type "dict", data := .dict es.toArray n }
theorem IsTup.up {h h' : Heap} {a vs} (x : IsTup h a vs) (k : Sub h h') : IsTup h' a vs := let ⟨o, n, e, r⟩ := x; ⟨o, n, k _ _ e, r⟩
theorem IsLst.up {h h' : Heap} {a vs} (x : IsLst h a vs) (k : Sub h h') : IsLst h' a vs := let ⟨n, e⟩ := x; ⟨n, k _ _ e⟩
theorem IsDct.up {h h' : Heap} {a vs} (x : IsDct h a vs) (k : Sub h h') : IsDct h' a vs := let ⟨b, n, e⟩ := x; ⟨b, n, k _ _ e⟩
theorem IsTup.at {h h' : Heap} {a vs} (x : IsTup h a vs) (k : ∀ o, h.get? a = some o → h'.get? a = some o) : IsTup h' a vs := let ⟨o, n, e, r⟩ := x; ⟨o, n, k _ e, r⟩
theorem IsLst.at {h h' : Heap} {a vs} (x : IsLst h a vs) (k : ∀ o, h.get? a = some o → h'.get? a = some o) : IsLst h' a vs := let ⟨n, e⟩ := x; ⟨n, k _ e⟩
theorem IsDct.at {h h' : Heap} {a vs} (x : IsDct h a vs) (k : ∀ o, h.get? a = some o → h'.get? a = some o) : IsDct h' a vs := let ⟨b, n, e⟩ := x; ⟨b, n, k _ e⟩
theorem IsTup.isTuple {h : Heap} {a vs} (x : IsTup h a vs) : h.IsTuple a vs.toArray := let ⟨o, n, e, c, d, _⟩ := x; ⟨o, e, c, n, d⟩
theorem IsLst.isList {h : Heap} {a vs} (x : IsLst h a vs) : h.IsList a vs.toArray := let ⟨n, e⟩ := x; ⟨_, e, rfl, n, rfl⟩
noncomputable def opsName : Str := Str.ofString "ops"
noncomputable def IsBag (bag : Addr) (h : Heap) (a : Addr) (v : Value) : Prop :=
  ∃ da hs t n, h.get? a = some ⟨.ref bag, some da, .plain, #[]⟩ ∧ h.get? da = some (dictOf [⟨hs, .str opsName t, v⟩] n)

mutual
inductive Rp (C : Cx) (h : Heap) : Value → V → Prop
  | none : Rp C h .none .none
  | bool (b) : Rp C h (.bool b) (.bool b)
  | int (i t) : Rp C h (.int i t) (.int i)
  | str (x t) : Rp C h (.str x t) (.str x)
  | tup {a vs xs} : IsTup h a vs → RpL C h vs xs → Rp C h (.ref a) (.tup xs)
  | lst {a vs xs} : IsLst h a vs → RpL C h vs xs → Rp C h (.ref a) (.lst xs)
  | dct {a es kvs} : IsDct h a es → RpD C h es kvs → Rp C h (.ref a) (.dct kvs)
  | self {a v x} : IsBag C.bag h a v → Rp C h v x → Rp C h (.ref a) (.self x)
inductive RpL (C : Cx) (h : Heap) : List Value → List V → Prop
  | nil : RpL C h [] []
  | cons {v x vs xs} : Rp C h v x → RpL C h vs xs → RpL C h (v :: vs) (x :: xs)
inductive RpD (C : Cx) (h : Heap) : List DictEntry → List (V × V) → Prop
  | nil : RpD C h [] []
  | cons {e k x es kvs} : e.hash = hashV C.w.params k → Rp C h e.key k → Rp C h e.val x → RpD C h es kvs → RpD C h (e :: es) ((k, x) :: kvs)
end

theorem IsBag.up {g : Addr} {h h' : Heap} {a v} (x : IsBag g h a v) (k : Sub h h') : IsBag g h' a v :=
  let ⟨da, hs, t, n, e, d⟩ := x; ⟨da, hs, t, n, k _ _ e, k _ _ d⟩

theorem Rp.up {C : Cx} {h h' : Heap} (k : Sub h h') {v x} (r : Rp C h v x) : Rp C h' v x :=
  Rp.rec (motive_1 := fun v x _ => Rp C h' v x) (motive_2 := fun v x _ => RpL C h' v x) (motive_3 := fun v x _ => RpD C h' v x) .none .bool .int .str (fun a _ b => .tup (a.up k) b) (fun a _ b => .lst (a.up k) b) (fun a _ b => .dct (a.up k) b) (fun a _ b => .self (a.up k) b) .nil (fun _ _ a b => .cons a b) .nil (fun e _ _ _ a b c => .cons e a b c) r
theorem RpL.up {C : Cx} {h h' : Heap} (k : Sub h h') {v x} (r : RpL C h v x) : RpL C h' v x :=
  RpL.rec (motive_1 := fun v x _ => Rp C h' v x) (motive_2 := fun v x _ => RpL C h' v x) (motive_3 := fun v x _ => RpD C h' v x) .none .bool .int .str (fun a _ b => .tup (a.up k) b) (fun a _ b => .lst (a.up k) b) (fun a _ b => .dct (a.up k) b) (fun a _ b => .self (a.up k) b) .nil (fun _ _ a b => .cons a b) .nil (fun e _ _ _ a b c => .cons e a b c) r
theorem RpD.up {C : Cx} {h h' : Heap} (k : Sub h h') {v x} (r : RpD C h v x) : RpD C h' v x :=
  RpD.rec (motive_1 := fun v x _ => Rp C h' v x) (motive_2 := fun v x _ => RpL C h' v x) (motive_3 := fun v x _ => RpD C h' v x) .none .bool .int .str (fun a _ b => .tup (a.up k) b) (fun a _ b => .lst (a.up k) b) (fun a _ b => .dct (a.up k) b) (fun a _ b => .self (a.up k) b) .nil (fun _ _ a b => .cons a b) .nil (fun e _ _ _ a b c => .cons e a b c) r

theorem RpL.ind {C : Cx} {h : Heap} {P : List Value → List V → Prop} (n : P [] []) (c : ∀ {v x vs xs}, Rp C h v x → RpL C h vs xs → P vs xs → P (v :: vs) (x :: xs)) {vs xs} (r : RpL C h vs xs) : P vs xs :=
  RpL.rec (motive_1 := fun _ _ _ => True) (motive_2 := fun v x _ => P v x) (motive_3 := fun _ _ _ => True) trivial (fun _ => trivial) (fun _ _ => trivial) (fun _ _ => trivial) (fun _ _ _ => trivial) (fun _ _ _ => trivial) (fun _ _ _ => trivial) (fun _ _ _ => trivial) n (fun a b _ d => c a b d) trivial (fun _ _ _ _ _ _ _ => trivial) r
theorem RpL.length {C : Cx} {h : Heap} {vs xs} (r : RpL C h vs xs) : vs.length = xs.length := r.ind (P := fun vs xs => vs.length = xs.length) rfl fun _ _ e => congrArg (· + 1) e
theorem RpL.get {C : Cx} {h : Heap} {vs xs} (r : RpL C h vs xs) {i : Nat} {x} (e : xs[i]? = some x) : ∃ v, vs[i]? = some v ∧ Rp C h v x := by
  revert i
  refine r.ind (P := fun vs xs => ∀ {i : Nat}, xs[i]? = some x → ∃ v, vs[i]? = some v ∧ Rp C h v x) (fun e => by simp at e) fun {v y vs xs} a b ih i e => ?_
  cases i with
  | zero => cases e; exact ⟨v, rfl, a⟩
  | succ i => exact ih (by simpa using e)
theorem RpL.app {C : Cx} {h : Heap} {vs xs vs' xs'} (r : RpL C h vs xs) (q : RpL C h vs' xs') : RpL C h (vs ++ vs') (xs ++ xs') := r.ind (P := fun vs xs => RpL C h (vs ++ vs') (xs ++ xs')) q fun a _ b => .cons a b
theorem RpL.drop {C : Cx} {h : Heap} : ∀ {vs xs} (n : Nat), RpL C h vs xs → RpL C h (vs.drop n) (xs.drop n)
  | _, _, 0, r => r
  | _, _, _ + 1, .nil => .nil
  | _, _, n + 1, .cons _ b => b.drop n
noncomputable def Rep (C : Cx) (h : Heap) (M : List Addr) (v : Value) : V → Prop
  | .oL xs => ∃ a vs, v = .ref a ∧ a ∈ M ∧ C.T ≠ some a ∧ IsLst h a vs ∧ RpL C (hid h M) vs xs
  | .oD kvs => ∃ a es, v = .ref a ∧ a ∈ M ∧ C.T ≠ some a ∧ IsDct h a es ∧ RpD C (hid h M) es kvs
  | .tray => ∃ a, v = .ref a ∧ C.T = some a
  | .any => True
  | x => Rp C (hid h M) v x

noncomputable def V.own : V → Bool
  | .oL _ | .oD _ => true
  | .none | .bool _ | .int _ | .str _ | .tup _ | .lst _ | .dct _ | .self _ | .tray | .any => false
noncomputable def V.pure : V → Bool
  | .oL _ | .oD _ | .tray | .any => false
  | _ => true
theorem rp_tup {C : Cx} {h : Heap} {v : Value} {xs : List V} (r : Rp C h v (.tup xs)) : ∃ a vs, v = .ref a ∧ IsTup h a vs ∧ RpL C h vs xs := by
  cases r with
  | tup l q => exact ⟨_, _, rfl, l, q⟩
theorem rp_lst {C : Cx} {h : Heap} {v : Value} {xs : List V} (r : Rp C h v (.lst xs)) : ∃ a vs, v = .ref a ∧ IsLst h a vs ∧ RpL C h vs xs := by
  cases r with
  | lst l q => exact ⟨_, _, rfl, l, q⟩
theorem rp_str {C : Cx} {h : Heap} {v : Value} {x : Str} (r : Rp C h v (.str x)) : ∃ t, v = .str x t := by
  cases r; exact ⟨_, rfl⟩
theorem rpl_cons {C : Cx} {h : Heap} {vs : List Value} {x : V} {xs : List V} (r : RpL C h vs (x :: xs)) : ∃ u us, vs = u :: us ∧ Rp C h u x ∧ RpL C h us xs := by
  cases r with
  | cons a q => exact ⟨_, _, rfl, a, q⟩
theorem rpl_two {C : Cx} {h : Heap} {vs : List Value} {x y : V} (r : RpL C h vs [x, y]) : ∃ u v, vs = [u, v] ∧ Rp C h u x ∧ Rp C h v y := by
  obtain ⟨u, us, rfl, a, q⟩ := rpl_cons r
  obtain ⟨v, ws, rfl, b, q⟩ := rpl_cons q
  cases q
  exact ⟨u, v, rfl, a, b⟩
theorem rep_pure {C : Cx} {h : Heap} {M : List Addr} {v : Value} {x : V} (p : x.pure = true) : Rep C h M v x ↔ Rp C (hid h M) v x := by
  cases x <;> first | rfl | exact (Bool.false_ne_true p).elim

theorem Rep.move {C : Cx} {h h' : Heap} {M M' : List Addr} {v : Value} {y : V} (r : Rep C h M v y) (up : Sub (hid h M) (hid h' M')) (ho : y.own = true → ∀ a, v = .ref a → a ∈ M → C.T ≠ some a → a ∈ M' ∧ ∀ o, h.get? a = some o → h'.get? a = some o) : Rep C h' M' v y := by
  cases y with
  | oL xs =>
    obtain ⟨a, vs, e, m, t, l, q⟩ := r
    obtain ⟨m', k⟩ := ho rfl a e m t
    exact ⟨a, vs, e, m', t, l.at k, q.up up⟩
  | oD xs =>
    obtain ⟨a, vs, e, m, t, l, q⟩ := r
    obtain ⟨m', k⟩ := ho rfl a e m t
    exact ⟨a, vs, e, m', t, l.at k, q.up up⟩
  | tray => exact r
  | any => exact True.intro
  | _ => exact Rp.up up r
theorem Rep.all {C : Cx} {h h' : Heap} {M : List Addr} {v : Value} {x : V} (r : Rep C h M v x) (k : ∀ b o, C.T ≠ some b → h.get? b = some o → h'.get? b = some o) (mT : ∀ a, C.T = some a → a ∈ M) : Rep C h' M v x := by
  have kk : Sub (hid h M) (hid h' M) := hid_mono fun b o n e => k b o (fun q => n (mT b q)) e
  exact r.move kk fun _ a _ m t => ⟨m, fun o e => k a o t e⟩

noncomputable def TrayIs (C : Cx) (h : Heap) (M : List Addr) : Option Nat → Prop
  | .none => True
  | some n => ∃ a t1 t2 tk n' b, C.T = some a ∧ h.get? a = some { cls := .type "dict", data := .dict #[⟨PyData.keyHash C.w.params C.k1, .str C.k1 t1, .ref b⟩, ⟨PyData.keyHash C.w.params C.k2, .str C.k2 t2, .int (n : Int) tk⟩] n' } ∧
      Rp C (hid h M) (.ref b) (.lst C.cells)

structure FrameAt (C : Cx) (env : Env) (h : Heap) (ρ : Str → Option Value) : Prop where
  ns : ∃ m, h.Ns env.locals m ∧ ∀ x, env.kindOf x = some .local → m x = ρ x
  cell : ∀ x, (env.kindOf x = some .cell ∨ env.kindOf x = some .free) → ∃ c, env.cells.lookup x = some c ∧ h.IsCell c (ρ x)
  apart : ∀ x y c, env.cells.lookup x = some c → env.cells.lookup y = some c → x = y
  notT : ∀ a, C.T = some a → env.locals ≠ a ∧ ∀ x, env.cells.lookup x ≠ some a

theorem FrameAt.all {C : Cx} {env : Env} {h h' : Heap} {ρ : Str → Option Value} (F : FrameAt C env h ρ) (k : ∀ b o, C.T ≠ some b → h.get? b = some o → h'.get? b = some o) : FrameAt C env h' ρ where
  ns := let ⟨m, n, e⟩ := F.ns; ⟨m, n.at' fun o e => k _ o (fun q => (F.notT _ q).1 rfl) e, e⟩
  cell := fun x hx => let ⟨c, e, o, ho, hd⟩ := F.cell x hx; ⟨c, e, o, k _ o (fun q => (F.notT _ q).2 x e) ho, hd⟩
  apart := F.apart
  notT := F.notT

noncomputable def isVar (env : Env) (x : Str) : Bool := match env.kindOf x with
  | some .local | some .cell | some .free => true
  | _ => false
theorem isVar_of {env : Env} {x : Str} (i : isVar env x = true) : env.kindOf x = some .local ∨ env.kindOf x = some .cell ∨ env.kindOf x = some .free := by
  delta isVar at i
  revert i
  cases env.kindOf x with
  | none => exact fun i => (Bool.false_ne_true i).elim
  | some k => cases k <;> first | exact fun i => (Bool.false_ne_true i).elim | exact fun _ => .inl rfl | exact fun _ => .inr (.inl rfl) | exact fun _ => .inr (.inr rfl)

structure Gs (C : Cx) (M : List Addr) (τ : Option Nat) (s : Shared) : Prop where
  base : C.Base (hid s.heap M)
  low : ∀ a ∈ M, ∃ o, s.heap.get? a = some o
  mT : ∀ a, C.T = some a → a ∈ M
  tray : TrayIs C s.heap M τ

structure St (C : Cx) (M : List Addr) (env : Env) (σ : List (Str × V)) (τ : Option Nat) (s : Shared) : Prop extends Gs C M τ s where
  glob : env.globals = mainGlobals ∧ env.builtins = builtinsNs ∧ env.scope.kind = .function
  frame : ∃ ρ, FrameAt C env s.heap ρ ∧ ∀ x y, σ.lookup x = some y → isVar env x = true → ∃ v, ρ x = some v ∧ Rep C s.heap M v y

theorem TrayIs.all {C : Cx} {h h' : Heap} {M : List Addr} {τ : Option Nat} (t : TrayIs C h M τ) (k : Sub h h') : TrayIs C h' M τ := by
  cases τ with
  | none => trivial
  | some n => obtain ⟨a, t1, t2, tk, n', b, x1, x2, x3⟩ := t; exact ⟨a, t1, t2, tk, n', b, x1, k _ _ x2, x3.up (hid_all k)⟩

theorem Gs.kept {C : Cx} {M : List Addr} {τ τ' : Option Nat} {s : Shared} (S : Gs C M τ s) {h' : Heap} {tk : Tok} (k : ∀ b o, C.T ≠ some b → s.heap.get? b = some o → h'.get? b = some o)
    (lT : ∀ a, C.T = some a → ∃ o, h'.get? a = some o) (t : TrayIs C h' M τ') : Gs C M τ' { s with heap := h', toks := tk } where
  base := C.mono _ _ S.base (hid_mono fun b o n e => k b o (fun q => n (S.mT b q)) e)
  low := fun a m => by
    by_cases q : C.T = some a
    · exact lT a q
    · obtain ⟨o, e⟩ := S.low a m; exact ⟨o, k a o q e⟩
  mT := S.mT
  tray := t
theorem Gs.all {C : Cx} {M : List Addr} {τ : Option Nat} {s : Shared} (S : Gs C M τ s) {h' : Heap} {tk : Tok} (k : Sub s.heap h') : Gs C M τ { s with heap := h', toks := tk } :=
  S.kept (fun b o _ e => k b o e) (fun a q => let ⟨o, e⟩ := S.low a (S.mT a q); ⟨o, k _ _ e⟩) (S.tray.all k)
theorem Gs.keeps {C : Cx} {M : List Addr} {τ : Option Nat} {s s' : Shared} (S : Gs C M τ s) (k : Keeps s s') : Gs C M τ s' := by
  obtain ⟨h', tk, rfl, k⟩ := k; exact S.all k

noncomputable def Kept (C : Cx) (s s' : Shared) : Prop := ∃ h' tk, s' = { s with heap := h', toks := tk } ∧ ∀ b o, C.T ≠ some b → s.heap.get? b = some o → h'.get? b = some o
theorem Kept.refl (C : Cx) (s : Shared) : Kept C s s := ⟨s.heap, s.toks, rfl, fun _ _ _ e => e⟩
theorem Kept.trans {C : Cx} {a b c : Shared} (x : Kept C a b) (y : Kept C b c) : Kept C a c := by
  obtain ⟨h, t, rfl, k⟩ := x; obtain ⟨h', t', rfl, k'⟩ := y
  exact ⟨h', t', rfl, fun b o n e => k' b o n (k b o n e)⟩
theorem Kept.of {C : Cx} {a b : Shared} (x : Keeps a b) : Kept C a b := by
  obtain ⟨h, t, rfl, k⟩ := x; exact ⟨h, t, rfl, fun b o _ e => k b o e⟩
theorem St.kept {C : Cx} {M : List Addr} {env : Env} {σ : List (Str × V)} {τ τ' : Option Nat} {s s' : Shared} (S : St C M env σ τ s) (k : Kept C s s') (g : Gs C M τ' s') : St C M env σ τ' s' := by
  obtain ⟨h', tk, rfl, k⟩ := k
  obtain ⟨ρ, F, v⟩ := S.frame
  exact ⟨g, S.glob, ρ, F.all k, fun x y e i => let ⟨u, e1, r⟩ := v x y e i; ⟨u, e1, r.all k S.mT⟩⟩
theorem St.keeps {C : Cx} {M : List Addr} {env : Env} {σ : List (Str × V)} {τ : Option Nat} {s s' : Shared} (S : St C M env σ τ s) (k : Keeps s s') : St C M env σ τ s' :=
  S.kept (.of k) (S.toGs.keeps k)
theorem Rep.kept {C : Cx} {s s' : Shared} {M : List Addr} {v : Value} {x : V} (r : Rep C s.heap M v x) (k : Kept C s s') (mT : ∀ a, C.T = some a → a ∈ M) : Rep C s'.heap M v x := by
  obtain ⟨h', tk, rfl, k⟩ := k; exact r.all k mT
theorem Rep.keeps {C : Cx} {s s' : Shared} {M : List Addr} {v : Value} {x : V} (r : Rep C s.heap M v x) (k : Keeps s s') (mT : ∀ a, C.T = some a → a ∈ M) : Rep C s'.heap M v x := r.kept (.of k) mT

theorem kpRfl (s : Shared) : Keeps s s := ⟨s.heap, s.toks, rfl, fun _ _ e => e⟩
theorem kpTok (s : Shared) (t : Tok) : Keeps s { s with toks := t } := ⟨s.heap, t, rfl, fun _ _ e => e⟩
theorem kpPush (s : Shared) (o : Obj) : Keeps s { s with heap := s.heap.push o } := ⟨s.heap.push o, s.toks, rfl, fun _ _ e => Heap.get?_push_of_some _ e⟩
theorem kpTrans {a b c : Shared} (x : Keeps a b) (y : Keeps b c) : Keeps a c := by
  obtain ⟨h, t, rfl, k⟩ := x; obtain ⟨h', t', rfl, k'⟩ := y
  exact ⟨h', t', rfl, fun b o e => k' b o (k b o e)⟩

structure Room (A : Around) (n : Nat) : Prop where
  hd : A.handled = Option.none
  dp : A.depth + n < recursionLimit
  un : A.units + 40 * n + 400 < cLine
theorem Room.le {A : Around} {n m : Nat} (r : Room A n) (h : m ≤ n) : Room A m := ⟨r.hd, by have := r.dp; lia, by have := r.un; lia⟩
theorem Room.deeper {A : Around} {n : Nat} (r : Room A (n + 1)) (env : Env) : Room (A.deeper env) n := ⟨r.hd, by have := r.dp; show A.depth + 1 + n < _; lia, by have := r.un; show A.units + 3 + _ + _ < _; lia⟩
noncomputable def Ev (C : Cx) (n : Nat) (e : PySem.Expr) (env : Env) (σ : List (Str × V)) (τ : Option Nat) (y : V) (τ' : Option Nat) : Prop :=
  ∀ A, Room A n → ∀ M s, St C M env σ τ s → wpAny (model C.prog C.w) A (eval e env) (fun v s' => St C M env σ τ' s' ∧ Rep C s'.heap M v y ∧ Kept C s s') NoE s
noncomputable def Tst (C : Cx) (n : Nat) (e : PySem.Expr) (env : Env) (σ : List (Str × V)) (τ : Option Nat) (b : Bool) (τ' : Option Nat) : Prop :=
  ∀ A, Room A n → ∀ M s, St C M env σ τ s → wpAny (model C.prog C.w) A (isTrue e env (eval e env)) (fun v s' => v = b ∧ St C M env σ τ' s' ∧ Kept C s s') NoE s

end Mine
namespace Mine

noncomputable def RepL (C : Cx) (h : Heap) (M : List Addr) : List Value → List V → Prop
  | [], [] => True
  | v :: vs, x :: xs => Rep C h M v x ∧ RepL C h M vs xs
  | _, _ => False
theorem repL_one {C : Cx} {h : Heap} {M : List Addr} {vs : List Value} {x : V} (r : RepL C h M vs [x]) : ∃ v, vs = [v] ∧ Rep C h M v x := by
  cases vs with
  | nil => exact r.elim
  | cons v l =>
    cases l with
    | nil => exact ⟨v, rfl, r.1⟩
    | cons _ _ => exact r.2.elim
theorem repL_two {C : Cx} {h : Heap} {M : List Addr} {vs : List Value} {x y : V} (r : RepL C h M vs [x, y]) : ∃ u v, vs = [u, v] ∧ Rep C h M u x ∧ Rep C h M v y := by
  cases vs with
  | nil => exact r.elim
  | cons u l =>
    obtain ⟨v, rfl, q⟩ := repL_one r.2
    exact ⟨u, v, rfl, r.1, q⟩
theorem repL_three {C : Cx} {h : Heap} {M : List Addr} {vs : List Value} {x y z : V} (r : RepL C h M vs [x, y, z]) : ∃ u v w, vs = [u, v, w] ∧ Rep C h M u x ∧ Rep C h M v y ∧ Rep C h M w z := by
  cases vs with
  | nil => exact r.elim
  | cons u l =>
    obtain ⟨v, w, rfl, q⟩ := repL_two r.2
    exact ⟨u, v, w, rfl, r.1, q⟩
theorem RepL.pure {C : Cx} {h : Heap} {M : List Addr} : ∀ {vs xs}, RepL C h M vs xs → xs.all V.pure = true → RpL C (hid h M) vs xs
  | [], [], _, _ => .nil
  | _ :: _, _ :: _, ⟨a, b⟩, p => by
    simp only [List.all_cons, Bool.and_eq_true] at p
    exact .cons ((rep_pure p.1).mp a) (RepL.pure b p.2)
theorem RepL.of {C : Cx} {h : Heap} {M : List Addr} {vs xs} (r : RpL C (hid h M) vs xs) : xs.all V.pure = true → RepL C h M vs xs :=
  r.ind (P := fun vs xs => xs.all V.pure = true → RepL C h M vs xs) (fun _ => trivial) fun a _ ih p => by
    simp only [List.all_cons, Bool.and_eq_true] at p
    exact ⟨(rep_pure p.1).mpr a, ih p.2⟩
theorem RepL.length {C : Cx} {h : Heap} {M : List Addr} : ∀ {vs xs}, RepL C h M vs xs → vs.length = xs.length
  | [], [], _ => rfl
  | _ :: _, _ :: _, ⟨_, b⟩ => congrArg (· + 1) b.length

section
variable {C : Cx} {n : Nat} {env : Env} {σ : List (Str × V)} {τ τ₁ τ₂ : Option Nat}

theorem NoE.any {α : Type} {M : Model} {A : Around} {t : Sem α} {Q : α → Shared → Prop} {E : Value → Shared → Prop} {s : Shared} (h : wpAny M A t Q NoE s) : wpAny M A t Q E s := wpAny_mono h (fun _ _ q => q) fun _ _ q => q.elim

theorem hid_more {h h' : Heap} {M N : List Addr} (k : Sub h h') (fr : ∀ a ∈ N, h.get? a = Option.none) : Sub (hid h M) (hid h' (N ++ M)) :=
  hid_up (fun b o _ e => k b o e) fun b o nm e q => by
    rcases List.mem_append.mp q with q | q
    · rw [fr b q] at e; cases e
    · exact nm q
theorem Gs.more {M N : List Addr} {s : Shared} (G : Gs C M τ s) {h' : Heap} {tk : Tok} (k : Sub s.heap h') (fr : ∀ a ∈ N, s.heap.get? a = Option.none) (al : ∀ a ∈ N, ∃ o, h'.get? a = some o) : Gs C (N ++ M) τ { s with heap := h', toks := tk } where
  base := C.mono _ _ G.base (hid_more k fr)
  low := fun a m => by
    rcases List.mem_append.mp m with m | m
    · exact al a m
    · obtain ⟨o, e⟩ := G.low a m; exact ⟨o, k _ _ e⟩
  mT := fun a q => List.mem_append_right _ (G.mT a q)
  tray := by
    have t := G.tray
    cases τ with
    | none => trivial
    | some j => obtain ⟨a, t1, t2, tk', n', b, x1, x2, x3⟩ := t; exact ⟨a, t1, t2, tk', n', b, x1, k _ _ x2, x3.up (hid_more k fr)⟩
theorem Rep.more {h h' : Heap} {M N : List Addr} {v : Value} {y : V} (r : Rep C h M v y) (k : Sub h h') (fr : ∀ a ∈ N, h.get? a = Option.none) : Rep C h' (N ++ M) v y := by
  have up := hid_more (M := M) k fr
  exact r.move up fun _ a _ m _ => ⟨List.mem_append_right _ m, fun o e => k a o e⟩

theorem Ev_none {k pos} : Ev C n (.Constant .none k pos) env σ τ .none τ := fun _ _ _ _ S => wpAny_Constant_none ⟨S, .none, .refl ..⟩
theorem Ev_bool {b k pos} : Ev C n (.Constant (.bool b) k pos) env σ τ (.bool b) τ := fun _ _ _ _ S => wpAny_Constant_bool ⟨S, .bool b, .refl ..⟩
theorem Ev_int {i k pos} : Ev C n (.Constant (.int i) k pos) env σ τ (.int i) τ := fun _ _ _ s S => wpAny_Constant_int ⟨S.keeps (kpTok s _), .int i _, .of (kpTok s _)⟩
theorem Ev_str {x k pos} : Ev C n (.Constant (.str x) k pos) env σ τ (.str x) τ := fun _ _ _ s S => wpAny_Constant_str ⟨S.keeps (kpTok s _), .str x _, .of (kpTok s _)⟩

theorem load_at {M : Model} {A : Around} {E : Value → Shared → Prop} {s : Shared} {ρ : Str → Option Value} {x : Str} {v : Value} {Q : Value → Shared → Prop} (F : FrameAt C env s.heap ρ) (hk : env.scope.kind = .function) (e : ρ x = some v) (i : isVar env x = true) (hc : (x == ("__classdict__" : Str)) = false)
    (h : Q v s) : wpAny M A (loadName env x) Q E s :=
  (isVar_of i).elim (fun q => let ⟨_, hn, hm⟩ := F.ns; wpAny_loadName_local hk q hn ((hm x q).trans e) h)
    fun q => q.elim (fun q => let ⟨_, hl, hc⟩ := F.cell x (.inl q); wpAny_loadName_cell hk q hl (e ▸ hc) h)
      fun q => let ⟨_, hl, hc'⟩ := F.cell x (.inr q); wpAny_loadName_free hk q hl (e ▸ hc') h hc
theorem wp_var {A : Around} {M : List Addr} {s : Shared} {x : Str} {y : V} {Q : Value → Shared → Prop} (S : St C M env σ τ s) (e : σ.lookup x = some y) (i : isVar env x = true) (hc : (x == ("__classdict__" : Str)) = false)
    (h : ∀ v, Rep C s.heap M v y → Q v s) : wpAny (model C.prog C.w) A (loadName env x) Q NoE s := by
  obtain ⟨ρ, F, V⟩ := S.frame
  obtain ⟨v, e1, r⟩ := V x y e i
  exact load_at F S.glob.2.2 e1 i hc (h v r)

theorem Ev_name {x pos} {y : V} (e : σ.lookup x = some y) (i : isVar env x = true) (hd : (x == ("__debug__" : Str)) = false := by decide) (hc : (x == ("__classdict__" : Str)) = false := by decide) :
    Ev C n (.Name x pos) env σ τ y τ := fun _ _ _ s S => wpAny_Name (wp_var S e i hc fun v r => ⟨S, r, .refl ..⟩) hd

noncomputable def GlobAt (C : Cx) (x : Str) (v : Value) : Prop := ∀ h, C.Base h → ∃ mg, h.Ns mainGlobals mg ∧ mg x = some v
noncomputable def BuiltAt (C : Cx) (x : Str) (v : Value) : Prop := ∀ h, C.Base h → ∃ mg mb, h.Ns mainGlobals mg ∧ mg x = Option.none ∧ h.Ns builtinsNs mb ∧ mb x = some v

theorem wp_glob {A : Around} {M : List Addr} {s : Shared} {x : Str} {v : Value} {pos : Pos} {Q : Value → Shared → Prop} (S : St C M env σ τ s) (g : GlobAt C x v) (i : env.kindOf x = some .globalImplicit) (hd : (x == ("__debug__" : Str)) = false)
    (h : Q v s) : wpAny (model C.prog C.w) A (eval (.Name x pos) env) Q NoE s := by
  obtain ⟨mg, n1, e1⟩ := g _ S.base
  exact Name_function_global S.glob.2.2 i (loadGlobal_global (S.glob.1 ▸ n1.keeps (hid_sub _ _)) e1 h) hd
theorem wp_built {A : Around} {M : List Addr} {s : Shared} {x : Str} {v : Value} {pos : Pos} {Q : Value → Shared → Prop} (S : St C M env σ τ s) (g : BuiltAt C x v) (i : env.kindOf x = some .globalImplicit) (hd : (x == ("__debug__" : Str)) = false)
    (h : Q v s) : wpAny (model C.prog C.w) A (eval (.Name x pos) env) Q NoE s := by
  obtain ⟨mg, mb, n1, e1, n2, e2⟩ := g _ S.base
  exact Name_function_global S.glob.2.2 i (loadGlobal_builtin (S.glob.1 ▸ n1.keeps (hid_sub _ _)) e1 (S.glob.2.1 ▸ n2.keeps (hid_sub _ _)) e2 h) hd

theorem Ev_glob_int {x pos} {i : Int} {t : Tok} (g : GlobAt C x (.int i t)) (k : env.kindOf x = some .globalImplicit) (hd : (x == ("__debug__" : Str)) = false := by decide) : Ev C n (.Name x pos) env σ τ (.int i) τ :=
  fun _ _ _ s S => wp_glob S g k hd ⟨S, .int i t, .refl ..⟩

noncomputable def EvL (C : Cx) (n : Nat) (es : List PySem.Expr) (env : Env) (σ : List (Str × V)) (τ : Option Nat) (ys : List V) (τ' : Option Nat) : Prop :=
  ∀ pos A, Room A n → ∀ M s, St C M env σ τ s → wpAny (model C.prog C.w) A (spliced (backTo pos (starEach es env))) (fun vs s' => St C M env σ τ' s' ∧ RepL C s'.heap M vs ys ∧ Kept C s s') NoE s
theorem EvL_nil : EvL C n [] env σ τ [] τ := fun _ _ _ _ _ S => wpAny_items_nil ⟨S, trivial, .refl ..⟩
theorem EvL_cons {e : PySem.Expr} {es : List PySem.Expr} {y : V} {ys : List V} (h : Ev C n e env σ τ y τ₁) (r : EvL C n es env σ τ₁ ys τ₂) (he : starEach (e :: es) env = (false, eval e env) :: starEach es env := by rfl) :
    EvL C n (e :: es) env σ τ (y :: ys) τ₂ := fun pos A R M s S =>
  wpAny_items_cons (wpAny_mono (h A R M s S) (fun v s₁ zz => and3 zz fun S₁ r₁ k₁ => wpAny_mono (r pos A R M s₁ S₁) (fun vs s₂ zz => and3 zz fun S₂ r₂ k₂ => ⟨S₂, ⟨r₁.kept k₂ S.mT, r₂⟩, k₁.trans k₂⟩) fun _ _ x => x) fun _ _ x => x) he

theorem push_lst {s : Shared} {M : List Addr} {τ : Option Nat} {vs : List Value} {xs : List V} (G : Gs C M τ s) (r : RpL C (hid s.heap M) vs xs) (ep : Nat := 0) :
    Rep C (s.heap.push { cls := .type "list", data := .seq vs.toArray ep }) M (.ref s.heap.objs.size) (.lst xs) := by
  have nM : s.heap.objs.size ∉ M := fun q => let ⟨o, e⟩ := G.low _ q; Nat.lt_irrefl _ (Heap.lt_size e)
  exact .lst ⟨ep, hid_get (Heap.get?_push_size _ rfl) nM⟩ (r.up (hid_all fun _ _ e => Heap.get?_push_of_some _ e))
theorem push_tup {s : Shared} {M : List Addr} {τ : Option Nat} {vs : List Value} {xs : List V} (G : Gs C M τ s) (r : RpL C (hid s.heap M) vs xs) (ep : Nat := 0) :
    Rep C (s.heap.push { cls := .type "tuple", data := .seq vs.toArray ep }) M (.ref s.heap.objs.size) (.tup xs) := by
  have nM : s.heap.objs.size ∉ M := fun q => let ⟨o, e⟩ := G.low _ q; Nat.lt_irrefl _ (Heap.lt_size e)
  exact .tup ⟨_, ep, hid_get (Heap.get?_push_size _ rfl) nM, rfl, rfl, rfl⟩ (r.up (hid_all fun _ _ e => Heap.get?_push_of_some _ e))

theorem Ev_tuple {es : List PySem.Expr} {k : Nat} {pos : Pos} {ys : List V} (h : EvL C n es env σ τ ys τ₁) (p : ys.all V.pure = true := by rfl) (l : ys.length ≤ 1000 := by decide) : Ev C n (.Tuple es k pos) env σ τ (.tup ys) τ₁ :=
  fun A R M s S => wpAny_Tuple (wpAny_mono (h pos A R M s S) (fun vs s₁ zz => and3 zz fun S₁ r₁ k₁ => ⟨by rw [r₁.length, sizeLine_eq]; (exact Nat.le_trans (by assumption) (by decide)), S₁.keeps (kpPush ..), push_tup S₁.toGs (r₁.pure p), k₁.trans (.of (kpPush ..))⟩) fun _ _ x => x)

noncomputable def EvN (C : Cx) (n : Nat) (e : PySem.Expr) (env : Env) (σ : List (Str × V)) (τ : Option Nat) (ys : List V) (τ' : Option Nat) : Prop :=
  ∀ A, Room A n → ∀ M s, St C M env σ τ s → wpAny (model C.prog C.w) A (eval e env) (fun v s' => St C M env σ τ' s' ∧ (∃ a vs, v = .ref a ∧ s.heap.get? a = Option.none ∧ a ∉ M ∧ IsLst s'.heap a vs ∧ Gs C (a :: M) τ' s' ∧ RpL C (hid s'.heap (a :: M)) vs ys) ∧ Kept C s s') NoE s
theorem EvN.ev {e : PySem.Expr} {ys : List V} (h : EvN C n e env σ τ ys τ₁) : Ev C n e env σ τ (.lst ys) τ₁ := fun A R M s S =>
  wpAny_mono (h A R M s S) (fun v s' zz => by obtain ⟨S', ⟨a, vs, e, _, m, l, _, r⟩, k⟩ := zz; exact ⟨S', e ▸ .lst (l.at fun o q => hid_get q m) (r.up (hid_less fun b hb => List.mem_cons_of_mem _ hb)), k⟩) fun _ _ x => x

theorem not_low {M : List Addr} {s : Shared} (G : Gs C M τ s) {h' : Heap} : ∀ {a}, s.heap.get? a = Option.none → a ∉ M := fun e q => by
  obtain ⟨o, e'⟩ := G.low _ q; rw [e] at e'; cases e'
theorem size_none (h : Heap) : h.get? h.objs.size = Option.none := by
  cases e : h.get? h.objs.size with
  | none => rfl
  | some o => exact absurd (Heap.lt_size e) (Nat.lt_irrefl _)
theorem kept_none {M : List Addr} {s s' : Shared} (G : Gs C M τ s') (k : Kept C s s') {a : Addr} (h : s'.heap.get? a = Option.none) : s.heap.get? a = Option.none := by
  cases q : s.heap.get? a with
  | none => rfl
  | some o =>
    by_cases t : C.T = some a
    · obtain ⟨o', e'⟩ := G.low _ (G.mT _ t); rw [h] at e'; cases e'
    · obtain ⟨h', tk, e, k⟩ := k; subst e; rw [k _ o t q] at h; cases h

theorem push_new {M : List Addr} {s : Shared} {vs : List Value} {ys : List V} (G : Gs C M τ s) (r : RpL C (hid s.heap M) vs ys) : s.heap.objs.size ∉ M ∧ IsLst (s.heap.push { cls := .type "list", data := .seq vs.toArray }) s.heap.objs.size vs ∧
    Gs C (s.heap.objs.size :: M) τ { s with heap := s.heap.push { cls := .type "list", data := .seq vs.toArray } } ∧ RpL C (hid (s.heap.push { cls := .type "list", data := .seq vs.toArray }) (s.heap.objs.size :: M)) vs ys := by
  have k : Sub s.heap (s.heap.push { cls := .type "list", data := .seq vs.toArray }) := fun _ _ e => Heap.get?_push_of_some _ e
  have fr : ∀ a ∈ [s.heap.objs.size], s.heap.get? a = Option.none := fun a ha => by simp at ha; subst ha; exact size_none _
  exact ⟨not_low (h' := s.heap) G (size_none _), ⟨0, Heap.get?_push_size _ rfl⟩, G.more (N := [s.heap.objs.size]) (tk := s.toks) k fr (fun a ha => by simp at ha; subst ha; exact ⟨_, Heap.get?_push_size _ rfl⟩), r.up (hid_more (N := [s.heap.objs.size]) k fr)⟩

theorem EvN_list {es : List PySem.Expr} {pos : Pos} {ys : List V} (h : EvL C n es env σ τ ys τ₁) (p : ys.all V.pure = true := by rfl) (l : ys.length ≤ 1000 := by decide) : EvN C n (.List es pos) env σ τ ys τ₁ :=
  fun A R M s S => wpAny_List (wpAny_mono (h pos A R M s S) (fun vs s₁ zz => and3 zz fun S₁ r₁ k₁ => by
    obtain ⟨a1, a2, a3, a4⟩ := push_new S₁.toGs (r₁.pure p)
    exact ⟨by rw [r₁.length, sizeLine_eq]; (exact Nat.le_trans (by assumption) (by decide)), S₁.keeps (kpPush ..), ⟨_, vs, rfl, kept_none S₁.toGs k₁ (size_none _), a1, a2, a3, a4⟩, k₁.trans (.of (kpPush ..))⟩) fun _ _ x => x)

end
end Mine
namespace Mine
section
variable {C : Cx} {n : Nat} {env : Env} {σ : List (Str × V)} {τ τ₁ τ₂ τ₃ : Option Nat}

noncomputable def FnSpec (C : Cx) (n : Nat) (f : Value) (xs : List V) (τ : Option Nat) (y : V) (τ' : Option Nat) : Prop :=
  ∀ A, Room A n → ∀ M s vs, Gs C M τ s → RepL C s.heap M vs xs → wpAny (model C.prog C.w) A (call f vs) (fun v s' => Gs C M τ' s' ∧ Rep C s'.heap M v y ∧ Kept C s s') NoE s

theorem evalArgs_ev {f : Value} {e : PySem.Expr} {es : List PySem.Expr} {ys : List V} {A : Around} {M : List Addr} {s : Shared} {pos : Pos} {Q : Args → Shared → Prop} (h : EvL C n (e :: es) env σ τ ys τ₁) (he : starEach (e :: es) env = (false, eval e env) :: starEach es env)
    (R : Room A n) (S : St C M env σ τ s) (q : ∀ vs s', St C M env σ τ₁ s' → RepL C s'.heap M vs ys → Kept C s s' → Q ⟨vs, []⟩ s') :
    wpAny (model C.prog C.w) A (evalArgs f true (backTo pos (starEach (e :: es) env)) []) Q NoE s := by
  have hb : backTo pos (starEach (e :: es) env) = (false, eval e env) :: backTo pos (starEach es env) := by rw [he]; rfl
  have h' := h pos A R M s S
  rw [hb] at h' ⊢
  exact evalArgs_plain (wpAny_mono h' (fun vs s' zz => and3 zz fun a b c => q vs s' a b c) fun _ _ x => x)

noncomputable def IsFun (C : Cx) (a : Addr) : Prop := ∀ h, C.Base h → ∃ o fd, h.get? a = some o ∧ o.data = .func fd

theorem Ev_call {f p pos e es} {a : Addr} {ys : List V} {y : V} (g : GlobAt C f (.ref a)) (fn : IsFun C a) (sp : FnSpec C n (.ref a) ys τ₁ y τ₂) (h : EvL C n (e :: es) env σ τ ys τ₁) (k : env.kindOf f = some .globalImplicit)
    (he : starEach (e :: es) env = (false, eval e env) :: starEach es env := by rfl) (hd : (f == ("__debug__" : Str)) = false := by decide) : Ev C n (.Call (.Name f p) (e :: es) [] pos) env σ τ y τ₂ := fun A R M s S => by
  show wpAny _ _ (do callWith pos (← eval (.Name f p) env) [] (backTo pos (starEach (e :: es) env)) []) _ _ _
  refine wpAny_bind (wp_glob S g k hd ?_)
  obtain ⟨o₀, fd₀, ho₀, hd₀⟩ := fn _ S.base
  refine callWith_function (o := o₀) (fd := fd₀) (evalArgs_ev h he R S fun vs s' S' r' k' => ⟨⟨?_, hd₀⟩, ?_⟩)
  · obtain ⟨h', tk, rfl, kk⟩ := k'
    refine kk _ _ (fun q => ?_) (hid_sub _ _ _ _ ho₀)
    exact hid_not ho₀ (S.mT _ q)
  · exact wpAny_mono (sp A R M s' vs S'.toGs r') (fun v s₂ zz => and3 zz fun G r k₂ => ⟨S'.kept k₂ G, r, k'.trans k₂⟩) fun _ _ x => x

theorem backTo_any {pos : Pos} {es : List PySem.Expr} : (backTo pos (starEach es env)).any (·.1) = (starEach es env).any (·.1) := by
  unfold backTo; rw [List.any_map]; rfl

noncomputable def BuSpec (C : Cx) (n : Nat) (f : Value) (xs : List V) (y : V) : Prop :=
  ∀ A, Room A n → ∀ M s vs τ, Gs C M τ s → RepL C s.heap M vs xs → wpAny (model C.prog C.w) A (call f vs) (fun v s' => Rep C s'.heap M v y ∧ Keeps s s') NoE s

theorem Ev_builtin {f p pos e es} {id : String} {ys : List V} {y : V} (g : BuiltAt C f (.builtin id)) (sp : BuSpec C n (.builtin id) ys y) (h : EvL C n (e :: es) env σ τ ys τ₁) (k : env.kindOf f = some .globalImplicit)
    (hst : (starEach (e :: es) env).any (·.1) = false := by rfl)
    (he : starEach (e :: es) env = (false, eval e env) :: starEach es env := by rfl) (hd : (f == ("__debug__" : Str)) = false := by decide) : Ev C n (.Call (.Name f p) (e :: es) [] pos) env σ τ y τ₁ := fun A R M s S => by
  show wpAny _ _ (do callWith pos (← eval (.Name f p) env) [] (backTo pos (starEach (e :: es) env)) []) _ _ _
  refine wpAny_bind (wp_built S g k hd ?_)
  refine callWith_builtin (by rw [backTo_any]; exact hst) (evalArgs_ev h he R S fun vs s' S' r' k' => ?_)
  exact wpAny_mono (sp A R M s' vs τ₁ S'.toGs r') (fun v s₂ zz => and2 zz fun r k₂ => ⟨S'.keeps k₂, r, k'.trans (.of k₂)⟩) fun _ _ x => x

theorem callWith_type {A : Around} {E : Value → Shared → Prop} {M : Model} {s : Shared} {pos : Pos} {T : String} {args : List (Bool × Sem Value)} {Q : Value → Shared → Prop} (hplain : args.any (·.1) = false)
    (h : wpAny M A (evalArgs (.type T) true args []) (fun a s₁ => wpAny M A (call (.type T) a.pos a.kw) Q E s₁) E s) :
    wpAny M A (callWith pos (.type T) [] args []) Q E s := by
  unfold callWith
  refine wpAny_bind (wpAny_holding (wpAny_mono h (fun a s₁ h₁ => wpAny_bind (wpAny_standAt ?_)) fun _ _ x => x))
  rw [hplain, List.any_nil, Bool.or_false]
  dsimp only
  rw [if_neg Bool.false_ne_true]
  refine wpAny_bind (wpAny_pure ?_)
  exact wpAny_bind (wpAny_mono h₁ (fun r s₂ hr => wpAny_bind (wpAny_holding (wpAny_point (wpAny_pure hr)))) fun _ _ x => x)

theorem Ev_type {f p pos e es} {T : String} {ys : List V} {y : V} (g : BuiltAt C f (.type T)) (sp : BuSpec C n (.type T) ys y) (h : EvL C n (e :: es) env σ τ ys τ₁) (k : env.kindOf f = some .globalImplicit)
    (hst : (starEach (e :: es) env).any (·.1) = false := by rfl)
    (he : starEach (e :: es) env = (false, eval e env) :: starEach es env := by rfl) (hd : (f == ("__debug__" : Str)) = false := by decide) : Ev C n (.Call (.Name f p) (e :: es) [] pos) env σ τ y τ₁ := fun A R M s S => by
  show wpAny _ _ (do callWith pos (← eval (.Name f p) env) [] (backTo pos (starEach (e :: es) env)) []) _ _ _
  refine wpAny_bind (wp_built S g k hd ?_)
  refine callWith_type (by rw [backTo_any]; exact hst) (evalArgs_ev h he R S fun vs s' S' r' k' => ?_)
  exact wpAny_mono (sp A R M s' vs τ₁ S'.toGs r') (fun v s₂ zz => and2 zz fun r k₂ => ⟨S'.keeps k₂, r, k'.trans (.of k₂)⟩) fun _ _ x => x

theorem bag_inst {g : Addr} {h : Heap} {a : Addr} {v : Value} (b : IsBag g h a v) : ∃ da hs t n', InstAt h a ⟨.ref g, some da, .plain, #[]⟩ g (some (dictOf [⟨hs, .str opsName t, v⟩] n')) := by
  obtain ⟨da, hs, t, n', e, d⟩ := b
  exact ⟨da, hs, t, n', e, rfl, rfl, d⟩

structure MethAt (C : Cx) (name : Str) (f : Addr) : Prop where
  pg : plainGet C.K C.bag name = true
  hf : findIn C.K (.ref C.bag) name = some (some (.ref f))
  ht : isFn C.K (.ref f) = true
  nm : (opsName == name) = false
  fn : IsFun C f

theorem methodCall_self {o : PySem.Expr} {name : Str} {apos pos : Pos} {ov : Value} {nn : Nat} {args : List (Bool × Sem Value)} {A : Around} {M : Model} {E : Value → Shared → Prop} {s : Shared} {Q : Value → Shared → Prop} {f : Value} {first : List Value}
    (hfew : methodCallForm nn args [] = true) (hline : (apos.endLine == pos.line) = true) 
    (h : ∀ pl, wpAny M A (getMethod ov name pl) (fun p s₁ => wpAny M A (callWith pos p.1 p.2 args []) Q E s₁) E s) :
    wpAny M A (methodCall o name apos pos env ov nn args []) Q E s := by
  unfold methodCall
  rw [hfew]
  refine wpAny_bind (wpAny_holding ?_)
  show wpAny _ _ (getMethod ov name _) _ _ _
  refine wpAny_mono (h _) (fun p s₁ h₁ => ?_) fun _ _ x => x
  show wpAny _ _ (methodCallPos true o env apos pos >>= _) _ _ _
  have : methodCallPos true o env apos pos = pure pos := by
    unfold methodCallPos; rw [hline]; rfl
  rw [this]
  exact wpAny_bind (wpAny_pure h₁)

theorem Ev_methodE {τ₀ : Option Nat} {o : PySem.Expr} {name : Str} {apos pos : Pos} {e : PySem.Expr} {es : List PySem.Expr} {ops : V} {f : Addr} {ys : List V} {y : V} (m : MethAt C name f) (sp : FnSpec C n (.ref f) (.self ops :: ys) τ₁ y τ₂)
    (ho : Ev C n o env σ τ (.self ops) τ₀) (h : EvL C n (e :: es) env σ τ₀ ys τ₁)
    (hb : attributeBase o name env (eval o env) = eval o env := by rfl)
    (hfew : methodCallForm ((e :: es).length + ([] : List Keyword).length) (backTo pos (starEach (e :: es) env)) [] = true := by rfl) (hline : (apos.endLine == pos.line) = true := by rfl)
    (he : starEach (e :: es) env = (false, eval e env) :: starEach es env := by rfl) :
    Ev C n (.Call (.Attribute o name apos) (e :: es) [] pos) env σ τ y τ₂ := fun A R M s₀ S₀ => by
  rw [arm_eval_Call, hb]
  refine wpAny_bind (wpAny_mono (ho A R M s₀ S₀) (fun v s zz => and3 zz fun S rv k₀ => wpAny_bind (wpAny_standAt ?_)) fun _ _ x => x)
  have rv' : Rp C (hid s.heap M) v (.self ops) := rv
  cases rv' with
  | @self a w x hbag hops =>
  obtain ⟨da, hs, t, n', I⟩ := bag_inst (hbag.up (hid_sub _ _))
  refine methodCall_self (f := .ref f) (first := [.ref a]) hfew hline fun pl => ?_
  have X := (C.kin _ S.base)
  refine method_fn (K := C.K) (fun b o e => hid_sub _ _ _ _ (X b o e)) I (plainGet_of m.pg).1 (plainGet_of m.pg).2 m.hf (beq_iff_eq.mp m.ht) ?_ ?_
  · show (lookIn name (dictOf _ n')).map _ = _
    rw [lookIn_dict]
    unfold getL
    have : (Value.str opsName t).isStr name = false := m.nm
    simp [this, DictEntry.refKey]
  · obtain ⟨o₀, fd₀, ho₀, hd₀⟩ := m.fn _ S.base
    refine callWith_function (o := o₀) (fd := fd₀) (evalArgs_ev h he R S fun vs s' S' r' k' => ⟨⟨?_, hd₀⟩, ?_⟩)
    · obtain ⟨h', tk, rfl, kk⟩ := k'
      exact kk _ _ (fun q => hid_not ho₀ (S.mT _ q)) (hid_sub _ _ _ _ ho₀)
    · have rs : Rep C s'.heap M (.ref a) (.self ops) := Rep.kept (s := s) (x := .self ops) (.self hbag hops) k' S.mT
      exact wpAny_mono (sp A R M s' (.ref a :: vs) S'.toGs ⟨rs, r'⟩) (fun v s₂ zz => and3 zz fun G r k₂ => ⟨S'.kept k₂ G, r, (k₀.trans k').trans k₂⟩) fun _ _ x => x
theorem Ev_method {x p name apos pos e es} {ops : V} {f : Addr} {ys : List V} {y : V} (m : MethAt C name f) (sp : FnSpec C n (.ref f) (.self ops :: ys) τ₁ y τ₂) (h : EvL C n (e :: es) env σ τ ys τ₁)
    (hx : σ.lookup x = some (.self ops)) (i : isVar env x = true)
    (hb : attributeBase (.Name x p) name env (eval (.Name x p) env) = eval (.Name x p) env := by rfl)
    (hfew : methodCallForm ((e :: es).length + ([] : List Keyword).length) (backTo pos (starEach (e :: es) env)) [] = true := by rfl) (hline : (apos.endLine == pos.line) = true := by rfl)
    (he : starEach (e :: es) env = (false, eval e env) :: starEach es env := by rfl) (hd : (x == ("__debug__" : Str)) = false := by decide) (hc : (x == ("__classdict__" : Str)) = false := by decide) :
    Ev C n (.Call (.Attribute (.Name x p) name apos) (e :: es) [] pos) env σ τ y τ₂ := Ev_methodE m sp (Ev_name hx i hd hc) h hb hfew hline he

structure OpsAt (C : Cx) : Prop where
  pg : plainGet C.K C.bag opsName = true
  hh : hasDictIn C.K C.bag = true
  ha : ∃ attr, findIn C.K (.ref C.bag) opsName = some attr ∧ noGet C.K attr = true

end
end Mine
namespace Mine

theorem rp_pure {C : Cx} {h : Heap} {v : Value} {x : V} (r : Rp C h v x) : x.pure = true := by cases r <;> rfl
theorem rep_of {C : Cx} {h : Heap} {M : List Addr} {v : Value} {x : V} (r : Rp C (hid h M) v x) : Rep C h M v x := (rep_pure (rp_pure r)).mpr r

mutual
noncomputable def V.py : V → PyData
  | .none => .none | .bool b => .bool b | .int i => .int i | .str x => .str x
  | .tup xs => .tuple (pyL xs) | .lst xs => .list (pyL xs)
  | .oL xs => .list (pyL xs)
  | .dct _ | .self _ | .tray | .any | .oD _ => .none
noncomputable def pyL : List V → List PyData
  | [] => []
  | x :: r => x.py :: pyL r
end
mutual
noncomputable def V.plain : V → Bool
  | .none | .bool _ | .int _ | .str _ => true
  | .tup xs | .lst xs => plainL xs
  | .dct _ | .self _ | .tray | .any | .oL _ | .oD _ => false
noncomputable def plainL : List V → Bool
  | [] => true
  | x :: r => x.plain && plainL r
end
mutual
theorem rp_readsV {C : Cx} {h : Heap} : ∀ (x : V), x.plain = true → ∀ {v : Value}, Rp C h v x → ∃ as, Reads h v x.py as
  | .none => fun _ => by intro v r; cases r; exact ⟨_, .none⟩
  | .bool b => fun _ => by intro v r; cases r; exact ⟨_, .bool b⟩
  | .int i => fun _ => by intro v r; cases r; exact ⟨_, .int i _⟩
  | .str x => fun _ => by intro v r; cases r; exact ⟨_, .str x _⟩
  | .tup xs => fun p => by
    intro v r
    obtain ⟨_, _, rfl, ⟨o, n, e, c, d, _⟩, r⟩ := rp_tup r
    obtain ⟨as, q⟩ := rpl_readsV xs p r
    exact ⟨as, .tuple e c d (by simpa using q)⟩
  | .lst xs => fun p => by
    intro v r
    cases r with | lst l r =>
    obtain ⟨n, e⟩ := l
    obtain ⟨as, q⟩ := rpl_readsV xs p r
    exact ⟨_, .list e rfl rfl (by simpa using q)⟩
  | .dct _ => fun hx => by cases hx
  | .self _ => fun hx => by cases hx
  | .tray => fun hx => by cases hx
  | .any => fun hx => by cases hx
  | .oL _ => fun hx => by cases hx
  | .oD _ => fun hx => by cases hx
theorem rpl_readsV {C : Cx} {h : Heap} : ∀ (xs : List V), plainL xs = true → ∀ {vs : List Value}, RpL C h vs xs → ∃ as, ReadsAll h vs (pyL xs) as
  | [] => fun _ => by intro vs r; cases r; exact ⟨_, .nil⟩
  | x :: xs => fun p => by
    intro vs r
    obtain ⟨_, _, rfl, a, b⟩ := rpl_cons r
    have p' := Bool.and_eq_true_iff.mp (show (_ && _) = true from p)
    obtain ⟨as, q⟩ := rp_readsV x p'.1 a
    obtain ⟨bs, r⟩ := rpl_readsV xs p'.2 b
    exact ⟨_, .cons q r⟩
end
theorem Rp.reads {C : Cx} {h : Heap} {v x} (r : Rp C h v x) (p : x.plain = true) : ∃ as, Reads h v x.py as := rp_readsV x p r
theorem RpL.reads {C : Cx} {h : Heap} {vs xs} (r : RpL C h vs xs) (p : plainL xs = true) : ∃ as, ReadsAll h vs (pyL xs) as := rpl_readsV xs p r

noncomputable def V.fine (x : V) : Bool := x.plain && x.py.canLay0
theorem V.fine_plain {x : V} (h : x.fine = true) : x.plain = true := (Bool.and_eq_true_iff.mp h).1
theorem V.fine_lay {x : V} (h : x.fine = true) : x.py.canLay0 = true := (Bool.and_eq_true_iff.mp h).2

section
variable {C : Cx} {n : Nat} {env : Env} {σ : List (Str × V)} {τ τ₁ τ₂ τ₃ : Option Nat}

theorem Rep.rp {C : Cx} {h : Heap} {M : List Addr} {v : Value} {x : V} (r : Rep C h M v x) (p : x.pure = true) : Rp C h v x := ((rep_pure p).mp r).up (hid_sub _ _)
theorem plain_pure {x : V} (h : x.plain = true) : x.pure = true := by cases x <;> first | rfl | exact (Bool.false_ne_true h).elim

noncomputable def CmpR (C : Cx) (n : Nat) (op : CmpOp) (x y : V) (b : Bool) : Prop := ∀ A, Room A n → ∀ M s u v, Rep C s.heap M u x → Rep C s.heap M v y → wpAny (model C.prog C.w) A (compareOp op u v) (fun c s' => c = .bool b ∧ Keeps s s') NoE s

theorem Cmp_eq {x y : V} {b : Bool} (hx : x.fine = true) (hy : y.fine = true) (hd : min x.py.depth y.py.depth ≤ 300) (hb : PyData.eqv x.py y.py = b) : CmpR C n .Eq x y b := fun A R M s u v ru rv => by
  obtain ⟨as, ra⟩ := (ru.rp (plain_pure (V.fine_plain hx))).reads (V.fine_plain hx)
  obtain ⟨bs, rb⟩ := (rv.rp (plain_pure (V.fine_plain hy))).reads (V.fine_plain hy)
  exact SeqAt.compareEq_reads ra rb (V.fine_lay hx) (V.fine_lay hy) (by have := R.un; lia) ⟨by rw [hb], kpRfl s⟩
theorem Cmp_ne {x y : V} {b : Bool} (hx : x.fine = true) (hy : y.fine = true) (hd : min x.py.depth y.py.depth ≤ 300) (hb : (!PyData.eqv x.py y.py) = b) : CmpR C n .NotEq x y b := fun A R M s u v ru rv => by
  obtain ⟨as, ra⟩ := (ru.rp (plain_pure (V.fine_plain hx))).reads (V.fine_plain hx)
  obtain ⟨bs, rb⟩ := (rv.rp (plain_pure (V.fine_plain hy))).reads (V.fine_plain hy)
  exact SeqAt.compareNe_reads ra rb (V.fine_lay hx) (V.fine_lay hy) (by have := R.un; lia) ⟨by rw [hb], kpRfl s⟩
theorem Cmp_in_lst {x : V} {ys : List V} {b : Bool} (hx : x.fine = true) (hy : (V.lst ys).fine = true) (hd : x.py.depth ≤ 300) (hb : ((pyL ys).any fun y => PyData.eqv y x.py) = b) : CmpR C n .In x (.lst ys) b := fun A R M s u v ru rv => by
  obtain ⟨as, ra⟩ := (ru.rp (plain_pure (V.fine_plain hx))).reads (V.fine_plain hx)
  obtain ⟨bs, rb⟩ := (rv.rp rfl).reads (V.fine_plain hy)
  exact SeqAt.in_list_reads rb ra (V.fine_lay hy) (V.fine_lay hx) (by have := R.un; lia) ⟨by rw [hb], kpRfl s⟩
theorem Cmp_notIn_oL {x : V} {ys : List V} {b : Bool} (hx : x.fine = true) (hy : (V.lst ys).fine = true) (hd : x.py.depth ≤ 300) (hb : (!(pyL ys).any fun y => PyData.eqv y x.py) = b) : CmpR C n .NotIn x (.oL ys) b := fun A R M s u v ru rv => by
  obtain ⟨as, ra⟩ := (ru.rp (plain_pure (V.fine_plain hx))).reads (V.fine_plain hx)
  obtain ⟨a, vs, rfl, _, _, l, q⟩ := rv
  obtain ⟨bs, rb⟩ := (Rp.lst l (q.up (hid_sub _ _))).reads (V.fine_plain hy)
  exact SeqAt.notIn_list_reads rb ra (V.fine_lay hy) (V.fine_lay hx) (by have := R.un; lia) ⟨by rw [hb], kpRfl s⟩
theorem Cmp_isNot_none {x : V} {b : Bool} (p : x.pure = true) (hb : (match x with | .none => false | _ => true) = b) : CmpR C n .IsNot x .none b := fun A R M s u v ru rv => by
  have rv' : Rp C (hid s.heap M) v .none := rv
  cases rv'
  refine isNot_none ⟨?_, kpRfl s⟩
  have ru' := (rep_pure p).mp ru
  subst hb
  cases ru' <;> rfl
theorem Ev_cmp {l op r pos} {x y : V} {b : Bool} (hl : Ev C n l env σ τ x τ₁) (hr : Ev C n r env σ τ₁ y τ₂) (hc : CmpR C n op x y b) (hm : behindInMarks op r = false := by with_unfolding_all rfl) :
    Ev C n (.Compare l [op] [r] pos) env σ τ (.bool b) τ₂ := fun A R M s S =>
  wpAny_Compare1 (wpAny_mono (hl A R M s S) (fun u s₁ zz => and3 zz fun S₁ r₁ k₁ => wpAny_mono (hr A R M s₁ S₁) (fun v s₂ zz => and3 zz fun S₂ r₂ k₂ =>
    wpAny_mono (hc A R M s₂ u v (r₁.kept k₂ S.mT) r₂) (fun c s₃ zz => and2 zz fun e k₃ => ⟨S₂.keeps k₃, e ▸ .bool b, (k₁.trans k₂).trans (.of k₃)⟩) fun _ _ x => x) fun _ _ x => x) fun _ _ x => x) hm

theorem Tst_cmp {l op r pos} {x y : V} {b : Bool} (hl : Ev C n l env σ τ x τ₁) (hr : Ev C n r env σ τ₁ y τ₂) (hc : CmpR C n op x y b) (hm : behindInMarks op r = false := by with_unfolding_all rfl) :
    Tst C n (.Compare l [op] [r] pos) env σ τ b τ₂ := fun A R M s S =>
  wpAny_isTrue_Compare1 (wpAny_mono (hl A R M s S) (fun u s₁ zz => and3 zz fun S₁ r₁ k₁ => wpAny_mono (hr A R M s₁ S₁) (fun v s₂ zz => and3 zz fun S₂ r₂ k₂ =>
    wpAny_mono (hc A R M s₂ u v (r₁.kept k₂ S.mT) r₂) (fun c s₃ zz => and2 zz fun e k₃ => e ▸ wpAny_truthy_bool ⟨rfl, S₂.keeps k₃, (k₁.trans k₂).trans (.of k₃)⟩) fun _ _ x => x) fun _ _ x => x) fun _ _ x => x) hm

theorem Tst_val {e : PySem.Expr} {b : Bool} (h : Ev C n e env σ τ (.bool b) τ₁) (he : ∀ whole, isTrue e env whole = (do let v ← whole; standAt e.pos; holding [v] (truthy v)) := by intro _; rfl) : Tst C n e env σ τ b τ₁ := fun A R M s S =>
  wpAny_isTrue_value (wpAny_mono (h A R M s S) (fun v s₁ zz => and3 zz fun S₁ r₁ k₁ => by
    have r₁' : Rp C (hid s₁.heap M) v (.bool b) := r₁
    cases r₁'
    exact wpAny_truthy_bool ⟨rfl, S₁, k₁⟩) fun _ _ x => x) (he _)
theorem Tst_not {x pos} {b : Bool} (h : Tst C n x env σ τ b τ₁) : Tst C n (.UnaryOp .Not x pos) env σ τ (!b) τ₁ := fun A R M s S =>
  wpAny_isTrue_Not (wpAny_mono (h A R M s S) (fun v s₁ zz => and3 zz fun e S₁ k₁ => ⟨by rw [e], S₁, k₁⟩) fun _ _ x => x)
theorem Tst_and2 {x y pos} {a b : Bool} {τ₂ : Option Nat} (hx : Tst C n x env σ τ a τ₁) (hy : a = true → Tst C n y env σ τ₁ b τ₂) (hn : a = false → τ₁ = τ₂) : Tst C n (.BoolOp .And [x, y] pos) env σ τ (a && b) τ₂ := fun A R M s S =>
  wpAny_isTrue_BoolOp (wpAny_allTrue_And_cons (wpAny_mono (hx A R M s S) (fun v s₁ zz => and3 zz fun e S₁ k₁ => by
    subst e
    cases v with
    | false => simp only [Bool.false_eq_true, if_false, Bool.false_and]; exact ⟨trivial, hn rfl ▸ S₁, k₁⟩
    | true =>
      simp only [if_true]
      exact wpAny_allTrue_And_cons (wpAny_mono (hy rfl A R M s₁ S₁) (fun v s₂ zz => and3 zz fun e S₂ k₂ => by
        subst e
        cases v with
        | false => exact ⟨rfl, S₂, k₁.trans k₂⟩
        | true => exact wpAny_allTrue_And_nil ⟨rfl, S₂, k₁.trans k₂⟩) fun _ _ x => x)) fun _ _ x => x))
theorem Tst_or2 {x y pos} {a b : Bool} {τ₂ : Option Nat} (hx : Tst C n x env σ τ a τ₁) (hy : a = false → Tst C n y env σ τ₁ b τ₂) (hn : a = true → τ₁ = τ₂) : Tst C n (.BoolOp .Or [x, y] pos) env σ τ (a || b) τ₂ := fun A R M s S =>
  wpAny_isTrue_BoolOp (wpAny_allTrue_Or_cons (wpAny_mono (hx A R M s S) (fun v s₁ zz => and3 zz fun e S₁ k₁ => by
    subst e
    cases v with
    | true => simp only [if_true, Bool.true_or]; exact ⟨trivial, hn rfl ▸ S₁, k₁⟩
    | false =>
      simp only [Bool.false_eq_true, if_false]
      exact wpAny_allTrue_Or_cons (wpAny_mono (hy rfl A R M s₁ S₁) (fun v s₂ zz => and3 zz fun e S₂ k₂ => by
        subst e
        cases v with
        | true => exact ⟨rfl, S₂, k₁.trans k₂⟩
        | false => exact wpAny_allTrue_Or_nil ⟨rfl, S₂, k₁.trans k₂⟩) fun _ _ x => x)) fun _ _ x => x))
theorem Tst_or3 {x y z pos} {a b c : Bool} (hx : Tst C n x env σ τ a τ) (hy : a = false → Tst C n y env σ τ b τ) (hz : a = false → b = false → Tst C n z env σ τ c τ) : Tst C n (.BoolOp .Or [x, y, z] pos) env σ τ (a || b || c) τ := fun A R M s S =>
  wpAny_isTrue_BoolOp (wpAny_allTrue_Or_cons (wpAny_mono (hx A R M s S) (fun v s₁ zz => and3 zz fun e S₁ k₁ => by
    subst e
    cases v with
    | true => simp only [if_true, Bool.true_or]; exact ⟨trivial, S₁, k₁⟩
    | false =>
      simp only [Bool.false_eq_true, if_false]
      exact wpAny_allTrue_Or_cons (wpAny_mono (hy rfl A R M s₁ S₁) (fun v s₂ zz => and3 zz fun e S₂ k₂ => by
        subst e
        cases v with
        | true => exact ⟨rfl, S₂, k₁.trans k₂⟩
        | false => exact wpAny_allTrue_Or_cons (wpAny_mono (hz rfl rfl A R M s₂ S₂) (fun v s₃ zz => and3 zz fun e S₃ k₃ => by
            subst e
            cases v with
            | true => exact ⟨rfl, S₃, (k₁.trans k₂).trans k₃⟩
            | false => exact wpAny_allTrue_Or_nil ⟨rfl, S₃, (k₁.trans k₂).trans k₃⟩) fun _ _ x => x)) fun _ _ x => x)) fun _ _ x => x))

theorem Ev_and2 {x y pos} {a b : Bool} (hx : Ev C n x env σ τ (.bool a) τ₁) (hy : a = true → Ev C n y env σ τ₁ (.bool b) τ₂) (hn : a = false → τ₁ = τ₂) : Ev C n (.BoolOp .And [x, y] pos) env σ τ (.bool (a && b)) τ₂ := fun A R M s S =>
  wpAny_And2 (wpAny_mono (hx A R M s S) (fun v s₁ zz => and3 zz fun S₁ r₁ k₁ => by
    have r₁' : Rp C (hid s₁.heap M) v (.bool a) := r₁
    cases r₁'
    refine wpAny_truthy_bool ?_
    cases a with
    | false => simp only [Bool.false_eq_true, if_false, Bool.false_and]; exact ⟨hn rfl ▸ S₁, .bool _, k₁⟩
    | true =>
      simp only [if_true, Bool.true_and]
      exact wpAny_mono (hy rfl A R M s₁ S₁) (fun v s₂ zz => and3 zz fun S₂ r₂ k₂ => ⟨S₂, r₂, k₁.trans k₂⟩) fun _ _ x => x) fun _ _ x => x)

theorem Ev_ifexp {t a b pos} {c : Bool} {y : V} (ht : Tst C n t env σ τ c τ₁) (ha : c = true → Ev C n a env σ τ₁ y τ₂) (hb : c = false → Ev C n b env σ τ₁ y τ₂) : Ev C n (.IfExp t a b pos) env σ τ y τ₂ := fun A R M s S =>
  wpAny_IfExp (wpAny_mono (ht A R M s S) (fun v s₁ zz => and3 zz fun e S₁ k₁ => by
    subst e
    cases v with
    | true => exact wpAny_mono (ha rfl A R M s₁ S₁) (fun v s₂ zz => and3 zz fun S₂ r₂ k₂ => ⟨S₂, r₂, k₁.trans k₂⟩) fun _ _ x => x
    | false => exact wpAny_mono (hb rfl A R M s₁ S₁) (fun v s₂ zz => and3 zz fun S₂ r₂ k₂ => ⟨S₂, r₂, k₁.trans k₂⟩) fun _ _ x => x) fun _ _ x => x)

noncomputable def V.items : V → Option (List V)
  | .tup xs | .lst xs | .oL xs => some xs
  | .none | .bool _ | .int _ | .str _ | .dct _ | .self _ | .tray | .any | .oD _ => .none

theorem idx_pos {i : Int} {n j : Nat} (h : seqIndex? i n = some j) (h0 : 0 ≤ i) : j = i.toNat := by
  have h1 : ¬ i < 0 := by lia
  simp only [seqIndex?, h1, if_false] at h
  split at h
  · cases h; rfl
  · cases h
theorem idx_neg {i : Int} {n j : Nat} (h : seqIndex? i n = some j) (h0 : ¬ 0 ≤ i) : j = (i + n).toNat ∧ -(n : Int) ≤ i := by
  have h1 : i < 0 := by lia
  simp only [seqIndex?, h1, if_true] at h
  split at h
  · rename_i hc
    cases h
    have := of_decide_eq_true (Bool.and_eq_true_iff.mp hc).1
    exact ⟨rfl, by lia⟩
  · cases h

theorem items_rep {h : Heap} {M : List Addr} {v : Value} {x : V} {xs : List V} (r : Rep C h M v x) (e : x.items = some xs) :
    ∃ a vs, v = .ref a ∧ (h.IsList a vs.toArray ∨ IsTup h a vs) ∧ RpL C (hid h M) vs xs := by
  cases x with
  | tup ys =>
    cases e
    obtain ⟨a, vs, e, l, q⟩ := rp_tup r
    exact ⟨a, vs, e, .inr (l.up (hid_sub _ _)), q⟩
  | lst ys =>
    cases e
    obtain ⟨a, vs, e, l, q⟩ := rp_lst r
    exact ⟨a, vs, e, .inl (l.up (hid_sub _ _)).isList, q⟩
  | oL ys =>
    cases e
    obtain ⟨a, vs, e, _, _, l, q⟩ := r
    exact ⟨a, vs, e, .inl l.isList, q⟩
  | _ => cases e

theorem Ev_item {value slice pos} {x y : V} {xs : List V} {i : Int} {j : Nat} (hv : Ev C n value env σ τ x τ₁) (hs : Ev C n slice env σ τ₁ (.int i) τ₂) (hx : x.items = some xs) (hj : seqIndex? i xs.length = some j) (hy : xs[j]? = some y)
    (hlo : -(2 ^ 63) ≤ i) (hhi : i < 2 ^ 63) (he : ∀ a t, subscripted slice false (.ref a) (.int i t) = operate [.ref a, .int i t] (getItem (.ref a) (.int i t)) := by intro _ _; with_unfolding_all rfl) :
    Ev C n (.Subscript value slice pos) env σ τ y τ₂ := fun A R M s S =>
  Subscript_ (wpAny_mono (hv A R M s S) (fun u s₁ zz => and3 zz fun S₁ r₁ k₁ => wpAny_mono (hs A R M s₁ S₁) (fun v s₂ zz => and3 zz fun S₂ r₂ k₂ => by
    have r₁' := r₁.kept k₂ S.mT
    have r₂' : Rp C (hid s₂.heap M) v (.int i) := r₂
    cases r₂' with
    | int i t =>
    obtain ⟨a, vs, rfl, l, q⟩ := items_rep r₁' hx
    obtain ⟨w, hw, rw⟩ := q.get hy
    have fin : St C M env σ τ₂ s₂ ∧ Rep C s₂.heap M w y ∧ Kept C s s₂ := ⟨S₂, rep_of rw, k₁.trans k₂⟩
    rcases l with l | l
    · refine tail_any l.typeIs slot_list_getitem.lookup ?_ (he a t)
      have hlen := q.length
      by_cases h0 : 0 ≤ i
      · have hj' := idx_pos hj h0
        exact wpAny_getItem_list l h0 hhi (x := w) (by simpa [← hj'] using hw) fin
      · obtain ⟨hj', h1⟩ := idx_neg hj h0
        exact wpAny_getItem_list_neg l (by lia) (by simp only [List.size_toArray, hlen]; assumption) hlo (x := w) (by simpa [hlen, ← hj'] using hw) fin
    · exact tail_any (T := "tuple") l.isTuple.typeIs slot_tuple_getitem.lookup (PyProof.Rows.getItem_tuple l.isTuple hlo hhi (j := j) (by simpa [q.length] using hj) (by simpa using hw) fin) (he a t)) fun _ _ x => x) fun _ _ x => x)

end
end Mine
namespace Mine

section
variable {C : Cx} {n : Nat} {env : Env} {σ : List (Str × V)} {τ τ₁ τ₂ τ₃ : Option Nat}

noncomputable def BinR (C : Cx) (n : Nat) (op : Operator) (x y z : V) : Prop :=
  ∀ A, Room A n → ∀ M s τ u v, Gs C M τ s → Rep C s.heap M u x → Rep C s.heap M v y → wpAny (model C.prog C.w) A (binaryOp op u v) (fun r s' => Rep C s'.heap M r z ∧ Keeps s s') NoE s

theorem Ev_bin {l op r pos} {x y z : V} (hl : Ev C n l env σ τ x τ₁) (hr : Ev C n r env σ τ₁ y τ₂) (hb : BinR C n op x y z) : Ev C n (.BinOp l op r pos) env σ τ z τ₂ := fun A R M s S =>
  wpAny_BinOp (wpAny_mono (hl A R M s S) (fun u s₁ zz => and3 zz fun S₁ r₁ k₁ => wpAny_mono (hr A R M s₁ S₁) (fun v s₂ zz => and3 zz fun S₂ r₂ k₂ =>
    wpAny_mono (hb A R M s₂ τ₂ u v S₂.toGs (r₁.kept k₂ S.mT) r₂) (fun c s₃ zz => and2 zz fun e k₃ => ⟨S₂.keeps k₃, e, (k₁.trans k₂).trans (.of k₃)⟩) fun _ _ x => x) fun _ _ x => x) fun _ _ x => x)

theorem rep_int {h : Heap} {M : List Addr} {v : Value} {i : Int} (r : Rep C h M v (.int i)) : ∃ t, v = .int i t := by
  have r' : Rp C (hid h M) v (.int i) := r
  cases r'; exact ⟨_, rfl⟩
theorem rep_str {h : Heap} {M : List Addr} {v : Value} {i : Str} (r : Rep C h M v (.str i)) : ∃ t, v = .str i t := by
  have r' : Rp C (hid h M) v (.str i) := r
  cases r'; exact ⟨_, rfl⟩
theorem rep_bool {h : Heap} {M : List Addr} {v : Value} {i : Bool} (r : Rep C h M v (.bool i)) : v = .bool i := by
  have r' : Rp C (hid h M) v (.bool i) := r
  cases r'; rfl
theorem rep_none {h : Heap} {M : List Addr} {v : Value} (r : Rep C h M v .none) : v = .none := by
  have r' : Rp C (hid h M) v .none := r
  cases r'; rfl
theorem rep_tup {h : Heap} {M : List Addr} {v : Value} {xs : List V} (r : Rep C h M v (.tup xs)) : ∃ a vs, v = .ref a ∧ IsTup (hid h M) a vs ∧ RpL C (hid h M) vs xs := by
  have r' : Rp C (hid h M) v (.tup xs) := r
  cases r' with | tup a b => exact ⟨_, _, rfl, a, b⟩
theorem rep_lst {h : Heap} {M : List Addr} {v : Value} {xs : List V} (r : Rep C h M v (.lst xs)) : ∃ a, ∃ vs : List Value, v = .ref a ∧ (hid h M).IsList a vs.toArray ∧ RpL C (hid h M) vs xs := by
  have r' : Rp C (hid h M) v (.lst xs) := r
  cases r' with | lst a b => exact ⟨_, _, rfl, a.isList, b⟩
theorem rep_lstE {h : Heap} {M : List Addr} {v : Value} {xs : List V} (r : Rep C h M v (.lst xs)) : ∃ a vs, v = .ref a ∧ IsLst (hid h M) a vs ∧ RpL C (hid h M) vs xs := by
  have r' : Rp C (hid h M) v (.lst xs) := r
  cases r' with | lst a b => exact ⟨_, _, rfl, a, b⟩
theorem IsTup.of_hid {h : Heap} {M : List Addr} {a vs} (x : IsTup (hid h M) a vs) : IsTup h a vs := x.up (hid_sub _ _)
theorem isList_of_hid {h : Heap} {M : List Addr} {a : Addr} {vs : Array Value} (x : (hid h M).IsList a vs) : h.IsList a vs := x.at fun _ e => hid_sub _ _ _ _ e

theorem Bin_add_int {a b : Int} : BinR C n .Add (.int a) (.int b) (.int (a + b)) := fun A R M s τ u v G ru rv => by
  obtain ⟨t, rfl⟩ := rep_int ru; obtain ⟨t', rfl⟩ := rep_int rv
  exact add_int ⟨.int _ _, kpTok s _⟩
theorem Bin_sub_int {a b : Int} : BinR C n .Sub (.int a) (.int b) (.int (a - b)) := fun A R M s τ u v G ru rv => by
  obtain ⟨t, rfl⟩ := rep_int ru; obtain ⟨t', rfl⟩ := rep_int rv
  exact sub_int ⟨.int _ _, kpTok s _⟩
theorem Bin_mul_int {a b : Int} (hm : IntMulOk a b) : BinR C n .Mult (.int a) (.int b) (.int (a * b)) := fun A R M s τ u v G ru rv => by
  obtain ⟨t, rfl⟩ := rep_int ru; obtain ⟨t', rfl⟩ := rep_int rv
  exact mul_int ⟨.int _ _, kpTok s _⟩ hm
theorem Bin_mod_int {a b : Int} (hb : b ≠ 0) : BinR C n .Mod (.int a) (.int b) (.int (a.fmod b)) := fun A R M s τ u v G ru rv => by
  obtain ⟨t, rfl⟩ := rep_int ru; obtain ⟨t', rfl⟩ := rep_int rv
  exact mod_int' hb ⟨.int _ _, kpTok s _⟩
theorem Bin_add_lst {xs ys : List V} (hl : xs.length + ys.length ≤ sizeLine) : BinR C n .Add (.lst xs) (.lst ys) (.lst (xs ++ ys)) := fun A R M s τ u v G ru rv => by
  obtain ⟨a, vs, rfl, la, qa⟩ := rep_lst ru; obtain ⟨b, ws, rfl, lb, qb⟩ := rep_lst rv
  obtain ⟨⟨cls, dd, data, sl⟩, ho, hc, m, hd⟩ := isList_of_hid la
  obtain ⟨⟨cls2, dd2, data2, sl2⟩, ho2, hc2, m2, hd2⟩ := isList_of_hid lb
  simp only at hc hd hc2 hd2
  subst hc hd hc2 hd2
  have e : vs.toArray ++ ws.toArray = (vs ++ ws).toArray := by simp
  refine concat_meets ⟨_, ho, rfl⟩ ⟨_, ho2, rfl⟩ noFill_list_add seq_list_add PySem.F.slot_list_add PySem.F.entry_list_add (PySem.F.args_list_add_2 _ _) (list_addW a b vs.toArray ws.toArray m m2 dd dd2 sl sl2 (by simpa [qa.length, qb.length] using hl)) ⟨ho, ho2, ?_⟩
  rw [e]
  exact ⟨push_lst G (qa.app qb), kpPush s _⟩
theorem Bin_add_tup {xs ys : List V} (hl : xs.length + ys.length ≤ sizeLine) : BinR C n .Add (.tup xs) (.tup ys) (.tup (xs ++ ys)) := fun A R M s τ u v G ru rv => by
  obtain ⟨a, vs, rfl, la, qa⟩ := rep_tup ru; obtain ⟨b, ws, rfl, lb, qb⟩ := rep_tup rv
  obtain ⟨⟨ca, da, dta, sla⟩, m, ea, c1, d1, n1⟩ := la.of_hid
  obtain ⟨⟨cb, db, dtb, slb⟩, m2, eb, c2, d2, n2⟩ := lb.of_hid
  simp only at c1 d1 c2 d2
  subst c1 d1 c2 d2
  have e : vs.toArray ++ ws.toArray = (vs ++ ws).toArray := by simp
  by_cases h1 : vs.toArray.isEmpty = true
  · have h0 : vs = [] := by simpa using h1
    subst h0
    have h2 : xs = [] := by cases qa; rfl
    subst h2
    exact concat_meets ⟨_, ea, rfl⟩ ⟨_, eb, rfl⟩ noFill_tuple_add seq_tuple_add PySem.F.slot_tuple_add PySem.F.entry_tuple_add (PySem.F.args_tuple_add_2 _ _) (tuple_addW0 a b _ ws.toArray m m2 _ _ _ _ h1) ⟨ea, eb, rv, kpRfl s⟩
  · by_cases h2 : ws.toArray.isEmpty = true
    · have h0 : ws = [] := by simpa using h2
      subst h0
      have h3 : ys = [] := by cases qb; rfl
      subst h3
      exact concat_meets ⟨_, ea, rfl⟩ ⟨_, eb, rfl⟩ noFill_tuple_add seq_tuple_add PySem.F.slot_tuple_add PySem.F.entry_tuple_add (PySem.F.args_tuple_add_2 _ _) (tuple_addW1 a b _ _ m m2 _ _ _ _ h1 h2) ⟨ea, eb, by rw [List.append_nil]; exact ru, kpRfl s⟩
    · refine concat_meets ⟨_, ea, rfl⟩ ⟨_, eb, rfl⟩ noFill_tuple_add seq_tuple_add PySem.F.slot_tuple_add PySem.F.entry_tuple_add (PySem.F.args_tuple_add_2 _ _) (tuple_addW2 a b _ _ m m2 _ _ _ _ h1 h2 (by simpa [qa.length, qb.length] using hl)) ⟨ea, eb, ?_⟩
      rw [e]
      exact ⟨push_tup G (qa.app qb), kpPush s _⟩

theorem Cmp_lt_int {a b : Int} {c : Bool} (h : decide (a < b) = c) : CmpR C n .Lt (.int a) (.int b) c := fun A R M s u v ru rv => by
  obtain ⟨t, rfl⟩ := rep_int ru; obtain ⟨t', rfl⟩ := rep_int rv
  exact lt_int ⟨by rw [h], kpRfl s⟩
theorem Cmp_gt_int {a b : Int} {c : Bool} (h : decide (b < a) = c) : CmpR C n .Gt (.int a) (.int b) c := fun A R M s u v ru rv => by
  obtain ⟨t, rfl⟩ := rep_int ru; obtain ⟨t', rfl⟩ := rep_int rv
  exact gt_int ⟨by rw [← h], kpRfl s⟩

theorem Bu_len {x : V} {xs : List V} (e : x.items = some xs) (hl : xs.length ≤ sizeLine) : BuSpec C n (.builtin "len") [x] (.int xs.length) := fun A R M s vs τ G r => by
  obtain ⟨v, rfl, q₀⟩ := repL_one r
  replace r := q₀
  obtain ⟨a, ws, rfl, l, q⟩ := items_rep r e
  have hfit : (ws.toArray.size : Int) < 2 ^ 63 := by rw [List.size_toArray, q.length]; rw [sizeLine_eq] at hl; lia
  have e2 : (ws.toArray.size : Int) = xs.length := by rw [List.size_toArray, q.length]
  have e3 : Rep C s.heap M (.int (ws.toArray.size : Int) (s.toks + 1)) (.int xs.length) ∧ Keeps s { s with toks := s.toks + 1 + 1 } := ⟨by rw [e2]; exact .int _ _, kpTok s _⟩
  rcases l with l | l
  · exact call_len_list l hfit e3
  · exact PyProof.Rows.len_tuple l.isTuple hfit e3

theorem Ev_tup_from {value pos p i k pi} {xs : List V} {a : Nat} (hv : Ev C n value env σ τ (.tup xs) τ₁) (ha : i = ((a : Nat) : Int)) (h1 : 1 ≤ a) (h2 : a ≤ xs.length) (hl : xs.length ≤ sizeLine) :
    Ev C n (.Subscript value (.Slice (some (.Constant (.int i) k pi)) .none .none p) pos) env σ τ (.tup (xs.drop a)) τ₁ := fun A R M s S => by
  subst ha
  refine Subscript_ (wpAny_mono (hv A R M s S) (fun u s₁ zz => and3 zz fun S₁ r₁ k₁ => ?_) fun _ _ x => x)
  refine wpAny_Slice ?_
  show wpAny _ _ (eval (.Constant (.int (a : Int)) k pi) env) _ _ _
  refine wpAny_Constant_int ?_
  rw [evalPart_none]
  refine wpAny_pure (wpAny_pure ?_)
  obtain ⟨t, vs, rfl, l, q⟩ := rep_tup r₁
  obtain ⟨ob, m, e, hc, hd, _⟩ := l.of_hid
  have up : ∀ o, (s₁.heap.push o).get? t = some ob := fun o => Heap.get?_push_of_some o e
  refine tail_any (T := "tuple") ⟨_, up _, hc⟩ slot_tuple_getitem.lookup (getItem_tuple_from (items := vs.toArray) (a := a) (u := s₁.toks) ⟨_, up _, hc, m, hd⟩ ?_ h1 (by simpa [q.length] using h2) ?_ (by simpa [q.length] using hl)) (by with_unfolding_all rfl)
  · exact Heap.IsSliceOf.new ..
  · have K1 : Keeps s₁ { s₁ with heap := s₁.heap.push { cls := .type "slice", data := .fields #[.int (a : Int) s₁.toks, .none, .none] }, toks := s₁.toks + 1 } := ⟨_, _, rfl, fun _ _ e => Heap.get?_push_of_some _ e⟩
    have G1 := S₁.keeps K1
    have e2 : (vs.toArray.toList.drop a).toArray = (vs.drop a).toArray := by simp
    simp only [e2]
    exact ⟨G1.keeps (kpPush _ _), push_tup G1.toGs ((q.drop a).up (hid_all fun _ _ e => Heap.get?_push_of_some _ e)), (k₁.trans (.of K1)).trans (.of (kpPush _ _))⟩

noncomputable def pick (xs : List V) (lo hi st : Option Int) : List V :=
  (sliceRange (sliceBounds lo hi st xs.length).1 (sliceBounds lo hi st xs.length).2.1 (sliceBounds lo hi st xs.length).2.2).filterMap (xs[·]?)

theorem RpL.pick {h : Heap} : ∀ {is : List Nat} {vs : List Value} {xs : List V}, RpL C h vs xs → RpL C h (is.filterMap (vs[·]?)) (is.filterMap (xs[·]?))
  | [], _, _, _ => .nil
  | i :: is, vs, xs, r => by
    cases e : xs[i]? with
    | none =>
      have e' : vs[i]? = Option.none := by
        rw [List.getElem?_eq_none_iff] at e ⊢
        rw [r.length]; exact e
      simp only [List.filterMap_cons, e, e']
      exact RpL.pick r
    | some x =>
      obtain ⟨v, e', rv⟩ := r.get e
      simp only [List.filterMap_cons, e, e']
      exact .cons rv (RpL.pick r)

noncomputable def EvO (C : Cx) (n : Nat) (e : Option PySem.Expr) (env : Env) (σ : List (Str × V)) (τ : Option Nat) (i : Option Int) : Prop :=
  ∀ A, Room A n → ∀ M s, St C M env σ τ s → wpAny (model C.prog C.w) A (evalPart e env) (fun v s' => St C M env σ τ s' ∧ IsPart v i ∧ Kept C s s') NoE s
theorem EvO_none : EvO C n .none env σ τ .none := fun _ _ _ _ S => by rw [evalPart_none]; exact wpAny_pure ⟨S, .none, .refl ..⟩
theorem EvO_some {e : PySem.Expr} {i : Int} (h : Ev C n e env σ τ (.int i) τ) : EvO C n (some e) env σ τ (some i) := fun A R M s S => by
  show wpAny _ _ (eval e env) _ _ _
  refine wpAny_mono (h A R M s S) (fun v s' zz => and3 zz fun S' r k => ?_) fun _ _ x => x
  obtain ⟨t, rfl⟩ := rep_int r
  exact ⟨S', .int _ _, k⟩

theorem sliceApp {slice : PySem.Expr} (lower upper step : Option PySem.Expr) (p : Pos) (e : slice = .Slice lower upper step p) (o i : Value) : ∃ ops, subscripted slice false o i = operate ops (getItem o i) := by
  subst e
  cases step with
  | none => exact ⟨_, rfl⟩
  | some _ => exact ⟨_, rfl⟩

theorem Ev_slice {value pos p lower upper step} {x : V} {xs : List V} {lo hi st : Option Int} (hv : Ev C n value env σ τ x τ₁) (h1 : EvO C n lower env σ τ₁ lo) (h2 : EvO C n upper env σ τ₁ hi) (h3 : EvO C n step env σ τ₁ st)
    (hx : x = .lst xs ∨ x = .oL xs) (h0 : st ≠ some 0) (hl : xs.length ≤ sizeLine) :
    Ev C n (.Subscript value (.Slice lower upper step p) pos) env σ τ (.lst (pick xs lo hi st)) τ₁ := fun A R M s S => by
  refine Subscript_ (wpAny_mono (hv A R M s S) (fun u s₁ zz => and3 zz fun S₁ r₁ k₁ => ?_) fun _ _ x => x)
  refine wpAny_Slice (wpAny_mono (h1 A R M s₁ S₁) (fun v1 s₂ zz => and3 zz fun S₂ p1 k₂ => wpAny_mono (h2 A R M s₂ S₂) (fun v2 s₃ zz => and3 zz fun S₃ p2 k₃ => wpAny_mono (h3 A R M s₃ S₃) (fun v3 s₄ zz => and3 zz fun S₄ p3 k₄ => ?_) fun _ _ x => x) fun _ _ x => x) fun _ _ x => x)
  have kk := (k₂.trans k₃).trans k₄
  have r' := r₁.kept kk S.mT
  obtain ⟨a, vs, rfl, l, q⟩ : ∃ a, ∃ vs : List Value, u = .ref a ∧ s₄.heap.IsList a vs.toArray ∧ RpL C (hid s₄.heap M) vs xs := by
    rcases hx with rfl | rfl
    · obtain ⟨a, vs, e, l, q⟩ := rep_lst r'; exact ⟨a, vs, e, isList_of_hid l, q⟩
    · obtain ⟨a, vs, e, _, _, l, q⟩ := r'; exact ⟨a, vs, e, l.isList, q⟩
  have G4 := S₄.keeps (kpPush s₄ { cls := .type "slice", data := .fields #[v1, v2, v3] })
  have l' : (s₄.heap.push { cls := .type "slice", data := .fields #[v1, v2, v3] }).IsList a vs.toArray := l.push _
  obtain ⟨ops, hops⟩ := sliceApp lower upper step p rfl (.ref a) (.ref s₄.heap.objs.size)
  refine tail_any (T := "list") (Heap.IsList.typeIs (s := { s₄ with heap := s₄.heap.push { cls := .type "slice", data := .fields #[v1, v2, v3] } }) l') list_getitem_lookup
    (wpAny_getItem_list_slice l' (Heap.IsSliceOf.new ..) p1 p2 p3 h0 ?_ (by simpa [q.length] using hl)) hops
  have e2 : slicePick vs.toArray lo hi st = ((sliceRange (sliceBounds lo hi st xs.length).1 (sliceBounds lo hi st xs.length).2.1 (sliceBounds lo hi st xs.length).2.2).filterMap (vs[·]?)).toArray := by
    unfold slicePick
    simp [q.length]
  rw [e2]
  exact ⟨G4.keeps (kpPush _ _), push_lst G4.toGs ((RpL.pick q).up (hid_all fun _ _ e => Heap.get?_push_of_some _ e)), ((k₁.trans kk).trans (.of (kpPush _ _))).trans (.of (kpPush _ _))⟩

end
end Mine
namespace Mine

noncomputable def upd (ρ : Str → Option Value) (x : Str) (v : Value) : Str → Option Value := fun y => if y = x then some v else ρ y
noncomputable def ownVar (env : Env) (x : Str) : Bool := match env.kindOf x with
  | some .local | some .cell => true
  | _ => false
noncomputable def placeOf (env : Env) (x : Str) : Option Addr := match env.kindOf x with
  | some .local => some env.locals
  | _ => env.cells.lookup x
theorem own_of {env : Env} {x : Str} (i : ownVar env x = true) : env.kindOf x = some .local ∨ env.kindOf x = some .cell := by
  delta ownVar at i
  revert i
  cases env.kindOf x with
  | none => exact fun i => (Bool.false_ne_true i).elim
  | some k => cases k <;> first | exact fun i => (Bool.false_ne_true i).elim | exact fun _ => .inl rfl | exact fun _ => .inr rfl
theorem place_of {env : Env} {x : Str} {p : Addr} (h : placeOf env x = some p) : p = env.locals ∨ env.cells.lookup x = some p := by
  delta placeOf at h
  revert h
  cases env.kindOf x with
  | none => exact .inr
  | some k => cases k <;> first | exact .inr | exact fun h => .inl (Option.some.inj h).symm
theorem place_alive {C : Cx} {env : Env} {h : Heap} {ρ : Str → Option Value} (F : FrameAt C env h ρ) {x : Str} {p : Addr} (hx : ownVar env x = true) (hp : placeOf env x = some p) : ∃ o, h.get? p = some o := by
  rcases own_of hx with q | q
  · delta placeOf at hp
    rw [q] at hp; cases hp
    obtain ⟨m, ⟨o, _, _, e, _⟩, _⟩ := F.ns; exact ⟨o, e⟩
  · delta placeOf at hp
    rw [q] at hp
    obtain ⟨c, e, o, ho, _⟩ := F.cell x (.inl q)
    have : some c = some p := e.symm.trans hp
    cases this; exact ⟨o, ho⟩

theorem cell_ne_ns {h : Heap} {L c : Addr} {m : Str → Option Value} {v : Option Value} (n : h.Ns L m) (k : h.IsCell c v) : c ≠ L := fun q => by
  subst q
  obtain ⟨o, es, ep, ho, hd, _⟩ := n
  obtain ⟨o', ho', hd'⟩ := k
  rw [ho] at ho'; cases ho'
  rw [hd] at hd'; cases hd'

section
variable {C : Cx} {n : Nat} {env : Env} {σ : List (Str × V)} {τ τ₁ τ₂ τ₃ : Option Nat}

theorem frame_store {M : Model} {A : Around} {E : Value → Shared → Prop} {s : Shared} {ρ : Str → Option Value} {x : Str} {v : Value} {Q : Unit → Shared → Prop} (F : FrameAt C env s.heap ρ) (hk : env.scope.kind = .function) (hx : ownVar env x = true)
    (h : ∀ h' tk p, placeOf env x = some p → FrameAt C env h' (upd ρ x v) → Heap.SameBut p s.heap h' → Q () { s with heap := h', toks := tk }) : wpAny M A (storeName env x v) Q E s := by
  obtain ⟨m, hn, hm⟩ := F.ns
  rcases own_of hx with q | q
  · refine wpAny_storeName_local q hn (fun h' n' sb => h h' _ env.locals (by delta placeOf; rw [q]) ⟨⟨_, n', fun y hy => ?_⟩, fun y hy => ?_, F.apart, F.notT⟩ sb) (by rw [hk]; rfl)
    · show (if y = x then some v else m y) = (if y = x then some v else ρ y)
      rw [hm y hy]
    · obtain ⟨c, e, hc⟩ := F.cell y hy
      refine ⟨c, e, ?_⟩
      have hyx : y ≠ x := fun z => by subst z; rcases hy with hy | hy <;> (rw [q] at hy; cases hy)
      have : upd ρ x v y = ρ y := by unfold upd; rw [if_neg hyx]
      rw [this]
      exact hc.sameBut sb (cell_ne_ns hn hc)
  · obtain ⟨c, e, hc⟩ := F.cell x (.inl q)
    refine wpAny_storeName_cell hk q e hc fun h' hc' sb => h h' _ c (by delta placeOf; rw [q]; exact e) ⟨⟨m, hn.sameBut sb (Ne.symm (cell_ne_ns hn hc)), fun y hy => ?_⟩, fun y hy => ?_, F.apart, F.notT⟩ sb
    · have hyx : y ≠ x := fun z => by subst z; rw [q] at hy; cases hy
      show m y = if y = x then some v else ρ y
      rw [if_neg hyx]; exact hm y hy
    · obtain ⟨c', e', hc''⟩ := F.cell y hy
      refine ⟨c', e', ?_⟩
      by_cases hyx : y = x
      · subst hyx
        rw [e] at e'; cases e'
        have : upd ρ y v y = some v := by unfold upd; rw [if_pos rfl]
        rw [this]; exact hc'
      · have : upd ρ x v y = ρ y := by unfold upd; rw [if_neg hyx]
        rw [this]
        exact hc''.sameBut sb fun z => hyx (F.apart y x c' e' (z ▸ e))

structure Fw (C : Cx) (wv : Str → Bool) (s₀ : Shared) (M₀ W : List Addr) (env : Env) (σ : List (Str × V)) (τ : Option Nat) (O : List Addr) (ρ : Str → Option Value) (s : Shared) : Prop where
  gs : Gs C (W ++ (O ++ M₀)) τ s
  glob : env.globals = mainGlobals ∧ env.builtins = builtinsNs ∧ env.scope.kind = .function
  frame : FrameAt C env s.heap ρ
  vars : ∀ x y, σ.lookup x = some y → isVar env x = true → ∃ v, ρ x = some v ∧ Rep C s.heap (W ++ (O ++ M₀)) v y
  own : ∀ x y, σ.lookup x = some y → isVar env x = true → y.own = true → ∃ a, ρ x = some (.ref a) ∧ a ∈ O ∧ a ∉ W
  apart : ∀ x x' y y' a, σ.lookup x = some y → σ.lookup x' = some y' → isVar env x = true → isVar env x' = true → y.own = true → y'.own = true → ρ x = some (.ref a) → ρ x' = some (.ref a) → x = x'
  wr : ∀ x p, wv x = true → placeOf env x = some p → p ∈ W
  kept : Kept C s₀ s
  fresh : ∀ a, (a ∈ W ∨ a ∈ O) → s₀.heap.get? a = Option.none
  fa : ∀ a, (a = env.locals ∨ ∃ x, env.cells.lookup x = some a) → a ∈ W ∨ ∃ o, s₀.heap.get? a = some o
  aM : ∀ a ∈ M₀, ∃ o, s₀.heap.get? a = some o
  mT : ∀ a, C.T = some a → a ∈ M₀

noncomputable abbrev Fs (C : Cx) (s₀ : Shared) (M₀ W : List Addr) (env : Env) (σ : List (Str × V)) (τ : Option Nat) (O : List Addr) (ρ : Str → Option Value) (s : Shared) : Prop := Fw C (ownVar env) s₀ M₀ W env σ τ O ρ s

variable {wv : Str → Bool}
theorem Fw.st {s₀ : Shared} {M₀ W O : List Addr} {ρ : Str → Option Value} {s : Shared} (F : Fw C wv s₀ M₀ W env σ τ O ρ s) : St C (W ++ (O ++ M₀)) env σ τ s := ⟨F.gs, F.glob, ρ, F.frame, F.vars⟩
theorem Fw.then {s₀ : Shared} {M₀ W O : List Addr} {ρ : Str → Option Value} {s s' : Shared} (F : Fw C wv s₀ M₀ W env σ τ O ρ s) (k : Kept C s s') (g : Gs C (W ++ (O ++ M₀)) τ₁ s') : Fw C wv s₀ M₀ W env σ τ₁ O ρ s' where
  gs := g
  glob := F.glob
  frame := by obtain ⟨h', tk, rfl, k⟩ := k; exact F.frame.all k
  vars := fun x y e i => let ⟨v, a, r⟩ := F.vars x y e i; ⟨v, a, r.kept k F.gs.mT⟩
  own := F.own
  apart := F.apart
  wr := F.wr
  kept := F.kept.trans k
  fresh := F.fresh
  fa := F.fa
  aM := F.aM
  mT := F.mT

inductive Out where
  | next (σ : List (Str × V)) (τ : Option Nat)
  | ret (y : V) (τ : Option Nat)

noncomputable def OutAt (C : Cx) (s₀ : Shared) (M₀ W : List Addr) (env : Env) : Out → Flow → Shared → Prop
  | .next σ τ, .next, s => ∃ O ρ, Fs C s₀ M₀ W env σ τ O ρ s
  | .ret y τ, .ret v, s => Gs C M₀ τ s ∧ Rep C s.heap M₀ v y ∧ Kept C s₀ s ∧ V.own y = false
  | _, _, _ => False

noncomputable def Ex (C : Cx) (n : Nat) (ss : List Stmt) (env : Env) (σ : List (Str × V)) (τ : Option Nat) (P : Out → Prop) : Prop :=
  ∀ A, Room A n → ∀ s₀ M₀ W O ρ s, Fs C s₀ M₀ W env σ τ O ρ s → wpAny (model C.prog C.w) A (execs ss env) (fun f s' => ∃ o, P o ∧ OutAt C s₀ M₀ W env o f s') NoE s
noncomputable def Ex1 (C : Cx) (n : Nat) (st : Stmt) (env : Env) (σ : List (Str × V)) (τ : Option Nat) (P : Out → Prop) : Prop :=
  ∀ A, Room A n → ∀ s₀ M₀ W O ρ s, Fs C s₀ M₀ W env σ τ O ρ s → wpAny (model C.prog C.w) A (exec st env) (fun f s' => ∃ o, P o ∧ OutAt C s₀ M₀ W env o f s') NoE s

theorem Ex_nil {P : Out → Prop} (h : P (.next σ τ)) : Ex C n [] env σ τ P := fun A R s₀ M₀ W O ρ s F => wpAny_execs_nil ⟨_, h, O, ρ, F⟩
theorem Ex_cons {st : Stmt} {rest : List Stmt} {P : Out → Prop} (h : Ex1 C n st env σ τ fun o => match o with | .next σ' τ' => Ex C n rest env σ' τ' P | o => P o) : Ex C n (st :: rest) env σ τ P := fun A R s₀ M₀ W O ρ s F =>
  wpAny_execs_cons (wpAny_mono (h A R s₀ M₀ W O ρ s F) (fun f s' zz => ex2 zz fun o p q => by
    cases o with
    | next σ' τ' =>
      cases f <;> first | exact q.elim | skip
      obtain ⟨O', ρ', F'⟩ := q
      exact p A R s₀ M₀ W O' ρ' s' F'
    | ret y τ' =>
      cases f <;> first | exact q.elim | exact ⟨_, p, q⟩) fun _ _ x => x)
theorem Ex1.weaken {st : Stmt} {P P' : Out → Prop} (h : Ex1 C n st env σ τ P) (w : ∀ o, P o → P' o) : Ex1 C n st env σ τ P' := fun A R s₀ M₀ W O ρ s F =>
  wpAny_mono (h A R s₀ M₀ W O ρ s F) (fun f s' zz => ex2 zz fun o p q => ⟨o, w o p, q⟩) fun _ _ x => x
theorem Ex.weaken {ss : List Stmt} {P P' : Out → Prop} (h : Ex C n ss env σ τ P) (w : ∀ o, P o → P' o) : Ex C n ss env σ τ P' := fun A R s₀ M₀ W O ρ s F =>
  wpAny_mono (h A R s₀ M₀ W O ρ s F) (fun f s' zz => ex2 zz fun o p q => ⟨o, w o p, q⟩) fun _ _ x => x

theorem lookup_cons_eq {x : Str} {y : V} {σ : List (Str × V)} : ((x, y) :: σ).lookup x = some y := by simp
theorem lookup_cons_ne {x z : Str} {y : V} {σ : List (Str × V)} (h : z ≠ x) : ((x, y) :: σ).lookup z = σ.lookup z := by
  rw [List.lookup_cons, beq_eq_false_iff_ne.mpr h]

theorem notOwn {y : V} {α : Prop} (h : y.own = false) : y.own = true → α := fun o => by rw [h] at o; cases o

theorem Fw.set {s₀ : Shared} {M₀ W O : List Addr} {ρ : Str → Option Value} {s : Shared} {M : Model} {A : Around} {E : Value → Shared → Prop} {x : Str} {v : Value} {y : V} {Q : Unit → Shared → Prop} (F : Fw C wv s₀ M₀ W env σ τ O ρ s) (r : Rep C s.heap (W ++ (O ++ M₀)) v y)
    (p : y.own = true → ∃ a, v = .ref a ∧ a ∈ O ∧ a ∉ W ∧ ∀ z w, σ.lookup z = some w → isVar env z = true → w.own = true → ρ z ≠ some (.ref a)) (hx : ownVar env x = true) (hw : wv x = true)
    (h : ∀ s', Fw C wv s₀ M₀ W env ((x, y) :: σ) τ O (upd ρ x v) s' → (∀ b o, b ∉ W → s.heap.get? b = some o → s'.heap.get? b = some o) → Q () s') : wpAny M A (storeName env x v) Q E s := by
  refine frame_store F.frame F.glob.2.2 hx fun h' tk pl hpl F' sb => ?_
  have hW : pl ∈ W := F.wr x pl hw hpl
  have hnone : s₀.heap.get? pl = Option.none := F.fresh pl (.inl hW)
  have kM : ∀ b o, b ∉ W ++ (O ++ M₀) → s.heap.get? b = some o → h'.get? b = some o := fun b o nb e => (sb.2 b fun q => nb (q ▸ List.mem_append_left _ hW)).trans e
  have kO : ∀ b o, b ∉ W → s.heap.get? b = some o → h'.get? b = some o := fun b o nb e => (sb.2 b fun q => nb (q ▸ hW)).trans e
  have up := hid_mono (M := W ++ (O ++ M₀)) kM
  have hT : ∀ a, C.T = some a → a ≠ pl := fun a q z => by
    subst z
    obtain ⟨h1, h2⟩ := F.frame.notT a q
    rcases place_of hpl with e | e
    · exact h1 e.symm
    · exact h2 x e
  have repUp : ∀ v y, (y.own = true → ∃ a, v = .ref a ∧ a ∉ W) → Rep C s.heap (W ++ (O ++ M₀)) v y → Rep C h' (W ++ (O ++ M₀)) v y := fun v y ho r => by
    exact r.move up fun o a e m t => by obtain ⟨_, e2, na⟩ := ho o; rw [e] at e2; cases e2; exact ⟨m, fun o e => kO _ o na e⟩
  have gs' : Gs C (W ++ (O ++ M₀)) τ { s with heap := h', toks := tk } := {
    base := C.mono _ _ F.gs.base up
    low := fun a m => by
      obtain ⟨o, e⟩ := F.gs.low a m
      by_cases q : a = pl
      · exact q ▸ place_alive F' hx hpl
      · exact ⟨o, (sb.2 a q).trans e⟩
    mT := F.gs.mT
    tray := by
      have t := F.gs.tray
      cases τ with
      | none => trivial
      | some k => obtain ⟨a, t1, t2, tk', n', b, x1, x2, x3⟩ := t; exact ⟨a, t1, t2, tk', n', b, x1, (sb.2 a (hT a x1)).trans x2, x3.up up⟩ }
  refine h _ { gs := gs', glob := F.glob, frame := F', vars := fun z w e i => ?_, own := fun z w e i o => ?_, apart := fun z z' w w' a e e' i i' o o' q q' => ?_, wr := F.wr, kept := ?_, fresh := F.fresh, fa := F.fa, aM := F.aM, mT := F.mT } kO
  · by_cases hz : z = x
    · subst hz
      rw [lookup_cons_eq] at e; cases e
      exact ⟨v, by unfold upd; rw [if_pos rfl], repUp v y (fun o => let ⟨a, e, _, nW, _⟩ := p o; ⟨a, e, nW⟩) r⟩
    · rw [lookup_cons_ne hz] at e
      obtain ⟨u, e1, r1⟩ := F.vars z w e i
      exact ⟨u, by unfold upd; rw [if_neg hz]; exact e1, repUp u w (fun o => by
        obtain ⟨a, e2, _, na⟩ := F.own z w e i o
        rw [e1] at e2; cases e2; exact ⟨a, rfl, na⟩) r1⟩
  · by_cases hz : z = x
    · subst hz
      rw [lookup_cons_eq] at e; cases e
      obtain ⟨a, e1, aO, aW, _⟩ := p o
      exact ⟨a, by unfold upd; rw [if_pos rfl, e1], aO, aW⟩
    · rw [lookup_cons_ne hz] at e
      obtain ⟨a, e1, r⟩ := F.own z w e i o
      exact ⟨a, by unfold upd; rw [if_neg hz]; exact e1, r⟩
  · unfold upd at q q'
    by_cases hz : z = x
    · by_cases hz' : z' = x
      · rw [hz, hz']
      · subst hz
        rw [lookup_cons_eq] at e; cases e
        rw [lookup_cons_ne hz'] at e'
        rw [if_pos rfl] at q; rw [if_neg hz'] at q'
        obtain ⟨a', e1, _, _, f⟩ := p o
        cases q; cases e1
        exact absurd q' (f z' w' e' i' o')
    · by_cases hz' : z' = x
      · subst hz'
        rw [lookup_cons_eq] at e'; cases e'
        rw [lookup_cons_ne hz] at e
        rw [if_pos rfl] at q'; rw [if_neg hz] at q
        obtain ⟨a', e1, _, _, f⟩ := p o'
        cases q'; cases e1
        exact absurd q (f z w e i o)
      · rw [lookup_cons_ne hz] at e; rw [lookup_cons_ne hz'] at e'
        rw [if_neg hz] at q; rw [if_neg hz'] at q'
        exact F.apart z z' w w' a e e' i i' o o' q q'
  · obtain ⟨h1, t1, rfl, k1⟩ := F.kept
    refine ⟨h', tk, rfl, fun b o t e => (sb.2 b fun q => ?_).trans (k1 b o t e)⟩
    subst q; rw [hnone] at e; cases e

theorem Ex1_assign {x p e pos} {y : V} {P : Out → Prop} (he : Ev C n e env σ τ y τ₁) (hp : y.own = false) (hx : ownVar env x = true) (h : P (.next ((x, y) :: σ) τ₁))
    (hs : swapsWith e (some (.Name x p)) pos.line env = pure false := by rfl) : Ex1 C n (.Assign [.Name x p] e pos) env σ τ P := fun A R s₀ M₀ W O ρ s F =>
  wpAny_Assign_Name (wpAny_mono (he A R _ s F.st) (fun v s₁ zz => and3 zz fun S₁ r₁ k₁ => (F.then k₁ S₁.toGs).set r₁ (notOwn hp) hx hx fun s' F' _ => ⟨_, h, O, _, F'⟩) fun _ _ x => x) hs

theorem Ex1_return {e pos} {y : V} {P : Out → Prop} (he : Ev C n e env σ τ y τ₁) (hp : y.own = false) (h : P (.ret y τ₁)) : Ex1 C n (.Return (some e) pos) env σ τ P := fun A R s₀ M₀ W O ρ s F =>
  wpAny_Return_some (wpAny_mono (he A R _ s F.st) (fun v s₁ zz => and3 zz fun S₁ r₁ k₁ => by
    have less : ∀ b ∈ M₀, b ∈ W ++ (O ++ M₀) := fun b hb => List.mem_append_right _ (List.mem_append_right _ hb)
    have up := hid_less (h := s₁.heap) less
    refine ⟨_, h, ⟨C.mono _ _ S₁.base up, fun a m => S₁.low a (less a m), F.mT, ?_⟩, ?_, F.kept.trans k₁, hp⟩
    · have t := S₁.tray
      cases τ₁ with
      | none => trivial
      | some k => obtain ⟨a, t1, t2, tk', n', b, x1, x2, x3⟩ := t; exact ⟨a, t1, t2, tk', n', b, x1, x2, x3.up up⟩
    · exact r₁.move up fun o => by rw [hp] at o; cases o) fun _ _ x => x)

theorem Ex1_if {t a b pos} {c : Bool} {P : Out → Prop} (ht : Tst C n t env σ τ c τ₁) (ha : c = true → Ex C n a env σ τ₁ P) (hb : c = false → Ex C n b env σ τ₁ P) : Ex1 C n (.If t a b pos) env σ τ P := fun A R s₀ M₀ W O ρ s F =>
  wpAny_If (wpAny_mono (ht A R _ s F.st) (fun v s₁ zz => and3 zz fun e S₁ k₁ => by
    subst e
    have F' := F.then k₁ S₁.toGs
    cases v with
    | true => exact ha rfl A R s₀ M₀ W O ρ s₁ F'
    | false => exact hb rfl A R s₀ M₀ W O ρ s₁ F') fun _ _ x => x)

end
end Mine
namespace Mine

theorem cellsFrom_has : ∀ (names : List (Str × NameKind)) (n : Nat) (acc : List (Str × Addr)) (x : Str), ((x, NameKind.cell) ∈ names ∨ ∃ c, acc.lookup x = some c) → ∃ c, (cellsFrom n names acc).lookup x = some c
  | [], _, _, _, h => by
    rcases h with h | h
    · cases h
    · exact h
  | (y, k) :: r, n, acc, x, h => by
    unfold cellsFrom
    split
    · rename_i hk
      refine cellsFrom_has r _ _ x ?_
      by_cases hxy : x = y
      · subst hxy; exact .inr ⟨n, by simp⟩
      · rcases h with h | ⟨c, h⟩
        · rcases List.mem_cons.mp h with e | h
          · cases e; exact absurd rfl hxy
          · exact .inl h
        · exact .inr ⟨c, by rw [List.lookup_cons, beq_eq_false_iff_ne.mpr hxy]; exact h⟩
    · rename_i hk
      refine cellsFrom_has r _ _ x ?_
      rcases h with h | h
      · rcases List.mem_cons.mp h with e | h
        · cases e; simp at hk
        · exact .inl h
      · exact .inr h

theorem kind_mem {names : List (Str × NameKind)} {x : Str} {k : NameKind} (h : names.lookup x = some k) : (x, k) ∈ names := mem_of_lookup h

section
variable {C : Cx} {n : Nat} {env : Env} {σ : List (Str × V)} {τ τ₁ τ₂ τ₃ : Option Nat}

theorem store_binds {M : Model} {A : Around} {E : Value → Shared → Prop} {W : List Addr} (f : Str × Value → PUnit → Sem (ForInStep PUnit)) (hf : ∀ x u, f x u = (do storeName env x.1 x.2; pure (.yield ⟨⟩))) (hk : env.scope.kind = .function)
    (wr : ∀ x p, ownVar env x = true → placeOf env x = some p → p ∈ W) : ∀ (binds : List (Str × Value)) (s : Shared) (ρ : Str → Option Value) (Q : PUnit → Shared → Prop), FrameAt C env s.heap ρ → (∀ b ∈ binds, ownVar env b.1 = true) →
      (∀ h' tk, FrameAt C env h' (binds.foldl (fun r b => upd r b.1 b.2) ρ) → (∀ b o, b ∉ W → s.heap.get? b = some o → h'.get? b = some o) → (∀ b o, s.heap.get? b = some o → ∃ o', h'.get? b = some o') → Q ⟨⟩ { s with heap := h', toks := tk }) →
      wpAny M A (forIn binds ⟨⟩ f) Q E s
  | [], s, ρ, Q, F, _, h => by rw [List.forIn_nil]; exact wpAny_pure (h s.heap s.toks F (fun _ _ _ e => e) fun b o e => ⟨o, e⟩)
  | b :: r, s, ρ, Q, F, ho, h => by
    rw [List.forIn_cons, hf]
    refine wpAny_bind (wpAny_bind (frame_store F hk (ho b List.mem_cons_self) fun h' tk p hp F' sb => wpAny_pure ?_))
    refine store_binds f hf hk wr r _ _ Q F' (fun c hc => ho c (List.mem_cons_of_mem _ hc)) fun h'' tk' F'' k z => h h'' tk' F'' (fun c o nc e => k c o nc ((sb.2 c fun q => nc (q ▸ wr _ _ (ho b List.mem_cons_self) hp)).trans e)) fun c o e => ?_
    by_cases q : c = p
    · subst q
      obtain ⟨o1, e1⟩ := place_alive F' (ho b List.mem_cons_self) hp
      exact z c o1 e1
    · exact z c o ((sb.2 c q).trans e)

theorem fold_upd_other {x : Str} : ∀ {ps : List Str} {vs : List Value} {ρ : Str → Option Value}, x ∉ ps → (ps.zip vs).foldl (fun r b => upd r b.1 b.2) ρ x = ρ x
  | [], _, _, _ => rfl
  | _ :: _, [], _, _ => rfl
  | p :: ps, v :: vs, ρ, h => by
    rw [List.zip_cons_cons, List.foldl_cons, fold_upd_other (fun q => h (List.mem_cons_of_mem _ q))]
    unfold upd; rw [if_neg fun (q : x = p) => h (q ▸ List.mem_cons_self)]

theorem fold_upd_rep {C : Cx} {h : Heap} {M : List Addr} {x : Str} {y : V} : ∀ {ps : List Str} {vs : List Value} {xs : List V} {ρ : Str → Option Value}, ps.Nodup → RepL C h M vs xs → (ps.zip xs).lookup x = some y →
    ∃ v, (ps.zip vs).foldl (fun r b => upd r b.1 b.2) ρ x = some v ∧ Rep C h M v y
  | [], _, _, _, _, _, e => by simp at e
  | p :: ps, [], [], ρ, _, _, e => by simp at e
  | p :: ps, v :: vs, z :: xs, ρ, nd, ⟨r1, r2⟩, e => by
    rw [List.nodup_cons] at nd
    rw [List.zip_cons_cons, List.foldl_cons]
    rw [List.zip_cons_cons] at e
    by_cases hx : x = p
    · subst hx
      rw [lookup_cons_eq] at e; cases e
      exact ⟨v, by rw [fold_upd_other nd.1]; unfold upd; rw [if_pos rfl], r1⟩
    · rw [lookup_cons_ne hx] at e
      exact fold_upd_rep nd.2 r2 e

noncomputable def namesOk (sc : Scope) (ps : List Str) : Bool :=
  sc.names.all (fun x => x.2 != .free) && ps.all (fun p => match sc.names.lookup p with | some .local | some .cell => true | _ => false)

noncomputable abbrev fenv (fd : FuncData) (a : Addr) (L : Addr) (cs : List (Str × Addr)) : Env := newEnv fd.scope L fd.globals cs (fd.qualname ++ ".<locals>.") (some a) fd.code .none fd.builtins

structure FnData (C : Cx) (a : Addr) (fd : FuncData) (body : List Stmt) (ps : List Str) : Prop where
  at_ : ∀ h, C.Base h → (∃ o, h.get? a = some o ∧ o.data = .func fd) ∧ h.CodeRec fd.code fd.qualname
  body_ : fd.body = .stmts body
  gl : fd.globals = mainGlobals
  bu : fd.builtins = builtinsNs
  cl : fd.closure = []
  kd : fd.scope.kind = .function
  co : fd.scope.isCoroutine = false
  ge : fd.scope.isGenerator = false
  bind : ∀ vs : List Value, vs.length = ps.length → bindArgs fd ⟨vs, []⟩ = pure (ps.zip vs)
  nm : namesOk fd.scope ps = true
  nd : ps.Nodup

theorem rep_less {h : Heap} {M M' : List Addr} {v : Value} {y : V} (p : y.own = false) (less : ∀ b ∈ M', b ∈ M) (r : Rep C h M v y) : Rep C h M' v y := by
  have up := hid_less (h := h) less
  exact r.move up fun o => by rw [p] at o; cases o

noncomputable def isRet (y : V) (τ : Option Nat) : Out → Prop
  | .ret y' τ' => y' = y ∧ τ' = τ
  | .next _ τ' => y = .none ∧ τ' = τ

theorem cellsOk_lookup {h : Heap} {lo : Nat} {cs : List (Str × Addr)} (k : PySem.CellsOk h lo cs) {x : Str} {c : Addr} (e : cs.lookup x = some c) : h.IsCell c .none ∧ lo ≤ c := k.empty x c (mem_of_lookup e)

noncomputable def flowTo (Q : Value → Shared → Prop) : Flow → Shared → Prop
  | .ret v, s => Q v s
  | .next, s => Q .none s
  | _, _ => False
theorem fn_enter {a : Addr} {fd : FuncData} {body : List Stmt} {ps : List Str} {xs : List V} {A : Around} {M : List Addr} {s : Shared} {vs : List Value} {Q : Value → Shared → Prop} (D : FnData C a fd body ps) (hl : xs.length = ps.length) (hown : ∀ x ∈ xs, V.own x = false)
    (hdp : A.depth < recursionLimit) (G : Gs C M τ s) (r : RepL C s.heap M vs xs)
    (h : ∀ L cs W s', Fs C s M W (fenv fd a L cs) (ps.zip xs) τ [] ((ps.zip vs).foldl (fun r b => upd r b.1 b.2) fun _ => Option.none) s' → Keeps s s' → (∀ b ∈ W, s.heap.get? b = Option.none) →
      wpAny (model C.prog C.w) (A.deeper (fenv fd a L cs)) (execs body (fenv fd a L cs)) (flowTo Q) NoE s') : codeAny (model C.prog C.w) A (.call (.ref a) ⟨vs, []⟩) (wants Q NoE) s := by
  obtain ⟨⟨o, ho, hd⟩, hcd⟩ := D.at_ _ G.base
  have ho' := hid_sub _ _ _ _ ho
  have hcd' : s.heap.CodeRec fd.code fd.qualname := by
    obtain ⟨c, oc, vs', tq, e1, e2, e3⟩ := hcd
    exact ⟨c, oc, vs', tq, e1, hid_sub _ _ _ _ e2, e3⟩
  have hlv : vs.length = ps.length := r.length.trans hl
  refine codeAny_call_function (by assumption) ho' hd D.co D.ge D.body_ hcd' ?_
  rw [D.bind vs hlv]
  refine wpAny_pure ?_
  -- the new frame
  rw [D.cl]
  unfold newFunctionEnv
  refine wpAny_bind (wpAny_alloc ?_)
  refine wpAny_bind (wpAny_layCells _ (fun name kind cells => rfl) _ _ _ _ ?_)
  dsimp only
  have nm := Bool.and_eq_true_iff.mp D.nm
  have nofree : ∀ x ∈ fd.scope.names, x.2 ≠ .free := fun x hx => by
    have := List.all_eq_true.mp nm.1 x hx
    simpa using this
  generalize hL : s.heap.objs.size = L
  generalize hH1 : s.heap.push { cls := .type (if (Option.none : Option Env).isSome then "dict" else "frame"), data := .dict #[] } = H1
  have szH1 : H1.objs.size = L + 1 := by rw [← hH1, Heap.size_push, hL]
  have CO := cellsFrom_ok fd.scope.names H1 (L + 1) [] (PySem.CellsOk.mk (fun _ _ h => nomatch h) List.Pairwise.nil) (by rw [szH1]; exact Nat.le_refl _)
  generalize hcs : cellsFrom H1.objs.size fd.scope.names [] = cs at CO
  generalize hH2 : pushCells H1 fd.scope.names = H2 at CO
  have k1 : Sub s.heap H2 := fun b o e => by rw [← hH2]; exact pushCells_keeps _ _ _ _ (by rw [← hH1]; exact Heap.get?_push_of_some _ e)
  have nsL : H2.Ns L (fun _ => Option.none) := by
    have : H1.Ns L (fun _ => Option.none) := by rw [← hH1, ← hL]; exact Heap.Ns.new ..
    exact this.keeps fun b o e => by rw [← hH2]; exact pushCells_keeps _ _ _ _ e
  -- the writable ones
  have fr : ∀ b ∈ L :: cs.map (·.2), s.heap.get? b = Option.none := fun b hb => by
    cases e : s.heap.get? b with
    | none => rfl
    | some o =>
      have lt := Heap.lt_size e
      rcases List.mem_cons.mp hb with rfl | hb
      · rw [hL] at lt; exact absurd lt (Nat.lt_irrefl _)
      · obtain ⟨p, hp, rfl⟩ := List.mem_map.mp hb
        have h1 : L + 1 ≤ p.2 := (CO.empty p.1 p.2 hp).2
        have h2 : p.2 < L := hL ▸ lt
        exact absurd (Nat.lt_of_lt_of_le h2 (Nat.le_of_succ_le h1)) (Nat.lt_irrefl _)
  have notM : ∀ b ∈ L :: cs.map (·.2), b ∉ M := fun b hb q => by obtain ⟨o, e⟩ := G.low b q; rw [fr b hb] at e; cases e
  have F2 : FrameAt C (fenv fd a L cs) H2 (fun _ => Option.none) := {
    ns := ⟨_, nsL, fun _ _ => rfl⟩
    cell := fun x hx => by
      rcases hx with hx | hx
      · obtain ⟨c, e⟩ := cellsFrom_has fd.scope.names H1.objs.size [] x (.inl (kind_mem hx))
        rw [hcs] at e
        exact ⟨c, e, (cellsOk_lookup CO e).1⟩
      · exact absurd rfl (nofree _ (kind_mem hx))
    apart := fun x z c e e' => name_of_addr CO.apart (mem_of_lookup e) (mem_of_lookup e')
    notT := fun t ht => by
      have htM := G.mT t ht
      exact ⟨fun (q : L = t) => notM L List.mem_cons_self (q ▸ htM), fun x e => notM t (List.mem_cons_of_mem _ (List.mem_map.mpr ⟨_, mem_of_lookup e, rfl⟩)) htM⟩ }
  have wr : ∀ x p, ownVar (fenv fd a L cs) x = true → placeOf (fenv fd a L cs) x = some p → p ∈ L :: cs.map (·.2) := fun x p hx hp => by
    rcases place_of hp with e | hp
    · exact e ▸ List.mem_cons_self
    · exact List.mem_cons_of_mem _ (List.mem_map.mpr ⟨_, mem_of_lookup hp, rfl⟩)
  have ownps : ∀ b ∈ ps.zip vs, ownVar (fenv fd a L cs) b.1 = true := fun b hb => by
    have hm : b.1 ∈ ps := (List.of_mem_zip hb).1
    exact List.all_eq_true.mp nm.2 b.1 hm
  refine wpAny_bind ?_
  refine store_binds (C := C) (env := fenv fd a L cs) (W := L :: cs.map (·.2)) _ (fun x u => rfl) D.kd wr (ps.zip vs) { s with heap := H2 } _ _ F2 ownps fun h' tk F3 k3 sz3 => ?_
  refine wpAny_pure ⟨?_, ?_⟩
  · have nl := C.nolim _ G.base
    refine Heap.NoLimit.keeps nl fun b o e => ?_
    have nb := hid_not e
    have e' := hid_sub _ _ _ _ e
    refine k3 b o (fun q => ?_) (k1 b o e')
    rw [fr b q] at e'; cases e'
  · have k4 : Sub s.heap h' := fun b o e => k3 b o (fun q => by rw [fr b q] at e; cases e) (k1 b o e)
    have al : ∀ b ∈ L :: cs.map (·.2), ∃ o, h'.get? b = some o := fun b hb => by
      rcases List.mem_cons.mp hb with rfl | hb
      · obtain ⟨m, ⟨o, _, _, e, _⟩, _⟩ := F3.ns; exact ⟨o, e⟩
      · obtain ⟨p, hp, rfl⟩ := List.mem_map.mp hb
        obtain ⟨o, e, _⟩ := (CO.empty p.1 p.2 hp).1
        exact sz3 _ o e
    have Gn := G.more (N := L :: cs.map (·.2)) (tk := tk) k4 fr al
    have Fin : Fs C s M (L :: cs.map (·.2)) (fenv fd a L cs) (ps.zip xs) τ [] ((ps.zip vs).foldl (fun r b => upd r b.1 b.2) fun _ => Option.none) { s with heap := h', toks := tk } := {
      gs := Gn
      glob := ⟨D.gl, D.bu, D.kd⟩
      frame := F3
      vars := fun x z e i => by
        obtain ⟨v, e1, r1⟩ := fold_upd_rep (ρ := fun _ => Option.none) D.nd r e
        exact ⟨v, e1, r1.more k4 fr⟩
      own := fun x z e i o => by
        have : z ∈ xs := (List.of_mem_zip (mem_of_lookup e)).2
        rw [hown z this] at o; cases o
      apart := fun x x' z z' b e e' i i' o => by
        have : z ∈ xs := (List.of_mem_zip (mem_of_lookup e)).2
        rw [hown z this] at o; cases o
      wr := wr
      kept := ⟨h', tk, rfl, fun b o _ e => k4 b o e⟩
      fresh := fun b hb => by
        rcases hb with hb | hb
        · exact fr b hb
        · cases hb
      fa := fun b hb => by
        rcases hb with rfl | ⟨x, e⟩
        · exact .inl List.mem_cons_self
        · exact .inl (List.mem_cons_of_mem _ (List.mem_map.mpr ⟨_, mem_of_lookup e, rfl⟩))
      aM := G.low
      mT := G.mT }
    refine codeAny_func (wpAny_mono (h L cs _ _ Fin ⟨h', tk, rfl, k4⟩ fr) (fun f s' q => ?_) fun _ _ x => x.elim)
    cases f <;> first | exact q.elim | exact q

theorem fn_spec {a : Addr} {fd : FuncData} {body : List Stmt} {ps : List Str} {xs : List V} {y : V} (D : FnData C a fd body ps) (hl : xs.length = ps.length) (hown : ∀ x ∈ xs, V.own x = false)
    (h : ∀ L cs, Ex C n body (fenv fd a L cs) (ps.zip xs) τ (isRet y τ₁)) : FnSpec C (n + 1) (.ref a) xs τ y τ₁ := fun A R M s vs G r => by
  refine wpAny_call (fn_enter D hl hown (by have := R.dp; lia) G r fun L cs W s₂ Fin _ _ => ?_)
  refine wpAny_mono (h L cs _ (R.deeper _) s M _ [] _ _ Fin) (fun f s' zz => ex2 zz fun o p q => ?_) fun _ _ x => x
  cases o with
  | next σ' τ' =>
    obtain ⟨rfl, rfl⟩ := p
    cases f <;> first | exact q.elim | skip
    obtain ⟨O', ρ', F'⟩ := q
    have less : ∀ b ∈ M, b ∈ W ++ (O' ++ M) := fun b hb => List.mem_append_right _ (List.mem_append_right _ hb)
    have up := hid_less (h := s'.heap) less
    refine ⟨⟨C.mono _ _ F'.gs.base up, fun a m => F'.gs.low a (less a m), G.mT, ?_⟩, .none, F'.kept⟩
    have t := F'.gs.tray
    cases τ' with
    | none => trivial
    | some k => obtain ⟨a, t1, t2, tk', n', b, x1, x2, x3⟩ := t; exact ⟨a, t1, t2, tk', n', b, x1, x2, x3.up up⟩
  | ret y' τ' =>
    obtain ⟨rfl, rfl⟩ := p
    cases f <;> first | exact q.elim | exact ⟨q.1, q.2.1, q.2.2.1⟩

end
end Mine
namespace Mine

noncomputable def closL (cells : List (Str × Addr)) : List (Str × NameKind) → List (Str × Addr) → List (Str × Addr)
  | [], acc => acc
  | (x, k) :: r, acc => if k == .free then closL cells r ((x, (cells.lookup x).getD 0) :: acc) else closL cells r acc

theorem closureFor_of {env : Env} {scope : Scope} (h : ∀ x, (x, NameKind.free) ∈ scope.names → ∃ c, env.cells.lookup x = some c) : closureFor scope env = pure (closL env.cells scope.names []) := by
  unfold closureFor
  have go : ∀ (names : List (Str × NameKind)) (acc : List (Str × Addr)), (∀ x, (x, NameKind.free) ∈ names → ∃ c, env.cells.lookup x = some c) →
      (forIn names acc fun (x : Str × NameKind) (cs : List (Str × Addr)) => (match x with | (name, kind) => if (kind == NameKind.free) = true then (do let a ← cellOf env name; pure (ForInStep.yield ((name, a) :: cs))) else pure (ForInStep.yield cs) : Sem _)) = pure (closL env.cells names acc) := by
    intro names
    induction names with
    | nil => intro acc _; rfl
    | cons x r ih =>
      obtain ⟨nm, k⟩ := x
      intro acc hx
      rw [List.forIn_cons]
      unfold closL
      by_cases hk : (k == NameKind.free) = true
      · have hk' : k = .free := by simpa using hk
        obtain ⟨c, hc⟩ := hx nm (hk' ▸ List.mem_cons_self)
        simp only [hk, if_true]
        have : cellOf env nm = pure c := by unfold cellOf; rw [hc]
        rw [this, hc]
        exact ih _ fun y hy => hx y (List.mem_cons_of_mem _ hy)
      · simp only [hk, Bool.false_eq_true, if_false]
        exact ih _ fun y hy => hx y (List.mem_cons_of_mem _ hy)
  have e := go scope.names [] h
  simp only [bind_pure]
  exact e

theorem closL_lookup {cells : List (Str × Addr)} {x : Str} : ∀ (names : List (Str × NameKind)) (acc : List (Str × Addr)) (c : Addr), (closL cells names acc).lookup x = some c →
    acc.lookup x = some c ∨ ((x, NameKind.free) ∈ names ∧ (cells.lookup x).getD 0 = c)
  | [], acc, c, h => .inl h
  | (y, k) :: r, acc, c, h => by
    unfold closL at h
    split at h
    · rename_i hk
      have hk' : k = .free := by simpa using hk
      rcases closL_lookup r _ c h with h | ⟨h1, h2⟩
      · by_cases q : x = y
        · subst q
          rw [lookup_cons_eq'] at h
          cases h
          exact .inr ⟨hk' ▸ List.mem_cons_self, rfl⟩
        · rw [List.lookup_cons, beq_eq_false_iff_ne.mpr q] at h
          exact .inl h
      · exact .inr ⟨List.mem_cons_of_mem _ h1, h2⟩
    · rcases closL_lookup r _ c h with h | ⟨h1, h2⟩
      · exact .inl h
      · exact .inr ⟨List.mem_cons_of_mem _ h1, h2⟩
where lookup_cons_eq' {x : Str} {y : Addr} {σ : List (Str × Addr)} : ((x, y) :: σ).lookup x = some y := by simp

theorem closL_has {cells : List (Str × Addr)} {x : Str} : ∀ (names : List (Str × NameKind)) (acc : List (Str × Addr)), ((x, NameKind.free) ∈ names ∨ ∃ c, acc.lookup x = some c) → ∃ c, (closL cells names acc).lookup x = some c
  | [], acc, h => by
    rcases h with h | h
    · cases h
    · exact h
  | (y, k) :: r, acc, h => by
    unfold closL
    split
    · rename_i hk
      refine closL_has r _ ?_
      by_cases q : x = y
      · subst q; exact .inr ⟨(cells.lookup x).getD 0, by simp⟩
      · rcases h with h | ⟨c, h⟩
        · rcases List.mem_cons.mp h with e | h
          · cases e; exact absurd rfl q
          · exact .inl h
        · exact .inr ⟨c, by rw [List.lookup_cons, beq_eq_false_iff_ne.mpr q]; exact h⟩
    · rename_i hk
      refine closL_has r _ ?_
      rcases h with h | h
      · rcases List.mem_cons.mp h with e | h
        · cases e; simp at hk
        · exact .inl h
      · exact .inr h

theorem cellsFrom_app : ∀ (names : List (Str × NameKind)) (n : Nat) (acc acc' : List (Str × Addr)), cellsFrom n names (acc ++ acc') = cellsFrom n names acc ++ acc'
  | [], _, _, _ => rfl
  | (y, k) :: r, n, acc, acc' => by
    unfold cellsFrom
    split
    · exact cellsFrom_app r (n + 1) ((y, n) :: acc) acc'
    · exact cellsFrom_app r n acc acc'
theorem cellsFrom_mem : ∀ (names : List (Str × NameKind)) (k : Nat) (acc : List (Str × Addr)) (p : Str × Addr), p ∈ cellsFrom k names acc → p ∈ acc ∨ (p.1, NameKind.cell) ∈ names
  | [], _, _, _, h => .inl h
  | (yn, yk) :: r, k, acc, p, h => by
    unfold cellsFrom at h
    split at h
    · rename_i hk
      rcases cellsFrom_mem r _ _ p h with h | h
      · rcases List.mem_cons.mp h with rfl | h
        · have : yk = .cell := by simpa using hk
          subst this
          exact .inr List.mem_cons_self
        · exact .inl h
      · exact .inr (List.mem_cons_of_mem _ h)
    · rcases cellsFrom_mem r _ _ p h with h | h
      · exact .inl h
      · exact .inr (List.mem_cons_of_mem _ h)

noncomputable abbrev cenvOf (scope : Scope) (env : Env) (L : Addr) (cs : List (Str × Addr)) : Env := { newEnv scope L env.globals cs env.qual .none .none (some env) env.builtins with scope := relabel scope env }

noncomputable def takes (k : Option NameKind) : Bool := match k with | some .cell | some .free => true | _ => false
noncomputable def compOk (scope : Scope) (env : Env) : Bool :=
  scope.names.all (fun p => scope.names.lookup p.1 == some p.2) && scope.names.all (fun p => p.2 != .free || takes (env.kindOf p.1))
theorem takes_of {k : Option NameKind} (h : takes k = true) : k = some .cell ∨ k = some .free := by
  cases k with
  | none => exact (Bool.false_ne_true h).elim
  | some k => cases k <;> first | exact (Bool.false_ne_true h).elim | exact .inl rfl | exact .inr rfl
theorem compOk_of {scope : Scope} {env : Env} (ok : compOk scope env = true) : (∀ x k, (x, k) ∈ scope.names → scope.names.lookup x = some k) ∧ ∀ x, (x, NameKind.free) ∈ scope.names → env.kindOf x = some .cell ∨ env.kindOf x = some .free :=
  have o := Bool.and_eq_true_iff.mp ok
  ⟨fun x k hx => eq_of_beq (List.all_eq_true.mp o.1 (x, k) hx), fun x hx => takes_of (List.all_eq_true.mp o.2 (x, .free) hx)⟩

noncomputable def wvOf (scope : Scope) (x : Str) : Bool := match scope.names.lookup x with
  | some .local | some .cell => true
  | _ => false
theorem wv_of {scope : Scope} {x : Str} (i : wvOf scope x = true) : scope.names.lookup x = some .local ∨ scope.names.lookup x = some .cell := by
  delta wvOf at i
  revert i
  cases scope.names.lookup x with
  | none => exact fun i => (Bool.false_ne_true i).elim
  | some k => cases k <;> first | exact fun i => (Bool.false_ne_true i).elim | exact fun _ => .inl rfl | exact fun _ => .inr rfl

noncomputable def Filt (sc : Scope) (σ σ' : List (Str × V)) : Prop := ∀ x y, σ'.lookup x = some y → sc.names.lookup x = some .free ∧ σ.lookup x = some y ∧ y.own = false
theorem Filt.of {sc : Scope} {σ σ' : List (Str × V)} (f : Filt sc σ σ') : ∀ x y, σ'.lookup x = some y → sc.names.lookup x = some .free ∧ σ.lookup x = some y ∧ y.own = false := f
theorem Filt.nil {sc : Scope} {σ : List (Str × V)} : Filt sc σ [] := fun x y h => nomatch h
theorem Filt.add {sc : Scope} {σ σ' : List (Str × V)} {x : Str} {y : V} (f : Filt sc σ σ') (h1 : sc.names.lookup x = some .free) (h2 : σ.lookup x = some y) (h3 : y.own = false) : Filt sc σ ((x, y) :: σ') := fun z w e => by
  by_cases q : z = x
  · subst q
    rw [lookup_cons_eq] at e; cases e
    exact ⟨h1, h2, h3⟩
  · rw [lookup_cons_ne q] at e
    exact f z w e

theorem relabel_lookup {env : Env} : ∀ {names : List (Str × NameKind)} {x : Str} {k : NameKind},
    (names.map fun (n, k) => if (k == NameKind.free && env.scope.kind == .function && env.kindOf n == some .cell) then (n, NameKind.cell) else (n, k)).lookup x = some k →
      ∃ k', names.lookup x = some k' ∧ (k = k' ∨ (k' = .free ∧ k = .cell ∧ env.kindOf x = some .cell))
  | [], _, _, h => by simp at h
  | (n, k₀) :: r, x, k, h => by
    have h' : List.lookup x ((if (k₀ == NameKind.free && env.scope.kind == .function && env.kindOf n == some .cell) = true then (n, NameKind.cell) else (n, k₀)) :: _) = some k := h
    cases hx : x == n with
    | true =>
      have hxn : x = n := by simpa using hx
      by_cases hc : (k₀ == NameKind.free && env.scope.kind == .function && env.kindOf n == some .cell) = true
      · rw [if_pos hc] at h'
        simp only [List.lookup_cons, hx] at h'
        cases h'
        simp only [Bool.and_eq_true, beq_iff_eq] at hc
        exact ⟨k₀, by simp [List.lookup_cons, hx], .inr ⟨hc.1.1, rfl, hxn ▸ hc.2⟩⟩
      · rw [if_neg hc] at h'
        simp only [List.lookup_cons, hx] at h'
        cases h'
        exact ⟨k₀, by simp [List.lookup_cons, hx], .inl rfl⟩
    | false =>
      have h2 : (r.map fun (n, k) => if (k == NameKind.free && env.scope.kind == .function && env.kindOf n == some .cell) then (n, NameKind.cell) else (n, k)).lookup x = some k := by
        by_cases hc : (k₀ == NameKind.free && env.scope.kind == .function && env.kindOf n == some .cell) = true
        · rw [if_pos hc] at h'; simpa only [List.lookup_cons, hx] using h'
        · rw [if_neg hc] at h'; simpa only [List.lookup_cons, hx] using h'
      obtain ⟨k', a, b⟩ := relabel_lookup h2
      exact ⟨k', by simp only [List.lookup_cons, hx]; exact a, b⟩

section
variable {C : Cx} {n : Nat} {env : Env} {σ σ' : List (Str × V)} {τ τ₁ τ₂ τ₃ : Option Nat} {wv : Str → Bool}

theorem comp_enter {M : Model} {A : Around} {E : Value → Shared → Prop} {s s₀ : Shared} {M₀ : List Addr} {scope : Scope} {O : List Addr} {Q : Env → Shared → Prop}
    (S : St C M₀ env σ τ s₀) (k₀ : Keeps s₀ s) (G : Gs C (O ++ M₀) τ s) (fO : ∀ a ∈ O, s₀.heap.get? a = Option.none) (ok : compOk scope env = true) (kd : scope.kind = .function) (fl : Filt scope σ σ')
    (h : ∀ L cs W ρ s', Fw C (wvOf scope) s₀ M₀ W (cenvOf scope env L cs) σ' τ O ρ s' → Keeps s s' → (∀ a ∈ W, s.heap.get? a = Option.none) → L ∈ W → 
      ∀ e : Env, e = newEnv scope L env.globals cs env.qual .none .none (some env) builtinsNs → Q e s') :
    wpAny M A (newFunctionEnv scope env.globals (closL env.cells scope.names []) [] env.qual .none .none (some env)) Q E s := by
  obtain ⟨uniq, hfree⟩ := compOk_of ok
  have S1 := S.keeps k₀
  obtain ⟨ρ₀, F₀, V₀⟩ := S1.frame
  unfold newFunctionEnv
  refine wpAny_bind (wpAny_alloc ?_)
  refine wpAny_bind (wpAny_layCells _ (fun name kind cells => rfl) _ _ _ _ ?_)
  dsimp only
  generalize hL : s.heap.objs.size = L
  generalize hH1 : s.heap.push { cls := .type (if (some env).isSome then "dict" else "frame"), data := .dict #[] } = H1
  have szH1 : H1.objs.size = L + 1 := by rw [← hH1, Heap.size_push, hL]
  have CO := cellsFrom_ok scope.names H1 (L + 1) [] (PySem.CellsOk.mk (fun _ _ h => nomatch h) List.Pairwise.nil) (by rw [szH1]; exact Nat.le_refl _)
  have split := cellsFrom_app scope.names H1.objs.size [] (closL env.cells scope.names [])
  rw [List.nil_append] at split
  rw [split]
  generalize hown : cellsFrom H1.objs.size scope.names [] = own at CO
  generalize hcl : closL env.cells scope.names [] = cl
  generalize hH2 : pushCells H1 scope.names = H2 at CO
  have k1 : Sub s.heap H2 := fun b o e => by rw [← hH2]; exact pushCells_keeps _ _ _ _ (by rw [← hH1]; exact Heap.get?_push_of_some _ e)
  have nsL : H2.Ns L (fun _ => Option.none) := by
    have : H1.Ns L (fun _ => Option.none) := by rw [← hH1, ← hL]; exact Heap.Ns.new ..
    exact this.keeps fun b o e => by rw [← hH2]; exact pushCells_keeps _ _ _ _ e
  have fr : ∀ b ∈ L :: own.map (·.2), s.heap.get? b = Option.none := fun b hb => by
    cases e : s.heap.get? b with
    | none => rfl
    | some o =>
      have lt := Heap.lt_size e
      rcases List.mem_cons.mp hb with rfl | hb
      · rw [hL] at lt; exact absurd lt (Nat.lt_irrefl _)
      · obtain ⟨p, hp, rfl⟩ := List.mem_map.mp hb
        have h1 : L + 1 ≤ p.2 := (CO.empty p.1 p.2 hp).2
        have h2 : p.2 < L := hL ▸ lt
        exact absurd (Nat.lt_of_lt_of_le h2 (Nat.le_of_succ_le h1)) (Nat.lt_irrefl _)
  have fr₀ : ∀ b ∈ L :: own.map (·.2), s₀.heap.get? b = Option.none := fun b hb => by
    obtain ⟨h', tk, rfl, k⟩ := k₀
    cases e : s₀.heap.get? b with
    | none => rfl
    | some o => have := k _ _ e; rw [fr b hb] at this; cases this
  have notM : ∀ b ∈ L :: own.map (·.2), b ∉ O ++ M₀ := fun b hb q => by obtain ⟨o, e⟩ := G.low b q; rw [fr b hb] at e; cases e
  -- lookups
  have lk : ∀ x c, (own ++ cl).lookup x = some c → (own.lookup x = some c ∧ (x, NameKind.cell) ∈ scope.names) ∨ (env.cells.lookup x = some c ∧ (x, NameKind.free) ∈ scope.names) := fun x c e => by
    rw [List.lookup_append] at e
    cases q : own.lookup x with
    | some c' =>
      rw [q] at e; cases e
      rcases cellsFrom_mem scope.names H1.objs.size [] (x, c) (hown ▸ mem_of_lookup q) with h | h
      · cases h
      · exact .inl ⟨rfl, h⟩
    | none =>
      rw [q] at e
      have e' : cl.lookup x = some c := e
      rw [← hcl] at e'
      rcases closL_lookup _ _ _ e' with h | ⟨h1, h2⟩
      · cases h
      · obtain ⟨c', hc', _⟩ := F₀.cell x (hfree x h1)
        rw [hc'] at h2
        exact .inr ⟨by rw [hc', ← h2]; rfl, h1⟩
  have F2 : FrameAt C (cenvOf scope env L (own ++ cl)) H2 (fun x => if scope.names.lookup x = some .free then ρ₀ x else Option.none) := {
    ns := ⟨_, nsL, fun x hx => by
      obtain ⟨k', e, h⟩ := relabel_lookup (show _ = some NameKind.local from hx)
      rcases h with rfl | ⟨_, h, _⟩
      · rw [if_neg (by rw [e]; simp)]
      · cases h⟩
    cell := fun x hx => by
      have hx' : ∃ k', scope.names.lookup x = some k' ∧ (k' = .cell ∨ k' = .free) := by
        rcases hx with hx | hx
        · obtain ⟨k', e, h⟩ := relabel_lookup (show _ = some NameKind.cell from hx)
          rcases h with rfl | ⟨h, _⟩
          · exact ⟨_, e, .inl rfl⟩
          · exact ⟨_, e, .inr h⟩
        · obtain ⟨k', e, h⟩ := relabel_lookup (show _ = some NameKind.free from hx)
          rcases h with rfl | ⟨_, h, _⟩
          · exact ⟨_, e, .inr rfl⟩
          · cases h
      obtain ⟨k', e, h⟩ := hx'
      rcases h with rfl | rfl
      · obtain ⟨c, ec⟩ := cellsFrom_has scope.names H1.objs.size [] x (.inl (kind_mem e))
        rw [hown] at ec
        refine ⟨c, ?_, ?_⟩
        · show (own ++ cl).lookup x = some c
          rw [List.lookup_append, ec]; rfl
        · rw [if_neg (by rw [e]; simp)]
          exact (cellsOk_lookup CO ec).1
      · obtain ⟨c, ec⟩ := closL_has (cells := env.cells) scope.names [] (.inl (kind_mem e))
        obtain ⟨c', hc', hcell⟩ := F₀.cell x (hfree x (kind_mem e))
        have : (own ++ cl).lookup x = some c' := by
          cases q : own.lookup x with
          | some c'' =>
            rcases cellsFrom_mem scope.names H1.objs.size [] (x, c'') (hown ▸ mem_of_lookup q) with h | h
            · cases h
            · rw [uniq x _ h] at e; cases e
          | none =>
            rw [List.lookup_append, q]
            rw [hcl] at ec
            have := lk x c (by rw [List.lookup_append, q]; exact ec)
            rcases this with ⟨h, _⟩ | ⟨h, _⟩
            · rw [q] at h; cases h
            · rw [hc'] at h; cases h
              exact ec
        refine ⟨c', this, ?_⟩
        rw [if_pos e]
        exact hcell.keeps k1
    apart := fun x z c e e' => by
      rcases lk x c e with ⟨a, b⟩ | ⟨a, b⟩ <;> rcases lk z c e' with ⟨a', b'⟩ | ⟨a', b'⟩
      · exact name_of_addr CO.apart (mem_of_lookup a) (mem_of_lookup a')
      · obtain ⟨c', hc', hcell⟩ := F₀.cell z (hfree z b')
        rw [a'] at hc'; cases hc'
        have h1 := (cellsOk_lookup CO a).2
        have h2 : c < L := hL ▸ hcell.lt
        exact absurd (Nat.lt_of_lt_of_le h2 (Nat.le_of_succ_le h1)) (Nat.lt_irrefl _)
      · obtain ⟨c', hc', hcell⟩ := F₀.cell x (hfree x b)
        rw [a] at hc'; cases hc'
        have h1 := (cellsOk_lookup CO a').2
        have h2 : c < L := hL ▸ hcell.lt
        exact absurd (Nat.lt_of_lt_of_le h2 (Nat.le_of_succ_le h1)) (Nat.lt_irrefl _)
      · exact F₀.apart x z c a a'
    notT := fun t ht => by
      have htM := G.mT t ht
      refine ⟨fun (q : L = t) => notM L List.mem_cons_self (q ▸ htM), fun x e => ?_⟩
      rcases lk x t e with ⟨a, b⟩ | ⟨a, b⟩
      · exact notM t (List.mem_cons_of_mem _ (List.mem_map.mpr ⟨_, mem_of_lookup a, rfl⟩)) htM
      · exact (F₀.notT t ht).2 x a }
  refine wpAny_bind (wpAny_pure (wpAny_pure ?_))
  have al : ∀ b ∈ L :: own.map (·.2), ∃ o, H2.get? b = some o := fun b hb => by
    rcases List.mem_cons.mp hb with rfl | hb
    · obtain ⟨o, _, _, e, _⟩ := nsL; exact ⟨o, e⟩
    · obtain ⟨p, hp, rfl⟩ := List.mem_map.mp hb
      obtain ⟨o, e, _⟩ := (CO.empty p.1 p.2 hp).1
      exact ⟨o, e⟩
  have Gn := G.more (N := L :: own.map (·.2)) (tk := s.toks) k1 fr al
  have k01 : Sub s₀.heap H2 := by obtain ⟨h', tk, rfl, k⟩ := k₀; exact fun b o e => k1 b o (k b o e)
  have frN : ∀ a ∈ (L :: own.map (·.2)) ++ O, s₀.heap.get? a = Option.none := fun a ha => by
    rcases List.mem_append.mp ha with ha | ha
    · exact fr₀ a ha
    · exact fO a ha
  refine h L (own ++ cl) (L :: own.map (·.2)) _ { s with heap := H2 } {
      gs := Gn
      glob := ⟨S.glob.1, S.glob.2.1, kd⟩
      frame := F2
      vars := fun x y e i => ?_
      own := fun x z e i o => ?_
      apart := fun x x' z z' b e e' i i' o => ?_
      wr := fun x p hx hp => ?_
      kept := ?_
      fresh := fun b hb => frN b (List.mem_append.mpr hb)
      fa := fun b hb => by
        rcases hb with rfl | ⟨x, e⟩
        · exact .inl List.mem_cons_self
        · rcases lk x b e with ⟨a, _⟩ | ⟨a, a'⟩
          · exact .inl (List.mem_cons_of_mem _ (List.mem_map.mpr ⟨_, mem_of_lookup a, rfl⟩))
          · obtain ⟨ρ₁, F₁, _⟩ := S.frame
            obtain ⟨c', q, o, ho, _⟩ := F₁.cell x (hfree x a')
            rw [a] at q; cases q
            exact .inr ⟨o, ho⟩
      aM := S.low
      mT := S.mT } ⟨H2, s.toks, rfl, k1⟩ fr List.mem_cons_self _ rfl
  · obtain ⟨a, b, c⟩ := fl.of x y e
    have ikind : isVar env x = true := by
      delta isVar
      rcases hfree x (kind_mem a) with h | h <;> rw [h]
    obtain ⟨ρ₁, F₁, V₁⟩ := S.frame
    obtain ⟨v, e1, r1⟩ := V₀ x y b ikind
    refine ⟨v, by rw [if_pos a]; exact e1, ?_⟩
    have r0 : Rep C s.heap M₀ v y := r1
    -- M₀ in s; the new hidden ones are O and W
    have upW : Rep C H2 ((L :: own.map (·.2)) ++ M₀) v y := r0.more k1 fr
    -- from s₀: O is fresh
    obtain ⟨v', e1', r1'⟩ := V₁ x y b ikind
    have hv : v' = v := by
      have hF := F₁.all (h' := s.heap) (by obtain ⟨h', tk, rfl, k⟩ := k₀; exact fun b o _ e => k b o e)
      rcases hfree x (kind_mem a) with h | h
      · obtain ⟨c1, q1, o1, h1, d1⟩ := hF.cell x (.inl h)
        obtain ⟨c2, q2, o2, h2, d2⟩ := F₀.cell x (.inl h)
        rw [q1] at q2; cases q2
        rw [h1] at h2; cases h2
        rw [d1] at d2
        injection d2 with d2
        rw [e1', e1] at d2
        exact Option.some.inj d2
      · obtain ⟨c1, q1, o1, h1, d1⟩ := hF.cell x (.inr h)
        obtain ⟨c2, q2, o2, h2, d2⟩ := F₀.cell x (.inr h)
        rw [q1] at q2; cases q2
        rw [h1] at h2; cases h2
        rw [d1] at d2
        injection d2 with d2
        rw [e1', e1] at d2
        exact Option.some.inj d2
    subst hv
    have := r1'.more (N := (L :: own.map (·.2)) ++ O) k01 frN
    rwa [List.append_assoc] at this
  · obtain ⟨_, _, c⟩ := fl.of x z e
    rw [c] at o; cases o
  · obtain ⟨_, _, c⟩ := fl.of x z e
    rw [c] at o; cases o
  · have hx' := wv_of hx
    rcases place_of hp with e | e
    · exact e ▸ List.mem_cons_self
    · have e : (own ++ cl).lookup x = some p := e
      rcases lk x p e with ⟨a, b⟩ | ⟨a, b⟩
      · exact List.mem_cons_of_mem _ (List.mem_map.mpr ⟨_, mem_of_lookup a, rfl⟩)
      · rcases hx' with h | h <;> (rw [uniq x _ b] at h; cases h)
  · obtain ⟨h', tk, rfl, k⟩ := k₀
    exact ⟨H2, tk, rfl, fun b o _ e => k01 b o e⟩

end
end Mine
namespace Mine

noncomputable def cTests : List PySem.Expr → Env → Sem Bool
  | [], _ => pure true
  | c :: _, env => isTrue c env (eval c env)
noncomputable def cAct (elt : PySem.Expr) (gens : List Comprehension) (scope : Scope) (pos : Pos) (depth : Nat) (acc : Value) (env : Env) : Sem Unit :=
  match gens[depth + 1]? with
  | some g' => do
    let x ← eval g'.iter env
    standAt g'.iter.pos
    let x ← foldedSetIterable g'.iter env x
    let _ ← runOwn (.compStart (.ListComp elt gens scope pos) (depth + 1) (← holding [x] (pyIter x)) acc env) env
    pure ()
  | none => do let _ ← call (.builtin "list.append") [acc, ← eval elt env]
theorem compTurn_eq (elt : PySem.Expr) (gens : List Comprehension) (scope : Scope) (pos : Pos) (depth : Nat) (it acc : Value) (env : Env) (t i : PySem.Expr) (ifs : List PySem.Expr) (hg : gens[depth]? = some ⟨t, i, ifs, 0⟩) (ha' : ∀ g', gens[depth + 1]? = some g' → g'.is_async = 0) (hi : ifs.length ≤ 1) :
    compTurn (.ListComp elt gens scope pos) depth it acc env = (do
      standAt i.pos
      match ← pyNext it with
      | none => pure (.done .next)
      | some v => do
        letOwnedTupleGo t it v
        assign t env v
        let ok ← cTests ifs env
        if ok then cAct elt gens scope pos depth acc env
        again (.compLoop (.ListComp elt gens scope pos) depth it acc env)) := by
  unfold compTurn
  simp only [hg]
  match ifs, hi with
  | [], _ =>
    unfold cAct
    cases hd : gens[depth + 1]? with
    | none => simp [cTests]; rfl
    | some g' =>
      have := ha' g' hd
      simp [cTests, this]; rfl
  | [c], _ =>
    unfold cAct
    cases hd : gens[depth + 1]? with
    | none => simp [cTests]; rfl
    | some g' =>
      have := ha' g' hd
      simp [cTests, this]; rfl

noncomputable def tgtOk (tt : Bool) : PySem.Expr → Bool
  | .Name .. => !tt
  | .Tuple .. => true
  | _ => false

inductive Tgt : PySem.Expr → V → List (Str × V) → Prop
  | name {x p y} : Tgt (.Name x p) y [(x, y)]
  | pair {a p b q k r y1 y2} : Tgt (.Tuple [.Name a p, .Name b q] k r) (.tup [y1, y2]) [(b, y2), (a, y1)]

structure It (C : Cx) (n : Nat) (g : Heap) (I : Addr) (fp wr : List Addr) (tt : Bool) (items : List V) (J : Nat → Heap → Prop) : Prop where
  sub : ∀ b ∈ wr, b ∈ fp
  alive : ∀ i h, J i h → ∀ b ∈ wr, ∃ o, h.get? b = some o
  frame : ∀ i h h', J i h → (∀ b ∈ fp, ∀ o, h.get? b = some o → h'.get? b = some o) → Sub g h' → J i h'
  self : ∀ A, Room A n → ∀ i s Q, J i s.heap → Q (.ref I) s → wpAny (model C.prog C.w) A (pyIter (.ref I)) Q NoE s
  item : ∀ A, Room A n → ∀ i x s (Q : Option Value → Shared → Prop), items[i]? = some x → J i s.heap → Sub g s.heap →
    (∀ v h' tk, (∀ b o, b ∉ wr → s.heap.get? b = some o → h'.get? b = some o) → (∀ b ∈ wr, ∃ o, h'.get? b = some o) →
      (Rp C g v x ∨ ∃ T vs xs, v = .ref T ∧ x = .tup xs ∧ IsTup h' T vs ∧ RpL C g vs xs ∧ s.heap.get? T = Option.none) →
      (∀ t (Q' : Unit → Shared → Prop) tk', tgtOk tt t = true → (∀ h'' tk'', J (i + 1) h'' → (∀ b o, b ∉ wr → h'.get? b = some o → h''.get? b = some o) → Q' () { s with heap := h'', toks := tk'' }) →
        wpAny (model C.prog C.w) A (letOwnedTupleGo t (.ref I) v) Q' NoE { s with heap := h', toks := tk' }) →
      Q (some v) { s with heap := h', toks := tk }) → wpAny (model C.prog C.w) A (pyNext (.ref I)) Q NoE s
  done : ∀ A, Room A n → ∀ s (Q : Option Value → Shared → Prop), J items.length s.heap → Sub g s.heap →
    (∀ h' tk, (∀ b o, b ∉ wr → s.heap.get? b = some o → h'.get? b = some o) → Q none { s with heap := h', toks := tk }) → wpAny (model C.prog C.w) A (pyNext (.ref I)) Q NoE s

section
variable {C : Cx} {n : Nat} {env : Env} {σ σ' : List (Str × V)} {τ τ₁ τ₂ τ₃ : Option Nat} {wv : Str → Bool}

theorem Gs.sub {M M' : List Addr} {s : Shared} (G : Gs C M τ s) (h : ∀ a ∈ M', a ∈ M) (mT : ∀ a, C.T = some a → a ∈ M') : Gs C M' τ s where
  base := C.mono _ _ G.base (hid_less h)
  low := fun a m => G.low a (h a m)
  mT := mT
  tray := by
    have t := G.tray
    cases τ with
    | none => trivial
    | some k => obtain ⟨a, t1, t2, tk', n', b, x1, x2, x3⟩ := t; exact ⟨a, t1, t2, tk', n', b, x1, x2, x3.up (hid_less h)⟩

noncomputable def noOwn (σ : List (Str × V)) : Prop := ∀ x y, σ.lookup x = some y → V.own y = false

theorem noOwn.poke {ρ : Str → Option Value} {X O' : List Addr} (no : noOwn σ) : ∀ x y, σ.lookup x = some y → isVar env x = true → V.own y = true → ∀ a, ρ x = some (Value.ref a) → a ∉ X ∧ a ∈ O' := fun x y e _ o => by rw [no x y e] at o; cases o

theorem Fw.poke {s₀ : Shared} {M₀ W O X O' : List Addr} {ρ : Str → Option Value} {s : Shared} {h' : Heap} {tk : Tok} (F : Fw C wv s₀ M₀ W env σ τ O ρ s) (hX : ∀ b ∈ X, b ∈ O ∧ b ∉ W) (k : ∀ b o, b ∉ X → s.heap.get? b = some o → h'.get? b = some o)
    (hO' : ∀ b ∈ O', b ∈ O ∧ ∃ o, h'.get? b = some o)
    (no : ∀ x y, σ.lookup x = some y → isVar env x = true → y.own = true → ∀ a, ρ x = some (.ref a) → a ∉ X ∧ a ∈ O') : Fw C wv s₀ M₀ W env σ τ O' ρ { s with heap := h', toks := tk } := by
  have subM : ∀ a ∈ W ++ (O' ++ M₀), a ∈ W ++ (O ++ M₀) := fun a ha => by
    simp only [List.mem_append] at ha ⊢
    rcases ha with h | h | h
    · exact .inl h
    · exact .inr (.inl (hO' a h).1)
    · exact .inr (.inr h)
  have up : Sub (hid s.heap (W ++ (O ++ M₀))) (hid h' (W ++ (O' ++ M₀))) := hid_up (fun b o nb e => k b o (fun q => nb (List.mem_append_right _ (List.mem_append_left _ (hX b q).1))) e) fun b o nb e q => nb (subM b q)
  have notX : ∀ b, (b ∈ W ∨ ∃ o, s₀.heap.get? b = some o) → b ∉ X := fun b hb q => by
    rcases hb with hb | ⟨o, e⟩
    · exact (hX b q).2 hb
    · rw [F.fresh b (.inr (hX b q).1)] at e; cases e
  have keepT : ∀ a, C.T = some a → a ∉ X := fun a q => notX a (.inr (F.aM a (F.mT a q)))
  exact {
    gs := {
      base := C.mono _ _ F.gs.base up
      low := fun a ha => by
        simp only [List.mem_append] at ha
        rcases ha with h | h | h
        · obtain ⟨o, e⟩ := F.gs.low a (List.mem_append_left _ h)
          exact ⟨o, k a o (notX a (.inl h)) e⟩
        · exact (hO' a h).2
        · obtain ⟨o, e⟩ := F.gs.low a (List.mem_append_right _ (List.mem_append_right _ h))
          exact ⟨o, k a o (notX a (.inr (F.aM a h))) e⟩
      mT := fun a q => List.mem_append_right _ (List.mem_append_right _ (F.mT a q))
      tray := by
        have t := F.gs.tray
        cases τ with
        | none => trivial
        | some j => obtain ⟨a, t1, t2, tk', n', b, x1, x2, x3⟩ := t; exact ⟨a, t1, t2, tk', n', b, x1, k a _ (keepT a x1) x2, x3.up up⟩ }
    glob := F.glob
    frame := {
      ns := let ⟨m, hn, e⟩ := F.frame.ns; ⟨m, hn.at' fun o q => k _ o (notX _ (F.fa _ (.inl rfl))) q, e⟩
      cell := fun x hx => let ⟨c, e, o, ho, hd⟩ := F.frame.cell x hx; ⟨c, e, o, k c o (notX c (F.fa c (.inr ⟨x, e⟩))) ho, hd⟩
      apart := F.frame.apart
      notT := F.frame.notT }
    vars := fun x y e i => by
      obtain ⟨v, a, r⟩ := F.vars x y e i
      refine ⟨v, a, ?_⟩
      have ow : y.own = true → ∃ b, v = .ref b ∧ b ∉ X ∧ b ∈ O' := fun o => by
        obtain ⟨b, e2, _, _⟩ := F.own x y e i o
        rw [a] at e2; cases e2
        obtain ⟨h1, h2⟩ := no x y e i o b a
        exact ⟨b, rfl, h1, h2⟩
      exact r.move up fun o b e m t => by obtain ⟨_, e2, nb, bO⟩ := ow o; rw [e] at e2; cases e2; exact ⟨List.mem_append_right _ (List.mem_append_left _ bO), fun o e => k _ o nb e⟩
    own := fun x y e i o => by
      obtain ⟨b, e2, bO, bW⟩ := F.own x y e i o
      exact ⟨b, e2, (no x y e i o b e2).2, bW⟩
    apart := F.apart
    wr := F.wr
    kept := by
      obtain ⟨h1, t1, rfl, k1⟩ := F.kept
      exact ⟨h', tk, rfl, fun b o t e => k b o (notX b (.inr ⟨o, e⟩)) (k1 b o t e)⟩
    fresh := fun a ha => F.fresh a (ha.imp id fun h => (hO' a h).1)
    fa := F.fa
    aM := F.aM
    mT := F.mT }

theorem Fw.addO {s₀ : Shared} {M₀ W O N : List Addr} {ρ : Str → Option Value} {s s' : Shared} (F : Fw C wv s₀ M₀ W env σ τ O ρ s) (k : Keeps s s') (fr : ∀ a ∈ N, s.heap.get? a = Option.none) (al : ∀ a ∈ N, ∃ o, s'.heap.get? a = some o) (no : noOwn σ)
    (nT : ∀ a ∈ N, s₀.heap.get? a = Option.none) : Fw C wv s₀ M₀ W env σ τ (N ++ O) ρ s' := by
  obtain ⟨h', tk, rfl, k⟩ := k
  have perm : ∀ a, a ∈ W ++ ((N ++ O) ++ M₀) ↔ a ∈ N ++ (W ++ (O ++ M₀)) := fun a => by
    simp only [List.mem_append]
    constructor
    · rintro (h | (h | h) | h)
      · exact .inr (.inl h)
      · exact .inl h
      · exact .inr (.inr (.inl h))
      · exact .inr (.inr (.inr h))
    · rintro (h | h | h | h)
      · exact .inr (.inl (.inl h))
      · exact .inl h
      · exact .inr (.inl (.inr h))
      · exact .inr (.inr h)
  have G := (F.gs.more (N := N) (tk := tk) k fr al).sub (fun a ha => (perm a).mp ha) (fun a q => List.mem_append_right _ (List.mem_append_right _ (F.mT a q)))
  exact {
    gs := G
    glob := F.glob
    frame := F.frame.all fun b o _ e => k b o e
    vars := fun x y e i => by
      obtain ⟨v, a, r⟩ := F.vars x y e i
      exact ⟨v, a, rep_less (no x y e) (fun a ha => (perm a).mp ha) (r.more k fr)⟩
    own := fun x y e i o => by rw [no x y e] at o; cases o
    apart := fun x x' y y' a e e' i i' o => by rw [no x y e] at o; cases o
    wr := F.wr
    kept := F.kept.trans (.of ⟨h', tk, rfl, k⟩)
    fresh := fun a ha => by
      rcases ha with h | h
      · exact F.fresh a (.inl h)
      · rcases List.mem_append.mp h with h | h
        · exact nT a h
        · exact F.fresh a (.inr h)
    fa := F.fa
    aM := F.aM
    mT := F.mT }

theorem Fw.forget {s₀ : Shared} {M₀ W O : List Addr} {ρ : Str → Option Value} {s : Shared} (F : Fw C wv s₀ M₀ W env σ τ O ρ s) (h : ∀ x y, σ'.lookup x = some y → σ.lookup x = some y) : Fw C wv s₀ M₀ W env σ' τ O ρ s :=
  { F with
    vars := fun x y e i => F.vars x y (h x y e) i
    own := fun x y e i o => F.own x y (h x y e) i o
    apart := fun x x' y y' a e e' i i' o o' => F.apart x x' y y' a (h x y e) (h x' y' e') i i' o o' }

theorem own_rp {h : Heap} {v : Value} {x : V} (r : Rp C h v x) : x.own = false := by cases r <;> rfl
theorem own_of_pure {x : V} (h : x.pure = true) : x.own = false := by cases x <;> first | rfl | cases h

theorem assign_tgt {A : Around} {s₀ : Shared} {M₀ W O : List Addr} {ρ : Str → Option Value} {s : Shared} {t : PySem.Expr} {v : Value} {y : V} {bs : List (Str × V)} {Q : Unit → Shared → Prop} (R : Room A n) (T : Tgt t y bs) (F : Fw C wv s₀ M₀ W env σ τ O ρ s)
    (r : Rep C s.heap (W ++ (O ++ M₀)) v y) (po : y.own = false) (hb : ∀ b ∈ bs, ownVar env b.1 = true ∧ wv b.1 = true)
    (h : ∀ ρ' s', Fw C wv s₀ M₀ W env (bs ++ σ) τ O ρ' s' → (∀ b o, b ∉ W → s.heap.get? b = some o → s'.heap.get? b = some o) → Q () s') : wpAny (model C.prog C.w) A (assign t env v) Q NoE s := by
  cases T with
  | name =>
    exact wpAny_assign_Name (F.set r (notOwn po) (hb _ List.mem_cons_self).1 (hb _ List.mem_cons_self).2 fun s' F' k => h _ s' F' k)
  | @pair a p b q k r' y1 y2 =>
    obtain ⟨c, vs, rfl, l, ql⟩ := rep_tup r
    obtain ⟨v1, v2, rfl, q1, q2⟩ : ∃ v1 v2, vs = [v1, v2] ∧ Rp C (hid s.heap (W ++ (O ++ M₀))) v1 y1 ∧ Rp C (hid s.heap (W ++ (O ++ M₀))) v2 y2 := by
      cases ql with
      | cons q1 ql =>
        cases ql with
        | cons q2 ql =>
          cases ql
          exact ⟨_, _, rfl, q1, q2⟩
    show wpAny _ _ (do standAt r'; unpack (.ref c) [(false, assign (.Name a p) env), (false, assign (.Name b q) env)]) _ _ _
    refine wpAny_bind (wpAny_standAt ?_)
    show wpAny _ _ (do assignInOrder [assign (.Name a p) env, assign (.Name b q) env] (← holding [.ref c] (unpackItems (.ref c) 2 none))) _ _ _
    refine wpAny_bind (wpAny_holding (wpAny_unpackItems_tuple (items := [v1, v2].toArray) R.hd l.of_hid.isTuple fun h' he => ?_))
    show wpAny _ _ (assignInOrder [assign (.Name a p) env, assign (.Name b q) env] [v1, v2]) _ _ _
    have kk : Keeps s { s with heap := h' } := ⟨h', s.toks, rfl, fun b o e => he b o (Nat.ne_of_lt (Heap.lt_size e)) e⟩
    have G' := F.gs.keeps kk
    have F1 : Fw C wv s₀ M₀ W env σ τ O ρ { s with heap := h' } := F.then (.of kk) G'
    have up := hid_all (M := W ++ (O ++ M₀)) (show Sub s.heap h' from fun b o e => he b o (Nat.ne_of_lt (Heap.lt_size e)) e)
    refine wpAny_bind (wpAny_holding (wpAny_assign_Name (F1.set (rep_of (q1.up up)) (notOwn (own_rp q1)) (hb _ (List.mem_cons_of_mem _ List.mem_cons_self)).1 (hb _ (List.mem_cons_of_mem _ List.mem_cons_self)).2 fun s₂ F2 k2 => ?_)))
    show wpAny _ _ (do holding [] (assign (.Name b q) env v2); assignInOrder [] []) _ _ _
    have hW : ∀ x ∈ W, x ∈ W ++ (O ++ M₀) := fun x hx => List.mem_append_left _ hx
    have q2' : Rp C (hid s₂.heap (W ++ (O ++ M₀))) v2 y2 := (q2.up up).up (hid_mono fun b o nb e => k2 b o (fun z => nb (hW b z)) e)
    refine wpAny_bind (wpAny_holding (wpAny_assign_Name (F2.set (rep_of q2') (notOwn (own_rp q2)) (hb _ List.mem_cons_self).1 (hb _ List.mem_cons_self).2 fun s₃ F3 k3 => ?_)))
    refine wpAny_pure (h _ s₃ F3 fun b o nb e => k3 b o nb (k2 b o nb (he b o (Nat.ne_of_lt (Heap.lt_size e)) e)))

end
end Mine
namespace Mine

noncomputable def Turns (T : V → Option Nat → List V → Option Nat → Prop) : List V → Option Nat → List V → Option Nat → Prop
  | [], τ, ys, τ' => ys = [] ∧ τ' = τ
  | x :: r, τ, ys, τ' => ∃ y1 y2 τm, T x τ y1 τm ∧ Turns T r τm y2 τ' ∧ ys = y1 ++ y2

structure Cst (C : Cx) (wv : Str → Bool) (s₀ : Shared) (M₀ W : List Addr) (env : Env) (σ : List (Str × V)) (τ : Option Nat) (O : List Addr) (ρ : Str → Option Value) (D : Addr) (zs : List V) (s : Shared) : Prop where
  fw : Fw C wv s₀ M₀ W env σ τ O ρ s
  dO : D ∈ O
  dW : D ∉ W
  no : noOwn σ
  acc : ∃ ws, IsLst s.heap D ws ∧ RpL C (hid s.heap (W ++ (O ++ M₀))) ws zs

section
variable {C : Cx} {n : Nat} {env : Env} {σ σ' : List (Str × V)} {τ τ₁ τ₂ τ₃ : Option Nat} {wv : Str → Bool}

noncomputable def CAct (C : Cx) (n : Nat) (elt : PySem.Expr) (gens : List Comprehension) (scope : Scope) (pos : Pos) (d : Nat) (ifs : List PySem.Expr) (env : Env) (σ : List (Str × V)) (τ : Option Nat) (ys : List V) (τ' : Option Nat) : Prop :=
  ∀ A, Room A n → ∀ s₀ M₀ W L cs O ρ D zs s, Cst C (wvOf scope) s₀ M₀ W (cenvOf scope env L cs) σ τ O ρ D zs s → zs.length + ys.length ≤ sizeLine →
    wpAny (model C.prog C.w) A (do let ok ← cTests ifs (cenvOf scope env L cs); if ok then cAct elt gens scope pos d (.ref D) (cenvOf scope env L cs))
      (fun _ s' => ∃ ρ', Cst C (wvOf scope) s₀ M₀ W (cenvOf scope env L cs) σ τ' O ρ' D (zs ++ ys) s' ∧ (∀ b o, b ∉ W → b ≠ D → C.T ≠ some b → s.heap.get? b = some o → s'.heap.get? b = some o)) NoE s

noncomputable def CTurn (C : Cx) (n : Nat) (elt : PySem.Expr) (gens : List Comprehension) (scope : Scope) (pos : Pos) (d : Nat) (t : PySem.Expr) (ifs : List PySem.Expr) (env : Env) (σ : List (Str × V)) (x : V) (τ : Option Nat) (ys : List V) (τ' : Option Nat) : Prop :=
  ∃ bs, Tgt t x bs ∧ (∀ b ∈ bs, (∀ L cs, ownVar (cenvOf scope env L cs) b.1 = true) ∧ wvOf scope b.1 = true ∧ σ.lookup b.1 = Option.none) ∧ (V.own x = false → CAct C n elt gens scope pos d ifs env (bs ++ σ) τ ys τ')

theorem then_eq (m : Sem Bool) (f : Sem Unit) (c : Sem PySem.Fin) : (do
    let ok ← m
    if ok then f
    c) = (do
    (do
      let ok ← m
      if ok then f)
    c) := by
  simp only [bind_assoc]
  congr 1
  funext ok
  cases ok <;> simp

theorem lookup_append_none {bs σ : List (Str × V)} {x : Str} {y : V} (h : ∀ b ∈ bs, σ.lookup b.1 = Option.none) (e : σ.lookup x = some y) : (bs ++ σ).lookup x = some y := by
  rw [List.lookup_append]
  cases q : bs.lookup x with
  | none => exact e
  | some z =>
    have := h (x, z) (mem_of_lookup q)
    rw [e] at this; cases this

theorem Tgt.noOwn {t : PySem.Expr} {y : V} {bs : List (Str × V)} (T : Tgt t y bs) {C : Cx} {h : Heap} {v : Value} (r : Rp C h v y) : ∀ b ∈ bs, V.own b.2 = false := by
  cases T with
  | name => intro b hb; simp at hb; subst hb; exact own_rp r
  | pair =>
    cases r with
    | tup a q =>
      cases q with
      | cons q1 q2 =>
        cases q2 with
        | cons q2 q3 =>
          intro b hb
          simp at hb
          rcases hb with rfl | rfl
          · exact own_rp q2
          · exact own_rp q1

theorem comp_loop {A : Around} {g : Heap} {I : Addr} {fp wr : List Addr} {tt : Bool} {items : List V} {J : Nat → Heap → Prop} {elt t i : PySem.Expr} {ifs : List PySem.Expr} {gens : List Comprehension} {scope : Scope} {pos : Pos} {d : Nat}
    {s₀ : Shared} {M₀ W : List Addr} {L D : Addr} {cs : List (Str × Addr)} {O : List Addr}
    (R : Room A n) (hg : gens[d]? = some ⟨t, i, ifs, 0⟩) (ha' : ∀ g', gens[d + 1]? = some g' → g'.is_async = 0) (hi : ifs.length ≤ 1) (htk : tgtOk tt t = true) (It' : It C n g I fp wr tt items J)
    (hfp : ∀ b ∈ fp, b ∉ W ∧ b ≠ D ∧ C.T ≠ some b) (hdis : ∀ b ∈ wr, b ∉ O) (gd : ∀ b o, g.get? b = some o → b ∉ W ++ ((wr ++ O) ++ M₀)) (dO : D ∈ O) :
    ∀ (rest done : List V), items = done ++ rest → ∀ τ ys τ', Turns (CTurn C n elt gens scope pos d t ifs env σ) rest τ ys τ' → ∀ ρ zs s, Cst C (wvOf scope) s₀ M₀ W (cenvOf scope env L cs) σ τ (wr ++ O) ρ D zs s →
      J done.length s.heap → Sub g s.heap → zs.length + ys.length ≤ sizeLine →
      codeAny (model C.prog C.w) A (.compLoop (.ListComp elt gens scope pos) d (.ref I) (.ref D) (cenvOf scope env L cs))
        (fun r s' => ∃ f ρ', r = .ok f ∧ Cst C (wvOf scope) s₀ M₀ W (cenvOf scope env L cs) σ τ' O ρ' D (zs ++ ys) s' ∧ (∀ b o, b ∉ W → b ≠ D → b ∉ wr → C.T ≠ some b → s.heap.get? b = some o → s'.heap.get? b = some o)) s := by
  have wrW : ∀ b ∈ wr, b ∈ wr ++ O ∧ b ∉ W := fun b hb => ⟨List.mem_append_left _ hb, (hfp b (It'.sub b hb)).1⟩
  have notT : ∀ b o, g.get? b = some o → (∀ a, C.T = some a → a ∈ M₀) → C.T ≠ some b := fun b o e mT q => gd b o e (List.mem_append_right _ (List.mem_append_right _ (mT b q)))
  intro rest
  induction rest with
  | nil =>
    intro done he τ ys τ' ht ρ zs s K hJ hS hl
    obtain ⟨rfl, rfl⟩ := ht
    have hlen : done.length = items.length := by rw [he, List.append_nil]
    refine codeAny_of_tree ?_
    show wpAny _ A ((compTurn (.ListComp elt gens scope pos) d (.ref I) (.ref D) (cenvOf scope env L cs)).onRaise (fun x => do noteFrame x (cenvOf scope env L cs); theTreesLotGoes x)) _ _ s
    refine wpAny_noted (NoE.any ?_)
    rw [compTurn_eq elt gens scope pos d _ _ _ t i ifs hg ha' hi]
    refine wpAny_bind (wpAny_standAt (wpAny_bind (It'.done A R s _ (hlen ▸ hJ) hS fun h' tk k => ?_)))
    refine wpAny_pure ⟨.next, ρ, rfl, ?_, fun b o _ _ nw _ e => k b o nw e⟩
    have F' := K.fw.poke (h' := h') (tk := tk) (O' := O) wrW k (fun b hb => ⟨List.mem_append_right _ hb, by
      obtain ⟨o, e⟩ := K.fw.gs.low b (List.mem_append_right _ (List.mem_append_left _ (List.mem_append_right _ hb)))
      exact ⟨o, k b o (fun q => hdis b q hb) e⟩⟩) K.no.poke
    obtain ⟨ws, l, q⟩ := K.acc
    refine ⟨F', dO, K.dW, K.no, ws, l.at fun o e => k D o (fun q => (hfp D (It'.sub D q)).2.1 rfl) e, ?_⟩
    rw [List.append_nil]
    refine q.up (hid_up (fun b o nb e => k b o (fun z => nb (List.mem_append_right _ (List.mem_append_left _ (List.mem_append_left _ z)))) e) fun b o nb e z => nb ?_)
    simp only [List.mem_append] at z ⊢
    rcases z with z | z | z
    · exact .inl z
    · exact .inr (.inl (.inr z))
    · exact .inr (.inr z)
  | cons x rest ih =>
    intro done he τ ys τ' ht ρ zs s K hJ hS hl
    obtain ⟨y1, y2, τm, ⟨bs, hT, hbs, hact⟩, hrest, rfl⟩ := ht
    have hx : items[done.length]? = some x := by rw [he]; simp
    refine codeAny_of_tree ?_
    show wpAny _ A ((compTurn (.ListComp elt gens scope pos) d (.ref I) (.ref D) (cenvOf scope env L cs)).onRaise (fun x => do noteFrame x (cenvOf scope env L cs); theTreesLotGoes x)) _ _ s
    refine wpAny_noted (NoE.any ?_)
    rw [compTurn_eq elt gens scope pos d _ _ _ t i ifs hg ha' hi]
    refine wpAny_bind (wpAny_standAt (wpAny_bind (It'.item A R done.length x s _ hx hJ hS fun v h' tk k al hv go => ?_)))
    refine wpAny_bind (go t _ _ htk fun h'' tk'' hJ' k2 => ?_)
    have kk : ∀ b o, b ∉ wr → s.heap.get? b = some o → h''.get? b = some o := fun b o nb e => k2 b o nb (k b o nb e)
    have al2 := It'.alive _ _ hJ'
    have F2 := K.fw.poke (h' := h'') (tk := tk'') (O' := wr ++ O) wrW kk (fun b hb => ⟨hb, by
      rcases List.mem_append.mp hb with q | q
      · exact al2 b q
      · obtain ⟨o, e⟩ := K.fw.gs.low b (List.mem_append_right _ (List.mem_append_left _ (List.mem_append_right _ q)))
        exact ⟨o, kk b o (fun z => hdis b z q) e⟩⟩) K.no.poke
    have up2 : Sub (hid s.heap (W ++ ((wr ++ O) ++ M₀))) (hid h'' (W ++ ((wr ++ O) ++ M₀))) := hid_mono fun b o nb e => kk b o (fun z => nb (List.mem_append_right _ (List.mem_append_left _ (List.mem_append_left _ z)))) e
    have gs2 : Sub g h'' := fun b o e => kk b o (fun z => gd b o e (List.mem_append_right _ (List.mem_append_left _ (List.mem_append_left _ z)))) (hS b o e)
    have gh2 : Sub g (hid h'' (W ++ ((wr ++ O) ++ M₀))) := fun b o e => hid_get (gs2 b o e) (gd b o e)
    have rv : Rp C (hid h'' (W ++ ((wr ++ O) ++ M₀))) v x := by
      rcases hv with hv | ⟨T, vs, xs, rfl, rfl, l, q, fr⟩
      · exact hv.up gh2
      · have nT : T ∉ W ++ ((wr ++ O) ++ M₀) := fun z => by obtain ⟨o, e⟩ := K.fw.gs.low T z; rw [fr] at e; cases e
        have nw : T ∉ wr := fun z => nT (List.mem_append_right _ (List.mem_append_left _ (List.mem_append_left _ z)))
        exact .tup (l.at fun o e => hid_get (k2 T o nw e) nT) (q.up gh2)
    have hown : V.own x = false := own_rp rv
    refine wpAny_bind (assign_tgt (wv := wvOf scope) R hT F2 (rep_of rv) hown (fun b hb => ⟨(hbs b hb).1 L cs, (hbs b hb).2.1⟩) fun ρ3 s3 F3 k3 => ?_)
    obtain ⟨ws, l, q⟩ := K.acc
    have hD2 : ∀ o, s.heap.get? D = some o → h''.get? D = some o := fun o e => kk D o (fun z => (hfp D (It'.sub D z)).2.1 rfl) e
    have K3 : Cst C (wvOf scope) s₀ M₀ W (cenvOf scope env L cs) (bs ++ σ) τ (wr ++ O) ρ3 D zs s3 := ⟨F3, List.mem_append_right _ dO, K.dW, fun z w e => by
        rw [List.lookup_append] at e
        cases qq : bs.lookup z with
        | none => rw [qq] at e; exact K.no z w e
        | some w' =>
          rw [qq] at e; cases e
          exact hT.noOwn rv (z, w) (mem_of_lookup qq), ws, (l.at hD2).at fun o e => k3 D o K.dW e,
      (q.up up2).up (hid_mono fun b o nb e => k3 b o (fun z => nb (List.mem_append_left _ z)) e)⟩
    have hl1 : zs.length + y1.length ≤ sizeLine := by rw [List.length_append] at hl; lia
    have body := hact hown A R s₀ M₀ W L cs (wr ++ O) ρ3 D zs s3 K3 hl1
    have step : ∀ (u : Unit) (s4 : Shared), (∃ ρ', Cst C (wvOf scope) s₀ M₀ W (cenvOf scope env L cs) (bs ++ σ) τm (wr ++ O) ρ' D (zs ++ y1) s4 ∧ (∀ b o, b ∉ W → b ≠ D → C.T ≠ some b → s3.heap.get? b = some o → s4.heap.get? b = some o)) →
        wpAny (model C.prog C.w) A (again (.compLoop (.ListComp elt gens scope pos) d (.ref I) (.ref D) (cenvOf scope env L cs))) (fun fin s' => match fin with
          | .done f => ∃ f' ρ', (Except.ok f : Result) = .ok f' ∧ Cst C (wvOf scope) s₀ M₀ W (cenvOf scope env L cs) σ τ' O ρ' D (zs ++ (y1 ++ y2)) s' ∧ (∀ b o, b ∉ W → b ≠ D → b ∉ wr → C.T ≠ some b → s.heap.get? b = some o → s'.heap.get? b = some o)
          | .again c' => c'.quiet = true ∧ codeAny (model C.prog C.w) A c' (fun r s' => ∃ f ρ', r = .ok f ∧ Cst C (wvOf scope) s₀ M₀ W (cenvOf scope env L cs) σ τ' O ρ' D (zs ++ (y1 ++ y2)) s' ∧ (∀ b o, b ∉ W → b ≠ D → b ∉ wr → C.T ≠ some b → s.heap.get? b = some o → s'.heap.get? b = some o)) s') NoE s4 := by
      rintro u s4 ⟨ρ4, K4, k4⟩
      refine wpAny_pure ⟨rfl, ?_⟩
      have K4' : Cst C (wvOf scope) s₀ M₀ W (cenvOf scope env L cs) σ τm (wr ++ O) ρ4 D (zs ++ y1) s4 := ⟨K4.fw.forget fun z w e => lookup_append_none (fun b hb => (hbs b hb).2.2) e, K4.dO, K4.dW, K.no, K4.acc⟩
      have k24 : ∀ b o, b ∉ W → b ≠ D → C.T ≠ some b → h''.get? b = some o → s4.heap.get? b = some o := fun b o a1 a2 a3 e => k4 b o a1 a2 a3 (k3 b o a1 e)
      have gs4 : Sub g s4.heap := fun b o e => k24 b o (fun z => gd b o e (List.mem_append_left _ z)) (fun z => gd b o e (z ▸ List.mem_append_right _ (List.mem_append_left _ (List.mem_append_right _ dO)))) (notT b o e K.fw.mT) (gs2 b o e)
      have J4 : J (done ++ [x]).length s4.heap := by
        rw [List.length_append]
        exact It'.frame _ _ _ hJ' (fun b hb o e => k24 b o (hfp b hb).1 (hfp b hb).2.1 (hfp b hb).2.2 e) gs4
      have := ih (done ++ [x]) (by rw [he]; simp) τm y2 τ' hrest ρ4 (zs ++ y1) s4 K4' J4 gs4 (by simp only [List.length_append] at hl ⊢; lia)
      refine codeAny_mono this ?_
      rintro r s5 ⟨f, ρ5, rfl, K5, k5⟩
      exact ⟨f, ρ5, rfl, by rw [← List.append_assoc]; exact K5, fun b o a1 a2 a3 a4 e => k5 b o a1 a2 a3 a4 (k24 b o a1 a2 a4 (kk b o a3 e))⟩
    rw [then_eq]
    exact wpAny_bind (wpAny_mono body step fun _ _ x => x)

end
end Mine
namespace Mine

section
variable {C : Cx} {n : Nat} {env : Env} {σ σ' : List (Str × V)} {τ τ₁ τ₂ τ₃ : Option Nat} {wv : Str → Bool}

noncomputable def IterOf (C : Cx) (n : Nat) (x : V) (tt : Bool) (items : List V) : Prop := ∀ A, Room A n → ∀ M s v τ, Gs C M τ s → Rep C s.heap M v x →
  wpAny (model C.prog C.w) A (pyIter v) (fun it s' => ∃ I fp wr J, it = .ref I ∧ It C n (hid s.heap M) I fp wr tt items J ∧ J 0 s'.heap ∧ Keeps s s' ∧ (∀ b ∈ wr, s.heap.get? b = Option.none) ∧
    (∀ b ∈ fp, b ∈ wr ∨ ∃ o, (hid s.heap M).get? b = some o)) NoE s

noncomputable def IterE (C : Cx) (n : Nat) (iter : PySem.Expr) (env : Env) (σ : List (Str × V)) (τ : Option Nat) (tt : Bool) (items : List V) (τ' : Option Nat) : Prop := ∀ A, Room A n → ∀ M s, St C M env σ τ s →
  wpAny (model C.prog C.w) A (eval iter env) (fun v s₁ => ∃ sb, St C M env σ τ' sb ∧ Kept C s sb ∧ Keeps sb s₁ ∧ wpAny (model C.prog C.w) A (pyIter v) (fun it s' => ∃ I fp wr J, it = .ref I ∧ It C n (hid sb.heap M) I fp wr tt items J ∧ J 0 s'.heap ∧ Keeps sb s' ∧ (∀ b ∈ wr, sb.heap.get? b = Option.none) ∧
    (∀ b ∈ fp, b ∈ wr ∨ ∃ o, (hid sb.heap M).get? b = some o)) NoE s₁) NoE s

theorem IterE.of {iter : PySem.Expr} {x : V} {tt : Bool} {items : List V} (hx : Ev C n iter env σ τ x τ₁) (hit : IterOf C n x tt items) : IterE C n iter env σ τ tt items τ₁ := fun A R M s S =>
  wpAny_mono (hx A R M s S) (fun v s₁ zz => and3 zz fun S₁ r₁ k₁ => ⟨s₁, S₁, k₁, kpRfl s₁, hit A R M s₁ v τ₁ S₁.toGs r₁⟩) fun _ _ x => x

theorem Fw.leave {s₀ : Shared} {M₀ W O : List Addr} {ρ : Str → Option Value} {s : Shared} (F : Fw C wv s₀ M₀ W env σ τ O ρ s) {h' : Heap} {tk : Tok} (k : ∀ b o, b ∉ W → b ∉ O → s.heap.get? b = some o → h'.get? b = some o) :
    Gs C M₀ τ { s with heap := h', toks := tk } ∧ Kept C s₀ { s with heap := h', toks := tk } ∧ Sub (hid s.heap (W ++ (O ++ M₀))) (hid h' M₀) := by
  have less : ∀ b ∈ M₀, b ∈ W ++ (O ++ M₀) := fun b hb => List.mem_append_right _ (List.mem_append_right _ hb)
  have up : Sub (hid s.heap (W ++ (O ++ M₀))) (hid h' M₀) := hid_up (fun b o nb e => k b o (fun q => nb (List.mem_append_left _ q)) (fun q => nb (List.mem_append_right _ (List.mem_append_left _ q))) e) fun b o nb e q => nb (less b q)
  have old : ∀ b, (∃ o, s₀.heap.get? b = some o) → b ∉ W ∧ b ∉ O := fun b zz => by obtain ⟨o, e⟩ := zz; exact ⟨fun q => by (have z := F.fresh b (.inl q)); (rw [z] at e); (cases e), fun q => by (have z := F.fresh b (.inr q)); (rw [z] at e); (cases e)⟩
  refine ⟨⟨C.mono _ _ F.gs.base up, fun a m => ?_, F.mT, ?_⟩, ?_, up⟩
  · obtain ⟨o, e⟩ := F.gs.low a (less a m)
    have := old a (F.aM a m)
    exact ⟨o, k a o this.1 this.2 e⟩
  · have t := F.gs.tray
    cases τ with
    | none => trivial
    | some j =>
      obtain ⟨a, t1, t2, tk', n', b, x1, x2, x3⟩ := t
      have := old a (F.aM a (F.mT a x1))
      exact ⟨a, t1, t2, tk', n', b, x1, k a _ this.1 this.2 x2, x3.up up⟩
  · obtain ⟨h1, t1, rfl, k1⟩ := F.kept
    exact ⟨h', tk, rfl, fun b o t e => have := old b ⟨o, e⟩; k b o this.1 this.2 (k1 b o t e)⟩

theorem compStart_wp {A : Around} {s : Shared} {R : Result → Shared → Prop} {elt : PySem.Expr} {gens : List Comprehension} {scope : Scope} {pos : Pos} {d : Nat} {I D : Addr} {cenv : Env} {t i : PySem.Expr} {ifs : List PySem.Expr} {fp wr : List Addr} {tt : Bool} {items : List V} {J : Nat → Heap → Prop} {g : Heap}
    (Rm : Room A n) (hg : gens[d]? = some ⟨t, i, ifs, 0⟩) (It' : It C n g I fp wr tt items J) (hJ : J 0 s.heap)
    (h : codeAny (model C.prog C.w) A (.compLoop (.ListComp elt gens scope pos) d (.ref I) (.ref D) cenv) R s) : codeAny (model C.prog C.w) A (.compStart (.ListComp elt gens scope pos) d (.ref I) (.ref D) cenv) R s := by
  refine codeAny_of_tree ?_
  show wpAny _ A ((compStart (.ListComp elt gens scope pos) d (.ref I) (.ref D) cenv).onRaise (fun x => do noteFrame x cenv; standAt theWindowsPlace)) _ _ s
  refine wpAny_notedAt (NoE.any ?_)
  have hcl : (clausesOf (.ListComp elt gens scope pos))[d]? = some ⟨t, i, ifs, 0⟩ := hg
  unfold compStart
  rw [hcl]
  show wpAny _ _ (ask >>= _) _ _ s
  refine wpAny_bind (wpAny_askSetting (wpAny_ite ?_))
  split
  · first
      | exact wpAny_bind (wpAny_pure (wpAny_pure (And.intro rfl h)))
      | exact wpAny_pure (And.intro rfl h)
  · exact wpAny_bind (wpAny_rule (wpAny_bind (wpAny_standAt (wpAny_bind (It'.self A Rm 0 s _ hJ (wpAny_pure (And.intro rfl h)))))))

theorem comp_wp {A : Around} {M : List Addr} {s : Shared} {elt t iter : PySem.Expr} {ifs : List PySem.Expr} {rest : List Comprehension} {scope : Scope} {pos pos' : Pos} {tt : Bool} {items ys : List V} {use : Option (Value → Sem Unit)} {Q : Value → Shared → Prop}
    (R : Room A n) (S : St C M env σ τ s)
    (hx : IterE C n iter env σ τ tt items τ₁) (fl : Filt scope σ σ') (ok : compOk scope env = true) (kd : scope.kind = .function) (htk : tgtOk tt t = true) (hi : ifs.length ≤ 1) (ha' : ∀ g', (⟨t, iter, ifs, 0⟩ :: rest : List Comprehension)[0 + 1]? = some g' → g'.is_async = 0)
    (ht : Turns (CTurn C n elt (⟨t, iter, ifs, 0⟩ :: rest) scope pos 0 t ifs env σ') items τ₁ ys τ₂) (hl : ys.length ≤ sizeLine)
    (hs : ∀ x, foldedSetIterable iter env x = pure x)
    (h : ∀ s₁ W L cs D ρ s' f, St C M env σ τ₁ s₁ → Kept C s s₁ → Cst C (wvOf scope) s₁ M W (cenvOf scope env L cs) σ' τ₂ [D] ρ D ys s' → L ∈ W → (∀ b ∈ W, s₁.heap.get? b = Option.none) → compPost (model C.prog C.w) A NoE use Q (.ref D) L (.ok f) s') :
    wpAny (model C.prog C.w) A (comprehension (.ListComp elt (⟨t, iter, ifs, 0⟩ :: rest) scope pos) scope env pos' (newList []) false (eval iter env) use) Q NoE s := by
  obtain ⟨uniq, hfree⟩ := compOk_of ok
  have hclos : closureFor scope env = pure (closL env.cells scope.names []) := closureFor_of fun x hx => by
    obtain ⟨ρ₀, F₀, _⟩ := S.frame
    obtain ⟨c, e, _⟩ := F₀.cell x (hfree x hx)
    exact ⟨c, e⟩
  refine wpAny_comprehension_free rfl hs hclos kd (fun y hy hl => by obtain ⟨y1, y2⟩ := y; simp only at hl; subst hl; exact uniq y1 _ hy) ?_
  refine wpAny_mono (hx A R M s S) (fun v s₁' zz => ?_) fun _ _ x => x
  obtain ⟨s₁, S₁, k₁, _, hpy⟩ := zz
  refine wpAny_mono hpy (fun it s₂ zz => ?_) fun _ _ x => x
  obtain ⟨I, fp, wr, J, e, It', hJ, k₂, fwr, ffp⟩ := zz
  subst e
  refine wpAny_newList ?_ (by rw [sizeLine_eq]; exact Nat.zero_le _)
  generalize hD : s₂.heap.objs.size = D
  generalize hs3 : ({ s₂ with heap := s₂.heap.push { cls := .type "list", data := .seq ([] : List Value).toArray } } : Shared) = s₃
  have k23 : Keeps s₂ s₃ := hs3 ▸ kpPush _ _
  have k13 : Keeps s₁ s₃ := kpTrans k₂ k23
  have dfr : s₁.heap.get? D = Option.none := by
    cases q : s₁.heap.get? D with
    | none => rfl
    | some o =>
      obtain ⟨h', tk, rfl, k⟩ := k₂
      have := Heap.lt_size (k _ _ q)
      rw [hD] at this
      exact absurd this (Nat.lt_irrefl _)
  have lD : IsLst s₃.heap D [] := by rw [← hs3, ← hD]; exact ⟨0, Heap.get?_push_size _ rfl⟩
  have J3 : J 0 s₃.heap := by
    have q : Sub s₂.heap s₃.heap := by obtain ⟨h', tk, rfl, k⟩ := k23; exact k
    have q2 : Sub (hid s₁.heap M) s₃.heap := by
      obtain ⟨h', tk, e, k⟩ := k13; rw [e]; exact fun b o e => k b o (hid_sub _ _ _ _ e)
    exact It'.frame 0 _ _ hJ (fun b _ o e => q b o e) q2
  have frO : ∀ a ∈ wr ++ [D], s₁.heap.get? a = Option.none := fun a ha => by
    rcases List.mem_append.mp ha with h | h
    · exact fwr a h
    · simp at h; subst h; exact dfr
  have sub13 : Sub s₁.heap s₃.heap := by obtain ⟨h', tk, e, k⟩ := k13; rw [e]; exact k
  have G3 : Gs C ((wr ++ [D]) ++ M) τ₁ s₃ := by
    have := S₁.toGs.more (N := wr ++ [D]) (tk := s₃.toks) sub13 frO fun a ha => by
      rcases List.mem_append.mp ha with h | h
      · exact It'.alive 0 _ J3 a h
      · simp at h; subst h; obtain ⟨_, e⟩ := lD; exact ⟨_, e⟩
    obtain ⟨h', tk, rfl, k⟩ := k13
    exact this
  refine comp_enter S₁ k13 G3 frO ok kd fl fun L cs W ρ s₄ F k34 frW hLW e he => ?_
  subst he
  rw [← S.glob.2.1]
  show codeAny _ _ (.compStart (.ListComp elt (⟨t, iter, ifs, 0⟩ :: rest) scope pos) 0 (.ref I) (.ref D) (cenvOf scope env L cs)) _ _
  have sub34 : Sub s₃.heap s₄.heap := by obtain ⟨h', tk, e, k⟩ := k34; rw [e]; exact k
  have sub14 := sub13.trans sub34
  have J4 : J 0 s₄.heap := It'.frame 0 _ _ J3 (fun b _ o e => sub34 b o e) fun b o e => sub14 b o (hid_sub _ _ _ _ e)
  have dW : D ∉ W := fun q => by obtain ⟨_, e⟩ := lD; rw [frW D q] at e; cases e
  have aliveS3 : ∀ b ∈ fp, ∃ o, s₃.heap.get? b = some o := fun b hb => by
    rcases ffp b hb with h | ⟨o, e⟩
    · exact It'.alive 0 _ J3 b h
    · exact ⟨o, sub13 b o (hid_sub _ _ _ _ e)⟩
  have wrD : ∀ b ∈ fp, b ≠ D := fun b hb q => by
    subst q
    rcases ffp b hb with h | ⟨o, e⟩
    · have a1 := It'.alive 0 _ hJ b h
      obtain ⟨o, e⟩ := a1
      have := Heap.lt_size e
      rw [hD] at this
      exact absurd this (Nat.lt_irrefl _)
    · have := hid_sub _ _ _ _ e; rw [dfr] at this; cases this
  have K0 : Cst C (wvOf scope) s₁ M W (cenvOf scope env L cs) σ' τ₁ (wr ++ [D]) ρ D [] s₄ := ⟨F, by simp, dW, fun y z e => (fl.of y z e).2.2, [], lD.up sub34, .nil⟩
  have W1 : ∀ b ∈ W, s₁.heap.get? b = Option.none := fun b hb => F.fresh b (.inl hb)
  refine compStart_wp (cenv := cenvOf scope env L cs) R (d := 0) rfl It' J4 ?_
  refine codeAny_mono (comp_loop (O := [D]) R rfl ha' hi htk It' (fun b hb => ⟨fun q => ?_, wrD b hb, fun q => ?_⟩) (fun b hb q => ?_) (fun b o e q => ?_) (by simp) items [] rfl τ₁ ys τ₂ ht ρ [] s₄ K0 J4 (fun b o e => sub14 b o (hid_sub _ _ _ _ e)) (by simpa using hl)) ?_
  · obtain ⟨o, e⟩ := aliveS3 b hb; rw [frW b q] at e; cases e
  · rcases ffp b hb with h | ⟨o, e⟩
    · obtain ⟨o, e⟩ := S₁.low b (S₁.mT b q); rw [fwr b h] at e; cases e
    · exact hid_not e (S₁.mT b q)
  · simp at q; exact wrD b (It'.sub b hb) q
  · have nM := hid_not e
    have e1 := hid_sub _ _ _ _ e
    simp only [List.mem_append, List.mem_singleton] at q
    rcases q with q | (q | q) | q
    · rw [W1 b q] at e1; cases e1
    · rw [fwr b q] at e1; cases e1
    · rw [q, dfr] at e1; cases e1
    · exact nM q
  · rintro r s5 ⟨f, ρ5, rfl, K5, k5⟩
    exact h s₁ W L cs D ρ5 s5 f S₁ k₁ K5 hLW W1

theorem EvN_comp {elt t iter : PySem.Expr} {ifs : List PySem.Expr} {rest : List Comprehension} {scope : Scope} {pos : Pos} {tt : Bool} {items ys : List V}
    (hx : IterE C n iter env σ τ tt items τ₁) (fl : Filt scope σ σ')
    (ht : Turns (CTurn C n elt (⟨t, iter, ifs, 0⟩ :: rest) scope pos 0 t ifs env σ') items τ₁ ys τ₂) (hl : ys.length ≤ sizeLine)
    (ok : compOk scope env = true) (kd : scope.kind = .function) (htk : tgtOk tt t = true) (hi : ifs.length ≤ 1) (ha' : ∀ g', (⟨t, iter, ifs, 0⟩ :: rest : List Comprehension)[0 + 1]? = some g' → g'.is_async = 0)
    (hs : ∀ x, foldedSetIterable iter env x = pure x) : EvN C n (.ListComp elt (⟨t, iter, ifs, 0⟩ :: rest) scope pos) env σ τ ys τ₂ := fun A R M s S => by
  rw [eval_ListComp]
  refine comp_wp R S hx fl ok kd htk hi ha' ht hl hs fun s₁ W L cs D ρ s' f S₁ k₁ K hLW frW => ?_
  obtain ⟨m, hn, _⟩ := K.fw.frame.ns
  refine ⟨m, hn, fun h' sb => ?_⟩
  have ne : ∀ b, b ∉ W → b ≠ L := fun b nb q => nb (q ▸ hLW)
  obtain ⟨G, kk, up⟩ := K.fw.leave (h' := h') (tk := s'.toks) fun b o nW nO e => (sb.2 b (ne b nW)).trans e
  obtain ⟨ws, l, q⟩ := K.acc
  have dn : s₁.heap.get? D = Option.none := K.fw.fresh D (.inr (by simp))
  have dM : D ∉ M := fun z => by obtain ⟨o, e⟩ := S₁.low D z; rw [dn] at e; cases e
  have GD : Gs C (D :: M) τ₂ { s' with heap := h', toks := s'.toks } := by
    have sub : ∀ a ∈ D :: M, a ∈ W ++ ([D] ++ M) := fun a ha => List.mem_append_right _ (by simpa using ha)
    have up' : Sub (hid s'.heap (W ++ ([D] ++ M))) (hid h' (D :: M)) := hid_up (fun b o nb e => (sb.2 b (ne b fun z => nb (List.mem_append_left _ z))).trans e) fun b o nb e q => nb (sub b q)
    exact ⟨C.mono _ _ K.fw.gs.base up', fun a ha => by
      rcases List.mem_cons.mp ha with rfl | ha
      · obtain ⟨_, e⟩ := l; exact ⟨_, (sb.2 _ (ne _ K.dW)).trans e⟩
      · exact G.low a ha, fun a q => List.mem_cons_of_mem _ (S₁.mT a q), by
      have t := K.fw.gs.tray
      cases τ₂ with
      | none => trivial
      | some j =>
        obtain ⟨a, t1, t2, tk', n', b, x1, x2, x3⟩ := t
        refine ⟨a, t1, t2, tk', n', b, x1, (sb.2 a (ne a fun z => ?_)).trans x2, x3.up up'⟩
        obtain ⟨o, e⟩ := S₁.low a (S₁.mT a x1)
        rw [frW a z] at e; cases e⟩
  refine ⟨S₁.kept kk G, ⟨D, ws, rfl, ?_, dM, l.at fun o e => (sb.2 D (ne D K.dW)).trans e, GD, ?_⟩, k₁.trans kk⟩
  · cases z : s.heap.get? D with
    | none => rfl
    | some o =>
      by_cases t : C.T = some D
      · exact absurd (S.mT D t) dM
      · obtain ⟨h1, t1, rfl, k1⟩ := k₁
        have := k1 D o t z
        rw [dn] at this; cases this
  · have sub : ∀ a ∈ D :: M, a ∈ W ++ ([D] ++ M) := fun a ha => List.mem_append_right _ (by simpa using ha)
    have up' : Sub (hid s'.heap (W ++ ([D] ++ M))) (hid h' (D :: M)) := hid_up (fun b o nb e => (sb.2 b (ne b fun z => nb (List.mem_append_left _ z))).trans e) fun b o nb e q => nb (sub b q)
    simpa using q.up up'

end
end Mine
namespace Mine

section
variable {C : Cx} {n : Nat} {env : Env} {σ σ' : List (Str × V)} {τ τ₁ τ₂ τ₃ : Option Nat} {wv : Str → Bool}

theorem emit_wp {A : Around} {elt : PySem.Expr} {gens : List Comprehension} {scope : Scope} {pos : Pos} {d : Nat} {s₀ : Shared} {M₀ W : List Addr} {L D : Addr} {cs : List (Str × Addr)} {O : List Addr} {ρ : Str → Option Value} {zs : List V} {y : V} {s : Shared}
    (R : Room A n) (hn : gens[d + 1]? = Option.none) (he : Ev C n elt (cenvOf scope env L cs) σ τ y τ₁) (hp : y.pure = true) (K : Cst C wv s₀ M₀ W (cenvOf scope env L cs) σ τ O ρ D zs s) (hl : zs.length + [y].length ≤ sizeLine) :
    wpAny (model C.prog C.w) A (cAct elt gens scope pos d (.ref D) (cenvOf scope env L cs))
      (fun _ s' => ∃ ρ', Cst C wv s₀ M₀ W (cenvOf scope env L cs) σ τ₁ O ρ' D (zs ++ [y]) s' ∧ (∀ b o, b ∉ W → b ≠ D → C.T ≠ some b → s.heap.get? b = some o → s'.heap.get? b = some o)) NoE s := by
  unfold cAct
  rw [hn]
  refine wpAny_bind (wpAny_mono (he A R _ s K.fw.st) (fun v s₁ zz => and3 zz fun S₁ r₁ k₁ => ?_) fun _ _ x => x)
  have F₁ := K.fw.then k₁ S₁.toGs
  obtain ⟨ws, l, q⟩ := K.acc
  have DM : D ∈ W ++ (O ++ M₀) := List.mem_append_right _ (List.mem_append_left _ K.dO)
  have tD : C.T ≠ some D := fun t => by
    obtain ⟨o, e⟩ := K.fw.aM D (K.fw.mT D t)
    rw [K.fw.fresh D (.inr K.dO)] at e; cases e
  obtain ⟨h₁, tk, rfl, kk⟩ := k₁
  have l₁ : IsLst h₁ D ws := l.at fun o e => kk D o tD e
  have q₁ : RpL C (hid h₁ (W ++ (O ++ M₀))) ws zs := q.up (hid_mono fun b o nb e => kk b o (fun t => nb (List.mem_append_right _ (List.mem_append_right _ (K.fw.mT b t)))) e)
  have hsz : ws.toArray.size ≤ sizeLine := by
    have := q.length
    simp only [List.length_cons, List.length_nil] at hl
    rw [List.size_toArray]; lia
  refine wpAny_bind (wpAny_list_append_plain (items := ws.toArray) l₁ (fun h' hl' sb => wpAny_pure ?_) hsz)
  have F₂ := F₁.poke (X := [D]) (h' := h') (tk := tk) (O' := O) (fun b hb => by simp at hb; subst hb; exact ⟨K.dO, K.dW⟩) (fun b o nb e => (sb.2 b (fun q => nb (by simp [q]))).trans e) (fun b hb => ⟨hb, by
    by_cases z : b = D
    · subst z; obtain ⟨_, e⟩ := hl'; exact ⟨_, e⟩
    · obtain ⟨o, e⟩ := F₁.gs.low b (List.mem_append_right _ (List.mem_append_left _ hb)); exact ⟨o, (sb.2 b z).trans e⟩⟩) K.no.poke
  have up : Sub (hid h₁ (W ++ (O ++ M₀))) (hid h' (W ++ (O ++ M₀))) := hid_mono fun b o nb e => (sb.2 b fun q => nb (q ▸ DM)).trans e
  refine ⟨ρ, ⟨F₂, K.dO, K.dW, K.no, ws ++ [v], ?_, (q₁.up up).app (.cons (((rep_pure hp).mp r₁).up up) .nil)⟩, fun b o nW nD nT e => (sb.2 b nD).trans (kk b o nT e)⟩
  obtain ⟨m, e⟩ := hl'
  exact ⟨m, by rw [e]; simp⟩

theorem CAct_emit {elt : PySem.Expr} {gens : List Comprehension} {scope : Scope} {pos : Pos} {d : Nat} {y : V} (he : ∀ L cs, Ev C n elt (cenvOf scope env L cs) σ τ y τ₁) (hp : y.pure = true) (hn : gens[d + 1]? = Option.none) :
    CAct C n elt gens scope pos d [] env σ τ [y] τ₁ := fun A R s₀ M₀ W L cs O ρ D zs s K hl => emit_wp R hn (he L cs) hp K hl

theorem CAct_if {elt c : PySem.Expr} {gens : List Comprehension} {scope : Scope} {pos : Pos} {d : Nat} {y : V} {b : Bool} {ys : List V} (hc : ∀ L cs, Tst C n c (cenvOf scope env L cs) σ τ b τ₁)
    (he : b = true → (∀ L cs, Ev C n elt (cenvOf scope env L cs) σ τ₁ y τ₂) ∧ y.pure = true ∧ ys = [y]) (hf : b = false → τ₁ = τ₂ ∧ ys = []) (hn : gens[d + 1]? = Option.none) :
    CAct C n elt gens scope pos d [c] env σ τ ys τ₂ := fun A R s₀ M₀ W L cs O ρ D zs s K hl => by
  show wpAny _ _ (do let ok ← isTrue c (cenvOf scope env L cs) (eval c (cenvOf scope env L cs)); if ok then cAct elt gens scope pos d (.ref D) (cenvOf scope env L cs)) _ _ _
  refine wpAny_bind (wpAny_mono (hc L cs A R _ s K.fw.st) (fun v s₁ zz => and3 zz fun e S₁ k₁ => ?_) fun _ _ x => x)
  subst e
  have tD : C.T ≠ some D := fun t => by
    obtain ⟨o, e⟩ := K.fw.aM D (K.fw.mT D t)
    rw [K.fw.fresh D (.inr K.dO)] at e; cases e
  have F₁ := K.fw.then k₁ S₁.toGs
  obtain ⟨h₁, tk, rfl, kk⟩ := k₁
  obtain ⟨ws, l, q⟩ := K.acc
  have K₁ : Cst C (wvOf scope) s₀ M₀ W (cenvOf scope env L cs) σ τ₁ O ρ D zs { s with heap := h₁, toks := tk } := ⟨F₁, K.dO, K.dW, K.no, ws, l.at fun o e => kk D o tD e,
    q.up (hid_mono fun b o nb e => kk b o (fun t => nb (List.mem_append_right _ (List.mem_append_right _ (K.fw.mT b t)))) e)⟩
  cases v with
  | false =>
    obtain ⟨rfl, rfl⟩ := hf rfl
    exact wpAny_pure ⟨ρ, by rw [List.append_nil]; exact K₁, fun b o _ _ t e => kk b o t e⟩
  | true =>
    obtain ⟨h1, h2, rfl⟩ := he rfl
    exact wpAny_mono (emit_wp R hn (h1 L cs) h2 K₁ hl) (fun _ s₂ zz => by obtain ⟨ρ', K', k'⟩ := zz; exact ⟨ρ', K', fun b o a1 a2 a3 e => k' b o a1 a2 a3 (kk b o a3 e)⟩) fun _ _ x => x

theorem CAct_nest {elt t' iter' : PySem.Expr} {ifs' : List PySem.Expr} {gens : List Comprehension} {scope : Scope} {pos : Pos} {d : Nat} {tt : Bool} {items ys : List V}
    (hit : ∀ L cs, IterE C n iter' (cenvOf scope env L cs) σ τ tt items τ₁) (ht : Turns (CTurn C n elt gens scope pos (d + 1) t' ifs' env σ) items τ₁ ys τ₂)
    (hg : gens[d + 1]? = some ⟨t', iter', ifs', 0⟩) (ha' : ∀ g', gens[d + 1 + 1]? = some g' → g'.is_async = 0) (hi : ifs'.length ≤ 1) (htk : tgtOk tt t' = true) (hs : ∀ e x, foldedSetIterable iter' e x = pure x) :
    CAct C n elt gens scope pos d [] env σ τ ys τ₂ := fun A R s₀ M₀ W L cs O ρ D zs s K hl => by
  show wpAny _ _ (cAct elt gens scope pos d (.ref D) (cenvOf scope env L cs)) _ _ _
  unfold cAct
  rw [hg]
  have DM : D ∈ W ++ (O ++ M₀) := List.mem_append_right _ (List.mem_append_left _ K.dO)
  have tD : C.T ≠ some D := fun t => by
    obtain ⟨o, e⟩ := K.fw.aM D (K.fw.mT D t)
    rw [K.fw.fresh D (.inr K.dO)] at e; cases e
  refine wpAny_bind (wpAny_mono (hit L cs A R _ s K.fw.st) (fun v s₁' zz => ?_) fun _ _ x => x)
  obtain ⟨s₁, S₁, k₁, k11, hpy⟩ := zz
  refine wpAny_bind (wpAny_standAt ?_)
  rw [hs]
  refine wpAny_bind (wpAny_pure ?_)
  refine wpAny_bind (wpAny_holding (wpAny_mono hpy (fun it s₂ zz => ?_) fun _ _ x => x))
  obtain ⟨I, fp, wr, J, e, It', hJ, k₂, fwr, ffp⟩ := zz
  subst e
  have F₁ := K.fw.then k₁ S₁.toGs
  obtain ⟨h₁, tk₁, rfl, kk⟩ := k₁
  have al1 : ∀ a ∈ W ++ (O ++ M₀), ∃ o, h₁.get? a = some o := F₁.gs.low
  have F₂ := F₁.addO (N := wr) k₂ fwr (It'.alive 0 _ hJ) K.no fun a ha => by
    cases q : s₀.heap.get? a with
    | none => rfl
    | some o =>
      by_cases t : C.T = some a
      · obtain ⟨o', e'⟩ := al1 a (F₁.gs.mT a t)
        have := fwr a ha; rw [show ({ s with heap := h₁, toks := tk₁ } : Shared).heap = h₁ from rfl] at this
        rw [this] at e'; cases e'
      · obtain ⟨h0, t0, e0, kk0⟩ := F₁.kept
        have hh : h₁ = h0 := congrArg Shared.heap e0
        have := fwr a ha
        have z := kk0 a o t q
        rw [← hh] at z
        rw [show ({ s with heap := h₁, toks := tk₁ } : Shared).heap = h₁ from rfl, z] at this
        cases this
  obtain ⟨h₂, tk₂, rfl, kk₂⟩ := k₂
  have kk₂' : Sub h₁ h₂ := kk₂
  obtain ⟨ws, l, q⟩ := K.acc
  have l₁ : IsLst h₁ D ws := l.at fun o e => kk D o tD e
  have q₁ : RpL C (hid h₁ (W ++ (O ++ M₀))) ws zs := q.up (hid_mono fun b o nb e => kk b o (fun t => nb (List.mem_append_right _ (List.mem_append_right _ (K.fw.mT b t)))) e)
  have wrN : ∀ b ∈ wr, h₁.get? b = Option.none := fwr
  have up12 : Sub (hid h₁ (W ++ (O ++ M₀))) (hid h₂ (W ++ ((wr ++ O) ++ M₀))) := hid_up (fun b o _ e => kk₂' b o e) fun b o nb e z => by
    simp only [List.mem_append] at z nb
    rcases z with z | (z | z) | z
    · exact nb (.inl z)
    · rw [wrN b z] at e; cases e
    · exact nb (.inr (.inl z))
    · exact nb (.inr (.inr z))
  have K₂ : Cst C (wvOf scope) s₀ M₀ W (cenvOf scope env L cs) σ τ₁ (wr ++ O) ρ D zs { s with heap := h₂, toks := tk₂ } := ⟨F₂, List.mem_append_right _ K.dO, K.dW, K.no, ws, l₁.up kk₂', q₁.up up12⟩
  have apart : ∀ b ∈ fp, ∀ M' : List Addr, (∀ a ∈ M', a ∈ W ++ (O ++ M₀)) → b ∉ M' := fun b hb M' hM q => by
    rcases ffp b hb with h | ⟨o, e⟩
    · obtain ⟨o, e⟩ := al1 b (hM b q); rw [wrN b h] at e; cases e
    · exact hid_not e (hM b q)
  show wpAny _ _ (do let _ ← runOwn (.compStart (.ListComp elt gens scope pos) (d + 1) (.ref I) (.ref D) (cenvOf scope env L cs)) (cenvOf scope env L cs); pure ()) _ _ _
  refine wpAny_bind (wpAny_runOwn (h := none) ?_)
  refine compStart_wp (cenv := cenvOf scope env L cs) R (d := d + 1) hg It' hJ ?_
  refine codeAny_mono (comp_loop (O := O) R hg ha' hi htk It' (fun b hb => ⟨apart b hb W fun a ha => List.mem_append_left _ ha, fun q => apart b hb [D] (fun a ha => by simp at ha; subst ha; exact DM) (by simp [q]), fun t => apart b hb _ (fun a ha => ha) (F₁.gs.mT b t)⟩)
    (fun b hb q => by
      obtain ⟨o, e⟩ := al1 b (List.mem_append_right _ (List.mem_append_left _ q)); rw [wrN b hb] at e; cases e)
    (fun b o e q => by
      have nM := hid_not e
      have e1 := hid_sub _ _ _ _ e
      simp only [List.mem_append] at q nM
      rcases q with q | (q | q) | q
      · exact nM (.inl q)
      · rw [show ({ s with heap := h₁, toks := tk₁ } : Shared).heap = h₁ from rfl, wrN b q] at e1; cases e1
      · exact nM (.inr (.inl q))
      · exact nM (.inr (.inr q))) K.dO items [] rfl τ₁ ys τ₂ ht ρ zs _ K₂ hJ (fun b o e => kk₂' b o (hid_sub _ _ _ _ e)) hl) ?_
  rintro r s5 ⟨f, ρ5, rfl, K5, k5⟩
  refine wpAny_pure ⟨ρ5, K5, fun b o a1 a2 a3 e => k5 b o a1 a2 (fun z => ?_) a3 (kk₂' b o (kk b o a3 e))⟩
  have z' := wrN b z
  rw [kk b o a3 e] at z'; cases z'

end
end Mine
namespace Mine

theorem go_plain {M : Model} {A : Around} {E : Value → Shared → Prop} {s : Shared} {t : PySem.Expr} {v : Value} {I : Addr} {o : Obj} {nm : String} {Q : Unit → Shared → Prop} (ho : s.heap.get? I = some o) (hc : o.cls = .type nm)
    (hn : (["enumerate", "zip", "dict_itemiterator", "dict_reverseitemiterator", "odict_iterator", "itertools.zip_longest", "itertools.pairwise"] : List String).contains nm = false) (h : Q () s) : wpAny M A (letOwnedTupleGo t (.ref I) v) Q E s := by
  have main : wpAny M A (do
      let (.ref r, .ref a) := (Value.ref I, v) | return
      let o ← load r
      match o.cls, o.data with
      | .type n, .fields vs =>
        if ["enumerate", "zip", "dict_itemiterator", "dict_reverseitemiterator", "odict_iterator", "itertools.zip_longest", "itertools.pairwise"].contains n && vs[0]? == some (rawInt a) then
          rule "for.unpacks-the-owned-tuple"
          updateField r 0 .none
      | _, _ => pure ()) Q E s := by
    cases v with
    | ref a =>
      refine wpAny_bind (wpAny_load ho ?_)
      rw [hc]
      cases o.data <;> first | exact wpAny_pure h | skip
      rename_i vs
      show wpAny M A (if ((["enumerate", "zip", "dict_itemiterator", "dict_reverseitemiterator", "odict_iterator", "itertools.zip_longest", "itertools.pairwise"] : List String).contains nm && vs[0]? == some (rawInt (a : Int))) = true then _ else _) Q E s
      rw [hn, Bool.false_and, if_neg Bool.false_ne_true]
      exact wpAny_pure h
    | _ => exact wpAny_pure h
  unfold letOwnedTupleGo
  cases t <;> first | exact main | exact wpAny_pure h

section
variable {C : Cx} {n : Nat} {env : Env} {σ σ' : List (Str × V)} {τ τ₁ τ₂ τ₃ : Option Nat} {wv : Str → Bool}

theorem It_list {g : Heap} {I a : Addr} {vs : List Value} {xs : List V} (hl : g.IsList a vs.toArray) (q : RpL C g vs xs) (hI : g.get? I = Option.none) : It C n g I [I] [I] false xs (fun i h => h.IsListIter I a i ∧ Sub g h) where
  sub := fun _ hb => hb
  alive := fun i h zz b hb => by obtain ⟨⟨o, e, _⟩, _⟩ := zz; simp at hb; subst hb; exact ⟨o, e⟩
  frame := fun i h h' zz k s => and2 zz fun j _ => ⟨j.at fun o e => k I (by simp) o e, s⟩
  self := fun A R i s Q zz hq => and2 zz fun j _ => wpAny_pyIter_listiter j hq
  item := fun A R i x s Q hx zz _ h => and2 zz fun j sg => by
    obtain ⟨v, hv, rv⟩ := q.get hx
    have aI : a ≠ I := fun z => by obtain ⟨o, e, _⟩ := hl; rw [z, hI] at e; cases e
    refine wpAny_pyNext_list_item j (hl.at fun o e => sg _ _ e) (x := v) (by simpa using hv) fun h' j' sb => ?_
    have ex : ∀ b o, b ∉ [I] → s.heap.get? b = some o → h'.get? b = some o := fun b o nb e => (sb.2 b (by simpa using nb)).trans e
    have sg' : Sub g h' := fun b o e => ex b o (fun z => by simp at z; subst z; rw [hI] at e; cases e) (sg b o e)
    refine h v h' s.toks ex (fun b hb => by simp at hb; subst hb; obtain ⟨o, e, _⟩ := j'; exact ⟨o, e⟩) (.inl rv) fun t Q' tk' _ hq => ?_
    obtain ⟨o, e, c, _⟩ := id j'
    exact go_plain (nm := "list_iterator") e c (by decide) (hq h' tk' ⟨j', sg'⟩ fun b o _ e => e)
  done := fun A R s Q zz _ h => and2 zz fun j sg => wpAny_pyNext_list_end R.hd j (hl.at fun o e => sg _ _ e) (by simp [q.length]) fun h' ex => h h' s.toks fun b o nb e => ex b o (by simpa using nb) e

theorem It_tuple {g : Heap} {I a : Addr} {vs : List Value} {xs : List V} (hl : IsTup g a vs) (q : RpL C g vs xs) (hI : g.get? I = Option.none) : It C n g I [I] [I] false xs (fun i h => h.IsTupleIter I a i ∧ Sub g h) where
  sub := fun _ hb => hb
  alive := fun i h zz b hb => by obtain ⟨⟨o, e, _⟩, _⟩ := zz; simp at hb; subst hb; exact ⟨o, e⟩
  frame := fun i h h' zz k s => and2 zz fun j _ => ⟨j.at fun o e => k I (by simp) o e, s⟩
  self := fun A R i s Q zz hq => and2 zz fun j _ => wpAny_pyIter_tupleiter j hq
  item := fun A R i x s Q hx zz _ h => and2 zz fun j sg => by
    obtain ⟨v, hv, rv⟩ := q.get hx
    have aI : a ≠ I := fun z => by obtain ⟨o, n, e, _⟩ := hl; rw [z, hI] at e; cases e
    refine wpAny_pyNext_tuple_item j (hl.up sg).isTuple (x := v) (by simpa using hv) fun h' j' sb => ?_
    have ex : ∀ b o, b ∉ [I] → s.heap.get? b = some o → h'.get? b = some o := fun b o nb e => (sb.2 b (by simpa using nb)).trans e
    have sg' : Sub g h' := fun b o e => ex b o (fun z => by simp at z; subst z; rw [hI] at e; cases e) (sg b o e)
    refine h v h' s.toks ex (fun b hb => by simp at hb; subst hb; obtain ⟨o, e, _⟩ := j'; exact ⟨o, e⟩) (.inl rv) fun t Q' tk' _ hq => ?_
    obtain ⟨o, e, c, _⟩ := id j'
    exact go_plain (nm := "tuple_iterator") e c (by decide) (hq h' tk' ⟨j', sg'⟩ fun b o _ e => e)
  done := fun A R s Q zz _ h => and2 zz fun j sg => wpAny_pyNext_tuple_end R.hd j (hl.up sg).isTuple (by simp [q.length]) fun h' ex => h h' s.toks fun b o nb e => ex b o (by simpa using nb) e

theorem hid_size_none {h : Heap} {M : List Addr} : (hid h M).get? h.objs.size = Option.none := by
  cases e : (hid h M).get? h.objs.size with
  | none => rfl
  | some o => exact absurd (Heap.lt_size (hid_sub _ _ _ _ e)) (Nat.lt_irrefl _)

theorem IterOf_lst {xs : List V} : IterOf C n (.lst xs) false xs := fun A R M s v τ G r => by
  obtain ⟨a, vs, rfl, l, q⟩ := rep_lst r
  refine wpAny_pyIter_list (isList_of_hid l) ⟨s.heap.objs.size, [s.heap.objs.size], [s.heap.objs.size], _, rfl, It_list l q hid_size_none, ⟨⟨_, Heap.get?_push_size _ rfl, rfl, rfl⟩, fun b o e => Heap.get?_push_of_some _ (hid_sub _ _ _ _ e)⟩, kpPush _ _, fun b hb => ?_, fun b hb => .inl hb⟩
  simp at hb; subst hb; exact size_none _
theorem IterOf_tup {xs : List V} : IterOf C n (.tup xs) false xs := fun A R M s v τ G r => by
  obtain ⟨a, vs, rfl, l, q⟩ := rep_tup r
  refine wpAny_pyIter_tuple l.of_hid.isTuple ⟨s.heap.objs.size, [s.heap.objs.size], [s.heap.objs.size], _, rfl, It_tuple l q hid_size_none, ⟨⟨_, Heap.get?_push_size _ rfl, rfl, rfl⟩, fun b o e => Heap.get?_push_of_some _ (hid_sub _ _ _ _ e)⟩, kpPush _ _, fun b hb => ?_, fun b hb => .inl hb⟩
  simp at hb; subst hb; exact size_none _

noncomputable def upto (k : Nat) : List V := (List.range k).map fun (i : Nat) => .int (i : Int)
theorem It_range {g : Heap} {I : Addr} {k : Nat} (hI : g.get? I = Option.none) : It C n g I [I] [I] false (upto k) (fun i h => IsRangeIter h I (0 + (i : Nat) * 1) ((k : Int) - (i : Nat)) 1 ∧ Sub g h) where
  sub := fun _ hb => hb
  alive := fun i h zz b hb => and2 zz fun j _ => by simp at hb; subst hb; exact ⟨_, j⟩
  frame := fun i h h' zz k s => and2 zz fun j _ => ⟨k I (by simp) _ j, s⟩
  self := fun A R i s Q zz hq => and2 zz fun j _ => wpAny_pyIter_rangeiter j hq
  item := fun A R i x s Q hx zz _ h => and2 zz fun j sg => by
    have hi : i < k := by
      have := (List.getElem?_eq_some_iff.mp hx).1
      simpa [upto] using this
    have hxi : x = .int (i : Int) := by simp [upto, hi] at hx; exact hx.symm
    subst hxi
    refine wpAny_pyNext_range_item j (by lia) fun h' j' sb => ?_
    have ex : ∀ b o, b ∉ [I] → s.heap.get? b = some o → h'.get? b = some o := fun b o nb e => (sb.2 b (by simpa using nb)).trans e
    have sg' : Sub g h' := fun b o e => ex b o (fun z => by simp at z; subst z; rw [hI] at e; cases e) (sg b o e)
    have e1 : (0 : Int) + ((i + 1 : Nat) : Int) * 1 = 0 + (i : Int) * 1 + 1 := by push_cast; rfl
    have e2 : (k : Int) - ((i + 1 : Nat) : Int) = (k : Int) - (i : Int) - 1 := by push_cast; lia
    refine h _ h' _ ex (fun b hb => by simp at hb; subst hb; exact ⟨_, j'⟩) (.inl (by rw [show (0 : Int) + (i : Int) * 1 = (i : Int) by lia]; exact .int _ _)) fun t Q' tk' _ hq => ?_
    refine go_plain (nm := "range_iterator") j' rfl (by decide) (hq h' tk' ⟨by rw [e1, e2]; exact j', sg'⟩ fun b o _ e => e)
  done := fun A R s Q zz _ h => and2 zz fun j sg => wpAny_pyNext_range_end R.hd j (by simp [upto]) fun h' ex => h h' s.toks fun b o nb e => ex b o (by simpa using nb) e

theorem IterE_range {f p pos e} {k : Nat} (g : BuiltAt C f (.type "range")) (h : Ev C n e env σ τ (.int (k : Int)) τ₁) (kf : env.kindOf f = some .globalImplicit) (hk : k ≤ sizeLine)
    (hst : (starEach [e] env).any (·.1) = false := by rfl) (he : starEach [e] env = (false, eval e env) :: starEach [] env := by rfl) (hd : (f == ("__debug__" : Str)) = false := by decide) : IterE C n (.Call (.Name f p) [e] [] pos) env σ τ false (upto k) τ₁ := fun A R M s S => by
  show wpAny _ _ (do callWith pos (← eval (.Name f p) env) [] (backTo pos (starEach [e] env)) []) _ _ _
  refine wpAny_bind (wp_built S g kf hd ?_)
  refine callWith_type (by rw [backTo_any]; exact hst) (evalArgs_ev (EvL_cons h EvL_nil he) he R S fun vs s' S' r' k' => ?_)
  obtain ⟨v, rfl, r⟩ := repL_one r'
  obtain ⟨t, rfl⟩ := rep_int r
  have hk' : (k : Int) < 2 ^ 62 := by rw [sizeLine_eq] at hk; lia
  refine call_range_1 ⟨s', S', k', ⟨_, _, rfl, fun b o e => Heap.get?_push_of_some _ e⟩, ?_⟩
  refine wpAny_pyIter_range (IsRange.new ..) (small_one (a := 0) (b := (k : Int)) (by decide) (by decide) (Int.le_trans (by decide : (-(2 ^ 62) : Int) ≤ 0) (Int.natCast_nonneg k)) hk') ?_
  have sz : (s'.heap.push { cls := .type "range", data := .fields #[.int 0 s'.toks, .int (k : Int) t, .int 1 (s'.toks + 1)] }).objs.size = s'.heap.objs.size + 1 := Heap.size_push ..
  have fr : ∀ o, ¬ s'.heap.get? (s'.heap.objs.size + 1) = some o := fun o e => absurd (Heap.lt_size e) (Nat.not_lt.mpr (Nat.le_succ _))
  have hn : (hid s'.heap M).get? (s'.heap.objs.size + 1) = Option.none := by
    cases q : (hid s'.heap M).get? (s'.heap.objs.size + 1) with
    | none => rfl
    | some o => exact absurd (hid_sub _ _ _ _ q) (fr o)
  have hrs : Builtin.Range.rangeSize 0 (k : Int) 1 = (k : Int) := by rw [rangeSize_one]; split <;> (first | rfl | lia)
  dsimp only
  rw [sz, hrs]
  refine ⟨_, [s'.heap.objs.size + 1], [s'.heap.objs.size + 1], _, rfl, It_range (k := k) hn, ⟨?_, fun b o e => Heap.get?_push_of_some _ (Heap.get?_push_of_some _ (hid_sub _ _ _ _ e))⟩, ⟨_, _, rfl, fun b o e => Heap.get?_push_of_some _ (Heap.get?_push_of_some _ e)⟩, fun b hb => ?_, fun b hb => .inl hb⟩
  · show Heap.get? _ _ = _
    rw [← sz, Heap.get?_push_size _ rfl]
    simp [rawInt]
  · simp at hb; subst hb
    cases q : s'.heap.get? (s'.heap.objs.size + 1) with
    | none => rfl
    | some o => exact absurd q (fr o)

end
end Mine
namespace Mine

section
variable {C : Cx} {n : Nat} {env : Env} {σ σ' : List (Str × V)} {τ τ₁ τ₂ τ₃ : Option Nat} {wv : Str → Bool}

theorem Ex1_expr {e pos} {y : V} {P : Out → Prop} (he : Ev C n e env σ τ y τ₁) (h : P (.next σ τ₁)) (hi : interactive env = false := by rfl) (hs : swapsWith e none pos.line env = pure false := by rfl) : Ex1 C n (.Expr e pos) env σ τ P := fun A R s₀ M₀ W O ρ s F =>
  wpAny_Expr_any (wpAny_mono (he A R _ s F.st) (fun v s₁ zz => and3 zz fun S₁ r₁ k₁ => ⟨_, h, O, ρ, F.then k₁ S₁.toGs⟩) fun _ _ x => x) hi hs

theorem rep_perm {h : Heap} {M M' : List Addr} {v : Value} {y : V} (p : ∀ a, a ∈ M ↔ a ∈ M') (r : Rep C h M v y) : Rep C h M' v y := by
  have up : Sub (hid h M) (hid h M') := hid_less fun b hb => (p b).mpr hb
  exact r.move up fun _ a _ m _ => ⟨(p a).mp m, fun _ e => e⟩

theorem Fw.mutate {s₀ : Shared} {M₀ W O : List Addr} {ρ : Str → Option Value} {s : Shared} {h' : Heap} {tk : Tok} {x : Str} {z y' : V} {a : Addr} (F : Fw C wv s₀ M₀ W env σ τ O ρ s) (hx : σ.lookup x = some z) (i : isVar env x = true) (hz : z.own = true) (hρ : ρ x = some (.ref a))
    (sb : ∀ b o, b ≠ a → s.heap.get? b = some o → h'.get? b = some o) (al : ∃ o, h'.get? a = some o) (ho : y'.own = true) (r : Rep C h' (W ++ (O ++ M₀)) (.ref a) y') : Fw C wv s₀ M₀ W env ((x, y') :: σ) τ O ρ { s with heap := h', toks := tk } := by
  obtain ⟨a', e', aO, aW⟩ := F.own x z hx i hz
  rw [hρ] at e'; cases e'
  have aM : a ∈ W ++ (O ++ M₀) := List.mem_append_right _ (List.mem_append_left _ aO)
  have up : Sub (hid s.heap (W ++ (O ++ M₀))) (hid h' (W ++ (O ++ M₀))) := hid_mono fun b o nb e => sb b o (fun q => nb (q ▸ aM)) e
  have na : ∀ b, (b ∈ W ∨ ∃ o, s₀.heap.get? b = some o) → b ≠ a := fun b hb q => by
    subst q
    rcases hb with hb | ⟨o, e⟩
    · exact aW hb
    · rw [F.fresh b (.inr aO)] at e; cases e
  have tA : ∀ t, C.T = some t → t ≠ a := fun t q => na t (.inr (F.aM t (F.mT t q)))
  exact {
    gs := {
      base := C.mono _ _ F.gs.base up
      low := fun b hb => by
        by_cases q : b = a
        · subst q; exact al
        · obtain ⟨o, e⟩ := F.gs.low b hb; exact ⟨o, sb b o q e⟩
      mT := F.gs.mT
      tray := by
        have t := F.gs.tray
        cases τ with
        | none => trivial
        | some j => obtain ⟨b, t1, t2, tk', n', c, x1, x2, x3⟩ := t; exact ⟨b, t1, t2, tk', n', c, x1, sb b _ (tA b x1) x2, x3.up up⟩ }
    glob := F.glob
    frame := {
      ns := let ⟨m, hn, e⟩ := F.frame.ns; ⟨m, hn.at' fun o q => sb _ o (na _ (F.fa _ (.inl rfl))) q, e⟩
      cell := fun y hy => let ⟨c, e, o, ho, hd⟩ := F.frame.cell y hy; ⟨c, e, o, sb c o (na c (F.fa c (.inr ⟨y, e⟩))) ho, hd⟩
      apart := F.frame.apart
      notT := F.frame.notT }
    vars := fun y w e iy => by
      by_cases q : y = x
      · subst q; rw [lookup_cons_eq] at e; cases e
        exact ⟨.ref a, hρ, r⟩
      · rw [lookup_cons_ne q] at e
        obtain ⟨v, e1, r1⟩ := F.vars y w e iy
        refine ⟨v, e1, ?_⟩
        have ow : w.own = true → ∃ b, v = .ref b ∧ b ≠ a := fun ow => by
          obtain ⟨b, e2, _, _⟩ := F.own y w e iy ow
          rw [e1] at e2; cases e2
          exact ⟨b, rfl, fun z' => q (F.apart y x w z a e hx iy i ow hz (z' ▸ e1) hρ)⟩
        exact r1.move up fun o b e m t => by obtain ⟨_, e2, nb⟩ := ow o; rw [e] at e2; cases e2; exact ⟨m, fun o e => sb _ o nb e⟩
    own := fun y w e iy ow => by
      by_cases q : y = x
      · subst q; exact ⟨a, hρ, aO, aW⟩
      · rw [lookup_cons_ne q] at e; exact F.own y w e iy ow
    apart := fun y y1 w w1 b e e1 iy iy1 ow ow1 hb hb1 => by
      have get : ∀ u w, ((x, y') :: σ).lookup u = some w → w.own = true → ∃ w', σ.lookup u = some w' ∧ w'.own = true := fun u w e ow => by
        by_cases q : u = x
        · subst q; exact ⟨z, hx, hz⟩
        · rw [lookup_cons_ne q] at e; exact ⟨w, e, ow⟩
      obtain ⟨w', e', ow'⟩ := get y w e ow
      obtain ⟨w1', e1', ow1'⟩ := get y1 w1 e1 ow1
      exact F.apart y y1 w' w1' b e' e1' iy iy1 ow' ow1' hb hb1
    wr := F.wr
    kept := by
      obtain ⟨h1, t1, rfl, k1⟩ := F.kept
      exact ⟨h', tk, rfl, fun b o t e => sb b o (na b (.inr ⟨o, e⟩)) (k1 b o t e)⟩
    fresh := F.fresh
    fa := F.fa
    aM := F.aM
    mT := F.mT }

theorem mapSeq_at {h : Heap} {a : Addr} {vs : List Value} (l : IsLst h a vs) (f : Array Value → Array Value) : IsLst (h.update a (Obj.mapSeq f)) a (f vs.toArray).toList := by
  obtain ⟨n, e⟩ := l
  refine ⟨if (f vs.toArray).size == vs.toArray.size then n else n + 1, ?_⟩
  rw [Heap.get?_update_self _ e rfl]
  simp [Obj.mapSeq]

theorem ownList_wp {A : Around} {s₀ : Shared} {M₀ W O : List Addr} {ρ : Str → Option Value} {s : Shared} {x : Str} {p1 p2 p3 p4 : Pos} {name : Str} {bid : String} {e : PySem.Expr} {xs ys : List V} {y : V} {P : Out → Prop}
    (slot : Slot "list" name bid) (hty : typeOf (.builtin bid) = pure (.type "method_descriptor"))
    (R : Room A n) (F : Fs C s₀ M₀ W env σ τ O ρ s) (he : Ev C n e env σ τ y τ₁) (hx : σ.lookup x = some (.oL xs)) (i : isVar env x = true)
    (call_ : ∀ s₁ a v vs, St C (W ++ (O ++ M₀)) env σ τ₁ s₁ → Rep C s₁.heap (W ++ (O ++ M₀)) v y → IsLst s₁.heap a vs → RpL C (hid s₁.heap (W ++ (O ++ M₀))) vs xs → a ∈ W ++ (O ++ M₀) →
      ∀ Q : Value → Shared → Prop, (∀ h' tk vs', (∀ b o, b ≠ a → s₁.heap.get? b = some o → h'.get? b = some o) → IsLst h' a vs' → RpL C (hid h' (W ++ (O ++ M₀))) vs' ys → Q .none { s₁ with heap := h', toks := tk }) → wpAny (model C.prog C.w) A (call (.builtin bid) [.ref a, v]) Q NoE s₁)
    (h : P (.next ((x, .oL ys) :: σ) τ₁))
    (hb : attributeBase (.Name x p1) name env (eval (.Name x p1) env) = eval (.Name x p1) env)
    (hfew : ((backTo p3 (starEach [e] env)).all (fun x => !x.1) && (backToKw p3 (keywordEach [] env)).all (fun x => x.1.isSome)
      && decide (([e] : List PySem.Expr).length + ([] : List Keyword).length + (if ([] : List Keyword).isEmpty then 0 else 1) < 30)) = true) (hline : (p2.endLine == p3.line) = true)
    (hi : interactive env = false) (hs : swapsWith (.Call (.Attribute (.Name x p1) name p2) [e] [] p3) none p4.line env = pure false)
    (hst : (starEach [e] env).any (·.1) = false) (hse : starEach [e] env = (false, eval e env) :: starEach [] env) (hd : (x == ("__debug__" : Str)) = false) (hc : (x == ("__classdict__" : Str)) = false) :
    wpAny (model C.prog C.w) A (exec (.Expr (.Call (.Attribute (.Name x p1) name p2) [e] [] p3) p4) env) (fun f s' => ∃ o, P o ∧ OutAt C s₀ M₀ W env o f s') NoE s := by
  refine wpAny_Expr_any ?_ hi hs
  refine wpAny_Call_method hb hfew hline PySem.F.plainAttrs_list slot hty ?_
  obtain ⟨v₀, hρ, rv⟩ := F.vars x _ hx i
  refine wpAny_Name (load_at F.frame F.glob.2.2 hρ i hc ?_) hd
  obtain ⟨a, vs, rfl, aM, aT, l, q⟩ := rv
  obtain ⟨n', e'⟩ := id l
  refine ⟨⟨_, e', rfl⟩, fun b hb => by cases hb; exact ⟨_, e', rfl⟩, ?_⟩
  refine callWith_builtin (by rw [backTo_any]; exact hst) (evalArgs_ev (EvL_cons he EvL_nil hse) hse R F.st fun ws s' S' r' k' => ?_)
  obtain ⟨v, rfl, r⟩ := repL_one r'
  have F' := F.then k' S'.toGs
  obtain ⟨v₁, hρ₁, rv₁⟩ := F'.vars x _ hx i
  rw [hρ] at hρ₁; cases hρ₁
  obtain ⟨a', vs', e1, aM', aT', l', q'⟩ := rv₁
  cases e1
  refine call_ s' a v vs' S' r l' q' aM' _ fun h' tk ws sb lw qw => ?_
  have : Rep C h' (W ++ (O ++ M₀)) (.ref a) (.oL ys) := ⟨a, ws, rfl, aM', aT', lw, qw⟩
  obtain ⟨_, e3⟩ := id lw
  exact ⟨_, h, O, ρ, F'.mutate hx i rfl hρ sb ⟨_, e3⟩ rfl this⟩

theorem upOwn {h h' : Heap} {M : List Addr} {a : Addr} (aM : a ∈ M) (sb : ∀ b o, b ≠ a → h.get? b = some o → h'.get? b = some o) : Sub (hid h M) (hid h' M) := hid_mono fun b o nb e => sb b o (fun q => nb (q ▸ aM)) e

theorem Ex1_extend {x p1 p2 p3 p4} {e : PySem.Expr} {xs ys : List V} {P : Out → Prop} (he : Ev C n e env σ τ (.lst ys) τ₁) (hx : σ.lookup x = some (.oL xs)) (hl : xs.length + ys.length ≤ sizeLine) (h : P (.next ((x, .oL (xs ++ ys)) :: σ) τ₁)) (i : isVar env x = true)
    (hb : attributeBase (.Name x p1) "extend" env (eval (.Name x p1) env) = eval (.Name x p1) env := by rfl)
    (hfew : ((backTo p3 (starEach [e] env)).all (fun x => !x.1) && (backToKw p3 (keywordEach [] env)).all (fun x => x.1.isSome)
      && decide (([e] : List PySem.Expr).length + ([] : List Keyword).length + (if ([] : List Keyword).isEmpty then 0 else 1) < 30)) = true := by rfl) (hline : (p2.endLine == p3.line) = true := by rfl)
    (hi : interactive env = false := by rfl) (hs : swapsWith (.Call (.Attribute (.Name x p1) "extend" p2) [e] [] p3) none p4.line env = pure false := by rfl)
    (hst : (starEach [e] env).any (·.1) = false := by rfl) (hse : starEach [e] env = (false, eval e env) :: starEach [] env := by rfl) (hd : (x == ("__debug__" : Str)) = false := by decide) (hc : (x == ("__classdict__" : Str)) = false := by decide) :
    Ex1 C n (.Expr (.Call (.Attribute (.Name x p1) "extend" p2) [e] [] p3) p4) env σ τ P := fun A R s₀ M₀ W O ρ s F =>
  ownList_wp PySem.F.slot_list_extend PySem.F.type_list_extend R F he hx i (fun s₁ a v vs S₁ r l q aM Q k => by
    obtain ⟨b, ws, rfl, lb, qb⟩ := rep_lstE r
    obtain ⟨m, e⟩ := id l
    obtain ⟨m2, e2⟩ := lb.up (hid_sub _ _)
    have hsz : vs.toArray.size + ws.toArray.size ≤ sizeLine := by rw [List.size_toArray, List.size_toArray, q.length, qb.length]; exact hl
    refine call_meets PySem.F.slot_list_extend ⟨_, e, rfl⟩ PySem.F.entry_list_extend (PySem.F.args_list_extend_2 _ _) (AutoSeq1.list_extend_list_list_0 a vs.toArray m b ws.toArray m2 (extend_door hsz) (Nat.le_trans (Nat.le_add_right _ _) hsz)) ⟨e, e2, ?_⟩
    have sb : Heap.SameBut a s₁.heap (s₁.heap.update a (Obj.mapSeq fun x => x ++ ws.toArray)) := Heap.SameBut.update ..
    have sb' : ∀ b o, b ≠ a → s₁.heap.get? b = some o → (s₁.heap.update a (Obj.mapSeq fun x => x ++ ws.toArray)).get? b = some o := fun b o nb e => (sb.2 b nb).trans e
    have up := upOwn aM sb'
    have ll := mapSeq_at l (fun x => x ++ ws.toArray)
    refine k _ s₁.toks (vs ++ ws) sb' ?_ ((q.up up).app (qb.up up))
    have e4 : (vs.toArray ++ ws.toArray).toList = vs ++ ws := by simp
    rw [e4] at ll
    exact ll) h hb hfew hline hi hs hst hse hd hc

theorem Fw.freeze {s₀ : Shared} {M₀ W O : List Addr} {ρ : Str → Option Value} {s : Shared} {x : Str} {z y' : V} (F : Fw C wv s₀ M₀ W env σ τ O ρ s) (hx : σ.lookup x = some z) (i : isVar env x = true)
    (hz : (∃ xs, z = .oL xs ∧ y' = .lst xs) ∨ (∃ xs, z = .oD xs ∧ y' = .dct xs)) : ∃ O', Fw C wv s₀ M₀ W env ((x, y') :: σ) τ O' ρ s := by
  have hzo : z.own = true := by rcases hz with ⟨xs, rfl, _⟩ | ⟨xs, rfl, _⟩ <;> rfl
  have hy : y'.own = false := by rcases hz with ⟨xs, _, rfl⟩ | ⟨xs, _, rfl⟩ <;> rfl
  obtain ⟨a, hρ, aO, aW⟩ := F.own x z hx i hzo
  refine ⟨O.filter (· != a), ?_⟩
  have sub : ∀ b ∈ W ++ (O.filter (· != a) ++ M₀), b ∈ W ++ (O ++ M₀) := fun b hb => by
    simp only [List.mem_append, List.mem_filter] at hb ⊢
    rcases hb with h | h | h
    · exact .inl h
    · exact .inr (.inl h.1)
    · exact .inr (.inr h)
  have up := hid_less (h := s.heap) sub
  have na : a ∉ W ++ (O.filter (· != a) ++ M₀) := fun hb => by
    simp only [List.mem_append, List.mem_filter] at hb
    rcases hb with h | h | h
    · exact aW h
    · simp at h
    · obtain ⟨o, e⟩ := F.aM a h
      rw [F.fresh a (.inr aO)] at e; cases e
  obtain ⟨v, hρ', rv⟩ := F.vars x z hx i
  rw [hρ] at hρ'; cases hρ'
  exact {
    gs := F.gs.sub sub fun t q => List.mem_append_right _ (List.mem_append_right _ (F.mT t q))
    glob := F.glob
    frame := F.frame
    vars := fun y w e iy => by
      by_cases q : y = x
      · subst q; rw [lookup_cons_eq] at e; cases e
        refine ⟨.ref a, hρ, ?_⟩
        rcases hz with ⟨xs, rfl, rfl⟩ | ⟨xs, rfl, rfl⟩
        · obtain ⟨a', vs, e, m, t, l, q⟩ := rv
          cases e
          exact .lst (l.at fun o e => hid_get e na) (q.up up)
        · obtain ⟨a', vs, e, m, t, l, q⟩ := rv
          cases e
          exact .dct (l.at fun o e => hid_get e na) (q.up up)
      · rw [lookup_cons_ne q] at e
        obtain ⟨v, e1, r1⟩ := F.vars y w e iy
        refine ⟨v, e1, ?_⟩
        have ow : w.own = true → ∃ b, v = .ref b ∧ b ∈ W ++ (O.filter (· != a) ++ M₀) := fun ow => by
          obtain ⟨b, e2, bO, _⟩ := F.own y w e iy ow
          rw [e1] at e2; cases e2
          refine ⟨b, rfl, List.mem_append_right _ (List.mem_append_left _ (List.mem_filter.mpr ⟨bO, ?_⟩))⟩
          have : b ≠ a := fun z' => q (F.apart y x w z a e hx iy i ow hzo (z' ▸ e1) hρ)
          simpa using this
        exact r1.move up fun o b e m t => by obtain ⟨_, e2, nb⟩ := ow o; rw [e] at e2; cases e2; exact ⟨nb, fun _ e => e⟩
    own := fun y w e iy ow => by
      by_cases q : y = x
      · subst q; rw [lookup_cons_eq] at e; cases e; rw [hy] at ow; cases ow
      · rw [lookup_cons_ne q] at e
        obtain ⟨b, e2, bO, bW⟩ := F.own y w e iy ow
        refine ⟨b, e2, List.mem_filter.mpr ⟨bO, ?_⟩, bW⟩
        have : b ≠ a := fun z' => q (F.apart y x w z a e hx iy i ow hzo (z' ▸ e2) hρ)
        simpa using this
    apart := fun y y1 w w1 b e e1 iy iy1 ow ow1 hb hb1 => by
      have q : y ≠ x := fun q => by subst q; rw [lookup_cons_eq] at e; cases e; rw [hy] at ow; cases ow
      have q1 : y1 ≠ x := fun q => by subst q; rw [lookup_cons_eq] at e1; cases e1; rw [hy] at ow1; cases ow1
      rw [lookup_cons_ne q] at e; rw [lookup_cons_ne q1] at e1
      exact F.apart y y1 w w1 b e e1 iy iy1 ow ow1 hb hb1
    wr := F.wr
    kept := F.kept
    fresh := fun b hb => F.fresh b (hb.imp id fun h => (List.mem_filter.mp h).1)
    fa := F.fa
    aM := F.aM
    mT := F.mT }

theorem Ex_freeze {ss : List Stmt} {x : Str} {xs : List V} {P : Out → Prop} (hx : σ.lookup x = some (.oL xs)) (i : isVar env x = true) (h : Ex C n ss env ((x, .lst xs) :: σ) τ P) : Ex C n ss env σ τ P := fun A R s₀ M₀ W O ρ s F => by
  obtain ⟨O', F'⟩ := F.freeze hx i (.inl ⟨xs, rfl, rfl⟩)
  exact h A R s₀ M₀ W O' ρ s F'
theorem Ex_freezeD {ss : List Stmt} {x : Str} {xs : List (V × V)} {P : Out → Prop} (hx : σ.lookup x = some (.oD xs)) (i : isVar env x = true) (h : Ex C n ss env ((x, .dct xs) :: σ) τ P) : Ex C n ss env σ τ P := fun A R s₀ M₀ W O ρ s F => by
  obtain ⟨O', F'⟩ := F.freeze hx i (.inr ⟨xs, rfl, rfl⟩)
  exact h A R s₀ M₀ W O' ρ s F'

end
end Mine
namespace Mine

section
variable {C : Cx} {n : Nat} {env : Env} {σ σ' : List (Str × V)} {τ τ₁ τ₂ τ₃ : Option Nat} {wv : Str → Bool}

theorem Fw.gain {s₀ : Shared} {M₀ W O N : List Addr} {ρ : Str → Option Value} {s s' : Shared} (F : Fw C wv s₀ M₀ W env σ τ O ρ s) (k : Kept C s s') (G : Gs C (N ++ (W ++ (O ++ M₀))) τ₁ s') (fr : ∀ a ∈ N, s.heap.get? a = Option.none) :
    Fw C wv s₀ M₀ W env σ τ₁ (N ++ O) ρ s' := by
  have perm : ∀ a, a ∈ W ++ ((N ++ O) ++ M₀) ↔ a ∈ N ++ (W ++ (O ++ M₀)) := fun a => by
    simp only [List.mem_append]
    constructor
    · rintro (h | (h | h) | h)
      · exact .inr (.inl h)
      · exact .inl h
      · exact .inr (.inr (.inl h))
      · exact .inr (.inr (.inr h))
    · rintro (h | h | h | h)
      · exact .inr (.inl (.inl h))
      · exact .inl h
      · exact .inr (.inl (.inr h))
      · exact .inr (.inr h)
  have G' := G.sub (fun a ha => (perm a).mp ha) (fun a q => List.mem_append_right _ (List.mem_append_right _ (F.mT a q)))
  obtain ⟨h', tk, rfl, k⟩ := k
  have up : Sub (hid s.heap (W ++ (O ++ M₀))) (hid h' (N ++ (W ++ (O ++ M₀)))) := hid_up (fun b o nb e => k b o (fun q => nb (F.gs.mT b q)) e) fun b o nb e q => by
    rcases List.mem_append.mp q with q | q
    · rw [fr b q] at e; cases e
    · exact nb q
  have rep : ∀ v y, Rep C s.heap (W ++ (O ++ M₀)) v y → Rep C h' (W ++ ((N ++ O) ++ M₀)) v y := fun v y r => by
    refine rep_perm (fun a => (perm a).symm) ?_
    exact r.move up fun _ a _ m t => ⟨List.mem_append_right _ m, fun o e => k a o t e⟩
  exact {
    gs := G'
    glob := F.glob
    frame := F.frame.all k
    vars := fun x y e i => by
      obtain ⟨v, a, r⟩ := F.vars x y e i
      exact ⟨v, a, rep v y r⟩
    own := fun x y e i o => let ⟨a, e1, aO, aW⟩ := F.own x y e i o; ⟨a, e1, List.mem_append_right _ aO, aW⟩
    apart := F.apart
    wr := F.wr
    kept := F.kept.trans ⟨h', tk, rfl, k⟩
    fresh := fun a ha => by
      rcases ha with h | h
      · exact F.fresh a (.inl h)
      · rcases List.mem_append.mp h with h | h
        · cases q : s₀.heap.get? a with
          | none => rfl
          | some o =>
            by_cases t : C.T = some a
            · obtain ⟨o', e'⟩ := F.gs.low a (F.gs.mT a t); rw [fr a h] at e'; cases e'
            · obtain ⟨h0, t0, e0, k0⟩ := F.kept
              have z := fr a h
              rw [e0] at z
              have z2 : h0.get? a = some o := k0 a o t q
              have z3 : h0.get? a = Option.none := z
              rw [z2] at z3; cases z3
        · exact F.fresh a (.inr h)
    fa := F.fa
    aM := F.aM
    mT := F.mT }

theorem own_alive {s₀ : Shared} {M₀ W O : List Addr} {ρ : Str → Option Value} {s : Shared} (F : Fw C wv s₀ M₀ W env σ τ O ρ s) {a : Addr} (fr : s.heap.get? a = Option.none) : ∀ z w, σ.lookup z = some w → isVar env z = true → w.own = true → ρ z ≠ some (.ref a) := fun z w e i o q => by
  obtain ⟨b, e1, bO, _⟩ := F.own z w e i o
  rw [q] at e1; cases e1
  obtain ⟨o', e'⟩ := F.gs.low a (List.mem_append_right _ (List.mem_append_left _ bO))
  rw [fr] at e'; cases e'

theorem Ex1_assign_own {x p e pos} {ys : List V} {P : Out → Prop} (he : EvN C n e env σ τ ys τ₁) (hx : ownVar env x = true) (h : P (.next ((x, .oL ys) :: σ) τ₁))
    (hs : swapsWith e (some (.Name x p)) pos.line env = pure false := by rfl) : Ex1 C n (.Assign [.Name x p] e pos) env σ τ P := fun A R s₀ M₀ W O ρ s F =>
  wpAny_Assign_Name (wpAny_mono (he A R _ s F.st) (fun v s₁ zz => by
    obtain ⟨S₁, ⟨a, vs, e, fr, aM, l, G, q⟩, k₁⟩ := zz
    subst e
    have F₁ := F.gain (N := [a]) k₁ G fun b hb => by simp at hb; subst hb; exact fr
    have aW : a ∉ W := fun z => aM (List.mem_append_left _ z)
    have aT : C.T ≠ some a := fun t => aM (F.gs.mT a t)
    have r : Rep C s₁.heap (W ++ (([a] ++ O) ++ M₀)) (.ref a) (.oL ys) := ⟨a, vs, rfl, by simp, aT, l, q.up (hid_less fun b hb => by simp only [List.mem_append, List.mem_cons, List.not_mem_nil, or_false] at hb ⊢; rcases hb with h | (h | h) | h <;> simp [h])⟩
    exact F₁.set r (fun _ => ⟨a, rfl, by simp, aW, own_alive F fr⟩) hx hx fun s' F' _ => ⟨_, h, _, _, F'⟩) fun _ _ x => x) hs

theorem Ex1_assign_comp {x : Str} {p pos pos2 : Pos} {elt t iter : PySem.Expr} {ifs : List PySem.Expr} {rest : List Comprehension} {scope : Scope} {tt : Bool} {items ys : List V} {P : Out → Prop}
    (hit : IterE C n iter env σ τ tt items τ₁) (fl : Filt scope σ σ')
    (ht : Turns (CTurn C n elt (⟨t, iter, ifs, 0⟩ :: rest) scope pos2 0 t ifs env σ') items τ₁ ys τ₂) (hl : ys.length ≤ sizeLine) (hx : ownVar env x = true) (h : P (.next ((x, .oL ys) :: σ) τ₂))
    (ok : compOk scope env = true) (kd : scope.kind = .function) (htk : tgtOk tt t = true) (hi : ifs.length ≤ 1) (ha' : ∀ g', (⟨t, iter, ifs, 0⟩ :: rest : List Comprehension)[0 + 1]? = some g' → g'.is_async = 0)
    (hf : ∀ x, foldedSetIterable iter env x = pure x)
    (hs : swapsWith (.ListComp elt (⟨t, iter, ifs, 0⟩ :: rest) scope pos2) (some (.Name x p)) pos.line env = pure true) : Ex1 C n (.Assign [.Name x p] (.ListComp elt (⟨t, iter, ifs, 0⟩ :: rest) scope pos2) pos) env σ τ P := fun A R s₀ M₀ W O ρ s F => by
  rw [exec_Assign_Name_used (env := env) x p _ pos hs]
  refine wpAny_bind (wpAny_standAt ?_)
  show wpAny _ _ (do (do let _ ← comprehension (.ListComp elt (⟨t, iter, ifs, 0⟩ :: rest) scope pos2) scope env (firstIterPos (⟨t, iter, ifs, 0⟩ :: rest) pos2) (newList []) false (eval iter env) (some (assign (.Name x p) env)); pure ()); pure Flow.next) _ _ _
  refine wpAny_bind (wpAny_bind ?_)
  refine comp_wp R F.st hit fl ok kd htk hi ha' ht hl hf fun s₁ Wc L cs D ρc s' f S₁ k₁ K hLW frW => ?_
  show wpAny _ _ (assign (.Name x p) env (.ref D)) _ _ _
  have k' : Kept C s s' := k₁.trans K.fw.kept
  have frs : ∀ b, s₁.heap.get? b = Option.none → s.heap.get? b = Option.none := fun b hb => kept_none S₁.toGs k₁ hb
  have dn : s₁.heap.get? D = Option.none := K.fw.fresh D (.inr (by simp))
  have ln : s₁.heap.get? L = Option.none := frW L hLW
  have DL : D ≠ L := fun q => K.dW (q ▸ hLW)
  have sub : ∀ a ∈ [L, D] ++ (W ++ (O ++ M₀)), a ∈ Wc ++ ([D] ++ (W ++ (O ++ M₀))) := fun a ha => by
    rcases List.mem_append.mp ha with h | h
    · simp at h
      rcases h with rfl | rfl
      · exact List.mem_append_left _ hLW
      · exact List.mem_append_right _ (by simp)
    · exact List.mem_append_right _ (List.mem_append_right _ h)
  have G := K.fw.gs.sub sub fun a q => List.mem_append_right _ (F.gs.mT a q)
  have F₁ := F.gain (N := [L, D]) k' G fun b hb => by
    simp at hb
    rcases hb with rfl | rfl
    · exact frs _ ln
    · exact frs _ dn
  have dM : D ∉ W ++ (O ++ M₀) := fun z => by obtain ⟨o, e⟩ := S₁.low D z; rw [dn] at e; cases e
  have lM : L ∉ W ++ (O ++ M₀) := fun z => by obtain ⟨o, e⟩ := S₁.low L z; rw [ln] at e; cases e
  obtain ⟨ws, l, q⟩ := K.acc
  have r : Rep C s'.heap (W ++ (([L, D] ++ O) ++ M₀)) (.ref D) (.oL ys) := ⟨D, ws, rfl, by simp, fun t => dM (F.gs.mT D t), l, by
    have e0 : ([] : List V) ++ ys = ys := rfl
    exact q.up (hid_less fun b hb => sub b (by simp only [List.mem_append, List.mem_cons, List.not_mem_nil, or_false] at hb ⊢; rcases hb with h | ((h | h) | h) | h <;> simp [h]))⟩
  refine wpAny_assign_Name (F₁.set r (fun _ => ⟨D, rfl, by simp, fun z => dM (List.mem_append_left _ z), own_alive F (frs D dn)⟩) hx hx fun s2 F2 k2 => ?_)
  obtain ⟨m, hn, _⟩ := K.fw.frame.ns
  have hnL : s'.heap.Ns L m := hn
  refine ⟨m, hnL.at' fun o e => k2 L o (fun z => lM (List.mem_append_left _ z)) e, fun h' sb => wpAny_pure (wpAny_pure ⟨_, h, [D] ++ O, upd ρ x (.ref D), ?_⟩)⟩
  have rx : (upd ρ x (.ref D)) x = some (.ref D) := by unfold upd; rw [if_pos rfl]
  refine F2.poke (X := [L]) (O' := [D] ++ O) (fun b hb => ?_) (fun b o nb e => (sb.2 b (fun z => nb (by simp [z]))).trans e) (fun b hb => ⟨?_, ?_⟩) fun y w e i o a ha => ?_
  · simp at hb; subst hb; exact ⟨by simp, fun z => lM (List.mem_append_left _ z)⟩
  · simp only [List.mem_append, List.mem_cons, List.not_mem_nil, or_false] at hb ⊢
    rcases hb with h | h <;> simp [h]
  · have hb2 : b ∈ W ++ (([L, D] ++ O) ++ M₀) := by
      simp only [List.mem_append, List.mem_cons, List.not_mem_nil, or_false] at hb ⊢
      rcases hb with h | h <;> simp [h]
    obtain ⟨o, e⟩ := F2.gs.low b hb2
    have bL : b ≠ L := fun z => by
      subst z
      rcases List.mem_append.mp hb with h | h
      · simp at h; exact DL h.symm
      · exact lM (List.mem_append_right _ (List.mem_append_left _ h))
    exact ⟨o, (sb.2 b bL).trans e⟩
  · by_cases z : y = x
    · subst z
      rw [rx] at ha; cases ha
      exact ⟨by simpa using DL, by simp⟩
    · rw [lookup_cons_ne z] at e
      unfold upd at ha
      rw [if_neg z] at ha
      obtain ⟨b, e1, bO, _⟩ := F.own y w e i o
      rw [ha] at e1; cases e1
      refine ⟨fun q => ?_, List.mem_append_right _ bO⟩
      simp at q; subst q
      exact lM (List.mem_append_right _ (List.mem_append_left _ bO))

end
end Mine
namespace Mine

theorem hid_none {h : Heap} {M : List Addr} {a : Addr} (m : a ∈ M) : (hid h M).get? a = Option.none := hideAll_none M m
noncomputable abbrev rb (s : Shared) (N : List Addr) : Shared := { s with heap := hid s.heap N }

section
variable {C : Cx} {n : Nat} {env : Env} {σ σ' : List (Str × V)} {τ τ₁ τ₂ τ₃ : Option Nat} {wv : Str → Bool}

theorem Fw.pokeM {s₁ s₂ : Shared} {M₁ M₂ W O X : List Addr} {ρ : Str → Option Value} {s : Shared} {h' : Heap} {tk : Tok} (F : Fw C wv s₁ M₁ W env σ τ O ρ s) (hX : ∀ b ∈ X, b ∈ M₁ ∧ b ∉ W ∧ b ∉ O ∧ C.T ≠ some b) (hXf : ∀ a, (a = env.locals ∨ ∃ x, env.cells.lookup x = some a) → a ∉ X)
    (k : ∀ b o, b ∉ X → s.heap.get? b = some o → h'.get? b = some o) (hM : ∀ b ∈ M₂, b ∈ M₁ ∧ ∃ o, h'.get? b = some o) (kept : Kept C s₂ { s with heap := h', toks := tk }) (fresh : ∀ a, (a ∈ W ∨ a ∈ O) → s₂.heap.get? a = Option.none)
    (fa : ∀ a, (a = env.locals ∨ ∃ x, env.cells.lookup x = some a) → a ∈ W ∨ ∃ o, s₂.heap.get? a = some o) (aM : ∀ a ∈ M₂, ∃ o, s₂.heap.get? a = some o) (mT : ∀ a, C.T = some a → a ∈ M₂) : Fw C wv s₂ M₂ W env σ τ O ρ { s with heap := h', toks := tk } := by
  have sub : ∀ a ∈ W ++ (O ++ M₂), a ∈ W ++ (O ++ M₁) := fun a ha => by
    simp only [List.mem_append] at ha ⊢
    rcases ha with h | h | h
    · exact .inl h
    · exact .inr (.inl h)
    · exact .inr (.inr (hM a h).1)
  have up : Sub (hid s.heap (W ++ (O ++ M₁))) (hid h' (W ++ (O ++ M₂))) := hid_up (fun b o nb e => k b o (fun q => nb (List.mem_append_right _ (List.mem_append_right _ (hX b q).1))) e) fun b o nb e q => nb (sub b q)
  exact {
    gs := {
      base := C.mono _ _ F.gs.base up
      low := fun a ha => by
        simp only [List.mem_append] at ha
        rcases ha with h | h | h
        · obtain ⟨o, e⟩ := F.gs.low a (List.mem_append_left _ h)
          exact ⟨o, k a o (fun q => (hX a q).2.1 h) e⟩
        · obtain ⟨o, e⟩ := F.gs.low a (List.mem_append_right _ (List.mem_append_left _ h))
          exact ⟨o, k a o (fun q => (hX a q).2.2.1 h) e⟩
        · exact (hM a h).2
      mT := fun a q => List.mem_append_right _ (List.mem_append_right _ (mT a q))
      tray := by
        have t := F.gs.tray
        cases τ with
        | none => trivial
        | some j => obtain ⟨a, t1, t2, tk', n', b, x1, x2, x3⟩ := t; exact ⟨a, t1, t2, tk', n', b, x1, k a _ (fun q => (hX a q).2.2.2 x1) x2, x3.up up⟩ }
    glob := F.glob
    frame := {
      ns := let ⟨m, hn, e⟩ := F.frame.ns; ⟨m, hn.at' fun o q => k _ o (hXf _ (.inl rfl)) q, e⟩
      cell := fun x hx => let ⟨c, e, o, ho, hd⟩ := F.frame.cell x hx; ⟨c, e, o, k c o (hXf c (.inr ⟨x, e⟩)) ho, hd⟩
      apart := F.frame.apart
      notT := F.frame.notT }
    vars := fun x y e i => by
      obtain ⟨v, a, r⟩ := F.vars x y e i
      refine ⟨v, a, ?_⟩
      have ow : y.own = true → ∃ b, v = .ref b ∧ b ∈ O := fun o => by
        obtain ⟨b, e2, bO, _⟩ := F.own x y e i o
        rw [a] at e2; cases e2
        exact ⟨b, rfl, bO⟩
      exact r.move up fun o b e m t => by obtain ⟨_, e2, bO⟩ := ow o; rw [e] at e2; cases e2; exact ⟨List.mem_append_right _ (List.mem_append_left _ bO), fun o e => k _ o (fun q => (hX _ q).2.2.1 bO) e⟩
    own := F.own
    apart := F.apart
    wr := F.wr
    kept := kept
    fresh := fresh
    fa := fa
    aM := aM
    mT := mT }

structure LInv (C : Cx) (s₀ : Shared) (M₀ wr W : List Addr) (env : Env) (σ : List (Str × V)) (τ : Option Nat) (O : List Addr) (ρ : Str → Option Value) (s : Shared) : Prop where
  f : Fs C (rb s (W ++ O)) (wr ++ M₀) W env σ τ O ρ s
  kept : Kept C s₀ s
  fresh : ∀ a, (a ∈ W ∨ a ∈ O) → s₀.heap.get? a = Option.none
  fa : ∀ a, (a = env.locals ∨ ∃ x, env.cells.lookup x = some a) → a ∈ W ∨ ∃ o, s₀.heap.get? a = some o
  aM : ∀ a ∈ M₀, ∃ o, s₀.heap.get? a = some o
  mT : ∀ a, C.T = some a → a ∈ M₀
  wf : ∀ a ∈ wr, s₀.heap.get? a = Option.none
  wn : ∀ a ∈ wr, a ∉ W ∧ a ∉ O

theorem LInv.wfa {s₀ : Shared} {M₀ wr W O : List Addr} {ρ : Str → Option Value} {s : Shared} (L : LInv C s₀ M₀ wr W env σ τ O ρ s) : ∀ a, (a = env.locals ∨ ∃ x, env.cells.lookup x = some a) → a ∉ wr := fun a ha q => by
  rcases L.fa a ha with h | ⟨o, e⟩
  · exact (L.wn a q).1 h
  · rw [L.wf a q] at e; cases e
theorem LInv.wT {s₀ : Shared} {M₀ wr W O : List Addr} {ρ : Str → Option Value} {s : Shared} (L : LInv C s₀ M₀ wr W env σ τ O ρ s) : ∀ a ∈ wr, C.T ≠ some a := fun a ha q => by
  obtain ⟨o, e⟩ := L.aM a (L.mT a q); rw [L.wf a ha] at e; cases e
theorem rb_kept (s : Shared) (N : List Addr) : Kept C (rb s N) s := ⟨s.heap, s.toks, rfl, fun b o _ e => hid_sub _ _ _ _ e⟩

theorem rb_facts {s₀ : Shared} {M₀ wr W O : List Addr} {s : Shared} {ρ : Str → Option Value} (F : FrameAt C env s.heap ρ) (kept : Kept C s₀ s) (fresh : ∀ a, (a ∈ W ∨ a ∈ O) → s₀.heap.get? a = Option.none)
    (fa : ∀ a, (a = env.locals ∨ ∃ x, env.cells.lookup x = some a) → a ∈ W ∨ ∃ o, s₀.heap.get? a = some o) (aM : ∀ a ∈ M₀, ∃ o, s₀.heap.get? a = some o) (low : ∀ a ∈ M₀, ∃ o, s.heap.get? a = some o)
    (wn : ∀ a ∈ wr, a ∉ W ∧ a ∉ O) (wal : ∀ a ∈ wr, ∃ o, s.heap.get? a = some o) :
    (∀ a, (a ∈ W ∨ a ∈ O) → (rb s (W ++ O)).heap.get? a = Option.none) ∧ (∀ a, (a = env.locals ∨ ∃ x, env.cells.lookup x = some a) → a ∈ W ∨ ∃ o, (rb s (W ++ O)).heap.get? a = some o) ∧ (∀ a ∈ wr ++ M₀, ∃ o, (rb s (W ++ O)).heap.get? a = some o) := by
  have old : ∀ a, (∃ o, s₀.heap.get? a = some o) → a ∉ W ++ O := fun a zz q => by
    obtain ⟨o, e⟩ := zz
    rw [fresh a (List.mem_append.mp q)] at e; cases e
  refine ⟨fun a ha => hid_none (List.mem_append.mpr ha), fun a ha => ?_, fun a ha => ?_⟩
  · rcases fa a ha with h | ⟨o, e⟩
    · exact .inl h
    · refine .inr ?_
      have nT : C.T ≠ some a := fun q => by
        obtain ⟨h1, h2⟩ := F.notT a q
        rcases ha with rfl | ⟨x, e⟩
        · exact h1 rfl
        · exact h2 x e
      have na := old a ⟨o, e⟩
      obtain ⟨h', tk, rfl, k⟩ := kept
      exact ⟨o, hid_get (k a o nT e) na⟩
  · rcases List.mem_append.mp ha with h | h
    · obtain ⟨o, e⟩ := wal a h
      exact ⟨o, hid_get e fun q => by rcases List.mem_append.mp q with q | q; exact (wn a h).1 q; exact (wn a h).2 q⟩
    · obtain ⟨o, e⟩ := low a h
      exact ⟨o, hid_get e (old a (aM a h))⟩

theorem LInv.start {s₀ : Shared} {M₀ W O wr : List Addr} {ρ : Str → Option Value} {s s' : Shared} (F : Fs C s₀ M₀ W env σ τ O ρ s) (k : Keeps s s') (fr : ∀ a ∈ wr, s.heap.get? a = Option.none) (al : ∀ a ∈ wr, ∃ o, s'.heap.get? a = some o) : LInv C s₀ M₀ wr W env σ τ O ρ s' := by
  have wM : ∀ a ∈ wr, a ∉ W ++ (O ++ M₀) := fun a ha q => by
    obtain ⟨o, e⟩ := F.gs.low a q
    rw [fr a ha] at e; cases e
  have wn : ∀ a ∈ wr, a ∉ W ∧ a ∉ O := fun a ha => ⟨fun q => wM a ha (List.mem_append_left _ q), fun q => wM a ha (List.mem_append_right _ (List.mem_append_left _ q))⟩
  have F1 := F.then (.of k) (F.gs.keeps k)
  have perm : ∀ a, a ∈ W ++ (O ++ (wr ++ M₀)) ↔ a ∈ wr ++ (W ++ (O ++ M₀)) := fun a => by
    simp only [List.mem_append]
    constructor
    · rintro (h | h | h | h)
      · exact .inr (.inl h)
      · exact .inr (.inr (.inl h))
      · exact .inl h
      · exact .inr (.inr (.inr h))
    · rintro (h | h | h | h)
      · exact .inr (.inr (.inl h))
      · exact .inl h
      · exact .inr (.inl h)
      · exact .inr (.inr (.inr h))
  have wf : ∀ a ∈ wr, s₀.heap.get? a = Option.none := fun a ha => by
    cases q : s₀.heap.get? a with
    | none => rfl
    | some o =>
      by_cases t : C.T = some a
      · obtain ⟨o', e'⟩ := F.gs.low a (F.gs.mT a t); rw [fr a ha] at e'; cases e'
      · obtain ⟨h0, t0, e0, k0⟩ := F.kept
        have z := fr a ha
        rw [e0] at z
        have z2 : h0.get? a = some o := k0 a o t q
        have z3 : h0.get? a = Option.none := z
        rw [z2] at z3; cases z3
  have RF := rb_facts (wr := wr) F1.frame F1.kept F.fresh F.fa F.aM (fun a ha => F1.gs.low a (List.mem_append_right _ (List.mem_append_right _ ha))) wn al
  obtain ⟨h', tk, rfl, k⟩ := k
  refine ⟨?_, F1.kept, F.fresh, F.fa, F.aM, F.mT, wf, wn⟩
  exact {
    gs := (F.gs.more (N := wr) (tk := tk) k fr al).sub (fun a ha => (perm a).mp ha) (fun a q => List.mem_append_right _ (List.mem_append_right _ (List.mem_append_right _ (F.mT a q))))
    glob := F.glob
    frame := F1.frame
    vars := fun x y e i => by
      obtain ⟨v, a, r⟩ := F.vars x y e i
      exact ⟨v, a, rep_perm (fun a => (perm a).symm) (r.more k fr)⟩
    own := F.own
    apart := F.apart
    wr := F.wr
    kept := rb_kept _ _
    fresh := RF.1
    fa := RF.2.1
    aM := RF.2.2
    mT := fun a q => List.mem_append_right _ (F.mT a q) }

theorem LInv.item {s₀ : Shared} {M₀ W O wr : List Addr} {ρ : Str → Option Value} {s : Shared} {h' : Heap} {tk : Tok} (L : LInv C s₀ M₀ wr W env σ τ O ρ s) (k : ∀ b o, b ∉ wr → s.heap.get? b = some o → h'.get? b = some o) (al : ∀ a ∈ wr, ∃ o, h'.get? a = some o) : LInv C s₀ M₀ wr W env σ τ O ρ { s with heap := h', toks := tk } := by
  have kept : Kept C s₀ { s with heap := h', toks := tk } := by
    obtain ⟨h1, t1, rfl, k1⟩ := L.kept
    exact ⟨h', tk, rfl, fun b o t e => k b o (fun q => by rw [L.wf b q] at e; cases e) (k1 b o t e)⟩
  have lowM : ∀ a ∈ M₀, ∃ o, h'.get? a = some o := fun a ha => by
    obtain ⟨o, e⟩ := L.f.gs.low a (List.mem_append_right _ (List.mem_append_right _ (List.mem_append_right _ ha)))
    exact ⟨o, k a o (fun q => by obtain ⟨o', e'⟩ := L.aM a ha; rw [L.wf a q] at e'; cases e') e⟩
  have F' : FrameAt C env h' ρ := {
      ns := let ⟨m, hn, e⟩ := L.f.frame.ns; ⟨m, hn.at' fun o q => k _ o (L.wfa _ (.inl rfl)) q, e⟩
      cell := fun x hx => let ⟨c, e, o, ho, hd⟩ := L.f.frame.cell x hx; ⟨c, e, o, k c o (L.wfa c (.inr ⟨x, e⟩)) ho, hd⟩
      apart := L.f.frame.apart
      notT := L.f.frame.notT }
  have RF := rb_facts (wr := wr) (s := { s with heap := h', toks := tk }) F' kept L.fresh L.fa L.aM lowM L.wn al
  refine ⟨L.f.pokeM (X := wr) (fun b hb => ⟨List.mem_append_left _ hb, (L.wn b hb).1, (L.wn b hb).2, L.wT b hb⟩) L.wfa k (fun b hb => ⟨hb, ?_⟩) (rb_kept _ _) RF.1 RF.2.1 RF.2.2 (fun a q => List.mem_append_right _ (L.mT a q)), kept, L.fresh, L.fa, L.aM, L.mT, L.wf, L.wn⟩
  rcases List.mem_append.mp hb with h | h
  · exact al b h
  · exact lowM b h

theorem LInv.body {s₀ : Shared} {M₀ W O O' wr : List Addr} {ρ ρ' : Str → Option Value} {s s' : Shared} (L : LInv C s₀ M₀ wr W env σ τ O ρ s) (F : Fs C (rb s (W ++ O)) (wr ++ M₀) W env σ' τ₁ O' ρ' s') : LInv C s₀ M₀ wr W env σ' τ₁ O' ρ' s' := by
  have old : ∀ b o, s₀.heap.get? b = some o → (C.T ≠ some b → (hid s.heap (W ++ O)).get? b = some o) ∧ ∃ o', (hid s.heap (W ++ O)).get? b = some o' := fun b o e => by
    have nb : b ∉ W ++ O := fun q => by rw [L.fresh b (List.mem_append.mp q)] at e; cases e
    have h1 : C.T ≠ some b → (hid s.heap (W ++ O)).get? b = some o := fun t => by
      obtain ⟨h', tk, rfl, k⟩ := L.kept
      exact hid_get (k b o t e) nb
    refine ⟨h1, ?_⟩
    by_cases t : C.T = some b
    · obtain ⟨o', e'⟩ := L.f.gs.low b (L.f.gs.mT b t)
      exact ⟨o', hid_get e' nb⟩
    · exact ⟨o, h1 t⟩
  have kept : Kept C s₀ s' := by
    obtain ⟨h1, t1, e1, k1⟩ := L.kept
    obtain ⟨h2, t2, rfl, k2⟩ := F.kept
    subst e1
    exact ⟨h2, t2, rfl, fun b o t e => k2 b o t ((old b o e).1 t)⟩
  have fresh : ∀ a, (a ∈ W ∨ a ∈ O') → s₀.heap.get? a = Option.none := fun a ha => by
    cases q : s₀.heap.get? a with
    | none => rfl
    | some o =>
      obtain ⟨o', e'⟩ := (old a o q).2
      have := F.fresh a ha
      rw [show (rb s (W ++ O)).heap = hid s.heap (W ++ O) from rfl, e'] at this; cases this
  have wn : ∀ a ∈ wr, a ∉ W ∧ a ∉ O' := fun a ha => ⟨(L.wn a ha).1, fun q => by
    obtain ⟨o, e⟩ := L.f.aM a (List.mem_append_left _ ha)
    rw [F.fresh a (.inr q)] at e; cases e⟩
  have RF := rb_facts (wr := wr) F.frame kept fresh L.fa L.aM (fun a ha => F.gs.low a (List.mem_append_right _ (List.mem_append_right _ (List.mem_append_right _ ha)))) wn (fun a ha => F.gs.low a (List.mem_append_right _ (List.mem_append_right _ (List.mem_append_left _ ha))))
  exact ⟨{ F with kept := rb_kept _ _, fresh := RF.1, fa := RF.2.1, aM := RF.2.2 }, kept, fresh, L.fa, L.aM, L.mT, L.wf, wn⟩

theorem LInv.exit {s₀ : Shared} {M₀ W O wr : List Addr} {ρ : Str → Option Value} {s : Shared} {h' : Heap} {tk : Tok} (L : LInv C s₀ M₀ wr W env σ τ O ρ s) (k : ∀ b o, b ∉ wr → s.heap.get? b = some o → h'.get? b = some o) : Fs C s₀ M₀ W env σ τ O ρ { s with heap := h', toks := tk } := by
  refine L.f.pokeM (X := wr) (fun b hb => ⟨List.mem_append_left _ hb, (L.wn b hb).1, (L.wn b hb).2, L.wT b hb⟩) L.wfa k (fun b hb => ⟨List.mem_append_right _ hb, ?_⟩) ?_ L.fresh L.fa L.aM L.mT
  · obtain ⟨o, e⟩ := L.f.gs.low b (List.mem_append_right _ (List.mem_append_right _ (List.mem_append_right _ hb)))
    exact ⟨o, k b o (fun q => by obtain ⟨o', e'⟩ := L.aM b hb; rw [L.wf b q] at e'; cases e') e⟩
  · obtain ⟨h1, t1, rfl, k1⟩ := L.kept
    exact ⟨h', tk, rfl, fun b o t e => k b o (fun q => by rw [L.wf b q] at e; cases e) (k1 b o t e)⟩

theorem LInv.ret {s₀ : Shared} {M₀ W O wr : List Addr} {ρ : Str → Option Value} {s s' : Shared} {v : Value} {y : V} (L : LInv C s₀ M₀ wr W env σ τ O ρ s) (h : OutAt C (rb s (W ++ O)) (wr ++ M₀) W env (.ret y τ₁) (.ret v) s') : OutAt C s₀ M₀ W env (.ret y τ₁) (.ret v) s' := by
  obtain ⟨G, r, k, o⟩ := h
  refine ⟨G.sub (fun a ha => List.mem_append_right _ ha) L.mT, rep_less o (fun a ha => List.mem_append_right _ ha) r, ?_, o⟩
  obtain ⟨h1, t1, e1, k1⟩ := L.kept
  obtain ⟨h2, t2, rfl, k2⟩ := k
  subst e1
  refine ⟨h2, t2, rfl, fun b o t e => k2 b o t (hid_get (k1 b o t e) fun q => ?_)⟩
  rw [L.fresh b (List.mem_append.mp q)] at e; cases e

noncomputable def FRun (B : V → List (Str × V) → Option Nat → (Out → Prop) → Prop) : List V → List (Str × V) → Option Nat → (Out → Prop) → Prop
  | [], σ, τ, P => P (.next σ τ)
  | x :: r, σ, τ, P => B x σ τ fun o => match o with | .next σ' τ' => FRun B r σ' τ' P | o => P o

noncomputable def FTurn (C : Cx) (n : Nat) (t : PySem.Expr) (body : List Stmt) (env : Env) (x : V) (σ : List (Str × V)) (τ : Option Nat) (P : Out → Prop) : Prop :=
  ∃ bs, Tgt t x bs ∧ (∀ b ∈ bs, ownVar env b.1 = true) ∧ (V.own x = false → Ex C n body env (bs ++ σ) τ P)

theorem for_loop {A : Around} {g : Heap} {I : Addr} {fp wr : List Addr} {tt : Bool} {items : List V} {J : Nat → Heap → Prop} {t : PySem.Expr} {body : List Stmt} {s₀ : Shared} {M₀ W : List Addr} {P : Out → Prop}
    (R : Room A n) (htk : tgtOk tt t = true) (It' : It C n g I fp wr tt items J) :
    ∀ (rest done : List V), items = done ++ rest → ∀ σ τ, FRun (FTurn C n t body env) rest σ τ P → ∀ O ρ s, LInv C s₀ M₀ wr W env σ τ O ρ s → J done.length s.heap → Sub g s.heap → (∀ b o, g.get? b = some o → b ∉ W ++ (O ++ (wr ++ M₀))) →
      (∀ b ∈ fp, b ∈ wr ∨ ∃ o, g.get? b = some o) →
      codeAny (model C.prog C.w) A (.forLoop t (.ref I) body [] env) (fun r s' => ∃ f o, r = .ok f ∧ P o ∧ OutAt C s₀ M₀ W env o f s') s := by
  intro rest
  induction rest with
  | nil =>
    intro done he σ τ hr O ρ s L hJ hS gd hfp
    have hlen : done.length = items.length := by rw [he, List.append_nil]
    refine codeAny_of_tree ?_
    show wpAny _ A ((forTurn t (.ref I) body [] env).onRaise (fun x => do noteFrame x env; theTreesLotGoes x)) _ _ s
    refine wpAny_noted (NoE.any ?_)
    unfold forTurn
    refine wpAny_bind (wpAny_standAt (wpAny_bind (wpAny_onRaise (NoE.any (It'.done A R s _ (hlen ▸ hJ) hS fun h' tk k => ?_)))))
    refine wpAny_pure ⟨rfl, codeAny_block (wpAny_execs_nil ⟨.next, _, rfl, hr, O, ρ, L.exit k⟩)⟩
  | cons x rest ih =>
    intro done he σ τ hr O ρ s L hJ hS gd hfp
    obtain ⟨bs, hT, hbs, hbody⟩ := hr
    have hx : items[done.length]? = some x := by rw [he]; simp
    refine codeAny_of_tree ?_
    show wpAny _ A ((forTurn t (.ref I) body [] env).onRaise (fun x => do noteFrame x env; theTreesLotGoes x)) _ _ s
    refine wpAny_noted (NoE.any ?_)
    unfold forTurn
    refine wpAny_bind (wpAny_standAt (wpAny_bind (wpAny_onRaise (NoE.any (It'.item A R done.length x s _ hx hJ hS fun v h' tk k al hv go => ?_)))))
    refine wpAny_bind (go t _ _ htk fun h'' tk'' hJ' k2 => ?_)
    have kk : ∀ b o, b ∉ wr → s.heap.get? b = some o → h''.get? b = some o := fun b o nb e => k2 b o nb (k b o nb e)
    have al2 := It'.alive _ _ hJ'
    have L2 := L.item (h' := h'') (tk := tk'') kk al2
    have gs2 : Sub g h'' := fun b o e => kk b o (fun z => gd b o e (List.mem_append_right _ (List.mem_append_right _ (List.mem_append_left _ z)))) (hS b o e)
    have gh2 : Sub g (hid h'' (W ++ (O ++ (wr ++ M₀)))) := fun b o e => hid_get (gs2 b o e) (gd b o e)
    have rv : Rp C (hid h'' (W ++ (O ++ (wr ++ M₀)))) v x := by
      rcases hv with hv | ⟨T, vs, xs, rfl, rfl, l, q, fr⟩
      · exact hv.up gh2
      · have nT : T ∉ W ++ (O ++ (wr ++ M₀)) := fun z => by obtain ⟨o, e⟩ := L.f.gs.low T z; rw [fr] at e; cases e
        have nw : T ∉ wr := fun z => nT (List.mem_append_right _ (List.mem_append_right _ (List.mem_append_left _ z)))
        exact .tup (l.at fun o e => hid_get (k2 T o nw e) nT) (q.up gh2)
    have hown : V.own x = false := own_rp rv
    refine wpAny_bind (assign_tgt (wv := ownVar env) R hT L2.f (rep_of rv) hown (fun b hb => ⟨hbs b hb, hbs b hb⟩) fun ρ3 s3 F3 k3 => ?_)
    have L3 := L2.body F3
    refine wpAny_bind (wpAny_mono (hbody hown A R _ _ W O ρ3 s3 L3.f) (fun f s4 zz => ex2 zz fun o hp ho => ?_) fun _ _ x => x)
    cases o with
    | next σ' τ' =>
      cases f <;> first | exact ho.elim | skip
      obtain ⟨O', ρ', F'⟩ := ho
      have L4 := L3.body F'
      have wrO : ∀ b, b ∈ wr → b ∉ W ++ O := fun b hb q => by rcases List.mem_append.mp q with q | q; exact (L3.wn b hb).1 q; exact (L3.wn b hb).2 q
      have gW : ∀ b o, g.get? b = some o → b ∉ W ++ O := fun b o e q => gd b o e (by simp only [List.mem_append] at q ⊢; rcases q with q | q <;> simp [q])
      have gT : ∀ b o, g.get? b = some o → C.T ≠ some b := fun b o e q => gd b o e (List.mem_append_right _ (List.mem_append_right _ (List.mem_append_right _ (L.mT b q))))
      obtain ⟨h4, t4, e4, k4⟩ := F'.kept
      have k4' : ∀ b o, C.T ≠ some b → b ∉ W ++ O → s3.heap.get? b = some o → s4.heap.get? b = some o := fun b o t nb e => by
        rw [e4]; exact k4 b o t (hid_get e nb)
      have k34 : ∀ b o, C.T ≠ some b → b ∉ W ++ O → h''.get? b = some o → s4.heap.get? b = some o := fun b o t nb e => k4' b o t nb (k3 b o (fun q => nb (List.mem_append_left _ q)) e)
      have gs4 : Sub g s4.heap := fun b o e => k34 b o (gT b o e) (gW b o e) (gs2 b o e)
      have J4 : J (done ++ [x]).length s4.heap := by
        rw [List.length_append]
        refine It'.frame _ _ _ hJ' (fun b hb o e => ?_) gs4
        rcases hfp b hb with h | ⟨o', e'⟩
        · exact k34 b o (L.wT b h) (wrO b h) e
        · exact k34 b o (gT b o' e') (gW b o' e') e
      have gd4 : ∀ b o, g.get? b = some o → b ∉ W ++ (O' ++ (wr ++ M₀)) := fun b o e q => by
        have := gd b o e
        simp only [List.mem_append] at q this
        rcases q with q | q | q | q
        · exact this (.inl q)
        · have nb := gW b o e
          have a3 : s3.heap.get? b = some o := k3 b o (fun z => nb (List.mem_append_left _ z)) (gs2 b o e)
          have := F'.fresh b (.inr q)
          rw [show (rb s3 (W ++ O)).heap.get? b = some o from hid_get a3 nb] at this; cases this
        · exact this (.inr (.inr (.inl q)))
        · exact this (.inr (.inr (.inr q)))
      refine wpAny_pure ⟨rfl, ih (done ++ [x]) (by rw [he]; simp) σ' τ' hp O' ρ' s4 L4 J4 gs4 gd4 hfp⟩
    | ret y τ' =>
      cases f <;> first | exact ho.elim | skip
      exact wpAny_pure ⟨_, _, rfl, hp, L3.ret ho⟩

theorem Ex1_for {t iter : PySem.Expr} {body : List Stmt} {pos : Pos} {tt : Bool} {items : List V} {P : Out → Prop} (hit : IterE C n iter env σ τ tt items τ₁) (hr : FRun (FTurn C n t body env) items σ τ₁ P)
    (htk : tgtOk tt t = true := by rfl) (hf : ∀ x, foldedSetIterable iter env x = pure x := by intro _; rfl) : Ex1 C n (.For t iter body [] pos) env σ τ P := fun A R s₀ M₀ W O ρ s F => by
  rw [arm_exec_For]
  refine wpAny_bind (wpAny_standAt (wpAny_bind (wpAny_mono (hit A R _ s F.st) (fun v s₁ zz => ?_) fun _ _ x => x)))
  obtain ⟨sb, Sb, k, _, hpy⟩ := zz
  rw [hf]
  refine wpAny_bind (wpAny_pure (wpAny_bind (wpAny_standAt ?_)))
  refine wpAny_bind (wpAny_holding (wpAny_mono hpy (fun it s₂ zz => ?_) fun _ _ x => x))
  obtain ⟨I, fp, wr, J, e, It', hJ, k₂, fwr, ffp⟩ := zz
  subst e
  have Fb := F.then k Sb.toGs
  have L := LInv.start Fb k₂ fwr (It'.alive 0 _ hJ)
  refine wpAny_runOwn (h := none) ?_
  refine codeAny_mono (for_loop R htk It' items [] rfl σ τ₁ hr O ρ s₂ L hJ (fun b o e => ?_) (fun b o e q => ?_) ffp) ?_
  · obtain ⟨h', tk, rfl, kk⟩ := k₂
    exact kk b o (hid_sub _ _ _ _ e)
  · have nM := hid_not e
    have e1 := hid_sub _ _ _ _ e
    simp only [List.mem_append] at q nM
    rcases q with q | q | q | q
    · exact nM (.inl q)
    · exact nM (.inr (.inl q))
    · rw [fwr b q] at e1; cases e1
    · exact nM (.inr (.inr q))
  · rintro r s' ⟨f, o, rfl, hp, ho⟩
    exact ⟨o, hp, ho⟩

end
end Mine
namespace Mine

section
variable {C : Cx} {n : Nat} {env : Env} {σ σ' : List (Str × V)} {τ τ₁ τ₂ τ₃ : Option Nat} {wv : Str → Bool}

theorem Bu_tuple {x : V} {xs : List V} (e : x.items = some xs) (hl : xs.length ≤ sizeLine) : BuSpec C n (.type "tuple") [x] (.tup xs) := fun A R M s vs τ G r => by
  obtain ⟨v, rfl, q₀⟩ := repL_one r
  replace r := q₀
  by_cases ht : ∃ ys, x = .tup ys
  · obtain ⟨ys, rfl⟩ := ht
    cases e
    obtain ⟨a, ws, rfl, l, q⟩ := rep_tup r
    exact call_tuple_same l.of_hid.isTuple ⟨r, kpRfl s⟩
  · obtain ⟨a, ws, rfl, l, q⟩ := items_rep r e
    have hl' : s.heap.IsList a ws.toArray := by
      rcases l with l | l
      · exact l
      · exfalso
        cases x <;> simp only [V.items, reduceCtorEq, Option.some.injEq] at e
        · exact ht ⟨_, rfl⟩
        · obtain ⟨b, us, e1, l1, _⟩ := rep_lstE r
          cases e1
          obtain ⟨o, _, e1, c1, _⟩ := l
          obtain ⟨_, e2⟩ := l1.up (hid_sub _ _)
          rw [e1] at e2; cases e2; simp at c1
        · obtain ⟨b, us, e1, _, _, l1, _⟩ := r
          cases e1
          obtain ⟨o, _, e1, c1, _⟩ := l
          obtain ⟨_, e2⟩ := l1
          rw [e1] at e2; cases e2; simp at c1
    refine call_tuple_list hl' (fun h' k => ?_) (by rw [List.size_toArray, q.length]; exact hl)
    have K : Keeps s { s with heap := h' } := ⟨h', s.toks, rfl, k⟩
    have G' := G.keeps K
    exact ⟨push_tup G' (q.up (hid_all k)), kpTrans K (kpPush _ _)⟩

theorem EvN_list_call {f p pos e} {x : V} {xs : List V} (g : BuiltAt C f (.type "list")) (h : Ev C n e env σ τ x τ₁) (hx : x.items = some xs) (hl : xs.length ≤ sizeLine) (k : env.kindOf f = some .globalImplicit)
    (hst : (starEach [e] env).any (·.1) = false := by rfl) (he : starEach [e] env = (false, eval e env) :: starEach [] env := by rfl) (hd : (f == ("__debug__" : Str)) = false := by decide) : EvN C n (.Call (.Name f p) [e] [] pos) env σ τ xs τ₁ := fun A R M s S => by
  show wpAny _ _ (do callWith pos (← eval (.Name f p) env) [] (backTo pos (starEach [e] env)) []) _ _ _
  refine wpAny_bind (wp_built S g k hd ?_)
  refine callWith_type (by rw [backTo_any]; exact hst) (evalArgs_ev (EvL_cons h EvL_nil he) he R S fun vs s' S' r' k' => ?_)
  obtain ⟨v, rfl, r⟩ := repL_one r'
  obtain ⟨a, ws, rfl, l, q⟩ := items_rep r hx
  have fin : ∀ h' c', (∀ b o', s'.heap.get? b = some o' → h'.get? b = some o') → h'.get? s'.heap.objs.size = some { cls := .type "list", dict := none, data := .seq ws.toArray c', slots := #[] } →
      St C M env σ τ₁ { s' with heap := h' } ∧ (∃ a vs, Value.ref s'.heap.objs.size = .ref a ∧ s.heap.get? a = Option.none ∧ a ∉ M ∧ IsLst h' a vs ∧ Gs C (a :: M) τ₁ { s' with heap := h' } ∧ RpL C (hid h' (a :: M)) vs xs) ∧ Kept C s { s' with heap := h' } := fun h' c' kk e => by
    have K : Keeps s' { s' with heap := h' } := ⟨h', s'.toks, rfl, kk⟩
    have fr : ∀ a ∈ [s'.heap.objs.size], s'.heap.get? a = Option.none := fun a ha => by simp at ha; subst ha; exact size_none _
    exact ⟨S'.keeps K, ⟨_, ws, rfl, kept_none S'.toGs k' (size_none _), not_low (h' := s'.heap) S'.toGs (size_none _), ⟨c', e⟩, S'.toGs.more (N := [s'.heap.objs.size]) kk fr (fun a ha => by simp at ha; subst ha; exact ⟨_, e⟩), q.up (hid_more (N := [s'.heap.objs.size]) kk fr)⟩, k'.trans (.of K)⟩
  rcases l with l | l
  · obtain ⟨o, ho, hc, m, hd'⟩ := l
    exact call_list_seq (hsz := by rw [List.size_toArray, q.length]; exact hl) a (.inl rfl) ho hc hd' fin
  · obtain ⟨o, m, e, hc, hd', _⟩ := l
    exact call_list_seq (hsz := by rw [List.size_toArray, q.length]; exact hl) a (.inr rfl) e hc hd' fin

theorem Ev_ops {x p pos} {ops : V} (O : OpsAt C) (hx : σ.lookup x = some (.self ops)) (i : isVar env x = true)
    (hb : attributeBase (.Name x p) "ops" env (eval (.Name x p) env) = eval (.Name x p) env := by rfl) (hd : (x == ("__debug__" : Str)) = false := by decide) (hc : (x == ("__classdict__" : Str)) = false := by decide) :
    Ev C n (.Attribute (.Name x p) "ops" pos) env σ τ ops τ := fun A R M s S => by
  show wpAny _ _ (do let o ← attributeBase (.Name x p) "ops" env (eval (.Name x p) env); standAt pos.atName; let r ← holding [o] (getAttr o "ops" true); letTemporaryGo (.Name x p) o r; pure r) _ _ _
  rw [hb]
  refine wpAny_bind (wpAny_Name (wp_var S hx i hc fun v rv => wpAny_bind (wpAny_standAt ?_)) hd)
  have rv' : Rp C (hid s.heap M) v (.self ops) := rv
  cases rv' with
  | @self a w x hbag hops =>
  obtain ⟨da, hs, t, n', e1, e2⟩ := hbag.up (hid_sub _ _)
  have I : InstAt s.heap a ⟨.ref C.bag, some da, .plain, #[]⟩ C.bag (some (dictOf [⟨hs, .str opsName t, w⟩] n')) := ⟨e1, rfl, rfl, e2⟩
  obtain ⟨attr, ha, hn⟩ := O.ha
  have hh : handedIn w = true := by cases hops <;> rfl
  have X := C.kin _ S.base
  refine wpAny_bind (wpAny_holding (get_value (K := C.K) (fun b o e => hid_sub _ _ _ _ (X b o e)) I (plainGet_of O.pg).1 (findObj_own O.hh ha hn ?_) hh ?_))
  · show lookIn opsName (dictOf _ n') = _
    rw [lookIn_dict]
    unfold getL
    have : (Value.str opsName t).isStr opsName = true := by
      show (opsName == opsName) = true
      simp
    simp [this]
  · exact wpAny_bind (wpAny_pure (wpAny_pure ⟨S.keeps (kpTok s _), rep_of hops, .of (kpTok s _)⟩))

noncomputable def head1 (x : Str) : Str := if x.length ≤ 1 then x else ⟨((slicePicked x .none (some (1, 0)) .none).filterMap (x.cps[·]?)).toArray⟩

theorem Ev_head1 {value pos p k pi} {x : Str} (hv : Ev C n value env σ τ (.str x) τ₁) (hx : (slicePicked x .none (some (1, 0)) .none).length = min 1 x.length) (hz : x.length ≤ sizeLine) :
    Ev C n (.Subscript value (.Slice .none (some (.Constant (.int 1) k pi)) .none p) pos) env σ τ (.str (head1 x)) τ₁ := fun A R M s S => by
  refine Subscript_ (wpAny_mono (hv A R M s S) (fun u s₁ zz => and3 zz fun S₁ r₁ k₁ => ?_) fun _ _ x => x)
  refine wpAny_Slice ?_
  rw [evalPart_none]
  refine wpAny_pure ?_
  show wpAny _ _ (eval (.Constant (.int 1) k pi) env) _ _ _
  refine wpAny_Constant_int ?_
  refine wpAny_pure ?_
  obtain ⟨t, rfl⟩ := rep_str r₁
  have K1 : Keeps s₁ { s₁ with heap := s₁.heap.push { cls := .type "slice", data := .fields #[.none, .int 1 s₁.toks, .none] }, toks := s₁.toks + 1 } := ⟨_, _, rfl, fun _ _ e => Heap.get?_push_of_some _ e⟩
  refine tail_any (T := "str") (typeIs_str _ x t) PySem.F.slot_str_getitem.lookup (wpAny_getItem_str_slice (l := none) (u := some (1, s₁.toks)) (st := none) ⟨_, Heap.get?_push_size _ rfl, rfl, rfl⟩ (by decide) ?_) (by with_unfolding_all rfl)
  have e1 : slicePicked x .none (some (1, s₁.toks)) .none = slicePicked x .none (some (1, 0)) .none := rfl
  unfold sliceMade
  rw [e1, hx]
  unfold head1
  by_cases h1 : x.length ≤ 1
  · have : min 1 x.length = x.length := by lia
    rw [if_pos (by rw [this]; simp), if_pos h1]
    exact ⟨S₁.keeps K1, .str x t, k₁.trans (.of K1)⟩
  · have : ¬ min 1 x.length = x.length := by lia
    rw [if_neg (by simp [this]), if_neg h1]
    have K2 : Keeps s₁ { s₁ with heap := s₁.heap.push { cls := .type "slice", data := .fields #[.none, .int 1 s₁.toks, .none] }, toks := s₁.toks + 1 + 1 } := ⟨_, _, rfl, fun _ _ e => Heap.get?_push_of_some _ e⟩
    refine ⟨?_, S₁.keeps K2, .str _ _, k₁.trans (.of K2)⟩
    show (List.toArray _).size ≤ sizeLine
    rw [List.size_toArray]
    exact Nat.le_trans (List.length_filterMap_le ..) (by rw [hx, sizeLine_eq]; lia)

end
end Mine
namespace Mine

theorem lenS {vs : List Value} {k : Nat} (e : vs.length = k + 1) : ∃ a r, vs = a :: r ∧ r.length = k := by
  cases vs with
  | nil => cases e
  | cons a r => exact ⟨a, r, rfl, by simpa using e⟩
theorem len0 {vs : List Value} (e : vs.length = 0) : vs = [] := List.length_eq_zero_iff.mp e
theorem bindL1 {fd : FuncData} {ps : List Str} (hp : ps.length = 1) (h : ∀ a, bindArgs fd ⟨[a], []⟩ = pure (ps.zip [a])) (vs : List Value) (e : vs.length = ps.length) : bindArgs fd ⟨vs, []⟩ = pure (ps.zip vs) := by
  rw [hp] at e
  obtain ⟨a, r0, e0, l0⟩ := lenS e
  have z := len0 l0
  subst z
  subst e0
  exact h a
theorem bindL2 {fd : FuncData} {ps : List Str} (hp : ps.length = 2) (h : ∀ a b, bindArgs fd ⟨[a, b], []⟩ = pure (ps.zip [a, b])) (vs : List Value) (e : vs.length = ps.length) : bindArgs fd ⟨vs, []⟩ = pure (ps.zip vs) := by
  rw [hp] at e
  obtain ⟨a, r0, e0, l0⟩ := lenS e
  obtain ⟨b, r1, e1, l1⟩ := lenS l0
  have z := len0 l1
  subst z
  subst e1
  subst e0
  exact h a b
theorem bindL3 {fd : FuncData} {ps : List Str} (hp : ps.length = 3) (h : ∀ a b c, bindArgs fd ⟨[a, b, c], []⟩ = pure (ps.zip [a, b, c])) (vs : List Value) (e : vs.length = ps.length) : bindArgs fd ⟨vs, []⟩ = pure (ps.zip vs) := by
  rw [hp] at e
  obtain ⟨a, r0, e0, l0⟩ := lenS e
  obtain ⟨b, r1, e1, l1⟩ := lenS l0
  obtain ⟨c, r2, e2, l2⟩ := lenS l1
  have z := len0 l2
  subst z
  subst e2
  subst e1
  subst e0
  exact h a b c
theorem bindL4 {fd : FuncData} {ps : List Str} (hp : ps.length = 4) (h : ∀ a b c d, bindArgs fd ⟨[a, b, c, d], []⟩ = pure (ps.zip [a, b, c, d])) (vs : List Value) (e : vs.length = ps.length) : bindArgs fd ⟨vs, []⟩ = pure (ps.zip vs) := by
  rw [hp] at e
  obtain ⟨a, r0, e0, l0⟩ := lenS e
  obtain ⟨b, r1, e1, l1⟩ := lenS l0
  obtain ⟨c, r2, e2, l2⟩ := lenS l1
  obtain ⟨d, r3, e3, l3⟩ := lenS l2
  have z := len0 l3
  subst z
  subst e3
  subst e2
  subst e1
  subst e0
  exact h a b c d
theorem bindL5 {fd : FuncData} {ps : List Str} (hp : ps.length = 5) (h : ∀ a b c d f, bindArgs fd ⟨[a, b, c, d, f], []⟩ = pure (ps.zip [a, b, c, d, f])) (vs : List Value) (e : vs.length = ps.length) : bindArgs fd ⟨vs, []⟩ = pure (ps.zip vs) := by
  rw [hp] at e
  obtain ⟨a, r0, e0, l0⟩ := lenS e
  obtain ⟨b, r1, e1, l1⟩ := lenS l0
  obtain ⟨c, r2, e2, l2⟩ := lenS l1
  obtain ⟨d, r3, e3, l3⟩ := lenS l2
  obtain ⟨f, r4, e4, l4⟩ := lenS l3
  have z := len0 l4
  subst z
  subst e4
  subst e3
  subst e2
  subst e1
  subst e0
  exact h a b c d f
theorem bindL6 {fd : FuncData} {ps : List Str} (hp : ps.length = 6) (h : ∀ a b c d f g, bindArgs fd ⟨[a, b, c, d, f, g], []⟩ = pure (ps.zip [a, b, c, d, f, g])) (vs : List Value) (e : vs.length = ps.length) : bindArgs fd ⟨vs, []⟩ = pure (ps.zip vs) := by
  rw [hp] at e
  obtain ⟨a, r0, e0, l0⟩ := lenS e
  obtain ⟨b, r1, e1, l1⟩ := lenS l0
  obtain ⟨c, r2, e2, l2⟩ := lenS l1
  obtain ⟨d, r3, e3, l3⟩ := lenS l2
  obtain ⟨f, r4, e4, l4⟩ := lenS l3
  obtain ⟨g, r5, e5, l5⟩ := lenS l4
  have z := len0 l5
  subst z
  subst e5
  subst e4
  subst e3
  subst e2
  subst e1
  subst e0
  exact h a b c d f g
theorem fnData_of {C : Cx} {a : Addr} {oc : Value} {od : Option Addr} {osl : Array (Option Value)} {fd : FuncData} {body : List Stmt} {ps : List Str} (e : C.K.lookup a = some ⟨oc, od, .func fd, osl⟩) (hcd : codeIn C.K fd.code fd.qualname = true) (hb : fd.body = .stmts body)
    (gl : fd.globals = mainGlobals) (bu : fd.builtins = builtinsNs) (cl : fd.closure = []) (kd : fd.scope.kind = .function) (co : fd.scope.isCoroutine = false) (ge : fd.scope.isGenerator = false)
    (bind : ∀ vs : List Value, vs.length = ps.length → bindArgs fd ⟨vs, []⟩ = pure (ps.zip vs)) (nm : namesOk fd.scope ps = true) (nd : ps.Nodup) : FnData C a fd body ps :=
  ⟨fun h b => ⟨⟨_, C.kin h b _ _ e, rfl⟩, codeRec_of (C.kin h b) hcd⟩, hb, gl, bu, cl, kd, co, ge, bind, nm, nd⟩

noncomputable def baseOf (K : Frag) (p : Program) (loose : List Str) (mg mb : Str → Option Value) (h : Heap) : Prop := K.In h ∧ TopRead p loose mg mb h

noncomputable def cxOf (prog : Program) (w : World) (K : Frag) (p : Program) (loose : List Str) (mg mb : Str → Option Value) (T : Option Addr) (bag : Addr) (cells : List V) (k1 k2 : Str) : Cx where
  prog := prog
  w := w
  Base := baseOf K p loose mg mb
  T := T
  bag := bag
  cells := cells
  k1 := k1
  k2 := k2
  K := K
  kin := fun _ b => b.1
  nolim := fun _ b => b.2.nolimit
  big := fun _ b => by
    obtain ⟨o, _, _, e, _⟩ := b.2.g
    exact ⟨mainGlobals, o, by decide, e⟩
  mono := fun _ _ b k => ⟨fun a o e => k _ _ (b.1 a o e), b.2.keeps k⟩

section
variable {prog : Program} {w : World} {K : Frag} {p : Program} {loose : List Str} {mg mb : Str → Option Value} {T : Option Addr} {bag : Addr} {cells : List V} {k1 k2 : Str}
theorem globAt_of {x : Str} {v : Value} (e : nsIn K mainGlobals x = some (some v)) : GlobAt (cxOf prog w K p loose mg mb T bag cells k1 k2) x v := fun h b => ⟨mg, b.2.g, mg_of b.1 b.2.g e⟩
theorem builtAt_of {x : Str} {v : Value} (e : nsIn K mainGlobals x = some none) (hx : x ≠ "__name__") (e2 : bootBuiltins x = some v) : BuiltAt (cxOf prog w K p loose mg mb T bag cells k1 k2) x v := fun h b => ⟨mg, mb, b.2.g, mg_none_of b.1 b.2.g e, b.2.b, by rw [b.2.builtins x hx]; exact e2⟩
end

end Mine

namespace Mine
section
variable {C : Cx} {n : Nat} {env : Env} {σ σ' : List (Str × V)} {τ τ₁ τ₂ τ₃ : Option Nat}

theorem seqIdx_nat {k n : Nat} (h : k < n) : seqIndex? (k : Int) n = some k := by
  have h1 : ¬ (k : Int) < 0 := by lia
  simp only [seqIndex?, h1, if_false]
  rw [if_pos (by simp; assumption)]
  simp
theorem Ev_itemN {value slice pos} {x y : V} {xs : List V} {k : Nat} (hv : Ev C n value env σ τ x τ₁) (hs : Ev C n slice env σ τ₁ (.int (k : Int)) τ₂) (hx : x.items = some xs) (hy : xs[k]? = some y)
    (hhi : (k : Int) < 2 ^ 63) (he : ∀ a t, subscripted slice false (.ref a) (.int (k : Int) t) = operate [.ref a, .int (k : Int) t] (getItem (.ref a) (.int (k : Int) t)) := by intro _ _; with_unfolding_all rfl) :
    Ev C n (.Subscript value slice pos) env σ τ y τ₂ := Ev_item hv hs hx (seqIdx_nat (List.getElem?_eq_some_iff.mp hy).1) hy (by lia) hhi he
theorem Ev_at0 {value k p pos} {x y : V} {r : List V} (hv : Ev C n value env σ τ x τ₁) (hx : x.items = some (y :: r)) : Ev C n (.Subscript value (.Constant (.int 0) k p) pos) env σ τ y τ₁ := Ev_itemN (k := 0) hv Ev_int hx rfl (by decide)
theorem Ev_at1 {value k p pos} {x a y : V} {r : List V} (hv : Ev C n value env σ τ x τ₁) (hx : x.items = some (a :: y :: r)) : Ev C n (.Subscript value (.Constant (.int 1) k p) pos) env σ τ y τ₁ := Ev_itemN (k := 1) hv Ev_int hx rfl (by decide)
theorem Ev_tup1 {value pos p k pi} {x : V} {xs : List V} (hv : Ev C n value env σ τ (.tup (x :: xs)) τ₁) (hl : xs.length + 1 ≤ sizeLine) :
    Ev C n (.Subscript value (.Slice (some (.Constant (.int 1) k pi)) .none .none p) pos) env σ τ (.tup xs) τ₁ := Ev_tup_from (a := 1) hv rfl (Nat.le_refl _) (by simp) (by simpa using hl)
end
end Mine
namespace Mine
open AutoSeq1 (wpAny_loadPart')

section
variable {prog : Program} {w : World} {A : Around} {E : Value → Shared → Prop} {s : Shared}

theorem tupNext_item {it t : Addr} {i : Nat} {items : Array Value} {x : Value} {Q : Value → Shared → Prop} (hit : s.heap.IsTupleIter it t i) (hl : s.heap.IsTuple t items) (hx : items[i]? = some x)
    (hQ : ∀ h', h'.IsTupleIter it t (i + 1) → Heap.SameBut it s.heap h' → Q x { s with heap := h' }) :
    wpAny (model prog w) A (Builtin.SmallTypes.nextOf (.ref it)) Q E s := by
  obtain ⟨o, ho, hc, hd⟩ := id hit
  obtain ⟨ol, hol, _, nl, hdl⟩ := hl
  unfold Builtin.SmallTypes.nextOf
  refine wpAny_bind (wpAny_callSpecial?_slot (name := Str.ofString "__next__") hit.typeIs F.slot_tuple_iterator_next
    (wpAny_call_entry F.slot_tuple_iterator_next hit.typeIs F.entry_tuple_iterator_next ?_ (F.args_tuple_iterator_next_1 _)))
  show wpAny _ _ (field (.ref it) 0 >>= _) _ _ s
  refine wpAny_bind (wpAny_field ho hd (x := .ref t) rfl ?_)
  show wpAny _ _ (if (Value.ref t == Value.none) = true then _ else _) _ _ s
  rw [if_neg (show ¬ ((Value.ref t == Value.none) = true) from Bool.false_ne_true)]
  show wpAny _ _ (field (.ref it) 1 >>= _) _ _ s
  refine wpAny_bind (wpAny_field ho hd (x := .int i 0) rfl ?_)
  show wpAny _ _ (seqItems? (.ref t) >>= _) _ _ s
  refine wpAny_bind (wpAny_seqItems hol hdl ?_)
  simp only [Int.toNat_natCast, hx]
  refine wpAny_bind (wpAny_setField ho hd (by simp) (wpAny_pure ⟨x, rfl, wpAny_pure (hQ _ ?_ (Heap.SameBut.update ..))⟩))
  exact ⟨_, Heap.get?_update_self _ ho (Obj.isFreed_of_fields (Obj.data_mapFields hd _)), (Obj.cls_mapFields ..).trans hc, by
    rw [Obj.data_mapFields hd]; simp [rawInt]⟩

theorem tupNext_end {it t : Addr} {i : Nat} {items : Array Value} {Q : Value → Shared → Prop} (hh : A.handled = none) (hit : s.heap.IsTupleIter it t i) (hl : s.heap.IsTuple t items) (hx : items[i]? = none)
    (hE : ∀ h' e, Heap.ExtBut it s.heap h' → (∃ o, h'.get? e = some o ∧ o.cls = .type "StopIteration") → E (.ref e) { s with heap := h' }) :
    wpAny (model prog w) A (Builtin.SmallTypes.nextOf (.ref it)) Q E s := by
  obtain ⟨o, ho, hc, hd⟩ := id hit
  obtain ⟨ol, hol, _, nl, hdl⟩ := hl
  unfold Builtin.SmallTypes.nextOf
  refine wpAny_bind (wpAny_callSpecial?_slot (name := Str.ofString "__next__") hit.typeIs F.slot_tuple_iterator_next
    (wpAny_call_entry F.slot_tuple_iterator_next hit.typeIs F.entry_tuple_iterator_next ?_ (F.args_tuple_iterator_next_1 _)))
  show wpAny _ _ (field (.ref it) 0 >>= _) _ _ s
  refine wpAny_bind (wpAny_field ho hd (x := .ref t) rfl ?_)
  show wpAny _ _ (if (Value.ref t == Value.none) = true then _ else _) _ _ s
  rw [if_neg (show ¬ ((Value.ref t == Value.none) = true) from Bool.false_ne_true)]
  show wpAny _ _ (field (.ref it) 1 >>= _) _ _ s
  refine wpAny_bind (wpAny_field ho hd (x := .int i 0) rfl ?_)
  show wpAny _ _ (seqItems? (.ref t) >>= _) _ _ s
  refine wpAny_bind (wpAny_seqItems hol hdl ?_)
  simp only [Int.toNat_natCast, hx]
  refine wpAny_bind (wpAny_rule (wpAny_bind (wpAny_setField ho hd (by simp) ?_)))
  show wpAny _ _ (newExc (.type "StopIteration") [] >>= _) _ _ _
  refine wpAny_bind ?_
  simp only [newExc, newTuple]
  refine wpAny_bind (wpAny_newObj_type ?_ (by size_fits))
  refine wpAny_bind (m := firstArgMember _ _) (wpAny_of_eq (a := Value.none) (by first | rfl | (simp only [firstArgMember]; rfl)) ?_)
  refine wpAny_newObj_type ?_ (by size_fits)
  unfold raiseNew
  refine wpAny_bind (wpAny_handled ?_)
  first | rw [show A.in1.handled = none from hh] | rw [hh]
  refine wpAny_bind (wpAny_pure (wpAny_throw ?_))
  exact hE _ _ (((Heap.SameBut.update ..).extBut.push _).push _) ⟨_, Heap.get?_push_size _ rfl, rfl⟩

noncomputable def SqI (tu : Bool) (h : Heap) (it a : Addr) (i : Nat) : Prop := if tu then h.IsTupleIter it a i else h.IsListIter it a i
noncomputable def Sq (tu : Bool) (h : Heap) (a : Addr) (vs : Array Value) : Prop := if tu then h.IsTuple a vs else h.IsList a vs
theorem Sq.at {tu : Bool} {h h' : Heap} {a : Addr} {vs : Array Value} (x : Sq tu h a vs) (k : ∀ o, h.get? a = some o → h'.get? a = some o) : Sq tu h' a vs := by
  cases tu
  · exact Heap.IsList.at x k
  · obtain ⟨o, e, r⟩ := x; exact ⟨o, k o e, r⟩
theorem SqI.at {tu : Bool} {h h' : Heap} {it a : Addr} {i : Nat} (x : SqI tu h it a i) (k : ∀ o, h.get? it = some o → h'.get? it = some o) : SqI tu h' it a i := by
  cases tu
  · exact Heap.IsListIter.at x k
  · obtain ⟨o, e, r⟩ := x; exact ⟨o, k o e, r⟩
theorem SqI.ex {tu : Bool} {h : Heap} {it a : Addr} {i : Nat} (x : SqI tu h it a i) : ∃ o, h.get? it = some o := by
  cases tu
  · obtain ⟨o, e, r⟩ := x; exact ⟨o, e⟩
  · obtain ⟨o, e, r⟩ := x; exact ⟨o, e⟩
theorem Sq.ex {tu : Bool} {h : Heap} {a : Addr} {vs : Array Value} (x : Sq tu h a vs) : ∃ o, h.get? a = some o := by
  cases tu
  · obtain ⟨o, e, r⟩ := x; exact ⟨o, e⟩
  · obtain ⟨o, e, r⟩ := x; exact ⟨o, e⟩
noncomputable abbrev SqPush (tu : Bool) (a : Addr) : Obj := { cls := .type (if tu then "tuple_iterator" else "list_iterator"), data := .fields #[.ref a, .int 0 0] }
theorem Sq.iter {tu : Bool} {a : Addr} {vs : Array Value} {Q : Value → Shared → Prop} (x : Sq tu s.heap a vs) (h : Q (.ref s.heap.objs.size) { s with heap := s.heap.push (SqPush tu a) }) : wpAny (model prog w) A (pyIter (.ref a)) Q E s := by
  cases tu
  · exact wpAny_pyIter_list x h
  · exact wpAny_pyIter_tuple x h
theorem Sq.pushed {tu : Bool} {h : Heap} {a : Addr} : SqI tu (h.push (SqPush tu a)) h.objs.size a 0 := by
  cases tu
  · exact ⟨_, Heap.get?_push_size _ rfl, rfl, rfl⟩
  · exact ⟨_, Heap.get?_push_size _ rfl, rfl, rfl⟩
theorem Draws_sq (tu : Bool) (hh : A.handled = none) (it l : Addr) (hne : l ≠ it) (items : Array Value) :
    Draws prog w A it [it, l] items.size (fun i v => items[i]? = some v) (fun i h => SqI tu h it l i ∧ Sq tu h l items) := by
  cases tu
  · exact Draws.list hh it l hne items
  · exact {
      live := fun _ _ st => let ⟨o, ho, _⟩ := st.1; ⟨o, ho⟩
      frame := fun _ _ _ st hk => ⟨SqI.at st.1 fun o e => hk it (by simp) o e, Sq.at st.2 fun o e => hk l (by simp) o e⟩
      item := fun i s Q E hi st hQ => by
        refine tupNext_item st.1 st.2 (x := items[i]) (by simp [hi]) fun h' hit' hs' => ?_
        exact hQ _ h' s.toks (by simp [hi]) ⟨hit', Heap.IsTuple.extBut st.2 hs'.extBut hne⟩ hs'
      done := fun s Q E st hE => tupNext_end hh st.1 st.2 (by simp) hE }

structure ZAp (z TI TO i1 i2 : Addr) (f1 f2 : List Addr) : Prop where
  ne : [z, TI, TO, i1, i2].Nodup
  z1 : z ∉ f1
  z2 : z ∉ f2
  t1 : TO ∉ f1
  t2 : TO ∉ f2
  i12 : i1 ∉ f2
  i21 : i2 ∉ f1
  m1 : i1 ∈ f1
  m2 : i2 ∈ f2

theorem zipItem {z TI TO i1 i2 : Addr} {f1 f2 : List Addr} {n1 n2 k : Nat} {P1 P2 : Nat → Value → Prop} {S1 S2 : Nat → Heap → Prop} {a b : Value} {Q : Value → Shared → Prop} (D : ZAp z TI TO i1 i2 f1 f2)
    (D1 : Draws prog w A i1 f1 n1 P1 S1) (D2 : Draws prog w A i2 f2 n2 P2 S2)
    (hz : IsZip s.heap z TI TO .none) (hTI : IsPair s.heap TI (.ref i1) (.ref i2)) (hTO : IsPair s.heap TO a b) (h1 : S1 k s.heap) (h2 : S2 k s.heap) (hk1 : k < n1) (hk2 : k < n2)
    (hQ : ∀ x y h' tk, P1 k x → P2 k y → IsZip h' z TI TO (rawInt s.heap.objs.size) → IsPair h' TO x y → S1 (k + 1) h' → S2 (k + 1) h' → IsPair h' s.heap.objs.size x y →
      (∀ c o, c ≠ z → c ≠ TO → c ≠ i1 → c ≠ i2 → s.heap.get? c = some o → h'.get? c = some o) → Q (.ref s.heap.objs.size) { s with heap := h', toks := tk }) :
    wpAny (model prog w) A (Builtin.«zip.__next__» ⟨[.ref z], []⟩) (fun fin s' => ∃ v, fin = .done (.ret v) ∧ Q v s') E s := by
  have nd := D.ne
  simp only [List.nodup_cons, List.mem_cons, List.not_mem_nil, or_false, not_or, List.nodup_nil, and_true] at nd
  obtain ⟨⟨zTI, zTO, zi1, zi2⟩, ⟨TITO, TIi1, TIi2⟩, ⟨TOi1, TOi2⟩, i12, _⟩ := nd
  obtain ⟨hp, gl, dd, tk0, os⟩ := s
  show wpAny _ _ (field (.ref z) 2 >>= _) _ _ _
  refine wpAny_bind (wpAny_field hz rfl (x := .bool false) rfl ?_)
  show wpAny _ _ (field (.ref z) 3 >>= _) _ _ _
  refine wpAny_bind (wpAny_field hz rfl (x := .ref TI) rfl ?_)
  refine wpAny_bind (wpAny_seqItems hTI rfl ?_)
  show wpAny _ _ (Builtin.SmallTypes.ownedTupleIsFree (.ref z) >>= _) _ _ _
  refine wpAny_bind ?_
  unfold Builtin.SmallTypes.ownedTupleIsFree
  refine wpAny_bind (wpAny_field hz rfl (x := .none) rfl (wpAny_pure ?_))
  simp only [if_true]
  refine wpAny_bind (wpAny_rule ?_)
  refine wpAny_bind (wpAny_field hz rfl (x := .ref TO) rfl ?_)
  refine wpAny_bind (wpAny_setField_rec hz (by simp) fun h₁ hz₁ hs₁ => ?_)
  replace hz₁ : IsZip h₁ z TI TO .ellipsis := hz₁
  replace hs₁ : Heap.SameBut z hp h₁ := hs₁
  refine wpAny_bind ?_
  simp only [List.zipIdx_cons, List.zipIdx_nil, List.forIn_cons, List.forIn_nil]
  have a1 : S1 k h₁ := D1.frame _ _ _ h1 fun c hc o e => hs₁.extBut _ _ (fun q => D.z1 (q ▸ hc)) e
  have a2 : S2 k h₁ := D2.frame _ _ _ h2 fun c hc o e => hs₁.extBut _ _ (fun q => D.z2 (q ▸ hc)) e
  refine wpAny_bind (wpAny_bind (wpAny_onRaise ?_))
  show wpAny _ _ (Builtin.SmallTypes.nextOf (.ref i1) >>= _) _ _ _
  refine wpAny_bind (D1.item k _ _ _ hk1 a1 fun x h₂ tk2 px h1₂ hs₂ => wpAny_pure ?_)
  replace hs₂ : Heap.SameBut i1 h₁ h₂ := hs₂
  have hTO₂ : IsPair h₂ TO a b := hs₂.extBut _ _ TOi1 (hs₁.extBut _ _ (Ne.symm zTO) hTO)
  refine wpAny_bind (wpAny_seqItems hTO₂ rfl ?_)
  refine wpAny_bind (wpAny_updateSeq_pair hTO₂ fun h₃ hTO₃ hs₃ => ?_)
  replace hTO₃ : IsPair h₃ TO x b := hTO₃
  replace hs₃ : Heap.SameBut TO h₂ h₃ := hs₃
  refine wpAny_bind (wpAny_letGo (wpAny_pure ?_))
  have b2 : S2 k h₃ := D2.frame _ _ _ a2 fun c hc o e => hs₃.extBut _ _ (fun q => D.t2 (q ▸ hc)) (hs₂.extBut _ _ (fun q => D.i12 (q ▸ hc)) e)
  have b1 : S1 (k + 1) h₃ := D1.frame _ _ _ h1₂ fun c hc o e => hs₃.extBut _ _ (fun q => D.t1 (q ▸ hc)) e
  refine wpAny_bind (wpAny_bind (wpAny_onRaise ?_))
  show wpAny _ _ (Builtin.SmallTypes.nextOf (.ref i2) >>= _) _ _ _
  refine wpAny_bind (D2.item k _ _ _ hk2 b2 fun y h₄ tk4 py h2₄ hs₄ => wpAny_pure ?_)
  replace hs₄ : Heap.SameBut i2 h₃ h₄ := hs₄
  have hTO₄ : IsPair h₄ TO x b := hs₄.extBut _ _ TOi2 hTO₃
  refine wpAny_bind (wpAny_seqItems hTO₄ rfl ?_)
  refine wpAny_bind (wpAny_updateSeq_pair hTO₄ fun h₅ hTO₅ hs₅ => ?_)
  replace hTO₅ : IsPair h₅ TO x y := hTO₅
  replace hs₅ : Heap.SameBut TO h₄ h₅ := hs₅
  refine wpAny_bind (wpAny_letGo (wpAny_pure (wpAny_pure ?_)))
  refine wpAny_bind (wpAny_seqItems hTO₅ rfl ?_)
  refine wpAny_bind (wpAny_newTuple ?_)
  have hsz : h₅.objs.size = hp.objs.size := by rw [hs₅.1, hs₄.1, hs₃.1, hs₂.1, hs₁.1]
  have hz₅ : IsZip h₅ z TI TO .ellipsis := hs₅.extBut _ _ zTO (hs₄.extBut _ _ zi2 (hs₃.extBut _ _ zTO (hs₂.extBut _ _ zi1 hz₁)))
  have hk₅ : ∀ c o, c ≠ z → c ≠ TO → c ≠ i1 → c ≠ i2 → hp.get? c = some o → h₅.get? c = some o := fun c o c1 c2 c3 c4 e =>
    hs₅.extBut _ _ c2 (hs₄.extBut _ _ c4 (hs₃.extBut _ _ c2 (hs₂.extBut _ _ c3 (hs₁.extBut _ _ c1 e))))
  have h1₅ : S1 (k + 1) h₅ := D1.frame _ _ _ b1 fun c hc o e => hs₅.extBut _ _ (fun q => D.t1 (q ▸ hc)) (hs₄.extBut _ _ (fun q => D.i21 (q ▸ hc)) e)
  have h2₅ : S2 (k + 1) h₅ := D2.frame _ _ _ h2₄ fun c hc o e => hs₅.extBut _ _ (fun q => D.t2 (q ▸ hc)) e
  have hzlt : z < h₅.objs.size := Heap.lt_size hz₅
  show wpAny _ _ (Builtin.SmallTypes.ownedTupleHandOut (.ref z) (.ref h₅.objs.size) >>= _) _ _ _
  refine wpAny_bind ?_
  unfold Builtin.SmallTypes.ownedTupleHandOut
  have hz₆ : IsZip (h₅.push { cls := .type "tuple", data := .seq #[x, y] }) z TI TO .ellipsis := Heap.get?_push_of_some _ hz₅
  refine wpAny_bind (wpAny_setField_rec hz₆ (by simp) fun h₇ hz₇ hs₇ => ?_)
  replace hz₇ : IsZip h₇ z TI TO (rawInt h₅.objs.size) := hz₇
  refine wpAny_setField_rec hz₇ (by simp) fun h₈ hz₈ hs₈ => ?_
  replace hz₈ : IsZip h₈ z TI TO (rawInt h₅.objs.size) := hz₈
  have up : ∀ c o, c ≠ z → h₅.get? c = some o → h₈.get? c = some o := fun c o c1 e => hs₈.extBut _ _ c1 (hs₇.extBut _ _ c1 (Heap.get?_push_of_some _ e))
  have hT₈ : IsPair h₈ h₅.objs.size x y := hs₈.extBut _ _ (Nat.ne_of_gt hzlt) (hs₇.extBut _ _ (Nat.ne_of_gt hzlt) (Heap.get?_push_size _ rfl))
  rw [hsz] at hz₈ hT₈
  refine wpAny_pure ⟨_, rfl, ?_⟩
  show Q (.ref h₅.objs.size) _
  rw [hsz]
  exact hQ x y h₈ _ px py hz₈ (up _ _ (Ne.symm zTO) hTO₅) (D1.frame _ _ _ h1₅ fun c hc o e => up c o (fun q => D.z1 (q ▸ hc)) e) (D2.frame _ _ _ h2₅ fun c hc o e => up c o (fun q => D.z2 (q ▸ hc)) e) hT₈
    fun c o c1 c2 c3 c4 e => up c o c1 (hk₅ c o c1 c2 c3 c4 e)
end
end Mine
namespace Mine
open AutoSeq1 (wpAny_loadPart')
section
variable {prog : Program} {w : World} {A : Around} {E : Value → Shared → Prop} {s : Shared}

theorem zipEnd {z TI TO i1 i2 : Addr} {f1 f2 : List Addr} {n1 : Nat} {P1 : Nat → Value → Prop} {S1 : Nat → Heap → Prop} {a b : Value} {Q : PySem.Fin → Shared → Prop} (D : ZAp z TI TO i1 i2 f1 f2)
    (D1 : Draws prog w A i1 f1 n1 P1 S1) (hz : IsZip s.heap z TI TO .none) (hTI : IsPair s.heap TI (.ref i1) (.ref i2)) (hTO : IsPair s.heap TO a b) (h1 : S1 n1 s.heap)
    (hE : ∀ h' e, (∀ c o, c ≠ z → c ≠ TO → c ≠ i1 → c ≠ i2 → s.heap.get? c = some o → h'.get? c = some o) → (∃ o, h'.get? e = some o ∧ o.cls = .type "StopIteration") → E (.ref e) { s with heap := h' }) :
    wpAny (model prog w) A (Builtin.«zip.__next__» ⟨[.ref z], []⟩) Q E s := by
  have nd := D.ne
  simp only [List.nodup_cons, List.mem_cons, List.not_mem_nil, or_false, not_or, List.nodup_nil, and_true] at nd
  obtain ⟨⟨zTI, zTO, zi1, zi2⟩, ⟨TITO, TIi1, TIi2⟩, ⟨TOi1, TOi2⟩, i12, _⟩ := nd
  show wpAny _ _ (field (.ref z) 2 >>= _) _ _ _
  refine wpAny_bind (wpAny_field hz rfl (x := .bool false) rfl ?_)
  show wpAny _ _ (field (.ref z) 3 >>= _) _ _ _
  refine wpAny_bind (wpAny_field hz rfl (x := .ref TI) rfl ?_)
  refine wpAny_bind (wpAny_seqItems hTI rfl ?_)
  show wpAny _ _ (Builtin.SmallTypes.ownedTupleIsFree (.ref z) >>= _) _ _ _
  refine wpAny_bind ?_
  unfold Builtin.SmallTypes.ownedTupleIsFree
  refine wpAny_bind (wpAny_field hz rfl (x := .none) rfl (wpAny_pure ?_))
  simp only [if_true]
  refine wpAny_bind (wpAny_rule ?_)
  refine wpAny_bind (wpAny_field hz rfl (x := .ref TO) rfl ?_)
  refine wpAny_bind (wpAny_setField_rec hz (by simp) fun h₁ hz₁ hs₁ => ?_)
  replace hz₁ : IsZip h₁ z TI TO .ellipsis := hz₁
  refine wpAny_bind ?_
  simp only [List.zipIdx_cons, List.zipIdx_nil, List.forIn_cons, List.forIn_nil]
  have a1 : S1 n1 h₁ := D1.frame _ _ _ h1 fun c hc o e => hs₁.extBut _ _ (fun q => D.z1 (q ▸ hc)) e
  refine wpAny_bind (wpAny_bind (wpAny_onRaise ?_))
  show wpAny _ _ (Builtin.SmallTypes.nextOf (.ref i1) >>= _) _ _ _
  refine wpAny_bind (D1.done _ _ _ a1 fun h₂ e hs₂ he => ?_)
  obtain ⟨oe, hoe, hce⟩ := he
  have hz₂ : IsZip h₂ z TI TO .ellipsis := hs₂ _ _ zi1 hz₁
  have hez : e ≠ z := fun x => by subst x; rw [hz₂] at hoe; cases hoe; simp at hce
  refine wpAny_setField_rec hz₂ (by simp) fun h₃ _ hs₃ => hE h₃ e (fun c o c1 _ c3 _ x => hs₃.extBut _ _ c1 (hs₂ _ _ c3 (hs₁.extBut _ _ c1 x))) ⟨oe, hs₃.extBut _ _ hez hoe, hce⟩

theorem WalksT_zip {z TI TO i1 i2 : Addr} {f1 f2 : List Addr} {k : Nat} {P1 P2 : Nat → Value → Prop} {S1 S2 : Nat → Heap → Prop} (D : ZAp z TI TO i1 i2 f1 f2)
    (D1 : Draws prog w A.in1 i1 f1 k P1 S1) (D2 : Draws prog w A.in1 i2 f2 k P2 S2) :
    WalksT prog w A z ([z, TI, TO] ++ (f1 ++ f2)) [z, TO, i1, i2] k
      (fun i vals => ∃ x y, P1 i x ∧ P2 i y ∧ vals = #[x, y])
      (fun i h => (IsZip h z TI TO .none ∧ IsPair h TI (.ref i1) (.ref i2) ∧ (∃ a b, IsPair h TO a b)) ∧ (S1 i h ∧ S2 i h) ∧ TI ∉ f1 ∧ TI ∉ f2)
      (fun i T h => (IsZip h z TI TO (rawInt T) ∧ IsPair h TI (.ref i1) (.ref i2) ∧ (∃ a b, IsPair h TO a b)) ∧ (S1 (i + 1) h ∧ S2 (i + 1) h) ∧ (TI ∉ f1 ∧ TI ∉ f2) ∧ T ≠ z ∧ T ≠ TO ∧ T ≠ i1 ∧ T ≠ i2 ∧ ∃ x y, IsPair h T x y) := by
  have nd := D.ne
  simp only [List.nodup_cons, List.mem_cons, List.not_mem_nil, or_false, not_or, List.nodup_nil, and_true] at nd
  obtain ⟨⟨zTI, zTO, zi1, zi2⟩, ⟨TITO, TIi1, TIi2⟩, ⟨TOi1, TOi2⟩, i12, _⟩ := nd
  exact {
    sub := fun c hc => by
      have m1 := D.m1; have m2 := D.m2
      simp only [List.mem_cons, List.not_mem_nil, or_false, List.mem_append] at hc ⊢
      rcases hc with rfl | rfl | rfl | rfl
      · exact .inl (.inl rfl)
      · exact .inl (.inr (.inr rfl))
      · exact .inr (.inl m1)
      · exact .inr (.inr m2)
    frame := fun i h h' hst hk => by
      obtain ⟨⟨hz, hTI, a, b, hTO⟩, ⟨h1, h2⟩, n⟩ := hst
      exact ⟨⟨hk z (by simp) _ hz, hk TI (by simp) _ hTI, a, b, hk TO (by simp) _ hTO⟩, ⟨D1.frame _ _ _ h1 fun c hc => hk c (by simp [hc]), D2.frame _ _ _ h2 fun c hc => hk c (by simp [hc])⟩, n⟩
    item := fun i s Q E hi hst hQ => by
      obtain ⟨⟨hz, hTI, a, b, hTO⟩, ⟨h1, h2⟩, n⟩ := hst
      have hT : s.TypeIs (.ref z) "zip" := ⟨_, hz, rfl⟩
      unfold pyNext
      refine wpAny_bind (wpAny_attempt (wpAny_callSpecial?_slot (name := Str.ofString "__next__") hT F.slot_zip_next
        (wpAny_call_entry F.slot_zip_next hT F.entry_zip_next (zipItem D D1 D2 hz hTI hTO h1 h2 hi hi fun x y h' tk px py b1 b2 b3 b4 b5 hk => wpAny_pure ?_) (F.args_zip_next_1 _))))
      have lt : ∀ {c o}, s.heap.get? c = some o → s.heap.objs.size ≠ c := fun e => Nat.ne_of_gt (Heap.lt_size e)
      obtain ⟨o1, e1⟩ := D1.live _ _ h1
      obtain ⟨o2, e2⟩ := D2.live _ _ h2
      exact hQ s.heap.objs.size #[x, y] h' tk ⟨_, _, px, py, rfl⟩ (Nat.le_refl _) ⟨_, b5, rfl, _, rfl⟩
        ⟨⟨b1, hk _ _ (Ne.symm zTI) TITO TIi1 TIi2 hTI, _, _, b2⟩, ⟨b3, b4⟩, n, lt hz, lt hTO, lt e1, lt e2, _, _, b5⟩
        fun c o hc e => hk c o (fun x => hc (by simp [x])) (fun x => hc (by simp [x])) (fun x => hc (by simp [x])) (fun x => hc (by simp [x])) e
    go := fun elts k pos i T s Q E hm hQ => by
      obtain ⟨⟨hz, hTI, a, b, hTO⟩, ⟨h1, h2⟩, n, _⟩ := hm
      refine wpAny_letOwnedTupleGo_zip hz fun h' hz' hs' => hQ h' ⟨⟨hz', hs'.extBut _ _ (Ne.symm zTI) hTI, a, b, hs'.extBut _ _ (Ne.symm zTO) hTO⟩,
        ⟨D1.frame _ _ _ h1 fun c hc o e => hs'.extBut _ _ (fun q => D.z1 (q ▸ hc)) e, D2.frame _ _ _ h2 fun c hc o e => hs'.extBut _ _ (fun q => D.z2 (q ▸ hc)) e⟩, n⟩ fun c o hc e => hs'.extBut _ _ (fun x => hc (by simp [x])) e
    apart := fun i T h hm hT => by
      obtain ⟨_, _, _, t1, t2, t3, t4, _⟩ := hm
      simp at hT
      rcases hT with rfl | rfl | rfl | rfl
      · exact t1 rfl
      · exact t2 rfl
      · exact t3 rfl
      · exact t4 rfl
    done := fun s Q E hst hQ => by
      obtain ⟨⟨hz, hTI, a, b, hTO⟩, ⟨h1, h2⟩, n⟩ := hst
      have hT : s.TypeIs (.ref z) "zip" := ⟨_, hz, rfl⟩
      unfold pyNext
      refine wpAny_bind (wpAny_attempt (wpAny_callSpecial?_slot (name := Str.ofString "__next__") hT F.slot_zip_next
        (wpAny_call_entry F.slot_zip_next hT F.entry_zip_next (zipEnd D D1 hz hTI hTO h1 fun h' e hk he => ?_) (F.args_zip_next_1 _))))
      obtain ⟨o, ho, hc⟩ := he
      refine wpAny_bind (wpAny_isInstance (T := "StopIteration") (b := true) ⟨o, ho, hc⟩ isSubtype_stop ?_)
      exact wpAny_pure (hQ h' s.toks fun c o hc e => hk c o (fun x => hc (by simp [x])) (fun x => hc (by simp [x])) (fun x => hc (by simp [x])) (fun x => hc (by simp [x])) e)
    self := fun i s Q E hst hQ => wpAny_pyIter_zip hst.1.1 hQ }

noncomputable abbrev zH1 (h : Heap) (t1 : Bool) (l1 : Addr) : Heap := h.push (SqPush t1 l1)
noncomputable abbrev zH2 (h : Heap) (t1 t2 : Bool) (l1 l2 : Addr) : Heap := (zH1 h t1 l1).push (SqPush t2 l2)
noncomputable abbrev zH3 (h : Heap) (t1 t2 : Bool) (l1 l2 : Addr) : Heap := (zH2 h t1 t2 l1 l2).push { cls := .type "tuple", data := .seq #[.ref h.objs.size, .ref (zH1 h t1 l1).objs.size] }
noncomputable abbrev zH4 (h : Heap) (t1 t2 : Bool) (l1 l2 : Addr) : Heap := (zH3 h t1 t2 l1 l2).push { cls := .type "tuple", data := .seq #[.none, .none] }
noncomputable abbrev zH5 (h : Heap) (t1 t2 : Bool) (l1 l2 : Addr) : Heap := (zH4 h t1 t2 l1 l2).push { cls := .type "zip", data := .fields #[.none, .bool false, .bool false, .ref (zH2 h t1 t2 l1 l2).objs.size, .ref (zH3 h t1 t2 l1 l2).objs.size] }

set_option maxRecDepth 100000 in
theorem meets_zip (t1 t2 : Bool) (l1 l2 : Addr) (xs ys : Array Value) :
    Meets (Builtin.«zip.__new__» ⟨[.type "zip", .ref l1, .ref l2], []⟩) (fun _ R s => Sq t1 s.heap l1 xs ∧ Sq t2 s.heap l2 ys ∧
      R (.ok (.ret (.ref (zH4 s.heap t1 t2 l1 l2).objs.size))) { s with heap := zH5 s.heap t1 t2 l1 l2 }) :=
  .of_wp fun prog w A R s h => by
    obtain ⟨hp, g, d, tk, os⟩ := s; obtain ⟨hl1, hl2, h⟩ := h
    have hsub := sub_zip
    have hL1 : Sq t1 (Shared.heap ⟨hp, g, d, tk, os⟩) l1 xs := hl1
    have hL2 : Sq t2 (Shared.heap ⟨hp.push (SqPush t1 l1), g, d, tk, os⟩) l2 ys := Sq.at hl2 fun o e => Heap.get?_push_of_some _ e
    wp_walk using Sq.iter hL1, Sq.iter hL2
    exact ⟨_, rfl, h⟩

theorem wp_pureB {v : Bool} {M : Model} {A : Around} {s : Shared} {E : Value → Shared → Prop} {Q : Bool → Shared → Prop} (h : ∀ b, Q b s) : wpAny M A (pure v : Sem Bool) Q E s := wpAny_pure (h v)
set_option maxRecDepth 100000 in
theorem meets_enumT (l : Addr) (items : Array Value) (n : Nat) (dct : Option Addr) (sl : Array (Option Value)) :
    Meets (Builtin.«enumerate.__new__» ⟨[.type "enumerate", .ref l], []⟩) (fun _ R s => s.heap.get? l = some { cls := .type "tuple", dict := dct, data := .seq items n, slots := sl } ∧
      R (.ok (.ret (.ref (s.heap.push (SqPush true l)).objs.size)))
        { s with heap := (s.heap.push (SqPush true l)).push { cls := .type "enumerate", data := .fields #[.none, .bool false, .ref s.heap.objs.size, rawInt 0, .none, .none] } }) :=
  .of_wp fun prog w A R s h => by
    obtain ⟨hp, g, d, tk, os⟩ := s; obtain ⟨hl, h⟩ := h
    have hsub := sub_enumerate
    have hL : Heap.IsTuple (Shared.heap ⟨hp, g, d, tk, os⟩) l items := ⟨_, hl, rfl, n, rfl⟩
    wp_walk using wpAny_loadPart' hl
    refine wpAny_stack_any fun st => wp_pureB fun b => ?_
    cases b <;> (wp_walk using wpAny_loadPart' hl, wpAny_pyIter_tuple hL; exact ⟨_, rfl, h⟩)
end
end Mine
namespace Mine
section
variable {C : Cx} {n : Nat} {env : Env} {σ σ' : List (Str × V)} {τ τ₁ τ₂ τ₃ : Option Nat} {wv : Str → Bool}

theorem It_walks {g : Heap} {I : Addr} {fp wr wr' : List Addr} {items : List V} {Pt : Nat → Array Value → Prop} {S : Nat → Heap → Prop} {Mid : Nat → Addr → Heap → Prop}
    (Wk : ∀ A, Room A n → WalksT C.prog C.w A I fp wr items.length Pt S Mid) (mp : ∀ i T h, Mid i T h → ∃ x y, IsPair h T x y) (hp : ∀ i vals, Pt i vals → ∃ xs, items[i]? = some (.tup xs) ∧ RpL C g vals.toList xs)
    (hw : ∀ b ∈ wr, b ∈ wr') (sub : ∀ b ∈ wr', b ∈ fp) (al : ∀ i h, S i h → ∀ b ∈ wr', ∃ o, h.get? b = some o) (alM : ∀ i T h, Mid i T h → ∀ b ∈ wr', ∃ o, h.get? b = some o) (ng : ∀ b ∈ wr', g.get? b = Option.none)
    (fr : ∀ i h h', S i h → (∀ b ∈ fp, ∀ o, h.get? b = some o → h'.get? b = some o) → S i h') :
    It C n g I fp wr' true items (fun i h => S i h ∧ Sub g h) where
  sub := sub
  alive := fun i h zz => and2 zz fun j _ => al i h j
  frame := fun i h h' zz k s => and2 zz fun j _ => ⟨fr i h h' j k, s⟩
  self := fun A R i s Q zz hq => and2 zz fun j _ => (Wk A R).self i s Q _ j hq
  item := fun A R i x s Q hx zz _ h => and2 zz fun j sg => by
    have hi : i < items.length := by
      rcases Nat.lt_or_ge i items.length with h | h
      · exact h
      · rw [List.getElem?_eq_none h] at hx; cases hx
    refine (Wk A R).item i s Q _ hi j fun T vals h' tk pt hT tT mid k => ?_
    obtain ⟨xs, e1, r⟩ := hp i vals pt
    rw [hx] at e1; cases e1
    have k' : ∀ b o, b ∉ wr' → s.heap.get? b = some o → h'.get? b = some o := fun b o nb e => k b o (fun q => nb (hw b q)) e
    have sg' : Sub g h' := fun b o e => k' b o (fun q => by rw [ng b q] at e; cases e) (sg b o e)
    refine h _ h' tk k' (alM i T h' mid) (.inr ⟨T, vals.toList, xs, rfl, rfl, ?_, r, ?_⟩) fun t Q' tk' ht hq => ?_
    · obtain ⟨o, e, c, m, d⟩ := tT
      obtain ⟨y1, y2, pp⟩ := mp i T h' mid
      cases (Option.some.inj (e.symm.trans pp))
      exact ⟨_, m, e, c, by simpa using d, rfl⟩
    · cases q : s.heap.get? T with
      | none => rfl
      | some o => exact absurd (Heap.lt_size q) (Nat.not_lt.mpr hT)
    · cases t <;> first | exact Bool.noConfusion ht | skip
      refine (Wk A R).go _ _ _ i T _ Q' _ mid fun h'' j'' k'' => ?_
      have k3 : ∀ b o, b ∉ wr' → h'.get? b = some o → h''.get? b = some o := fun b o nb e => k'' b o (fun q => nb (hw b q)) e
      exact hq h'' tk' ⟨j'', fun b o e => k3 b o (fun q => by rw [ng b q] at e; cases e) (sg' b o e)⟩ k3
  done := fun A R s Q zz _ h => and2 zz fun j sg => (Wk A R).done s Q _ j fun h' tk k => h h' tk fun b o nb e => k b o (fun q => nb (hw b q)) e

noncomputable def zipV (xs ys : List V) : List V := (xs.zip ys).map fun p => .tup [p.1, p.2]
noncomputable def enumV : Nat → List V → List V
  | _, [] => []
  | k, x :: r => .tup [.int k, x] :: enumV (k + 1) r
theorem enumV_length : ∀ (k : Nat) (xs : List V), (enumV k xs).length = xs.length
  | _, [] => rfl
  | k, x :: r => congrArg (· + 1) (enumV_length (k + 1) r)
theorem enumV_get : ∀ (k i : Nat) (xs : List V), (enumV k xs)[i]? = xs[i]?.map fun x => .tup [.int ((k + i : Nat) : Int), x]
  | _, _, [] => by simp [enumV]
  | k, 0, x :: r => rfl
  | k, i + 1, x :: r => by
    have := enumV_get (k + 1) i r
    rw [show k + 1 + i = k + (i + 1) by (exact Nat.add_right_comm _ _ _)] at this
    simpa [enumV] using this

theorem items_sq {h : Heap} {M : List Addr} {v : Value} {x : V} {xs : List V} (r : Rep C h M v x) (hx : (x = .lst xs) ∨ (x = .tup xs)) :
    ∃ tu a, ∃ vs : List Value, v = .ref a ∧ Sq tu (hid h M) a vs.toArray ∧ RpL C (hid h M) vs xs := by
  rcases hx with rfl | rfl
  · obtain ⟨a, vs, e, l, q⟩ := rep_lst r
    exact ⟨false, a, vs, e, l, q⟩
  · obtain ⟨a, vs, e, l, q⟩ := rep_tup r
    exact ⟨true, a, vs, e, l.isTuple, q⟩

theorem zap_nat (s l1 l2 : Nat) (b1 : l1 < s) (b2 : l2 < s) : ZAp (s + 4) (s + 2) (s + 3) s (s + 1) [s, l1] [s + 1, l2] where
  ne := by
    have h : ([s + 4, s + 2, s + 3, s, s + 1] : List Nat).Nodup := by simp
    exact h
  z1 := by have h : s + 4 ∉ ([s, l1] : List Nat) := by (simp; lia)
           exact h
  z2 := by have h : s + 4 ∉ ([s + 1, l2] : List Nat) := by (simp; lia)
           exact h
  t1 := by have h : s + 3 ∉ ([s, l1] : List Nat) := by (simp; lia)
           exact h
  t2 := by have h : s + 3 ∉ ([s + 1, l2] : List Nat) := by (simp; lia)
           exact h
  i12 := by have h : s ∉ ([s + 1, l2] : List Nat) := by (simp; (exact Nat.ne_of_gt (by assumption)))
            exact h
  i21 := by have h : s + 1 ∉ ([s, l1] : List Nat) := by (simp; lia)
            exact h
  m1 := by simp
  m2 := by simp

theorem IterE_zip {f p pos e1 e2} {x y : V} {xs ys : List V} (g : BuiltAt C f (.type "zip")) (h : EvL C n [e1, e2] env σ τ [x, y] τ₁) (hx : (x = .lst xs) ∨ (x = .tup xs)) (hy : (y = .lst ys) ∨ (y = .tup ys)) (hxy : xs.length = ys.length)
    (kf : env.kindOf f = some .globalImplicit)
    (hst : (starEach [e1, e2] env).any (·.1) = false := by rfl) (he : starEach [e1, e2] env = (false, eval e1 env) :: starEach [e2] env := by rfl) (hd : (f == ("__debug__" : Str)) = false := by decide) : IterE C n (.Call (.Name f p) [e1, e2] [] pos) env σ τ true (zipV xs ys) τ₁ := fun A R M s S => by
  show wpAny _ _ (do callWith pos (← eval (.Name f p) env) [] (backTo pos (starEach [e1, e2] env)) []) _ _ _
  refine wpAny_bind (wp_built S g kf hd ?_)
  refine callWith_type (by rw [backTo_any]; exact hst) (evalArgs_ev h he R S fun vs s' S' r' k' => ?_)
  obtain ⟨v1, v2, rfl, r1, r2⟩ := repL_two r'
  obtain ⟨t1, l1, vs1, rfl, q1, p1⟩ := items_sq r1 hx
  obtain ⟨t2, l2, vs2, rfl, q2, p2⟩ := items_sq r2 hy
  have q1' : Sq t1 s'.heap l1 vs1.toArray := q1.at fun o e => hid_sub _ _ _ _ e
  have q2' : Sq t2 s'.heap l2 vs2.toArray := q2.at fun o e => hid_sub _ _ _ _ e
  refine callType_new F.called_zip (by decide) (F.typeCall_zip_2 _ _) (F.newCall_zip_2 _ _) (fun obj => F.args_object_init_3 obj _ _) F.entry_zip_new (meets_zip t1 t2 l1 l2 _ _) ⟨q1', q2', ?_⟩
  have z1 : (zH1 s'.heap t1 l1).objs.size = s'.heap.objs.size + 1 := Heap.size_push ..
  have z2 : (zH2 s'.heap t1 t2 l1 l2).objs.size = s'.heap.objs.size + 2 := by rw [Heap.size_push, z1]
  have z3 : (zH3 s'.heap t1 t2 l1 l2).objs.size = s'.heap.objs.size + 3 := by rw [Heap.size_push, z2]
  have z4 : (zH4 s'.heap t1 t2 l1 l2).objs.size = s'.heap.objs.size + 4 := by rw [Heap.size_push, z3]
  have up : Sub s'.heap (zH5 s'.heap t1 t2 l1 l2) := fun b o e => Heap.get?_push_of_some _ (Heap.get?_push_of_some _ (Heap.get?_push_of_some _ (Heap.get?_push_of_some _ (Heap.get?_push_of_some _ e))))
  have g5 : (zH5 s'.heap t1 t2 l1 l2).get? (zH4 s'.heap t1 t2 l1 l2).objs.size = some _ := Heap.get?_push_size _ rfl
  have g4 : (zH5 s'.heap t1 t2 l1 l2).get? (zH3 s'.heap t1 t2 l1 l2).objs.size = some _ := Heap.get?_push_of_some _ (Heap.get?_push_size _ rfl)
  have g3 : (zH5 s'.heap t1 t2 l1 l2).get? (zH2 s'.heap t1 t2 l1 l2).objs.size = some _ := Heap.get?_push_of_some _ (Heap.get?_push_of_some _ (Heap.get?_push_size _ rfl))
  have g2 : SqI t2 (zH5 s'.heap t1 t2 l1 l2) (zH1 s'.heap t1 l1).objs.size l2 0 := Sq.pushed.at fun o e => Heap.get?_push_of_some _ (Heap.get?_push_of_some _ (Heap.get?_push_of_some _ e))
  have g1 : SqI t1 (zH5 s'.heap t1 t2 l1 l2) s'.heap.objs.size l1 0 := Sq.pushed.at fun o e => Heap.get?_push_of_some _ (Heap.get?_push_of_some _ (Heap.get?_push_of_some _ (Heap.get?_push_of_some _ e)))
  rw [z2, z3, z4] at g5
  rw [z1, z2] at g3
  rw [z3] at g4
  rw [z1] at g2
  show _ ∧ _
  rw [z4]
  generalize zH5 s'.heap t1 t2 l1 l2 = H at g1 g2 g3 g4 g5 up
  have nn : ∀ k, s'.heap.get? (s'.heap.objs.size + k) = Option.none := fun k => by
    cases q : s'.heap.get? (s'.heap.objs.size + k) with
    | none => rfl
    | some o => exact absurd (Heap.lt_size q) (Nat.not_lt.mpr (Nat.le_add_right _ _))
  have hn : ∀ k, (hid s'.heap M).get? (s'.heap.objs.size + k) = Option.none := fun k => by
    cases q : (hid s'.heap M).get? (s'.heap.objs.size + k) with
    | none => rfl
    | some o => have := hid_sub _ _ _ _ q; rw [nn k] at this; cases this
  obtain ⟨o1, eo1⟩ := q1'.ex
  obtain ⟨o2, eo2⟩ := q2'.ex
  have b1 := Heap.lt_size eo1
  have b2 := Heap.lt_size eo2
  have len : (zipV xs ys).length = xs.length := by simp [zipV, hxy]
  have D : ZAp (s'.heap.objs.size + 4) (s'.heap.objs.size + 2) (s'.heap.objs.size + 3) s'.heap.objs.size (s'.heap.objs.size + 1) [s'.heap.objs.size, l1] [s'.heap.objs.size + 1, l2] := zap_nat _ _ _ b1 b2
  have wk : ∀ A, Room A n → WalksT C.prog C.w A (s'.heap.objs.size + 4) _ _ (zipV xs ys).length _ _ _ := fun A R => by
    have d1 := Draws_sq (prog := C.prog) (w := C.w) (A := A.in1) t1 (show A.in1.handled = none from R.hd) s'.heap.objs.size l1 (Nat.ne_of_lt b1) vs1.toArray
    have d2 := Draws_sq (prog := C.prog) (w := C.w) (A := A.in1) t2 (show A.in1.handled = none from R.hd) (s'.heap.objs.size + 1) l2 (Nat.ne_of_lt (Nat.lt_succ_of_lt b2)) vs2.toArray
    rw [show vs1.toArray.size = (zipV xs ys).length by rw [len]; simp [p1.length]] at d1
    rw [show vs2.toArray.size = (zipV xs ys).length by rw [len, hxy]; simp [p2.length]] at d2
    exact WalksT_zip D d1 d2
  refine ⟨⟨_, g5, rfl⟩, s', S', k', ⟨H, s'.toks, rfl, up⟩, ?_⟩
  refine wpAny_pyIter_zip g5 ?_
  refine ⟨_, _, [s'.heap.objs.size + 4, s'.heap.objs.size + 2, s'.heap.objs.size + 3, s'.heap.objs.size, s'.heap.objs.size + 1], _, rfl, It_walks (wr' := [s'.heap.objs.size + 4, s'.heap.objs.size + 2, s'.heap.objs.size + 3, s'.heap.objs.size, s'.heap.objs.size + 1]) wk (fun i T h m => m.2.2.2.2.2.2.2) ?_ ?_ ?_ ?_ ?_ ?_ ?_, ⟨⟨⟨g5, g3, _, _, g4⟩, ⟨⟨g1, q1'.at fun o e => up _ _ e⟩, g2, q2'.at fun o e => up _ _ e⟩, ?_⟩, fun b o e => up _ _ (hid_sub _ _ _ _ e)⟩, ⟨H, s'.toks, rfl, up⟩, ?_, ?_⟩
  · rintro i vals ⟨x', y', ex, ey, rfl⟩
    have ex' : vs1[i]? = some x' := by simpa using ex
    have ey' : vs2[i]? = some y' := by simpa using ey
    have i1 : i < xs.length := by rw [← p1.length]; exact (List.getElem?_eq_some_iff.mp ex').1
    obtain ⟨u1, f1, w1⟩ := p1.get (List.getElem?_eq_getElem i1)
    obtain ⟨u2, f2, w2⟩ := p2.get (List.getElem?_eq_getElem (hxy ▸ i1 : i < ys.length))
    rw [ex'] at f1; cases f1
    rw [ey'] at f2; cases f2
    refine ⟨[xs[i], ys[i]'(hxy ▸ i1)], ?_, .cons w1 (.cons w2 .nil)⟩
    unfold zipV
    rw [List.getElem?_map, List.getElem?_zip_eq_some (z := (xs[i], ys[i]'(hxy ▸ i1))) |>.mpr ⟨List.getElem?_eq_getElem i1, List.getElem?_eq_getElem (hxy ▸ i1 : i < ys.length)⟩]
    rfl
  · intro b hb
    simp only [List.mem_cons, List.not_mem_nil, or_false] at hb ⊢
    rcases hb with h | h | h | h <;> simp [h]
  · intro b hb
    simp only [List.mem_cons, List.mem_append, List.not_mem_nil, or_false] at hb ⊢
    rcases hb with h | h | h | h | h <;> simp [h]
  · rintro i h ⟨⟨c1, c2, _, _, c3⟩, ⟨⟨c4, _⟩, c5, _⟩, _⟩ b hb
    simp at hb
    rcases hb with rfl | rfl | rfl | rfl | rfl
    · exact ⟨_, c1⟩
    · exact ⟨_, c2⟩
    · exact ⟨_, c3⟩
    · exact c4.ex
    · exact c5.ex
  · rintro i T h ⟨⟨c1, c2, _, _, c3⟩, ⟨⟨c4, _⟩, c5, _⟩, _⟩ b hb
    simp at hb
    rcases hb with rfl | rfl | rfl | rfl | rfl
    · exact ⟨_, c1⟩
    · exact ⟨_, c2⟩
    · exact ⟨_, c3⟩
    · exact c4.ex
    · exact c5.ex
  · intro b hb; simp at hb
    rcases hb with rfl | rfl | rfl | rfl | rfl
    · exact hn _
    · exact hn _
    · exact hn _
    · exact hn 0
    · exact hn _
  · exact (wk A R).frame
  · have h1 : s'.heap.objs.size + 2 ∉ ([s'.heap.objs.size, l1] : List Nat) := by
      have b1' : (l1 : Nat) < s'.heap.objs.size := b1
      simp only [List.mem_cons, List.not_mem_nil, or_false]
      intro q
      rcases q with q | q
      · lia
      · exact absurd (show (l1 : Nat) < s'.heap.objs.size from b1) (by rw [← q]; exact Nat.not_lt.mpr (Nat.le_add_right _ _))
    have h2 : s'.heap.objs.size + 2 ∉ ([s'.heap.objs.size + 1, l2] : List Nat) := by
      simp only [List.mem_cons, List.not_mem_nil, or_false]
      intro q
      rcases q with q | q
      · lia
      · exact absurd (show (l2 : Nat) < s'.heap.objs.size from b2) (by rw [← q]; exact Nat.not_lt.mpr (Nat.le_add_right _ _))
    exact ⟨h1, h2⟩
  · intro b hb; simp at hb
    rcases hb with rfl | rfl | rfl | rfl | rfl
    · exact nn _
    · exact nn _
    · exact nn _
    · exact nn 0
    · exact nn _
  · intro b hb
    simp only [List.mem_cons, List.mem_append, List.not_mem_nil, or_false] at hb
    rcases hb with (rfl | rfl | rfl) | (rfl | rfl) | (rfl | rfl)
    · exact .inl (by simp)
    · exact .inl (by simp)
    · exact .inl (by simp)
    · exact .inl (by simp)
    · exact .inr q1.ex
    · exact .inl (by simp)
    · exact .inr q2.ex
end
end Mine
namespace Mine
theorem call_enum {prog : Program} {w : World} {A : Around} {E : Value → Shared → Prop} {s : Shared} {tu : Bool} {l : Addr} {items : Array Value} {Q : Value → Shared → Prop} (hL : Sq tu s.heap l items)
    (h : ∀ h', IsEnum h' (s.heap.objs.size + 1) s.heap.objs.size 0 .none → SqI tu h' s.heap.objs.size l 0 →
      (∀ b o, s.heap.get? b = some o → h'.get? b = some o) → Q (.ref (s.heap.objs.size + 1)) { s with heap := h' }) :
    wpAny (model prog w) A (call (.type "enumerate") [.ref l]) Q E s := by
  cases tu
  · exact call_enumerate_list hL fun h' a b _ d => h h' a b d
  obtain ⟨⟨c, dct, dt, sl⟩, hl, hc, n, hd⟩ := hL
  replace hc : c = .type "tuple" := hc
  replace hd : dt = .seq items n := hd
  subst hc hd
  refine callType_new F.called_enumerate (by decide) (F.typeCall_enumerate_1 _) (F.newCall_enumerate_1 _) (fun obj => F.args_object_init_2 obj _) F.entry_enumerate_new
    (meets_enumT l items n dct sl) ⟨hl, ?_⟩
  have hz : (s.heap.push (SqPush true l)).objs.size = s.heap.objs.size + 1 := Heap.size_push ..
  show _ ∧ _
  rw [hz]
  have he : IsEnum ((s.heap.push (SqPush true l)).push { cls := .type "enumerate", data := .fields #[.none, .bool false, .ref s.heap.objs.size, rawInt 0, .none, .none] }) (s.heap.objs.size + 1) s.heap.objs.size 0 .none := by
    have := Heap.get?_push_size (s.heap.push (SqPush true l)) (o := { cls := .type "enumerate", data := .fields #[.none, .bool false, .ref s.heap.objs.size, rawInt 0, .none, .none] }) rfl
    rw [hz] at this; exact this
  refine ⟨⟨_, he, rfl⟩, h _ he ?_ fun b o x => Heap.get?_push_of_some _ (Heap.get?_push_of_some _ x)⟩
  exact (Sq.pushed (tu := true)).at fun o e => Heap.get?_push_of_some _ e

theorem WalksT_enum {prog : Program} {w : World} {A : Around} {it : Addr} {fp : List Addr} {n : Nat} {P : Nat → Value → Prop} {St : Nat → Heap → Prop} (D : Draws prog w A.in1 it fp n P St) (e : Addr) (hei : e ≠ it) (hef : e ∉ fp) (hif : it ∈ fp) :
    WalksT prog w A e (e :: fp) [e, it] n (fun i vals => ∃ t x, P i x ∧ vals = #[.int i t, x]) (fun i h => (∃ old, IsEnum h e it i old) ∧ St i h)
      (fun i T h => ((∃ x, IsEnumOut h e it ((i : Int) + 1) x T) ∧ St (i + 1) h ∧ T ≠ e ∧ T ≠ it) ∧ ∃ x y, IsPair h T x y) :=
  have W := WalksT.enumerateD D e hei hef hif
  { sub := W.sub, frame := W.frame, done := W.done, self := W.self
    go := fun elts k pos i T s Q E hm hQ => W.go elts k pos i T s Q E hm.1 hQ
    apart := fun i T h hm => W.apart i T h hm.1
    item := fun i s Q E hi hst hQ => by
      obtain ⟨⟨old, he⟩, hs⟩ := hst
      obtain ⟨_, y⟩ := D.live _ _ hs
      refine wpAny_pyNext_enum_itemD D he hs hi hei hef fun x h' tk hP ho hs' hT _ hk => ?_
      exact hQ _ _ h' (tk + 1) ⟨tk, x, hP, rfl⟩ (Nat.le_refl _) ⟨_, hT, rfl, _, rfl⟩ ⟨⟨⟨_, ho⟩, hs', Nat.ne_of_gt (Heap.lt_size he), Nat.ne_of_gt (Heap.lt_size y)⟩, _, _, hT⟩
        fun b o hb z => hk b o (fun q => hb (by simp [q])) (fun q => hb (by simp [q])) z }

section
variable {C : Cx} {n : Nat} {env : Env} {σ σ' : List (Str × V)} {τ τ₁ τ₂ τ₃ : Option Nat} {wv : Str → Bool}
theorem IterE_enum {f p pos e} {x : V} {xs : List V} (g : BuiltAt C f (.type "enumerate")) (h : Ev C n e env σ τ x τ₁) (hx : (x = .lst xs) ∨ (x = .tup xs))
    (kf : env.kindOf f = some .globalImplicit)
    (hst : (starEach [e] env).any (·.1) = false := by rfl) (he : starEach [e] env = (false, eval e env) :: starEach [] env := by rfl) (hd : (f == ("__debug__" : Str)) = false := by decide) : IterE C n (.Call (.Name f p) [e] [] pos) env σ τ true (enumV 0 xs) τ₁ := fun A R M s S => by
  show wpAny _ _ (do callWith pos (← eval (.Name f p) env) [] (backTo pos (starEach [e] env)) []) _ _ _
  refine wpAny_bind (wp_built S g kf hd ?_)
  refine callWith_type (by rw [backTo_any]; exact hst) (evalArgs_ev (EvL_cons h EvL_nil he) he R S fun vs s' S' r' k' => ?_)
  obtain ⟨v1, rfl, r1⟩ := repL_one r'
  obtain ⟨t1, l1, vs1, rfl, q1, p1⟩ := items_sq r1 hx
  have q1' : Sq t1 s'.heap l1 vs1.toArray := q1.at fun o e => hid_sub _ _ _ _ e
  obtain ⟨o1, eo1⟩ := q1'.ex
  have b1 := Heap.lt_size eo1
  refine call_enum q1' fun H g1 g2 up => ?_
  have nn : ∀ k, s'.heap.get? (s'.heap.objs.size + k) = Option.none := fun k => by
    cases q : s'.heap.get? (s'.heap.objs.size + k) with
    | none => rfl
    | some o => exact absurd (Heap.lt_size q) (Nat.not_lt.mpr (Nat.le_add_right _ _))
  have hn : ∀ k, (hid s'.heap M).get? (s'.heap.objs.size + k) = Option.none := fun k => by
    cases q : (hid s'.heap M).get? (s'.heap.objs.size + k) with
    | none => rfl
    | some o => have := hid_sub _ _ _ _ q; rw [nn k] at this; cases this
  have hei : s'.heap.objs.size + 1 ≠ s'.heap.objs.size := Nat.succ_ne_self _
  have wk : ∀ A, Room A n → WalksT C.prog C.w A (s'.heap.objs.size + 1) _ _ (enumV 0 xs).length _ _ _ := fun A R => by
    have d1 := Draws_sq (prog := C.prog) (w := C.w) (A := A.in1) t1 (show A.in1.handled = none from R.hd) s'.heap.objs.size l1 (Nat.ne_of_lt b1) vs1.toArray
    rw [show vs1.toArray.size = (enumV 0 xs).length by rw [enumV_length]; simp [p1.length]] at d1
    refine WalksT_enum d1 (s'.heap.objs.size + 1) hei ?_ (by simp)
    simp only [List.mem_cons, List.not_mem_nil, or_false, not_or]
    exact ⟨hei, Nat.ne_of_gt (Nat.lt_succ_of_lt b1)⟩
  refine ⟨s', S', k', ⟨H, s'.toks, rfl, up⟩, ?_⟩
  refine wpAny_pyIter_enum g1 ?_
  refine ⟨_, _, [s'.heap.objs.size + 1, s'.heap.objs.size], _, rfl, It_walks (wr' := [s'.heap.objs.size + 1, s'.heap.objs.size]) wk (fun i T h m => m.2) ?_ ?_ ?_ ?_ ?_ ?_ ?_, ⟨⟨⟨_, g1⟩, ⟨g2, q1'.at fun o e => up _ _ e⟩⟩, fun b o e => up _ _ (hid_sub _ _ _ _ e)⟩, ⟨H, s'.toks, rfl, up⟩, ?_, ?_⟩
  · rintro i vals ⟨t, x', ex, rfl⟩
    have ex' : vs1[i]? = some x' := by simpa using ex
    have i1 : i < xs.length := by rw [← p1.length]; exact (List.getElem?_eq_some_iff.mp ex').1
    obtain ⟨u1, f1, w1⟩ := p1.get (List.getElem?_eq_getElem i1)
    rw [ex'] at f1; cases f1
    refine ⟨[.int i, xs[i]], ?_, .cons (.int _ _) (.cons w1 .nil)⟩
    rw [enumV_get, List.getElem?_eq_getElem i1, Nat.zero_add]
    rfl
  · intro b hb; exact hb
  · intro b hb
    simp only [List.mem_cons, List.not_mem_nil, or_false] at hb ⊢
    rcases hb with h | h <;> simp [h]
  · rintro i h ⟨⟨_, c1⟩, c4, _⟩ b hb
    simp only [List.mem_cons, List.not_mem_nil, or_false] at hb
    rcases hb with rfl | rfl
    · exact ⟨_, c1⟩
    · exact c4.ex
  · rintro i T h ⟨⟨⟨_, c1⟩, ⟨c4, _⟩, _⟩, _⟩ b hb
    simp only [List.mem_cons, List.not_mem_nil, or_false] at hb
    rcases hb with rfl | rfl
    · exact ⟨_, c1⟩
    · exact c4.ex
  · intro b hb
    simp only [List.mem_cons, List.not_mem_nil, or_false] at hb
    rcases hb with rfl | rfl
    · exact hn _
    · exact hn 0
  · exact (wk A R).frame
  · intro b hb
    simp only [List.mem_cons, List.not_mem_nil, or_false] at hb
    rcases hb with rfl | rfl
    · exact nn _
    · exact nn 0
  · intro b hb
    simp only [List.mem_cons, List.not_mem_nil, or_false] at hb
    rcases hb with rfl | rfl | rfl
    · exact .inl (by simp)
    · exact .inl (by simp)
    · exact .inr q1.ex
end
end Mine
namespace Mine

noncomputable def gp (p : Array Nat) (k : Nat) : Nat := p.getD k 0
theorem gp_of {p q : Array Nat} {i j : Nat} (h : p[i]? = q[j]?) : gp p i = gp q j := by
  unfold gp; rw [Array.getD_eq_getD_getElem?, Array.getD_eq_getD_getElem?, h]
theorem gp_rev {p : Array Nat} {i j : Nat} (hj : j ≤ p.size) (k : Nat) : gp (kas_rev p i j) k = if i ≤ k ∧ k < j then gp p (i + j - 1 - k) else gp p k := by
  have e := getElem?_mirror_all (xs := p) (i := i) hj k
  split
  · rename_i h; rw [if_pos h] at e; exact gp_of e
  · rename_i h; rw [if_neg h] at e; exact gp_of e
theorem gp_bubble {p : Array Nat} {k l : Nat} (hk : k < p.size) (hl : l ≤ k) (i : Nat) : gp (bubble p k (k - l)) i = if i = l then gp p k else if l < i ∧ i ≤ k then gp p (i - 1) else gp p i := by
  have e := getElem?_bubble hk (k - l) (Nat.sub_le ..) i
  rw [show k - (k - l) = l by lia] at e
  by_cases h1 : i = l
  · rw [if_pos h1] at e ⊢; exact gp_of e
  · rw [if_neg h1] at e ⊢
    by_cases h2 : l < i ∧ i ≤ k
    · rw [if_pos h2] at e ⊢; exact gp_of e
    · rw [if_neg h2] at e ⊢; exact gp_of e

structure Ord (lt : Nat → Nat → Bool) : Prop where
  tot : ∀ i j, lt i j = true → lt j i = false
  tr : ∀ i j k, lt j i = false → lt k j = false → lt k i = false
section
variable {lt : Nat → Nat → Bool} {n : Nat} {cmp : Nat → Nat → (Bool → Shared → Prop) → Shared → Prop} {s : Shared}
noncomputable def Le (lt : Nat → Nat → Bool) (i j : Nat) : Prop := lt j i = false
theorem Ord.rfl' (o : Ord lt) (i : Nat) : Le lt i i := by
  unfold Le
  cases h : lt i i with
  | false => rfl
  | true => have := o.tot i i h; rw [h] at this; cases this
theorem Ord.trans (o : Ord lt) {i j k : Nat} (a : Le lt i j) (b : Le lt j k) : Le lt i k := o.tr i j k a b
noncomputable def NonDec (lt : Nat → Nat → Bool) (p : Array Nat) (m : Nat) : Prop := ∀ i j, i ≤ j → j < m → Le lt (gp p i) (gp p j)
noncomputable def NonInc (lt : Nat → Nat → Bool) (p : Array Nat) (m : Nat) : Prop := ∀ i j, i ≤ j → j < m → Le lt (gp p j) (gp p i)
theorem NonDec.more (o : Ord lt) {p : Array Nat} {m : Nat} (h : NonDec lt p m) (h1 : 1 ≤ m) (e : Le lt (gp p (m - 1)) (gp p m)) : NonDec lt p (m + 1) := fun i j hij hj => by
  by_cases q : j < m
  · exact h i j hij q
  · have : j = m := by lia
    subst this
    by_cases q2 : i = j
    · subst q2; exact o.rfl' _
    · exact o.trans (h i (j - 1) (by lia) (by lia)) e
theorem NonInc.more (o : Ord lt) {p : Array Nat} {m : Nat} (h : NonInc lt p m) (h1 : 1 ≤ m) (e : Le lt (gp p m) (gp p (m - 1))) : NonInc lt p (m + 1) := fun i j hij hj => by
  by_cases q : j < m
  · exact h i j hij q
  · have : j = m := by lia
    subst this
    by_cases q2 : i = j
    · subst q2; exact o.rfl' _
    · exact o.trans e (h i (j - 1) (by lia) (by lia))

noncomputable def Pm (n : Nat) (p : Array Nat) : Prop := p.Perm (List.range n).toArray
theorem Pm.size {p : Array Nat} (h : Pm n p) : p.size = n := by have := Array.Perm.size_eq h; simpa using this
theorem Pm.rev {p : Array Nat} (h : Pm n p) (i j : Nat) : Pm n (kas_rev p i j) := Array.Perm.trans (mirror_perm ..) h
theorem Pm.bub {p : Array Nat} (h : Pm n p) (i j : Nat) : Pm n (bubble p i j) := Array.Perm.trans (bubble_perm ..) h
theorem Pm.bnd {p : Array Nat} (h : Pm n p) (n0 : 0 < n) (k : Nat) : gp p k < n := by
  unfold gp
  by_cases hk : k < p.size
  · have e : p.getD k 0 = p[k] := by simp [Array.getD, hk]
    rw [e]
    have hm : p[k] ∈ p.toList := by simp
    have := (Array.perm_iff_toList_perm.mp h).mem_iff.mp hm
    simpa using this
  · have e : p.getD k 0 = 0 := by simp [Array.getD, hk]
    rw [e]; exact n0

noncomputable def CmpOk (n : Nat) (lt : Nat → Nat → Bool) (cmp : Nat → Nat → (Bool → Shared → Prop) → Shared → Prop) (s : Shared) : Prop := ∀ i j C, i < n → j < n → C (lt i j) s → cmp i j C s

theorem asc_ok (o : Ord lt) (hc : CmpOk n lt cmp s) {p : Array Nat} (hp : Pm n p) {Q : Nat → Shared → Prop} : ∀ (f m : Nat), m + f ≤ n → 1 ≤ m → NonDec lt p m →
    (∀ m', m ≤ m' → m' ≤ m + f → NonDec lt p m' → (m' < m + f → lt (gp p m') (gp p (m' - 1)) = true) → Q m' s) → (kas_asc p f m).kasWp cmp Q s
  | 0, m, hm, h1, nd, h => h m (Nat.le_refl _) (Nat.le_refl _) nd fun q => absurd q (Nat.lt_irrefl _)
  | f + 1, m, hm, h1, nd, h => by
    show cmp (gp p m) (gp p (m - 1)) (fun b s' => (if b = true then KasT.ret m else kas_asc p f (m + 1)).kasWp cmp Q s') s
    refine hc _ _ _ (hp.bnd (by lia) _) (hp.bnd (by lia) _) ?_
    cases e : lt (gp p m) (gp p (m - 1)) with
    | true => rw [if_pos rfl]; exact h m (Nat.le_refl _) (by (exact Nat.le_add_right _ _)) nd fun _ => e
    | false =>
      rw [if_neg (by simp)]
      exact asc_ok o hc hp f (m + 1) (by lia) (by (exact Nat.le_add_left _ _)) (nd.more o h1 e) fun m' a b c d => h m' (by (exact Nat.le_of_lt (by assumption))) (by lia) c fun q => d (by lia)

noncomputable def Grp (lt : Nat → Nat → Bool) (p : Array Nat) (a m : Nat) : Prop := ∀ i j, a ≤ i → i < m → a ≤ j → j < m → Le lt (gp p i) (gp p j)
theorem rev_same (o : Ord lt) {p : Array Nat} {a m : Nat} (hm : m ≤ p.size) (g : Grp lt p a m) (k : Nat) : Le lt (gp p k) (gp (kas_rev p a m) k) ∧ Le lt (gp (kas_rev p a m) k) (gp p k) := by
  rw [gp_rev hm]
  split
  · rename_i h; exact ⟨g _ _ (by lia) (by lia) (by lia) (by lia), g _ _ (by lia) (by lia) (by lia) (by lia)⟩
  · exact ⟨o.rfl' _, o.rfl' _⟩
theorem NonInc.same (o : Ord lt) {p q : Array Nat} {m : Nat} (h : NonInc lt p m) (e : ∀ k, Le lt (gp p k) (gp q k) ∧ Le lt (gp q k) (gp p k)) : NonInc lt q m := fun i j hij hj => o.trans (e j).2 (o.trans (h i j hij hj) (e i).1)

theorem desc_ok (o : Ord lt) (hc : CmpOk n lt cmp s) {Q : Array Nat × Nat × Nat → Shared → Prop} : ∀ (f : Nat) (p : Array Nat) (m q : Nat), Pm n p → m + f ≤ n → 1 ≤ m → q + 1 ≤ m → NonInc lt p m → Grp lt p (m - (q + 1)) m →
    (∀ p' m' q', Pm n p' → 1 ≤ m' → m' ≤ m + f → q' + 1 ≤ m' → NonInc lt p' m' → Grp lt p' (m' - (q' + 1)) m' → Q (p', m', q') s) → (kas_desc f p m q).kasWp cmp Q s
  | 0, p, m, q, hp, hm, h1, hq, ni, g, h => h p m q hp h1 (Nat.le_refl _) hq ni g
  | f + 1, p, m, q, hp, hm, h1, hq, ni, g, h => by
    show cmp (gp p m) (gp p (m - 1)) (fun c s' => (if c = true then (if q > 0 then kas_desc f (kas_rev p (m - (q + 1)) m) (m + 1) 0 else kas_desc f p (m + 1) 0)
      else .ask (gp p (m - 1)) (gp p m) fun d => if d = true then .ret (p, m, q) else kas_desc f p (m + 1) (q + 1)).kasWp cmp Q s') s
    refine hc _ _ _ (hp.bnd (by lia) _) (hp.bnd (by lia) _) ?_
    cases e : lt (gp p m) (gp p (m - 1)) with
    | true =>
      rw [if_pos rfl]
      have le1 : Le lt (gp p m) (gp p (m - 1)) := o.tot _ _ e
      by_cases hq0 : q > 0
      · rw [if_pos hq0]
        have same := rev_same o (by rw [hp.size]; lia) g
        have ni' : NonInc lt (kas_rev p (m - (q + 1)) m) (m + 1) := (ni.more o h1 le1).same o same
        refine desc_ok o hc f _ (m + 1) 0 (hp.rev _ _) (by lia) (by (exact Nat.le_add_left _ _)) (by (exact Nat.le_add_left _ _)) ni' (fun i j a b c d => ?_) fun p' m' q' a b c d => h p' m' q' a b (by lia) d
        have : i = j := by lia
        subst this; exact o.rfl' _
      · rw [if_neg hq0]
        refine desc_ok o hc f _ (m + 1) 0 hp (by lia) (by (exact Nat.le_add_left _ _)) (by (exact Nat.le_add_left _ _)) (ni.more o h1 le1) (fun i j a b c d => ?_) fun p' m' q' a b c d => h p' m' q' a b (by lia) d
        have : i = j := by lia
        subst this; exact o.rfl' _
    | false =>
      rw [if_neg (by simp)]
      show cmp (gp p (m - 1)) (gp p m) (fun d s' => (if d = true then KasT.ret (p, m, q) else kas_desc f p (m + 1) (q + 1)).kasWp cmp Q s') s
      refine hc _ _ _ (hp.bnd (by lia) _) (hp.bnd (by lia) _) ?_
      cases e2 : lt (gp p (m - 1)) (gp p m) with
      | true => rw [if_pos rfl]; exact h p m q hp h1 (by (exact Nat.le_add_right _ _)) hq ni g
      | false =>
        rw [if_neg (by simp)]
        have l1 : Le lt (gp p (m - 1)) (gp p m) := e
        have l2 : Le lt (gp p m) (gp p (m - 1)) := e2
        refine desc_ok o hc f p (m + 1) (q + 1) hp (by lia) (by (exact Nat.le_add_left _ _)) (by (exact Nat.lt_succ_of_le (by assumption))) (ni.more o h1 l2) (fun i j a b c d => ?_) fun p' m' q' a b c d => h p' m' q' a b (by lia) d
        have toM : ∀ i, m + 1 - (q + 1 + 1) ≤ i → i < m + 1 → Le lt (gp p i) (gp p m) ∧ Le lt (gp p m) (gp p i) := fun i a b => by
          by_cases z : i = m
          · subst z; exact ⟨o.rfl' _, o.rfl' _⟩
          · exact ⟨o.trans (g i (m - 1) (by lia) (by lia) (by lia) (by lia)) l1, o.trans l2 (g (m - 1) i (by lia) (by lia) (by lia) (by lia))⟩
        exact o.trans (toM i a b).1 (toM j c d).2

theorem tail3_ok (o : Ord lt) (hc : CmpOk n lt cmp s) {p : Array Nat} {m : Nat} {Q : Nat × Array Nat → Shared → Prop} (hp : Pm n p) (h1 : 1 ≤ m) (hm : m ≤ n) (ni : NonInc lt p m)
    (h : ∀ p' m', Pm n p' → m ≤ m' → m' ≤ n → NonDec lt p' m' → Q (m', p') s) : (kas_tail3 m n p).kasWp cmp Q s := by
  have nd : NonDec lt (kas_rev p 0 m) m := fun i j hij hj => by
    rw [gp_rev (by rw [hp.size]; exact hm), gp_rev (by rw [hp.size]; exact hm), if_pos ⟨by (exact Nat.le_add_left _ _), by (exact Nat.lt_of_le_of_lt (by assumption) (by assumption))⟩, if_pos ⟨by (exact Nat.le_add_left _ _), by assumption⟩]
    exact ni _ _ (by lia) (by lia)
  unfold kas_tail3
  rw [KasT.kasWp_bind]
  exact asc_ok o hc (hp.rev _ _) (n - m) m (by lia) h1 nd fun m' a b c _ => h _ m' (hp.rev _ _) a (by lia) c

theorem descPart_ok (o : Ord lt) (hc : CmpOk n lt cmp s) {p : Array Nat} {m : Nat} {Q : Nat × Array Nat → Shared → Prop} (hp : Pm n p) (h1 : 1 ≤ m) (hm : m + 1 ≤ n) (ni : NonInc lt p (m + 1))
    (h : ∀ p' m', Pm n p' → 1 ≤ m' → m' ≤ n → NonDec lt p' m' → Q (m', p') s) : (kas_descPart m n p).kasWp cmp Q s := by
  unfold kas_descPart
  rw [KasT.kasWp_bind]
  refine desc_ok o hc (n - (m + 1)) p (m + 1) 0 hp (by lia) (by (exact Nat.le_add_left _ _)) (by (exact Nat.le_add_left _ _)) ni (fun i j a b c d => ?_) fun p' m' q' hp' a b c d g => ?_
  · have : i = j := by lia
    subst this; exact o.rfl' _
  · dsimp only
    split
    · exact tail3_ok o hc (hp'.rev _ _) a (by lia) (d.same o (rev_same o (by rw [hp'.size]; lia) g)) fun p'' m'' x y z w => h p'' m'' x (by lia) z w
    · exact tail3_ok o hc hp' a (by lia) d fun p'' m'' x y z w => h p'' m'' x (by (exact Nat.le_trans (by assumption) (by assumption))) z w

theorem count_ok (o : Ord lt) (hc : CmpOk n lt cmp s) {p : Array Nat} {Q : Nat × Array Nat → Shared → Prop} (hp : Pm n p) (h1 : 1 ≤ n)
    (h : ∀ p' m', Pm n p' → 1 ≤ m' → m' ≤ n → NonDec lt p' m' → Q (m', p') s) : (kas_count n p).kasWp cmp Q s := by
  unfold kas_count
  rw [KasT.kasWp_bind]
  refine asc_ok o hc hp (n - 1) 1 (by lia) (by decide) (fun i j a b => ?_) fun m a b nd stop => ?_
  · have : i = j := by lia
    subst this; exact o.rfl' _
  · by_cases e : m = n
    · subst e
      rw [if_pos (by simp)]
      exact h p m hp a (Nat.le_refl _) nd
    · rw [if_neg (by simpa using e)]
      have st := stop (by lia)
      have le1 : Le lt (gp p m) (gp p (m - 1)) := o.tot _ _ st
      by_cases m1 : m > 1
      · rw [if_pos m1]
        show cmp (gp p 0) (gp p (m - 1)) (fun c s' => (if c = true then KasT.ret (m, p) else kas_descPart m n (kas_rev p 0 m)).kasWp cmp Q s') s
        refine hc _ _ _ (hp.bnd (by assumption) _) (hp.bnd (by assumption) _) ?_
        cases e2 : lt (gp p 0) (gp p (m - 1)) with
        | true => rw [if_pos rfl]; exact h p m hp a (by lia) nd
        | false =>
          rw [if_neg (by simp)]
          have grp : Grp lt p 0 m := fun i j _ b _ d => o.trans (nd i (m - 1) (by lia) (by lia)) (o.trans e2 (nd 0 j (by assumption) d))
          have ni : NonInc lt p m := fun i j _ b => grp j i (by (exact Nat.le_add_left _ _)) b (by (exact Nat.le_add_left _ _)) (by (exact Nat.lt_of_le_of_lt (by assumption) (by assumption)))
          exact descPart_ok o hc (hp.rev _ _) a (by lia) ((ni.more o a le1).same o (rev_same o (by rw [hp.size]; lia) grp)) h
      · rw [if_neg m1]
        have : m = 1 := by lia
        subst this
        refine descPart_ok o hc hp a (by lia) (NonInc.more o (fun i j x y => ?_) a le1) h
        have : i = j := by lia
        subst this; exact o.rfl' _

theorem place_ok (o : Ord lt) (hc : CmpOk n lt cmp s) {p : Array Nat} {k : Nat} {Q : Nat → Shared → Prop} (hp : Pm n p) (hk : k < n) (nd : NonDec lt p k) : ∀ (f l r : Nat), l ≤ r → r ≤ k → r - l ≤ f →
    (∀ i, i < l → Le lt (gp p i) (gp p k)) → (∀ i, r ≤ i → i < k → Le lt (gp p k) (gp p i)) →
    (∀ l, l ≤ k → (∀ i, i < l → Le lt (gp p i) (gp p k)) → (∀ i, l ≤ i → i < k → Le lt (gp p k) (gp p i)) → Q l s) → (kas_place p k f l r).kasWp cmp Q s
  | 0, l, r, hlr, hr, hf, a, b, h => by
    have : l = r := by lia
    subst this
    exact h l hr a b
  | f + 1, l, r, hlr, hr, hf, a, b, h => by
    unfold kas_place
    by_cases e : l ≥ r
    · rw [if_pos e]
      have : l = r := by lia
      subst this
      exact h l hr a b
    · rw [if_neg e]
      show cmp (gp p k) (gp p ((l + r) / 2)) (fun c s' => (if c = true then kas_place p k f l ((l + r) / 2) else kas_place p k f ((l + r) / 2 + 1) r).kasWp cmp Q s') s
      have lm : l ≤ (l + r) / 2 := by lia
      have mr : (l + r) / 2 < r := by lia
      generalize (l + r) / 2 = m at lm mr ⊢
      refine hc _ _ _ (hp.bnd (by lia) _) (hp.bnd (by lia) _) ?_
      cases e2 : lt (gp p k) (gp p (m)) with
      | true =>
        rw [if_pos rfl]
        have l1 : Le lt (gp p k) (gp p (m)) := o.tot _ _ e2
        exact place_ok o hc hp hk nd f l (m) (by assumption) (by lia) (by lia) a (fun i x y => o.trans l1 (nd _ _ x y)) h
      | false =>
        rw [if_neg (by simp)]
        have l1 : Le lt (gp p (m)) (gp p k) := e2
        exact place_ok o hc hp hk nd f (m + 1) r (by assumption) hr (by lia) (fun i x => o.trans (nd _ _ (by (exact Nat.le_of_succ_le_succ (by assumption))) (by (exact Nat.le_trans (by assumption) (by assumption)))) l1) b h

theorem bin_ok (o : Ord lt) (hc : CmpOk n lt cmp s) {Q : Array Nat → Shared → Prop} : ∀ (f : Nat) (p : Array Nat) (k : Nat), Pm n p → k + f = n → NonDec lt p k → (∀ p', Pm n p' → NonDec lt p' n → Q p' s) → (kas_bin f p k).kasWp cmp Q s
  | 0, p, k, hp, hk, nd, h => h p hp (by rw [← hk]; exact nd)
  | f + 1, p, k, hp, hk, nd, h => by
    unfold kas_bin
    rw [KasT.kasWp_bind]
    refine place_ok o hc hp (by lia) nd k 0 k (by (exact Nat.le_add_left _ _)) (Nat.le_refl _) (by lia) (fun i x => absurd x (Nat.not_lt_zero _)) (fun i x y => absurd x (by lia)) fun l hl a b => ?_
    refine bin_ok o hc f _ (k + 1) (hp.bub _ _) (by lia) (fun i j hij hj => ?_) h
    rw [gp_bubble (by rw [hp.size]; lia) hl, gp_bubble (by rw [hp.size]; lia) hl]
    by_cases i1 : i = l
    · rw [if_pos i1]
      by_cases j1 : j = l
      · rw [if_pos j1]; exact o.rfl' _
      · rw [if_neg j1, if_pos ⟨by lia, by (exact Nat.le_of_succ_le_succ (by assumption))⟩]; exact b _ (by lia) (by lia)
    · rw [if_neg i1]
      by_cases i2 : l < i ∧ i ≤ k
      · rw [if_pos i2, if_neg (by lia), if_pos ⟨by lia, by (exact Nat.le_of_succ_le_succ (by assumption))⟩]; exact nd _ _ (by lia) (by lia)
      · rw [if_neg i2]
        by_cases j1 : j = l
        · rw [if_pos j1]; exact a _ (by lia)
        · rw [if_neg j1]
          by_cases j2 : l < j ∧ j ≤ k
          · rw [if_pos j2]; exact nd _ _ (by lia) (by lia)
          · rw [if_neg j2]; exact nd _ _ hij (by lia)

theorem sort_ok (o : Ord lt) (hc : CmpOk n lt cmp s) {Q : Array Nat → Shared → Prop} (h1 : 1 ≤ n) (h : ∀ p', Pm n p' → NonDec lt p' n → Q p' s) : (kas_sort n).kasWp cmp Q s := by
  unfold kas_sort
  rw [KasT.kasWp_bind]
  refine count_ok o hc (Array.Perm.refl _) h1 fun p' m' hp a b nd => ?_
  dsimp only
  split
  · rw [show max m' 1 = m' by lia]
    exact bin_ok o hc _ p' m' hp (by lia) nd h
  · have : m' = n := by lia
    subst this
    exact h p' hp nd
end
end Mine
namespace Mine
open AutoSeq1 (wpAny_loadPart')
open SeqAt

noncomputable def LtAt (A : Around) (s : Shared) (x y : Value) (b : Bool) : Prop := ∀ (prog : Program) (w : World) (E : Value → Shared → Prop) (Q : Value → Shared → Prop), Q (.bool b) s → wpAny (model prog w) A (richCompare .Lt x y) Q E s
inductive LexR (A : Around) (s : Shared) (fin : Bool) : List (Value × Value) → Bool → Prop
  | nil : LexR A s fin [] fin
  | eq {x y r b} : EqAt A s x y true → LexR A s fin r b → LexR A s fin ((x, y) :: r) b
  | ne {x y r b} : EqAt A s x y false → LtAt A s x y b → LexR A s fin ((x, y) :: r) b

set_option maxRecDepth 100000 in
theorem tuple_ltAt (l b : Addr) (items items2 : Array Value) (n n2 : Nat) (dd dd2 : Option Addr) (sl sl2 : Array (Option Value)) (c : Bool) :
    Meets (Builtin.«tuple.__lt__» ⟨[.ref l, .ref b], []⟩)
      (fun A R s => s.heap.get? l = some { cls := .type "tuple", dict := dd, data := .seq items n, slots := sl } ∧ s.heap.get? b = some { cls := .type "tuple", dict := dd2, data := .seq items2 n2, slots := sl2 } ∧
        LexR A.in1 s (decide (items.size < items2.size)) (items.toList.zip items2.toList) c ∧ R (.ok (.ret (.bool c))) s) :=
  .of_wp fun prog w A R s h => by
    obtain ⟨hp, g, d, tk, os⟩ := s; obtain ⟨hl, hb, he, h⟩ := h
    have f2 := AutoSeq1.sub_tuple_tuple
    wp_walk using wpAny_loadPart' hl, wpAny_loadPart' hb, wpAny_forIn_list _ (fun rest b s' => b.1 = none ∧ s' = ⟨hp, g, d, tk, os⟩ ∧ LexR A.in1 ⟨hp, g, d, tk, os⟩ (decide (items.size < items2.size)) rest c) _
    case turn =>
      rintro ⟨y, x⟩ rest b s' ⟨hb', rfl, hz⟩
      cases hz with
      | eq e r =>
        refine wpAny_bind (e prog w _ _ ?_)
        wp_walk
        exact ⟨rfl, rfl, r⟩
      | ne e r =>
        refine wpAny_bind (e prog w _ _ ?_)
        refine wpAny_bind (wpAny_rule (wpAny_bind (r prog w _ _ ?_)))
        wp_walk
        exact ⟨_, rfl, h⟩
    case fin =>
      rintro ⟨b1, b2⟩ s' ⟨hb', rfl, hz⟩
      simp only at hb'
      subst hb'
      cases hz
      wp_walk
      exact ⟨_, rfl, by simpa [Builtin.Tuple.tupleCompareSizes] using h⟩
    case h =>
      exact ⟨rfl, rfl, he⟩
theorem LtAt.tuples {A : Around} {s : Shared} {l b : Addr} {items items2 : Array Value} {c : Bool} (hl : s.heap.IsTuple l items) (hb : s.heap.IsTuple b items2) (hu : A.units < cLine)
    (he : LexR A.in1 s (decide (items.size < items2.size)) (items.toList.zip items2.toList) c) : LtAt A s (.ref l) (.ref b) c := fun prog w E Q h => by
  obtain ⟨⟨cls, dd, data, sl⟩, ho, hc, n, hd⟩ := id hl
  obtain ⟨⟨cls2, dd2, data2, sl2⟩, ho2, hc2, n2, hd2⟩ := id hb
  simp only at hc hd hc2 hd2
  subst hc hd hc2 hd2
  exact richCompare_meets_room (op := .Lt) ⟨_, ho, rfl⟩ ⟨_, ho2, rfl⟩ F.slot_tuple_lt F.entry_tuple_lt (F.args_tuple_lt_2 _ _) (tuple_ltAt l b items items2 n n2 dd dd2 sl sl2 c)
    ⟨ho, ho2, he, show Value.bool c ≠ Value.notImplemented ∧ Q (.bool c) s from ⟨(fun x => nomatch x), h⟩⟩ hu

mutual
noncomputable def V.srt : V → Bool
  | .int _ => true
  | .str x => PyData.strOk x
  | .tup xs => srtL xs
  | .none | .bool _ | .lst _ | .dct _ | .self _ | .tray | .any | .oL _ | .oD _ => false
noncomputable def srtL : List V → Bool
  | [] => true
  | x :: r => x.srt && srtL r
end
noncomputable def cmpN : List Nat → List Nat → Ordering
  | [], [] => .eq
  | [], _ :: _ => .lt
  | _ :: _, [] => .gt
  | x :: xs, y :: ys => if x < y then .lt else if y < x then .gt else cmpN xs ys
theorem cmpN_cons {x y : Nat} {xs ys : List Nat} : cmpN (x :: xs) (y :: ys) = if x < y then .lt else if y < x then .gt else cmpN xs ys := rfl
noncomputable def cmpI (a b : Int) : Ordering := if a < b then .lt else if b < a then .gt else .eq
mutual
noncomputable def cmpV : V → V → Ordering
  | .int a, y => match y with | .int b => cmpI a b | _ => .lt
  | .str x, y => match y with | .int _ => .gt | .str y => cmpN x.cps.toList y.cps.toList | _ => .lt
  | .tup xs, y => match y with | .int _ => .gt | .str _ => .gt | .tup ys => cmpL xs ys | _ => .eq
  | _, _ => .eq
noncomputable def cmpL : List V → List V → Ordering
  | [], [] => .eq
  | [], _ :: _ => .lt
  | _ :: _, [] => .gt
  | x :: xs, y :: ys => (cmpV x y).then (cmpL xs ys)
end
theorem cmpL_cons {x y : V} {xs ys : List V} : cmpL (x :: xs) (y :: ys) = (cmpV x y).then (cmpL xs ys) := rfl
theorem cmpV_int {a b : Int} : cmpV (.int a) (.int b) = cmpI a b := rfl
theorem cmpV_str {x y : Str} : cmpV (.str x) (.str y) = cmpN x.cps.toList y.cps.toList := rfl
theorem cmpV_tup {xs ys : List V} : cmpV (.tup xs) (.tup ys) = cmpL xs ys := rfl
theorem cmpV_is {a : Int} {y : Str} : cmpV (.int a) (.str y) = .lt := rfl
theorem cmpV_it {a : Int} {ys : List V} : cmpV (.int a) (.tup ys) = .lt := rfl
theorem cmpV_si {a : Str} {y : Int} : cmpV (.str a) (.int y) = .gt := rfl
theorem cmpV_st {a : Str} {ys : List V} : cmpV (.str a) (.tup ys) = .lt := rfl
theorem cmpV_ti {xs : List V} {y : Int} : cmpV (.tup xs) (.int y) = .gt := rfl
theorem cmpV_ts {xs : List V} {y : Str} : cmpV (.tup xs) (.str y) = .gt := rfl
theorem cmpN_eq : ∀ {a b : List Nat}, cmpN a b = .eq ↔ a = b
  | [], [] => ⟨fun _ => rfl, fun _ => rfl⟩
  | [], _ :: _ => ⟨fun h => (by cases h), fun h => (by cases h)⟩
  | _ :: _, [] => ⟨fun h => (by cases h), fun h => (by cases h)⟩
  | x :: xs, y :: ys => by
    rw [cmpN_cons]
    by_cases h1 : x < y
    · rw [if_pos h1]; exact ⟨fun h => (by cases h), fun h => absurd (List.cons.inj h).1 (Nat.ne_of_lt h1)⟩
    · by_cases h2 : y < x
      · rw [if_neg h1, if_pos h2]; exact ⟨fun h => (by cases h), fun h => absurd (List.cons.inj h).1 (Nat.ne_of_gt h2)⟩
      · rw [if_neg h1, if_neg h2, cmpN_eq]
        exact ⟨fun h => by rw [Nat.le_antisymm (Nat.le_of_not_lt h2) (Nat.le_of_not_lt h1), h], fun h => (List.cons.inj h).2⟩
theorem cmpN_swap : ∀ {a b : List Nat}, cmpN b a = (cmpN a b).swap
  | [], [] => rfl
  | [], _ :: _ => rfl
  | _ :: _, [] => rfl
  | x :: xs, y :: ys => by
    rw [cmpN_cons, cmpN_cons]
    by_cases h1 : x < y
    · rw [if_neg (Nat.lt_asymm h1), if_pos h1, if_pos h1]; rfl
    · by_cases h2 : y < x
      · rw [if_pos h2, if_neg h1, if_pos h2]; rfl
      · rw [if_neg h2, if_neg h1, if_neg h1, if_neg h2]; exact cmpN_swap
theorem cmpN_trans : ∀ {a b c : List Nat}, cmpN a b ≠ .gt → cmpN b c ≠ .gt → cmpN a c ≠ .gt
  | [], _, [], _, _ => fun h => by cases h
  | [], _, _ :: _, _, _ => fun h => by cases h
  | _ :: _, [], _, h, _ => absurd rfl h
  | _ :: _, _ :: _, [], _, h => absurd rfl h
  | x :: xs, y :: ys, z :: zs, h1, h2 => by
    have le : ∀ {x y : Nat} {xs ys : List Nat}, cmpN (x :: xs) (y :: ys) ≠ .gt → x ≤ y := fun {x y xs ys} h => Nat.le_of_not_lt fun q => h (by rw [cmpN_cons, if_neg (Nat.lt_asymm q), if_pos q])
    have l1 := le h1
    have l2 := le h2
    rw [cmpN_cons]
    by_cases a : x < z
    · rw [if_pos a]; exact fun h => by cases h
    · obtain rfl := Nat.le_antisymm l1 (Nat.le_trans l2 (Nat.le_of_not_lt a))
      obtain rfl := Nat.le_antisymm l2 (Nat.le_of_not_lt a)
      rw [cmpN_cons, if_neg (Nat.lt_irrefl x), if_neg (Nat.lt_irrefl x)] at h1 h2
      rw [if_neg (Nat.lt_irrefl x), if_neg (Nat.lt_irrefl x)]
      exact cmpN_trans h1 h2
theorem cmpN_lt : ∀ {a b : List Nat}, (cmpN a b == .lt) = decide (a < b)
  | [], [] => rfl
  | [], _ :: _ => (decide_eq_true (List.nil_lt_cons _ _)).symm
  | _ :: _, [] => (decide_eq_false (List.not_lt_nil _)).symm
  | x :: xs, y :: ys => by
    rw [cmpN_cons]
    by_cases h1 : x < y
    · rw [if_pos h1]; exact (decide_eq_true (List.cons_lt_cons_iff.mpr (.inl h1))).symm
    · by_cases h2 : y < x
      · rw [if_neg h1, if_pos h2]
        exact (decide_eq_false fun h => (List.cons_lt_cons_iff.mp h).elim h1 fun q => Nat.ne_of_gt h2 q.1).symm
      · obtain rfl := Nat.le_antisymm (Nat.le_of_not_lt h2) (Nat.le_of_not_lt h1)
        rw [if_neg h1, if_neg h2, cmpN_lt]
        exact decide_eq_decide.mpr ⟨fun h => List.cons_lt_cons_iff.mpr (.inr ⟨rfl, h⟩), fun h => (List.cons_lt_cons_iff.mp h).elim (fun q => absurd q h1) And.right⟩
theorem str_ext {x y : Str} (h : x.cps.toList = y.cps.toList) : x = y := by
  cases x; cases y
  congr 1
  exact Array.toList_inj.mp h
noncomputable def rkV : V → Nat
  | .int _ => 0
  | .str _ => 1
  | _ => 2
theorem rk_lt {x y : V} (hx : x.srt = true) (hy : y.srt = true) (h : rkV x < rkV y) : cmpV x y = .lt := by
  match x, hx with
  | .int _, _ =>
    match y, hy with
    | .int _, _ => exact absurd h (Nat.lt_irrefl 0)
    | .str _, _ => rfl
    | .tup _, _ => rfl
  | .str _, _ =>
    match y, hy with
    | .int _, _ => exact absurd h (Nat.not_lt_zero 1)
    | .str _, _ => exact absurd h (Nat.lt_irrefl 1)
    | .tup _, _ => rfl
  | .tup _, _ =>
    match y, hy with
    | .int _, _ => exact absurd h (Nat.not_lt_zero 2)
    | .str _, _ => exact absurd h (show ¬ 2 < 1 by decide)
    | .tup _, _ => exact absurd h (Nat.lt_irrefl 2)
theorem rk_gt {x y : V} (hx : x.srt = true) (hy : y.srt = true) (h : rkV y < rkV x) : cmpV x y = .gt := by
  match x, hx with
  | .int _, _ => exact absurd h (Nat.not_lt_zero _)
  | .str _, _ =>
    match y, hy with
    | .int _, _ => rfl
    | .str _, _ => exact absurd h (Nat.lt_irrefl 1)
    | .tup _, _ => exact absurd h (show ¬ 2 < 1 by decide)
  | .tup _, _ =>
    match y, hy with
    | .int _, _ => rfl
    | .str _, _ => rfl
    | .tup _, _ => exact absurd h (Nat.lt_irrefl 2)
theorem rk_same {x y : V} (hx : x.srt = true) (hy : y.srt = true) (h : rkV x = rkV y) : (∃ a b, x = .int a ∧ y = .int b) ∨ (∃ a b, x = .str a ∧ y = .str b) ∨ ∃ a b, x = .tup a ∧ y = .tup b := by
  match x, hx with
  | .int a, _ =>
    match y, hy with
    | .int b, _ => exact .inl ⟨a, b, rfl, rfl⟩
    | .str _, _ => exact nomatch (show (0 : Nat) = 1 from h)
    | .tup _, _ => exact nomatch (show (0 : Nat) = 2 from h)
  | .str a, _ =>
    match y, hy with
    | .int _, _ => exact nomatch (show (1 : Nat) = 0 from h)
    | .str b, _ => exact .inr (.inl ⟨a, b, rfl, rfl⟩)
    | .tup _, _ => exact nomatch (show (1 : Nat) = 2 from h)
  | .tup a, _ =>
    match y, hy with
    | .int _, _ => exact nomatch (show (2 : Nat) = 0 from h)
    | .str _, _ => exact nomatch (show (2 : Nat) = 1 from h)
    | .tup b, _ => exact .inr (.inr ⟨a, b, rfl, rfl⟩)
theorem rk_tri {x y : V} (hx : x.srt = true) (hy : y.srt = true) : (cmpV x y = .lt ∧ cmpV y x = .gt) ∨ (cmpV x y = .gt ∧ cmpV y x = .lt) ∨ (∃ a b, x = .int a ∧ y = .int b) ∨ (∃ a b, x = .str a ∧ y = .str b) ∨ ∃ a b, x = .tup a ∧ y = .tup b := by
  rcases Nat.lt_trichotomy (rkV x) (rkV y) with h | h | h
  · exact .inl ⟨rk_lt hx hy h, rk_gt hy hx h⟩
  · exact .inr (.inr (rk_same hx hy h))
  · exact .inr (.inl ⟨rk_gt hx hy h, rk_lt hy hx h⟩)
mutual
theorem cmpV_eq : ∀ {x y : V}, x.srt = true → y.srt = true → cmpV x y = .eq → x = y
  | .int a, y, hx, hy, h => by
    rcases rk_tri hx hy with ⟨e, _⟩ | ⟨e, _⟩ | ⟨_, b, _, rfl⟩ | ⟨_, _, e, _⟩ | ⟨_, _, e, _⟩
    · rw [e] at h; cases h
    · rw [e] at h; cases h
    · rw [cmpV_int] at h
      unfold cmpI at h
      split at h
      · cases h
      · split at h
        · cases h
        · congr 1; lia
    · cases e
    · cases e
  | .str a, y, hx, hy, h => by
    rcases rk_tri hx hy with ⟨e, _⟩ | ⟨e, _⟩ | ⟨_, _, e, _⟩ | ⟨_, b, _, rfl⟩ | ⟨_, _, e, _⟩
    · rw [e] at h; cases h
    · rw [e] at h; cases h
    · cases e
    · rw [str_ext (cmpN_eq.mp h)]
    · cases e
  | .tup a, y, hx, hy, h => by
    rcases rk_tri hx hy with ⟨e, _⟩ | ⟨e, _⟩ | ⟨_, _, e, _⟩ | ⟨_, _, e, _⟩ | ⟨_, b, _, rfl⟩
    · rw [e] at h; cases h
    · rw [e] at h; cases h
    · cases e
    · cases e
    · rw [cmpL_eq hx hy h]
theorem cmpL_eq : ∀ {xs ys : List V}, srtL xs = true → srtL ys = true → cmpL xs ys = .eq → xs = ys
  | [], [], _, _, _ => rfl
  | [], _ :: _, _, _, h => by cases h
  | _ :: _, [], _, _, h => by cases h
  | x :: xs, y :: ys, hx, hy, h => by
    have hx' := Bool.and_eq_true_iff.mp (show (_ && _) = true from hx)
    have hy' := Bool.and_eq_true_iff.mp (show (_ && _) = true from hy)
    rw [cmpL_cons] at h
    cases e : cmpV x y with
    | eq => rw [e] at h; rw [cmpV_eq hx'.1 hy'.1 e, cmpL_eq hx'.2 hy'.2 h]
    | lt => rw [e] at h; cases h
    | gt => rw [e] at h; cases h
end
theorem cmpI_swap {a b : Int} : cmpI b a = (cmpI a b).swap := by
  unfold cmpI
  by_cases h1 : a < b
  · rw [if_neg (Int.lt_asymm h1), if_pos h1, if_pos h1]; rfl
  · by_cases h2 : b < a
    · rw [if_pos h2, if_neg h1, if_pos h2]; rfl
    · rw [if_neg h2, if_neg h1, if_neg h1, if_neg h2]; rfl
mutual
theorem cmpV_swap : ∀ {x y : V}, x.srt = true → y.srt = true → cmpV y x = (cmpV x y).swap
  | .int a, y, hx, hy => by
    rcases rk_tri hx hy with ⟨e, e'⟩ | ⟨e, e'⟩ | ⟨_, b, _, rfl⟩ | ⟨_, _, e, _⟩ | ⟨_, _, e, _⟩
    · rw [e, e']; rfl
    · rw [e, e']; rfl
    · exact cmpI_swap
    · cases e
    · cases e
  | .str a, y, hx, hy => by
    rcases rk_tri hx hy with ⟨e, e'⟩ | ⟨e, e'⟩ | ⟨_, _, e, _⟩ | ⟨_, b, _, rfl⟩ | ⟨_, _, e, _⟩
    · rw [e, e']; rfl
    · rw [e, e']; rfl
    · cases e
    · exact cmpN_swap
    · cases e
  | .tup a, y, hx, hy => by
    rcases rk_tri hx hy with ⟨e, e'⟩ | ⟨e, e'⟩ | ⟨_, _, e, _⟩ | ⟨_, _, e, _⟩ | ⟨_, b, _, rfl⟩
    · rw [e, e']; rfl
    · rw [e, e']; rfl
    · cases e
    · cases e
    · exact cmpL_swap hx hy
theorem cmpL_swap : ∀ {xs ys : List V}, srtL xs = true → srtL ys = true → cmpL ys xs = (cmpL xs ys).swap
  | [], [], _, _ => rfl
  | [], _ :: _, _, _ => rfl
  | _ :: _, [], _, _ => rfl
  | x :: xs, y :: ys, hx, hy => by
    have hx' := Bool.and_eq_true_iff.mp (show (_ && _) = true from hx)
    have hy' := Bool.and_eq_true_iff.mp (show (_ && _) = true from hy)
    rw [cmpL_cons, cmpL_cons, cmpV_swap hx'.1 hy'.1]
    cases cmpV x y with
    | eq => exact cmpL_swap hx'.2 hy'.2
    | lt => rfl
    | gt => rfl
end
theorem cmpV_refl {x : V} (h : x.srt = true) : cmpV x x = .eq := by
  have := cmpV_swap h h
  cases e : cmpV x x with
  | eq => rfl
  | lt => rw [e] at this; cases this
  | gt => rw [e] at this; cases this
theorem cmpI_trans {a b c : Int} (h1 : cmpI a b ≠ .gt) (h2 : cmpI b c ≠ .gt) : cmpI a c ≠ .gt := by
  have x : ∀ {a b : Int}, cmpI a b ≠ .gt → a ≤ b := fun {a b} h => Int.not_lt.mp fun q => h (by unfold cmpI; rw [if_neg (Int.lt_asymm q), if_pos q])
  have l := Int.le_trans (x h1) (x h2)
  unfold cmpI
  by_cases q : a < c
  · rw [if_pos q]; exact fun h => by cases h
  · rw [if_neg q, if_neg (Int.not_lt.mpr l)]; exact fun h => by cases h
theorem rk_mono {x y : V} (hx : x.srt = true) (hy : y.srt = true) (h : cmpV x y ≠ .gt) : rkV x ≤ rkV y := Nat.le_of_not_lt fun q => h (rk_gt hx hy q)
theorem rk_all {x y z : V} (hx : x.srt = true) (hy : y.srt = true) (hz : z.srt = true) (h1 : cmpV x y ≠ .gt) (h2 : cmpV y z ≠ .gt) (h : rkV x = rkV y → rkV y = rkV z → cmpV x z ≠ .gt) : cmpV x z ≠ .gt := by
  have a := rk_mono hx hy h1
  have b := rk_mono hy hz h2
  by_cases e : rkV x < rkV z
  · rw [rk_lt hx hz e]; exact fun q => nomatch q
  · have c := Nat.le_of_not_lt e
    exact h (Nat.le_antisymm a (Nat.le_trans b c)) (Nat.le_antisymm b (Nat.le_trans c a))
mutual
theorem cmpV_trans : ∀ {x y z : V}, x.srt = true → y.srt = true → z.srt = true → cmpV x y ≠ .gt → cmpV y z ≠ .gt → cmpV x z ≠ .gt
  | .int a, y, z, hx, hy, hz, h1, h2 => rk_all hx hy hz h1 h2 fun e1 e2 => by
    rcases rk_same hx hy e1 with ⟨_, b, e, rfl⟩ | ⟨_, _, e, _⟩ | ⟨_, _, e, _⟩
    · rcases rk_same hy hz e2 with ⟨_, c, _, rfl⟩ | ⟨_, _, e, _⟩ | ⟨_, _, e, _⟩
      · exact cmpI_trans h1 h2
      · cases e
      · cases e
    · cases e
    · cases e
  | .str a, y, z, hx, hy, hz, h1, h2 => rk_all hx hy hz h1 h2 fun e1 e2 => by
    rcases rk_same hx hy e1 with ⟨_, _, e, _⟩ | ⟨_, b, e, rfl⟩ | ⟨_, _, e, _⟩
    · cases e
    · rcases rk_same hy hz e2 with ⟨_, _, e, _⟩ | ⟨_, c, _, rfl⟩ | ⟨_, _, e, _⟩
      · cases e
      · exact cmpN_trans h1 h2
      · cases e
    · cases e
  | .tup a, y, z, hx, hy, hz, h1, h2 => rk_all hx hy hz h1 h2 fun e1 e2 => by
    rcases rk_same hx hy e1 with ⟨_, _, e, _⟩ | ⟨_, _, e, _⟩ | ⟨_, b, e, rfl⟩
    · cases e
    · cases e
    · rcases rk_same hy hz e2 with ⟨_, _, e, _⟩ | ⟨_, _, e, _⟩ | ⟨_, c, _, rfl⟩
      · cases e
      · cases e
      · exact cmpL_trans hx hy hz h1 h2
theorem cmpL_trans : ∀ {xs ys zs : List V}, srtL xs = true → srtL ys = true → srtL zs = true → cmpL xs ys ≠ .gt → cmpL ys zs ≠ .gt → cmpL xs zs ≠ .gt
  | [], _, [], _, _, _, _, _ => fun h => by cases h
  | [], _, _ :: _, _, _, _, _, _ => fun h => by cases h
  | _ :: _, [], _, _, _, _, h1, _ => absurd rfl h1
  | _ :: _, _ :: _, [], _, _, _, _, h2 => absurd rfl h2
  | x :: xs, y :: ys, z :: zs, hx, hy, hz, h1, h2 => by
    have hx' := Bool.and_eq_true_iff.mp (show (_ && _) = true from hx)
    have hy' := Bool.and_eq_true_iff.mp (show (_ && _) = true from hy)
    have hz' := Bool.and_eq_true_iff.mp (show (_ && _) = true from hz)
    rw [cmpL_cons] at h1 h2 ⊢
    have t := cmpV_trans (x := x) (y := y) (z := z) hx'.1 hy'.1 hz'.1
    cases e1 : cmpV x y with
    | gt => rw [e1] at h1; exact absurd rfl h1
    | eq =>
      have := cmpV_eq hx'.1 hy'.1 e1
      subst this
      rw [e1] at h1
      cases e2 : cmpV x z with
      | gt => rw [e2] at h2; exact absurd rfl h2
      | lt => simp
      | eq => rw [e2] at h2; exact cmpL_trans hx'.2 hy'.2 hz'.2 h1 h2
    | lt =>
      cases e2 : cmpV y z with
      | gt => rw [e2] at h2; exact absurd rfl h2
      | eq =>
        have := cmpV_eq hy'.1 hz'.1 e2
        subst this
        rw [e1]; simp
      | lt =>
        have t' := t (by rw [e1]; decide) (by rw [e2]; decide)
        cases e3 : cmpV x z with
        | gt => exact absurd e3 t'
        | lt => simp
        | eq =>
          have := cmpV_eq hx'.1 hz'.1 e3
          subst this
          rw [cmpV_swap hx'.1 hy'.1, e1] at e2; cases e2
end
end Mine
namespace Mine
open SeqAt

mutual
theorem srt_plain : ∀ {x : V}, x.srt = true → x.plain = true
  | .int _, _ => rfl
  | .str _, _ => rfl
  | .tup xs, h => srtL_plain (xs := xs) h
theorem srtL_plain : ∀ {xs : List V}, srtL xs = true → plainL xs = true
  | [], _ => rfl
  | x :: r, h => by
    have h' := Bool.and_eq_true_iff.mp (show (_ && _) = true from h)
    exact Bool.and_eq_true_iff.mpr ⟨srt_plain h'.1, srtL_plain h'.2⟩
end
mutual
theorem srt_lay : ∀ {x : V}, x.srt = true → x.py.canLay0 = true
  | .int _, _ => rfl
  | .str x, h => h
  | .tup xs, h => srtL_lay (xs := xs) h
theorem srtL_lay : ∀ {xs : List V}, srtL xs = true → PyData.canLayAll0 (pyL xs) = true
  | [], _ => rfl
  | x :: r, h => by
    have h' := Bool.and_eq_true_iff.mp (show (_ && _) = true from h)
    exact Bool.and_eq_true_iff.mpr ⟨srt_lay h'.1, srtL_lay h'.2⟩
end
theorem srt_fine {x : V} (h : x.srt = true) : x.fine = true := Bool.and_eq_true_iff.mpr ⟨srt_plain h, srt_lay h⟩
theorem cmpI_eq {a b : Int} : (cmpI a b == .eq) = (a == b) := by
  unfold cmpI
  by_cases h1 : a < b
  · rw [if_pos h1, beq_eq_false_iff_ne.mpr (Int.ne_of_lt h1)]; rfl
  · by_cases h2 : b < a
    · rw [if_neg h1, if_pos h2, beq_eq_false_iff_ne.mpr (Int.ne_of_gt h2)]; rfl
    · rw [if_neg h1, if_neg h2, beq_iff_eq.mpr (Int.le_antisymm (Int.not_lt.mp h2) (Int.not_lt.mp h1))]; rfl
mutual
theorem eqv_cmp : ∀ {x y : V}, x.srt = true → y.srt = true → PyData.eqv x.py y.py = (cmpV x y == .eq)
  | .int a, .int b, _, _ => cmpI_eq.symm
  | .str a, .str b, _, _ => by
    show (a == b) = (cmpN a.cps.toList b.cps.toList == .eq)
    cases e : (a == b) with
    | true => rw [cmpN_eq.mpr (by rw [beq_iff_eq.mp e])]; rfl
    | false =>
      cases e2 : cmpN a.cps.toList b.cps.toList with
      | eq => rw [str_ext (cmpN_eq.mp e2)] at e; simp at e
      | lt => rfl
      | gt => rfl
  | .tup xs, .tup ys, hx, hy => eqvL_cmp (xs := xs) (ys := ys) hx hy
  | .int _, .str _, _, _ => rfl
  | .int _, .tup _, _, _ => rfl
  | .str _, .int _, _, _ => rfl
  | .str _, .tup _, _, _ => rfl
  | .tup _, .int _, _, _ => rfl
  | .tup _, .str _, _, _ => rfl
theorem eqvL_cmp : ∀ {xs ys : List V}, srtL xs = true → srtL ys = true → PyData.eqvAll (pyL xs) (pyL ys) = (cmpL xs ys == .eq)
  | [], [], _, _ => rfl
  | [], _ :: _, _, _ => rfl
  | _ :: _, [], _, _ => rfl
  | x :: xs, y :: ys, hx, hy => by
    have hx' := Bool.and_eq_true_iff.mp (show (_ && _) = true from hx)
    have hy' := Bool.and_eq_true_iff.mp (show (_ && _) = true from hy)
    show (PyData.eqv x.py y.py && PyData.eqvAll (pyL xs) (pyL ys)) = _
    rw [cmpL_cons, eqv_cmp hx'.1 hy'.1]
    cases cmpV x y with
    | eq => exact eqvL_cmp hx'.2 hy'.2
    | lt => rfl
    | gt => rfl
end
theorem eqv_srt {x y : V} (hx : x.srt = true) (hy : y.srt = true) : PyData.eqv x.py y.py = true ↔ x = y := by
  rw [eqv_cmp hx hy]
  constructor
  · intro h; exact cmpV_eq hx hy (beq_iff_eq.mp h)
  · rintro rfl; rw [cmpV_refl hx]; rfl

noncomputable def byO (o : Ordering) (a b : Bool) : Bool := match o with | .eq => a | .lt | .gt => b
mutual
noncomputable def okV : V → V → Bool
  | .int _, .int _ => true
  | .str _, .str _ => true
  | .tup xs, .tup ys => okL xs ys
  | _, _ => false
noncomputable def okL : List V → List V → Bool
  | x :: xs, y :: ys => byO (cmpV x y) (okL xs ys) (okV x y)
  | _, _ => true
end
theorem okL_cons {x y : V} {xs ys : List V} : okL (x :: xs) (y :: ys) = byO (cmpV x y) (okL xs ys) (okV x y) := rfl
theorem okL_of {x y : V} {xs ys : List V} (a : okV x y = true) (b : okL xs ys = true) : okL (x :: xs) (y :: ys) = true := by
  rw [okL_cons]
  cases cmpV x y <;> assumption
mutual
noncomputable def V.dep : V → Nat
  | .tup xs => depL xs + 1
  | .lst xs => depL xs + 1
  | .oL xs => depL xs + 1
  | .none | .bool _ | .int _ | .str _ | .dct _ | .self _ | .tray | .any | .oD _ => 0
noncomputable def depL : List V → Nat
  | [] => 0
  | x :: r => max x.dep (depL r)
end
mutual
theorem py_dep : ∀ {x : V}, x.plain = true → x.py.depth = x.dep
  | .none, _ => rfl
  | .bool _, _ => rfl
  | .int _, _ => rfl
  | .str _, _ => rfl
  | .tup xs, h => congrArg (· + 1) (pyL_dep (xs := xs) h)
  | .lst xs, h => congrArg (· + 1) (pyL_dep (xs := xs) h)
theorem pyL_dep : ∀ {xs : List V}, plainL xs = true → PyData.depthAll (pyL xs) = depL xs
  | [], _ => rfl
  | x :: r, h => by
    have h' := Bool.and_eq_true_iff.mp (show (_ && _) = true from h)
    show max x.py.depth (PyData.depthAll (pyL r)) = max x.dep (depL r)
    rw [py_dep h'.1, pyL_dep h'.2]
end

section
variable {C : Cx} {h : Heap} {s : Shared}
theorem eqAt_rp {A : Around} {u v : Value} {x y : V} (ru : Rp C s.heap u x) (rv : Rp C s.heap v y) (hx : x.srt = true) (hy : y.srt = true) (hu : A.units + x.dep < cLine) : EqAt A s u v (cmpV x y == .eq) := by
  obtain ⟨as, ra⟩ := ru.reads (srt_plain hx)
  obtain ⟨bs, rb⟩ := rv.reads (srt_plain hy)
  rw [← eqv_cmp hx hy]
  exact eqAt_reads _ _ A s u v as bs ra rb (srt_lay hx) (srt_lay hy) (Nat.lt_of_le_of_lt (Nat.add_le_add_left (Nat.min_le_left _ _) _) (by rw [py_dep (srt_plain hx)]; exact hu))

theorem LtAt.int {A : Around} {a b : Int} {t u : Tok} : LtAt A s (.int a t) (.int b u) (decide (a < b)) := fun prog w E Q h => lt_int h
theorem LtAt.str {A : Around} {a b : Str} {t u : Tok} : LtAt A s (.str a t) (.str b u) (decide (a.cps.toList < b.cps.toList)) := fun prog w E Q h => PyProof.Rows.lt_str h
theorem ok_rk {x y : V} (hx : x.srt = true) (hy : y.srt = true) (ok : okV x y = true) : rkV x = rkV y := by
  match x, hx with
  | .int _, _ =>
    match y, hy with
    | .int _, _ => rfl
    | .str _, _ => exact Bool.noConfusion ok
    | .tup _, _ => exact Bool.noConfusion ok
  | .str _, _ =>
    match y, hy with
    | .int _, _ => exact Bool.noConfusion ok
    | .str _, _ => rfl
    | .tup _, _ => exact Bool.noConfusion ok
  | .tup _, _ =>
    match y, hy with
    | .int _, _ => exact Bool.noConfusion ok
    | .str _, _ => exact Bool.noConfusion ok
    | .tup _, _ => rfl
mutual
theorem ltAt_rp : ∀ {x y : V} (hx : x.srt = true) (hy : y.srt = true) (ok : okV x y = true), ∀ {A : Around} {u v : Value}, Rp C s.heap u x → Rp C s.heap v y → A.units + x.dep < cLine → LtAt A s u v (cmpV x y == .lt)
  | .int a, y, hx, hy, ok => fun ru rv _ => by
    rcases rk_same hx hy (ok_rk hx hy ok) with ⟨_, b, _, rfl⟩ | ⟨_, _, e, _⟩ | ⟨_, _, e, _⟩
    · cases ru; cases rv
      have e : (cmpV (.int a) (.int b) == .lt) = decide (a < b) := by
        rw [cmpV_int]; unfold cmpI
        by_cases h1 : a < b
        · rw [if_pos h1, decide_eq_true h1]; rfl
        · rw [if_neg h1, decide_eq_false h1]; by_cases h2 : b < a
          · rw [if_pos h2]; rfl
          · rw [if_neg h2]; rfl
      rw [e]; exact LtAt.int
    · cases e
    · cases e
  | .str a, y, hx, hy, ok => fun ru rv _ => by
    rcases rk_same hx hy (ok_rk hx hy ok) with ⟨_, _, e, _⟩ | ⟨_, b, _, rfl⟩ | ⟨_, _, e, _⟩
    · cases e
    · obtain ⟨_, rfl⟩ := rp_str ru
      obtain ⟨_, rfl⟩ := rp_str rv
      have e : (cmpV (.str a) (.str b) == .lt) = decide (a.cps.toList < b.cps.toList) := by rw [cmpV_str]; exact cmpN_lt
      rw [e]; exact LtAt.str
    · cases e
  | .tup xs, y, hx, hy, ok => fun ru rv hu => by
    rename_i A u v
    rcases rk_same hx hy (ok_rk hx hy ok) with ⟨_, _, e, _⟩ | ⟨_, _, e, _⟩ | ⟨_, ys, _, rfl⟩
    · cases e
    · cases e
    · obtain ⟨_, us, rfl, l, q⟩ := rp_tup ru
      obtain ⟨_, vs, rfl, l', q'⟩ := rp_tup rv
      have hu' : A.units + (depL xs + 1) < cLine := hu
      refine LtAt.tuples l.isTuple l'.isTuple (by lia) ?_
      have := lexR_rp (xs := xs) (ys := ys) hx hy ok (A := A.in1) q q' (show A.units + 1 + depL xs < cLine by lia)
      exact this
theorem lexR_rp : ∀ {xs ys : List V} (hx : srtL xs = true) (hy : srtL ys = true) (ok : okL xs ys = true), ∀ {A : Around} {us vs : List Value}, RpL C s.heap us xs → RpL C s.heap vs ys → A.units + depL xs < cLine →
    LexR A s (decide (us.length < vs.length)) (us.zip vs) (cmpL xs ys == .lt)
  | [], [], _, _, _ => fun ru rv _ => by
    cases ru; cases rv
    rw [show (cmpL [] [] == Ordering.lt) = decide (([] : List Value).length < ([] : List Value).length) by rfl]
    exact .nil
  | [], y :: ys, _, _, _ => fun ru rv _ => by
    cases ru
    obtain ⟨v, vs, rfl, _, _⟩ := rpl_cons rv
    rw [show (cmpL [] (y :: ys) == Ordering.lt) = decide (([] : List Value).length < (v :: vs).length) from (decide_eq_true (Nat.succ_pos _)).symm]
    exact .nil
  | x :: xs, [], _, _, _ => fun ru rv _ => by
    cases rv
    obtain ⟨v, vs, rfl, _, _⟩ := rpl_cons ru
    rw [show (cmpL (x :: xs) [] == Ordering.lt) = decide ((v :: vs).length < ([] : List Value).length) from (decide_eq_false (Nat.not_lt_zero _)).symm]
    exact .nil
  | x :: xs, y :: ys, hx, hy, ok => fun ru rv hu => by
    rename_i A _ _
    obtain ⟨u, us, rfl, r, q⟩ := rpl_cons ru
    obtain ⟨v, vs, rfl, r', q'⟩ := rpl_cons rv
    have hx' := Bool.and_eq_true_iff.mp (show (_ && _) = true from hx)
    have hy' := Bool.and_eq_true_iff.mp (show (_ && _) = true from hy)
    have hu' : A.units + max x.dep (depL xs) < cLine := hu
    have hu1 : A.units + x.dep < cLine := Nat.lt_of_le_of_lt (Nat.add_le_add_left (Nat.le_max_left _ _) _) hu'
    have hu2 : A.units + depL xs < cLine := Nat.lt_of_le_of_lt (Nat.add_le_add_left (Nat.le_max_right _ _) _) hu'
    have e1 : decide ((u :: us).length < (v :: vs).length) = decide (us.length < vs.length) := decide_eq_decide.mpr Nat.succ_lt_succ_iff
    rw [e1]
    have eq1 := eqAt_rp (A := A) r r' hx'.1 hy'.1 hu1
    rw [okL_cons] at ok
    rw [cmpL_cons]
    show LexR A s _ ((u, v) :: us.zip vs) _
    cases e : cmpV x y with
    | eq =>
      rw [e] at ok eq1
      exact .eq eq1 (lexR_rp hx'.2 hy'.2 ok q q' hu2)
    | lt =>
      rw [e] at ok eq1
      refine .ne eq1 ?_
      have := ltAt_rp hx'.1 hy'.1 ok (A := A) r r' hu1
      rw [e] at this; exact this
    | gt =>
      rw [e] at ok eq1
      refine .ne eq1 ?_
      have := ltAt_rp hx'.1 hy'.1 ok (A := A) r r' hu1
      rw [e] at this; exact this
end
end

theorem katLex_of {prog : Program} {w : World} {A : Around} {s : Shared} {b fin c : Bool} {Q : Bool → Shared → Prop} (hq : Q c s) {l : List (Value × Value)} {i : Nat} (hb : (b && i == 0) = false) (h : LexR A s fin l c) : KatLex prog w A b fin Q l i s := by
  induction h generalizing i with
  | nil => exact kat_nil hq
  | eq e rest ih => exact kat_cons (e prog w _ _ (kat_yes (ih hq (by simp))))
  | ne e lt => exact kat_cons (e prog w _ _ (kat_no (by
      rw [hb]
      exact kat_one _ _ (lt prog w _ _ (by exact hq)))))
theorem katLex_str {prog : Program} {w : World} {A : Around} {s : Shared} {fin c : Bool} {Q : Bool → Shared → Prop} {x y : Str} {t u : Tok} {l : List (Value × Value)} (hq : Q c s)
    (h : x = y → LexR A s fin l c) (hc : x ≠ y → c = decide (x.cps.toList < y.cps.toList)) : KatLex prog w A true fin Q ((.str x t, .str y u) :: l) 0 s := by
  refine kat_cons (eqBool_str ?_)
  by_cases hxy : x = y
  · rw [beq_iff_eq.mpr hxy]
    exact kat_yes (katLex_of hq (by simp) (h hxy))
  · rw [beq_eq_false_iff_ne.mpr hxy]
    refine kat_no (oneLt_str ?_)
    rw [← hc hxy]; exact hq
end Mine
namespace Mine
open SeqAt

noncomputable def leV (x y : V) : Bool := cmpV x y != .gt
noncomputable def insV (x : V) : List V → List V
  | [] => [x]
  | y :: r => if leV x y then x :: y :: r else y :: insV x r
noncomputable def sortV : List V → List V
  | [] => []
  | x :: r => insV x (sortV r)
theorem insV_perm (x : V) : ∀ (l : List V), (insV x l).Perm (x :: l)
  | [] => .refl _
  | y :: r => by
    unfold insV; split
    · exact .refl _
    · exact ((insV_perm x r).cons y).trans (.swap x y r)
theorem sortV_perm : ∀ (l : List V), (sortV l).Perm l
  | [] => .refl _
  | x :: r => (insV_perm x (sortV r)).trans ((sortV_perm r).cons x)
theorem srtL_iff {xs : List V} : srtL xs = true ↔ ∀ x ∈ xs, x.srt = true := by
  induction xs with
  | nil => exact ⟨fun _ _ h => (by cases h), fun _ => rfl⟩
  | cons x r ih => rw [List.forall_mem_cons, ← ih]; exact Bool.and_eq_true_iff
theorem leV_of {x y : V} : leV x y = true ↔ cmpV x y ≠ .gt := by simp [leV]
theorem leV_total {x y : V} (hx : x.srt = true) (hy : y.srt = true) (h : leV x y = false) : leV y x = true := by
  have e : cmpV x y = .gt := by simpa [leV] using h
  rw [leV_of, cmpV_swap hx hy, e]; decide
theorem leV_trans {x y z : V} (hx : x.srt = true) (hy : y.srt = true) (hz : z.srt = true) (h1 : leV x y = true) (h2 : leV y z = true) : leV x z = true := leV_of.mpr (cmpV_trans hx hy hz (leV_of.mp h1) (leV_of.mp h2))
theorem leV_anti {x y : V} (hx : x.srt = true) (hy : y.srt = true) (h1 : leV x y = true) (h2 : leV y x = true) : x = y := by
  have a := leV_of.mp h1
  have b := leV_of.mp h2
  rw [cmpV_swap hx hy] at b
  cases e : cmpV x y with
  | eq => exact cmpV_eq hx hy e
  | lt => rw [e] at b; exact absurd rfl b
  | gt => exact absurd e a
theorem insV_sorted {x : V} : ∀ {l : List V}, x.srt = true → (∀ y ∈ l, y.srt = true) → l.Pairwise (fun a b => leV a b = true) → (insV x l).Pairwise (fun a b => leV a b = true)
  | [], _, _, _ => List.pairwise_singleton _ _
  | y :: r, hx, hl, hp => by
    rw [List.pairwise_cons] at hp
    have hy := hl y List.mem_cons_self
    unfold insV
    split
    · rename_i e
      rw [List.pairwise_cons]
      refine ⟨fun z hz => ?_, by rw [List.pairwise_cons]; exact hp⟩
      rcases List.mem_cons.mp hz with rfl | hz
      · exact e
      · exact leV_trans hx hy (hl z (List.mem_cons_of_mem _ hz)) e (hp.1 z hz)
    · rename_i e
      rw [List.pairwise_cons]
      refine ⟨fun z hz => ?_, insV_sorted hx (fun z hz => hl z (List.mem_cons_of_mem _ hz)) hp.2⟩
      rcases List.mem_cons.mp ((insV_perm x r).mem_iff.mp hz) with rfl | hz
      · exact leV_total hx hy (by simpa using e)
      · exact hp.1 z hz
theorem sortV_sorted : ∀ {l : List V}, (∀ y ∈ l, y.srt = true) → (sortV l).Pairwise (fun a b => leV a b = true)
  | [], _ => .nil
  | x :: r, h => insV_sorted (h x List.mem_cons_self) (fun y hy => h y (List.mem_cons_of_mem _ ((sortV_perm r).mem_iff.mp hy))) (sortV_sorted fun y hy => h y (List.mem_cons_of_mem _ hy))
theorem sorted_uniq : ∀ {a b : List V}, (∀ y ∈ a, y.srt = true) → a.Perm b → a.Pairwise (fun a b => leV a b = true) → b.Pairwise (fun a b => leV a b = true) → a = b
  | [], b, _, p, _, _ => (List.nil_perm.mp p).symm
  | x :: a, [], _, p, _, _ => by have := p.length_eq; simp at this
  | x :: a, y :: b, hs, p, ha, hb => by
    have hs' : ∀ z ∈ y :: b, z.srt = true := fun z hz => hs z (p.mem_iff.mpr hz)
    have ha' := List.pairwise_cons.mp ha
    have hb' := List.pairwise_cons.mp hb
    have exy : x = y := by
      have hx := hs x List.mem_cons_self
      have hy := hs' y List.mem_cons_self
      refine leV_anti hx hy ?_ ?_
      · rcases List.mem_cons.mp (p.mem_iff.mpr (List.mem_cons_self : y ∈ y :: b)) with e | e
        · rw [e]; exact leV_of.mpr (by rw [cmpV_refl hx]; decide)
        · exact ha'.1 y e
      · rcases List.mem_cons.mp (p.mem_iff.mp (List.mem_cons_self : x ∈ x :: a)) with e | e
        · rw [e]; exact leV_of.mpr (by rw [cmpV_refl hy]; decide)
        · exact hb'.1 x e
    subst exy
    rw [sorted_uniq (fun z hz => hs z (List.mem_cons_of_mem _ hz)) (List.Perm.cons_inv p) ha'.2 hb'.2]
theorem sortV_congr {a b : List V} (h : ∀ y ∈ a, y.srt = true) (p : a.Perm b) : sortV a = sortV b :=
  sorted_uniq (fun y hy => h y ((sortV_perm a).mem_iff.mp hy)) ((sortV_perm a).trans (p.trans (sortV_perm b).symm)) (sortV_sorted h) (sortV_sorted fun y hy => h y (p.mem_iff.mpr hy))
theorem sortV_eq {a b : List V} (h : ∀ y ∈ a, y.srt = true) (p : b.Perm a) (s : b.Pairwise (fun a b => leV a b = true)) : b = sortV a :=
  sorted_uniq (fun y hy => h y (p.mem_iff.mp hy)) (p.trans (sortV_perm a).symm) s (sortV_sorted h)

noncomputable def Firsts (xs : List V) : Prop := (∀ x ∈ xs, ∃ ys r, x = .tup (.tup ys :: r)) ∨ (∀ x ∈ xs, ∃ f r, x = .tup (.str f :: r))
structure SortOk (xs : List V) : Prop where
  srt : ∀ x ∈ xs, x.srt = true
  ok : ∀ x ∈ xs, ∀ y ∈ xs, okV x y = true
  fst : Firsts xs
  dep : ∀ x ∈ xs, x.dep ≤ 200
  len : xs.length < 64

theorem keyLt_tup {C : Cx} {prog : Program} {w : World} {A : Around} {s : Shared} {u v : Value} {x y : V} {b : Bool} {Q : Bool → Shared → Prop} (ru : Rp C s.heap u x) (rv : Rp C s.heap v y) (hx : x.srt = true) (hy : y.srt = true) (ok : okV x y = true) (hu : A.units + 202 < cLine) (hd : x.dep ≤ 200)
    (hb : (b = false ∧ ∃ xs ys, x = .tup xs ∧ y = .tup ys) ∨ (b = true ∧ ∃ f r g r', x = .tup (.str f :: r) ∧ y = .tup (.str g :: r'))) (hq : Q (cmpV x y == .lt) s) :
    wpAny (model prog w) A (keyLt' (tuples' b) u v) Q (fun _ _ => False) s := by
  have ex : ∃ xs ys, x = .tup xs ∧ y = .tup ys := by
    rcases hb with ⟨_, h⟩ | ⟨_, f, r, g, r', rfl, rfl⟩
    · exact h
    · exact ⟨_, _, rfl, rfl⟩
  obtain ⟨xs, ys, rfl, rfl⟩ := ex
  obtain ⟨a, us, rfl, ⟨o, n, e, c, d, _⟩, q⟩ := rp_tup ru
  obtain ⟨a', vs, rfl, ⟨o', n', e', c', d', _⟩, q'⟩ := rp_tup rv
  have hd' : depL xs + 1 ≤ 200 := hd
  have lx := lexR_rp hx hy ok (A := A) q q' (Nat.lt_of_le_of_lt (Nat.add_le_add_left (Nat.le_trans (Nat.le_of_succ_le hd') (by decide)) _) hu)
  have hq' : Q (cmpL xs ys == .lt) s := hq
  refine kat_lt e d e' d' ?_
  have lx' : LexR A s (decide (us.toArray.size < vs.toArray.size)) (us.toArray.toList.zip vs.toArray.toList) (cmpL xs ys == .lt) := by simpa using lx
  rcases hb with ⟨rfl, _⟩ | ⟨rfl, f, r, g, r', h1, h2⟩
  · exact katLex_of hq' (by simp) lx'
  · cases h1; cases h2
    obtain ⟨u1, us', rfl, ru1, q1⟩ := rpl_cons q
    obtain ⟨v1, vs', rfl, rv1, q1'⟩ := rpl_cons q'
    obtain ⟨t, rfl⟩ := rp_str ru1
    obtain ⟨t', rfl⟩ := rp_str rv1
    refine katLex_str hq' (fun hxy => ?_) fun hne => ?_
    · subst hxy
      have hx' := Bool.and_eq_true_iff.mp (show (_ && _) = true from hx)
      have hy' := Bool.and_eq_true_iff.mp (show (_ && _) = true from hy)
      have ok' : okL (.str f :: r) (.str f :: r') = true := ok
      rw [okL_cons, cmpV_refl hx'.1] at ok'
      have := lexR_rp hx'.2 hy'.2 ok' (A := A) q1 q1' (Nat.lt_of_le_of_lt (Nat.add_le_add_left (Nat.le_trans (Nat.le_max_right 0 (depL r)) (Nat.le_trans (Nat.le_succ _) hd')) _) (Nat.lt_of_le_of_lt (Nat.le_add_right _ 2) hu))
      rw [cmpL_cons, cmpV_refl hx'.1]
      simpa [List.zip] using this
    · rw [cmpL_cons]
      have : (cmpV (.str f) (.str g) == .lt) = decide (f.cps.toList < g.cps.toList) := by rw [cmpV_str]; exact cmpN_lt
      cases e : cmpV (.str f) (.str g) with
      | eq => exact absurd (str_ext (cmpN_eq.mp e)) hne
      | lt => rw [e] at this; exact this
      | gt => rw [e] at this; exact this
end Mine
namespace Mine
open SeqAt

noncomputable def ltIx (xs : List V) (i j : Nat) : Bool := cmpV (xs.getD i (.int 0)) (xs.getD j (.int 0)) == .lt
theorem getD_srt {xs : List V} (h : ∀ x ∈ xs, x.srt = true) (i : Nat) : (xs.getD i (.int 0)).srt = true := by
  rw [List.getD_eq_getElem?_getD]
  cases e : xs[i]? with
  | none => rfl
  | some x => exact h x (List.mem_of_getElem? e)
theorem ltIx_ord {xs : List V} (h : ∀ x ∈ xs, x.srt = true) : Ord (ltIx xs) where
  tot := fun i j e => by
    unfold ltIx at *
    rw [cmpV_swap (getD_srt h i) (getD_srt h j)]
    have e := eq_of_beq e
    rw [e]; rfl
  tr := fun i j k e1 e2 => by
    unfold ltIx at *
    have f : ∀ a b, (cmpV (xs.getD a (.int 0)) (xs.getD b (.int 0)) == .lt) = false ↔ cmpV (xs.getD b (.int 0)) (xs.getD a (.int 0)) ≠ .gt := fun a b => by
      rw [cmpV_swap (getD_srt h a) (getD_srt h b)]
      cases cmpV (xs.getD a (.int 0)) (xs.getD b (.int 0)) <;> simp
    rw [f] at e1 e2 ⊢
    exact cmpV_trans (getD_srt h i) (getD_srt h j) (getD_srt h k) e1 e2
theorem range_getD {α : Type} (d : α) (xs : List α) : (List.range xs.length).map (fun i => xs.getD i d) = xs := by
  apply List.ext_getElem
  · simp
  · intro i h1 h2
    simp at h1
    simp [h1]
theorem perm_out {xs : List V} {p : Array Nat} (hp : Pm xs.length p) : (p.toList.map fun i => xs.getD i (.int 0)).Perm xs := by
  have h1 := (Array.perm_iff_toList_perm.mp hp).map fun i => xs.getD i (.int 0)
  have e : (List.range xs.length).toArray.toList = List.range xs.length := by simp
  rw [e, range_getD] at h1
  exact h1
theorem sorted_out' {xs : List V} (h : ∀ x ∈ xs, x.srt = true) {p : Array Nat} (hp : Pm xs.length p) (nd : NonDec (ltIx xs) p xs.length) : (p.toList.map fun i => xs.getD i (.int 0)) = sortV xs := by
  refine sortV_eq h (perm_out hp) ?_
  rw [List.pairwise_iff_getElem]
  intro i j hi hj hij
  have hs := hp.size
  have hi' : i < p.size := by simpa using hi
  have hj' : j < p.size := by simpa using hj
  have := nd i j (Nat.le_of_lt hij) (by lia)
  unfold Le ltIx gp at this
  have e1 : p.getD i 0 = p[i] := by simp [Array.getD, hi']
  have e2 : p.getD j 0 = p[j] := by simp [Array.getD, hj']
  rw [e1, e2] at this
  rw [leV_of]
  have e3 : (p.toList.map fun i => xs.getD i (.int 0))[i] = xs.getD p[i] (.int 0) := by simp
  have e4 : (p.toList.map fun i => xs.getD i (.int 0))[j] = xs.getD p[j] (.int 0) := by simp
  rw [e3, e4, cmpV_swap (getD_srt h _) (getD_srt h _)]
  cases e : cmpV (xs.getD p[j] (.int 0)) (xs.getD p[i] (.int 0)) with
  | eq => simp
  | gt => simp
  | lt => rw [e] at this; cases this
theorem rpl_out {C : Cx} {h : Heap} {g : V → V} {vs : List Value} {xs : List V} (r : RpL C h vs (xs.map g)) : ∀ {l : List Nat}, (∀ i ∈ l, i < xs.length) → RpL C h (l.map fun i => vs.getD i .none) ((l.map fun i => xs.getD i (.int 0)).map g)
  | [], _ => .nil
  | i :: l, hl => by
    have hi := hl i List.mem_cons_self
    obtain ⟨v, e, q⟩ := r.get (i := i) (x := g xs[i]) (by rw [List.getElem?_map, List.getElem?_eq_getElem hi]; rfl)
    refine .cons ?_ (rpl_out r fun j hj => hl j (List.mem_cons_of_mem _ hj))
    show Rp C h (vs.getD i .none) (g (xs.getD i (.int 0)))
    rw [List.getD_eq_getElem?_getD, e, List.getD_eq_getElem?_getD, List.getElem?_eq_getElem hi]
    exact q

theorem katTups_of {C : Cx} {h : Heap} (T : V → Bool) : ∀ {vs : List Value} {xs : List V}, RpL C h vs xs → (∀ x ∈ xs, ∃ y r, x = .tup (y :: r) ∧ T y = true) → ∃ fs, KatTups h vs fs ∧ fs.length = vs.length ∧ ∀ f ∈ fs, ∃ y, Rp C h f y ∧ T y = true
  | _, _, .nil, _ => ⟨[], .nil, rfl, fun _ h => nomatch h⟩
  | _, _, .cons r q, hx => by
    obtain ⟨y, rest, e, ty⟩ := hx _ List.mem_cons_self
    obtain ⟨fs, k, hl, hf⟩ := katTups_of T q fun x h => hx x (List.mem_cons_of_mem _ h)
    subst e
    cases r with | tup l q' =>
    cases q' with | cons r1 q1 =>
    obtain ⟨o, n, e, c, d, _⟩ := l
    refine ⟨_ :: fs, .cons e c d (by simp; rfl) k, by simp [hl], fun f hf' => ?_⟩
    rcases List.mem_cons.mp hf' with rfl | hf'
    · exact ⟨_, r1, ty⟩
    · exact hf f hf'

noncomputable def isTupV : V → Bool | .tup _ => true | _ => false
noncomputable def isStrV : V → Bool | .str _ => true | _ => false
structure SortG (C : Cx) (g : V → V) (ks : List V) : Prop where
  srt : ∀ x ∈ ks, x.srt = true
  len : ks.length < 64
  kind : ∀ {prog : Program} {w : World} {A : Around} {s : Shared} {vs : List Value} {Q : SortKind → Shared → Prop}, RpL C s.heap vs (ks.map g) → A.units + 202 < cLine → 0 < ks.length →
    (∀ κ, CmpOk ks.length (ltIx ks) (kas_ask prog w A κ vs) s → Q κ s) → wpAny (model prog w) A (keyKind' vs.toArray) Q NoE s
theorem kind_gen {C : Cx} {prog : Program} {w : World} {A : Around} {s : Shared} {vs : List Value} {g : V → V} {ks : List V} {Q : SortKind → Shared → Prop} (T : V → Bool) (nm : String) (r : RpL C s.heap vs (ks.map g)) (h0 : 0 < ks.length)
    (hx : ∀ x ∈ ks, ∃ y r, g x = .tup (y :: r) ∧ T y = true) (hl : ∀ v y, Rp C s.heap v y → T y = true → Looks (model prog w) s.heap (typeOf v) (.type nm)) (hn : (Value.type nm == Value.type nm) = true)
    (cmp : ∀ x ∈ ks, ∀ y ∈ ks, ∀ u v, Rp C s.heap u (g x) → Rp C s.heap v (g y) → ∀ D : Bool → Shared → Prop, D (cmpV x y == .lt) s → wpAny (model prog w) A (keyLt' (tuples' (Value.type nm != Value.type "tuple")) u v) D (fun _ _ => False) s)
    (hq : ∀ κ, CmpOk ks.length (ltIx ks) (kas_ask prog w A κ vs) s → Q κ s) : wpAny (model prog w) A (keyKind' vs.toArray) Q NoE s := by
  have at_ : ∀ i, i < ks.length → ∃ x, x ∈ ks ∧ ks.getD i (.int 0) = x ∧ Rp C s.heap (vs.getD i .none) (g x) := fun i hi => by
    obtain ⟨v, e, q⟩ := r.get (i := i) (x := g ks[i]) (by rw [List.getElem?_map, List.getElem?_eq_getElem hi]; rfl)
    refine ⟨ks[i], List.getElem_mem hi, by rw [List.getD_eq_getElem?_getD, List.getElem?_eq_getElem hi]; rfl, ?_⟩
    rw [List.getD_eq_getElem?_getD, e]; exact q
  obtain ⟨fs, k, hl', hfs⟩ := katTups_of T r fun x hx' => by
    obtain ⟨y, hy, rfl⟩ := List.mem_map.mp hx'
    exact hx y hy
  refine kat_kind k (by rw [hl', r.length, List.length_map]; exact h0) (T := .type nm) (fun v hv => let ⟨y, ry, ty⟩ := hfs v hv; hl v y ry ty) hn (hq _ fun i j D hi hj hc => ?_)
  obtain ⟨x, hx, ex, rx⟩ := at_ i hi
  obtain ⟨y, hy, ey, ry⟩ := at_ j hj
  unfold ltIx at hc
  rw [ex, ey] at hc
  exact cmp x hx y hy _ _ rx ry D hc
theorem SortOk.g {C : Cx} {xs : List V} (ok : SortOk xs) : SortG C id xs where
  srt := ok.srt
  len := ok.len
  kind := fun {prog w A s vs Q} r hu h0 hq => by
    rcases ok.fst with hf | hf
    · refine kind_gen isTupV "tuple" r h0 (fun x hx => let ⟨_, r, e⟩ := hf x hx; ⟨_, r, e, rfl⟩) (fun v y ry ty => ?_) rfl (fun x hx y hy u v ru rv D hd => keyLt_tup ru rv (ok.srt x hx) (ok.srt y hy) (ok.ok x hx y hy) hu (ok.dep x hx) (.inl ?_) hd) hq
      · cases ry <;> first | (cases ty; done) | skip
        rename_i a us zs l q
        obtain ⟨o, n, e, c, d, _⟩ := l
        rw [← c]
        exact (Looks.ld e).andThen .now
      · obtain ⟨_, _, e1⟩ := hf x hx
        obtain ⟨_, _, e2⟩ := hf y hy
        exact ⟨rfl, _, _, e1, e2⟩
    · refine kind_gen isStrV "str" r h0 (fun x hx => let ⟨_, r, e⟩ := hf x hx; ⟨_, r, e, rfl⟩) (fun v y ry ty => ?_) rfl (fun x hx y hy u v ru rv D hd => keyLt_tup ru rv (ok.srt x hx) (ok.srt y hy) (ok.ok x hx y hy) hu (ok.dep x hx) (.inr ?_) hd) hq
      · cases ry <;> first | (cases ty; done) | skip
        exact Looks.of_pure rfl
      · obtain ⟨_, _, e1⟩ := hf x hx
        obtain ⟨_, _, e2⟩ := hf y hy
        exact ⟨rfl, _, _, _, _, e1, e2⟩

theorem list_sort_g {C : Cx} {g : V → V} {prog : Program} {w : World} {A : Around} {s : Shared} {a : Addr} {h₀ : Heap} {vs : List Value} {xs : List V} {n : Nat} {P : PySem.Fin → Shared → Prop} (ho : s.heap.get? a = some (seqObj "list" vs.toArray n)) (ha0 : h₀.get? a = Option.none) (k0 : Sub h₀ s.heap)
    (r : RpL C h₀ vs (xs.map g)) (ok : SortG C g xs) (hu : A.units + 202 < cLine)
    (h : ∀ out, RpL C h₀ out ((sortV xs).map g) → P (.done (.ret .none)) { s with heap := sortedHeap s.heap a vs out.toArray }) :
    wpAny (model prog w) A (Builtin.«list.sort» ⟨[.ref a], []⟩) P NoE s := by
  have hlen : vs.length = xs.length := by have := r.length; rwa [List.length_map] at this
  have h64 := ok.len
  rw [list_sort_plain]
  have ha : a < s.heap.objs.size := Heap.lt_size ho
  refine wpAny_bind (listItems_at ho rfl ?_)
  refine wpAny_bind (listUpdate_at ho rfl ?_ (by rw [List.size_toArray, sizeLine_eq]; lia) (Nat.zero_le _))
  obtain ⟨e1, ho1⟩ : ∃ e1, (s.heap.update a (Obj.mapSeq fun _ => #[])).get? a = some (seqObj "list" #[] e1) := ⟨_, get?_update_seq ho (fun _ => #[])⟩
  refine wpAny_bind (seqEpoch_at ho1 rfl ?_)
  refine wpAny_bind (wpAny_newTuple ?_ (by show vs.length ≤ _; rw [sizeLine_eq]; lia))
  refine wpAny_bind (wpAny_newList ?_ (Nat.zero_le _))
  refine wpAny_holding ?_
  have ho6 : (((s.heap.update a (Obj.mapSeq fun _ => #[])).push (seqObj "tuple" vs.toArray 0)).push (seqObj "list" #[] 0)).get? a = some (seqObj "list" #[] e1) :=
    Heap.get?_push_of_some _ (Heap.get?_push_of_some _ ho1)
  have k6 : Sub h₀ (((s.heap.update a (Obj.mapSeq fun _ => #[])).push (seqObj "tuple" vs.toArray 0)).push (seqObj "list" #[] 0)) := fun b o e => by
    refine Heap.get?_push_of_some _ (Heap.get?_push_of_some _ ?_)
    rw [Heap.get?_update_ne _ _ _ _ (fun q => by rw [q, ha0] at e; cases e)]
    exact k0 _ _ e
  show wpAny (model prog w) A _ P NoE { s with heap := ((s.heap.update a (Obj.mapSeq fun _ => #[])).push (seqObj "tuple" vs.toArray 0)).push (seqObj "list" #[] 0) }
  dsimp only
  have hsz : vs.toArray.size = vs.length := by simp
  by_cases h2 : vs.toArray.size < 2
  · rw [if_pos h2, if_pos h2]
    refine wpAny_bind (wpAny_pure ?_)
    rw [StateT.run_pure]
    refine wpAny_bind (wpAny_pure ?_)
    dsimp only
    refine wpAny_bind (seqEpoch_at ho6 rfl ?_)
    have e7 : (vs.toArray.zip vs.toArray).map (·.2) = vs.toArray := by
      apply Array.ext <;> simp
    have earr : arrOf (SortSt.mk' general' (vs.toArray.zip vs.toArray) #[] 7 none) = vs.toArray.zip vs.toArray := rfl
    rw [earr, e7]
    refine wpAny_bind (listUpdate_at ho6 rfl ?_ (Nat.zero_le _) (by rw [List.size_toArray, sizeLine_eq]; (exact Nat.le_of_lt (Nat.lt_of_lt_of_le (by assumption) (by decide)))))
    simp only [bne_self_eq_false, Bool.false_eq_true, if_false]
    refine wpAny_pure (h vs ?_)
    have : sortV xs = xs := by
      match xs, hlen, hsz with
      | [], _, _ => rfl
      | [x], _, _ => rfl
      | x :: y :: z, hl, hs => rw [hs, hl] at h2; simp at h2; lia
    rw [this]; exact r
  · rw [if_neg h2, if_neg h2]
    have h2' : 2 ≤ vs.length := by (exact Nat.le_of_not_lt (by assumption))
    refine wpAny_bind (wpAny_mono (ok.kind (r.up k6) hu (by lia) (Q := fun κ s' => s' = { s with heap := ((s.heap.update a (Obj.mapSeq fun _ => #[])).push (seqObj "tuple" vs.toArray 0)).push (seqObj "list" #[] 0) } ∧ CmpOk xs.length (ltIx xs) (kas_ask prog w A κ vs) s') fun κ hc => ⟨rfl, hc⟩) (fun κ s0 hk => ?_) fun _ _ x => x)
    obtain ⟨rfl, hc⟩ := hk
    have hs := sort_ok (n := xs.length) (ltIx_ord ok.srt) hc (Q := fun p s' => s' = _ ∧ Pm xs.length p ∧ NonDec (ltIx xs) p xs.length) (by lia) fun p hp nd => ⟨rfl, hp, nd⟩
    rw [← hlen] at hs
    refine wpAny_bind (wpAny_mono (kat_run (Q := fun st' s' => ∃ p : Array Nat, p.size = vs.length ∧ arrOf st' = p.map (kas_item (vs.toArray.zip vs.toArray)) ∧ failedOf st' = none ∧ (s' = _ ∧ Pm vs.length p ∧ NonDec (ltIx xs) p vs.length))
      rfl h2' (by lia) (fun p' st' s' a1 a2 a3 a4 => ⟨p', a1, a2, a3, a4⟩) hs) ?_ fun _ _ e => e)
    rintro ⟨⟨⟩, st'⟩ s' ⟨p, hp, har, hf, rfl, pm, nd⟩
    dsimp only
    rw [hlen] at pm nd
    have hout := kat_snds rfl har
    refine wpAny_bind (seqEpoch_at ho6 rfl ?_)
    rw [hout]
    refine wpAny_bind (listUpdate_at ho6 rfl ?_ (Nat.zero_le _) (by rw [List.size_toArray, List.length_map, Array.length_toList, hp, sizeLine_eq]; lia))
    rw [hf]
    simp only [bne_self_eq_false, Bool.false_eq_true, if_false]
    refine wpAny_pure (h _ ?_)
    rw [← sorted_out' ok.srt pm nd]
    exact rpl_out r fun i hi => by
      have := (Array.perm_iff_toList_perm.mp pm).mem_iff.mp hi
      simpa using this

theorem list_sort_v {C : Cx} {prog : Program} {w : World} {A : Around} {s : Shared} {a : Addr} {h₀ : Heap} {vs : List Value} {xs : List V} {n : Nat} {P : PySem.Fin → Shared → Prop} (ho : s.heap.get? a = some (seqObj "list" vs.toArray n)) (ha0 : h₀.get? a = Option.none) (k0 : Sub h₀ s.heap)
    (r : RpL C h₀ vs xs) (ok : SortOk xs) (hu : A.units + 202 < cLine)
    (h : ∀ out, RpL C h₀ out (sortV xs) → P (.done (.ret .none)) { s with heap := sortedHeap s.heap a vs out.toArray }) :
    wpAny (model prog w) A (Builtin.«list.sort» ⟨[.ref a], []⟩) P NoE s :=
  list_sort_g (C := C) (g := id) ho ha0 k0 (by rw [List.map_id]; exact r) ok.g hu fun out ro => h out (by rw [List.map_id] at ro; exact ro)

theorem call_sorted_v {C : Cx} {g : V → V} {prog : Program} {w : World} {A : Around} {s : Shared} {h₀ : Heap} {l : Addr} {vs : List Value} {xs : List V} {Q : Value → Shared → Prop} (k0 : Sub h₀ s.heap) (hl : s.heap.IsList l vs.toArray) (r : RpL C h₀ vs (xs.map g)) (ok : SortG C g xs) (hu : A.units + 210 < cLine)
    (h : ∀ out, RpL C h₀ out ((sortV xs).map g) → Q (.ref (s.heap.objs.size + 1)) { s with heap := sortedAll s.heap vs out.toArray }) :
    wpAny (model prog w) A (call (.builtin "sorted") [.ref l]) Q NoE s := by
  have hlen : vs.length = xs.length := by have := r.length; rwa [List.length_map] at this
  have h64 := ok.len
  refine Calls.call_function_entry kind_sorted plain_sorted entry_sorted (args_sorted1 _) ?_
  unfold Builtin.«sorted»
  refine wpAny_bind (m := checkCount "sorted" 1 1 _) (wpAny_pure ?_)
  refine wpAny_bind (collect_list hl ?_ (by rw [sizeLine_eq]; lia))
  refine wpAny_bind (wpAny_newList ?_ (by rw [sizeLine_eq]; lia))
  have hsz : ((s.heap.push (seqObj "list" #[] 0)).update s.heap.objs.size (Obj.mapSeq (· ++ vs.toArray))).objs.size = s.heap.objs.size + 1 := by
    rw [Heap.size_update, size_push']
  have hoL : (((s.heap.push (seqObj "list" #[] 0)).update s.heap.objs.size (Obj.mapSeq (· ++ vs.toArray))).push (seqObj "list" vs.toArray 0)).get? (s.heap.objs.size + 1) = some (seqObj "list" vs.toArray 0) := by
    rw [← hsz]; exact Heap.get?_push_size _ rfl
  have keep : Sub s.heap (((s.heap.push (seqObj "list" #[] 0)).update s.heap.objs.size (Obj.mapSeq (· ++ vs.toArray))).push (seqObj "list" vs.toArray 0)) := fun b o q => by
    have hlt : b < s.heap.objs.size := Heap.lt_size q
    rw [Heap.get?_push_ne _ _ _ (by rw [hsz]; exact Nat.ne_of_lt (Nat.lt_succ_of_lt hlt)), Heap.get?_update_ne _ _ _ _ (Nat.ne_of_lt hlt), Heap.get?_push_ne _ _ _ (Nat.ne_of_lt hlt)]
    exact q
  have nn : s.heap.get? (s.heap.objs.size + 1) = Option.none := by
    cases q : s.heap.get? (s.heap.objs.size + 1) with
    | none => rfl
    | some o => exact absurd (Heap.lt_size q) (Nat.not_lt.mpr (Nat.le_add_right _ _))
  have nn0 : h₀.get? (s.heap.objs.size + 1) = Option.none := by
    cases q : h₀.get? (s.heap.objs.size + 1) with
    | none => rfl
    | some o => have := k0 _ _ q; rw [nn] at this; cases this
  show wpAny _ _ _ _ _ { s with heap := ((s.heap.push (seqObj "list" #[] 0)).update s.heap.objs.size (Obj.mapSeq (· ++ vs.toArray))).push (seqObj "list" vs.toArray 0) }
  rw [hsz]
  refine wpAny_bind (wpAny_holding (wpAny_call_entry slot_list_sort ⟨_, hoL, rfl⟩ entry_list_sort (list_sort_g hoL nn0 (k0.trans keep) r ok (show A.units + 1 + 1 + 202 < cLine by lia) fun out a1 => ⟨_, rfl, ?_⟩) (args_list_sort _)))
  exact wpAny_pure ⟨_, rfl, h out a1⟩

section
variable {C : Cx} {n : Nat} {env : Env} {σ σ' : List (Str × V)} {τ τ₁ τ₂ τ₃ : Option Nat} {wv : Str → Bool}
theorem sortedAll_facts (h : Heap) (vs out : List Value) : Sub h (sortedAll h vs out.toArray) ∧ IsLst (sortedAll h vs out.toArray) (h.objs.size + 1) out := by
  have hsz : ((h.push (seqObj "list" #[] 0)).update h.objs.size (Obj.mapSeq (· ++ vs.toArray))).objs.size = h.objs.size + 1 := by
    rw [Heap.size_update, size_push']
  have keep : Sub h (((h.push (seqObj "list" #[] 0)).update h.objs.size (Obj.mapSeq (· ++ vs.toArray))).push (seqObj "list" vs.toArray 0)) := fun b o q => by
    have hlt : b < h.objs.size := Heap.lt_size q
    rw [Heap.get?_push_ne _ _ _ (by rw [hsz]; exact Nat.ne_of_lt (Nat.lt_succ_of_lt hlt)), Heap.get?_update_ne _ _ _ _ (Nat.ne_of_lt hlt), Heap.get?_push_ne _ _ _ (Nat.ne_of_lt hlt)]
    exact q
  have hoL : (((h.push (seqObj "list" #[] 0)).update h.objs.size (Obj.mapSeq (· ++ vs.toArray))).push (seqObj "list" vs.toArray 0)).get? (h.objs.size + 1) = some (seqObj "list" vs.toArray 0) := by
    rw [← hsz]; exact Heap.get?_push_size _ rfl
  unfold sortedAll sortedHeap
  refine ⟨fun b o e => ?_, ?_⟩
  · have ne : b ≠ h.objs.size + 1 := Nat.ne_of_lt (Nat.lt_succ_of_lt (Heap.lt_size e))
    rw [Heap.get?_update_ne _ _ _ _ ne]
    refine Heap.get?_push_of_some _ (Heap.get?_push_of_some _ ?_)
    rw [Heap.get?_update_ne _ _ _ _ ne]
    exact keep b o e
  · obtain ⟨e1, ho1⟩ : ∃ e1, ((((h.push (seqObj "list" #[] 0)).update h.objs.size (Obj.mapSeq (· ++ vs.toArray))).push (seqObj "list" vs.toArray 0)).update (h.objs.size + 1) (Obj.mapSeq fun _ => #[])).get? (h.objs.size + 1) = some (seqObj "list" #[] e1) := ⟨_, get?_update_seq hoL (fun _ => #[])⟩
    exact ⟨_, get?_update_seq (Heap.get?_push_of_some _ (Heap.get?_push_of_some _ ho1)) fun _ => out.toArray⟩

theorem EvN_sortedG {f p pos e} {g : V → V} {xs : List V} (b : BuiltAt C f (.builtin "sorted")) (h : Ev C n e env σ τ (.lst (xs.map g)) τ₁) (ok : SortG C g xs) (k : env.kindOf f = some .globalImplicit)
    (hst : (starEach [e] env).any (·.1) = false := by rfl) (he : starEach [e] env = (false, eval e env) :: starEach [] env := by rfl) (hd : (f == ("__debug__" : Str)) = false := by decide) : EvN C n (.Call (.Name f p) [e] [] pos) env σ τ ((sortV xs).map g) τ₁ := fun A R M s S => by
  show wpAny _ _ (do callWith pos (← eval (.Name f p) env) [] (backTo pos (starEach [e] env)) []) _ _ _
  refine wpAny_bind (wp_built S b k hd ?_)
  refine callWith_builtin (by rw [backTo_any]; exact hst) (evalArgs_ev (EvL_cons h EvL_nil he) he R S fun vs s' S' r' k' => ?_)
  obtain ⟨v, rfl, r⟩ := repL_one r'
  obtain ⟨a, us, rfl, l, q⟩ := rep_lst r
  have l' : s'.heap.IsList a us.toArray := isList_of_hid l
  have un := R.un
  refine call_sorted_v (hid_sub _ _) l' q ok (by lia) fun out ro => ?_
  obtain ⟨k1, l1⟩ := sortedAll_facts s'.heap us out
  have nn : s'.heap.get? (s'.heap.objs.size + 1) = Option.none := by
    cases q : s'.heap.get? (s'.heap.objs.size + 1) with
    | none => rfl
    | some o => exact absurd (Heap.lt_size q) (Nat.not_lt.mpr (Nat.le_add_right _ _))
  have kp : Keeps s' { s' with heap := sortedAll s'.heap us out.toArray } := ⟨_, s'.toks, rfl, k1⟩
  have fr : ∀ a ∈ [s'.heap.objs.size + 1], s'.heap.get? a = Option.none := fun a ha => by simp at ha; subst ha; exact nn
  refine ⟨S'.keeps kp, ⟨_, out, rfl, kept_none S'.toGs k' nn, not_low (h' := s'.heap) S'.toGs nn, l1, S'.toGs.more (N := [s'.heap.objs.size + 1]) (tk := s'.toks) k1 fr (fun a ha => by simp at ha; subst ha; obtain ⟨n, e⟩ := l1; exact ⟨_, e⟩), ro.up (hid_more (N := [s'.heap.objs.size + 1]) k1 fr)⟩, k'.trans (.of kp)⟩
theorem EvN_sorted {f p pos e} {xs : List V} (b : BuiltAt C f (.builtin "sorted")) (h : Ev C n e env σ τ (.lst xs) τ₁) (ok : SortOk xs) (k : env.kindOf f = some .globalImplicit)
    (hst : (starEach [e] env).any (·.1) = false := by rfl) (he : starEach [e] env = (false, eval e env) :: starEach [] env := by rfl) (hd : (f == ("__debug__" : Str)) = false := by decide) : EvN C n (.Call (.Name f p) [e] [] pos) env σ τ (sortV xs) τ₁ := by
  have := EvN_sortedG (p := p) (pos := pos) (g := id) (xs := xs) b (by rw [List.map_id]; exact h) ok.g k hst he hd
  rwa [List.map_id] at this
end
end Mine
namespace Mine
open SeqAt
open AutoSeq1 (wpAny_loadPart')
open MeetsSeq

theorem updSeq {M : Model} {A : Around} {E : Value → Shared → Prop} {s : Shared} {a : Addr} {o : Obj} {xs : Array Value} {n : Nat} {f : Array Value → Array Value} {Q : Unit → Shared → Prop} (ho : s.heap.get? a = some o) (hd : o.data = .seq xs n) (hz : xs.size ≤ sizeLine) (hz' : (f xs).size ≤ sizeLine + 1)
    (h : Q () { s with heap := s.heap.update a (Obj.mapSeq f) }) : wpAny M A (updateSeq a f) Q E s := wpAny_updateSeq ho hd h hz hz'
theorem removeLoop (l : Addr) (items : Array Value) (n : Nat) (x : Value) (e : Nat → Bool) (j : Nat) (hj : j < items.size) (hit : e j = true) (k : Nat) (hs1 : items.size ≤ sizeLine) :
    ∀ i : Nat, j - i = k → i ≤ j → (∀ m, i ≤ m → m < j → e m = false) → Meets (Builtin.«list.remove.loop» ⟨[.ref l, x, rawInt i], []⟩)
      (fun A R s => s.heap.get? l = some { cls := .type "list", dict := none, data := .seq items n, slots := #[] } ∧ (∀ m (hm : m < items.size), EqAt A.in1 s items[m] x (e m)) ∧ R (.ok (.ret .none)) { s with heap := s.heap.update l (Obj.mapSeq fun xs => xs.eraseIdxIfInBounds j) }) := by
  induction k with
  | zero =>
    intro i hk hij hno prog w A R s h
    obtain ⟨hp, g, d, tk, os⟩ := s; obtain ⟨hl, he, h⟩ := h
    have hij' : i = j := by lia
    subst hij'
    wp_walk using wpAny_loadPart' hl
    have hi : items[((i : Nat) : Int).toNat]? = some items[i] := by simp [hj]
    rw [hi]
    refine wpAny_bind (he _ hj prog w _ _ ?_)
    rw [hit]
    have hz' : (items.eraseIdxIfInBounds i).size ≤ sizeLine + 1 := Nat.le_trans (size_erased items _) (Nat.le_succ_of_le hs1)
    wp_walk using updSeq hl rfl hs1 hz', wpAny_loadPart' hl
    simpa using h
  | succ k ih =>
    intro i hk hij hno prog w A R s h
    obtain ⟨hp, g, d, tk, os⟩ := s; obtain ⟨hl, he, h⟩ := h
    have hlt : i < items.size := by (exact Nat.lt_of_le_of_lt (by assumption) (by assumption))
    wp_walk using wpAny_loadPart' hl
    have hi : items[((i : Nat) : Int).toNat]? = some items[i] := by simp [hlt]
    have hc : ((i : Int) + 1) = ((i + 1 : Nat) : Int) := by push_cast; rfl
    rw [hi]
    refine wpAny_bind (he _ hlt prog w _ _ ?_)
    rw [hno i (Nat.le_refl _) (by lia)]
    wp_walk
    rw [hc]
    exact ⟨plainId_quiet plain_remove_loop _, codeAny_builtin entry_remove_loop (by
      rw [Around.under_plainId plain_remove_loop _]
      exact ih (i + 1) (by lia) (by lia) (fun m h1 h2 => hno m (by (exact Nat.le_of_lt (by assumption))) h2) prog w A R _ ⟨hl, he, h⟩)⟩

theorem removeAt (l : Addr) (items : Array Value) (n : Nat) (x : Value) (e : Nat → Bool) (j : Nat) (hj : j < items.size)
    (hit : e j = true) (hno : ∀ m, m < j → e m = false) (hs1 : items.size ≤ sizeLine) :
    Meets (Builtin.«list.remove» ⟨[.ref l, x], []⟩)
      (fun A R s => s.heap.get? l = some { cls := .type "list", dict := none, data := .seq items n, slots := #[] } ∧ (∀ m (hm : m < items.size), EqAt A.in1 s items[m] x (e m)) ∧ R (.ok (.ret .none)) { s with heap := s.heap.update l (Obj.mapSeq fun xs => xs.eraseIdxIfInBounds j) }) := by
  intro prog w A R s h
  obtain ⟨hp, g, d, tk, os⟩ := s; obtain ⟨hl, he, h⟩ := h
  wp_walk using wpAny_loadPart' hl
  exact ⟨plainId_quiet plain_remove_loop _, codeAny_builtin entry_remove_loop (by
    rw [Around.under_plainId plain_remove_loop _]
    exact removeLoop l items n x e j hj hit _ hs1 0 rfl (Nat.zero_le _) (fun m _ h2 => hno m h2) prog w A R _ ⟨hl, he, h⟩)⟩

noncomputable def eraseV (x : V) : List V → List V
  | [] => []
  | y :: r => if cmpV y x == .eq then r else y :: eraseV x r
theorem eraseV_at {x : V} : ∀ {xs : List V}, (∃ y ∈ xs, (cmpV y x == .eq) = true) → ∃ j, j < xs.length ∧ (∀ y, xs[j]? = some y → (cmpV y x == .eq) = true) ∧ (∀ m, m < j → ∀ y, xs[m]? = some y → (cmpV y x == .eq) = false) ∧ xs.eraseIdx j = eraseV x xs
  | [], ⟨_, h, _⟩ => nomatch h
  | y :: r, ⟨z, hz, e⟩ => by
    cases c : (cmpV y x == .eq) with
    | true => exact ⟨0, by simp, fun y' h => by cases h; exact c, fun m h => absurd h (Nat.not_lt_zero _), by unfold eraseV; rw [if_pos c]; rfl⟩
    | false =>
      obtain ⟨j, h1, h2, h3, h4⟩ := eraseV_at (x := x) (xs := r) (by
        rcases List.mem_cons.mp hz with rfl | hz
        · rw [c] at e; cases e
        · exact ⟨z, hz, e⟩)
      refine ⟨j + 1, by simpa using h1, fun y' h => h2 y' (by simpa using h), fun m hm y' h => ?_, ?_⟩
      · cases m with
        | zero => cases h; exact c
        | succ m => exact h3 m (by (exact Nat.le_of_succ_le_succ (by assumption))) y' (by simpa using h)
      · unfold eraseV; rw [if_neg (by rw [c]; simp)]
        rw [← h4]; rfl
theorem RpL.erase {C : Cx} {h : Heap} : ∀ {vs xs} (j : Nat), RpL C h vs xs → RpL C h (vs.eraseIdx j) (xs.eraseIdx j)
  | _, _, _, .nil => .nil
  | _, _, 0, .cons a b => b
  | _, _, j + 1, .cons a b => .cons a (b.erase j)

section
variable {C : Cx} {n : Nat} {env : Env} {σ σ' : List (Str × V)} {τ τ₁ τ₂ τ₃ : Option Nat} {wv : Str → Bool}
theorem Ex1_remove {x p1 p2 p3 p4} {e : PySem.Expr} {xs : List V} {y : V} {P : Out → Prop} (he : Ev C n e env σ τ y τ₁) (hx : σ.lookup x = some (.oL xs)) (hs1 : ∀ z ∈ xs, z.srt = true) (hs2 : y.srt = true) (hd1 : ∀ z ∈ xs, z.dep ≤ 200) (hin : ∃ z ∈ xs, (cmpV z y == .eq) = true) (hl : xs.length ≤ sizeLine) (h : P (.next ((x, .oL (eraseV y xs)) :: σ) τ₁)) (i : isVar env x = true)
    (hb : attributeBase (.Name x p1) "remove" env (eval (.Name x p1) env) = eval (.Name x p1) env := by rfl)
    (hfew : ((backTo p3 (starEach [e] env)).all (fun x => !x.1) && (backToKw p3 (keywordEach [] env)).all (fun x => x.1.isSome)
      && decide (([e] : List PySem.Expr).length + ([] : List Keyword).length + (if ([] : List Keyword).isEmpty then 0 else 1) < 30)) = true := by rfl) (hline : (p2.endLine == p3.line) = true := by rfl)
    (hi : interactive env = false := by rfl) (hs : swapsWith (.Call (.Attribute (.Name x p1) "remove" p2) [e] [] p3) none p4.line env = pure false := by rfl)
    (hst : (starEach [e] env).any (·.1) = false := by rfl) (hse : starEach [e] env = (false, eval e env) :: starEach [] env := by rfl) (hd : (x == ("__debug__" : Str)) = false := by decide) (hc : (x == ("__classdict__" : Str)) = false := by decide) :
    Ex1 C n (.Expr (.Call (.Attribute (.Name x p1) "remove" p2) [e] [] p3) p4) env σ τ P := fun A R s₀ M₀ W O ρ s F =>
  ownList_wp PySem.F.slot_list_remove PySem.F.type_list_remove R F he hx i (fun s₁ a v vs S₁ r l q aM Q k => by
    obtain ⟨m, e⟩ := id l
    obtain ⟨j, hj, ht, hf, hj2⟩ := eraseV_at hin
    have un := R.un
    have q' : RpL C s₁.heap vs xs := q.up (hid_sub _ _)
    have ry : Rp C s₁.heap v y := r.rp (plain_pure (srt_plain hs2))
    refine call_meets PySem.F.slot_list_remove ⟨_, e, rfl⟩ PySem.F.entry_list_remove (PySem.F.args_list_remove_2 _ _) (removeAt a vs.toArray m v (fun i => cmpV (xs.getD i (.int 0)) y == .eq) j (by simpa [q.length] using hj) ?_ (fun m hm => ?_) (by simpa [q.length] using hl)) ⟨e, fun m hm => ?_, ?_⟩
    · have := ht _ (List.getElem?_eq_getElem hj)
      show (cmpV (xs.getD _ (.int 0)) y == .eq) = _
      rw [List.getD_eq_getElem?_getD, List.getElem?_eq_getElem hj]
      exact this
    · have hm' : m < xs.length := by lia
      have := hf m hm _ (List.getElem?_eq_getElem hm')
      show (cmpV (xs.getD _ (.int 0)) y == .eq) = _
      rw [List.getD_eq_getElem?_getD, List.getElem?_eq_getElem hm']
      exact this
    · have hm' : m < xs.length := by simpa [q.length] using hm
      obtain ⟨u, eu, ru⟩ := q'.get (List.getElem?_eq_getElem hm')
      have e2 : vs.toArray[m] = u := by
        have := List.getElem?_eq_some_iff.mp eu
        simpa using this.2
      rw [e2, List.getD_eq_getElem?_getD, List.getElem?_eq_getElem hm']
      have dd := hd1 _ (List.getElem_mem hm')
      exact eqAt_rp ru ry (hs1 _ (List.getElem_mem hm')) hs2 (show A.units + 1 + (xs[m]).dep < cLine by lia)
    · have sb : Heap.SameBut a s₁.heap (s₁.heap.update a (Obj.mapSeq fun x => x.eraseIdxIfInBounds j)) := Heap.SameBut.update ..
      have sb' : ∀ b o, b ≠ a → s₁.heap.get? b = some o → (s₁.heap.update a (Obj.mapSeq fun x => x.eraseIdxIfInBounds j)).get? b = some o := fun b o nb e => (sb.2 b nb).trans e
      have up := upOwn aM sb'
      have ll := mapSeq_at l (fun x => x.eraseIdxIfInBounds j)
      have e3 : (vs.toArray.eraseIdxIfInBounds j).toList = vs.eraseIdx j := by simp
      rw [e3] at ll
      have := k _ s₁.toks (vs.eraseIdx j) sb' ll (hj2 ▸ (q.erase j).up up)
      exact this) h hb hfew hline hi hs hst hse hd hc
end
end Mine
namespace Mine

section
variable {C : Cx} {n : Nat} {env : Env} {σ σ' : List (Str × V)} {τ τ₁ τ₂ τ₃ : Option Nat} {wv : Str → Bool}

theorem swap_store {A : Around} {s₀ : Shared} {M₀ W O : List Addr} {ρ : Str → Option Value} {s : Shared} {t : Addr} {v1 v2 : Value} {y1 y2 : V} {a b : Str} {Q : Unit → Shared → Prop} (R : Room A n) (F : Fw C wv s₀ M₀ W env σ τ O ρ s)
    (l : IsTup s.heap t [v1, v2]) (r1 : Rep C s.heap (W ++ (O ++ M₀)) v1 y1) (o1 : y1.own = false) (r2 : Rep C s.heap (W ++ (O ++ M₀)) v2 y2)
    (p2 : y2.own = true → ∃ a, v2 = .ref a ∧ a ∈ O ∧ a ∉ W ∧ ∀ z w, σ.lookup z = some w → isVar env z = true → w.own = true → ρ z ≠ some (.ref a)) (ha : ownVar env a = true ∧ wv a = true) (hb : ownVar env b = true ∧ wv b = true)
    (h : ∀ ρ' s', Fw C wv s₀ M₀ W env ((a, y1) :: (b, y2) :: σ) τ O ρ' s' → Q () s') :
    wpAny (model C.prog C.w) A (do let items ← unpackItems (.ref t) 2 none; assignInOrder [bindName env b, bindName env a] items.reverse) Q NoE s := by
  refine wpAny_bind (wpAny_unpackItems_tuple (items := [v1, v2].toArray) R.hd l.isTuple fun h' he => ?_)
  have kk : Keeps s { s with heap := h' } := ⟨h', s.toks, rfl, fun b o e => he b o (Nat.ne_of_lt (Heap.lt_size e)) e⟩
  have G' := F.gs.keeps kk
  have F1 : Fw C wv s₀ M₀ W env σ τ O ρ { s with heap := h' } := F.then (.of kk) G'
  have r2' := r2.keeps kk F.gs.mT
  have r1' := r1.keeps kk F.gs.mT
  show wpAny _ _ (do holding [v1] (bindName env b v2); assignInOrder [bindName env a] [v1]) _ _ _
  have hW : ∀ x ∈ W, x ∈ W ++ (O ++ M₀) := fun x hx => List.mem_append_left _ hx
  refine wpAny_bind (wpAny_holding (wpAny_bindName (F1.set r2' p2 hb.1 hb.2 fun s₂ F2 k2 => ?_)))
  have r1'' : Rep C s₂.heap (W ++ (O ++ M₀)) v1 y1 := by
    have up : Sub (hid h' (W ++ (O ++ M₀))) (hid s₂.heap (W ++ (O ++ M₀))) := hid_mono fun b o nb e => k2 b o (fun z => nb (hW b z)) e
    exact r1'.move up fun o => by rw [o1] at o; cases o
  show wpAny _ _ (do holding [] (bindName env a v1); assignInOrder [] []) _ _ _
  exact wpAny_bind (wpAny_holding (wpAny_bindName (F2.set r1'' (notOwn o1) ha.1 ha.2 fun s₃ F3 k3 => wpAny_pure (h _ s₃ F3))))

theorem Ex1_swap_new {a b : Str} {p q k tp e1 k' vp pos lp} {y1 : V} {P : Out → Prop} (h : Ev C n e1 env σ τ y1 τ₁) (p1 : y1.pure = true) (ha : ownVar env a = true) (hb : ownVar env b = true)
    (hP : P (.next ((a, y1) :: (b, .oL []) :: σ) τ₁))
    (he : starEach [e1, .List [] lp] env = [(false, eval e1 env), (false, eval (.List [] lp) env)] := by rfl)
    (hs : swapsWithSole [.Tuple [.Name a p, .Name b q] k tp] (.Tuple [e1, .List [] lp] k' vp) pos.line env = pure false := by rfl)
    (hw : swappedStores [.Tuple [.Name a p, .Name b q] k tp] (.Tuple [e1, .List [] lp] k' vp) env = pure (some [a, b]) := by rfl) :
    Ex1 C n (.Assign [.Tuple [.Name a p, .Name b q] k tp] (.Tuple [e1, .List [] lp] k' vp) pos) env σ τ P := fun A R s₀ M₀ W O ρ s F => by
  rw [exec_Assign]
  refine wpAny_bind (wpAny_standAt ?_)
  rw [hs]
  refine wpAny_bind (wpAny_pure ?_)
  rw [if_neg (by decide)]
  refine wpAny_bind (wpAny_Tuple (wpAny_items_cons (wpAny_mono (h A R _ s F.st) (fun v s₁ zz => and3 zz fun S₁ r₁ k₁ => ?_) fun _ _ x => x) he))
  refine wpAny_items_cons (wpAny_mono ((EvN_list EvL_nil : EvN C n (.List [] lp) env σ τ₁ [] τ₁) A R _ s₁ S₁) (fun v2 s₂ zz => ?_) fun _ _ x => x)
  obtain ⟨S₂, ⟨c, vs, e, fr, cM, l, G, ql⟩, k₂⟩ := zz
  subst e
  refine wpAny_items_nil ⟨by rw [sizeLine_eq]; simp, ?_⟩
  rw [hw]
  refine wpAny_bind (wpAny_pure ?_)
  have F1 := F.then k₁ S₁.toGs
  have F2 := F1.gain (N := [c]) k₂ G fun b hb => by simp at hb; subst hb; exact fr
  have al := own_alive F1 fr
  have kp := kpPush s₂ { cls := .type "tuple", data := .seq #[v, .ref c] }
  have F3 := F2.then (.of kp) (F2.gs.keeps kp)
  have rr1 : Rep C s₂.heap (W ++ (([c] ++ O) ++ M₀)) v y1 := by
    have h1 : Rep C s₂.heap (W ++ (O ++ M₀)) v y1 := r₁.kept k₂ F.gs.mT
    have h2 := (rep_pure p1).mp (r₁ : Rep C s₁.heap _ v y1)
    obtain ⟨h', tk, rfl, kk⟩ := k₂
    refine (rep_pure p1).mpr (h2.up (hid_up (fun b o nb e => kk b o (fun t => nb (F.gs.mT b t)) e) fun b o nb e z => ?_))
    simp only [List.mem_append, List.mem_cons, List.not_mem_nil, or_false] at z nb
    rcases z with z | (z | z) | z
    · exact nb (.inl z)
    · rw [z, fr] at e; cases e
    · exact nb (.inr (.inl z))
    · exact nb (.inr (.inr z))
  have r2 : Rep C s₂.heap (W ++ (([c] ++ O) ++ M₀)) (.ref c) (.oL []) := ⟨c, vs, rfl, by simp, fun t => cM (F.gs.mT c t), l, ql.up (hid_less fun b hb => by simp only [List.mem_append, List.mem_cons, List.not_mem_nil, or_false] at hb ⊢; rcases hb with h | (h | h) | h <;> simp [h])⟩
  have mT3 := F3.gs.mT
  show wpAny _ _ (do rule "assign.swapped-stores"; let items ← unpackItems (.ref s₂.heap.objs.size) 2 none; assignInOrder [bindName env b, bindName env a] items.reverse; pure Flow.next) _ _ _
  refine wpAny_bind (wpAny_rule ?_)
  have := swap_store (wv := ownVar env) (a := a) (b := b) (t := s₂.heap.objs.size) (Q := fun _ s' => wpAny (model C.prog C.w) A (pure Flow.next : Sem Flow) (fun f s' => ∃ o, P o ∧ OutAt C s₀ M₀ W env o f s') NoE s') R F3
    ⟨_, 0, Heap.get?_push_size _ rfl, rfl, rfl, rfl⟩ (rr1.keeps kp mT3) (own_of_pure p1) (r2.keeps kp mT3) (fun _ => ⟨c, rfl, by simp, fun z => cM (List.mem_append_left _ z), al⟩) ⟨ha, ha⟩ ⟨hb, hb⟩ fun ρ' s' F'' => wpAny_pure ⟨_, hP, _, ρ', F''⟩
  have := wpAny_bind this
  rw [bind_assoc] at this
  exact this
end
end Mine
namespace Mine
open SeqAt

mutual
noncomputable def V.key : V → Bool
  | .str _ => true
  | .tup xs => keyL xs
  | .none | .bool _ | .int _ | .lst _ | .dct _ | .self _ | .tray | .any | .oL _ | .oD _ => false
noncomputable def keyL : List V → Bool
  | [] => true
  | x :: r => x.key && keyL r
end
mutual
noncomputable def V.draws : V → Nat
  | .str _ => 1
  | .tup xs => drawsL xs + 1
  | .none | .bool _ | .int _ | .lst _ | .dct _ | .self _ | .tray | .any | .oL _ | .oD _ => 0
noncomputable def drawsL : List V → Nat
  | [] => 0
  | x :: r => x.draws + drawsL r
end
theorem depL_mem {x : V} : ∀ {xs : List V}, x ∈ xs → x.dep ≤ depL xs
  | y :: r, h => by
    rcases List.mem_cons.mp h with rfl | h
    · exact Nat.le_max_left _ _
    · exact Nat.le_trans (depL_mem h) (Nat.le_max_right _ _)
theorem keyL_cons {x : V} {r : List V} (h : keyL (x :: r) = true) : x.key = true ∧ keyL r = true := Bool.and_eq_true_iff.mp (show (_ && _) = true from h)
theorem drawsL_app : ∀ (a b : List V), drawsL (a ++ b) = drawsL a + drawsL b
  | [], b => (Nat.zero_add _).symm
  | x :: a, b => by show x.draws + drawsL (a ++ b) = x.draws + drawsL a + drawsL b; rw [drawsL_app a b]; (exact (Nat.add_assoc _ _ _).symm)
theorem hashL_app (P : Params) : ∀ (a b : List V), hashL P (a ++ b) = hashL P a ++ hashL P b
  | [], b => rfl
  | x :: a, b => congrArg (hashV P x :: ·) (hashL_app P a b)

theorem pyHashV {C : Cx} : ∀ (d : Nat) {A : Around} {E : Value → Shared → Prop} {s : Shared} {v : Value} {k : V} {Q : Int → Shared → Prop}, k.dep ≤ d → A.units + d < cLine → Rp C s.heap v k → k.key = true → Q (hashV C.w.params k) { s with toks := s.toks + k.draws } →
    wpAny (model C.prog C.w) A (pyHash v) Q E s := by
  intro d
  induction d with
  | zero =>
    intro A E s v k Q hd hu r hk h
    cases r with
    | str x t => exact wpAny_pyHash_str h
    | tup l q => exact absurd hd (by show ¬ depL _ + 1 ≤ 0; lia)
    | _ => cases hk
  | succ d ih =>
    intro A E s v k Q hd hu r hk h
    cases r with
    | str x t => exact wpAny_pyHash_str h
    | @tup a vs xs l q =>
      have hT : s.TypeIs (.ref a) "tuple" := l.isTuple.typeIs
      obtain ⟨o, n, ho, hc, hd', _⟩ := l
      unfold pyHash
      first | unfold pyHashByItsType | skip
      first | refine wpAny_bind (wpAny_cRoomFor_or (.inr (by lia)) ?_) | skip
      refine wpAny_bind (wpAny_specialOf hT F.slot_tuple_hash.lookup ?_)
      show wpAny _ _ (if (some (Value.builtin "tuple.__hash__") == some Value.none) = true then _ else _) Q E s
      rw [if_neg (by rw [beq_builtin_none]; exact Bool.false_ne_true)]
      refine wpAny_bind (wpAny_specialOf hT F.slot_tuple_hash.lookup ?_)
      show wpAny _ _ (callSpecialIfBoundUnlessNone? (.ref a) "__hash__" _ >>= _) Q E s
      refine wpAny_bind (wpAny_callSpecialIfBoundUnlessNone?_slot hT F.slot_tuple_hash (wpAny_call_entry F.slot_tuple_hash hT F.entry_tuple_hash ?_ (F.args_tuple_hash_1 _)))
      show wpAny _ _ (Builtin.Tuple.tupleItemsOf (.ref a) >>= _) _ _ s
      refine wpAny_bind (wpAny_tupleItemsOf ho hd' ?_)
      refine wpAny_bind ?_
      rw [← Array.forIn_toList]
      have hk' : keyL xs = true := hk
      have hdd : depL xs + 1 ≤ d + 1 := hd
      refine wpAny_forIn_list _
        (fun rest (b : Array Int) s' => ∃ done left, xs = done ++ left ∧ RpL C s.heap rest left ∧ keyL left = true ∧ b.toList = hashL C.w.params done ∧ s' = { s with toks := s.toks + drawsL done })
        _ ?_ ?_ _ _ ⟨[], xs, rfl, by simpa using q, hk', by simp [hashL], rfl⟩
      · rintro x rest b s' ⟨done, left, e0, hl, hkl, hb, rfl⟩
        cases hl with
        | @cons _ k _ ks' h1 hl' =>
          have hk2 := keyL_cons hkl
          have hdk : k.dep ≤ d := by
            have := depL_mem (x := k) (xs := xs) (by rw [e0]; simp)
            lia
          refine wpAny_bind (ih (s := { s with toks := s.toks + drawsL done }) hdk (show A.units + 1 + d < cLine by lia) h1 hk2.1 ?_)
          have fin : ∃ done' left', xs = done' ++ left' ∧ RpL C s.heap rest left' ∧ keyL left' = true ∧ (b.push (hashV C.w.params k)).toList = hashL C.w.params done' ∧ ({ s with toks := s.toks + drawsL done + k.draws } : Shared) = { s with toks := s.toks + drawsL done' } :=
            ⟨done ++ [k], ks', by rw [e0]; simp, hl', hk2.2, by rw [hashL_app]; simp [hb, hashL], by rw [drawsL_app]; simp [drawsL, Nat.add_assoc]⟩
          first
            | exact wpAny_pure fin
            | exact wpAny_bind (wpAny_pure (wpAny_pure fin))
      · rintro b s' ⟨done, left, e0, hl, hkl, hb, rfl⟩
        cases hl
        rw [List.append_nil] at e0
        subst e0
        show wpAny _ _ (retInt (Builtin.Tuple.tupleHashOf b.toList)) _ _ _
        rw [hb]
        refine wpAny_ret_mkInt ?_
        show wpAny _ _ (if (decide (-(2 : Int) ^ 63 ≤ Builtin.Tuple.tupleHashOf (hashL C.w.params xs)) && decide (Builtin.Tuple.tupleHashOf (hashL C.w.params xs) < 2 ^ 63)) = true then _ else _) Q E _
        have h' : Q (reduceHash (Builtin.Tuple.tupleHashOf (hashL C.w.params xs))) { s with toks := s.toks + (drawsL xs + 1) } := by
          have e1 : hashV C.w.params (.tup xs) = reduceHash (Builtin.Tuple.tupleHashOf (hashL C.w.params xs)) := rfl
          rw [← e1]; exact h
        unfold reduceHash at h'
        by_cases hr : (decide (-(2 : Int) ^ 63 ≤ Builtin.Tuple.tupleHashOf (hashL C.w.params xs)) && decide (Builtin.Tuple.tupleHashOf (hashL C.w.params xs) < 2 ^ 63)) = true
        · rw [if_pos hr]
          rw [if_pos hr] at h'
          exact wpAny_pure (by simpa [Nat.add_assoc] using h')
        · rw [if_neg hr]
          rw [if_neg hr] at h'
          exact wpAny_bind (wpAny_rule (wpAny_pure (by simpa [Nat.add_assoc] using h')))
    | _ => cases hk
end Mine
namespace Mine
open SeqAt

mutual
theorem rp_detV {C : Cx} {h : Heap} : ∀ (x : V), x.key = true → ∀ {y : V} {v : Value}, Rp C h v x → Rp C h v y → y.key = true → x = y
  | .str a => fun hx => by
    intro y v rx ry hy
    cases rx; cases ry; rfl
  | .tup xs => fun hx => by
    intro y v rx ry hy
    cases rx with | tup l q =>
    cases ry with
    | tup l' q' =>
      obtain ⟨o, n, e, c, d, _⟩ := l
      obtain ⟨o', n', e', c', d', _⟩ := l'
      rw [e] at e'; cases e'
      rw [d] at d'
      injection d' with d1 d2
      have e1 := congrArg Array.toList d1
      simp only [List.toList_toArray] at e1
      subst e1
      rw [rpl_detV xs hx q q' hy]
    | _ => cases hy
  | .none => fun hx => by cases hx
  | .bool _ => fun hx => by cases hx
  | .int _ => fun hx => by cases hx
  | .lst _ => fun hx => by cases hx
  | .dct _ => fun hx => by cases hx
  | .self _ => fun hx => by cases hx
  | .tray => fun hx => by cases hx
  | .any => fun hx => by cases hx
  | .oL _ => fun hx => by cases hx
  | .oD _ => fun hx => by cases hx
theorem rpl_detV {C : Cx} {h : Heap} : ∀ (xs : List V), keyL xs = true → ∀ {ys : List V} {vs : List Value}, RpL C h vs xs → RpL C h vs ys → keyL ys = true → xs = ys
  | [] => fun _ => by intro ys vs rx ry _; cases rx; cases ry; rfl
  | x :: xs => fun hx => by
    intro ys vs rx ry hy
    cases rx with | cons r1 q1 =>
    cases ry with | cons r2 q2 =>
    rw [rp_detV x (keyL_cons hx).1 r1 r2 (keyL_cons hy).1, rpl_detV xs (keyL_cons hx).2 q1 q2 (keyL_cons hy).2]
end
theorem rp_det {C : Cx} {h : Heap} {x y : V} {v : Value} (rx : Rp C h v x) (ry : Rp C h v y) (hx : x.key = true) (hy : y.key = true) : x = y := rp_detV x hx rx ry hy
mutual
theorem rp_keepsV {C : Cx} {h h' : Heap} {d : Addr} {o : Obj} {es : Array DictEntry} {ep : Nat} (ho : h.get? d = some o) (hd : o.data = .dict es ep) (k : ∀ b x, b ≠ d → h.get? b = some x → h'.get? b = some x) : ∀ (x : V), x.key = true → ∀ {v : Value}, Rp C h v x → Rp C h' v x
  | .str a => fun hx => by intro v rx; cases rx; exact .str _ _
  | .tup xs => fun hx => by
    intro v rx
    obtain ⟨a, vs, rfl, ⟨o', n, e, c, d', dn⟩, q⟩ := rp_tup rx
    have ne : a ≠ d := by
      rintro rfl
      rw [ho] at e; cases e
      rw [hd] at d'; cases d'
    exact .tup ⟨o', n, k _ _ ne e, c, d', dn⟩ (rpl_keepsV ho hd k xs hx q)
  | .none => fun hx => by cases hx
  | .bool _ => fun hx => by cases hx
  | .int _ => fun hx => by cases hx
  | .lst _ => fun hx => by cases hx
  | .dct _ => fun hx => by cases hx
  | .self _ => fun hx => by cases hx
  | .tray => fun hx => by cases hx
  | .any => fun hx => by cases hx
  | .oL _ => fun hx => by cases hx
  | .oD _ => fun hx => by cases hx
theorem rpl_keepsV {C : Cx} {h h' : Heap} {d : Addr} {o : Obj} {es : Array DictEntry} {ep : Nat} (ho : h.get? d = some o) (hd : o.data = .dict es ep) (k : ∀ b x, b ≠ d → h.get? b = some x → h'.get? b = some x) : ∀ (xs : List V), keyL xs = true → ∀ {vs : List Value}, RpL C h vs xs → RpL C h' vs xs
  | [] => fun _ => by intro vs rx; cases rx; exact .nil
  | x :: xs => fun hx => by
    intro vs rx
    cases rx with | cons r q =>
    exact .cons (rp_keepsV ho hd k x (keyL_cons hx).1 r) (rpl_keepsV ho hd k xs (keyL_cons hx).2 q)
end
theorem rp_keeps {C : Cx} {h h' : Heap} {d : Addr} {o : Obj} {es : Array DictEntry} {ep : Nat} (ho : h.get? d = some o) (hd : o.data = .dict es ep) (k : ∀ b x, b ≠ d → h.get? b = some x → h'.get? b = some x) {x : V} {v : Value} (r : Rp C h v x) (hx : x.key = true) : Rp C h' v x := rp_keepsV ho hd k x hx r
theorem keyL_mem {x : V} : ∀ {xs : List V}, keyL xs = true → x ∈ xs → x.key = true
  | y :: r, h, hm => by
    rcases List.mem_cons.mp hm with rfl | hm
    · exact (keyL_cons h).1
    · exact keyL_mem (keyL_cons h).2 hm
theorem quietV {C : Cx} : ∀ (n : Nat) {A : Around} {E : Value → Shared → Prop} {s : Shared} {v : Value} {x : V} {Q : Bool → Shared → Prop}, x.dep ≤ n → x.key = true → Rp C s.heap v x → Q true s → wpAny (model C.prog C.w) A (eqIsQuiet n v) Q E s := by
  intro n
  induction n with
  | zero =>
    intro A E s v x Q hd hk r h
    cases r with
    | str y t => exact wpAny_of_eq (a := true) (eqIsQuiet_byValue _ rfl) h
    | tup l q => exact absurd hd (by show ¬ depL _ + 1 ≤ 0; lia)
    | _ => cases hk
  | succ n ih =>
    intro A E s v x Q hd hk r h
    cases r with
    | str y t => exact wpAny_of_eq (a := true) (eqIsQuiet_byValue _ rfl) h
    | @tup a vs xs l q =>
      have hT : s.TypeIs (.ref a) "tuple" := l.isTuple.typeIs
      obtain ⟨o, m, ho, hc, hd', _⟩ := l
      have hdd : depL xs + 1 ≤ n + 1 := hd
      have hk' : keyL xs = true := hk
      unfold eqIsQuiet
      refine wpAny_bind (wpAny_specialOf hT F.slot_tuple_eq.lookup ?_)
      show wpAny _ _ (isInstance (.ref a) (.type "tuple") >>= _) _ _ s
      refine wpAny_bind (wpAny_isInstance hT isSubtype_tuple_tuple ?_)
      simp only [Bool.not_true, Bool.false_eq_true, if_false]
      refine wpAny_bind (wpAny_seqItems ho hd' ?_)
      refine wpAny_bind ?_
      show wpAny _ _ (forIn vs.toArray _ _) _ _ s
      rw [← Array.forIn_toList]
      refine wpAny_forIn_list _ (fun rest r s' => r.1 = none ∧ s' = s ∧ ∃ ys, RpL C s.heap rest ys ∧ ∀ y ∈ ys, y.key = true ∧ y.dep ≤ n) _ ?_ ?_ _ _ ⟨rfl, rfl, xs, by simpa using q, fun y hy => ⟨keyL_mem hk' hy, by have := depL_mem hy; lia⟩⟩
      · rintro v rest r s' ⟨hr, rfl, ys, hq, hall⟩
        cases hq with | cons r1 q1 =>
        refine wpAny_bind (ih (hall _ List.mem_cons_self).2 (hall _ List.mem_cons_self).1 r1 ?_)
        simp only [Bool.not_true, Bool.false_eq_true, if_false]
        exact wpAny_pure ⟨rfl, rfl, _, q1, fun u hu' => hall u (List.mem_cons_of_mem _ hu')⟩
      · rintro ⟨r1, r2⟩ s' ⟨hr, rfl, _⟩
        simp only at hr
        subst hr
        exact wpAny_pure h
    | _ => cases hk

open Classical in
noncomputable def vKind (C : Cx) : HeapKind C.prog C.w V where
  is := fun h k a => Rp C h (.ref a) k ∧ k.srt = true ∧ k.key = true ∧ k.dep ≤ 8
  hash := hashV C.w.params
  draws := V.draws
  room := fun A => A.units + 20 < cLine
  inj := fun hx hy => rp_det hx.1 hy.1 hx.2.2.1 hy.2.2.1
  keeps := fun x ho hd hs => ⟨rp_keeps ho hd (fun b o nb e => (hs.2 b nb).trans e) x.1 x.2.2.1, x.2⟩
  pyHash := fun hu hk h => pyHashV 8 hk.2.2.2 (by lia) hk.1 hk.2.2.1 h
  eqBool := fun {A E s x y a b Q} hu hx hy h => by
    refine eqAt_rp hx.1 hy.1 hx.2.1 hy.2.1 (by have := hx.2.2.2; lia) C.prog C.w E Q ?_
    have e : (cmpV x y == .eq) = decide (x = y) := by
      by_cases q : x = y
      · subst q; rw [cmpV_refl hx.2.1]; simp
      · have : cmpV x y ≠ .eq := fun z => q (cmpV_eq hx.2.1 hy.2.1 z)
        rw [beq_eq_false_iff_ne.mpr this]; simp [q]
    rw [e]; exact h
  quiet := fun hk h => quietV 8 hk.2.2.2 hk.2.2.1 hk.1 h
end Mine
namespace Mine
open SeqAt

noncomputable def RawDict (h : Heap) (d : Addr) (es : Array DictEntry) (ep : Nat) : Prop := h.get? d = some { cls := .type "dict", data := .dict es ep }

section
variable {prog : Program} {w : World} {A : Around} {E : Value → Shared → Prop} {s : Shared}
theorem dictT {s : Shared} {d : Addr} {es : Array DictEntry} {ep : Nat} (h : RawDict s.heap d es ep) : s.TypeIs (.ref d) "dict" := ⟨_, h, rfl⟩
theorem rawIter {d : Addr} {es : Array DictEntry} {ep : Nat} {Q : Value → Shared → Prop} (hd : (d == sysModules) = false) (hm : RawDict s.heap d es ep)
    (hQ : Q (.ref s.heap.objs.size) { s with heap := s.heap.push { cls := .type "dict_keyiterator", data := .fields #[.ref d, .int 0 0, .int es.size 0, .int ep 0] } }) :
    wpAny (model prog w) A (pyIter (.ref d)) Q E s := by
  have hT : s.TypeIs (.ref d) "dict" := dictT hm
  refine wpAny_pyIter_slot hT F.slot_dict_iter (wpAny_call_entry F.slot_dict_iter hT F.entry_dict_iter ?_ (F.args_dict_iter_1 _))
  unfold Builtin.«dict.__iter__»
  refine wpAny_bind ?_
  unfold Builtin.Dict.dictSlotNone
  refine wpAny_bind (wpAny_notOrdered_dict hT ?_)
  show wpAny _ _ (pure (Value.ref d)) _ _ s
  refine wpAny_pure ?_
  show wpAny _ _ (Builtin.Dict.showsAll d >>= _) _ _ s
  unfold Builtin.Dict.showsAll
  rw [if_neg (by rw [hd]; exact Bool.false_ne_true)]
  refine wpAny_bind (wpAny_pure ?_)
  refine wpAny_bind (wpAny_dictEntries hm rfl ?_)
  refine wpAny_bind (wpAny_dictEpoch hm rfl ?_)
  refine wpAny_bind (wpAny_newObj_type (wpAny_pure ⟨_, rfl, "dict_keyiterator", _, ⟨_, Heap.get?_push_size _ rfl, rfl⟩, F.slot_dict_keyiterator_next.lookup, ?_⟩))
  simpa [rawInt] using hQ

theorem rawNext_item {it d : Addr} {i ep : Nat} {es : Array DictEntry} {Q : Option Value → Shared → Prop} (hit : s.heap.IsKeyIter it d i es.size ep)
    (hm : RawDict s.heap d es ep) (hlt : i < es.size)
    (hQ : ∀ h', h'.IsKeyIter it d (i + 1) es.size ep → Heap.SameBut it s.heap h' → Q (some es[i].key) { s with heap := h' }) :
    wpAny (model prog w) A (pyNext (.ref it)) Q E s := by
  obtain ⟨o, ho, hc, hd⟩ := id hit
  unfold pyNext
  refine wpAny_bind (wpAny_attempt (wpAny_callSpecial?_slot (name := Str.ofString "__next__") hit.typeIs F.slot_dict_keyiterator_next
    (wpAny_call_entry F.slot_dict_keyiterator_next hit.typeIs F.entry_dict_keyiterator_next ?_ (F.args_dict_keyiterator_next_1 _))))
  refine wpAny_bind (wpAny_pure ?_)
  refine wpAny_bind ?_
  refine wpAny_bind ?_
  first | refine wpAny_bind (wpAny_typeNameOfWhole_keyiter hit.typeIs (wpAny_pure ?_)) | refine wpAny_bind (wpAny_typeNameOf_keyiter hit.typeIs (wpAny_pure ?_))
  refine wpAny_bind (wpAny_fieldsOf ho hd ?_)
  rw [if_neg (show ¬ (Builtin.Dict_items.ownsTuple "dict_keyiterator" = true) by decide)]
  show wpAny _ _ (if (Value.ref d == Value.none) = true then _ else _) _ _ s
  rw [if_neg (show ¬ ((Value.ref d == Value.none) = true) from Bool.false_ne_true)]
  refine wpAny_bind (wpAny_pure ?_)
  refine wpAny_bind (wpAny_dictEntries hm rfl ?_)
  rw [if_neg (by simp)]
  refine wpAny_bind (wpAny_pure ?_)
  refine wpAny_bind (wpAny_dictEpoch hm rfl ?_)
  rw [if_neg (by simp)]
  refine wpAny_pure ?_
  dsimp only
  rw [if_neg (show ¬ ((i : Int) < 0) from Int.not_lt.mpr (Int.natCast_nonneg i)), Int.toNat_natCast, Array.getElem?_eq_getElem hlt]
  refine wpAny_bind ?_
  first | refine wpAny_bind (wpAny_typeNameOfWhole_keyiter hit.typeIs (wpAny_pure ?_)) | refine wpAny_bind (wpAny_typeNameOf_keyiter hit.typeIs (wpAny_pure ?_))
  refine wpAny_bind (wpAny_isOneOf_keyiter hit.typeIs ?_)
  show wpAny _ _ (setField (.ref it) 1 (rawInt ((i : Int) + 1)) >>= _) _ _ s
  refine wpAny_bind (wpAny_setField ho hd (by simp) ?_)
  have hit' : (s.heap.update it (Obj.mapFields (·.setIfInBounds 1 (rawInt ((i : Int) + 1))))).IsKeyIter it d (i + 1) es.size ep :=
    ⟨_, Heap.get?_update_self _ ho (Obj.isFreed_of_fields (Obj.data_mapFields hd _)), (Obj.cls_mapFields ..).trans hc, by rw [Obj.data_mapFields hd]; simp [rawInt]⟩
  refine wpAny_bind (wpAny_holding ?_)
  refine wpAny_bind (wpAny_isOneOf_keyiter (s := { s with heap := s.heap.update it (Obj.mapFields (·.setIfInBounds 1 (rawInt ((i : Int) + 1)))) }) hit'.typeIs ?_)
  show wpAny _ _ (pure es[i].key) _ _ _
  exact wpAny_pure (wpAny_pure ⟨_, rfl, wpAny_pure (hQ _ hit' (Heap.SameBut.update ..))⟩)

theorem rawNext_end {it d : Addr} {i ep : Nat} {es : Array DictEntry} {Q : Option Value → Shared → Prop} (hh : A.handled = none) (hit : s.heap.IsKeyIter it d i es.size ep)
    (hm : RawDict s.heap d es ep) (hge : es.size ≤ i)
    (hQ : ∀ h', Heap.ExtBut it s.heap h' → Q none { s with heap := h' }) : wpAny (model prog w) A (pyNext (.ref it)) Q E s := by
  obtain ⟨o, ho, hc, hd⟩ := id hit
  unfold pyNext
  refine wpAny_bind (wpAny_attempt (wpAny_callSpecial?_slot (name := Str.ofString "__next__") hit.typeIs F.slot_dict_keyiterator_next
    (wpAny_call_entry F.slot_dict_keyiterator_next hit.typeIs F.entry_dict_keyiterator_next ?_ (F.args_dict_keyiterator_next_1 _))))
  refine wpAny_bind (wpAny_pure ?_)
  refine wpAny_bind ?_
  refine wpAny_bind ?_
  first | refine wpAny_bind (wpAny_typeNameOfWhole_keyiter hit.typeIs (wpAny_pure ?_)) | refine wpAny_bind (wpAny_typeNameOf_keyiter hit.typeIs (wpAny_pure ?_))
  refine wpAny_bind (wpAny_fieldsOf ho hd ?_)
  rw [if_neg (show ¬ (Builtin.Dict_items.ownsTuple "dict_keyiterator" = true) by decide)]
  show wpAny _ _ (if (Value.ref d == Value.none) = true then _ else _) _ _ s
  rw [if_neg (show ¬ ((Value.ref d == Value.none) = true) from Bool.false_ne_true)]
  refine wpAny_bind (wpAny_pure ?_)
  refine wpAny_bind (wpAny_dictEntries hm rfl ?_)
  rw [if_neg (by simp)]
  refine wpAny_bind (wpAny_pure ?_)
  refine wpAny_bind (wpAny_dictEpoch hm rfl ?_)
  rw [if_neg (by simp)]
  refine wpAny_pure ?_
  dsimp only
  rw [if_neg (show ¬ ((i : Int) < 0) from Int.not_lt.mpr (Int.natCast_nonneg i)), Int.toNat_natCast, Array.getElem?_eq_none hge]
  refine wpAny_bind ?_
  first | refine wpAny_bind (wpAny_typeNameOfWhole_keyiter hit.typeIs (wpAny_pure ?_)) | refine wpAny_bind (wpAny_typeNameOf_keyiter hit.typeIs (wpAny_pure ?_))
  show wpAny _ _ (setField (.ref it) 0 .none >>= _) _ _ s
  refine wpAny_bind (wpAny_setField ho hd (by simp) ?_)
  show wpAny _ _ (newExc (.type "StopIteration") [] >>= _) _ _ _
  refine wpAny_bind ?_
  simp only [newExc, newTuple]
  refine wpAny_bind (wpAny_newObj_type ?_ (by size_fits))
  refine wpAny_bind (m := firstArgMember _ _) (wpAny_of_eq (a := Value.none) (by first | rfl | (simp only [firstArgMember]; rfl)) ?_)
  refine wpAny_newObj_type ?_ (by size_fits)
  unfold raiseNew
  refine wpAny_bind (wpAny_handled ?_)
  rw [show A.in1.handled = none from hh]
  refine wpAny_bind (wpAny_pure (wpAny_throw ?_))
  refine wpAny_bind (wpAny_isInstance (T := "StopIteration") (b := true) ⟨_, Heap.get?_push_size _ rfl, rfl⟩ isSubtype_stop ?_)
  exact wpAny_pure (hQ _ (((Heap.SameBut.update ..).extBut.push _).push _))

theorem Walks_raw (hh : A.handled = none) (I d : Addr) (hne : d ≠ I) (es : Array DictEntry) (ep : Nat) :
    Walks prog w A I [I, d] [I] es.size (fun i v => ∃ e, es[i]? = some e ∧ v = e.key) (fun i h => h.IsKeyIter I d i es.size ep ∧ RawDict h d es ep) where
  sub := fun b hb => by simp at hb; simp [hb]
  frame := fun _ _ _ st hk => ⟨st.1.at fun o e => hk I (by simp) o e, hk d (by simp) _ st.2⟩
  item := fun i s Q E hi st hQ => by
    refine rawNext_item st.1 st.2 hi fun h' hit' hs' => ?_
    exact hQ _ h' s.toks ⟨es[i], Array.getElem?_eq_getElem hi, rfl⟩ ⟨hit', hs'.extBut _ _ hne st.2⟩ fun b o hb e => hs'.extBut b o (fun h => hb (by simp [h])) e
  done := fun s Q E st hQ => rawNext_end hh st.1 st.2 (Nat.le_refl _) fun h' he' => hQ h' s.toks fun b o hb e => he' b o (fun h => hb (by simp [h])) e
  self := fun _ _ _ _ st hQ => wpAny_pyIter_keyiter st.1 hQ

theorem src_raw {d : Addr} {es : Array DictEntry} {ep : Nat} (lo : (d == sysModules) = false) : KdlSrc prog w "dict" d d es.size (fun i v => ∃ e, es[i]? = some e ∧ v = e.key) (fun h => RawDict h d es ep) where
  type := fun _ hm => dictT hm
  there := fun _ hm => ⟨Heap.lt_size hm, Heap.lt_size hm⟩
  keep := fun _ _ hm hk => hk d (.inl rfl) _ hm
  notList := by decide
  notTuple := by decide
  hint := fun _ _ _ _ hm hq => kdl_hint_dict (dictT hm) hq
  iter := fun _ _ hh hm => ⟨_, _, (fun _ _ hq => rawIter lo hm hq), Walks_raw hh _ d (Nat.ne_of_lt (Heap.lt_size hm)) es ep, ⟨⟨_, Heap.get?_push_size _ rfl, rfl, rfl⟩, Heap.get?_push_of_some _ hm⟩⟩
end

theorem RpD.ind {C : Cx} {h : Heap} {P : List DictEntry → List (V × V) → Prop} (n : P [] []) (c : ∀ {e k x es kvs}, e.hash = hashV C.w.params k → Rp C h e.key k → Rp C h e.val x → RpD C h es kvs → P es kvs → P (e :: es) ((k, x) :: kvs)) {es kvs} (r : RpD C h es kvs) : P es kvs :=
  RpD.rec (motive_1 := fun _ _ _ => True) (motive_2 := fun _ _ _ => True) (motive_3 := fun v x _ => P v x) trivial (fun _ => trivial) (fun _ _ => trivial) (fun _ _ => trivial) (fun _ _ _ => trivial) (fun _ _ _ => trivial) (fun _ _ _ => trivial) (fun _ _ _ => trivial) trivial (fun _ _ _ _ => trivial) n (fun e a b d _ _ ih => c e a b d ih) r
theorem RpD.keys {C : Cx} {h : Heap} {es kvs} (r : RpD C h es kvs) : RpL C h (es.map (·.key)) (kvs.map (·.1)) := by
  refine RpD.ind (P := fun es kvs => RpL C h (es.map DictEntry.key) (kvs.map Prod.fst)) ?_ ?_ r
  · exact .nil
  · intro e k x es kvs _ a _ _ ih
    exact RpL.cons a ih
theorem RpD.length {C : Cx} {h : Heap} {es kvs} (r : RpD C h es kvs) : es.length = kvs.length := by
  refine RpD.ind (P := fun es kvs => es.length = kvs.length) rfl ?_ r
  intro e k x es kvs _ _ _ _ ih
  exact congrArg (· + 1) ih

section
variable {C : Cx} {n : Nat} {env : Env} {σ σ' : List (Str × V)} {τ τ₁ τ₂ τ₃ : Option Nat} {wv : Str → Bool}
theorem rep_dct {h : Heap} {M : List Addr} {v : Value} {xs : List (V × V)} (r : Rep C h M v (.dct xs)) : ∃ a es, v = .ref a ∧ IsDct (hid h M) a es ∧ RpD C (hid h M) es xs := by
  have r' : Rp C (hid h M) v (.dct xs) := r
  cases r' with
  | dct l q => exact ⟨_, _, rfl, l, q⟩

theorem It_keys {g : Heap} {I a : Addr} {es : List DictEntry} {ep : Nat} {kvs : List (V × V)} (hl : RawDict g a es.toArray ep) (q : RpD C g es kvs) (hI : g.get? I = Option.none) :
    It C n g I [I, a] [I] false (kvs.map (·.1)) (fun i h => h.IsKeyIter I a i es.toArray.size ep ∧ Sub g h) where
  sub := fun _ hb => by simp at hb; simp [hb]
  alive := fun i h zz b hb => by obtain ⟨⟨o, e, _⟩, _⟩ := zz; simp at hb; subst hb; exact ⟨o, e⟩
  frame := fun i h h' zz k s => and2 zz fun j _ => ⟨j.at fun o e => k I (by simp) o e, s⟩
  self := fun A R i s Q zz hq => and2 zz fun j _ => wpAny_pyIter_keyiter j hq
  item := fun A R i x s Q hx zz _ h => and2 zz fun j sg => by
    obtain ⟨v, hv, rv⟩ := q.keys.get hx
    have aI : a ≠ I := fun z => by rw [z] at hl; unfold RawDict at hl; rw [hI] at hl; cases hl
    have hi : i < es.length := by
      have := (List.getElem?_eq_some_iff.mp hv).1
      simpa using this
    have hm : RawDict s.heap a es.toArray ep := sg _ _ hl
    refine rawNext_item j hm (by simpa using hi) fun h' j' sb => ?_
    have e1 : es.toArray[i].key = v := by
      have := (List.getElem?_eq_some_iff.mp hv).2
      simpa using this
    rw [e1]
    have ex : ∀ b o, b ∉ [I] → s.heap.get? b = some o → h'.get? b = some o := fun b o nb e => (sb.2 b (by simpa using nb)).trans e
    have sg' : Sub g h' := fun b o e => ex b o (fun z => by simp at z; subst z; rw [hI] at e; cases e) (sg b o e)
    refine h v h' s.toks ex (fun b hb => by simp at hb; subst hb; obtain ⟨o, e, _⟩ := j'; exact ⟨o, e⟩) (.inl rv) fun t Q' tk' _ hq => ?_
    obtain ⟨o, e, c, _⟩ := id j'
    exact go_plain (nm := "dict_keyiterator") e c (by decide) (hq h' tk' ⟨j', sg'⟩ fun b o _ e => e)
  done := fun A R s Q zz _ h => and2 zz fun j sg => by
    refine rawNext_end R.hd j (sg _ _ hl) (by simp [q.length]) fun h' ex => h h' s.toks fun b o nb e => ex b o (by simpa using nb) e

theorem IterOf_dct {kvs : List (V × V)} : IterOf C n (.dct kvs) false (kvs.map (·.1)) := fun A R M s v τ G r => by
  obtain ⟨a, es, rfl, ⟨ns, ep, l⟩, q⟩ := rep_dct r
  have aI : (hid s.heap M).get? s.heap.objs.size = Option.none := hid_size_none
  refine rawIter ns (hid_sub _ _ _ _ l) ⟨s.heap.objs.size, [s.heap.objs.size, a], [s.heap.objs.size], _, rfl, It_keys l q aI, ⟨⟨_, Heap.get?_push_size _ rfl, rfl, rfl⟩, fun b o e => Heap.get?_push_of_some _ (hid_sub _ _ _ _ e)⟩, kpPush _ _, fun b hb => ?_, fun b hb => ?_⟩
  · simp at hb; subst hb; exact size_none _
  · simp only [List.mem_cons, List.not_mem_nil, or_false] at hb
    rcases hb with rfl | rfl
    · exact .inl (by simp)
    · exact .inr ⟨_, l⟩

theorem Bu_list_dct {kvs : List (V × V)} (hl : kvs.length ≤ sizeLine) : BuSpec C n (.type "list") [.dct kvs] (.lst (kvs.map (·.1))) := fun A R M s vs τ G r => by
  obtain ⟨v, rfl, q₀⟩ := repL_one r
  replace r := q₀
  obtain ⟨a, es, rfl, ⟨ns, ep, l⟩, q⟩ := rep_dct r
  refine kdl_call (src_raw ns) R.hd (hid_sub _ _ _ _ l) (by simpa [q.length] using hl) fun h' tk acc' c' k hD hacc => ?_
  have nM : s.heap.objs.size ∉ M := fun q => let ⟨o, e⟩ := G.low _ q; Nat.lt_irrefl _ (Heap.lt_size e)
  have e1 : acc'.toList = es.map (·.key) := by
    apply List.ext_getElem?
    intro i
    by_cases hi : i < es.length
    · have h1 := hacc.1
      have hi' : i < acc'.size := by rw [h1]; simpa using hi
      obtain ⟨e, e2, e3⟩ := hacc.2 i acc'[i] (by simp [hi'])
      have e4 : es[i]? = some e := by simpa using e2
      simp [hi', e3, e4]
    · have h1 := hacc.1
      have hi' : ¬ i < acc'.size := by rw [h1]; simpa using hi
      simp [hi', hi]
  refine ⟨?_, ⟨h', tk, rfl, k⟩⟩
  have up : Sub (hid s.heap M) (hid h' M) := hid_all k
  have ll : IsLst (hid h' M) s.heap.objs.size (es.map (·.key)) := ⟨c', by rw [← e1]; simpa using hid_get hD nM⟩
  exact .lst ll (q.keys.up up)
end
end Mine
namespace Mine
open SeqAt

theorem list_miss_keys : typeLookup (.type "list") "keys" = pure none := by rw [typeLookup_type, builtinLookup_eq_fast]; kernel_rfl
theorem list_getattr_none : typeLookup (.type "list") "__getattr__" = pure none := by rw [typeLookup_type, builtinLookup_eq_fast]; kernel_rfl
theorem meets_miss_list (a : Addr) (u : Tok) (items : Array Value) (n : Nat) :
    Meets (Builtin.«object.__getattribute__» ⟨[.ref a, .str "keys" u], []⟩) (fun A R s => s.heap.get? a = some { cls := .type "list", data := .seq items n } ∧ raisesAttr (.ref a) "keys" A R s) :=
  Meets.of_wp fun prog w A R s hs => by
    obtain ⟨hp, g, d, tk, os⟩ := s
    have hx : hp.get? a = some { cls := .type "list", data := .seq items n } := hs.1
    have hT : (⟨hp, g, d, tk, os⟩ : Shared).TypeIs (.ref a) "list" := ⟨_, hx, rfl⟩
    have f4 := list_miss_keys
    unfold Builtin.«object.__getattribute__»
    repeat (any_goals (first | assumption | wp_step))
    refine wpAny_raiseAttrError hs.2.1 hs.2.2 ?_
    exact attrMsg_fits (by decide +kernel) (by rw [sizeLine_eq]; decide +kernel)

theorem list_no_keys {prog : Program} {w : World} {A : Around} {E : Value → Shared → Prop} {s : Shared} {a : Addr} {items : Array Value} {n : Nat} {Q : Option Value → Shared → Prop} (hA : A.handled = none) (hx : s.heap.get? a = some { cls := .type "list", data := .seq items n })
    (h : ∀ h' tk, (∀ b o, s.heap.get? b = some o → h'.get? b = some o) → Q none { s with heap := h', toks := tk }) : wpAny (model prog w) A (getAttr? (.ref a) "keys") Q E s := by
  obtain ⟨hp, g, d, tk, os⟩ := s
  have hT : ∀ t, (⟨hp, g, d, t, os⟩ : Shared).TypeIs (.ref a) "list" := fun _ => ⟨_, hx, rfl⟩
  have f1 := sub_AttributeError
  have f3 := F.slot_list_getattribute.lookup
  have f4 := F.slot_list_getattribute.bind (.ref a)
  have f5 := list_getattr_none
  unfold getAttr? getAttrBy? getAttrBy
  repeat (any_goals (first | assumption | exact hT _ | ((with_reducible show wpAny _ _ (call (Value.builtin "list.__getattribute__") _ _) _ _ _); refine call_meets F.slot_list_getattribute (hT _) F.entry_list_ga (F.args_list_getattribute_2 _ _) (meets_miss_list a _ items n) ⟨hx, hA, fun h' tk' e hx' => ?_⟩) | wp_step))
  obtain ⟨t', u', he⟩ := hx'.there
  show wpAny _ _ (getattributeRaised _ _ _ _ _ _ _) _ _ _
  unfold getattributeRaised
  repeat (any_goals (first | assumption | wp_step))
  exact h _ _ hx'.keeps

theorem entry_upd_loop : entryFor table "dict.update.loop" = some Builtin.«dict.update.loop» := entryFor_of_fast (by kernel_rfl)
theorem plain_upd_loop : plainId "dict.update.loop" = true := by decide +kernel

open Classical in
noncomputable def putV (k z : V) (kvs : List (V × V)) : List (V × V) := if k ∈ kvs.map (·.1) then kvs.map (fun p => if p.1 = k then (p.1, z) else p) else kvs ++ [(k, z)]
noncomputable def RpX (C : Cx) (h : Heap) : List (V × Addr × Value) → List (V × V) → Prop
  | [], [] => True
  | (k, a, v) :: xs, (k', z) :: kvs => k = k' ∧ Rp C h (.ref a) k ∧ Rp C h v z ∧ RpX C h xs kvs
  | _, _ => False
theorem RpX.keys {C : Cx} {h : Heap} : ∀ {xs kvs}, RpX C h xs kvs → xs.map (·.1) = kvs.map (·.1)
  | [], [], _ => rfl
  | (_, _, _) :: _, (_, _) :: _, ⟨e, _, _, r⟩ => by simp [e, r.keys]
theorem RpX.app {C : Cx} {h : Heap} : ∀ {xs kvs xs' kvs'}, RpX C h xs kvs → RpX C h xs' kvs' → RpX C h (xs ++ xs') (kvs ++ kvs')
  | [], [], _, _, _, r => r
  | (_, _, _) :: _, (_, _) :: _, _, _, ⟨e, a, b, q⟩, r => ⟨e, a, b, q.app r⟩
open Classical in
theorem RpX.put {C : Cx} {h : Heap} {k z : V} {v : Value} (rz : Rp C h v z) : ∀ {xs kvs}, RpX C h xs kvs → RpX C h (xs.map (putAt k v)) (kvs.map fun p => if p.1 = k then (p.1, z) else p)
  | [], [], _ => trivial
  | (k1, a1, v1) :: xs, (k2, z2) :: kvs, ⟨e, a, b, q⟩ => by
    subst e
    rw [List.map_cons, List.map_cons]
    by_cases hk : k1 = k
    · have e1 : putAt k v (k1, a1, v1) = (k1, a1, v) := by unfold putAt; rw [if_pos hk]
      rw [e1, if_pos hk]
      exact ⟨rfl, a, rz, RpX.put rz q⟩
    · have e1 : putAt k v (k1, a1, v1) = (k1, a1, v1) := by unfold putAt; rw [if_neg hk]
      rw [e1, if_neg hk]
      exact ⟨rfl, a, b, RpX.put rz q⟩
open Classical in
theorem atKey_iff {xs : List (V × Addr × Value)} {k : V} : (atKey xs k).isSome = true ↔ k ∈ xs.map (·.1) := by
  unfold atKey
  rw [Option.isSome_map, List.find?_isSome]
  constructor
  · rintro ⟨x, hx, e⟩
    exact List.mem_map.mpr ⟨x, hx, of_decide_eq_true e⟩
  · intro h
    obtain ⟨x, hx, e⟩ := List.mem_map.mp h
    exact ⟨x, hx, decide_eq_true e⟩
open Classical in
theorem RpX.stored {C : Cx} {h : Heap} {k z : V} {a : Addr} {v : Value} {xs kvs} (r : RpX C h xs kvs) (rk : Rp C h (.ref a) k) (rz : Rp C h v z) : RpX C h (storedH xs k a v) (putV k z kvs) := by
  unfold storedH putV
  by_cases hk : k ∈ kvs.map (·.1)
  · rw [if_pos (atKey_iff.mpr (r.keys ▸ hk)), if_pos hk]
    exact r.put rz
  · rw [if_neg (fun q => hk (r.keys ▸ atKey_iff.mp q)), if_neg hk]
    exact r.app ⟨rfl, rk, rz, trivial⟩
open Classical in
theorem RpX.toD {C : Cx} {h : Heap} : ∀ {xs kvs}, RpX C h xs kvs → RpD C h (xs.map (entryOfKey (vKind C))) kvs
  | [], [], _ => .nil
  | (_, _, _) :: _, (_, _) :: _, ⟨e, a, b, q⟩ => by
    subst e
    exact .cons rfl a b q.toD
noncomputable def keyOk (k : V) : Prop := k.srt = true ∧ k.key = true ∧ k.dep ≤ 8 ∧ ∃ xs, k = .tup xs
open Classical in
theorem RpX.ofD {C : Cx} {h : Heap} {es kvs} (r : RpD C h es kvs) : (∀ p ∈ kvs, keyOk p.1) → ∃ xs, es = xs.map (entryOfKey (vKind C)) ∧ RpX C h xs kvs := by
  refine r.ind (P := fun es kvs => (∀ p ∈ kvs, keyOk p.1) → ∃ xs, es = xs.map (entryOfKey (vKind C)) ∧ RpX C h xs kvs) (fun _ => ⟨[], rfl, trivial⟩) fun {e k x es kvs} eh rk rx q ih hk => ?_
  obtain ⟨xs, e1, r⟩ := ih fun p hp => hk p (List.mem_cons_of_mem _ hp)
  obtain ⟨_, _, _, ys, e2⟩ := hk _ List.mem_cons_self
  simp only at e2
  subst e2
  obtain ⟨eh', ek, ev⟩ := e
  simp only at rk eh
  cases rk with
  | @tup a vs _ l ql =>
    refine ⟨(.tup ys, a, ev) :: xs, ?_, rfl, .tup l ql, rx, r⟩
    rw [List.map_cons, ← e1, eh]
    rfl
end Mine
namespace Mine
open SeqAt

noncomputable def pairV (p : V × V) : V := .tup [p.1, p.2]
theorem putV_length (k z : V) (kvs : List (V × V)) : (putV k z kvs).length ≤ kvs.length + 1 := by
  unfold putV; split <;> simp
theorem RpX.len {C : Cx} {h : Heap} {xs kvs} (r : RpX C h xs kvs) : xs.length = kvs.length := by
  have := congrArg List.length r.keys; simpa using this

theorem ix_of {C : Cx} {h : Heap} : ∀ {xs : List (V × Addr × Value)} {kvs : List (V × V)}, RpX C h xs kvs → ∀ x ∈ xs, Rp C h (.ref x.2.1) x.1
  | [], _, _, x, hx => nomatch hx
  | (_, _, _) :: _, (_, _) :: _, ⟨_, r1, _, r3⟩, x, hx => by
    rcases List.mem_cons.mp hx with rfl | hx
    · exact r1
    · exact ix_of r3 x hx

open Classical in
theorem dict_at {C : Cx} {g h h' : Heap} {d : Addr} {xs : List (V × Addr × Value)} {kvs : List (V × V)} (hm : h.DictOfH (vKind C) d xs) (rx : RpX C g xs kvs) (sg : Sub g h') (e : ∀ o, h.get? d = some o → h'.get? d = some o) : h'.DictOfH (vKind C) d xs := by
  obtain ⟨o, es, ep, ho, hc, hd', he, his, hn⟩ := hm
  exact ⟨o, es, ep, e o ho, hc, hd', he, fun x hx => ⟨(ix_of rx x hx).up sg, (his x hx).2⟩, hn⟩
open Classical in
theorem upd_loop {C : Cx} {A : Around} {g : Heap} {l I d : Addr} {vs : List Value} {kzs : List (V × V)} {R : Result → Shared → Prop} (hl : IsLst g l vs) (q : RpL C g vs (kzs.map pairV)) (hI : g.get? I = Option.none) (hd : g.get? d = Option.none) (Id : I ≠ d)
    (hk : ∀ p ∈ kzs, keyOk p.1) (hu : A.units + 30 < cLine) (hh : A.handled = Option.none) (hsz : kzs.length ≤ sizeLine) :
    ∀ (rest done : List (V × V)), kzs = done ++ rest → ∀ (s : Shared) xs kvs, Sub g s.heap → s.heap.IsListIter I l done.length → s.heap.DictOfH (vKind C) d xs → RpX C g xs kvs → kvs.length ≤ done.length →
      (∀ h' tk xs', Sub g h' → h'.DictOfH (vKind C) d xs' → RpX C g xs' (rest.foldl (fun m p => putV p.1 p.2 m) kvs) → (∀ b o, b ≠ I → b ≠ d → s.heap.get? b = some o → h'.get? b = some o) → R (.ok (.ret .none)) { s with heap := h', toks := tk }) →
      codeAny (model C.prog C.w) A (.builtin "dict.update.loop" ⟨[.ref d, .ref I, rawInt done.length, .none], []⟩) R s := by
  intro rest
  induction rest with
  | nil =>
    intro done he s xs kvs sg hit hm rx hle hR
    rw [List.append_nil] at he
    subst he
    refine codeAny_builtin entry_upd_loop ?_
    rw [Around.under_plainId plain_upd_loop _]
    show wpAny _ A.in1 (pyNext (.ref I) >>= _) _ _ s
    refine wpAny_bind (wpAny_pyNext_list_end (show A.in1.handled = Option.none from hh) hit ((hl.isList).at fun o e => sg _ _ e) (by have := q.length; simp at this; simp [this]) fun h' ex => ?_)
    show wpAny _ _ (Builtin.Dict.addKeywords d [] >>= _) _ _ _
    have sg' : Sub g h' := fun b o e => ex b o (fun z => by rw [z, hI] at e; cases e) (sg b o e)
    refine wpAny_bind (wpAny_pure (wpAny_pure ?_))
    exact hR h' s.toks xs sg' (dict_at hm rx sg' fun o e => ex d o Id.symm e) rx fun b o b1 _ e => ex b o b1 e
  | cons p rest ih =>
    intro done he s xs kvs sg hit hm rx hle hR
    have hlt : done.length < (kzs.map pairV).length := by rw [he]; simp
    have hge : (kzs.map pairV)[done.length]? = some (pairV p) := by rw [he]; simp
    obtain ⟨v, ev, rv⟩ := q.get hge
    refine codeAny_builtin entry_upd_loop ?_
    rw [Around.under_plainId plain_upd_loop _]
    show wpAny _ A.in1 (pyNext (.ref I) >>= _) _ _ s
    refine wpAny_bind (wpAny_pyNext_list_item hit ((hl.isList).at fun o e => sg _ _ e) (x := v) (by simpa using ev) fun h1 hit1 sb1 => ?_)
    have sg1 : Sub g h1 := fun b o e => sb1.extBut b o (fun z => by rw [z, hI] at e; cases e) (sg b o e)
    have kp := hk p (by rw [he]; simp)
    obtain ⟨k, z⟩ := p
    obtain ⟨ks, kk, kd, ys, ek⟩ := kp
    simp only at ek ks kk kd
    have rv' : Rp C g v (.tup [k, z]) := rv
    obtain ⟨T, us, rfl, lT, qT⟩ := rp_tup rv'
    obtain ⟨kv, zv, rfl, rk, rz⟩ := rpl_two qT
    obtain ⟨oT, nT, eT, cT, dT, _⟩ := lT.up sg1
    subst ek
    obtain ⟨ka, ws, rfl, lk, qk⟩ := rp_tup rk
    have rk : Rp C g (.ref ka) (.tup ys) := .tup lk qk
    refine wpAny_bind (wpAny_holding (wpAny_bind (wpAny_tryCatch ?_)))
    unfold Builtin.Dict.pairItems
    refine wpAny_bind (wpAny_typeOf (T := "tuple") ⟨_, eT, cT⟩ ?_)
    rw [if_pos (by decide)]
    refine wpAny_bind (wpAny_seqItems eT dT ?_)
    refine wpAny_pure ?_
    show wpAny _ _ (holding [.ref ka, zv] (dictSet d (.ref ka) zv)) _ _ _
    have hm1 : h1.DictOfH (vKind C) d xs := dict_at hm rx sg1 fun o e => sb1.extBut d o Id.symm e
    refine wpAny_holding (wpAny_dictSet_heap (knd := vKind C) (k := .tup ys) (show A.in1.units + 20 < cLine from by show A.units + 1 + 20 < cLine; lia) ⟨rk.up sg1, ks, kk, kd⟩ hm1 (fun h2 hm2 sb2 => ?_) (by rw [rx.len]; have := hlt; simp at this; lia))
    have sg2 : Sub g h2 := fun b o e => sb2.extBut b o (fun z => by rw [z, hd] at e; cases e) (sg1 b o e)
    have e1 : ((done.length : Int) + 1) = ((done ++ [(V.tup ys, z)]).length : Int) := by simp
    have hit2 : h2.IsListIter I l (done ++ [(V.tup ys, z)]).length := by
      rw [List.length_append]
      exact hit1.at fun o e => sb2.extBut I o Id e
    refine wpAny_pure ⟨plainId_quiet plain_upd_loop _, ?_⟩
    show codeAny _ _ (.builtin "dict.update.loop" ⟨[.ref d, .ref I, rawInt ((done.length : Int) + 1), .none], []⟩) R _
    rw [e1]
    refine ih (done ++ [(V.tup ys, z)]) (by rw [he]; simp) _ (storedH xs (V.tup ys) ka zv) (putV (.tup ys) z kvs) sg2 hit2 hm2 (rx.stored rk rz) (by have := putV_length (.tup ys) z kvs; rw [List.length_append]; simp; lia) fun h' tk xs' a b c dd => ?_
    exact hR h' tk xs' a b c fun b' o b1 b2 e => dd b' o b1 b2 (sb2.extBut b' o b2 (sb1.extBut b' o b1 e))
end Mine
namespace Mine
open SeqAt

noncomputable def fromPairs (kzs : List (V × V)) : List (V × V) := kzs.foldl (fun m p => putV p.1 p.2 m) []

section
variable {C : Cx} {n : Nat} {env : Env} {σ σ' : List (Str × V)} {τ τ₁ τ₂ τ₃ : Option Nat} {wv : Str → Bool}
theorem Gs.fresh_mod {M : List Addr} {s : Shared} (G : Gs C M τ s) {a : Addr} (h : s.heap.get? a = Option.none ∨ s.heap.objs.size ≤ a) : (s.heap.objs.size == sysModules) = false := by
  obtain ⟨b, o, hb, e⟩ := C.big _ G.base
  have := Heap.lt_size (hid_sub _ _ _ _ e)
  have h1 : (1 : Nat) < b := hb
  exact beq_eq_false_iff_ne.mpr (show s.heap.objs.size ≠ (1 : Nat) from by
    have : b < s.heap.objs.size := this
    exact Nat.ne_of_gt (Nat.lt_trans h1 this))

open Classical in
theorem dctOfH {g h : Heap} {M : List Addr} {d : Addr} {xs : List (V × Addr × Value)} {kvs : List (V × V)} (ns : (d == sysModules) = false) (dM : d ∉ M) (hm : h.DictOfH (vKind C) d xs) (rx : RpX C g xs kvs) (sg : Sub g (hid h M)) : Rp C (hid h M) (.ref d) (.dct kvs) := by
  obtain ⟨⟨c, dd, dt, sl⟩, es, ep, ho, hc, hd', he, his, hn⟩ := hm
  obtain ⟨c1, c2, c3⟩ := hc
  simp only at c1 c2 c3 hd'
  subst c1 c2 c3 hd'
  have e : es = es.toList.toArray := by simp
  exact .dct (es := es.toList) ⟨ns, ep, by rw [← e]; exact hid_get ho dM⟩ (he ▸ (rx.toD).up sg)

open Classical in
theorem Bu_dict_pairs {kzs : List (V × V)} (hk : ∀ p ∈ kzs, keyOk p.1) (hl : kzs.length ≤ sizeLine) : BuSpec C n (.type "dict") [.lst (kzs.map pairV)] (.dct (fromPairs kzs)) := fun A R M s vs τ G r => by
  obtain ⟨v, rfl, q₀⟩ := repL_one r
  replace r := q₀
  obtain ⟨l, us, rfl, il, q⟩ := rep_lstE r
  obtain ⟨nl, el⟩ := id il
  have el' : s.heap.get? l = some { cls := .type "list", data := .seq us.toArray nl } := hid_sub _ _ _ _ el
  have un := R.un
  have ns := G.fresh_mod (.inl (size_none _))
  have dM : s.heap.objs.size ∉ M := fun q => let ⟨o, e⟩ := G.low _ q; Nat.lt_irrefl _ (Heap.lt_size e)
  refine callType_codes (Q₁ := fun obj s₁ => obj = .ref s.heap.objs.size ∧ s₁ = { s with heap := s.heap.push { cls := .type "dict", data := .dict #[] } }) F.kt_called_dict (F.kt_typeCall_dict_1 _) F.entry_dict_init (kt_code_dict_new _ ⟨rfl, rfl⟩) ?_
  rintro obj s₁ ⟨rfl, rfl⟩
  have hD : (s.heap.push { cls := .type "dict", data := .dict #[] }).get? s.heap.objs.size = some { cls := .type "dict", data := .dict #[] } := Heap.get?_push_size _ rfl
  have el1 : (s.heap.push { cls := .type "dict", data := .dict #[] }).get? l = some { cls := .type "list", data := .seq us.toArray nl } := Heap.get?_push_of_some _ el'
  refine ⟨⟨_, hD, rfl⟩, F.args_dict_init_2 _ _, ?_⟩
  unfold Builtin.«dict.__init__»
  refine wpAny_bind ?_
  unfold Builtin.Dict.selfAndRest
  refine wpAny_bind (wpAny_notOrdered_dict ⟨_, hD, rfl⟩ ?_)
  show wpAny _ _ (pure (s.heap.objs.size, [Value.ref l])) _ _ _
  refine wpAny_pure ?_
  show wpAny _ _ (Builtin.Dict.updateFrom "dict.__init__" s.heap.objs.size (.ref l) [] .none) _ _ _
  unfold Builtin.Dict.updateFrom
  refine wpAny_bind (wpAny_typeOf (T := "list") ⟨_, el1, rfl⟩ ?_)
  rw [if_pos (by decide)]
  refine wpAny_bind (list_no_keys (show A.in1.in1.handled = Option.none from R.hd) el1 fun h' tk k => ?_)
  rw [if_pos (by rfl)]
  refine wpAny_bind (wpAny_rule ?_)
  have el2 : h'.get? l = some { cls := .type "list", data := .seq us.toArray nl } := k _ _ el1
  refine wpAny_bind (wpAny_pyIter_list (items := us.toArray) ⟨_, el2, rfl, nl, rfl⟩ ?_)
  have s0 : Sub s.heap h' := fun b o e => k b o (Heap.get?_push_of_some _ e)
  have sg : Sub (hid s.heap M) h' := fun b o e => s0 b o (hid_sub _ _ _ _ e)
  have hI : (hid s.heap M).get? h'.objs.size = Option.none := by
    cases e : (hid s.heap M).get? h'.objs.size with
    | none => rfl
    | some o => exact absurd (Heap.lt_size (sg _ _ e)) (Nat.lt_irrefl _)
  have hDn : (hid s.heap M).get? s.heap.objs.size = Option.none := hid_size_none
  have Dlt : s.heap.objs.size < h'.objs.size := Heap.lt_size (k _ _ hD)
  refine wpAny_pure ⟨plainId_quiet plain_upd_loop _, ?_⟩
  refine upd_loop (C := C) (A := A.in1) (g := hid s.heap M) (l := l) (I := h'.objs.size) (d := s.heap.objs.size) (kzs := kzs) il q hI hDn (Nat.ne_of_gt Dlt) hk (show A.units + 1 + 30 < cLine by lia) R.hd hl kzs [] rfl _ [] [] (fun b o e => Heap.get?_push_of_some _ (sg b o e)) ⟨_, Heap.get?_push_size _ rfl, rfl, rfl⟩
    ⟨_, #[], 0, Heap.get?_push_of_some _ (k _ _ hD), ⟨rfl, rfl, rfl⟩, rfl, rfl, fun x hx => (nomatch hx), List.nodup_nil⟩ trivial (Nat.le_refl _) fun h2 tk2 xs' sg2 hm2 rx2 kk => ?_
  refine ⟨rfl, ?_, ⟨h2, tk2, rfl, fun b o e => ?_⟩⟩
  · refine dctOfH ns dM hm2 rx2 fun b o e => ?_
    exact hid_get (sg2 b o e) (hid_not e)
  · have b1 : b ≠ h'.objs.size := Nat.ne_of_lt (Nat.lt_trans (Heap.lt_size e) Dlt)
    have b2 : b ≠ s.heap.objs.size := Nat.ne_of_lt (Heap.lt_size e)
    exact kk b o b1 b2 (Heap.get?_push_of_some _ (s0 b o e))
end
end Mine
namespace Mine
open SeqAt

section
variable {C : Cx} {n : Nat} {env : Env} {σ σ' : List (Str × V)} {τ τ₁ τ₂ τ₃ : Option Nat} {wv : Str → Bool}
structure KeysOk (kvs : List (V × V)) : Prop where
  ok : ∀ p ∈ kvs, keyOk p.1
  nd : (kvs.map (·.1)).Nodup
open Classical in
theorem dctH {h g : Heap} {a : Addr} {es : List DictEntry} {kvs : List (V × V)} (l : IsDct h a es) (q : RpD C g es kvs) (sg : Sub g h) (ko : KeysOk kvs) : ∃ xs, h.DictOfH (vKind C) a xs ∧ RpX C g xs kvs := by
  obtain ⟨xs, e, r⟩ := RpX.ofD q ko.ok
  obtain ⟨ns, ep, ho⟩ := l
  refine ⟨xs, ⟨_, _, ep, ho, ⟨rfl, rfl, rfl⟩, rfl, by simp [e], fun x hx => ⟨(ix_of r x hx).up sg, ?_⟩, by rw [r.keys]; exact ko.nd⟩, r⟩
  have : x.1 ∈ kvs.map (·.1) := by rw [← r.keys]; exact List.mem_map.mpr ⟨x, hx, rfl⟩
  obtain ⟨p, hp, e2⟩ := List.mem_map.mp this
  have := ko.ok p hp
  rw [e2] at this
  exact ⟨this.1, this.2.1, this.2.2.1⟩

theorem Ev_dict0 {pos} : Ev C n (.Dict [] [] pos) env σ τ (.dct []) τ := fun A R M s S => by
  have ns := S.toGs.fresh_mod (.inl (size_none _))
  have dM : s.heap.objs.size ∉ M := fun q => let ⟨o, e⟩ := S.low _ q; Nat.lt_irrefl _ (Heap.lt_size e)
  exact wpAny_Dict_empty ⟨S.keeps (kpPush ..), .dct (es := []) ⟨ns, 0, hid_get (Heap.get?_push_size _ rfl) dM⟩ .nil, .of (kpPush ..)⟩

theorem Ex1_assign_dict0 {x p pos pos2} {P : Out → Prop} (hx : ownVar env x = true) (h : P (.next ((x, .oD []) :: σ) τ))
    (hs : swapsWith (.Dict [] [] pos2) (some (.Name x p)) pos.line env = pure false := by rfl) : Ex1 C n (.Assign [.Name x p] (.Dict [] [] pos2) pos) env σ τ P := fun A R s₀ M₀ W O ρ s F => by
  have ns := F.gs.fresh_mod (.inl (size_none _))
  have fr : s.heap.get? s.heap.objs.size = Option.none := size_none _
  have aM : s.heap.objs.size ∉ W ++ (O ++ M₀) := fun q => let ⟨o, e⟩ := F.gs.low _ q; Nat.lt_irrefl _ (Heap.lt_size e)
  refine wpAny_Assign_Name (wpAny_Dict_empty ?_) hs
  have kp := kpPush s { cls := .type "dict", data := .dict #[] }
  have k : Sub s.heap (s.heap.push { cls := .type "dict", data := .dict #[] }) := fun _ _ e => Heap.get?_push_of_some _ e
  have fr1 : ∀ a ∈ [s.heap.objs.size], s.heap.get? a = Option.none := fun a ha => by simp at ha; subst ha; exact size_none _
  have G := F.gs.more (N := [s.heap.objs.size]) (tk := s.toks) k fr1 (fun a ha => by simp at ha; subst ha; exact ⟨_, Heap.get?_push_size _ rfl⟩)
  have F₁ := F.gain (N := [s.heap.objs.size]) (.of kp) G fr1
  have aW : s.heap.objs.size ∉ W := fun z => aM (List.mem_append_left _ z)
  have aT : C.T ≠ some s.heap.objs.size := fun t => aM (F.gs.mT _ t)
  have r : Rep C (s.heap.push { cls := .type "dict", data := .dict #[] }) (W ++ (([s.heap.objs.size] ++ O) ++ M₀)) (.ref s.heap.objs.size) (.oD []) := ⟨_, [], rfl, by simp, aT, ⟨ns, 0, Heap.get?_push_size _ rfl⟩, .nil⟩
  exact F₁.set r (fun _ => ⟨_, rfl, by simp, aW, own_alive F fr⟩) hx hx fun s' F' _ => ⟨_, h, _, _, F'⟩

theorem Fw.eval_var {A : Around} {s₀ : Shared} {M₀ W O : List Addr} {ρ : Str → Option Value} {s : Shared} {x : Str} {p : Pos} {v : Value} {Q : Value → Shared → Prop} (F : Fw C wv s₀ M₀ W env σ τ O ρ s) (hρ : ρ x = some v) (i : isVar env x = true) (h : Q v s)
    (hd : (x == ("__debug__" : Str)) = false) (hc : (x == ("__classdict__" : Str)) = false) : wpAny (model C.prog C.w) A (eval (.Name x p) env) Q NoE s :=
  wpAny_Name (load_at F.frame F.glob.2.2 hρ i hc h) hd

open Classical in
theorem Ex1_setitem {x p i pos' value pos} {k z : V} {kvs : List (V × V)} {P : Out → Prop} (hv : Ev C n value env σ τ z τ₁) (hi : Ev C n i env σ τ₁ k τ₂) (hx : σ.lookup x = some (.oD kvs)) (hz : z.pure = true) (hk : keyOk k) (ko : KeysOk kvs) (hl : kvs.length ≤ 1000)
    (h : P (.next ((x, .oD (putV k z kvs)) :: σ) τ₂)) (iv : isVar env x = true)
    (hs : swapsWith value (some (.Subscript (.Name x p) i pos')) pos.line env = pure false := by rfl) (hd : (x == ("__debug__" : Str)) = false := by decide) (hc : (x == ("__classdict__" : Str)) = false := by decide) :
    Ex1 C n (.Assign [.Subscript (.Name x p) i pos'] value pos) env σ τ P := fun A R s₀ M₀ W O ρ s F => by
  refine wpAny_Assign_Subscript (wpAny_mono (hv A R _ s F.st) (fun v s₁ zz => and3 zz fun S₁ r₁ k₁ => ?_) fun _ _ x => x) hs
  have F1 := F.then k₁ S₁.toGs
  obtain ⟨v₀, hρ, rv⟩ := F1.vars x _ hx iv
  refine F1.eval_var hρ iv ?_ hd hc
  refine wpAny_mono (hi A R _ s₁ F1.st) (fun kv s₂ zz => and3 zz fun S₂ r₂ k₂ => ?_) fun _ _ x => x
  have F2 := F1.then k₂ S₂.toGs
  obtain ⟨v₁, hρ₁, rv₁⟩ := F2.vars x _ hx iv
  rw [hρ] at hρ₁; cases hρ₁
  obtain ⟨a, es, rfl, aM, aT, l, q⟩ := rv₁
  have rz : Rp C (hid s₂.heap (W ++ (O ++ M₀))) v z := (rep_pure hz).mp (r₁.kept k₂ F.gs.mT)
  obtain ⟨ks, kk, kd, ys, ek⟩ := hk
  subst ek
  obtain ⟨ka, ws, rfl, lk, qk⟩ := rep_tup r₂
  have rk : Rp C (hid s₂.heap (W ++ (O ++ M₀))) (.ref ka) (.tup ys) := .tup lk qk
  obtain ⟨xs, hm, rx⟩ := dctH l q (hid_sub _ _) ko
  have un := R.un
  refine wpAny_setItem_heap (knd := vKind C) (k := .tup ys) (show A.units + 1 + 20 < cLine by lia) ⟨rk.up (hid_sub _ _), ks, kk, kd⟩ hm (fun h' hm' sb => ?_) (by rw [rx.len, sizeLine_eq]; (exact Nat.le_trans (by assumption) (by decide)))
  have sb' : ∀ b o, b ≠ a → s₂.heap.get? b = some o → h'.get? b = some o := fun b o nb e => (sb.2 b nb).trans e
  have up := upOwn aM sb'
  obtain ⟨⟨c, dd, dt, sl⟩, es', ep, ho, hc', hd', he, his, hn⟩ := hm'
  obtain ⟨c1, c2, c3⟩ := hc'
  simp only at c1 c2 c3 hd'
  subst c1 c2 c3 hd'
  have e : es' = es'.toList.toArray := by simp
  have rr : Rep C h' (W ++ (O ++ M₀)) (.ref a) (.oD (putV (.tup ys) z kvs)) := ⟨a, es'.toList, rfl, aM, aT, ⟨l.1, ep, by rw [← e]; exact ho⟩, he ▸ ((rx.stored rk rz).toD).up up⟩
  exact ⟨_, h, O, ρ, F2.mutate hx iv rfl hρ sb' ⟨_, ho⟩ rfl rr⟩

theorem RpX.at {h : Heap} : ∀ {xs : List (V × Addr × Value)} {kvs : List (V × V)} {k z : V}, RpX C h xs kvs → (k, z) ∈ kvs → ∃ (i : Nat) (a : Addr) (v : Value), xs[i]? = some (k, a, v) ∧ Rp C h v z
  | [], [], _, _, _, hm => nomatch hm
  | (k1, a1, v1) :: xs, (k2, z2) :: kvs, k, z, ⟨e, _, r2, r3⟩, hm => by
    rcases List.mem_cons.mp hm with e2 | hm
    · cases e2
      exact ⟨0, a1, v1, by simp [e], r2⟩
    · obtain ⟨i, a, v, h1, h2⟩ := RpX.at r3 hm
      exact ⟨i + 1, a, v, by simpa using h1, h2⟩

open Classical in
theorem Ev_getitem {value slice pos} {k z : V} {kvs : List (V × V)} (hv : Ev C n value env σ τ (.dct kvs) τ₁) (hs : Ev C n slice env σ τ₁ k τ₂) (hk : keyOk k) (ko : KeysOk kvs) (hz : (k, z) ∈ kvs)
    (he : ∀ a b, subscripted slice false (.ref a) (.ref b) = operate [.ref a, .ref b] (getItem (.ref a) (.ref b)) := by intro _ _; with_unfolding_all rfl) :
    Ev C n (.Subscript value slice pos) env σ τ z τ₂ := fun A R M s S =>
  Subscript_ (wpAny_mono (hv A R M s S) (fun u s₁ zz => and3 zz fun S₁ r₁ k₁ => wpAny_mono (hs A R M s₁ S₁) (fun v s₂ zz => and3 zz fun S₂ r₂ k₂ => by
    have r₁' := r₁.kept k₂ S.mT
    obtain ⟨a, es, rfl, l, q⟩ := rep_dct r₁'
    obtain ⟨ks, kk, kd, ys, ek⟩ := hk
    subst ek
    obtain ⟨ka, ws, rfl, lk, qk⟩ := rep_tup r₂
    have rk : Rp C (hid s₂.heap M) (.ref ka) (.tup ys) := .tup lk qk
    obtain ⟨xs, hm, rx⟩ := dctH (l.up (hid_sub _ _)) q (hid_sub _ _) ko
    obtain ⟨j, b, w, hj, rw'⟩ := rx.at hz
    have hn : (xs.map (·.1)).Nodup := by rw [rx.keys]; exact ko.nd
    have un := R.un
    refine tail_any hm.typeIs slot_dict_getitem.lookup (wpAny_getItem_heap (knd := vKind C) (k := .tup ys) (p := (b, w)) (show A.units + 1 + 20 < cLine by lia) ⟨rk.up (hid_sub _ _), ks, kk, kd⟩ hm (atKey_of_get hn hj) ?_) (he a ka)
    exact ⟨S₂.keeps (kpTok ..), (rep_of rw').keeps (kpTok s₂ _) S₂.mT, (k₁.trans k₂).trans (.of (kpTok ..))⟩) fun _ _ x => x) fun _ _ x => x)
end
end Mine
namespace Mine
open SeqAt

noncomputable def strD (kvs : List (Str × V)) : List (V × V) := kvs.map fun p => (.str p.1, p.2)
noncomputable def RpS (C : Cx) (h : Heap) : List (Str × Value) → List (Str × V) → Prop
  | [], [] => True
  | (k, v) :: xs, (k', z) :: kvs => k = k' ∧ Rp C h v z ∧ RpS C h xs kvs
  | _, _ => False
theorem RpS.keys {C : Cx} {h : Heap} : ∀ {xs kvs}, RpS C h xs kvs → xs.map (·.1) = kvs.map (·.1)
  | [], [], _ => rfl
  | (_, _) :: _, (_, _) :: _, ⟨e, _, r⟩ => by simp [e, r.keys]
theorem RpS.len {C : Cx} {h : Heap} {xs kvs} (r : RpS C h xs kvs) : xs.length = kvs.length := by
  have := congrArg List.length r.keys; simpa using this
theorem RpS.ofD {C : Cx} {h : Heap} : ∀ {es : List DictEntry} {kvs : List (Str × V)}, RpD C h es (strD kvs) → ∃ xs, Pairs (strKind C.prog C.w) es xs ∧ (∀ e ∈ es, ∃ k, Value.isStrOf k e.key = true ∧ e.hash = hashStr C.w k) ∧ RpS C h xs kvs
  | es, [], r => by
    cases r
    exact ⟨[], .nil, fun e h => (nomatch h), trivial⟩
  | es, (k, z) :: kvs, r => by
    cases r with | @cons e _ _ es' _ eh rk rx q =>
    obtain ⟨xs, p, hk, rr⟩ := RpS.ofD q
    obtain ⟨eh', ek, ev⟩ := e
    simp only at rk eh
    cases rk with | str _ t =>
    refine ⟨(k, ev) :: xs, .cons (show Value.isStrOf k (.str k t) = true by simp [Value.isStrOf]) rfl p, fun e' he => ?_, rfl, rx, rr⟩
    rcases List.mem_cons.mp he with rfl | he
    · exact ⟨k, by simp [Value.isStrOf], eh⟩
    · exact hk e' he

theorem dctAt {C : Cx} {h g : Heap} {a : Addr} {es : List DictEntry} {kvs : List (Str × V)} (l : IsDct h a es) (q : RpD C g es (strD kvs)) (nd : (kvs.map (·.1)).Nodup) : ∃ xs ep, h.DictAt (PySem.strKind C.prog C.w) a xs ep ∧ RpS C g xs kvs := by
  obtain ⟨xs, p, hk, r⟩ := RpS.ofD q
  obtain ⟨ns, ep, ho⟩ := l
  exact ⟨xs, ep, ⟨_, _, ho, ⟨rfl, rfl, rfl⟩, rfl, fun e he => hk e (by simpa using he), by simpa using p, by rw [r.keys]; exact nd⟩, r⟩

section
variable {C : Cx} {n : Nat} {env : Env} {σ σ' : List (Str × V)} {τ τ₁ τ₂ τ₃ : Option Nat} {wv : Str → Bool}

theorem sorted_pairs_sub {h g : Heap} {as : List Addr} {xs : List (Str × Value)} {kvs : List (Str × V)} (hl : as.length = xs.length) (hp : ∀ (j : Nat) (a : Addr), as[j]? = some a → ∃ key k x, xs[j]? = some (k, x) ∧ Value.isStrOf k key = true ∧ h.get? a = some { cls := .type "tuple", data := .seq #[key, x] })
    (r : RpS C g xs kvs) (sg : Sub g h) : RpL C h (as.map Value.ref) ((strD kvs).map pairV) := by
  induction as generalizing xs kvs with
  | nil =>
    cases xs with
    | nil => cases kvs with
      | nil => exact .nil
      | cons p ps => exact r.elim
    | cons y ys => simp at hl
  | cons a as ih =>
    cases xs with
    | nil => simp at hl
    | cons y ys =>
      obtain ⟨k, v⟩ := y
      cases kvs with
      | nil => exact r.elim
      | cons p ps =>
        obtain ⟨k2, z⟩ := p
        obtain ⟨e, r1, r2⟩ := r
        subst e
        obtain ⟨key, k', x, h1, h2, h3⟩ := hp 0 a rfl
        simp at h1
        obtain ⟨rfl, rfl⟩ := h1
        obtain ⟨t, rfl⟩ := Value.isStrOf_shape h2
        exact .cons (.tup ⟨_, 0, h3, rfl, rfl, rfl⟩ (.cons (.str _ _) (.cons (r1.up sg) .nil))) (ih (by simpa using hl) (fun j a' hj => hp (j + 1) a' (by simpa using hj)) r2)

theorem sortedHeap_facts {h : Heap} {a : Addr} {vs out : List Value} {n : Nat} (ho : h.get? a = some (seqObj "list" vs.toArray n)) :
    (∀ b o, b ≠ a → h.get? b = some o → (sortedHeap h a vs out.toArray).get? b = some o) ∧ IsLst (sortedHeap h a vs out.toArray) a out := by
  unfold sortedHeap
  refine ⟨fun b o ne e => ?_, ?_⟩
  · rw [Heap.get?_update_ne _ _ _ _ ne]
    refine Heap.get?_push_of_some _ (Heap.get?_push_of_some _ ?_)
    rw [Heap.get?_update_ne _ _ _ _ ne]
    exact e
  · obtain ⟨e1, ho1⟩ : ∃ e1, (h.update a (Obj.mapSeq fun _ => #[])).get? a = some (seqObj "list" #[] e1) := ⟨_, get?_update_seq ho (fun _ => #[])⟩
    exact ⟨_, get?_update_seq (Heap.get?_push_of_some _ (Heap.get?_push_of_some _ ho1)) fun _ => out.toArray⟩

theorem EvN_sorted_items {f p pos x px apos pc} {kvs : List (Str × V)} (g : BuiltAt C f (.builtin "sorted")) (hx : σ.lookup x = some (.dct (strD kvs))) (i : isVar env x = true) (nd : (kvs.map (·.1)).Nodup) (ok : SortOk ((strD kvs).map pairV)) (k : env.kindOf f = some .globalImplicit)
    (hbase : attributeBase (.Name x px) "items" env (eval (.Name x px) env) = eval (.Name x px) env := by rfl) (hline : (apos.endLine == pc.line) = true := by rfl)
    (hst : (starEach [.Call (.Attribute (.Name x px) "items" apos) [] [] pc] env).any (·.1) = false := by rfl) (he : starEach [.Call (.Attribute (.Name x px) "items" apos) [] [] pc] env = (false, eval (.Call (.Attribute (.Name x px) "items" apos) [] [] pc) env) :: starEach [] env := by rfl)
    (hd : (f == ("__debug__" : Str)) = false := by decide) (hdx : (x == ("__debug__" : Str)) = false := by decide) (hcx : (x == ("__classdict__" : Str)) = false := by decide) :
    EvN C n (.Call (.Name f p) [.Call (.Attribute (.Name x px) "items" apos) [] [] pc] [] pos) env σ τ (sortV ((strD kvs).map pairV)) τ := fun A R M s S => by
  show wpAny _ _ (do callWith pos (← eval (.Name f p) env) [] (backTo pos (starEach [.Call (.Attribute (.Name x px) "items" apos) [] [] pc] env)) []) _ _ _
  refine wpAny_bind (wp_built S g k hd ?_)
  refine callWith_builtin (by rw [backTo_any]; exact hst) ?_
  have hb : backTo pos (starEach [.Call (.Attribute (.Name x px) "items" apos) [] [] pc] env) = (false, eval (.Call (.Attribute (.Name x px) "items" apos) [] [] pc) env) :: backTo pos (starEach [] env) := by rw [he]; rfl
  rw [hb]
  refine evalArgs_plain ?_
  rw [← hb]
  refine wpAny_items_cons ?_ he
  refine wpAny_Call_method0_late hbase hline ?_
  refine wpAny_Name (wp_var S hx i hcx fun v rv => ?_) hdx
  obtain ⟨a, es, rfl, l, q⟩ := rep_dct rv
  have l' : IsDct s.heap a es := l.up (hid_sub _ _)
  obtain ⟨xs, ep, hat, rs⟩ := dctAt l' q nd
  have un := R.un
  refine ⟨"dict", _, PySem.F.plainAttrs_dict, PySem.F.slot_dict_items, PySem.F.type_dict_items, hat.dictOf.typeIs, fun b e => by cases e; obtain ⟨_, ep', ho⟩ := l'; exact ⟨_, ho, rfl⟩, ?_⟩
  refine callWith_builtin rfl ?_
  refine evalArgs_empty ?_
  show wpAny _ _ (call (.builtin "dict.items") [.ref a]) _ _ _
  refine call_meetsIn PySem.F.slot_dict_items hat.dictOf.typeIs PySem.F.entry_dict_items (PySem.F.args_dict_items_1 _) (meets_dict_items (PySem.strKind C.prog C.w) a l'.1) ⟨⟨xs, hat.dictOf⟩, ?_⟩
  refine wpAny_items_nil ?_
  show wpAny _ _ (call (.builtin "sorted") [.ref s.heap.objs.size]) _ _ _
  refine Calls.call_function_entry kind_sorted plain_sorted entry_sorted (args_sorted1 _) ?_
  unfold Builtin.«sorted»
  refine wpAny_bind (m := checkCount "sorted" 1 1 _) (wpAny_pure ?_)
  have hlen : xs.length = kvs.length := rs.len
  have h64 := ok.len
  simp only [List.length_map, strD] at h64
  have hat1 : (s.heap.push { cls := .type "dict_items", data := .fields #[.ref a] }).DictAt (PySem.strKind C.prog C.w) a xs ep := hat.push _
  refine wpAny_bind (kdx_collect (A := A.in1) (knd := PySem.strKind C.prog C.w) (kvs := xs) (ep := ep) R.hd ⟨_, Heap.get?_push_size _ rfl, rfl, rfl⟩ hat1 (by rw [sizeLine_eq]; lia) fun h' tk as hk hl hG => ?_)
  have s0 : Sub s.heap h' := fun b o e => hk b o (Heap.get?_push_of_some _ e)
  have sz : (s.heap.push { cls := .type "dict_items", data := .fields #[.ref a] }).objs.size = s.heap.objs.size + 1 := Heap.size_push ..
  have asM : ∀ b ∈ as, b ∉ M := fun b hb q => by
    obtain ⟨o, e⟩ := S.low b q
    have h1 := hG.above b hb
    have h2 := Heap.lt_size e
    have h3 : s.heap.objs.size + 1 < b := by rw [← sz]; exact h1
    exact absurd h2 (Nat.not_lt.mpr (Nat.le_of_lt (Nat.lt_of_succ_lt h3)))
  have rl : RpL C (hid h' M) (as.map Value.ref) ((strD kvs).map pairV) := sorted_pairs_sub hl (fun j b hj => by
    obtain ⟨key, k', x', e1, e2, e3⟩ := hG.pairs j b hj
    exact ⟨key, k', x', e1, e2, hid_get e3 (asM b (List.mem_of_getElem? hj))⟩) rs (hid_all s0)
  have rlen := rl.length
  simp only [List.length_map, strD] at rlen
  refine wpAny_bind (wpAny_newList ?_ (by rw [List.length_map, rlen, sizeLine_eq]; (exact Nat.le_of_lt (Nat.lt_of_lt_of_le (by assumption) (by decide)))))
  have hoL : (h'.push (seqObj "list" (as.map Value.ref).toArray 0)).get? h'.objs.size = some (seqObj "list" (as.map Value.ref).toArray 0) := Heap.get?_push_size _ rfl
  have nB : h'.get? h'.objs.size = Option.none := size_none _
  have nn0 : (hid h' M).get? h'.objs.size = Option.none := hid_size_none
  have keep : Sub (hid h' M) (h'.push (seqObj "list" (as.map Value.ref).toArray 0)) := fun b o e => Heap.get?_push_of_some _ (hid_sub _ _ _ _ e)
  show wpAny _ _ _ _ _ { s with heap := h'.push (seqObj "list" (as.map Value.ref).toArray 0), toks := tk }
  refine wpAny_bind (wpAny_holding (wpAny_call_entry slot_list_sort ⟨_, hoL, rfl⟩ entry_list_sort (list_sort_v hoL nn0 keep rl ok (show A.units + 1 + 1 + 202 < cLine by lia) fun out ro => ⟨_, rfl, ?_⟩) (args_list_sort _)))
  refine wpAny_pure ⟨_, rfl, ?_⟩
  obtain ⟨f1, f2⟩ := sortedHeap_facts (out := out) hoL
  have k1 : Sub h' (sortedHeap (h'.push (seqObj "list" (as.map Value.ref).toArray 0)) h'.objs.size (as.map Value.ref) out.toArray) := fun b o e => f1 b o (Nat.ne_of_lt (Heap.lt_size e)) (Heap.get?_push_of_some _ e)
  have kp : Keeps s { s with heap := sortedHeap (h'.push (seqObj "list" (as.map Value.ref).toArray 0)) h'.objs.size (as.map Value.ref) out.toArray, toks := tk } := ⟨_, tk, rfl, s0.trans k1⟩
  have nn : s.heap.get? h'.objs.size = Option.none := by
    cases e : s.heap.get? h'.objs.size with
    | none => rfl
    | some o => have := s0 _ _ e; rw [nB] at this; cases this
  have fr : ∀ b ∈ [h'.objs.size], h'.get? b = Option.none := fun b hb => by simp at hb; subst hb; exact nB
  have frs : ∀ b ∈ [h'.objs.size], s.heap.get? b = Option.none := fun b hb => by simp at hb; subst hb; exact nn
  refine ⟨S.keeps kp, ⟨_, out, rfl, nn, not_low (h' := s.heap) S.toGs nn, f2, S.toGs.more (N := [h'.objs.size]) (tk := tk) (s0.trans k1) frs (fun b hb => by simp at hb; subst hb; obtain ⟨n, e⟩ := f2; exact ⟨_, e⟩), ro.up (hid_more (N := [h'.objs.size]) k1 fr)⟩, .of kp⟩
end
end Mine
namespace Mine

structure MakeAt (C : Cx) (fI : Addr) : Prop where
  mks : makesIn C.K C.bag = true
  kp : keepIn C.K (.ref C.bag) = true
  init : findIn C.K (.ref C.bag) "__init__" = some (some (.ref fI))
  ty : typeIn C.K (.ref fI) = some (.type "function")
  st : findIn C.K (.ref C.bag) "__setattr__" = some (some (.builtin "object.__setattr__"))
  po : plainOver C.K C.bag = true
  tk : takerIn C.K C.bag opsName = some none
  hh : (clsIn C.K C.bag).any (·.hasDict) = true
  fn : ∃ fd p1 p2 p3 p4, FnData C fI fd [.Assign [.Attribute (.Name "self" p1) opsName p2] (.Name "ops" p3) p4] ["self", "ops"] ∧ ∀ L cs, isVar (fenv fd fI L cs) "self" = true ∧ isVar (fenv fd fI L cs) "ops" = true ∧ swapsWith (.Name "ops" p3) (some (.Attribute (.Name "self" p1) opsName p2)) p4.line (fenv fd fI L cs) = pure false

section
variable {C : Cx} {n : Nat} {env : Env} {σ σ' : List (Str × V)} {τ τ₁ τ₂ τ₃ : Option Nat} {wv : Str → Bool}

theorem set_ops {A : Around} {s : Shared} {x dx : Addr} {v : Value} {Q : Unit → Shared → Prop} {fI : Addr} (X : C.K.In s.heap) (m : MakeAt C fI) (hx : s.heap.get? x = some (instObj C.bag dx)) (hD : s.heap.get? dx = some emptyDict)
    (h : ∀ h' tk hs t n', (∀ b o, b ≠ dx → s.heap.get? b = some o → h'.get? b = some o) → h'.get? dx = some (dictOf [⟨hs, .str opsName t, v⟩] n') → Q () { s with heap := h', toks := tk }) :
    wpAny (model C.prog C.w) A (setAttr (.ref x) opsName v) Q NoE s := by
  have I : InstAt s.heap x (instObj C.bag dx) C.bag (some emptyDict) := ⟨hx, rfl, rfl, hD⟩
  refine set_plain X I m.st ?_
  refine osa_open (s := { s with toks := s.toks + 1 }) X I m.po m.tk fun b => ?_
  obtain ⟨cd, hc, hd'⟩ := any_some m.hh
  obtain ⟨es', n', e1, e2⟩ : ∃ (es' : List DictEntry) (n' : Nat), Obj.putName opsName (PyData.keyHash C.w.params opsName) (.str opsName (s.toks + 1)) v emptyDict = dictOf es' n' ∧ es' = [⟨PyData.keyHash C.w.params opsName, .str opsName (s.toks + 1), v⟩] := by
    exact ⟨_, _, putName_dict opsName _ _ v [] 0, rfl⟩
  subst e2
  refine wpAny_bind (wpAny_pure (wpAny_bind (wpAny_bind (wpAny_loadPart hx (wpAny_bind (Looks.here (s := { s with toks := s.toks + 1 }) (looks_clsIn X hc) ?_))))))
  rw [hd']
  refine wpAny_pure (a := some dx) (wpAny_bind (wpAny_pure (wpAny_bind ?_)))
  unfold nsSet
  refine wpAny_bind (wpAny_bind (wpAny_askSetting (wpAny_pure (wpAny_bind (wpAny_mkText (wpAny_bind (wpAny_loadPart hD ?_)))))))
  dsimp only
  have c : (!(#[] : Array DictEntry).any (·.key.isStr opsName) && (#[] : Array DictEntry).any (·.refKey)) = false := by simp
  rw [aRefKeyMayBeTheName_at, c]
  have D' : (s.heap.update dx (Obj.putName opsName (PyData.keyHash C.w.params opsName) (.str opsName (s.toks + 1)) v)).get? dx = some (dictOf [⟨PyData.keyHash C.w.params opsName, .str opsName (s.toks + 1), v⟩] n') := by
    rw [Heap.get?_update_self _ hD (by rw [e1]; rfl), e1]
  refine wpAny_updatePart hD ?_
  refine wpAny_bind (wpAny_lookBehind D' (pastItsLine_dict (by rw [sizeLine_eq]; simp)) ?_)
  exact wpAny_pure (h _ _ _ _ n' (fun b o nb e => (Heap.get?_update_ne _ _ _ _ nb).trans e) D')

theorem Ev_make {f p pos e} {ops : V} {fI : Addr} (m : MakeAt C fI) (g : GlobAt C f (.ref C.bag)) (h : Ev C (n + 1) e env σ τ ops τ₁) (hp : ops.pure = true) (k : env.kindOf f = some .globalImplicit)
    (he : starEach [e] env = (false, eval e env) :: starEach [] env := by rfl) (hd : (f == ("__debug__" : Str)) = false := by decide) : Ev C (n + 1) (.Call (.Name f p) [e] [] pos) env σ τ (.self ops) τ₁ := fun A R M s S => by
  show wpAny _ _ (do callWith pos (← eval (.Name f p) env) [] (backTo pos (starEach [e] env)) []) _ _ _
  refine wpAny_bind (wp_glob S g k hd ?_)
  refine callWith_K (C.kin _ S.base) m.kp ?_ (hplain := by rw [backTo_any]; rfl) (he := he)
  refine wpAny_mono ((EvL_cons h EvL_nil he) pos A R M s S) (fun vs s' zz => and3 zz fun S' r' k' => ?_) fun _ _ x => x
  obtain ⟨v, rfl, r⟩ := repL_one r'
  have X : C.K.In s'.heap := fun b o e => hid_sub _ _ _ _ (C.kin _ S'.base b o e)
  refine ⟨X, ?_⟩
  obtain ⟨hp0, gg, dd, tt, os⟩ := s'
  refine wpAny_call (make_core (makes_of X m.mks) (looks_findIn X m.init) (fun self => bind_fn X self m.ty) (.inl rfl) ?_)
  obtain ⟨fd, p1, p2, p3, p4, D, hv⟩ := m.fn
  have kk : Sub hp0 ((hp0.push emptyDict).push (instObj C.bag hp0.objs.size)) := fun b o e => Heap.get?_push_of_some _ (Heap.get?_push_of_some _ e)
  have sz : (hp0.push emptyDict).objs.size = hp0.objs.size + 1 := Heap.size_push ..
  have hx : ((hp0.push emptyDict).push (instObj C.bag hp0.objs.size)).get? (hp0.objs.size + 1) = some (instObj C.bag hp0.objs.size) := by rw [← sz]; exact Heap.get?_push_size _ rfl
  have hD : ((hp0.push emptyDict).push (instObj C.bag hp0.objs.size)).get? hp0.objs.size = some emptyDict := Heap.get?_push_of_some _ (Heap.get?_push_size _ rfl)
  have fr : ∀ a ∈ [hp0.objs.size], hp0.get? a = Option.none := fun a ha => by simp at ha; subst ha; exact size_none _
  have G0 : Gs C M τ₁ ⟨hp0, gg, dd, tt, os⟩ := S'.toGs
  have G1 := G0.more (N := [hp0.objs.size]) (tk := tt) kk fr (fun a ha => by simp at ha; subst ha; exact ⟨_, hD⟩)
  have dn : hp0.get? hp0.objs.size = Option.none := size_none _
  have xn : hp0.get? (hp0.objs.size + 1) = Option.none := by
    cases q : hp0.get? (hp0.objs.size + 1) with
    | none => rfl
    | some o => exact absurd (Heap.lt_size q) (Nat.not_lt.mpr (Nat.le_add_right _ _))
  have r1 : RepL C ((hp0.push emptyDict).push (instObj C.bag hp0.objs.size)) ([hp0.objs.size] ++ M) [.ref (hp0.objs.size + 1), v] [.any, ops] := ⟨True.intro, Rep.more (h := hp0) r kk fr, trivial⟩
  have dp := R.dp
  refine codeAny_mono (fn_enter (Q := fun v' s'' => v' = .none ∧ (St C M env σ τ₁ s'' ∧ Rep C s''.heap M (.ref (hp0.objs.size + 1)) (.self ops) ∧ Kept C s s'')) D rfl (fun z hz => ?_) (show A.depth + 1 < recursionLimit by lia) G1 r1 fun L cs W s2 F k2 frW => ?_) (fun q s'' z => ?_)
  · simp only [List.mem_cons, List.not_mem_nil, or_false] at hz
    rcases hz with rfl | rfl
    · rfl
    · exact own_of_pure hp
  · obtain ⟨i1, i2, sw⟩ := hv L cs
    refine wpAny_execs_cons (plainObj_wpAny_Assign_Attribute (F.eval_var (v := v) (by rfl) i2 (F.eval_var (v := .ref (hp0.objs.size + 1)) (by rfl) i1 ?_ (by decide) (by decide)) (by decide) (by decide)) sw)
    obtain ⟨h2, tk2, e2, kk2⟩ := k2
    subst e2
    have X2 : C.K.In h2 := fun b o e => hid_sub _ _ _ _ (C.kin _ F.gs.base b o e)
    refine set_ops (fI := fI) X2 m (kk2 _ _ hx) (kk2 _ _ hD) fun h3 tk3 hs t n' k3 h3d => ?_
    refine wpAny_execs_nil ?_
    have sub : Sub hp0 h3 := fun b o e => k3 b o (fun q => by rw [q, dn] at e; cases e) (kk2 _ _ (kk _ _ e))
    have kp : Keeps ⟨hp0, gg, dd, tt, os⟩ { (⟨h2, gg, dd, tk2, os⟩ : Shared) with heap := h3, toks := tk3 } := ⟨h3, tk3, rfl, sub⟩
    have nx : hp0.objs.size + 1 ∉ M := not_low (h' := hp0) G0 xn
    have nd : hp0.objs.size ∉ M := not_low (h' := hp0) G0 dn
    have bg : IsBag C.bag (hid h3 M) (hp0.objs.size + 1) v := ⟨hp0.objs.size, hs, t, n', hid_get (k3 _ _ (Nat.succ_ne_self _) (kk2 _ _ hx)) nx, hid_get h3d nd⟩
    exact ⟨rfl, S'.keeps kp, .self bg (((rep_pure hp).mp r).up (hid_all sub)), k'.trans (.of kp)⟩
  · rcases q with e | (v' | _ | _ | _) <;> first | exact z.elim | exact ⟨z.1, z.2⟩
end
end Mine
namespace Mine
theorem dict_two {prog : Program} {w : World} {h : Heap} {d : Addr} {k1 k2 : Str} {v1 v2 : Value} (hm : h.DictOf (PySem.strKind prog w) d [(k1, v1), (k2, v2)]) :
    ∃ t1 t2 n, h.get? d = some { cls := .type "dict", data := .dict #[⟨PyData.keyHash w.params k1, .str k1 t1, v1⟩, ⟨PyData.keyHash w.params k2, .str k2 t2, v2⟩] n } := by
  obtain ⟨⟨c, dd, dt, sl⟩, es', ep, ho, hc', hd', hks, hps, hn⟩ := hm
  obtain ⟨c1, c2, c3⟩ := hc'
  simp only at c1 c2 c3 hd'
  subst c1 c2 c3 hd'
  have ex : ∃ e1 e2 : DictEntry, es' = #[e1, e2] ∧ Value.isStrOf k1 e1.key = true ∧ e1.val = v1 ∧ Value.isStrOf k2 e2.key = true ∧ e2.val = v2 := by
    generalize hL : es'.toList = L at hps
    cases hps with | cons a1 a2 r =>
    cases r with | cons b1 b2 r =>
    cases r
    rename_i e1 e2
    exact ⟨e1, e2, by rw [← Array.toArray_toList (xs := es'), hL], a1, a2, b1, b2⟩
  obtain ⟨e1, e2, rfl, a1, a2, b1, b2⟩ := ex
  obtain ⟨h1, ky1, vl1⟩ := e1
  obtain ⟨h2, ky2, vl2⟩ := e2
  simp only at a1 a2 b1 b2
  obtain ⟨u1, rfl⟩ := Value.isStrOf_shape a1
  obtain ⟨u2, rfl⟩ := Value.isStrOf_shape b1
  subst a2 b2
  have g1 : h1 = PyData.keyHash w.params k1 := by
    obtain ⟨q, q1, q2⟩ := hks ⟨h1, .str k1 u1, vl1⟩ (by simp)
    have := Value.isStrOf_inj _ _ _ (show Value.isStrOf q (.str k1 u1) = true from q1) (show Value.isStrOf k1 (.str k1 u1) = true by simp [Value.isStrOf])
    subst this; exact q2
  have g2 : h2 = PyData.keyHash w.params k2 := by
    obtain ⟨q, q1, q2⟩ := hks ⟨h2, .str k2 u2, vl2⟩ (by simp)
    have := Value.isStrOf_inj _ _ _ (show Value.isStrOf q (.str k2 u2) = true from q1) (show Value.isStrOf k2 (.str k2 u2) = true by simp [Value.isStrOf])
    subst this; exact q2
  subst g1 g2
  exact ⟨u1, u2, ep, ho⟩


section
variable {C : Cx} {n : Nat} {env : Env} {σ σ' : List (Str × V)} {τ τ₁ τ₂ τ₃ : Option Nat} {wv : Str → Bool}
theorem tray_dict {h : Heap} {M : List Addr} {k : Nat} (t : TrayIs C h M (some k)) (hk : C.k1 ≠ C.k2) : ∃ a b tk, C.T = some a ∧ h.DictOf (PySem.strKind C.prog C.w) a [(C.k1, .ref b), (C.k2, .int (k : Int) tk)] ∧ Rp C (hid h M) (.ref b) (.lst C.cells) := by
  obtain ⟨a, t1, t2, tk, n', b, x1, x2, x3⟩ := t
  refine ⟨a, b, tk, x1, ⟨_, _, n', x2, ⟨rfl, rfl, rfl⟩, rfl, fun e he => ?_, ?_, by simp [hk]⟩, x3⟩
  · simp at he
    rcases he with rfl | rfl
    · exact ⟨C.k1, by simp [PySem.strKind, Value.isStrOf], rfl⟩
    · exact ⟨C.k2, by simp [PySem.strKind, Value.isStrOf], rfl⟩
  · exact .cons (by simp [PySem.strKind, Value.isStrOf]) rfl (.cons (by simp [PySem.strKind, Value.isStrOf]) rfl .nil)

theorem Ev_tray {x p k1 pi pos} {y : V} {key : Str} {k : Nat} (hx : σ.lookup x = some .tray) (i : isVar env x = true) (hk : C.k1 ≠ C.k2)
    (hy : (key = C.k2 ∧ y = .int (k : Int)) ∨ (key = C.k1 ∧ y = .lst C.cells))
    (he : ∀ a t, subscripted (.Constant (.str key) k1 pi) false (.ref a) (.str key t) = operate [.ref a, .str key t] (getItem (.ref a) (.str key t)) := by intro _ _; with_unfolding_all rfl)
    (hd : (x == ("__debug__" : Str)) = false := by decide) (hc : (x == ("__classdict__" : Str)) = false := by decide) :
    Ev C n (.Subscript (.Name x p) (.Constant (.str key) k1 pi) pos) env σ (some k) y (some k) := fun A R M s S => by
  refine Subscript_ (wpAny_Name (wp_var S hx i hc fun v rv => ?_) hd)
  refine wpAny_Constant_str ?_
  obtain ⟨a, rfl, hT⟩ := rv
  obtain ⟨a', b, tk, hT', hm, rb⟩ := tray_dict S.tray hk
  rw [hT] at hT'; cases hT'
  have hm' : ({ s with toks := s.toks + 1 } : Shared).heap.DictOf (PySem.strKind C.prog C.w) a [(C.k1, .ref b), (C.k2, .int (k : Int) tk)] := hm
  have fin : ∀ w y, Rep C s.heap M w y → St C M env σ (some k) { s with toks := s.toks + 1 + 1 } ∧ Rep C s.heap M w y ∧ Kept C s { s with toks := s.toks + 1 + 1 } := fun w y r => ⟨S.keeps (kpTok s _), r, .of (kpTok s _)⟩
  rcases hy with ⟨rfl, rfl⟩ | ⟨rfl, rfl⟩
  · refine tail_any (T := "dict") hm.typeIs slot_dict_getitem.lookup (wpAny_getItem_of (knd := PySem.strKind C.prog C.w) (k := C.k2) (v := .int (k : Int) tk) (by simp [PySem.strKind, Value.isStrOf]) hm'.mapOf ?_ (fin _ _ (.int _ _))) (he a _)
    simp [valueAt, hk]
  · refine tail_any (T := "dict") hm.typeIs slot_dict_getitem.lookup (wpAny_getItem_of (knd := PySem.strKind C.prog C.w) (k := C.k1) (v := .ref b) (by simp [PySem.strKind, Value.isStrOf]) hm'.mapOf ?_ (fin _ _ rb)) (he a _)
    simp [valueAt]

theorem Ex1_tray {x p k1 pi p' e pos} {k j : Nat} {P : Out → Prop} (he : Ev C n e env σ τ (.int (j : Int)) (some k)) (hx : σ.lookup x = some .tray) (i : isVar env x = true) (hk : C.k1 ≠ C.k2)
    (h : P (.next σ (some j)))
    (hs : swapsWith e (some (.Subscript (.Name x p) (.Constant (.str C.k2) k1 pi) p')) pos.line env = pure false) (hd : (x == ("__debug__" : Str)) = false := by decide) (hc : (x == ("__classdict__" : Str)) = false := by decide) :
    Ex1 C n (.Assign [.Subscript (.Name x p) (.Constant (.str C.k2) k1 pi) p'] e pos) env σ τ P := fun A R s₀ M₀ W O ρ s F => by
  refine wpAny_Assign_Subscript (wpAny_mono (he A R _ s F.st) (fun v s₁ zz => and3 zz fun S₁ r₁ k₁ => ?_) fun _ _ x => x) hs
  obtain ⟨tj, rfl⟩ := rep_int r₁
  have F1 := F.then k₁ S₁.toGs
  obtain ⟨v₀, hρ, rv⟩ := F1.vars x _ hx i
  obtain ⟨a, rfl, hT⟩ := rv
  refine F1.eval_var hρ i ?_ hd hc
  refine wpAny_Constant_str ?_
  obtain ⟨a', t1, t2, tk, n', b, x1, x2, x3⟩ := F1.gs.tray
  rw [hT] at x1; cases x1
  have hm : ({ s₁ with toks := s₁.toks + 1 } : Shared).heap.DictOf (PySem.strKind C.prog C.w) a [(C.k1, .ref b), (C.k2, .int (k : Int) tk)] := by
    obtain ⟨a2, b2, tk2, h1, h2, h3⟩ := tray_dict (C := C) (h := s₁.heap) (M := W ++ (O ++ M₀)) ⟨a, t1, t2, tk, n', b, hT, x2, x3⟩ hk
    refine ⟨_, _, n', x2, ⟨rfl, rfl, rfl⟩, rfl, fun e he => ?_, ?_, by simp [hk]⟩
    · simp at he
      rcases he with rfl | rfl
      · exact ⟨C.k1, by simp [PySem.strKind, Value.isStrOf], rfl⟩
      · exact ⟨C.k2, by simp [PySem.strKind, Value.isStrOf], rfl⟩
    · exact .cons (by simp [PySem.strKind, Value.isStrOf]) rfl (.cons (by simp [PySem.strKind, Value.isStrOf]) rfl .nil)
  refine wpAny_setItem_pairs (knd := PySem.strKind C.prog C.w) (k := C.k2) (by simp [PySem.strKind, Value.isStrOf]) hm (fun h' hm' sb => ?_) (by rw [sizeLine_eq]; simp)
  have st : stored [(C.k1, Value.ref b), (C.k2, Value.int (k : Int) tk)] C.k2 (.int (j : Int) tj) = [(C.k1, .ref b), (C.k2, .int (j : Int) tj)] := by
    simp [stored, hk]
  rw [st] at hm'
  obtain ⟨u1, u2, ep, ho⟩ := dict_two hm'
  have kk : Kept C s₁ { s₁ with heap := h', toks := s₁.toks + 1 + 1 } := ⟨h', _, rfl, fun b' o nT e => (sb.2 b' (fun q => nT (q ▸ hT))).trans e⟩
  have up : Sub (hid s₁.heap (W ++ (O ++ M₀))) (hid h' (W ++ (O ++ M₀))) := hid_mono fun b' o nb e => (sb.2 b' (fun q => nb (q ▸ F1.gs.mT a hT))).trans e
  have G := F1.gs.kept (h' := h') (tk := s₁.toks + 1 + 1) (τ' := some j) (fun b' o nT e => (sb.2 b' (fun q => nT (q ▸ hT))).trans e) (fun a' q => by rw [hT] at q; cases q; exact ⟨_, ho⟩)
    ⟨a, u1, u2, tj, ep, b, hT, ho, x3.up up⟩
  exact ⟨_, h, O, ρ, F1.then kk G⟩

end
end Mine
namespace Mine
open SeqAt

noncomputable def putS (k : Str) (z : V) (kvs : List (Str × V)) : List (Str × V) := if kvs.any (fun p => p.1 = k) then kvs.map (fun p => if p.1 = k then (p.1, z) else p) else kvs ++ [(k, z)]
theorem RpS.put {C : Cx} {h : Heap} {k : Str} {z : V} {v : Value} (rz : Rp C h v z) : ∀ {xs kvs}, RpS C h xs kvs → RpS C h (xs.map fun p => if p.1 = k then (p.1, v) else p) (kvs.map fun p => if p.1 = k then (p.1, z) else p)
  | [], [], _ => trivial
  | (k1, v1) :: xs, (k2, z2) :: kvs, ⟨e, r, q⟩ => by
    subst e
    rw [List.map_cons, List.map_cons]
    by_cases hk : k1 = k
    · rw [if_pos hk, if_pos hk]; exact ⟨rfl, rz, RpS.put rz q⟩
    · rw [if_neg hk, if_neg hk]; exact ⟨rfl, r, RpS.put rz q⟩
theorem RpS.app {C : Cx} {h : Heap} {k : Str} {z : V} {v : Value} (rz : Rp C h v z) : ∀ {xs kvs}, RpS C h xs kvs → RpS C h (xs ++ [(k, v)]) (kvs ++ [(k, z)])
  | [], [], _ => ⟨rfl, rz, trivial⟩
  | (k1, v1) :: xs, (k2, z2) :: kvs, ⟨e, r, q⟩ => ⟨e, r, RpS.app rz q⟩
theorem RpS.any {C : Cx} {h : Heap} {k : Str} : ∀ {xs kvs}, RpS C h xs kvs → xs.any (fun p => p.1 = k) = kvs.any fun p => p.1 = k
  | [], [], _ => rfl
  | (k1, v1) :: xs, (k2, z2) :: kvs, ⟨e, r, q⟩ => by
    subst e
    rw [List.any_cons, List.any_cons, RpS.any q]
theorem RpS.stored {C : Cx} {h : Heap} {k : Str} {z : V} {v : Value} {xs kvs} (r : RpS C h xs kvs) (rz : Rp C h v z) : RpS C h (PySem.stored xs k v) (putS k z kvs) := by
  unfold PySem.stored putS
  rw [r.any]
  split
  · exact r.put rz
  · exact r.app rz
theorem RpS.at {C : Cx} {h : Heap} (k : Str) : ∀ {xs kvs}, RpS C h xs kvs → match kvs.lookup k with | none => valueAt xs k = none | some z => ∃ v, valueAt xs k = some v ∧ Rp C h v z
  | [], [], _ => rfl
  | (k1, v1) :: xs, (k2, z2) :: kvs, ⟨e, r, q⟩ => by
    subst e
    have ih := RpS.at k q
    rw [List.lookup_cons]
    unfold valueAt at ih ⊢
    rw [List.find?_cons]
    by_cases hk : k1 = k
    · subst hk
      rw [beq_self_eq_true, decide_eq_true rfl]
      exact ⟨v1, rfl, r⟩
    · rw [decide_eq_false hk, beq_false_of_ne (fun q => hk q.symm)]
      exact ih
theorem RpS.toD {C : Cx} {h : Heap} : ∀ {es : List DictEntry} {xs : List (Str × Value)} {kvs : List (Str × V)}, Pairs (strKind C.prog C.w) es xs → (∀ e ∈ es, ∃ k, Value.isStrOf k e.key = true ∧ e.hash = hashStr C.w k) → RpS C h xs kvs → RpD C h es (strD kvs)
  | [], _, [], p, _, _ => .nil
  | [], _, _ :: _, p, _, r => by cases p; exact r.elim
  | e :: es, _, kvs, p, hk, r => by
    cases p with | @cons _ kv _ xs a1 a2 q =>
    obtain ⟨k1, v1⟩ := kv
    cases kvs with
    | nil => exact r.elim
    | cons p2 kvs =>
      obtain ⟨k2, z2⟩ := p2
      obtain ⟨e1, r1, r2⟩ := r
      subst e1
      obtain ⟨hh, ky, vl⟩ := e
      simp only at a1 a2
      obtain ⟨t, rfl⟩ := Value.isStrOf_shape a1
      subst a2
      obtain ⟨k', b1, b2⟩ := hk _ List.mem_cons_self
      have := Value.isStrOf_inj _ _ _ b1 (show Value.isStrOf k1 (.str k1 t) = true by simp [Value.isStrOf])
      subst this
      exact .cons b2 (.str _ _) r1 (RpS.toD q (fun e he => hk e (List.mem_cons_of_mem _ he)) r2)
theorem dctOfS {C : Cx} {h g : Heap} {d : Addr} {xs : List (Str × Value)} {kvs : List (Str × V)} (hm : h.DictOf (PySem.strKind C.prog C.w) d xs) (r : RpS C g xs kvs) :
    ∃ es ep, h.get? d = some { cls := .type "dict", data := .dict (List.toArray es) ep } ∧ RpD C g es (strD kvs) := by
  obtain ⟨⟨c, dd, dt, sl⟩, es', ep, ho, hc', hd', hks, hps, hn⟩ := hm
  obtain ⟨c1, c2, c3⟩ := hc'
  simp only at c1 c2 c3 hd'
  subst c1 c2 c3 hd'
  exact ⟨es'.toList, ep, by simpa using ho, RpS.toD hps (fun e he => hks e (by simpa using he)) r⟩
section
variable {C : Cx} {n : Nat} {env : Env} {σ σ' : List (Str × V)} {τ τ₁ τ₂ τ₃ : Option Nat} {wv : Str → Bool}
theorem Ex1_assign_dict {x p f pf e pc pos} {kvs : List (Str × V)} {P : Out → Prop} (g : BuiltAt C f (.type "dict")) (he : Ev C n e env σ τ (.dct (strD kvs)) τ₁) (nd : (kvs.map (·.1)).Nodup) (hl : kvs.length ≤ 1000) (k : env.kindOf f = some .globalImplicit) (hx : ownVar env x = true)
    (h : P (.next ((x, .oD (strD kvs)) :: σ) τ₁)) (hst : (starEach [e] env).any (·.1) = false := by rfl) (he' : starEach [e] env = (false, eval e env) :: starEach [] env := by rfl) (hd : (f == ("__debug__" : Str)) = false := by decide)
    (hs : swapsWith (.Call (.Name f pf) [e] [] pc) (some (.Name x p)) pos.line env = pure false := by rfl) : Ex1 C n (.Assign [.Name x p] (.Call (.Name f pf) [e] [] pc) pos) env σ τ P := fun A R s₀ M₀ W O ρ s F => by
  refine wpAny_Assign_Name ?_ hs
  show wpAny _ _ (do callWith pc (← eval (.Name f pf) env) [] (backTo pc (starEach [e] env)) []) _ _ _
  refine wpAny_bind (wp_built F.st g k hd ?_)
  refine callWith_type (by rw [backTo_any]; exact hst) (evalArgs_ev (EvL_cons he EvL_nil he') he' R F.st fun vs s' S' r' k' => ?_)
  obtain ⟨v, rfl, r⟩ := repL_one r'
  obtain ⟨a, es, rfl, l, q⟩ := rep_dct r
  have F1 := F.then k' S'.toGs
  obtain ⟨xs, ep, hat, rs⟩ := dctAt (l.up (hid_sub _ _)) q nd
  have fr : s'.heap.get? s'.heap.objs.size = Option.none := size_none _
  have ns := F1.gs.fresh_mod (.inl fr)
  have aM : s'.heap.objs.size ∉ W ++ (O ++ M₀) := fun q => let ⟨o, e⟩ := F1.gs.low _ q; Nat.lt_irrefl _ (Heap.lt_size e)
  refine kt_call_dict (knd := PySem.strKind C.prog C.w) l.1 hat.dictOf (by rw [rs.len, sizeLine_eq]; (exact Nat.le_trans (by assumption) (by decide))) fun h' hm sb => ?_
  have k2 : Sub s'.heap h' := fun b o e => (sb.2 b (Nat.ne_of_lt (Heap.lt_size e))).trans (Heap.get?_push_of_some _ e)
  obtain ⟨es', ep', ho, rd⟩ := dctOfS hm rs
  have fr1 : ∀ a ∈ [s'.heap.objs.size], s'.heap.get? a = Option.none := fun a ha => by simp at ha; subst ha; exact fr
  have G := F1.gs.more (N := [s'.heap.objs.size]) (tk := s'.toks) k2 fr1 (fun a ha => by simp at ha; subst ha; exact ⟨_, ho⟩)
  have F2 := F1.gain (N := [s'.heap.objs.size]) (.of ⟨h', s'.toks, rfl, k2⟩) G fr1
  have aW : s'.heap.objs.size ∉ W := fun z => aM (List.mem_append_left _ z)
  have aT : C.T ≠ some s'.heap.objs.size := fun t => aM (F1.gs.mT _ t)
  have up : Sub (hid s'.heap (W ++ (O ++ M₀))) (hid h' (W ++ (([s'.heap.objs.size] ++ O) ++ M₀))) := hid_up (fun b o _ e => k2 b o e) fun b o nb e q => by
    simp only [List.mem_append, List.mem_cons, List.not_mem_nil, or_false] at nb q
    rcases q with q | (rfl | q) | q
    · exact nb (.inl q)
    · rw [fr] at e; cases e
    · exact nb (.inr (.inl q))
    · exact nb (.inr (.inr q))
  have r2 : Rep C h' (W ++ (([s'.heap.objs.size] ++ O) ++ M₀)) (.ref s'.heap.objs.size) (.oD (strD kvs)) := ⟨_, es', rfl, by simp, aT, ⟨ns, ep', ho⟩, rd.up up⟩
  exact F2.set r2 (fun _ => ⟨_, rfl, by simp, aW, own_alive F1 fr⟩) hx hx fun s' F' _ => ⟨_, h, _, _, F'⟩

theorem Ex1_setitem_str {x p i pos' value pos} {k : Str} {z : V} {kvs : List (Str × V)} {P : Out → Prop} (hv : Ev C n value env σ τ z τ₁) (hi : Ev C n i env σ τ₁ (.str k) τ₂) (hx : σ.lookup x = some (.oD (strD kvs))) (hz : z.pure = true) (nd : (kvs.map (·.1)).Nodup) (hl : kvs.length ≤ 1000)
    (h : P (.next ((x, .oD (strD (putS k z kvs))) :: σ) τ₂)) (iv : isVar env x = true)
    (hs : swapsWith value (some (.Subscript (.Name x p) i pos')) pos.line env = pure false := by rfl) (hd : (x == ("__debug__" : Str)) = false := by decide) (hc : (x == ("__classdict__" : Str)) = false := by decide) :
    Ex1 C n (.Assign [.Subscript (.Name x p) i pos'] value pos) env σ τ P := fun A R s₀ M₀ W O ρ s F => by
  refine wpAny_Assign_Subscript (wpAny_mono (hv A R _ s F.st) (fun v s₁ zz => and3 zz fun S₁ r₁ k₁ => ?_) fun _ _ x => x) hs
  have F1 := F.then k₁ S₁.toGs
  obtain ⟨v₀, hρ, rv⟩ := F1.vars x _ hx iv
  refine F1.eval_var hρ iv ?_ hd hc
  refine wpAny_mono (hi A R _ s₁ F1.st) (fun kv s₂ zz => and3 zz fun S₂ r₂ k₂ => ?_) fun _ _ x => x
  have F2 := F1.then k₂ S₂.toGs
  obtain ⟨v₁, hρ₁, rv₁⟩ := F2.vars x _ hx iv
  rw [hρ] at hρ₁; cases hρ₁
  obtain ⟨a, es, rfl, aM, aT, l, q⟩ := rv₁
  have rz : Rp C (hid s₂.heap (W ++ (O ++ M₀))) v z := (rep_pure hz).mp (r₁.kept k₂ F.gs.mT)
  obtain ⟨t, rfl⟩ := rep_str r₂
  obtain ⟨xs, ep, hat, rs⟩ := dctAt l q nd
  refine wpAny_setItem_pairs (knd := PySem.strKind C.prog C.w) (k := k) (by simp [PySem.strKind, Value.isStrOf]) hat.dictOf (fun h' hm' sb => ?_) (by rw [rs.len, sizeLine_eq]; (exact Nat.le_trans (by assumption) (by decide)))
  have sb' : ∀ b o, b ≠ a → s₂.heap.get? b = some o → h'.get? b = some o := fun b o nb e => (sb.2 b nb).trans e
  obtain ⟨es', ep', ho, rd⟩ := dctOfS hm' (rs.stored rz)
  have rr : Rep C h' (W ++ (O ++ M₀)) (.ref a) (.oD (strD (putS k z kvs))) := ⟨a, es', rfl, aM, aT, ⟨l.1, ep', ho⟩, rd.up (upOwn aM sb')⟩
  exact ⟨_, h, O, ρ, F2.mutate hx iv rfl hρ sb' ⟨_, ho⟩ rfl rr⟩

theorem Cmp_in_dct {k : Str} {kvs : List (Str × V)} {b : Bool} (nd : (kvs.map (·.1)).Nodup) (hb : (kvs.lookup k).isSome = b) : CmpR C n .In (.str k) (.dct (strD kvs)) b := fun A R M s u v ru rv => by
  obtain ⟨t, rfl⟩ := rep_str ru
  obtain ⟨a, es, rfl, l, q⟩ := rep_dct rv
  obtain ⟨xs, ep, hat, rs⟩ := dctAt (l.up (hid_sub _ _)) q nd
  refine wpAny_in_of (knd := PySem.strKind C.prog C.w) (k := k) (by simp [PySem.strKind, Value.isStrOf]) l.1 hat.dictOf.mapOf ⟨?_, kpTok s _⟩
  have := rs.at k
  subst hb
  cases e : kvs.lookup k with
  | none => rw [e] at this; rw [show valueAt xs k = none from this]; rfl
  | some z => rw [e] at this; obtain ⟨v, e2, _⟩ := this; rw [e2]; rfl

theorem Ev_getitem_str {value slice pos} {k : Str} {z : V} {kvs : List (Str × V)} (hv : Ev C n value env σ τ (.dct (strD kvs)) τ₁) (hs : Ev C n slice env σ τ₁ (.str k) τ₂) (nd : (kvs.map (·.1)).Nodup) (hz : kvs.lookup k = some z)
    (he : ∀ a t, subscripted slice false (.ref a) (.str k t) = operate [.ref a, .str k t] (getItem (.ref a) (.str k t)) := by intro _ _; with_unfolding_all rfl) :
    Ev C n (.Subscript value slice pos) env σ τ z τ₂ := fun A R M s S =>
  Subscript_ (wpAny_mono (hv A R M s S) (fun u s₁ zz => and3 zz fun S₁ r₁ k₁ => wpAny_mono (hs A R M s₁ S₁) (fun v s₂ zz => and3 zz fun S₂ r₂ k₂ => by
    obtain ⟨a, es, rfl, l, q⟩ := rep_dct (r₁.kept k₂ S.mT)
    obtain ⟨t, rfl⟩ := rep_str r₂
    obtain ⟨xs, ep, hat, rs⟩ := dctAt (l.up (hid_sub _ _)) q nd
    have := rs.at k
    rw [hz] at this
    obtain ⟨w, e, rw'⟩ := this
    refine tail_any hat.dictOf.typeIs slot_dict_getitem.lookup (wpAny_getItem_of (knd := PySem.strKind C.prog C.w) (k := k) (by simp [PySem.strKind, Value.isStrOf]) hat.dictOf.mapOf e ?_) (he a t)
    exact ⟨S₂.keeps (kpTok ..), (rep_of rw').keeps (kpTok s₂ _) S₂.mT, (k₁.trans k₂).trans (.of (kpTok ..))⟩) fun _ _ x => x) fun _ _ x => x)

theorem Ev_meth {x p1 p2 p3 name e es} {T id : String} {y z : V} {ys : List V} (slot : Slot T name id) (hty : typeOf (.builtin id) = pure (.type "method_descriptor")) (pa : PlainAttrs T)
    (hT : ∀ (M : List Addr) (s : Shared) (v : Value), Rep C s.heap M v y → s.TypeIs v T ∧ ∀ a, v = .ref a → ∃ ob, s.heap.get? a = some ob ∧ ob.dict = none)
    (sp : BuSpec C n (.builtin id) (y :: ys) z) (h : EvL C n (e :: es) env σ τ ys τ₁) (hx : σ.lookup x = some y) (i : isVar env x = true)
    (hb : attributeBase (.Name x p1) name env (eval (.Name x p1) env) = eval (.Name x p1) env := by rfl)
    (hfew : ((backTo p3 (starEach (e :: es) env)).all (fun x => !x.1) && (backToKw p3 (keywordEach [] env)).all (fun x => x.1.isSome)
      && decide ((e :: es).length + ([] : List Keyword).length + (if ([] : List Keyword).isEmpty then 0 else 1) < 30)) = true := by rfl) (hline : (p2.endLine == p3.line) = true := by rfl)
    (hst : (starEach (e :: es) env).any (·.1) = false := by rfl) (he : starEach (e :: es) env = (false, eval e env) :: starEach es env := by rfl) (hd : (x == ("__debug__" : Str)) = false := by decide) (hc : (x == ("__classdict__" : Str)) = false := by decide) :
    Ev C n (.Call (.Attribute (.Name x p1) name p2) (e :: es) [] p3) env σ τ z τ₁ := fun A R M s S => by
  refine wpAny_Call_method hb hfew hline pa slot hty ?_
  refine wpAny_Name (wp_var S hx i hc fun v rv => ?_) hd
  obtain ⟨h1, h2⟩ := hT M s v rv
  refine ⟨h1, h2, ?_⟩
  refine callWith_builtin (by rw [backTo_any]; exact hst) (evalArgs_ev h he R S fun vs s' S' r' k' => ?_)
  exact wpAny_mono (sp A R M s' (v :: vs) τ₁ S'.toGs ⟨rv.kept k' S.mT, r'⟩) (fun u s2 zz => and2 zz fun r2 k2 => ⟨S'.keeps k2, r2, k'.trans (.of k2)⟩) fun _ _ x => x

theorem dct_type {kvs : List (V × V)} (M : List Addr) (s : Shared) (v : Value) (r : Rep C s.heap M v (.dct kvs)) : s.TypeIs v "dict" ∧ ∀ a, v = .ref a → ∃ ob, s.heap.get? a = some ob ∧ ob.dict = none := by
  obtain ⟨a, es, rfl, ⟨_, ep, ho⟩, q⟩ := rep_dct r
  have ho' := hid_sub _ _ _ _ ho
  exact ⟨⟨_, ho', rfl⟩, fun b e => by cases e; exact ⟨_, ho', rfl⟩⟩
theorem tup_type {xs : List V} (M : List Addr) (s : Shared) (v : Value) (r : Rep C s.heap M v (.tup xs)) : s.TypeIs v "tuple" ∧ ∀ a, v = .ref a → ∃ ob, s.heap.get? a = some ob ∧ ob.dict = none := by
  obtain ⟨a, vs, rfl, l, q⟩ := rep_tup r
  obtain ⟨o, m, e, c, _, d⟩ := l.of_hid
  exact ⟨⟨_, e, c⟩, fun b z => by cases z; exact ⟨_, e, d⟩⟩
theorem Bu_dget {k : Str} {z : V} {kvs : List (Str × V)} (nd : (kvs.map (·.1)).Nodup) : BuSpec C n (.builtin "dict.get") [.dct (strD kvs), .str k, z] ((kvs.lookup k).getD z) := fun A R M s vs τ G r => by
  obtain ⟨u, v, w, rfl, r1, r2, r3⟩ := repL_three r
  obtain ⟨t, rfl⟩ := rep_str r2
  obtain ⟨a, es, rfl, l, q⟩ := rep_dct r1
  obtain ⟨xs, ep, hat, rs⟩ := dctAt (l.up (hid_sub _ _)) q nd
  refine call_meetsIn PySem.F.slot_dict_get hat.dictOf.typeIs PySem.F.entry_dict_get (PySem.F.args_dict_get_3 _ _ _) (meets_dict_get_default (PySem.strKind C.prog C.w) a (k := k) (by simp [PySem.strKind, Value.isStrOf]) l.1 w) ⟨_, hat.dictOf.mapOf, ?_⟩
  refine ⟨?_, kpTok s _⟩
  have := rs.at k
  cases e : kvs.lookup k with
  | none => rw [e] at this; rw [show valueAt xs k = none from this]; exact r3
  | some z' => rw [e] at this; obtain ⟨v, e2, r4⟩ := this; rw [e2]; exact rep_of r4
end
end Mine
namespace Mine
open AutoSeq1 (wpAny_loadPart')
open SeqAt

theorem noFill_tuple_mul : fillsNumberSlot (.type "tuple") "mul" = pure false :=
  PySem.fillsNumberSlot_seq (id := "tuple.__mul__") (r := some (.builtin "tuple.__rmul__")) PySem.F.slot_tuple_mul.lookup (by decide +kernel) PySem.F.slot_tuple_rmul.lookup (by decide +kernel)
theorem repeat_tuple : seqRepeat? (.type "tuple") = pure (some (.builtin "tuple.__mul__")) := by
  unfold seqRepeat?
  rw [PySem.seqSlot_of (T := "tuple") (name := "__mul__") (id := "tuple.__mul__") PySem.F.slot_tuple_mul.lookup (by decide +kernel), PySem.seqSlot_of (T := "tuple") (name := "__rmul__") (id := "tuple.__rmul__") PySem.F.slot_tuple_rmul.lookup (by decide +kernel)]
  rfl
theorem rmul_tuple (a : Int) (t : Tok) (l : Addr) (items : Array Value) (n : Nat) (dd : Option Addr) (sl : Array (Option Value)) :
    Meets (Builtin.«int.__rmul__» ⟨[.int a t, .ref l], []⟩) (fun _ R s => s.heap.get? l = some { cls := .type "tuple", dict := dd, data := .seq items n, slots := sl } ∧ R (.ok (.ret Value.notImplemented)) s) :=
  .of_wp fun prog w A R s h => by obtain ⟨hp, g, d, tk, os⟩ := s; obtain ⟨hl, h⟩ := h; wp_walk; exact ⟨_, rfl, h⟩
theorem mul_one_tuple (l : Addr) (x : Value) (n : Nat) (dd : Option Addr) (sl : Array (Option Value)) (k : Nat) (t : Tok) (hk : k ≤ 1000) :
    Meets (Builtin.«tuple.__mul__» ⟨[.ref l, .int (k : Int) t], []⟩) (fun _ R s => s.heap.get? l = some { cls := .type "tuple", dict := dd, data := .seq #[x] n, slots := sl } ∧
      (k = 1 → R (.ok (.ret (.ref l))) s) ∧ (k ≠ 1 → R (.ok (.ret (.ref s.heap.objs.size))) { s with heap := s.heap.push { cls := .type "tuple", data := .seq (List.replicate k x).toArray } })) :=
  .of_wp fun prog w A R s h => by
    obtain ⟨hp, g, d, tk, os⟩ := s; obtain ⟨hl, h1, h2⟩ := h
    have e1 : (decide ((k : Int) < -(2 ^ 63)) || decide ((k : Int) ≥ 2 ^ 63)) = false := by
      rw [decide_eq_false (by omega), decide_eq_false (by omega)]; rfl
    have e3 : (#[x] : Array Value).isEmpty = false := rfl
    have e4 : (List.foldl (fun x1 x2 => x1 ++ x2) #[] (List.replicate k #[x])) = (List.replicate k x).toArray := by
      have : ∀ (k : Nat) (acc : Array Value), List.foldl (fun x1 x2 => x1 ++ x2) acc (List.replicate k #[x]) = acc ++ (List.replicate k x).toArray := by
        intro k
        induction k with
        | zero => intro acc; simp
        | succ k ih => intro acc; rw [List.replicate_succ, List.foldl_cons, ih, List.replicate_succ]; apply Array.toList_inj.mp; simp
      rw [this]; simp
    wp_walk using wpAny_loadPart' hl
    refine wpAny_ite_false (decide_eq_false (by rw [e1]; exact Bool.false_ne_true)) ?_
    wp_walk using wpAny_loadPart' hl
    by_cases k1 : k = 1
    · refine wpAny_ite_true (decide_eq_true (by subst k1; rfl)) ?_
      wp_walk using wpAny_loadPart' hl
      exact ⟨_, rfl, h1 k1⟩
    · refine wpAny_ite_false (decide_eq_false (by rw [e3, Bool.false_or, beq_false_of_ne (by omega)]; exact Bool.false_ne_true)) ?_
      wp_walk
      by_cases k0 : k = 0
      · refine wpAny_ite_true (decide_eq_true (by subst k0; rfl)) ?_
        wp_walk
        subst k0
        exact ⟨_, rfl, h2 k1⟩
      · refine wpAny_ite_false (decide_eq_false (by rw [e3, decide_eq_false (by omega)]; exact Bool.false_ne_true)) ?_
        have e5 : ((#[x] : Array Value).size : Int) * (k : Int) = k := by simp
        have e6 : ((k : Nat) : Int).toNat = k := by simp
        refine wpAny_ite_false (decide_eq_false (by rw [e5]; omega)) ?_
        wp_walk
        refine wpAny_ite_false (decide_eq_false (by rw [e5]; unfold Builtin.Tuple.tupleTooMany; rw [decide_eq_false (by rw [sizeLine_eq]; omega)]; exact Bool.false_ne_true)) ?_
        rw [e6, e4]
        wp_walk
        refine wpAny_ite_false (decide_eq_false (by rw [List.size_toArray, List.length_replicate, sizeLine_eq]; omega)) ?_
        wp_walk
        exact ⟨_, rfl, h2 k1⟩
theorem RpL.rep {C : Cx} {h : Heap} {v : Value} {x : V} (r : Rp C h v x) : ∀ k : Nat, RpL C h (List.replicate k v) (List.replicate k x)
  | 0 => .nil
  | k + 1 => .cons r (RpL.rep r k)

section
variable {C : Cx} {n : Nat} {env : Env} {σ σ' : List (Str × V)} {τ τ₁ τ₂ τ₃ : Option Nat} {wv : Str → Bool}
theorem Bin_mul_tup1 {x : V} {k : Nat} (hk : k ≤ 1000) : BinR C n .Mult (.tup [x]) (.int (k : Int)) (.tup (List.replicate k x)) := fun A R M s τ u v G ru rv => by
  obtain ⟨a, vs, rfl, l, q⟩ := rep_tup ru
  cases q with | cons r1 q1 =>
  cases q1
  obtain ⟨t, rfl⟩ := rep_int rv
  obtain ⟨⟨c, d, dt, sl⟩, m, ea, hc, hd, _⟩ := l.of_hid
  simp only at hc hd
  subst hc hd
  refine wpAny_binaryOp_repeat_ref (T := "tuple") (U := "int") (by decide) ⟨_, ea, rfl⟩ (fun s' => typeIs_int s' _ t) noFill_tuple_mul PySem.F.fills_int_mul PySem.F.slot_int_rmul repeat_tuple PySem.F.slot_int_index.lookup
    (call_meets PySem.F.slot_int_rmul (typeIs_int s _ t) PySem.F.entry_int_rmul (PySem.F.args_int_rmul_2 _ _) (rmul_tuple _ t a _ m d sl) ⟨ea, rfl, ⟨_, ea, rfl⟩, call_meets PySem.F.slot_tuple_mul ⟨_, ea, rfl⟩ PySem.F.entry_tuple_mul (PySem.F.args_tuple_mul_2 _ _)
      (mul_one_tuple a _ m d sl k t hk) ⟨ea, fun h1 => ?_, fun h1 => ⟨push_tup G (RpL.rep r1 k), kpPush _ _⟩⟩⟩)
  subst h1
  exact ⟨ru, kpRfl s⟩

theorem countP_rp {h : Heap} {y : V} {e : Value → Bool} {vs : List Value} {xs : List V} (q : RpL C h vs xs) (he : ∀ v x, x ∈ xs → Rp C h v x → e v = (cmpV x y == .eq)) : vs.countP e = xs.countP fun z => cmpV z y == .eq := by
  refine RpL.ind (P := fun vs xs => (∀ v x, x ∈ xs → Rp C h v x → e v = (cmpV x y == .eq)) → vs.countP e = xs.countP fun z => cmpV z y == .eq) (fun _ => rfl) (fun {v x vs xs} r _ ih he => ?_) q he
  rw [List.countP_cons, List.countP_cons, ih fun v x hx r => he v x (List.mem_cons_of_mem _ hx) r, he v x List.mem_cons_self r]
open Classical in
theorem Bu_count {xs : List V} {y : V} (hx : ∀ z ∈ xs, z.srt = true ∧ z.key = true ∧ z.dep ≤ 200) (hy : y.srt = true) : BuSpec C n (.builtin "tuple.count") [.tup xs, y] (.int ((xs.countP fun z => cmpV z y == .eq : Nat) : Int)) := fun A R M s vs τ G r => by
  obtain ⟨u, v, rfl, r1, r2⟩ := repL_two r
  obtain ⟨a, ws, rfl, l, q⟩ := rep_tup r1
  obtain ⟨⟨c, d, dt, sl⟩, m, ea, hc, hd, _⟩ := l.of_hid
  simp only at hc hd
  subst hc hd
  have q' := q.up (hid_sub s.heap M)
  have ry : Rp C s.heap v y := r2.rp (plain_pure (srt_plain hy))
  have un := R.un
  have ev : ∀ v x, x ∈ xs → Rp C s.heap v x → decide (∃ z, z ∈ xs ∧ Rp C s.heap v z ∧ (cmpV z y == .eq) = true) = (cmpV x y == .eq) := fun v x hm rx => by
    cases e : (cmpV x y == .eq) with
    | true => exact decide_eq_true ⟨x, hm, rx, e⟩
    | false =>
      refine decide_eq_false fun ⟨z, hz, rz, ez⟩ => ?_
      rw [rp_det rz rx (hx z hz).2.1 (hx x hm).2.1, e] at ez; cases ez
  refine call_meets PySem.F.slot_tuple_count ⟨_, ea, rfl⟩ PySem.F.entry_tuple_count (PySem.F.args_tuple_count_2 _ _) (tuple_countAt a ws.toArray m d sl v fun v => decide (∃ z, z ∈ xs ∧ Rp C s.heap v z ∧ (cmpV z y == .eq) = true)) ⟨ea, fun w hw => ?_, ?_⟩
  · have hw' : w ∈ ws := by simpa using hw
    obtain ⟨i, hi⟩ := List.getElem?_of_mem hw'
    have il : i < xs.length := by rw [← q.length]; exact (List.getElem?_eq_some_iff.mp hi).1
    obtain ⟨w', e, rx⟩ := q'.get (List.getElem?_eq_getElem il)
    rw [hi] at e; cases e
    have hm := List.getElem_mem il
    rw [ev w _ hm rx]
    exact eqAt_rp rx ry (hx _ hm).1 hy (by have := (hx _ hm).2.2; show A.units + 1 + _ < cLine; lia)
  · show Rep C s.heap M (.int ((ws.toArray.toList.countP _ : Nat) : Int) s.toks) _ ∧ _
    rw [List.toList_toArray, countP_rp q' ev]
    exact ⟨.int _ _, kpTok s _⟩

theorem Bu_min {a b : Int} : BuSpec C n (.builtin "min") [.int a, .int b] (.int (if b < a then b else a)) := fun A R M s vs τ G r => by
  obtain ⟨u, v, rfl, r1, r2⟩ := repL_two r
  obtain ⟨t, rfl⟩ := rep_int r1
  obtain ⟨t', rfl⟩ := rep_int r2
  refine min_two_ints R.hd fun h' tk k => ⟨?_, ⟨h', tk, rfl, k⟩⟩
  split
  · exact .int _ _
  · exact .int _ _
theorem Bu_str_int {a : Nat} (ha : a ≤ 1000) : BuSpec C n (.type "str") [.int (a : Int)] (.str (toString (a : Int))) := fun A R M s vs τ G r => by
  obtain ⟨u, rfl, r1⟩ := repL_one r
  obtain ⟨t, rfl⟩ := rep_int r1
  refine PySem.P.str_of_int ?_ ⟨.str _ _, kpTok s _⟩
  have : (a : Int).natAbs = a := by simp
  rw [this]
  by_cases h0 : a = 0
  · subst h0; decide
  · exact Nat.lt_trans ((Nat.log2_lt h0).mpr (show a < 2 ^ 10 by omega)) (by decide)
theorem Bin_add_str {x y : Str} (hl : x.length + y.length ≤ sizeLine) : BinR C n .Add (.str x) (.str y) (.str (x ++ y)) := fun A R M s τ u v G ru rv => by
  obtain ⟨t, rfl⟩ := rep_str ru; obtain ⟨t', rfl⟩ := rep_str rv
  exact PyProof.Rows.add_str (fun t' tk => ⟨.str _ _, kpTok s tk⟩) hl
noncomputable def first1 (x : Str) : Str := ⟨#[x.cps.getD 0 0]⟩
theorem Ev_str0 {value k p pos} {x : Str} (hv : Ev C n value env σ τ (.str x) τ₁) (hx : 1 ≤ x.length) : Ev C n (.Subscript value (.Constant (.int 0) k p) pos) env σ τ (.str (first1 x)) τ₁ := fun A R M s S => by
  refine Subscript_ (wpAny_mono (hv A R M s S) (fun u s₁ zz => and3 zz fun S₁ r₁ k₁ => ?_) fun _ _ x => x)
  refine wpAny_Constant_int ?_
  obtain ⟨t, rfl⟩ := rep_str r₁
  have hz : 0 < x.cps.size := hx
  refine tail_any (T := "str") (typeIs_str _ x t) PySem.F.slot_str_getitem.lookup (PyProof.Rows.getItem_str (i := 0) (c := x.cps.getD 0 0) (by decide) ?_ ?_) (by with_unfolding_all rfl)
  · rw [show seqIndex? (0 : Int) x.length = some 0 from seqIdx_nat (k := 0) hx]
    simp [Array.getD, hz]
  · exact ⟨(S₁.keeps (kpTok s₁ _)).keeps (kpTok _ _), .str _ _, k₁.trans (.of (kpTrans (kpTok s₁ _) (kpTok _ _)))⟩

theorem Ex1_append {x p1 p2 p3 p4} {e : PySem.Expr} {xs : List V} {y : V} {P : Out → Prop} (he : Ev C n e env σ τ y τ₁) (hy : y.pure = true) (hx : σ.lookup x = some (.oL xs)) (hl : xs.length + 1 ≤ sizeLine) (h : P (.next ((x, .oL (xs ++ [y])) :: σ) τ₁)) (i : isVar env x = true)
    (hb : attributeBase (.Name x p1) "append" env (eval (.Name x p1) env) = eval (.Name x p1) env := by rfl)
    (hfew : ((backTo p3 (starEach [e] env)).all (fun x => !x.1) && (backToKw p3 (keywordEach [] env)).all (fun x => x.1.isSome)
      && decide (([e] : List PySem.Expr).length + ([] : List Keyword).length + (if ([] : List Keyword).isEmpty then 0 else 1) < 30)) = true := by rfl) (hline : (p2.endLine == p3.line) = true := by rfl)
    (hi : interactive env = false := by rfl) (hs : swapsWith (.Call (.Attribute (.Name x p1) "append" p2) [e] [] p3) none p4.line env = pure false := by rfl)
    (hst : (starEach [e] env).any (·.1) = false := by rfl) (hse : starEach [e] env = (false, eval e env) :: starEach [] env := by rfl) (hd : (x == ("__debug__" : Str)) = false := by decide) (hc : (x == ("__classdict__" : Str)) = false := by decide) :
    Ex1 C n (.Expr (.Call (.Attribute (.Name x p1) "append" p2) [e] [] p3) p4) env σ τ P := fun A R s₀ M₀ W O ρ s F =>
  ownList_wp PySem.F.slot_list_append PySem.F.type_list_append R F he hx i (fun s₁ a v vs S₁ r l q aM Q k => by
    have r' := (rep_pure hy).mp r
    obtain ⟨m, e⟩ := id l
    have hsz : vs.toArray.size ≤ sizeLine := by rw [List.size_toArray, q.length]; exact Nat.le_of_lt hl
    refine call_meets PySem.F.slot_list_append ⟨_, e, rfl⟩ PySem.F.entry_list_append (PySem.F.args_list_append_2 _ _) (AutoListH.list_append_list_val_0 a vs.toArray m v hsz) ⟨e, ?_⟩
    have sb : Heap.SameBut a s₁.heap (s₁.heap.update a (Obj.mapSeq fun x => x.push v)) := Heap.SameBut.update ..
    have sb' : ∀ b o, b ≠ a → s₁.heap.get? b = some o → (s₁.heap.update a (Obj.mapSeq fun x => x.push v)).get? b = some o := fun b o nb e => (sb.2 b nb).trans e
    have up := upOwn aM sb'
    have ll := mapSeq_at l (fun x => x.push v)
    refine k _ s₁.toks (vs ++ [v]) sb' ?_ ((q.up up).app (.cons (r'.up up) .nil))
    have e4 : (vs.toArray.push v).toList = vs ++ [v] := by simp
    rw [e4] at ll
    exact ll) h hb hfew hline hi hs hst hse hd hc

theorem Ex1_try {body : List Stmt} {h₀ : ExceptHandler} {hs : List ExceptHandler} {pos : Pos} {P : Out → Prop} (h : Ex C n body env σ τ P) : Ex1 C n (.Try body (h₀ :: hs) [] [] pos) env σ τ P := fun A R s₀ M₀ W O ρ s F =>
  wpAny_Try_except (wpAny_mono (h A R s₀ M₀ W O ρ s F) (fun f s1 q => by
    cases f with
    | next => exact wpAny_execs_nil q
    | _ => exact q) fun _ _ x => x.elim)
end
end Mine
namespace Mine
open AutoSeq1 (wpAny_loadPart')
open SeqAt
open MeetsSeq MeetsSeq2 MeetsSeq3

theorem lt_loop (l b : Addr) (items items2 : Array Value) (n n2 : Nat) (c : Bool) :
    ∀ (k i : Nat), items.size - i = k → Meets (Builtin.«list.__eq__.loop» ⟨[.ref l, .ref b, rawInt i, rawInt 0], []⟩)
      (fun A R s => s.heap.get? l = some { cls := .type "list", data := .seq items n } ∧ s.heap.get? b = some { cls := .type "list", data := .seq items2 n2 } ∧ i ≤ items.size ∧ i ≤ items2.size ∧
        LexR A.in1 s (decide (items.size < items2.size)) ((items.toList.zip items2.toList).drop i) c ∧ R (.ok (.ret (.bool c))) s) := by
  have stop : ∀ (i : Nat) (prog : Program) (w : World) (A : Around) (R : Result → Shared → Prop) (s : Shared), items[i]? = none ∨ items2[i]? = none → s.heap.get? l = some { cls := .type "list", data := .seq items n } → s.heap.get? b = some { cls := .type "list", data := .seq items2 n2 } →
      LexR A.in1 s (decide (items.size < items2.size)) ((items.toList.zip items2.toList).drop i) c → R (.ok (.ret (.bool c))) s →
      wpAny (model prog w) A.in1 (Builtin.«list.__eq__.loop» ⟨[.ref l, .ref b, rawInt i, rawInt 0], []⟩) (fun fin s' => match fin with | .done f => R (.ok f) s' | .again c' => c'.quiet = true ∧ codeAny (model prog w) A c' R s') (fun e s' => R (.error e) s') s := fun i prog w A R s hi hl hb he h => by
    have hd : (items.toList.zip items2.toList).drop i = [] := by
      rw [List.drop_eq_nil_iff, List.length_zip]
      rcases hi with hi | hi
      · have : items.size ≤ i := by simpa using hi
        exact Nat.le_trans (Nat.min_le_left _ _) (by simpa using this)
      · have : items2.size ≤ i := by simpa using hi
        exact Nat.le_trans (Nat.min_le_right _ _) (by simpa using this)
    rw [hd] at he
    cases he
    have e0 : ((i : Nat) : Int).toNat = i := by simp
    obtain ⟨hp, g, d, tk, os⟩ := s
    wp_walk using wpAny_loadPart' hl, wpAny_loadPart' hb
    rw [e0]
    rcases hi with hi | hi
    · rw [hi]
      wp_walk using wpAny_loadPart' hl, wpAny_loadPart' hb
      exact h
    · rw [hi]
      cases items[i]? <;> wp_walk using wpAny_loadPart' hl, wpAny_loadPart' hb <;> exact h
  intro k
  induction k with
  | zero =>
    intro i hk prog w A R s h
    obtain ⟨hl, hb, h1, h2, he, h⟩ := h
    exact stop i prog w A R s (.inl (by simp; omega)) hl hb he h
  | succ k ih =>
    intro i hk prog w A R s h
    obtain ⟨hl, hb, h1, h2, he, h⟩ := h
    by_cases hi : i < items2.size
    · have hlt : i < items.size := by omega
      have e0 : ((i : Nat) : Int).toNat = i := by simp
      have hd : (items.toList.zip items2.toList).drop i = (items[i], items2[i]) :: (items.toList.zip items2.toList).drop (i + 1) := by
        rw [List.drop_eq_getElem_cons (by rw [List.length_zip]; simp; omega)]
        simp
      rw [hd] at he
      have hc : ((i : Int) + 1) = ((i + 1 : Nat) : Int) := by push_cast; rfl
      obtain ⟨hp, g, d, tk, os⟩ := s
      wp_walk using wpAny_loadPart' hl, wpAny_loadPart' hb
      rw [e0, Array.getElem?_eq_getElem hlt, Array.getElem?_eq_getElem hi]
      cases he with
      | eq e r =>
        refine wpAny_bind (e prog w _ _ ?_)
        wp_walk
        rw [hc]
        exact ⟨plainId_quiet plain_eq_loop _, codeAny_builtin entry_eq_loop (by
          rw [Around.under_plainId plain_eq_loop _]
          exact ih (i + 1) (by omega) prog w A R _ ⟨hl, hb, hlt, hi, r, h⟩)⟩
      | ne e r =>
        refine wpAny_bind (e prog w _ _ ?_)
        wp_walk using wpAny_loadPart' hl, wpAny_loadPart' hb
        rw [Array.getElem?_eq_getElem hlt, Array.getElem?_eq_getElem hi]
        refine wpAny_bind (r prog w _ _ ?_)
        wp_walk
        exact h
    · exact stop i prog w A R s (.inr (by simp; omega)) hl hb he h
theorem list_lt (l b : Addr) (items items2 : Array Value) (n n2 : Nat) (c : Bool) :
    Meets (Builtin.«list.__lt__» ⟨[.ref l, .ref b], []⟩)
      (fun A R s => s.heap.get? l = some { cls := .type "list", data := .seq items n } ∧ s.heap.get? b = some { cls := .type "list", data := .seq items2 n2 } ∧
        LexR A.in1 s (decide (items.size < items2.size)) (items.toList.zip items2.toList) c ∧ R (.ok (.ret (.bool c))) s) := by
  intro prog w A R s h
  obtain ⟨hp, g, d, tk, os⟩ := s; obtain ⟨hl, hb, he, h⟩ := h
  have f3 := AutoSeq1.sub_list_list
  wp_walk using wpAny_loadPart' hl, wpAny_loadPart' hb
  exact ⟨plainId_quiet plain_eq_loop _, codeAny_builtin entry_eq_loop (by
    rw [Around.under_plainId plain_eq_loop _]
    exact lt_loop l b items items2 n n2 c _ 0 rfl prog w A R _ ⟨hl, hb, Nat.zero_le _, Nat.zero_le _, he, h⟩)⟩
theorem oneLt_list {prog : Program} {w : World} {A : Around} {E : Value → Shared → Prop} {s : Shared} {l b : Addr} {vs ws : List Value} {c : Bool} {Q : Bool → Shared → Prop} (hl : IsLst s.heap l vs) (hb : IsLst s.heap b ws) (hu : A.units + 1 < cLine)
    (he : LexR A.in1 s (decide (vs.length < ws.length)) (vs.zip ws) c) (hq : Q c s) : wpAny (model prog w) A (oneLt' true (.ref l) (.ref b)) Q E s := by
  obtain ⟨n, e⟩ := hl
  obtain ⟨n2, e2⟩ := hb
  rw [oneLt'_eq]
  simp only [if_true]
  refine wpAny_bind (wpAny_cRoomFor_or (.inr (by (exact Nat.le_of_lt (by assumption)))) ?_)
  refine wpAny_bind (wpAny_callSpecialIfBound?_slot (name := "__lt__") ⟨_, e, rfl⟩ PySem.F.slot_list_lt (call_meets PySem.F.slot_list_lt ⟨_, e, rfl⟩ PySem.F.entry_list_lt (PySem.F.args_list_lt_2 _ _) (list_lt l b vs.toArray ws.toArray n n2 c) ⟨e, e2, by simpa using he, ?_⟩))
  exact wpAny_truthy_bool hq

noncomputable def toL : V → V
  | .tup (.tup ks :: r) => .tup (.lst ks :: r)
  | x => x
noncomputable def isLstV : V → Bool | .lst _ => true | _ => false
theorem SortOk.toL {C : Cx} {ks : List V} (ok : SortOk ks) (hf : ∀ x ∈ ks, ∃ ys r, x = .tup (.tup ys :: r)) : SortG C toL ks where
  srt := ok.srt
  len := ok.len
  kind := fun {prog w A s vs Q} r hu h0 hq => by
    refine kind_gen isLstV "list" r h0 (fun x hx => ?_) (fun v y ry ty => ?_) rfl (fun x hx y hy u v ru rv D hd => ?_) hq
    · obtain ⟨ys, r, rfl⟩ := hf x hx
      exact ⟨_, r, rfl, rfl⟩
    · cases ry <;> first | (cases ty; done) | skip
      rename_i a us zs l q
      obtain ⟨n, e⟩ := l
      exact (Looks.ld e).andThen .now
    · obtain ⟨xs, t, rfl⟩ := hf x hx
      obtain ⟨ys, t', rfl⟩ := hf y hy
      have dx := ok.dep _ hx
      have hx' := Bool.and_eq_true_iff.mp (show (srtL xs && srtL t) = true from ok.srt _ hx)
      have hy' := Bool.and_eq_true_iff.mp (show (srtL ys && srtL t') = true from ok.srt _ hy)
      have d1 : max (depL xs + 1) (depL t) + 1 ≤ 200 := dx
      have okk : okL (.tup xs :: t) (.tup ys :: t') = true := by have := ok.ok _ hx _ hy; exact this
      rw [okL_cons] at okk
      have ru' : Rp C s.heap u (.tup (.lst xs :: t)) := ru
      have rv' : Rp C s.heap v (.tup (.lst ys :: t')) := rv
      cases ru' with | tup l q =>
      cases rv' with | tup l' q' =>
      cases q with | cons r1 q =>
      cases q' with | cons r1' q' =>
      have rl := r1
      have rl' := r1'
      cases r1 with | lst a1 b1 =>
      cases r1' with | lst a1' b1' =>
      obtain ⟨o, n, e, c, d, _⟩ := l
      obtain ⟨o', n', e', c', d', _⟩ := l'
      refine kat_lt e d e' d' ?_
      have px : (V.lst xs).plain = true := srtL_plain hx'.1
      have py : (V.lst ys).plain = true := srtL_plain hy'.1
      obtain ⟨as, ra⟩ := rl.reads px
      obtain ⟨bs, rb⟩ := rl'.reads py
      have eqv : PyData.eqv (V.lst xs).py (V.lst ys).py = (cmpL xs ys == .eq) := eqvL_cmp hx'.1 hy'.1
      have E := eqAt_reads _ _ A s _ _ as bs ra rb (srtL_lay hx'.1) (srtL_lay hy'.1)
        (Nat.lt_of_le_of_lt (Nat.add_le_add_left (Nat.min_le_left _ _) _) (by rw [py_dep px]; show A.units + (depL xs + 1) < cLine; lia))
      rw [eqv] at E
      have okk' : byO (cmpL xs ys) (okL t t') (okL xs ys) = true := okk
      show KatLex prog w A true _ D ((_, _) :: _) 0 s
      refine kat_cons (E prog w _ _ ?_)
      cases h : cmpL xs ys with
      | eq =>
        rw [h] at okk'
        rw [show cmpV (.tup (.tup xs :: t)) (.tup (.tup ys :: t')) = cmpL t t' by rw [cmpV_tup, cmpL_cons, cmpV_tup, h]; rfl] at hd
        refine kat_yes (katLex_of hd (by simp) ?_)
        have := lexR_rp hx'.2 hy'.2 okk' (A := A) q q' (by lia)
        simpa [List.zip] using this
      | lt =>
        rw [h] at okk'
        rw [show cmpV (.tup (.tup xs :: t)) (.tup (.tup ys :: t')) = .lt by rw [cmpV_tup, cmpL_cons, cmpV_tup, h]; rfl] at hd
        refine kat_no (oneLt_list a1 a1' (by lia) (lexR_rp hx'.1 hy'.1 okk' (A := A.in1) b1 b1' (show A.units + 1 + _ < cLine by lia)) ?_)
        rw [h]; exact hd
      | gt =>
        rw [h] at okk'
        rw [show cmpV (.tup (.tup xs :: t)) (.tup (.tup ys :: t')) = .gt by rw [cmpV_tup, cmpL_cons, cmpV_tup, h]; rfl] at hd
        refine kat_no (oneLt_list a1 a1' (by lia) (lexR_rp hx'.1 hy'.1 okk' (A := A.in1) b1 b1' (show A.units + 1 + _ < cLine by lia)) ?_)
        rw [h]; exact hd
end Mine
namespace Mine

inductive Tm where
  | mk (f : Str) (ks : List Tm)
  deriving Inhabited
noncomputable def Tm.f : Tm → Str | .mk f _ => f
noncomputable def Tm.ks : Tm → List Tm | .mk _ ks => ks
theorem Tm.eta : ∀ t : Tm, Tm.mk t.f t.ks = t | .mk _ _ => rfl
mutual
noncomputable def Tm.v : Tm → V
  | .mk f ks => .tup (.str f :: vL ks)
noncomputable def vL : List Tm → List V
  | [] => []
  | t :: r => t.v :: vL r
end
mutual
noncomputable def Tm.size : Tm → Nat
  | .mk _ ks => sizeL ks + 1
noncomputable def sizeL : List Tm → Nat
  | [] => 0
  | t :: r => t.size + sizeL r
end
mutual
noncomputable def Tm.ht : Tm → Nat
  | .mk _ ks => htL ks + 1
noncomputable def htL : List Tm → Nat
  | [] => 0
  | t :: r => max t.ht (htL r)
end
noncomputable def varNames : List Str := ["?x", "?y", "?z"]
noncomputable def cNames : List Str := ["c0", "c1", "c2", "c3", "c4", "c5", "c6", "c7", "c8", "c9", "c10", "c11", "c12", "c13"]
noncomputable def okNames : List Str := "+" :: "a" :: "b" :: "c" :: "f" :: (varNames ++ cNames)
noncomputable def okName (x : Str) : Bool := okNames.contains x
mutual
noncomputable def Tm.good : Tm → Bool
  | .mk f ks => okName f && goodL ks
noncomputable def goodL : List Tm → Bool
  | [] => true
  | t :: r => t.good && goodL r
end
theorem vL_eq : ∀ ks : List Tm, vL ks = ks.map Tm.v
  | [] => rfl
  | t :: r => congrArg _ (vL_eq r)
theorem vL_length (ks : List Tm) : (vL ks).length = ks.length := by rw [vL_eq, List.length_map]
theorem sizeL_eq : ∀ ks : List Tm, sizeL ks = (ks.map Tm.size).sum
  | [] => rfl
  | t :: r => by simp [sizeL, sizeL_eq r]
theorem goodL_iff {ks : List Tm} : goodL ks = true ↔ ∀ t ∈ ks, t.good = true := by
  induction ks with
  | nil => simp [goodL]
  | cons t r ih => simp [goodL, ih]
theorem htL_mem {t : Tm} : ∀ {ks : List Tm}, t ∈ ks → t.ht ≤ htL ks
  | y :: r, h => by
    rcases List.mem_cons.mp h with rfl | h
    · exact Nat.le_max_left _ _
    · exact Nat.le_trans (htL_mem h) (Nat.le_max_right _ _)
theorem htL_le {n : Nat} : ∀ {ks : List Tm}, (∀ t ∈ ks, t.ht ≤ n) → htL ks ≤ n
  | [], _ => Nat.zero_le _
  | t :: r, h => Nat.max_le.mpr ⟨h t List.mem_cons_self, htL_le fun u hu => h u (List.mem_cons_of_mem _ hu)⟩
theorem sizeL_mem {t : Tm} {ks : List Tm} (h : t ∈ ks) : t.size ≤ sizeL ks := by
  induction ks with
  | nil => cases h
  | cons y r ih =>
    rcases List.mem_cons.mp h with rfl | h
    · exact Nat.le_add_right _ _
    · exact Nat.le_trans (ih h) (Nat.le_add_left _ _)
mutual
theorem size_pos : ∀ t : Tm, 1 ≤ t.size
  | .mk _ ks => Nat.succ_le_succ (Nat.zero_le _)
end
theorem len_le_sizeL : ∀ ks : List Tm, ks.length ≤ sizeL ks
  | [] => Nat.le_refl _
  | t :: r => by
    have := size_pos t
    have := len_le_sizeL r
    simp only [List.length_cons, sizeL]; lia
theorem okName_srt {x : Str} (h : okName x = true) : PyData.strOk x = true := by
  have : x ∈ okNames := by simpa [okName] using h
  revert x
  have all : ∀ x ∈ okNames, PyData.strOk x = true := by decide +kernel
  intro x _ hx; exact all x hx
mutual
theorem Tm.srt : ∀ {t : Tm}, t.good = true → t.v.srt = true
  | .mk f ks, h => by
    have h' := Bool.and_eq_true_iff.mp (show (_ && _) = true from h)
    simp [Tm.v, V.srt, srtL, okName_srt h'.1, srtL_good h'.2]
theorem srtL_good : ∀ {ks : List Tm}, goodL ks = true → srtL (vL ks) = true
  | [], _ => rfl
  | t :: r, h => by
    have h' := Bool.and_eq_true_iff.mp (show (_ && _) = true from h)
    simp [vL, srtL, Tm.srt h'.1, srtL_good h'.2]
end
mutual
theorem Tm.dep : ∀ t : Tm, t.v.dep = t.ht
  | .mk f ks => by
    show depL (.str f :: vL ks) + 1 = htL ks + 1
    have : depL (.str f :: vL ks) = max 0 (depL (vL ks)) := rfl
    rw [this, depL_v ks]; rfl
theorem depL_v : ∀ ks : List Tm, depL (vL ks) = htL ks
  | [] => rfl
  | t :: r => by show max t.v.dep (depL (vL r)) = max t.ht (htL r); rw [Tm.dep t, depL_v r]
end
mutual
theorem Tm.key : ∀ t : Tm, t.v.key = true
  | .mk f ks => by show keyL (.str f :: vL ks) = true; simp [keyL, V.key, keyL_v ks]
theorem keyL_v : ∀ ks : List Tm, keyL (vL ks) = true
  | [] => rfl
  | t :: r => by simp [vL, keyL, Tm.key t, keyL_v r]
end
mutual
theorem Tm.v_inj : ∀ {t u : Tm}, t.v = u.v → t = u
  | .mk f ks, .mk g js, h => by
    simp only [Tm.v, V.tup.injEq, List.cons.injEq, V.str.injEq] at h
    rw [h.1, vL_inj h.2]
theorem vL_inj : ∀ {ks js : List Tm}, vL ks = vL js → ks = js
  | [], [], _ => rfl
  | [], _ :: _, h => by simp [vL] at h
  | _ :: _, [], h => by simp [vL] at h
  | t :: r, u :: s, h => by
    simp only [vL, List.cons.injEq] at h
    rw [Tm.v_inj h.1, vL_inj h.2]
end
theorem Tm.pure (t : Tm) : t.v.pure = true := by cases t; rfl
theorem Tm.own (t : Tm) : t.v.own = false := by cases t; rfl
theorem Tm.keyOk {t : Tm} (h : t.good = true) (d : t.ht ≤ 8) : keyOk t.v := ⟨Tm.srt h, Tm.key t, by rw [Tm.dep]; exact d, by cases t; exact ⟨_, rfl⟩⟩
theorem Tm.eqv {t u : Tm} (ht : t.good = true) (hu : u.good = true) : PyData.eqv t.v.py u.v.py = true ↔ t = u := by
  rw [eqv_srt (Tm.srt ht) (Tm.srt hu)]
  exact ⟨Tm.v_inj, fun h => h ▸ rfl⟩
theorem Tm.cmp {t u : Tm} (ht : t.good = true) (hu : u.good = true) : (cmpV t.v u.v == .eq) = true ↔ t = u := by
  rw [← eqv_cmp (Tm.srt ht) (Tm.srt hu)]; exact Tm.eqv ht hu
mutual
theorem okV_tm : ∀ {t u : Tm}, okV t.v u.v = true
  | .mk f ks, .mk g js => by
    exact okL_of (x := .str f) (y := .str g) rfl (okL_tm (ks := ks) (js := js))
theorem okL_tm : ∀ {ks js : List Tm}, okL (vL ks) (vL js) = true
  | [], [] => rfl
  | [], _ :: _ => rfl
  | _ :: _, [] => rfl
  | t :: r, u :: s => by
    exact okL_of (okV_tm (t := t) (u := u)) (okL_tm (ks := r) (js := s))
end

mutual
noncomputable def parts : Tm → List (List Nat × Tm)
  | .mk f ks => ([], .mk f ks) :: partsK 0 ks
noncomputable def partsK : Nat → List Tm → List (List Nat × Tm)
  | _, [] => []
  | k, t :: r => (parts t).map (fun p => (k :: p.1, p.2)) ++ partsK (k + 1) r
end
mutual
noncomputable def subs : Tm → List Tm
  | .mk f ks => .mk f ks :: subsL ks
noncomputable def subsL : List Tm → List Tm
  | [] => []
  | t :: r => subs t ++ subsL r
end
mutual
theorem parts_snd : ∀ t : Tm, (parts t).map (·.2) = subs t
  | .mk f ks => by simp [parts, subs, partsK_snd ks 0]
theorem partsK_snd : ∀ (ks : List Tm) (k : Nat), (partsK k ks).map (·.2) = subsL ks
  | [], _ => rfl
  | t :: r, k => by
    simp only [partsK, subsL, List.map_append, List.map_map, partsK_snd r (k + 1), ← parts_snd t]
    rfl
end
mutual
theorem subs_len : ∀ t : Tm, (subs t).length = t.size
  | .mk f ks => by simp [subs, Tm.size, subsL_len ks]
theorem subsL_len : ∀ ks : List Tm, (subsL ks).length = sizeL ks
  | [] => rfl
  | t :: r => by simp [subsL, sizeL, subs_len t, subsL_len r]
end
theorem parts_len (t : Tm) : (parts t).length = t.size := by rw [← subs_len, ← parts_snd, List.length_map]
theorem partsK_len (ks : List Tm) (k : Nat) : (partsK k ks).length = sizeL ks := by rw [← subsL_len, ← partsK_snd ks k, List.length_map]
noncomputable def pathV (p : List Nat) : V := .tup (p.map fun (i : Nat) => .int (i : Int))
noncomputable def partV (p : List Nat × Tm) : V := .tup [pathV p.1, p.2.v]
noncomputable def keyT (t : Tm) : V := .tup [.int (t.size : Int), .tup ((subs t).map fun u => .str u.f), .tup ((subs t).map fun u => .int ((u.ks.length : Nat) : Int))]
noncomputable def ktV (t : Tm) : V := .tup [keyT t, t.v]
mutual
theorem subs_good : ∀ {t : Tm}, t.good = true → ∀ u ∈ subs t, u.good = true
  | .mk f ks, h, u, hu => by
    rcases List.mem_cons.mp hu with rfl | hu
    · exact h
    · exact subsL_good (Bool.and_eq_true_iff.mp (show (_ && _) = true from h)).2 u hu
theorem subsL_good : ∀ {ks : List Tm}, goodL ks = true → ∀ u ∈ subsL ks, u.good = true
  | [], _, u, hu => nomatch hu
  | t :: r, h, u, hu => by
    have h' := Bool.and_eq_true_iff.mp (show (_ && _) = true from h)
    rcases List.mem_append.mp hu with hu | hu
    · exact subs_good h'.1 u hu
    · exact subsL_good h'.2 u hu
end
theorem Tm.good_f {t : Tm} (h : t.good = true) : okName t.f = true := by cases t; exact (Bool.and_eq_true_iff.mp (show (_ && _) = true from h)).1
theorem Tm.good_ks {t : Tm} (h : t.good = true) : goodL t.ks = true := by cases t; exact (Bool.and_eq_true_iff.mp (show (_ && _) = true from h)).2
theorem srtL_map {α : Type} {f : α → V} {l : List α} (h : ∀ x ∈ l, (f x).srt = true) : srtL (l.map f) = true := by
  rw [srtL_iff]; intro y hy; obtain ⟨x, hx, rfl⟩ := List.mem_map.mp hy; exact h x hx
theorem depL_map {α : Type} {f : α → V} {n : Nat} : ∀ {l : List α}, (∀ x ∈ l, (f x).dep ≤ n) → depL (l.map f) ≤ n
  | [], _ => Nat.zero_le _
  | x :: r, h => Nat.max_le.mpr ⟨h x List.mem_cons_self, depL_map fun y hy => h y (List.mem_cons_of_mem _ hy)⟩
theorem keyT_srt {t : Tm} (h : t.good = true) : (keyT t).srt = true := by
  have h1 : srtL ((subs t).map fun u => V.str u.f) = true := srtL_map fun u hu => okName_srt (Tm.good_f (subs_good h u hu))
  have h2 : srtL ((subs t).map fun u => V.int ((u.ks.length : Nat) : Int)) = true := srtL_map fun u hu => rfl
  simp [keyT, V.srt, srtL, h1, h2]
theorem keyT_dep (t : Tm) : (keyT t).dep ≤ 2 := by
  have h1 : depL ((subs t).map fun u => V.str u.f) ≤ 0 := depL_map fun u hu => Nat.le_refl _
  have h2 : depL ((subs t).map fun u => V.int ((u.ks.length : Nat) : Int)) ≤ 0 := depL_map fun u hu => Nat.le_refl _
  show max 0 (max (depL _ + 1) (max (depL _ + 1) 0)) + 1 ≤ 2
  exact Nat.succ_le_succ (Nat.max_le.mpr ⟨Nat.zero_le _, Nat.max_le.mpr ⟨Nat.succ_le_succ h1, Nat.max_le.mpr ⟨Nat.succ_le_succ h2, Nat.zero_le _⟩⟩⟩)
theorem ktV_srt {t : Tm} (h : t.good = true) : (ktV t).srt = true := by simp [ktV, V.srt, srtL, keyT_srt h, Tm.srt h]
theorem ktV_dep (t : Tm) : (ktV t).dep ≤ max 2 t.ht + 1 := by
  have := keyT_dep t
  show max (keyT t).dep (max t.v.dep 0) + 1 ≤ _
  rw [Tm.dep]
  exact Nat.succ_le_succ (Nat.max_le.mpr ⟨Nat.le_trans this (Nat.le_max_left _ _), Nat.max_le.mpr ⟨Nat.le_max_right _ _, Nat.zero_le _⟩⟩)
theorem okL_all : ∀ {xs ys : List V}, (∀ x ∈ xs, ∀ y ∈ ys, okV x y = true) → okL xs ys = true
  | [], [], _ => rfl
  | [], _ :: _, _ => rfl
  | _ :: _, [], _ => rfl
  | x :: xs, y :: ys, h => okL_of (h x List.mem_cons_self y List.mem_cons_self) (okL_all fun a ha b hb => h a (List.mem_cons_of_mem _ ha) b (List.mem_cons_of_mem _ hb))
theorem okL_map {α β : Type} {f : α → V} {g : β → V} (h : ∀ a b, okV (f a) (g b) = true) {l : List α} {m : List β} : okL (l.map f) (m.map g) = true := okL_all fun x hx y hy => by
  obtain ⟨a, _, rfl⟩ := List.mem_map.mp hx
  obtain ⟨b, _, rfl⟩ := List.mem_map.mp hy
  exact h a b
theorem okV_key (t u : Tm) : okV (keyT t) (keyT u) = true := by
  exact okL_of (x := .int _) (y := .int _) rfl (okL_of (okL_map fun _ _ => rfl) (okL_of (okL_map fun _ _ => rfl) rfl))
theorem okV_kt (t u : Tm) : okV (ktV t) (ktV u) = true := by
  exact okL_of (okV_key t u) (okL_of okV_tm rfl)

noncomputable def insBy {α : Type} (f : α → V) (t : α) : List α → List α
  | [] => [t]
  | u :: r => if leV (f t) (f u) then t :: u :: r else u :: insBy f t r
noncomputable def ordBy {α : Type} (f : α → V) : List α → List α
  | [] => []
  | t :: r => insBy f t (ordBy f r)
theorem insBy_v {α : Type} (f : α → V) (t : α) : ∀ l : List α, insV (f t) (l.map f) = (insBy f t l).map f
  | [] => rfl
  | u :: r => by
    rw [List.map_cons]; unfold insV insBy
    split
    · rfl
    · rw [insBy_v f t r]; rfl
theorem ordBy_v {α : Type} (f : α → V) : ∀ l : List α, sortV (l.map f) = (ordBy f l).map f
  | [] => rfl
  | t :: r => by
    rw [List.map_cons]; unfold sortV ordBy
    rw [ordBy_v f r, insBy_v]
theorem insBy_perm {α : Type} (f : α → V) (t : α) : ∀ l : List α, (insBy f t l).Perm (t :: l)
  | [] => .refl _
  | u :: r => by
    unfold insBy; split
    · exact .refl _
    · exact ((insBy_perm f t r).cons u).trans (.swap t u r)
theorem ordBy_perm {α : Type} (f : α → V) : ∀ l : List α, (ordBy f l).Perm l
  | [] => .refl _
  | t :: r => (insBy_perm f t (ordBy f r)).trans ((ordBy_perm f r).cons t)
theorem map_inj {α β : Type} {f : α → β} (hf : ∀ x y, f x = f y → x = y) : ∀ {a b : List α}, a.map f = b.map f → a = b
  | [], [], _ => rfl
  | [], _ :: _, h => by simp at h
  | _ :: _, [], h => by simp at h
  | x :: a, y :: b, h => by
    simp only [List.map_cons, List.cons.injEq] at h
    rw [hf _ _ h.1, map_inj hf h.2]
theorem ordBy_congr {α : Type} {f : α → V} (hf : ∀ x y, f x = f y → x = y) {a b : List α} (h : ∀ t ∈ a, (f t).srt = true) (p : a.Perm b) : ordBy f a = ordBy f b := by
  apply map_inj hf
  rw [← ordBy_v, ← ordBy_v]
  exact sortV_congr (fun y hy => by obtain ⟨t, ht, rfl⟩ := List.mem_map.mp hy; exact h t ht) (p.map f)
noncomputable abbrev ordT : List Tm → List Tm := ordBy ktV
theorem ordT_v (l : List Tm) : sortV (l.map ktV) = (ordT l).map ktV := ordBy_v ktV l
theorem ordT_perm (l : List Tm) : (ordT l).Perm l := ordBy_perm ktV l
theorem ktV_inj {t u : Tm} (h : ktV t = ktV u) : t = u := by
  unfold ktV at h
  simp only [V.tup.injEq, List.cons.injEq] at h
  exact Tm.v_inj h.2.1
theorem ordT_congr {a b : List Tm} (h : ∀ t ∈ a, t.good = true) (p : a.Perm b) : ordT a = ordT b := ordBy_congr (fun x y => ktV_inj) (fun t ht => ktV_srt (h t ht)) p
theorem ordT_len (l : List Tm) : (ordT l).length = l.length := (ordT_perm l).length_eq
theorem sortOk_kt {l : List Tm} (h : ∀ t ∈ l, t.good = true) (d : ∀ t ∈ l, t.ht ≤ 100) (n : l.length < 64) : SortOk (l.map ktV) where
  srt := fun x hx => by obtain ⟨t, ht, rfl⟩ := List.mem_map.mp hx; exact ktV_srt (h t ht)
  ok := fun x hx y hy => by
    obtain ⟨t, ht, rfl⟩ := List.mem_map.mp hx
    obtain ⟨u, hu, rfl⟩ := List.mem_map.mp hy
    exact okV_kt t u
  fst := .inl fun x hx => by obtain ⟨t, ht, rfl⟩ := List.mem_map.mp hx; exact ⟨_, _, rfl⟩
  dep := fun x hx => by
    obtain ⟨t, ht, rfl⟩ := List.mem_map.mp hx
    have := ktV_dep t
    have := d t ht
    lia
  len := by rw [List.length_map]; exact n
end Mine
namespace Mine
noncomputable def theView : Program := view PySem.Challenge.pw_sa0026_02 [0, 2, 3, 4, 6, 7, 8, 9, 10, 12, 13, 14, 15, 16, 17, 19, 20, 21, 22, 23, 24, 25, 26, 27, 28, 29, 30]
noncomputable def topQ (p : Program) (w : World) (N : Nat) : Option Shared :=
  (Option.bind (PySem.W.Fast.tw10274390034422433532 PySem.W.Fast.tw14364793385576792824 (opening p) w N (PySem.W.Fast.tw1435165496053646825 (opening p)).1 (PySem.W.Fast.tw1435165496053646825 (opening p)).2) (PySem.W.Fast.tw14289696077712309145 p)).bind fun s₀ =>
      match s₀.heap.isNs mainGlobals && s₀.gens.size == 0 with
      | true => (PySem.W.Fast.tw14082659384304107361 PySem.W.Fast.tw14364793385576792824 p w s₀.heap.objs.size (s₀.heap.nsMap mainGlobals "__annotations__") N s₀ (topStub p)).bind fun s₁ => match staticsOk (importedModules p.main.body) s₀.heap s₁.heap && namesBound p s₁.heap && gensDone s₁ && laidKept s₀.heap s₁.heap with
        | true => some s₁
        | false => none
      | false => none
theorem topQ_eq (p : Program) (w : World) (N : Nat) : openEnds treeTable p w N = topQ p w N := by
  unfold openEnds fencedOpening topQ
  rw [PySem.W.Fast.te10274390034422433532, PySem.W.Fast.te1435165496053646825, PySem.W.Fast.te14289696077712309145, PySem.W.Fast.te14364793385576792824]
  congr 1
  funext s₀
  unfold topFrom
  rw [PySem.W.Fast.te14082659384304107361]
  rfl
theorem left_quick {p p' q : Program} {loose : List Str} {Xt : Shared → Bool} {α : Type} {Yf : Shared → α} {Ya : World → α} {N : Nat} {g0 : Bool} (ep : p' = p)
    (h : ∀ w : World, (topQ p w N).map (fun s => (PySem.W.Fast.tw4187177175401517315 q loose (importedModules p.main.body) Xt g0 s, Yf s)) = some (openGood q loose, Ya w)) : LeftO p' q loose Xt Yf Ya N g0 := by
  rw [ep]
  intro w
  have a := h w
  rw [← PySem.W.Fast.te4187177175401517315] at a
  rw [topQ_eq]
  cases e : topQ p w N with
  | none => rw [e] at a; cases a
  | some s =>
    rw [e] at a
    have b := Prod.mk.inj (Option.some.inj a)
    simp only [Option.map_some]
    rw [b.1, b.2]
theorem said1 : PySem.Challenge.rw_sa0026_02.wellSaid = true := by kernel_rfl
theorem said0 (h : PySem.Challenge.rw_sa0026_02.row.wellSaid = true → PySem.Challenge.rw_sa0026_02.row.Holds) : PySem.Challenge.rw_sa0026_02.Holds := holds_law said1 h
local macro_rules | `(tactic| o_head $H) => `(tactic| assumption)
theorem kk (h : PySem.Challenge.rw_sa0026_02.row.Holds) : PySem.Challenge.rw_sa0026_02.row.Holds := by k_head
noncomputable def prm0 : Params := { strHash := fun _ => 0, shareClass := fun _ => 0, mergeTok := fun t => t, idOf := fun _ => 0, idOfShared := fun _ _ => 0, followText := fun _ => false, idOfImm := fun _ => 0 }
noncomputable abbrev theFrag : Params → Frag := kk.heap_1
noncomputable def theAddrs : List Addr := (theFrag prm0).map (·.1)
theorem addrs_eq : ∀ P, theAddrs = (theFrag P).map (·.1) := fun P => by kernel_rfl
noncomputable abbrev theHook : Hook := kHook theFrag theAddrs addrs_eq
theorem run (w : World) : (topQ PySem.Challenge.pw_sa0026_02 w 5000).map (fun s => (PySem.W.Fast.tw4187177175401517315 theView [] (importedModules PySem.Challenge.pw_sa0026_02.main.body) (fun s => xlAt theView [] s && recOk [] s) true s, theHook.obs s)) = some (openGood theView [], theHook.val w) := by kernel_rfl
theorem left : LeftO PySem.Challenge.rw_sa0026_02.row.prog theView [] (fun s => xlAt theView [] s && recOk [] s) theHook.obs theHook.val 5000 := left_quick (p := PySem.Challenge.pw_sa0026_02) rfl run
end Mine
namespace Mine

noncomputable abbrev cx2 (w : World) (mg mb : Str → Option Value) (T : Option Addr) (cells : List V) : Cx :=
  cxOf PySem.Challenge.rw_sa0026_02.row.prog w (Mine.theFrag w.params) Mine.theView (looseW Mine.theView []) mg mb T 210 cells "cells" "spot"

theorem FnSpec.le {C : Cx} {n m : Nat} {f : Value} {xs : List V} {τ : Option Nat} {y : V} {τ' : Option Nat} (h : FnSpec C n f xs τ y τ') (l : n ≤ m) : FnSpec C m f xs τ y τ' := fun A R => h A (R.le l)
theorem lk {x z : Str} {y w : V} {σ : List (Str × V)} (e : σ.lookup z = some w) (h : (z == x) = false) : ((x, y) :: σ).lookup z = some w := by
  rw [List.lookup_cons, h]; exact e
theorem isFun_of {C : Cx} {a : Addr} {oc : Value} {od : Option Addr} {fd : FuncData} {osl : Array (Option Value)} (e : C.K.lookup a = some ⟨oc, od, .func fd, osl⟩) : IsFun C a := fun h b => ⟨_, fd, C.kin h b a _ e, rfl⟩

section
variable {w : World} {mg mb : Str → Option Value} {T : Option Addr} {cells : List V} {τ : Option Nat} {n : Nat}
theorem g_is_variable : GlobAt (cx2 w mg mb T cells) "is_variable" (.ref 81) := globAt_of rfl
theorem g_parts : GlobAt (cx2 w mg mb T cells) "parts" (.ref 96) := globAt_of rfl
theorem g_key_of : GlobAt (cx2 w mg mb T cells) "key_of" (.ref 101) := globAt_of rfl
theorem g_MOST : GlobAt (cx2 w mg mb T cells) "MOST_BAGS" (.int 4096 301) := globAt_of rfl
theorem g_in_order_of : GlobAt (cx2 w mg mb T cells) "in_order_of" (.ref 106) := globAt_of rfl
theorem g_without : GlobAt (cx2 w mg mb T cells) "without" (.ref 113) := globAt_of rfl
theorem g_want_few : GlobAt (cx2 w mg mb T cells) "want_few" (.ref 120) := globAt_of rfl
theorem g_Bags : GlobAt (cx2 w mg mb T cells) "Bags" (.ref 210) := globAt_of rfl
theorem g_sub_bags : GlobAt (cx2 w mg mb T cells) "sub_bags" (.ref 125) := globAt_of rfl
theorem g_dip : GlobAt (cx2 w mg mb T cells) "_law_dip" (.ref 222) := globAt_of rfl
theorem g_all : GlobAt (cx2 w mg mb T cells) "_law_all" (.ref 227) := globAt_of rfl
theorem g_rank : GlobAt (cx2 w mg mb T cells) "_law_rank" (.ref 232) := globAt_of rfl
theorem g_sum : GlobAt (cx2 w mg mb T cells) "_law_sum" (.ref 237) := globAt_of rfl
theorem g_bound : GlobAt (cx2 w mg mb T cells) "_law_bound" (.ref 244) := globAt_of rfl
theorem g_fitted : GlobAt (cx2 w mg mb T cells) "_law_fitted" (.ref 251) := globAt_of rfl
theorem g_chosen : GlobAt (cx2 w mg mb T cells) "_law_chosen" (.ref 258) := globAt_of rfl
theorem g_spreads : GlobAt (cx2 w mg mb T cells) "_law_spreads" (.ref 263) := globAt_of rfl
theorem g_due : GlobAt (cx2 w mg mb T cells) "_law_due" (.ref 268) := globAt_of rfl
theorem g_told : GlobAt (cx2 w mg mb T cells) "_law_told" (.ref 275) := globAt_of rfl
theorem g_plain : GlobAt (cx2 w mg mb T cells) "_law_plain" (.ref 215) := globAt_of rfl
theorem b_len : BuiltAt (cx2 w mg mb T cells) "len" (.builtin "len") := builtAt_of rfl (by decide) (by decide +kernel)
theorem b_tuple : BuiltAt (cx2 w mg mb T cells) "tuple" (.type "tuple") := builtAt_of rfl (by decide) (by decide +kernel)
theorem b_list : BuiltAt (cx2 w mg mb T cells) "list" (.type "list") := builtAt_of rfl (by decide) (by decide +kernel)
theorem b_dict : BuiltAt (cx2 w mg mb T cells) "dict" (.type "dict") := builtAt_of rfl (by decide) (by decide +kernel)
theorem b_range : BuiltAt (cx2 w mg mb T cells) "range" (.type "range") := builtAt_of rfl (by decide) (by decide +kernel)
theorem b_enumerate : BuiltAt (cx2 w mg mb T cells) "enumerate" (.type "enumerate") := builtAt_of rfl (by decide) (by decide +kernel)
theorem b_zip : BuiltAt (cx2 w mg mb T cells) "zip" (.type "zip") := builtAt_of rfl (by decide) (by decide +kernel)
theorem b_sorted : BuiltAt (cx2 w mg mb T cells) "sorted" (.builtin "sorted") := builtAt_of rfl (by decide) (by decide +kernel)
theorem b_min : BuiltAt (cx2 w mg mb T cells) "min" (.builtin "min") := builtAt_of rfl (by decide) (by decide +kernel)
theorem b_str : BuiltAt (cx2 w mg mb T cells) "str" (.type "str") := builtAt_of rfl (by decide) (by decide +kernel)
theorem opsAt : OpsAt (cx2 w mg mb T cells) := ⟨by rfl, by rfl, _, rfl, by rfl⟩
theorem m_is_bag : MethAt (cx2 w mg mb T cells) "is_bag" 146 := ⟨by rfl, by rfl, by rfl, by decide, isFun_of rfl⟩
theorem m_kids : MethAt (cx2 w mg mb T cells) "kids" 151 := ⟨by rfl, by rfl, by rfl, by decide, isFun_of rfl⟩
theorem m_made : MethAt (cx2 w mg mb T cells) "made" 156 := ⟨by rfl, by rfl, by rfl, by decide, isFun_of rfl⟩
theorem m_normal : MethAt (cx2 w mg mb T cells) "normal" 161 := ⟨by rfl, by rfl, by rfl, by decide, isFun_of rfl⟩
theorem m_extended : MethAt (cx2 w mg mb T cells) "extended" 182 := ⟨by rfl, by rfl, by rfl, by decide, isFun_of rfl⟩
theorem m_shared_out : MethAt (cx2 w mg mb T cells) "shared_out" 187 := ⟨by rfl, by rfl, by rfl, by decide, isFun_of rfl⟩
theorem m_taken : MethAt (cx2 w mg mb T cells) "taken" 192 := ⟨by rfl, by rfl, by rfl, by decide, isFun_of rfl⟩
theorem m_matched : MethAt (cx2 w mg mb T cells) "matched" 197 := ⟨by rfl, by rfl, by rfl, by decide, isFun_of rfl⟩
theorem mkAt : MakeAt (cx2 w mg mb T cells) 139 := {
  mks := by rfl
  kp := by rfl
  init := by rfl
  ty := by rfl
  st := by rfl
  po := by rfl
  tk := by rfl
  hh := by rfl
  fn := ⟨_, _, _, _, _, fnData_of rfl rfl rfl rfl rfl rfl rfl rfl rfl (bindL2 rfl fun _ _ => rfl) rfl (by decide), fun L cs => ⟨rfl, rfl, rfl⟩⟩ }
end
end Mine
namespace Mine

noncomputable def isVarN (x : Str) : Bool := varNames.contains x
theorem okn_head {x : Str} (h : okName x = true) : PyData.eqv (V.str (head1 x)).py (V.str "?").py = isVarN x := by
  have hm : x ∈ okNames := by simpa [okName] using h
  have all : ∀ x ∈ okNames, PyData.eqv (V.str (head1 x)).py (V.str "?").py = isVarN x := by decide +kernel
  exact all x hm
theorem okn_fine {x : Str} (h : okName x = true) : (V.str (head1 x)).fine = true := by
  have hm : x ∈ okNames := by simpa [okName] using h
  have all : ∀ x ∈ okNames, (V.str (head1 x)).fine = true := by decide +kernel
  exact all x hm
theorem okn_slice {x : Str} (h : okName x = true) : (slicePicked x .none (some (1, 0)) .none).length = min 1 x.length := by
  have hm : x ∈ okNames := by simpa [okName] using h
  have all : ∀ x ∈ okNames, (slicePicked x .none (some (1, 0)) .none).length = min 1 x.length := by decide +kernel
  exact all x hm
theorem okn_len {x : Str} (h : okName x = true) : x.length ≤ sizeLine := by
  have hm : x ∈ okNames := by simpa [okName] using h
  have all : ∀ x ∈ okNames, x.length ≤ 10 := by decide +kernel
  have := all x hm
  rw [sizeLine_eq]; (exact Nat.le_trans (by assumption) (by decide))

structure Sm (t : Tm) : Prop where
  good : t.good = true
  size : t.size ≤ 60
  ht : t.ht ≤ 40
theorem Tm.v_eq (t : Tm) : t.v = .tup (.str t.f :: vL t.ks) := by cases t; rfl
theorem Sm.kid {t u : Tm} (h : Sm t) (hu : u ∈ t.ks) : Sm u := by
  obtain ⟨f, ks⟩ := t
  have h1 := h.size
  have h2 := h.ht
  have : u ∈ ks := hu
  have a := sizeL_mem this
  have b := htL_mem this
  exact ⟨goodL_iff.mp (Tm.good_ks h.good) u hu, by simp only [Tm.size] at h1; (exact Nat.le_trans (by assumption) (Nat.le_trans (Nat.le_of_lt (by assumption)) (by decide))), by simp only [Tm.ht] at h2; (exact Nat.le_trans (by assumption) (Nat.le_trans (Nat.le_of_lt (by assumption)) (by decide)))⟩
theorem Sm.len {t : Tm} (h : Sm t) : t.ks.length ≤ 60 := by
  obtain ⟨f, ks⟩ := t
  have h1 := h.size
  have := len_le_sizeL ks
  simp only [Tm.size] at h1
  show ks.length ≤ 60
  (exact Nat.le_trans (by assumption) (Nat.le_trans (Nat.le_of_lt (by assumption)) (by decide)))

section
variable {w : World} {mg mb : Str → Option Value} {T : Option Addr} {cells : List V} {τ : Option Nat} {n : Nat}

noncomputable def isV (t : Tm) : Bool := decide (t.ks.length = 0) && isVarN t.f
theorem eqv_len {a b : Nat} : PyData.eqv (V.int ((a + 1 : Nat) : Int)).py (V.int ((b + 1 : Nat) : Int)).py = decide (a = b) := by
  by_cases q : a = b
  · subst q; rw [decide_eq_true rfl]; exact beq_iff_eq.mpr rfl
  · rw [decide_eq_false q]; exact beq_false_of_ne (by lia)
theorem spec_is_variable {t : Tm} (h : Sm t) : FnSpec (cx2 w mg mb T cells) (n + 1) (.ref 81) [t.v] τ (.bool (isV t)) τ := by
  have D : FnData (cx2 w mg mb T cells) 81 _ _ ["t"] := fnData_of rfl rfl rfl rfl rfl rfl rfl rfl rfl (bindL1 rfl fun _ => rfl) rfl (by decide)
  have hl : (V.str t.f :: vL t.ks).length ≤ sizeLine := by
    have := h.len
    rw [List.length_cons, vL_length, sizeLine_eq]; (exact Nat.le_trans (Nat.add_le_add_right (by assumption) _) (by decide))
  have e : PyData.eqv (V.int ((V.str t.f :: vL t.ks).length : Int)).py (V.int 1).py = decide (t.ks.length = 0) := by
    rw [List.length_cons, vL_length]; exact eqv_len
  rw [Tm.v_eq, isV, ← e]
  refine fn_spec D rfl (by simp [V.own]) fun L cs => ?_
  have gf := Tm.good_f h.good
  refine Ex_cons (Ex1_return (Ev_and2 (Ev_cmp (Ev_builtin b_len (Bu_len rfl hl) (EvL_cons (Ev_name rfl rfl) EvL_nil) rfl) Ev_int (Cmp_eq rfl rfl (by simp [V.py, PyData.depth]) rfl))
    (fun _ => Ev_cmp (Ev_head1 (Ev_at0 (Ev_name rfl rfl) rfl) (okn_slice gf) (okn_len gf)) Ev_str (Cmp_eq (okn_fine gf) (by decide +kernel) (by simp [V.py, PyData.depth]) (okn_head gf))) fun _ => rfl) rfl ⟨rfl, rfl⟩)
end

theorem pure_tup {xs : List V} : (V.tup xs).pure = true := rfl
theorem pure_lst {xs : List V} : (V.lst xs).pure = true := rfl
theorem pure_int {i : Int} : (V.int i).pure = true := rfl
theorem pure_str {i : Str} : (V.str i).pure = true := rfl
theorem pure_bool {i : Bool} : (V.bool i).pure = true := rfl
theorem own_tup {xs : List V} : (V.tup xs).own = false := rfl
theorem own_lst {xs : List V} : (V.lst xs).own = false := rfl
theorem own_dct {xs : List (V × V)} : (V.dct xs).own = false := rfl
theorem own_int {i : Int} : (V.int i).own = false := rfl
theorem own_str {i : Str} : (V.str i).own = false := rfl
theorem own_self {i : V} : (V.self i).own = false := rfl
theorem Ev_name' {C : Cx} {n : Nat} {env : Env} {σ : List (Str × V)} {τ : Option Nat} {x pos} {y y' : V} (hy : y = y') (e : σ.lookup x = some y) (i : isVar env x = true) (hd : (x == ("__debug__" : Str)) = false := by decide) (hc : (x == ("__classdict__" : Str)) = false := by decide) :
    Ev C n (.Name x pos) env σ τ y' τ := hy ▸ Ev_name e i hd hc

section
variable {C : Cx} {n : Nat} {env : Env} {σ σ' : List (Str × V)} {τ τ₁ τ₂ τ₃ : Option Nat}
theorem CTurn_name {elt : PySem.Expr} {gens : List Comprehension} {scope : Scope} {pos : Pos} {d : Nat} {x : Str} {p : Pos} {ifs : List PySem.Expr} {y : V} {zs : List V} (he : CAct C n elt gens scope pos d ifs env ((x, y) :: σ) τ zs τ₁)
    (h1 : ∀ L cs, ownVar (cenvOf scope env L cs) x = true := by intro _ _; rfl) (h2 : wvOf scope x = true := by rfl) (h3 : σ.lookup x = Option.none := by rfl) : CTurn C n elt gens scope pos d (.Name x p) ifs env σ y τ zs τ₁ :=
  ⟨[(x, y)], .name, by intro b hb; simp only [List.mem_cons, List.not_mem_nil, or_false] at hb; subst hb; exact ⟨h1, h2, h3⟩, fun _ => he⟩
theorem CTurn_pair {elt : PySem.Expr} {gens : List Comprehension} {scope : Scope} {pos : Pos} {d : Nat} {a b : Str} {p q r : Pos} {k : Nat} {ifs : List PySem.Expr} {y1 y2 : V} {zs : List V} (he : CAct C n elt gens scope pos d ifs env ((b, y2) :: (a, y1) :: σ) τ zs τ₁)
    (h1 : ∀ L cs, ownVar (cenvOf scope env L cs) a = true := by intro _ _; rfl) (h2 : wvOf scope a = true := by rfl) (h3 : σ.lookup a = Option.none := by rfl)
    (h1' : ∀ L cs, ownVar (cenvOf scope env L cs) b = true := by intro _ _; rfl) (h2' : wvOf scope b = true := by rfl) (h3' : σ.lookup b = Option.none := by rfl) : CTurn C n elt gens scope pos d (.Tuple [.Name a p, .Name b q] k r) ifs env σ (.tup [y1, y2]) τ zs τ₁ :=
  ⟨[(b, y2), (a, y1)], .pair, by intro c hc; simp only [List.mem_cons, List.not_mem_nil, or_false] at hc; rcases hc with rfl | rfl; exact ⟨h1', h2', h3'⟩; exact ⟨h1, h2, h3⟩, fun _ => he⟩
theorem FTurn_name {x : Str} {p : Pos} {body : List Stmt} {y : V} {P : Out → Prop} (h : Ex C n body env ((x, y) :: σ) τ P) (h1 : ownVar env x = true := by rfl) : FTurn C n (.Name x p) body env y σ τ P :=
  ⟨[(x, y)], .name, by intro b hb; simp only [List.mem_cons, List.not_mem_nil, or_false] at hb; subst hb; exact h1, fun _ => h⟩
theorem FTurn_pair {a b : Str} {p q r : Pos} {k : Nat} {body : List Stmt} {y1 y2 : V} {P : Out → Prop} (h : Ex C n body env ((b, y2) :: (a, y1) :: σ) τ P) (h1 : ownVar env a = true := by rfl) (h2 : ownVar env b = true := by rfl) : FTurn C n (.Tuple [.Name a p, .Name b q] k r) body env (.tup [y1, y2]) σ τ P :=
  ⟨[(b, y2), (a, y1)], .pair, by intro c hc; simp only [List.mem_cons, List.not_mem_nil, or_false] at hc; rcases hc with rfl | rfl; exact h2; exact h1, fun _ => h⟩
theorem EvN_comp1 {elt t iter : PySem.Expr} {ifs : List PySem.Expr} {scope : Scope} {pos : Pos} {tt : Bool} {items ys : List V}
    (hx : IterE C n iter env σ τ tt items τ₁) (fl : Filt scope σ σ')
    (ht : Turns (CTurn C n elt [⟨t, iter, ifs, 0⟩] scope pos 0 t ifs env σ') items τ₁ ys τ₂) (hl : ys.length ≤ sizeLine)
    (ok : compOk scope env = true := by rfl) (kd : scope.kind = .function := by rfl) (htk : tgtOk tt t = true := by rfl) (hi : ifs.length ≤ 1 := by decide)
    (hs : ∀ x, foldedSetIterable iter env x = pure x := by intro _; rfl) : EvN C n (.ListComp elt [⟨t, iter, ifs, 0⟩] scope pos) env σ τ ys τ₂ :=
  EvN_comp hx fl ht hl ok kd htk hi (fun g' h => by simp at h) hs
theorem EvN_comp2 {elt t iter t' iter' : PySem.Expr} {ifs' : List PySem.Expr} {scope : Scope} {pos : Pos} {tt : Bool} {items ys : List V}
    (hx : IterE C n iter env σ τ tt items τ₁) (fl : Filt scope σ σ')
    (ht : Turns (CTurn C n elt [⟨t, iter, [], 0⟩, ⟨t', iter', ifs', 0⟩] scope pos 0 t [] env σ') items τ₁ ys τ₂) (hl : ys.length ≤ sizeLine)
    (ok : compOk scope env = true := by rfl) (kd : scope.kind = .function := by rfl) (htk : tgtOk tt t = true := by rfl)
    (hs : ∀ x, foldedSetIterable iter env x = pure x := by intro _; rfl) : EvN C n (.ListComp elt [⟨t, iter, [], 0⟩, ⟨t', iter', ifs', 0⟩] scope pos) env σ τ ys τ₂ :=
  EvN_comp hx fl ht hl ok kd htk (Nat.zero_le _) (fun g' h => by simp at h; subst h; rfl) hs
theorem CAct_nest1 {elt t t' iter iter' : PySem.Expr} {ifs' : List PySem.Expr} {scope : Scope} {pos : Pos} {tt : Bool} {items ys : List V}
    (hit : ∀ L cs, IterE C n iter' (cenvOf scope env L cs) σ τ tt items τ₁) (ht : Turns (CTurn C n elt [⟨t, iter, [], 0⟩, ⟨t', iter', ifs', 0⟩] scope pos 1 t' ifs' env σ) items τ₁ ys τ₂)
    (hi : ifs'.length ≤ 1 := by decide) (htk : tgtOk tt t' = true := by rfl) (hs : ∀ e x, foldedSetIterable iter' e x = pure x := by intro _ _; rfl) :
    CAct C n elt [⟨t, iter, [], 0⟩, ⟨t', iter', ifs', 0⟩] scope pos 0 [] env σ τ ys τ₂ := CAct_nest hit ht rfl (fun g' h => by simp at h) hi htk hs
end

mutual
theorem parts_path : ∀ (t : Tm), ∀ p ∈ parts t, p.1.length < t.ht
  | .mk f ks, p, hp => by
    rcases List.mem_cons.mp hp with rfl | hp
    · exact Nat.succ_pos _
    · have := partsK_path ks 0 p hp
      simp only [Tm.ht]; (exact Nat.lt_succ_of_le (by assumption))
theorem partsK_path : ∀ (ks : List Tm) (k : Nat), ∀ p ∈ partsK k ks, p.1.length ≤ htL ks
  | [], _, p, hp => nomatch hp
  | t :: r, k, p, hp => by
    rcases List.mem_append.mp hp with hp | hp
    · obtain ⟨q, hq, rfl⟩ := List.mem_map.mp hp
      have := parts_path t q hq
      show q.1.length + 1 ≤ max t.ht (htL r)
      lia
    · have := partsK_path r (k + 1) p hp
      show p.1.length ≤ max t.ht (htL r)
      lia
end
theorem FRun_ind {B : V → List (Str × V) → Option Nat → (Out → Prop) → Prop} {τ : Option Nat} {P : Out → Prop} (I : Nat → List (Str × V) → Prop) : ∀ {items : List V} {σ : List (Str × V)}, I 0 σ →
    (∀ i x σ, items[i]? = some x → I i σ → ∀ P' : Out → Prop, (∀ σ', I (i + 1) σ' → P' (.next σ' τ)) → B x σ τ P') → (∀ σ', I items.length σ' → P (.next σ' τ)) → FRun B items σ τ P := by
  intro items σ h0 step fin
  have go : ∀ (rest : List V) (i : Nat) (σ : List (Str × V)), rest = items.drop i → i ≤ items.length → I i σ → FRun B rest σ τ P := by
    intro rest
    induction rest with
    | nil =>
      intro i σ hr hi hI
      have : i = items.length := by
        have := congrArg List.length hr
        simp at this; lia
      subst this
      exact fin σ hI
    | cons x r ih =>
      intro i σ hr hi hI
      have hlt : i < items.length := by
        rcases Nat.lt_or_ge i items.length with h | h
        · exact h
        · rw [List.drop_eq_nil_of_le h] at hr; cases hr
      rw [List.drop_eq_getElem_cons hlt] at hr
      injection hr with e1 e2
      show B x σ τ _
      exact step i x σ (by rw [List.getElem?_eq_getElem hlt, e1]) hI _ fun σ' h' => ih (i + 1) σ' e2 hlt h'
  exact go items 0 σ rfl (Nat.zero_le _) h0
theorem Turns.over {α : Type} {T' : V → Option Nat → List V → Option Nat → Prop} {g h : α → V} {τ : Option Nat} : ∀ {l : List α}, (∀ p ∈ l, T' (g p) τ [h p] τ) → Turns T' (l.map g) τ (l.map h) τ
  | [], _ => ⟨rfl, rfl⟩
  | x :: r, hx => ⟨[h x], r.map h, τ, hx x List.mem_cons_self, Turns.over fun y hy => hx y (List.mem_cons_of_mem _ hy), rfl⟩
theorem Turns.flat {α : Type} {T' : V → Option Nat → List V → Option Nat → Prop} {g : α → V} {h : α → List V} {τ : Option Nat} : ∀ {l : List α}, (∀ p ∈ l, T' (g p) τ (h p) τ) → Turns T' (l.map g) τ (l.flatMap h) τ
  | [], _ => ⟨rfl, rfl⟩
  | x :: r, hx => ⟨h x, r.flatMap h, τ, hx x List.mem_cons_self, Turns.flat fun y hy => hx y (List.mem_cons_of_mem _ hy), by simp⟩
theorem partsK_app : ∀ (a b : List Tm) (k : Nat), partsK k (a ++ b) = partsK k a ++ partsK (k + a.length) b
  | [], b, k => by simp [partsK]
  | t :: a, b, k => by simp only [List.cons_append, partsK, List.length_cons, partsK_app a b (k + 1), List.append_assoc]; rw [show k + 1 + a.length = k + (a.length + 1) by (exact Nat.add_right_comm _ _ _)]
theorem partsK_take {ks : List Tm} {i : Nat} {u : Tm} (h : ks[i]? = some u) : partsK 0 (ks.take (i + 1)) = partsK 0 (ks.take i) ++ (parts u).map fun p => (i :: p.1, p.2) := by
  have hi := (List.getElem?_eq_some_iff.mp h).1
  rw [List.take_add_one, h]
  show partsK 0 (ks.take i ++ [u]) = _
  rw [partsK_app]
  simp [partsK, Nat.min_eq_left (Nat.le_of_lt hi)]

section
variable {w : World} {mg mb : Str → Option Value} {T : Option Addr} {cells : List V} {τ : Option Nat} {n : Nat}
theorem spec_parts : ∀ (d : Nat) (t : Tm), t.ht ≤ d → Sm t → ∀ τ, FnSpec (cx2 w mg mb T cells) (d + n) (.ref 96) [t.v] τ (.lst ((parts t).map partV)) τ := by
  intro d
  induction d with
  | zero =>
    intro t hd
    obtain ⟨f, ks⟩ := t
    exact absurd hd (by simp only [Tm.ht]; lia)
  | succ d ih =>
    intro t hd h τ
    have D : FnData (cx2 w mg mb T cells) 96 _ _ ["t"] := fnData_of rfl rfl rfl rfl rfl rfl rfl rfl rfl (bindL1 rfl fun _ => rfl) rfl (by decide)
    rw [show d + 1 + n = d + n + 1 by (exact Nat.add_right_comm _ _ _)]
    refine fn_spec D rfl (by simp [Tm.own]) fun L cs => ?_
    have hlen := h.len
    have hsz := h.size
    have hkid : ∀ u ∈ t.ks, u.ht ≤ d := fun u hu => by
      obtain ⟨f, ks⟩ := t
      have := htL_mem (show u ∈ ks from hu)
      simp only [Tm.ht] at hd; lia
    have e0 : t.v = .tup (.str t.f :: vL t.ks) := Tm.v_eq t
    refine Ex_cons (Ex1_assign_own (ys := [.tup [.tup [], t.v]]) (EvN_list (EvL_cons (Ev_tuple (ys := [.tup [], t.v]) (EvL_cons (Ev_tuple EvL_nil) (EvL_cons (Ev_name rfl rfl) EvL_nil)) (by simp [pure_tup, Tm.pure]) (by simp)) EvL_nil) (by simp [pure_tup]) (by simp)) rfl ?_)
    refine Ex_cons (Ex1_for (items := enumV 0 (vL t.ks)) (IterE_enum b_enumerate (Ev_tup1 (x := .str t.f) (xs := vL t.ks) (Ev_name' e0 rfl rfl) (by rw [vL_length, sizeLine_eq]; (exact Nat.le_trans (Nat.add_le_add_right (by assumption) _) (by decide)))) (.inr rfl) rfl) ?_)
    refine FRun_ind (I := fun i σ => σ.lookup ("found" : Str) = some (V.oL ((([], t) :: partsK 0 (t.ks.take i)).map partV))) rfl (fun i x σ hx hI P' hP' => ?_) (fun σ' hI => ?_)
    · rw [enumV_get, Nat.zero_add, vL_eq, List.getElem?_map] at hx
      cases hu : t.ks[i]? with
      | none => rw [hu] at hx; cases hx
      | some u =>
        rw [hu] at hx
        cases hx
        have um : u ∈ t.ks := List.mem_of_getElem? hu
        have su := h.kid um
        have pl : (parts u).length = u.size := parts_len u
        have us := su.size
        refine FTurn_pair (Ex_cons (Ex1_extend (τ₁ := τ) (ys := ((parts u).map fun p => (i :: p.1, p.2)).map partV) (EvN.ev (EvN_comp1 (items := (parts u).map partV) (σ' := [("k", .int (i : Int))]) (IterE.of (Ev_call g_parts (isFun_of rfl) (ih u (hkid u um) su τ) (EvL_cons (Ev_name rfl rfl) EvL_nil) rfl) IterOf_lst)
          (Filt.add Filt.nil rfl rfl rfl) ?_ ?_)) (lk (lk hI rfl) rfl) ?_ (Ex_nil ?_) rfl))
        · rw [List.map_map]
          refine Turns.over fun p hp => CTurn_pair (CAct_emit (fun L cs => Ev_tuple (ys := [pathV (i :: p.1), p.2.v]) (EvL_cons (Ev_bin (Ev_tuple (ys := [.int (i : Int)]) (EvL_cons (Ev_name rfl rfl) EvL_nil) rfl (by simp)) (Ev_name rfl rfl) (Bin_add_tup (ys := p.1.map fun (j : Nat) => .int (j : Int)) ?_)) (EvL_cons (Ev_name rfl rfl) EvL_nil)) (by simp [pure_tup, Tm.pure, pathV]) (by simp)) rfl rfl)
          have := parts_path u p hp
          have := su.ht
          rw [List.length_map, sizeLine_eq]; simp; lia
        · rw [List.length_map, List.length_map, pl, sizeLine_eq]; (exact Nat.le_trans (by assumption) (by decide))
        · have l1 : (partsK 0 (t.ks.take i)).length ≤ 60 := by
            rw [partsK_len, sizeL_eq]
            have e1 : (t.ks.map Tm.size).sum ≤ 60 := by
              rw [← sizeL_eq]
              obtain ⟨f, ks⟩ := t
              simp only [Tm.size] at hsz
              show sizeL ks ≤ 60
              (exact Nat.le_of_lt (by assumption))
            have e2 : ((t.ks.take i).map Tm.size).sum ≤ (t.ks.map Tm.size).sum := by
              rw [List.map_take]
              conv => rhs; rw [← List.take_append_drop i (t.ks.map Tm.size), List.sum_append]
              exact Nat.le_add_right _ _
            (exact Nat.le_trans (by assumption) (Nat.le_trans (by assumption) (by decide)))
          simp only [List.length_map, List.length_cons, pl]; rw [sizeLine_eq]; lia
        · refine hP' _ ?_
          rw [lookup_cons_eq, partsK_take hu]
          simp
    · refine Ex_freeze hI rfl (Ex_cons (Ex1_return (Ev_name (lookup_cons_eq) rfl) rfl ?_))
      have e1 : (enumV 0 (vL t.ks)).length = t.ks.length := by rw [enumV_length, vL_length]
      rw [e1, List.take_length]
      obtain ⟨f, ks⟩ := t
      exact ⟨rfl, rfl⟩
end
end Mine
namespace Mine

section
variable {C : Cx} {n : Nat} {env : Env} {σ σ' : List (Str × V)} {τ τ₁ τ₂ τ₃ : Option Nat}
theorem Ev_eq {e : PySem.Expr} {y y' : V} (h : Ev C n e env σ τ y τ₁) (q : y = y') : Ev C n e env σ τ y' τ₁ := q ▸ h
theorem Ex1_comp1 {x : Str} {p pos pos2 : Pos} {elt t iter : PySem.Expr} {ifs : List PySem.Expr} {scope : Scope} {tt : Bool} {items ys : List V} {P : Out → Prop}
    (hit : IterE C n iter env σ τ tt items τ₁) (fl : Filt scope σ σ')
    (ht : Turns (CTurn C n elt [⟨t, iter, ifs, 0⟩] scope pos2 0 t ifs env σ') items τ₁ ys τ₂) (hl : ys.length ≤ sizeLine) (h : P (.next ((x, .oL ys) :: σ) τ₂))
    (hx : ownVar env x = true := by rfl) (ok : compOk scope env = true := by rfl) (kd : scope.kind = .function := by rfl) (htk : tgtOk tt t = true := by rfl) (hi : ifs.length ≤ 1 := by decide)
    (hf : ∀ x, foldedSetIterable iter env x = pure x := by intro _; rfl)
    (hs : swapsWith (.ListComp elt [⟨t, iter, ifs, 0⟩] scope pos2) (some (.Name x p)) pos.line env = pure true := by rfl) : Ex1 C n (.Assign [.Name x p] (.ListComp elt [⟨t, iter, ifs, 0⟩] scope pos2) pos) env σ τ P :=
  Ex1_assign_comp hit fl ht hl hx h ok kd htk hi (fun g' h => by simp at h) hf hs
end

section
variable {w : World} {mg mb : Str → Option Value} {T : Option Addr} {cells : List V} {τ : Option Nat} {n : Nat}

theorem Bu_len_tm {u : Tm} (h : u.ks.length ≤ 400) : BuSpec (cx2 w mg mb T cells) n (.builtin "len") [u.v] (.int ((u.ks.length + 1 : Nat) : Int)) := by
  rw [Tm.v_eq]
  have := Bu_len (C := cx2 w mg mb T cells) (n := n) (x := .tup (.str u.f :: vL u.ks)) (xs := .str u.f :: vL u.ks) rfl (by rw [List.length_cons, vL_length, sizeLine_eq]; (exact Nat.le_trans (Nat.add_le_add_right (by assumption) _) (by decide)))
  rw [List.length_cons, vL_length] at this
  exact this

mutual
theorem subs_sm : ∀ {t : Tm}, t.good = true → t.size ≤ 60 → t.ht ≤ 40 → ∀ u ∈ subs t, Sm u
  | .mk f ks, g, s, d, u, hu => by
    rcases List.mem_cons.mp hu with rfl | hu
    · exact ⟨g, s, d⟩
    · simp only [Tm.size] at s
      simp only [Tm.ht] at d
      exact subsL_sm (Bool.and_eq_true_iff.mp (show (_ && _) = true from g)).2 (by (exact Nat.le_of_lt (by assumption))) (by (exact Nat.le_of_lt (by assumption))) u hu
theorem subsL_sm : ∀ {ks : List Tm}, goodL ks = true → sizeL ks ≤ 60 → htL ks ≤ 40 → ∀ u ∈ subsL ks, Sm u
  | [], _, _, _, u, hu => nomatch hu
  | t :: r, g, s, d, u, hu => by
    have g' := Bool.and_eq_true_iff.mp (show (_ && _) = true from g)
    simp only [sizeL] at s
    simp only [htL] at d
    rcases List.mem_append.mp hu with hu | hu
    · exact subs_sm g'.1 (by lia) (by lia) u hu
    · exact subsL_sm g'.2 (by lia) (by lia) u hu
end
theorem Sm.subs {t : Tm} (h : Sm t) : ∀ u ∈ subs t, Sm u := subs_sm h.good h.size h.ht

theorem spec_key_of {t : Tm} (h : Sm t) : FnSpec (cx2 w mg mb T cells) (42 + n) (.ref 101) [t.v] τ (keyT t) τ := by
  have D : FnData (cx2 w mg mb T cells) 101 _ _ ["t"] := fnData_of rfl rfl rfl rfl rfl rfl rfl rfl rfl (bindL1 rfl fun _ => rfl) rfl (by decide)
  rw [show 42 + n = 41 + n + 1 by lia]
  refine fn_spec D rfl (by simp [Tm.own]) fun L cs => ?_
  have hs := h.size
  have hh := h.ht
  have len : (subs t).length ≤ 60 := by rw [subs_len]; exact hs
  have e0 : (parts t).map (fun p => p.2.v) = (subs t).map Tm.v := by rw [← parts_snd, List.map_map]; rfl
  refine Ex_cons (Ex1_comp1 (τ₂ := τ) (items := (parts t).map partV) (ys := (subs t).map Tm.v) (IterE.of (Ev_call g_parts (isFun_of rfl) ((spec_parts (n := 0) t.ht t (Nat.le_refl _) h τ).le (by lia)) (EvL_cons (Ev_name rfl rfl) EvL_nil) rfl) IterOf_lst) Filt.nil ?_ ?_ ?_)
  · rw [← e0]
    exact Turns.over fun p hp => CTurn_pair (CAct_emit (fun L cs => Ev_name rfl rfl) (Tm.pure _) rfl)
  · rw [List.length_map, sizeLine_eq]; (exact Nat.le_trans (by assumption) (by decide))
  · refine Ex_freeze lookup_cons_eq rfl ?_
    refine Ex_cons (Ex1_return (Ev_tuple (ys := [.int (t.size : Int), .tup ((subs t).map fun u => .str u.f), .tup ((subs t).map fun u => .int ((u.ks.length : Nat) : Int))])
      (EvL_cons (Ev_eq (Ev_builtin b_len (Bu_len (xs := (subs t).map Tm.v) rfl (by rw [List.length_map, sizeLine_eq]; (exact Nat.le_trans (by assumption) (by decide)))) (EvL_cons (Ev_name lookup_cons_eq rfl) EvL_nil) rfl) (by rw [List.length_map, subs_len]))
      (EvL_cons (Ev_type b_tuple (Bu_tuple (xs := (subs t).map fun u => .str u.f) rfl (by rw [List.length_map, sizeLine_eq]; (exact Nat.le_trans (by assumption) (by decide)))) (EvL_cons (EvN.ev (EvN_comp1 (τ₁ := τ) (items := (subs t).map Tm.v) (σ' := []) (IterE.of (Ev_name lookup_cons_eq rfl) IterOf_lst) Filt.nil (Turns.over fun u hu => CTurn_name (CAct_emit (fun L cs => Ev_at0 (Ev_name' (Tm.v_eq u) rfl rfl) rfl) rfl rfl)) (by rw [List.length_map, sizeLine_eq]; (exact Nat.le_trans (by assumption) (by decide))))) EvL_nil) rfl)
      (EvL_cons (Ev_type b_tuple (Bu_tuple (xs := (subs t).map fun u => .int ((u.ks.length : Nat) : Int)) rfl (by rw [List.length_map, sizeLine_eq]; (exact Nat.le_trans (by assumption) (by decide)))) (EvL_cons (EvN.ev (EvN_comp1 (τ₁ := τ) (items := (subs t).map Tm.v) (σ' := []) (IterE.of (Ev_name lookup_cons_eq rfl) IterOf_lst) Filt.nil (Turns.over fun u hu => CTurn_name (CAct_emit (fun L cs => Ev_eq (Ev_bin (Ev_builtin b_len (Bu_len_tm (by have := (h.subs u hu).len; (exact Nat.le_trans (by assumption) (by decide)))) (EvL_cons (Ev_name rfl rfl) EvL_nil) rfl) Ev_int Bin_sub_int) (by congr 1; lia)) rfl rfl)) (by rw [List.length_map, sizeLine_eq]; (exact Nat.le_trans (by assumption) (by decide))))) EvL_nil) rfl) EvL_nil)))
      (by simp [pure_tup, pure_int]) (by simp)) rfl ⟨rfl, rfl⟩)
end
end Mine
namespace Mine

noncomputable def isBag (ops : List Str) (t : Tm) : Bool := ops.contains t.f && decide (1 < t.ks.length)
mutual
noncomputable def kidsT (ops : List Str) (op : Str) : Tm → List Tm
  | .mk f ks => if f = op ∧ isBag ops (.mk f ks) = true then kidsL ops op ks else [.mk f ks]
noncomputable def kidsL (ops : List Str) (op : Str) : List Tm → List Tm
  | [] => []
  | t :: r => kidsT ops op t ++ kidsL ops op r
end
theorem kidsL_eq (ops : List Str) (op : Str) : ∀ ks : List Tm, kidsL ops op ks = ks.flatMap (kidsT ops op)
  | [] => rfl
  | t :: r => congrArg (kidsT ops op t ++ ·) (kidsL_eq ops op r)
noncomputable def oneOr (op : Str) : List Tm → Tm
  | [] => .mk op []
  | [x] => x
  | x :: y :: r => .mk op (x :: y :: r)
theorem oneOr_eq (op : Str) : ∀ l : List Tm, (∃ x, l = [x] ∧ oneOr op l = x) ∨ (l.length ≠ 1 ∧ oneOr op l = .mk op l)
  | [] => .inr ⟨by decide, rfl⟩
  | [x] => .inl ⟨x, rfl, rfl⟩
  | _ :: _ :: _ => .inr ⟨fun h => Nat.succ_ne_zero _ (Nat.succ.inj h), rfl⟩
noncomputable def madeT (ops : List Str) (op : Str) (some : List Tm) : Tm := oneOr op (ordT (kidsL ops op some))
mutual
noncomputable def normT (ops : List Str) : Tm → Tm
  | .mk f ks => if isBag ops (.mk f ks) then madeT ops f (normL ops ks) else .mk f (normL ops ks)
noncomputable def normL (ops : List Str) : List Tm → List Tm
  | [] => []
  | t :: r => normT ops t :: normL ops r
end
theorem normT_if {ops : List Str} {f : Str} {ks : List Tm} : normT ops (.mk f ks) = if isBag ops (.mk f ks) then madeT ops f (normL ops ks) else .mk f (normL ops ks) := rfl
theorem kidsT_if {ops : List Str} {op f : Str} {ks : List Tm} : kidsT ops op (.mk f ks) = if f = op ∧ isBag ops (.mk f ks) = true then kidsL ops op ks else [.mk f ks] := rfl
theorem normL_eq (ops : List Str) : ∀ ks : List Tm, normL ops ks = ks.map (normT ops)
  | [] => rfl
  | t :: r => congrArg (normT ops t :: ·) (normL_eq ops r)

noncomputable def opsAll : List (List Str) := [["+"]]
noncomputable def okOps (ops : List Str) : Bool := opsAll.contains ops
noncomputable def opsV (ops : List Str) : V := .lst (ops.map V.str)
theorem okOps_fine {ops : List Str} (h : okOps ops = true) : (opsV ops).fine = true := by
  have hm : ops ∈ opsAll := by simpa [okOps] using h
  have all : ∀ ops ∈ opsAll, (opsV ops).fine = true := by decide +kernel
  exact all ops hm
theorem eqv_str {x y : Str} : PyData.eqv (V.str x).py (V.str y).py = (x == y) := rfl
theorem in_ops (ops : List Str) (x : Str) : ((pyL (ops.map V.str)).any fun y => PyData.eqv y (V.str x).py) = ops.contains x := by
  induction ops with
  | nil => rfl
  | cons y r ih =>
    simp only [List.map_cons, pyL, List.any_cons, ih, List.contains_cons]
    rw [eqv_str, Bool.beq_comm]
theorem okName_fine {x : Str} (h : okName x = true) : (V.str x).fine = true := srt_fine (okName_srt h)

section
variable {w : World} {mg mb : Str → Option Value} {T : Option Addr} {cells : List V} {τ : Option Nat} {n : Nat} {ops : List Str}
theorem spec_is_bag {t : Tm} (ho : okOps ops = true) (h : Sm t) : FnSpec (cx2 w mg mb T cells) (n + 1) (.ref 146) [.self (opsV ops), t.v] τ (.bool (isBag ops t)) τ := by
  have D : FnData (cx2 w mg mb T cells) 146 _ _ ["self", "t"] := fnData_of rfl rfl rfl rfl rfl rfl rfl rfl rfl (bindL2 rfl fun _ _ => rfl) rfl (by decide)
  refine fn_spec D rfl (by simp [own_self, Tm.own]) fun L cs => ?_
  have gf := Tm.good_f h.good
  have hl := h.len
  refine Ex_cons (Ex1_return (Ev_and2 (Ev_cmp (Ev_at0 (Ev_name' (Tm.v_eq t) rfl rfl) rfl) (Ev_ops opsAt rfl rfl) (Cmp_in_lst (okName_fine gf) (okOps_fine ho) (by simp [V.py, PyData.depth]) (in_ops ops t.f)))
    (fun _ => Ev_cmp (Ev_builtin b_len (Bu_len_tm (by (exact Nat.le_trans (by assumption) (by decide)))) (EvL_cons (Ev_name rfl rfl) EvL_nil) rfl) Ev_int (Cmp_gt_int ?_)) fun _ => rfl) rfl ⟨rfl, rfl⟩)
  by_cases q : 1 < t.ks.length
  · rw [decide_eq_true q]; exact decide_eq_true (by lia)
  · rw [decide_eq_false q]; exact decide_eq_false (by lia)

theorem spec_in_order_of {l : List Tm} (h : ∀ t ∈ l, Sm t) (hl : l.length < 64) : FnSpec (cx2 w mg mb T cells) (43 + n) (.ref 106) [.lst (l.map Tm.v)] τ (.tup ((ordT l).map Tm.v)) τ := by
  have D : FnData (cx2 w mg mb T cells) 106 _ _ ["terms"] := fnData_of rfl rfl rfl rfl rfl rfl rfl rfl rfl (bindL1 rfl fun _ => rfl) rfl (by decide)
  rw [show 43 + n = 42 + n + 1 by lia]
  refine fn_spec D rfl (by simp [own_lst]) fun L cs => ?_
  have so := sortOk_kt (l := l) (fun t ht => (h t ht).good) (fun t ht => by have := (h t ht).ht; (exact Nat.le_trans (by assumption) (by decide))) hl
  refine Ex_cons (Ex1_return (Ev_type b_tuple (Bu_tuple (xs := (ordT l).map Tm.v) rfl (by rw [List.length_map, ordT_len, sizeLine_eq]; (exact Nat.le_of_lt (Nat.lt_of_lt_of_le (by assumption) (by decide))))) (EvL_cons (EvN.ev (EvN_comp1 (τ₁ := τ) (items := (ordT l).map ktV) (σ' := [])
    (IterE.of (x := .lst ((ordT l).map ktV)) (ordT_v l ▸ EvN.ev (EvN_sorted b_sorted (EvN.ev (EvN_comp1 (τ₁ := τ) (items := l.map Tm.v) (ys := l.map ktV) (σ' := []) (IterE.of (Ev_name rfl rfl) IterOf_lst) Filt.nil ?_ (by rw [List.length_map, sizeLine_eq]; (exact Nat.le_of_lt (Nat.lt_of_lt_of_le (by assumption) (by decide)))))) so rfl)) IterOf_lst)
    Filt.nil ?_ (by rw [List.length_map, ordT_len, sizeLine_eq]; (exact Nat.le_of_lt (Nat.lt_of_lt_of_le (by assumption) (by decide)))))) EvL_nil) rfl) rfl ⟨rfl, rfl⟩)
  · exact Turns.over fun t ht => CTurn_name (CAct_emit (fun L cs => Ev_tuple (ys := [keyT t, t.v]) (EvL_cons (Ev_call g_key_of (isFun_of rfl) (spec_key_of (h t ht)) (EvL_cons (Ev_name rfl rfl) EvL_nil) rfl) (EvL_cons (Ev_name rfl rfl) EvL_nil)) (by simp [keyT, pure_tup, Tm.pure]) (by simp)) rfl rfl)
  · exact Turns.over fun t ht => CTurn_pair (CAct_emit (fun L cs => Ev_name rfl rfl) (Tm.pure _) rfl)
end
end Mine
namespace Mine

theorem sizeL_app (a b : List Tm) : sizeL (a ++ b) = sizeL a + sizeL b := by simp [sizeL_eq]
theorem sizeL_perm {a b : List Tm} (p : a.Perm b) : sizeL a = sizeL b := by
  induction p with
  | nil => rfl
  | cons x _ ih => simp only [sizeL, ih]
  | swap x y l => simp only [sizeL]; lia
  | trans _ _ h1 h2 => exact h1.trans h2
mutual
theorem kidsT_size (ops : List Str) (op : Str) : ∀ t : Tm, sizeL (kidsT ops op t) ≤ t.size
  | .mk f ks => by
    rw [kidsT_if]
    split
    · have := kidsL_size ops op ks
      simp only [Tm.size]; (exact Nat.le_succ_of_le (by assumption))
    · simp only [sizeL]; lia
theorem kidsL_size (ops : List Str) (op : Str) : ∀ ks : List Tm, sizeL (kidsL ops op ks) ≤ sizeL ks
  | [] => Nat.le_refl _
  | t :: r => by
    have := kidsT_size ops op t
    have := kidsL_size ops op r
    simp only [kidsL, sizeL_app, sizeL]; lia
end
mutual
theorem kidsT_all {Pr : Tm → Prop} (hp : ∀ t, Pr t → ∀ u ∈ t.ks, Pr u) (ops : List Str) (op : Str) : ∀ t : Tm, Pr t → ∀ u ∈ kidsT ops op t, Pr u
  | .mk f ks, h, u, hu => by
    rw [kidsT_if] at hu
    split at hu
    · exact kidsL_all hp ops op ks (fun x hx => hp _ h x hx) u hu
    · simp at hu; subst hu; exact h
theorem kidsL_all {Pr : Tm → Prop} (hp : ∀ t, Pr t → ∀ u ∈ t.ks, Pr u) (ops : List Str) (op : Str) : ∀ ks : List Tm, (∀ t ∈ ks, Pr t) → ∀ u ∈ kidsL ops op ks, Pr u
  | [], _, u, hu => nomatch hu
  | t :: r, h, u, hu => by
    rcases List.mem_append.mp hu with hu | hu
    · exact kidsT_all hp ops op t (h t List.mem_cons_self) u hu
    · exact kidsL_all hp ops op r (fun x hx => h x (List.mem_cons_of_mem _ hx)) u hu
end
theorem kidsT_sm {ops : List Str} {op : Str} {t : Tm} (h : Sm t) : ∀ u ∈ kidsT ops op t, Sm u := kidsT_all (Pr := Sm) (fun t h u hu => h.kid hu) ops op t h
theorem kidsL_sm {ops : List Str} {op : Str} {l : List Tm} (h : ∀ t ∈ l, Sm t) : ∀ u ∈ kidsL ops op l, Sm u := kidsL_all (Pr := Sm) (fun t h u hu => h.kid hu) ops op l h
theorem good_kids {t : Tm} (h : t.good = true) : ∀ u ∈ t.ks, u.good = true := goodL_iff.mp (Tm.good_ks h)
theorem ht_kids {n : Nat} {t : Tm} (h : t.ht ≤ n) : ∀ u ∈ t.ks, u.ht ≤ n := fun u hu => by
  obtain ⟨f, ks⟩ := t
  have := htL_mem (show u ∈ ks from hu)
  simp only [Tm.ht] at h; lia
theorem kidsL_good {ops : List Str} {op : Str} {l : List Tm} (h : ∀ t ∈ l, t.good = true) : ∀ u ∈ kidsL ops op l, u.good = true := kidsL_all (Pr := fun t => t.good = true) (fun t h => good_kids h) ops op l h
theorem kidsL_ht {ops : List Str} {op : Str} {l : List Tm} {n : Nat} (h : ∀ t ∈ l, t.ht ≤ n) : ∀ u ∈ kidsL ops op l, u.ht ≤ n := kidsL_all (Pr := fun t => t.ht ≤ n) (fun t h => ht_kids h) ops op l h
theorem kidsT_ne (ops : List Str) (op : Str) : ∀ t : Tm, 1 ≤ (kidsT ops op t).length
  | .mk f ks => by
    rw [kidsT_if]
    split
    · rename_i h
      have h2 := h.2
      unfold isBag at h2
      simp only [Bool.and_eq_true, decide_eq_true_eq] at h2
      match ks, h2.2 with
      | t :: r, _ =>
        have := kidsT_ne ops op t
        simp only [kidsL, List.length_append]; (exact Nat.le_trans (by assumption) (Nat.le_add_right _ _))
    · exact Nat.le_refl _
theorem kidsL_ne (ops : List Str) (op : Str) : ∀ ks : List Tm, ks.length ≤ (kidsL ops op ks).length
  | [] => Nat.le_refl _
  | t :: r => by
    have := kidsT_ne ops op t
    have := kidsL_ne ops op r
    simp only [kidsL, List.length_append, List.length_cons]; lia
theorem madeT_eq (ops : List Str) (op : Str) (l : List Tm) : (∃ x, ordT (kidsL ops op l) = [x] ∧ madeT ops op l = x) ∨ ((ordT (kidsL ops op l)).length ≠ 1 ∧ madeT ops op l = .mk op (ordT (kidsL ops op l))) := by
  exact oneOr_eq op _
theorem madeT_good {ops : List Str} {op : Str} {l : List Tm} (ho : okName op = true) (h : ∀ t ∈ l, t.good = true) : (madeT ops op l).good = true := by
  have g : ∀ u ∈ ordT (kidsL ops op l), u.good = true := fun u hu => kidsL_good h u ((ordT_perm _).mem_iff.mp hu)
  rcases madeT_eq ops op l with ⟨x, e, e2⟩ | ⟨_, e2⟩
  · rw [e2]; exact g x (by rw [e]; exact List.mem_singleton_self _)
  · rw [e2]; show (_ && _) = true; rw [ho, goodL_iff.mpr g]; rfl
theorem madeT_size (ops : List Str) (op : Str) (l : List Tm) : (madeT ops op l).size ≤ sizeL l + 1 := by
  have h := kidsL_size ops op l
  have p := sizeL_perm (ordT_perm (kidsL ops op l))
  rcases madeT_eq ops op l with ⟨x, e, e2⟩ | ⟨_, e2⟩
  · rw [e2]; rw [e] at p; simp only [sizeL] at p; lia
  · rw [e2]; simp only [Tm.size]; lia
theorem madeT_ht (ops : List Str) (op : Str) (l : List Tm) : (madeT ops op l).ht ≤ htL l + 1 := by
  have g : ∀ u ∈ ordT (kidsL ops op l), u.ht ≤ htL l := fun u hu => kidsL_ht (fun t ht => htL_mem ht) u ((ordT_perm _).mem_iff.mp hu)
  rcases madeT_eq ops op l with ⟨x, e, e2⟩ | ⟨_, e2⟩
  · rw [e2]; have := g x (by rw [e]; exact List.mem_singleton_self _); (exact Nat.le_succ_of_le (by assumption))
  · rw [e2]; have := htL_le g; simp only [Tm.ht]; (exact Nat.lt_succ_of_le (by assumption))
mutual
theorem normT_size (ops : List Str) : ∀ t : Tm, (normT ops t).size ≤ t.size
  | .mk f ks => by
    have h := normL_size ops ks
    rw [normT_if]; split
    · have := madeT_size ops f (normL ops ks)
      simp only [Tm.size]; lia
    · simp only [Tm.size]; (exact Nat.lt_succ_of_le (by assumption))
theorem normL_size (ops : List Str) : ∀ ks : List Tm, sizeL (normL ops ks) ≤ sizeL ks
  | [] => Nat.le_refl _
  | t :: r => by
    have := normT_size ops t
    have := normL_size ops r
    simp only [normL, sizeL]; lia
end
mutual
theorem normT_ht (ops : List Str) : ∀ t : Tm, (normT ops t).ht ≤ t.ht
  | .mk f ks => by
    have h := normL_ht ops ks
    rw [normT_if]; split
    · have := madeT_ht ops f (normL ops ks)
      simp only [Tm.ht]; lia
    · simp only [Tm.ht]; (exact Nat.lt_succ_of_le (by assumption))
theorem normL_ht (ops : List Str) : ∀ ks : List Tm, htL (normL ops ks) ≤ htL ks
  | [] => Nat.le_refl _
  | t :: r => by
    have a := normT_ht ops t
    have b := normL_ht ops r
    simp only [normL, htL]
    exact Nat.max_le.mpr ⟨Nat.le_trans a (Nat.le_max_left _ _), Nat.le_trans b (Nat.le_max_right _ _)⟩
end
mutual
theorem normT_good (ops : List Str) : ∀ t : Tm, t.good = true → (normT ops t).good = true
  | .mk f ks, h => by
    have h' := Bool.and_eq_true_iff.mp (show (_ && _) = true from h)
    have g := normL_good ops ks h'.2
    rw [normT_if]; split
    · exact madeT_good h'.1 (goodL_iff.mp g)
    · show (_ && _) = true; rw [h'.1, g]; rfl
theorem normL_good (ops : List Str) : ∀ ks : List Tm, goodL ks = true → goodL (normL ops ks) = true
  | [], _ => rfl
  | t :: r, h => by
    have h' := Bool.and_eq_true_iff.mp (show (_ && _) = true from h)
    show (_ && _) = true
    rw [normT_good ops t h'.1, normL_good ops r h'.2]; rfl
end
theorem Sm.norm {ops : List Str} {t : Tm} (h : Sm t) : Sm (normT ops t) :=
  ⟨normT_good ops t h.good, Nat.le_trans (normT_size ops t) h.size, Nat.le_trans (normT_ht ops t) h.ht⟩
end Mine
namespace Mine

theorem isBag_iff {ops : List Str} {op : Str} {t : Tm} : (!(t.f == op) || !isBag ops t) = false ↔ (t.f = op ∧ isBag ops t = true) := by
  simp
theorem kidsT_no {ops : List Str} {op : Str} {t : Tm} (h : (!(t.f == op) || !isBag ops t) = true) : kidsT ops op t = [t] := by
  obtain ⟨f, ks⟩ := t
  rw [kidsT_if]
  rw [if_neg]
  intro q
  have e : (!((Tm.mk f ks).f == op) || !isBag ops (.mk f ks)) = false := isBag_iff.mpr q
  rw [e] at h; cases h
theorem kidsT_yes {ops : List Str} {op : Str} {t : Tm} (h : (!(t.f == op) || !isBag ops t) = false) : kidsT ops op t = kidsL ops op t.ks := by
  obtain ⟨f, ks⟩ := t
  rw [kidsT_if]
  have q : f = op ∧ isBag ops (.mk f ks) = true := isBag_iff.mp h
  rw [if_pos q]; rfl
theorem sm_ht {t : Tm} {d : Nat} (hd : t.ht ≤ d + 1) {u : Tm} (hu : u ∈ t.ks) : u.ht ≤ d := by
  obtain ⟨f, ks⟩ := t
  have := htL_mem (show u ∈ ks from hu)
  simp only [Tm.ht] at hd; lia
theorem ht_pos (t : Tm) : 1 ≤ t.ht := by cases t; simp only [Tm.ht]; (exact Nat.le_add_left _ _)
theorem IterOf_seq {C : Cx} {n : Nat} {x : V} {xs : List V} (h : x = .lst xs ∨ x = .tup xs) : IterOf C n x false xs := by
  rcases h with rfl | rfl
  · exact IterOf_lst
  · exact IterOf_tup
theorem Turns.flatL {T' : V → Option Nat → List V → Option Nat → Prop} {f : Tm → List Tm} {τ : Option Nat} : ∀ {l : List Tm}, (∀ p ∈ l, T' p.v τ ((f p).map Tm.v) τ) → Turns T' (l.map Tm.v) τ ((l.flatMap f).map Tm.v) τ := by
  intro l h
  rw [List.map_flatMap]
  exact Turns.flat h

section
variable {w : World} {mg mb : Str → Option Value} {T : Option Addr} {cells : List V} {n : Nat} {ops : List Str}
theorem spec_kids (ho : okOps ops = true) {op : Str} (hop : okName op = true) : ∀ (d : Nat) (t : Tm), t.ht ≤ d → Sm t → ∀ τ, FnSpec (cx2 w mg mb T cells) (d + (n + 1)) (.ref 151) [.self (opsV ops), .str op, t.v] τ (.tup ((kidsT ops op t).map Tm.v)) τ := by
  intro d
  induction d with
  | zero =>
    intro t hd
    have := ht_pos t; lia
  | succ d ih =>
    intro t hd h τ
    have D : FnData (cx2 w mg mb T cells) 151 _ _ ["self", "op", "t"] := fnData_of rfl rfl rfl rfl rfl rfl rfl rfl rfl (bindL3 rfl fun _ _ _ => rfl) rfl (by decide)
    rw [show d + 1 + (n + 1) = d + (n + 1) + 1 by (exact Nat.add_right_comm _ _ _)]
    refine fn_spec D rfl (by simp [own_self, own_str, Tm.own]) fun L cs => ?_
    have gf := Tm.good_f h.good
    refine Ex_cons (Ex1_if (τ₁ := τ) (Tst_or2 (a := !(t.f == op)) (b := !isBag ops t) (Tst_cmp (Ev_at0 (Ev_name' (Tm.v_eq t) rfl rfl) rfl) (Ev_name rfl rfl) (Cmp_ne (okName_fine gf) (okName_fine hop) (by simp [V.py, PyData.depth]) rfl))
      (fun _ => Tst_not (Tst_val (Ev_method m_is_bag ((spec_is_bag (n := 0) ho h).le (by (exact Nat.le_add_left _ _))) (EvL_cons (Ev_name rfl rfl) EvL_nil) rfl rfl))) fun _ => rfl) (fun hc => ?_) (fun hc => ?_))
    · rw [kidsT_no hc]
      exact Ex_cons (Ex1_return (Ev_tuple (ys := [t.v]) (EvL_cons (Ev_name rfl rfl) EvL_nil) (by simp [Tm.pure]) (by simp)) rfl ⟨rfl, rfl⟩)
    · refine Ex_nil ?_
      have e : kidsT ops op t = t.ks.flatMap (kidsT ops op) := by rw [kidsT_yes hc, kidsL_eq]
      have len : ((kidsT ops op t).map Tm.v).length ≤ sizeLine := by
        have := kidsT_size ops op t
        have := len_le_sizeL (kidsT ops op t)
        have := h.size
        rw [List.length_map, sizeLine_eq]; lia
      refine Ex_cons (Ex1_return (Ev_type b_tuple (Bu_tuple (xs := (kidsT ops op t).map Tm.v) rfl len) (EvL_cons (EvN.ev (EvN_comp2 (items := vL t.ks) (τ₁ := τ) (σ' := [("op", .str op), ("self", .self (opsV ops))])
        (IterE.of (Ev_tup1 (x := .str t.f) (xs := vL t.ks) (Ev_name' (Tm.v_eq t) rfl rfl) (by have := h.len; rw [vL_length, sizeLine_eq]; (exact Nat.le_trans (Nat.add_le_add_right (by assumption) _) (by decide)))) IterOf_tup)
        (Filt.add (Filt.add Filt.nil rfl rfl rfl) rfl rfl rfl) ?_ len)) EvL_nil) rfl) rfl ⟨rfl, rfl⟩)
      rw [e, vL_eq]
      exact Turns.flatL fun u hu => CTurn_name (CAct_nest1 (τ₁ := τ) (fun L cs => IterE.of (Ev_method m_kids (ih u (sm_ht hd hu) (h.kid hu) τ) (EvL_cons (Ev_name rfl rfl) (EvL_cons (Ev_name rfl rfl) EvL_nil)) rfl rfl) IterOf_tup)
        (Turns.over fun x hx => CTurn_name (CAct_emit (fun L cs => Ev_name rfl rfl) (Tm.pure _) rfl)))

theorem spec_made (ho : okOps ops = true) {op : Str} (hop : okName op = true) {l : List Tm} (hl : ∀ t ∈ l, Sm t) (hs : sizeL l < 60) {x : V} (hx : x = .lst (l.map Tm.v) ∨ x = .tup (l.map Tm.v)) (τ : Option Nat) :
    FnSpec (cx2 w mg mb T cells) (45 + n) (.ref 156) [.self (opsV ops), .str op, x] τ (madeT ops op l).v τ := by
  have D : FnData (cx2 w mg mb T cells) 156 _ _ ["self", "op", "some"] := fnData_of rfl rfl rfl rfl rfl rfl rfl rfl rfl (bindL3 rfl fun _ _ _ => rfl) rfl (by decide)
  rw [show 45 + n = 44 + n + 1 by lia]
  have xo : x.own = false := by rcases hx with rfl | rfl <;> rfl
  refine fn_spec D rfl (by simp [own_self, own_str, xo]) fun L cs => ?_
  have kl : (kidsL ops op l).length < 60 := by
    have := kidsL_size ops op l
    have := len_le_sizeL (kidsL ops op l)
    lia
  have len : ((kidsL ops op l).map Tm.v).length ≤ sizeLine := by rw [List.length_map, sizeLine_eq]; (exact Nat.le_of_lt (Nat.lt_of_lt_of_le (by assumption) (by decide)))
  have ol : (ordT (kidsL ops op l)).length < 60 := by rw [ordT_len]; exact kl
  refine Ex_cons (Ex1_assign (τ₁ := τ) (y := .tup ((ordT (kidsL ops op l)).map Tm.v)) (Ev_call g_in_order_of (isFun_of rfl) ((spec_in_order_of (n := 0) (l := kidsL ops op l) (kidsL_sm hl) (by (exact Nat.le_trans (by assumption) (by decide)))).le (by lia)) (EvL_cons (EvN.ev (EvN_comp2 (items := l.map Tm.v) (τ₁ := τ) (σ' := [("op", .str op), ("self", .self (opsV ops))])
    (IterE.of (Ev_name rfl rfl) (IterOf_seq hx)) (Filt.add (Filt.add Filt.nil rfl rfl rfl) rfl rfl rfl) ?_ len)) EvL_nil) rfl) rfl rfl ?_)
  · rw [kidsL_eq]
    exact Turns.flatL fun u hu => CTurn_name (CAct_nest1 (τ₁ := τ) (fun L cs => IterE.of (Ev_method m_kids ((spec_kids (n := 0) ho hop u.ht u (Nat.le_refl _) (hl u hu) τ).le (by have := (hl u hu).ht; lia)) (EvL_cons (Ev_name rfl rfl) (EvL_cons (Ev_name rfl rfl) EvL_nil)) rfl rfl) IterOf_tup)
        (Turns.over fun x hx => CTurn_name (CAct_emit (fun L cs => Ev_name rfl rfl) (Tm.pure _) rfl)))
  · refine Ex_cons (Ex1_return (Ev_ifexp (c := decide ((ordT (kidsL ops op l)).length = 1)) (Tst_cmp (Ev_builtin b_len (Bu_len (xs := (ordT (kidsL ops op l)).map Tm.v) rfl (by rw [List.length_map, sizeLine_eq]; (exact Nat.le_of_lt (Nat.lt_of_lt_of_le (by assumption) (by decide))))) (EvL_cons (Ev_name rfl rfl) EvL_nil) rfl) Ev_int (Cmp_eq rfl rfl (by simp [V.py, PyData.depth]) ?_)) (fun hc => ?_) (fun hc => ?_)) (Tm.own _) ⟨rfl, rfl⟩)
    · rw [List.length_map]
      show ((((ordT (kidsL ops op l)).length : Nat) : Int) == 1) = _
      by_cases q : (ordT (kidsL ops op l)).length = 1
      · rw [decide_eq_true q, q]; rfl
      · rw [decide_eq_false q]; exact beq_false_of_ne (by lia)
    · rcases madeT_eq ops op l with ⟨y, e, e2⟩ | ⟨e, e2⟩
      · rw [e2]
        exact Ev_at0 (Ev_name' (y := .tup ((ordT (kidsL ops op l)).map Tm.v)) (y' := .tup [y.v]) (by rw [e]; rfl) rfl rfl) rfl
      · exact absurd (of_decide_eq_true hc) e
    · rcases madeT_eq ops op l with ⟨y, e, e2⟩ | ⟨e, e2⟩
      · exact absurd (by rw [e]; rfl) (of_decide_eq_false hc)
      · rw [e2]
        refine Ev_eq (Ev_bin (Ev_tuple (ys := [.str op]) (EvL_cons (Ev_name rfl rfl) EvL_nil) rfl (by simp)) (Ev_name rfl rfl) (Bin_add_tup (xs := [.str op]) (ys := (ordT (kidsL ops op l)).map Tm.v) (by rw [List.length_map, sizeLine_eq]; simp; lia))) ?_
        rw [Tm.v, vL_eq]; rfl

theorem spec_normal (ho : okOps ops = true) : ∀ (d : Nat) (t : Tm), t.ht ≤ d → Sm t → ∀ τ, FnSpec (cx2 w mg mb T cells) (d + (45 + n)) (.ref 161) [.self (opsV ops), t.v] τ (normT ops t).v τ := by
  intro d
  induction d with
  | zero =>
    intro t hd
    have := ht_pos t; lia
  | succ d ih =>
    intro t hd h τ
    have D : FnData (cx2 w mg mb T cells) 161 _ _ ["self", "t"] := fnData_of rfl rfl rfl rfl rfl rfl rfl rfl rfl (bindL2 rfl fun _ _ => rfl) rfl (by decide)
    rw [show d + 1 + (45 + n) = d + (45 + n) + 1 by (exact Nat.add_right_comm _ _ _)]
    refine fn_spec D rfl (by simp [own_self, Tm.own]) fun L cs => ?_
    have gf := Tm.good_f h.good
    have hlen := h.len
    have e0 : (normL ops t.ks).map Tm.v = t.ks.map fun u => (normT ops u).v := by rw [normL_eq, List.map_map]; rfl
    have nl : (normL ops t.ks).length = t.ks.length := by rw [normL_eq, List.length_map]
    refine Ex_cons (Ex1_comp1 (τ₂ := τ) (items := vL t.ks) (ys := (normL ops t.ks).map Tm.v) (σ' := [("self", .self (opsV ops))]) (IterE.of (Ev_tup1 (x := .str t.f) (xs := vL t.ks) (Ev_name' (Tm.v_eq t) rfl rfl) (by rw [vL_length, sizeLine_eq]; (exact Nat.le_trans (Nat.add_le_add_right (by assumption) _) (by decide)))) IterOf_tup)
      (Filt.add Filt.nil rfl rfl rfl) ?_ (by rw [List.length_map, nl, sizeLine_eq]; (exact Nat.le_trans (by assumption) (by decide))) ?_)
    · rw [e0, vL_eq]
      exact Turns.over fun u hu => CTurn_name (CAct_emit (fun L cs => Ev_method m_normal (ih u (sm_ht hd hu) (h.kid hu) τ) (EvL_cons (Ev_name rfl rfl) EvL_nil) rfl rfl) (Tm.pure _) rfl)
    · refine Ex_freeze lookup_cons_eq rfl ?_
      have gks : ∀ u ∈ normL ops t.ks, Sm u := fun u hu => by
        rw [normL_eq] at hu
        obtain ⟨x, hx, rfl⟩ := List.mem_map.mp hu
        exact (h.kid hx).norm
      have sz : sizeL (normL ops t.ks) < 60 := by
        have a := normL_size ops t.ks
        have b := h.size
        obtain ⟨f, ks⟩ := t
        simp only [Tm.size] at b
        have : sizeL (normL ops ks) ≤ sizeL ks := a
        show sizeL (normL ops ks) < 60
        (exact Nat.lt_of_le_of_lt (by assumption) (by assumption))
      refine Ex_cons (Ex1_return (Ev_ifexp (τ₁ := τ) (Tst_val (Ev_method m_is_bag ((spec_is_bag (n := 0) ho h).le (by lia)) (EvL_cons (Ev_name rfl rfl) EvL_nil) rfl rfl)) (fun hc => ?_) (fun hc => ?_)) (Tm.own _) ⟨rfl, rfl⟩)
      · have e : normT ops t = madeT ops t.f (normL ops t.ks) := by
          obtain ⟨f, ks⟩ := t
          rw [normT_if, if_pos hc]; rfl
        rw [e]
        exact Ev_method m_made ((spec_made (n := 0) ho gf gks sz (.inl rfl) τ).le (by lia)) (EvL_cons (Ev_at0 (Ev_name' (Tm.v_eq t) rfl rfl) rfl) (EvL_cons (Ev_name lookup_cons_eq rfl) EvL_nil)) rfl rfl
      · have e : normT ops t = .mk t.f (normL ops t.ks) := by
          obtain ⟨f, ks⟩ := t
          rw [normT_if, if_neg (by rw [hc]; decide)]; rfl
        rw [e]
        refine Ev_eq (Ev_bin (Ev_tuple (ys := [.str t.f]) (EvL_cons (Ev_at0 (Ev_name' (Tm.v_eq t) rfl rfl) rfl) EvL_nil) rfl (by simp)) (Ev_type b_tuple (Bu_tuple (xs := (normL ops t.ks).map Tm.v) rfl (by rw [List.length_map, nl, sizeLine_eq]; (exact Nat.le_trans (by assumption) (by decide)))) (EvL_cons (Ev_name lookup_cons_eq rfl) EvL_nil) rfl) (Bin_add_tup (by rw [List.length_map, nl, sizeLine_eq]; simp; (exact Nat.le_trans (Nat.add_le_add_left (by assumption) _) (by decide))))) ?_
        rw [Tm.v, vL_eq]; rfl
end
end Mine
namespace Mine

theorem Rp.cx {C C' : Cx} (hb : C.bag = C'.bag) (hw : C.w = C'.w) {h : Heap} {v x} (r : Rp C h v x) : Rp C' h v x :=
  Rp.rec (motive_1 := fun v x _ => Rp C' h v x) (motive_2 := fun v x _ => RpL C' h v x) (motive_3 := fun v x _ => RpD C' h v x) .none .bool .int .str (fun a _ b => .tup a b) (fun a _ b => .lst a b) (fun a _ b => .dct a b) (fun a _ b => .self (hb ▸ a) b) .nil (fun _ _ a b => .cons a b) .nil (fun e _ _ _ a b c => .cons (hw ▸ e) a b c) r
theorem RpL.cx {C C' : Cx} (hb : C.bag = C'.bag) (hw : C.w = C'.w) {h : Heap} {v x} (r : RpL C h v x) : RpL C' h v x :=
  RpL.rec (motive_1 := fun v x _ => Rp C' h v x) (motive_2 := fun v x _ => RpL C' h v x) (motive_3 := fun v x _ => RpD C' h v x) .none .bool .int .str (fun a _ b => .tup a b) (fun a _ b => .lst a b) (fun a _ b => .dct a b) (fun a _ b => .self (hb ▸ a) b) .nil (fun _ _ a b => .cons a b) .nil (fun e _ _ _ a b c => .cons (hw ▸ e) a b c) r
theorem FnSpec_own {C C' : Cx} (hb : C.bag = C'.bag) (hw : C.w = C'.w) (hp : C.prog = C'.prog) (hT : C'.T = Option.none) (hB : C.Base = C'.Base) {n : Nat} {f : Value} {xs : List V} {τ : Option Nat} (h : FnSpec C' n f [.lst xs] Option.none .none Option.none) : FnSpec C n f [.oL xs] τ .none τ := by
  intro A R M s vs G r
  obtain ⟨v, rfl, r0⟩ := repL_one r
  obtain ⟨a, ws, e0, aM, aT, l, q⟩ := r0
  subst e0
  let M' := M.filter fun b => b != a
  have nM : a ∉ M' := fun m => by simp [M'] at m
  have less : ∀ b ∈ M', b ∈ M := fun b m => (List.mem_filter.mp m).1
  have G' : Gs C' M' Option.none s := {
    base := hB ▸ C.mono _ _ G.base (hid_less less)
    low := fun b m => G.low b (less b m)
    mT := fun b e => by rw [hT] at e; cases e
    tray := trivial }
  have r' : RepL C' s.heap M' [.ref a] [.lst xs] := ⟨.lst (l.at fun o e => hid_get e nM) ((q.up (hid_less less)).cx hb hw), trivial⟩
  rw [hp, hw]
  refine wpAny_mono (h A R M' s [.ref a] G' r') (fun v' s' zz => and3 zz fun _ r2 k => ?_) fun _ _ x => x
  have e := rep_none r2
  subst e
  obtain ⟨h', tk, e, k⟩ := k
  have K : Keeps s s' := ⟨h', tk, e, fun b o e => k b o (by rw [hT]; exact fun q => nomatch q) e⟩
  exact ⟨G.keeps K, .none, .of K⟩

noncomputable def foldO {α β : Type} (g : β → α → Option β) : List α → β → Option β
  | [], b => some b
  | x :: r, b => match g b x with
    | none => none
    | some b' => foldO g r b'
theorem FRun_opt {α β : Type} {B : V → List (Str × V) → Option Nat → (Out → Prop) → Prop} {τ : Option Nat} {P : Out → Prop} (f : α → V) (g : β → α → Option β) (R : β → List (Str × V) → Prop) (y0 : V) : ∀ {l : List α} {b : β} {σ : List (Str × V)}, R b σ →
    (∀ x ∈ l, ∀ b σ, R b σ → ∀ P' : Out → Prop, (g b x = none → P' (.ret y0 τ)) → (∀ b', g b x = some b' → ∀ σ', R b' σ' → P' (.next σ' τ)) → B (f x) σ τ P') → (foldO g l b = none → P (.ret y0 τ)) → (∀ b', foldO g l b = some b' → ∀ σ', R b' σ' → P (.next σ' τ)) → FRun B (l.map f) σ τ P
  | [], b, σ, h0, step, hn, fin => fin b rfl σ h0
  | x :: r, b, σ, h0, step, hn, fin => step x List.mem_cons_self b σ h0 _ (fun e => hn (by rw [foldO, e])) fun b' e σ' h' => FRun_opt f g R y0 h' (fun y hy => step y (List.mem_cons_of_mem _ hy)) (fun e2 => hn (by rw [foldO, e]; exact e2)) (fun b2 e2 => fin b2 (by rw [foldO, e]; exact e2))

open Classical in
noncomputable def eraseT (t : Tm) : List Tm → List Tm
  | [] => []
  | u :: r => if u = t then r else u :: eraseT t r
open Classical in
noncomputable def without1 (l : List Tm) (t : Tm) : Option (List Tm) := if t ∈ l then some (eraseT t l) else none
noncomputable def withoutT (rest some : List Tm) : Option (List Tm) := foldO without1 some rest
theorem eraseT_v {t : Tm} (ht : t.good = true) : ∀ {l : List Tm}, (∀ u ∈ l, u.good = true) → eraseV t.v (l.map Tm.v) = (eraseT t l).map Tm.v
  | [], _ => rfl
  | u :: r, h => by
    have ih := eraseT_v ht (l := r) fun x hx => h x (List.mem_cons_of_mem _ hx)
    have c := Tm.cmp (h u List.mem_cons_self) ht
    rw [List.map_cons]; unfold eraseV eraseT
    by_cases q : u = t
    · rw [if_pos (c.mpr q), if_pos q]
    · rw [if_neg (fun e => q (c.mp e)), if_neg q, ih]; rfl
theorem eraseT_perm {t : Tm} : ∀ {l : List Tm}, t ∈ l → l.Perm (t :: eraseT t l)
  | u :: r, h => by
    unfold eraseT
    by_cases q : u = t
    · rw [if_pos q, q]
    · rw [if_neg q]
      rcases List.mem_cons.mp h with e | h
      · exact absurd e.symm q
      · exact ((eraseT_perm h).cons u).trans (.swap ..)
theorem eraseT_mem {t u : Tm} : ∀ {l : List Tm}, u ∈ eraseT t l → u ∈ l
  | x :: r, h => by
    unfold eraseT at h
    split at h
    · exact List.mem_cons_of_mem _ h
    · rcases List.mem_cons.mp h with e | h
      · exact e ▸ List.mem_cons_self
      · exact List.mem_cons_of_mem _ (eraseT_mem h)
theorem eraseT_len {t : Tm} : ∀ {l : List Tm}, (eraseT t l).length ≤ l.length
  | [] => Nat.le_refl _
  | x :: r => by
    unfold eraseT
    split
    · simp
    · have := eraseT_len (t := t) (l := r); simp only [List.length_cons]; (exact Nat.lt_succ_of_le (by assumption))
theorem mem_any {t : Tm} (ht : t.good = true) : ∀ {l : List Tm}, (∀ u ∈ l, u.good = true) → (((pyL (l.map Tm.v)).any fun y => PyData.eqv y t.v.py) = true ↔ t ∈ l) := by
  intro l
  induction l with
  | nil => intro _; simp [pyL]
  | cons u r ih =>
    intro h
    have c := Tm.eqv (h u List.mem_cons_self) ht
    have := ih fun x hx => h x (List.mem_cons_of_mem _ hx)
    simp only [List.map_cons, pyL, List.any_cons, Bool.or_eq_true, this, c, List.mem_cons]
    constructor
    · rintro (e | e)
      · exact .inl e.symm
      · exact .inr e
    · rintro (e | e)
      · exact .inl e.symm
      · exact .inr e
theorem srtL_v {l : List Tm} (h : ∀ u ∈ l, u.good = true) : srtL (l.map Tm.v) = true := srtL_map fun u hu => Tm.srt (h u hu)
theorem fine_seq {l : List Tm} (h : ∀ u ∈ l, u.good = true) : (V.tup (l.map Tm.v)).fine = true := srt_fine (by simp [V.srt, srtL_v h])
theorem fine_lst {l : List Tm} (h : ∀ u ∈ l, u.good = true) : (V.lst (l.map Tm.v)).fine = true := by
  have a := srtL_plain (srtL_v h)
  have b := srtL_lay (srtL_v h)
  unfold V.fine
  have e1 : (V.lst (l.map Tm.v)).plain = plainL (l.map Tm.v) := rfl
  have e2 : (V.lst (l.map Tm.v)).py.canLay0 = PyData.canLayAll0 (pyL (l.map Tm.v)) := by simp [V.py, PyData.canLay0]
  rw [e1, e2, a, b]; rfl
noncomputable def optV : Option (List Tm) → V
  | none => .none
  | some l => .tup (l.map Tm.v)

section
variable {w : World} {mg mb : Str → Option Value} {T : Option Addr} {cells : List V} {n : Nat} {ops : List Str}
theorem spec_without {rest some : List Tm} (hr : ∀ t ∈ rest, Sm t) (hs : ∀ t ∈ some, Sm t) (lr : rest.length ≤ 400) (τ : Option Nat) : FnSpec (cx2 w mg mb T cells) (n + 1) (.ref 113) [.tup (rest.map Tm.v), .tup (some.map Tm.v)] τ (optV (withoutT rest some)) τ := by
  have D : FnData (cx2 w mg mb T cells) 113 _ _ ["rest", "some"] := fnData_of rfl rfl rfl rfl rfl rfl rfl rfl rfl (bindL2 rfl fun _ _ => rfl) rfl (by decide)
  refine fn_spec D rfl (by simp [own_tup]) fun L cs => ?_
  refine Ex_cons (Ex1_assign_own (ys := rest.map Tm.v) (EvN_list_call b_list (Ev_name rfl rfl) rfl (by rw [List.length_map, sizeLine_eq]; (exact Nat.le_trans (by assumption) (by decide))) rfl) rfl ?_)
  refine Ex_cons (Ex1_for (items := some.map Tm.v) (τ₁ := τ) (IterE.of (Ev_name rfl rfl) IterOf_tup) ?_)
  refine FRun_opt (β := List Tm) Tm.v without1 (R := fun b σ => σ.lookup ("left" : Str) = Option.some (.oL (b.map Tm.v)) ∧ (∀ t ∈ b, Sm t) ∧ b.length ≤ 400) .none ⟨lookup_cons_eq, hr, lr⟩ (fun x hx b σ hR P' hn hP' => ?_) (fun hn => ?_) (fun b' hb σ' hR => ?_)
  · obtain ⟨hl, hg, hlen⟩ := hR
    have xg := (hs x hx).good
    have bg : ∀ u ∈ b, u.good = true := fun u hu => (hg u hu).good
    have xh := (hs x hx).ht
    refine FTurn_name (Ex_cons (Ex1_if (c := !((pyL (b.map Tm.v)).any fun y => PyData.eqv y x.v.py)) (Tst_cmp (Ev_name lookup_cons_eq rfl) (Ev_name (lk hl rfl) rfl) (Cmp_notIn_oL (srt_fine (Tm.srt xg)) (fine_lst bg) (by rw [py_dep (srt_plain (Tm.srt xg)), Tm.dep]; (exact Nat.le_trans (by assumption) (by decide))) rfl)) (fun hc => ?_) (fun hc => ?_)))
    · refine Ex_cons (Ex1_return Ev_none rfl (hn ?_))
      unfold without1
      rw [if_neg]
      intro q
      rw [(mem_any xg bg).mpr q] at hc; cases hc
    · have q : x ∈ b := by
        refine (mem_any xg bg).mp ?_
        cases e : ((pyL (b.map Tm.v)).any fun y => PyData.eqv y x.v.py) with
        | true => rfl
        | false => rw [e] at hc; cases hc
      refine Ex_nil (Ex_cons (Ex1_remove (Ev_name lookup_cons_eq rfl) (lk hl rfl) (fun z hz => ?_) (Tm.srt xg) (fun z hz => ?_) ⟨x.v, List.mem_map.mpr ⟨x, q, rfl⟩, (Tm.cmp xg xg).mpr rfl⟩ (by rw [List.length_map, sizeLine_eq]; (exact Nat.le_trans (by assumption) (by decide))) (Ex_nil (hP' (eraseT x b) (by unfold without1; rw [if_pos q]) _ ⟨?_, fun u hu => hg u (eraseT_mem hu), ?_⟩)) rfl))
      · obtain ⟨u, hu, rfl⟩ := List.mem_map.mp hz; exact Tm.srt (bg u hu)
      · obtain ⟨u, hu, rfl⟩ := List.mem_map.mp hz; rw [Tm.dep]; have := (hg u hu).ht; (exact Nat.le_trans (by assumption) (by decide))
      · rw [lookup_cons_eq, eraseT_v xg bg]
      · have := eraseT_len (t := x) (l := b); (exact Nat.le_trans (by assumption) (Nat.le_trans (by assumption) (by decide)))
  · have e : withoutT rest some = none := hn
    rw [e]
    exact ⟨rfl, rfl⟩
  · have e : withoutT rest some = Option.some b' := hb
    rw [e]
    exact Ex_cons (Ex1_return (Ev_type b_tuple (Bu_tuple (xs := b'.map Tm.v) rfl (by rw [List.length_map, sizeLine_eq]; have := hR.2.2; (exact Nat.le_trans (by assumption) (by decide)))) (EvL_cons (Ev_name hR.1 rfl) EvL_nil) rfl) rfl ⟨rfl, rfl⟩)

theorem spec_want_few' {xs : List V} (hl : xs.length ≤ 4096) (τ : Option Nat) : FnSpec (cx2 w mg mb T cells) (n + 1) (.ref 120) [.lst xs] τ .none τ := by
  have D : FnData (cx2 w mg mb T cells) 120 _ _ ["ways"] := fnData_of rfl rfl rfl rfl rfl rfl rfl rfl rfl (bindL1 rfl fun _ => rfl) rfl (by decide)
  refine fn_spec D rfl (by simp [own_lst]) fun L cs => ?_
  refine Ex_cons (Ex1_if (c := false) (τ₁ := τ) (Tst_cmp (Ev_builtin b_len (Bu_len (xs := xs) rfl (by rw [sizeLine_eq]; (exact Nat.le_trans (by assumption) (by decide)))) (EvL_cons (Ev_name rfl rfl) EvL_nil) rfl) (Ev_glob_int g_MOST rfl) (Cmp_gt_int (decide_eq_false (by lia)))) (fun hc => by cases hc) (fun _ => Ex_nil (Ex_nil ⟨rfl, rfl⟩)))
theorem spec_want_few {xs : List V} (hl : xs.length ≤ 4096) (τ : Option Nat) : FnSpec (cx2 w mg mb T cells) (n + 1) (.ref 120) [.oL xs] τ .none τ :=
  FnSpec_own (C := cx2 w mg mb T cells) (C' := cx2 w mg mb none cells) rfl rfl rfl rfl rfl (spec_want_few' hl _)
end
end Mine
namespace Mine

noncomputable abbrev pp : List Str := ["+"]
theorem okPp : okOps pp = true := by decide +kernel
theorem okPlus : okName "+" = true := by decide +kernel
noncomputable def flat (t : Tm) : Prop := isBag pp t = false ∨ t.f ≠ "+"
theorem kidsT_flat1 {t : Tm} (h : flat t) : kidsT pp "+" t = [t] := by
  obtain ⟨f, ks⟩ := t
  rw [kidsT_if, if_neg]
  rintro ⟨a, b⟩
  rcases h with h | h
  · rw [h] at b; cases b
  · exact h a
theorem kidsL_flats : ∀ {l : List Tm}, (∀ u ∈ l, flat u) → kidsL pp "+" l = l
  | [], _ => rfl
  | t :: r, h => by
    show kidsT pp "+" t ++ kidsL pp "+" r = _
    rw [kidsT_flat1 (h t List.mem_cons_self), kidsL_flats fun u hu => h u (List.mem_cons_of_mem _ hu)]; rfl
theorem isBag_plus {ks : List Tm} : isBag pp (.mk "+" ks) = decide (1 < ks.length) := by
  show ((["+"] : List Str).contains "+" && decide (1 < ks.length)) = _
  rw [show (["+"] : List Str).contains "+" = true by decide, Bool.true_and]
theorem isBag_other {f : Str} {ks : List Tm} (h : f ≠ "+") : isBag pp (.mk f ks) = false := by
  show ((["+"] : List Str).contains f && _) = false
  have : (["+"] : List Str).contains f = false := by
    rw [List.contains_cons, show (f == ("+" : Str)) = false from beq_false_of_ne h]; rfl
  rw [this]; rfl
theorem kidsT_plus {ks : List Tm} (h : 1 < ks.length) (hf : ∀ u ∈ ks, flat u) : kidsT pp "+" (.mk "+" ks) = ks := by
  rw [kidsT_if]
  rw [if_pos ⟨rfl, by rw [isBag_plus]; exact decide_eq_true h⟩, kidsL_flats hf]
noncomputable def sumT (l : List Tm) : Tm := oneOr "+" (ordT l)
theorem madeT_sum {l : List Tm} (h : ∀ u ∈ l, flat u) : madeT pp "+" l = sumT l := by
  show oneOr "+" (ordT (kidsL pp "+" l)) = _; rw [kidsL_flats h]; rfl
theorem sumT_eq (l : List Tm) : (∃ x, l = [x] ∧ sumT l = x) ∨ (l.length ≠ 1 ∧ sumT l = .mk "+" (ordT l)) := by
  by_cases h : l.length = 1
  · obtain ⟨x, rfl⟩ := List.length_eq_one_iff.mp h
    exact .inl ⟨x, rfl, rfl⟩
  · refine .inr ⟨h, ?_⟩
    rcases oneOr_eq "+" (ordT l) with ⟨x, e, _⟩ | ⟨_, e⟩
    · have := congrArg List.length e
      rw [ordT_len] at this
      exact absurd this h
    · exact e
theorem sumT_congr {a b : List Tm} (h : ∀ t ∈ a, t.good = true) (p : a.Perm b) : sumT a = sumT b := by
  exact congrArg (oneOr "+") (ordT_congr h p)
theorem kids_sum {l : List Tm} (h : l ≠ []) (hf : ∀ u ∈ l, flat u) : (kidsT pp "+" (sumT l)).Perm l := by
  rcases sumT_eq l with ⟨x, rfl, e⟩ | ⟨n, e⟩
  · rw [e, kidsT_flat1 (hf x List.mem_cons_self)]
  · rw [e, kidsT_plus ?_ fun u hu => hf u ((ordT_perm l).mem_iff.mp hu)]
    · exact ordT_perm l
    · rw [ordT_len]
      have := List.length_pos_iff.mpr h
      lia

theorem without_perm : ∀ {s l l' : List Tm}, withoutT l s = some l' → l.Perm (s ++ l')
  | [], l, l', h => by cases h; exact .refl _
  | t :: s, l, l', h => by
    unfold withoutT at h
    rw [foldO] at h
    unfold without1 at h
    by_cases q : t ∈ l
    · rw [if_pos q] at h
      exact (eraseT_perm q).trans ((without_perm (s := s) h).cons t)
    · rw [if_neg q] at h; cases h
theorem without_of : ∀ {s l l'' : List Tm}, l.Perm (s ++ l'') → ∃ l', withoutT l s = some l' ∧ l'.Perm l''
  | [], l, l'', h => ⟨l, rfl, h⟩
  | t :: s, l, l'', h => by
    have q : t ∈ l := h.mem_iff.mpr List.mem_cons_self
    have p : (eraseT t l).Perm (s ++ l'') := ((eraseT_perm q).symm.trans h).cons_inv
    obtain ⟨l', e, r⟩ := without_of (s := s) p
    refine ⟨l', ?_, r⟩
    unfold withoutT
    rw [foldO]
    unfold without1
    rw [if_pos q]; exact e
section
variable {α : Type}
open Classical in
noncomputable def addG (m : List α) (t : α) : List α := if t ∈ m then m else m ++ [t]
noncomputable def nubG (l : List α) : List α := l.foldl addG []
theorem addG_in {m : List α} {t : α} (h : t ∈ m) : addG m t = m := if_pos h
theorem addG_new {m : List α} {t : α} (h : t ∉ m) : addG m t = m ++ [t] := if_neg h
theorem addG_mem {m : List α} {t u : α} : u ∈ addG m t ↔ u ∈ m ∨ u = t := by
  by_cases q : t ∈ m
  · rw [addG_in q]; exact ⟨.inl, fun h => h.elim id fun e => e ▸ q⟩
  · rw [addG_new q, List.mem_append, List.mem_singleton]
theorem nubG_snoc (l : List α) (t : α) : nubG (l ++ [t]) = addG (nubG l) t := by unfold nubG; rw [List.foldl_append]; rfl
theorem snoc_ind {p : List α → Prop} (h0 : p []) (h1 : ∀ l t, p l → p (l ++ [t])) : ∀ l : List α, p l := fun l => by
  have : ∀ l : List α, p l.reverse := fun l => by
    induction l with
    | nil => exact h0
    | cons x r ih => rw [List.reverse_cons]; exact h1 _ _ ih
  have := this l.reverse
  rwa [List.reverse_reverse] at this
theorem nubG_mem {u : α} (l : List α) : u ∈ nubG l ↔ u ∈ l := by
  refine snoc_ind (p := fun l => u ∈ nubG l ↔ u ∈ l) Iff.rfl (fun l t ih => ?_) l
  rw [nubG_snoc, addG_mem, ih, List.mem_append, List.mem_singleton]
theorem nubG_nodup (l : List α) : (nubG l).Nodup := by
  refine snoc_ind (p := fun l => (nubG l).Nodup) List.nodup_nil (fun l t ih => ?_) l
  rw [nubG_snoc]
  by_cases q : t ∈ nubG l
  · rw [addG_in q]; exact ih
  · rw [addG_new q]
    exact (List.perm_append_comm (l₁ := [t]) (l₂ := nubG l)).nodup_iff.mp (List.nodup_cons.mpr ⟨q, ih⟩)
theorem nubG_len (l : List α) : (nubG l).length ≤ l.length := by
  refine snoc_ind (p := fun l => (nubG l).length ≤ l.length) (Nat.le_refl _) (fun l t ih => ?_) l
  rw [nubG_snoc, List.length_append]
  by_cases q : t ∈ nubG l
  · rw [addG_in q]; exact Nat.le_succ_of_le ih
  · rw [addG_new q, List.length_append]; exact Nat.succ_le_succ ih
theorem putV_add {f g : α → V} (hf : ∀ x y, f x = f y → x = y) (m : List α) (t : α) : putV (f t) (g t) (m.map fun u => (f u, g u)) = (addG m t).map fun u => (f u, g u) := by
  unfold putV
  have e : f t ∈ (m.map fun u => (f u, g u)).map (·.1) ↔ t ∈ m := by
    rw [List.map_map]
    constructor
    · intro h
      obtain ⟨u, hu, e⟩ := List.mem_map.mp h
      exact hf _ _ e ▸ hu
    · intro h; exact List.mem_map.mpr ⟨t, h, rfl⟩
  by_cases q : t ∈ m
  · rw [if_pos (e.mpr q), addG_in q, List.map_map]
    apply List.map_congr_left
    intro u _
    simp only [Function.comp]
    split
    · rename_i h; rw [hf _ _ h]
    · rfl
  · rw [if_neg (fun h => q (e.mp h)), addG_new q, List.map_append]; rfl
theorem fromPairs_nub {f g : α → V} (hf : ∀ x y, f x = f y → x = y) (l : List α) : fromPairs (l.map fun u => (f u, g u)) = (nubG l).map fun u => (f u, g u) := by
  unfold fromPairs nubG
  have go : ∀ (l m : List α), (l.map fun u => (f u, g u)).foldl (fun m p => putV p.1 p.2 m) (m.map fun u => (f u, g u)) = (l.foldl addG m).map fun u => (f u, g u) := by
    intro l
    induction l with
    | nil => intro m; rfl
    | cons t r ih => intro m; simp only [List.map_cons, List.foldl_cons]; rw [putV_add hf, ih]
  exact go l []
end
theorem flatMap_len {α β : Type} {f : α → List β} {k : Nat} : ∀ {l : List α}, (∀ x ∈ l, (f x).length ≤ k) → (l.flatMap f).length ≤ l.length * k
  | [], _ => by simp
  | x :: r, h => by
    rw [List.flatMap_cons, List.length_append, List.length_cons, Nat.succ_mul, Nat.add_comm]
    exact Nat.add_le_add (flatMap_len fun y hy => h y (List.mem_cons_of_mem _ hy)) (h x List.mem_cons_self)

noncomputable abbrev Tb : Type := List (Str × Tm)
noncomputable def tvs (tb : Tb) : List (Str × V) := tb.map fun p => (p.1, p.2.v)
noncomputable def tbV (tb : Tb) : V := .dct (strD (tvs tb))
open Classical in
noncomputable def bound (tb : Tb) (n : Str) (t : Tm) : Option Tb := match tb.lookup n with
  | none => some (tb ++ [(n, t)])
  | some u => if u = t then some tb else none
theorem bound_new {tb : Tb} {n : Str} {t : Tm} (h : tb.lookup n = none) : bound tb n t = some (tb ++ [(n, t)]) := by unfold bound; rw [h]
theorem bound_same {tb : Tb} {n : Str} {t : Tm} (h : tb.lookup n = some t) : bound tb n t = some tb := by unfold bound; rw [h]; exact if_pos rfl
theorem bound_other {tb : Tb} {n : Str} {t u : Tm} (h : tb.lookup n = some u) (q : u ≠ t) : bound tb n t = none := by unfold bound; rw [h]; exact if_neg q
theorem tvs_lookup (n : Str) : ∀ tb : Tb, (tvs tb).lookup n = (tb.lookup n).map Tm.v
  | [] => rfl
  | (m, t) :: r => by
    show ((m, t.v) :: tvs r).lookup n = _
    rw [List.lookup_cons, List.lookup_cons, tvs_lookup n r]
    split <;> rfl
theorem tvs_keys (tb : Tb) : (tvs tb).map (·.1) = tb.map (·.1) := by unfold tvs; rw [List.map_map]; rfl
theorem lookup_mem {α β : Type} [BEq α] [LawfulBEq α] {n : α} {t : β} : ∀ {l : List (α × β)}, l.lookup n = some t → (n, t) ∈ l
  | (m, u) :: r, h => by
    rw [List.lookup_cons] at h
    split at h
    · rename_i e; cases h; rw [eq_of_beq e]; exact List.mem_cons_self
    · exact List.mem_cons_of_mem _ (lookup_mem h)
theorem lookup_none {α β : Type} [BEq α] [LawfulBEq α] {n : α} : ∀ {l : List (α × β)}, l.lookup n = none ↔ n ∉ l.map (·.1)
  | [] => by simp
  | (m, u) :: r => by
    rw [List.lookup_cons, List.map_cons, List.mem_cons, not_or]
    cases e : (n == m) with
    | true => exact ⟨fun h => by simp at h, fun h => absurd (eq_of_beq e) h.1⟩
    | false => exact ⟨fun h => ⟨ne_of_beq_false e, lookup_none.mp h⟩, fun h => lookup_none.mpr h.2⟩
structure Kt (t : Tm) : Prop where
  sm : Sm t
  ht : t.ht ≤ 5
structure TbOk (tb : Tb) : Prop where
  nd : (tb.map (·.1)).Nodup
  nm : ∀ p ∈ tb, isVarN p.1 = true
  kt : ∀ p ∈ tb, Kt p.2
theorem TbOk.nil : TbOk [] := ⟨List.nodup_nil, fun _ h => (nomatch h), fun _ h => (nomatch h)⟩
theorem TbOk.bound {tb tb' : Tb} {n : Str} {t : Tm} (h : TbOk tb) (hn : isVarN n = true) (ht : Kt t) (e : bound tb n t = some tb') : TbOk tb' := by
  cases q : tb.lookup n with
  | none =>
    rw [bound_new q] at e
    cases e
    refine ⟨?_, fun p hp => ?_, fun p hp => ?_⟩
    · rw [List.map_append]
      refine (List.perm_append_comm (l₁ := [n]) (l₂ := tb.map (·.1))).nodup_iff.mp ?_
      exact List.nodup_cons.mpr ⟨lookup_none.mp q, h.nd⟩
    · rcases List.mem_append.mp hp with hp | hp
      · exact h.nm p hp
      · rw [List.mem_singleton.mp hp]; exact hn
    · rcases List.mem_append.mp hp with hp | hp
      · exact h.kt p hp
      · rw [List.mem_singleton.mp hp]; exact ht
  | some u =>
    by_cases z : u = t
    · rw [bound_same (z ▸ q)] at e; cases e; exact h
    · rw [bound_other q z] at e; cases e
theorem nodup_le {α : Type} : ∀ {l m : List α}, l.Nodup → (∀ x ∈ l, x ∈ m) → l.length ≤ m.length
  | [], _, _, _ => Nat.zero_le _
  | x :: r, m, nd, h => by
    obtain ⟨a, b, rfl⟩ := List.append_of_mem (h x List.mem_cons_self)
    have nd' := List.nodup_cons.mp nd
    have := nodup_le (l := r) (m := a ++ b) nd'.2 fun y hy => by
      have := h y (List.mem_cons_of_mem _ hy)
      rw [List.mem_append, List.mem_cons] at this
      rw [List.mem_append]
      rcases this with z | rfl | z
      · exact .inl z
      · exact absurd hy nd'.1
      · exact .inr z
    rw [List.length_append] at this ⊢
    rw [List.length_cons, List.length_cons]; (exact Nat.lt_succ_of_le (by assumption))
theorem TbOk.len {tb : Tb} (h : TbOk tb) : tb.length ≤ 3 := by
  have := nodup_le (m := varNames) h.nd fun x hx => by
    obtain ⟨p, hp, rfl⟩ := List.mem_map.mp hx
    have := h.nm p hp
    unfold isVarN at this
    simpa using this
  rwa [List.length_map] at this
theorem putS_new {n : Str} {z : V} {tb : Tb} (h : tb.lookup n = none) : putS n z (tvs tb) = tvs tb ++ [(n, z)] := by
  unfold putS
  rw [if_neg]
  intro q
  obtain ⟨p, hp, e⟩ := List.any_eq_true.mp q
  have e := of_decide_eq_true e
  refine lookup_none.mp h ?_
  rw [← tvs_keys, ← e]
  exact List.mem_map.mpr ⟨p, hp, rfl⟩
theorem putS_same {n : Str} {t : Tm} : ∀ {tb : Tb}, (tb.map (·.1)).Nodup → tb.lookup n = some t → putS n t.v (tvs tb) = tvs tb := fun {tb} nd h => by
  unfold putS
  have mem := lookup_mem h
  have mem2 : (n, t.v) ∈ tvs tb := List.mem_map.mpr ⟨(n, t), mem, rfl⟩
  rw [if_pos (List.any_eq_true.mpr ⟨_, mem2, decide_eq_true rfl⟩)]
  unfold tvs
  rw [List.map_map]
  apply List.map_congr_left
  intro p hp
  simp only [Function.comp]
  split
  · rename_i e
    have : p = (n, t) := by
      have key : ∀ {l : Tb}, (l.map (·.1)).Nodup → p ∈ l → (n, t) ∈ l → p = (n, t) := by
        intro l
        induction l with
        | nil => intro _ h; cases h
        | cons x r ih =>
          intro nd h1 h2
          rw [List.map_cons] at nd
          have nd' := List.nodup_cons.mp nd
          rcases List.mem_cons.mp h1 with h1 | h1 <;> rcases List.mem_cons.mp h2 with h2 | h2
          · rw [h1, h2]
          · exact absurd (List.mem_map.mpr ⟨_, h2, by rw [← e, h1]⟩) nd'.1
          · exact absurd (List.mem_map.mpr ⟨p, h1, by rw [e, ← h2]⟩) nd'.1
          · exact ih nd'.2 h1 h2
      exact key nd hp mem
    rw [this]
  · rfl
end Mine
namespace Mine

theorem own_bool {i : Bool} : (V.bool i).own = false := rfl
theorem own_tb {tb : Tb} : (tbV tb).own = false := rfl
theorem Sm.leaf {x : Str} (h : okName x = true) : Sm (.mk x []) := ⟨by show (_ && _) = true; rw [h]; rfl, by simp [Tm.size, sizeL], by simp [Tm.ht, htL]⟩
theorem isV_leaf {x : Str} (h : isVarN x = true) : isV (.mk x []) = true := by show (_ && _) = true; rw [show isVarN (Tm.mk x []).f = true from h]; rfl
theorem varN_ok {x : Str} (h : isVarN x = true) : okName x = true := by
  have hm : x ∈ varNames := by simpa [isVarN] using h
  have all : ∀ x ∈ varNames, okName x = true := by decide +kernel
  exact all x hm
theorem TbOk.ndv {tb : Tb} (h : TbOk tb) : ((tvs tb).map (·.1)).Nodup := tvs_keys tb ▸ h.nd
theorem TbOk.lenv {tb : Tb} (h : TbOk tb) : (tvs tb).length ≤ 3 := by unfold tvs; rw [List.length_map]; exact h.len
noncomputable def getT (tb : Tb) (n : Str) (t : Tm) : Tm := (tb.lookup n).getD t
theorem TbOk.get {tb : Tb} {n : Str} {t : Tm} (h : TbOk tb) (ht : Kt t) : Kt (getT tb n t) := by
  unfold getT
  cases q : tb.lookup n with
  | none => exact ht
  | some u => exact h.kt _ (lookup_mem q)
open Classical in
theorem bound_get {tb : Tb} {n : Str} {t : Tm} (h : TbOk tb) : (bound tb n t).toList.map tbV = if getT tb n t = t then [.dct (strD (putS n t.v (tvs tb)))] else [] := by
  unfold getT
  cases q : tb.lookup n with
  | none =>
    rw [bound_new q, Option.getD_none, if_pos rfl, putS_new q]
    show [tbV _] = _
    unfold tbV tvs; rw [List.map_append]; rfl
  | some u =>
    by_cases z : u = t
    · subst z; rw [bound_same q, Option.getD_some, if_pos rfl, putS_same h.nd q]; rfl
    · rw [bound_other q z, Option.getD_some, if_neg z]; rfl
theorem Kt.dep {t : Tm} (h : Kt t) : t.v.py.depth ≤ 5 := by rw [py_dep (srt_plain (Tm.srt h.sm.good)), Tm.dep]; exact h.ht
noncomputable def fit (tb : Tb) (p t : Tm) : Option Tb := if t.f = p.f ∧ t.ks.length = p.ks.length then (match p.ks, t.ks with
  | [x], [k] => bound tb x.f k
  | _, _ => some tb) else none
structure Solid (p : Tm) : Prop where
  sm : Sm p
  nv : isV p = false
  ns : p.f ≠ "+"
  ks : p.ks = [] ∨ ∃ x, p.ks = [.mk x []] ∧ isVarN x = true

section
variable {w : World} {mg mb : Str → Option Value} {T : Option Addr} {cells : List V} {n : Nat}
theorem spec_ext_var {tb : Tb} {x : Str} {t : Tm} (hx : isVarN x = true) (ok : TbOk tb) (ht : Kt t) (τ : Option Nat) :
    FnSpec (cx2 w mg mb T cells) (n + 2) (.ref 182) [.self (opsV pp), tbV tb, (Tm.mk x []).v, t.v] τ (.lst ((bound tb x t).toList.map tbV)) τ := by
  have D : FnData (cx2 w mg mb T cells) 182 _ _ ["self", "table", "pattern", "t"] := fnData_of rfl rfl rfl rfl rfl rfl rfl rfl rfl (bindL4 rfl fun _ _ _ _ => rfl) rfl (by decide)
  refine fn_spec D rfl (by simp [own_self, own_tb, Tm.own]) fun L cs => ?_
  have sx := Sm.leaf (varN_ok hx)
  have nd := ok.ndv
  have len := ok.lenv
  have e0 : (Tm.mk x []).v = .tup (.str x :: []) := rfl
  have ku := ok.get (n := x) ht
  refine Ex_cons (Ex1_if (c := true) (τ₁ := τ) (Tst_val (Ev_call g_is_variable (isFun_of rfl) (isV_leaf hx ▸ (spec_is_variable (n := n) sx)) (EvL_cons (Ev_name rfl rfl) EvL_nil) rfl)) (fun _ => ?_) (fun h => by cases h))
  refine Ex_cons (Ex1_assign_dict b_dict (Ev_name rfl rfl) nd (by (exact Nat.le_trans (by assumption) (by decide))) rfl rfl ?_)
  refine Ex_cons (Ex1_setitem_str (k := x) (z := t.v) (τ₁ := τ) (τ₂ := τ) (Ev_name (lk rfl rfl) rfl) (Ev_at0 (Ev_name' e0 (lk rfl rfl) rfl) rfl) lookup_cons_eq (Tm.pure _) nd (by (exact Nat.le_trans (by assumption) (by decide))) ?_ rfl)
  refine Ex_freezeD lookup_cons_eq rfl ?_
  have eg : ((tvs tb).lookup x).getD t.v = (getT tb x t).v := by
    rw [tvs_lookup]; unfold getT
    cases tb.lookup x <;> rfl
  refine Ex_cons (Ex1_return (Ev_ifexp (c := PyData.eqv (getT tb x t).v.py t.v.py) (τ₁ := τ) (Tst_cmp (eg ▸ Ev_meth PySem.F.slot_dict_get PySem.F.type_dict_get PySem.F.plainAttrs_dict dct_type (Bu_dget (k := x) (z := t.v) nd) (EvL_cons (Ev_at0 (Ev_name' e0 (lk (lk (lk rfl rfl) rfl) rfl) rfl) rfl) (EvL_cons (Ev_name (lk (lk (lk rfl rfl) rfl) rfl) rfl) EvL_nil)) (lk (lk (lk rfl rfl) rfl) rfl) rfl) (Ev_name (lk (lk (lk rfl rfl) rfl) rfl) rfl)
    (Cmp_eq (srt_fine (Tm.srt ku.sm.good)) (srt_fine (Tm.srt ht.sm.good)) (by have := ku.dep; lia) rfl)) (fun hc => ?_) (fun hc => ?_)) rfl ⟨rfl, rfl⟩)
  · rw [bound_get ok, if_pos ((Tm.eqv ku.sm.good ht.sm.good).mp hc)]
    exact EvN.ev (EvN_list (EvL_cons (Ev_name lookup_cons_eq rfl) EvL_nil) rfl (by simp))
  · rw [bound_get ok, if_neg (fun q => by rw [(Tm.eqv ku.sm.good ht.sm.good).mpr q] at hc; cases hc)]
    exact EvN.ev (EvN_list EvL_nil rfl (by simp))

theorem fit_no {tb : Tb} {p t : Tm} (h : ¬ (t.f = p.f ∧ t.ks.length = p.ks.length)) : fit tb p t = none := if_neg h
theorem fit_one {tb : Tb} {p t k : Tm} {x : Str} (h1 : t.f = p.f) (hp : p.ks = [.mk x []]) (ht : t.ks = [k]) : fit tb p t = bound tb x k := by
  unfold fit; rw [hp, ht]; rw [if_pos ⟨h1, rfl⟩]; rfl
theorem fit_nil {tb : Tb} {p t : Tm} (h1 : t.f = p.f) (hp : p.ks = []) (ht : t.ks = []) : fit tb p t = some tb := by
  unfold fit; rw [hp, ht]; rw [if_pos ⟨h1, rfl⟩]
theorem optL_len {α β : Type} {o : Option α} {f : α → β} : (o.toList.map f).length ≤ 1 := by cases o <;> simp
theorem spec_ext_flat {tb : Tb} {p t : Tm} (sp : Solid p) (ok : TbOk tb) (ht : Kt t) (τ : Option Nat) :
    FnSpec (cx2 w mg mb T cells) (n + 5) (.ref 182) [.self (opsV pp), tbV tb, p.v, t.v] τ (.lst ((fit tb p t).toList.map tbV)) τ := by
  have D : FnData (cx2 w mg mb T cells) 182 _ _ ["self", "table", "pattern", "t"] := fnData_of rfl rfl rfl rfl rfl rfl rfl rfl rfl (bindL4 rfl fun _ _ _ _ => rfl) rfl (by decide)
  refine fn_spec D rfl (by simp [own_self, own_tb, Tm.own]) fun L cs => ?_
  have hp := sp.sm
  have gp := Tm.good_f hp.good
  have gt := Tm.good_f ht.sm.good
  have lp := hp.len
  have lt := ht.sm.len
  have hb : isBag pp p = false := by rw [← Tm.eta p]; exact isBag_other sp.ns
  refine Ex_cons (Ex1_if (c := false) (τ₁ := τ) (Tst_val (Ev_call g_is_variable (isFun_of rfl) (sp.nv ▸ (spec_is_variable (n := n + 3) hp)) (EvL_cons (Ev_name rfl rfl) EvL_nil) rfl)) (fun h => by cases h) (fun _ => Ex_nil ?_))
  refine Ex_cons (Ex1_if (c := false) (τ₁ := τ) (Tst_val (Ev_method m_is_bag (hb ▸ (spec_is_bag (n := n + 3) okPp hp)) (EvL_cons (Ev_name rfl rfl) EvL_nil) rfl rfl)) (fun h => by cases h) (fun _ => Ex_nil ?_))
  refine Ex_cons (Ex1_if (c := ((!(p.f == t.f) || !PyData.eqv (V.int ((p.ks.length + 1 : Nat) : Int)).py (V.int ((t.ks.length + 1 : Nat) : Int)).py) || isBag pp t)) (τ₁ := τ) (Tst_or3 (Tst_cmp (Ev_at0 (Ev_name' (Tm.v_eq p) rfl rfl) rfl) (Ev_at0 (Ev_name' (Tm.v_eq t) rfl rfl) rfl) (Cmp_ne (okName_fine gp) (okName_fine gt) (by simp [V.py, PyData.depth]) rfl))
    (fun _ => Tst_cmp (Ev_builtin b_len (Bu_len_tm (by (exact Nat.le_trans (by assumption) (by decide)))) (EvL_cons (Ev_name rfl rfl) EvL_nil) rfl) (Ev_builtin b_len (Bu_len_tm (by (exact Nat.le_trans (by assumption) (by decide)))) (EvL_cons (Ev_name rfl rfl) EvL_nil) rfl) (Cmp_ne rfl rfl (by simp [V.py, PyData.depth]) rfl))
    (fun _ _ => Tst_val (Ev_method m_is_bag (spec_is_bag (n := n + 3) okPp ht.sm) (EvL_cons (Ev_name rfl rfl) EvL_nil) rfl rfl))) (fun hc => ?_) (fun hc => Ex_nil ?_))
  · rw [fit_no]
    · exact Ex_cons (Ex1_return (EvN.ev (EvN_list EvL_nil rfl (by simp))) rfl ⟨rfl, rfl⟩)
    · rintro ⟨h1, h2⟩
      have h3 : isBag pp t = false := by rw [← Tm.eta t]; exact isBag_other (h1 ▸ sp.ns)
      rw [eqv_len, h1, h2, h3] at hc
      simp at hc
  · rw [eqv_len] at hc
    have h1 : t.f = p.f := by
      by_cases q : p.f = t.f
      · exact q.symm
      · simp [q] at hc
    have h2 : t.ks.length = p.ks.length := by
      by_cases q : p.ks.length = t.ks.length
      · exact q.symm
      · simp [q] at hc
    refine Ex_cons (Ex1_assign_own (ys := [tbV tb]) (EvN_list (EvL_cons (Ev_name rfl rfl) EvL_nil) rfl (by simp)) rfl ?_)
    refine Ex_freeze lookup_cons_eq rfl ?_
    refine Ex_cons (Ex1_for (items := zipV (vL p.ks) (vL t.ks)) (τ₁ := τ) (IterE_zip b_zip (EvL_cons (Ev_tup1 (x := .str p.f) (xs := vL p.ks) (Ev_name' (Tm.v_eq p) rfl rfl) (by rw [vL_length, sizeLine_eq]; (exact Nat.le_trans (Nat.add_le_add_right (by assumption) _) (by decide)))) (EvL_cons (Ev_tup1 (x := .str t.f) (xs := vL t.ks) (Ev_name' (Tm.v_eq t) rfl rfl) (by rw [vL_length, sizeLine_eq]; (exact Nat.le_trans (Nat.add_le_add_right (by assumption) _) (by decide)))) EvL_nil)) (.inr rfl) (.inr rfl) (by rw [vL_length, vL_length, h2]) rfl) ?_)
    rcases sp.ks with e | ⟨x, e, hx⟩
    · have e2 : t.ks = [] := List.eq_nil_of_length_eq_zero (by rw [h2, e]; rfl)
      rw [fit_nil h1 e e2, e, e2]
      exact Ex_cons (Ex1_return (Ev_name lookup_cons_eq rfl) rfl ⟨rfl, rfl⟩)
    · obtain ⟨k, e2⟩ : ∃ k, t.ks = [k] := List.length_eq_one_iff.mp (by rw [h2, e]; rfl)
      have hk : Kt k := ⟨ht.sm.kid (by rw [e2]; exact List.mem_cons_self), ht_kids ht.ht k (by rw [e2]; exact List.mem_cons_self)⟩
      rw [fit_one h1 e e2, e, e2]
      show FTurn _ _ _ _ _ _ _ _ _
      refine FTurn_pair (Ex_cons (Ex1_swap_new (Ev_name (lk (lk lookup_cons_eq rfl) rfl) rfl) rfl rfl rfl ?_))
      refine Ex_cons (Ex1_for (items := [tbV tb]) (τ₁ := τ) (IterE.of (Ev_name lookup_cons_eq rfl) IterOf_lst) ?_)
      have l1 := optL_len (o := bound tb x k) (f := tbV)
      refine FTurn_name (Ex_cons (Ex1_extend (xs := []) (τ₁ := τ) (ys := (bound tb x k).toList.map tbV) (Ev_method m_extended ((spec_ext_var (n := n + 2) hx ok hk τ)) (EvL_cons (Ev_name lookup_cons_eq rfl) (EvL_cons (Ev_name (by (repeat refine lk ?_ rfl); exact lookup_cons_eq) rfl) (EvL_cons (Ev_name (by (repeat refine lk ?_ rfl); exact lookup_cons_eq) rfl) EvL_nil))) (by (repeat refine lk ?_ rfl); rfl) rfl) rfl ?_ ?_ rfl))
      · rw [sizeLine_eq, List.length_nil, Nat.zero_add]; exact Nat.le_trans l1 (by decide)
      · refine Ex_cons (Ex1_expr (Ev_call g_want_few (isFun_of rfl) ((spec_want_few (n := n + 3) (xs := [] ++ (bound tb x k).toList.map tbV) (Nat.le_trans l1 (by decide)) τ)) (EvL_cons (Ev_name lookup_cons_eq rfl) EvL_nil) rfl) (Ex_nil ?_))
        refine Ex_nil ?_
        refine Ex_freeze lookup_cons_eq rfl ?_
        exact Ex_cons (Ex1_return (Ev_name lookup_cons_eq rfl) rfl ⟨rfl, rfl⟩)
end
end Mine
namespace Mine

open Classical in
noncomputable def cntT (u : Tm) (l : List Tm) : Nat := l.countP fun x => decide (x = u)
noncomputable def sbStep (rest : List Tm) (rows : List (List Tm)) (u : Tm) : List (List Tm) := rows.flatMap fun row => (List.range (cntT u rest + 1)).map fun k => row ++ List.replicate k u
open Classical in
noncomputable def subB (rest : List Tm) : List (List Tm) := ((nubG rest).foldl (sbStep rest) [[]]).filter fun r => decide (r ≠ [])
theorem cntT_le (u : Tm) (l : List Tm) : cntT u l ≤ l.length := List.countP_le_length
open Classical in
theorem cnt_v {u : Tm} {l : List Tm} (hu : u.good = true) (h : ∀ x ∈ l, x.good = true) : (l.map Tm.v).countP (fun z => cmpV z u.v == .eq) = cntT u l := by
  unfold cntT
  rw [List.countP_map]
  apply List.countP_congr
  intro x hx
  rw [decide_eq_true_iff]
  exact Tm.cmp (h x hx) hu
noncomputable def tupV (l : List Tm) : V := .tup (l.map Tm.v)
theorem sbStep_len (rest : List Tm) (rows : List (List Tm)) (u : Tm) : (sbStep rest rows u).length = rows.length * (cntT u rest + 1) := by
  unfold sbStep
  induction rows with
  | nil => simp
  | cons x r ih => rw [List.flatMap_cons, List.length_append, ih, List.length_map, List.length_range, List.length_cons, Nat.succ_mul, Nat.add_comm]
theorem cnt_sum : ∀ {us : List Tm} {l : List Tm}, us.Nodup → (us.map fun u => cntT u l).sum ≤ l.length := by
  intro us
  classical
  induction us with
  | nil => intro l _; simp
  | cons u r ih =>
    intro l nd
    have nd' := List.nodup_cons.mp nd
    have h1 := ih (l := l.filter fun x => decide (x ≠ u)) nd'.2
    have h2 : (r.map fun v => cntT v (l.filter fun x => decide (x ≠ u))) = r.map fun v => cntT v l := by
      apply List.map_congr_left
      intro v hv
      unfold cntT
      rw [List.countP_filter]
      apply List.countP_congr
      intro x _
      have : v ≠ u := fun e => nd'.1 (e ▸ hv)
      by_cases q : x = v
      · subst q; simp [this]
      · simp [q]
    have h3 : cntT u l + (l.filter fun x => decide (x ≠ u)).length = l.length := by
      unfold cntT
      rw [← List.countP_eq_length_filter]
      have := List.length_eq_countP_add_countP (fun x => decide (x = u)) (l := l)
      rw [this]
      congr 1
      apply List.countP_congr
      intro x _
      simp
    rw [h2] at h1
    rw [List.map_cons, List.sum_cons]; lia
theorem sb_len (rest : List Tm) : ∀ (us : List Tm) (rows : List (List Tm)), (us.foldl (sbStep rest) rows).length ≤ rows.length * 2 ^ (us.map fun u => cntT u rest).sum
  | [], rows => by simp
  | u :: r, rows => by
    rw [List.foldl_cons, List.map_cons, List.sum_cons, Nat.pow_add, ← Nat.mul_assoc]
    refine Nat.le_trans (sb_len rest r _) (Nat.mul_le_mul_right _ ?_)
    rw [sbStep_len]
    exact Nat.mul_le_mul_left _ Nat.lt_two_pow_self
theorem sb_bound {rest : List Tm} (hl : rest.length ≤ 12) (i : Nat) : (((nubG rest).take i).foldl (sbStep rest) [[]]).length ≤ 4096 := by
  have a := sb_len rest ((nubG rest).take i) [[]]
  have b := cnt_sum (l := rest) ((nubG_nodup rest).sublist (List.take_sublist i _))
  refine Nat.le_trans a ?_
  rw [List.length_singleton, Nat.one_mul]
  exact Nat.pow_le_pow_right (n := 2) (by decide) (Nat.le_trans b hl)
theorem sb_rows {rest : List Tm} : ∀ (us : List Tm) {rows : List (List Tm)} {k : Nat}, (∀ r ∈ rows, r.length ≤ k) → ∀ r ∈ us.foldl (sbStep rest) rows, r.length ≤ k + us.length * rest.length
  | [], rows, k, h, r, hr => by simpa using h r hr
  | u :: s, rows, k, h, r, hr => by
    have := sb_rows s (k := k + rest.length) (fun x hx => by
      obtain ⟨y, hy, hx⟩ := List.mem_flatMap.mp hx
      obtain ⟨j, hj, rfl⟩ := List.mem_map.mp hx
      have h1 := h y hy
      have h2 := cntT_le u rest
      have h3 := List.mem_range.mp hj
      rw [List.length_append, List.length_replicate]; lia) r hr
    rw [List.length_cons, Nat.succ_mul]; lia

theorem Ex1_comp2 {C : Cx} {n : Nat} {env : Env} {σ σ' : List (Str × V)} {τ τ₁ τ₂ : Option Nat} {x : Str} {p pos pos2 : Pos} {elt t iter t' iter' : PySem.Expr} {ifs' : List PySem.Expr} {scope : Scope} {tt : Bool} {items ys : List V} {P : Out → Prop}
    (hit : IterE C n iter env σ τ tt items τ₁) (fl : Filt scope σ σ')
    (ht : Turns (CTurn C n elt [⟨t, iter, [], 0⟩, ⟨t', iter', ifs', 0⟩] scope pos2 0 t [] env σ') items τ₁ ys τ₂) (hl : ys.length ≤ sizeLine) (h : P (.next ((x, .oL ys) :: σ) τ₂))
    (hx : ownVar env x = true := by rfl) (ok : compOk scope env = true := by rfl) (kd : scope.kind = .function := by rfl) (htk : tgtOk tt t = true := by rfl)
    (hf : ∀ x, foldedSetIterable iter env x = pure x := by intro _; rfl)
    (hs : swapsWith (.ListComp elt [⟨t, iter, [], 0⟩, ⟨t', iter', ifs', 0⟩] scope pos2) (some (.Name x p)) pos.line env = pure true := by rfl) : Ex1 C n (.Assign [.Name x p] (.ListComp elt [⟨t, iter, [], 0⟩, ⟨t', iter', ifs', 0⟩] scope pos2) pos) env σ τ P :=
  Ex1_assign_comp hit fl ht hl hx h ok kd htk (Nat.zero_le _) (fun g' h => by simp at h; subst h; rfl) hf hs

theorem sb_elems {rest : List Tm} {P : Tm → Prop} : ∀ (us : List Tm) {rows : List (List Tm)}, (∀ u ∈ us, P u) → (∀ r ∈ rows, ∀ x ∈ r, P x) → ∀ r ∈ us.foldl (sbStep rest) rows, ∀ x ∈ r, P x
  | [], rows, _, h => h
  | u :: s, rows, hu, h => sb_elems s (fun v hv => hu v (List.mem_cons_of_mem _ hv)) fun r hr x hx => by
    obtain ⟨y, hy, hr⟩ := List.mem_flatMap.mp hr
    obtain ⟨j, hj, rfl⟩ := List.mem_map.mp hr
    rcases List.mem_append.mp hx with hx | hx
    · exact h y hy x hx
    · rw [List.eq_of_mem_replicate hx]; exact hu u List.mem_cons_self
theorem eqv_nil (xs : List V) : PyData.eqv (V.tup xs).py (V.tup []).py = xs.isEmpty := by cases xs <;> simp [V.py, pyL, PyData.eqv, PyData.eqvAll]
theorem dep_nil (x : PyData) : min x.depth (V.tup []).py.depth ≤ 300 := Nat.le_trans (Nat.min_le_right _ _) (by simp [V.py, pyL, PyData.depth, PyData.depthAll])
theorem filter_flat {α β : Type} {p : α → Bool} {f : α → β} : ∀ l : List α, (l.filter p).map f = l.flatMap fun x => if p x then [f x] else []
  | [] => rfl
  | x :: r => by
    rw [List.flatMap_cons, ← filter_flat r, List.filter_cons]
    cases p x <;> rfl

section
variable {w : World} {mg mb : Str → Option Value} {T : Option Addr} {cells : List V} {n : Nat}
theorem spec_sub_bags {rest : List Tm} (h : ∀ u ∈ rest, Sm u ∧ u.ht ≤ 5) (hl : rest.length ≤ 12) (τ : Option Nat) :
    FnSpec (cx2 w mg mb T cells) (n + 1) (.ref 125) [tupV rest] τ (.lst ((subB rest).map tupV)) τ := by
  have D : FnData (cx2 w mg mb T cells) 125 _ _ ["rest"] := fnData_of rfl rfl rfl rfl rfl rfl rfl rfl rfl (bindL1 rfl fun _ => rfl) rfl (by decide)
  refine fn_spec D rfl (by simp [tupV, own_tup]) fun L cs => ?_
  have nl := nubG_len rest
  have ed : BuSpec (cx2 w mg mb T cells) n (.type "dict") [.lst (rest.map fun u => pairV (u.v, V.bool true))] (.dct ((nubG rest).map fun u => (u.v, V.bool true))) := by
    have := Bu_dict_pairs (C := cx2 w mg mb T cells) (n := n) (kzs := rest.map fun u => (u.v, V.bool true)) (fun p hp => by obtain ⟨u, hu, rfl⟩ := List.mem_map.mp hp; exact Tm.keyOk (h u hu).1.good (by have := (h u hu).2; (exact Nat.le_trans (by assumption) (by decide)))) (by rw [List.length_map, sizeLine_eq]; (exact Nat.le_trans (by assumption) (by decide)))
    rw [fromPairs_nub (f := Tm.v) (g := fun _ => V.bool true) (fun x y => Tm.v_inj), List.map_map] at this
    exact this
  refine Ex_cons (Ex1_assign (y := .lst [tupV []]) (EvN.ev (EvN_list (EvL_cons (Ev_tuple EvL_nil) EvL_nil) rfl (by simp))) rfl rfl ?_)
  refine Ex_cons (Ex1_for (items := (nubG rest).map Tm.v) (τ₁ := τ) (IterE.of (x := .lst ((nubG rest).map Tm.v))
    (Ev_eq (Ev_type b_list (Bu_list_dct (by rw [List.length_map, sizeLine_eq]; (exact Nat.le_trans (by assumption) (Nat.le_trans (by assumption) (by decide))))) (EvL_cons (Ev_type b_dict ed (EvL_cons (EvN.ev (EvN_comp1 (τ₁ := τ) (items := rest.map Tm.v) (σ' := []) (IterE.of (Ev_name rfl rfl) IterOf_tup) Filt.nil
      (Turns.over fun u hu => CTurn_name (CAct_emit (fun L cs => Ev_tuple (ys := [u.v, .bool true]) (EvL_cons (Ev_name rfl rfl) (EvL_cons Ev_bool EvL_nil)) (by simp [pure_bool, Tm.pure]) (by simp)) rfl rfl)) (by rw [List.length_map, sizeLine_eq]; (exact Nat.le_trans (by assumption) (by decide))))) EvL_nil) rfl) EvL_nil) rfl) (by rw [List.map_map]; rfl)) IterOf_lst) ?_)
  let st : Nat → List (List Tm) := fun i => ((nubG rest).take i).foldl (sbStep rest) [[]]
  have sr : ∀ i, ∀ r ∈ st i, r.length ≤ 144 := fun i r hr => by
    have a := sb_rows (rest := rest) ((nubG rest).take i) (rows := [[]]) (k := 0) (fun r hr => by rw [List.mem_singleton.mp hr]; exact Nat.zero_le _) r hr
    have b : ((nubG rest).take i).length ≤ 12 := by rw [List.length_take]; lia
    have c := Nat.mul_le_mul b hl
    lia
  refine FRun_ind (I := fun i σ => σ.lookup ("rows" : Str) = some (V.lst ((st i).map tupV)) ∧ σ.lookup ("rest" : Str) = some (tupV rest)) ⟨rfl, rfl⟩ (fun i y σ hy hI P' hP' => ?_) (fun σ' hI => ?_)
  · obtain ⟨i1, i2⟩ := hI
    rw [List.getElem?_map] at hy
    obtain ⟨u, hu, rfl⟩ := Option.map_eq_some_iff.mp hy
    have um := (nubG_mem rest).mp (List.mem_of_getElem? hu)
    have hs := h u um
    have est : st (i + 1) = sbStep rest (st i) u := by
      show ((nubG rest).take (i + 1)).foldl _ _ = _
      rw [List.take_add_one, hu, List.foldl_append]; rfl
    have bi := sb_bound hl i
    have bs := sb_bound hl (i + 1)
    have cl := cntT_le u rest
    have hc : BuSpec (cx2 w mg mb T cells) n (.builtin "tuple.count") [tupV rest, u.v] (.int ((cntT u rest : Nat) : Int)) := by
      rw [← cnt_v hs.1.good fun x hx => (h x hx).1.good]
      refine Bu_count (fun z hz => ?_) (Tm.srt hs.1.good)
      obtain ⟨x, hx, rfl⟩ := List.mem_map.mp hz
      exact ⟨Tm.srt (h x hx).1.good, Tm.key x, by rw [Tm.dep]; have := (h x hx).2; (exact Nat.le_trans (by assumption) (by decide))⟩
    have ll : ((st (i + 1)).map tupV).length ≤ sizeLine := by rw [List.length_map, sizeLine_eq]; (exact Nat.le_trans (by assumption) (by decide))
    refine FTurn_name (Ex_cons (Ex1_comp2 (ys := (st (i + 1)).map tupV) (items := (st i).map tupV) (τ₁ := τ) (τ₂ := τ) (σ' := [("t", u.v), ("rest", tupV rest)])
      (IterE.of (Ev_name (lk i1 rfl) rfl) IterOf_lst) (Filt.add (Filt.add Filt.nil rfl (lk i2 rfl) rfl) rfl lookup_cons_eq (Tm.own _)) ?_ ll ?_))
    · rw [est]
      unfold sbStep
      rw [List.map_flatMap]
      refine Turns.flat fun row hr => CTurn_name (CAct_nest1 (τ₁ := τ) (items := upto (cntT u rest + 1)) (fun L cs => IterE_range b_range (Ev_eq (Ev_bin (Ev_meth PySem.F.slot_tuple_count PySem.F.type_tuple_count PySem.F.plainAttrs_tuple tup_type hc (EvL_cons (Ev_name rfl rfl) EvL_nil) rfl rfl) Ev_int Bin_add_int) rfl) rfl (by rw [sizeLine_eq]; lia)) ?_)
      rw [List.map_map]
      refine Turns.over fun k hk => CTurn_name (CAct_emit (fun L cs => ?_) rfl rfl)
      have := List.mem_range.mp hk
      have := sr i row hr
      refine Ev_eq (Ev_bin (Ev_name rfl rfl) (Ev_bin (Ev_tuple (ys := [u.v]) (EvL_cons (Ev_name rfl rfl) EvL_nil) (by simp [Tm.pure]) (by simp)) (Ev_name rfl rfl) (Bin_mul_tup1 (k := k) (by lia))) (Bin_add_tup (by rw [List.length_map, List.length_replicate, sizeLine_eq]; lia))) ?_
      show _ = tupV _
      unfold tupV; rw [List.map_append, List.map_replicate]
    · refine Ex_freeze lookup_cons_eq rfl ?_
      refine Ex_cons (Ex1_if (c := false) (τ₁ := τ) (Tst_cmp (Ev_builtin b_len (Bu_len (x := .lst ((st (i + 1)).map tupV)) rfl ll) (EvL_cons (Ev_name lookup_cons_eq rfl) EvL_nil) rfl) (Ev_glob_int g_MOST rfl) (Cmp_gt_int (decide_eq_false (by rw [List.length_map]; lia)))) (fun hc => by cases hc) (fun _ => Ex_nil (Ex_nil ?_)))
      exact hP' _ ⟨lookup_cons_eq, by (repeat refine lk ?_ rfl); exact i2⟩
  · obtain ⟨i1, _⟩ := hI
    rw [List.length_map] at i1
    have e : st (nubG rest).length = (nubG rest).foldl (sbStep rest) [[]] := by show ((nubG rest).take _).foldl _ _ = _; rw [List.take_length]
    have bl := sb_bound hl (nubG rest).length
    rw [List.take_length] at bl
    rw [e] at i1
    refine Ex_cons (Ex1_return (EvN.ev (EvN_comp1 (τ₁ := τ) (items := ((nubG rest).foldl (sbStep rest) [[]]).map tupV) (σ' := []) (IterE.of (Ev_name i1 rfl) IterOf_lst) Filt.nil ?_ ?_)) rfl ⟨rfl, rfl⟩)
    · show Turns _ _ _ ((((nubG rest).foldl (sbStep rest) [[]]).filter _).map tupV) _
      rw [filter_flat]
      refine Turns.flat fun row hr => CTurn_name (CAct_if (b := decide (row ≠ [])) (τ₁ := τ) (y := tupV row) (fun L cs => Tst_cmp (Ev_name rfl rfl) (Ev_tuple EvL_nil) (Cmp_ne (fine_seq (sb_elems (P := fun u => u.good = true) _ (fun u hu => (h u ((nubG_mem rest).mp hu)).1.good) (fun r hr x hx => by rw [List.mem_singleton.mp hr] at hx; cases hx) row hr)) rfl (dep_nil _) ?_))
        (fun hb => ⟨fun L cs => Ev_name rfl rfl, rfl, by rw [hb]; rfl⟩) (fun hb => ⟨rfl, by rw [hb]; rfl⟩) rfl)
      show (!PyData.eqv (V.tup (row.map Tm.v)).py (V.tup []).py) = _
      rw [eqv_nil]
      cases row <;> rfl
    · rw [List.length_map, sizeLine_eq]
      have := List.length_filter_le (fun r => decide (r ≠ [])) ((nubG rest).foldl (sbStep rest) [[]])
      unfold subB
      (exact Nat.le_trans (by assumption) (Nat.le_trans (by assumption) (by decide)))
end
end Mine
namespace Mine

structure Lf (l : List Tm) : Prop where
  sm : ∀ u ∈ l, Sm u
  ht : ∀ u ∈ l, u.ht ≤ 4
  fl : ∀ u ∈ l, flat u
  sz : sizeL l < 59
theorem Lf.sub {l s l' : List Tm} (h : Lf l) (p : l.Perm (s ++ l')) : Lf s ∧ Lf l' := by
  have e := sizeL_perm p
  rw [sizeL_app] at e
  have m : ∀ u, u ∈ s ∨ u ∈ l' → u ∈ l := fun u hu => p.mem_iff.mpr (List.mem_append.mpr hu)
  have := h.sz
  exact ⟨⟨fun u hu => h.sm u (m u (.inl hu)), fun u hu => h.ht u (m u (.inl hu)), fun u hu => h.fl u (m u (.inl hu)), by lia⟩,
    ⟨fun u hu => h.sm u (m u (.inr hu)), fun u hu => h.ht u (m u (.inr hu)), fun u hu => h.fl u (m u (.inr hu)), by lia⟩⟩
theorem Lf.len {l : List Tm} (h : Lf l) : l.length < 59 := Nat.lt_of_le_of_lt (len_le_sizeL l) h.sz
theorem Lf.kt {l : List Tm} (h : Lf l) : Kt (madeT pp "+" l) := by
  have a := madeT_size pp "+" l
  have b := madeT_ht pp "+" l
  have c := htL_le h.ht
  have d := h.sz
  exact ⟨⟨madeT_good okPlus fun t ht => (h.sm t ht).good, by (exact Nat.le_trans (by assumption) (Nat.le_trans (by assumption) (by decide))), by lia⟩, by lia⟩
noncomputable def Slot (p : Tm) : Prop := (∃ x, p = .mk x [] ∧ isVarN x = true) ∨ Solid p
theorem Slot.sm {p : Tm} (h : Slot p) : Sm p := by
  rcases h with ⟨x, rfl, hx⟩ | h
  · exact Sm.leaf (varN_ok hx)
  · exact h.sm
noncomputable def extT (tb : Tb) (p t : Tm) : Option Tb := if isV p = true then bound tb p.f t else fit tb p t
theorem extT_ok {tb tb' : Tb} {p t : Tm} (hp : Slot p) (ok : TbOk tb) (ht : Kt t) (e : extT tb p t = some tb') : TbOk tb' := by
  unfold extT at e
  rcases hp with ⟨x, rfl, hx⟩ | h
  · rw [if_pos (isV_leaf hx)] at e
    exact ok.bound hx ht e
  · rw [if_neg (by rw [h.nv]; decide)] at e
    by_cases c : t.f = p.f ∧ t.ks.length = p.ks.length
    · rcases h.ks with z | ⟨y, z, hy⟩
      · rw [fit_nil c.1 z (List.eq_nil_of_length_eq_zero (by rw [c.2, z]; rfl))] at e; cases e; exact ok
      · obtain ⟨k, e2⟩ := List.length_eq_one_iff.mp (show t.ks.length = 1 by rw [c.2, z]; rfl)
        rw [fit_one c.1 z e2] at e
        exact ok.bound hy ⟨ht.sm.kid (by rw [e2]; exact List.mem_cons_self), ht_kids ht.ht k (by rw [e2]; exact List.mem_cons_self)⟩ e
    · rw [fit_no c] at e; cases e
open Classical in
noncomputable def lotsT (tb : Tb) (p : Tm) (left : List Tm) (last : Bool) : List (List Tm) :=
  if isV p = true then (match tb.lookup p.f with
    | some u => [kidsT pp "+" u]
    | none => if last = true then (if left = [] then [] else [left]) else subB left)
  else (nubG left).map fun u => [u]
noncomputable def takG (tb : Tb) (p : Tm) (left lot : List Tm) : List (Tb × List Tm) := match withoutT left lot with
  | none => []
  | some l => (extT tb p (madeT pp "+" lot)).toList.map fun b => (b, l)
noncomputable def takT (tb : Tb) (p : Tm) (left : List Tm) (last : Bool) : List (Tb × List Tm) := (lotsT tb p left last).flatMap (takG tb p left)
noncomputable def rwV (r : Tb × List Tm) : V := .tup [tbV r.1, tupV r.2]
theorem takG_len (tb : Tb) (p : Tm) (left lot : List Tm) : (takG tb p left lot).length ≤ 1 := by
  unfold takG
  split
  · exact Nat.zero_le _
  · exact optL_len
theorem lots_var {tb : Tb} {x : Str} {u : Tm} {left : List Tm} {b : Bool} (hx : isVarN x = true) (h : tb.lookup x = some u) : lotsT tb (.mk x []) left b = [kidsT pp "+" u] := by
  unfold lotsT; rw [if_pos (isV_leaf hx)]
  have e : tb.lookup (Tm.mk x []).f = some u := h
  rw [e]
theorem lots_last {tb : Tb} {x : Str} {left : List Tm} (hx : isVarN x = true) (h : tb.lookup x = none) (hl : left ≠ []) : lotsT tb (.mk x []) left true = [left] := by
  unfold lotsT; rw [if_pos (isV_leaf hx)]
  have e : tb.lookup (Tm.mk x []).f = none := h
  rw [e]
  exact (if_pos rfl).trans (if_neg hl)
theorem lots_last0 {tb : Tb} {x : Str} (hx : isVarN x = true) (h : tb.lookup x = none) : lotsT tb (.mk x []) [] true = [] := by
  unfold lotsT; rw [if_pos (isV_leaf hx)]
  have e : tb.lookup (Tm.mk x []).f = none := h
  rw [e]
  exact (if_pos rfl).trans (if_pos rfl)
theorem lots_free {tb : Tb} {x : Str} {left : List Tm} (hx : isVarN x = true) (h : tb.lookup x = none) : lotsT tb (.mk x []) left false = subB left := by
  unfold lotsT; rw [if_pos (isV_leaf hx)]
  have e : tb.lookup (Tm.mk x []).f = none := h
  rw [e]
  exact if_neg Bool.false_ne_true
theorem lots_solid {tb : Tb} {p : Tm} {left : List Tm} {b : Bool} (h : isV p = false) : lotsT tb p left b = (nubG left).map fun u => [u] := by
  unfold lotsT; rw [if_neg (by rw [h]; decide)]
theorem subB_len {l : List Tm} (h : l.length ≤ 12) : (subB l).length ≤ 4096 := by
  have := sb_bound h (nubG l).length
  rw [List.take_length] at this
  exact Nat.le_trans (List.length_filter_le _ _) this

section
variable {w : World} {mg mb : Str → Option Value} {T : Option Addr} {cells : List V} {n : Nat}
theorem spec_ext {tb : Tb} {p t : Tm} (hp : Slot p) (ok : TbOk tb) (ht : Kt t) (τ : Option Nat) :
    FnSpec (cx2 w mg mb T cells) (n + 5) (.ref 182) [.self (opsV pp), tbV tb, p.v, t.v] τ (.lst ((extT tb p t).toList.map tbV)) τ := by
  unfold extT
  rcases hp with ⟨x, rfl, hx⟩ | h
  · rw [if_pos (isV_leaf hx)]; exact spec_ext_var (n := n + 3) hx ok ht τ
  · rw [if_neg (by rw [h.nv]; decide)]; exact spec_ext_flat h ok ht τ
theorem spec_taken {tb : Tb} {p : Tm} {left : List Tm} {last : Bool} (hp : Slot p) (ok : TbOk tb) (hl : Lf left) (h12 : isV p = true → tb.lookup p.f = none → last = false → left.length ≤ 12) (τ : Option Nat) :
    FnSpec (cx2 w mg mb T cells) (n + 60) (.ref 192) [.self (opsV pp), tbV tb, .str "+", p.v, tupV left, .bool last] τ (.lst ((takT tb p left last).map rwV)) τ := by
  have D : FnData (cx2 w mg mb T cells) 192 _ _ ["self", "table", "op", "pattern", "rest", "is_last"] := fnData_of rfl rfl rfl rfl rfl rfl rfl rfl rfl (bindL6 rfl fun _ _ _ _ _ _ => rfl) rfl (by decide)
  refine fn_spec D rfl (by simp [own_self, own_tb, own_str, own_tup, own_bool, tupV, Tm.own]) fun L cs => ?_
  have ln := hl.len
  have nl := nubG_len left
  have gl : ∀ u ∈ left, u.good = true := fun u hu => (hl.sm u hu).good
  refine Ex_cons (Ex1.weaken (P := fun o => ∃ σ, o = .next σ τ ∧ (lotsT tb p left last).length ≤ 4096 ∧ (∀ lot ∈ lotsT tb p left last, ∀ t ∈ lot, Sm t) ∧ σ.lookup ("lots" : Str) = some (.lst ((lotsT tb p left last).map tupV)) ∧ σ.lookup ("self" : Str) = some (.self (opsV pp)) ∧ σ.lookup ("rest" : Str) = some (tupV left) ∧ σ.lookup ("table" : Str) = some (tbV tb) ∧ σ.lookup ("pattern" : Str) = some p.v ∧ σ.lookup ("op" : Str) = some (.str "+")) ?_ (fun o ho => ?_))
  · rcases hp with ⟨x, rfl, hx⟩ | hs
    · have sx := Sm.leaf (varN_ok hx)
      have e0 : (Tm.mk x []).v = .tup (.str x :: []) := rfl
      refine Ex1_if (c := false) (τ₁ := τ) (Tst_not (b := true) (Tst_val (Ev_call g_is_variable (isFun_of rfl) (isV_leaf hx ▸ (spec_is_variable (n := n + 58) sx)) (EvL_cons (Ev_name rfl rfl) EvL_nil) rfl))) (fun h => by cases h) (fun _ => ?_)
      cases q : tb.lookup x with
      | some u =>
        have ku := ok.kt _ (lookup_mem q)
        have eu : (tvs tb).lookup x = some u.v := by rw [tvs_lookup, q]; rfl
        refine Ex_cons (Ex1_if (c := true) (τ₁ := τ) (Tst_cmp (Ev_at0 (Ev_name' e0 rfl rfl) rfl) (Ev_name rfl rfl) (Cmp_in_dct ok.ndv (by rw [eu]; rfl))) (fun _ => ?_) (fun h => by cases h))
        refine Ex_cons (Ex1_assign (τ₁ := τ) (y := .lst [tupV (kidsT pp "+" u)]) (EvN.ev (EvN_list (EvL_cons (Ev_method m_kids ((spec_kids (n := 0) okPp okPlus u.ht u (Nat.le_refl _) ku.sm τ).le (by have := ku.ht; lia)) (EvL_cons (Ev_name rfl rfl) (EvL_cons (Ev_getitem_str (Ev_name rfl rfl) (Ev_at0 (Ev_name' e0 rfl rfl) rfl) ok.ndv eu) EvL_nil)) rfl rfl) EvL_nil) rfl (by simp))) rfl rfl (Ex_nil (Ex_nil ?_)))
        rw [lots_var hx q]
        exact ⟨_, rfl, by simp, fun lot hl t ht => by rw [List.mem_singleton.mp hl] at ht; exact kidsT_sm ku.sm t ht, rfl, rfl, rfl, rfl, rfl, rfl⟩
      | none =>
        have eu : (tvs tb).lookup x = none := by rw [tvs_lookup, q]; rfl
        refine Ex_cons (Ex1_if (c := false) (τ₁ := τ) (Tst_cmp (Ev_at0 (Ev_name' e0 rfl rfl) rfl) (Ev_name rfl rfl) (Cmp_in_dct ok.ndv (by rw [eu]; rfl))) (fun h => by cases h) (fun _ => ?_))
        refine Ex_cons (Ex1_if (c := last) (τ₁ := τ) (Tst_val (Ev_name rfl rfl)) (fun hc => ?_) (fun hc => ?_))
        · subst hc
          refine Ex_cons (Ex1_assign (τ₁ := τ) (y := .lst ((lotsT tb (.mk x []) left true).map tupV)) (Ev_ifexp (c := !PyData.eqv (tupV left).py (V.tup []).py) (τ₁ := τ) (Tst_cmp (Ev_name rfl rfl) (Ev_tuple EvL_nil) (Cmp_ne (fine_seq gl) rfl (dep_nil _) rfl)) (fun hc => ?_) (fun hc => ?_)) rfl rfl (Ex_nil (Ex_nil (Ex_nil ?_))))
          · have ne : left ≠ [] := fun e => by subst e; cases hc
            rw [lots_last hx q ne]
            exact EvN.ev (EvN_list (EvL_cons (Ev_name rfl rfl) EvL_nil) rfl (by simp))
          · have ne : left = [] := by
              cases left with
              | nil => rfl
              | cons a r =>
                rw [show PyData.eqv (tupV (a :: r)).py (V.tup []).py = false from eqv_nil ((a :: r).map Tm.v)] at hc
                cases hc
            subst ne
            rw [lots_last0 hx q]
            exact EvN.ev (EvN_list EvL_nil rfl (by simp))
          · refine ⟨_, rfl, ?_, ?_, rfl, rfl, rfl, rfl, rfl, rfl⟩
            · by_cases e : left = []
              · subst e; rw [lots_last0 hx q]; simp
              · rw [lots_last hx q e]; simp
            · intro lot hl' t ht
              by_cases e : left = []
              · subst e; rw [lots_last0 hx q] at hl'; cases hl'
              · rw [lots_last hx q e] at hl'; rw [List.mem_singleton.mp hl'] at ht; exact hl.sm t ht
        · subst hc
          have l12 := h12 (isV_leaf hx) q rfl
          refine Ex_cons (Ex1_assign (τ₁ := τ) (y := .lst ((subB left).map tupV)) (Ev_call g_sub_bags (isFun_of rfl) (spec_sub_bags (n := n + 58) (fun u hu => ⟨hl.sm u hu, Nat.le_succ_of_le (hl.ht u hu)⟩) l12 τ) (EvL_cons (Ev_name rfl rfl) EvL_nil) rfl) rfl rfl (Ex_nil (Ex_nil (Ex_nil ?_))))
          rw [lots_free hx q]
          refine ⟨_, rfl, subB_len l12, fun lot hl' t ht => ?_, rfl, rfl, rfl, rfl, rfl, rfl⟩
          exact sb_elems (P := Sm) _ (fun u hu => hl.sm u ((nubG_mem left).mp hu)) (fun r hr x hx => by rw [List.mem_singleton.mp hr] at hx; cases hx) lot (List.mem_filter.mp hl').1 t ht
    · have ed : BuSpec (cx2 w mg mb T cells) (n + 59) (.type "dict") [.lst (left.map fun u => pairV (u.v, V.bool true))] (.dct ((nubG left).map fun u => (u.v, V.bool true))) := by
        have := Bu_dict_pairs (C := cx2 w mg mb T cells) (n := n + 59) (kzs := left.map fun u => (u.v, V.bool true)) (fun p hp => by obtain ⟨u, hu, rfl⟩ := List.mem_map.mp hp; exact Tm.keyOk (gl u hu) (by have := hl.ht u hu; (exact Nat.le_trans (by assumption) (by decide)))) (by rw [List.length_map, sizeLine_eq]; (exact Nat.le_of_lt (Nat.lt_of_lt_of_le (by assumption) (by decide))))
        rw [fromPairs_nub (f := Tm.v) (g := fun _ => V.bool true) (fun x y => Tm.v_inj), List.map_map] at this
        exact this
      refine Ex1_if (c := true) (τ₁ := τ) (Tst_not (b := false) (Tst_val (Ev_call g_is_variable (isFun_of rfl) (hs.nv ▸ (spec_is_variable (n := n + 58) hs.sm)) (EvL_cons (Ev_name rfl rfl) EvL_nil) rfl))) (fun _ => ?_) (fun h => by cases h)
      refine Ex_cons (Ex1_comp1 (τ₁ := τ) (τ₂ := τ) (items := (nubG left).map Tm.v) (ys := ((nubG left).map fun u => [u]).map tupV) (σ' := []) (IterE.of (x := .lst ((nubG left).map Tm.v))
        (Ev_eq (Ev_type b_list (Bu_list_dct (by rw [List.length_map, sizeLine_eq]; (exact Nat.le_trans (by assumption) (Nat.le_trans (Nat.le_of_lt (by assumption)) (by decide))))) (EvL_cons (Ev_type b_dict ed (EvL_cons (EvN.ev (EvN_comp1 (τ₁ := τ) (items := left.map Tm.v) (σ' := []) (IterE.of (Ev_name rfl rfl) IterOf_tup) Filt.nil
          (Turns.over fun u hu => CTurn_name (CAct_emit (fun L cs => Ev_tuple (ys := [u.v, .bool true]) (EvL_cons (Ev_name rfl rfl) (EvL_cons Ev_bool EvL_nil)) (by simp [pure_bool, Tm.pure]) (by simp)) rfl rfl)) (by rw [List.length_map, sizeLine_eq]; (exact Nat.le_of_lt (Nat.lt_of_lt_of_le (by assumption) (by decide)))))) EvL_nil) rfl) EvL_nil) rfl) (by rw [List.map_map]; rfl)) IterOf_lst) Filt.nil ?_ (by rw [List.length_map, List.length_map, sizeLine_eq]; (exact Nat.le_trans (by assumption) (Nat.le_trans (Nat.le_of_lt (by assumption)) (by decide)))) ?_)
      · rw [List.map_map]
        exact Turns.over fun u hu => CTurn_name (CAct_emit (fun L cs => Ev_tuple (ys := [u.v]) (EvL_cons (Ev_name rfl rfl) EvL_nil) (by simp [Tm.pure]) (by simp)) rfl rfl)
      · refine Ex_freeze lookup_cons_eq rfl (Ex_nil ?_)
        rw [lots_solid hs.nv]
        refine ⟨_, rfl, by rw [List.length_map]; (exact Nat.le_trans (by assumption) (Nat.le_trans (Nat.le_of_lt (by assumption)) (by decide))), fun lot hl' t ht => ?_, rfl, rfl, rfl, rfl, rfl, rfl⟩
        obtain ⟨u, hu, rfl⟩ := List.mem_map.mp hl'
        rw [List.mem_singleton.mp ht]
        exact hl.sm u ((nubG_mem left).mp hu)
  · obtain ⟨σ, rfl, len, lsm, i1, i2, i3, i4, i5, i6⟩ := ho
    show Ex _ _ _ _ _ _ _
    unfold takT
    generalize lotsT tb p left last = lots at *
    refine Ex_cons (Ex1_assign_own (ys := []) (EvN_list EvL_nil rfl (by simp)) rfl ?_)
    refine Ex_cons (Ex1_for (items := lots.map tupV) (τ₁ := τ) (IterE.of (Ev_name (lk i1 rfl) rfl) IterOf_lst) ?_)
    have gl1 := takG_len tb p left
    refine FRun_ind (I := fun i σ => σ.lookup ("found" : Str) = some (V.oL (((lots.take i).flatMap (takG tb p left)).map rwV)) ∧ σ.lookup ("self" : Str) = some (.self (opsV pp)) ∧ σ.lookup ("rest" : Str) = some (tupV left) ∧ σ.lookup ("table" : Str) = some (tbV tb) ∧ σ.lookup ("pattern" : Str) = some p.v ∧ σ.lookup ("op" : Str) = some (.str "+")) ⟨rfl, lk i2 rfl, lk i3 rfl, lk i4 rfl, lk i5 rfl, lk i6 rfl⟩ (fun i y σ hy hI P' hP' => ?_) (fun σ' hI => ?_)
    · obtain ⟨j1, j2, j3, j4, j5, j6⟩ := hI
      rw [List.getElem?_map] at hy
      obtain ⟨lot, hu, rfl⟩ := Option.map_eq_some_iff.mp hy
      have sml := lsm lot (List.mem_of_getElem? hu)
      have fi : (lots.take (i + 1)).flatMap (takG tb p left) = (lots.take i).flatMap (takG tb p left) ++ takG tb p left lot := by
        rw [List.take_add_one, hu, List.flatMap_append]; simp
      refine FTurn_name (Ex_cons (Ex1_assign (τ₁ := τ) (y := optV (withoutT left lot)) (Ev_call g_without (isFun_of rfl) ((spec_without (n := 0) (some := lot) hl.sm sml (by (exact Nat.le_of_lt (Nat.lt_of_lt_of_le (by assumption) (by decide)))) τ).le (by (exact Nat.le_add_left _ _))) (EvL_cons (Ev_name (lk j3 rfl) rfl) (EvL_cons (Ev_name lookup_cons_eq rfl) EvL_nil)) rfl) (by cases withoutT left lot <;> rfl) rfl ?_))
      cases ew : withoutT left lot with
      | none =>
        have e0 : takG tb p left lot = [] := by unfold takG; rw [ew]
        rw [e0, List.append_nil] at fi
        refine Ex_cons (Ex1_if (c := false) (τ₁ := τ) (Tst_cmp (Ev_name lookup_cons_eq rfl) Ev_none (Cmp_isNot_none rfl rfl)) (fun h => by cases h) (fun _ => Ex_nil (Ex_nil (hP' _ ?_))))
        rw [fi]
        exact ⟨lk (lk j1 rfl) rfl, lk (lk j2 rfl) rfl, lk (lk j3 rfl) rfl, lk (lk j4 rfl) rfl, lk (lk j5 rfl) rfl, lk (lk j6 rfl) rfl⟩
      | some l =>
        have sub := hl.sub (without_perm ew)
        have kt := sub.1.kt
        have e0 : takG tb p left lot = (extT tb p (madeT pp "+" lot)).toList.map fun b => (b, l) := by unfold takG; rw [ew]
        have l1 := optL_len (o := extT tb p (madeT pp "+" lot)) (f := tbV)
        refine Ex_cons (Ex1_if (c := true) (τ₁ := τ) (Tst_cmp (Ev_name lookup_cons_eq rfl) Ev_none (Cmp_isNot_none rfl rfl)) (fun _ => ?_) (fun h => by cases h))
        refine Ex_cons (Ex1_extend (τ₁ := τ) (ys := (takG tb p left lot).map rwV) (EvN.ev (EvN_comp1 (items := (extT tb p (madeT pp "+" lot)).toList.map tbV) (τ₁ := τ) (σ' := [("left", tupV l)])
          (IterE.of (Ev_method m_extended ((spec_ext (n := 0) hp ok kt τ).le (by (exact Nat.le_add_left _ _))) (EvL_cons (Ev_name (lk (lk j4 rfl) rfl) rfl) (EvL_cons (Ev_name (lk (lk j5 rfl) rfl) rfl) (EvL_cons (Ev_method m_made ((spec_made (n := 0) okPp okPlus sml (by have := sub.1.sz; (exact Nat.le_trans (by assumption) (by decide))) (x := tupV lot) (.inr rfl) τ).le (by (exact Nat.le_add_left _ _))) (EvL_cons (Ev_name (lk (lk j6 rfl) rfl) rfl) (EvL_cons (Ev_name (lk lookup_cons_eq rfl) rfl) EvL_nil)) (lk (lk j2 rfl) rfl) rfl) EvL_nil))) (lk (lk j2 rfl) rfl) rfl) IterOf_lst)
          (Filt.add Filt.nil rfl lookup_cons_eq rfl) ?_ (by have := gl1 lot; rw [List.length_map, sizeLine_eq]; (exact Nat.le_trans (by assumption) (by decide))))) (lk (lk j1 rfl) rfl) ?_ (Ex_nil (Ex_nil (hP' _ ⟨?_, lk (lk (lk j2 rfl) rfl) rfl, lk (lk (lk j3 rfl) rfl) rfl, lk (lk (lk j4 rfl) rfl) rfl, lk (lk (lk j5 rfl) rfl) rfl, lk (lk (lk j6 rfl) rfl) rfl⟩))) rfl)
        · rw [e0, List.map_map]
          exact Turns.over fun b hb => CTurn_name (CAct_emit (fun L cs => Ev_tuple (ys := [tbV b, tupV l]) (EvL_cons (Ev_name rfl rfl) (EvL_cons (Ev_name rfl rfl) EvL_nil)) rfl (by simp)) rfl rfl)
        · have a := flatMap_len (f := takG tb p left) (k := 1) (l := lots.take i) fun x _ => gl1 x
          have b := gl1 lot
          have c : (lots.take i).length ≤ 4096 := by rw [List.length_take]; lia
          rw [List.length_map, List.length_map, sizeLine_eq]; lia
        · rw [lookup_cons_eq, fi, List.map_append]
    · obtain ⟨i1, _⟩ := hI
      rw [List.length_map, List.take_length] at i1
      exact Ex_freeze i1 rfl (Ex_cons (Ex1_return (Ev_name lookup_cons_eq rfl) rfl ⟨rfl, rfl⟩))
end
end Mine
namespace Mine

noncomputable def rowOf (slots : List Tm) : List Tm := (slots.filter fun p => !isV p) ++ slots.filter fun p => isV p
noncomputable def shN (qs : List Tm) (r0 : Tb × List Tm) : Nat → List (Tb × List Tm)
  | 0 => [r0]
  | i + 1 => (shN qs r0 i).flatMap fun r => takT r.1 (qs.getD i default) r.2 (decide (i + 1 = qs.length))
open Classical in
noncomputable def tabsT (qs : List Tm) (r0 : Tb × List Tm) : List Tb := ((shN qs r0 qs.length).filter fun r => decide (r.2 = [])).map (·.1)
theorem takG_mem {tb : Tb} {p : Tm} {left lot : List Tm} {r : Tb × List Tm} : r ∈ takG tb p left lot ↔ withoutT left lot = some r.2 ∧ extT tb p (madeT pp "+" lot) = some r.1 := by
  unfold takG
  obtain ⟨b, l⟩ := r
  cases withoutT left lot with
  | none => simp
  | some l' =>
    simp only [List.mem_map, Option.mem_toList, Option.some.injEq, Prod.mk.injEq]
    constructor
    · rintro ⟨a, h1, h2, h3⟩; exact ⟨h3, h2 ▸ h1⟩
    · rintro ⟨h1, h2⟩; exact ⟨b, h2, rfl, h1⟩
theorem takT_inv {tb : Tb} {p : Tm} {left : List Tm} {b : Bool} (hp : Slot p) (ok : TbOk tb) (hl : Lf left) : ∀ r ∈ takT tb p left b, TbOk r.1 ∧ ∃ s, left.Perm (s ++ r.2) := fun r hr => by
  obtain ⟨lot, _, hr⟩ := List.mem_flatMap.mp hr
  obtain ⟨h1, h2⟩ := takG_mem.mp hr
  have sub := without_perm h1
  exact ⟨extT_ok hp ok (hl.sub sub).1.kt h2, lot, sub⟩
theorem shN_inv {qs : List Tm} {tb : Tb} {rest : List Tm} (hq : ∀ p ∈ qs, Slot p) (ok : TbOk tb) (hl : Lf rest) : ∀ i, i ≤ qs.length → ∀ r ∈ shN qs (tb, rest) i, TbOk r.1 ∧ ∃ s, rest.Perm (s ++ r.2)
  | 0, _, r, hr => by rw [List.mem_singleton.mp hr]; exact ⟨ok, [], .refl _⟩
  | i + 1, hi, r, hr => by
    obtain ⟨r', hr', hr⟩ := List.mem_flatMap.mp hr
    obtain ⟨a, s, b⟩ := shN_inv hq ok hl i (Nat.le_of_succ_le hi) r' hr'
    have e : qs.getD i default = qs[i] := by rw [List.getD_eq_getElem?_getD, List.getElem?_eq_getElem hi]; rfl
    rw [e] at hr
    obtain ⟨c, s', d⟩ := takT_inv (hq _ (List.getElem_mem hi)) a (hl.sub b).2 r hr
    exact ⟨c, s ++ s', b.trans (by rw [List.append_assoc]; exact d.append_left s)⟩
theorem flat_take {α β : Type} {f : α → List β} : ∀ (l : List α) (i : Nat), ((l.take i).flatMap f).length ≤ (l.flatMap f).length
  | [], i => by simp
  | x :: r, 0 => by simp
  | x :: r, i + 1 => by
    rw [List.take_succ_cons, List.flatMap_cons, List.flatMap_cons, List.length_append, List.length_append]
    exact Nat.add_le_add_left (flat_take r i) _

section
variable {w : World} {mg mb : Str → Option Value} {T : Option Addr} {cells : List V} {n : Nat}
theorem spec_shared_out {slots : List Tm} {tb : Tb} {rest : List Tm} (hs : ∀ p ∈ slots, Slot p) (ls : slots.length ≤ 59) (ok : TbOk tb) (hl : Lf rest)
    (hb : ∀ i, i ≤ (rowOf slots).length → (shN (rowOf slots) (tb, rest) i).length ≤ 4096) (h12 : ∀ i p, (rowOf slots)[i]? = some p → isV p = true → i + 1 < (rowOf slots).length → rest.length ≤ 12) (τ : Option Nat) :
    FnSpec (cx2 w mg mb T cells) (n + 61) (.ref 187) [.self (opsV pp), tbV tb, .str "+", tupV slots, tupV rest] τ (.lst ((tabsT (rowOf slots) (tb, rest)).map tbV)) τ := by
  have D : FnData (cx2 w mg mb T cells) 187 _ _ ["self", "table", "op", "some", "rest"] := fnData_of rfl rfl rfl rfl rfl rfl rfl rfl rfl (bindL5 rfl fun _ _ _ _ _ => rfl) rfl (by decide)
  refine fn_spec D rfl (by simp [own_self, own_tb, own_str, own_tup, tupV]) fun L cs => ?_
  have hq : ∀ p ∈ rowOf slots, Slot p := fun p hp => by
    unfold rowOf at hp
    rcases List.mem_append.mp hp with hp | hp <;> exact hs p (List.mem_filter.mp hp).1
  have lq : (rowOf slots).length ≤ 118 := by
    unfold rowOf
    rw [List.length_append]
    have a := List.length_filter_le (fun p => !isV p) slots
    have b := List.length_filter_le (fun p => isV p) slots
    lia
  have lq' : ((rowOf slots).map Tm.v).length ≤ sizeLine := by rw [List.length_map, sizeLine_eq]; (exact Nat.le_trans (by assumption) (by decide))
  have fz : ∀ g : Tm → Bool, ((slots.filter g).map Tm.v).length ≤ sizeLine := fun g => by
    have := List.length_filter_le g slots
    rw [List.length_map, sizeLine_eq]; (exact Nat.le_trans (by assumption) (Nat.le_trans (by assumption) (by decide)))
  refine Ex_cons (Ex1_assign_own (ys := [rwV (tb, rest)]) (EvN_list (EvL_cons (Ev_tuple (ys := [tbV tb, tupV rest]) (EvL_cons (Ev_name rfl rfl) (EvL_cons (Ev_name rfl rfl) EvL_nil)) rfl (by simp)) EvL_nil) rfl (by simp)) rfl ?_)
  refine Ex_cons (Ex1_assign (τ₁ := τ) (y := .lst ((rowOf slots).map Tm.v)) (Ev_eq (Ev_bin (EvN.ev (EvN_comp1 (τ₁ := τ) (items := slots.map Tm.v) (ys := (slots.filter fun p => !isV p).map Tm.v) (σ' := []) (IterE.of (Ev_name rfl rfl) IterOf_tup) Filt.nil ?_ (fz _)))
    (EvN.ev (EvN_comp1 (τ₁ := τ) (items := slots.map Tm.v) (ys := (slots.filter fun p => isV p).map Tm.v) (σ' := []) (IterE.of (Ev_name rfl rfl) IterOf_tup) Filt.nil ?_ (fz _))) (Bin_add_lst ?_)) (by unfold rowOf; rw [List.map_append])) rfl rfl ?_)
  · rw [filter_flat]
    exact Turns.flat fun q hqq => CTurn_name (CAct_if (b := !isV q) (τ₁ := τ) (y := q.v) (fun L cs => Tst_not (Tst_val (Ev_call g_is_variable (isFun_of rfl) (spec_is_variable (n := n + 59) (hs q hqq).sm) (EvL_cons (Ev_name rfl rfl) EvL_nil) rfl))) (fun h => ⟨fun L cs => Ev_name rfl rfl, Tm.pure _, by rw [h]; rfl⟩) (fun h => ⟨rfl, by rw [h]; rfl⟩) rfl)
  · rw [filter_flat]
    exact Turns.flat fun q hqq => CTurn_name (CAct_if (b := isV q) (τ₁ := τ) (y := q.v) (fun L cs => Tst_val (Ev_call g_is_variable (isFun_of rfl) (spec_is_variable (n := n + 59) (hs q hqq).sm) (EvL_cons (Ev_name rfl rfl) EvL_nil) rfl)) (fun h => ⟨fun L cs => Ev_name rfl rfl, Tm.pure _, by rw [h]; rfl⟩) (fun h => ⟨rfl, by rw [h]; rfl⟩) rfl)
  · rw [← List.length_append, ← List.map_append]; exact lq'
  refine Ex_freeze (lk lookup_cons_eq rfl) rfl ?_
  unfold tabsT
  generalize rowOf slots = qs at *
  refine Ex_cons (Ex1_for (items := enumV 0 (qs.map Tm.v)) (τ₁ := τ) (IterE_enum b_enumerate (Ev_name (lk lookup_cons_eq rfl) rfl) (.inl rfl) rfl) ?_)
  refine FRun_ind (I := fun i σ => σ.lookup ("rows" : Str) = some (V.lst ((shN qs (tb, rest) i).map rwV)) ∧ σ.lookup ("self" : Str) = some (.self (opsV pp)) ∧ σ.lookup ("op" : Str) = some (.str "+") ∧ σ.lookup ("row" : Str) = some (.lst (qs.map Tm.v))) ⟨rfl, rfl, rfl, rfl⟩ (fun i y σ hy hI P' hP' => ?_) (fun σ' hI => ?_)
  · obtain ⟨i1, i2, i3, i4⟩ := hI
    rw [enumV_get, Nat.zero_add, List.getElem?_map, Option.map_map] at hy
    obtain ⟨q, hu, rfl⟩ := Option.map_eq_some_iff.mp hy
    have hi := (List.getElem?_eq_some_iff.mp hu).1
    have inv := shN_inv hq ok hl i (Nat.le_of_lt hi)
    have bn := hb (i + 1) hi
    have qs1 : Slot q := hq q (List.mem_of_getElem? hu)
    have eg : qs.getD i default = q := by rw [List.getD_eq_getElem?_getD, hu]; rfl
    have est : shN qs (tb, rest) (i + 1) = (shN qs (tb, rest) i).flatMap fun r => takT r.1 q r.2 (decide (i + 1 = qs.length)) := by rw [shN, eg]
    have h12' : isV q = true → decide (i + 1 = qs.length) = false → rest.length ≤ 12 := fun h1 h2 => h12 i q hu h1 (Nat.lt_of_le_of_ne hi (of_decide_eq_false h2))
    have eb : PyData.eqv (V.int (i : Int)).py (V.int (((qs.map Tm.v).length : Int) - 1)).py = decide (i + 1 = qs.length) := by
      rw [List.length_map]
      by_cases z : i + 1 = qs.length
      · rw [decide_eq_true z]; exact beq_iff_eq.mpr (by lia)
      · rw [decide_eq_false z]; exact beq_false_of_ne (by lia)
    generalize decide (i + 1 = qs.length) = lb at *
    generalize shN qs (tb, rest) i = rows at *
    generalize shN qs (tb, rest) (i + 1) = rows' at *
    refine FTurn_pair (Ex_cons (Ex1_swap_new (Ev_name (lk (lk i1 rfl) rfl) rfl) rfl rfl rfl ?_))
    refine Ex_cons (Ex1_for (items := rows.map rwV) (τ₁ := τ) (IterE.of (Ev_name lookup_cons_eq rfl) IterOf_lst) ?_)
    refine FRun_ind (I := fun j σ => σ.lookup ("rows" : Str) = some (V.oL (((rows.take j).flatMap fun r => takT r.1 q r.2 lb).map rwV)) ∧ σ.lookup ("self" : Str) = some (.self (opsV pp)) ∧ σ.lookup ("op" : Str) = some (.str "+") ∧ σ.lookup ("row" : Str) = some (.lst (qs.map Tm.v)) ∧ σ.lookup ("pattern" : Str) = some q.v ∧ σ.lookup ("k" : Str) = some (.int (i : Int)))
      ⟨rfl, by (repeat refine lk ?_ rfl); exact i2, by (repeat refine lk ?_ rfl); exact i3, by (repeat refine lk ?_ rfl); exact i4, rfl, rfl⟩ (fun j y σ2 hy hI P2 hP2 => ?_) (fun σ2 hI => ?_)
    · obtain ⟨j1, j2, j3, j4, j5, j6⟩ := hI
      rw [List.getElem?_map] at hy
      obtain ⟨r, hr, rfl⟩ := Option.map_eq_some_iff.mp hy
      obtain ⟨rok, s, rp⟩ := inv r (List.mem_of_getElem? hr)
      have rl := (hl.sub rp).2
      have rlen : r.2.length ≤ rest.length := by have := rp.length_eq; rw [List.length_append] at this; lia
      have fj : (rows.take (j + 1)).flatMap (fun r => takT r.1 q r.2 lb) = (rows.take j).flatMap (fun r => takT r.1 q r.2 lb) ++ takT r.1 q r.2 lb := by
        rw [List.take_add_one, hr, List.flatMap_append]; simp
      have bj := flat_take (f := fun r : Tb × List Tm => takT r.1 q r.2 lb) rows (j + 1)
      rw [← est, fj, List.length_append] at bj
      refine FTurn_pair (Ex_cons (Ex1_extend (τ₁ := τ) (ys := (takT r.1 q r.2 lb).map rwV) (Ev_method m_taken (spec_taken (n := n) qs1 rok rl (fun a _ c => Nat.le_trans rlen (h12' a c)) τ) (EvL_cons (Ev_name (lk lookup_cons_eq rfl) rfl) (EvL_cons (Ev_name (lk (lk j3 rfl) rfl) rfl) (EvL_cons (Ev_name (lk (lk j5 rfl) rfl) rfl) (EvL_cons (Ev_name lookup_cons_eq rfl) (EvL_cons
        (eb ▸ Ev_cmp (Ev_name (lk (lk j6 rfl) rfl) rfl) (Ev_bin (Ev_builtin b_len (Bu_len (x := .lst (qs.map Tm.v)) (xs := qs.map Tm.v) rfl lq') (EvL_cons (Ev_name (lk (lk j4 rfl) rfl) rfl) EvL_nil) rfl) Ev_int Bin_sub_int) (Cmp_eq rfl rfl (by simp [V.py, PyData.depth]) rfl)) EvL_nil))))) (lk (lk j2 rfl) rfl) rfl) (lk (lk j1 rfl) rfl) (by rw [List.length_map, List.length_map, sizeLine_eq]; (exact Nat.le_trans (by assumption) (Nat.le_trans (by assumption) (by decide)))) ?_ rfl))
      refine Ex_cons (Ex1_expr (Ev_call g_want_few (isFun_of rfl) (spec_want_few (n := n + 59) (by rw [List.length_append, List.length_map, List.length_map]; (exact Nat.le_trans (by assumption) (Nat.le_trans (by assumption) (by decide)))) τ) (EvL_cons (Ev_name lookup_cons_eq rfl) EvL_nil) rfl) (Ex_nil (hP2 _ ⟨?_, lk (lk (lk j2 rfl) rfl) rfl, lk (lk (lk j3 rfl) rfl) rfl, lk (lk (lk j4 rfl) rfl) rfl, lk (lk (lk j5 rfl) rfl) rfl, lk (lk (lk j6 rfl) rfl) rfl⟩)))
      rw [lookup_cons_eq, fj, List.map_append]
    · obtain ⟨j1, j2, j3, j4, _⟩ := hI
      rw [List.length_map, List.take_length, ← est] at j1
      exact Ex_freeze j1 rfl (Ex_nil (hP' _ ⟨lookup_cons_eq, lk j2 rfl, lk j3 rfl, lk j4 rfl⟩))
  · obtain ⟨i1, _⟩ := hI
    rw [enumV_length, List.length_map] at i1
    have inv := shN_inv hq ok hl qs.length (Nat.le_refl _)
    have bn := hb qs.length (Nat.le_refl _)
    generalize shN qs (tb, rest) qs.length = rows at *
    refine Ex_cons (Ex1_return (EvN.ev (EvN_comp1 (τ₁ := τ) (items := rows.map rwV) (σ' := []) (IterE.of (Ev_name i1 rfl) IterOf_lst) Filt.nil ?_ ?_)) rfl ⟨rfl, rfl⟩)
    · rw [List.map_map, filter_flat]
      refine Turns.flat fun r hr => CTurn_pair (CAct_if (b := decide (r.2 = [])) (τ₁ := τ) (y := tbV r.1) (fun L cs => Tst_cmp (Ev_name lookup_cons_eq rfl) (Ev_tuple EvL_nil) (Cmp_eq (fine_seq fun u hu => ((hl.sub (inv r hr).2.choose_spec).2.sm u hu).good) rfl (dep_nil _) ?_))
          (fun h => ⟨fun L cs => Ev_name (lk lookup_cons_eq rfl) rfl, rfl, by rw [h]; rfl⟩) (fun h => ⟨rfl, by rw [h]; rfl⟩) rfl)
      show PyData.eqv (V.tup (r.2.map Tm.v)).py (V.tup []).py = _
      rw [eqv_nil]
      cases r.2 <;> rfl
    · have := List.length_filter_le (fun r : Tb × List Tm => decide (r.2 = [])) rows
      rw [List.length_map, List.length_map, sizeLine_eq]; (exact Nat.le_trans (by assumption) (Nat.le_trans (by assumption) (by decide)))
end
end Mine
namespace Mine

theorem okV_two {a b : Str} {x y : V} (h : okV x y = true) : okV (.tup [.str a, x]) (.tup [.str b, y]) = true := by
  exact okL_of (x := .str a) (y := .str b) rfl (okL_of h rfl)
noncomputable def pairK (p : Str × Tm) : V := .tup [.str p.1, p.2.v]
noncomputable def rT (tb : Tb) : Tb := ordBy pairK tb
noncomputable def rowVV (r : Tb) : V := .tup (r.map pairK)
noncomputable def keyR (r : Tb) : V := .tup (r.map fun p => V.tup [.str p.1, keyT p.2])
noncomputable def krV (r : Tb) : V := .tup [keyR r, rowVV r]
theorem pairK_inj {p q : Str × Tm} (h : pairK p = pairK q) : p = q := by
  unfold pairK at h
  simp only [V.tup.injEq, List.cons.injEq, V.str.injEq] at h
  exact Prod.ext h.1 (Tm.v_inj h.2.1)
theorem rowVV_inj {a b : Tb} (h : rowVV a = rowVV b) : a = b := by
  unfold rowVV at h
  simp only [V.tup.injEq] at h
  exact map_inj (fun x y => pairK_inj) h
theorem krV_inj {a b : Tb} (h : krV a = krV b) : a = b := by
  unfold krV at h
  simp only [V.tup.injEq, List.cons.injEq] at h
  exact rowVV_inj h.2.1
theorem rT_v (tb : Tb) : sortV ((strD (tvs tb)).map pairV) = (rT tb).map pairK := by
  unfold rT
  rw [← ordBy_v]
  unfold strD tvs
  rw [List.map_map, List.map_map]; rfl
theorem TbOk.row {tb : Tb} (h : TbOk tb) : TbOk (rT tb) := by
  have p := ordBy_perm pairK tb
  exact ⟨(p.map (·.1)).nodup_iff.mpr h.nd, fun q hq => h.nm q (p.mem_iff.mp hq), fun q hq => h.kt q (p.mem_iff.mp hq)⟩
theorem pairK_srt {p : Str × Tm} (h1 : isVarN p.1 = true) (h2 : Kt p.2) : (pairK p).srt = true := by simp [pairK, V.srt, srtL, okName_srt (varN_ok h1), Tm.srt h2.sm.good]
theorem pairK_dep {p : Str × Tm} (h2 : Kt p.2) : (pairK p).dep ≤ 6 := by
  have := h2.ht
  show max 0 (max p.2.v.dep 0) + 1 ≤ 6
  rw [Tm.dep]; lia
theorem row_srt {r : Tb} (h : TbOk r) : (rowVV r).srt = true := by
  have : srtL (r.map pairK) = true := srtL_map fun p hp => pairK_srt (h.nm p hp) (h.kt p hp)
  simpa [rowVV, V.srt] using this
theorem row_dep {r : Tb} (h : TbOk r) : (rowVV r).dep ≤ 7 := Nat.succ_le_succ (depL_map fun p hp => pairK_dep (h.kt p hp))
theorem row_key {r : Tb} : (rowVV r).key = true := by
  have : ∀ r : Tb, keyL (r.map pairK) = true := by
    intro r
    induction r with
    | nil => rfl
    | cons p s ih => simp [keyL, pairK, V.key, Tm.key, ih]
  simpa [rowVV, V.key] using this r
theorem row_keyOk {r : Tb} (h : TbOk r) : keyOk (rowVV r) := ⟨row_srt h, row_key, Nat.le_succ_of_le (row_dep h), _, rfl⟩
theorem sortOk_items {tb : Tb} (h : TbOk tb) : SortOk ((strD (tvs tb)).map pairV) := by
  have e : (strD (tvs tb)).map pairV = tb.map pairK := by unfold strD tvs; rw [List.map_map, List.map_map]; rfl
  rw [e]
  refine ⟨fun x hx => ?_, fun x hx y hy => ?_, .inr fun x hx => ?_, fun x hx => ?_, by have := h.len; rw [List.length_map]; lia⟩
  · obtain ⟨p, hp, rfl⟩ := List.mem_map.mp hx; exact pairK_srt (h.nm p hp) (h.kt p hp)
  · obtain ⟨p, hp, rfl⟩ := List.mem_map.mp hx
    obtain ⟨q, hq, rfl⟩ := List.mem_map.mp hy
    exact okV_two okV_tm
  · obtain ⟨p, hp, rfl⟩ := List.mem_map.mp hx; exact ⟨_, _, rfl⟩
  · obtain ⟨p, hp, rfl⟩ := List.mem_map.mp hx
    exact Nat.le_trans (pairK_dep (h.kt p hp)) (by decide)
theorem sortOk_rows {rows : List Tb} (h : ∀ r ∈ rows, TbOk r) (hl : rows.length < 64) : SortOk (rows.map krV) := by
  have ks : ∀ r ∈ rows, (keyR r).srt = true := fun r hr => by
    have : srtL (r.map fun p => V.tup [.str p.1, keyT p.2]) = true := srtL_map fun p hp => by simp [V.srt, srtL, okName_srt (varN_ok ((h r hr).nm p hp)), keyT_srt ((h r hr).kt p hp).sm.good]
    simpa [keyR, V.srt] using this
  refine ⟨fun x hx => ?_, fun x hx y hy => ?_, .inl fun x hx => ?_, fun x hx => ?_, by rw [List.length_map]; exact hl⟩
  · obtain ⟨r, hr, rfl⟩ := List.mem_map.mp hx
    simp [krV, V.srt, srtL, ks r hr, row_srt (h r hr)]
  · obtain ⟨r, hr, rfl⟩ := List.mem_map.mp hx
    obtain ⟨s, hs, rfl⟩ := List.mem_map.mp hy
    have k1 : okV (keyR r) (keyR s) = true := okL_all fun a ha b hb => by
      obtain ⟨p, _, rfl⟩ := List.mem_map.mp ha
      obtain ⟨q, _, rfl⟩ := List.mem_map.mp hb
      exact okV_two (okV_key _ _)
    have k2 : okV (rowVV r) (rowVV s) = true := okL_all fun a ha b hb => by
      obtain ⟨p, _, rfl⟩ := List.mem_map.mp ha
      obtain ⟨q, _, rfl⟩ := List.mem_map.mp hb
      exact okV_two okV_tm
    exact okL_of k1 (okL_of k2 rfl)
  · obtain ⟨r, hr, rfl⟩ := List.mem_map.mp hx; exact ⟨_, _, rfl⟩
  · obtain ⟨r, hr, rfl⟩ := List.mem_map.mp hx
    have a := row_dep (h r hr)
    have b : (keyR r).dep ≤ 4 := Nat.succ_le_succ (depL_map fun p hp => by
      have := keyT_dep p.2
      show max 0 (max (keyT p.2).dep 0) + 1 ≤ 3
      (exact Nat.le_trans (Nat.add_le_add_right (by assumption) _) (by decide)))
    show max (keyR r).dep (max (rowVV r).dep 0) + 1 ≤ 200
    lia
theorem nub_take {α : Type} (l : List α) (i : Nat) : (nubG (l.take i)).length ≤ (nubG l).length :=
  nodup_le (nubG_nodup _) fun x hx => (nubG_mem l).mpr (List.mem_of_mem_take ((nubG_mem _).mp hx))

section
variable {w : World} {mg mb : Str → Option Value} {T : Option Addr} {cells : List V} {n : Nat}
theorem spec_ext_bag {slots ks : List Tm} {tb : Tb} (hs : ∀ p ∈ slots, Slot p) (ls : 1 < slots.length) (sp : Sm (.mk "+" slots)) (lk' : 1 < ks.length) (st : Sm (.mk "+" ks)) (ok : TbOk tb) (hl : Lf ks)
    (hb : ∀ i, i ≤ (rowOf slots).length → (shN (rowOf slots) (tb, ks) i).length ≤ 4096) (h12 : ∀ i p, (rowOf slots)[i]? = some p → isV p = true → i + 1 < (rowOf slots).length → ks.length ≤ 12) (τ : Option Nat) :
    FnSpec (cx2 w mg mb T cells) (n + 62) (.ref 182) [.self (opsV pp), tbV tb, (Tm.mk "+" slots).v, (Tm.mk "+" ks).v] τ (.lst ((tabsT (rowOf slots) (tb, ks)).map tbV)) τ := by
  have D : FnData (cx2 w mg mb T cells) 182 _ _ ["self", "table", "pattern", "t"] := fnData_of rfl rfl rfl rfl rfl rfl rfl rfl rfl (bindL4 rfl fun _ _ _ _ => rfl) rfl (by decide)
  refine fn_spec D rfl (by simp [own_self, own_tb, Tm.own]) fun L cs => ?_
  have l1 := sp.len
  have l2 := hl.len
  have e0 : (Tm.mk "+" slots).v = .tup (.str "+" :: vL slots) := rfl
  have hv : isV (.mk "+" slots) = false := by
    show (decide (slots.length = 0) && _) = false
    rw [decide_eq_false (by lia), Bool.false_and]
  have hbg : isBag pp (.mk "+" slots) = true := by rw [isBag_plus]; exact decide_eq_true ls
  have fs : ∀ p ∈ slots, flat p := fun p hp => by
    rcases hs p hp with ⟨x, rfl, hx⟩ | h
    · refine .inr fun e => ?_
      have : x = "+" := e
      subst this
      revert hx; decide
    · exact .inr h.ns
  have k1 : kidsT pp "+" (.mk "+" ks) = ks := kidsT_plus lk' hl.fl
  have k2 : kidsT pp "+" (.mk "+" slots) = slots := kidsT_plus ls fs
  have s1 := spec_kids (w := w) (mg := mg) (mb := mb) (T := T) (cells := cells) (n := 0) okPp okPlus (Tm.mk "+" ks).ht (.mk "+" ks) (Nat.le_refl _) st τ
  have s2 := spec_kids (w := w) (mg := mg) (mb := mb) (T := T) (cells := cells) (n := 0) okPp okPlus (Tm.mk "+" slots).ht (.mk "+" slots) (Nat.le_refl _) sp τ
  rw [k1] at s1
  rw [k2] at s2
  refine Ex_cons (Ex1_if (c := false) (τ₁ := τ) (Tst_val (Ev_call g_is_variable (isFun_of rfl) (hv ▸ (spec_is_variable (n := n + 60) sp)) (EvL_cons (Ev_name rfl rfl) EvL_nil) rfl)) (fun h => by cases h) (fun _ => Ex_nil ?_))
  refine Ex_cons (Ex1_if (c := true) (τ₁ := τ) (Tst_val (Ev_method m_is_bag (hbg ▸ (spec_is_bag (n := n + 60) okPp sp)) (EvL_cons (Ev_name rfl rfl) EvL_nil) rfl rfl)) (fun _ => ?_) (fun h => by cases h))
  refine Ex_cons (Ex1_assign (τ₁ := τ) (y := tupV ks) (Ev_method m_kids (s1.le (by have := st.ht; lia)) (EvL_cons (Ev_at0 (Ev_name' e0 rfl rfl) rfl) (EvL_cons (Ev_name rfl rfl) EvL_nil)) rfl rfl) rfl rfl ?_)
  refine Ex_cons (Ex1_return (Ev_ifexp (c := true) (τ₁ := τ) (Tst_cmp (Ev_builtin b_len (Bu_len (x := tupV ks) (xs := ks.map Tm.v) rfl (by rw [List.length_map, sizeLine_eq]; (exact Nat.le_of_lt (Nat.lt_of_lt_of_le (by assumption) (by decide))))) (EvL_cons (Ev_name rfl rfl) EvL_nil) rfl) Ev_int (Cmp_gt_int (decide_eq_true (by rw [List.length_map]; lia)))) (fun _ => ?_) (fun h => by cases h)) rfl ⟨rfl, rfl⟩)
  exact Ev_method m_shared_out (spec_shared_out (n := n) hs (by have a : sizeL slots + 1 ≤ 60 := sp.size; have := len_le_sizeL slots; lia) ok hl hb h12 τ)
    (EvL_cons (Ev_name rfl rfl) (EvL_cons (Ev_at0 (Ev_name' e0 rfl rfl) rfl) (EvL_cons (Ev_method m_kids (s2.le (by have := sp.ht; lia)) (EvL_cons (Ev_at0 (Ev_name' e0 rfl rfl) rfl) (EvL_cons (Ev_name rfl rfl) EvL_nil)) rfl rfl) (EvL_cons (Ev_name lookup_cons_eq rfl) EvL_nil)))) rfl rfl

theorem spec_matched {p t : Tm} {slots ks : List Tm} (ep : p = .mk "+" slots) (en : normT pp t = .mk "+" ks) (st : Sm t) (hs : ∀ p ∈ slots, Slot p) (ls : 1 < slots.length) (sp : Sm p) (lk' : 1 < ks.length) (hl : Lf ks)
    (hb : ∀ i, i ≤ (rowOf slots).length → (shN (rowOf slots) ([], ks) i).length ≤ 4096) (h12 : ∀ i p, (rowOf slots)[i]? = some p → isV p = true → i + 1 < (rowOf slots).length → ks.length ≤ 12)
    (h64 : (nubG ((tabsT (rowOf slots) ([], ks)).map rT)).length < 64) (τ : Option Nat) :
    FnSpec (cx2 w mg mb T cells) (n + 90) (.ref 197) [.self (opsV pp), p.v, t.v] τ (.lst ((ordBy krV (nubG ((tabsT (rowOf slots) ([], ks)).map rT))).map rowVV)) τ := by
  have D : FnData (cx2 w mg mb T cells) 197 _ _ ["self", "pattern", "t"] := fnData_of rfl rfl rfl rfl rfl rfl rfl rfl rfl (bindL3 rfl fun _ _ _ => rfl) rfl (by decide)
  refine fn_spec D rfl (by simp [own_self, Tm.own]) fun L cs => ?_
  have hq : ∀ p ∈ rowOf slots, Slot p := fun p hp => by
    unfold rowOf at hp
    rcases List.mem_append.mp hp with hp | hp <;> exact hs p (List.mem_filter.mp hp).1
  have tok : ∀ tb ∈ tabsT (rowOf slots) ([], ks), TbOk tb := fun tb h => by
    obtain ⟨r, hr, rfl⟩ := List.mem_map.mp h
    exact (shN_inv hq TbOk.nil hl _ (Nat.le_refl _) r (List.mem_filter.mp hr).1).1
  have sn : Sm (.mk "+" ks) := en ▸ st.norm
  have s1 := spec_ext_bag (w := w) (mg := mg) (mb := mb) (T := T) (cells := cells) (n := n) hs ls (ep ▸ sp) lk' sn TbOk.nil hl hb h12 τ
  have s2 := spec_normal (w := w) (mg := mg) (mb := mb) (T := T) (cells := cells) (n := 0) okPp t.ht t (Nat.le_refl _) st τ
  rw [en] at s2
  rw [← ep] at s1
  generalize tabsT (rowOf slots) ([], ks) = tabs at *
  clear hb h12 hq
  have rok : ∀ r ∈ nubG (tabs.map rT), TbOk r := fun r hr => by
    obtain ⟨tb, ht, rfl⟩ := List.mem_map.mp ((nubG_mem _).mp hr)
    exact (tok tb ht).row
  have kd : ∀ l : List Tb, (∀ r ∈ nubG l, TbOk r) → KeysOk ((nubG l).map fun r => (rowVV r, keyR r)) := fun l h => by
    refine ⟨fun p hp => ?_, ?_⟩
    · obtain ⟨r, hr, rfl⟩ := List.mem_map.mp hp; exact row_keyOk (h r hr)
    · rw [List.map_map]
      exact List.Pairwise.map (fun r => rowVV r) (fun a b ne e => ne (rowVV_inj e)) (nubG_nodup l)
  refine Ex_cons (Ex1_assign_dict0 rfl ?_)
  refine Ex_cons (Ex1_for (items := tabs.map tbV) (τ₁ := τ) (IterE.of (Ev_method m_extended (s1.le (by lia))
    (EvL_cons Ev_dict0 (EvL_cons (Ev_name rfl rfl) (EvL_cons (Ev_method m_normal (s2.le (by have := st.ht; lia)) (EvL_cons (Ev_name rfl rfl) EvL_nil) rfl rfl) EvL_nil))) rfl rfl) IterOf_lst) ?_)
  refine FRun_ind (I := fun i σ => σ.lookup ("found" : Str) = some (V.oD ((nubG ((tabs.map rT).take i)).map fun r => (rowVV r, keyR r)))) rfl (fun i y σ hy hI P' hP' => ?_) (fun σ' hI => ?_)
  · rw [List.getElem?_map] at hy
    obtain ⟨tb, hu, rfl⟩ := Option.map_eq_some_iff.mp hy
    have tk := tok tb (List.mem_of_getElem? hu)
    have rk := tk.row
    have rl := rk.len
    have nt := nub_take (tabs.map rT) i
    have et : (tabs.map rT).take (i + 1) = (tabs.map rT).take i ++ [rT tb] := by
      rw [List.take_add_one, List.getElem?_map, hu]; rfl
    refine FTurn_name (Ex_cons (Ex1_assign (τ₁ := τ) (y := rowVV (rT tb)) (Ev_type b_tuple (Bu_tuple (xs := (rT tb).map pairK) rfl (by rw [List.length_map, sizeLine_eq]; (exact Nat.le_trans (by assumption) (by decide)))) (EvL_cons (rT_v tb ▸ EvN.ev (EvN_sorted_items (kvs := tvs tb) b_sorted lookup_cons_eq rfl tk.ndv (sortOk_items tk) rfl)) EvL_nil) rfl) rfl rfl ?_))
    refine Ex_cons (Ex1_setitem (z := keyR (rT tb)) (k := rowVV (rT tb)) (kvs := (nubG ((tabs.map rT).take i)).map fun r => (rowVV r, keyR r)) (τ₁ := τ) (τ₂ := τ) (Ev_type b_tuple (Bu_tuple (xs := (rT tb).map fun p => V.tup [.str p.1, keyT p.2]) rfl (by rw [List.length_map, sizeLine_eq]; (exact Nat.le_trans (by assumption) (by decide)))) (EvL_cons (EvN.ev (EvN_comp1 (τ₁ := τ) (items := (rT tb).map pairK) (σ' := []) (IterE.of (x := rowVV (rT tb)) (Ev_name lookup_cons_eq rfl) IterOf_tup) Filt.nil
      (Turns.over fun p hp => CTurn_pair (CAct_emit (fun L cs => Ev_tuple (ys := [.str p.1, keyT p.2]) (EvL_cons (Ev_name rfl rfl) (EvL_cons (Ev_call g_key_of (isFun_of rfl) ((spec_key_of (n := 0) (rk.kt p hp).sm).le (by (exact Nat.le_add_left _ _))) (EvL_cons (Ev_name rfl rfl) EvL_nil) rfl) EvL_nil)) rfl (by simp)) rfl rfl)) (by rw [List.length_map, sizeLine_eq]; (exact Nat.le_trans (by assumption) (by decide))))) EvL_nil) rfl)
      (Ev_name lookup_cons_eq rfl) (by (repeat refine lk ?_ rfl); exact hI) rfl (row_keyOk rk) (kd _ fun r hr => rok r ((nubG_mem _).mpr (List.mem_of_mem_take ((nubG_mem _).mp hr)))) (by rw [List.length_map]; (exact Nat.le_trans (by assumption) (Nat.le_trans (Nat.le_of_lt (by assumption)) (by decide)))) (Ex_nil (hP' _ ?_)) rfl)
    rw [lookup_cons_eq, et, nubG_snoc, ← putV_add (f := rowVV) (g := keyR) (fun x y => rowVV_inj)]
  · have e1 : (tabs.map tbV).length = (tabs.map rT).length := by rw [List.length_map, List.length_map]
    rw [e1, List.take_length] at hI
    have kk := kd _ rok
    generalize nubG (tabs.map rT) = rows at *
    have so := sortOk_rows rok h64
    refine Ex_freezeD hI rfl ?_
    have ef : (rows.map fun r => (rowVV r, keyR r)).map (·.1) = rows.map rowVV := by rw [List.map_map]; rfl
    have it : IterOf (cx2 w mg mb T cells) (n + 89) (.dct (rows.map fun r => (rowVV r, keyR r))) false (rows.map rowVV) := ef ▸ IterOf_dct
    have lo : (ordBy krV rows).length = rows.length := (ordBy_perm krV rows).length_eq
    refine Ex_cons (Ex1_return (EvN.ev (EvN_comp1 (τ₁ := τ) (items := (ordBy krV rows).map krV) (σ' := []) (IterE.of (x := .lst ((ordBy krV rows).map krV)) (ordBy_v krV rows ▸ EvN.ev (EvN_sorted b_sorted (EvN.ev (EvN_comp1 (τ₁ := τ) (items := rows.map rowVV) (ys := rows.map krV) (σ' := [("found", .dct (rows.map fun r => (rowVV r, keyR r)))])
      (IterE.of (Ev_name lookup_cons_eq rfl) it) (Filt.add Filt.nil rfl lookup_cons_eq rfl) ?_ ?_)) so rfl)) IterOf_lst) Filt.nil ?_ ?_)) rfl ⟨rfl, rfl⟩)
    · exact Turns.over fun r hr => CTurn_name (CAct_emit (fun L cs => Ev_tuple (ys := [keyR r, rowVV r]) (EvL_cons (Ev_getitem (Ev_name rfl rfl) (Ev_name rfl rfl) (row_keyOk (rok r hr)) kk (List.mem_map.mpr ⟨r, hr, rfl⟩)) (EvL_cons (Ev_name rfl rfl) EvL_nil)) rfl (by simp)) rfl rfl)
    · rw [List.length_map, sizeLine_eq]; (exact Nat.le_of_lt (Nat.lt_of_lt_of_le (by assumption) (by decide)))
    · exact Turns.over fun r hr => CTurn_pair (CAct_emit (fun L cs => Ev_name rfl rfl) rfl rfl)
    · rw [List.length_map, lo, sizeLine_eq]; (exact Nat.le_of_lt (Nat.lt_of_lt_of_le (by assumption) (by decide)))
end
end Mine
namespace Mine

noncomputable def dipN (zs : List Int) (k many : Nat) : Nat := (match zs[k]? with
  | some z => z % (many : Int)
  | none => ((8 * (k : Int) * k + 5 * k + 6) % 47) % (many : Int)).toNat
theorem dipN_lt {zs : List Int} {k many : Nat} (h : 0 < many) : dipN zs k many < many := by
  unfold dipN
  have : ∀ a : Int, (a % (many : Int)).toNat < many := fun a => by
    have h1 := Int.emod_nonneg a (b := (many : Int)) (by lia)
    have h2 := Int.emod_lt_of_pos a (b := (many : Int)) (by lia)
    lia
  split <;> exact this _
theorem mod_dip {a : Int} {many : Nat} (h : 0 < many) : a.fmod (many : Int) = (((a % (many : Int)).toNat : Nat) : Int) := by
  rw [Int.fmod_eq_emod_of_nonneg _ (by lia)]
  have h1 := Int.emod_nonneg a (b := (many : Int)) (by lia)
  lia
noncomputable def cellsV (zs : List Int) : List V := zs.map V.int
noncomputable def optB : Option Tb → V
  | none => .none
  | some tb => tbV tb

section
variable {w : World} {mg mb : Str → Option Value} {T : Option Addr} {zs : List Int} {n : Nat}
theorem spec_dip {many k : Nat} (hm : 0 < many) (hz : zs.length ≤ 1000) (hk : k ≤ 1000) : FnSpec (cx2 w mg mb T (cellsV zs)) (n + 1) (.ref 222) [.tray, .int (many : Int)] (some k) (.int (dipN zs k many : Nat)) (some (k + 1)) := by
  have D : FnData (cx2 w mg mb T (cellsV zs)) 222 _ _ ["pot", "many"] := fnData_of rfl rfl rfl rfl rfl rfl rfl rfl rfl (bindL2 rfl fun _ _ => rfl) rfl (by decide)
  have kk : (cx2 w mg mb T (cellsV zs)).k1 ≠ (cx2 w mg mb T (cellsV zs)).k2 := by show ("cells" : Str) ≠ "spot"; decide
  refine fn_spec D rfl (by simp [V.own]) fun L cs => ?_
  refine Ex_cons (Ex1_assign (τ₁ := some k) (y := .int (k : Int)) (Ev_tray rfl rfl kk (.inl ⟨rfl, rfl⟩)) rfl rfl ?_)
  refine Ex_cons (Ex1_tray (k := k) (j := k + 1) (Ev_eq (Ev_bin (Ev_name rfl rfl) Ev_int Bin_add_int) (by simp)) (by (repeat refine lk ?_ rfl); rfl) rfl kk ?_ rfl)
  have lc : (cellsV zs).length ≤ sizeLine := by unfold cellsV; rw [List.length_map, sizeLine_eq]; (exact Nat.le_trans (by assumption) (by decide))
  refine Ex_cons (Ex1_if (c := decide ((k : Int) < ((cellsV zs).length : Int))) (τ₁ := some (k + 1)) (Tst_cmp (Ev_name lookup_cons_eq rfl) (Ev_builtin b_len (Bu_len (x := .lst (cellsV zs)) (xs := cellsV zs) rfl lc) (EvL_cons (Ev_tray (k := k + 1) rfl rfl kk (.inr ⟨rfl, rfl⟩)) EvL_nil) rfl) (Cmp_lt_int rfl)) (fun hc => ?_) (fun hc => Ex_nil ?_))
  · have hlt : k < zs.length := by have := of_decide_eq_true hc; unfold cellsV at this; rw [List.length_map] at this; lia
    refine Ex_cons (Ex1_return (Ev_bin (x := .int zs[k]) (y := .int (many : Int)) (Ev_itemN (xs := cellsV zs) (k := k) (x := .lst (cellsV zs)) (Ev_tray (k := k + 1) rfl rfl kk (.inr ⟨rfl, rfl⟩)) (Ev_name rfl rfl) rfl (by unfold cellsV; rw [List.getElem?_map, List.getElem?_eq_getElem hlt]; rfl) (by lia)) (Ev_name rfl rfl) (Bin_mod_int (by lia))) rfl ⟨?_, rfl⟩)
    rw [mod_dip hm]
    unfold dipN
    rw [List.getElem?_eq_getElem hlt]
  · have hge : zs.length ≤ k := by have := of_decide_eq_false hc; unfold cellsV at this; rw [List.length_map] at this; lia
    refine Ex_cons (Ex1_return (Ev_bin (y := .int (many : Int)) (Ev_bin (Ev_bin (Ev_bin (Ev_bin (Ev_bin Ev_int (Ev_name (y := .int (k : Int)) rfl rfl) (Bin_mul_int (.of_left (by decide)))) (Ev_name (y := .int (k : Int)) rfl rfl) (Bin_mul_int (.of_right (intBits_le_64 (by lia) (by lia))))) (Ev_bin Ev_int (Ev_name (y := .int (k : Int)) rfl rfl) (Bin_mul_int (.of_left (by decide)))) Bin_add_int) Ev_int Bin_add_int) Ev_int (Bin_mod_int (by decide))) (Ev_name rfl rfl) (Bin_mod_int (by lia))) rfl ⟨?_, rfl⟩)
    rw [mod_dip hm]
    unfold dipN
    rw [List.getElem?_eq_none hge, Int.fmod_eq_emod_of_nonneg _ (by decide)]
end
section
variable {w : World} {mg mb : Str → Option Value} {T : Option Addr} {cells : List V} {n : Nat}
theorem subsL_eq : ∀ ks : List Tm, subsL ks = ks.flatMap subs
  | [] => rfl
  | t :: r => by simp [subsL, subsL_eq r]
theorem spec_all : ∀ (d : Nat) (t : Tm), t.ht ≤ d → Sm t → ∀ τ, FnSpec (cx2 w mg mb T cells) (d + n) (.ref 227) [t.v] τ (.lst ((subs t).map Tm.v)) τ := by
  intro d
  induction d with
  | zero => intro t hd; have := ht_pos t; lia
  | succ d ih =>
    intro t hd h τ
    have D : FnData (cx2 w mg mb T cells) 227 _ _ ["t"] := fnData_of rfl rfl rfl rfl rfl rfl rfl rfl rfl (bindL1 rfl fun _ => rfl) rfl (by decide)
    rw [show d + 1 + n = d + n + 1 by (exact Nat.add_right_comm _ _ _)]
    refine fn_spec D rfl (by simp [Tm.own]) fun L cs => ?_
    have len := h.len
    have e : subs t = t :: t.ks.flatMap subs := by
      obtain ⟨f, ks⟩ := t
      rw [subs, subsL_eq]; rfl
    have sl : ((t.ks.flatMap subs).map Tm.v).length + 1 ≤ sizeLine := by
      have a := subs_len t
      have b := h.size
      rw [e, List.length_cons] at a
      rw [List.length_map, sizeLine_eq]; lia
    rw [e]
    refine Ex_cons (Ex1_return (Ev_bin (EvN.ev (EvN_list (ys := [t.v]) (EvL_cons (Ev_name rfl rfl) EvL_nil) (by simp [Tm.pure]) (by simp))) (EvN.ev (EvN_comp2 (items := vL t.ks) (ys := (t.ks.flatMap subs).map Tm.v) (τ₁ := τ) (σ' := []) (IterE.of (Ev_tup1 (x := .str t.f) (xs := vL t.ks) (Ev_name' (Tm.v_eq t) rfl rfl) (by rw [vL_length, sizeLine_eq]; (exact Nat.le_trans (Nat.add_le_add_right (by assumption) _) (by decide)))) IterOf_tup) Filt.nil ?_ (Nat.le_of_succ_le sl))) (Bin_add_lst (by rw [List.length_singleton, Nat.add_comm]; exact sl))) rfl ⟨rfl, rfl⟩)
    rw [vL_eq]
    exact Turns.flatL fun u hu => CTurn_name (CAct_nest1 (τ₁ := τ) (fun L cs => IterE.of (Ev_call g_all (isFun_of rfl) (ih u (sm_ht hd hu) (h.kid hu) τ) (EvL_cons (Ev_name rfl rfl) EvL_nil) rfl) IterOf_lst)
        (Turns.over fun x hx => CTurn_name (CAct_emit (fun L cs => Ev_name rfl rfl) (Tm.pure _) rfl)))
theorem spec_rank {t : Tm} (h : Sm t) (τ : Option Nat) : FnSpec (cx2 w mg mb T cells) (42 + n) (.ref 232) [t.v] τ (keyT t) τ := by
  have D : FnData (cx2 w mg mb T cells) 232 _ _ ["t"] := fnData_of rfl rfl rfl rfl rfl rfl rfl rfl rfl (bindL1 rfl fun _ => rfl) rfl (by decide)
  rw [show 42 + n = 41 + n + 1 by lia]
  refine fn_spec D rfl (by simp [Tm.own]) fun L cs => ?_
  have sl : (subs t).length ≤ 60 := by rw [subs_len]; exact h.size
  refine Ex_cons (Ex1_assign (τ₁ := τ) (y := .lst ((subs t).map Tm.v)) (Ev_call g_all (isFun_of rfl) ((spec_all (n := 0) t.ht t (Nat.le_refl _) h τ).le (by have := h.ht; lia)) (EvL_cons (Ev_name rfl rfl) EvL_nil) rfl) rfl rfl ?_)
  refine Ex_cons (Ex1_return (Ev_tuple (ys := [.int (t.size : Int), .tup ((subs t).map fun u => .str u.f), .tup ((subs t).map fun u => .int ((u.ks.length : Nat) : Int))])
      (EvL_cons (Ev_eq (Ev_builtin b_len (Bu_len (xs := (subs t).map Tm.v) rfl (by rw [List.length_map, sizeLine_eq]; (exact Nat.le_trans (by assumption) (by decide)))) (EvL_cons (Ev_name lookup_cons_eq rfl) EvL_nil) rfl) (by rw [List.length_map, subs_len]))
      (EvL_cons (Ev_type b_tuple (Bu_tuple (xs := (subs t).map fun u => .str u.f) rfl (by rw [List.length_map, sizeLine_eq]; (exact Nat.le_trans (by assumption) (by decide)))) (EvL_cons (EvN.ev (EvN_comp1 (τ₁ := τ) (items := (subs t).map Tm.v) (σ' := []) (IterE.of (Ev_name lookup_cons_eq rfl) IterOf_lst) Filt.nil (Turns.over fun u hu => CTurn_name (CAct_emit (fun L cs => Ev_at0 (Ev_name' (Tm.v_eq u) rfl rfl) rfl) rfl rfl)) (by rw [List.length_map, sizeLine_eq]; (exact Nat.le_trans (by assumption) (by decide))))) EvL_nil) rfl)
      (EvL_cons (Ev_type b_tuple (Bu_tuple (xs := (subs t).map fun u => .int ((u.ks.length : Nat) : Int)) rfl (by rw [List.length_map, sizeLine_eq]; (exact Nat.le_trans (by assumption) (by decide)))) (EvL_cons (EvN.ev (EvN_comp1 (τ₁ := τ) (items := (subs t).map Tm.v) (σ' := []) (IterE.of (Ev_name lookup_cons_eq rfl) IterOf_lst) Filt.nil (Turns.over fun u hu => CTurn_name (CAct_emit (fun L cs => Ev_eq (Ev_bin (Ev_builtin b_len (Bu_len_tm (by have := (h.subs u hu).len; (exact Nat.le_trans (by assumption) (by decide)))) (EvL_cons (Ev_name rfl rfl) EvL_nil) rfl) Ev_int Bin_sub_int) (by congr 1; lia)) rfl rfl)) (by rw [List.length_map, sizeLine_eq]; (exact Nat.le_trans (by assumption) (by decide))))) EvL_nil) rfl) EvL_nil)))
      (by simp [pure_tup, pure_int]) (by simp)) rfl ⟨rfl, rfl⟩)
theorem spec_sum {l : List Tm} (hl : Lf l) (τ : Option Nat) : FnSpec (cx2 w mg mb T cells) (43 + n) (.ref 237) [.lst (l.map Tm.v)] τ (sumT l).v τ := by
  have D : FnData (cx2 w mg mb T cells) 237 _ _ ["some"] := fnData_of rfl rfl rfl rfl rfl rfl rfl rfl rfl (bindL1 rfl fun _ => rfl) rfl (by decide)
  rw [show 43 + n = 42 + n + 1 by lia]
  refine fn_spec D rfl (by simp [own_lst]) fun L cs => ?_
  have ln := hl.len
  have so := sortOk_kt (l := l) (fun t ht => (hl.sm t ht).good) (fun t ht => by have := hl.ht t ht; (exact Nat.le_trans (by assumption) (by decide))) (by (exact Nat.le_trans (by assumption) (by decide)))
  have ol : (ordT l).length = l.length := ordT_len l
  have oz : ((ordT l).map Tm.v).length ≤ sizeLine := by rw [List.length_map, ol, sizeLine_eq]; (exact Nat.le_of_lt (Nat.lt_of_lt_of_le (by assumption) (by decide)))
  refine Ex_cons (Ex1_comp1 (τ₁ := τ) (τ₂ := τ) (items := (ordT l).map ktV) (ys := (ordT l).map Tm.v) (σ' := []) (IterE.of (x := .lst ((ordT l).map ktV)) (ordT_v l ▸ EvN.ev (EvN_sorted b_sorted (EvN.ev (EvN_comp1 (τ₁ := τ) (items := l.map Tm.v) (ys := l.map ktV) (σ' := []) (IterE.of (Ev_name rfl rfl) IterOf_lst) Filt.nil ?_ (by rw [List.length_map, sizeLine_eq]; (exact Nat.le_of_lt (Nat.lt_of_lt_of_le (by assumption) (by decide)))))) so rfl)) IterOf_lst) Filt.nil ?_ oz ?_)
  · exact Turns.over fun t ht => CTurn_name (CAct_emit (fun L cs => Ev_tuple (ys := [keyT t, t.v]) (EvL_cons (Ev_call g_rank (isFun_of rfl) (spec_rank (n := n) (hl.sm t ht) τ) (EvL_cons (Ev_name rfl rfl) EvL_nil) rfl) (EvL_cons (Ev_name rfl rfl) EvL_nil)) (by simp [keyT, pure_tup, Tm.pure]) (by simp)) rfl rfl)
  · exact Turns.over fun t ht => CTurn_pair (CAct_emit (fun L cs => Ev_name rfl rfl) (Tm.pure _) rfl)
  · refine Ex_freeze lookup_cons_eq rfl ?_
    refine Ex_cons (Ex1_return (Ev_ifexp (c := decide (l.length = 1)) (Tst_cmp (Ev_builtin b_len (Bu_len (x := .lst ((ordT l).map Tm.v)) (xs := (ordT l).map Tm.v) rfl oz) (EvL_cons (Ev_name lookup_cons_eq rfl) EvL_nil) rfl) Ev_int (Cmp_eq rfl rfl (by simp [V.py, PyData.depth]) ?_)) (fun hc => ?_) (fun hc => ?_)) (Tm.own _) ⟨rfl, rfl⟩)
    · rw [List.length_map, ol]
      show (((l.length : Nat) : Int) == 1) = _
      by_cases q : l.length = 1
      · rw [decide_eq_true q, q]; rfl
      · rw [decide_eq_false q]; exact beq_false_of_ne (by lia)
    · rcases sumT_eq l with ⟨x, e, e2⟩ | ⟨ne, _⟩
      · subst e
        exact Ev_at0 (Ev_name' (y := .lst ([x].map Tm.v)) (y' := .lst [x.v]) rfl lookup_cons_eq rfl) rfl
      · exact absurd (of_decide_eq_true hc) ne
    · rcases sumT_eq l with ⟨x, e, _⟩ | ⟨_, e2⟩
      · exact absurd (by rw [e]; rfl) (of_decide_eq_false hc)
      · rw [e2]
        refine Ev_eq (Ev_bin (Ev_tuple (ys := [.str "+"]) (EvL_cons Ev_str EvL_nil) rfl (by simp)) (Ev_type b_tuple (Bu_tuple (xs := (ordT l).map Tm.v) rfl oz) (EvL_cons (Ev_name lookup_cons_eq rfl) EvL_nil) rfl) (Bin_add_tup (xs := [.str "+"]) (ys := (ordT l).map Tm.v) (by rw [List.length_map, ol, sizeLine_eq]; simp; lia))) ?_
        rw [Tm.v, vL_eq]; rfl
theorem spec_bound {tb : Tb} {x : Str} {t : Tm} (hx : isVarN x = true) (ok : TbOk tb) (ht : Kt t) (τ : Option Nat) :
    FnSpec (cx2 w mg mb T cells) (n + 1) (.ref 244) [tbV tb, .str x, t.v] τ (optB (bound tb x t)) τ := by
  have D : FnData (cx2 w mg mb T cells) 244 _ _ ["table", "name", "t"] := fnData_of rfl rfl rfl rfl rfl rfl rfl rfl rfl (bindL3 rfl fun _ _ _ => rfl) rfl (by decide)
  refine fn_spec D rfl (by simp [own_tb, own_str, Tm.own]) fun L cs => ?_
  have nd := ok.ndv
  have len := ok.lenv
  have ku := ok.get (n := x) ht
  refine Ex_cons (Ex1_assign_dict b_dict (Ev_name rfl rfl) nd (by (exact Nat.le_trans (by assumption) (by decide))) rfl rfl ?_)
  refine Ex_cons (Ex1_setitem_str (k := x) (z := t.v) (τ₁ := τ) (τ₂ := τ) (Ev_name (lk rfl rfl) rfl) (Ev_name (lk rfl rfl) rfl) lookup_cons_eq (Tm.pure _) nd (by (exact Nat.le_trans (by assumption) (by decide))) ?_ rfl)
  refine Ex_freezeD lookup_cons_eq rfl ?_
  have eg : ((tvs tb).lookup x).getD t.v = (getT tb x t).v := by
    rw [tvs_lookup]; unfold getT
    cases tb.lookup x <;> rfl
  have bg := bound_get (n := x) (t := t) ok
  refine Ex_cons (Ex1_return (Ev_ifexp (c := PyData.eqv (getT tb x t).v.py t.v.py) (τ₁ := τ) (Tst_cmp (eg ▸ Ev_meth PySem.F.slot_dict_get PySem.F.type_dict_get PySem.F.plainAttrs_dict dct_type (Bu_dget (k := x) (z := t.v) nd) (EvL_cons (Ev_name (lk (lk (lk rfl rfl) rfl) rfl) rfl) (EvL_cons (Ev_name (lk (lk (lk rfl rfl) rfl) rfl) rfl) EvL_nil)) (lk (lk (lk rfl rfl) rfl) rfl) rfl) (Ev_name (lk (lk (lk rfl rfl) rfl) rfl) rfl)
    (Cmp_eq (srt_fine (Tm.srt ku.sm.good)) (srt_fine (Tm.srt ht.sm.good)) (by have := ku.dep; lia) rfl)) (fun hc => ?_) (fun hc => ?_)) ?_ ⟨rfl, rfl⟩)
  · rw [if_pos ((Tm.eqv ku.sm.good ht.sm.good).mp hc)] at bg
    cases e : bound tb x t with
    | none => rw [e] at bg; cases bg
    | some tb' =>
      rw [e] at bg
      have : tbV tb' = _ := (List.cons.inj bg).1
      show Ev _ _ _ _ _ _ (tbV tb') _
      rw [this]
      exact Ev_name lookup_cons_eq rfl
  · rw [if_neg (fun q => by rw [(Tm.eqv ku.sm.good ht.sm.good).mpr q] at hc; cases hc)] at bg
    cases e : bound tb x t with
    | none => exact Ev_none
    | some tb' => rw [e] at bg; cases bg
  · cases bound tb x t <;> rfl
end
end Mine
namespace Mine

theorem pick_nat {xs : List V} {lo hi : Option Int} {a b : Nat} (e : sliceBounds lo hi none xs.length = ((a : Int), (b : Int), 1)) : pick xs lo hi none = (xs.drop a).take (b - a) := by
  unfold pick
  rw [e]
  have h := pick_run xs.toArray a (b - a)
  simp only [sliceRange_one]
  simpa using h
theorem pick_from {xs : List V} {a : Nat} : pick xs (some (a : Int)) none none = xs.drop a := by
  have e : sliceBounds (some (a : Int)) none none xs.length = (((min a xs.length : Nat) : Int), (xs.length : Int), 1) := by
    simp only [sliceBounds, Option.getD_none, show (1 : Int) > 0 by decide, if_true, if_neg (show ¬ ((a : Int) < 0) by lia)]
    congr 1
    lia
  rw [pick_nat e]
  by_cases h : a ≤ xs.length
  · rw [Nat.min_eq_left h, List.take_of_length_le (by rw [List.length_drop]; lia)]
  · rw [Nat.min_eq_right (by lia), List.drop_of_length_le (Nat.le_refl _), List.drop_of_length_le (by lia)]; simp
theorem pick_upto {xs : List V} {b : Nat} : pick xs none (some (b : Int)) none = xs.take b := by
  have e : sliceBounds none (some (b : Int)) none xs.length = (((0 : Nat) : Int), ((min b xs.length : Nat) : Int), 1) := by
    simp only [sliceBounds, Option.getD_none, show (1 : Int) > 0 by decide, if_true, if_neg (show ¬ ((b : Int) < 0) by lia)]
    congr 1
    congr 1
    lia
  rw [pick_nat e, List.drop_zero, Nat.sub_zero]
  by_cases h : b ≤ xs.length
  · rw [Nat.min_eq_left h]
  · rw [Nat.min_eq_right (by lia), List.take_of_length_le (Nat.le_refl _), List.take_of_length_le (by lia)]
section
variable {C : Cx} {n : Nat} {env : Env} {σ : List (Str × V)} {τ τ₁ : Option Nat}
theorem Ev_upto {value e pos p} {xs : List V} {k : Nat} (hv : Ev C n value env σ τ (.lst xs) τ) (he : Ev C n e env σ τ (.int (k : Int)) τ) (hl : xs.length ≤ sizeLine) : Ev C n (.Subscript value (.Slice .none (some e) .none p) pos) env σ τ (.lst (xs.take k)) τ :=
  Ev_eq (Ev_slice (xs := xs) (lo := none) (hi := some (k : Int)) (st := none) hv EvO_none (EvO_some he) EvO_none (.inl rfl) (by decide) hl) (by rw [pick_upto])
theorem Ev_from {value e pos p} {xs : List V} {k : Nat} (hv : Ev C n value env σ τ (.lst xs) τ) (he : Ev C n e env σ τ (.int (k : Int)) τ) (hl : xs.length ≤ sizeLine) : Ev C n (.Subscript value (.Slice (some e) .none .none p) pos) env σ τ (.lst (xs.drop k)) τ :=
  Ev_eq (Ev_slice (xs := xs) (lo := some (k : Int)) (hi := none) (st := none) hv (EvO_some he) EvO_none EvO_none (.inl rfl) (by decide) hl) (by rw [pick_from])
end

theorem erase_at {u : Tm} : ∀ {l : List Tm} {k : Nat}, l[k]? = some u → u ∉ l.take k → eraseT u l = l.take k ++ l.drop (k + 1)
  | x :: r, 0, h, _ => by
    simp at h; subst h
    unfold eraseT; rw [if_pos rfl]; rfl
  | x :: r, k + 1, h, q => by
    rw [List.take_succ_cons, List.mem_cons, not_or] at q
    unfold eraseT
    rw [if_neg (fun e => q.1 e.symm), erase_at (l := r) (k := k) (by simpa using h) q.2]
    rfl
noncomputable def solG (tb : Tb) (p : Tm) (left : List Tm) (u : Tm) : List (Tb × List Tm) := (fit tb p u).toList.map fun b => (b, eraseT u left)
noncomputable def solT (tb : Tb) (p : Tm) (left : List Tm) : List (Tb × List Tm) := (nubG left).flatMap (solG tb p left)
noncomputable def chT (solid : List Tm) (rows : List (Tb × List Tm)) : List (Tb × List Tm) := solid.foldl (fun rows p => rows.flatMap fun r => solT r.1 p r.2) rows
noncomputable def rwL (r : Tb × List Tm) : V := .tup [tbV r.1, .lst (r.2.map Tm.v)]
theorem solG_len (tb : Tb) (p : Tm) (left : List Tm) (u : Tm) : (solG tb p left u).length ≤ 1 := optL_len
theorem solT_len (tb : Tb) (p : Tm) (left : List Tm) : (solT tb p left).length ≤ left.length := by
  have a := flatMap_len (f := solG tb p left) (k := 1) (l := nubG left) fun u _ => solG_len tb p left u
  have b := nubG_len left
  unfold solT; lia
structure Sol (p : Tm) : Prop where
  so : Solid p
  f : p.ks ≠ [] → p.f = "f"
structure Kid (t : Tm) : Prop where
  sm : Sm t
  ht : t.ht ≤ 4
  fl : flat t
  f : t.f = "f" → t.ks.length = 1
theorem Kid.kt {t : Tm} (h : Kid t) : Kt t := ⟨h.sm, Nat.le_succ_of_le h.ht⟩

section
variable {w : World} {mg mb : Str → Option Value} {T : Option Addr} {cells : List V} {n : Nat}
theorem spec_fitted {tb : Tb} {p t : Tm} (sp : Sol p) (ok : TbOk tb) (ht : Kid t) (τ : Option Nat) :
    FnSpec (cx2 w mg mb T cells) (n + 2) (.ref 251) [tbV tb, p.v, t.v] τ (optB (fit tb p t)) τ := by
  have D : FnData (cx2 w mg mb T cells) 251 _ _ ["table", "slot", "kid"] := fnData_of rfl rfl rfl rfl rfl rfl rfl rfl rfl (bindL3 rfl fun _ _ _ => rfl) rfl (by decide)
  refine fn_spec D rfl (by simp [own_tb, Tm.own]) fun L cs => ?_
  have gp := sp.so.sm.good
  have gt := ht.sm.good
  have lp := sp.so.sm.len
  have own : (optB (fit tb p t)).own = false := by cases fit tb p t <;> rfl
  have f2 : (V.str "f").fine = true := by decide +kernel
  refine Ex_cons (Ex1_if (c := decide (p.ks.length = 0)) (τ₁ := τ) (Tst_cmp (Ev_builtin b_len (Bu_len_tm (by (exact Nat.le_trans (by assumption) (by decide)))) (EvL_cons (Ev_name rfl rfl) EvL_nil) rfl) Ev_int (Cmp_eq rfl rfl (by simp [V.py, PyData.depth]) (eqv_len (b := 0)))) (fun hc => ?_) (fun hc => Ex_nil ?_))
  · have e := List.eq_nil_of_length_eq_zero (of_decide_eq_true hc)
    refine Ex_cons (Ex1_return (Ev_ifexp (c := PyData.eqv p.v.py t.v.py) (τ₁ := τ) (Tst_cmp (Ev_name rfl rfl) (Ev_name rfl rfl) (Cmp_eq (srt_fine (Tm.srt gp)) (srt_fine (Tm.srt gt)) (by have := ht.kt.dep; lia) rfl)) (fun h => ?_) (fun h => ?_)) own ⟨rfl, rfl⟩)
    · have e1 := (Tm.eqv gp gt).mp h
      subst e1
      rw [fit_nil rfl e e]
      exact Ev_name rfl rfl
    · rw [fit_no]
      · exact Ev_none
      · rintro ⟨h1, h2⟩
        have e2 : t.ks = [] := List.eq_nil_of_length_eq_zero (by rw [h2, e]; rfl)
        have : p = t := by rw [← Tm.eta p, ← Tm.eta t, h1, e, e2]
        rw [(Tm.eqv gp gt).mpr this] at h; cases h
  · have ne : p.ks ≠ [] := fun q => by rw [q] at hc; cases hc
    have ef := sp.f ne
    obtain ⟨x, e, hx⟩ := sp.so.ks.resolve_left ne
    have e0 : p.v = .tup [.str p.f, (Tm.mk x []).v] := by rw [Tm.v_eq, e]; rfl
    have fx : (V.str t.f).fine = true := okName_fine (Tm.good_f gt)
    refine Ex_cons (Ex1_return (Ev_ifexp (c := t.f == "f") (τ₁ := τ) (Tst_cmp (Ev_at0 (Ev_name' (Tm.v_eq t) rfl rfl) rfl) Ev_str (Cmp_eq fx f2 (by simp [V.py, PyData.depth]) rfl)) (fun h => ?_) (fun h => ?_)) own ⟨rfl, rfl⟩)
    · have h := eq_of_beq h
      obtain ⟨k, e2⟩ : ∃ k, t.ks = [k] := List.length_eq_one_iff.mp (ht.f h)
      have hk : Kt k := ⟨ht.sm.kid (by rw [e2]; exact List.mem_cons_self), ht_kids ht.kt.ht k (by rw [e2]; exact List.mem_cons_self)⟩
      have e3 : t.v = .tup [.str t.f, k.v] := by rw [Tm.v_eq, e2]; rfl
      rw [fit_one (h.trans ef.symm) e e2]
      exact Ev_call g_bound (isFun_of rfl) (spec_bound (n := n) hx ok hk τ) (EvL_cons (Ev_name rfl rfl) (EvL_cons (Ev_at0 (Ev_at1 (Ev_name' e0 rfl rfl) rfl) rfl) (EvL_cons (Ev_at1 (Ev_name' e3 rfl rfl) rfl) EvL_nil))) rfl
    · rw [fit_no fun z => (ne_of_beq_false h) (z.1.trans ef)]
      exact Ev_none
end
end Mine
namespace Mine

structure Kids (l : List Tm) : Prop where
  kid : ∀ u ∈ l, Kid u
  sz : sizeL l < 59
theorem Kids.lf {l : List Tm} (h : Kids l) : Lf l := ⟨fun u hu => (h.kid u hu).sm, fun u hu => (h.kid u hu).ht, fun u hu => (h.kid u hu).fl, h.sz⟩
theorem Kids.erase {l : List Tm} {u : Tm} (h : Kids l) (hu : u ∈ l) : Kids (eraseT u l) := by
  have p := eraseT_perm hu
  have e := sizeL_perm p
  have := h.sz
  have := size_pos u
  exact ⟨fun v hv => h.kid v (eraseT_mem hv), by simp only [sizeL] at e; lia⟩
theorem chT_inv {solid : List Tm} {rows : List (Tb × List Tm)} (hs : ∀ p ∈ solid, Sol p) (hr : ∀ r ∈ rows, TbOk r.1 ∧ Kids r.2) : ∀ r ∈ chT solid rows, TbOk r.1 ∧ Kids r.2 := by
  induction solid generalizing rows with
  | nil => exact hr
  | cons p s ih =>
    refine ih (rows := rows.flatMap fun r : Tb × List Tm => solT r.1 p r.2) (fun q hq => hs q (List.mem_cons_of_mem _ hq)) fun r h => ?_
    obtain ⟨r', hr', h⟩ := List.mem_flatMap.mp h
    obtain ⟨u, hu, h⟩ := List.mem_flatMap.mp h
    obtain ⟨b, hb, rfl⟩ := List.mem_map.mp h
    obtain ⟨a, k⟩ := hr r' hr'
    have um := (nubG_mem _).mp hu
    have e : extT r'.1 p u = fit r'.1 p u := by unfold extT; rw [if_neg (by rw [(hs p List.mem_cons_self).so.nv]; decide)]
    exact ⟨extT_ok (.inr (hs p List.mem_cons_self).so) a (k.kid u um).kt (e ▸ (by simpa using hb)), k.erase um⟩
theorem chT_len {solid : List Tm} {rows : List (Tb × List Tm)} {k : Nat} (hs : ∀ p ∈ solid, Sol p) (hr : ∀ r ∈ rows, TbOk r.1 ∧ Kids r.2) : (chT solid rows).length ≤ rows.length * 59 ^ solid.length := by
  induction solid generalizing rows with
  | nil => simp [chT]
  | cons p s ih =>
    have inv := chT_inv (solid := [p]) (rows := rows) (fun q hq => hs q (by rw [List.mem_singleton.mp hq]; exact List.mem_cons_self)) hr
    have a := ih (rows := rows.flatMap fun r : Tb × List Tm => solT r.1 p r.2) (fun q hq => hs q (List.mem_cons_of_mem _ hq)) fun r h => inv r h
    have b := flatMap_len (f := fun r : Tb × List Tm => solT r.1 p r.2) (k := 59) (l := rows) fun r h => Nat.le_trans (solT_len _ _ _) (Nat.le_of_lt (hr r h).2.lf.len)
    refine Nat.le_trans a (Nat.le_trans (Nat.mul_le_mul_right _ b) ?_)
    rw [List.length_cons, Nat.pow_succ, Nat.mul_assoc, Nat.mul_comm 59]
    exact Nat.le_refl _
noncomputable def spT (wide : Nat) : Nat → List (List Nat)
  | 0 => [[]]
  | m + 1 => (spT wide m).flatMap fun row => (List.range wide).map fun k => row ++ [k]
noncomputable def spV (s : List Nat) : V := .tup (s.map fun (k : Nat) => .int (k : Int))
theorem spT_len (wide : Nat) : ∀ m, (spT wide m).length = wide ^ m
  | 0 => rfl
  | m + 1 => by
    rw [spT, Nat.pow_succ, ← spT_len wide m]
    generalize spT wide m = rows
    induction rows with
    | nil => simp
    | cons x r ih => rw [List.flatMap_cons, List.length_append, ih, List.length_map, List.length_range, List.length_cons, Nat.succ_mul, Nat.add_comm]
theorem spT_mem {wide : Nat} : ∀ {m : Nat} {s : List Nat}, s ∈ spT wide m ↔ s.length = m ∧ ∀ k ∈ s, k < wide
  | 0, s => by
    show s ∈ [[]] ↔ _
    rw [List.mem_singleton]
    constructor
    · rintro rfl; exact ⟨rfl, fun _ h => (nomatch h)⟩
    · rintro ⟨h, _⟩; exact List.eq_nil_of_length_eq_zero h
  | m + 1, s => by
    rw [spT, List.mem_flatMap]
    constructor
    · rintro ⟨row, hr, h⟩
      obtain ⟨k, hk, rfl⟩ := List.mem_map.mp h
      obtain ⟨a, b⟩ := spT_mem.mp hr
      refine ⟨by rw [List.length_append, a]; rfl, fun j hj => ?_⟩
      rcases List.mem_append.mp hj with hj | hj
      · exact b j hj
      · rw [List.mem_singleton.mp hj]; exact List.mem_range.mp hk
    · rintro ⟨h, hk⟩
      have ne : s ≠ [] := fun e => by subst e; cases h
      have e := List.dropLast_concat_getLast ne
      refine ⟨s.dropLast, spT_mem.mpr ⟨by rw [List.length_dropLast, h]; rfl, fun k h => hk k (List.dropLast_subset s h)⟩, List.mem_map.mpr ⟨s.getLast ne, List.mem_range.mpr (hk _ (List.getLast_mem ne)), e⟩⟩

section
variable {w : World} {mg mb : Str → Option Value} {T : Option Addr} {cells : List V} {n : Nat}
theorem spec_chosen {solid kids : List Tm} (hs : ∀ p ∈ solid, Sol p) (ls : solid.length ≤ 2) (hk : Kids kids) (τ : Option Nat) :
    FnSpec (cx2 w mg mb T cells) (n + 3) (.ref 258) [.lst (solid.map Tm.v), .lst (kids.map Tm.v)] τ (.lst ((chT solid [([], kids)]).map rwL)) τ := by
  have D : FnData (cx2 w mg mb T cells) 258 _ _ ["solid", "kids"] := fnData_of rfl rfl rfl rfl rfl rfl rfl rfl rfl (bindL2 rfl fun _ _ => rfl) rfl (by decide)
  refine fn_spec D rfl (by simp [own_lst]) fun L cs => ?_
  refine Ex_cons (Ex1_assign (y := .lst [rwL ([], kids)]) (EvN.ev (EvN_list (EvL_cons (Ev_tuple (ys := [.dct [], .lst (kids.map Tm.v)]) (EvL_cons Ev_dict0 (EvL_cons (Ev_name rfl rfl) EvL_nil)) rfl (by simp)) EvL_nil) rfl (by simp))) rfl rfl ?_)
  refine Ex_cons (Ex1_for (items := solid.map Tm.v) (τ₁ := τ) (IterE.of (Ev_name rfl rfl) IterOf_lst) ?_)
  have r0 : ∀ r ∈ [(([] : Tb), kids)], TbOk r.1 ∧ Kids r.2 := fun r hr => by rw [List.mem_singleton.mp hr]; exact ⟨TbOk.nil, hk⟩
  refine FRun_ind (I := fun i σ => σ.lookup ("rows" : Str) = some (V.lst ((chT (solid.take i) [([], kids)]).map rwL))) rfl (fun i y σ hy hI P' hP' => ?_) (fun σ' hI => ?_)
  · rw [List.getElem?_map] at hy
    obtain ⟨p, hu, rfl⟩ := Option.map_eq_some_iff.mp hy
    have sp := hs p (List.mem_of_getElem? hu)
    have inv := chT_inv (solid := solid.take i) (fun q hq => hs q (List.mem_of_mem_take hq)) r0
    have est : chT (solid.take (i + 1)) [([], kids)] = (chT (solid.take i) [([], kids)]).flatMap fun r => solT r.1 p r.2 := by
      unfold chT; rw [List.take_add_one, hu, List.foldl_append]; rfl
    have bl := chT_len (k := 0) (solid := solid.take (i + 1)) (fun q hq => hs q (List.mem_of_mem_take hq)) r0
    have b2 : 59 ^ (solid.take (i + 1)).length ≤ 59 ^ 2 := Nat.pow_le_pow_right (by decide) (by rw [List.length_take]; lia)
    rw [est] at bl hP'
    rw [List.length_singleton, Nat.one_mul] at bl
    generalize chT (solid.take i) [([], kids)] = rows at *
    refine FTurn_name (Ex_cons (Ex1_assign_own (ys := []) (EvN_list EvL_nil rfl (by simp)) rfl ?_))
    refine Ex_cons (Ex1_for (items := rows.map rwL) (τ₁ := τ) (IterE.of (Ev_name (lk (lk hI rfl) rfl) rfl) IterOf_lst) ?_)
    refine FRun_ind (I := fun j σ => σ.lookup ("late" : Str) = some (V.oL (((rows.take j).flatMap fun r => solT r.1 p r.2).map rwL)) ∧ σ.lookup ("slot" : Str) = some p.v) ⟨rfl, rfl⟩ (fun j y σ2 hy hI2 P2 hP2 => ?_) (fun σ2 hI2 => ?_)
    · obtain ⟨j1, j2⟩ := hI2
      rw [List.getElem?_map] at hy
      obtain ⟨⟨tb, left⟩, hr, rfl⟩ := Option.map_eq_some_iff.mp hy
      obtain ⟨ok, kk⟩ := inv _ (List.mem_of_getElem? hr)
      have kk : Kids left := kk
      have ok : TbOk tb := ok
      have ln := kk.lf.len
      have gl : ∀ u ∈ left, u.good = true := fun u hu => (kk.kid u hu).sm.good
      have lz : (left.map Tm.v).length ≤ sizeLine := by rw [List.length_map, sizeLine_eq]; (exact Nat.le_of_lt (Nat.lt_of_lt_of_le (by assumption) (by decide)))
      have fj : (rows.take (j + 1)).flatMap (fun r => solT r.1 p r.2) = (rows.take j).flatMap (fun r => solT r.1 p r.2) ++ (nubG left).flatMap (solG tb p left) := by
        rw [List.take_add_one, hr, List.flatMap_append]
        show _ ++ (solT tb p left ++ []) = _
        rw [List.append_nil]; rfl
      have bj := flat_take (f := fun r : Tb × List Tm => solT r.1 p r.2) rows j
      generalize (rows.take j).flatMap (fun r => solT r.1 p r.2) = base at *
      refine FTurn_pair (Ex_cons (Ex1_for (items := upto left.length) (τ₁ := τ) (IterE_range b_range (Ev_eq (Ev_builtin b_len (Bu_len (x := .lst (left.map Tm.v)) (xs := left.map Tm.v) rfl lz) (EvL_cons (Ev_name lookup_cons_eq rfl) EvL_nil) rfl) (by rw [List.length_map])) rfl (by rw [sizeLine_eq]; (exact Nat.le_of_lt (Nat.lt_of_lt_of_le (by assumption) (by decide))))) ?_))
      refine FRun_ind (I := fun k σ => σ.lookup ("late" : Str) = some (V.oL ((base ++ (nubG (left.take k)).flatMap (solG tb p left)).map rwL)) ∧ σ.lookup ("slot" : Str) = some p.v ∧ σ.lookup ("table" : Str) = some (tbV tb) ∧ σ.lookup ("left" : Str) = some (.lst (left.map Tm.v)))
        ⟨by rw [show nubG (left.take 0) = [] from rfl]; simpa using lk (lk j1 rfl) rfl, lk (lk j2 rfl) rfl, rfl, rfl⟩ (fun k y σ3 hy hI3 P3 hP3 => ?_) (fun σ3 hI3 => ?_)
      · obtain ⟨k1, k2, k3, k4⟩ := hI3
        have hk' : k < left.length := by
          have := (List.getElem?_eq_some_iff.mp hy).1
          unfold upto at this; rw [List.length_map, List.length_range] at this; exact this
        have ey : y = .int (k : Int) := by
          unfold upto at hy
          rw [List.getElem?_map, List.getElem?_range hk'] at hy
          cases hy; rfl
        subst ey
        obtain ⟨u, eu⟩ : ∃ u, left[k]? = some u := ⟨_, List.getElem?_eq_getElem hk'⟩
        have um := List.mem_of_getElem? eu
        have ek : left.take (k + 1) = left.take k ++ [u] := by rw [List.take_add_one, eu]; rfl
        have nk := nubG_len (left.take k)
        have bk := flatMap_len (f := solG tb p left) (k := 1) (l := nubG (left.take k)) fun u _ => solG_len tb p left u
        have tk : (left.take k).length ≤ 59 := by rw [List.length_take]; lia
        have gt : ∀ v ∈ left.take k, v.good = true := fun v hv => gl v (List.mem_of_mem_take hv)
        have ei : (left.map Tm.v)[k]? = some u.v := by rw [List.getElem?_map, eu]; rfl
        have e63 : ((k : Nat) : Int) < 2 ^ 63 := by lia
        have kd := kk.kid u um
        classical
        let o : Option Tb := if u ∈ left.take k then none else fit tb p u
        have eo : (nubG (left.take (k + 1))).flatMap (solG tb p left) = (nubG (left.take k)).flatMap (solG tb p left) ++ o.toList.map fun b => (b, left.take k ++ left.drop (k + 1)) := by
          rw [ek, nubG_snoc]
          by_cases q : u ∈ left.take k
          · rw [addG_in ((nubG_mem _).mpr q), show o = none from if_pos q]; exact (List.append_nil _).symm
          · rw [addG_new (fun z => q ((nubG_mem _).mp z)), List.flatMap_append, show o = fit tb p u from if_neg q, ← erase_at eu q]
            rw [List.flatMap_cons, List.flatMap_nil, List.append_nil]; rfl
        have oo : (optB o).own = false := by cases o <;> rfl
        refine FTurn_name (Ex_cons (Ex1_assign (τ₁ := τ) (y := optB o) (Ev_ifexp (c := (pyL ((left.take k).map Tm.v)).any fun y => PyData.eqv y u.v.py) (τ₁ := τ) (Tst_cmp (Ev_itemN (k := k) (Ev_name (lk k4 rfl) rfl) (Ev_name lookup_cons_eq rfl) rfl ei e63) (Ev_eq (Ev_upto (k := k) (Ev_name (lk k4 rfl) rfl) (Ev_name lookup_cons_eq rfl) lz) (by rw [List.map_take]))
          (Cmp_in_lst (srt_fine (Tm.srt kd.sm.good)) (fine_lst gt) (by have := kd.kt.dep; (exact Nat.le_trans (by assumption) (by decide))) rfl)) (fun h => ?_) (fun h => ?_)) oo rfl ?_))
        · rw [show o = none from if_pos ((mem_any kd.sm.good gt).mp h)]; exact Ev_none
        · rw [show o = fit tb p u from if_neg fun z => by rw [(mem_any kd.sm.good gt).mpr z] at h; cases h]
          exact Ev_call g_fitted (isFun_of rfl) (spec_fitted (n := n) sp ok kd τ) (EvL_cons (Ev_name (lk k3 rfl) rfl) (EvL_cons (Ev_name (lk k2 rfl) rfl) (EvL_cons (Ev_itemN (k := k) (Ev_name (lk k4 rfl) rfl) (Ev_name lookup_cons_eq rfl) rfl ei e63) EvL_nil))) rfl
        · clear_value o
          cases o with
          | none =>
            refine Ex_cons (Ex1_if (c := false) (τ₁ := τ) (Tst_cmp (Ev_name lookup_cons_eq rfl) Ev_none (Cmp_isNot_none rfl rfl)) (fun h => by cases h) (fun _ => Ex_nil (Ex_nil (hP3 _ ⟨?_, lk (lk k2 rfl) rfl, lk (lk k3 rfl) rfl, lk (lk k4 rfl) rfl⟩))))
            rw [eo, show (none : Option Tb).toList.map (fun b => (b, left.take k ++ left.drop (k + 1))) = [] from rfl, List.append_nil]
            exact lk (lk k1 rfl) rfl
          | some b =>
            refine Ex_cons (Ex1_if (c := true) (τ₁ := τ) (Tst_cmp (Ev_name lookup_cons_eq rfl) Ev_none (Cmp_isNot_none rfl rfl)) (fun _ => ?_) (fun h => by cases h))
            refine Ex_cons (Ex1_append (τ₁ := τ) (y := rwL (b, left.take k ++ left.drop (k + 1))) (Ev_tuple (ys := [tbV b, .lst ((left.take k ++ left.drop (k + 1)).map Tm.v)]) (EvL_cons (Ev_name lookup_cons_eq rfl) (EvL_cons (Ev_eq (Ev_bin (Ev_upto (k := k) (Ev_name (lk (lk k4 rfl) rfl) rfl) (Ev_name (lk lookup_cons_eq rfl) rfl) lz)
              (Ev_from (k := k + 1) (Ev_name (lk (lk k4 rfl) rfl) rfl) (Ev_eq (Ev_bin (Ev_name (lk lookup_cons_eq rfl) rfl) Ev_int Bin_add_int) rfl) lz) (Bin_add_lst ?_)) (by rw [List.map_append, List.map_take, List.map_drop])) EvL_nil)) rfl (by simp)) rfl (lk (lk k1 rfl) rfl) ?_ (Ex_nil (Ex_nil (hP3 _ ⟨?_, lk (lk (lk k2 rfl) rfl) rfl, lk (lk (lk k3 rfl) rfl) rfl, lk (lk (lk k4 rfl) rfl) rfl⟩))) rfl)
            · have a1 := List.length_take_le k (left.map Tm.v)
              rw [List.length_drop, List.length_take, List.length_map, sizeLine_eq]; lia
            · rw [List.length_map, List.length_append, sizeLine_eq]; lia
            · rw [lookup_cons_eq, eo, List.map_append, List.map_append, List.map_append, List.append_assoc]; rfl
      · obtain ⟨k1, k2, _⟩ := hI3
        have e : (upto left.length).length = left.length := by unfold upto; rw [List.length_map, List.length_range]
        rw [e, List.take_length, ← fj] at k1
        exact Ex_nil (hP2 _ ⟨k1, k2⟩)
    · obtain ⟨j1, _⟩ := hI2
      rw [List.length_map, List.take_length] at j1
      exact Ex_freeze j1 rfl (Ex_cons (Ex1_assign (Ev_name lookup_cons_eq rfl) rfl rfl (Ex_nil (hP' _ lookup_cons_eq))))
  · rw [List.length_map, List.take_length] at hI
    exact Ex_cons (Ex1_return (Ev_name hI rfl) rfl ⟨rfl, rfl⟩)
theorem spec_spreads {wide many : Nat} (h : wide ^ many ≤ 1000) (hw : 0 < wide) (hm : many ≤ 59) (τ : Option Nat) : FnSpec (cx2 w mg mb T cells) (n + 1) (.ref 263) [.int (wide : Int), .int (many : Int)] τ (.lst ((spT wide many).map spV)) τ := by
  have D : FnData (cx2 w mg mb T cells) 263 _ _ ["wide", "many"] := fnData_of rfl rfl rfl rfl rfl rfl rfl rfl rfl (bindL2 rfl fun _ _ => rfl) rfl (by decide)
  refine fn_spec D rfl (by simp [own_int]) fun L cs => ?_
  refine Ex_cons (Ex1_assign (y := .lst [spV []]) (EvN.ev (EvN_list (EvL_cons (Ev_tuple EvL_nil) EvL_nil) rfl (by simp))) rfl rfl ?_)
  refine Ex_cons (Ex1_for (items := upto many) (τ₁ := τ) (IterE_range b_range (Ev_name rfl rfl) rfl (by rw [sizeLine_eq]; (exact Nat.le_trans (by assumption) (by decide)))) ?_)
  refine FRun_ind (I := fun i σ => σ.lookup ("rows" : Str) = some (V.lst ((spT wide i).map spV)) ∧ σ.lookup ("wide" : Str) = some (.int (wide : Int))) ⟨rfl, rfl⟩ (fun i y σ hy hI P' hP' => ?_) (fun σ' hI => ?_)
  · obtain ⟨i1, i2⟩ := hI
    have hi : i < many := by
      have := (List.getElem?_eq_some_iff.mp hy).1
      unfold upto at this; rw [List.length_map, List.length_range] at this; exact this
    have wl : wide ^ (i + 1) ≤ 1000 := Nat.le_trans (Nat.pow_le_pow_right hw hi) h
    have w1 : wide ≤ 1000 := Nat.le_trans (Nat.le_of_eq (Nat.pow_one wide).symm) (Nat.le_trans (Nat.pow_le_pow_right hw (by lia)) h)
    have ll : ((spT wide (i + 1)).map spV).length ≤ sizeLine := by rw [List.length_map, spT_len, sizeLine_eq]; (exact Nat.le_trans (by assumption) (by decide))
    refine FTurn_name (Ex_cons (Ex1_comp2 (ys := (spT wide (i + 1)).map spV) (items := (spT wide i).map spV) (τ₁ := τ) (τ₂ := τ) (σ' := [("wide", .int (wide : Int))])
      (IterE.of (Ev_name (lk i1 rfl) rfl) IterOf_lst) (Filt.add Filt.nil rfl (lk i2 rfl) rfl) ?_ ll ?_))
    · rw [spT, List.map_flatMap]
      refine Turns.flat fun row hr => CTurn_name (CAct_nest1 (τ₁ := τ) (items := upto wide) (fun L cs => IterE_range b_range (Ev_name rfl rfl) rfl (by rw [sizeLine_eq]; (exact Nat.le_trans (by assumption) (by decide)))) ?_)
      rw [List.map_map]
      have rl := (spT_mem.mp hr).1
      refine Turns.over fun k hk => CTurn_name (CAct_emit (fun L cs => Ev_eq (Ev_bin (Ev_name rfl rfl) (Ev_tuple (ys := [.int (k : Int)]) (EvL_cons (Ev_name rfl rfl) EvL_nil) rfl (by simp)) (Bin_add_tup (by rw [List.length_map, rl, sizeLine_eq]; simp; lia))) ?_) rfl rfl)
      show _ = spV _
      unfold spV; rw [List.map_append]; rfl
    · exact Ex_freeze lookup_cons_eq rfl (Ex_nil (hP' _ ⟨lookup_cons_eq, lk (lk (lk i2 rfl) rfl) rfl⟩))
  · have e : (upto many).length = many := by unfold upto; rw [List.length_map, List.length_range]
    rw [e] at hI
    exact Ex_cons (Ex1_return (Ev_name hI.1 rfl) rfl ⟨rfl, rfl⟩)
end
end Mine
namespace Mine

noncomputable def lotOf (left : List Tm) (sp : List Nat) (p : Nat) : List Tm := ((List.range left.length).filter fun k => decide (sp.getD k 0 = p)).map fun k => left.getD k default
noncomputable def lotsOf (left : List Tm) (sp : List Nat) (wide : Nat) : List (List Tm) := (List.range wide).map (lotOf left sp)
noncomputable def oneS (o : Option Tb) (z : Str × List Tm) : Option Tb := o.bind fun tb => bound tb z.1 (sumT z.2)
open Classical in
noncomputable def oneOf (names : List Str) (tb : Tb) (lots : List (List Tm)) : Option Tb := (names.zip lots).foldl oneS (if [] ∈ lots then none else some tb)
noncomputable def dueG (names : List Str) (tb : Tb) (left : List Tm) (sp : List Nat) : List Tb := (oneOf names tb (lotsOf left sp names.length)).toList.map rT
noncomputable def dueH (names : List Str) (r : Tb × List Tm) : List Tb := (spT names.length r.2.length).flatMap (dueG names r.1 r.2)
noncomputable def dueR (solid : List Tm) (names : List Str) (kids : List Tm) : List Tb := (chT solid [([], kids)]).flatMap (dueH names)
noncomputable def outV (rows : List Tb) : V := .lst ((ordBy krV rows).map rowVV)
theorem sizeL_sub {a b : List Tm} (h : a.Sublist b) : sizeL a ≤ sizeL b := by
  induction h with
  | slnil => exact Nat.le_refl _
  | cons x _ ih => exact Nat.le_trans ih (Nat.le_add_left _ _)
  | cons_cons x _ ih => exact Nat.add_le_add_left ih _
theorem Kids.sub {a b : List Tm} (h : Kids b) (s : a.Sublist b) : Kids a := ⟨fun u hu => h.kid u (s.subset hu), Nat.lt_of_le_of_lt (sizeL_sub s) h.sz⟩
theorem lotOf_sub (left : List Tm) (sp : List Nat) (p : Nat) : (lotOf left sp p).Sublist left := by
  have := (List.filter_sublist (p := fun k => decide (sp.getD k 0 = p)) (l := List.range left.length)).map fun k => left.getD k default
  rw [range_getD] at this
  exact this
theorem fine_lots {lots : List (List Tm)} (h : ∀ l ∈ lots, ∀ u ∈ l, u.good = true) : (V.lst (lots.map fun l => V.lst (l.map Tm.v))).fine = true := by
  have a : plainL (lots.map fun l => V.lst (l.map Tm.v)) = true := by
    induction lots with
    | nil => rfl
    | cons x r ih =>
      have p : plainL (x.map Tm.v) = true := srtL_plain (srtL_v (h x List.mem_cons_self))
      simp [plainL, V.plain, p, ih fun l hl => h l (List.mem_cons_of_mem _ hl)]
  have b : PyData.canLayAll0 (pyL (lots.map fun l => V.lst (l.map Tm.v))) = true := by
    clear a
    induction lots with
    | nil => rfl
    | cons x r ih =>
      have p : PyData.canLayAll0 (pyL (x.map Tm.v)) = true := srtL_lay (srtL_v (h x List.mem_cons_self))
      simp [pyL, V.py, PyData.canLayAll0, PyData.canLay0, p, ih fun l hl => h l (List.mem_cons_of_mem _ hl)]
  unfold V.fine
  simp [V.plain, V.py, PyData.canLay0, a, b]
open Classical in
theorem nil_any (lots : List (List Tm)) : ((pyL (lots.map fun l => V.lst (l.map Tm.v))).any fun y => PyData.eqv y (V.lst []).py) = decide ([] ∈ lots) := by
  induction lots with
  | nil => rfl
  | cons x r ih =>
    simp only [List.map_cons, pyL, List.any_cons, ih]
    cases x with
    | nil => simp [V.py, pyL, PyData.eqv, PyData.eqvAll]
    | cons a b => simp [V.py, pyL, PyData.eqv, PyData.eqvAll]
theorem oneS_ok {names : List Str} {lots : List (List Tm)} {o : Option Tb} (hn : ∀ x ∈ names, isVarN x = true) (hl : ∀ l ∈ lots, Lf l) (ho : ∀ tb, o = some tb → TbOk tb) : ∀ tb, (names.zip lots).foldl oneS o = some tb → TbOk tb := by
  induction names generalizing lots o with
  | nil => exact ho
  | cons x s ih =>
    cases lots with
    | nil => exact ho
    | cons l r =>
      refine ih (lots := r) (o := oneS o (x, l)) (fun y hy => hn y (List.mem_cons_of_mem _ hy)) (fun y hy => hl y (List.mem_cons_of_mem _ hy)) fun tb e => ?_
      cases o with
      | none => cases e
      | some tb0 => exact (ho tb0 rfl).bound (hn x List.mem_cons_self) (madeT_sum (hl l List.mem_cons_self).fl ▸ (hl l List.mem_cons_self).kt) e

theorem FRun_fold {α β : Type} {B : V → List (Str × V) → Option Nat → (Out → Prop) → Prop} {τ : Option Nat} {P : Out → Prop} (f : α → V) (g : β → α → β) (R : β → List (Str × V) → Prop) : ∀ {l : List α} {b : β} {σ : List (Str × V)}, R b σ →
    (∀ x ∈ l, ∀ b σ, R b σ → ∀ P' : Out → Prop, (∀ σ', R (g b x) σ' → P' (.next σ' τ)) → B (f x) σ τ P') → (∀ σ', R (l.foldl g b) σ' → P (.next σ' τ)) → FRun B (l.map f) σ τ P
  | [], b, σ, h0, step, fin => fin σ h0
  | x :: r, b, σ, h0, step, fin => step x List.mem_cons_self b σ h0 _ fun σ' h' => FRun_fold f g R h' (fun y hy => step y (List.mem_cons_of_mem _ hy)) fin
theorem Cmp_is_none {C : Cx} {n : Nat} {x : V} {b : Bool} (p : x.pure = true) (hb : (match x with | .none => true | _ => false) = b) : CmpR C n .Is x .none b := fun A R M s u v ru rv => by
  have rv' : Rp C (hid s.heap M) v .none := rv
  cases rv'
  refine is_none ⟨?_, kpRfl s⟩
  have ru' := (rep_pure p).mp ru
  subst hb
  cases ru' <;> rfl
theorem getD_some {α : Type} {l : List α} {d : α} {i : Nat} (h : i < l.length) : l[i]? = some (l.getD i d) := by
  rw [List.getD_eq_getElem?_getD, List.getElem?_eq_getElem h]; rfl
section
variable {w : World} {mg mb : Str → Option Value} {T : Option Addr} {cells : List V} {n : Nat}
theorem spec_due {solid kids : List Tm} {names : List Str} (hs : ∀ p ∈ solid, Sol p) (ls : solid.length ≤ 2) (hk : Kids kids) (hn : ∀ x ∈ names, isVarN x = true) (n0 : 0 < names.length) (n3 : names.length ≤ 3)
    (hp : ∀ r ∈ chT solid [([], kids)], names.length ^ r.2.length ≤ 1000) (h64 : (nubG (dueR solid names kids)).length < 64) (τ : Option Nat) :
    FnSpec (cx2 w mg mb T cells) (n + 60) (.ref 268) [.lst (solid.map Tm.v), .lst (names.map V.str), .lst (kids.map Tm.v)] τ (outV (nubG (dueR solid names kids))) τ := by
  have D : FnData (cx2 w mg mb T cells) 268 _ _ ["solid", "names", "kids"] := fnData_of rfl rfl rfl rfl rfl rfl rfl rfl rfl (bindL3 rfl fun _ _ _ => rfl) rfl (by decide)
  refine fn_spec D rfl (by simp [own_lst]) fun L cs => ?_
  have inv := chT_inv hs (rows := [([], kids)]) fun r hr => by rw [List.mem_singleton.mp hr]; exact ⟨TbOk.nil, hk⟩
  have oneok : ∀ r ∈ chT solid [([], kids)], ∀ sp, ∀ tb, oneOf names r.1 (lotsOf r.2 sp names.length) = some tb → TbOk tb := fun r hr sp tb e => by
    refine oneS_ok hn (fun l hl => ?_) ?_ tb e
    · obtain ⟨p, _, rfl⟩ := List.mem_map.mp hl
      exact ((inv r hr).2.sub (lotOf_sub _ _ _)).lf
    · intro tb' e'
      split at e'
      · cases e'
      · cases e'; exact (inv r hr).1
  have rok : ∀ r ∈ dueR solid names kids, TbOk r := fun r hr => by
    obtain ⟨c, hc, hr⟩ := List.mem_flatMap.mp hr
    obtain ⟨sp, _, hr⟩ := List.mem_flatMap.mp hr
    obtain ⟨tb, ht, rfl⟩ := List.mem_map.mp hr
    exact (oneok c hc sp tb (by simpa using ht)).row
  have kd : ∀ l : List Tb, (∀ r ∈ l, r ∈ dueR solid names kids) → KeysOk ((nubG l).map fun r => (rowVV r, V.bool true)) ∧ ((nubG l).map fun r => (rowVV r, V.bool true)).length ≤ 1000 := fun l h => by
    refine ⟨⟨fun p hp => ?_, ?_⟩, ?_⟩
    · obtain ⟨r, hr, rfl⟩ := List.mem_map.mp hp; exact row_keyOk (rok r (h r ((nubG_mem l).mp hr)))
    · rw [List.map_map]
      exact List.Pairwise.map (fun r => rowVV r) (fun a b ne e => ne (rowVV_inj e)) (nubG_nodup l)
    · have := nodup_le (m := nubG (dueR solid names kids)) (nubG_nodup l) fun x hx => (nubG_mem _).mpr (h x ((nubG_mem l).mp hx))
      rw [List.length_map]; (exact Nat.le_trans (by assumption) (Nat.le_trans (Nat.le_of_lt (by assumption)) (by decide)))
  have nz : (names.map V.str).length ≤ sizeLine := by rw [List.length_map, sizeLine_eq]; (exact Nat.le_trans (by assumption) (by decide))
  refine Ex_cons (Ex1_assign_dict0 rfl ?_)
  refine Ex_cons (Ex1_for (items := (chT solid [([], kids)]).map rwL) (τ₁ := τ) (IterE.of (Ev_call g_chosen (isFun_of rfl) ((spec_chosen (n := 0) hs ls hk τ).le (by (exact Nat.le_add_left _ _))) (EvL_cons (Ev_name rfl rfl) (EvL_cons (Ev_name rfl rfl) EvL_nil)) rfl) IterOf_lst) ?_)
  refine FRun_ind (I := fun i σ => σ.lookup ("found" : Str) = some (V.oD ((nubG (((chT solid [([], kids)]).take i).flatMap (dueH names))).map fun r => (rowVV r, V.bool true))) ∧ σ.lookup ("names" : Str) = some (.lst (names.map V.str))) ⟨rfl, rfl⟩ (fun i y σ hy hI P' hP' => ?_) (fun σ' hI => ?_)
  · obtain ⟨i1, i2⟩ := hI
    rw [List.getElem?_map] at hy
    obtain ⟨⟨tb, left⟩, hu, rfl⟩ := Option.map_eq_some_iff.mp hy
    have rm := List.mem_of_getElem? hu
    obtain ⟨ok, kk⟩ := inv _ rm
    have kk : Kids left := kk
    have ok : TbOk tb := ok
    have pw := hp _ rm
    have ok1 := oneok _ rm
    have ln := kk.lf.len
    have lz : (left.map Tm.v).length ≤ sizeLine := by rw [List.length_map, sizeLine_eq]; (exact Nat.le_of_lt (Nat.lt_of_lt_of_le (by assumption) (by decide)))
    have et : ((chT solid [([], kids)]).take (i + 1)).flatMap (dueH names) = ((chT solid [([], kids)]).take i).flatMap (dueH names) ++ (spT names.length left.length).flatMap (dueG names tb left) := by
      rw [List.take_add_one, hu, List.flatMap_append]
      show _ ++ (dueH names (tb, left) ++ []) = _
      rw [List.append_nil]; rfl
    have sub0 : ∀ r ∈ ((chT solid [([], kids)]).take i).flatMap (dueH names), r ∈ dueR solid names kids := fun r hr => by
      obtain ⟨c, hc, hr⟩ := List.mem_flatMap.mp hr
      exact List.mem_flatMap.mpr ⟨c, List.mem_of_mem_take hc, hr⟩
    have sub1 : ∀ sp ∈ spT names.length left.length, ∀ r ∈ dueG names tb left sp, r ∈ dueR solid names kids := fun sp hs r hr => List.mem_flatMap.mpr ⟨_, rm, List.mem_flatMap.mpr ⟨sp, hs, hr⟩⟩
    rw [et] at hP'
    generalize ((chT solid [([], kids)]).take i).flatMap (dueH names) = base at *
    refine FTurn_pair (Ex_cons (Ex1_for (items := (spT names.length left.length).map spV) (τ₁ := τ) (IterE.of (Ev_call g_spreads (isFun_of rfl) ((spec_spreads (n := 0) pw n0 (by (exact Nat.le_of_lt (by assumption))) τ).le (by (exact Nat.le_add_left _ _)))
      (EvL_cons (Ev_eq (Ev_builtin b_len (Bu_len (x := .lst (names.map V.str)) (xs := names.map V.str) rfl nz) (EvL_cons (Ev_name (lk (lk i2 rfl) rfl) rfl) EvL_nil) rfl) (by rw [List.length_map])) (EvL_cons (Ev_eq (Ev_builtin b_len (Bu_len (x := .lst (left.map Tm.v)) (xs := left.map Tm.v) rfl lz) (EvL_cons (Ev_name lookup_cons_eq rfl) EvL_nil) rfl) (by rw [List.length_map])) EvL_nil)) rfl) IterOf_lst) ?_))
    refine FRun_ind (I := fun j σ => σ.lookup ("found" : Str) = some (V.oD ((nubG (base ++ ((spT names.length left.length).take j).flatMap (dueG names tb left))).map fun r => (rowVV r, V.bool true))) ∧ σ.lookup ("names" : Str) = some (.lst (names.map V.str)) ∧ σ.lookup ("table" : Str) = some (tbV tb) ∧ σ.lookup ("left" : Str) = some (.lst (left.map Tm.v)))
      ⟨by simpa using lk (lk i1 rfl) rfl, lk (lk i2 rfl) rfl, rfl, rfl⟩ (fun j y σ2 hy hI P2 hP2 => ?_) (fun σ2 hI => ?_)
    · obtain ⟨j1, j2, j3, j4⟩ := hI
      rw [List.getElem?_map] at hy
      obtain ⟨sp, hsp, rfl⟩ := Option.map_eq_some_iff.mp hy
      have sm := List.mem_of_getElem? hsp
      obtain ⟨sl, sb⟩ := spT_mem.mp sm
      have ej : ((spT names.length left.length).take (j + 1)).flatMap (dueG names tb left) = ((spT names.length left.length).take j).flatMap (dueG names tb left) ++ dueG names tb left sp := by
        rw [List.take_add_one, hsp, List.flatMap_append]
        show _ ++ (dueG names tb left sp ++ []) = _
        rw [List.append_nil]
      have subj : ∀ r ∈ base ++ ((spT names.length left.length).take j).flatMap (dueG names tb left), r ∈ dueR solid names kids := fun r hr => by
        rcases List.mem_append.mp hr with hr | hr
        · exact sub0 r hr
        · obtain ⟨s, hs, hr⟩ := List.mem_flatMap.mp hr
          exact sub1 s (List.mem_of_mem_take hs) r hr
      obtain ⟨kk1, kk2⟩ := kd _ subj
      rw [ej, ← List.append_assoc] at hP2
      clear ej
      generalize base ++ ((spT names.length left.length).take j).flatMap (dueG names tb left) = b2 at *
      unfold dueG at hP2
      have ok2 := ok1 sp
      have lk2 : ∀ l ∈ lotsOf left sp names.length, Kids l := fun l hl => by
        obtain ⟨p, _, rfl⟩ := List.mem_map.mp hl
        exact kk.sub (lotOf_sub _ _ _)
      have ll : (lotsOf left sp names.length).length = names.length := by unfold lotsOf; rw [List.length_map, List.length_range]
      -- the lots
      refine FTurn_name (Ex_cons (Ex1_comp1 (τ₁ := τ) (τ₂ := τ) (items := upto names.length) (ys := (lotsOf left sp names.length).map fun l => V.lst (l.map Tm.v)) (σ' := [("left", .lst (left.map Tm.v)), ("spread", spV sp)]) (IterE_range b_range (Ev_eq (Ev_builtin b_len (Bu_len (x := .lst (names.map V.str)) (xs := names.map V.str) rfl nz) (EvL_cons (Ev_name (lk j2 rfl) rfl) EvL_nil) rfl) (by rw [List.length_map])) rfl (by rw [sizeLine_eq]; (exact Nat.le_trans (by assumption) (by decide))))
        (Filt.add (Filt.add Filt.nil rfl lookup_cons_eq rfl) rfl (lk j4 rfl) rfl) ?_ (by rw [List.length_map, ll, sizeLine_eq]; (exact Nat.le_trans (by assumption) (by decide))) ?_))
      · unfold lotsOf
        rw [List.map_map]
        refine Turns.over (g := fun p : Nat => V.int (p : Int)) fun p hp => CTurn_name (CAct_emit (fun L cs => EvN.ev (EvN_comp1 (τ₁ := τ) (items := upto left.length) (ys := (lotOf left sp p).map Tm.v) (σ' := [("place", .int (p : Int)), ("left", .lst (left.map Tm.v)), ("spread", spV sp)])
          (IterE_range b_range (Ev_eq (Ev_builtin b_len (Bu_len (x := .lst (left.map Tm.v)) (xs := left.map Tm.v) rfl lz) (EvL_cons (Ev_name rfl rfl) EvL_nil) rfl) (by rw [List.length_map])) rfl (by rw [sizeLine_eq]; (exact Nat.le_of_lt (Nat.lt_of_lt_of_le (by assumption) (by decide))))) (Filt.add (Filt.add (Filt.add Filt.nil rfl rfl rfl) rfl rfl rfl) rfl rfl rfl) ?_ ?_)) rfl rfl)
        · unfold lotOf
          rw [List.map_map, filter_flat]
          refine Turns.flat (g := fun k : Nat => V.int (k : Int)) fun k hk => ?_
          have hk' := List.mem_range.mp hk
          refine CTurn_name (CAct_if (b := decide (sp.getD k 0 = p)) (τ₁ := τ) (y := (left.getD k default).v) (fun L cs => Tst_cmp (Ev_itemN (k := k) (xs := sp.map fun (k : Nat) => V.int (k : Int)) (x := spV sp) (y := .int ((sp.getD k 0 : Nat) : Int)) (Ev_name rfl rfl) (Ev_name rfl rfl) rfl (by rw [List.getElem?_map, getD_some (d := 0) (sl ▸ hk')]; rfl) (by lia)) (Ev_name rfl rfl) (Cmp_eq rfl rfl (by simp [V.py, PyData.depth]) ?_))
            (fun h => ⟨fun L cs => Ev_itemN (k := k) (xs := left.map Tm.v) (Ev_name rfl rfl) (Ev_name rfl rfl) rfl (by rw [List.getElem?_map, getD_some (d := default) hk']; rfl) (by lia), Tm.pure _, by rw [h]; rfl⟩) (fun h => ⟨rfl, by rw [h]; rfl⟩) rfl)
          by_cases q : sp.getD k 0 = p
          · rw [decide_eq_true q, q]; exact beq_iff_eq.mpr rfl
          · rw [decide_eq_false q]; exact beq_false_of_ne fun e => q (Int.ofNat.inj e)
        · have := (lotOf_sub left sp p).length_le
          rw [List.length_map, sizeLine_eq]; (exact Nat.le_trans (by assumption) (Nat.le_trans (Nat.le_of_lt (by assumption)) (by decide)))
      · refine Ex_freeze lookup_cons_eq rfl ?_
        have gl : ∀ l ∈ lotsOf left sp names.length, ∀ u ∈ l, u.good = true := fun l hl u hu => ((lk2 l hl).kid u hu).sm.good
        unfold oneOf at hP2 ok2
        generalize lotsOf left sp names.length = lots at *
        classical
        let o0 : Option Tb := if [] ∈ lots then none else some tb
        refine Ex_cons (Ex1_assign (τ₁ := τ) (y := optB o0) (Ev_ifexp (c := (pyL (lots.map fun l => V.lst (l.map Tm.v))).any fun y => PyData.eqv y (V.lst []).py) (τ₁ := τ) (Tst_cmp (EvN.ev (EvN_list EvL_nil rfl (by simp))) (Ev_name lookup_cons_eq rfl) (Cmp_in_lst rfl (fine_lots gl) (by simp [V.py, pyL, PyData.depth, PyData.depthAll]) rfl)) (fun h => ?_) (fun h => ?_)) ?_ rfl ?_)
        · rw [nil_any] at h
          rw [show o0 = none from if_pos (of_decide_eq_true h)]; exact Ev_none
        · rw [nil_any] at h
          rw [show o0 = some tb from if_neg (of_decide_eq_false h)]
          exact Ev_name (lk (lk (lk j3 rfl) rfl) rfl) rfl
        · cases o0 <;> rfl
        have z0 : ∀ tb', o0 = some tb' → TbOk tb' := fun tb' e => by
          by_cases q : [] ∈ lots
          · rw [show o0 = none from if_pos q] at e; cases e
          · rw [show o0 = some tb from if_neg q] at e; cases e; exact ok
        have zi : zipV (names.map V.str) (lots.map fun l => V.lst (l.map Tm.v)) = (names.zip lots).map fun z => V.tup [.str z.1, .lst (z.2.map Tm.v)] := by
          unfold zipV
          rw [List.zip_map, List.map_map]; rfl
        have hP3 : ∀ σ, σ.lookup ("found" : Str) = some (V.oD ((nubG (b2 ++ ((names.zip lots).foldl oneS o0).toList.map rT)).map fun r => (rowVV r, V.bool true))) ∧ σ.lookup ("names" : Str) = some (.lst (names.map V.str)) ∧ σ.lookup ("table" : Str) = some (tbV tb) ∧ σ.lookup ("left" : Str) = some (.lst (left.map Tm.v)) → P2 (.next σ τ) := fun σ h => hP2 σ h
        have ok3 : ∀ tb', (names.zip lots).foldl oneS o0 = some tb' → TbOk tb' := fun tb' e => ok2 tb' e
        clear hP2 ok2
        clear_value o0
        refine Ex_cons (Ex1_for (items := (names.zip lots).map fun z => V.tup [.str z.1, .lst (z.2.map Tm.v)]) (τ₁ := τ) (zi ▸ IterE_zip b_zip (EvL_cons (Ev_name (lk (lk (lk (lk j2 rfl) rfl) rfl) rfl) rfl) (EvL_cons (Ev_name (lk lookup_cons_eq rfl) rfl) EvL_nil)) (.inl rfl) (.inl rfl) (by rw [List.length_map, List.length_map, ll]) rfl) ?_)
        refine FRun_fold (fun z : Str × List Tm => V.tup [.str z.1, .lst (z.2.map Tm.v)]) oneS (R := fun o σ => σ.lookup ("one" : Str) = some (optB o) ∧ (∀ tb', o = some tb' → TbOk tb') ∧ σ.lookup ("found" : Str) = some (V.oD ((nubG b2).map fun r => (rowVV r, V.bool true))) ∧ σ.lookup ("names" : Str) = some (.lst (names.map V.str)) ∧ σ.lookup ("table" : Str) = some (tbV tb) ∧ σ.lookup ("left" : Str) = some (.lst (left.map Tm.v)))
          ⟨lookup_cons_eq, z0, lk (lk (lk (lk j1 rfl) rfl) rfl) rfl, lk (lk (lk (lk j2 rfl) rfl) rfl) rfl, lk (lk (lk (lk j3 rfl) rfl) rfl) rfl, lk (lk (lk (lk j4 rfl) rfl) rfl) rfl⟩ (fun z hz o σ3 hR P3 hP4 => ?_) (fun σ3 hR => ?_)
        · obtain ⟨a1, a2, a3, a4, a5, a6⟩ := hR
          obtain ⟨x, lot⟩ := z
          have hx := hn x (List.of_mem_zip hz).1
          have hlt := (lk2 lot (List.of_mem_zip hz).2).lf
          have kt : Kt (sumT lot) := madeT_sum hlt.fl ▸ hlt.kt
          have po : (optB o).pure = true := by cases o <;> rfl
          have oo : (optB (oneS o (x, lot))).own = false := by cases oneS o (x, lot) <;> rfl
          have nx : ∀ tb', oneS o (x, lot) = some tb' → TbOk tb' := fun tb' e => by
            cases o with
            | none => cases e
            | some tb0 => exact (a2 tb0 rfl).bound hx kt e
          refine FTurn_pair (Ex_cons (Ex1_assign (τ₁ := τ) (y := optB (oneS o (x, lot))) (Ev_ifexp (c := o.isNone) (τ₁ := τ) (Tst_cmp (Ev_name (lk (lk a1 rfl) rfl) rfl) Ev_none (Cmp_is_none po (by cases o <;> rfl))) (fun h => ?_) (fun h => ?_)) oo rfl (Ex_nil (hP4 _ ⟨lookup_cons_eq, nx, lk (lk (lk a3 rfl) rfl) rfl, lk (lk (lk a4 rfl) rfl) rfl, lk (lk (lk a5 rfl) rfl) rfl, lk (lk (lk a6 rfl) rfl) rfl⟩))))
          · cases o with
            | none => exact Ev_none
            | some tb0 => cases h
          · cases o with
            | none => cases h
            | some tb0 => exact Ev_call g_bound (isFun_of rfl) ((spec_bound (n := 0) hx (a2 tb0 rfl) kt τ).le (by (exact Nat.le_add_left _ _))) (EvL_cons (Ev_name (lk (lk a1 rfl) rfl) rfl) (EvL_cons (Ev_name (lk lookup_cons_eq rfl) rfl) (EvL_cons (Ev_call g_sum (isFun_of rfl) ((spec_sum (n := 0) hlt τ).le (by (exact Nat.le_add_left _ _))) (EvL_cons (Ev_name lookup_cons_eq rfl) EvL_nil) rfl) EvL_nil))) rfl
        · obtain ⟨a1, a2, a3, a4, a5, a6⟩ := hR
          generalize (names.zip lots).foldl oneS o0 = o at *
          cases o with
          | none =>
            refine Ex_cons (Ex1_if (c := false) (τ₁ := τ) (Tst_cmp (Ev_name a1 rfl) Ev_none (Cmp_isNot_none rfl rfl)) (fun h => by cases h) (fun _ => Ex_nil (Ex_nil (hP3 _ ⟨?_, a4, a5, a6⟩))))
            rw [show (none : Option Tb).toList.map rT = [] from rfl, List.append_nil]; exact a3
          | some tb' =>
            have tk := a2 tb' rfl
            have rl := tk.row.len
            refine Ex_cons (Ex1_if (c := true) (τ₁ := τ) (Tst_cmp (Ev_name a1 rfl) Ev_none (Cmp_isNot_none rfl rfl)) (fun _ => ?_) (fun h => by cases h))
            refine Ex_cons (Ex1_setitem (z := .bool true) (k := rowVV (rT tb')) (kvs := (nubG b2).map fun r => (rowVV r, V.bool true)) (τ₁ := τ) (τ₂ := τ) Ev_bool (Ev_type b_tuple (Bu_tuple (xs := (rT tb').map pairK) rfl (by rw [List.length_map, sizeLine_eq]; (exact Nat.le_trans (by assumption) (by decide)))) (EvL_cons (rT_v tb' ▸ EvN.ev (EvN_sorted_items (kvs := tvs tb') b_sorted a1 rfl tk.ndv (sortOk_items tk) rfl)) EvL_nil) rfl)
              a3 rfl (row_keyOk tk.row) kk1 kk2 (Ex_nil (Ex_nil (hP3 _ ⟨?_, lk a4 rfl, lk a5 rfl, lk a6 rfl⟩))) rfl)
            rw [lookup_cons_eq, show (some tb').toList.map rT = [rT tb'] from rfl, nubG_snoc, ← putV_add (f := rowVV) (g := fun _ => V.bool true) (fun x y => rowVV_inj)]
    · obtain ⟨j1, j2, _⟩ := hI
      rw [List.length_map, List.take_length] at j1
      exact Ex_nil (hP' _ ⟨j1, j2⟩)
  · obtain ⟨i1, _⟩ := hI
    rw [List.length_map, List.take_length] at i1
    have i1 : σ'.lookup ("found" : Str) = some (V.oD ((nubG (dueR solid names kids)).map fun r => (rowVV r, V.bool true))) := i1
    have rk : ∀ r ∈ nubG (dueR solid names kids), TbOk r := fun r hr => rok r ((nubG_mem _).mp hr)
    generalize nubG (dueR solid names kids) = rows at *
    have so := sortOk_rows rk h64
    have sg : SortG (cx2 w mg mb T cells) toL (rows.map krV) := so.toL fun x hx => by obtain ⟨r, hr, rfl⟩ := List.mem_map.mp hx; exact ⟨_, _, rfl⟩
    refine Ex_freezeD i1 rfl ?_
    have ef : (rows.map fun r => (rowVV r, V.bool true)).map (·.1) = rows.map rowVV := by rw [List.map_map]; rfl
    have it : IterOf (cx2 w mg mb T cells) (n + 59) (.dct (rows.map fun r => (rowVV r, V.bool true))) false (rows.map rowVV) := ef ▸ IterOf_dct
    have lo : (ordBy krV rows).length = rows.length := (ordBy_perm krV rows).length_eq
    have eo : (sortV (rows.map krV)).map toL = (ordBy krV rows).map fun r => toL (krV r) := by rw [ordBy_v, List.map_map]; rfl
    have el : (rows.map krV).map toL = rows.map fun r => toL (krV r) := by rw [List.map_map]; rfl
    refine Ex_cons (Ex1_return (EvN.ev (EvN_comp1 (τ₁ := τ) (items := (ordBy krV rows).map fun r => toL (krV r)) (σ' := []) (IterE.of (x := .lst ((ordBy krV rows).map fun r => toL (krV r))) (eo ▸ EvN.ev (EvN_sortedG (g := toL) (xs := rows.map krV) b_sorted (el ▸ EvN.ev (EvN_comp1 (τ₁ := τ) (items := rows.map rowVV) (ys := rows.map fun r => toL (krV r)) (σ' := [])
      (IterE.of (Ev_name lookup_cons_eq rfl) it) Filt.nil ?_ ?_)) sg rfl)) IterOf_lst) Filt.nil ?_ ?_)) rfl ⟨rfl, rfl⟩)
    · refine Turns.over fun r hr => CTurn_name (CAct_emit (fun L cs => Ev_tuple (ys := [.lst (r.map fun p => V.tup [.str p.1, keyT p.2]), rowVV r]) (EvL_cons (EvN.ev (EvN_comp1 (τ₁ := τ) (items := r.map pairK) (σ' := []) (IterE.of (x := rowVV r) (Ev_name rfl rfl) IterOf_tup) Filt.nil
        (Turns.over fun p hp => CTurn_pair (CAct_emit (fun L cs => Ev_tuple (ys := [.str p.1, keyT p.2]) (EvL_cons (Ev_name rfl rfl) (EvL_cons (Ev_call g_rank (isFun_of rfl) ((spec_rank (n := 0) ((rk r hr).kt p hp).sm τ).le (by (exact Nat.le_add_left _ _))) (EvL_cons (Ev_name rfl rfl) EvL_nil) rfl) EvL_nil)) rfl (by simp)) rfl rfl)) (by have := (rk r hr).len; rw [List.length_map, sizeLine_eq]; (exact Nat.le_trans (by assumption) (by decide))))) (EvL_cons (Ev_name rfl rfl) EvL_nil)) rfl (by simp)) rfl rfl)
    · rw [List.length_map, sizeLine_eq]; (exact Nat.le_of_lt (Nat.lt_of_lt_of_le (by assumption) (by decide)))
    · exact Turns.over fun r hr => CTurn_pair (CAct_emit (fun L cs => Ev_name rfl rfl) rfl rfl)
    · rw [List.length_map, lo, sizeLine_eq]; (exact Nat.le_of_lt (Nat.lt_of_lt_of_le (by assumption) (by decide)))
end
end Mine
namespace Mine

noncomputable def extS (o : Option Tb) (z : Tm × List Tm) : Option Tb := o.bind fun tb => extT tb z.1 (sumT z.2)
noncomputable def okLot (z : Tm × List Tm) : Prop := z.2 ≠ [] ∧ (isV z.1 = false → z.2.length = 1)
noncomputable def Sh (qs : List Tm) (rest : List Tm) (tb : Tb) : Prop :=
  ∃ lots : List (List Tm), lots.length = qs.length ∧ (∀ z ∈ qs.zip lots, okLot z) ∧ rest.Perm lots.flatten ∧ (qs.zip lots).foldl extS (some []) = some tb
theorem ext_none (l : List (Tm × List Tm)) : l.foldl extS none = none := by
  induction l with
  | nil => rfl
  | cons z r ih => exact ih

open Classical in
theorem part_lot : ∀ {us lot : List Tm}, us.Nodup → (∀ x ∈ lot, x ∈ us) → lot.Perm (us.flatMap fun u => List.replicate (cntT u lot) u)
  | [], lot, _, h => by
    cases lot with
    | nil => exact .refl _
    | cons x r => exact nomatch h x List.mem_cons_self
  | u :: s, lot, nd, h => by
    have nd' := List.nodup_cons.mp nd
    have a := List.filter_append_perm (fun x => decide (x = u)) lot
    have b : lot.filter (fun x => decide (x = u)) = List.replicate (cntT u lot) u := by
      rw [List.eq_replicate_iff]
      refine ⟨?_, fun x hx => of_decide_eq_true (List.mem_filter.mp hx).2⟩
      unfold cntT; rw [List.countP_eq_length_filter]
    have c := part_lot (us := s) (lot := lot.filter fun x => !decide (x = u)) nd'.2 fun x hx => by
      have := List.mem_filter.mp hx
      rcases List.mem_cons.mp (h x this.1) with e | e
      · have := this.2; rw [decide_eq_true e] at this; cases this
      · exact e
    have d : (s.flatMap fun v => List.replicate (cntT v (lot.filter fun x => !decide (x = u))) v) = s.flatMap fun v => List.replicate (cntT v lot) v := by
      have e : ∀ v ∈ s, cntT v (lot.filter fun x => !decide (x = u)) = cntT v lot := fun v hv => by
        unfold cntT
        rw [List.countP_filter]
        apply List.countP_congr
        intro x _
        have : v ≠ u := fun e => nd'.1 (e ▸ hv)
        by_cases q : x = v
        · subst q; simp [this]
        · simp [q]
      clear a b c nd nd' h
      induction s with
      | nil => rfl
      | cons v r ih => rw [List.flatMap_cons, List.flatMap_cons, e v List.mem_cons_self, ih fun y hy => e y (List.mem_cons_of_mem _ hy)]
    rw [List.flatMap_cons, ← b, ← d]
    exact a.symm.trans (c.append_left _)
theorem sb_has {rest : List Tm} {k : Tm → Nat} : ∀ {us : List Tm} {rows : List (List Tm)} {row : List Tm}, (∀ u ∈ us, k u ≤ cntT u rest) → row ∈ rows → row ++ us.flatMap (fun u => List.replicate (k u) u) ∈ us.foldl (sbStep rest) rows
  | [], rows, row, _, h => by simpa using h
  | u :: s, rows, row, hk, h => by
    rw [List.foldl_cons, List.flatMap_cons, ← List.append_assoc]
    refine sb_has (us := s) (fun v hv => hk v (List.mem_cons_of_mem _ hv)) (List.mem_flatMap.mpr ⟨row, h, List.mem_map.mpr ⟨k u, List.mem_range.mpr (Nat.lt_succ_of_le (hk u List.mem_cons_self)), rfl⟩⟩)
theorem subB_has {left lot l' : List Tm} (p : left.Perm (lot ++ l')) (ne : lot ≠ []) : ∃ row ∈ subB left, row.Perm lot := by
  have a := part_lot (us := nubG left) (lot := lot) (nubG_nodup left) fun x hx => (nubG_mem left).mpr (p.mem_iff.mpr (List.mem_append_left _ hx))
  have b := sb_has (rest := left) (k := fun u => cntT u lot) (us := nubG left) (rows := [[]]) (row := []) (fun u _ => by
    unfold cntT
    rw [p.countP_eq, List.countP_append]
    exact Nat.le_add_right _ _) List.mem_cons_self
  rw [List.nil_append] at b
  refine ⟨_, List.mem_filter.mpr ⟨b, decide_eq_true fun e => ne ?_⟩, a.symm⟩
  rw [e] at a
  exact a.eq_nil

theorem zip_snoc {α β : Type} {a : List α} {b : List β} {x : α} {y : β} (h : a.length = b.length) : (a ++ [x]).zip (b ++ [y]) = a.zip b ++ [(x, y)] := by
  rw [List.zip_append h]; rfl
theorem sh_sound {qs : List Tm} {rest : List Tm} (hq : ∀ p ∈ qs, Slot p) (hl : Lf rest) : ∀ i, i ≤ qs.length → ∀ r ∈ shN qs ([], rest) i,
    ∃ lots : List (List Tm), lots.length = i ∧ (∀ z ∈ (qs.take i).zip lots, okLot z) ∧ rest.Perm (lots.flatten ++ r.2) ∧ ((qs.take i).zip lots).foldl extS (some []) = some r.1
  | 0, _, r, hr => by
    rw [List.mem_singleton.mp hr]
    exact ⟨[], rfl, fun z hz => by simp at hz, .refl _, rfl⟩
  | i + 1, hi, r, hr => by
    obtain ⟨r', hr', hr⟩ := List.mem_flatMap.mp hr
    obtain ⟨lots, l1, l2, l3, l4⟩ := sh_sound hq hl i (Nat.le_of_succ_le hi) r' hr'
    have e : qs.getD i default = qs[i] := by rw [List.getD_eq_getElem?_getD, List.getElem?_eq_getElem hi]; rfl
    rw [e] at hr
    have sq := hq _ (List.getElem_mem hi)
    have et : qs.take (i + 1) = qs.take i ++ [qs[i]] := by rw [List.take_add_one, List.getElem?_eq_getElem hi]; rfl
    generalize qs[i] = q at *
    obtain ⟨lot, hlot, hr⟩ := List.mem_flatMap.mp hr
    obtain ⟨h1, h2⟩ := takG_mem.mp hr
    have sub := without_perm h1
    have fl := ((hl.sub l3).2.sub sub).1.fl
    rw [madeT_sum fl] at h2
    have ok : okLot (q, lot) := by
      rcases sq with ⟨x, rfl, hx⟩ | hs
      · refine ⟨?_, fun z => by rw [show isV (Tm.mk x []) = true from isV_leaf hx] at z; cases z⟩
        cases q : r'.1.lookup x with
        | some u =>
          rw [lots_var hx q] at hlot
          rw [List.mem_singleton.mp hlot]
          intro e
          have := kidsT_ne pp "+" u
          have e : kidsT pp "+" u = [] := e
          rw [e] at this
          exact absurd this (by decide)
        | none =>
          generalize decide (i + 1 = qs.length) = lb at hlot
          cases lb with
          | true =>
            by_cases z : r'.2 = []
            · rw [z, lots_last0 hx q] at hlot; cases hlot
            · rw [lots_last hx q z] at hlot; rw [List.mem_singleton.mp hlot]; exact z
          | false =>
            rw [lots_free hx q] at hlot
            exact of_decide_eq_true (List.mem_filter.mp hlot).2
      · rw [lots_solid hs.nv] at hlot
        obtain ⟨u, _, rfl⟩ := List.mem_map.mp hlot
        exact ⟨by simp, fun _ => rfl⟩
    refine ⟨lots ++ [lot], by rw [List.length_append, l1]; rfl, ?_, ?_, ?_⟩
    · rw [et, zip_snoc (by rw [List.length_take, l1]; lia)]
      intro z hz
      rcases List.mem_append.mp hz with hz | hz
      · exact l2 z hz
      · rw [List.mem_singleton.mp hz]; exact ok
    · rw [List.flatten_append, List.flatten_singleton, List.append_assoc]
      exact l3.trans (sub.append_left _)
    · rw [et, zip_snoc (by rw [List.length_take, l1]; lia), List.foldl_append, l4]
      exact h2
theorem ext_prefix {a b : List (Tm × List Tm)} {tb tb' : Tb} (h : (a ++ b).foldl extS (some tb) = some tb') : ∃ tb1, a.foldl extS (some tb) = some tb1 ∧ b.foldl extS (some tb1) = some tb' := by
  rw [List.foldl_append] at h
  cases e : a.foldl extS (some tb) with
  | none => rw [e, ext_none] at h; cases h
  | some tb1 => rw [e] at h; exact ⟨tb1, rfl, h⟩
theorem sh_complete {qs : List Tm} {rest : List Tm} {tb : Tb} (hq : ∀ p ∈ qs, Slot p) (hl : Lf rest) {lots : List (List Tm)} (l1 : lots.length = qs.length) (l2 : ∀ z ∈ qs.zip lots, okLot z) (l3 : rest.Perm lots.flatten)
    (l4 : (qs.zip lots).foldl extS (some []) = some tb) : ∀ i, i ≤ qs.length → ∃ r ∈ shN qs ([], rest) i, r.2.Perm (lots.drop i).flatten ∧ ((qs.take i).zip (lots.take i)).foldl extS (some []) = some r.1
  | 0, _ => ⟨_, List.mem_singleton_self _, l3, rfl⟩
  | i + 1, hi => by
    obtain ⟨r, hr, p, e⟩ := sh_complete hq hl l1 l2 l3 l4 i (Nat.le_of_succ_le hi)
    obtain ⟨_, s, rp⟩ := shN_inv hq TbOk.nil hl i (Nat.le_of_succ_le hi) r hr
    have lr := (hl.sub rp).2
    have hi2 : i < lots.length := by rw [l1]; exact hi
    have et : qs.take (i + 1) = qs.take i ++ [qs[i]] := by rw [List.take_add_one, List.getElem?_eq_getElem hi]; rfl
    have el : lots.take (i + 1) = lots.take i ++ [lots[i]] := by rw [List.take_add_one, List.getElem?_eq_getElem hi2]; rfl
    have ed : lots.drop i = lots[i] :: lots.drop (i + 1) := List.drop_eq_getElem_cons hi2
    have ez : (qs.take (i + 1)).zip (lots.take (i + 1)) = (qs.take i).zip (lots.take i) ++ [(qs[i], lots[i])] := by rw [et, el, zip_snoc (by rw [List.length_take, List.length_take]; lia)]
    have ea : qs.zip lots = (qs.take (i + 1)).zip (lots.take (i + 1)) ++ (qs.drop (i + 1)).zip (lots.drop (i + 1)) := by
      rw [← List.zip_append (by rw [List.length_take, List.length_take, l1]), List.take_append_drop, List.take_append_drop]
    obtain ⟨tb1, e1, _⟩ := ext_prefix (ea ▸ l4)
    have ok : okLot (qs[i], lots[i]) := l2 _ (by rw [ea, ez]; simp)
    rw [ez, List.foldl_append, e] at e1
    have e1 : extT r.1 qs[i] (sumT lots[i]) = some tb1 := e1
    have sq := hq _ (List.getElem_mem hi)
    have eg : qs.getD i default = qs[i] := by rw [List.getD_eq_getElem?_getD, List.getElem?_eq_getElem hi]; rfl
    have last0 : i + 1 = qs.length → lots.drop (i + 1) = [] := fun h => List.drop_eq_nil_of_le (by rw [l1, h]; exact Nat.le_refl _)
    rw [ed, List.flatten_cons] at p
    have sub := lr.sub p
    generalize qs[i] = q at *
    generalize lots[i] = lot at *
    have key : ∃ lot' ∈ lotsT r.1 q r.2 (decide (i + 1 = qs.length)), lot'.Perm lot := by
      rcases sq with ⟨x, rfl, hx⟩ | hs
      · have e2 : bound r.1 x (sumT lot) = some tb1 := by unfold extT at e1; rw [if_pos (isV_leaf hx)] at e1; exact e1
        cases q : r.1.lookup x with
        | some u =>
          rw [lots_var hx q]
          refine ⟨_, List.mem_singleton_self _, ?_⟩
          have : u = sumT lot := by
            by_cases z : u = sumT lot
            · exact z
            · rw [bound_other q z] at e2; cases e2
          rw [this]
          exact kids_sum ok.1 sub.1.fl
        | none =>
          by_cases lb : i + 1 = qs.length
          · rw [decide_eq_true lb]
            have pp1 : r.2.Perm lot := by rw [last0 lb] at p; simpa using p
            have ne : r.2 ≠ [] := fun z => ok.1 (by rw [z] at pp1; exact pp1.nil_eq.symm)
            rw [lots_last hx q ne]
            exact ⟨_, List.mem_singleton_self _, pp1⟩
          · rw [decide_eq_false lb, lots_free hx q]
            exact subB_has p ok.1
      · rw [lots_solid hs.nv]
        obtain ⟨u, rfl⟩ := List.length_eq_one_iff.mp (ok.2 hs.nv)
        exact ⟨[u], List.mem_map.mpr ⟨u, (nubG_mem _).mpr (p.mem_iff.mpr (by simp)), rfl⟩, .refl _⟩
    obtain ⟨lot', hm, pl⟩ := key
    have p' : r.2.Perm (lot' ++ (lots.drop (i + 1)).flatten) := p.trans (pl.symm.append_right _)
    obtain ⟨l', w1, w2⟩ := without_of p'
    have fl' : ∀ u ∈ lot', flat u := fun u hu => sub.1.fl u (pl.mem_iff.mp hu)
    refine ⟨(tb1, l'), List.mem_flatMap.mpr ⟨r, hr, List.mem_flatMap.mpr ⟨lot', by rw [eg]; exact hm, takG_mem.mpr ⟨w1, ?_⟩⟩⟩, w2, ?_⟩
    · rw [madeT_sum fl', sumT_congr (fun t ht => (sub.1.sm t (pl.mem_iff.mp ht)).good) pl, eg]; exact e1
    · rw [ez, List.foldl_append, e]; exact e1
theorem tabs_iff {qs : List Tm} {rest : List Tm} {tb : Tb} (hq : ∀ p ∈ qs, Slot p) (hl : Lf rest) : tb ∈ tabsT qs ([], rest) ↔ Sh qs rest tb := by
  unfold tabsT
  constructor
  · intro h
    obtain ⟨r, hr, rfl⟩ := List.mem_map.mp h
    obtain ⟨h1, h2⟩ := List.mem_filter.mp hr
    obtain ⟨lots, l1, l2, l3, l4⟩ := sh_sound hq hl qs.length (Nat.le_refl _) r h1
    rw [of_decide_eq_true h2, List.append_nil] at l3
    rw [List.take_length] at l2 l4
    exact ⟨lots, l1, l2, l3, l4⟩
  · rintro ⟨lots, l1, l2, l3, l4⟩
    obtain ⟨r, hr, p, e⟩ := sh_complete hq hl l1 l2 l3 l4 qs.length (Nat.le_refl _)
    rw [← l1, List.drop_length] at p
    rw [List.take_length, ← l1, List.take_length, l4] at e
    cases e
    exact List.mem_map.mpr ⟨r, List.mem_filter.mpr ⟨hr, decide_eq_true p.eq_nil⟩, rfl⟩
end Mine
namespace Mine

theorem fit_ext {tb : Tb} {p t : Tm} (h : isV p = false) : extT tb p t = fit tb p t := by unfold extT; rw [if_neg (by rw [h]; decide)]
theorem sum_one (u : Tm) : sumT [u] = u := rfl
theorem ch_sound : ∀ {solid : List Tm} {rows : List (Tb × List Tm)}, (∀ p ∈ solid, isV p = false) → ∀ r ∈ chT solid rows, ∃ r0 ∈ rows, ∃ us : List Tm, us.length = solid.length ∧ r0.2.Perm (us ++ r.2) ∧ (solid.zip (us.map fun u => [u])).foldl extS (some r0.1) = some r.1
  | [], rows, _, r, hr => ⟨r, hr, [], rfl, .refl _, rfl⟩
  | p :: s, rows, hs, r, hr => by
    obtain ⟨r1, h1, us, l, pm, e⟩ := ch_sound (solid := s) (rows := rows.flatMap fun r : Tb × List Tm => solT r.1 p r.2) (fun q hq => hs q (List.mem_cons_of_mem _ hq)) r hr
    obtain ⟨r0, h0, h1⟩ := List.mem_flatMap.mp h1
    obtain ⟨u, hu, h1⟩ := List.mem_flatMap.mp h1
    obtain ⟨b, hb, rfl⟩ := List.mem_map.mp h1
    refine ⟨r0, h0, u :: us, by rw [List.length_cons, List.length_cons, l], (eraseT_perm ((nubG_mem _).mp hu)).trans (pm.cons u), ?_⟩
    have : fit r0.1 p u = some b := by simpa using hb
    rw [List.map_cons, List.zip_cons_cons, List.foldl_cons]
    show List.foldl extS (extT r0.1 p (sumT [u])) _ = _
    rw [sum_one, fit_ext (hs p List.mem_cons_self), this]
    exact e
theorem ch_complete : ∀ {solid : List Tm} {rows : List (Tb × List Tm)} {r0 : Tb × List Tm} {us : List Tm} {l' : List Tm} {tb : Tb}, (∀ p ∈ solid, isV p = false) → r0 ∈ rows → us.length = solid.length → r0.2.Perm (us ++ l') →
    (solid.zip (us.map fun u => [u])).foldl extS (some r0.1) = some tb → ∃ r ∈ chT solid rows, r.1 = tb ∧ r.2.Perm l'
  | [], rows, r0, us, l', tb, _, h0, l, pm, e => by
    have : us = [] := List.eq_nil_of_length_eq_zero l
    subst this
    cases e
    exact ⟨r0, h0, rfl, pm⟩
  | p :: s, rows, r0, us, l', tb, hs, h0, l, pm, e => by
    cases us with
    | nil => cases l
    | cons u us =>
      rw [List.map_cons, List.zip_cons_cons, List.foldl_cons] at e
      have e : List.foldl extS (extT r0.1 p (sumT [u])) (s.zip (us.map fun u => [u])) = some tb := e
      rw [sum_one, fit_ext (hs p List.mem_cons_self)] at e
      cases q : fit r0.1 p u with
      | none => rw [q, ext_none] at e; cases e
      | some b =>
        rw [q] at e
        have um : u ∈ r0.2 := pm.mem_iff.mpr (by simp)
        have pm' : (eraseT u r0.2).Perm (us ++ l') := ((eraseT_perm um).symm.trans pm).cons_inv
        exact ch_complete (solid := s) (rows := rows.flatMap fun r : Tb × List Tm => solT r.1 p r.2) (r0 := (b, eraseT u r0.2)) (fun q hq => hs q (List.mem_cons_of_mem _ hq))
          (List.mem_flatMap.mpr ⟨r0, h0, List.mem_flatMap.mpr ⟨u, (nubG_mem _).mpr um, List.mem_map.mpr ⟨b, by rw [q]; simp, rfl⟩⟩⟩) (Nat.succ.inj l) pm' e

theorem lotOf_cons (x : Tm) (r : List Tm) (q : Nat) (sp : List Nat) (p : Nat) : lotOf (x :: r) (q :: sp) p = if p = q then x :: lotOf r sp p else lotOf r sp p := by
  unfold lotOf
  rw [List.length_cons, List.range_succ_eq_map, List.filter_cons, List.filter_map, List.getD_cons_zero]
  have e1 : ((fun k => decide ((q :: sp).getD k 0 = p)) ∘ Nat.succ) = fun k => decide (sp.getD k 0 = p) := by funext k; rfl
  rw [e1]
  by_cases h : p = q
  · rw [if_pos h, if_pos (decide_eq_true h.symm), List.map_cons, List.map_map]; rfl
  · rw [if_neg h, if_neg (by rw [decide_eq_false fun e => h e.symm]; decide), List.map_map]; rfl
theorem flat_perm {F G : Nat → List Tm} : ∀ {ps : List Nat}, (∀ p ∈ ps, (G p).Perm (F p)) → (ps.flatMap G).Perm (ps.flatMap F)
  | [], _ => .refl _
  | p :: r, h => by
    rw [List.flatMap_cons, List.flatMap_cons]
    exact (h p List.mem_cons_self).append (flat_perm fun q hq => h q (List.mem_cons_of_mem _ hq))
theorem flat_upd {x : Tm} {q : Nat} {F G : Nat → List Tm} : ∀ {ps : List Nat}, ps.Nodup → q ∈ ps → (∀ p ∈ ps, (G p).Perm (if p = q then x :: F p else F p)) → (ps.flatMap G).Perm (x :: ps.flatMap F)
  | p :: r, nd, hq, h => by
    have nd' := List.nodup_cons.mp nd
    have hp := h p List.mem_cons_self
    rw [List.flatMap_cons, List.flatMap_cons]
    by_cases e : p = q
    · subst e
      rw [if_pos rfl] at hp
      have : (r.flatMap G).Perm (r.flatMap F) := by
        refine flat_perm fun p' hp' => ?_
        have := h p' (List.mem_cons_of_mem _ hp')
        rwa [if_neg (fun e : p' = p => nd'.1 (e ▸ hp'))] at this
      exact hp.append this
    · rw [if_neg e] at hp
      have hq' : q ∈ r := (List.mem_cons.mp hq).resolve_left fun z => e z.symm
      exact (hp.append (flat_upd nd'.2 hq' fun p' hp' => h p' (List.mem_cons_of_mem _ hp'))).trans (List.perm_middle (l₁ := F p) (l₂ := r.flatMap F) (a := x))
theorem spread_sound {w : Nat} : ∀ {left : List Tm} {sp : List Nat}, sp.length = left.length → (∀ k ∈ sp, k < w) → left.Perm (lotsOf left sp w).flatten
  | [], sp, _, _ => by
    have : ∀ ps : List Nat, ((ps.map (lotOf [] sp)).flatten) = [] := by
      intro ps
      induction ps with
      | nil => rfl
      | cons p r ih => rw [List.map_cons, List.flatten_cons, ih]; rfl
    unfold lotsOf; rw [this]
  | x :: r, [], h, _ => by cases h
  | x :: r, q :: sp, h, hk => by
    have ih := spread_sound (w := w) (left := r) (sp := sp) (Nat.succ.inj h) fun k hk' => hk k (List.mem_cons_of_mem _ hk')
    have u := flat_upd (x := x) (q := q) (F := lotOf r sp) (G := lotOf (x :: r) (q :: sp)) (ps := List.range w) List.nodup_range (List.mem_range.mpr (hk q List.mem_cons_self)) fun p _ => by rw [lotOf_cons]
    unfold lotsOf at ih ⊢
    rw [← List.flatMap_def] at ih ⊢
    exact (ih.cons x).trans u.symm
theorem spread_has {w : Nat} : ∀ {left : List Tm} {F : Nat → List Tm}, left.Perm ((List.range w).flatMap F) → ∃ sp : List Nat, sp.length = left.length ∧ (∀ k ∈ sp, k < w) ∧ ∀ p, p < w → (lotOf left sp p).Perm (F p)
  | [], F, h => by
    refine ⟨[], rfl, fun k hk => (nomatch hk), fun p hp => ?_⟩
    have : F p = [] := by
      have e := h.nil_eq
      cases z : F p with
      | nil => rfl
      | cons a b =>
        have : a ∈ (List.range w).flatMap F := List.mem_flatMap.mpr ⟨p, List.mem_range.mpr hp, by rw [z]; exact List.mem_cons_self⟩
        rw [← e] at this; cases this
    rw [this]; exact .refl _
  | x :: r, F, h => by
    obtain ⟨q, hq, hx⟩ := List.mem_flatMap.mp (h.mem_iff.mp List.mem_cons_self)
    have u := flat_upd (x := x) (q := q) (F := fun p => if p = q then eraseT x (F p) else F p) (G := F) (ps := List.range w) List.nodup_range hq fun p _ => by
      by_cases e : p = q
      · subst e; rw [if_pos rfl, if_pos rfl]; exact eraseT_perm hx
      · rw [if_neg e, if_neg e]
    obtain ⟨sp, a, b, c⟩ := spread_has (w := w) (left := r) (h.trans u).cons_inv
    refine ⟨q :: sp, by rw [List.length_cons, List.length_cons, a], fun k hk => ?_, fun p hp => ?_⟩
    · rcases List.mem_cons.mp hk with rfl | hk
      · exact List.mem_range.mp hq
      · exact b k hk
    · rw [lotOf_cons]
      have := c p hp
      by_cases e : p = q
      · subst e
        rw [if_pos rfl] at this ⊢
        exact (this.cons x).trans (eraseT_perm hx).symm
      · rw [if_neg e] at this ⊢
        exact this

noncomputable def leaf (x : Str) : Tm := .mk x []
theorem oneS_ext {o : Option Tb} {x : Str} {l : List Tm} (hx : isVarN x = true) : oneS o (x, l) = extS o (leaf x, l) := by
  unfold oneS extS
  cases o with
  | none => rfl
  | some tb =>
    show _ = extT tb (leaf x) _
    unfold extT; rw [if_pos (show isV (leaf x) = true from isV_leaf hx)]; rfl
theorem one_ext {names : List Str} (hn : ∀ x ∈ names, isVarN x = true) : ∀ {lots : List (List Tm)} {o : Option Tb}, (names.zip lots).foldl oneS o = ((names.map leaf).zip lots).foldl extS o := by
  induction names with
  | nil => intro lots o; rfl
  | cons x s ih =>
    intro lots o
    cases lots with
    | nil => rfl
    | cons l r =>
      rw [List.map_cons, List.zip_cons_cons, List.zip_cons_cons, List.foldl_cons, List.foldl_cons, oneS_ext (hn x List.mem_cons_self)]
      exact ih fun y hy => hn y (List.mem_cons_of_mem _ hy)
theorem ext_congr : ∀ {qs : List Tm} {a b : List (List Tm)} {o : Option Tb}, a.length = b.length → (∀ i (h1 : i < a.length) (h2 : i < b.length), sumT a[i] = sumT b[i]) → (qs.zip a).foldl extS o = (qs.zip b).foldl extS o
  | [], _, _, _, _, _ => rfl
  | _ :: _, [], [], _, _, _ => rfl
  | q :: s, x :: a, y :: b, o, hl, h => by
    rw [List.zip_cons_cons, List.zip_cons_cons, List.foldl_cons, List.foldl_cons]
    have e : extS o (q, x) = extS o (q, y) := by
      unfold extS
      rw [show sumT (q, x).2 = sumT (q, y).2 from h 0 (Nat.succ_pos _) (Nat.succ_pos _)]
    rw [e]
    exact ext_congr (Nat.succ.inj hl) fun i h1 h2 => h (i + 1) (Nat.succ_lt_succ h1) (Nat.succ_lt_succ h2)
theorem singles : ∀ {qs : List Tm} {lots : List (List Tm)}, lots.length = qs.length → (∀ z ∈ qs.zip lots, z.2.length = 1) → ∃ us : List Tm, us.length = qs.length ∧ lots = us.map fun u => [u]
  | [], [], _, _ => ⟨[], rfl, rfl⟩
  | q :: s, l :: r, hl, h => by
    obtain ⟨us, a, b⟩ := singles (qs := s) (lots := r) (Nat.succ.inj hl) fun z hz => h z (by rw [List.zip_cons_cons]; exact List.mem_cons_of_mem _ hz)
    obtain ⟨u, e⟩ := List.length_eq_one_iff.mp (h (q, l) (by rw [List.zip_cons_cons]; exact List.mem_cons_self))
    have e : l = [u] := e
    exact ⟨u :: us, by rw [List.length_cons, List.length_cons, a], by rw [List.map_cons, e, b]⟩
theorem flat_singles (us : List Tm) : (us.map fun u => [u]).flatten = us := by
  induction us with
  | nil => rfl
  | cons u r ih => rw [List.map_cons, List.flatten_cons, ih]; rfl
theorem due_iff {solid : List Tm} {names : List Str} {kids : List Tm} {row : Tb} (hs : ∀ p ∈ solid, Sol p) (hn : ∀ x ∈ names, isVarN x = true) (hk : Kids kids) :
    row ∈ dueR solid names kids ↔ ∃ tb, Sh (solid ++ names.map leaf) kids tb ∧ rT tb = row := by
  have nv : ∀ p ∈ solid, isV p = false := fun p hp => (hs p hp).so.nv
  have inv := chT_inv hs (rows := [([], kids)]) fun r hr => by rw [List.mem_singleton.mp hr]; exact ⟨TbOk.nil, hk⟩
  constructor
  · intro h
    obtain ⟨⟨tb1, left⟩, hc, h⟩ := List.mem_flatMap.mp h
    obtain ⟨sp, hsp, h⟩ := List.mem_flatMap.mp h
    obtain ⟨tb, ht, rfl⟩ := List.mem_map.mp h
    obtain ⟨sl, sb⟩ := spT_mem.mp hsp
    have ht : oneOf names tb1 (lotsOf left sp names.length) = some tb := by simpa using ht
    obtain ⟨r0, h0, us, ul, pm, e⟩ := ch_sound nv _ hc
    rw [List.mem_singleton.mp h0] at pm e
    have ss := spread_sound (w := names.length) sl sb
    have ll : (lotsOf left sp names.length).length = names.length := by unfold lotsOf; rw [List.length_map, List.length_range]
    generalize lotsOf left sp names.length = lots at *
    unfold oneOf at ht
    rw [one_ext hn] at ht
    have ne : [] ∉ lots := fun q => by rw [if_pos q, ext_none] at ht; cases ht
    rw [if_neg ne] at ht
    refine ⟨tb, ⟨(us.map fun u => [u]) ++ lots, by rw [List.length_append, List.length_append, List.length_map, List.length_map, ul, ll], ?_, ?_, ?_⟩, rfl⟩
    · rw [List.zip_append (by rw [List.length_map, ul])]
      intro z hz
      rcases List.mem_append.mp hz with hz | hz
      · obtain ⟨u, _, e2⟩ := List.mem_map.mp (List.of_mem_zip hz).2
        exact ⟨by rw [← e2]; simp, fun _ => by rw [← e2]; rfl⟩
      · refine ⟨fun q => ne (q ▸ (List.of_mem_zip hz).2), fun q => ?_⟩
        obtain ⟨x, hx, e2⟩ := List.mem_map.mp (List.of_mem_zip hz).1
        rw [← e2, show isV (leaf x) = true from isV_leaf (hn x hx)] at q; cases q
    · rw [List.flatten_append, flat_singles]
      exact pm.trans (ss.append_left _)
    · rw [List.zip_append (by rw [List.length_map, ul]), List.foldl_append, e]; exact ht
  · rintro ⟨tb, ⟨lots, l1, l2, l3, l4⟩, rfl⟩
    rw [List.length_append, List.length_map] at l1
    have ea : (solid ++ names.map leaf).zip lots = solid.zip (lots.take solid.length) ++ (names.map leaf).zip (lots.drop solid.length) := by
      rw [← List.zip_append (by rw [List.length_take]; lia), List.take_append_drop]
    rw [ea] at l2 l4
    obtain ⟨us, ul, e1⟩ := singles (qs := solid) (lots := lots.take solid.length) (by rw [List.length_take]; lia) fun z hz => (l2 z (List.mem_append_left _ hz)).2 (nv _ (List.of_mem_zip hz).1)
    obtain ⟨tb1, e2, e3⟩ := ext_prefix l4
    rw [← List.take_append_drop solid.length lots, List.flatten_append, e1, flat_singles] at l3
    have dl : (lots.drop solid.length).length = names.length := by rw [List.length_drop]; lia
    have ok2 : ∀ l ∈ lots.drop solid.length, l ≠ [] := fun l hl => by
      obtain ⟨i, hi, rfl⟩ := List.mem_iff_getElem.mp hl
      have hz : ((names.map leaf)[i]'(by rw [List.length_map, ← dl]; exact hi), (lots.drop solid.length)[i]) ∈ (names.map leaf).zip (lots.drop solid.length) := List.mem_iff_getElem.mpr ⟨i, by rw [List.length_zip, List.length_map, dl, Nat.min_self, ← dl]; exact hi, by rw [List.getElem_zip]⟩
      exact (l2 _ (List.mem_append_right _ hz)).1
    rw [e1] at e2
    generalize lots.drop solid.length = lots2 at *
    obtain ⟨⟨tb2, left⟩, hr, e4, pl⟩ := ch_complete (rows := [([], kids)]) (r0 := ([], kids)) nv (List.mem_singleton_self _) ul l3 e2
    have e4 : tb2 = tb1 := e4
    subst e4
    have pl : left.Perm lots2.flatten := pl
    have kl : Kids left := (inv _ hr).2
    have ef : (List.range names.length).flatMap (fun p => lots2.getD p []) = lots2.flatten := by
      rw [List.flatMap_def, ← dl, range_getD]
    obtain ⟨sp, sl, sb, sf⟩ := spread_has (w := names.length) (left := left) (F := fun p => lots2.getD p []) (by rw [ef]; exact pl)
    have ll : (lotsOf left sp names.length).length = names.length := by unfold lotsOf; rw [List.length_map, List.length_range]
    have gi : ∀ i (h : i < names.length), (lotsOf left sp names.length)[i]'(by rw [ll]; exact h) = lotOf left sp i := fun i h => by unfold lotsOf; rw [List.getElem_map, List.getElem_range]
    have g2 : ∀ i (h : i < lots2.length), lots2.getD i [] = lots2[i] := fun i h => by rw [List.getD_eq_getElem?_getD, List.getElem?_eq_getElem h]; rfl
    refine List.mem_flatMap.mpr ⟨(tb2, left), hr, List.mem_flatMap.mpr ⟨sp, spT_mem.mpr ⟨sl, sb⟩, List.mem_map.mpr ⟨tb, ?_, rfl⟩⟩⟩
    have : oneOf names tb2 (lotsOf left sp names.length) = some tb := by
      unfold oneOf
      rw [one_ext hn, if_neg]
      · rw [ext_congr (b := lots2) (by rw [ll, dl]) fun i h1 h2 => ?_]
        · exact e3
        · have hi : i < names.length := by rw [← dl]; exact h2
          rw [gi i hi]
          have q := sf i hi
          rw [g2 i h2] at q
          exact sumT_congr (fun t ht => ((kl.sub (lotOf_sub left sp i)).kid t ht).sm.good) q
      · intro q
        obtain ⟨i, hi, e5⟩ := List.mem_iff_getElem.mp q
        have hi' : i < names.length := by rw [← ll]; exact hi
        rw [gi i hi'] at e5
        have q := sf i hi'
        have h2 : i < lots2.length := by rw [dl]; exact hi'
        rw [e5, g2 i h2] at q
        exact ok2 _ (List.getElem_mem h2) q.nil_eq.symm
    rw [this]; simp
end Mine
namespace Mine

theorem Sh.perm {qs a b : List Tm} {tb : Tb} (p : a.Perm b) (h : Sh qs a tb) : Sh qs b tb := by
  obtain ⟨lots, l1, l2, l3, l4⟩ := h
  exact ⟨lots, l1, l2, p.symm.trans l3, l4⟩
theorem ext_atom {p : Tm} (hv : isV p = false) (hk : p.ks = []) (t : Tm) : (∀ tb, extT tb p t = some tb) ∨ ∀ tb, extT tb p t = none := by
  by_cases h : t.f = p.f ∧ t.ks.length = p.ks.length
  · refine .inl fun tb => ?_
    rw [fit_ext hv]
    exact fit_nil h.1 hk (List.eq_nil_of_length_eq_zero (by rw [h.2, hk]; rfl))
  · exact .inr fun tb => by rw [fit_ext hv]; exact fit_no h
theorem ext_comm {p q : Tm} {a b : List Tm} {o : Option Tb} (hv : isV p = false) (hk : p.ks = []) : extS (extS o (p, a)) (q, b) = extS (extS o (q, b)) (p, a) := by
  unfold extS
  cases o with
  | none => rfl
  | some tb =>
    show (extT tb p (sumT a)).bind _ = (extT tb q (sumT b)).bind _
    rcases ext_atom hv hk (sumT a) with h | h
    · rw [h]
      show extT tb q (sumT b) = _
      cases extT tb q (sumT b) with
      | none => rfl
      | some tb' => exact (h tb').symm
    · rw [h]
      cases extT tb q (sumT b) with
      | none => rfl
      | some tb' => exact (h tb').symm
theorem Sh.swap {p q : Tm} {vs rest : List Tm} {tb : Tb} (hc : ∀ a b (o : Option Tb), extS (extS o (p, a)) (q, b) = extS (extS o (q, b)) (p, a)) (h : Sh (p :: q :: vs) rest tb) : Sh (q :: p :: vs) rest tb := by
  obtain ⟨lots, l1, l2, l3, l4⟩ := h
  match lots, l1 with
  | a :: b :: r, l1 =>
    refine ⟨b :: a :: r, l1, fun z hz => l2 z ?_, l3.trans ?_, ?_⟩
    · simp only [List.zip_cons_cons, List.mem_cons] at hz ⊢
      rcases hz with h | h | h
      · exact .inr (.inl h)
      · exact .inl h
      · exact .inr (.inr h)
    · simp only [List.flatten_cons, ← List.append_assoc]
      exact List.perm_append_comm.append_right _
    · simp only [List.zip_cons_cons, List.foldl_cons] at l4 ⊢
      rw [← hc]; exact l4
structure SolOk (solid : List Tm) : Prop where
  so : ∀ p ∈ solid, Sol p
  len : solid.length ≤ 2
  at0 : ∀ p q, solid = [p, q] → p.ks = []
theorem Sh.rot {solid vs rest : List Tm} {tb : Tb} (h : SolOk solid) (t : Nat) : Sh ((solid.drop t ++ solid.take t) ++ vs) rest tb ↔ Sh (solid ++ vs) rest tb := by
  match solid, h with
  | [], _ => simp
  | [p], _ => cases t <;> simp
  | [p, q], h =>
    have c : ∀ a b (o : Option Tb), extS (extS o (p, a)) (q, b) = extS (extS o (q, b)) (p, a) := fun a b o => ext_comm (h.so p List.mem_cons_self).so.nv (h.at0 p q rfl)
    match t with
    | 0 => simp
    | 1 => exact ⟨fun z => Sh.swap (fun a b o => (c b a o).symm) z, fun z => Sh.swap c z⟩
    | t + 2 => simp
  | _ :: _ :: _ :: _, h => exact absurd h.len (by simp)
theorem filter_yes {α : Type} {g : α → Bool} : ∀ {l : List α}, (∀ x ∈ l, g x = true) → l.filter g = l := fun h => List.filter_eq_self.mpr h
theorem filter_no {α : Type} {g : α → Bool} {l : List α} (h : ∀ x ∈ l, g x = false) : l.filter g = [] := List.filter_eq_nil_iff.mpr fun x hx => by rw [h x hx]; decide
noncomputable def rotL (l : List Tm) (t : Nat) : List Tm := l.drop t ++ l.take t
noncomputable def namesOf (slots : List Tm) : List Str := (slots.filter fun p => isV p).map Tm.f
theorem isV_is {p : Tm} (h : isV p = true) : p = leaf p.f ∧ isVarN p.f = true := by
  have h' := Bool.and_eq_true_iff.mp (show (_ && _) = true from h)
  refine ⟨?_, h'.2⟩
  rw [← Tm.eta p, List.eq_nil_of_length_eq_zero (of_decide_eq_true h'.1)]; rfl
theorem rowOf_rot {solid vs : List Tm} (h1 : ∀ p ∈ solid, isV p = false) (h2 : ∀ p ∈ vs, isV p = true) (t : Nat) : rowOf (rotL (solid ++ vs) t) = (solid.drop t ++ solid.take t) ++ (namesOf (rotL (solid ++ vs) t)).map leaf := by
  have a : (rotL (solid ++ vs) t).filter (fun p => !isV p) = solid.drop t ++ solid.take t := by
    unfold rotL
    rw [List.drop_append, List.take_append, List.filter_append, List.filter_append, List.filter_append]
    rw [filter_yes (l := solid.drop t) fun x hx => by rw [h1 x (List.mem_of_mem_drop hx)]; rfl, filter_yes (l := solid.take t) fun x hx => by rw [h1 x (List.mem_of_mem_take hx)]; rfl,
      filter_no (l := vs.drop _) fun x hx => by rw [h2 x (List.mem_of_mem_drop hx)]; rfl, filter_no (l := vs.take _) fun x hx => by rw [h2 x (List.mem_of_mem_take hx)]; rfl]
    rw [List.append_nil, List.append_nil]
  have b : (rotL (solid ++ vs) t).filter (fun p => isV p) = (namesOf (rotL (solid ++ vs) t)).map leaf := by
    unfold namesOf
    rw [List.map_map]
    have : ∀ l : List Tm, (∀ p ∈ l, isV p = true) → l = l.map (leaf ∘ Tm.f) := by
      intro l
      induction l with
      | nil => intro _; rfl
      | cons p r ih => intro h; rw [List.map_cons, ← ih fun q hq => h q (List.mem_cons_of_mem _ hq)]; rw [show (leaf ∘ Tm.f) p = p from (isV_is (h p List.mem_cons_self)).1.symm]
    exact this _ fun p hp => (List.mem_filter.mp hp).2
  unfold rowOf
  rw [a, b]
theorem names_var {slots : List Tm} : ∀ x ∈ namesOf slots, isVarN x = true := fun x hx => by
  obtain ⟨p, hp, rfl⟩ := List.mem_map.mp hx
  exact (isV_is (List.mem_filter.mp hp).2).2
theorem names_len {solid vs : List Tm} (h1 : ∀ p ∈ solid, isV p = false) (h2 : ∀ p ∈ vs, isV p = true) (t : Nat) : (namesOf (rotL (solid ++ vs) t)).length = vs.length := by
  unfold namesOf rotL
  rw [List.length_map, List.filter_append, List.length_append, ← List.countP_eq_length_filter, ← List.countP_eq_length_filter, Nat.add_comm, ← List.countP_append, List.take_append_drop, List.countP_append]
  rw [List.countP_eq_zero.mpr fun p hp => by rw [h1 p hp]; decide, List.countP_eq_length.mpr fun p hp => h2 p hp, Nat.zero_add]
theorem same_rows {solid vs kids ks : List Tm} {t : Nat} (h : SolOk solid) (h2 : ∀ p ∈ vs, isV p = true) (hk : Kids kids) (pk : ks.Perm kids) (hl : Lf ks) (row : Tb) :
    row ∈ (tabsT (rowOf (rotL (solid ++ vs) t)) ([], ks)).map rT ↔ row ∈ dueR solid (namesOf (rotL (solid ++ vs) t)) kids := by
  have nv : ∀ p ∈ solid, isV p = false := fun p hp => (h.so p hp).so.nv
  have er := rowOf_rot nv h2 t
  have hn := names_var (slots := rotL (solid ++ vs) t)
  generalize namesOf (rotL (solid ++ vs) t) = names at *
  generalize rowOf (rotL (solid ++ vs) t) = qs at *
  subst er
  have hq : ∀ p ∈ (solid.drop t ++ solid.take t) ++ names.map leaf, Slot p := fun p hp => by
    rcases List.mem_append.mp hp with hp | hp
    · rcases List.mem_append.mp hp with hp | hp
      · exact .inr (h.so p (List.mem_of_mem_drop hp)).so
      · exact .inr (h.so p (List.mem_of_mem_take hp)).so
    · obtain ⟨x, hx, rfl⟩ := List.mem_map.mp hp
      exact .inl ⟨x, rfl, hn x hx⟩
  rw [due_iff h.so hn hk]
  constructor
  · intro z
    obtain ⟨tb, ht, e⟩ := List.mem_map.mp z
    exact ⟨tb, ((Sh.rot h t).mp ((tabs_iff hq hl).mp ht)).perm pk, e⟩
  · rintro ⟨tb, hs, e⟩
    exact List.mem_map.mpr ⟨tb, (tabs_iff hq hl).mpr ((Sh.rot h t).mpr (hs.perm pk.symm)), e⟩
theorem nub_perm {α : Type} {a b : List α} (h : ∀ x, x ∈ a ↔ x ∈ b) : (nubG a).Perm (nubG b) :=
  (List.perm_ext_iff_of_nodup (nubG_nodup a) (nubG_nodup b)).mpr fun x => by rw [nubG_mem, nubG_mem]; exact h x

theorem subB_pow (l : List Tm) : (subB l).length ≤ 2 ^ l.length := by
  have a := sb_len l (nubG l) [[]]
  rw [List.length_singleton, Nat.one_mul] at a
  exact Nat.le_trans (List.length_filter_le _ _) (Nat.le_trans a (Nat.pow_le_pow_right (by decide) (cnt_sum (nubG_nodup l))))
theorem tak_len (tb : Tb) (p : Tm) (left : List Tm) (b : Bool) : (takT tb p left b).length ≤ (lotsT tb p left b).length := by
  have := flatMap_len (f := takG tb p left) (k := 1) (l := lotsT tb p left b) fun lot _ => takG_len tb p left lot
  unfold takT; lia
theorem tak_solid {tb : Tb} {p : Tm} {left : List Tm} {b : Bool} (h : isV p = false) : (takT tb p left b).length ≤ left.length := by
  refine Nat.le_trans (tak_len _ _ _ _) ?_
  rw [lots_solid h, List.length_map]; exact nubG_len left
theorem tak_last {tb : Tb} {x : Str} {left : List Tm} (h : isVarN x = true) : (takT tb (leaf x) left true).length ≤ 1 := by
  refine Nat.le_trans (tak_len _ _ _ _) ?_
  unfold leaf
  cases q : tb.lookup x with
  | some u => rw [lots_var h q]; exact Nat.le_refl _
  | none =>
    by_cases z : left = []
    · subst z; rw [lots_last0 h q]; exact Nat.zero_le _
    · rw [lots_last h q z]; exact Nat.le_refl _
theorem tak_free {tb : Tb} {x : Str} {left : List Tm} (h : isVarN x = true) : (takT tb (leaf x) left false).length ≤ 2 ^ left.length := by
  refine Nat.le_trans (tak_len _ _ _ _) ?_
  unfold leaf
  cases q : tb.lookup x with
  | some u => rw [lots_var h q]; exact Nat.one_le_two_pow
  | none => rw [lots_free h q]; exact subB_pow left
theorem sh_len {sol : List Tm} {names : List Str} {ks : List Tm} (h1 : ∀ p ∈ sol, isV p = false ∧ Slot p) (h2 : ∀ x ∈ names, isVarN x = true) (hl : Lf ks) (k1 : 1 ≤ ks.length) (hb : ks.length ^ sol.length * (2 ^ ks.length) ^ (names.length - 1) ≤ 4096) :
    ∀ i, i ≤ (sol ++ names.map leaf).length → (shN (sol ++ names.map leaf) ([], ks) i).length ≤ 4096 := by
  have hq : ∀ p ∈ sol ++ names.map leaf, Slot p := fun p hp => by
    rcases List.mem_append.mp hp with hp | hp
    · exact (h1 p hp).2
    · obtain ⟨x, hx, rfl⟩ := List.mem_map.mp hp
      exact .inl ⟨x, rfl, h2 x hx⟩
  have ln : (sol ++ names.map leaf).length = sol.length + names.length := by rw [List.length_append, List.length_map]
  have inv := shN_inv hq TbOk.nil hl
  have le : ∀ i, i ≤ (sol ++ names.map leaf).length → ∀ r ∈ shN (sol ++ names.map leaf) ([], ks) i, r.2.length ≤ ks.length := fun i hi r hr => by
    obtain ⟨_, s, p⟩ := inv i hi r hr
    have := p.length_eq
    rw [List.length_append] at this; lia
  have gs : ∀ i, i < sol.length → isV ((sol ++ names.map leaf).getD i default) = false := fun i hi => by
    rw [List.getD_eq_getElem?_getD, List.getElem?_append_left hi, List.getElem?_eq_getElem hi]
    exact (h1 _ (List.getElem_mem hi)).1
  have gv : ∀ j, j < names.length → ∃ x, isVarN x = true ∧ (sol ++ names.map leaf).getD (sol.length + j) default = leaf x := fun j hj => by
    refine ⟨names[j], h2 _ (List.getElem_mem hj), ?_⟩
    rw [List.getD_eq_getElem?_getD, List.getElem?_append_right (Nat.le_add_right _ _), Nat.add_sub_cancel_left, List.getElem?_map, List.getElem?_eq_getElem hj]; rfl
  have a : ∀ i, i ≤ sol.length → (shN (sol ++ names.map leaf) ([], ks) i).length ≤ ks.length ^ i := by
    intro i
    induction i with
    | zero => intro _; exact Nat.le_refl _
    | succ i ih =>
      intro hi
      refine Nat.le_trans (flatMap_len (k := ks.length) fun r hr => ?_) (Nat.le_trans (Nat.mul_le_mul_right _ (ih (Nat.le_of_succ_le hi))) (Nat.le_of_eq (Nat.pow_succ ..).symm))
      exact Nat.le_trans (tak_solid (gs i hi)) (le i (by lia) r hr)
  have b : ∀ j, j < names.length → (shN (sol ++ names.map leaf) ([], ks) (sol.length + j)).length ≤ ks.length ^ sol.length * (2 ^ ks.length) ^ j := by
    intro j
    induction j with
    | zero => intro _; exact Nat.le_trans (a _ (Nat.le_refl _)) (Nat.le_of_eq (Nat.mul_one _).symm)
    | succ j ih =>
      intro hj
      refine Nat.le_trans (flatMap_len (k := 2 ^ ks.length) fun r hr => ?_) (Nat.le_trans (Nat.mul_le_mul_right _ (ih (Nat.lt_of_succ_lt hj))) (Nat.le_of_eq (by rw [Nat.pow_succ, Nat.mul_assoc])))
      obtain ⟨x, hx, e⟩ := gv j (Nat.lt_of_succ_lt hj)
      show (takT r.1 ((sol ++ names.map leaf).getD (sol.length + j) default) r.2 (decide (sol.length + j + 1 = (sol ++ names.map leaf).length))).length ≤ _
      rw [e, decide_eq_false (by rw [ln]; lia)]
      exact Nat.le_trans (tak_free hx) (Nat.pow_le_pow_right (by decide) (le _ (by rw [ln]; lia) r hr))
  intro i hi
  have p1 : 1 ≤ (2 ^ ks.length) ^ (names.length - 1) := Nat.one_le_pow _ _ Nat.one_le_two_pow
  by_cases c : i ≤ sol.length
  · refine Nat.le_trans (Nat.le_trans (a i c) (Nat.pow_le_pow_right k1 c)) (Nat.le_trans ?_ hb)
    exact Nat.le_mul_of_pos_right _ p1
  · obtain ⟨j, rfl⟩ : ∃ j, i = sol.length + j := ⟨i - sol.length, by lia⟩
    by_cases d : j < names.length
    · exact Nat.le_trans (b j d) (Nat.le_trans (Nat.mul_le_mul_left _ (Nat.pow_le_pow_right Nat.one_le_two_pow (by lia))) hb)
    · obtain ⟨m, hm⟩ : ∃ m, j = m + 1 := ⟨j - 1, by lia⟩
      have en : names.length = m + 1 := by lia
      subst hm
      have bm := b m (by lia)
      rw [en, Nat.add_sub_cancel] at hb
      refine Nat.le_trans (flatMap_len (k := 1) fun r hr => ?_) (by rw [Nat.mul_one]; exact Nat.le_trans bm hb)
      obtain ⟨x, hx, e⟩ := gv m (by lia)
      show (takT r.1 ((sol ++ names.map leaf).getD (sol.length + m) default) r.2 (decide (sol.length + m + 1 = (sol ++ names.map leaf).length))).length ≤ _
      rw [e, decide_eq_true (by rw [ln, en]; rfl)]
      exact tak_last hx

theorem ch_left {solid kids : List Tm} (hs : ∀ p ∈ solid, isV p = false) : ∀ r ∈ chT solid [([], kids)], r.2.length + solid.length = kids.length := fun r hr => by
  obtain ⟨r0, h0, us, ul, pm, _⟩ := ch_sound hs r hr
  rw [List.mem_singleton.mp h0] at pm
  have := pm.length_eq
  rw [List.length_append, ul] at this
  have : kids.length = solid.length + r.2.length := this
  lia
theorem sol_atom {tb : Tb} {p : Tm} {left : List Tm} (hk : p.ks = []) : (solT tb p left).length ≤ 1 := by
  have key : ∀ l : List Tm, l.Nodup → (l.flatMap (solG tb p left)).length ≤ 1 := by
    intro l
    induction l with
    | nil => intro _; exact Nat.zero_le _
    | cons u r ih =>
      intro nd
      have nd' := List.nodup_cons.mp nd
      rw [List.flatMap_cons, List.length_append]
      by_cases e : u = p
      · have z : r.flatMap (solG tb p left) = [] := List.flatMap_eq_nil_iff.mpr fun v hv => by
          have : fit tb p v = none := fit_no fun ⟨a, b⟩ => by
            have kv : v.ks = [] := List.eq_nil_of_length_eq_zero (by rw [b, hk]; rfl)
            have : v = p := by rw [← Tm.eta v, ← Tm.eta p, a, hk, kv]
            exact nd'.1 (by rw [e, ← this]; exact hv)
          unfold solG; rw [this]; rfl
        rw [z]; exact solG_len _ _ _ _
      · have z : solG tb p left u = [] := by
          have : fit tb p u = none := fit_no fun ⟨a, b⟩ => e (by
            have ku : u.ks = [] := List.eq_nil_of_length_eq_zero (by rw [b, hk]; rfl)
            rw [← Tm.eta u, ← Tm.eta p, a, hk, ku])
          unfold solG; rw [this]; rfl
        rw [z, List.length_nil, Nat.zero_add]; exact ih nd'.2
  exact key _ (nubG_nodup left)
theorem ch_few {solid kids : List Tm} (h : SolOk solid) (k1 : 1 ≤ kids.length) : (chT solid [([], kids)]).length ≤ kids.length := by
  match solid, h with
  | [], _ => exact k1
  | [p], _ =>
    show ([(([] : Tb), kids)].flatMap fun r => solT r.1 p r.2).length ≤ _
    rw [List.flatMap_singleton]; exact solT_len _ _ _
  | [p, q], h =>
    have e := sol_atom (tb := []) (left := kids) (h.at0 p q rfl)
    show (([(([] : Tb), kids)].flatMap fun r => solT r.1 p r.2).flatMap fun r => solT r.1 q r.2).length ≤ _
    rw [List.flatMap_singleton]
    have c := ch_left (solid := [p]) (kids := kids) (fun x hx => (h.so x (by rw [List.mem_singleton.mp hx]; exact List.mem_cons_self)).so.nv)
    have c : ∀ r ∈ solT [] p kids, r.2.length ≤ kids.length := fun r hr => by
      have := c r (by show r ∈ [(([] : Tb), kids)].flatMap fun r => solT r.1 p r.2; rw [List.flatMap_singleton]; exact hr)
      exact Nat.le_trans (Nat.le_add_right _ _) (Nat.le_of_eq this)
    refine Nat.le_trans (flatMap_len (k := kids.length) fun r hr => Nat.le_trans (solT_len _ _ _) (c r hr)) ?_
    exact Nat.le_trans (Nat.mul_le_mul_right _ e) (Nat.le_of_eq (Nat.one_mul _))
  | _ :: _ :: _ :: _, h => exact absurd h.len (by simp)
noncomputable def full (w : Nat) (sp : List Nat) : Bool := (List.range w).all fun p => sp.contains p
theorem due_full {names : List Str} {tb : Tb} {left : List Tm} {sp : List Nat} (sl : sp.length = left.length) (h : full names.length sp = false) : dueG names tb left sp = [] := by
  have : [] ∈ lotsOf left sp names.length := by
    unfold full at h
    obtain ⟨p, hp, hc⟩ := List.all_eq_false.mp h
    refine List.mem_map.mpr ⟨p, hp, ?_⟩
    unfold lotOf
    rw [List.filter_eq_nil_iff.mpr, List.map_nil]
    intro k hk q
    have q := of_decide_eq_true q
    have hk := List.mem_range.mp hk
    refine hc ?_
    rw [List.contains_iff_mem, ← q, List.getD_eq_getElem?_getD, List.getElem?_eq_getElem (by rw [sl]; exact hk)]
    exact List.getElem_mem _
  unfold dueG oneOf
  rw [if_pos this]
  have e : ∀ l : List (Str × List Tm), l.foldl oneS none = none := by
    intro l
    induction l with
    | nil => rfl
    | cons z r ih => exact ih
  rw [e]; rfl
theorem flat_some {α β : Type} {f : α → List β} {g : α → Bool} : ∀ {l : List α}, (∀ x ∈ l, (f x).length ≤ 1 ∧ (g x = false → f x = [])) → (l.flatMap f).length ≤ (l.filter g).length
  | [], _ => Nat.le_refl _
  | x :: r, h => by
    have ih := flat_some (l := r) fun y hy => h y (List.mem_cons_of_mem _ hy)
    have hx := h x List.mem_cons_self
    rw [List.flatMap_cons, List.length_append, List.filter_cons]
    cases e : g x with
    | true => rw [if_pos rfl, List.length_cons]; lia
    | false => rw [if_neg (by decide), hx.2 e, List.length_nil]; lia
theorem due_few {names : List Str} {r : Tb × List Tm} {m : Nat} (h : ((spT names.length r.2.length).filter (full names.length)).length ≤ m) : (dueH names r).length ≤ m := by
  refine Nat.le_trans (flat_some (g := full names.length) fun sp hs => ⟨optL_len, fun e => ?_⟩) h
  exact due_full (spT_mem.mp hs).1 e
theorem spread_few {w k : Nat} (h : (w = 1) ∨ (w = 2 ∧ k ≤ 3) ∨ (w = 3 ∧ k = 3)) : ((spT w k).filter (full w)).length ≤ 8 ∧ (w = 1 → ((spT w k).filter (full w)).length ≤ 1) ∧ w ^ k ≤ 1000 := by
  have l := List.length_filter_le (full w) (spT w k)
  rw [spT_len] at l
  rcases h with rfl | ⟨rfl, h⟩ | ⟨rfl, rfl⟩
  · rw [Nat.one_pow] at l ⊢
    exact ⟨by (exact Nat.le_trans (by assumption) (by decide)), fun _ => l, by decide⟩
  · have : 2 ^ k ≤ 2 ^ 3 := Nat.pow_le_pow_right (by decide) h
    exact ⟨Nat.le_trans l this, (fun e => absurd e (by decide)), Nat.le_trans this (by decide)⟩
  · exact ⟨by decide +kernel, (fun e => absurd e (by decide)), by decide⟩
noncomputable def Fits (w s k : Nat) : Prop := (w = 1 ∧ k ≤ 17) ∨ (w = 2 ∧ k ≤ s + 3) ∨ (w = 3 ∧ s ≤ 1 ∧ k = s + 3)
theorem rows_few {solid kids : List Tm} {names : List Str} (h : SolOk solid) (k1 : 1 ≤ kids.length) (hf : Fits names.length solid.length kids.length) :
    (∀ r ∈ chT solid [([], kids)], names.length ^ r.2.length ≤ 1000) ∧ (nubG (dueR solid names kids)).length < 64 := by
  have nv : ∀ p ∈ solid, isV p = false := fun p hp => (h.so p hp).so.nv
  have cl := ch_left (kids := kids) nv
  have cf := ch_few h k1
  have sl := h.len
  have sp : ∀ r ∈ chT solid [([], kids)], _ := fun r hr => spread_few (w := names.length) (k := r.2.length) (by
    have := cl r hr
    rcases hf with ⟨a, b⟩ | ⟨a, b⟩ | ⟨a, b, c⟩
    · exact .inl a
    · exact .inr (.inl ⟨a, by lia⟩)
    · exact .inr (.inr ⟨a, by lia⟩))
  refine ⟨fun r hr => (sp r hr).2.2, Nat.lt_of_le_of_lt (nubG_len _) ?_⟩
  unfold dueR
  rcases hf with ⟨a, b⟩ | ⟨a, b⟩ | ⟨a, b, c⟩
  · have := flatMap_len (f := dueH names) (k := 1) (l := chT solid [([], kids)]) fun r hr => due_few ((sp r hr).2.1 a)
    lia
  · have := flatMap_len (f := dueH names) (k := 8) (l := chT solid [([], kids)]) fun r hr => due_few (sp r hr).1
    lia
  · have := flatMap_len (f := dueH names) (k := 8) (l := chT solid [([], kids)]) fun r hr => due_few (sp r hr).1
    lia
end Mine
namespace Mine

theorem row_of {slots : List Tm} {tb : Tb} {ks : List Tm} (hq : ∀ p ∈ rowOf slots, Slot p) (hl : Lf ks) : ∀ r ∈ (tabsT (rowOf slots) ([], ks)).map rT, (krV r).srt = true := fun r hr => by
  obtain ⟨tb, ht, rfl⟩ := List.mem_map.mp hr
  obtain ⟨x, hx, rfl⟩ := List.mem_map.mp ht
  have ok := ((shN_inv hq TbOk.nil hl _ (Nat.le_refl _) x (List.mem_filter.mp hx).1).1).row
  exact (sortOk_rows (rows := [rT x.1]) (fun r hr => by rw [List.mem_singleton.mp hr]; exact ok) (by simp)).srt _ (List.mem_singleton_self _)
structure Drawn (solid : List Tm) (vs : List Tm) (kids : List Tm) : Prop where
  so : SolOk solid
  ss : sizeL solid ≤ 4
  vv : ∀ p ∈ vs, ∃ x, p = leaf x ∧ isVarN x = true
  kd : Kids kids
  nf : ∀ u ∈ kids, normT pp u = u
  k2 : 2 ≤ kids.length
  s2 : 2 ≤ (solid ++ vs).length
  fits : Fits vs.length solid.length kids.length
theorem Drawn.all {solid vs kids ks : List Tm} (d : Drawn solid vs kids) (t : Nat) (pk : ks.Perm kids) :
    (∀ p ∈ rotL (solid ++ vs) t, Slot p) ∧ Lf ks ∧ (∀ i, i ≤ (rowOf (rotL (solid ++ vs) t)).length → (shN (rowOf (rotL (solid ++ vs) t)) ([], ks) i).length ≤ 4096) ∧
    (∀ i p, (rowOf (rotL (solid ++ vs) t))[i]? = some p → isV p = true → i + 1 < (rowOf (rotL (solid ++ vs) t)).length → ks.length ≤ 12) ∧
    (nubG ((tabsT (rowOf (rotL (solid ++ vs) t)) ([], ks)).map rT)).length < 64 ∧ outV (nubG ((tabsT (rowOf (rotL (solid ++ vs) t)) ([], ks)).map rT)) = outV (nubG (dueR solid (namesOf (rotL (solid ++ vs) t)) kids)) ∧
    (∀ r ∈ chT solid [([], kids)], (namesOf (rotL (solid ++ vs) t)).length ^ r.2.length ≤ 1000) ∧ (nubG (dueR solid (namesOf (rotL (solid ++ vs) t)) kids)).length < 64 ∧ (namesOf (rotL (solid ++ vs) t)).length = vs.length := by
  have nv : ∀ p ∈ solid, isV p = false := fun p hp => (d.so.so p hp).so.nv
  have hv : ∀ p ∈ vs, isV p = true := fun p hp => by
    obtain ⟨x, rfl, hx⟩ := d.vv p hp; exact isV_leaf hx
  have hsl : ∀ p ∈ rotL (solid ++ vs) t, Slot p := fun p hp => by
    have : p ∈ solid ++ vs := by
      rcases List.mem_append.mp hp with hp | hp
      · exact List.mem_of_mem_drop hp
      · exact List.mem_of_mem_take hp
    rcases List.mem_append.mp this with hp | hp
    · exact .inr (d.so.so p hp).so
    · obtain ⟨x, rfl, hx⟩ := d.vv p hp; exact .inl ⟨x, rfl, hx⟩
  have hl : Lf ks := by
    have k := d.kd.lf
    have m := fun u (hu : u ∈ ks) => pk.mem_iff.mp hu
    exact ⟨fun u hu => k.sm u (m u hu), fun u hu => k.ht u (m u hu), fun u hu => k.fl u (m u hu), by rw [sizeL_perm pk]; exact k.sz⟩
  have nl := names_len (solid := solid) (vs := vs) nv hv t
  have kl : ks.length = kids.length := pk.length_eq
  have same := fun row => same_rows (t := t) d.so hv d.kd pk hl row
  have rf := rows_few (names := namesOf (rotL (solid ++ vs) t)) d.so (Nat.le_of_succ_le d.k2) (by rw [nl]; exact d.fits)
  have np := nub_perm same
  have k2 := d.k2
  have sl := d.so.len
  have er := rowOf_rot nv hv t
  have rl : (solid.drop t ++ solid.take t).length = solid.length := by rw [List.length_append, List.length_drop, List.length_take]; lia
  have hq : ∀ p ∈ rowOf (rotL (solid ++ vs) t), Slot p := fun p hp => by
    unfold rowOf at hp
    rcases List.mem_append.mp hp with hp | hp <;> exact hsl p (List.mem_filter.mp hp).1
  refine ⟨hsl, hl, ?_, ?_, by rw [np.length_eq]; exact rf.2, ?_, rf.1, rf.2, nl⟩
  · rw [er]
    refine sh_len (fun p hp => ?_) names_var hl (by lia) ?_
    · have : p ∈ solid := by
        rcases List.mem_append.mp hp with hp | hp
        · exact List.mem_of_mem_drop hp
        · exact List.mem_of_mem_take hp
      exact ⟨nv p this, .inr (d.so.so p this).so⟩
    · rw [rl, nl, kl]
      rcases d.fits with ⟨a, b⟩ | ⟨a, b⟩ | ⟨a, b, c⟩
      · rw [a, Nat.sub_self, Nat.pow_zero, Nat.mul_one]
        exact Nat.le_trans (Nat.pow_le_pow_left b _) (Nat.le_trans (Nat.pow_le_pow_right (by decide) sl) (by decide))
      · have e : kids.length ≤ 5 := by lia
        rw [a]
        exact Nat.le_trans (Nat.mul_le_mul (Nat.le_trans (Nat.pow_le_pow_left e _) (Nat.pow_le_pow_right (by decide) sl)) (Nat.pow_le_pow_left (Nat.pow_le_pow_right (by decide) e) _)) (by decide)
      · have e : kids.length ≤ 4 := by lia
        rw [a]
        exact Nat.le_trans (Nat.mul_le_mul (Nat.le_trans (Nat.pow_le_pow_left e _) (Nat.pow_le_pow_right (by decide) b)) (Nat.pow_le_pow_left (Nat.pow_le_pow_right (by decide) e) _)) (by decide)
  · rw [er]
    intro i p hi hp hn
    rw [kl]
    rw [List.length_append, List.length_map, rl, nl] at hn
    have : solid.length ≤ i := by
      rcases Nat.lt_or_ge i solid.length with h | h
      · rw [List.getElem?_append_left (by rw [rl]; exact h)] at hi
        have m := List.mem_of_getElem? hi
        have : p ∈ solid := by
          rcases List.mem_append.mp m with hp | hp
          · exact List.mem_of_mem_drop hp
          · exact List.mem_of_mem_take hp
        rw [nv p this] at hp; cases hp
      · exact h
    rcases d.fits with ⟨a, b⟩ | ⟨a, b⟩ | ⟨a, b, c⟩ <;> lia
  · unfold outV
    rw [ordBy_congr (fun x y => krV_inj) (fun r hr => row_of (tb := []) hq hl r ((nubG_mem _).mp hr)) np]

theorem normL_id : ∀ {l : List Tm}, (∀ u ∈ l, normT pp u = u) → normL pp l = l
  | [], _ => rfl
  | t :: r, h => by show normT pp t :: normL pp r = _; rw [h t List.mem_cons_self, normL_id fun u hu => h u (List.mem_cons_of_mem _ hu)]
theorem norm_plus {l : List Tm} (h : 1 < l.length) (hf : ∀ u ∈ l, flat u) (hn : ∀ u ∈ l, normT pp u = u) : normT pp (.mk "+" l) = .mk "+" (ordT l) := by
  have e : normT pp (.mk "+" l) = madeT pp "+" (normL pp l) := by rw [normT_if, if_pos (by rw [isBag_plus]; exact decide_eq_true h)]
  rw [e, normL_id hn, madeT_sum hf]
  rcases sumT_eq l with ⟨x, rfl, _⟩ | ⟨_, e⟩
  · exact absurd h (by simp)
  · exact e
theorem norm_nest {k : Tm} {l : List Tm} (h : 1 < l.length) (hf : ∀ u ∈ k :: l, flat u) (hn : ∀ u ∈ k :: l, normT pp u = u) (hg : ∀ u ∈ k :: l, u.good = true) : normT pp (.mk "+" [k, .mk "+" l]) = .mk "+" (ordT (k :: l)) := by
  have e : normT pp (.mk "+" [k, .mk "+" l]) = madeT pp "+" (normL pp [k, .mk "+" l]) := by rw [normT_if, if_pos (by rw [isBag_plus]; rfl)]
  have hf' : ∀ u ∈ l, flat u := fun u hu => hf u (List.mem_cons_of_mem _ hu)
  have e2 : normL pp [k, .mk "+" l] = [k, .mk "+" (ordT l)] := by
    show [normT pp k, normT pp (.mk "+" l)] = _
    rw [hn k List.mem_cons_self, norm_plus h hf' fun u hu => hn u (List.mem_cons_of_mem _ hu)]
  have e3 : kidsL pp "+" [k, .mk "+" (ordT l)] = k :: ordT l := by
    show kidsT pp "+" k ++ (kidsT pp "+" (.mk "+" (ordT l)) ++ []) = _
    rw [kidsT_flat1 (hf k List.mem_cons_self), kidsT_plus (by rw [ordT_len]; exact h) fun u hu => hf' u ((ordT_perm l).mem_iff.mp hu), List.append_nil]; rfl
  have e4 : ordT (k :: ordT l) = ordT (k :: l) := ordT_congr (fun t ht => by
    rcases List.mem_cons.mp ht with rfl | ht
    · exact hg _ List.mem_cons_self
    · exact hg t (List.mem_cons_of_mem _ ((ordT_perm l).mem_iff.mp ht))) ((ordT_perm l).cons k)
  rw [e, e2]
  show oneOr "+" (ordT (kidsL _ _ _)) = _
  rw [e3, e4]
  have ll : (ordT (k :: l)).length ≠ 1 := by rw [ordT_len, List.length_cons]; exact Nat.ne_of_gt (Nat.succ_lt_succ (Nat.lt_of_succ_lt h))
  rcases oneOr_eq "+" (ordT (k :: l)) with ⟨x, e5, _⟩ | ⟨_, e5⟩
  · rw [e5] at ll; exact absurd rfl ll
  · exact e5

section
variable {w : World} {mg mb : Str → Option Value} {T : Option Addr} {cells : List V} {n : Nat}
theorem spec_told {solid vs kids : List Tm} {t : Nat} {u : Tm} (d : Drawn solid vs kids) (eu : normT pp u = .mk "+" (ordT kids)) (su : Sm u) (sp : Sm (.mk "+" (rotL (solid ++ vs) t))) (τ : Option Nat) :
    FnSpec (cx2 w mg mb T cells) (n + 92) (.ref 275) [(Tm.mk "+" (rotL (solid ++ vs) t)).v, u.v] τ (outV (nubG (dueR solid (namesOf (rotL (solid ++ vs) t)) kids))) τ := by
  have D : FnData (cx2 w mg mb T cells) 275 _ _ ["pattern", "t"] := fnData_of rfl rfl rfl rfl rfl rfl rfl rfl rfl (bindL2 rfl fun _ _ => rfl) rfl (by decide)
  refine fn_spec D rfl (by simp [Tm.own]) fun L cs => ?_
  obtain ⟨a1, a2, a3, a4, a5, a6, _⟩ := d.all t (ordT_perm kids)
  have s2 := d.s2
  have rl : (rotL (solid ++ vs) t).length = (solid ++ vs).length := by
    unfold rotL
    rw [List.length_append, List.length_drop, List.length_take]; lia
  refine Ex_cons (Ex1_try (Ex_cons (Ex1_return (a6 ▸ Ev_methodE m_matched (spec_matched (n := n + 1) rfl eu su a1 (by rw [rl]; exact s2) sp (by rw [ordT_len]; exact d.k2) a2 a3 a4 a5 τ) (Ev_make mkAt g_Bags (EvN.ev (EvN_list (EvL_cons Ev_str EvL_nil) rfl (by simp))) rfl rfl) (EvL_cons (Ev_name rfl rfl) (EvL_cons (Ev_name rfl rfl) EvL_nil))) rfl ⟨rfl, rfl⟩)))
end
end Mine
namespace Mine

theorem Rep.cx {C C' : Cx} (hb : C.bag = C'.bag) (hw : C.w = C'.w) (hT : C.T = Option.none) {h : Heap} {M : List Addr} {v : Value} {y : V} (o : y.own = false) (r : Rep C h M v y) : Rep C' h M v y := by
  cases y with
  | oL xs => cases o
  | oD xs => cases o
  | tray => obtain ⟨a, _, t⟩ := r; rw [hT] at t; cases t
  | any => exact True.intro
  | _ => exact Rp.cx hb hw r
section
variable {prog : Program} {w : World} {K : Frag} {p : Program} {loose : List Str} {mg mb : Str → Option Value} {bag : Addr} {cells : List V} {k1 k2 : Str}
structure Box (p : Prop) : Prop where
  out : p
theorem tray_start {n : Nat} {env : Env} {σ : List (Str × V)} {x : Str} {pn pos pd p1 p2 p3 : Pos} {kk1 kk2 kk3} {e : PySem.Expr} {rest : List Stmt} {A : Around} {s₀ s : Shared} {W : List Addr} {ρ : Str → Option Value} {Q : Value → Shared → Prop}
    (hk : k1 ≠ k2) (R : Room A n) (F : Fs (cxOf prog w K p loose mg mb Option.none bag [] k1 k2) s₀ [] W env σ Option.none [] ρ s) (no : noOwn σ)
    (he : Ev (cxOf prog w K p loose mg mb Option.none bag [] k1 k2) n e env σ Option.none (.lst cells) Option.none) (hx : ownVar env x = true) (hx' : isVar env x = true)
    (hs : swapsWith (.Dict [some (.Constant (.str k1) kk1 p1), some (.Constant (.str k2) kk2 p2)] [e, .Constant (.int 0) kk3 p3] pd) (some (.Name x pn)) pos.line env = pure false)
    (h : ∀ d s₁ ρ' s', Fs (cxOf prog w K p loose mg mb (some d) bag cells k1 k2) s₁ [d] W env ((x, .tray) :: σ) (some 0) [] ρ' s' →
      (∀ s2, Kept (cxOf prog w K p loose mg mb (some d) bag cells k1 k2) s₁ s2 → Keeps s₀ s2) → wpAny (model prog w) A (execs rest env) (flowTo Q) NoE s') :
    Box (wpAny (model prog w) A (execs (.Assign [.Name x pn] (.Dict [some (.Constant (.str k1) kk1 p1), some (.Constant (.str k2) kk2 p2)] [e, .Constant (.int 0) kk3 p3] pd) pos :: rest) env) (flowTo Q) NoE s) := by
  refine ⟨?_⟩
  let C := cxOf prog w K p loose mg mb Option.none bag [] k1 k2
  refine wpAny_execs_cons (wpAny_Assign_Name ?_ hs)
  have fr : s.heap.get? s.heap.objs.size = Option.none := size_none _
  have aM : s.heap.objs.size ∉ W ++ ([] ++ []) := fun q => let ⟨o, e⟩ := F.gs.low _ q; Nat.lt_irrefl _ (Heap.lt_size e)
  refine wpAny_Dict_walk (knd := PySem.strKind prog w) rfl rfl (by simp) (by simp) ?_
  have kp := kpPush s { cls := .type "dict", data := .dict #[] }
  have k : Sub s.heap (s.heap.push { cls := .type "dict", data := .dict #[] }) := fun _ _ e => Heap.get?_push_of_some _ e
  generalize hd : s.heap.objs.size = d at *
  have fr1 : ∀ a ∈ [d], s.heap.get? a = Option.none := fun a ha => by simp at ha; subst ha; exact fr
  have hd1 : (s.heap.push { cls := .type "dict", data := .dict #[] }).get? d = some { cls := .type "dict", data := .dict #[] } := by rw [← hd]; exact Heap.get?_push_size _ rfl
  have G := F.gs.more (N := [d]) (tk := s.toks) k fr1 (fun a ha => by simp at ha; subst ha; exact ⟨_, hd1⟩)
  have F₁ := F.gain (N := [d]) (.of kp) G fr1
  have dW : d ∉ W := fun z => aM (List.mem_append_left _ z)
  have d0 : s₀.heap.get? d = Option.none := by
    cases q : s₀.heap.get? d with
    | none => rfl
    | some o =>
      obtain ⟨h', tk, e1, k1⟩ := F.kept
      have := k1 d o (fun z => nomatch z) q
      rw [e1] at fr
      have fr' : h'.get? d = Option.none := fr
      rw [this] at fr'; cases fr'
  clear hd
  refine pairTrees_cons_walk (wpAny_Constant_str (wpAny_mono (he A R _ _ (F₁.st.keeps (kpTok _ _))) (fun v s₁ zz => and3 zz fun S₁ r₁ K₁ => ?_) fun _ _ x => x))
  refine pairTrees_cons_walk (wpAny_Constant_str (wpAny_Constant_int (pairTrees_nil_walk ?_)))
  obtain ⟨b, bs, rfl, -⟩ := rep_lstE r₁
  have F₂ := (F₁.then (.of (kpTok _ _)) (F₁.gs.keeps (kpTok _ _))).then K₁ S₁.toGs
  have F₃ := F₂.then (.of (kpTrans (kpTok _ (s₁.toks + 1)) (kpTok _ (s₁.toks + 1 + 1)))) (F₂.gs.keeps (kpTrans (kpTok _ (s₁.toks + 1)) (kpTok _ (s₁.toks + 1 + 1))))
  have d2 : s₁.heap.get? d = some { cls := .type "dict", data := .dict #[] } := by
    obtain ⟨h', tk, e1, q⟩ := K₁
    subst e1
    exact q d _ (fun z => nomatch z) hd1
  refine ⟨[(k1, .ref b), (k2, .int 0 (s₁.toks + 1))], ?_, ?_, fun h' hm sb => ?_⟩
  · exact ⟨by simp [PySem.strKind, Value.isStrOf], rfl, by simp [PySem.strKind, Value.isStrOf], rfl, trivial⟩
  · exact ⟨_, #[], 0, d2, ⟨rfl, rfl, rfl⟩, rfl, fun e he => by simp at he, .nil, by simp⟩
  have em : merged [] [(k1, Value.ref b), (k2, .int 0 (s₁.toks + 1))] = [(k1, .ref b), (k2, .int 0 (s₁.toks + 1))] := by
    simp [merged, stored, hk]
  rw [em] at hm
  obtain ⟨t1, t2, n', od⟩ := dict_two hm
  have F₄ := F₃.poke (h' := h') (tk := s₁.toks + 1 + 1 + [(Value.str k1 s.toks, Value.ref b), (.str k2 s₁.toks, .int 0 (s₁.toks + 1))].length) (X := [d]) (O' := [d] ++ []) (fun b hb => by simp at hb; subst hb; exact ⟨by simp, dW⟩)
    (fun b' o nb e => (sb.2 b' (fun q => nb (by simp [q]))).trans e) (fun b' hb => by simp at hb; subst hb; exact ⟨by simp, _, od⟩) no.poke
  refine F₄.set (v := .ref d) (y := .any) True.intro (notOwn rfl) hx hx fun s' F₅ kW => ?_
  have eM : W ++ (([d] ++ []) ++ []) = W ++ ([] ++ [d]) := by simp
  have mem : ∀ a, a ∈ W ++ (([d] ++ []) ++ []) ↔ a ∈ W ++ ([] ++ [d]) := fun a => by rw [eM]
  have od5 : s'.heap.get? d = _ := kW d _ dW od
  have rc : Rp C (hid s₁.heap (W ++ (([d] ++ []) ++ []))) (.ref b) (.lst cells) := r₁
  have subH : Sub (hid s₁.heap (W ++ (([d] ++ []) ++ []))) (hid s'.heap (W ++ ([] ++ [d]))) := by
    rw [← eM]
    refine hid_mono fun b' o nb e => ?_
    have nW : b' ∉ W := fun q => nb (List.mem_append_left _ q)
    have nd : b' ≠ d := fun q => nb (by rw [q]; simp)
    exact kW b' o nW ((sb.2 b' nd).trans e)
  have fresh : ∀ a, a ∈ W → s₀.heap.get? a = Option.none := fun a ha => F.fresh a (.inl ha)
  refine h d (rb s' W) (upd ρ x (.ref d)) s' ?_ ?_
  · refine {
      gs := { base := ?_, low := fun a m => F₅.gs.low a ((mem a).mpr m), mT := fun a q => by cases q; simp, tray := ?_ }
      glob := F₅.glob
      frame := { ns := F₅.frame.ns, cell := F₅.frame.cell, apart := F₅.frame.apart, notT := fun a q => ?_ }
      vars := fun y z e i => ?_
      own := fun y z e i o => ?_
      apart := fun y y' z z' a e e' i i' o => ?_
      wr := F₅.wr
      kept := rb_kept _ _
      fresh := fun a ha => by
        rcases ha with ha | ha
        · exact hid_none ha
        · cases ha
      fa := fun a ha => ?_
      aM := fun a ha => by simp at ha; subst ha; exact ⟨_, hid_get od5 dW⟩
      mT := fun a q => by cases q; simp }
    · have := F₅.gs.base
      rw [eM] at this
      exact this
    · exact ⟨d, t1, t2, _, n', b, rfl, od5, (Rp.cx (C := cxOf prog w K p loose mg mb Option.none bag [] k1 k2) (C' := cxOf prog w K p loose mg mb (some d) bag cells k1 k2) rfl rfl rc).up subH⟩
    · cases q
      have dn : ∀ a, (a = env.locals ∨ ∃ x, env.cells.lookup x = some a) → a ≠ d := fun a ha q => by
        rcases F.fa a ha with h | ⟨o, e⟩
        · exact dW (q ▸ h)
        · rw [q, d0] at e; cases e
      exact ⟨dn _ (.inl rfl), fun y e => dn d (.inr ⟨y, e⟩) rfl⟩
    · by_cases q : y = x
      · subst q
        rw [lookup_cons_eq] at e
        cases e
        refine ⟨.ref d, by simp [upd], ⟨d, rfl, rfl⟩⟩
      · rw [lookup_cons_ne q] at e
        obtain ⟨u, e1, r1⟩ := F₅.vars y z (by rw [lookup_cons_ne q]; exact e) i
        refine ⟨u, e1, ?_⟩
        have := Rep.cx (C := cxOf prog w K p loose mg mb Option.none bag [] k1 k2) (C' := cxOf prog w K p loose mg mb (some d) bag cells k1 k2) rfl rfl rfl (no y z e) r1
        rw [eM] at this
        exact this
    · by_cases q : y = x
      · subst q
        rw [lookup_cons_eq] at e
        cases e; cases o
      · rw [lookup_cons_ne q] at e
        rw [no y z e] at o; cases o
    · by_cases q : y = x
      · subst q
        rw [lookup_cons_eq] at e
        cases e; cases o
      · rw [lookup_cons_ne q] at e
        rw [no y z e] at o; cases o
    · rcases F.fa a ha with h | ⟨o, e⟩
      · exact .inl h
      · refine .inr ?_
        obtain ⟨h5, tk5, e5, k5⟩ := F₅.kept
        have nW : a ∉ W := fun q => by rw [fresh a q] at e; cases e
        exact ⟨o, by subst e5; exact hid_get (k5 a o (fun z => nomatch z) e) nW⟩
  · intro s2 K2
    obtain ⟨h5, tk5, e5, k5⟩ := F₅.kept
    obtain ⟨h6, tk6, e6, k6⟩ := K2
    subst e5
    refine ⟨h6, tk6, e6, fun b' o e => k6 b' o ?_ (hid_get (k5 b' o (fun z => nomatch z) e) fun q => ?_)⟩
    · intro q
      cases q
      rw [d0] at e; cases e
    · rw [fresh b' q] at e; cases e
end
end Mine
namespace Mine

noncomputable def plainZ : List Int := [0, 3, 1, 2, 1, 1, 1, 4, 1, 1]
noncomputable def tA : Tm := .mk "a" []
noncomputable def tB : Tm := .mk "b" []
noncomputable def tFx : Tm := .mk "f" [.mk "?x" []]
noncomputable def solidOpts : List (List Tm) := [[], [tA], [tFx], [tA, tFx]]
noncomputable def tFa : Tm := .mk "f" [tA]
noncomputable def tFb : Tm := .mk "f" [tB]
noncomputable def tFab : Tm := .mk "f" [.mk "+" [tA, tB]]
noncomputable def tFc : Tm := .mk "f" [.mk "c" []]
noncomputable def smallT : List Tm := [tA, tB, tFa, tFb, tFab]
noncomputable def tC (k : Nat) : Tm := .mk ("c" ++ toString (k : Int) : Str) []
structure KidN (t : Tm) : Prop where
  kid : Kid t
  nf : normT pp t = t
  sz : t.size ≤ 4
noncomputable def kidB (t : Tm) : Bool := t.good && decide (t.size ≤ 4) && decide (t.ht ≤ 4) && !(t.f == ("+" : Str)) && (!(t.f == ("f" : Str)) || decide (t.ks.length = 1))
theorem kid_of {t : Tm} (h : kidB t = true) (hn : normT pp t = t) : KidN t := by
  unfold kidB at h
  simp only [Bool.and_eq_true, decide_eq_true_eq, Bool.not_eq_true', Bool.or_eq_true] at h
  obtain ⟨⟨⟨⟨a, b⟩, c⟩, d⟩, e⟩ := h
  refine ⟨⟨⟨a, by (exact Nat.le_trans (by assumption) (by decide)), by (exact Nat.le_trans (by assumption) (by decide))⟩, c, .inr (ne_of_beq_false d), fun q => ?_⟩, hn, b⟩
  rcases e with e | e
  · rw [q] at e; simp at e
  · exact e
theorem norm_no {f : Str} {ks : List Tm} (h : isBag pp (.mk f ks) = false) : normT pp (.mk f ks) = .mk f (normL pp ks) := by
  rw [normT_if, if_neg (by rw [h]; decide)]
theorem norm_leaf (f : Str) : normT pp (.mk f []) = .mk f [] := norm_no (by
  show (_ && decide (1 < (Tm.mk f []).ks.length)) = false
  rw [show decide (1 < (Tm.mk f []).ks.length) = false from rfl, Bool.and_false])
theorem norm_f (x : Tm) : normT pp (.mk "f" [x]) = .mk "f" [normT pp x] := (norm_no (isBag_other (by decide))).trans rfl
theorem norm_ab : normT pp (.mk "+" [tA, tB]) = .mk "+" [tA, tB] := by
  rw [norm_plus (by decide) (fun u hu => ?_) (fun u hu => ?_)]
  · have : ordT [tA, tB] = [tA, tB] := by
      show insBy ktV tA (insBy ktV tB []) = _
      rw [show insBy ktV tB [] = [tB] from rfl]
      unfold insBy
      rw [if_pos (by decide +kernel)]
    rw [this]
  · simp only [List.mem_cons, List.not_mem_nil, or_false] at hu
    rcases hu with rfl | rfl
    · exact .inr (by decide)
    · exact .inr (by decide)
  · simp only [List.mem_cons, List.not_mem_nil, or_false] at hu
    rcases hu with rfl | rfl <;> exact norm_leaf _
theorem kid_small : ∀ t ∈ smallT, KidN t := by
  have all : ∀ t ∈ smallT, kidB t = true := by decide +kernel
  intro t ht
  refine kid_of (all t ht) ?_
  simp only [smallT, List.mem_cons, List.not_mem_nil, or_false] at ht
  rcases ht with rfl | rfl | rfl | rfl | rfl
  · exact norm_leaf _
  · exact norm_leaf _
  · exact (norm_f _).trans (by rw [show normT pp tA = tA from norm_leaf _]; rfl)
  · exact (norm_f _).trans (by rw [show normT pp tB = tB from norm_leaf _]; rfl)
  · exact (norm_f _).trans (by rw [norm_ab]; rfl)
theorem kid_fc : KidN tFc := kid_of (by decide +kernel) ((norm_f _).trans (by rw [norm_leaf]; rfl))
theorem kid_c {k : Nat} (h : k < 14) : KidN (tC k) := by
  have all : ∀ k ∈ List.range 14, kidB (tC k) = true := by decide +kernel
  exact kid_of (all k (List.mem_range.mpr h)) (norm_leaf _)
theorem sol_a : Sol tA := ⟨⟨⟨by decide +kernel, by decide +kernel, by decide +kernel⟩, by decide +kernel, by decide, .inl rfl⟩, fun h => absurd rfl h⟩
theorem sol_f : Sol tFx := ⟨⟨⟨by decide +kernel, by decide +kernel, by decide +kernel⟩, by decide +kernel, by decide, .inr ⟨"?x", rfl, by decide +kernel⟩⟩, fun _ => rfl⟩
theorem ne_af : tA ≠ tFx := fun h => by
  have := congrArg Tm.ks h
  cases this
theorem opts_ok {s : List Tm} (h : s ∈ solidOpts) : SolOk s ∧ sizeL s ≤ 3 ∧ htL s ≤ 2 := by
  simp only [solidOpts, List.mem_cons, List.not_mem_nil, or_false] at h
  rcases h with rfl | rfl | rfl | rfl
  · exact ⟨⟨fun p hp => (nomatch hp), by decide, fun p q e => (nomatch e)⟩, by decide, by decide⟩
  · exact ⟨⟨fun p hp => by rw [List.mem_singleton.mp hp]; exact sol_a, by simp, fun p q e => by simp at e⟩, by decide +kernel, by decide +kernel⟩
  · exact ⟨⟨fun p hp => by rw [List.mem_singleton.mp hp]; exact sol_f, by simp, fun p q e => by simp at e⟩, by decide +kernel, by decide +kernel⟩
  · refine ⟨⟨fun p hp => ?_, by simp, fun p q e => by cases e; rfl⟩, by decide +kernel, by decide +kernel⟩
    simp only [List.mem_cons, List.not_mem_nil, or_false] at hp
    rcases hp with rfl | rfl
    · exact sol_a
    · exact sol_f
open Classical in
theorem opts_len {s : List Tm} (h : s ∈ solidOpts) : s.length = (if tA ∈ s then 1 else 0) + (if tFx ∈ s then 1 else 0) := by
  have n1 := ne_af
  have n2 := n1.symm
  simp only [solidOpts, List.mem_cons, List.not_mem_nil, or_false] at h
  rcases h with rfl | rfl | rfl | rfl <;> simp [n1, n2]
theorem opts_take {s : List Tm} (h : s ∈ solidOpts) : s.take 1 ∈ solidOpts := by
  simp only [solidOpts, List.mem_cons, List.not_mem_nil, or_false] at h
  rcases h with rfl | rfl | rfl | rfl <;> simp [solidOpts]
theorem opts_get {i : Nat} (h : i < 4) : solidOpts.getD i [] ∈ solidOpts := by
  rw [List.getD_eq_getElem?_getD, List.getElem?_eq_getElem (show i < solidOpts.length from h)]
  exact List.getElem_mem _
noncomputable def drawL {α : Type} (f : Nat → α) (c k : Nat) : List α := (List.range c).map fun i => f (k + i)
theorem drawL_succ {α : Type} (f : Nat → α) (c k : Nat) : drawL f (c + 1) k = f k :: drawL f c (k + 1) := by
  unfold drawL
  rw [List.range_succ_eq_map, List.map_cons, List.map_map]
  refine congrArg (f k :: ·) (List.map_congr_left fun i _ => ?_)
  show f (k + (i + 1)) = f (k + 1 + i)
  rw [Nat.add_comm i 1, Nat.add_assoc]
theorem Turns.draw {α : Type} {T' : V → Option Nat → List V → Option Nat → Prop} {f : Nat → α} {g : α → V} : ∀ {items : List V} {k : Nat}, (∀ x ∈ items, ∀ k', k ≤ k' → k' < k + items.length → T' x (some k') [g (f k')] (some (k' + 1))) →
    Turns T' items (some k) ((drawL f items.length k).map g) (some (k + items.length))
  | [], k, _ => ⟨rfl, rfl⟩
  | x :: r, k, h => by
    have t := Turns.draw (f := f) (g := g) (items := r) (k := k + 1) fun y hy k' h1 h2 => h y (List.mem_cons_of_mem _ hy) k' (Nat.le_of_succ_le h1) (by rw [List.length_cons]; lia)
    refine ⟨[g (f k)], (drawL f r.length (k + 1)).map g, some (k + 1), h x List.mem_cons_self k (Nat.le_refl _) (Nat.lt_add_of_pos_right (Nat.succ_pos _)), ?_, by rw [List.length_cons, drawL_succ]; rfl⟩
    rw [show k + (x :: r).length = k + 1 + r.length by rw [List.length_cons]; lia]; exact t
theorem Turns.drawn {α : Type} {T' : V → Option Nat → List V → Option Nat → Prop} {f : Nat → α} {g : α → V} {items : List V} {k c : Nat} (hc : items.length = c) (h : ∀ x ∈ items, ∀ k', k ≤ k' → k' < k + c → T' x (some k') [g (f k')] (some (k' + 1))) :
    Turns T' items (some k) ((drawL f c k).map g) (some (k + c)) := by subst hc; exact Turns.draw h
theorem upto_len (k : Nat) : (upto k).length = k := by unfold upto; rw [List.length_map, List.length_range]
theorem sizeL_le {m : Nat} : ∀ {l : List Tm}, (∀ u ∈ l, u.size ≤ m) → sizeL l ≤ m * l.length
  | [], _ => Nat.zero_le _
  | t :: r, h => by
    have a := h t List.mem_cons_self
    have b := sizeL_le (l := r) fun u hu => h u (List.mem_cons_of_mem _ hu)
    rw [List.length_cons, Nat.mul_succ]
    show t.size + sizeL r ≤ _
    lia
structure KB (W : Nat) (kids : List Tm) : Prop where
  all : ∀ u ∈ kids, KidN u
  sz : sizeL kids ≤ 14
  n : (W = 1 ∧ 1 ≤ kids.length ∧ kids.length ≤ 14) ∨ (W = 2 ∧ 2 ≤ kids.length ∧ kids.length ≤ 3) ∨ (W = 3 ∧ kids.length = 3)
theorem ev_dip {w : World} {mg mb : Str → Option Value} {T : Option Addr} {us : List Int} {C : Cx} {n : Nat} {env : Env} {σ : List (Str × V)} {k many : Nat} {e : PySem.Expr} {a1 a2 a4} (hC : C = cx2 w mg mb T (cellsV us)) (hm : 0 < many) (lu : us.length ≤ 1000) (hk : k ≤ 1000) (hn : 1 ≤ n) (ht : σ.lookup ("pot" : Str) = some .tray) (it : isVar env "pot" = true)
    (he : Ev C n e env σ (some k) (.int (many : Int)) (some k)) (kf : env.kindOf "_law_dip" = some .globalImplicit) (h1 : starEach [.Name "pot" a2, e] env = (false, eval (.Name "pot" a2) env) :: starEach [e] env) (h2 : starEach [e] env = (false, eval e env) :: starEach [] env) :
    Ev C n (.Call (.Name "_law_dip" a1) [.Name "pot" a2, e] [] a4) env σ (some k) (.int (dipN us k many : Nat)) (some (k + 1)) := by
  subst hC
  exact Ev_call g_dip (isFun_of rfl) ((spec_dip (n := 0) hm lu hk).le hn) (EvL_cons (Ev_name ht it) (EvL_cons he EvL_nil h2) h1) kf h1
section
variable {w : World} {mg mb : Str → Option Value} {T : Option Addr} {cells : List V}
theorem Ev_plain {n : Nat} {env : Env} {σ : List (Str × V)} {τ : Option Nat} {pos : Pos} (k : env.kindOf "_law_plain" = some .globalImplicit) : Ev (cx2 w mg mb T cells) n (.Name "_law_plain" pos) env σ τ (.tup (cellsV plainZ)) τ := fun A R M s S => by
  have e := (cx2 w mg mb T cells).kin _ S.base 215 _ rfl
  exact wp_glob S g_plain k (by decide) ⟨S, .tup ⟨_, _, e, rfl, rfl, rfl⟩ (.cons (.int _ _) (.cons (.int _ _) (.cons (.int _ _) (.cons (.int _ _) (.cons (.int _ _) (.cons (.int _ _) (.cons (.int _ _) (.cons (.int _ _) (.cons (.int _ _) (.cons (.int _ _) .nil)))))))))), .refl ..⟩
end
theorem Ex.run {C : Cx} {n : Nat} {ss : List Stmt} {env : Env} {σ : List (Str × V)} {τ : Option Nat} {P : Out → Prop} {A : Around} {s₀ s : Shared} {M₀ W O : List Addr} {ρ : Str → Option Value} {Q : Flow → Shared → Prop} (h : Ex C n ss env σ τ P) (R : Room A n) (F : Fs C s₀ M₀ W env σ τ O ρ s)
    (k : ∀ o f s', P o → OutAt C s₀ M₀ W env o f s' → Q f s') : Box (wpAny (model C.prog C.w) A (execs ss env) Q NoE s) := ⟨wpAny_mono (h A R s₀ M₀ W O ρ s F) (fun f s' zz => ex2 zz fun o p q => k o f s' p q) fun _ _ x => x⟩
end Mine
namespace Mine
section
variable {C : Cx} {n : Nat} {env : Env} {σ : List (Str × V)} {τ : Option Nat}
theorem ev_tA {k p i q} : Ev C n (.Tuple [.Constant (.str "a") k p] i q) env σ τ tA.v τ := @Ev_tuple _ _ _ _ _ _ _ _ _ [.str "a"] (@EvL_cons _ _ _ _ _ _ _ _ _ _ _ (@Ev_str _ _ _ _ _ _ _ _) (@EvL_nil _ _ _ _ _) rfl) rfl (by simp)
theorem ev_tFx {k p k2 p2 i q i2 q2} : Ev C n (.Tuple [.Constant (.str "f") k p, .Tuple [.Constant (.str "?x") k2 p2] i2 q2] i q) env σ τ tFx.v τ :=
  @Ev_tuple _ _ _ _ _ _ _ _ _ [.str "f", .tup [.str "?x"]] (@EvL_cons _ _ _ _ _ _ _ _ _ _ _ (@Ev_str _ _ _ _ _ _ _ _) (@EvL_cons _ _ _ _ _ _ _ _ _ _ _ (@Ev_tuple _ _ _ _ _ _ _ _ _ [.str "?x"] (@EvL_cons _ _ _ _ _ _ _ _ _ _ _ (@Ev_str _ _ _ _ _ _ _ _) (@EvL_nil _ _ _ _ _) rfl) rfl (by simp)) (@EvL_nil _ _ _ _ _) rfl) rfl) rfl (by simp)
theorem ev_l0 {q} : Ev C n (.List [] q) env σ τ (.lst []) τ := @EvN.ev _ _ _ _ _ _ _ _ (@EvN_list _ _ _ _ _ _ _ _ [] (@EvL_nil _ _ _ _ _) rfl (by simp))
theorem ev_l1 {e q} {t : Tm} (h : Ev C n e env σ τ t.v τ) (he : starEach [e] env = (false, eval e env) :: starEach [] env) : Ev C n (.List [e] q) env σ τ (.lst [t.v]) τ :=
  @EvN.ev _ _ _ _ _ _ _ _ (@EvN_list _ _ _ _ _ _ _ _ [t.v] (@EvL_cons _ _ _ _ _ _ _ _ _ _ _ h (@EvL_nil _ _ _ _ _) he) (by simp [Tm.pure]) (by simp))
theorem ev_l2 {e e' q} {t u : Tm} (h : Ev C n e env σ τ t.v τ) (h' : Ev C n e' env σ τ u.v τ) (he : starEach [e, e'] env = (false, eval e env) :: starEach [e'] env) (he' : starEach [e'] env = (false, eval e' env) :: starEach [] env) : Ev C n (.List [e, e'] q) env σ τ (.lst [t.v, u.v]) τ :=
  @EvN.ev _ _ _ _ _ _ _ _ (@EvN_list _ _ _ _ _ _ _ _ [t.v, u.v] (@EvL_cons _ _ _ _ _ _ _ _ _ _ _ h (@EvL_cons _ _ _ _ _ _ _ _ _ _ _ h' (@EvL_nil _ _ _ _ _) he') he) (by simp [Tm.pure]) (by simp))
theorem ev_l4 {e1 e2 e3 e4 q} {a b c d : List V} (h1 : Ev C n e1 env σ τ (.lst a) τ) (h2 : Ev C n e2 env σ τ (.lst b) τ) (h3 : Ev C n e3 env σ τ (.lst c) τ) (h4 : Ev C n e4 env σ τ (.lst d) τ) (k1 : starEach [e1, e2, e3, e4] env = (false, eval e1 env) :: starEach [e2, e3, e4] env)
    (k2 : starEach [e2, e3, e4] env = (false, eval e2 env) :: starEach [e3, e4] env) (k3 : starEach [e3, e4] env = (false, eval e3 env) :: starEach [e4] env) (k4 : starEach [e4] env = (false, eval e4 env) :: starEach [] env) : Ev C n (.List [e1, e2, e3, e4] q) env σ τ (.lst [.lst a, .lst b, .lst c, .lst d]) τ :=
  @EvN.ev _ _ _ _ _ _ _ _ (@EvN_list _ _ _ _ _ _ _ _ [.lst a, .lst b, .lst c, .lst d] (@EvL_cons _ _ _ _ _ _ _ _ _ _ _ h1 (@EvL_cons _ _ _ _ _ _ _ _ _ _ _ h2 (@EvL_cons _ _ _ _ _ _ _ _ _ _ _ h3 (@EvL_cons _ _ _ _ _ _ _ _ _ _ _ h4 (@EvL_nil _ _ _ _ _) k4) k3) k2) k1) rfl (by simp))
theorem solid_get {k : Nat} (h : k < 4) : ([V.lst [], .lst [tA.v], .lst [tFx.v], .lst [tA.v, tFx.v]] : List V)[k]? = some (.lst ((solidOpts.getD k []).map Tm.v)) := by
  have e : ([V.lst [], .lst [tA.v], .lst [tFx.v], .lst [tA.v, tFx.v]] : List V) = solidOpts.map fun s => V.lst (s.map Tm.v) := rfl
  rw [e, List.getElem?_map, getD_some (l := solidOpts) (d := []) h]; rfl
theorem ev_solid {w : World} {mg mb : Str → Option Value} {T : Option Addr} {us : List Int} {k1 p1 k2 p2 k3 p3 k4 p4 k5 p5 k6 p6 i1 i2 i3 i4 i5 i6 q0 q1 q2 q3 q4 q5 q6 q7 q8 q9 q10 pos a1 a2 a3 a4 kk} {k : Nat} (hC : C = cx2 w mg mb T (cellsV us)) (lu : us.length ≤ 1000) (hk : k ≤ 1000) (hn : 1 ≤ n) (ht : σ.lookup ("pot" : Str) = some .tray) (it : isVar env "pot" = true) (kf : env.kindOf "_law_dip" = some .globalImplicit) :
    Ev C n (.Subscript (.List [.List [] q0, .List [.Tuple [.Constant (.str "a") k1 p1] i1 q1] q2, .List [.Tuple [.Constant (.str "f") k2 p2, .Tuple [.Constant (.str "?x") k3 p3] i2 q3] i3 q4] q5,
      .List [.Tuple [.Constant (.str "a") k4 p4] i4 q6, .Tuple [.Constant (.str "f") k5 p5, .Tuple [.Constant (.str "?x") k6 p6] i5 q7] i6 q8] q9] q10)
      (.Call (.Name "_law_dip" a1) [.Name "pot" a2, .Constant (.int (4 : Int)) kk a3] [] a4) pos) env σ (some k) (.lst ((solidOpts.getD (dipN us k 4) []).map Tm.v)) (some (k + 1)) := by
  have d1 := dipN_lt (zs := us) (k := k) (many := 4) (by decide)
  refine @Ev_itemN _ _ _ _ _ (some k) _ _ _ _ (.lst [.lst [], .lst [tA.v], .lst [tFx.v], .lst [tA.v, tFx.v]]) _ [.lst [], .lst [tA.v], .lst [tFx.v], .lst [tA.v, tFx.v]] (dipN us k 4) ?_ ?_ rfl (solid_get d1) (by lia) (by intro _ _; with_unfolding_all rfl)
  · exact @ev_l4 _ _ _ _ _ _ _ _ _ _ [] [tA.v] [tFx.v] [tA.v, tFx.v] (@ev_l0 _ _ _ _ _ _) (@ev_l1 _ _ _ _ _ _ _ _ (@ev_tA _ _ _ _ _ _ _ _ _) rfl) (@ev_l1 _ _ _ _ _ _ _ _ (@ev_tFx _ _ _ _ _ _ _ _ _ _ _ _ _) rfl) (@ev_l2 _ _ _ _ _ _ _ _ _ _ (@ev_tA _ _ _ _ _ _ _ _ _) (@ev_tFx _ _ _ _ _ _ _ _ _ _ _ _ _) rfl rfl) rfl rfl rfl rfl
  · exact @ev_dip _ _ _ _ _ _ _ _ _ _ _ _ _ _ _ hC (by decide) lu hk hn ht it (@Ev_int _ _ _ _ _ _ _ _) kf rfl rfl
theorem ev_tN {x : Str} {k p i q} : Ev C n (.Tuple [.Constant (.str x) k p] i q) env σ τ (Tm.mk x []).v τ := @Ev_tuple _ _ _ _ _ _ _ _ _ [.str x] (@EvL_cons _ _ _ _ _ _ _ _ _ _ _ (@Ev_str _ _ _ _ _ _ _ _) (@EvL_nil _ _ _ _ _) rfl) rfl (by simp)
theorem ev_tF {x : Str} {e k p i q} {t : Tm} (h : Ev C n e env σ τ t.v τ) (k1 : starEach [.Constant (.str x) k p, e] env = (false, eval (.Constant (.str x) k p) env) :: starEach [e] env) (k2 : starEach [e] env = (false, eval e env) :: starEach [] env) : Ev C n (.Tuple [.Constant (.str x) k p, e] i q) env σ τ (Tm.mk x [t]).v τ :=
  @Ev_tuple _ _ _ _ _ _ _ _ _ [.str x, t.v] (@EvL_cons _ _ _ _ _ _ _ _ _ _ _ (@Ev_str _ _ _ _ _ _ _ _) (@EvL_cons _ _ _ _ _ _ _ _ _ _ _ h (@EvL_nil _ _ _ _ _) k2) k1) (by simp [pure_str, Tm.pure]) (by simp)
theorem ev_tP {x : Str} {e e' k p i q} {t u : Tm} (h : Ev C n e env σ τ t.v τ) (h' : Ev C n e' env σ τ u.v τ) (k1 : starEach [.Constant (.str x) k p, e, e'] env = (false, eval (.Constant (.str x) k p) env) :: starEach [e, e'] env) (k2 : starEach [e, e'] env = (false, eval e env) :: starEach [e'] env) (k3 : starEach [e'] env = (false, eval e' env) :: starEach [] env) :
    Ev C n (.Tuple [.Constant (.str x) k p, e, e'] i q) env σ τ (Tm.mk x [t, u]).v τ :=
  @Ev_tuple _ _ _ _ _ _ _ _ _ [.str x, t.v, u.v] (@EvL_cons _ _ _ _ _ _ _ _ _ _ _ (@Ev_str _ _ _ _ _ _ _ _) (@EvL_cons _ _ _ _ _ _ _ _ _ _ _ h (@EvL_cons _ _ _ _ _ _ _ _ _ _ _ h' (@EvL_nil _ _ _ _ _) k3) k2) k1) (by simp [pure_str, Tm.pure]) (by simp)
theorem ev_l5 {e1 e2 e3 e4 e5 q} {a b c d e : Tm} (h1 : Ev C n e1 env σ τ a.v τ) (h2 : Ev C n e2 env σ τ b.v τ) (h3 : Ev C n e3 env σ τ c.v τ) (h4 : Ev C n e4 env σ τ d.v τ) (h5 : Ev C n e5 env σ τ e.v τ) (k1 : starEach [e1, e2, e3, e4, e5] env = (false, eval e1 env) :: starEach [e2, e3, e4, e5] env)
    (k2 : starEach [e2, e3, e4, e5] env = (false, eval e2 env) :: starEach [e3, e4, e5] env) (k3 : starEach [e3, e4, e5] env = (false, eval e3 env) :: starEach [e4, e5] env) (k4 : starEach [e4, e5] env = (false, eval e4 env) :: starEach [e5] env) (k5 : starEach [e5] env = (false, eval e5 env) :: starEach [] env) :
    Ev C n (.List [e1, e2, e3, e4, e5] q) env σ τ (.lst ([a, b, c, d, e].map Tm.v)) τ :=
  @EvN.ev _ _ _ _ _ _ _ _ (@EvN_list _ _ _ _ _ _ _ _ [a.v, b.v, c.v, d.v, e.v] (@EvL_cons _ _ _ _ _ _ _ _ _ _ _ h1 (@EvL_cons _ _ _ _ _ _ _ _ _ _ _ h2 (@EvL_cons _ _ _ _ _ _ _ _ _ _ _ h3 (@EvL_cons _ _ _ _ _ _ _ _ _ _ _ h4 (@EvL_cons _ _ _ _ _ _ _ _ _ _ _ h5 (@EvL_nil _ _ _ _ _) k5) k4) k3) k2) k1) (by simp [Tm.pure]) (by simp))
theorem ev_small {k1 p1 k2 p2 k3 p3 k4 p4 k5 p5 k6 p6 k7 p7 k8 p8 k9 p9 k0 p0 i1 i2 i3 i4 i5 i6 i7 i8 i9 i0 q1 q2 q3 q4 q5 q6 q7 q8 q9 q0 q} :
    Ev C n (.List [.Tuple [.Constant (.str "a") k1 p1] i1 q1, .Tuple [.Constant (.str "b") k2 p2] i2 q2, .Tuple [.Constant (.str "f") k3 p3, .Tuple [.Constant (.str "a") k4 p4] i3 q3] i4 q4, .Tuple [.Constant (.str "f") k5 p5, .Tuple [.Constant (.str "b") k6 p6] i5 q5] i6 q6,
      .Tuple [.Constant (.str "f") k7 p7, .Tuple [.Constant (.str "+") k8 p8, .Tuple [.Constant (.str "a") k9 p9] i7 q7, .Tuple [.Constant (.str "b") k0 p0] i8 q8] i9 q9] i0 q0] q) env σ τ (.lst (smallT.map Tm.v)) τ :=
  @ev_l5 _ _ _ _ _ _ _ _ _ _ _ tA tB tFa tFb tFab (@ev_tN _ _ _ _ _ _ _ _ _ _) (@ev_tN _ _ _ _ _ _ _ _ _ _) (@ev_tF _ _ _ _ _ _ _ _ _ _ _ _ (@ev_tN _ _ _ _ _ _ _ _ _ _) rfl rfl) (@ev_tF _ _ _ _ _ _ _ _ _ _ _ _ (@ev_tN _ _ _ _ _ _ _ _ _ _) rfl rfl)
    (@ev_tF _ _ _ _ _ _ _ _ _ _ _ _ (@ev_tP _ _ _ _ _ _ _ _ _ _ _ _ _ _ (@ev_tN _ _ _ _ _ _ _ _ _ _) (@ev_tN _ _ _ _ _ _ _ _ _ _) rfl rfl rfl) rfl rfl) rfl rfl rfl rfl rfl
theorem ev_var {w : World} {mg mb : Str → Option Value} {T : Option Addr} {us : List Int} {k1 p1 k2 p2 k3 p3 i q pos a1 a2 a3 a4 kk} {k : Nat} (hC : C = cx2 w mg mb T (cellsV us)) (lu : us.length ≤ 1000) (hk : k ≤ 1000) (hn : 1 ≤ n) (ht : σ.lookup ("pot" : Str) = some .tray) (it : isVar env "pot" = true) (kf : env.kindOf "_law_dip" = some .globalImplicit) :
    Ev C n (.Subscript (.Tuple [.Constant (.str "?x") k1 p1, .Constant (.str "?y") k2 p2, .Constant (.str "?z") k3 p3] i q) (.Call (.Name "_law_dip" a1) [.Name "pot" a2, .Constant (.int (3 : Int)) kk a3] [] a4) pos) env σ (some k) (.str (varNames.getD (dipN us k 3) "?x")) (some (k + 1)) := by
  have d1 := dipN_lt (zs := us) (k := k) (many := 3) (by decide)
  refine @Ev_itemN _ _ _ _ _ (some k) _ _ _ _ (.tup [.str "?x", .str "?y", .str "?z"]) _ [.str "?x", .str "?y", .str "?z"] (dipN us k 3) ?_ ?_ rfl ?_ (by lia) (by intro _ _; with_unfolding_all rfl)
  · exact @Ev_tuple _ _ _ _ _ _ _ _ _ [.str "?x", .str "?y", .str "?z"] (@EvL_cons _ _ _ _ _ _ _ _ _ _ _ (@Ev_str _ _ _ _ _ _ _ _) (@EvL_cons _ _ _ _ _ _ _ _ _ _ _ (@Ev_str _ _ _ _ _ _ _ _) (@EvL_cons _ _ _ _ _ _ _ _ _ _ _ (@Ev_str _ _ _ _ _ _ _ _) (@EvL_nil _ _ _ _ _) rfl) rfl) rfl) rfl (by simp)
  · exact @ev_dip _ _ _ _ _ _ _ _ _ _ _ _ _ _ _ hC (by decide) lu hk hn ht it (@Ev_int _ _ _ _ _ _ _ _) kf rfl rfl
  · have : ([.str "?x", .str "?y", .str "?z"] : List V) = varNames.map V.str := rfl
    rw [this, List.getElem?_map, getD_some (l := varNames) (d := "?x") d1]; rfl
noncomputable def cnts : List Nat := [1, 2, 13, 14]
theorem ev_cnt {w : World} {mg mb : Str → Option Value} {T : Option Addr} {us : List Int} {k1 p1 k2 p2 k3 p3 k4 p4 i q pos a1 a2 a3 a4 kk} {k : Nat} (hC : C = cx2 w mg mb T (cellsV us)) (lu : us.length ≤ 1000) (hk : k ≤ 1000) (hn : 1 ≤ n) (ht : σ.lookup ("pot" : Str) = some .tray) (it : isVar env "pot" = true) (kf : env.kindOf "_law_dip" = some .globalImplicit) :
    Ev C n (.Subscript (.Tuple [.Constant (.int (1 : Int)) k1 p1, .Constant (.int (2 : Int)) k2 p2, .Constant (.int (13 : Int)) k3 p3, .Constant (.int (14 : Int)) k4 p4] i q) (.Call (.Name "_law_dip" a1) [.Name "pot" a2, .Constant (.int (4 : Int)) kk a3] [] a4) pos) env σ (some k) (.int ((cnts.getD (dipN us k 4) 1 : Nat) : Int)) (some (k + 1)) := by
  have d1 := dipN_lt (zs := us) (k := k) (many := 4) (by decide)
  refine @Ev_itemN _ _ _ _ _ (some k) _ _ _ _ (.tup [.int 1, .int 2, .int 13, .int 14]) _ [.int 1, .int 2, .int 13, .int 14] (dipN us k 4) ?_ ?_ rfl ?_ (by lia) (by intro _ _; with_unfolding_all rfl)
  · exact @Ev_tuple _ _ _ _ _ _ _ _ _ [.int 1, .int 2, .int 13, .int 14] (@EvL_cons _ _ _ _ _ _ _ _ _ _ _ (@Ev_int _ _ _ _ _ _ _ _) (@EvL_cons _ _ _ _ _ _ _ _ _ _ _ (@Ev_int _ _ _ _ _ _ _ _) (@EvL_cons _ _ _ _ _ _ _ _ _ _ _ (@Ev_int _ _ _ _ _ _ _ _) (@EvL_cons _ _ _ _ _ _ _ _ _ _ _ (@Ev_int _ _ _ _ _ _ _ _) (@EvL_nil _ _ _ _ _) rfl) rfl) rfl) rfl) rfl (by simp)
  · exact @ev_dip _ _ _ _ _ _ _ _ _ _ _ _ _ _ _ hC (by decide) lu hk hn ht it (@Ev_int _ _ _ _ _ _ _ _) kf rfl rfl
  · have : ([.int 1, .int 2, .int 13, .int 14] : List V) = cnts.map fun (k : Nat) => V.int (k : Int) := rfl
    rw [this, List.getElem?_map, getD_some (l := cnts) (d := 1) d1]; rfl
end
structure Lk (W : Nat) (sol : List Tm) (names : List Str) (kids : List Tm) (σ : List (Str × V)) : Prop where
  pot : σ.lookup ("pot" : Str) = some .tray
  wide : σ.lookup ("wide" : Str) = some (.int (W : Int))
  solid : σ.lookup ("solid" : Str) = some (.lst (sol.map Tm.v))
  names : σ.lookup ("names" : Str) = some (.lst (names.map V.str))
  small : σ.lookup ("small" : Str) = some (.lst (smallT.map Tm.v))
  kids : σ.lookup ("kids" : Str) = some (.oL (kids.map Tm.v))
structure Kn (kids : List Tm) (m b : Nat) : Prop where
  all : ∀ u ∈ kids, KidN u
  sz : sizeL kids ≤ b
  n : kids.length = m
theorem Kn.snoc {kids : List Tm} {m b : Nat} {u : Tm} (h : Kn kids m b) (hu : KidN u) : Kn (kids ++ [u]) (m + 1) (b + 4) := by
  refine ⟨fun v hv => ?_, ?_, by rw [List.length_append, h.n]; rfl⟩
  · rcases List.mem_append.mp hv with hv | hv
    · exact h.all v hv
    · rw [List.mem_singleton.mp hv]; exact hu
  · have := h.sz
    have := hu.sz
    rw [sizeL_app]
    show sizeL kids + (u.size + 0) ≤ _
    lia
end Mine
namespace Mine

theorem outV_self {rows : List Tb} (h : ∀ r ∈ rows, TbOk r) : (outV rows).fine = true ∧ (outV rows).py.depth ≤ 9 ∧ PyData.eqv (outV rows).py (outV rows).py = true := by
  unfold outV
  have m : ∀ r ∈ ordBy krV rows, TbOk r := fun r hr => h r ((ordBy_perm krV rows).mem_iff.mp hr)
  generalize ordBy krV rows = l at *
  have s : srtL (l.map rowVV) = true := srtL_map fun r hr => row_srt (m r hr)
  have dp : depL (l.map rowVV) ≤ 7 := depL_map fun r hr => row_dep (m r hr)
  generalize l.map rowVV = q at *
  refine ⟨?_, ?_, ?_⟩
  · unfold V.fine
    have e1 : (V.lst q).plain = plainL q := rfl
    have e2 : (V.lst q).py.canLay0 = PyData.canLayAll0 (pyL q) := by simp [V.py, PyData.canLay0]
    rw [e1, e2, srtL_plain s, srtL_lay s]; rfl
  · have e : (V.lst q).py.depth = PyData.depthAll (pyL q) + 1 := by simp [V.py, PyData.depth]
    rw [e, pyL_dep (srtL_plain s)]
    (exact Nat.le_trans (Nat.add_le_add_right (by assumption) _) (by decide))
  · have e : PyData.eqv (V.lst q).py (V.lst q).py = PyData.eqvAll (pyL q) (pyL q) := by simp [V.py, PyData.eqv]
    rw [e, eqvL_cmp s s]
    have : cmpV (.tup q) (.tup q) = .eq := cmpV_refl (by simp [V.srt, s])
    have e2 : cmpV (.tup q) (.tup q) = cmpL q q := rfl
    rw [e2] at this
    rw [this]; rfl
theorem Drawn.rows {solid vs kids : List Tm} (d : Drawn solid vs kids) (t : Nat) : ∀ r ∈ dueR solid (namesOf (rotL (solid ++ vs) t)) kids, TbOk r := fun r hr => by
  have hv : ∀ p ∈ vs, isV p = true := fun p hp => by obtain ⟨x, rfl, hx⟩ := d.vv p hp; exact isV_leaf hx
  have m := (same_rows (t := t) d.so hv d.kd (List.Perm.refl kids) d.kd.lf r).mpr hr
  have hs := (d.all t (List.Perm.refl kids)).1
  have hq : ∀ p ∈ rowOf (rotL (solid ++ vs) t), Slot p := fun p hp => by
    rcases List.mem_append.mp hp with hp | hp
    · exact hs p (List.mem_filter.mp hp).1
    · exact hs p (List.mem_filter.mp hp).1
  obtain ⟨tb, ht, rfl⟩ := List.mem_map.mp m
  obtain ⟨x, hx, rfl⟩ := List.mem_map.mp ht
  exact ((shN_inv hq TbOk.nil d.kd.lf _ (Nat.le_refl _) x (List.mem_filter.mp hx).1).1).row
theorem rotL_perm (l : List Tm) (t : Nat) : (rotL l t).Perm l := by
  unfold rotL
  exact List.perm_append_comm.trans (by rw [List.take_append_drop])
theorem Cmp_nat {C : Cx} {n : Nat} {a b : Nat} {c : Bool} (h : decide (a = b) = c) : CmpR C n .Eq (.int (a : Int)) (.int (b : Int)) c := Cmp_eq rfl rfl (by simp [V.py, PyData.depth]) (by
  rw [← h]
  show ((a : Int) == (b : Int)) = _
  by_cases q : a = b
  · subst q; simp
  · rw [decide_eq_false q, beq_eq_false_iff_ne]; exact fun e => q (Int.ofNat.inj e))
theorem int_hi {k m : Nat} (h : k < m) (hm : m ≤ 1000) : (k : Int) < 2 ^ 63 := by lia
theorem rot_len {α : Type} {l : List α} {t m : Nat} (h : l.length ≤ m) : (l.drop t).length + (l.take t).length ≤ m := by
  rw [Nat.add_comm, ← List.length_append, List.take_append_drop]; exact h
theorem sm_plus {l : List Tm} (hg : ∀ u ∈ l, u.good = true) (hs : sizeL l ≤ 50) (hh : ∀ u ∈ l, u.ht ≤ 10) : Sm (.mk "+" l) := by
  refine ⟨?_, ?_, ?_⟩
  · show (okName "+" && goodL l) = true
    rw [goodL_iff.mpr hg]; decide +kernel
  · simp only [Tm.size]; (exact Nat.le_trans (Nat.add_le_add_right (by assumption) _) (by decide))
  · simp only [Tm.ht]; have := htL_le hh; (exact Nat.le_trans (Nat.add_le_add_right (by assumption) _) (by decide))
theorem slot_head {sol : List Tm} {names : List Str} (so : sol ∈ solidOpts) (nv : ∀ x ∈ names, isVarN x = true) : ∀ p ∈ sol ++ names.map leaf, (V.str (first1 p.f)).fine = true ∧ PyData.eqv (V.str (first1 p.f)).py (V.str "?").py = isV p ∧ 1 ≤ p.f.length ∧ p.good = true ∧ p.size ≤ 2 ∧ p.ht ≤ 2 := by
  intro p hp
  rcases List.mem_append.mp hp with hp | hp
  · have all : ∀ p ∈ [tA, tFx], (V.str (first1 p.f)).fine = true ∧ PyData.eqv (V.str (first1 p.f)).py (V.str "?").py = isV p ∧ 1 ≤ p.f.length ∧ p.good = true ∧ p.size ≤ 2 ∧ p.ht ≤ 2 := by decide +kernel
    refine all p ?_
    simp only [solidOpts, List.mem_cons, List.not_mem_nil, or_false] at so
    rcases so with rfl | rfl | rfl | rfl
    · cases hp
    · rw [List.mem_singleton.mp hp]; simp
    · rw [List.mem_singleton.mp hp]; simp
    · exact hp
  · obtain ⟨x, hx, rfl⟩ := List.mem_map.mp hp
    have hm : x ∈ varNames := by simpa [isVarN] using nv x hx
    have all : ∀ x ∈ varNames, (V.str (first1 x)).fine = true ∧ PyData.eqv (V.str (first1 x)).py (V.str "?").py = isV (leaf x) ∧ 1 ≤ x.length ∧ (leaf x).good = true ∧ (leaf x).size ≤ 2 ∧ (leaf x).ht ≤ 2 := by decide +kernel
    exact all x hm
theorem drawn_of {W e : Nat} {sol kids kids2 ks : List Tm} {names : List Str} (so : sol ∈ solidOpts) (sn : W = 1 → sol ≠ []) (s3 : W = 3 → sol.length ≤ 1) (hW : 1 ≤ W ∧ W ≤ 3) (nv : ∀ x ∈ names, isVarN x = true) (nl : names.length = W) (kb : KB W kids) (he : e ≤ 1) (hew : e = 1 → W = 1) {a : Nat} (ha : a = sol.length)
    (kn : Kn kids2 (kids.length + a + e) 26) (p : ks.Perm kids2) : Drawn sol (names.map leaf) ks := by
  have n := kb.n
  have l := p.length_eq
  rw [kn.n] at l
  have z := sizeL_perm p
  have s0 := fun w => List.length_pos_iff.mpr (sn w)
  have m := fun u (hu : u ∈ ks) => kn.all u (p.mem_iff.mp hu)
  refine ⟨(opts_ok so).1, Nat.le_succ_of_le (opts_ok so).2.1, fun q hq => ?_, ⟨fun u hu => (m u hu).kid, by rw [z]; have := kn.sz; lia⟩, fun u hu => (m u hu).nf, ?_, ?_, ?_⟩
  · obtain ⟨x, hx, rfl⟩ := List.mem_map.mp hq
    exact ⟨x, rfl, nv x hx⟩
  · rcases n with ⟨w, n⟩ | ⟨w, n⟩ | ⟨w, n⟩
    · have := s0 w; lia
    · lia
    · lia
  · rw [List.length_append, List.length_map]
    rcases n with ⟨w, n⟩ | ⟨w, n⟩ | ⟨w, n⟩
    · have := s0 w; lia
    · lia
    · lia
  · rw [List.length_map, nl]
    have l2 := (opts_ok so).1.len
    have e0 : W ≠ 1 → e = 0 := fun h => by
      rcases Nat.le_one_iff_eq_zero_or_eq_one.mp he with h1 | h1
      · exact h1
      · exact absurd (hew h1) h
    rcases n with ⟨w, n⟩ | ⟨w, n⟩ | ⟨w, n⟩
    · exact .inl ⟨w, by lia⟩
    · have := e0 (by lia)
      exact .inr (.inl ⟨w, by lia⟩)
    · have := e0 (by lia)
      exact .inr (.inr ⟨w, s3 w, by lia⟩)
end Mine
namespace Mine

section
variable {w : World} {mg mb : Str → Option Value}
theorem walk_law {s : Shared} {zs : List Int} {v : Value} (B : (cx2 w mg mb none []).Base s.heap) (r : Rp (cx2 w mg mb none []) s.heap v (.lst (cellsV zs))) (hz : zs.length ≤ 1000) {A : Around} (R : Room A 191) :
    wpAny (model PySem.Challenge.rw_sa0026_02.row.prog w) A (call (.ref 280) [v]) (fun u s' => u = .bool true ∧ Keeps s s') NoE s := by
  have D : FnData (cx2 w mg mb none []) 280 _ _ ["script"] := fnData_of rfl rfl rfl rfl rfl rfl rfl rfl rfl (bindL1 rfl fun _ => rfl) rfl (by decide)
  have G : Gs (cx2 w mg mb none []) [] none s := { base := B, low := fun _ h => (nomatch h), mT := fun _ h => (nomatch h), tray := trivial }
  refine wpAny_call (fn_enter (C := cx2 w mg mb none []) (xs := [.lst (cellsV zs)]) D rfl (by simp [own_lst]) (by have := R.dp; lia) G ⟨r, trivial⟩ fun L cs W s' F k fr => ?_)
  have R' : ∀ e, Room (A.deeper e) 190 := fun e => R.deeper e
  let us : List Int := if 0 < zs.length then zs.take 40 else plainZ
  have lu : us.length ≤ 1000 := by
    show (if 0 < zs.length then zs.take 40 else plainZ).length ≤ 1000
    split
    · rw [List.length_take]; lia
    · simp [plainZ]
  have lz : (cellsV zs).length ≤ sizeLine := by unfold cellsV; rw [List.length_map, sizeLine_eq]; (exact Nat.le_trans (by assumption) (by decide))
  refine Box.out (p := wpAny _ _ _ _ _ _) ?_
  refine tray_start (prog := PySem.Challenge.rw_sa0026_02.row.prog) (w := w) (K := Mine.theFrag w.params) (p := Mine.theView) (loose := looseW Mine.theView []) (mg := mg) (mb := mb) (bag := 210) (k1 := "cells") (k2 := "spot") (cells := cellsV us) (n := 190) (by decide) (R' _) F (fun x y e => ?_) ?_ ?_ ?_ ?_ fun d s₁ ρ' s₂ F₁ K₁ => ?_
  · have : (x, y) ∈ ([("script", .lst (cellsV zs))] : List (Str × V)) := mem_of_lookup e
    simp at this
    rw [this.2]; rfl
  rotate_left
  · rfl
  · rfl
  · rfl
  rotate_left
  refine Ev_ifexp (c := decide (0 < zs.length)) (τ₁ := none) ?_ (fun hc => ?_) (fun hc => ?_)
  refine Tst_cmp (Ev_builtin b_len (Bu_len (x := .lst (cellsV zs)) (xs := cellsV zs) rfl lz) (EvL_cons (Ev_name rfl rfl) EvL_nil) rfl) Ev_int (Cmp_gt_int ?_)
  · unfold cellsV; rw [List.length_map]
    by_cases q : 0 < zs.length
    · rw [decide_eq_true q]; exact decide_eq_true (by lia)
    · rw [decide_eq_false q]; exact decide_eq_false (by lia)
  · have e : us = zs.take 40 := if_pos (of_decide_eq_true hc)
    rw [e]
    exact EvN.ev (EvN_list_call b_list (Ev_eq (y' := .lst (cellsV (zs.take 40))) (Ev_upto (xs := cellsV zs) (k := 40) (Ev_name rfl rfl) Ev_int lz) (by unfold cellsV; rw [List.map_take])) rfl (by unfold cellsV; rw [List.length_map, List.length_take, sizeLine_eq]; lia) rfl)
  · have e : us = plainZ := if_neg (of_decide_eq_false hc)
    rw [e]
    exact EvN.ev (EvN_list_call b_list (Ev_plain rfl) rfl (by rw [sizeLine_eq]; simp [cellsV, plainZ]) rfl)
  -- the rest, with the tray
  clear_value us
  refine Box.out (p := wpAny _ _ _ _ _ _) ?_
  refine Ex.run (C := cx2 w mg mb (some d) (cellsV us)) (n := 190) (P := fun o => ∃ τ, o = .ret (.bool true) τ) ?_ (R' _) F₁ (fun o f s2 ⟨τ, p⟩ q => ?_)
  rotate_left
  · subst p
    cases f <;> first | exact q.elim | skip
    obtain ⟨_, q2, q3, _⟩ := q
    exact ⟨rep_bool q2, K₁ _ q3⟩
  clear F₁ K₁ F R' k fr
  -- wide
  have d0 := dipN_lt (zs := us) (k := 0) (many := 3) (by decide)
  refine @Ex_cons _ _ _ _ _ _ _ _ ?_
  refine @Ex1_assign _ _ _ _ _ (some 1) _ _ _ _ (.int ((1 + dipN us 0 3 : Nat) : Int)) _ (Ev_eq (Ev_bin Ev_int (ev_dip (k := 0) (many := 3) rfl (by decide) lu (by decide) (by decide) rfl rfl Ev_int rfl rfl rfl) Bin_add_int) (by congr 1)) rfl rfl ?_ rfl
  have hW : 1 ≤ 1 + dipN us 0 3 ∧ 1 + dipN us 0 3 ≤ 3 := by lia
  generalize 1 + dipN us 0 3 = W at *
  clear d0
  -- solid
  have d1 := dipN_lt (zs := us) (k := 1) (many := 4) (by decide)
  have so1 := opts_get d1
  refine @Ex_cons _ _ _ _ _ _ _ _ ?_
  refine @Ex1_assign _ _ _ _ _ (some 2) _ _ _ _ (.lst ((solidOpts.getD (dipN us 1 4) []).map Tm.v)) _ (@ev_solid _ _ _ _ _ _ _ _ us _ _ _ _ _ _ _ _ _ _ _ _ _ _ _ _ _ _ _ _ _ _ _ _ _ _ _ _ _ _ _ _ _ _ _ 1 rfl lu (by decide) (by decide) rfl rfl rfl) rfl rfl ?_ rfl
  generalize solidOpts.getD (dipN us 1 4) [] = sol1 at *
  clear d1
  have fol := fun {s : List Tm} (h : s ∈ solidOpts) => (opts_ok h).1.so
  have gs : ∀ {s : List Tm}, s ∈ solidOpts → ∀ u ∈ s, u.good = true := fun h u hu => (fol h u hu).so.sm.good
  refine Ex_cons (Ex1.weaken (P := fun o => ∃ σ sol, o = .next σ (some 2) ∧ sol ∈ solidOpts ∧ (W = 1 → sol ≠ []) ∧ σ.lookup ("pot" : Str) = some .tray ∧ σ.lookup ("wide" : Str) = some (.int (W : Int)) ∧ σ.lookup ("solid" : Str) = some (.lst (sol.map Tm.v))) (Ex1_if (c := decide (W = 1) && sol1.isEmpty) (τ₁ := some 2)
    (Tst_and2 (τ₁ := some 2) (Tst_cmp (Ev_name rfl rfl) Ev_int (Cmp_nat (b := 1) rfl)) (fun _ => Tst_cmp (Ev_name rfl rfl) (EvN.ev (EvN_list EvL_nil rfl (by simp))) (Cmp_eq (fine_lst (gs so1)) rfl (Nat.le_trans (Nat.min_le_right _ _) (by simp [V.py, pyL, PyData.depth, PyData.depthAll])) (by cases sol1 <;> simp [V.py, pyL, PyData.eqv, PyData.eqvAll]))) (fun _ => rfl)) (fun hc => ?_) (fun hc => ?_)) fun o ho => ?_)
  · refine Ex_cons (Ex1_assign (y := .lst ([tA].map Tm.v)) (@ev_l1 _ _ _ _ _ _ _ _ (@ev_tN _ _ _ _ _ _ _ _ _ _) rfl) rfl rfl (Ex_nil ⟨_, [tA], rfl, by simp [solidOpts], fun _ => by simp, rfl, rfl, rfl⟩))
  · refine Ex_nil ⟨_, sol1, rfl, so1, fun h => ?_, rfl, rfl, rfl⟩
    rintro rfl
    rw [decide_eq_true h] at hc; cases hc
  obtain ⟨σ, sol, rfl, so2, sn2, i1, i2, i3⟩ := ho
  clear so1
  show Ex _ _ _ _ _ _ _
  refine Ex_cons (Ex1.weaken (P := fun o => ∃ σ sol, o = .next σ (some 2) ∧ sol ∈ solidOpts ∧ (W = 1 → sol ≠ []) ∧ (W = 3 → sol.length ≤ 1) ∧ σ.lookup ("pot" : Str) = some .tray ∧ σ.lookup ("wide" : Str) = some (.int (W : Int)) ∧ σ.lookup ("solid" : Str) = some (.lst (sol.map Tm.v))) (Ex1_if (c := decide (W = 3)) (τ₁ := some 2)
    (Tst_cmp (Ev_name i2 rfl) Ev_int (Cmp_nat (b := 3) rfl)) (fun hc => ?_) (fun hc => ?_)) fun o ho => ?_)
  · have l2 := (opts_ok so2).1.len
    refine Ex_cons (Ex1_assign (τ₁ := some 2) (y := .lst ((sol.take 1).map Tm.v)) (Ev_eq (Ev_upto (k := 1) (Ev_name i3 rfl) Ev_int (by rw [List.length_map, sizeLine_eq]; (exact Nat.le_trans (by assumption) (by decide)))) (by rw [List.map_take])) rfl rfl (Ex_nil ⟨_, sol.take 1, rfl, opts_take so2, fun h => ?_, fun _ => by rw [List.length_take]; lia, lk i1 rfl, lk i2 rfl, lookup_cons_eq⟩))
    have := of_decide_eq_true hc
    lia
  · exact Ex_nil ⟨_, sol, rfl, so2, sn2, fun h => absurd h (of_decide_eq_false hc), i1, i2, i3⟩
  clear i1 i2 i3 so2 sn2
  obtain ⟨σ, sol, rfl, so, sn, s3, i1, i2, i3⟩ := ho
  show Ex _ _ _ _ _ _ _
  -- names
  have uw := upto_len W
  have nv : ∀ x ∈ drawL (fun k => varNames.getD (dipN us k 3) "?x") W 2, isVarN x = true := fun x hx => by
    obtain ⟨i, _, rfl⟩ := List.mem_map.mp hx
    have d := dipN_lt (zs := us) (k := 2 + i) (many := 3) (by decide)
    have : varNames.getD (dipN us (2 + i) 3) "?x" ∈ varNames := by
      rw [List.getD_eq_getElem?_getD, List.getElem?_eq_getElem (show dipN us (2 + i) 3 < varNames.length from d)]
      exact List.getElem_mem _
    unfold isVarN
    simpa using this
  have nl : (drawL (fun k => varNames.getD (dipN us k 3) "?x") W 2).length = W := by unfold drawL; rw [List.length_map, List.length_range]
  refine @Ex_cons _ _ _ _ _ _ _ _ ?_
  refine Ex1_comp1 (tt := false) (τ₁ := some 2) (τ₂ := some (2 + W)) (items := upto W) (ys := (drawL (fun k => varNames.getD (dipN us k 3) "?x") W 2).map V.str) (σ' := [("pot", .tray)]) ?_ ?_ ?_ ?_ ?_
  · exact IterE_range b_range (Ev_name i2 rfl) rfl (by rw [sizeLine_eq]; lia)
  · exact Filt.add Filt.nil rfl i1 rfl
  · refine Turns.drawn (g := V.str) uw fun x hx k' h1 h2 => CTurn_name (CAct_emit (fun L cs => ?_) rfl rfl)
    exact @ev_var _ _ _ _ _ _ _ _ us _ _ _ _ _ _ _ _ _ _ _ _ _ _ k' rfl lu (by lia) (by decide) rfl rfl rfl
  · rw [List.length_map, nl, sizeLine_eq]; lia
  generalize drawL (fun k => varNames.getD (dipN us k 3) "?x") W 2 = names at *
  show Ex _ _ _ _ _ _ _
  refine @Ex_freeze _ _ _ _ _ _ _ _ _ lookup_cons_eq rfl ?_
  refine @Ex_cons _ _ _ _ _ _ _ _ ?_
  refine @Ex1_assign _ _ _ _ _ (some (2 + W)) _ _ _ _ (.lst (smallT.map Tm.v)) _ ?_ rfl rfl ?_ rfl
  · exact @ev_small _ _ _ _ _ _ _ _ _ _ _ _ _ _ _ _ _ _ _ _ _ _ _ _ _ _ _ _ _ _ _ _ _ _ _ _ _ _ _ _ _ _ _ _ _ _
  show Ex _ _ _ _ _ _ _
  -- the first kids
  refine @Ex_cons _ _ _ _ _ _ _ _ ?_
  refine @Ex1.weaken _ _ _ _ _ _ (fun o => ∃ σ kids k, o = .next σ (some k) ∧ k ≤ 12 ∧ KB W kids ∧ Lk W sol names kids σ) _ ?_ ?_
  · refine @Ex1_if _ _ _ _ _ (some (2 + W)) _ _ _ _ (decide (W = 1)) _ ?_ (fun hc => ?_) (fun hc => ?_)
    · exact Tst_cmp (Ev_name (by (repeat refine lk ?_ rfl); exact i2) rfl) Ev_int (Cmp_nat (b := 1) rfl)
    · have w1 := of_decide_eq_true hc
      have d1 := dipN_lt (zs := us) (k := 2 + W) (many := 4) (by decide)
      have c1 : ∀ {i : Nat}, i < 4 → 1 ≤ cnts.getD i 1 ∧ cnts.getD i 1 ≤ 14 := fun {i} h => by
        match i, h with
        | 0, _ => decide
        | 1, _ => decide
        | 2, _ => decide
        | 3, _ => decide
      have c1 := c1 d1
      refine @Ex_cons _ _ _ _ _ _ _ _ ?_
      generalize hcn : cnts.getD (dipN us (2 + W) 4) 1 = cn at *
      have kc : ∀ k ∈ List.range cn, k < 14 := fun k h => by have := List.mem_range.mp h; lia
      refine Ex1_comp1 (tt := false) (τ₁ := some (2 + W + 1)) (τ₂ := some (2 + W + 1)) (items := upto cn) (ys := ((List.range cn).map tC).map Tm.v) (σ' := []) ?_ ?_ ?_ ?_ ?_
      · rw [← hcn]
        exact IterE_range b_range (@ev_cnt _ _ _ _ _ _ _ _ us _ _ _ _ _ _ _ _ _ _ _ _ _ _ _ _ (2 + W) rfl lu (by lia) (by decide) (by (repeat refine lk ?_ rfl); exact i1) rfl rfl) rfl (by rw [hcn, sizeLine_eq]; lia)
      · exact Filt.nil
      · rw [List.map_map]
        refine Turns.over (g := fun k : Nat => V.int (k : Int)) fun k hk => CTurn_name (CAct_emit (fun L cs => ?_) (Tm.pure _) rfl)
        have ls : ∀ k ∈ List.range 14, ((toString (k : Int) : String) : Str).length ≤ 10 := by decide +kernel
        have := ls k (List.mem_range.mpr (kc k hk))
        have k14 := kc k hk
        exact Ev_tuple (ys := [.str ("c" ++ toString (k : Int))]) (EvL_cons (Ev_bin Ev_str (Ev_type b_str (Bu_str_int (a := k) (by (exact Nat.le_of_lt (Nat.lt_of_lt_of_le (by assumption) (by decide))))) (EvL_cons (Ev_name rfl rfl) EvL_nil) rfl) (Bin_add_str (by rw [show (("c" : String) : Str).length = 1 from rfl, sizeLine_eq]; (exact Nat.le_trans (Nat.add_le_add_left (by assumption) _) (by decide))))) EvL_nil) rfl (by simp)
      · rw [List.length_map, List.length_map, List.length_range, sizeLine_eq]; lia
      · refine Ex_nil ⟨_, (List.range cn).map tC, _, rfl, by lia, ⟨fun u hu => ?_, ?_, .inl ⟨w1, by rw [List.length_map, List.length_range]; exact c1⟩⟩, ⟨by (repeat refine lk ?_ rfl); exact i1, by (repeat refine lk ?_ rfl); exact i2, by (repeat refine lk ?_ rfl); exact i3, rfl, rfl, rfl⟩⟩
        · obtain ⟨k, hk, rfl⟩ := List.mem_map.mp hu
          exact kid_c (kc k hk)
        · have := sizeL_le (m := 1) (l := (List.range cn).map tC) fun u hu => by
            obtain ⟨k, hk, rfl⟩ := List.mem_map.mp hu
            exact Nat.le_refl _
          rw [List.length_map, List.length_range] at this
          lia
    · have w1 := of_decide_eq_false hc
      have d2 := dipN_lt (zs := us) (k := 2 + W) (many := 2) (by decide)
      obtain ⟨k0, c, hkc, kb3, k5, c3⟩ : ∃ k0 c, ((W = 2 ∧ k0 = 2 + W + 1 ∧ c = 2 + dipN us (2 + W) 2) ∨ (W = 3 ∧ k0 = 2 + W ∧ c = 3)) ∧ ((W = 1 ∧ 1 ≤ c ∧ c ≤ 14) ∨ (W = 2 ∧ 2 ≤ c ∧ c ≤ 3) ∨ (W = 3 ∧ c = 3)) ∧ k0 ≤ 5 ∧ c ≤ 3 := by
        by_cases q : W = 2
        · exact ⟨_, _, .inl ⟨q, rfl, rfl⟩, .inr (.inl ⟨q, Nat.le_add_right _ _, Nat.add_le_add_left (Nat.le_of_lt_succ d2) 2⟩), by rw [q]; decide, Nat.add_le_add_left (Nat.le_of_lt_succ d2) 2⟩
        · have q3 : W = 3 := by lia
          exact ⟨_, _, .inr ⟨q3, rfl, rfl⟩, .inr (.inr ⟨q3, rfl⟩), by rw [q3]; decide, Nat.le_refl _⟩
      have dl : (drawL (fun k => smallT.getD (dipN us k 5) tA) c k0).length = c := by unfold drawL; rw [List.length_map, List.length_range]
      have dm : ∀ k, smallT.getD (dipN us k 5) tA ∈ smallT := fun k => by
        have := dipN_lt (zs := us) (k := k) (many := 5) (by decide)
        rw [List.getD_eq_getElem?_getD, List.getElem?_eq_getElem (show dipN us k 5 < smallT.length from this)]
        exact List.getElem_mem _
      refine @Ex_cons _ _ _ _ _ _ _ _ ?_
      refine Ex1_comp1 (tt := false) (τ₁ := some k0) (τ₂ := some (k0 + c)) (items := upto c) (ys := (drawL (fun k => smallT.getD (dipN us k 5) tA) c k0).map Tm.v) (σ' := [("pot", .tray), ("small", .lst (smallT.map Tm.v))]) ?_ ?_ ?_ ?_ ?_
      · refine IterE_range b_range ?_ rfl (by rw [sizeLine_eq]; exact Nat.le_trans c3 (by decide))
        have ti : ∀ b : Bool, decide (W = 2) = b → CmpR (cx2 w mg mb (some d) (cellsV us)) 190 .Eq (.int (W : Int)) (.int 2) b := fun b e => Cmp_nat (b := 2) e
        rcases hkc with ⟨q, rfl, rfl⟩ | ⟨q, rfl, rfl⟩
        · refine Ev_ifexp (c := true) (τ₁ := some (2 + W)) (Tst_cmp (Ev_name (by (repeat refine lk ?_ rfl); exact i2) rfl) Ev_int (ti true (decide_eq_true q))) (fun _ => ?_) (fun h => by cases h)
          exact Ev_eq (Ev_bin Ev_int (ev_dip (k := 2 + W) (many := 2) rfl (by decide) lu (by (exact Nat.le_of_lt (Nat.lt_of_lt_of_le (by assumption) (by decide)))) (by decide) (by (repeat refine lk ?_ rfl); exact i1) rfl Ev_int rfl rfl rfl) Bin_add_int) (by congr 1)
        · exact Ev_ifexp (c := false) (τ₁ := some (2 + W)) (Tst_cmp (Ev_name (by (repeat refine lk ?_ rfl); exact i2) rfl) Ev_int (ti false (decide_eq_false (by lia)))) (fun h => by cases h) (fun _ => Ev_int)
      · exact Filt.add (Filt.add Filt.nil rfl rfl rfl) rfl (by (repeat refine lk ?_ rfl); exact i1) rfl
      · refine Turns.drawn (g := Tm.v) (upto_len c) fun x hx k' h1 h2 => CTurn_name (CAct_emit (fun L cs => ?_) (Tm.pure _) rfl)
        have d5 := dipN_lt (zs := us) (k := k') (many := 5) (by decide)
        exact Ev_itemN (τ₁ := some k') (xs := smallT.map Tm.v) (k := dipN us k' 5) (Ev_name rfl rfl) (ev_dip (k := k') (many := 5) rfl (by decide) lu (Nat.le_trans (Nat.le_of_lt h2) (Nat.le_trans (Nat.add_le_add k5 c3) (by decide))) (by decide) rfl rfl Ev_int rfl rfl rfl) rfl (by rw [List.getElem?_map, getD_some (l := smallT) (d := tA) d5]; rfl) (int_hi d5 (by decide))
      · rw [List.length_map, dl, sizeLine_eq]; exact Nat.le_trans c3 (by decide)
      · refine Ex_nil ⟨_, drawL (fun k => smallT.getD (dipN us k 5) tA) c k0, _, rfl, Nat.le_trans (Nat.add_le_add k5 c3) (by decide), ⟨fun u hu => ?_, ?_, ?_⟩, ⟨by (repeat refine lk ?_ rfl); exact i1, by (repeat refine lk ?_ rfl); exact i2, by (repeat refine lk ?_ rfl); exact i3, rfl, rfl, rfl⟩⟩
        · obtain ⟨i, _, rfl⟩ := List.mem_map.mp hu
          exact kid_small _ (dm _)
        · have := sizeL_le (m := 4) (l := drawL (fun k => smallT.getD (dipN us k 5) tA) c k0) fun u hu => by
            obtain ⟨i, _, rfl⟩ := List.mem_map.mp hu
            exact (kid_small _ (dm _)).sz
          rw [dl] at this
          exact Nat.le_trans this (Nat.le_trans (Nat.mul_le_mul_left 4 c3) (by decide))
        · rw [dl]; exact kb3
  rintro _ ⟨σ, kids, k, rfl, hk, kb, lk1⟩
  clear i1 i2 i3
  show Ex _ _ _ _ _ _ _
  have sf : ∀ u ∈ sol, u.good = true := gs so
  have kn : Kn kids kids.length 14 := ⟨kb.all, kb.sz, rfl⟩
  have kbn := kb.n
  have hkz : (kids.map Tm.v).length + 3 ≤ sizeLine := by rw [List.length_map, sizeLine_eq]; lia
  have sml : ∀ {i : Nat}, i < 5 → (smallT.map Tm.v)[i]? = some (smallT.getD i tA).v ∧ KidN (smallT.getD i tA) := fun {i} h => by
    refine ⟨by rw [List.getElem?_map, getD_some (l := smallT) (d := tA) h]; rfl, kid_small _ ?_⟩
    rw [List.getD_eq_getElem?_getD, List.getElem?_eq_getElem (show i < smallT.length from h)]
    exact List.getElem_mem _
  classical
  -- a more, where 'a' is a slot
  refine @Ex_cons _ _ _ _ _ _ _ _ ?_
  refine @Ex1.weaken _ _ _ _ _ _ (fun o => ∃ σ kids' k, o = .next σ (some k) ∧ k ≤ 14 ∧ Kn kids' (kids.length + if tA ∈ sol then 1 else 0) 18 ∧ Lk W sol names kids' σ) _ ?_ ?_
  · refine @Ex1_if _ _ _ _ _ (some k) _ _ _ _ ((pyL (sol.map Tm.v)).any fun y => PyData.eqv y tA.v.py) _ ?_ (fun hc => ?_) (fun hc => ?_)
    · exact Tst_cmp (@ev_tN _ _ _ _ _ _ _ _ _ _) (Ev_name lk1.solid rfl) (Cmp_in_lst (srt_fine (Tm.srt sol_a.so.sm.good)) (fine_lst sf) (by decide +kernel) rfl)
    · have ha := (mem_any sol_a.so.sm.good sf).mp hc
      rw [if_pos ha]
      refine @Ex_cons _ _ _ _ _ _ _ _ ?_
      by_cases q : dipN us k 6 = 0
      · have dm : (if ((dipN us (k + 1) 6 : Nat) : Int) < 1 then ((dipN us (k + 1) 6 : Nat) : Int) else 1) = ((min 1 (dipN us (k + 1) 6) : Nat) : Int) := by split <;> lia
        obtain ⟨s1, s2⟩ := sml (i := min 1 (dipN us (k + 1) 6)) (by lia)
        refine Ex1_append (τ₁ := some (k + 2)) (y := (smallT.getD (min 1 (dipN us (k + 1) 6)) tA).v) ?_ (Tm.pure _) lk1.kids (by lia) (Ex_nil ⟨_, kids ++ [smallT.getD (min 1 (dipN us (k + 1) 6)) tA], _, rfl, by (exact Nat.le_trans (Nat.add_le_add_right (by assumption) _) (by decide)), kn.snoc s2, ⟨lk lk1.pot rfl, lk lk1.wide rfl, lk lk1.solid rfl, lk lk1.names rfl, lk lk1.small rfl, by rw [lookup_cons_eq, List.map_append]; rfl⟩⟩) rfl
        refine @Ev_ifexp _ _ _ _ _ (some (k + 1)) _ _ _ _ _ true _ ?_ (fun _ => ?_) (fun h => by cases h)
        · exact Tst_cmp (ev_dip (k := k) (many := 6) rfl (by decide) lu (by (exact Nat.le_trans (by assumption) (by decide))) (by decide) lk1.pot rfl Ev_int rfl rfl rfl) (Ev_int (i := 0)) (Cmp_nat (b := 0) (decide_eq_true q))
        · exact Ev_itemN (τ₁ := some (k + 1)) (xs := smallT.map Tm.v) (k := min 1 (dipN us (k + 1) 6)) (Ev_name lk1.small rfl) (Ev_eq (Ev_builtin b_min Bu_min (EvL_cons Ev_int (EvL_cons (ev_dip (k := k + 1) (many := 6) rfl (by decide) lu (by (exact Nat.le_trans (Nat.add_le_add_right (by assumption) _) (by decide))) (by decide) lk1.pot rfl Ev_int rfl rfl rfl) EvL_nil rfl) rfl) rfl) (by rw [dm])) rfl s1 (by lia)
      · refine Ex1_append (τ₁ := some (k + 1)) (y := tA.v) ?_ (Tm.pure _) lk1.kids (by lia) (Ex_nil ⟨_, kids ++ [tA], _, rfl, by (exact Nat.le_trans (Nat.add_le_add_right (by assumption) _) (by decide)), kn.snoc (kid_small tA (by simp [smallT])), ⟨lk lk1.pot rfl, lk lk1.wide rfl, lk lk1.solid rfl, lk lk1.names rfl, lk lk1.small rfl, by rw [lookup_cons_eq, List.map_append]; rfl⟩⟩) rfl
        refine @Ev_ifexp _ _ _ _ _ (some (k + 1)) _ _ _ _ _ false _ ?_ (fun h => by cases h) (fun _ => ?_)
        · exact Tst_cmp (ev_dip (k := k) (many := 6) rfl (by decide) lu (by (exact Nat.le_trans (by assumption) (by decide))) (by decide) lk1.pot rfl Ev_int rfl rfl rfl) (Ev_int (i := 0)) (Cmp_nat (b := 0) (decide_eq_false q))
        · exact @ev_tN _ _ _ _ _ _ _ _ _ _
    · have ha : tA ∉ sol := fun z => by rw [(mem_any sol_a.so.sm.good sf).mpr z] at hc; cases hc
      rw [if_neg ha]
      exact Ex_nil ⟨_, kids, _, rfl, by (exact Nat.le_trans (by assumption) (by decide)), ⟨kn.all, by have := kn.sz; (exact Nat.le_trans (by assumption) (by decide)), rfl⟩, lk1⟩
  rintro _ ⟨σ, kids', k, rfl, hk, kn1, lk1⟩
  show Ex _ _ _ _ _ _ _
  -- f of a small one, where 'f' is a slot
  refine @Ex_cons _ _ _ _ _ _ _ _ ?_
  refine @Ex1.weaken _ _ _ _ _ _ (fun o => ∃ σ kids2 k e, o = .next σ (some k) ∧ k ≤ 17 ∧ e ≤ 1 ∧ (e = 1 → W = 1) ∧ Kn kids2 (kids.length + (if tA ∈ sol then 1 else 0) + (if tFx ∈ sol then 1 else 0) + e) 26 ∧ Lk W sol names kids2 σ) _ ?_ ?_
  · have kz1 := kn1.n
    have k1z : (kids'.map Tm.v).length + 3 ≤ sizeLine := by rw [List.length_map, sizeLine_eq]; split at kz1 <;> lia
    refine @Ex1_if _ _ _ _ _ (some k) _ _ _ _ ((pyL (sol.map Tm.v)).any fun y => PyData.eqv y tFx.v.py) _ ?_ (fun hc => ?_) (fun hc => ?_)
    · exact Tst_cmp (@ev_tFx _ _ _ _ _ _ _ _ _ _ _ _ _) (Ev_name lk1.solid rfl) (Cmp_in_lst (srt_fine (Tm.srt sol_f.so.sm.good)) (fine_lst sf) (by decide +kernel) rfl)
    · have ha := (mem_any sol_f.so.sm.good sf).mp hc
      rw [if_pos ha]
      have d3 := dipN_lt (zs := us) (k := k) (many := 3) (by decide)
      obtain ⟨s1, s2⟩ := sml (i := 2 + dipN us k 3) (by (exact Nat.le_trans (Nat.add_le_add_left (by assumption) _) (by decide)))
      have kn2 := kn1.snoc s2
      have lk2 : Lk W sol names (kids' ++ [smallT.getD (2 + dipN us k 3) tA]) (("kids", .oL (kids'.map Tm.v ++ [(smallT.getD (2 + dipN us k 3) tA).v])) :: σ) :=
        ⟨lk lk1.pot rfl, lk lk1.wide rfl, lk lk1.solid rfl, lk lk1.names rfl, lk lk1.small rfl, by rw [lookup_cons_eq, List.map_append]; rfl⟩
      refine @Ex_cons _ _ _ _ _ _ _ _ ?_
      refine Ex1_append (τ₁ := some (k + 1)) (y := (smallT.getD (2 + dipN us k 3) tA).v) ?_ (Tm.pure _) lk1.kids (by lia) ?_ rfl
      · exact Ev_itemN (τ₁ := some k) (xs := smallT.map Tm.v) (k := 2 + dipN us k 3) (Ev_name lk1.small rfl) (Ev_eq (Ev_bin Ev_int (ev_dip (k := k) (many := 3) rfl (by decide) lu (by (exact Nat.le_trans (by assumption) (by decide))) (by decide) lk1.pot rfl Ev_int rfl rfl rfl) Bin_add_int) (by congr 1)) rfl s1 (by lia)
      generalize smallT.getD (2 + dipN us k 3) tA = u at *
      generalize hσ : (("kids", V.oL (kids'.map Tm.v ++ [u.v])) :: σ : List (Str × V)) = σ2 at *
      show Ex _ _ _ _ _ _ _
      refine @Ex_cons _ _ _ _ _ _ _ _ ?_
      by_cases w1 : W = 1
      · refine @Ex1_if _ _ _ _ _ (some (k + 2)) _ _ _ _ (true && decide (dipN us (k + 1) 2 = 1)) _ ?_ (fun hd => ?_) (fun hd => ?_)
        · exact Tst_and2 (τ₁ := some (k + 1)) (Tst_cmp (Ev_name lk2.wide rfl) (Ev_int (i := 1)) (Cmp_nat (b := 1) (decide_eq_true w1)))
            (fun _ => Tst_cmp (ev_dip (k := k + 1) (many := 2) rfl (by decide) lu (by (exact Nat.le_trans (Nat.add_le_add_right (by assumption) _) (by decide))) (by decide) lk2.pot rfl Ev_int rfl rfl rfl) (Ev_int (i := 1)) (Cmp_nat (b := 1) rfl)) (fun h => by cases h)
        · refine @Ex_cons _ _ _ _ _ _ _ _ ?_
          refine Ex1_append (τ₁ := some (k + 2)) (y := tFc.v) (@ev_tF _ _ _ _ _ _ _ _ _ _ _ _ (@ev_tN _ _ _ _ _ _ _ _ _ _) rfl rfl) (Tm.pure _) lk2.kids (by rw [List.length_map] at k1z ⊢; rw [List.length_append, List.length_singleton]; (exact Nat.le_of_lt (by assumption))) ?_ rfl
          exact Ex_nil (Ex_nil ⟨_, (kids' ++ [u]) ++ [tFc], _, 1, rfl, by (exact Nat.le_trans (Nat.add_le_add_right (by assumption) _) (by decide)), Nat.le_refl _, fun _ => w1, kn2.snoc kid_fc, ⟨lk lk2.pot rfl, lk lk2.wide rfl, lk lk2.solid rfl, lk lk2.names rfl, lk lk2.small rfl, by rw [lookup_cons_eq]; simp⟩⟩)
        · exact Ex_nil (Ex_nil ⟨_, kids' ++ [u], _, 0, rfl, by (exact Nat.le_trans (Nat.add_le_add_right (by assumption) _) (by decide)), Nat.zero_le _, (fun h => absurd h (by decide)), ⟨kn2.all, by have := kn2.sz; (exact Nat.le_trans (by assumption) (by decide)), kn2.n⟩, lk2⟩)
      · refine @Ex1_if _ _ _ _ _ (some (k + 1)) _ _ _ _ (false && false) _ ?_ (fun hd => by cases hd) (fun hd => ?_)
        · exact Tst_and2 (τ₁ := some (k + 1)) (Tst_cmp (Ev_name lk2.wide rfl) (Ev_int (i := 1)) (Cmp_nat (b := 1) (decide_eq_false w1))) (fun h => by cases h) (fun _ => rfl)
        · exact Ex_nil (Ex_nil ⟨_, kids' ++ [u], _, 0, rfl, by (exact Nat.le_trans (Nat.add_le_add_right (by assumption) _) (by decide)), Nat.zero_le _, (fun h => absurd h (by decide)), ⟨kn2.all, by have := kn2.sz; (exact Nat.le_trans (by assumption) (by decide)), kn2.n⟩, lk2⟩)
    · have ha : tFx ∉ sol := fun z => by rw [(mem_any sol_f.so.sm.good sf).mpr z] at hc; cases hc
      rw [if_neg ha]
      exact Ex_nil ⟨_, kids', _, 0, rfl, by (exact Nat.le_trans (by assumption) (by decide)), Nat.zero_le _, (fun h => absurd h (by decide)), ⟨kn1.all, by have := kn1.sz; (exact Nat.le_trans (by assumption) (by decide)), kn1.n⟩, lk1⟩
  rintro _ ⟨σ, kids2, k, e, rfl, hk, he, hew, kn2, lk2⟩
  show Ex _ _ _ _ _ _ _
  have kn0 := kn2.n
  have al := opts_len so
  have kl2 : 2 ≤ kids2.length ∧ kids2.length ≤ 18 := by
    have l2 := (opts_ok so).1.len
    have s0 := fun w => List.length_pos_iff.mpr (sn w)
    rcases kbn with ⟨w, n⟩ | ⟨w, n⟩ | ⟨w, n⟩
    · have := s0 w; lia
    · lia
    · lia
  have k2z : (kids2.map Tm.v).length ≤ sizeLine := by rw [List.length_map, sizeLine_eq]; lia
  refine @Ex_freeze _ _ _ _ _ _ _ _ _ lk2.kids rfl ?_
  -- the kids turned
  refine @Ex_cons _ _ _ _ _ _ _ _ ?_
  refine @Ex1_assign _ _ _ _ _ (some (k + 1)) _ _ _ _ (.int (dipN us k kids2.length : Nat)) _ ?_ rfl rfl ?_ rfl
  · exact ev_dip (k := k) (many := kids2.length) rfl (by lia) lu (by (exact Nat.le_trans (by assumption) (by decide))) (by decide) (lk lk2.pot rfl) rfl (Ev_eq (Ev_builtin b_len (Bu_len (x := .lst (kids2.map Tm.v)) (xs := kids2.map Tm.v) rfl k2z) (EvL_cons (Ev_name rfl rfl) EvL_nil rfl) rfl) (by rw [List.length_map])) rfl rfl rfl
  show Ex _ _ _ _ _ _ _
  generalize dipN us k kids2.length = t1 at *
  refine @Ex_cons _ _ _ _ _ _ _ _ ?_
  refine @Ex1_assign _ _ _ _ _ (some (k + 1)) _ _ _ _ (.lst ((rotL kids2 t1).map Tm.v)) _ ?_ rfl rfl ?_ rfl
  · refine Ev_eq (Ev_bin (Ev_from (xs := kids2.map Tm.v) (k := t1) (Ev_name rfl rfl) (Ev_name rfl rfl) k2z) (Ev_upto (xs := kids2.map Tm.v) (k := t1) (Ev_name rfl rfl) (Ev_name rfl rfl) k2z) (Bin_add_lst (rot_len k2z))) (by unfold rotL; rw [List.map_append, List.map_drop, List.map_take])
  show Ex _ _ _ _ _ _ _
  have kp : (rotL kids2 t1).Perm kids2 := rotL_perm _ _
  have dr : Drawn sol (names.map leaf) (rotL kids2 t1) := drawn_of so sn s3 hW nv nl kb he hew al.symm (by rw [← Nat.add_assoc]; exact kn2) kp
  have pl := kp.length_eq
  generalize rotL kids2 t1 = ks at *
  have kg : ∀ u ∈ ks, u.good = true := fun u hu => (dr.kd.kid u hu).sm.good
  have kfl : ∀ u ∈ ks, flat u := fun u hu => (dr.kd.kid u hu).fl
  have kh : ∀ u ∈ ks, u.ht ≤ 4 := fun u hu => (dr.kd.kid u hu).ht
  have ksz : sizeL ks ≤ 26 := by rw [sizeL_perm kp]; exact kn2.sz
  -- the slots
  have sh := slot_head so nv
  have sln : (sol ++ names.map leaf).length ≤ 5 := by rw [List.length_append, List.length_map, nl]; have := (opts_ok so).1.len; lia
  have sl2 := dr.s2
  refine @Ex_cons _ _ _ _ _ _ _ _ ?_
  refine @Ex1_assign _ _ _ _ _ (some (k + 1)) _ _ _ _ (.lst ((sol ++ names.map leaf).map Tm.v)) _ ?_ rfl rfl ?_ rfl
  · refine Ev_eq (Ev_bin (τ₁ := some (k + 1)) (Ev_name (by (repeat refine lk ?_ rfl); exact lk2.solid) rfl) (EvN.ev (EvN_comp1 (tt := false) (items := names.map V.str) (σ' := []) (τ₁ := some (k + 1)) (ys := names.map fun x => (leaf x).v) (IterE.of (Ev_name (by (repeat refine lk ?_ rfl); exact lk2.names) rfl) (IterOf_seq (.inl rfl))) Filt.nil
      (Turns.over fun x hx => CTurn_name (CAct_emit (fun L cs => Ev_tuple (ys := [.str x]) (EvL_cons (Ev_name rfl rfl) EvL_nil rfl) rfl (by simp)) (Tm.pure _) rfl)) (by rw [List.length_map, nl, sizeLine_eq]; lia))) (Bin_add_lst (by rw [List.length_append, List.length_map] at sln; rw [List.length_map, List.length_map, sizeLine_eq]; (exact Nat.le_trans (by assumption) (by decide))))) (by rw [List.map_append, List.map_map]; rfl)
  show Ex _ _ _ _ _ _ _
  generalize hsl : sol ++ names.map leaf = slots at *
  have slz : (slots.map Tm.v).length ≤ sizeLine := by rw [List.length_map, sizeLine_eq]; (exact Nat.le_trans (by assumption) (by decide))
  refine @Ex_cons _ _ _ _ _ _ _ _ ?_
  refine @Ex1_assign _ _ _ _ _ (some (k + 2)) _ _ _ _ (.int (dipN us (k + 1) slots.length : Nat)) _ ?_ rfl rfl ?_ rfl
  · exact ev_dip (k := k + 1) (many := slots.length) rfl (by (exact Nat.le_of_lt (by assumption))) lu (by (exact Nat.le_trans (Nat.add_le_add_right (by assumption) _) (by decide))) (by decide) (by (repeat refine lk ?_ rfl); exact lk2.pot) rfl (Ev_eq (Ev_builtin b_len (Bu_len (x := .lst (slots.map Tm.v)) (xs := slots.map Tm.v) rfl slz) (EvL_cons (Ev_name rfl rfl) EvL_nil rfl) rfl) (by rw [List.length_map])) rfl rfl rfl
  show Ex _ _ _ _ _ _ _
  generalize dipN us (k + 1) slots.length = t2 at *
  -- the pattern
  have rp := rotL_perm slots t2
  have rpl := rp.length_eq
  have sp : Sm (.mk "+" (rotL slots t2)) := sm_plus (fun u hu => (sh u (rp.mem_iff.mp hu)).2.2.2.1) (by
    have := sizeL_le (m := 2) (l := rotL slots t2) fun u hu => (sh u (rp.mem_iff.mp hu)).2.2.2.2.1
    lia) fun u hu => Nat.le_trans (sh u (rp.mem_iff.mp hu)).2.2.2.2.2 (by decide)
  refine @Ex_cons _ _ _ _ _ _ _ _ ?_
  refine @Ex1_assign _ _ _ _ _ (some (k + 2)) _ _ _ _ (Tm.mk "+" (rotL slots t2)).v _ ?_ rfl rfl ?_ rfl
  · refine Ev_eq (Ev_bin (τ₁ := some (k + 2)) (Ev_tuple (ys := [.str "+"]) (EvL_cons Ev_str EvL_nil rfl) rfl (by simp)) (Ev_type b_tuple (Bu_tuple (x := .lst ((rotL slots t2).map Tm.v)) (xs := (rotL slots t2).map Tm.v) rfl (by rw [List.length_map, rpl, sizeLine_eq]; (exact Nat.le_trans (by assumption) (by decide))))
      (EvL_cons (Ev_eq (Ev_bin (Ev_from (xs := slots.map Tm.v) (k := t2) (Ev_name rfl rfl) (Ev_name rfl rfl) slz) (Ev_upto (xs := slots.map Tm.v) (k := t2) (Ev_name rfl rfl) (Ev_name rfl rfl) slz) (Bin_add_lst (rot_len slz))) (by unfold rotL; rw [List.map_append, List.map_drop, List.map_take])) EvL_nil rfl) rfl) (Bin_add_tup (by rw [List.length_map, rpl, List.length_singleton, sizeLine_eq]; (exact Nat.le_trans (Nat.add_le_add_left (by assumption) _) (by decide))))) (by rw [Tm.v_eq, vL_eq]; rfl)
  show Ex _ _ _ _ _ _ _
  refine @Ex_cons _ _ _ _ _ _ _ _ ?_
  refine @Ex1_assign _ _ _ _ _ (some (k + 2)) _ _ _ _ (Tm.mk "+" ks).v _ ?_ rfl rfl ?_ rfl
  · refine Ev_eq (Ev_bin (τ₁ := some (k + 2)) (Ev_tuple (ys := [.str "+"]) (EvL_cons Ev_str EvL_nil rfl) rfl (by simp)) (Ev_type b_tuple (Bu_tuple (x := .lst (ks.map Tm.v)) (xs := ks.map Tm.v) rfl (by rw [List.length_map, sizeLine_eq]; lia))
      (EvL_cons (Ev_name rfl rfl) EvL_nil rfl) rfl) (Bin_add_tup (by rw [List.length_map, List.length_singleton, sizeLine_eq]; lia))) (by rw [Tm.v_eq, vL_eq]; rfl)
  show Ex _ _ _ _ _ _ _
  have ksz2 : (ks.map Tm.v).length ≤ sizeLine := by rw [List.length_map, sizeLine_eq]; lia
  refine @Ex_cons _ _ _ _ _ _ _ _ ?_
  refine @Ex1.weaken _ _ _ _ _ _ (fun o => ∃ σ u k', o = .next σ (some k') ∧ normT pp u = .mk "+" (ordT ks) ∧ Sm u ∧ σ.lookup ("t" : Str) = some u.v ∧ σ.lookup ("pattern" : Str) = some (Tm.mk "+" (rotL slots t2)).v ∧ σ.lookup ("solid" : Str) = some (.lst (sol.map Tm.v)) ∧ σ.lookup ("kids" : Str) = some (.lst (ks.map Tm.v))) _ ?_ ?_
  · have su : Sm (.mk "+" ks) := sm_plus kg (by (exact Nat.le_trans (by assumption) (by decide))) fun u hu => Nat.le_trans (kh u hu) (by decide)
    have en := norm_plus (l := ks) (by lia) kfl dr.nf
    by_cases q : 2 < ks.length
    · refine @Ex1_if _ _ _ _ _ (some (k + 3)) _ _ _ _ (true && decide (dipN us (k + 2) 2 = 1)) _ ?_ (fun hd => ?_) (fun hd => ?_)
      · exact Tst_and2 (τ₁ := some (k + 2)) (Tst_cmp (Ev_builtin b_len (Bu_len (x := .lst (ks.map Tm.v)) (xs := ks.map Tm.v) rfl ksz2) (EvL_cons (Ev_name rfl rfl) EvL_nil rfl) rfl) (Ev_int (i := 2)) (Cmp_gt_int (by rw [List.length_map]; exact decide_eq_true (by lia))))
          (fun _ => Tst_cmp (ev_dip (k := k + 2) (many := 2) rfl (by decide) lu (by (exact Nat.le_trans (Nat.add_le_add_right (by assumption) _) (by decide))) (by decide) (by (repeat refine lk ?_ rfl); exact lk2.pot) rfl Ev_int rfl rfl rfl) (Ev_int (i := 1)) (Cmp_nat (b := 1) rfl)) (fun h => by cases h)
      · obtain ⟨k0, rest, rfl⟩ : ∃ k0 rest, ks = k0 :: rest := by
          cases ks with
          | nil => simp at q
          | cons a b => exact ⟨a, b, rfl⟩
        have gr : ∀ u ∈ rest, u.good = true := fun u hu => kg u (List.mem_cons_of_mem _ hu)
        have hr : ∀ u ∈ rest, u.ht ≤ 4 := fun u hu => kh u (List.mem_cons_of_mem _ hu)
        have zr : k0.size + sizeL rest ≤ 26 := ksz
        have sr : Sm (.mk "+" rest) := sm_plus gr (by lia) fun u hu => Nat.le_trans (hr u hu) (by decide)
        have s2 : Sm (.mk "+" [k0, .mk "+" rest]) := sm_plus (fun u hu => by
            simp only [List.mem_cons, List.not_mem_nil, or_false] at hu
            rcases hu with rfl | rfl
            · exact kg _ List.mem_cons_self
            · exact sr.good) (by simp only [sizeL, Tm.size]; lia) fun u hu => by
            simp only [List.mem_cons, List.not_mem_nil, or_false] at hu
            rcases hu with rfl | rfl
            · exact Nat.le_trans (kh _ List.mem_cons_self) (by decide)
            · simp only [Tm.ht]; have := htL_le hr; (exact Nat.le_trans (Nat.add_le_add_right (by assumption) _) (by decide))
        have rl : rest.length ≤ 20 := by rw [List.length_cons] at pl; lia
        refine @Ex_cons _ _ _ _ _ _ _ _ ?_
        refine @Ex1_assign _ _ _ _ _ (some (k + 3)) _ _ _ _ (Tm.mk "+" [k0, .mk "+" rest]).v _ ?_ rfl rfl (Ex_nil ⟨_, .mk "+" [k0, .mk "+" rest], _, rfl, norm_nest (by rw [List.length_cons] at q; (exact Nat.le_of_succ_le_succ (by assumption))) kfl dr.nf kg, s2, lookup_cons_eq, rfl, by (repeat refine lk ?_ rfl); exact lk2.solid, rfl⟩) rfl
        exact Ev_tuple (ys := [.str "+", k0.v, (Tm.mk "+" rest).v]) (EvL_cons Ev_str (EvL_cons (Ev_at0 (x := .lst ((k0 :: rest).map Tm.v)) (Ev_name rfl rfl) rfl) (EvL_cons (Ev_eq (Ev_bin (τ₁ := some (k + 3)) (Ev_tuple (ys := [.str "+"]) (EvL_cons Ev_str EvL_nil rfl) rfl (by simp)) (Ev_type b_tuple (Bu_tuple (x := .lst (rest.map Tm.v)) (xs := rest.map Tm.v) rfl (by rw [List.length_map, sizeLine_eq]; (exact Nat.le_trans (by assumption) (by decide))))
          (EvL_cons (Ev_eq (Ev_from (xs := (k0 :: rest).map Tm.v) (k := 1) (Ev_name rfl rfl) Ev_int ksz2) rfl) EvL_nil rfl) rfl) (Bin_add_tup (by rw [List.length_map, List.length_singleton, sizeLine_eq]; (exact Nat.le_trans (Nat.add_le_add_left (by assumption) _) (by decide))))) (by rw [Tm.v_eq, vL_eq]; rfl)) EvL_nil rfl) rfl) rfl) (by simp [pure_str, Tm.pure]) (by simp)
      · exact Ex_nil ⟨_, .mk "+" ks, _, rfl, en, su, rfl, rfl, by (repeat refine lk ?_ rfl); exact lk2.solid, rfl⟩
    · refine @Ex1_if _ _ _ _ _ (some (k + 2)) _ _ _ _ (false && false) _ ?_ (fun hd => by cases hd) (fun hd => ?_)
      · exact Tst_and2 (τ₁ := some (k + 2)) (Tst_cmp (Ev_builtin b_len (Bu_len (x := .lst (ks.map Tm.v)) (xs := ks.map Tm.v) rfl ksz2) (EvL_cons (Ev_name rfl rfl) EvL_nil rfl) rfl) (Ev_int (i := 2)) (Cmp_gt_int (by rw [List.length_map]; exact decide_eq_false (by lia)))) (fun h => by cases h) (fun _ => rfl)
      · exact Ex_nil ⟨_, .mk "+" ks, _, rfl, en, su, rfl, rfl, by (repeat refine lk ?_ rfl); exact lk2.solid, rfl⟩
  rintro _ ⟨σ, u, k', rfl, en, su, i1, i2, i3, i4⟩
  show Ex _ _ _ _ _ _ _
  -- the names, as the pattern has them
  refine @Ex_cons _ _ _ _ _ _ _ _ ?_
  refine Ex1_comp1 (tt := false) (τ₁ := some k') (τ₂ := some k') (items := (rotL slots t2).map Tm.v) (ys := (namesOf (rotL slots t2)).map V.str) (σ' := []) ?_ ?_ ?_ ?_ ?_
  · exact IterE.of (x := .tup ((rotL slots t2).map Tm.v)) (Ev_tup1 (Ev_name (i2.trans (by rw [Tm.v_eq, vL_eq]; rfl)) rfl) (by rw [List.length_map, rpl, sizeLine_eq]; (exact Nat.le_trans (Nat.add_le_add_right (by assumption) _) (by decide)))) (IterOf_seq (.inr rfl))
  · exact Filt.nil
  · rw [show (namesOf (rotL slots t2)).map V.str = (rotL slots t2).flatMap fun p => if isV p then [V.str p.f] else [] by unfold namesOf; rw [List.map_map]; exact filter_flat _]
    refine Turns.flat fun p hp => ?_
    obtain ⟨h1, h2, h3, _⟩ := sh p (rp.mem_iff.mp hp)
    exact CTurn_name (CAct_if (b := isV p) (τ₁ := some k') (y := .str p.f) (fun L cs => Tst_cmp (Ev_str0 (Ev_at0 (x := p.v) (Ev_name rfl rfl) (by rw [Tm.v_eq]; rfl)) h3) (Ev_str (x := "?")) (Cmp_eq h1 (by decide +kernel) (by simp [V.py, PyData.depth]) h2))
      (fun h => ⟨fun L cs => Ev_at0 (x := p.v) (Ev_name rfl rfl) (by rw [Tm.v_eq]; rfl), pure_str, by rw [if_pos h]⟩) (fun h => ⟨rfl, by rw [if_neg (by rw [h]; decide)]⟩) rfl)
  · rw [List.length_map]
    unfold namesOf
    rw [List.length_map]
    exact Nat.le_trans (List.length_filter_le _ _) (by rw [rpl, sizeLine_eq]; (exact Nat.le_trans (by assumption) (by decide)))
  show Ex _ _ _ _ _ _ _
  refine @Ex_freeze _ _ _ _ _ _ _ _ _ lookup_cons_eq rfl ?_
  have all := dr.all t2 (List.Perm.refl ks)
  have ok := dr.rows t2
  have told := spec_told (w := w) (mg := mg) (mb := mb) (T := some d) (cells := cellsV us) (n := 98) (t := t2) dr en su (by rw [hsl]; exact sp) (some k')
  rw [hsl] at all ok told
  obtain ⟨_, _, _, _, _, _, a7, a8, a9⟩ := all
  rw [List.length_map, nl] at a9
  have self := outV_self (rows := nubG (dueR sol (namesOf (rotL slots t2)) ks)) fun r hr => ok r ((nubG_mem _).mp hr)
  have due := spec_due (w := w) (mg := mg) (mb := mb) (T := some d) (cells := cellsV us) (n := 130) (opts_ok so).1.so (opts_ok so).1.len dr.kd (names_var (slots := rotL slots t2)) (by lia) (by lia) a7 a8 (some k')
  refine @Ex_cons _ _ _ _ _ _ _ _ ?_
  exact Ex1_return (τ₁ := some k') (y := .bool true) (Ev_cmp (τ₁ := some k') (Ev_call g_told (isFun_of rfl) told (EvL_cons (Ev_name (by (repeat refine lk ?_ rfl); exact i2) rfl) (EvL_cons (Ev_name (by (repeat refine lk ?_ rfl); exact i1) rfl) EvL_nil rfl) rfl) rfl)
    (Ev_call g_due (isFun_of rfl) due (EvL_cons (Ev_name (by (repeat refine lk ?_ rfl); exact i3) rfl) (EvL_cons (Ev_name lookup_cons_eq rfl) (EvL_cons (Ev_name (by (repeat refine lk ?_ rfl); exact i4) rfl) EvL_nil rfl) rfl) rfl) rfl)
    (Cmp_eq self.1 self.1 (by rw [Nat.min_self]; have := self.2.1; (exact Nat.le_trans (by assumption) (by decide))) self.2.2)) rfl ⟨_, rfl⟩
end
end Mine
namespace Mine

theorem items_int {R : WRecords} : ∀ {ds : List WData}, WShape.hasItems R ds .int = true → ∃ zs : List Int, ds = zs.map WData.int
  | [], _ => ⟨[], rfl⟩
  | d :: r, h => by
    have h' : (WShape.has R d .int && WShape.hasItems R r .int) = true := h
    rw [Bool.and_eq_true] at h'
    obtain ⟨i, rfl⟩ := hasW_int h'.1
    obtain ⟨zs, rfl⟩ := items_int h'.2
    exact ⟨i :: zs, rfl⟩
theorem rpl_int {C : Cx} {P : Params} {h : Heap} : ∀ {vs : List Value} {zs : List Int}, WellAll P h vs (zs.map WData.int) → RpL C h vs (cellsV zs)
  | _, [], x => by
    cases x; exact .nil
  | _, z :: zs, x => by
    cases x with
    | cons a b =>
      cases a with
      | int i t => exact .cons (.int z t) (rpl_int b)
theorem arg_one {C : Cx} {P : Params} {h : Heap} {vals : List Value} {zs : List Int} (x : WellAll P h vals [.list (zs.map WData.int)]) : ∃ v, vals = [v] ∧ Rp C h v (.lst (cellsV zs)) := by
  cases x with
  | cons a b =>
    cases b with
    | nil =>
      cases a with
      | list e q => exact ⟨_, rfl, .lst ⟨_, e⟩ (rpl_int q)⟩
theorem pre_len {R : WRecords} {zs : List Int} (h : WTm.holds R (.and (.not (.lt (.lit (.int 63)) (.len (.arg 0)))) (.lit (.bool true))) { args := [.list (zs.map WData.int)] } = true) : zs.length ≤ 63 := by
  have h1 := (holds_andW h).1
  simp only [WTm.holds, WTm.value, List.getElem?_cons_zero] at h1
  simp only [less?, Num.less?, List.length_map, Option.map_some] at h1
  by_cases q : 63 < zs.length
  · rw [decide_eq_true (show (63 : Int) < zs.length by omega)] at h1
    cases h1
  · omega
theorem post_true {r : RowW} {args : List WData} (h1 : r.post = .eq .res (.lit (.bool true))) (h2 : r.returns = .bool) : r.claim.post args (.bool true) args = true :=
  postW_of (X := true) (by rw [h2]; rfl) (by rw [h1]; simp [WTm.value, same]) rfl
theorem law_at {w : World} {mg mb : Str → Option Value} {h : Heap} (B : (cx2 w mg mb none []).Base h) {fa : Addr} (e : mg "law" = some (.ref fa)) : fa = 280 := by
  have q := mg_of B.1 B.2.g (show nsIn (cx2 w mg mb none []).K mainGlobals "law" = some (some (.ref 280)) from rfl)
  rw [e] at q
  injection q with q
  injection q with q
end Mine

theorem PySem.Challenge.cw_sa0026_02_holds : PySem.Challenge.rw_sa0026_02.Holds := by
  w_on
  refine Mine.said0 fun said => ?_
  refine holds_open (q := Mine.theView) (loose := []) (Xt := fun s => xlAt Mine.theView [] s && recOk [] s) (XP := XL Mine.theView []) (Yf := Mine.theHook.obs) (Ya := Mine.theHook.val) (YP := Mine.theHook.says) (N := 5000)
    Mine.left (Hook.of Mine.theHook) (Hook.keeps Mine.theHook) (fun s e => xl_of s (Bool.and_eq_true_iff.mp e).1) XL.keeps (by rfl) (by rfl) (by rfl) (fun s e => recFacts_of (Bool.and_eq_true_iff.mp e).2) (by rfl) said (by decide +kernel) ⟨rfl, rfl, rfl, rfl, rfl, by decide +kernel⟩ ?hw ?hc
  case hw => w_witness2
  case hc =>
    intro w s₀ s₁ mg mb G Y fa o pm cd doc dV kV ho hd' hcd hD hmg hg args vals as hpre hlay hrd hwl hlo
    have KX := kIn_of Y
    refine Ground.open G ?_
    intro T B D E TW
    have hs := pre_splitW hpre
    obtain ⟨d, r, rfl, h1, h2⟩ := hasAllW_cons hs.1
    have h3 := hasAllW_nil h2
    subst h3
    obtain ⟨ds, rfl, h4⟩ := hasW_list h1
    obtain ⟨zs, rfl⟩ := Mine.items_int h4
    have hz : zs.length ≤ 63 := Mine.pre_len hs.2
    obtain ⟨v, rfl, r⟩ := Mine.arg_one (C := Mine.cx2 w mg mb none []) hwl
    have B0 : (Mine.cx2 w mg mb none []).Base s₁.heap := ⟨KX, topRead_of T⟩
    have efa : fa = 280 := Mine.law_at B0 hmg
    subst efa
    refine wpAny_mono (Mine.walk_law B0 r (by omega) (A := callerA) ⟨rfl, by decide, by decide⟩) (fun u s' q => ?_) fun _ _ x => x.elim
    obtain ⟨e, h', tk, e', k⟩ := q
    subst e e'
    exact ⟨.inl ⟨_, _, [], rfl, fun _ => rfl, ReadsW.bool true, Mine.post_true rfl rfl, fun _ => ⟨List.nodup_nil, fun _ hm => nomatch hm⟩⟩, .of_keep k, rfl, .of_eq hg⟩
