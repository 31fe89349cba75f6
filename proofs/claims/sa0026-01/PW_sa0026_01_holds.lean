import PyProof.Rows.All
import Wide.All
import OpenK.AllK
import Wide.FinOn
import PySem.Challenge.RW_sa0026_01
open PySem PySem.W PyProof.Rows PySem.Calls
set_option Elab.async false
set_option linter.unusedVariables false
set_option linter.unusedSimpArgs false
set_option maxRecDepth 100000
set_option maxHeartbeats 8000000
namespace Mine
theorem and3 {a b c d : Prop} (h : a ∧ b ∧ c) (f : a → b → c → d) : d := f h.1 h.2.1 h.2.2
theorem and2 {a b d : Prop} (h : a ∧ b) (f : a → b → d) : d := f h.1 h.2
theorem ex2 {α : Type} {p q : α → Prop} {d : Prop} (h : ∃ o, p o ∧ q o) (f : ∀ o, p o → q o → d) : d := match h with | ⟨o, a, b⟩ => f o a b

inductive V where
  | none | bool (b : Bool) | int (i : Int) | str (x : Str)
  | tup (xs : List V) | lst (xs : List V) | dct (kvs : List (V × V))
  | self (ops : V)
  | tray
  | any
  | oL (xs : List V) | oD (kvs : List (V × V))

noncomputable def NoE : Value → Shared → Prop := fun _ _ => False

structure Cx where
  prog : Program
  w : World
  Base : Heap → Prop
  T : Option Addr
  bag : Addr
  cells : List V
  k1 : Str
  k2 : Str
  K : Frag
  kin : ∀ h, Base h → K.In h
  nolim : ∀ h, Base h → h.NoLimit
  big : ∀ h, Base h → ∃ b o, sysModules < b ∧ h.get? b = some o
  mono : ∀ h h', Base h → (∀ b o, h.get? b = some o → h'.get? b = some o) → Base h'

noncomputable def Sub (h h' : Heap) : Prop := ∀ b o, h.get? b = some o → h'.get? b = some o
theorem Sub.refl (h : Heap) : Sub h h := fun _ _ e => e
theorem Sub.trans {a b c : Heap} (x : Sub a b) (y : Sub b c) : Sub a c := fun _ _ e => y _ _ (x _ _ e)

noncomputable def hid (h : Heap) (M : List Addr) : Heap := hideAll h M
theorem hid_sub (h : Heap) (M : List Addr) : Sub (hid h M) h := fun _ _ e => of_hideAll M e
theorem hid_get {h : Heap} {M : List Addr} {b : Addr} {o : Obj} (e : h.get? b = some o) (n : b ∉ M) : (hid h M).get? b = some o := hideAll_get M e n
theorem hid_not {h : Heap} {M : List Addr} {b : Addr} {o : Obj} (e : (hid h M).get? b = some o) : b ∉ M := fun q => by
  rw [hid, hideAll_none M q] at e; cases e
theorem hid_up {h h' : Heap} {M M' : List Addr} (k : ∀ b o, b ∉ M → h.get? b = some o → h'.get? b = some o) (m : ∀ b o, b ∉ M → h.get? b = some o → b ∉ M') : Sub (hid h M) (hid h' M') := fun b o e =>
  hid_get (k b o (hid_not e) (hid_sub _ _ _ _ e)) (m b o (hid_not e) (hid_sub _ _ _ _ e))
theorem hid_mono {h h' : Heap} {M : List Addr} (k : ∀ b o, b ∉ M → h.get? b = some o → h'.get? b = some o) : Sub (hid h M) (hid h' M) := hid_up k fun _ _ n _ => n
theorem hid_less {h : Heap} {M M' : List Addr} (m : ∀ b ∈ M', b ∈ M) : Sub (hid h M) (hid h M') := hid_up (fun _ _ _ e => e) fun b _ n _ q => n (m b q)
theorem hid_all {h h' : Heap} {M : List Addr} (k : Sub h h') : Sub (hid h M) (hid h' M) := hid_mono fun b o _ e => k b o e

mutual
noncomputable def hashV (P : Params) : V → Int
  | .str x => PyData.keyHash P x
  | .tup xs => reduceHash (Builtin.Tuple.tupleHashOf (hashL P xs))
  | .int i => i
  | .none | .bool _ | .lst _ | .dct _ | .self _ | .tray | .any | .oL _ | .oD _ => 0
noncomputable def hashL (P : Params) : List V → List Int
  | [] => []
  | x :: r => hashV P x :: hashL P r
end

noncomputable def IsTup (h : Heap) (a : Addr) (vs : List Value) : Prop := ∃ o n, h.get? a = some o ∧ o.cls = .type "tuple" ∧ o.data = .seq vs.toArray n ∧ o.dict = none
noncomputable def IsLst (h : Heap) (a : Addr) (vs : List Value) : Prop := ∃ n, h.get? a = some { cls := .type "list", data := .seq vs.toArray n }
noncomputable def IsDct (h : Heap) (a : Addr) (es : List DictEntry) : Prop := (a == sysModules) = false ∧ ∃ n, h.get? a = some { cls := .type "dict", data := .dict es.toArray n }
theorem IsTup.up {h h' : Heap} {a vs} (x : IsTup h a vs) (k : Sub h h') : IsTup h' a vs := let ⟨o, n, e, r⟩ := x; ⟨o, n, k _ _ e, r⟩
theorem IsLst.up {h h' : Heap} {a vs} (x : IsLst h a vs) (k : Sub h h') : IsLst h' a vs := let ⟨n, e⟩ := x; ⟨n, k _ _ e⟩
theorem IsDct.up {h h' : Heap} {a vs} (x : IsDct h a vs) (k : Sub h h') : IsDct h' a vs := let ⟨b, n, e⟩ := x; ⟨b, n, k _ _ e⟩
theorem IsTup.at {h h' : Heap} {a vs} (x : IsTup h a vs) (k : ∀ o, h.get? a = some o → h'.get? a = some o) : IsTup h' a vs := let ⟨o, n, e, r⟩ := x; ⟨o, n, k _ e, r⟩
theorem IsLst.at {h h' : Heap} {a vs} (x : IsLst h a vs) (k : ∀ o, h.get? a = some o → h'.get? a = some o) : IsLst h' a vs := let ⟨n, e⟩ := x; ⟨n, k _ e⟩
theorem IsDct.at {h h' : Heap} {a vs} (x : IsDct h a vs) (k : ∀ o, h.get? a = some o → h'.get? a = some o) : IsDct h' a vs := let ⟨b, n, e⟩ := x; ⟨b, n, k _ e⟩
theorem IsTup.isTuple {h : Heap} {a vs} (x : IsTup h a vs) : h.IsTuple a vs.toArray := let ⟨o, n, e, c, d, _⟩ := x; ⟨o, e, c, n, d⟩
theorem IsLst.isList {h : Heap} {a vs} (x : IsLst h a vs) : h.IsList a vs.toArray := let ⟨n, e⟩ := x; ⟨_, e, rfl, n, rfl⟩
theorem IsLst.plain {h : Heap} {a vs} (x : IsLst h a vs) : h.PlainList a vs.toArray := x

noncomputable def opsName : Str := Str.ofString "ops"
noncomputable def IsBag (bag : Addr) (h : Heap) (a : Addr) (v : Value) : Prop :=
  ∃ da hs t n, h.get? a = some ⟨.ref bag, some da, .plain, #[]⟩ ∧ h.get? da = some (dictOf [⟨hs, .str opsName t, v⟩] n)

mutual
inductive Rp (C : Cx) (h : Heap) : Value → V → Prop
  | none : Rp C h .none .none
  | bool (b) : Rp C h (.bool b) (.bool b)
  | int (i t) : Rp C h (.int i t) (.int i)
  | str (x t) : Rp C h (.str x t) (.str x)
  | tup {a vs xs} : IsTup h a vs → RpL C h vs xs → Rp C h (.ref a) (.tup xs)
  | lst {a vs xs} : IsLst h a vs → RpL C h vs xs → Rp C h (.ref a) (.lst xs)
  | dct {a es kvs} : IsDct h a es → RpD C h es kvs → Rp C h (.ref a) (.dct kvs)
  | self {a v x} : IsBag C.bag h a v → Rp C h v x → Rp C h (.ref a) (.self x)
inductive RpL (C : Cx) (h : Heap) : List Value → List V → Prop
  | nil : RpL C h [] []
  | cons {v x vs xs} : Rp C h v x → RpL C h vs xs → RpL C h (v :: vs) (x :: xs)
inductive RpD (C : Cx) (h : Heap) : List DictEntry → List (V × V) → Prop
  | nil : RpD C h [] []
  | cons {e k x es kvs} : e.hash = hashV C.w.params k → Rp C h e.key k → Rp C h e.val x → RpD C h es kvs → RpD C h (e :: es) ((k, x) :: kvs)
end

theorem IsBag.up {g : Addr} {h h' : Heap} {a v} (x : IsBag g h a v) (k : Sub h h') : IsBag g h' a v :=
  let ⟨da, hs, t, n, e, d⟩ := x; ⟨da, hs, t, n, k _ _ e, k _ _ d⟩

theorem Rp.up {C : Cx} {h h' : Heap} (k : Sub h h') {v x} (r : Rp C h v x) : Rp C h' v x :=
  Rp.rec (motive_1 := fun v x _ => Rp C h' v x) (motive_2 := fun v x _ => RpL C h' v x) (motive_3 := fun v x _ => RpD C h' v x) .none .bool .int .str (fun a _ b => .tup (a.up k) b) (fun a _ b => .lst (a.up k) b) (fun a _ b => .dct (a.up k) b) (fun a _ b => .self (a.up k) b) .nil (fun _ _ a b => .cons a b) .nil (fun e _ _ _ a b c => .cons e a b c) r
theorem RpL.up {C : Cx} {h h' : Heap} (k : Sub h h') {v x} (r : RpL C h v x) : RpL C h' v x :=
  RpL.rec (motive_1 := fun v x _ => Rp C h' v x) (motive_2 := fun v x _ => RpL C h' v x) (motive_3 := fun v x _ => RpD C h' v x) .none .bool .int .str (fun a _ b => .tup (a.up k) b) (fun a _ b => .lst (a.up k) b) (fun a _ b => .dct (a.up k) b) (fun a _ b => .self (a.up k) b) .nil (fun _ _ a b => .cons a b) .nil (fun e _ _ _ a b c => .cons e a b c) r
theorem RpD.up {C : Cx} {h h' : Heap} (k : Sub h h') {v x} (r : RpD C h v x) : RpD C h' v x :=
  RpD.rec (motive_1 := fun v x _ => Rp C h' v x) (motive_2 := fun v x _ => RpL C h' v x) (motive_3 := fun v x _ => RpD C h' v x) .none .bool .int .str (fun a _ b => .tup (a.up k) b) (fun a _ b => .lst (a.up k) b) (fun a _ b => .dct (a.up k) b) (fun a _ b => .self (a.up k) b) .nil (fun _ _ a b => .cons a b) .nil (fun e _ _ _ a b c => .cons e a b c) r

theorem RpL.ind {C : Cx} {h : Heap} {P : List Value → List V → Prop} (n : P [] []) (c : ∀ {v x vs xs}, Rp C h v x → RpL C h vs xs → P vs xs → P (v :: vs) (x :: xs)) {vs xs} (r : RpL C h vs xs) : P vs xs :=
  RpL.rec (motive_1 := fun _ _ _ => True) (motive_2 := fun v x _ => P v x) (motive_3 := fun _ _ _ => True) trivial (fun _ => trivial) (fun _ _ => trivial) (fun _ _ => trivial) (fun _ _ _ => trivial) (fun _ _ _ => trivial) (fun _ _ _ => trivial) (fun _ _ _ => trivial) n (fun a b _ d => c a b d) trivial (fun _ _ _ _ _ _ _ => trivial) r
theorem RpL.length {C : Cx} {h : Heap} {vs xs} (r : RpL C h vs xs) : vs.length = xs.length := r.ind (P := fun vs xs => vs.length = xs.length) rfl fun _ _ e => congrArg (· + 1) e
theorem RpL.get {C : Cx} {h : Heap} {vs xs} (r : RpL C h vs xs) {i : Nat} {x} (e : xs[i]? = some x) : ∃ v, vs[i]? = some v ∧ Rp C h v x := by
  revert i
  refine r.ind (P := fun vs xs => ∀ {i : Nat}, xs[i]? = some x → ∃ v, vs[i]? = some v ∧ Rp C h v x) (fun e => by simp at e) fun {v y vs xs} a b ih i e => ?_
  cases i with
  | zero => cases e; exact ⟨v, rfl, a⟩
  | succ i => exact ih (by simpa using e)
theorem RpL.app {C : Cx} {h : Heap} {vs xs vs' xs'} (r : RpL C h vs xs) (q : RpL C h vs' xs') : RpL C h (vs ++ vs') (xs ++ xs') := r.ind (P := fun vs xs => RpL C h (vs ++ vs') (xs ++ xs')) q fun a _ b => .cons a b
theorem RpL.drop {C : Cx} {h : Heap} : ∀ {vs xs} (n : Nat), RpL C h vs xs → RpL C h (vs.drop n) (xs.drop n)
  | _, _, 0, r => r
  | _, _, _ + 1, .nil => .nil
  | _, _, n + 1, .cons _ b => b.drop n
theorem RpL.take {C : Cx} {h : Heap} : ∀ {vs xs} (n : Nat), RpL C h vs xs → RpL C h (vs.take n) (xs.take n)
  | _, _, 0, _ => .nil
  | _, _, _ + 1, .nil => .nil
  | _, _, n + 1, .cons a b => .cons a (b.take n)

noncomputable def Rep (C : Cx) (h : Heap) (M : List Addr) (v : Value) : V → Prop
  | .oL xs => ∃ a vs, v = .ref a ∧ a ∈ M ∧ C.T ≠ some a ∧ IsLst h a vs ∧ RpL C (hid h M) vs xs
  | .oD kvs => ∃ a es, v = .ref a ∧ a ∈ M ∧ C.T ≠ some a ∧ IsDct h a es ∧ RpD C (hid h M) es kvs
  | .tray => ∃ a, v = .ref a ∧ C.T = some a
  | .any => True
  | x => Rp C (hid h M) v x

noncomputable def V.own : V → Bool
  | .oL _ | .oD _ => true
  | .none | .bool _ | .int _ | .str _ | .tup _ | .lst _ | .dct _ | .self _ | .tray | .any => false
noncomputable def V.pure : V → Bool
  | .oL _ | .oD _ | .tray | .any => false
  | _ => true
theorem rp_tup {C : Cx} {h : Heap} {v : Value} {xs : List V} (r : Rp C h v (.tup xs)) : ∃ a vs, v = .ref a ∧ IsTup h a vs ∧ RpL C h vs xs := by
  cases r with
  | tup l q => exact ⟨_, _, rfl, l, q⟩
theorem rp_lst {C : Cx} {h : Heap} {v : Value} {xs : List V} (r : Rp C h v (.lst xs)) : ∃ a vs, v = .ref a ∧ IsLst h a vs ∧ RpL C h vs xs := by
  cases r with
  | lst l q => exact ⟨_, _, rfl, l, q⟩
theorem rp_str {C : Cx} {h : Heap} {v : Value} {x : Str} (r : Rp C h v (.str x)) : ∃ t, v = .str x t := by
  cases r; exact ⟨_, rfl⟩
theorem rpl_cons {C : Cx} {h : Heap} {vs : List Value} {x : V} {xs : List V} (r : RpL C h vs (x :: xs)) : ∃ u us, vs = u :: us ∧ Rp C h u x ∧ RpL C h us xs := by
  cases r with
  | cons a q => exact ⟨_, _, rfl, a, q⟩
theorem rpl_two {C : Cx} {h : Heap} {vs : List Value} {x y : V} (r : RpL C h vs [x, y]) : ∃ u v, vs = [u, v] ∧ Rp C h u x ∧ Rp C h v y := by
  obtain ⟨u, us, rfl, a, q⟩ := rpl_cons r
  obtain ⟨v, ws, rfl, b, q⟩ := rpl_cons q
  cases q
  exact ⟨u, v, rfl, a, b⟩
theorem rep_pure {C : Cx} {h : Heap} {M : List Addr} {v : Value} {x : V} (p : x.pure = true) : Rep C h M v x ↔ Rp C (hid h M) v x := by
  cases x <;> first | rfl | exact (Bool.false_ne_true p).elim

theorem Rep.move {C : Cx} {h h' : Heap} {M M' : List Addr} {v : Value} {y : V} (r : Rep C h M v y) (up : Sub (hid h M) (hid h' M')) (ho : y.own = true → ∀ a, v = .ref a → a ∈ M → C.T ≠ some a → a ∈ M' ∧ ∀ o, h.get? a = some o → h'.get? a = some o) : Rep C h' M' v y := by
  cases y with
  | oL xs =>
    obtain ⟨a, vs, e, m, t, l, q⟩ := r
    obtain ⟨m', k⟩ := ho rfl a e m t
    exact ⟨a, vs, e, m', t, l.at k, q.up up⟩
  | oD xs =>
    obtain ⟨a, vs, e, m, t, l, q⟩ := r
    obtain ⟨m', k⟩ := ho rfl a e m t
    exact ⟨a, vs, e, m', t, l.at k, q.up up⟩
  | tray => exact r
  | any => exact True.intro
  | _ => exact Rp.up up r
theorem Rep.all {C : Cx} {h h' : Heap} {M : List Addr} {v : Value} {x : V} (r : Rep C h M v x) (k : ∀ b o, C.T ≠ some b → h.get? b = some o → h'.get? b = some o) (mT : ∀ a, C.T = some a → a ∈ M) : Rep C h' M v x := by
  have kk : Sub (hid h M) (hid h' M) := hid_mono fun b o n e => k b o (fun q => n (mT b q)) e
  exact r.move kk fun _ a _ m t => ⟨m, fun o e => k a o t e⟩

noncomputable def TrayIs (C : Cx) (h : Heap) (M : List Addr) : Option Nat → Prop
  | .none => True
  | some n => ∃ a t1 t2 tk n' b, C.T = some a ∧ h.get? a = some { cls := .type "dict", data := .dict #[⟨PyData.keyHash C.w.params C.k1, .str C.k1 t1, .ref b⟩, ⟨PyData.keyHash C.w.params C.k2, .str C.k2 t2, .int (n : Int) tk⟩] n' } ∧
      Rp C (hid h M) (.ref b) (.lst C.cells)

structure FrameAt (C : Cx) (env : Env) (h : Heap) (ρ : Str → Option Value) : Prop where
  ns : ∃ m, h.Ns env.locals m ∧ ∀ x, env.kindOf x = some .local → m x = ρ x
  cell : ∀ x, (env.kindOf x = some .cell ∨ env.kindOf x = some .free) → ∃ c, env.cells.lookup x = some c ∧ h.IsCell c (ρ x)
  apart : ∀ x y c, env.cells.lookup x = some c → env.cells.lookup y = some c → x = y
  notT : ∀ a, C.T = some a → env.locals ≠ a ∧ ∀ x, env.cells.lookup x ≠ some a

theorem FrameAt.all {C : Cx} {env : Env} {h h' : Heap} {ρ : Str → Option Value} (F : FrameAt C env h ρ) (k : ∀ b o, C.T ≠ some b → h.get? b = some o → h'.get? b = some o) : FrameAt C env h' ρ where
  ns := let ⟨m, n, e⟩ := F.ns; ⟨m, n.at' fun o e => k _ o (fun q => (F.notT _ q).1 rfl) e, e⟩
  cell := fun x hx => let ⟨c, e, o, ho, hd⟩ := F.cell x hx; ⟨c, e, o, k _ o (fun q => (F.notT _ q).2 x e) ho, hd⟩
  apart := F.apart
  notT := F.notT

noncomputable def isVar (env : Env) (x : Str) : Bool := match env.kindOf x with
  | some .local | some .cell | some .free => true
  | _ => false
theorem isVar_of {env : Env} {x : Str} (i : isVar env x = true) : env.kindOf x = some .local ∨ env.kindOf x = some .cell ∨ env.kindOf x = some .free := by
  delta isVar at i
  revert i
  cases env.kindOf x with
  | none => exact fun i => (Bool.false_ne_true i).elim
  | some k => cases k <;> first | exact fun i => (Bool.false_ne_true i).elim | exact fun _ => .inl rfl | exact fun _ => .inr (.inl rfl) | exact fun _ => .inr (.inr rfl)

structure Gs (C : Cx) (M : List Addr) (τ : Option Nat) (s : Shared) : Prop where
  base : C.Base (hid s.heap M)
  low : ∀ a ∈ M, ∃ o, s.heap.get? a = some o
  mT : ∀ a, C.T = some a → a ∈ M
  tray : TrayIs C s.heap M τ

structure St (C : Cx) (M : List Addr) (env : Env) (σ : List (Str × V)) (τ : Option Nat) (s : Shared) : Prop extends Gs C M τ s where
  glob : env.globals = mainGlobals ∧ env.builtins = builtinsNs ∧ env.scope.kind = .function
  frame : ∃ ρ, FrameAt C env s.heap ρ ∧ ∀ x y, σ.lookup x = some y → isVar env x = true → ∃ v, ρ x = some v ∧ Rep C s.heap M v y

theorem TrayIs.all {C : Cx} {h h' : Heap} {M : List Addr} {τ : Option Nat} (t : TrayIs C h M τ) (k : Sub h h') : TrayIs C h' M τ := by
  cases τ with
  | none => trivial
  | some n => obtain ⟨a, t1, t2, tk, n', b, x1, x2, x3⟩ := t; exact ⟨a, t1, t2, tk, n', b, x1, k _ _ x2, x3.up (hid_all k)⟩

theorem Gs.kept {C : Cx} {M : List Addr} {τ τ' : Option Nat} {s : Shared} (S : Gs C M τ s) {h' : Heap} {tk : Tok} (k : ∀ b o, C.T ≠ some b → s.heap.get? b = some o → h'.get? b = some o)
    (lT : ∀ a, C.T = some a → ∃ o, h'.get? a = some o) (t : TrayIs C h' M τ') : Gs C M τ' { s with heap := h', toks := tk } where
  base := C.mono _ _ S.base (hid_mono fun b o n e => k b o (fun q => n (S.mT b q)) e)
  low := fun a m => by
    by_cases q : C.T = some a
    · exact lT a q
    · obtain ⟨o, e⟩ := S.low a m; exact ⟨o, k a o q e⟩
  mT := S.mT
  tray := t
theorem Gs.all {C : Cx} {M : List Addr} {τ : Option Nat} {s : Shared} (S : Gs C M τ s) {h' : Heap} {tk : Tok} (k : Sub s.heap h') : Gs C M τ { s with heap := h', toks := tk } :=
  S.kept (fun b o _ e => k b o e) (fun a q => let ⟨o, e⟩ := S.low a (S.mT a q); ⟨o, k _ _ e⟩) (S.tray.all k)
theorem Gs.keeps {C : Cx} {M : List Addr} {τ : Option Nat} {s s' : Shared} (S : Gs C M τ s) (k : Keeps s s') : Gs C M τ s' := by
  obtain ⟨h', tk, rfl, k⟩ := k; exact S.all k

noncomputable def Kept (C : Cx) (s s' : Shared) : Prop := ∃ h' tk, s' = { s with heap := h', toks := tk } ∧ ∀ b o, C.T ≠ some b → s.heap.get? b = some o → h'.get? b = some o
theorem Kept.refl (C : Cx) (s : Shared) : Kept C s s := ⟨s.heap, s.toks, rfl, fun _ _ _ e => e⟩
theorem Kept.trans {C : Cx} {a b c : Shared} (x : Kept C a b) (y : Kept C b c) : Kept C a c := by
  obtain ⟨h, t, rfl, k⟩ := x; obtain ⟨h', t', rfl, k'⟩ := y
  exact ⟨h', t', rfl, fun b o n e => k' b o n (k b o n e)⟩
theorem Kept.of {C : Cx} {a b : Shared} (x : Keeps a b) : Kept C a b := by
  obtain ⟨h, t, rfl, k⟩ := x; exact ⟨h, t, rfl, fun b o _ e => k b o e⟩
theorem St.kept {C : Cx} {M : List Addr} {env : Env} {σ : List (Str × V)} {τ τ' : Option Nat} {s s' : Shared} (S : St C M env σ τ s) (k : Kept C s s') (g : Gs C M τ' s') : St C M env σ τ' s' := by
  obtain ⟨h', tk, rfl, k⟩ := k
  obtain ⟨ρ, F, v⟩ := S.frame
  exact ⟨g, S.glob, ρ, F.all k, fun x y e i => let ⟨u, e1, r⟩ := v x y e i; ⟨u, e1, r.all k S.mT⟩⟩
theorem St.keeps {C : Cx} {M : List Addr} {env : Env} {σ : List (Str × V)} {τ : Option Nat} {s s' : Shared} (S : St C M env σ τ s) (k : Keeps s s') : St C M env σ τ s' :=
  S.kept (.of k) (S.toGs.keeps k)
theorem Rep.kept {C : Cx} {s s' : Shared} {M : List Addr} {v : Value} {x : V} (r : Rep C s.heap M v x) (k : Kept C s s') (mT : ∀ a, C.T = some a → a ∈ M) : Rep C s'.heap M v x := by
  obtain ⟨h', tk, rfl, k⟩ := k; exact r.all k mT
theorem Rep.keeps {C : Cx} {s s' : Shared} {M : List Addr} {v : Value} {x : V} (r : Rep C s.heap M v x) (k : Keeps s s') (mT : ∀ a, C.T = some a → a ∈ M) : Rep C s'.heap M v x := r.kept (.of k) mT

theorem kpRfl (s : Shared) : Keeps s s := ⟨s.heap, s.toks, rfl, fun _ _ e => e⟩
theorem kpTok (s : Shared) (t : Tok) : Keeps s { s with toks := t } := ⟨s.heap, t, rfl, fun _ _ e => e⟩
theorem kpPush (s : Shared) (o : Obj) : Keeps s { s with heap := s.heap.push o } := ⟨s.heap.push o, s.toks, rfl, fun _ _ e => Heap.get?_push_of_some _ e⟩
theorem kpTrans {a b c : Shared} (x : Keeps a b) (y : Keeps b c) : Keeps a c := by
  obtain ⟨h, t, rfl, k⟩ := x; obtain ⟨h', t', rfl, k'⟩ := y
  exact ⟨h', t', rfl, fun b o e => k' b o (k b o e)⟩

structure Room (A : Around) (n : Nat) : Prop where
  hd : A.handled = Option.none
  dp : A.depth + n < recursionLimit
  un : A.units + 40 * n + 400 < cLine
theorem Room.le {A : Around} {n m : Nat} (r : Room A n) (h : m ≤ n) : Room A m := ⟨r.hd, by have := r.dp; lia, by have := r.un; lia⟩
theorem Room.deeper {A : Around} {n : Nat} (r : Room A (n + 1)) (env : Env) : Room (A.deeper env) n := ⟨r.hd, by have := r.dp; show A.depth + 1 + n < _; lia, by have := r.un; show A.units + 3 + _ + _ < _; lia⟩
theorem Room.in1 {A : Around} {n : Nat} (r : Room A (n + 1)) : Room A.in1 n := ⟨r.hd, by have := r.dp; show A.depth + n < _; (first | lia | omega), by have := r.un; show A.units + 1 + _ + _ < _; (first | lia | omega)⟩

noncomputable def Ev (C : Cx) (n : Nat) (e : PySem.Expr) (env : Env) (σ : List (Str × V)) (τ : Option Nat) (y : V) (τ' : Option Nat) : Prop :=
  ∀ A, Room A n → ∀ M s, St C M env σ τ s → wpAny (model C.prog C.w) A (eval e env) (fun v s' => St C M env σ τ' s' ∧ Rep C s'.heap M v y ∧ Kept C s s') NoE s
noncomputable def Tst (C : Cx) (n : Nat) (e : PySem.Expr) (env : Env) (σ : List (Str × V)) (τ : Option Nat) (b : Bool) (τ' : Option Nat) : Prop :=
  ∀ A, Room A n → ∀ M s, St C M env σ τ s → wpAny (model C.prog C.w) A (isTrue e env (eval e env)) (fun v s' => v = b ∧ St C M env σ τ' s' ∧ Kept C s s') NoE s

end Mine
namespace Mine

noncomputable def RepL (C : Cx) (h : Heap) (M : List Addr) : List Value → List V → Prop
  | [], [] => True
  | v :: vs, x :: xs => Rep C h M v x ∧ RepL C h M vs xs
  | _, _ => False
theorem repL_one {C : Cx} {h : Heap} {M : List Addr} {vs : List Value} {x : V} (r : RepL C h M vs [x]) : ∃ v, vs = [v] ∧ Rep C h M v x := by
  cases vs with
  | nil => exact r.elim
  | cons v l =>
    cases l with
    | nil => exact ⟨v, rfl, r.1⟩
    | cons _ _ => exact r.2.elim
theorem repL_two {C : Cx} {h : Heap} {M : List Addr} {vs : List Value} {x y : V} (r : RepL C h M vs [x, y]) : ∃ u v, vs = [u, v] ∧ Rep C h M u x ∧ Rep C h M v y := by
  cases vs with
  | nil => exact r.elim
  | cons u l =>
    obtain ⟨v, rfl, q⟩ := repL_one r.2
    exact ⟨u, v, rfl, r.1, q⟩
theorem repL_three {C : Cx} {h : Heap} {M : List Addr} {vs : List Value} {x y z : V} (r : RepL C h M vs [x, y, z]) : ∃ u v w, vs = [u, v, w] ∧ Rep C h M u x ∧ Rep C h M v y ∧ Rep C h M w z := by
  cases vs with
  | nil => exact r.elim
  | cons u l =>
    obtain ⟨v, w, rfl, q⟩ := repL_two r.2
    exact ⟨u, v, w, rfl, r.1, q⟩
theorem RepL.kept {C : Cx} {s s' : Shared} {M : List Addr} (k : Kept C s s') (mT : ∀ a, C.T = some a → a ∈ M) : ∀ {vs xs}, RepL C s.heap M vs xs → RepL C s'.heap M vs xs
  | [], [], _ => trivial
  | _ :: _, _ :: _, ⟨a, b⟩ => ⟨a.kept k mT, RepL.kept k mT b⟩
theorem RepL.pure {C : Cx} {h : Heap} {M : List Addr} : ∀ {vs xs}, RepL C h M vs xs → xs.all V.pure = true → RpL C (hid h M) vs xs
  | [], [], _, _ => .nil
  | _ :: _, _ :: _, ⟨a, b⟩, p => by
    simp only [List.all_cons, Bool.and_eq_true] at p
    exact .cons ((rep_pure p.1).mp a) (RepL.pure b p.2)
theorem RepL.of {C : Cx} {h : Heap} {M : List Addr} {vs xs} (r : RpL C (hid h M) vs xs) : xs.all V.pure = true → RepL C h M vs xs :=
  r.ind (P := fun vs xs => xs.all V.pure = true → RepL C h M vs xs) (fun _ => trivial) fun a _ ih p => by
    simp only [List.all_cons, Bool.and_eq_true] at p
    exact ⟨(rep_pure p.1).mpr a, ih p.2⟩
theorem RepL.length {C : Cx} {h : Heap} {M : List Addr} : ∀ {vs xs}, RepL C h M vs xs → vs.length = xs.length
  | [], [], _ => rfl
  | _ :: _, _ :: _, ⟨_, b⟩ => congrArg (· + 1) b.length

section
variable {C : Cx} {n : Nat} {env : Env} {σ : List (Str × V)} {τ τ₁ τ₂ : Option Nat}

theorem NoE.any {α : Type} {M : Model} {A : Around} {t : Sem α} {Q : α → Shared → Prop} {E : Value → Shared → Prop} {s : Shared} (h : wpAny M A t Q NoE s) : wpAny M A t Q E s := wpAny_mono h (fun _ _ q => q) fun _ _ q => q.elim

theorem Ev.le {m : Nat} {e : PySem.Expr} {y : V} (h : Ev C n e env σ τ y τ₁) (l : n ≤ m) : Ev C m e env σ τ y τ₁ := fun A R => h A (R.le l)

theorem hid_more {h h' : Heap} {M N : List Addr} (k : Sub h h') (fr : ∀ a ∈ N, h.get? a = Option.none) : Sub (hid h M) (hid h' (N ++ M)) :=
  hid_up (fun b o _ e => k b o e) fun b o nm e q => by
    rcases List.mem_append.mp q with q | q
    · rw [fr b q] at e; cases e
    · exact nm q
theorem Gs.more {M N : List Addr} {s : Shared} (G : Gs C M τ s) {h' : Heap} {tk : Tok} (k : Sub s.heap h') (fr : ∀ a ∈ N, s.heap.get? a = Option.none) (al : ∀ a ∈ N, ∃ o, h'.get? a = some o) : Gs C (N ++ M) τ { s with heap := h', toks := tk } where
  base := C.mono _ _ G.base (hid_more k fr)
  low := fun a m => by
    rcases List.mem_append.mp m with m | m
    · exact al a m
    · obtain ⟨o, e⟩ := G.low a m; exact ⟨o, k _ _ e⟩
  mT := fun a q => List.mem_append_right _ (G.mT a q)
  tray := by
    have t := G.tray
    cases τ with
    | none => trivial
    | some j => obtain ⟨a, t1, t2, tk', n', b, x1, x2, x3⟩ := t; exact ⟨a, t1, t2, tk', n', b, x1, k _ _ x2, x3.up (hid_more k fr)⟩
theorem Rep.more {h h' : Heap} {M N : List Addr} {v : Value} {y : V} (r : Rep C h M v y) (k : Sub h h') (fr : ∀ a ∈ N, h.get? a = Option.none) : Rep C h' (N ++ M) v y := by
  have up := hid_more (M := M) k fr
  exact r.move up fun _ a _ m _ => ⟨List.mem_append_right _ m, fun o e => k a o e⟩

theorem Ev_none {k pos} : Ev C n (.Constant .none k pos) env σ τ .none τ := fun _ _ _ _ S => wpAny_Constant_none ⟨S, .none, .refl ..⟩
theorem Ev_bool {b k pos} : Ev C n (.Constant (.bool b) k pos) env σ τ (.bool b) τ := fun _ _ _ _ S => wpAny_Constant_bool ⟨S, .bool b, .refl ..⟩
theorem Ev_int {i k pos} : Ev C n (.Constant (.int i) k pos) env σ τ (.int i) τ := fun _ _ _ s S => wpAny_Constant_int ⟨S.keeps (kpTok s _), .int i _, .of (kpTok s _)⟩
theorem Ev_str {x k pos} : Ev C n (.Constant (.str x) k pos) env σ τ (.str x) τ := fun _ _ _ s S => wpAny_Constant_str ⟨S.keeps (kpTok s _), .str x _, .of (kpTok s _)⟩

theorem load_at {M : Model} {A : Around} {E : Value → Shared → Prop} {s : Shared} {ρ : Str → Option Value} {x : Str} {v : Value} {Q : Value → Shared → Prop} (F : FrameAt C env s.heap ρ) (hk : env.scope.kind = .function) (e : ρ x = some v) (i : isVar env x = true) (hc : (x == ("__classdict__" : Str)) = false)
    (h : Q v s) : wpAny M A (loadName env x) Q E s :=
  (isVar_of i).elim (fun q => let ⟨_, hn, hm⟩ := F.ns; wpAny_loadName_local hk q hn ((hm x q).trans e) h)
    fun q => q.elim (fun q => let ⟨_, hl, hc⟩ := F.cell x (.inl q); wpAny_loadName_cell hk q hl (e ▸ hc) h)
      fun q => let ⟨_, hl, hc'⟩ := F.cell x (.inr q); wpAny_loadName_free hk q hl (e ▸ hc') h hc
theorem wp_var {A : Around} {M : List Addr} {s : Shared} {x : Str} {y : V} {Q : Value → Shared → Prop} (S : St C M env σ τ s) (e : σ.lookup x = some y) (i : isVar env x = true) (hc : (x == ("__classdict__" : Str)) = false)
    (h : ∀ v, Rep C s.heap M v y → Q v s) : wpAny (model C.prog C.w) A (loadName env x) Q NoE s := by
  obtain ⟨ρ, F, V⟩ := S.frame
  obtain ⟨v, e1, r⟩ := V x y e i
  exact load_at F S.glob.2.2 e1 i hc (h v r)

theorem Ev_name {x pos} {y : V} (e : σ.lookup x = some y) (i : isVar env x = true) (hd : (x == ("__debug__" : Str)) = false := by decide) (hc : (x == ("__classdict__" : Str)) = false := by decide) :
    Ev C n (.Name x pos) env σ τ y τ := fun _ _ _ s S => wpAny_Name (wp_var S e i hc fun v r => ⟨S, r, .refl ..⟩) hd

noncomputable def GlobAt (C : Cx) (x : Str) (v : Value) : Prop := ∀ h, C.Base h → ∃ mg, h.Ns mainGlobals mg ∧ mg x = some v
noncomputable def BuiltAt (C : Cx) (x : Str) (v : Value) : Prop := ∀ h, C.Base h → ∃ mg mb, h.Ns mainGlobals mg ∧ mg x = Option.none ∧ h.Ns builtinsNs mb ∧ mb x = some v

theorem wp_glob {A : Around} {M : List Addr} {s : Shared} {x : Str} {v : Value} {pos : Pos} {Q : Value → Shared → Prop} (S : St C M env σ τ s) (g : GlobAt C x v) (i : env.kindOf x = some .globalImplicit) (hd : (x == ("__debug__" : Str)) = false)
    (h : Q v s) : wpAny (model C.prog C.w) A (eval (.Name x pos) env) Q NoE s := by
  obtain ⟨mg, n1, e1⟩ := g _ S.base
  exact Name_function_global S.glob.2.2 i (loadGlobal_global (S.glob.1 ▸ n1.keeps (hid_sub _ _)) e1 h) hd
theorem wp_built {A : Around} {M : List Addr} {s : Shared} {x : Str} {v : Value} {pos : Pos} {Q : Value → Shared → Prop} (S : St C M env σ τ s) (g : BuiltAt C x v) (i : env.kindOf x = some .globalImplicit) (hd : (x == ("__debug__" : Str)) = false)
    (h : Q v s) : wpAny (model C.prog C.w) A (eval (.Name x pos) env) Q NoE s := by
  obtain ⟨mg, mb, n1, e1, n2, e2⟩ := g _ S.base
  exact Name_function_global S.glob.2.2 i (loadGlobal_builtin (S.glob.1 ▸ n1.keeps (hid_sub _ _)) e1 (S.glob.2.1 ▸ n2.keeps (hid_sub _ _)) e2 h) hd

theorem Ev_glob_int {x pos} {i : Int} {t : Tok} (g : GlobAt C x (.int i t)) (k : env.kindOf x = some .globalImplicit) (hd : (x == ("__debug__" : Str)) = false := by decide) : Ev C n (.Name x pos) env σ τ (.int i) τ :=
  fun _ _ _ s S => wp_glob S g k hd ⟨S, .int i t, .refl ..⟩

noncomputable def EvL (C : Cx) (n : Nat) (es : List PySem.Expr) (env : Env) (σ : List (Str × V)) (τ : Option Nat) (ys : List V) (τ' : Option Nat) : Prop :=
  ∀ pos A, Room A n → ∀ M s, St C M env σ τ s → wpAny (model C.prog C.w) A (spliced (backTo pos (starEach es env))) (fun vs s' => St C M env σ τ' s' ∧ RepL C s'.heap M vs ys ∧ Kept C s s') NoE s
theorem EvL_nil : EvL C n [] env σ τ [] τ := fun _ _ _ _ _ S => wpAny_items_nil ⟨S, trivial, .refl ..⟩
theorem EvL_cons {e : PySem.Expr} {es : List PySem.Expr} {y : V} {ys : List V} (h : Ev C n e env σ τ y τ₁) (r : EvL C n es env σ τ₁ ys τ₂) (he : starEach (e :: es) env = (false, eval e env) :: starEach es env := by rfl) :
    EvL C n (e :: es) env σ τ (y :: ys) τ₂ := fun pos A R M s S =>
  wpAny_items_cons (wpAny_mono (h A R M s S) (fun v s₁ zz => and3 zz fun S₁ r₁ k₁ => wpAny_mono (r pos A R M s₁ S₁) (fun vs s₂ zz => and3 zz fun S₂ r₂ k₂ => ⟨S₂, ⟨r₁.kept k₂ S.mT, r₂⟩, k₁.trans k₂⟩) fun _ _ x => x) fun _ _ x => x) he

theorem push_lst {s : Shared} {M : List Addr} {τ : Option Nat} {vs : List Value} {xs : List V} (G : Gs C M τ s) (r : RpL C (hid s.heap M) vs xs) (ep : Nat := 0) :
    Rep C (s.heap.push { cls := .type "list", data := .seq vs.toArray ep }) M (.ref s.heap.objs.size) (.lst xs) := by
  have nM : s.heap.objs.size ∉ M := fun q => let ⟨o, e⟩ := G.low _ q; Nat.lt_irrefl _ (Heap.lt_size e)
  exact .lst ⟨ep, hid_get (Heap.get?_push_size _ rfl) nM⟩ (r.up (hid_all fun _ _ e => Heap.get?_push_of_some _ e))
theorem push_tup {s : Shared} {M : List Addr} {τ : Option Nat} {vs : List Value} {xs : List V} (G : Gs C M τ s) (r : RpL C (hid s.heap M) vs xs) (ep : Nat := 0) :
    Rep C (s.heap.push { cls := .type "tuple", data := .seq vs.toArray ep }) M (.ref s.heap.objs.size) (.tup xs) := by
  have nM : s.heap.objs.size ∉ M := fun q => let ⟨o, e⟩ := G.low _ q; Nat.lt_irrefl _ (Heap.lt_size e)
  exact .tup ⟨_, ep, hid_get (Heap.get?_push_size _ rfl) nM, rfl, rfl, rfl⟩ (r.up (hid_all fun _ _ e => Heap.get?_push_of_some _ e))

theorem Ev_tuple {es : List PySem.Expr} {k : Nat} {pos : Pos} {ys : List V} (h : EvL C n es env σ τ ys τ₁) (p : ys.all V.pure = true := by rfl) (l : ys.length ≤ 1000 := by decide) : Ev C n (.Tuple es k pos) env σ τ (.tup ys) τ₁ :=
  fun A R M s S => wpAny_Tuple (wpAny_mono (h pos A R M s S) (fun vs s₁ zz => and3 zz fun S₁ r₁ k₁ => ⟨by rw [r₁.length, sizeLine_eq]; (exact Nat.le_trans (by assumption) (by decide)), S₁.keeps (kpPush ..), push_tup S₁.toGs (r₁.pure p), k₁.trans (.of (kpPush ..))⟩) fun _ _ x => x)

noncomputable def EvN (C : Cx) (n : Nat) (e : PySem.Expr) (env : Env) (σ : List (Str × V)) (τ : Option Nat) (ys : List V) (τ' : Option Nat) : Prop :=
  ∀ A, Room A n → ∀ M s, St C M env σ τ s → wpAny (model C.prog C.w) A (eval e env) (fun v s' => St C M env σ τ' s' ∧ (∃ a vs, v = .ref a ∧ s.heap.get? a = Option.none ∧ a ∉ M ∧ IsLst s'.heap a vs ∧ Gs C (a :: M) τ' s' ∧ RpL C (hid s'.heap (a :: M)) vs ys) ∧ Kept C s s') NoE s
theorem EvN.ev {e : PySem.Expr} {ys : List V} (h : EvN C n e env σ τ ys τ₁) : Ev C n e env σ τ (.lst ys) τ₁ := fun A R M s S =>
  wpAny_mono (h A R M s S) (fun v s' zz => by obtain ⟨S', ⟨a, vs, e, _, m, l, _, r⟩, k⟩ := zz; exact ⟨S', e ▸ .lst (l.at fun o q => hid_get q m) (r.up (hid_less fun b hb => List.mem_cons_of_mem _ hb)), k⟩) fun _ _ x => x

theorem not_low {M : List Addr} {s : Shared} (G : Gs C M τ s) {h' : Heap} : ∀ {a}, s.heap.get? a = Option.none → a ∉ M := fun e q => by
  obtain ⟨o, e'⟩ := G.low _ q; rw [e] at e'; cases e'
theorem size_none (h : Heap) : h.get? h.objs.size = Option.none := by
  cases e : h.get? h.objs.size with
  | none => rfl
  | some o => exact absurd (Heap.lt_size e) (Nat.lt_irrefl _)
theorem kept_none {M : List Addr} {s s' : Shared} (G : Gs C M τ s') (k : Kept C s s') {a : Addr} (h : s'.heap.get? a = Option.none) : s.heap.get? a = Option.none := by
  cases q : s.heap.get? a with
  | none => rfl
  | some o =>
    by_cases t : C.T = some a
    · obtain ⟨o', e'⟩ := G.low _ (G.mT _ t); rw [h] at e'; cases e'
    · obtain ⟨h', tk, e, k⟩ := k; subst e; rw [k _ o t q] at h; cases h

theorem push_new {M : List Addr} {s : Shared} {vs : List Value} {ys : List V} (G : Gs C M τ s) (r : RpL C (hid s.heap M) vs ys) : s.heap.objs.size ∉ M ∧ IsLst (s.heap.push { cls := .type "list", data := .seq vs.toArray }) s.heap.objs.size vs ∧
    Gs C (s.heap.objs.size :: M) τ { s with heap := s.heap.push { cls := .type "list", data := .seq vs.toArray } } ∧ RpL C (hid (s.heap.push { cls := .type "list", data := .seq vs.toArray }) (s.heap.objs.size :: M)) vs ys := by
  have k : Sub s.heap (s.heap.push { cls := .type "list", data := .seq vs.toArray }) := fun _ _ e => Heap.get?_push_of_some _ e
  have fr : ∀ a ∈ [s.heap.objs.size], s.heap.get? a = Option.none := fun a ha => by simp at ha; subst ha; exact size_none _
  exact ⟨not_low (h' := s.heap) G (size_none _), ⟨0, Heap.get?_push_size _ rfl⟩, G.more (N := [s.heap.objs.size]) (tk := s.toks) k fr (fun a ha => by simp at ha; subst ha; exact ⟨_, Heap.get?_push_size _ rfl⟩), r.up (hid_more (N := [s.heap.objs.size]) k fr)⟩

theorem EvN_list {es : List PySem.Expr} {pos : Pos} {ys : List V} (h : EvL C n es env σ τ ys τ₁) (p : ys.all V.pure = true := by rfl) (l : ys.length ≤ 1000 := by decide) : EvN C n (.List es pos) env σ τ ys τ₁ :=
  fun A R M s S => wpAny_List (wpAny_mono (h pos A R M s S) (fun vs s₁ zz => and3 zz fun S₁ r₁ k₁ => by
    obtain ⟨a1, a2, a3, a4⟩ := push_new S₁.toGs (r₁.pure p)
    exact ⟨by rw [r₁.length, sizeLine_eq]; (exact Nat.le_trans (by assumption) (by decide)), S₁.keeps (kpPush ..), ⟨_, vs, rfl, kept_none S₁.toGs k₁ (size_none _), a1, a2, a3, a4⟩, k₁.trans (.of (kpPush ..))⟩) fun _ _ x => x)

end
end Mine
namespace Mine
section
variable {C : Cx} {n : Nat} {env : Env} {σ : List (Str × V)} {τ τ₁ τ₂ τ₃ : Option Nat}

noncomputable def FnSpec (C : Cx) (n : Nat) (f : Value) (xs : List V) (τ : Option Nat) (y : V) (τ' : Option Nat) : Prop :=
  ∀ A, Room A n → ∀ M s vs, Gs C M τ s → RepL C s.heap M vs xs → wpAny (model C.prog C.w) A (call f vs) (fun v s' => Gs C M τ' s' ∧ Rep C s'.heap M v y ∧ Kept C s s') NoE s

theorem evalArgs_ev {f : Value} {e : PySem.Expr} {es : List PySem.Expr} {ys : List V} {A : Around} {M : List Addr} {s : Shared} {pos : Pos} {Q : Args → Shared → Prop} (h : EvL C n (e :: es) env σ τ ys τ₁) (he : starEach (e :: es) env = (false, eval e env) :: starEach es env)
    (R : Room A n) (S : St C M env σ τ s) (q : ∀ vs s', St C M env σ τ₁ s' → RepL C s'.heap M vs ys → Kept C s s' → Q ⟨vs, []⟩ s') :
    wpAny (model C.prog C.w) A (evalArgs f true (backTo pos (starEach (e :: es) env)) []) Q NoE s := by
  have hb : backTo pos (starEach (e :: es) env) = (false, eval e env) :: backTo pos (starEach es env) := by rw [he]; rfl
  have h' := h pos A R M s S
  rw [hb] at h' ⊢
  exact evalArgs_plain (wpAny_mono h' (fun vs s' zz => and3 zz fun a b c => q vs s' a b c) fun _ _ x => x)

noncomputable def IsFun (C : Cx) (a : Addr) : Prop := ∀ h, C.Base h → ∃ o fd, h.get? a = some o ∧ o.data = .func fd

theorem Ev_call {f p pos e es} {a : Addr} {ys : List V} {y : V} (g : GlobAt C f (.ref a)) (fn : IsFun C a) (sp : FnSpec C n (.ref a) ys τ₁ y τ₂) (h : EvL C n (e :: es) env σ τ ys τ₁) (k : env.kindOf f = some .globalImplicit)
    (he : starEach (e :: es) env = (false, eval e env) :: starEach es env := by rfl) (hd : (f == ("__debug__" : Str)) = false := by decide) : Ev C n (.Call (.Name f p) (e :: es) [] pos) env σ τ y τ₂ := fun A R M s S => by
  show wpAny _ _ (do callWith pos (← eval (.Name f p) env) [] (backTo pos (starEach (e :: es) env)) []) _ _ _
  refine wpAny_bind (wp_glob S g k hd ?_)
  obtain ⟨o₀, fd₀, ho₀, hd₀⟩ := fn _ S.base
  refine callWith_function (o := o₀) (fd := fd₀) (evalArgs_ev h he R S fun vs s' S' r' k' => ⟨⟨?_, hd₀⟩, ?_⟩)
  · obtain ⟨h', tk, rfl, kk⟩ := k'
    refine kk _ _ (fun q => ?_) (hid_sub _ _ _ _ ho₀)
    exact hid_not ho₀ (S.mT _ q)
  · exact wpAny_mono (sp A R M s' vs S'.toGs r') (fun v s₂ zz => and3 zz fun G r k₂ => ⟨S'.kept k₂ G, r, k'.trans k₂⟩) fun _ _ x => x

theorem backTo_any {pos : Pos} {es : List PySem.Expr} : (backTo pos (starEach es env)).any (·.1) = (starEach es env).any (·.1) := by
  unfold backTo; rw [List.any_map]; rfl

noncomputable def BuSpec (C : Cx) (n : Nat) (f : Value) (xs : List V) (y : V) : Prop :=
  ∀ A, Room A n → ∀ M s vs τ, Gs C M τ s → RepL C s.heap M vs xs → wpAny (model C.prog C.w) A (call f vs) (fun v s' => Rep C s'.heap M v y ∧ Keeps s s') NoE s

theorem Ev_builtin {f p pos e es} {id : String} {ys : List V} {y : V} (g : BuiltAt C f (.builtin id)) (sp : BuSpec C n (.builtin id) ys y) (h : EvL C n (e :: es) env σ τ ys τ₁) (k : env.kindOf f = some .globalImplicit)
    (hst : (starEach (e :: es) env).any (·.1) = false := by rfl)
    (he : starEach (e :: es) env = (false, eval e env) :: starEach es env := by rfl) (hd : (f == ("__debug__" : Str)) = false := by decide) : Ev C n (.Call (.Name f p) (e :: es) [] pos) env σ τ y τ₁ := fun A R M s S => by
  show wpAny _ _ (do callWith pos (← eval (.Name f p) env) [] (backTo pos (starEach (e :: es) env)) []) _ _ _
  refine wpAny_bind (wp_built S g k hd ?_)
  refine callWith_builtin (by rw [backTo_any]; exact hst) (evalArgs_ev h he R S fun vs s' S' r' k' => ?_)
  exact wpAny_mono (sp A R M s' vs τ₁ S'.toGs r') (fun v s₂ zz => and2 zz fun r k₂ => ⟨S'.keeps k₂, r, k'.trans (.of k₂)⟩) fun _ _ x => x

theorem callWith_type {A : Around} {E : Value → Shared → Prop} {M : Model} {s : Shared} {pos : Pos} {T : String} {args : List (Bool × Sem Value)} {Q : Value → Shared → Prop} (hplain : args.any (·.1) = false)
    (h : wpAny M A (evalArgs (.type T) true args []) (fun a s₁ => wpAny M A (call (.type T) a.pos a.kw) Q E s₁) E s) :
    wpAny M A (callWith pos (.type T) [] args []) Q E s := by
  unfold callWith
  refine wpAny_bind (wpAny_holding (wpAny_mono h (fun a s₁ h₁ => wpAny_bind (wpAny_standAt ?_)) fun _ _ x => x))
  rw [hplain, List.any_nil, Bool.or_false]
  dsimp only
  rw [if_neg Bool.false_ne_true]
  refine wpAny_bind (wpAny_pure ?_)
  exact wpAny_bind (wpAny_mono h₁ (fun r s₂ hr => wpAny_bind (wpAny_holding (wpAny_point (wpAny_pure hr)))) fun _ _ x => x)

theorem Ev_type {f p pos e es} {T : String} {ys : List V} {y : V} (g : BuiltAt C f (.type T)) (sp : BuSpec C n (.type T) ys y) (h : EvL C n (e :: es) env σ τ ys τ₁) (k : env.kindOf f = some .globalImplicit)
    (hst : (starEach (e :: es) env).any (·.1) = false := by rfl)
    (he : starEach (e :: es) env = (false, eval e env) :: starEach es env := by rfl) (hd : (f == ("__debug__" : Str)) = false := by decide) : Ev C n (.Call (.Name f p) (e :: es) [] pos) env σ τ y τ₁ := fun A R M s S => by
  show wpAny _ _ (do callWith pos (← eval (.Name f p) env) [] (backTo pos (starEach (e :: es) env)) []) _ _ _
  refine wpAny_bind (wp_built S g k hd ?_)
  refine callWith_type (by rw [backTo_any]; exact hst) (evalArgs_ev h he R S fun vs s' S' r' k' => ?_)
  exact wpAny_mono (sp A R M s' vs τ₁ S'.toGs r') (fun v s₂ zz => and2 zz fun r k₂ => ⟨S'.keeps k₂, r, k'.trans (.of k₂)⟩) fun _ _ x => x

theorem bag_inst {g : Addr} {h : Heap} {a : Addr} {v : Value} (b : IsBag g h a v) : ∃ da hs t n', InstAt h a ⟨.ref g, some da, .plain, #[]⟩ g (some (dictOf [⟨hs, .str opsName t, v⟩] n')) := by
  obtain ⟨da, hs, t, n', e, d⟩ := b
  exact ⟨da, hs, t, n', e, rfl, rfl, d⟩

structure MethAt (C : Cx) (name : Str) (f : Addr) : Prop where
  pg : plainGet C.K C.bag name = true
  hf : findIn C.K (.ref C.bag) name = some (some (.ref f))
  ht : isFn C.K (.ref f) = true
  nm : (opsName == name) = false
  fn : IsFun C f

theorem methodCall_self {o : PySem.Expr} {name : Str} {apos pos : Pos} {ov : Value} {nn : Nat} {args : List (Bool × Sem Value)} {A : Around} {M : Model} {E : Value → Shared → Prop} {s : Shared} {Q : Value → Shared → Prop} {f : Value} {first : List Value}
    (hfew : methodCallForm nn args [] = true) (hline : (apos.endLine == pos.line) = true) 
    (h : ∀ pl, wpAny M A (getMethod ov name pl) (fun p s₁ => wpAny M A (callWith pos p.1 p.2 args []) Q E s₁) E s) :
    wpAny M A (methodCall o name apos pos env ov nn args []) Q E s := by
  unfold methodCall
  rw [hfew]
  refine wpAny_bind (wpAny_holding ?_)
  show wpAny _ _ (getMethod ov name _) _ _ _
  refine wpAny_mono (h _) (fun p s₁ h₁ => ?_) fun _ _ x => x
  show wpAny _ _ (methodCallPos true o env apos pos >>= _) _ _ _
  have : methodCallPos true o env apos pos = pure pos := by
    unfold methodCallPos; rw [hline]; rfl
  rw [this]
  exact wpAny_bind (wpAny_pure h₁)

theorem Ev_methodE {τ₀ : Option Nat} {o : PySem.Expr} {name : Str} {apos pos : Pos} {e : PySem.Expr} {es : List PySem.Expr} {ops : V} {f : Addr} {ys : List V} {y : V} (m : MethAt C name f) (sp : FnSpec C n (.ref f) (.self ops :: ys) τ₁ y τ₂)
    (ho : Ev C n o env σ τ (.self ops) τ₀) (h : EvL C n (e :: es) env σ τ₀ ys τ₁)
    (hb : attributeBase o name env (eval o env) = eval o env := by rfl)
    (hfew : methodCallForm ((e :: es).length + ([] : List Keyword).length) (backTo pos (starEach (e :: es) env)) [] = true := by rfl) (hline : (apos.endLine == pos.line) = true := by rfl)
    (he : starEach (e :: es) env = (false, eval e env) :: starEach es env := by rfl) :
    Ev C n (.Call (.Attribute o name apos) (e :: es) [] pos) env σ τ y τ₂ := fun A R M s₀ S₀ => by
  rw [arm_eval_Call, hb]
  refine wpAny_bind (wpAny_mono (ho A R M s₀ S₀) (fun v s zz => and3 zz fun S rv k₀ => wpAny_bind (wpAny_standAt ?_)) fun _ _ x => x)
  have rv' : Rp C (hid s.heap M) v (.self ops) := rv
  cases rv' with
  | @self a w x hbag hops =>
  obtain ⟨da, hs, t, n', I⟩ := bag_inst (hbag.up (hid_sub _ _))
  refine methodCall_self (f := .ref f) (first := [.ref a]) hfew hline fun pl => ?_
  have X := (C.kin _ S.base)
  refine method_fn (K := C.K) (fun b o e => hid_sub _ _ _ _ (X b o e)) I (plainGet_of m.pg).1 (plainGet_of m.pg).2 m.hf (beq_iff_eq.mp m.ht) ?_ ?_
  · show (lookIn name (dictOf _ n')).map _ = _
    rw [lookIn_dict]
    unfold getL
    have : (Value.str opsName t).isStr name = false := m.nm
    simp [this, DictEntry.refKey]
  · obtain ⟨o₀, fd₀, ho₀, hd₀⟩ := m.fn _ S.base
    refine callWith_function (o := o₀) (fd := fd₀) (evalArgs_ev h he R S fun vs s' S' r' k' => ⟨⟨?_, hd₀⟩, ?_⟩)
    · obtain ⟨h', tk, rfl, kk⟩ := k'
      exact kk _ _ (fun q => hid_not ho₀ (S.mT _ q)) (hid_sub _ _ _ _ ho₀)
    · have rs : Rep C s'.heap M (.ref a) (.self ops) := Rep.kept (s := s) (x := .self ops) (.self hbag hops) k' S.mT
      exact wpAny_mono (sp A R M s' (.ref a :: vs) S'.toGs ⟨rs, r'⟩) (fun v s₂ zz => and3 zz fun G r k₂ => ⟨S'.kept k₂ G, r, (k₀.trans k').trans k₂⟩) fun _ _ x => x
theorem Ev_method {x p name apos pos e es} {ops : V} {f : Addr} {ys : List V} {y : V} (m : MethAt C name f) (sp : FnSpec C n (.ref f) (.self ops :: ys) τ₁ y τ₂) (h : EvL C n (e :: es) env σ τ ys τ₁)
    (hx : σ.lookup x = some (.self ops)) (i : isVar env x = true)
    (hb : attributeBase (.Name x p) name env (eval (.Name x p) env) = eval (.Name x p) env := by rfl)
    (hfew : methodCallForm ((e :: es).length + ([] : List Keyword).length) (backTo pos (starEach (e :: es) env)) [] = true := by rfl) (hline : (apos.endLine == pos.line) = true := by rfl)
    (he : starEach (e :: es) env = (false, eval e env) :: starEach es env := by rfl) (hd : (x == ("__debug__" : Str)) = false := by decide) (hc : (x == ("__classdict__" : Str)) = false := by decide) :
    Ev C n (.Call (.Attribute (.Name x p) name apos) (e :: es) [] pos) env σ τ y τ₂ := Ev_methodE m sp (Ev_name hx i hd hc) h hb hfew hline he

structure OpsAt (C : Cx) : Prop where
  pg : plainGet C.K C.bag opsName = true
  hh : hasDictIn C.K C.bag = true
  ha : ∃ attr, findIn C.K (.ref C.bag) opsName = some attr ∧ noGet C.K attr = true

end
end Mine
namespace Mine

theorem rp_pure {C : Cx} {h : Heap} {v : Value} {x : V} (r : Rp C h v x) : x.pure = true := by cases r <;> rfl
theorem rep_of {C : Cx} {h : Heap} {M : List Addr} {v : Value} {x : V} (r : Rp C (hid h M) v x) : Rep C h M v x := (rep_pure (rp_pure r)).mpr r

mutual
noncomputable def V.py : V → PyData
  | .none => .none | .bool b => .bool b | .int i => .int i | .str x => .str x
  | .tup xs => .tuple (pyL xs) | .lst xs => .list (pyL xs)
  | .oL xs => .list (pyL xs)
  | .dct _ | .self _ | .tray | .any | .oD _ => .none
noncomputable def pyL : List V → List PyData
  | [] => []
  | x :: r => x.py :: pyL r
end
mutual
noncomputable def V.plain : V → Bool
  | .none | .bool _ | .int _ | .str _ => true
  | .tup xs | .lst xs => plainL xs
  | .dct _ | .self _ | .tray | .any | .oL _ | .oD _ => false
noncomputable def plainL : List V → Bool
  | [] => true
  | x :: r => x.plain && plainL r
end
mutual
theorem rp_readsV {C : Cx} {h : Heap} : ∀ (x : V), x.plain = true → ∀ {v : Value}, Rp C h v x → ∃ as, Reads h v x.py as
  | .none => fun _ => by intro v r; cases r; exact ⟨_, .none⟩
  | .bool b => fun _ => by intro v r; cases r; exact ⟨_, .bool b⟩
  | .int i => fun _ => by intro v r; cases r; exact ⟨_, .int i _⟩
  | .str x => fun _ => by intro v r; cases r; exact ⟨_, .str x _⟩
  | .tup xs => fun p => by
    intro v r
    obtain ⟨_, _, rfl, ⟨o, n, e, c, d, _⟩, r⟩ := rp_tup r
    obtain ⟨as, q⟩ := rpl_readsV xs p r
    exact ⟨as, .tuple e c d (by simpa using q)⟩
  | .lst xs => fun p => by
    intro v r
    cases r with | lst l r =>
    obtain ⟨n, e⟩ := l
    obtain ⟨as, q⟩ := rpl_readsV xs p r
    exact ⟨_, .list e rfl rfl (by simpa using q)⟩
  | .dct _ => fun hx => by cases hx
  | .self _ => fun hx => by cases hx
  | .tray => fun hx => by cases hx
  | .any => fun hx => by cases hx
  | .oL _ => fun hx => by cases hx
  | .oD _ => fun hx => by cases hx
theorem rpl_readsV {C : Cx} {h : Heap} : ∀ (xs : List V), plainL xs = true → ∀ {vs : List Value}, RpL C h vs xs → ∃ as, ReadsAll h vs (pyL xs) as
  | [] => fun _ => by intro vs r; cases r; exact ⟨_, .nil⟩
  | x :: xs => fun p => by
    intro vs r
    obtain ⟨_, _, rfl, a, b⟩ := rpl_cons r
    have p' := Bool.and_eq_true_iff.mp (show (_ && _) = true from p)
    obtain ⟨as, q⟩ := rp_readsV x p'.1 a
    obtain ⟨bs, r⟩ := rpl_readsV xs p'.2 b
    exact ⟨_, .cons q r⟩
end
theorem Rp.reads {C : Cx} {h : Heap} {v x} (r : Rp C h v x) (p : x.plain = true) : ∃ as, Reads h v x.py as := rp_readsV x p r
theorem RpL.reads {C : Cx} {h : Heap} {vs xs} (r : RpL C h vs xs) (p : plainL xs = true) : ∃ as, ReadsAll h vs (pyL xs) as := rpl_readsV xs p r

noncomputable def V.fine (x : V) : Bool := x.plain && x.py.canLay0
theorem V.fine_plain {x : V} (h : x.fine = true) : x.plain = true := (Bool.and_eq_true_iff.mp h).1
theorem V.fine_lay {x : V} (h : x.fine = true) : x.py.canLay0 = true := (Bool.and_eq_true_iff.mp h).2

section
variable {C : Cx} {n : Nat} {env : Env} {σ : List (Str × V)} {τ τ₁ τ₂ τ₃ : Option Nat}

theorem Rep.rp {C : Cx} {h : Heap} {M : List Addr} {v : Value} {x : V} (r : Rep C h M v x) (p : x.pure = true) : Rp C h v x := ((rep_pure p).mp r).up (hid_sub _ _)
theorem plain_pure {x : V} (h : x.plain = true) : x.pure = true := by cases x <;> first | rfl | exact (Bool.false_ne_true h).elim

noncomputable def CmpR (C : Cx) (n : Nat) (op : CmpOp) (x y : V) (b : Bool) : Prop := ∀ A, Room A n → ∀ M s u v, Rep C s.heap M u x → Rep C s.heap M v y → wpAny (model C.prog C.w) A (compareOp op u v) (fun c s' => c = .bool b ∧ Keeps s s') NoE s

theorem Cmp_eq {x y : V} {b : Bool} (hx : x.fine = true) (hy : y.fine = true) (hd : min x.py.depth y.py.depth ≤ 300) (hb : PyData.eqv x.py y.py = b) : CmpR C n .Eq x y b := fun A R M s u v ru rv => by
  obtain ⟨as, ra⟩ := (ru.rp (plain_pure (V.fine_plain hx))).reads (V.fine_plain hx)
  obtain ⟨bs, rb⟩ := (rv.rp (plain_pure (V.fine_plain hy))).reads (V.fine_plain hy)
  exact SeqAt.compareEq_reads ra rb (V.fine_lay hx) (V.fine_lay hy) (by have := R.un; lia) ⟨by rw [hb], kpRfl s⟩
theorem Cmp_ne {x y : V} {b : Bool} (hx : x.fine = true) (hy : y.fine = true) (hd : min x.py.depth y.py.depth ≤ 300) (hb : (!PyData.eqv x.py y.py) = b) : CmpR C n .NotEq x y b := fun A R M s u v ru rv => by
  obtain ⟨as, ra⟩ := (ru.rp (plain_pure (V.fine_plain hx))).reads (V.fine_plain hx)
  obtain ⟨bs, rb⟩ := (rv.rp (plain_pure (V.fine_plain hy))).reads (V.fine_plain hy)
  exact SeqAt.compareNe_reads ra rb (V.fine_lay hx) (V.fine_lay hy) (by have := R.un; lia) ⟨by rw [hb], kpRfl s⟩
theorem Cmp_in_lst {x : V} {ys : List V} {b : Bool} (hx : x.fine = true) (hy : (V.lst ys).fine = true) (hd : x.py.depth ≤ 300) (hb : ((pyL ys).any fun y => PyData.eqv y x.py) = b) : CmpR C n .In x (.lst ys) b := fun A R M s u v ru rv => by
  obtain ⟨as, ra⟩ := (ru.rp (plain_pure (V.fine_plain hx))).reads (V.fine_plain hx)
  obtain ⟨bs, rb⟩ := (rv.rp rfl).reads (V.fine_plain hy)
  exact SeqAt.in_list_reads rb ra (V.fine_lay hy) (V.fine_lay hx) (by have := R.un; lia) ⟨by rw [hb], kpRfl s⟩
theorem Cmp_notIn_oL {x : V} {ys : List V} {b : Bool} (hx : x.fine = true) (hy : (V.lst ys).fine = true) (hd : x.py.depth ≤ 300) (hb : (!(pyL ys).any fun y => PyData.eqv y x.py) = b) : CmpR C n .NotIn x (.oL ys) b := fun A R M s u v ru rv => by
  obtain ⟨as, ra⟩ := (ru.rp (plain_pure (V.fine_plain hx))).reads (V.fine_plain hx)
  obtain ⟨a, vs, rfl, _, _, l, q⟩ := rv
  obtain ⟨bs, rb⟩ := (Rp.lst l (q.up (hid_sub _ _))).reads (V.fine_plain hy)
  exact SeqAt.notIn_list_reads rb ra (V.fine_lay hy) (V.fine_lay hx) (by have := R.un; lia) ⟨by rw [hb], kpRfl s⟩
theorem Cmp_isNot_none {x : V} {b : Bool} (p : x.pure = true) (hb : (match x with | .none => false | _ => true) = b) : CmpR C n .IsNot x .none b := fun A R M s u v ru rv => by
  have rv' : Rp C (hid s.heap M) v .none := rv
  cases rv'
  refine isNot_none ⟨?_, kpRfl s⟩
  have ru' := (rep_pure p).mp ru
  subst hb
  cases ru' <;> rfl
theorem Ev_cmp {l op r pos} {x y : V} {b : Bool} (hl : Ev C n l env σ τ x τ₁) (hr : Ev C n r env σ τ₁ y τ₂) (hc : CmpR C n op x y b) (hm : behindInMarks op r = false := by with_unfolding_all rfl) :
    Ev C n (.Compare l [op] [r] pos) env σ τ (.bool b) τ₂ := fun A R M s S =>
  wpAny_Compare1 (wpAny_mono (hl A R M s S) (fun u s₁ zz => and3 zz fun S₁ r₁ k₁ => wpAny_mono (hr A R M s₁ S₁) (fun v s₂ zz => and3 zz fun S₂ r₂ k₂ =>
    wpAny_mono (hc A R M s₂ u v (r₁.kept k₂ S.mT) r₂) (fun c s₃ zz => and2 zz fun e k₃ => ⟨S₂.keeps k₃, e ▸ .bool b, (k₁.trans k₂).trans (.of k₃)⟩) fun _ _ x => x) fun _ _ x => x) fun _ _ x => x) hm

theorem Tst_cmp {l op r pos} {x y : V} {b : Bool} (hl : Ev C n l env σ τ x τ₁) (hr : Ev C n r env σ τ₁ y τ₂) (hc : CmpR C n op x y b) (hm : behindInMarks op r = false := by with_unfolding_all rfl) :
    Tst C n (.Compare l [op] [r] pos) env σ τ b τ₂ := fun A R M s S =>
  wpAny_isTrue_Compare1 (wpAny_mono (hl A R M s S) (fun u s₁ zz => and3 zz fun S₁ r₁ k₁ => wpAny_mono (hr A R M s₁ S₁) (fun v s₂ zz => and3 zz fun S₂ r₂ k₂ =>
    wpAny_mono (hc A R M s₂ u v (r₁.kept k₂ S.mT) r₂) (fun c s₃ zz => and2 zz fun e k₃ => e ▸ wpAny_truthy_bool ⟨rfl, S₂.keeps k₃, (k₁.trans k₂).trans (.of k₃)⟩) fun _ _ x => x) fun _ _ x => x) fun _ _ x => x) hm

theorem Tst_val {e : PySem.Expr} {b : Bool} (h : Ev C n e env σ τ (.bool b) τ₁) (he : ∀ whole, isTrue e env whole = (do let v ← whole; standAt e.pos; holding [v] (truthy v)) := by intro _; rfl) : Tst C n e env σ τ b τ₁ := fun A R M s S =>
  wpAny_isTrue_value (wpAny_mono (h A R M s S) (fun v s₁ zz => and3 zz fun S₁ r₁ k₁ => by
    have r₁' : Rp C (hid s₁.heap M) v (.bool b) := r₁
    cases r₁'
    exact wpAny_truthy_bool ⟨rfl, S₁, k₁⟩) fun _ _ x => x) (he _)
theorem Tst_not {x pos} {b : Bool} (h : Tst C n x env σ τ b τ₁) : Tst C n (.UnaryOp .Not x pos) env σ τ (!b) τ₁ := fun A R M s S =>
  wpAny_isTrue_Not (wpAny_mono (h A R M s S) (fun v s₁ zz => and3 zz fun e S₁ k₁ => ⟨by rw [e], S₁, k₁⟩) fun _ _ x => x)
theorem Tst_and2 {x y pos} {a b : Bool} {τ₂ : Option Nat} (hx : Tst C n x env σ τ a τ₁) (hy : a = true → Tst C n y env σ τ₁ b τ₂) (hn : a = false → τ₁ = τ₂) : Tst C n (.BoolOp .And [x, y] pos) env σ τ (a && b) τ₂ := fun A R M s S =>
  wpAny_isTrue_BoolOp (wpAny_allTrue_And_cons (wpAny_mono (hx A R M s S) (fun v s₁ zz => and3 zz fun e S₁ k₁ => by
    subst e
    cases v with
    | false => simp only [Bool.false_eq_true, if_false, Bool.false_and]; exact ⟨trivial, hn rfl ▸ S₁, k₁⟩
    | true =>
      simp only [if_true]
      exact wpAny_allTrue_And_cons (wpAny_mono (hy rfl A R M s₁ S₁) (fun v s₂ zz => and3 zz fun e S₂ k₂ => by
        subst e
        cases v with
        | false => exact ⟨rfl, S₂, k₁.trans k₂⟩
        | true => exact wpAny_allTrue_And_nil ⟨rfl, S₂, k₁.trans k₂⟩) fun _ _ x => x)) fun _ _ x => x))
theorem Tst_or2 {x y pos} {a b : Bool} {τ₂ : Option Nat} (hx : Tst C n x env σ τ a τ₁) (hy : a = false → Tst C n y env σ τ₁ b τ₂) (hn : a = true → τ₁ = τ₂) : Tst C n (.BoolOp .Or [x, y] pos) env σ τ (a || b) τ₂ := fun A R M s S =>
  wpAny_isTrue_BoolOp (wpAny_allTrue_Or_cons (wpAny_mono (hx A R M s S) (fun v s₁ zz => and3 zz fun e S₁ k₁ => by
    subst e
    cases v with
    | true => simp only [if_true, Bool.true_or]; exact ⟨trivial, hn rfl ▸ S₁, k₁⟩
    | false =>
      simp only [Bool.false_eq_true, if_false]
      exact wpAny_allTrue_Or_cons (wpAny_mono (hy rfl A R M s₁ S₁) (fun v s₂ zz => and3 zz fun e S₂ k₂ => by
        subst e
        cases v with
        | true => exact ⟨rfl, S₂, k₁.trans k₂⟩
        | false => exact wpAny_allTrue_Or_nil ⟨rfl, S₂, k₁.trans k₂⟩) fun _ _ x => x)) fun _ _ x => x))
theorem Tst_or3 {x y z pos} {a b c : Bool} (hx : Tst C n x env σ τ a τ) (hy : a = false → Tst C n y env σ τ b τ) (hz : a = false → b = false → Tst C n z env σ τ c τ) : Tst C n (.BoolOp .Or [x, y, z] pos) env σ τ (a || b || c) τ := fun A R M s S =>
  wpAny_isTrue_BoolOp (wpAny_allTrue_Or_cons (wpAny_mono (hx A R M s S) (fun v s₁ zz => and3 zz fun e S₁ k₁ => by
    subst e
    cases v with
    | true => simp only [if_true, Bool.true_or]; exact ⟨trivial, S₁, k₁⟩
    | false =>
      simp only [Bool.false_eq_true, if_false]
      exact wpAny_allTrue_Or_cons (wpAny_mono (hy rfl A R M s₁ S₁) (fun v s₂ zz => and3 zz fun e S₂ k₂ => by
        subst e
        cases v with
        | true => exact ⟨rfl, S₂, k₁.trans k₂⟩
        | false => exact wpAny_allTrue_Or_cons (wpAny_mono (hz rfl rfl A R M s₂ S₂) (fun v s₃ zz => and3 zz fun e S₃ k₃ => by
            subst e
            cases v with
            | true => exact ⟨rfl, S₃, (k₁.trans k₂).trans k₃⟩
            | false => exact wpAny_allTrue_Or_nil ⟨rfl, S₃, (k₁.trans k₂).trans k₃⟩) fun _ _ x => x)) fun _ _ x => x)) fun _ _ x => x))

theorem Ev_and2 {x y pos} {a b : Bool} (hx : Ev C n x env σ τ (.bool a) τ₁) (hy : a = true → Ev C n y env σ τ₁ (.bool b) τ₂) (hn : a = false → τ₁ = τ₂) : Ev C n (.BoolOp .And [x, y] pos) env σ τ (.bool (a && b)) τ₂ := fun A R M s S =>
  wpAny_And2 (wpAny_mono (hx A R M s S) (fun v s₁ zz => and3 zz fun S₁ r₁ k₁ => by
    have r₁' : Rp C (hid s₁.heap M) v (.bool a) := r₁
    cases r₁'
    refine wpAny_truthy_bool ?_
    cases a with
    | false => simp only [Bool.false_eq_true, if_false, Bool.false_and]; exact ⟨hn rfl ▸ S₁, .bool _, k₁⟩
    | true =>
      simp only [if_true, Bool.true_and]
      exact wpAny_mono (hy rfl A R M s₁ S₁) (fun v s₂ zz => and3 zz fun S₂ r₂ k₂ => ⟨S₂, r₂, k₁.trans k₂⟩) fun _ _ x => x) fun _ _ x => x)

theorem Ev_ifexp {t a b pos} {c : Bool} {y : V} (ht : Tst C n t env σ τ c τ₁) (ha : c = true → Ev C n a env σ τ₁ y τ₂) (hb : c = false → Ev C n b env σ τ₁ y τ₂) : Ev C n (.IfExp t a b pos) env σ τ y τ₂ := fun A R M s S =>
  wpAny_IfExp (wpAny_mono (ht A R M s S) (fun v s₁ zz => and3 zz fun e S₁ k₁ => by
    subst e
    cases v with
    | true => exact wpAny_mono (ha rfl A R M s₁ S₁) (fun v s₂ zz => and3 zz fun S₂ r₂ k₂ => ⟨S₂, r₂, k₁.trans k₂⟩) fun _ _ x => x
    | false => exact wpAny_mono (hb rfl A R M s₁ S₁) (fun v s₂ zz => and3 zz fun S₂ r₂ k₂ => ⟨S₂, r₂, k₁.trans k₂⟩) fun _ _ x => x) fun _ _ x => x)

noncomputable def V.items : V → Option (List V)
  | .tup xs | .lst xs | .oL xs => some xs
  | .none | .bool _ | .int _ | .str _ | .dct _ | .self _ | .tray | .any | .oD _ => .none

theorem idx_pos {i : Int} {n j : Nat} (h : seqIndex? i n = some j) (h0 : 0 ≤ i) : j = i.toNat := by
  have h1 : ¬ i < 0 := by lia
  simp only [seqIndex?, h1, if_false] at h
  split at h
  · cases h; rfl
  · cases h
theorem idx_neg {i : Int} {n j : Nat} (h : seqIndex? i n = some j) (h0 : ¬ 0 ≤ i) : j = (i + n).toNat ∧ -(n : Int) ≤ i := by
  have h1 : i < 0 := by lia
  simp only [seqIndex?, h1, if_true] at h
  split at h
  · rename_i hc
    cases h
    have := of_decide_eq_true (Bool.and_eq_true_iff.mp hc).1
    exact ⟨rfl, by lia⟩
  · cases h

theorem items_rep {h : Heap} {M : List Addr} {v : Value} {x : V} {xs : List V} (r : Rep C h M v x) (e : x.items = some xs) :
    ∃ a vs, v = .ref a ∧ (h.IsList a vs.toArray ∨ IsTup h a vs) ∧ RpL C (hid h M) vs xs := by
  cases x with
  | tup ys =>
    cases e
    obtain ⟨a, vs, e, l, q⟩ := rp_tup r
    exact ⟨a, vs, e, .inr (l.up (hid_sub _ _)), q⟩
  | lst ys =>
    cases e
    obtain ⟨a, vs, e, l, q⟩ := rp_lst r
    exact ⟨a, vs, e, .inl (l.up (hid_sub _ _)).isList, q⟩
  | oL ys =>
    cases e
    obtain ⟨a, vs, e, _, _, l, q⟩ := r
    exact ⟨a, vs, e, .inl l.isList, q⟩
  | _ => cases e

theorem Ev_item {value slice pos} {x y : V} {xs : List V} {i : Int} {j : Nat} (hv : Ev C n value env σ τ x τ₁) (hs : Ev C n slice env σ τ₁ (.int i) τ₂) (hx : x.items = some xs) (hj : seqIndex? i xs.length = some j) (hy : xs[j]? = some y)
    (hlo : -(2 ^ 63) ≤ i) (hhi : i < 2 ^ 63) (he : ∀ a t, subscripted slice false (.ref a) (.int i t) = operate [.ref a, .int i t] (getItem (.ref a) (.int i t)) := by intro _ _; with_unfolding_all rfl) :
    Ev C n (.Subscript value slice pos) env σ τ y τ₂ := fun A R M s S =>
  Subscript_ (wpAny_mono (hv A R M s S) (fun u s₁ zz => and3 zz fun S₁ r₁ k₁ => wpAny_mono (hs A R M s₁ S₁) (fun v s₂ zz => and3 zz fun S₂ r₂ k₂ => by
    have r₁' := r₁.kept k₂ S.mT
    have r₂' : Rp C (hid s₂.heap M) v (.int i) := r₂
    cases r₂' with
    | int i t =>
    obtain ⟨a, vs, rfl, l, q⟩ := items_rep r₁' hx
    obtain ⟨w, hw, rw⟩ := q.get hy
    have fin : St C M env σ τ₂ s₂ ∧ Rep C s₂.heap M w y ∧ Kept C s s₂ := ⟨S₂, rep_of rw, k₁.trans k₂⟩
    rcases l with l | l
    · refine tail_any l.typeIs slot_list_getitem.lookup ?_ (he a t)
      have hlen := q.length
      by_cases h0 : 0 ≤ i
      · have hj' := idx_pos hj h0
        exact wpAny_getItem_list l h0 hhi (x := w) (by simpa [← hj'] using hw) fin
      · obtain ⟨hj', h1⟩ := idx_neg hj h0
        exact wpAny_getItem_list_neg l (by lia) (by simp only [List.size_toArray, hlen]; assumption) hlo (x := w) (by simpa [hlen, ← hj'] using hw) fin
    · exact tail_any (T := "tuple") l.isTuple.typeIs slot_tuple_getitem.lookup (PyProof.Rows.getItem_tuple l.isTuple hlo hhi (j := j) (by simpa [q.length] using hj) (by simpa using hw) fin) (he a t)) fun _ _ x => x) fun _ _ x => x)

end
end Mine
namespace Mine

section
variable {C : Cx} {n : Nat} {env : Env} {σ : List (Str × V)} {τ τ₁ τ₂ τ₃ : Option Nat}

noncomputable def BinR (C : Cx) (n : Nat) (op : Operator) (x y z : V) : Prop :=
  ∀ A, Room A n → ∀ M s τ u v, Gs C M τ s → Rep C s.heap M u x → Rep C s.heap M v y → wpAny (model C.prog C.w) A (binaryOp op u v) (fun r s' => Rep C s'.heap M r z ∧ Keeps s s') NoE s

theorem Ev_bin {l op r pos} {x y z : V} (hl : Ev C n l env σ τ x τ₁) (hr : Ev C n r env σ τ₁ y τ₂) (hb : BinR C n op x y z) : Ev C n (.BinOp l op r pos) env σ τ z τ₂ := fun A R M s S =>
  wpAny_BinOp (wpAny_mono (hl A R M s S) (fun u s₁ zz => and3 zz fun S₁ r₁ k₁ => wpAny_mono (hr A R M s₁ S₁) (fun v s₂ zz => and3 zz fun S₂ r₂ k₂ =>
    wpAny_mono (hb A R M s₂ τ₂ u v S₂.toGs (r₁.kept k₂ S.mT) r₂) (fun c s₃ zz => and2 zz fun e k₃ => ⟨S₂.keeps k₃, e, (k₁.trans k₂).trans (.of k₃)⟩) fun _ _ x => x) fun _ _ x => x) fun _ _ x => x)

theorem rep_int {h : Heap} {M : List Addr} {v : Value} {i : Int} (r : Rep C h M v (.int i)) : ∃ t, v = .int i t := by
  have r' : Rp C (hid h M) v (.int i) := r
  cases r'; exact ⟨_, rfl⟩
theorem rep_str {h : Heap} {M : List Addr} {v : Value} {i : Str} (r : Rep C h M v (.str i)) : ∃ t, v = .str i t := by
  have r' : Rp C (hid h M) v (.str i) := r
  cases r'; exact ⟨_, rfl⟩
theorem rep_bool {h : Heap} {M : List Addr} {v : Value} {i : Bool} (r : Rep C h M v (.bool i)) : v = .bool i := by
  have r' : Rp C (hid h M) v (.bool i) := r
  cases r'; rfl
theorem rep_none {h : Heap} {M : List Addr} {v : Value} (r : Rep C h M v .none) : v = .none := by
  have r' : Rp C (hid h M) v .none := r
  cases r'; rfl
theorem rep_tup {h : Heap} {M : List Addr} {v : Value} {xs : List V} (r : Rep C h M v (.tup xs)) : ∃ a vs, v = .ref a ∧ IsTup (hid h M) a vs ∧ RpL C (hid h M) vs xs := by
  have r' : Rp C (hid h M) v (.tup xs) := r
  cases r' with | tup a b => exact ⟨_, _, rfl, a, b⟩
theorem rep_lst {h : Heap} {M : List Addr} {v : Value} {xs : List V} (r : Rep C h M v (.lst xs)) : ∃ a, ∃ vs : List Value, v = .ref a ∧ (hid h M).IsList a vs.toArray ∧ RpL C (hid h M) vs xs := by
  have r' : Rp C (hid h M) v (.lst xs) := r
  cases r' with | lst a b => exact ⟨_, _, rfl, a.isList, b⟩
theorem rep_lstE {h : Heap} {M : List Addr} {v : Value} {xs : List V} (r : Rep C h M v (.lst xs)) : ∃ a vs, v = .ref a ∧ IsLst (hid h M) a vs ∧ RpL C (hid h M) vs xs := by
  have r' : Rp C (hid h M) v (.lst xs) := r
  cases r' with | lst a b => exact ⟨_, _, rfl, a, b⟩
theorem IsTup.of_hid {h : Heap} {M : List Addr} {a vs} (x : IsTup (hid h M) a vs) : IsTup h a vs := x.up (hid_sub _ _)
theorem isList_of_hid {h : Heap} {M : List Addr} {a : Addr} {vs : Array Value} (x : (hid h M).IsList a vs) : h.IsList a vs := x.at fun _ e => hid_sub _ _ _ _ e

theorem Bin_add_int {a b : Int} : BinR C n .Add (.int a) (.int b) (.int (a + b)) := fun A R M s τ u v G ru rv => by
  obtain ⟨t, rfl⟩ := rep_int ru; obtain ⟨t', rfl⟩ := rep_int rv
  exact add_int ⟨.int _ _, kpTok s _⟩
theorem Bin_sub_int {a b : Int} : BinR C n .Sub (.int a) (.int b) (.int (a - b)) := fun A R M s τ u v G ru rv => by
  obtain ⟨t, rfl⟩ := rep_int ru; obtain ⟨t', rfl⟩ := rep_int rv
  exact sub_int ⟨.int _ _, kpTok s _⟩
theorem Bin_mul_int {a b : Int} (hm : IntMulOk a b) : BinR C n .Mult (.int a) (.int b) (.int (a * b)) := fun A R M s τ u v G ru rv => by
  obtain ⟨t, rfl⟩ := rep_int ru; obtain ⟨t', rfl⟩ := rep_int rv
  exact mul_int ⟨.int _ _, kpTok s _⟩ hm
theorem Bin_mod_int {a b : Int} (hb : b ≠ 0) : BinR C n .Mod (.int a) (.int b) (.int (a.fmod b)) := fun A R M s τ u v G ru rv => by
  obtain ⟨t, rfl⟩ := rep_int ru; obtain ⟨t', rfl⟩ := rep_int rv
  exact mod_int' hb ⟨.int _ _, kpTok s _⟩
theorem Bin_add_lst {xs ys : List V} (hl : xs.length + ys.length ≤ sizeLine) : BinR C n .Add (.lst xs) (.lst ys) (.lst (xs ++ ys)) := fun A R M s τ u v G ru rv => by
  obtain ⟨a, vs, rfl, la, qa⟩ := rep_lst ru; obtain ⟨b, ws, rfl, lb, qb⟩ := rep_lst rv
  obtain ⟨⟨cls, dd, data, sl⟩, ho, hc, m, hd⟩ := isList_of_hid la
  obtain ⟨⟨cls2, dd2, data2, sl2⟩, ho2, hc2, m2, hd2⟩ := isList_of_hid lb
  simp only at hc hd hc2 hd2
  subst hc hd hc2 hd2
  have e : vs.toArray ++ ws.toArray = (vs ++ ws).toArray := by simp
  refine concat_meets ⟨_, ho, rfl⟩ ⟨_, ho2, rfl⟩ noFill_list_add seq_list_add PySem.F.slot_list_add PySem.F.entry_list_add (PySem.F.args_list_add_2 _ _) (list_addW a b vs.toArray ws.toArray m m2 dd dd2 sl sl2 (by simpa [qa.length, qb.length] using hl)) ⟨ho, ho2, ?_⟩
  rw [e]
  exact ⟨push_lst G (qa.app qb), kpPush s _⟩
theorem Bin_add_tup {xs ys : List V} (hl : xs.length + ys.length ≤ sizeLine) : BinR C n .Add (.tup xs) (.tup ys) (.tup (xs ++ ys)) := fun A R M s τ u v G ru rv => by
  obtain ⟨a, vs, rfl, la, qa⟩ := rep_tup ru; obtain ⟨b, ws, rfl, lb, qb⟩ := rep_tup rv
  obtain ⟨⟨ca, da, dta, sla⟩, m, ea, c1, d1, n1⟩ := la.of_hid
  obtain ⟨⟨cb, db, dtb, slb⟩, m2, eb, c2, d2, n2⟩ := lb.of_hid
  simp only at c1 d1 c2 d2
  subst c1 d1 c2 d2
  have e : vs.toArray ++ ws.toArray = (vs ++ ws).toArray := by simp
  by_cases h1 : vs.toArray.isEmpty = true
  · have h0 : vs = [] := by simpa using h1
    subst h0
    have h2 : xs = [] := by cases qa; rfl
    subst h2
    exact concat_meets ⟨_, ea, rfl⟩ ⟨_, eb, rfl⟩ noFill_tuple_add seq_tuple_add PySem.F.slot_tuple_add PySem.F.entry_tuple_add (PySem.F.args_tuple_add_2 _ _) (tuple_addW0 a b _ ws.toArray m m2 _ _ _ _ h1) ⟨ea, eb, rv, kpRfl s⟩
  · by_cases h2 : ws.toArray.isEmpty = true
    · have h0 : ws = [] := by simpa using h2
      subst h0
      have h3 : ys = [] := by cases qb; rfl
      subst h3
      exact concat_meets ⟨_, ea, rfl⟩ ⟨_, eb, rfl⟩ noFill_tuple_add seq_tuple_add PySem.F.slot_tuple_add PySem.F.entry_tuple_add (PySem.F.args_tuple_add_2 _ _) (tuple_addW1 a b _ _ m m2 _ _ _ _ h1 h2) ⟨ea, eb, by rw [List.append_nil]; exact ru, kpRfl s⟩
    · refine concat_meets ⟨_, ea, rfl⟩ ⟨_, eb, rfl⟩ noFill_tuple_add seq_tuple_add PySem.F.slot_tuple_add PySem.F.entry_tuple_add (PySem.F.args_tuple_add_2 _ _) (tuple_addW2 a b _ _ m m2 _ _ _ _ h1 h2 (by simpa [qa.length, qb.length] using hl)) ⟨ea, eb, ?_⟩
      rw [e]
      exact ⟨push_tup G (qa.app qb), kpPush s _⟩

theorem Cmp_lt_int {a b : Int} {c : Bool} (h : decide (a < b) = c) : CmpR C n .Lt (.int a) (.int b) c := fun A R M s u v ru rv => by
  obtain ⟨t, rfl⟩ := rep_int ru; obtain ⟨t', rfl⟩ := rep_int rv
  exact lt_int ⟨by rw [h], kpRfl s⟩
theorem Cmp_gt_int {a b : Int} {c : Bool} (h : decide (b < a) = c) : CmpR C n .Gt (.int a) (.int b) c := fun A R M s u v ru rv => by
  obtain ⟨t, rfl⟩ := rep_int ru; obtain ⟨t', rfl⟩ := rep_int rv
  exact gt_int ⟨by rw [← h], kpRfl s⟩

theorem Bu_len {x : V} {xs : List V} (e : x.items = some xs) (hl : xs.length ≤ sizeLine) : BuSpec C n (.builtin "len") [x] (.int xs.length) := fun A R M s vs τ G r => by
  obtain ⟨v, rfl, q₀⟩ := repL_one r
  replace r := q₀
  obtain ⟨a, ws, rfl, l, q⟩ := items_rep r e
  have hfit : (ws.toArray.size : Int) < 2 ^ 63 := by rw [List.size_toArray, q.length]; rw [sizeLine_eq] at hl; lia
  have e2 : (ws.toArray.size : Int) = xs.length := by rw [List.size_toArray, q.length]
  have e3 : Rep C s.heap M (.int (ws.toArray.size : Int) (s.toks + 1)) (.int xs.length) ∧ Keeps s { s with toks := s.toks + 1 + 1 } := ⟨by rw [e2]; exact .int _ _, kpTok s _⟩
  rcases l with l | l
  · exact call_len_list l hfit e3
  · exact PyProof.Rows.len_tuple l.isTuple hfit e3

theorem Ev_tup_from {value pos p i k pi} {xs : List V} {a : Nat} (hv : Ev C n value env σ τ (.tup xs) τ₁) (ha : i = ((a : Nat) : Int)) (h1 : 1 ≤ a) (h2 : a ≤ xs.length) (hl : xs.length ≤ sizeLine) :
    Ev C n (.Subscript value (.Slice (some (.Constant (.int i) k pi)) .none .none p) pos) env σ τ (.tup (xs.drop a)) τ₁ := fun A R M s S => by
  subst ha
  refine Subscript_ (wpAny_mono (hv A R M s S) (fun u s₁ zz => and3 zz fun S₁ r₁ k₁ => ?_) fun _ _ x => x)
  refine wpAny_Slice ?_
  show wpAny _ _ (eval (.Constant (.int (a : Int)) k pi) env) _ _ _
  refine wpAny_Constant_int ?_
  rw [evalPart_none]
  refine wpAny_pure (wpAny_pure ?_)
  obtain ⟨t, vs, rfl, l, q⟩ := rep_tup r₁
  obtain ⟨ob, m, e, hc, hd, _⟩ := l.of_hid
  have up : ∀ o, (s₁.heap.push o).get? t = some ob := fun o => Heap.get?_push_of_some o e
  refine tail_any (T := "tuple") ⟨_, up _, hc⟩ slot_tuple_getitem.lookup (getItem_tuple_from (items := vs.toArray) (a := a) (u := s₁.toks) ⟨_, up _, hc, m, hd⟩ ?_ h1 (by simpa [q.length] using h2) ?_ (by simpa [q.length] using hl)) (by with_unfolding_all rfl)
  · exact Heap.IsSliceOf.new ..
  · have K1 : Keeps s₁ { s₁ with heap := s₁.heap.push { cls := .type "slice", data := .fields #[.int (a : Int) s₁.toks, .none, .none] }, toks := s₁.toks + 1 } := ⟨_, _, rfl, fun _ _ e => Heap.get?_push_of_some _ e⟩
    have G1 := S₁.keeps K1
    have e2 : (vs.toArray.toList.drop a).toArray = (vs.drop a).toArray := by simp
    simp only [e2]
    exact ⟨G1.keeps (kpPush _ _), push_tup G1.toGs ((q.drop a).up (hid_all fun _ _ e => Heap.get?_push_of_some _ e)), (k₁.trans (.of K1)).trans (.of (kpPush _ _))⟩

noncomputable def pick (xs : List V) (lo hi st : Option Int) : List V :=
  (sliceRange (sliceBounds lo hi st xs.length).1 (sliceBounds lo hi st xs.length).2.1 (sliceBounds lo hi st xs.length).2.2).filterMap (xs[·]?)

theorem RpL.pick {h : Heap} : ∀ {is : List Nat} {vs : List Value} {xs : List V}, RpL C h vs xs → RpL C h (is.filterMap (vs[·]?)) (is.filterMap (xs[·]?))
  | [], _, _, _ => .nil
  | i :: is, vs, xs, r => by
    cases e : xs[i]? with
    | none =>
      have e' : vs[i]? = Option.none := by
        rw [List.getElem?_eq_none_iff] at e ⊢
        rw [r.length]; exact e
      simp only [List.filterMap_cons, e, e']
      exact RpL.pick r
    | some x =>
      obtain ⟨v, e', rv⟩ := r.get e
      simp only [List.filterMap_cons, e, e']
      exact .cons rv (RpL.pick r)

noncomputable def EvO (C : Cx) (n : Nat) (e : Option PySem.Expr) (env : Env) (σ : List (Str × V)) (τ : Option Nat) (i : Option Int) : Prop :=
  ∀ A, Room A n → ∀ M s, St C M env σ τ s → wpAny (model C.prog C.w) A (evalPart e env) (fun v s' => St C M env σ τ s' ∧ IsPart v i ∧ Kept C s s') NoE s
theorem EvO_none : EvO C n .none env σ τ .none := fun _ _ _ _ S => by rw [evalPart_none]; exact wpAny_pure ⟨S, .none, .refl ..⟩
theorem EvO_some {e : PySem.Expr} {i : Int} (h : Ev C n e env σ τ (.int i) τ) : EvO C n (some e) env σ τ (some i) := fun A R M s S => by
  show wpAny _ _ (eval e env) _ _ _
  refine wpAny_mono (h A R M s S) (fun v s' zz => and3 zz fun S' r k => ?_) fun _ _ x => x
  obtain ⟨t, rfl⟩ := rep_int r
  exact ⟨S', .int _ _, k⟩

theorem sliceApp {slice : PySem.Expr} (lower upper step : Option PySem.Expr) (p : Pos) (e : slice = .Slice lower upper step p) (o i : Value) : ∃ ops, subscripted slice false o i = operate ops (getItem o i) := by
  subst e
  cases step with
  | none => exact ⟨_, rfl⟩
  | some _ => exact ⟨_, rfl⟩

theorem Ev_slice {value pos p lower upper step} {x : V} {xs : List V} {lo hi st : Option Int} (hv : Ev C n value env σ τ x τ₁) (h1 : EvO C n lower env σ τ₁ lo) (h2 : EvO C n upper env σ τ₁ hi) (h3 : EvO C n step env σ τ₁ st)
    (hx : x = .lst xs ∨ x = .oL xs) (h0 : st ≠ some 0) (hl : xs.length ≤ sizeLine) :
    Ev C n (.Subscript value (.Slice lower upper step p) pos) env σ τ (.lst (pick xs lo hi st)) τ₁ := fun A R M s S => by
  refine Subscript_ (wpAny_mono (hv A R M s S) (fun u s₁ zz => and3 zz fun S₁ r₁ k₁ => ?_) fun _ _ x => x)
  refine wpAny_Slice (wpAny_mono (h1 A R M s₁ S₁) (fun v1 s₂ zz => and3 zz fun S₂ p1 k₂ => wpAny_mono (h2 A R M s₂ S₂) (fun v2 s₃ zz => and3 zz fun S₃ p2 k₃ => wpAny_mono (h3 A R M s₃ S₃) (fun v3 s₄ zz => and3 zz fun S₄ p3 k₄ => ?_) fun _ _ x => x) fun _ _ x => x) fun _ _ x => x)
  have kk := (k₂.trans k₃).trans k₄
  have r' := r₁.kept kk S.mT
  obtain ⟨a, vs, rfl, l, q⟩ : ∃ a, ∃ vs : List Value, u = .ref a ∧ s₄.heap.IsList a vs.toArray ∧ RpL C (hid s₄.heap M) vs xs := by
    rcases hx with rfl | rfl
    · obtain ⟨a, vs, e, l, q⟩ := rep_lst r'; exact ⟨a, vs, e, isList_of_hid l, q⟩
    · obtain ⟨a, vs, e, _, _, l, q⟩ := r'; exact ⟨a, vs, e, l.isList, q⟩
  have G4 := S₄.keeps (kpPush s₄ { cls := .type "slice", data := .fields #[v1, v2, v3] })
  have l' : (s₄.heap.push { cls := .type "slice", data := .fields #[v1, v2, v3] }).IsList a vs.toArray := l.push _
  obtain ⟨ops, hops⟩ := sliceApp lower upper step p rfl (.ref a) (.ref s₄.heap.objs.size)
  refine tail_any (T := "list") (Heap.IsList.typeIs (s := { s₄ with heap := s₄.heap.push { cls := .type "slice", data := .fields #[v1, v2, v3] } }) l') list_getitem_lookup
    (wpAny_getItem_list_slice l' (Heap.IsSliceOf.new ..) p1 p2 p3 h0 ?_ (by simpa [q.length] using hl)) hops
  have e2 : slicePick vs.toArray lo hi st = ((sliceRange (sliceBounds lo hi st xs.length).1 (sliceBounds lo hi st xs.length).2.1 (sliceBounds lo hi st xs.length).2.2).filterMap (vs[·]?)).toArray := by
    unfold slicePick
    simp [q.length]
  rw [e2]
  exact ⟨G4.keeps (kpPush _ _), push_lst G4.toGs ((RpL.pick q).up (hid_all fun _ _ e => Heap.get?_push_of_some _ e)), ((k₁.trans kk).trans (.of (kpPush _ _))).trans (.of (kpPush _ _))⟩

end
end Mine
namespace Mine

noncomputable def upd (ρ : Str → Option Value) (x : Str) (v : Value) : Str → Option Value := fun y => if y = x then some v else ρ y
noncomputable def ownVar (env : Env) (x : Str) : Bool := match env.kindOf x with
  | some .local | some .cell => true
  | _ => false
noncomputable def placeOf (env : Env) (x : Str) : Option Addr := match env.kindOf x with
  | some .local => some env.locals
  | _ => env.cells.lookup x
theorem own_of {env : Env} {x : Str} (i : ownVar env x = true) : env.kindOf x = some .local ∨ env.kindOf x = some .cell := by
  delta ownVar at i
  revert i
  cases env.kindOf x with
  | none => exact fun i => (Bool.false_ne_true i).elim
  | some k => cases k <;> first | exact fun i => (Bool.false_ne_true i).elim | exact fun _ => .inl rfl | exact fun _ => .inr rfl
theorem place_of {env : Env} {x : Str} {p : Addr} (h : placeOf env x = some p) : p = env.locals ∨ env.cells.lookup x = some p := by
  delta placeOf at h
  revert h
  cases env.kindOf x with
  | none => exact .inr
  | some k => cases k <;> first | exact .inr | exact fun h => .inl (Option.some.inj h).symm
theorem place_alive {C : Cx} {env : Env} {h : Heap} {ρ : Str → Option Value} (F : FrameAt C env h ρ) {x : Str} {p : Addr} (hx : ownVar env x = true) (hp : placeOf env x = some p) : ∃ o, h.get? p = some o := by
  rcases own_of hx with q | q
  · delta placeOf at hp
    rw [q] at hp; cases hp
    obtain ⟨m, ⟨o, _, _, e, _⟩, _⟩ := F.ns; exact ⟨o, e⟩
  · delta placeOf at hp
    rw [q] at hp
    obtain ⟨c, e, o, ho, _⟩ := F.cell x (.inl q)
    have : some c = some p := e.symm.trans hp
    cases this; exact ⟨o, ho⟩

theorem cell_ne_ns {h : Heap} {L c : Addr} {m : Str → Option Value} {v : Option Value} (n : h.Ns L m) (k : h.IsCell c v) : c ≠ L := fun q => by
  subst q
  obtain ⟨o, es, ep, ho, hd, _⟩ := n
  obtain ⟨o', ho', hd'⟩ := k
  rw [ho] at ho'; cases ho'
  rw [hd] at hd'; cases hd'

section
variable {C : Cx} {n : Nat} {env : Env} {σ : List (Str × V)} {τ τ₁ τ₂ τ₃ : Option Nat}

theorem frame_store {M : Model} {A : Around} {E : Value → Shared → Prop} {s : Shared} {ρ : Str → Option Value} {x : Str} {v : Value} {Q : Unit → Shared → Prop} (F : FrameAt C env s.heap ρ) (hk : env.scope.kind = .function) (hx : ownVar env x = true)
    (h : ∀ h' tk p, placeOf env x = some p → FrameAt C env h' (upd ρ x v) → Heap.SameBut p s.heap h' → Q () { s with heap := h', toks := tk }) : wpAny M A (storeName env x v) Q E s := by
  obtain ⟨m, hn, hm⟩ := F.ns
  rcases own_of hx with q | q
  · refine wpAny_storeName_local q hn (fun h' n' sb => h h' _ env.locals (by delta placeOf; rw [q]) ⟨⟨_, n', fun y hy => ?_⟩, fun y hy => ?_, F.apart, F.notT⟩ sb) (by rw [hk]; rfl)
    · show (if y = x then some v else m y) = (if y = x then some v else ρ y)
      rw [hm y hy]
    · obtain ⟨c, e, hc⟩ := F.cell y hy
      refine ⟨c, e, ?_⟩
      have hyx : y ≠ x := fun z => by subst z; rcases hy with hy | hy <;> (rw [q] at hy; cases hy)
      have : upd ρ x v y = ρ y := by unfold upd; rw [if_neg hyx]
      rw [this]
      exact hc.sameBut sb (cell_ne_ns hn hc)
  · obtain ⟨c, e, hc⟩ := F.cell x (.inl q)
    refine wpAny_storeName_cell hk q e hc fun h' hc' sb => h h' _ c (by delta placeOf; rw [q]; exact e) ⟨⟨m, hn.sameBut sb (Ne.symm (cell_ne_ns hn hc)), fun y hy => ?_⟩, fun y hy => ?_, F.apart, F.notT⟩ sb
    · have hyx : y ≠ x := fun z => by subst z; rw [q] at hy; cases hy
      show m y = if y = x then some v else ρ y
      rw [if_neg hyx]; exact hm y hy
    · obtain ⟨c', e', hc''⟩ := F.cell y hy
      refine ⟨c', e', ?_⟩
      by_cases hyx : y = x
      · subst hyx
        rw [e] at e'; cases e'
        have : upd ρ y v y = some v := by unfold upd; rw [if_pos rfl]
        rw [this]; exact hc'
      · have : upd ρ x v y = ρ y := by unfold upd; rw [if_neg hyx]
        rw [this]
        exact hc''.sameBut sb fun z => hyx (F.apart y x c' e' (z ▸ e))

structure Fw (C : Cx) (wv : Str → Bool) (s₀ : Shared) (M₀ W : List Addr) (env : Env) (σ : List (Str × V)) (τ : Option Nat) (O : List Addr) (ρ : Str → Option Value) (s : Shared) : Prop where
  gs : Gs C (W ++ (O ++ M₀)) τ s
  glob : env.globals = mainGlobals ∧ env.builtins = builtinsNs ∧ env.scope.kind = .function
  frame : FrameAt C env s.heap ρ
  vars : ∀ x y, σ.lookup x = some y → isVar env x = true → ∃ v, ρ x = some v ∧ Rep C s.heap (W ++ (O ++ M₀)) v y
  own : ∀ x y, σ.lookup x = some y → isVar env x = true → y.own = true → ∃ a, ρ x = some (.ref a) ∧ a ∈ O ∧ a ∉ W
  apart : ∀ x x' y y' a, σ.lookup x = some y → σ.lookup x' = some y' → isVar env x = true → isVar env x' = true → y.own = true → y'.own = true → ρ x = some (.ref a) → ρ x' = some (.ref a) → x = x'
  wr : ∀ x p, wv x = true → placeOf env x = some p → p ∈ W
  kept : Kept C s₀ s
  fresh : ∀ a, (a ∈ W ∨ a ∈ O) → s₀.heap.get? a = Option.none
  fa : ∀ a, (a = env.locals ∨ ∃ x, env.cells.lookup x = some a) → a ∈ W ∨ ∃ o, s₀.heap.get? a = some o
  aM : ∀ a ∈ M₀, ∃ o, s₀.heap.get? a = some o
  mT : ∀ a, C.T = some a → a ∈ M₀

noncomputable abbrev Fs (C : Cx) (s₀ : Shared) (M₀ W : List Addr) (env : Env) (σ : List (Str × V)) (τ : Option Nat) (O : List Addr) (ρ : Str → Option Value) (s : Shared) : Prop := Fw C (ownVar env) s₀ M₀ W env σ τ O ρ s

variable {wv : Str → Bool}
theorem Fw.st {s₀ : Shared} {M₀ W O : List Addr} {ρ : Str → Option Value} {s : Shared} (F : Fw C wv s₀ M₀ W env σ τ O ρ s) : St C (W ++ (O ++ M₀)) env σ τ s := ⟨F.gs, F.glob, ρ, F.frame, F.vars⟩
theorem Fw.then {s₀ : Shared} {M₀ W O : List Addr} {ρ : Str → Option Value} {s s' : Shared} (F : Fw C wv s₀ M₀ W env σ τ O ρ s) (k : Kept C s s') (g : Gs C (W ++ (O ++ M₀)) τ₁ s') : Fw C wv s₀ M₀ W env σ τ₁ O ρ s' where
  gs := g
  glob := F.glob
  frame := by obtain ⟨h', tk, rfl, k⟩ := k; exact F.frame.all k
  vars := fun x y e i => let ⟨v, a, r⟩ := F.vars x y e i; ⟨v, a, r.kept k F.gs.mT⟩
  own := F.own
  apart := F.apart
  wr := F.wr
  kept := F.kept.trans k
  fresh := F.fresh
  fa := F.fa
  aM := F.aM
  mT := F.mT

inductive Out where
  | next (σ : List (Str × V)) (τ : Option Nat)
  | ret (y : V) (τ : Option Nat)

noncomputable def OutAt (C : Cx) (s₀ : Shared) (M₀ W : List Addr) (env : Env) : Out → Flow → Shared → Prop
  | .next σ τ, .next, s => ∃ O ρ, Fs C s₀ M₀ W env σ τ O ρ s
  | .ret y τ, .ret v, s => Gs C M₀ τ s ∧ Rep C s.heap M₀ v y ∧ Kept C s₀ s ∧ V.own y = false
  | _, _, _ => False

noncomputable def Ex (C : Cx) (n : Nat) (ss : List Stmt) (env : Env) (σ : List (Str × V)) (τ : Option Nat) (P : Out → Prop) : Prop :=
  ∀ A, Room A n → ∀ s₀ M₀ W O ρ s, Fs C s₀ M₀ W env σ τ O ρ s → wpAny (model C.prog C.w) A (execs ss env) (fun f s' => ∃ o, P o ∧ OutAt C s₀ M₀ W env o f s') NoE s
noncomputable def Ex1 (C : Cx) (n : Nat) (st : Stmt) (env : Env) (σ : List (Str × V)) (τ : Option Nat) (P : Out → Prop) : Prop :=
  ∀ A, Room A n → ∀ s₀ M₀ W O ρ s, Fs C s₀ M₀ W env σ τ O ρ s → wpAny (model C.prog C.w) A (exec st env) (fun f s' => ∃ o, P o ∧ OutAt C s₀ M₀ W env o f s') NoE s

theorem Ex_nil {P : Out → Prop} (h : P (.next σ τ)) : Ex C n [] env σ τ P := fun A R s₀ M₀ W O ρ s F => wpAny_execs_nil ⟨_, h, O, ρ, F⟩
theorem Ex_cons {st : Stmt} {rest : List Stmt} {P : Out → Prop} (h : Ex1 C n st env σ τ fun o => match o with | .next σ' τ' => Ex C n rest env σ' τ' P | o => P o) : Ex C n (st :: rest) env σ τ P := fun A R s₀ M₀ W O ρ s F =>
  wpAny_execs_cons (wpAny_mono (h A R s₀ M₀ W O ρ s F) (fun f s' zz => ex2 zz fun o p q => by
    cases o with
    | next σ' τ' =>
      cases f <;> first | exact q.elim | skip
      obtain ⟨O', ρ', F'⟩ := q
      exact p A R s₀ M₀ W O' ρ' s' F'
    | ret y τ' =>
      cases f <;> first | exact q.elim | exact ⟨_, p, q⟩) fun _ _ x => x)
theorem Ex1.weaken {st : Stmt} {P P' : Out → Prop} (h : Ex1 C n st env σ τ P) (w : ∀ o, P o → P' o) : Ex1 C n st env σ τ P' := fun A R s₀ M₀ W O ρ s F =>
  wpAny_mono (h A R s₀ M₀ W O ρ s F) (fun f s' zz => ex2 zz fun o p q => ⟨o, w o p, q⟩) fun _ _ x => x
theorem Ex.weaken {ss : List Stmt} {P P' : Out → Prop} (h : Ex C n ss env σ τ P) (w : ∀ o, P o → P' o) : Ex C n ss env σ τ P' := fun A R s₀ M₀ W O ρ s F =>
  wpAny_mono (h A R s₀ M₀ W O ρ s F) (fun f s' zz => ex2 zz fun o p q => ⟨o, w o p, q⟩) fun _ _ x => x

theorem lookup_cons_eq {x : Str} {y : V} {σ : List (Str × V)} : ((x, y) :: σ).lookup x = some y := by simp
theorem lookup_cons_ne {x z : Str} {y : V} {σ : List (Str × V)} (h : z ≠ x) : ((x, y) :: σ).lookup z = σ.lookup z := by
  rw [List.lookup_cons, beq_eq_false_iff_ne.mpr h]

theorem notOwn {y : V} {α : Prop} (h : y.own = false) : y.own = true → α := fun o => by rw [h] at o; cases o

theorem Fw.set {s₀ : Shared} {M₀ W O : List Addr} {ρ : Str → Option Value} {s : Shared} {M : Model} {A : Around} {E : Value → Shared → Prop} {x : Str} {v : Value} {y : V} {Q : Unit → Shared → Prop} (F : Fw C wv s₀ M₀ W env σ τ O ρ s) (r : Rep C s.heap (W ++ (O ++ M₀)) v y)
    (p : y.own = true → ∃ a, v = .ref a ∧ a ∈ O ∧ a ∉ W ∧ ∀ z w, σ.lookup z = some w → isVar env z = true → w.own = true → ρ z ≠ some (.ref a)) (hx : ownVar env x = true) (hw : wv x = true)
    (h : ∀ s', Fw C wv s₀ M₀ W env ((x, y) :: σ) τ O (upd ρ x v) s' → (∀ b o, b ∉ W → s.heap.get? b = some o → s'.heap.get? b = some o) → Q () s') : wpAny M A (storeName env x v) Q E s := by
  refine frame_store F.frame F.glob.2.2 hx fun h' tk pl hpl F' sb => ?_
  have hW : pl ∈ W := F.wr x pl hw hpl
  have hnone : s₀.heap.get? pl = Option.none := F.fresh pl (.inl hW)
  have kM : ∀ b o, b ∉ W ++ (O ++ M₀) → s.heap.get? b = some o → h'.get? b = some o := fun b o nb e => (sb.2 b fun q => nb (q ▸ List.mem_append_left _ hW)).trans e
  have kO : ∀ b o, b ∉ W → s.heap.get? b = some o → h'.get? b = some o := fun b o nb e => (sb.2 b fun q => nb (q ▸ hW)).trans e
  have up := hid_mono (M := W ++ (O ++ M₀)) kM
  have hT : ∀ a, C.T = some a → a ≠ pl := fun a q z => by
    subst z
    obtain ⟨h1, h2⟩ := F.frame.notT a q
    rcases place_of hpl with e | e
    · exact h1 e.symm
    · exact h2 x e
  have repUp : ∀ v y, (y.own = true → ∃ a, v = .ref a ∧ a ∉ W) → Rep C s.heap (W ++ (O ++ M₀)) v y → Rep C h' (W ++ (O ++ M₀)) v y := fun v y ho r => by
    exact r.move up fun o a e m t => by obtain ⟨_, e2, na⟩ := ho o; rw [e] at e2; cases e2; exact ⟨m, fun o e => kO _ o na e⟩
  have gs' : Gs C (W ++ (O ++ M₀)) τ { s with heap := h', toks := tk } := {
    base := C.mono _ _ F.gs.base up
    low := fun a m => by
      obtain ⟨o, e⟩ := F.gs.low a m
      by_cases q : a = pl
      · exact q ▸ place_alive F' hx hpl
      · exact ⟨o, (sb.2 a q).trans e⟩
    mT := F.gs.mT
    tray := by
      have t := F.gs.tray
      cases τ with
      | none => trivial
      | some k => obtain ⟨a, t1, t2, tk', n', b, x1, x2, x3⟩ := t; exact ⟨a, t1, t2, tk', n', b, x1, (sb.2 a (hT a x1)).trans x2, x3.up up⟩ }
  refine h _ { gs := gs', glob := F.glob, frame := F', vars := fun z w e i => ?_, own := fun z w e i o => ?_, apart := fun z z' w w' a e e' i i' o o' q q' => ?_, wr := F.wr, kept := ?_, fresh := F.fresh, fa := F.fa, aM := F.aM, mT := F.mT } kO
  · by_cases hz : z = x
    · subst hz
      rw [lookup_cons_eq] at e; cases e
      exact ⟨v, by unfold upd; rw [if_pos rfl], repUp v y (fun o => let ⟨a, e, _, nW, _⟩ := p o; ⟨a, e, nW⟩) r⟩
    · rw [lookup_cons_ne hz] at e
      obtain ⟨u, e1, r1⟩ := F.vars z w e i
      exact ⟨u, by unfold upd; rw [if_neg hz]; exact e1, repUp u w (fun o => by
        obtain ⟨a, e2, _, na⟩ := F.own z w e i o
        rw [e1] at e2; cases e2; exact ⟨a, rfl, na⟩) r1⟩
  · by_cases hz : z = x
    · subst hz
      rw [lookup_cons_eq] at e; cases e
      obtain ⟨a, e1, aO, aW, _⟩ := p o
      exact ⟨a, by unfold upd; rw [if_pos rfl, e1], aO, aW⟩
    · rw [lookup_cons_ne hz] at e
      obtain ⟨a, e1, r⟩ := F.own z w e i o
      exact ⟨a, by unfold upd; rw [if_neg hz]; exact e1, r⟩
  · unfold upd at q q'
    by_cases hz : z = x
    · by_cases hz' : z' = x
      · rw [hz, hz']
      · subst hz
        rw [lookup_cons_eq] at e; cases e
        rw [lookup_cons_ne hz'] at e'
        rw [if_pos rfl] at q; rw [if_neg hz'] at q'
        obtain ⟨a', e1, _, _, f⟩ := p o
        cases q; cases e1
        exact absurd q' (f z' w' e' i' o')
    · by_cases hz' : z' = x
      · subst hz'
        rw [lookup_cons_eq] at e'; cases e'
        rw [lookup_cons_ne hz] at e
        rw [if_pos rfl] at q'; rw [if_neg hz] at q
        obtain ⟨a', e1, _, _, f⟩ := p o'
        cases q'; cases e1
        exact absurd q (f z w e i o)
      · rw [lookup_cons_ne hz] at e; rw [lookup_cons_ne hz'] at e'
        rw [if_neg hz] at q; rw [if_neg hz'] at q'
        exact F.apart z z' w w' a e e' i i' o o' q q'
  · obtain ⟨h1, t1, rfl, k1⟩ := F.kept
    refine ⟨h', tk, rfl, fun b o t e => (sb.2 b fun q => ?_).trans (k1 b o t e)⟩
    subst q; rw [hnone] at e; cases e

theorem Ex1_assign {x p e pos} {y : V} {P : Out → Prop} (he : Ev C n e env σ τ y τ₁) (hp : y.own = false) (hx : ownVar env x = true) (h : P (.next ((x, y) :: σ) τ₁))
    (hs : swapsWith e (some (.Name x p)) pos.line env = pure false := by rfl) : Ex1 C n (.Assign [.Name x p] e pos) env σ τ P := fun A R s₀ M₀ W O ρ s F =>
  wpAny_Assign_Name (wpAny_mono (he A R _ s F.st) (fun v s₁ zz => and3 zz fun S₁ r₁ k₁ => (F.then k₁ S₁.toGs).set r₁ (notOwn hp) hx hx fun s' F' _ => ⟨_, h, O, _, F'⟩) fun _ _ x => x) hs

theorem Ex1_return {e pos} {y : V} {P : Out → Prop} (he : Ev C n e env σ τ y τ₁) (hp : y.own = false) (h : P (.ret y τ₁)) : Ex1 C n (.Return (some e) pos) env σ τ P := fun A R s₀ M₀ W O ρ s F =>
  wpAny_Return_some (wpAny_mono (he A R _ s F.st) (fun v s₁ zz => and3 zz fun S₁ r₁ k₁ => by
    have less : ∀ b ∈ M₀, b ∈ W ++ (O ++ M₀) := fun b hb => List.mem_append_right _ (List.mem_append_right _ hb)
    have up := hid_less (h := s₁.heap) less
    refine ⟨_, h, ⟨C.mono _ _ S₁.base up, fun a m => S₁.low a (less a m), F.mT, ?_⟩, ?_, F.kept.trans k₁, hp⟩
    · have t := S₁.tray
      cases τ₁ with
      | none => trivial
      | some k => obtain ⟨a, t1, t2, tk', n', b, x1, x2, x3⟩ := t; exact ⟨a, t1, t2, tk', n', b, x1, x2, x3.up up⟩
    · exact r₁.move up fun o => by rw [hp] at o; cases o) fun _ _ x => x)

theorem Ex1_if {t a b pos} {c : Bool} {P : Out → Prop} (ht : Tst C n t env σ τ c τ₁) (ha : c = true → Ex C n a env σ τ₁ P) (hb : c = false → Ex C n b env σ τ₁ P) : Ex1 C n (.If t a b pos) env σ τ P := fun A R s₀ M₀ W O ρ s F =>
  wpAny_If (wpAny_mono (ht A R _ s F.st) (fun v s₁ zz => and3 zz fun e S₁ k₁ => by
    subst e
    have F' := F.then k₁ S₁.toGs
    cases v with
    | true => exact ha rfl A R s₀ M₀ W O ρ s₁ F'
    | false => exact hb rfl A R s₀ M₀ W O ρ s₁ F') fun _ _ x => x)

end
end Mine
namespace Mine

theorem cellsFrom_has : ∀ (names : List (Str × NameKind)) (n : Nat) (acc : List (Str × Addr)) (x : Str), ((x, NameKind.cell) ∈ names ∨ ∃ c, acc.lookup x = some c) → ∃ c, (cellsFrom n names acc).lookup x = some c
  | [], _, _, _, h => by
    rcases h with h | h
    · cases h
    · exact h
  | (y, k) :: r, n, acc, x, h => by
    unfold cellsFrom
    split
    · rename_i hk
      refine cellsFrom_has r _ _ x ?_
      by_cases hxy : x = y
      · subst hxy; exact .inr ⟨n, by simp⟩
      · rcases h with h | ⟨c, h⟩
        · rcases List.mem_cons.mp h with e | h
          · cases e; exact absurd rfl hxy
          · exact .inl h
        · exact .inr ⟨c, by rw [List.lookup_cons, beq_eq_false_iff_ne.mpr hxy]; exact h⟩
    · rename_i hk
      refine cellsFrom_has r _ _ x ?_
      rcases h with h | h
      · rcases List.mem_cons.mp h with e | h
        · cases e; simp at hk
        · exact .inl h
      · exact .inr h

theorem kind_mem {names : List (Str × NameKind)} {x : Str} {k : NameKind} (h : names.lookup x = some k) : (x, k) ∈ names := mem_of_lookup h

section
variable {C : Cx} {n : Nat} {env : Env} {σ : List (Str × V)} {τ τ₁ τ₂ τ₃ : Option Nat}

theorem store_binds {M : Model} {A : Around} {E : Value → Shared → Prop} {W : List Addr} (f : Str × Value → PUnit → Sem (ForInStep PUnit)) (hf : ∀ x u, f x u = (do storeName env x.1 x.2; pure (.yield ⟨⟩))) (hk : env.scope.kind = .function)
    (wr : ∀ x p, ownVar env x = true → placeOf env x = some p → p ∈ W) : ∀ (binds : List (Str × Value)) (s : Shared) (ρ : Str → Option Value) (Q : PUnit → Shared → Prop), FrameAt C env s.heap ρ → (∀ b ∈ binds, ownVar env b.1 = true) →
      (∀ h' tk, FrameAt C env h' (binds.foldl (fun r b => upd r b.1 b.2) ρ) → (∀ b o, b ∉ W → s.heap.get? b = some o → h'.get? b = some o) → (∀ b o, s.heap.get? b = some o → ∃ o', h'.get? b = some o') → Q ⟨⟩ { s with heap := h', toks := tk }) →
      wpAny M A (forIn binds ⟨⟩ f) Q E s
  | [], s, ρ, Q, F, _, h => by rw [List.forIn_nil]; exact wpAny_pure (h s.heap s.toks F (fun _ _ _ e => e) fun b o e => ⟨o, e⟩)
  | b :: r, s, ρ, Q, F, ho, h => by
    rw [List.forIn_cons, hf]
    refine wpAny_bind (wpAny_bind (frame_store F hk (ho b List.mem_cons_self) fun h' tk p hp F' sb => wpAny_pure ?_))
    refine store_binds f hf hk wr r _ _ Q F' (fun c hc => ho c (List.mem_cons_of_mem _ hc)) fun h'' tk' F'' k z => h h'' tk' F'' (fun c o nc e => k c o nc ((sb.2 c fun q => nc (q ▸ wr _ _ (ho b List.mem_cons_self) hp)).trans e)) fun c o e => ?_
    by_cases q : c = p
    · subst q
      obtain ⟨o1, e1⟩ := place_alive F' (ho b List.mem_cons_self) hp
      exact z c o1 e1
    · exact z c o ((sb.2 c q).trans e)

theorem fold_upd_other {x : Str} : ∀ {ps : List Str} {vs : List Value} {ρ : Str → Option Value}, x ∉ ps → (ps.zip vs).foldl (fun r b => upd r b.1 b.2) ρ x = ρ x
  | [], _, _, _ => rfl
  | _ :: _, [], _, _ => rfl
  | p :: ps, v :: vs, ρ, h => by
    rw [List.zip_cons_cons, List.foldl_cons, fold_upd_other (fun q => h (List.mem_cons_of_mem _ q))]
    unfold upd; rw [if_neg fun (q : x = p) => h (q ▸ List.mem_cons_self)]

theorem fold_upd_rep {C : Cx} {h : Heap} {M : List Addr} {x : Str} {y : V} : ∀ {ps : List Str} {vs : List Value} {xs : List V} {ρ : Str → Option Value}, ps.Nodup → RepL C h M vs xs → (ps.zip xs).lookup x = some y →
    ∃ v, (ps.zip vs).foldl (fun r b => upd r b.1 b.2) ρ x = some v ∧ Rep C h M v y
  | [], _, _, _, _, _, e => by simp at e
  | p :: ps, [], [], ρ, _, _, e => by simp at e
  | p :: ps, v :: vs, z :: xs, ρ, nd, ⟨r1, r2⟩, e => by
    rw [List.nodup_cons] at nd
    rw [List.zip_cons_cons, List.foldl_cons]
    rw [List.zip_cons_cons] at e
    by_cases hx : x = p
    · subst hx
      rw [lookup_cons_eq] at e; cases e
      exact ⟨v, by rw [fold_upd_other nd.1]; unfold upd; rw [if_pos rfl], r1⟩
    · rw [lookup_cons_ne hx] at e
      exact fold_upd_rep nd.2 r2 e

noncomputable def namesOk (sc : Scope) (ps : List Str) : Bool :=
  sc.names.all (fun x => x.2 != .free) && ps.all (fun p => match sc.names.lookup p with | some .local | some .cell => true | _ => false)

noncomputable abbrev fenv (fd : FuncData) (a : Addr) (L : Addr) (cs : List (Str × Addr)) : Env := newEnv fd.scope L fd.globals cs (fd.qualname ++ ".<locals>.") (some a) fd.code .none fd.builtins

structure FnData (C : Cx) (a : Addr) (fd : FuncData) (body : List Stmt) (ps : List Str) : Prop where
  at_ : ∀ h, C.Base h → (∃ o, h.get? a = some o ∧ o.data = .func fd) ∧ h.CodeRec fd.code fd.qualname
  body_ : fd.body = .stmts body
  gl : fd.globals = mainGlobals
  bu : fd.builtins = builtinsNs
  cl : fd.closure = []
  kd : fd.scope.kind = .function
  co : fd.scope.isCoroutine = false
  ge : fd.scope.isGenerator = false
  bind : ∀ vs : List Value, vs.length = ps.length → bindArgs fd ⟨vs, []⟩ = pure (ps.zip vs)
  nm : namesOk fd.scope ps = true
  nd : ps.Nodup

theorem rep_less {h : Heap} {M M' : List Addr} {v : Value} {y : V} (p : y.own = false) (less : ∀ b ∈ M', b ∈ M) (r : Rep C h M v y) : Rep C h M' v y := by
  have up := hid_less (h := h) less
  exact r.move up fun o => by rw [p] at o; cases o

noncomputable def isRet (y : V) (τ : Option Nat) : Out → Prop
  | .ret y' τ' => y' = y ∧ τ' = τ
  | .next _ τ' => y = .none ∧ τ' = τ

theorem cellsOk_lookup {h : Heap} {lo : Nat} {cs : List (Str × Addr)} (k : PySem.CellsOk h lo cs) {x : Str} {c : Addr} (e : cs.lookup x = some c) : h.IsCell c .none ∧ lo ≤ c := k.empty x c (mem_of_lookup e)

noncomputable def flowTo (Q : Value → Shared → Prop) : Flow → Shared → Prop
  | .ret v, s => Q v s
  | .next, s => Q .none s
  | _, _ => False
theorem fn_enter {a : Addr} {fd : FuncData} {body : List Stmt} {ps : List Str} {xs : List V} {A : Around} {M : List Addr} {s : Shared} {vs : List Value} {Q : Value → Shared → Prop} (D : FnData C a fd body ps) (hl : xs.length = ps.length) (hown : ∀ x ∈ xs, V.own x = false)
    (hdp : A.depth < recursionLimit) (G : Gs C M τ s) (r : RepL C s.heap M vs xs)
    (h : ∀ L cs W s', Fs C s M W (fenv fd a L cs) (ps.zip xs) τ [] ((ps.zip vs).foldl (fun r b => upd r b.1 b.2) fun _ => Option.none) s' → Keeps s s' → (∀ b ∈ W, s.heap.get? b = Option.none) →
      wpAny (model C.prog C.w) (A.deeper (fenv fd a L cs)) (execs body (fenv fd a L cs)) (flowTo Q) NoE s') : codeAny (model C.prog C.w) A (.call (.ref a) ⟨vs, []⟩) (wants Q NoE) s := by
  obtain ⟨⟨o, ho, hd⟩, hcd⟩ := D.at_ _ G.base
  have ho' := hid_sub _ _ _ _ ho
  have hcd' : s.heap.CodeRec fd.code fd.qualname := by
    obtain ⟨c, oc, vs', tq, e1, e2, e3⟩ := hcd
    exact ⟨c, oc, vs', tq, e1, hid_sub _ _ _ _ e2, e3⟩
  have hlv : vs.length = ps.length := r.length.trans hl
  refine codeAny_call_function (by assumption) ho' hd D.co D.ge D.body_ hcd' ?_
  rw [D.bind vs hlv]
  refine wpAny_pure ?_
  -- the new frame
  rw [D.cl]
  unfold newFunctionEnv
  refine wpAny_bind (wpAny_alloc ?_)
  refine wpAny_bind (wpAny_layCells _ (fun name kind cells => rfl) _ _ _ _ ?_)
  dsimp only
  have nm := Bool.and_eq_true_iff.mp D.nm
  have nofree : ∀ x ∈ fd.scope.names, x.2 ≠ .free := fun x hx => by
    have := List.all_eq_true.mp nm.1 x hx
    simpa using this
  generalize hL : s.heap.objs.size = L
  generalize hH1 : s.heap.push { cls := .type (if (Option.none : Option Env).isSome then "dict" else "frame"), data := .dict #[] } = H1
  have szH1 : H1.objs.size = L + 1 := by rw [← hH1, Heap.size_push, hL]
  have CO := cellsFrom_ok fd.scope.names H1 (L + 1) [] (PySem.CellsOk.mk (fun _ _ h => nomatch h) List.Pairwise.nil) (by rw [szH1]; exact Nat.le_refl _)
  generalize hcs : cellsFrom H1.objs.size fd.scope.names [] = cs at CO
  generalize hH2 : pushCells H1 fd.scope.names = H2 at CO
  have k1 : Sub s.heap H2 := fun b o e => by rw [← hH2]; exact pushCells_keeps _ _ _ _ (by rw [← hH1]; exact Heap.get?_push_of_some _ e)
  have nsL : H2.Ns L (fun _ => Option.none) := by
    have : H1.Ns L (fun _ => Option.none) := by rw [← hH1, ← hL]; exact Heap.Ns.new ..
    exact this.keeps fun b o e => by rw [← hH2]; exact pushCells_keeps _ _ _ _ e
  -- the writable ones
  have fr : ∀ b ∈ L :: cs.map (·.2), s.heap.get? b = Option.none := fun b hb => by
    cases e : s.heap.get? b with
    | none => rfl
    | some o =>
      have lt := Heap.lt_size e
      rcases List.mem_cons.mp hb with rfl | hb
      · rw [hL] at lt; exact absurd lt (Nat.lt_irrefl _)
      · obtain ⟨p, hp, rfl⟩ := List.mem_map.mp hb
        have h1 : L + 1 ≤ p.2 := (CO.empty p.1 p.2 hp).2
        have h2 : p.2 < L := hL ▸ lt
        exact absurd (Nat.lt_of_lt_of_le h2 (Nat.le_of_succ_le h1)) (Nat.lt_irrefl _)
  have notM : ∀ b ∈ L :: cs.map (·.2), b ∉ M := fun b hb q => by obtain ⟨o, e⟩ := G.low b q; rw [fr b hb] at e; cases e
  have F2 : FrameAt C (fenv fd a L cs) H2 (fun _ => Option.none) := {
    ns := ⟨_, nsL, fun _ _ => rfl⟩
    cell := fun x hx => by
      rcases hx with hx | hx
      · obtain ⟨c, e⟩ := cellsFrom_has fd.scope.names H1.objs.size [] x (.inl (kind_mem hx))
        rw [hcs] at e
        exact ⟨c, e, (cellsOk_lookup CO e).1⟩
      · exact absurd rfl (nofree _ (kind_mem hx))
    apart := fun x z c e e' => name_of_addr CO.apart (mem_of_lookup e) (mem_of_lookup e')
    notT := fun t ht => by
      have htM := G.mT t ht
      exact ⟨fun (q : L = t) => notM L List.mem_cons_self (q ▸ htM), fun x e => notM t (List.mem_cons_of_mem _ (List.mem_map.mpr ⟨_, mem_of_lookup e, rfl⟩)) htM⟩ }
  have wr : ∀ x p, ownVar (fenv fd a L cs) x = true → placeOf (fenv fd a L cs) x = some p → p ∈ L :: cs.map (·.2) := fun x p hx hp => by
    rcases place_of hp with e | hp
    · exact e ▸ List.mem_cons_self
    · exact List.mem_cons_of_mem _ (List.mem_map.mpr ⟨_, mem_of_lookup hp, rfl⟩)
  have ownps : ∀ b ∈ ps.zip vs, ownVar (fenv fd a L cs) b.1 = true := fun b hb => by
    have hm : b.1 ∈ ps := (List.of_mem_zip hb).1
    exact List.all_eq_true.mp nm.2 b.1 hm
  refine wpAny_bind ?_
  refine store_binds (C := C) (env := fenv fd a L cs) (W := L :: cs.map (·.2)) _ (fun x u => rfl) D.kd wr (ps.zip vs) { s with heap := H2 } _ _ F2 ownps fun h' tk F3 k3 sz3 => ?_
  refine wpAny_pure ⟨?_, ?_⟩
  · have nl := C.nolim _ G.base
    refine Heap.NoLimit.keeps nl fun b o e => ?_
    have nb := hid_not e
    have e' := hid_sub _ _ _ _ e
    refine k3 b o (fun q => ?_) (k1 b o e')
    rw [fr b q] at e'; cases e'
  · have k4 : Sub s.heap h' := fun b o e => k3 b o (fun q => by rw [fr b q] at e; cases e) (k1 b o e)
    have al : ∀ b ∈ L :: cs.map (·.2), ∃ o, h'.get? b = some o := fun b hb => by
      rcases List.mem_cons.mp hb with rfl | hb
      · obtain ⟨m, ⟨o, _, _, e, _⟩, _⟩ := F3.ns; exact ⟨o, e⟩
      · obtain ⟨p, hp, rfl⟩ := List.mem_map.mp hb
        obtain ⟨o, e, _⟩ := (CO.empty p.1 p.2 hp).1
        exact sz3 _ o e
    have Gn := G.more (N := L :: cs.map (·.2)) (tk := tk) k4 fr al
    have Fin : Fs C s M (L :: cs.map (·.2)) (fenv fd a L cs) (ps.zip xs) τ [] ((ps.zip vs).foldl (fun r b => upd r b.1 b.2) fun _ => Option.none) { s with heap := h', toks := tk } := {
      gs := Gn
      glob := ⟨D.gl, D.bu, D.kd⟩
      frame := F3
      vars := fun x z e i => by
        obtain ⟨v, e1, r1⟩ := fold_upd_rep (ρ := fun _ => Option.none) D.nd r e
        exact ⟨v, e1, r1.more k4 fr⟩
      own := fun x z e i o => by
        have : z ∈ xs := (List.of_mem_zip (mem_of_lookup e)).2
        rw [hown z this] at o; cases o
      apart := fun x x' z z' b e e' i i' o => by
        have : z ∈ xs := (List.of_mem_zip (mem_of_lookup e)).2
        rw [hown z this] at o; cases o
      wr := wr
      kept := ⟨h', tk, rfl, fun b o _ e => k4 b o e⟩
      fresh := fun b hb => by
        rcases hb with hb | hb
        · exact fr b hb
        · cases hb
      fa := fun b hb => by
        rcases hb with rfl | ⟨x, e⟩
        · exact .inl List.mem_cons_self
        · exact .inl (List.mem_cons_of_mem _ (List.mem_map.mpr ⟨_, mem_of_lookup e, rfl⟩))
      aM := G.low
      mT := G.mT }
    refine codeAny_func (wpAny_mono (h L cs _ _ Fin ⟨h', tk, rfl, k4⟩ fr) (fun f s' q => ?_) fun _ _ x => x.elim)
    cases f <;> first | exact q.elim | exact q

theorem fn_spec {a : Addr} {fd : FuncData} {body : List Stmt} {ps : List Str} {xs : List V} {y : V} (D : FnData C a fd body ps) (hl : xs.length = ps.length) (hown : ∀ x ∈ xs, V.own x = false)
    (h : ∀ L cs, Ex C n body (fenv fd a L cs) (ps.zip xs) τ (isRet y τ₁)) : FnSpec C (n + 1) (.ref a) xs τ y τ₁ := fun A R M s vs G r => by
  refine wpAny_call (fn_enter D hl hown (by have := R.dp; lia) G r fun L cs W s₂ Fin _ _ => ?_)
  refine wpAny_mono (h L cs _ (R.deeper _) s M _ [] _ _ Fin) (fun f s' zz => ex2 zz fun o p q => ?_) fun _ _ x => x
  cases o with
  | next σ' τ' =>
    obtain ⟨rfl, rfl⟩ := p
    cases f <;> first | exact q.elim | skip
    obtain ⟨O', ρ', F'⟩ := q
    have less : ∀ b ∈ M, b ∈ W ++ (O' ++ M) := fun b hb => List.mem_append_right _ (List.mem_append_right _ hb)
    have up := hid_less (h := s'.heap) less
    refine ⟨⟨C.mono _ _ F'.gs.base up, fun a m => F'.gs.low a (less a m), G.mT, ?_⟩, .none, F'.kept⟩
    have t := F'.gs.tray
    cases τ' with
    | none => trivial
    | some k => obtain ⟨a, t1, t2, tk', n', b, x1, x2, x3⟩ := t; exact ⟨a, t1, t2, tk', n', b, x1, x2, x3.up up⟩
  | ret y' τ' =>
    obtain ⟨rfl, rfl⟩ := p
    cases f <;> first | exact q.elim | exact ⟨q.1, q.2.1, q.2.2.1⟩

end
end Mine
namespace Mine

noncomputable def closL (cells : List (Str × Addr)) : List (Str × NameKind) → List (Str × Addr) → List (Str × Addr)
  | [], acc => acc
  | (x, k) :: r, acc => if k == .free then closL cells r ((x, (cells.lookup x).getD 0) :: acc) else closL cells r acc

theorem closureFor_of {env : Env} {scope : Scope} (h : ∀ x, (x, NameKind.free) ∈ scope.names → ∃ c, env.cells.lookup x = some c) : closureFor scope env = pure (closL env.cells scope.names []) := by
  unfold closureFor
  have go : ∀ (names : List (Str × NameKind)) (acc : List (Str × Addr)), (∀ x, (x, NameKind.free) ∈ names → ∃ c, env.cells.lookup x = some c) →
      (forIn names acc fun (x : Str × NameKind) (cs : List (Str × Addr)) => (match x with | (name, kind) => if (kind == NameKind.free) = true then (do let a ← cellOf env name; pure (ForInStep.yield ((name, a) :: cs))) else pure (ForInStep.yield cs) : Sem _)) = pure (closL env.cells names acc) := by
    intro names
    induction names with
    | nil => intro acc _; rfl
    | cons x r ih =>
      obtain ⟨nm, k⟩ := x
      intro acc hx
      rw [List.forIn_cons]
      unfold closL
      by_cases hk : (k == NameKind.free) = true
      · have hk' : k = .free := by simpa using hk
        obtain ⟨c, hc⟩ := hx nm (hk' ▸ List.mem_cons_self)
        simp only [hk, if_true]
        have : cellOf env nm = pure c := by unfold cellOf; rw [hc]
        rw [this, hc]
        exact ih _ fun y hy => hx y (List.mem_cons_of_mem _ hy)
      · simp only [hk, Bool.false_eq_true, if_false]
        exact ih _ fun y hy => hx y (List.mem_cons_of_mem _ hy)
  have e := go scope.names [] h
  simp only [bind_pure]
  exact e

theorem closL_lookup {cells : List (Str × Addr)} {x : Str} : ∀ (names : List (Str × NameKind)) (acc : List (Str × Addr)) (c : Addr), (closL cells names acc).lookup x = some c →
    acc.lookup x = some c ∨ ((x, NameKind.free) ∈ names ∧ (cells.lookup x).getD 0 = c)
  | [], acc, c, h => .inl h
  | (y, k) :: r, acc, c, h => by
    unfold closL at h
    split at h
    · rename_i hk
      have hk' : k = .free := by simpa using hk
      rcases closL_lookup r _ c h with h | ⟨h1, h2⟩
      · by_cases q : x = y
        · subst q
          rw [lookup_cons_eq'] at h
          cases h
          exact .inr ⟨hk' ▸ List.mem_cons_self, rfl⟩
        · rw [List.lookup_cons, beq_eq_false_iff_ne.mpr q] at h
          exact .inl h
      · exact .inr ⟨List.mem_cons_of_mem _ h1, h2⟩
    · rcases closL_lookup r _ c h with h | ⟨h1, h2⟩
      · exact .inl h
      · exact .inr ⟨List.mem_cons_of_mem _ h1, h2⟩
where lookup_cons_eq' {x : Str} {y : Addr} {σ : List (Str × Addr)} : ((x, y) :: σ).lookup x = some y := by simp

theorem closL_has {cells : List (Str × Addr)} {x : Str} : ∀ (names : List (Str × NameKind)) (acc : List (Str × Addr)), ((x, NameKind.free) ∈ names ∨ ∃ c, acc.lookup x = some c) → ∃ c, (closL cells names acc).lookup x = some c
  | [], acc, h => by
    rcases h with h | h
    · cases h
    · exact h
  | (y, k) :: r, acc, h => by
    unfold closL
    split
    · rename_i hk
      refine closL_has r _ ?_
      by_cases q : x = y
      · subst q; exact .inr ⟨(cells.lookup x).getD 0, by simp⟩
      · rcases h with h | ⟨c, h⟩
        · rcases List.mem_cons.mp h with e | h
          · cases e; exact absurd rfl q
          · exact .inl h
        · exact .inr ⟨c, by rw [List.lookup_cons, beq_eq_false_iff_ne.mpr q]; exact h⟩
    · rename_i hk
      refine closL_has r _ ?_
      rcases h with h | h
      · rcases List.mem_cons.mp h with e | h
        · cases e; simp at hk
        · exact .inl h
      · exact .inr h

theorem cellsFrom_app : ∀ (names : List (Str × NameKind)) (n : Nat) (acc acc' : List (Str × Addr)), cellsFrom n names (acc ++ acc') = cellsFrom n names acc ++ acc'
  | [], _, _, _ => rfl
  | (y, k) :: r, n, acc, acc' => by
    unfold cellsFrom
    split
    · exact cellsFrom_app r (n + 1) ((y, n) :: acc) acc'
    · exact cellsFrom_app r n acc acc'
theorem cellsFrom_mem : ∀ (names : List (Str × NameKind)) (k : Nat) (acc : List (Str × Addr)) (p : Str × Addr), p ∈ cellsFrom k names acc → p ∈ acc ∨ (p.1, NameKind.cell) ∈ names
  | [], _, _, _, h => .inl h
  | (yn, yk) :: r, k, acc, p, h => by
    unfold cellsFrom at h
    split at h
    · rename_i hk
      rcases cellsFrom_mem r _ _ p h with h | h
      · rcases List.mem_cons.mp h with rfl | h
        · have : yk = .cell := by simpa using hk
          subst this
          exact .inr List.mem_cons_self
        · exact .inl h
      · exact .inr (List.mem_cons_of_mem _ h)
    · rcases cellsFrom_mem r _ _ p h with h | h
      · exact .inl h
      · exact .inr (List.mem_cons_of_mem _ h)

noncomputable abbrev cenvOf (scope : Scope) (env : Env) (L : Addr) (cs : List (Str × Addr)) : Env := { newEnv scope L env.globals cs env.qual .none .none (some env) env.builtins with scope := relabel scope env }

noncomputable def takes (k : Option NameKind) : Bool := match k with | some .cell | some .free => true | _ => false
noncomputable def compOk (scope : Scope) (env : Env) : Bool :=
  scope.names.all (fun p => scope.names.lookup p.1 == some p.2) && scope.names.all (fun p => p.2 != .free || takes (env.kindOf p.1))
theorem takes_of {k : Option NameKind} (h : takes k = true) : k = some .cell ∨ k = some .free := by
  cases k with
  | none => exact (Bool.false_ne_true h).elim
  | some k => cases k <;> first | exact (Bool.false_ne_true h).elim | exact .inl rfl | exact .inr rfl
theorem compOk_of {scope : Scope} {env : Env} (ok : compOk scope env = true) : (∀ x k, (x, k) ∈ scope.names → scope.names.lookup x = some k) ∧ ∀ x, (x, NameKind.free) ∈ scope.names → env.kindOf x = some .cell ∨ env.kindOf x = some .free :=
  have o := Bool.and_eq_true_iff.mp ok
  ⟨fun x k hx => eq_of_beq (List.all_eq_true.mp o.1 (x, k) hx), fun x hx => takes_of (List.all_eq_true.mp o.2 (x, .free) hx)⟩

noncomputable def wvOf (scope : Scope) (x : Str) : Bool := match scope.names.lookup x with
  | some .local | some .cell => true
  | _ => false
theorem wv_of {scope : Scope} {x : Str} (i : wvOf scope x = true) : scope.names.lookup x = some .local ∨ scope.names.lookup x = some .cell := by
  delta wvOf at i
  revert i
  cases scope.names.lookup x with
  | none => exact fun i => (Bool.false_ne_true i).elim
  | some k => cases k <;> first | exact fun i => (Bool.false_ne_true i).elim | exact fun _ => .inl rfl | exact fun _ => .inr rfl

noncomputable def Filt (sc : Scope) (σ σ' : List (Str × V)) : Prop := ∀ x y, σ'.lookup x = some y → sc.names.lookup x = some .free ∧ σ.lookup x = some y ∧ y.own = false
theorem Filt.of {sc : Scope} {σ σ' : List (Str × V)} (f : Filt sc σ σ') : ∀ x y, σ'.lookup x = some y → sc.names.lookup x = some .free ∧ σ.lookup x = some y ∧ y.own = false := f
theorem Filt.nil {sc : Scope} {σ : List (Str × V)} : Filt sc σ [] := fun x y h => nomatch h
theorem Filt.add {sc : Scope} {σ σ' : List (Str × V)} {x : Str} {y : V} (f : Filt sc σ σ') (h1 : sc.names.lookup x = some .free) (h2 : σ.lookup x = some y) (h3 : y.own = false) : Filt sc σ ((x, y) :: σ') := fun z w e => by
  by_cases q : z = x
  · subst q
    rw [lookup_cons_eq] at e; cases e
    exact ⟨h1, h2, h3⟩
  · rw [lookup_cons_ne q] at e
    exact f z w e

theorem relabel_lookup {env : Env} : ∀ {names : List (Str × NameKind)} {x : Str} {k : NameKind},
    (names.map fun (n, k) => if (k == NameKind.free && env.scope.kind == .function && env.kindOf n == some .cell) then (n, NameKind.cell) else (n, k)).lookup x = some k →
      ∃ k', names.lookup x = some k' ∧ (k = k' ∨ (k' = .free ∧ k = .cell ∧ env.kindOf x = some .cell))
  | [], _, _, h => by simp at h
  | (n, k₀) :: r, x, k, h => by
    have h' : List.lookup x ((if (k₀ == NameKind.free && env.scope.kind == .function && env.kindOf n == some .cell) = true then (n, NameKind.cell) else (n, k₀)) :: _) = some k := h
    cases hx : x == n with
    | true =>
      have hxn : x = n := by simpa using hx
      by_cases hc : (k₀ == NameKind.free && env.scope.kind == .function && env.kindOf n == some .cell) = true
      · rw [if_pos hc] at h'
        simp only [List.lookup_cons, hx] at h'
        cases h'
        simp only [Bool.and_eq_true, beq_iff_eq] at hc
        exact ⟨k₀, by simp [List.lookup_cons, hx], .inr ⟨hc.1.1, rfl, hxn ▸ hc.2⟩⟩
      · rw [if_neg hc] at h'
        simp only [List.lookup_cons, hx] at h'
        cases h'
        exact ⟨k₀, by simp [List.lookup_cons, hx], .inl rfl⟩
    | false =>
      have h2 : (r.map fun (n, k) => if (k == NameKind.free && env.scope.kind == .function && env.kindOf n == some .cell) then (n, NameKind.cell) else (n, k)).lookup x = some k := by
        by_cases hc : (k₀ == NameKind.free && env.scope.kind == .function && env.kindOf n == some .cell) = true
        · rw [if_pos hc] at h'; simpa only [List.lookup_cons, hx] using h'
        · rw [if_neg hc] at h'; simpa only [List.lookup_cons, hx] using h'
      obtain ⟨k', a, b⟩ := relabel_lookup h2
      exact ⟨k', by simp only [List.lookup_cons, hx]; exact a, b⟩

section
variable {C : Cx} {n : Nat} {env : Env} {σ σ' : List (Str × V)} {τ τ₁ τ₂ τ₃ : Option Nat} {wv : Str → Bool}

theorem comp_enter {M : Model} {A : Around} {E : Value → Shared → Prop} {s s₀ : Shared} {M₀ : List Addr} {scope : Scope} {O : List Addr} {Q : Env → Shared → Prop}
    (S : St C M₀ env σ τ s₀) (k₀ : Keeps s₀ s) (G : Gs C (O ++ M₀) τ s) (fO : ∀ a ∈ O, s₀.heap.get? a = Option.none) (ok : compOk scope env = true) (kd : scope.kind = .function) (fl : Filt scope σ σ')
    (h : ∀ L cs W ρ s', Fw C (wvOf scope) s₀ M₀ W (cenvOf scope env L cs) σ' τ O ρ s' → Keeps s s' → (∀ a ∈ W, s.heap.get? a = Option.none) → L ∈ W → 
      ∀ e : Env, e = newEnv scope L env.globals cs env.qual .none .none (some env) builtinsNs → Q e s') :
    wpAny M A (newFunctionEnv scope env.globals (closL env.cells scope.names []) [] env.qual .none .none (some env)) Q E s := by
  obtain ⟨uniq, hfree⟩ := compOk_of ok
  have S1 := S.keeps k₀
  obtain ⟨ρ₀, F₀, V₀⟩ := S1.frame
  unfold newFunctionEnv
  refine wpAny_bind (wpAny_alloc ?_)
  refine wpAny_bind (wpAny_layCells _ (fun name kind cells => rfl) _ _ _ _ ?_)
  dsimp only
  generalize hL : s.heap.objs.size = L
  generalize hH1 : s.heap.push { cls := .type (if (some env).isSome then "dict" else "frame"), data := .dict #[] } = H1
  have szH1 : H1.objs.size = L + 1 := by rw [← hH1, Heap.size_push, hL]
  have CO := cellsFrom_ok scope.names H1 (L + 1) [] (PySem.CellsOk.mk (fun _ _ h => nomatch h) List.Pairwise.nil) (by rw [szH1]; exact Nat.le_refl _)
  have split := cellsFrom_app scope.names H1.objs.size [] (closL env.cells scope.names [])
  rw [List.nil_append] at split
  rw [split]
  generalize hown : cellsFrom H1.objs.size scope.names [] = own at CO
  generalize hcl : closL env.cells scope.names [] = cl
  generalize hH2 : pushCells H1 scope.names = H2 at CO
  have k1 : Sub s.heap H2 := fun b o e => by rw [← hH2]; exact pushCells_keeps _ _ _ _ (by rw [← hH1]; exact Heap.get?_push_of_some _ e)
  have nsL : H2.Ns L (fun _ => Option.none) := by
    have : H1.Ns L (fun _ => Option.none) := by rw [← hH1, ← hL]; exact Heap.Ns.new ..
    exact this.keeps fun b o e => by rw [← hH2]; exact pushCells_keeps _ _ _ _ e
  have fr : ∀ b ∈ L :: own.map (·.2), s.heap.get? b = Option.none := fun b hb => by
    cases e : s.heap.get? b with
    | none => rfl
    | some o =>
      have lt := Heap.lt_size e
      rcases List.mem_cons.mp hb with rfl | hb
      · rw [hL] at lt; exact absurd lt (Nat.lt_irrefl _)
      · obtain ⟨p, hp, rfl⟩ := List.mem_map.mp hb
        have h1 : L + 1 ≤ p.2 := (CO.empty p.1 p.2 hp).2
        have h2 : p.2 < L := hL ▸ lt
        exact absurd (Nat.lt_of_lt_of_le h2 (Nat.le_of_succ_le h1)) (Nat.lt_irrefl _)
  have fr₀ : ∀ b ∈ L :: own.map (·.2), s₀.heap.get? b = Option.none := fun b hb => by
    obtain ⟨h', tk, rfl, k⟩ := k₀
    cases e : s₀.heap.get? b with
    | none => rfl
    | some o => have := k _ _ e; rw [fr b hb] at this; cases this
  have notM : ∀ b ∈ L :: own.map (·.2), b ∉ O ++ M₀ := fun b hb q => by obtain ⟨o, e⟩ := G.low b q; rw [fr b hb] at e; cases e
  -- lookups
  have lk : ∀ x c, (own ++ cl).lookup x = some c → (own.lookup x = some c ∧ (x, NameKind.cell) ∈ scope.names) ∨ (env.cells.lookup x = some c ∧ (x, NameKind.free) ∈ scope.names) := fun x c e => by
    rw [List.lookup_append] at e
    cases q : own.lookup x with
    | some c' =>
      rw [q] at e; cases e
      rcases cellsFrom_mem scope.names H1.objs.size [] (x, c) (hown ▸ mem_of_lookup q) with h | h
      · cases h
      · exact .inl ⟨rfl, h⟩
    | none =>
      rw [q] at e
      have e' : cl.lookup x = some c := e
      rw [← hcl] at e'
      rcases closL_lookup _ _ _ e' with h | ⟨h1, h2⟩
      · cases h
      · obtain ⟨c', hc', _⟩ := F₀.cell x (hfree x h1)
        rw [hc'] at h2
        exact .inr ⟨by rw [hc', ← h2]; rfl, h1⟩
  have F2 : FrameAt C (cenvOf scope env L (own ++ cl)) H2 (fun x => if scope.names.lookup x = some .free then ρ₀ x else Option.none) := {
    ns := ⟨_, nsL, fun x hx => by
      obtain ⟨k', e, h⟩ := relabel_lookup (show _ = some NameKind.local from hx)
      rcases h with rfl | ⟨_, h, _⟩
      · rw [if_neg (by rw [e]; simp)]
      · cases h⟩
    cell := fun x hx => by
      have hx' : ∃ k', scope.names.lookup x = some k' ∧ (k' = .cell ∨ k' = .free) := by
        rcases hx with hx | hx
        · obtain ⟨k', e, h⟩ := relabel_lookup (show _ = some NameKind.cell from hx)
          rcases h with rfl | ⟨h, _⟩
          · exact ⟨_, e, .inl rfl⟩
          · exact ⟨_, e, .inr h⟩
        · obtain ⟨k', e, h⟩ := relabel_lookup (show _ = some NameKind.free from hx)
          rcases h with rfl | ⟨_, h, _⟩
          · exact ⟨_, e, .inr rfl⟩
          · cases h
      obtain ⟨k', e, h⟩ := hx'
      rcases h with rfl | rfl
      · obtain ⟨c, ec⟩ := cellsFrom_has scope.names H1.objs.size [] x (.inl (kind_mem e))
        rw [hown] at ec
        refine ⟨c, ?_, ?_⟩
        · show (own ++ cl).lookup x = some c
          rw [List.lookup_append, ec]; rfl
        · rw [if_neg (by rw [e]; simp)]
          exact (cellsOk_lookup CO ec).1
      · obtain ⟨c, ec⟩ := closL_has (cells := env.cells) scope.names [] (.inl (kind_mem e))
        obtain ⟨c', hc', hcell⟩ := F₀.cell x (hfree x (kind_mem e))
        have : (own ++ cl).lookup x = some c' := by
          cases q : own.lookup x with
          | some c'' =>
            rcases cellsFrom_mem scope.names H1.objs.size [] (x, c'') (hown ▸ mem_of_lookup q) with h | h
            · cases h
            · rw [uniq x _ h] at e; cases e
          | none =>
            rw [List.lookup_append, q]
            rw [hcl] at ec
            have := lk x c (by rw [List.lookup_append, q]; exact ec)
            rcases this with ⟨h, _⟩ | ⟨h, _⟩
            · rw [q] at h; cases h
            · rw [hc'] at h; cases h
              exact ec
        refine ⟨c', this, ?_⟩
        rw [if_pos e]
        exact hcell.keeps k1
    apart := fun x z c e e' => by
      rcases lk x c e with ⟨a, b⟩ | ⟨a, b⟩ <;> rcases lk z c e' with ⟨a', b'⟩ | ⟨a', b'⟩
      · exact name_of_addr CO.apart (mem_of_lookup a) (mem_of_lookup a')
      · obtain ⟨c', hc', hcell⟩ := F₀.cell z (hfree z b')
        rw [a'] at hc'; cases hc'
        have h1 := (cellsOk_lookup CO a).2
        have h2 : c < L := hL ▸ hcell.lt
        exact absurd (Nat.lt_of_lt_of_le h2 (Nat.le_of_succ_le h1)) (Nat.lt_irrefl _)
      · obtain ⟨c', hc', hcell⟩ := F₀.cell x (hfree x b)
        rw [a] at hc'; cases hc'
        have h1 := (cellsOk_lookup CO a').2
        have h2 : c < L := hL ▸ hcell.lt
        exact absurd (Nat.lt_of_lt_of_le h2 (Nat.le_of_succ_le h1)) (Nat.lt_irrefl _)
      · exact F₀.apart x z c a a'
    notT := fun t ht => by
      have htM := G.mT t ht
      refine ⟨fun (q : L = t) => notM L List.mem_cons_self (q ▸ htM), fun x e => ?_⟩
      rcases lk x t e with ⟨a, b⟩ | ⟨a, b⟩
      · exact notM t (List.mem_cons_of_mem _ (List.mem_map.mpr ⟨_, mem_of_lookup a, rfl⟩)) htM
      · exact (F₀.notT t ht).2 x a }
  refine wpAny_bind (wpAny_pure (wpAny_pure ?_))
  have al : ∀ b ∈ L :: own.map (·.2), ∃ o, H2.get? b = some o := fun b hb => by
    rcases List.mem_cons.mp hb with rfl | hb
    · obtain ⟨o, _, _, e, _⟩ := nsL; exact ⟨o, e⟩
    · obtain ⟨p, hp, rfl⟩ := List.mem_map.mp hb
      obtain ⟨o, e, _⟩ := (CO.empty p.1 p.2 hp).1
      exact ⟨o, e⟩
  have Gn := G.more (N := L :: own.map (·.2)) (tk := s.toks) k1 fr al
  have k01 : Sub s₀.heap H2 := by obtain ⟨h', tk, rfl, k⟩ := k₀; exact fun b o e => k1 b o (k b o e)
  have frN : ∀ a ∈ (L :: own.map (·.2)) ++ O, s₀.heap.get? a = Option.none := fun a ha => by
    rcases List.mem_append.mp ha with ha | ha
    · exact fr₀ a ha
    · exact fO a ha
  refine h L (own ++ cl) (L :: own.map (·.2)) _ { s with heap := H2 } {
      gs := Gn
      glob := ⟨S.glob.1, S.glob.2.1, kd⟩
      frame := F2
      vars := fun x y e i => ?_
      own := fun x z e i o => ?_
      apart := fun x x' z z' b e e' i i' o => ?_
      wr := fun x p hx hp => ?_
      kept := ?_
      fresh := fun b hb => frN b (List.mem_append.mpr hb)
      fa := fun b hb => by
        rcases hb with rfl | ⟨x, e⟩
        · exact .inl List.mem_cons_self
        · rcases lk x b e with ⟨a, _⟩ | ⟨a, a'⟩
          · exact .inl (List.mem_cons_of_mem _ (List.mem_map.mpr ⟨_, mem_of_lookup a, rfl⟩))
          · obtain ⟨ρ₁, F₁, _⟩ := S.frame
            obtain ⟨c', q, o, ho, _⟩ := F₁.cell x (hfree x a')
            rw [a] at q; cases q
            exact .inr ⟨o, ho⟩
      aM := S.low
      mT := S.mT } ⟨H2, s.toks, rfl, k1⟩ fr List.mem_cons_self _ rfl
  · obtain ⟨a, b, c⟩ := fl.of x y e
    have ikind : isVar env x = true := by
      delta isVar
      rcases hfree x (kind_mem a) with h | h <;> rw [h]
    obtain ⟨ρ₁, F₁, V₁⟩ := S.frame
    obtain ⟨v, e1, r1⟩ := V₀ x y b ikind
    refine ⟨v, by rw [if_pos a]; exact e1, ?_⟩
    have r0 : Rep C s.heap M₀ v y := r1
    -- M₀ in s; the new hidden ones are O and W
    have upW : Rep C H2 ((L :: own.map (·.2)) ++ M₀) v y := r0.more k1 fr
    -- from s₀: O is fresh
    obtain ⟨v', e1', r1'⟩ := V₁ x y b ikind
    have hv : v' = v := by
      have hF := F₁.all (h' := s.heap) (by obtain ⟨h', tk, rfl, k⟩ := k₀; exact fun b o _ e => k b o e)
      rcases hfree x (kind_mem a) with h | h
      · obtain ⟨c1, q1, o1, h1, d1⟩ := hF.cell x (.inl h)
        obtain ⟨c2, q2, o2, h2, d2⟩ := F₀.cell x (.inl h)
        rw [q1] at q2; cases q2
        rw [h1] at h2; cases h2
        rw [d1] at d2
        injection d2 with d2
        rw [e1', e1] at d2
        exact Option.some.inj d2
      · obtain ⟨c1, q1, o1, h1, d1⟩ := hF.cell x (.inr h)
        obtain ⟨c2, q2, o2, h2, d2⟩ := F₀.cell x (.inr h)
        rw [q1] at q2; cases q2
        rw [h1] at h2; cases h2
        rw [d1] at d2
        injection d2 with d2
        rw [e1', e1] at d2
        exact Option.some.inj d2
    subst hv
    have := r1'.more (N := (L :: own.map (·.2)) ++ O) k01 frN
    rwa [List.append_assoc] at this
  · obtain ⟨_, _, c⟩ := fl.of x z e
    rw [c] at o; cases o
  · obtain ⟨_, _, c⟩ := fl.of x z e
    rw [c] at o; cases o
  · have hx' := wv_of hx
    rcases place_of hp with e | e
    · exact e ▸ List.mem_cons_self
    · have e : (own ++ cl).lookup x = some p := e
      rcases lk x p e with ⟨a, b⟩ | ⟨a, b⟩
      · exact List.mem_cons_of_mem _ (List.mem_map.mpr ⟨_, mem_of_lookup a, rfl⟩)
      · rcases hx' with h | h <;> (rw [uniq x _ b] at h; cases h)
  · obtain ⟨h', tk, rfl, k⟩ := k₀
    exact ⟨H2, tk, rfl, fun b o _ e => k01 b o e⟩

end
end Mine
namespace Mine

noncomputable def cTests : List PySem.Expr → Env → Sem Bool
  | [], _ => pure true
  | c :: _, env => isTrue c env (eval c env)
noncomputable def cAct (elt : PySem.Expr) (gens : List Comprehension) (scope : Scope) (pos : Pos) (depth : Nat) (acc : Value) (env : Env) : Sem Unit :=
  match gens[depth + 1]? with
  | some g' => do
    let x ← eval g'.iter env
    standAt g'.iter.pos
    let x ← foldedSetIterable g'.iter env x
    let _ ← runOwn (.compStart (.ListComp elt gens scope pos) (depth + 1) (← holding [x] (pyIter x)) acc env) env
    pure ()
  | none => do let _ ← call (.builtin "list.append") [acc, ← eval elt env]
theorem compTurn_eq (elt : PySem.Expr) (gens : List Comprehension) (scope : Scope) (pos : Pos) (depth : Nat) (it acc : Value) (env : Env) (t i : PySem.Expr) (ifs : List PySem.Expr) (hg : gens[depth]? = some ⟨t, i, ifs, 0⟩) (ha' : ∀ g', gens[depth + 1]? = some g' → g'.is_async = 0) (hi : ifs.length ≤ 1) :
    compTurn (.ListComp elt gens scope pos) depth it acc env = (do
      standAt i.pos
      match ← pyNext it with
      | none => pure (.done .next)
      | some v => do
        letOwnedTupleGo t it v
        assign t env v
        let ok ← cTests ifs env
        if ok then cAct elt gens scope pos depth acc env
        again (.compLoop (.ListComp elt gens scope pos) depth it acc env)) := by
  unfold compTurn
  simp only [hg]
  match ifs, hi with
  | [], _ =>
    unfold cAct
    cases hd : gens[depth + 1]? with
    | none => simp [cTests]; rfl
    | some g' =>
      have := ha' g' hd
      simp [cTests, this]; rfl
  | [c], _ =>
    unfold cAct
    cases hd : gens[depth + 1]? with
    | none => simp [cTests]; rfl
    | some g' =>
      have := ha' g' hd
      simp [cTests, this]; rfl

noncomputable def tgtOk (tt : Bool) : PySem.Expr → Bool
  | .Name .. => !tt
  | .Tuple .. => true
  | _ => false

inductive Tgt : PySem.Expr → V → List (Str × V) → Prop
  | name {x p y} : Tgt (.Name x p) y [(x, y)]
  | pair {a p b q k r y1 y2} : Tgt (.Tuple [.Name a p, .Name b q] k r) (.tup [y1, y2]) [(b, y2), (a, y1)]

structure It (C : Cx) (n : Nat) (g : Heap) (I : Addr) (fp wr : List Addr) (tt : Bool) (items : List V) (J : Nat → Heap → Prop) : Prop where
  sub : ∀ b ∈ wr, b ∈ fp
  alive : ∀ i h, J i h → ∀ b ∈ wr, ∃ o, h.get? b = some o
  frame : ∀ i h h', J i h → (∀ b ∈ fp, ∀ o, h.get? b = some o → h'.get? b = some o) → Sub g h' → J i h'
  self : ∀ A, Room A n → ∀ i s Q, J i s.heap → Q (.ref I) s → wpAny (model C.prog C.w) A (pyIter (.ref I)) Q NoE s
  item : ∀ A, Room A n → ∀ i x s (Q : Option Value → Shared → Prop), items[i]? = some x → J i s.heap → Sub g s.heap →
    (∀ v h' tk, (∀ b o, b ∉ wr → s.heap.get? b = some o → h'.get? b = some o) → (∀ b ∈ wr, ∃ o, h'.get? b = some o) →
      (Rp C g v x ∨ ∃ T vs xs, v = .ref T ∧ x = .tup xs ∧ IsTup h' T vs ∧ RpL C g vs xs ∧ s.heap.get? T = Option.none) →
      (∀ t (Q' : Unit → Shared → Prop) tk', tgtOk tt t = true → (∀ h'' tk'', J (i + 1) h'' → (∀ b o, b ∉ wr → h'.get? b = some o → h''.get? b = some o) → Q' () { s with heap := h'', toks := tk'' }) →
        wpAny (model C.prog C.w) A (letOwnedTupleGo t (.ref I) v) Q' NoE { s with heap := h', toks := tk' }) →
      Q (some v) { s with heap := h', toks := tk }) → wpAny (model C.prog C.w) A (pyNext (.ref I)) Q NoE s
  done : ∀ A, Room A n → ∀ s (Q : Option Value → Shared → Prop), J items.length s.heap → Sub g s.heap →
    (∀ h' tk, (∀ b o, b ∉ wr → s.heap.get? b = some o → h'.get? b = some o) → Q none { s with heap := h', toks := tk }) → wpAny (model C.prog C.w) A (pyNext (.ref I)) Q NoE s

section
variable {C : Cx} {n : Nat} {env : Env} {σ σ' : List (Str × V)} {τ τ₁ τ₂ τ₃ : Option Nat} {wv : Str → Bool}

theorem Gs.sub {M M' : List Addr} {s : Shared} (G : Gs C M τ s) (h : ∀ a ∈ M', a ∈ M) (mT : ∀ a, C.T = some a → a ∈ M') : Gs C M' τ s where
  base := C.mono _ _ G.base (hid_less h)
  low := fun a m => G.low a (h a m)
  mT := mT
  tray := by
    have t := G.tray
    cases τ with
    | none => trivial
    | some k => obtain ⟨a, t1, t2, tk', n', b, x1, x2, x3⟩ := t; exact ⟨a, t1, t2, tk', n', b, x1, x2, x3.up (hid_less h)⟩

noncomputable def noOwn (σ : List (Str × V)) : Prop := ∀ x y, σ.lookup x = some y → V.own y = false

theorem noOwn.poke {ρ : Str → Option Value} {X O' : List Addr} (no : noOwn σ) : ∀ x y, σ.lookup x = some y → isVar env x = true → V.own y = true → ∀ a, ρ x = some (Value.ref a) → a ∉ X ∧ a ∈ O' := fun x y e _ o => by rw [no x y e] at o; cases o

theorem Fw.poke {s₀ : Shared} {M₀ W O X O' : List Addr} {ρ : Str → Option Value} {s : Shared} {h' : Heap} {tk : Tok} (F : Fw C wv s₀ M₀ W env σ τ O ρ s) (hX : ∀ b ∈ X, b ∈ O ∧ b ∉ W) (k : ∀ b o, b ∉ X → s.heap.get? b = some o → h'.get? b = some o)
    (hO' : ∀ b ∈ O', b ∈ O ∧ ∃ o, h'.get? b = some o)
    (no : ∀ x y, σ.lookup x = some y → isVar env x = true → y.own = true → ∀ a, ρ x = some (.ref a) → a ∉ X ∧ a ∈ O') : Fw C wv s₀ M₀ W env σ τ O' ρ { s with heap := h', toks := tk } := by
  have subM : ∀ a ∈ W ++ (O' ++ M₀), a ∈ W ++ (O ++ M₀) := fun a ha => by
    simp only [List.mem_append] at ha ⊢
    rcases ha with h | h | h
    · exact .inl h
    · exact .inr (.inl (hO' a h).1)
    · exact .inr (.inr h)
  have up : Sub (hid s.heap (W ++ (O ++ M₀))) (hid h' (W ++ (O' ++ M₀))) := hid_up (fun b o nb e => k b o (fun q => nb (List.mem_append_right _ (List.mem_append_left _ (hX b q).1))) e) fun b o nb e q => nb (subM b q)
  have notX : ∀ b, (b ∈ W ∨ ∃ o, s₀.heap.get? b = some o) → b ∉ X := fun b hb q => by
    rcases hb with hb | ⟨o, e⟩
    · exact (hX b q).2 hb
    · rw [F.fresh b (.inr (hX b q).1)] at e; cases e
  have keepT : ∀ a, C.T = some a → a ∉ X := fun a q => notX a (.inr (F.aM a (F.mT a q)))
  exact {
    gs := {
      base := C.mono _ _ F.gs.base up
      low := fun a ha => by
        simp only [List.mem_append] at ha
        rcases ha with h | h | h
        · obtain ⟨o, e⟩ := F.gs.low a (List.mem_append_left _ h)
          exact ⟨o, k a o (notX a (.inl h)) e⟩
        · exact (hO' a h).2
        · obtain ⟨o, e⟩ := F.gs.low a (List.mem_append_right _ (List.mem_append_right _ h))
          exact ⟨o, k a o (notX a (.inr (F.aM a h))) e⟩
      mT := fun a q => List.mem_append_right _ (List.mem_append_right _ (F.mT a q))
      tray := by
        have t := F.gs.tray
        cases τ with
        | none => trivial
        | some j => obtain ⟨a, t1, t2, tk', n', b, x1, x2, x3⟩ := t; exact ⟨a, t1, t2, tk', n', b, x1, k a _ (keepT a x1) x2, x3.up up⟩ }
    glob := F.glob
    frame := {
      ns := let ⟨m, hn, e⟩ := F.frame.ns; ⟨m, hn.at' fun o q => k _ o (notX _ (F.fa _ (.inl rfl))) q, e⟩
      cell := fun x hx => let ⟨c, e, o, ho, hd⟩ := F.frame.cell x hx; ⟨c, e, o, k c o (notX c (F.fa c (.inr ⟨x, e⟩))) ho, hd⟩
      apart := F.frame.apart
      notT := F.frame.notT }
    vars := fun x y e i => by
      obtain ⟨v, a, r⟩ := F.vars x y e i
      refine ⟨v, a, ?_⟩
      have ow : y.own = true → ∃ b, v = .ref b ∧ b ∉ X ∧ b ∈ O' := fun o => by
        obtain ⟨b, e2, _, _⟩ := F.own x y e i o
        rw [a] at e2; cases e2
        obtain ⟨h1, h2⟩ := no x y e i o b a
        exact ⟨b, rfl, h1, h2⟩
      exact r.move up fun o b e m t => by obtain ⟨_, e2, nb, bO⟩ := ow o; rw [e] at e2; cases e2; exact ⟨List.mem_append_right _ (List.mem_append_left _ bO), fun o e => k _ o nb e⟩
    own := fun x y e i o => by
      obtain ⟨b, e2, bO, bW⟩ := F.own x y e i o
      exact ⟨b, e2, (no x y e i o b e2).2, bW⟩
    apart := F.apart
    wr := F.wr
    kept := by
      obtain ⟨h1, t1, rfl, k1⟩ := F.kept
      exact ⟨h', tk, rfl, fun b o t e => k b o (notX b (.inr ⟨o, e⟩)) (k1 b o t e)⟩
    fresh := fun a ha => F.fresh a (ha.imp id fun h => (hO' a h).1)
    fa := F.fa
    aM := F.aM
    mT := F.mT }

theorem Fw.addO {s₀ : Shared} {M₀ W O N : List Addr} {ρ : Str → Option Value} {s s' : Shared} (F : Fw C wv s₀ M₀ W env σ τ O ρ s) (k : Keeps s s') (fr : ∀ a ∈ N, s.heap.get? a = Option.none) (al : ∀ a ∈ N, ∃ o, s'.heap.get? a = some o) (no : noOwn σ)
    (nT : ∀ a ∈ N, s₀.heap.get? a = Option.none) : Fw C wv s₀ M₀ W env σ τ (N ++ O) ρ s' := by
  obtain ⟨h', tk, rfl, k⟩ := k
  have perm : ∀ a, a ∈ W ++ ((N ++ O) ++ M₀) ↔ a ∈ N ++ (W ++ (O ++ M₀)) := fun a => by
    simp only [List.mem_append]
    constructor
    · rintro (h | (h | h) | h)
      · exact .inr (.inl h)
      · exact .inl h
      · exact .inr (.inr (.inl h))
      · exact .inr (.inr (.inr h))
    · rintro (h | h | h | h)
      · exact .inr (.inl (.inl h))
      · exact .inl h
      · exact .inr (.inl (.inr h))
      · exact .inr (.inr h)
  have G := (F.gs.more (N := N) (tk := tk) k fr al).sub (fun a ha => (perm a).mp ha) (fun a q => List.mem_append_right _ (List.mem_append_right _ (F.mT a q)))
  exact {
    gs := G
    glob := F.glob
    frame := F.frame.all fun b o _ e => k b o e
    vars := fun x y e i => by
      obtain ⟨v, a, r⟩ := F.vars x y e i
      exact ⟨v, a, rep_less (no x y e) (fun a ha => (perm a).mp ha) (r.more k fr)⟩
    own := fun x y e i o => by rw [no x y e] at o; cases o
    apart := fun x x' y y' a e e' i i' o => by rw [no x y e] at o; cases o
    wr := F.wr
    kept := F.kept.trans (.of ⟨h', tk, rfl, k⟩)
    fresh := fun a ha => by
      rcases ha with h | h
      · exact F.fresh a (.inl h)
      · rcases List.mem_append.mp h with h | h
        · exact nT a h
        · exact F.fresh a (.inr h)
    fa := F.fa
    aM := F.aM
    mT := F.mT }

theorem Fw.forget {s₀ : Shared} {M₀ W O : List Addr} {ρ : Str → Option Value} {s : Shared} (F : Fw C wv s₀ M₀ W env σ τ O ρ s) (h : ∀ x y, σ'.lookup x = some y → σ.lookup x = some y) : Fw C wv s₀ M₀ W env σ' τ O ρ s :=
  { F with
    vars := fun x y e i => F.vars x y (h x y e) i
    own := fun x y e i o => F.own x y (h x y e) i o
    apart := fun x x' y y' a e e' i i' o o' => F.apart x x' y y' a (h x y e) (h x' y' e') i i' o o' }

theorem own_rp {h : Heap} {v : Value} {x : V} (r : Rp C h v x) : x.own = false := by cases r <;> rfl
theorem own_of_pure {x : V} (h : x.pure = true) : x.own = false := by cases x <;> first | rfl | cases h

theorem assign_tgt {A : Around} {s₀ : Shared} {M₀ W O : List Addr} {ρ : Str → Option Value} {s : Shared} {t : PySem.Expr} {v : Value} {y : V} {bs : List (Str × V)} {Q : Unit → Shared → Prop} (R : Room A n) (T : Tgt t y bs) (F : Fw C wv s₀ M₀ W env σ τ O ρ s)
    (r : Rep C s.heap (W ++ (O ++ M₀)) v y) (po : y.own = false) (hb : ∀ b ∈ bs, ownVar env b.1 = true ∧ wv b.1 = true)
    (h : ∀ ρ' s', Fw C wv s₀ M₀ W env (bs ++ σ) τ O ρ' s' → (∀ b o, b ∉ W → s.heap.get? b = some o → s'.heap.get? b = some o) → Q () s') : wpAny (model C.prog C.w) A (assign t env v) Q NoE s := by
  cases T with
  | name =>
    exact wpAny_assign_Name (F.set r (notOwn po) (hb _ List.mem_cons_self).1 (hb _ List.mem_cons_self).2 fun s' F' k => h _ s' F' k)
  | @pair a p b q k r' y1 y2 =>
    obtain ⟨c, vs, rfl, l, ql⟩ := rep_tup r
    obtain ⟨v1, v2, rfl, q1, q2⟩ : ∃ v1 v2, vs = [v1, v2] ∧ Rp C (hid s.heap (W ++ (O ++ M₀))) v1 y1 ∧ Rp C (hid s.heap (W ++ (O ++ M₀))) v2 y2 := by
      cases ql with
      | cons q1 ql =>
        cases ql with
        | cons q2 ql =>
          cases ql
          exact ⟨_, _, rfl, q1, q2⟩
    show wpAny _ _ (do standAt r'; unpack (.ref c) [(false, assign (.Name a p) env), (false, assign (.Name b q) env)]) _ _ _
    refine wpAny_bind (wpAny_standAt ?_)
    show wpAny _ _ (do assignInOrder [assign (.Name a p) env, assign (.Name b q) env] (← holding [.ref c] (unpackItems (.ref c) 2 none))) _ _ _
    refine wpAny_bind (wpAny_holding (wpAny_unpackItems_tuple (items := [v1, v2].toArray) R.hd l.of_hid.isTuple fun h' he => ?_))
    show wpAny _ _ (assignInOrder [assign (.Name a p) env, assign (.Name b q) env] [v1, v2]) _ _ _
    have kk : Keeps s { s with heap := h' } := ⟨h', s.toks, rfl, fun b o e => he b o (Nat.ne_of_lt (Heap.lt_size e)) e⟩
    have G' := F.gs.keeps kk
    have F1 : Fw C wv s₀ M₀ W env σ τ O ρ { s with heap := h' } := F.then (.of kk) G'
    have up := hid_all (M := W ++ (O ++ M₀)) (show Sub s.heap h' from fun b o e => he b o (Nat.ne_of_lt (Heap.lt_size e)) e)
    refine wpAny_bind (wpAny_holding (wpAny_assign_Name (F1.set (rep_of (q1.up up)) (notOwn (own_rp q1)) (hb _ (List.mem_cons_of_mem _ List.mem_cons_self)).1 (hb _ (List.mem_cons_of_mem _ List.mem_cons_self)).2 fun s₂ F2 k2 => ?_)))
    show wpAny _ _ (do holding [] (assign (.Name b q) env v2); assignInOrder [] []) _ _ _
    have hW : ∀ x ∈ W, x ∈ W ++ (O ++ M₀) := fun x hx => List.mem_append_left _ hx
    have q2' : Rp C (hid s₂.heap (W ++ (O ++ M₀))) v2 y2 := (q2.up up).up (hid_mono fun b o nb e => k2 b o (fun z => nb (hW b z)) e)
    refine wpAny_bind (wpAny_holding (wpAny_assign_Name (F2.set (rep_of q2') (notOwn (own_rp q2)) (hb _ List.mem_cons_self).1 (hb _ List.mem_cons_self).2 fun s₃ F3 k3 => ?_)))
    refine wpAny_pure (h _ s₃ F3 fun b o nb e => k3 b o nb (k2 b o nb (he b o (Nat.ne_of_lt (Heap.lt_size e)) e)))

end
end Mine
namespace Mine

noncomputable def Turns (T : V → Option Nat → List V → Option Nat → Prop) : List V → Option Nat → List V → Option Nat → Prop
  | [], τ, ys, τ' => ys = [] ∧ τ' = τ
  | x :: r, τ, ys, τ' => ∃ y1 y2 τm, T x τ y1 τm ∧ Turns T r τm y2 τ' ∧ ys = y1 ++ y2

theorem Turns.plain {T : V → Option Nat → List V → Option Nat → Prop} {f : V → List V} {τ : Option Nat} : ∀ {xs : List V}, (∀ x ∈ xs, T x τ (f x) τ) → Turns T xs τ (xs.flatMap f) τ
  | [], _ => ⟨rfl, rfl⟩
  | x :: r, h => ⟨f x, r.flatMap f, τ, h x List.mem_cons_self, Turns.plain fun y hy => h y (List.mem_cons_of_mem _ hy), by simp⟩
theorem Turns.map {T : V → Option Nat → List V → Option Nat → Prop} {f : V → V} {τ : Option Nat} : ∀ {xs : List V}, (∀ x ∈ xs, T x τ [f x] τ) → Turns T xs τ (xs.map f) τ
  | [], _ => ⟨rfl, rfl⟩
  | x :: r, h => ⟨[f x], r.map f, τ, h x List.mem_cons_self, Turns.map fun y hy => h y (List.mem_cons_of_mem _ hy), rfl⟩

structure Cst (C : Cx) (wv : Str → Bool) (s₀ : Shared) (M₀ W : List Addr) (env : Env) (σ : List (Str × V)) (τ : Option Nat) (O : List Addr) (ρ : Str → Option Value) (D : Addr) (zs : List V) (s : Shared) : Prop where
  fw : Fw C wv s₀ M₀ W env σ τ O ρ s
  dO : D ∈ O
  dW : D ∉ W
  no : noOwn σ
  acc : ∃ ws, IsLst s.heap D ws ∧ RpL C (hid s.heap (W ++ (O ++ M₀))) ws zs

section
variable {C : Cx} {n : Nat} {env : Env} {σ σ' : List (Str × V)} {τ τ₁ τ₂ τ₃ : Option Nat} {wv : Str → Bool}

noncomputable def CAct (C : Cx) (n : Nat) (elt : PySem.Expr) (gens : List Comprehension) (scope : Scope) (pos : Pos) (d : Nat) (ifs : List PySem.Expr) (env : Env) (σ : List (Str × V)) (τ : Option Nat) (ys : List V) (τ' : Option Nat) : Prop :=
  ∀ A, Room A n → ∀ s₀ M₀ W L cs O ρ D zs s, Cst C (wvOf scope) s₀ M₀ W (cenvOf scope env L cs) σ τ O ρ D zs s → zs.length + ys.length ≤ sizeLine →
    wpAny (model C.prog C.w) A (do let ok ← cTests ifs (cenvOf scope env L cs); if ok then cAct elt gens scope pos d (.ref D) (cenvOf scope env L cs))
      (fun _ s' => ∃ ρ', Cst C (wvOf scope) s₀ M₀ W (cenvOf scope env L cs) σ τ' O ρ' D (zs ++ ys) s' ∧ (∀ b o, b ∉ W → b ≠ D → C.T ≠ some b → s.heap.get? b = some o → s'.heap.get? b = some o)) NoE s

noncomputable def CTurn (C : Cx) (n : Nat) (elt : PySem.Expr) (gens : List Comprehension) (scope : Scope) (pos : Pos) (d : Nat) (t : PySem.Expr) (ifs : List PySem.Expr) (env : Env) (σ : List (Str × V)) (x : V) (τ : Option Nat) (ys : List V) (τ' : Option Nat) : Prop :=
  ∃ bs, Tgt t x bs ∧ (∀ b ∈ bs, (∀ L cs, ownVar (cenvOf scope env L cs) b.1 = true) ∧ wvOf scope b.1 = true ∧ σ.lookup b.1 = Option.none) ∧ (V.own x = false → CAct C n elt gens scope pos d ifs env (bs ++ σ) τ ys τ')

theorem then_eq (m : Sem Bool) (f : Sem Unit) (c : Sem PySem.Fin) : (do
    let ok ← m
    if ok then f
    c) = (do
    (do
      let ok ← m
      if ok then f)
    c) := by
  simp only [bind_assoc]
  congr 1
  funext ok
  cases ok <;> simp

theorem lookup_append_none {bs σ : List (Str × V)} {x : Str} {y : V} (h : ∀ b ∈ bs, σ.lookup b.1 = Option.none) (e : σ.lookup x = some y) : (bs ++ σ).lookup x = some y := by
  rw [List.lookup_append]
  cases q : bs.lookup x with
  | none => exact e
  | some z =>
    have := h (x, z) (mem_of_lookup q)
    rw [e] at this; cases this

theorem Tgt.noOwn {t : PySem.Expr} {y : V} {bs : List (Str × V)} (T : Tgt t y bs) {C : Cx} {h : Heap} {v : Value} (r : Rp C h v y) : ∀ b ∈ bs, V.own b.2 = false := by
  cases T with
  | name => intro b hb; simp at hb; subst hb; exact own_rp r
  | pair =>
    cases r with
    | tup a q =>
      cases q with
      | cons q1 q2 =>
        cases q2 with
        | cons q2 q3 =>
          intro b hb
          simp at hb
          rcases hb with rfl | rfl
          · exact own_rp q2
          · exact own_rp q1

theorem comp_loop {A : Around} {g : Heap} {I : Addr} {fp wr : List Addr} {tt : Bool} {items : List V} {J : Nat → Heap → Prop} {elt t i : PySem.Expr} {ifs : List PySem.Expr} {gens : List Comprehension} {scope : Scope} {pos : Pos} {d : Nat}
    {s₀ : Shared} {M₀ W : List Addr} {L D : Addr} {cs : List (Str × Addr)} {O : List Addr}
    (R : Room A n) (hg : gens[d]? = some ⟨t, i, ifs, 0⟩) (ha' : ∀ g', gens[d + 1]? = some g' → g'.is_async = 0) (hi : ifs.length ≤ 1) (htk : tgtOk tt t = true) (It' : It C n g I fp wr tt items J)
    (hfp : ∀ b ∈ fp, b ∉ W ∧ b ≠ D ∧ C.T ≠ some b) (hdis : ∀ b ∈ wr, b ∉ O) (gd : ∀ b o, g.get? b = some o → b ∉ W ++ ((wr ++ O) ++ M₀)) (dO : D ∈ O) :
    ∀ (rest done : List V), items = done ++ rest → ∀ τ ys τ', Turns (CTurn C n elt gens scope pos d t ifs env σ) rest τ ys τ' → ∀ ρ zs s, Cst C (wvOf scope) s₀ M₀ W (cenvOf scope env L cs) σ τ (wr ++ O) ρ D zs s →
      J done.length s.heap → Sub g s.heap → zs.length + ys.length ≤ sizeLine →
      codeAny (model C.prog C.w) A (.compLoop (.ListComp elt gens scope pos) d (.ref I) (.ref D) (cenvOf scope env L cs))
        (fun r s' => ∃ f ρ', r = .ok f ∧ Cst C (wvOf scope) s₀ M₀ W (cenvOf scope env L cs) σ τ' O ρ' D (zs ++ ys) s' ∧ (∀ b o, b ∉ W → b ≠ D → b ∉ wr → C.T ≠ some b → s.heap.get? b = some o → s'.heap.get? b = some o)) s := by
  have wrW : ∀ b ∈ wr, b ∈ wr ++ O ∧ b ∉ W := fun b hb => ⟨List.mem_append_left _ hb, (hfp b (It'.sub b hb)).1⟩
  have notT : ∀ b o, g.get? b = some o → (∀ a, C.T = some a → a ∈ M₀) → C.T ≠ some b := fun b o e mT q => gd b o e (List.mem_append_right _ (List.mem_append_right _ (mT b q)))
  intro rest
  induction rest with
  | nil =>
    intro done he τ ys τ' ht ρ zs s K hJ hS hl
    obtain ⟨rfl, rfl⟩ := ht
    have hlen : done.length = items.length := by rw [he, List.append_nil]
    refine codeAny_of_tree ?_
    show wpAny _ A ((compTurn (.ListComp elt gens scope pos) d (.ref I) (.ref D) (cenvOf scope env L cs)).onRaise (fun x => do noteFrame x (cenvOf scope env L cs); theTreesLotGoes x)) _ _ s
    refine wpAny_noted (NoE.any ?_)
    rw [compTurn_eq elt gens scope pos d _ _ _ t i ifs hg ha' hi]
    refine wpAny_bind (wpAny_standAt (wpAny_bind (It'.done A R s _ (hlen ▸ hJ) hS fun h' tk k => ?_)))
    refine wpAny_pure ⟨.next, ρ, rfl, ?_, fun b o _ _ nw _ e => k b o nw e⟩
    have F' := K.fw.poke (h' := h') (tk := tk) (O' := O) wrW k (fun b hb => ⟨List.mem_append_right _ hb, by
      obtain ⟨o, e⟩ := K.fw.gs.low b (List.mem_append_right _ (List.mem_append_left _ (List.mem_append_right _ hb)))
      exact ⟨o, k b o (fun q => hdis b q hb) e⟩⟩) K.no.poke
    obtain ⟨ws, l, q⟩ := K.acc
    refine ⟨F', dO, K.dW, K.no, ws, l.at fun o e => k D o (fun q => (hfp D (It'.sub D q)).2.1 rfl) e, ?_⟩
    rw [List.append_nil]
    refine q.up (hid_up (fun b o nb e => k b o (fun z => nb (List.mem_append_right _ (List.mem_append_left _ (List.mem_append_left _ z)))) e) fun b o nb e z => nb ?_)
    simp only [List.mem_append] at z ⊢
    rcases z with z | z | z
    · exact .inl z
    · exact .inr (.inl (.inr z))
    · exact .inr (.inr z)
  | cons x rest ih =>
    intro done he τ ys τ' ht ρ zs s K hJ hS hl
    obtain ⟨y1, y2, τm, ⟨bs, hT, hbs, hact⟩, hrest, rfl⟩ := ht
    have hx : items[done.length]? = some x := by rw [he]; simp
    refine codeAny_of_tree ?_
    show wpAny _ A ((compTurn (.ListComp elt gens scope pos) d (.ref I) (.ref D) (cenvOf scope env L cs)).onRaise (fun x => do noteFrame x (cenvOf scope env L cs); theTreesLotGoes x)) _ _ s
    refine wpAny_noted (NoE.any ?_)
    rw [compTurn_eq elt gens scope pos d _ _ _ t i ifs hg ha' hi]
    refine wpAny_bind (wpAny_standAt (wpAny_bind (It'.item A R done.length x s _ hx hJ hS fun v h' tk k al hv go => ?_)))
    refine wpAny_bind (go t _ _ htk fun h'' tk'' hJ' k2 => ?_)
    have kk : ∀ b o, b ∉ wr → s.heap.get? b = some o → h''.get? b = some o := fun b o nb e => k2 b o nb (k b o nb e)
    have al2 := It'.alive _ _ hJ'
    have F2 := K.fw.poke (h' := h'') (tk := tk'') (O' := wr ++ O) wrW kk (fun b hb => ⟨hb, by
      rcases List.mem_append.mp hb with q | q
      · exact al2 b q
      · obtain ⟨o, e⟩ := K.fw.gs.low b (List.mem_append_right _ (List.mem_append_left _ (List.mem_append_right _ q)))
        exact ⟨o, kk b o (fun z => hdis b z q) e⟩⟩) K.no.poke
    have up2 : Sub (hid s.heap (W ++ ((wr ++ O) ++ M₀))) (hid h'' (W ++ ((wr ++ O) ++ M₀))) := hid_mono fun b o nb e => kk b o (fun z => nb (List.mem_append_right _ (List.mem_append_left _ (List.mem_append_left _ z)))) e
    have gs2 : Sub g h'' := fun b o e => kk b o (fun z => gd b o e (List.mem_append_right _ (List.mem_append_left _ (List.mem_append_left _ z)))) (hS b o e)
    have gh2 : Sub g (hid h'' (W ++ ((wr ++ O) ++ M₀))) := fun b o e => hid_get (gs2 b o e) (gd b o e)
    have rv : Rp C (hid h'' (W ++ ((wr ++ O) ++ M₀))) v x := by
      rcases hv with hv | ⟨T, vs, xs, rfl, rfl, l, q, fr⟩
      · exact hv.up gh2
      · have nT : T ∉ W ++ ((wr ++ O) ++ M₀) := fun z => by obtain ⟨o, e⟩ := K.fw.gs.low T z; rw [fr] at e; cases e
        have nw : T ∉ wr := fun z => nT (List.mem_append_right _ (List.mem_append_left _ (List.mem_append_left _ z)))
        exact .tup (l.at fun o e => hid_get (k2 T o nw e) nT) (q.up gh2)
    have hown : V.own x = false := own_rp rv
    refine wpAny_bind (assign_tgt (wv := wvOf scope) R hT F2 (rep_of rv) hown (fun b hb => ⟨(hbs b hb).1 L cs, (hbs b hb).2.1⟩) fun ρ3 s3 F3 k3 => ?_)
    obtain ⟨ws, l, q⟩ := K.acc
    have hD2 : ∀ o, s.heap.get? D = some o → h''.get? D = some o := fun o e => kk D o (fun z => (hfp D (It'.sub D z)).2.1 rfl) e
    have K3 : Cst C (wvOf scope) s₀ M₀ W (cenvOf scope env L cs) (bs ++ σ) τ (wr ++ O) ρ3 D zs s3 := ⟨F3, List.mem_append_right _ dO, K.dW, fun z w e => by
        rw [List.lookup_append] at e
        cases qq : bs.lookup z with
        | none => rw [qq] at e; exact K.no z w e
        | some w' =>
          rw [qq] at e; cases e
          exact hT.noOwn rv (z, w) (mem_of_lookup qq), ws, (l.at hD2).at fun o e => k3 D o K.dW e,
      (q.up up2).up (hid_mono fun b o nb e => k3 b o (fun z => nb (List.mem_append_left _ z)) e)⟩
    have hl1 : zs.length + y1.length ≤ sizeLine := by rw [List.length_append] at hl; lia
    have body := hact hown A R s₀ M₀ W L cs (wr ++ O) ρ3 D zs s3 K3 hl1
    have step : ∀ (u : Unit) (s4 : Shared), (∃ ρ', Cst C (wvOf scope) s₀ M₀ W (cenvOf scope env L cs) (bs ++ σ) τm (wr ++ O) ρ' D (zs ++ y1) s4 ∧ (∀ b o, b ∉ W → b ≠ D → C.T ≠ some b → s3.heap.get? b = some o → s4.heap.get? b = some o)) →
        wpAny (model C.prog C.w) A (again (.compLoop (.ListComp elt gens scope pos) d (.ref I) (.ref D) (cenvOf scope env L cs))) (fun fin s' => match fin with
          | .done f => ∃ f' ρ', (Except.ok f : Result) = .ok f' ∧ Cst C (wvOf scope) s₀ M₀ W (cenvOf scope env L cs) σ τ' O ρ' D (zs ++ (y1 ++ y2)) s' ∧ (∀ b o, b ∉ W → b ≠ D → b ∉ wr → C.T ≠ some b → s.heap.get? b = some o → s'.heap.get? b = some o)
          | .again c' => c'.quiet = true ∧ codeAny (model C.prog C.w) A c' (fun r s' => ∃ f ρ', r = .ok f ∧ Cst C (wvOf scope) s₀ M₀ W (cenvOf scope env L cs) σ τ' O ρ' D (zs ++ (y1 ++ y2)) s' ∧ (∀ b o, b ∉ W → b ≠ D → b ∉ wr → C.T ≠ some b → s.heap.get? b = some o → s'.heap.get? b = some o)) s') NoE s4 := by
      rintro u s4 ⟨ρ4, K4, k4⟩
      refine wpAny_pure ⟨rfl, ?_⟩
      have K4' : Cst C (wvOf scope) s₀ M₀ W (cenvOf scope env L cs) σ τm (wr ++ O) ρ4 D (zs ++ y1) s4 := ⟨K4.fw.forget fun z w e => lookup_append_none (fun b hb => (hbs b hb).2.2) e, K4.dO, K4.dW, K.no, K4.acc⟩
      have k24 : ∀ b o, b ∉ W → b ≠ D → C.T ≠ some b → h''.get? b = some o → s4.heap.get? b = some o := fun b o a1 a2 a3 e => k4 b o a1 a2 a3 (k3 b o a1 e)
      have gs4 : Sub g s4.heap := fun b o e => k24 b o (fun z => gd b o e (List.mem_append_left _ z)) (fun z => gd b o e (z ▸ List.mem_append_right _ (List.mem_append_left _ (List.mem_append_right _ dO)))) (notT b o e K.fw.mT) (gs2 b o e)
      have J4 : J (done ++ [x]).length s4.heap := by
        rw [List.length_append]
        exact It'.frame _ _ _ hJ' (fun b hb o e => k24 b o (hfp b hb).1 (hfp b hb).2.1 (hfp b hb).2.2 e) gs4
      have := ih (done ++ [x]) (by rw [he]; simp) τm y2 τ' hrest ρ4 (zs ++ y1) s4 K4' J4 gs4 (by simp only [List.length_append] at hl ⊢; lia)
      refine codeAny_mono this ?_
      rintro r s5 ⟨f, ρ5, rfl, K5, k5⟩
      exact ⟨f, ρ5, rfl, by rw [← List.append_assoc]; exact K5, fun b o a1 a2 a3 a4 e => k5 b o a1 a2 a3 a4 (k24 b o a1 a2 a4 (kk b o a3 e))⟩
    rw [then_eq]
    exact wpAny_bind (wpAny_mono body step fun _ _ x => x)

end
end Mine
namespace Mine

section
variable {C : Cx} {n : Nat} {env : Env} {σ σ' : List (Str × V)} {τ τ₁ τ₂ τ₃ : Option Nat} {wv : Str → Bool}

noncomputable def IterOf (C : Cx) (n : Nat) (x : V) (tt : Bool) (items : List V) : Prop := ∀ A, Room A n → ∀ M s v τ, Gs C M τ s → Rep C s.heap M v x →
  wpAny (model C.prog C.w) A (pyIter v) (fun it s' => ∃ I fp wr J, it = .ref I ∧ It C n (hid s.heap M) I fp wr tt items J ∧ J 0 s'.heap ∧ Keeps s s' ∧ (∀ b ∈ wr, s.heap.get? b = Option.none) ∧
    (∀ b ∈ fp, b ∈ wr ∨ ∃ o, (hid s.heap M).get? b = some o)) NoE s

noncomputable def IterE (C : Cx) (n : Nat) (iter : PySem.Expr) (env : Env) (σ : List (Str × V)) (τ : Option Nat) (tt : Bool) (items : List V) (τ' : Option Nat) : Prop := ∀ A, Room A n → ∀ M s, St C M env σ τ s →
  wpAny (model C.prog C.w) A (eval iter env) (fun v s₁ => ∃ sb, St C M env σ τ' sb ∧ Kept C s sb ∧ Keeps sb s₁ ∧ wpAny (model C.prog C.w) A (pyIter v) (fun it s' => ∃ I fp wr J, it = .ref I ∧ It C n (hid sb.heap M) I fp wr tt items J ∧ J 0 s'.heap ∧ Keeps sb s' ∧ (∀ b ∈ wr, sb.heap.get? b = Option.none) ∧
    (∀ b ∈ fp, b ∈ wr ∨ ∃ o, (hid sb.heap M).get? b = some o)) NoE s₁) NoE s

theorem IterE.of {iter : PySem.Expr} {x : V} {tt : Bool} {items : List V} (hx : Ev C n iter env σ τ x τ₁) (hit : IterOf C n x tt items) : IterE C n iter env σ τ tt items τ₁ := fun A R M s S =>
  wpAny_mono (hx A R M s S) (fun v s₁ zz => and3 zz fun S₁ r₁ k₁ => ⟨s₁, S₁, k₁, kpRfl s₁, hit A R M s₁ v τ₁ S₁.toGs r₁⟩) fun _ _ x => x

theorem Fw.leave {s₀ : Shared} {M₀ W O : List Addr} {ρ : Str → Option Value} {s : Shared} (F : Fw C wv s₀ M₀ W env σ τ O ρ s) {h' : Heap} {tk : Tok} (k : ∀ b o, b ∉ W → b ∉ O → s.heap.get? b = some o → h'.get? b = some o) :
    Gs C M₀ τ { s with heap := h', toks := tk } ∧ Kept C s₀ { s with heap := h', toks := tk } ∧ Sub (hid s.heap (W ++ (O ++ M₀))) (hid h' M₀) := by
  have less : ∀ b ∈ M₀, b ∈ W ++ (O ++ M₀) := fun b hb => List.mem_append_right _ (List.mem_append_right _ hb)
  have up : Sub (hid s.heap (W ++ (O ++ M₀))) (hid h' M₀) := hid_up (fun b o nb e => k b o (fun q => nb (List.mem_append_left _ q)) (fun q => nb (List.mem_append_right _ (List.mem_append_left _ q))) e) fun b o nb e q => nb (less b q)
  have old : ∀ b, (∃ o, s₀.heap.get? b = some o) → b ∉ W ∧ b ∉ O := fun b zz => by obtain ⟨o, e⟩ := zz; exact ⟨fun q => by (have z := F.fresh b (.inl q)); (rw [z] at e); (cases e), fun q => by (have z := F.fresh b (.inr q)); (rw [z] at e); (cases e)⟩
  refine ⟨⟨C.mono _ _ F.gs.base up, fun a m => ?_, F.mT, ?_⟩, ?_, up⟩
  · obtain ⟨o, e⟩ := F.gs.low a (less a m)
    have := old a (F.aM a m)
    exact ⟨o, k a o this.1 this.2 e⟩
  · have t := F.gs.tray
    cases τ with
    | none => trivial
    | some j =>
      obtain ⟨a, t1, t2, tk', n', b, x1, x2, x3⟩ := t
      have := old a (F.aM a (F.mT a x1))
      exact ⟨a, t1, t2, tk', n', b, x1, k a _ this.1 this.2 x2, x3.up up⟩
  · obtain ⟨h1, t1, rfl, k1⟩ := F.kept
    exact ⟨h', tk, rfl, fun b o t e => have := old b ⟨o, e⟩; k b o this.1 this.2 (k1 b o t e)⟩

theorem compStart_wp {A : Around} {s : Shared} {R : Result → Shared → Prop} {elt : PySem.Expr} {gens : List Comprehension} {scope : Scope} {pos : Pos} {d : Nat} {I D : Addr} {cenv : Env} {t i : PySem.Expr} {ifs : List PySem.Expr} {fp wr : List Addr} {tt : Bool} {items : List V} {J : Nat → Heap → Prop} {g : Heap}
    (Rm : Room A n) (hg : gens[d]? = some ⟨t, i, ifs, 0⟩) (It' : It C n g I fp wr tt items J) (hJ : J 0 s.heap)
    (h : codeAny (model C.prog C.w) A (.compLoop (.ListComp elt gens scope pos) d (.ref I) (.ref D) cenv) R s) : codeAny (model C.prog C.w) A (.compStart (.ListComp elt gens scope pos) d (.ref I) (.ref D) cenv) R s := by
  refine codeAny_of_tree ?_
  show wpAny _ A ((compStart (.ListComp elt gens scope pos) d (.ref I) (.ref D) cenv).onRaise (fun x => do noteFrame x cenv; standAt theWindowsPlace)) _ _ s
  refine wpAny_notedAt (NoE.any ?_)
  have hcl : (clausesOf (.ListComp elt gens scope pos))[d]? = some ⟨t, i, ifs, 0⟩ := hg
  unfold compStart
  rw [hcl]
  show wpAny _ _ (ask >>= _) _ _ s
  refine wpAny_bind (wpAny_askSetting (wpAny_ite ?_))
  split
  · first
      | exact wpAny_bind (wpAny_pure (wpAny_pure (And.intro rfl h)))
      | exact wpAny_pure (And.intro rfl h)
  · exact wpAny_bind (wpAny_rule (wpAny_bind (wpAny_standAt (wpAny_bind (It'.self A Rm 0 s _ hJ (wpAny_pure (And.intro rfl h)))))))

theorem comp_wp {A : Around} {M : List Addr} {s : Shared} {elt t iter : PySem.Expr} {ifs : List PySem.Expr} {rest : List Comprehension} {scope : Scope} {pos pos' : Pos} {tt : Bool} {items ys : List V} {use : Option (Value → Sem Unit)} {Q : Value → Shared → Prop}
    (R : Room A n) (S : St C M env σ τ s)
    (hx : IterE C n iter env σ τ tt items τ₁) (fl : Filt scope σ σ') (ok : compOk scope env = true) (kd : scope.kind = .function) (htk : tgtOk tt t = true) (hi : ifs.length ≤ 1) (ha' : ∀ g', (⟨t, iter, ifs, 0⟩ :: rest : List Comprehension)[0 + 1]? = some g' → g'.is_async = 0)
    (ht : Turns (CTurn C n elt (⟨t, iter, ifs, 0⟩ :: rest) scope pos 0 t ifs env σ') items τ₁ ys τ₂) (hl : ys.length ≤ sizeLine)
    (hs : ∀ x, foldedSetIterable iter env x = pure x)
    (h : ∀ s₁ W L cs D ρ s' f, St C M env σ τ₁ s₁ → Kept C s s₁ → Cst C (wvOf scope) s₁ M W (cenvOf scope env L cs) σ' τ₂ [D] ρ D ys s' → L ∈ W → (∀ b ∈ W, s₁.heap.get? b = Option.none) → compPost (model C.prog C.w) A NoE use Q (.ref D) L (.ok f) s') :
    wpAny (model C.prog C.w) A (comprehension (.ListComp elt (⟨t, iter, ifs, 0⟩ :: rest) scope pos) scope env pos' (newList []) false (eval iter env) use) Q NoE s := by
  obtain ⟨uniq, hfree⟩ := compOk_of ok
  have hclos : closureFor scope env = pure (closL env.cells scope.names []) := closureFor_of fun x hx => by
    obtain ⟨ρ₀, F₀, _⟩ := S.frame
    obtain ⟨c, e, _⟩ := F₀.cell x (hfree x hx)
    exact ⟨c, e⟩
  refine wpAny_comprehension_free rfl hs hclos kd (fun y hy hl => by obtain ⟨y1, y2⟩ := y; simp only at hl; subst hl; exact uniq y1 _ hy) ?_
  refine wpAny_mono (hx A R M s S) (fun v s₁' zz => ?_) fun _ _ x => x
  obtain ⟨s₁, S₁, k₁, _, hpy⟩ := zz
  refine wpAny_mono hpy (fun it s₂ zz => ?_) fun _ _ x => x
  obtain ⟨I, fp, wr, J, e, It', hJ, k₂, fwr, ffp⟩ := zz
  subst e
  refine wpAny_newList ?_ (by rw [sizeLine_eq]; exact Nat.zero_le _)
  generalize hD : s₂.heap.objs.size = D
  generalize hs3 : ({ s₂ with heap := s₂.heap.push { cls := .type "list", data := .seq ([] : List Value).toArray } } : Shared) = s₃
  have k23 : Keeps s₂ s₃ := hs3 ▸ kpPush _ _
  have k13 : Keeps s₁ s₃ := kpTrans k₂ k23
  have dfr : s₁.heap.get? D = Option.none := by
    cases q : s₁.heap.get? D with
    | none => rfl
    | some o =>
      obtain ⟨h', tk, rfl, k⟩ := k₂
      have := Heap.lt_size (k _ _ q)
      rw [hD] at this
      exact absurd this (Nat.lt_irrefl _)
  have lD : IsLst s₃.heap D [] := by rw [← hs3, ← hD]; exact ⟨0, Heap.get?_push_size _ rfl⟩
  have J3 : J 0 s₃.heap := by
    have q : Sub s₂.heap s₃.heap := by obtain ⟨h', tk, rfl, k⟩ := k23; exact k
    have q2 : Sub (hid s₁.heap M) s₃.heap := by
      obtain ⟨h', tk, e, k⟩ := k13; rw [e]; exact fun b o e => k b o (hid_sub _ _ _ _ e)
    exact It'.frame 0 _ _ hJ (fun b _ o e => q b o e) q2
  have frO : ∀ a ∈ wr ++ [D], s₁.heap.get? a = Option.none := fun a ha => by
    rcases List.mem_append.mp ha with h | h
    · exact fwr a h
    · simp at h; subst h; exact dfr
  have sub13 : Sub s₁.heap s₃.heap := by obtain ⟨h', tk, e, k⟩ := k13; rw [e]; exact k
  have G3 : Gs C ((wr ++ [D]) ++ M) τ₁ s₃ := by
    have := S₁.toGs.more (N := wr ++ [D]) (tk := s₃.toks) sub13 frO fun a ha => by
      rcases List.mem_append.mp ha with h | h
      · exact It'.alive 0 _ J3 a h
      · simp at h; subst h; obtain ⟨_, e⟩ := lD; exact ⟨_, e⟩
    obtain ⟨h', tk, rfl, k⟩ := k13
    exact this
  refine comp_enter S₁ k13 G3 frO ok kd fl fun L cs W ρ s₄ F k34 frW hLW e he => ?_
  subst he
  rw [← S.glob.2.1]
  show codeAny _ _ (.compStart (.ListComp elt (⟨t, iter, ifs, 0⟩ :: rest) scope pos) 0 (.ref I) (.ref D) (cenvOf scope env L cs)) _ _
  have sub34 : Sub s₃.heap s₄.heap := by obtain ⟨h', tk, e, k⟩ := k34; rw [e]; exact k
  have sub14 := sub13.trans sub34
  have J4 : J 0 s₄.heap := It'.frame 0 _ _ J3 (fun b _ o e => sub34 b o e) fun b o e => sub14 b o (hid_sub _ _ _ _ e)
  have dW : D ∉ W := fun q => by obtain ⟨_, e⟩ := lD; rw [frW D q] at e; cases e
  have aliveS3 : ∀ b ∈ fp, ∃ o, s₃.heap.get? b = some o := fun b hb => by
    rcases ffp b hb with h | ⟨o, e⟩
    · exact It'.alive 0 _ J3 b h
    · exact ⟨o, sub13 b o (hid_sub _ _ _ _ e)⟩
  have wrD : ∀ b ∈ fp, b ≠ D := fun b hb q => by
    subst q
    rcases ffp b hb with h | ⟨o, e⟩
    · have a1 := It'.alive 0 _ hJ b h
      obtain ⟨o, e⟩ := a1
      have := Heap.lt_size e
      rw [hD] at this
      exact absurd this (Nat.lt_irrefl _)
    · have := hid_sub _ _ _ _ e; rw [dfr] at this; cases this
  have K0 : Cst C (wvOf scope) s₁ M W (cenvOf scope env L cs) σ' τ₁ (wr ++ [D]) ρ D [] s₄ := ⟨F, by simp, dW, fun y z e => (fl.of y z e).2.2, [], lD.up sub34, .nil⟩
  have W1 : ∀ b ∈ W, s₁.heap.get? b = Option.none := fun b hb => F.fresh b (.inl hb)
  refine compStart_wp (cenv := cenvOf scope env L cs) R (d := 0) rfl It' J4 ?_
  refine codeAny_mono (comp_loop (O := [D]) R rfl ha' hi htk It' (fun b hb => ⟨fun q => ?_, wrD b hb, fun q => ?_⟩) (fun b hb q => ?_) (fun b o e q => ?_) (by simp) items [] rfl τ₁ ys τ₂ ht ρ [] s₄ K0 J4 (fun b o e => sub14 b o (hid_sub _ _ _ _ e)) (by simpa using hl)) ?_
  · obtain ⟨o, e⟩ := aliveS3 b hb; rw [frW b q] at e; cases e
  · rcases ffp b hb with h | ⟨o, e⟩
    · obtain ⟨o, e⟩ := S₁.low b (S₁.mT b q); rw [fwr b h] at e; cases e
    · exact hid_not e (S₁.mT b q)
  · simp at q; exact wrD b (It'.sub b hb) q
  · have nM := hid_not e
    have e1 := hid_sub _ _ _ _ e
    simp only [List.mem_append, List.mem_singleton] at q
    rcases q with q | (q | q) | q
    · rw [W1 b q] at e1; cases e1
    · rw [fwr b q] at e1; cases e1
    · rw [q, dfr] at e1; cases e1
    · exact nM q
  · rintro r s5 ⟨f, ρ5, rfl, K5, k5⟩
    exact h s₁ W L cs D ρ5 s5 f S₁ k₁ K5 hLW W1

theorem EvN_comp {elt t iter : PySem.Expr} {ifs : List PySem.Expr} {rest : List Comprehension} {scope : Scope} {pos : Pos} {tt : Bool} {items ys : List V}
    (hx : IterE C n iter env σ τ tt items τ₁) (fl : Filt scope σ σ')
    (ht : Turns (CTurn C n elt (⟨t, iter, ifs, 0⟩ :: rest) scope pos 0 t ifs env σ') items τ₁ ys τ₂) (hl : ys.length ≤ sizeLine)
    (ok : compOk scope env = true) (kd : scope.kind = .function) (htk : tgtOk tt t = true) (hi : ifs.length ≤ 1) (ha' : ∀ g', (⟨t, iter, ifs, 0⟩ :: rest : List Comprehension)[0 + 1]? = some g' → g'.is_async = 0)
    (hs : ∀ x, foldedSetIterable iter env x = pure x) : EvN C n (.ListComp elt (⟨t, iter, ifs, 0⟩ :: rest) scope pos) env σ τ ys τ₂ := fun A R M s S => by
  rw [eval_ListComp]
  refine comp_wp R S hx fl ok kd htk hi ha' ht hl hs fun s₁ W L cs D ρ s' f S₁ k₁ K hLW frW => ?_
  obtain ⟨m, hn, _⟩ := K.fw.frame.ns
  refine ⟨m, hn, fun h' sb => ?_⟩
  have ne : ∀ b, b ∉ W → b ≠ L := fun b nb q => nb (q ▸ hLW)
  obtain ⟨G, kk, up⟩ := K.fw.leave (h' := h') (tk := s'.toks) fun b o nW nO e => (sb.2 b (ne b nW)).trans e
  obtain ⟨ws, l, q⟩ := K.acc
  have dn : s₁.heap.get? D = Option.none := K.fw.fresh D (.inr (by simp))
  have dM : D ∉ M := fun z => by obtain ⟨o, e⟩ := S₁.low D z; rw [dn] at e; cases e
  have GD : Gs C (D :: M) τ₂ { s' with heap := h', toks := s'.toks } := by
    have sub : ∀ a ∈ D :: M, a ∈ W ++ ([D] ++ M) := fun a ha => List.mem_append_right _ (by simpa using ha)
    have up' : Sub (hid s'.heap (W ++ ([D] ++ M))) (hid h' (D :: M)) := hid_up (fun b o nb e => (sb.2 b (ne b fun z => nb (List.mem_append_left _ z))).trans e) fun b o nb e q => nb (sub b q)
    exact ⟨C.mono _ _ K.fw.gs.base up', fun a ha => by
      rcases List.mem_cons.mp ha with rfl | ha
      · obtain ⟨_, e⟩ := l; exact ⟨_, (sb.2 _ (ne _ K.dW)).trans e⟩
      · exact G.low a ha, fun a q => List.mem_cons_of_mem _ (S₁.mT a q), by
      have t := K.fw.gs.tray
      cases τ₂ with
      | none => trivial
      | some j =>
        obtain ⟨a, t1, t2, tk', n', b, x1, x2, x3⟩ := t
        refine ⟨a, t1, t2, tk', n', b, x1, (sb.2 a (ne a fun z => ?_)).trans x2, x3.up up'⟩
        obtain ⟨o, e⟩ := S₁.low a (S₁.mT a x1)
        rw [frW a z] at e; cases e⟩
  refine ⟨S₁.kept kk G, ⟨D, ws, rfl, ?_, dM, l.at fun o e => (sb.2 D (ne D K.dW)).trans e, GD, ?_⟩, k₁.trans kk⟩
  · cases z : s.heap.get? D with
    | none => rfl
    | some o =>
      by_cases t : C.T = some D
      · exact absurd (S.mT D t) dM
      · obtain ⟨h1, t1, rfl, k1⟩ := k₁
        have := k1 D o t z
        rw [dn] at this; cases this
  · have sub : ∀ a ∈ D :: M, a ∈ W ++ ([D] ++ M) := fun a ha => List.mem_append_right _ (by simpa using ha)
    have up' : Sub (hid s'.heap (W ++ ([D] ++ M))) (hid h' (D :: M)) := hid_up (fun b o nb e => (sb.2 b (ne b fun z => nb (List.mem_append_left _ z))).trans e) fun b o nb e q => nb (sub b q)
    simpa using q.up up'

end
end Mine
namespace Mine

section
variable {C : Cx} {n : Nat} {env : Env} {σ σ' : List (Str × V)} {τ τ₁ τ₂ τ₃ : Option Nat} {wv : Str → Bool}

theorem emit_wp {A : Around} {elt : PySem.Expr} {gens : List Comprehension} {scope : Scope} {pos : Pos} {d : Nat} {s₀ : Shared} {M₀ W : List Addr} {L D : Addr} {cs : List (Str × Addr)} {O : List Addr} {ρ : Str → Option Value} {zs : List V} {y : V} {s : Shared}
    (R : Room A n) (hn : gens[d + 1]? = Option.none) (he : Ev C n elt (cenvOf scope env L cs) σ τ y τ₁) (hp : y.pure = true) (K : Cst C wv s₀ M₀ W (cenvOf scope env L cs) σ τ O ρ D zs s) (hl : zs.length + [y].length ≤ sizeLine) :
    wpAny (model C.prog C.w) A (cAct elt gens scope pos d (.ref D) (cenvOf scope env L cs))
      (fun _ s' => ∃ ρ', Cst C wv s₀ M₀ W (cenvOf scope env L cs) σ τ₁ O ρ' D (zs ++ [y]) s' ∧ (∀ b o, b ∉ W → b ≠ D → C.T ≠ some b → s.heap.get? b = some o → s'.heap.get? b = some o)) NoE s := by
  unfold cAct
  rw [hn]
  refine wpAny_bind (wpAny_mono (he A R _ s K.fw.st) (fun v s₁ zz => and3 zz fun S₁ r₁ k₁ => ?_) fun _ _ x => x)
  have F₁ := K.fw.then k₁ S₁.toGs
  obtain ⟨ws, l, q⟩ := K.acc
  have DM : D ∈ W ++ (O ++ M₀) := List.mem_append_right _ (List.mem_append_left _ K.dO)
  have tD : C.T ≠ some D := fun t => by
    obtain ⟨o, e⟩ := K.fw.aM D (K.fw.mT D t)
    rw [K.fw.fresh D (.inr K.dO)] at e; cases e
  obtain ⟨h₁, tk, rfl, kk⟩ := k₁
  have l₁ : IsLst h₁ D ws := l.at fun o e => kk D o tD e
  have q₁ : RpL C (hid h₁ (W ++ (O ++ M₀))) ws zs := q.up (hid_mono fun b o nb e => kk b o (fun t => nb (List.mem_append_right _ (List.mem_append_right _ (K.fw.mT b t)))) e)
  have hsz : ws.toArray.size ≤ sizeLine := by
    have := q.length
    simp only [List.length_cons, List.length_nil] at hl
    rw [List.size_toArray]; lia
  refine wpAny_bind (wpAny_list_append_plain (items := ws.toArray) l₁ (fun h' hl' sb => wpAny_pure ?_) hsz)
  have F₂ := F₁.poke (X := [D]) (h' := h') (tk := tk) (O' := O) (fun b hb => by simp at hb; subst hb; exact ⟨K.dO, K.dW⟩) (fun b o nb e => (sb.2 b (fun q => nb (by simp [q]))).trans e) (fun b hb => ⟨hb, by
    by_cases z : b = D
    · subst z; obtain ⟨_, e⟩ := hl'; exact ⟨_, e⟩
    · obtain ⟨o, e⟩ := F₁.gs.low b (List.mem_append_right _ (List.mem_append_left _ hb)); exact ⟨o, (sb.2 b z).trans e⟩⟩) K.no.poke
  have up : Sub (hid h₁ (W ++ (O ++ M₀))) (hid h' (W ++ (O ++ M₀))) := hid_mono fun b o nb e => (sb.2 b fun q => nb (q ▸ DM)).trans e
  refine ⟨ρ, ⟨F₂, K.dO, K.dW, K.no, ws ++ [v], ?_, (q₁.up up).app (.cons (((rep_pure hp).mp r₁).up up) .nil)⟩, fun b o nW nD nT e => (sb.2 b nD).trans (kk b o nT e)⟩
  obtain ⟨m, e⟩ := hl'
  exact ⟨m, by rw [e]; simp⟩

theorem CAct_emit {elt : PySem.Expr} {gens : List Comprehension} {scope : Scope} {pos : Pos} {d : Nat} {y : V} (he : ∀ L cs, Ev C n elt (cenvOf scope env L cs) σ τ y τ₁) (hp : y.pure = true) (hn : gens[d + 1]? = Option.none) :
    CAct C n elt gens scope pos d [] env σ τ [y] τ₁ := fun A R s₀ M₀ W L cs O ρ D zs s K hl => emit_wp R hn (he L cs) hp K hl

theorem CAct_if {elt c : PySem.Expr} {gens : List Comprehension} {scope : Scope} {pos : Pos} {d : Nat} {y : V} {b : Bool} {ys : List V} (hc : ∀ L cs, Tst C n c (cenvOf scope env L cs) σ τ b τ₁)
    (he : b = true → (∀ L cs, Ev C n elt (cenvOf scope env L cs) σ τ₁ y τ₂) ∧ y.pure = true ∧ ys = [y]) (hf : b = false → τ₁ = τ₂ ∧ ys = []) (hn : gens[d + 1]? = Option.none) :
    CAct C n elt gens scope pos d [c] env σ τ ys τ₂ := fun A R s₀ M₀ W L cs O ρ D zs s K hl => by
  show wpAny _ _ (do let ok ← isTrue c (cenvOf scope env L cs) (eval c (cenvOf scope env L cs)); if ok then cAct elt gens scope pos d (.ref D) (cenvOf scope env L cs)) _ _ _
  refine wpAny_bind (wpAny_mono (hc L cs A R _ s K.fw.st) (fun v s₁ zz => and3 zz fun e S₁ k₁ => ?_) fun _ _ x => x)
  subst e
  have tD : C.T ≠ some D := fun t => by
    obtain ⟨o, e⟩ := K.fw.aM D (K.fw.mT D t)
    rw [K.fw.fresh D (.inr K.dO)] at e; cases e
  have F₁ := K.fw.then k₁ S₁.toGs
  obtain ⟨h₁, tk, rfl, kk⟩ := k₁
  obtain ⟨ws, l, q⟩ := K.acc
  have K₁ : Cst C (wvOf scope) s₀ M₀ W (cenvOf scope env L cs) σ τ₁ O ρ D zs { s with heap := h₁, toks := tk } := ⟨F₁, K.dO, K.dW, K.no, ws, l.at fun o e => kk D o tD e,
    q.up (hid_mono fun b o nb e => kk b o (fun t => nb (List.mem_append_right _ (List.mem_append_right _ (K.fw.mT b t)))) e)⟩
  cases v with
  | false =>
    obtain ⟨rfl, rfl⟩ := hf rfl
    exact wpAny_pure ⟨ρ, by rw [List.append_nil]; exact K₁, fun b o _ _ t e => kk b o t e⟩
  | true =>
    obtain ⟨h1, h2, rfl⟩ := he rfl
    exact wpAny_mono (emit_wp R hn (h1 L cs) h2 K₁ hl) (fun _ s₂ zz => by obtain ⟨ρ', K', k'⟩ := zz; exact ⟨ρ', K', fun b o a1 a2 a3 e => k' b o a1 a2 a3 (kk b o a3 e)⟩) fun _ _ x => x

theorem CAct_nest {elt t' iter' : PySem.Expr} {ifs' : List PySem.Expr} {gens : List Comprehension} {scope : Scope} {pos : Pos} {d : Nat} {tt : Bool} {items ys : List V}
    (hit : ∀ L cs, IterE C n iter' (cenvOf scope env L cs) σ τ tt items τ₁) (ht : Turns (CTurn C n elt gens scope pos (d + 1) t' ifs' env σ) items τ₁ ys τ₂)
    (hg : gens[d + 1]? = some ⟨t', iter', ifs', 0⟩) (ha' : ∀ g', gens[d + 1 + 1]? = some g' → g'.is_async = 0) (hi : ifs'.length ≤ 1) (htk : tgtOk tt t' = true) (hs : ∀ e x, foldedSetIterable iter' e x = pure x) :
    CAct C n elt gens scope pos d [] env σ τ ys τ₂ := fun A R s₀ M₀ W L cs O ρ D zs s K hl => by
  show wpAny _ _ (cAct elt gens scope pos d (.ref D) (cenvOf scope env L cs)) _ _ _
  unfold cAct
  rw [hg]
  have DM : D ∈ W ++ (O ++ M₀) := List.mem_append_right _ (List.mem_append_left _ K.dO)
  have tD : C.T ≠ some D := fun t => by
    obtain ⟨o, e⟩ := K.fw.aM D (K.fw.mT D t)
    rw [K.fw.fresh D (.inr K.dO)] at e; cases e
  refine wpAny_bind (wpAny_mono (hit L cs A R _ s K.fw.st) (fun v s₁' zz => ?_) fun _ _ x => x)
  obtain ⟨s₁, S₁, k₁, k11, hpy⟩ := zz
  refine wpAny_bind (wpAny_standAt ?_)
  rw [hs]
  refine wpAny_bind (wpAny_pure ?_)
  refine wpAny_bind (wpAny_holding (wpAny_mono hpy (fun it s₂ zz => ?_) fun _ _ x => x))
  obtain ⟨I, fp, wr, J, e, It', hJ, k₂, fwr, ffp⟩ := zz
  subst e
  have F₁ := K.fw.then k₁ S₁.toGs
  obtain ⟨h₁, tk₁, rfl, kk⟩ := k₁
  have al1 : ∀ a ∈ W ++ (O ++ M₀), ∃ o, h₁.get? a = some o := F₁.gs.low
  have F₂ := F₁.addO (N := wr) k₂ fwr (It'.alive 0 _ hJ) K.no fun a ha => by
    cases q : s₀.heap.get? a with
    | none => rfl
    | some o =>
      by_cases t : C.T = some a
      · obtain ⟨o', e'⟩ := al1 a (F₁.gs.mT a t)
        have := fwr a ha; rw [show ({ s with heap := h₁, toks := tk₁ } : Shared).heap = h₁ from rfl] at this
        rw [this] at e'; cases e'
      · obtain ⟨h0, t0, e0, kk0⟩ := F₁.kept
        have hh : h₁ = h0 := congrArg Shared.heap e0
        have := fwr a ha
        have z := kk0 a o t q
        rw [← hh] at z
        rw [show ({ s with heap := h₁, toks := tk₁ } : Shared).heap = h₁ from rfl, z] at this
        cases this
  obtain ⟨h₂, tk₂, rfl, kk₂⟩ := k₂
  have kk₂' : Sub h₁ h₂ := kk₂
  obtain ⟨ws, l, q⟩ := K.acc
  have l₁ : IsLst h₁ D ws := l.at fun o e => kk D o tD e
  have q₁ : RpL C (hid h₁ (W ++ (O ++ M₀))) ws zs := q.up (hid_mono fun b o nb e => kk b o (fun t => nb (List.mem_append_right _ (List.mem_append_right _ (K.fw.mT b t)))) e)
  have wrN : ∀ b ∈ wr, h₁.get? b = Option.none := fwr
  have up12 : Sub (hid h₁ (W ++ (O ++ M₀))) (hid h₂ (W ++ ((wr ++ O) ++ M₀))) := hid_up (fun b o _ e => kk₂' b o e) fun b o nb e z => by
    simp only [List.mem_append] at z nb
    rcases z with z | (z | z) | z
    · exact nb (.inl z)
    · rw [wrN b z] at e; cases e
    · exact nb (.inr (.inl z))
    · exact nb (.inr (.inr z))
  have K₂ : Cst C (wvOf scope) s₀ M₀ W (cenvOf scope env L cs) σ τ₁ (wr ++ O) ρ D zs { s with heap := h₂, toks := tk₂ } := ⟨F₂, List.mem_append_right _ K.dO, K.dW, K.no, ws, l₁.up kk₂', q₁.up up12⟩
  have apart : ∀ b ∈ fp, ∀ M' : List Addr, (∀ a ∈ M', a ∈ W ++ (O ++ M₀)) → b ∉ M' := fun b hb M' hM q => by
    rcases ffp b hb with h | ⟨o, e⟩
    · obtain ⟨o, e⟩ := al1 b (hM b q); rw [wrN b h] at e; cases e
    · exact hid_not e (hM b q)
  show wpAny _ _ (do let _ ← runOwn (.compStart (.ListComp elt gens scope pos) (d + 1) (.ref I) (.ref D) (cenvOf scope env L cs)) (cenvOf scope env L cs); pure ()) _ _ _
  refine wpAny_bind (wpAny_runOwn (h := none) ?_)
  refine compStart_wp (cenv := cenvOf scope env L cs) R (d := d + 1) hg It' hJ ?_
  refine codeAny_mono (comp_loop (O := O) R hg ha' hi htk It' (fun b hb => ⟨apart b hb W fun a ha => List.mem_append_left _ ha, fun q => apart b hb [D] (fun a ha => by simp at ha; subst ha; exact DM) (by simp [q]), fun t => apart b hb _ (fun a ha => ha) (F₁.gs.mT b t)⟩)
    (fun b hb q => by
      obtain ⟨o, e⟩ := al1 b (List.mem_append_right _ (List.mem_append_left _ q)); rw [wrN b hb] at e; cases e)
    (fun b o e q => by
      have nM := hid_not e
      have e1 := hid_sub _ _ _ _ e
      simp only [List.mem_append] at q nM
      rcases q with q | (q | q) | q
      · exact nM (.inl q)
      · rw [show ({ s with heap := h₁, toks := tk₁ } : Shared).heap = h₁ from rfl, wrN b q] at e1; cases e1
      · exact nM (.inr (.inl q))
      · exact nM (.inr (.inr q))) K.dO items [] rfl τ₁ ys τ₂ ht ρ zs _ K₂ hJ (fun b o e => kk₂' b o (hid_sub _ _ _ _ e)) hl) ?_
  rintro r s5 ⟨f, ρ5, rfl, K5, k5⟩
  refine wpAny_pure ⟨ρ5, K5, fun b o a1 a2 a3 e => k5 b o a1 a2 (fun z => ?_) a3 (kk₂' b o (kk b o a3 e))⟩
  have z' := wrN b z
  rw [kk b o a3 e] at z'; cases z'

end
end Mine
namespace Mine

theorem go_plain {M : Model} {A : Around} {E : Value → Shared → Prop} {s : Shared} {t : PySem.Expr} {v : Value} {I : Addr} {o : Obj} {nm : String} {Q : Unit → Shared → Prop} (ho : s.heap.get? I = some o) (hc : o.cls = .type nm)
    (hn : (["enumerate", "zip", "dict_itemiterator", "dict_reverseitemiterator", "odict_iterator", "itertools.zip_longest", "itertools.pairwise"] : List String).contains nm = false) (h : Q () s) : wpAny M A (letOwnedTupleGo t (.ref I) v) Q E s := by
  have main : wpAny M A (do
      let (.ref r, .ref a) := (Value.ref I, v) | return
      let o ← load r
      match o.cls, o.data with
      | .type n, .fields vs =>
        if ["enumerate", "zip", "dict_itemiterator", "dict_reverseitemiterator", "odict_iterator", "itertools.zip_longest", "itertools.pairwise"].contains n && vs[0]? == some (rawInt a) then
          rule "for.unpacks-the-owned-tuple"
          updateField r 0 .none
      | _, _ => pure ()) Q E s := by
    cases v with
    | ref a =>
      refine wpAny_bind (wpAny_load ho ?_)
      rw [hc]
      cases o.data <;> first | exact wpAny_pure h | skip
      rename_i vs
      show wpAny M A (if ((["enumerate", "zip", "dict_itemiterator", "dict_reverseitemiterator", "odict_iterator", "itertools.zip_longest", "itertools.pairwise"] : List String).contains nm && vs[0]? == some (rawInt (a : Int))) = true then _ else _) Q E s
      rw [hn, Bool.false_and, if_neg Bool.false_ne_true]
      exact wpAny_pure h
    | _ => exact wpAny_pure h
  unfold letOwnedTupleGo
  cases t <;> first | exact main | exact wpAny_pure h

section
variable {C : Cx} {n : Nat} {env : Env} {σ σ' : List (Str × V)} {τ τ₁ τ₂ τ₃ : Option Nat} {wv : Str → Bool}

theorem It_list {g : Heap} {I a : Addr} {vs : List Value} {xs : List V} (hl : g.IsList a vs.toArray) (q : RpL C g vs xs) (hI : g.get? I = Option.none) : It C n g I [I] [I] false xs (fun i h => h.IsListIter I a i ∧ Sub g h) where
  sub := fun _ hb => hb
  alive := fun i h zz b hb => by obtain ⟨⟨o, e, _⟩, _⟩ := zz; simp at hb; subst hb; exact ⟨o, e⟩
  frame := fun i h h' zz k s => and2 zz fun j _ => ⟨j.at fun o e => k I (by simp) o e, s⟩
  self := fun A R i s Q zz hq => and2 zz fun j _ => wpAny_pyIter_listiter j hq
  item := fun A R i x s Q hx zz _ h => and2 zz fun j sg => by
    obtain ⟨v, hv, rv⟩ := q.get hx
    have aI : a ≠ I := fun z => by obtain ⟨o, e, _⟩ := hl; rw [z, hI] at e; cases e
    refine wpAny_pyNext_list_item j (hl.at fun o e => sg _ _ e) (x := v) (by simpa using hv) fun h' j' sb => ?_
    have ex : ∀ b o, b ∉ [I] → s.heap.get? b = some o → h'.get? b = some o := fun b o nb e => (sb.2 b (by simpa using nb)).trans e
    have sg' : Sub g h' := fun b o e => ex b o (fun z => by simp at z; subst z; rw [hI] at e; cases e) (sg b o e)
    refine h v h' s.toks ex (fun b hb => by simp at hb; subst hb; obtain ⟨o, e, _⟩ := j'; exact ⟨o, e⟩) (.inl rv) fun t Q' tk' _ hq => ?_
    obtain ⟨o, e, c, _⟩ := id j'
    exact go_plain (nm := "list_iterator") e c (by decide) (hq h' tk' ⟨j', sg'⟩ fun b o _ e => e)
  done := fun A R s Q zz _ h => and2 zz fun j sg => wpAny_pyNext_list_end R.hd j (hl.at fun o e => sg _ _ e) (by simp [q.length]) fun h' ex => h h' s.toks fun b o nb e => ex b o (by simpa using nb) e

theorem It_tuple {g : Heap} {I a : Addr} {vs : List Value} {xs : List V} (hl : IsTup g a vs) (q : RpL C g vs xs) (hI : g.get? I = Option.none) : It C n g I [I] [I] false xs (fun i h => h.IsTupleIter I a i ∧ Sub g h) where
  sub := fun _ hb => hb
  alive := fun i h zz b hb => by obtain ⟨⟨o, e, _⟩, _⟩ := zz; simp at hb; subst hb; exact ⟨o, e⟩
  frame := fun i h h' zz k s => and2 zz fun j _ => ⟨j.at fun o e => k I (by simp) o e, s⟩
  self := fun A R i s Q zz hq => and2 zz fun j _ => wpAny_pyIter_tupleiter j hq
  item := fun A R i x s Q hx zz _ h => and2 zz fun j sg => by
    obtain ⟨v, hv, rv⟩ := q.get hx
    have aI : a ≠ I := fun z => by obtain ⟨o, n, e, _⟩ := hl; rw [z, hI] at e; cases e
    refine wpAny_pyNext_tuple_item j (hl.up sg).isTuple (x := v) (by simpa using hv) fun h' j' sb => ?_
    have ex : ∀ b o, b ∉ [I] → s.heap.get? b = some o → h'.get? b = some o := fun b o nb e => (sb.2 b (by simpa using nb)).trans e
    have sg' : Sub g h' := fun b o e => ex b o (fun z => by simp at z; subst z; rw [hI] at e; cases e) (sg b o e)
    refine h v h' s.toks ex (fun b hb => by simp at hb; subst hb; obtain ⟨o, e, _⟩ := j'; exact ⟨o, e⟩) (.inl rv) fun t Q' tk' _ hq => ?_
    obtain ⟨o, e, c, _⟩ := id j'
    exact go_plain (nm := "tuple_iterator") e c (by decide) (hq h' tk' ⟨j', sg'⟩ fun b o _ e => e)
  done := fun A R s Q zz _ h => and2 zz fun j sg => wpAny_pyNext_tuple_end R.hd j (hl.up sg).isTuple (by simp [q.length]) fun h' ex => h h' s.toks fun b o nb e => ex b o (by simpa using nb) e

theorem hid_size_none {h : Heap} {M : List Addr} : (hid h M).get? h.objs.size = Option.none := by
  cases e : (hid h M).get? h.objs.size with
  | none => rfl
  | some o => exact absurd (Heap.lt_size (hid_sub _ _ _ _ e)) (Nat.lt_irrefl _)

theorem IterOf_lst {xs : List V} : IterOf C n (.lst xs) false xs := fun A R M s v τ G r => by
  obtain ⟨a, vs, rfl, l, q⟩ := rep_lst r
  refine wpAny_pyIter_list (isList_of_hid l) ⟨s.heap.objs.size, [s.heap.objs.size], [s.heap.objs.size], _, rfl, It_list l q hid_size_none, ⟨⟨_, Heap.get?_push_size _ rfl, rfl, rfl⟩, fun b o e => Heap.get?_push_of_some _ (hid_sub _ _ _ _ e)⟩, kpPush _ _, fun b hb => ?_, fun b hb => .inl hb⟩
  simp at hb; subst hb; exact size_none _
theorem IterOf_tup {xs : List V} : IterOf C n (.tup xs) false xs := fun A R M s v τ G r => by
  obtain ⟨a, vs, rfl, l, q⟩ := rep_tup r
  refine wpAny_pyIter_tuple l.of_hid.isTuple ⟨s.heap.objs.size, [s.heap.objs.size], [s.heap.objs.size], _, rfl, It_tuple l q hid_size_none, ⟨⟨_, Heap.get?_push_size _ rfl, rfl, rfl⟩, fun b o e => Heap.get?_push_of_some _ (hid_sub _ _ _ _ e)⟩, kpPush _ _, fun b hb => ?_, fun b hb => .inl hb⟩
  simp at hb; subst hb; exact size_none _

noncomputable def upto (k : Nat) : List V := (List.range k).map fun (i : Nat) => .int (i : Int)
theorem It_range {g : Heap} {I : Addr} {k : Nat} (hI : g.get? I = Option.none) : It C n g I [I] [I] false (upto k) (fun i h => IsRangeIter h I (0 + (i : Nat) * 1) ((k : Int) - (i : Nat)) 1 ∧ Sub g h) where
  sub := fun _ hb => hb
  alive := fun i h zz b hb => and2 zz fun j _ => by simp at hb; subst hb; exact ⟨_, j⟩
  frame := fun i h h' zz k s => and2 zz fun j _ => ⟨k I (by simp) _ j, s⟩
  self := fun A R i s Q zz hq => and2 zz fun j _ => wpAny_pyIter_rangeiter j hq
  item := fun A R i x s Q hx zz _ h => and2 zz fun j sg => by
    have hi : i < k := by
      have := (List.getElem?_eq_some_iff.mp hx).1
      simpa [upto] using this
    have hxi : x = .int (i : Int) := by simp [upto, hi] at hx; exact hx.symm
    subst hxi
    refine wpAny_pyNext_range_item j (by lia) fun h' j' sb => ?_
    have ex : ∀ b o, b ∉ [I] → s.heap.get? b = some o → h'.get? b = some o := fun b o nb e => (sb.2 b (by simpa using nb)).trans e
    have sg' : Sub g h' := fun b o e => ex b o (fun z => by simp at z; subst z; rw [hI] at e; cases e) (sg b o e)
    have e1 : (0 : Int) + ((i + 1 : Nat) : Int) * 1 = 0 + (i : Int) * 1 + 1 := by push_cast; rfl
    have e2 : (k : Int) - ((i + 1 : Nat) : Int) = (k : Int) - (i : Int) - 1 := by push_cast; lia
    refine h _ h' _ ex (fun b hb => by simp at hb; subst hb; exact ⟨_, j'⟩) (.inl (by rw [show (0 : Int) + (i : Int) * 1 = (i : Int) by lia]; exact .int _ _)) fun t Q' tk' _ hq => ?_
    refine go_plain (nm := "range_iterator") j' rfl (by decide) (hq h' tk' ⟨by rw [e1, e2]; exact j', sg'⟩ fun b o _ e => e)
  done := fun A R s Q zz _ h => and2 zz fun j sg => wpAny_pyNext_range_end R.hd j (by simp [upto]) fun h' ex => h h' s.toks fun b o nb e => ex b o (by simpa using nb) e

theorem IterE_range {f p pos e} {k : Nat} (g : BuiltAt C f (.type "range")) (h : Ev C n e env σ τ (.int (k : Int)) τ₁) (kf : env.kindOf f = some .globalImplicit) (hk : k ≤ sizeLine)
    (hst : (starEach [e] env).any (·.1) = false := by rfl) (he : starEach [e] env = (false, eval e env) :: starEach [] env := by rfl) (hd : (f == ("__debug__" : Str)) = false := by decide) : IterE C n (.Call (.Name f p) [e] [] pos) env σ τ false (upto k) τ₁ := fun A R M s S => by
  show wpAny _ _ (do callWith pos (← eval (.Name f p) env) [] (backTo pos (starEach [e] env)) []) _ _ _
  refine wpAny_bind (wp_built S g kf hd ?_)
  refine callWith_type (by rw [backTo_any]; exact hst) (evalArgs_ev (EvL_cons h EvL_nil he) he R S fun vs s' S' r' k' => ?_)
  obtain ⟨v, rfl, r⟩ := repL_one r'
  obtain ⟨t, rfl⟩ := rep_int r
  have hk' : (k : Int) < 2 ^ 62 := by rw [sizeLine_eq] at hk; lia
  refine call_range_1 ⟨s', S', k', ⟨_, _, rfl, fun b o e => Heap.get?_push_of_some _ e⟩, ?_⟩
  refine wpAny_pyIter_range (IsRange.new ..) (small_one (a := 0) (b := (k : Int)) (by decide) (by decide) (Int.le_trans (by decide : (-(2 ^ 62) : Int) ≤ 0) (Int.natCast_nonneg k)) hk') ?_
  have sz : (s'.heap.push { cls := .type "range", data := .fields #[.int 0 s'.toks, .int (k : Int) t, .int 1 (s'.toks + 1)] }).objs.size = s'.heap.objs.size + 1 := Heap.size_push ..
  have fr : ∀ o, ¬ s'.heap.get? (s'.heap.objs.size + 1) = some o := fun o e => absurd (Heap.lt_size e) (Nat.not_lt.mpr (Nat.le_succ _))
  have hn : (hid s'.heap M).get? (s'.heap.objs.size + 1) = Option.none := by
    cases q : (hid s'.heap M).get? (s'.heap.objs.size + 1) with
    | none => rfl
    | some o => exact absurd (hid_sub _ _ _ _ q) (fr o)
  have hrs : Builtin.Range.rangeSize 0 (k : Int) 1 = (k : Int) := by rw [rangeSize_one]; split <;> (first | rfl | lia)
  dsimp only
  rw [sz, hrs]
  refine ⟨_, [s'.heap.objs.size + 1], [s'.heap.objs.size + 1], _, rfl, It_range (k := k) hn, ⟨?_, fun b o e => Heap.get?_push_of_some _ (Heap.get?_push_of_some _ (hid_sub _ _ _ _ e))⟩, ⟨_, _, rfl, fun b o e => Heap.get?_push_of_some _ (Heap.get?_push_of_some _ e)⟩, fun b hb => ?_, fun b hb => .inl hb⟩
  · show Heap.get? _ _ = _
    rw [← sz, Heap.get?_push_size _ rfl]
    simp [rawInt]
  · simp at hb; subst hb
    cases q : s'.heap.get? (s'.heap.objs.size + 1) with
    | none => rfl
    | some o => exact absurd q (fr o)

end
end Mine
namespace Mine

section
variable {C : Cx} {n : Nat} {env : Env} {σ σ' : List (Str × V)} {τ τ₁ τ₂ τ₃ : Option Nat} {wv : Str → Bool}

theorem Ex1_expr {e pos} {y : V} {P : Out → Prop} (he : Ev C n e env σ τ y τ₁) (h : P (.next σ τ₁)) (hi : interactive env = false := by rfl) (hs : swapsWith e none pos.line env = pure false := by rfl) : Ex1 C n (.Expr e pos) env σ τ P := fun A R s₀ M₀ W O ρ s F =>
  wpAny_Expr_any (wpAny_mono (he A R _ s F.st) (fun v s₁ zz => and3 zz fun S₁ r₁ k₁ => ⟨_, h, O, ρ, F.then k₁ S₁.toGs⟩) fun _ _ x => x) hi hs

theorem rep_perm {h : Heap} {M M' : List Addr} {v : Value} {y : V} (p : ∀ a, a ∈ M ↔ a ∈ M') (r : Rep C h M v y) : Rep C h M' v y := by
  have up : Sub (hid h M) (hid h M') := hid_less fun b hb => (p b).mpr hb
  exact r.move up fun _ a _ m _ => ⟨(p a).mp m, fun _ e => e⟩

theorem Fw.mutate {s₀ : Shared} {M₀ W O : List Addr} {ρ : Str → Option Value} {s : Shared} {h' : Heap} {tk : Tok} {x : Str} {z y' : V} {a : Addr} (F : Fw C wv s₀ M₀ W env σ τ O ρ s) (hx : σ.lookup x = some z) (i : isVar env x = true) (hz : z.own = true) (hρ : ρ x = some (.ref a))
    (sb : ∀ b o, b ≠ a → s.heap.get? b = some o → h'.get? b = some o) (al : ∃ o, h'.get? a = some o) (ho : y'.own = true) (r : Rep C h' (W ++ (O ++ M₀)) (.ref a) y') : Fw C wv s₀ M₀ W env ((x, y') :: σ) τ O ρ { s with heap := h', toks := tk } := by
  obtain ⟨a', e', aO, aW⟩ := F.own x z hx i hz
  rw [hρ] at e'; cases e'
  have aM : a ∈ W ++ (O ++ M₀) := List.mem_append_right _ (List.mem_append_left _ aO)
  have up : Sub (hid s.heap (W ++ (O ++ M₀))) (hid h' (W ++ (O ++ M₀))) := hid_mono fun b o nb e => sb b o (fun q => nb (q ▸ aM)) e
  have na : ∀ b, (b ∈ W ∨ ∃ o, s₀.heap.get? b = some o) → b ≠ a := fun b hb q => by
    subst q
    rcases hb with hb | ⟨o, e⟩
    · exact aW hb
    · rw [F.fresh b (.inr aO)] at e; cases e
  have tA : ∀ t, C.T = some t → t ≠ a := fun t q => na t (.inr (F.aM t (F.mT t q)))
  exact {
    gs := {
      base := C.mono _ _ F.gs.base up
      low := fun b hb => by
        by_cases q : b = a
        · subst q; exact al
        · obtain ⟨o, e⟩ := F.gs.low b hb; exact ⟨o, sb b o q e⟩
      mT := F.gs.mT
      tray := by
        have t := F.gs.tray
        cases τ with
        | none => trivial
        | some j => obtain ⟨b, t1, t2, tk', n', c, x1, x2, x3⟩ := t; exact ⟨b, t1, t2, tk', n', c, x1, sb b _ (tA b x1) x2, x3.up up⟩ }
    glob := F.glob
    frame := {
      ns := let ⟨m, hn, e⟩ := F.frame.ns; ⟨m, hn.at' fun o q => sb _ o (na _ (F.fa _ (.inl rfl))) q, e⟩
      cell := fun y hy => let ⟨c, e, o, ho, hd⟩ := F.frame.cell y hy; ⟨c, e, o, sb c o (na c (F.fa c (.inr ⟨y, e⟩))) ho, hd⟩
      apart := F.frame.apart
      notT := F.frame.notT }
    vars := fun y w e iy => by
      by_cases q : y = x
      · subst q; rw [lookup_cons_eq] at e; cases e
        exact ⟨.ref a, hρ, r⟩
      · rw [lookup_cons_ne q] at e
        obtain ⟨v, e1, r1⟩ := F.vars y w e iy
        refine ⟨v, e1, ?_⟩
        have ow : w.own = true → ∃ b, v = .ref b ∧ b ≠ a := fun ow => by
          obtain ⟨b, e2, _, _⟩ := F.own y w e iy ow
          rw [e1] at e2; cases e2
          exact ⟨b, rfl, fun z' => q (F.apart y x w z a e hx iy i ow hz (z' ▸ e1) hρ)⟩
        exact r1.move up fun o b e m t => by obtain ⟨_, e2, nb⟩ := ow o; rw [e] at e2; cases e2; exact ⟨m, fun o e => sb _ o nb e⟩
    own := fun y w e iy ow => by
      by_cases q : y = x
      · subst q; exact ⟨a, hρ, aO, aW⟩
      · rw [lookup_cons_ne q] at e; exact F.own y w e iy ow
    apart := fun y y1 w w1 b e e1 iy iy1 ow ow1 hb hb1 => by
      have get : ∀ u w, ((x, y') :: σ).lookup u = some w → w.own = true → ∃ w', σ.lookup u = some w' ∧ w'.own = true := fun u w e ow => by
        by_cases q : u = x
        · subst q; exact ⟨z, hx, hz⟩
        · rw [lookup_cons_ne q] at e; exact ⟨w, e, ow⟩
      obtain ⟨w', e', ow'⟩ := get y w e ow
      obtain ⟨w1', e1', ow1'⟩ := get y1 w1 e1 ow1
      exact F.apart y y1 w' w1' b e' e1' iy iy1 ow' ow1' hb hb1
    wr := F.wr
    kept := by
      obtain ⟨h1, t1, rfl, k1⟩ := F.kept
      exact ⟨h', tk, rfl, fun b o t e => sb b o (na b (.inr ⟨o, e⟩)) (k1 b o t e)⟩
    fresh := F.fresh
    fa := F.fa
    aM := F.aM
    mT := F.mT }

theorem mapSeq_at {h : Heap} {a : Addr} {vs : List Value} (l : IsLst h a vs) (f : Array Value → Array Value) : IsLst (h.update a (Obj.mapSeq f)) a (f vs.toArray).toList := by
  obtain ⟨n, e⟩ := l
  refine ⟨if (f vs.toArray).size == vs.toArray.size then n else n + 1, ?_⟩
  rw [Heap.get?_update_self _ e rfl]
  simp [Obj.mapSeq]

theorem ownList_wp {A : Around} {s₀ : Shared} {M₀ W O : List Addr} {ρ : Str → Option Value} {s : Shared} {x : Str} {p1 p2 p3 p4 : Pos} {name : Str} {bid : String} {e : PySem.Expr} {xs ys : List V} {y : V} {P : Out → Prop}
    (slot : Slot "list" name bid) (hty : typeOf (.builtin bid) = pure (.type "method_descriptor"))
    (R : Room A n) (F : Fs C s₀ M₀ W env σ τ O ρ s) (he : Ev C n e env σ τ y τ₁) (hx : σ.lookup x = some (.oL xs)) (i : isVar env x = true)
    (call_ : ∀ s₁ a v vs, St C (W ++ (O ++ M₀)) env σ τ₁ s₁ → Rep C s₁.heap (W ++ (O ++ M₀)) v y → IsLst s₁.heap a vs → RpL C (hid s₁.heap (W ++ (O ++ M₀))) vs xs → a ∈ W ++ (O ++ M₀) →
      ∀ Q : Value → Shared → Prop, (∀ h' tk vs', (∀ b o, b ≠ a → s₁.heap.get? b = some o → h'.get? b = some o) → IsLst h' a vs' → RpL C (hid h' (W ++ (O ++ M₀))) vs' ys → Q .none { s₁ with heap := h', toks := tk }) → wpAny (model C.prog C.w) A (call (.builtin bid) [.ref a, v]) Q NoE s₁)
    (h : P (.next ((x, .oL ys) :: σ) τ₁))
    (hb : attributeBase (.Name x p1) name env (eval (.Name x p1) env) = eval (.Name x p1) env)
    (hfew : ((backTo p3 (starEach [e] env)).all (fun x => !x.1) && (backToKw p3 (keywordEach [] env)).all (fun x => x.1.isSome)
      && decide (([e] : List PySem.Expr).length + ([] : List Keyword).length + (if ([] : List Keyword).isEmpty then 0 else 1) < 30)) = true) (hline : (p2.endLine == p3.line) = true)
    (hi : interactive env = false) (hs : swapsWith (.Call (.Attribute (.Name x p1) name p2) [e] [] p3) none p4.line env = pure false)
    (hst : (starEach [e] env).any (·.1) = false) (hse : starEach [e] env = (false, eval e env) :: starEach [] env) (hd : (x == ("__debug__" : Str)) = false) (hc : (x == ("__classdict__" : Str)) = false) :
    wpAny (model C.prog C.w) A (exec (.Expr (.Call (.Attribute (.Name x p1) name p2) [e] [] p3) p4) env) (fun f s' => ∃ o, P o ∧ OutAt C s₀ M₀ W env o f s') NoE s := by
  refine wpAny_Expr_any ?_ hi hs
  refine wpAny_Call_method hb hfew hline PySem.F.plainAttrs_list slot hty ?_
  obtain ⟨v₀, hρ, rv⟩ := F.vars x _ hx i
  refine wpAny_Name (load_at F.frame F.glob.2.2 hρ i hc ?_) hd
  obtain ⟨a, vs, rfl, aM, aT, l, q⟩ := rv
  obtain ⟨n', e'⟩ := id l
  refine ⟨⟨_, e', rfl⟩, fun b hb => by cases hb; exact ⟨_, e', rfl⟩, ?_⟩
  refine callWith_builtin (by rw [backTo_any]; exact hst) (evalArgs_ev (EvL_cons he EvL_nil hse) hse R F.st fun ws s' S' r' k' => ?_)
  obtain ⟨v, rfl, r⟩ := repL_one r'
  have F' := F.then k' S'.toGs
  obtain ⟨v₁, hρ₁, rv₁⟩ := F'.vars x _ hx i
  rw [hρ] at hρ₁; cases hρ₁
  obtain ⟨a', vs', e1, aM', aT', l', q'⟩ := rv₁
  cases e1
  refine call_ s' a v vs' S' r l' q' aM' _ fun h' tk ws sb lw qw => ?_
  have : Rep C h' (W ++ (O ++ M₀)) (.ref a) (.oL ys) := ⟨a, ws, rfl, aM', aT', lw, qw⟩
  obtain ⟨_, e3⟩ := id lw
  exact ⟨_, h, O, ρ, F'.mutate hx i rfl hρ sb ⟨_, e3⟩ rfl this⟩

theorem upOwn {h h' : Heap} {M : List Addr} {a : Addr} (aM : a ∈ M) (sb : ∀ b o, b ≠ a → h.get? b = some o → h'.get? b = some o) : Sub (hid h M) (hid h' M) := hid_mono fun b o nb e => sb b o (fun q => nb (q ▸ aM)) e

theorem Ex1_extend {x p1 p2 p3 p4} {e : PySem.Expr} {xs ys : List V} {P : Out → Prop} (he : Ev C n e env σ τ (.lst ys) τ₁) (hx : σ.lookup x = some (.oL xs)) (hl : xs.length + ys.length ≤ sizeLine) (h : P (.next ((x, .oL (xs ++ ys)) :: σ) τ₁)) (i : isVar env x = true)
    (hb : attributeBase (.Name x p1) "extend" env (eval (.Name x p1) env) = eval (.Name x p1) env := by rfl)
    (hfew : ((backTo p3 (starEach [e] env)).all (fun x => !x.1) && (backToKw p3 (keywordEach [] env)).all (fun x => x.1.isSome)
      && decide (([e] : List PySem.Expr).length + ([] : List Keyword).length + (if ([] : List Keyword).isEmpty then 0 else 1) < 30)) = true := by rfl) (hline : (p2.endLine == p3.line) = true := by rfl)
    (hi : interactive env = false := by rfl) (hs : swapsWith (.Call (.Attribute (.Name x p1) "extend" p2) [e] [] p3) none p4.line env = pure false := by rfl)
    (hst : (starEach [e] env).any (·.1) = false := by rfl) (hse : starEach [e] env = (false, eval e env) :: starEach [] env := by rfl) (hd : (x == ("__debug__" : Str)) = false := by decide) (hc : (x == ("__classdict__" : Str)) = false := by decide) :
    Ex1 C n (.Expr (.Call (.Attribute (.Name x p1) "extend" p2) [e] [] p3) p4) env σ τ P := fun A R s₀ M₀ W O ρ s F =>
  ownList_wp PySem.F.slot_list_extend PySem.F.type_list_extend R F he hx i (fun s₁ a v vs S₁ r l q aM Q k => by
    obtain ⟨b, ws, rfl, lb, qb⟩ := rep_lstE r
    obtain ⟨m, e⟩ := id l
    obtain ⟨m2, e2⟩ := lb.up (hid_sub _ _)
    have hsz : vs.toArray.size + ws.toArray.size ≤ sizeLine := by rw [List.size_toArray, List.size_toArray, q.length, qb.length]; exact hl
    refine call_meets PySem.F.slot_list_extend ⟨_, e, rfl⟩ PySem.F.entry_list_extend (PySem.F.args_list_extend_2 _ _) (AutoSeq1.list_extend_list_list_0 a vs.toArray m b ws.toArray m2 (extend_door hsz) (Nat.le_trans (Nat.le_add_right _ _) hsz)) ⟨e, e2, ?_⟩
    have sb : Heap.SameBut a s₁.heap (s₁.heap.update a (Obj.mapSeq fun x => x ++ ws.toArray)) := Heap.SameBut.update ..
    have sb' : ∀ b o, b ≠ a → s₁.heap.get? b = some o → (s₁.heap.update a (Obj.mapSeq fun x => x ++ ws.toArray)).get? b = some o := fun b o nb e => (sb.2 b nb).trans e
    have up := upOwn aM sb'
    have ll := mapSeq_at l (fun x => x ++ ws.toArray)
    refine k _ s₁.toks (vs ++ ws) sb' ?_ ((q.up up).app (qb.up up))
    have e4 : (vs.toArray ++ ws.toArray).toList = vs ++ ws := by simp
    rw [e4] at ll
    exact ll) h hb hfew hline hi hs hst hse hd hc

theorem Fw.freeze {s₀ : Shared} {M₀ W O : List Addr} {ρ : Str → Option Value} {s : Shared} {x : Str} {z y' : V} (F : Fw C wv s₀ M₀ W env σ τ O ρ s) (hx : σ.lookup x = some z) (i : isVar env x = true)
    (hz : (∃ xs, z = .oL xs ∧ y' = .lst xs) ∨ (∃ xs, z = .oD xs ∧ y' = .dct xs)) : ∃ O', Fw C wv s₀ M₀ W env ((x, y') :: σ) τ O' ρ s := by
  have hzo : z.own = true := by rcases hz with ⟨xs, rfl, _⟩ | ⟨xs, rfl, _⟩ <;> rfl
  have hy : y'.own = false := by rcases hz with ⟨xs, _, rfl⟩ | ⟨xs, _, rfl⟩ <;> rfl
  obtain ⟨a, hρ, aO, aW⟩ := F.own x z hx i hzo
  refine ⟨O.filter (· != a), ?_⟩
  have sub : ∀ b ∈ W ++ (O.filter (· != a) ++ M₀), b ∈ W ++ (O ++ M₀) := fun b hb => by
    simp only [List.mem_append, List.mem_filter] at hb ⊢
    rcases hb with h | h | h
    · exact .inl h
    · exact .inr (.inl h.1)
    · exact .inr (.inr h)
  have up := hid_less (h := s.heap) sub
  have na : a ∉ W ++ (O.filter (· != a) ++ M₀) := fun hb => by
    simp only [List.mem_append, List.mem_filter] at hb
    rcases hb with h | h | h
    · exact aW h
    · simp at h
    · obtain ⟨o, e⟩ := F.aM a h
      rw [F.fresh a (.inr aO)] at e; cases e
  obtain ⟨v, hρ', rv⟩ := F.vars x z hx i
  rw [hρ] at hρ'; cases hρ'
  exact {
    gs := F.gs.sub sub fun t q => List.mem_append_right _ (List.mem_append_right _ (F.mT t q))
    glob := F.glob
    frame := F.frame
    vars := fun y w e iy => by
      by_cases q : y = x
      · subst q; rw [lookup_cons_eq] at e; cases e
        refine ⟨.ref a, hρ, ?_⟩
        rcases hz with ⟨xs, rfl, rfl⟩ | ⟨xs, rfl, rfl⟩
        · obtain ⟨a', vs, e, m, t, l, q⟩ := rv
          cases e
          exact .lst (l.at fun o e => hid_get e na) (q.up up)
        · obtain ⟨a', vs, e, m, t, l, q⟩ := rv
          cases e
          exact .dct (l.at fun o e => hid_get e na) (q.up up)
      · rw [lookup_cons_ne q] at e
        obtain ⟨v, e1, r1⟩ := F.vars y w e iy
        refine ⟨v, e1, ?_⟩
        have ow : w.own = true → ∃ b, v = .ref b ∧ b ∈ W ++ (O.filter (· != a) ++ M₀) := fun ow => by
          obtain ⟨b, e2, bO, _⟩ := F.own y w e iy ow
          rw [e1] at e2; cases e2
          refine ⟨b, rfl, List.mem_append_right _ (List.mem_append_left _ (List.mem_filter.mpr ⟨bO, ?_⟩))⟩
          have : b ≠ a := fun z' => q (F.apart y x w z a e hx iy i ow hzo (z' ▸ e1) hρ)
          simpa using this
        exact r1.move up fun o b e m t => by obtain ⟨_, e2, nb⟩ := ow o; rw [e] at e2; cases e2; exact ⟨nb, fun _ e => e⟩
    own := fun y w e iy ow => by
      by_cases q : y = x
      · subst q; rw [lookup_cons_eq] at e; cases e; rw [hy] at ow; cases ow
      · rw [lookup_cons_ne q] at e
        obtain ⟨b, e2, bO, bW⟩ := F.own y w e iy ow
        refine ⟨b, e2, List.mem_filter.mpr ⟨bO, ?_⟩, bW⟩
        have : b ≠ a := fun z' => q (F.apart y x w z a e hx iy i ow hzo (z' ▸ e2) hρ)
        simpa using this
    apart := fun y y1 w w1 b e e1 iy iy1 ow ow1 hb hb1 => by
      have q : y ≠ x := fun q => by subst q; rw [lookup_cons_eq] at e; cases e; rw [hy] at ow; cases ow
      have q1 : y1 ≠ x := fun q => by subst q; rw [lookup_cons_eq] at e1; cases e1; rw [hy] at ow1; cases ow1
      rw [lookup_cons_ne q] at e; rw [lookup_cons_ne q1] at e1
      exact F.apart y y1 w w1 b e e1 iy iy1 ow ow1 hb hb1
    wr := F.wr
    kept := F.kept
    fresh := fun b hb => F.fresh b (hb.imp id fun h => (List.mem_filter.mp h).1)
    fa := F.fa
    aM := F.aM
    mT := F.mT }

theorem Ex_freeze {ss : List Stmt} {x : Str} {xs : List V} {P : Out → Prop} (hx : σ.lookup x = some (.oL xs)) (i : isVar env x = true) (h : Ex C n ss env ((x, .lst xs) :: σ) τ P) : Ex C n ss env σ τ P := fun A R s₀ M₀ W O ρ s F => by
  obtain ⟨O', F'⟩ := F.freeze hx i (.inl ⟨xs, rfl, rfl⟩)
  exact h A R s₀ M₀ W O' ρ s F'
theorem Ex_freezeD {ss : List Stmt} {x : Str} {xs : List (V × V)} {P : Out → Prop} (hx : σ.lookup x = some (.oD xs)) (i : isVar env x = true) (h : Ex C n ss env ((x, .dct xs) :: σ) τ P) : Ex C n ss env σ τ P := fun A R s₀ M₀ W O ρ s F => by
  obtain ⟨O', F'⟩ := F.freeze hx i (.inr ⟨xs, rfl, rfl⟩)
  exact h A R s₀ M₀ W O' ρ s F'

end
end Mine
namespace Mine

section
variable {C : Cx} {n : Nat} {env : Env} {σ σ' : List (Str × V)} {τ τ₁ τ₂ τ₃ : Option Nat} {wv : Str → Bool}

theorem Fw.gain {s₀ : Shared} {M₀ W O N : List Addr} {ρ : Str → Option Value} {s s' : Shared} (F : Fw C wv s₀ M₀ W env σ τ O ρ s) (k : Kept C s s') (G : Gs C (N ++ (W ++ (O ++ M₀))) τ₁ s') (fr : ∀ a ∈ N, s.heap.get? a = Option.none) :
    Fw C wv s₀ M₀ W env σ τ₁ (N ++ O) ρ s' := by
  have perm : ∀ a, a ∈ W ++ ((N ++ O) ++ M₀) ↔ a ∈ N ++ (W ++ (O ++ M₀)) := fun a => by
    simp only [List.mem_append]
    constructor
    · rintro (h | (h | h) | h)
      · exact .inr (.inl h)
      · exact .inl h
      · exact .inr (.inr (.inl h))
      · exact .inr (.inr (.inr h))
    · rintro (h | h | h | h)
      · exact .inr (.inl (.inl h))
      · exact .inl h
      · exact .inr (.inl (.inr h))
      · exact .inr (.inr h)
  have G' := G.sub (fun a ha => (perm a).mp ha) (fun a q => List.mem_append_right _ (List.mem_append_right _ (F.mT a q)))
  obtain ⟨h', tk, rfl, k⟩ := k
  have up : Sub (hid s.heap (W ++ (O ++ M₀))) (hid h' (N ++ (W ++ (O ++ M₀)))) := hid_up (fun b o nb e => k b o (fun q => nb (F.gs.mT b q)) e) fun b o nb e q => by
    rcases List.mem_append.mp q with q | q
    · rw [fr b q] at e; cases e
    · exact nb q
  have rep : ∀ v y, Rep C s.heap (W ++ (O ++ M₀)) v y → Rep C h' (W ++ ((N ++ O) ++ M₀)) v y := fun v y r => by
    refine rep_perm (fun a => (perm a).symm) ?_
    exact r.move up fun _ a _ m t => ⟨List.mem_append_right _ m, fun o e => k a o t e⟩
  exact {
    gs := G'
    glob := F.glob
    frame := F.frame.all k
    vars := fun x y e i => by
      obtain ⟨v, a, r⟩ := F.vars x y e i
      exact ⟨v, a, rep v y r⟩
    own := fun x y e i o => let ⟨a, e1, aO, aW⟩ := F.own x y e i o; ⟨a, e1, List.mem_append_right _ aO, aW⟩
    apart := F.apart
    wr := F.wr
    kept := F.kept.trans ⟨h', tk, rfl, k⟩
    fresh := fun a ha => by
      rcases ha with h | h
      · exact F.fresh a (.inl h)
      · rcases List.mem_append.mp h with h | h
        · cases q : s₀.heap.get? a with
          | none => rfl
          | some o =>
            by_cases t : C.T = some a
            · obtain ⟨o', e'⟩ := F.gs.low a (F.gs.mT a t); rw [fr a h] at e'; cases e'
            · obtain ⟨h0, t0, e0, k0⟩ := F.kept
              have z := fr a h
              rw [e0] at z
              have z2 : h0.get? a = some o := k0 a o t q
              have z3 : h0.get? a = Option.none := z
              rw [z2] at z3; cases z3
        · exact F.fresh a (.inr h)
    fa := F.fa
    aM := F.aM
    mT := F.mT }

theorem own_alive {s₀ : Shared} {M₀ W O : List Addr} {ρ : Str → Option Value} {s : Shared} (F : Fw C wv s₀ M₀ W env σ τ O ρ s) {a : Addr} (fr : s.heap.get? a = Option.none) : ∀ z w, σ.lookup z = some w → isVar env z = true → w.own = true → ρ z ≠ some (.ref a) := fun z w e i o q => by
  obtain ⟨b, e1, bO, _⟩ := F.own z w e i o
  rw [q] at e1; cases e1
  obtain ⟨o', e'⟩ := F.gs.low a (List.mem_append_right _ (List.mem_append_left _ bO))
  rw [fr] at e'; cases e'

theorem Ex1_assign_own {x p e pos} {ys : List V} {P : Out → Prop} (he : EvN C n e env σ τ ys τ₁) (hx : ownVar env x = true) (h : P (.next ((x, .oL ys) :: σ) τ₁))
    (hs : swapsWith e (some (.Name x p)) pos.line env = pure false := by rfl) : Ex1 C n (.Assign [.Name x p] e pos) env σ τ P := fun A R s₀ M₀ W O ρ s F =>
  wpAny_Assign_Name (wpAny_mono (he A R _ s F.st) (fun v s₁ zz => by
    obtain ⟨S₁, ⟨a, vs, e, fr, aM, l, G, q⟩, k₁⟩ := zz
    subst e
    have F₁ := F.gain (N := [a]) k₁ G fun b hb => by simp at hb; subst hb; exact fr
    have aW : a ∉ W := fun z => aM (List.mem_append_left _ z)
    have aT : C.T ≠ some a := fun t => aM (F.gs.mT a t)
    have r : Rep C s₁.heap (W ++ (([a] ++ O) ++ M₀)) (.ref a) (.oL ys) := ⟨a, vs, rfl, by simp, aT, l, q.up (hid_less fun b hb => by simp only [List.mem_append, List.mem_cons, List.not_mem_nil, or_false] at hb ⊢; rcases hb with h | (h | h) | h <;> simp [h])⟩
    exact F₁.set r (fun _ => ⟨a, rfl, by simp, aW, own_alive F fr⟩) hx hx fun s' F' _ => ⟨_, h, _, _, F'⟩) fun _ _ x => x) hs

theorem Ex1_assign_comp {x : Str} {p pos pos2 : Pos} {elt t iter : PySem.Expr} {ifs : List PySem.Expr} {rest : List Comprehension} {scope : Scope} {tt : Bool} {items ys : List V} {P : Out → Prop}
    (hit : IterE C n iter env σ τ tt items τ₁) (fl : Filt scope σ σ')
    (ht : Turns (CTurn C n elt (⟨t, iter, ifs, 0⟩ :: rest) scope pos2 0 t ifs env σ') items τ₁ ys τ₂) (hl : ys.length ≤ sizeLine) (hx : ownVar env x = true) (h : P (.next ((x, .oL ys) :: σ) τ₂))
    (ok : compOk scope env = true) (kd : scope.kind = .function) (htk : tgtOk tt t = true) (hi : ifs.length ≤ 1) (ha' : ∀ g', (⟨t, iter, ifs, 0⟩ :: rest : List Comprehension)[0 + 1]? = some g' → g'.is_async = 0)
    (hf : ∀ x, foldedSetIterable iter env x = pure x)
    (hs : swapsWith (.ListComp elt (⟨t, iter, ifs, 0⟩ :: rest) scope pos2) (some (.Name x p)) pos.line env = pure true) : Ex1 C n (.Assign [.Name x p] (.ListComp elt (⟨t, iter, ifs, 0⟩ :: rest) scope pos2) pos) env σ τ P := fun A R s₀ M₀ W O ρ s F => by
  rw [exec_Assign_Name_used (env := env) x p _ pos hs]
  refine wpAny_bind (wpAny_standAt ?_)
  show wpAny _ _ (do (do let _ ← comprehension (.ListComp elt (⟨t, iter, ifs, 0⟩ :: rest) scope pos2) scope env (firstIterPos (⟨t, iter, ifs, 0⟩ :: rest) pos2) (newList []) false (eval iter env) (some (assign (.Name x p) env)); pure ()); pure Flow.next) _ _ _
  refine wpAny_bind (wpAny_bind ?_)
  refine comp_wp R F.st hit fl ok kd htk hi ha' ht hl hf fun s₁ Wc L cs D ρc s' f S₁ k₁ K hLW frW => ?_
  show wpAny _ _ (assign (.Name x p) env (.ref D)) _ _ _
  have k' : Kept C s s' := k₁.trans K.fw.kept
  have frs : ∀ b, s₁.heap.get? b = Option.none → s.heap.get? b = Option.none := fun b hb => kept_none S₁.toGs k₁ hb
  have dn : s₁.heap.get? D = Option.none := K.fw.fresh D (.inr (by simp))
  have ln : s₁.heap.get? L = Option.none := frW L hLW
  have DL : D ≠ L := fun q => K.dW (q ▸ hLW)
  have sub : ∀ a ∈ [L, D] ++ (W ++ (O ++ M₀)), a ∈ Wc ++ ([D] ++ (W ++ (O ++ M₀))) := fun a ha => by
    rcases List.mem_append.mp ha with h | h
    · simp at h
      rcases h with rfl | rfl
      · exact List.mem_append_left _ hLW
      · exact List.mem_append_right _ (by simp)
    · exact List.mem_append_right _ (List.mem_append_right _ h)
  have G := K.fw.gs.sub sub fun a q => List.mem_append_right _ (F.gs.mT a q)
  have F₁ := F.gain (N := [L, D]) k' G fun b hb => by
    simp at hb
    rcases hb with rfl | rfl
    · exact frs _ ln
    · exact frs _ dn
  have dM : D ∉ W ++ (O ++ M₀) := fun z => by obtain ⟨o, e⟩ := S₁.low D z; rw [dn] at e; cases e
  have lM : L ∉ W ++ (O ++ M₀) := fun z => by obtain ⟨o, e⟩ := S₁.low L z; rw [ln] at e; cases e
  obtain ⟨ws, l, q⟩ := K.acc
  have r : Rep C s'.heap (W ++ (([L, D] ++ O) ++ M₀)) (.ref D) (.oL ys) := ⟨D, ws, rfl, by simp, fun t => dM (F.gs.mT D t), l, by
    have e0 : ([] : List V) ++ ys = ys := rfl
    exact q.up (hid_less fun b hb => sub b (by simp only [List.mem_append, List.mem_cons, List.not_mem_nil, or_false] at hb ⊢; rcases hb with h | ((h | h) | h) | h <;> simp [h]))⟩
  refine wpAny_assign_Name (F₁.set r (fun _ => ⟨D, rfl, by simp, fun z => dM (List.mem_append_left _ z), own_alive F (frs D dn)⟩) hx hx fun s2 F2 k2 => ?_)
  obtain ⟨m, hn, _⟩ := K.fw.frame.ns
  have hnL : s'.heap.Ns L m := hn
  refine ⟨m, hnL.at' fun o e => k2 L o (fun z => lM (List.mem_append_left _ z)) e, fun h' sb => wpAny_pure (wpAny_pure ⟨_, h, [D] ++ O, upd ρ x (.ref D), ?_⟩)⟩
  have rx : (upd ρ x (.ref D)) x = some (.ref D) := by unfold upd; rw [if_pos rfl]
  refine F2.poke (X := [L]) (O' := [D] ++ O) (fun b hb => ?_) (fun b o nb e => (sb.2 b (fun z => nb (by simp [z]))).trans e) (fun b hb => ⟨?_, ?_⟩) fun y w e i o a ha => ?_
  · simp at hb; subst hb; exact ⟨by simp, fun z => lM (List.mem_append_left _ z)⟩
  · simp only [List.mem_append, List.mem_cons, List.not_mem_nil, or_false] at hb ⊢
    rcases hb with h | h <;> simp [h]
  · have hb2 : b ∈ W ++ (([L, D] ++ O) ++ M₀) := by
      simp only [List.mem_append, List.mem_cons, List.not_mem_nil, or_false] at hb ⊢
      rcases hb with h | h <;> simp [h]
    obtain ⟨o, e⟩ := F2.gs.low b hb2
    have bL : b ≠ L := fun z => by
      subst z
      rcases List.mem_append.mp hb with h | h
      · simp at h; exact DL h.symm
      · exact lM (List.mem_append_right _ (List.mem_append_left _ h))
    exact ⟨o, (sb.2 b bL).trans e⟩
  · by_cases z : y = x
    · subst z
      rw [rx] at ha; cases ha
      exact ⟨by simpa using DL, by simp⟩
    · rw [lookup_cons_ne z] at e
      unfold upd at ha
      rw [if_neg z] at ha
      obtain ⟨b, e1, bO, _⟩ := F.own y w e i o
      rw [ha] at e1; cases e1
      refine ⟨fun q => ?_, List.mem_append_right _ bO⟩
      simp at q; subst q
      exact lM (List.mem_append_right _ (List.mem_append_left _ bO))

end
end Mine
namespace Mine

theorem hid_none {h : Heap} {M : List Addr} {a : Addr} (m : a ∈ M) : (hid h M).get? a = Option.none := hideAll_none M m
noncomputable abbrev rb (s : Shared) (N : List Addr) : Shared := { s with heap := hid s.heap N }

section
variable {C : Cx} {n : Nat} {env : Env} {σ σ' : List (Str × V)} {τ τ₁ τ₂ τ₃ : Option Nat} {wv : Str → Bool}

theorem Fw.pokeM {s₁ s₂ : Shared} {M₁ M₂ W O X : List Addr} {ρ : Str → Option Value} {s : Shared} {h' : Heap} {tk : Tok} (F : Fw C wv s₁ M₁ W env σ τ O ρ s) (hX : ∀ b ∈ X, b ∈ M₁ ∧ b ∉ W ∧ b ∉ O ∧ C.T ≠ some b) (hXf : ∀ a, (a = env.locals ∨ ∃ x, env.cells.lookup x = some a) → a ∉ X)
    (k : ∀ b o, b ∉ X → s.heap.get? b = some o → h'.get? b = some o) (hM : ∀ b ∈ M₂, b ∈ M₁ ∧ ∃ o, h'.get? b = some o) (kept : Kept C s₂ { s with heap := h', toks := tk }) (fresh : ∀ a, (a ∈ W ∨ a ∈ O) → s₂.heap.get? a = Option.none)
    (fa : ∀ a, (a = env.locals ∨ ∃ x, env.cells.lookup x = some a) → a ∈ W ∨ ∃ o, s₂.heap.get? a = some o) (aM : ∀ a ∈ M₂, ∃ o, s₂.heap.get? a = some o) (mT : ∀ a, C.T = some a → a ∈ M₂) : Fw C wv s₂ M₂ W env σ τ O ρ { s with heap := h', toks := tk } := by
  have sub : ∀ a ∈ W ++ (O ++ M₂), a ∈ W ++ (O ++ M₁) := fun a ha => by
    simp only [List.mem_append] at ha ⊢
    rcases ha with h | h | h
    · exact .inl h
    · exact .inr (.inl h)
    · exact .inr (.inr (hM a h).1)
  have up : Sub (hid s.heap (W ++ (O ++ M₁))) (hid h' (W ++ (O ++ M₂))) := hid_up (fun b o nb e => k b o (fun q => nb (List.mem_append_right _ (List.mem_append_right _ (hX b q).1))) e) fun b o nb e q => nb (sub b q)
  exact {
    gs := {
      base := C.mono _ _ F.gs.base up
      low := fun a ha => by
        simp only [List.mem_append] at ha
        rcases ha with h | h | h
        · obtain ⟨o, e⟩ := F.gs.low a (List.mem_append_left _ h)
          exact ⟨o, k a o (fun q => (hX a q).2.1 h) e⟩
        · obtain ⟨o, e⟩ := F.gs.low a (List.mem_append_right _ (List.mem_append_left _ h))
          exact ⟨o, k a o (fun q => (hX a q).2.2.1 h) e⟩
        · exact (hM a h).2
      mT := fun a q => List.mem_append_right _ (List.mem_append_right _ (mT a q))
      tray := by
        have t := F.gs.tray
        cases τ with
        | none => trivial
        | some j => obtain ⟨a, t1, t2, tk', n', b, x1, x2, x3⟩ := t; exact ⟨a, t1, t2, tk', n', b, x1, k a _ (fun q => (hX a q).2.2.2 x1) x2, x3.up up⟩ }
    glob := F.glob
    frame := {
      ns := let ⟨m, hn, e⟩ := F.frame.ns; ⟨m, hn.at' fun o q => k _ o (hXf _ (.inl rfl)) q, e⟩
      cell := fun x hx => let ⟨c, e, o, ho, hd⟩ := F.frame.cell x hx; ⟨c, e, o, k c o (hXf c (.inr ⟨x, e⟩)) ho, hd⟩
      apart := F.frame.apart
      notT := F.frame.notT }
    vars := fun x y e i => by
      obtain ⟨v, a, r⟩ := F.vars x y e i
      refine ⟨v, a, ?_⟩
      have ow : y.own = true → ∃ b, v = .ref b ∧ b ∈ O := fun o => by
        obtain ⟨b, e2, bO, _⟩ := F.own x y e i o
        rw [a] at e2; cases e2
        exact ⟨b, rfl, bO⟩
      exact r.move up fun o b e m t => by obtain ⟨_, e2, bO⟩ := ow o; rw [e] at e2; cases e2; exact ⟨List.mem_append_right _ (List.mem_append_left _ bO), fun o e => k _ o (fun q => (hX _ q).2.2.1 bO) e⟩
    own := F.own
    apart := F.apart
    wr := F.wr
    kept := kept
    fresh := fresh
    fa := fa
    aM := aM
    mT := mT }

structure LInv (C : Cx) (s₀ : Shared) (M₀ wr W : List Addr) (env : Env) (σ : List (Str × V)) (τ : Option Nat) (O : List Addr) (ρ : Str → Option Value) (s : Shared) : Prop where
  f : Fs C (rb s (W ++ O)) (wr ++ M₀) W env σ τ O ρ s
  kept : Kept C s₀ s
  fresh : ∀ a, (a ∈ W ∨ a ∈ O) → s₀.heap.get? a = Option.none
  fa : ∀ a, (a = env.locals ∨ ∃ x, env.cells.lookup x = some a) → a ∈ W ∨ ∃ o, s₀.heap.get? a = some o
  aM : ∀ a ∈ M₀, ∃ o, s₀.heap.get? a = some o
  mT : ∀ a, C.T = some a → a ∈ M₀
  wf : ∀ a ∈ wr, s₀.heap.get? a = Option.none
  wn : ∀ a ∈ wr, a ∉ W ∧ a ∉ O

theorem LInv.wfa {s₀ : Shared} {M₀ wr W O : List Addr} {ρ : Str → Option Value} {s : Shared} (L : LInv C s₀ M₀ wr W env σ τ O ρ s) : ∀ a, (a = env.locals ∨ ∃ x, env.cells.lookup x = some a) → a ∉ wr := fun a ha q => by
  rcases L.fa a ha with h | ⟨o, e⟩
  · exact (L.wn a q).1 h
  · rw [L.wf a q] at e; cases e
theorem LInv.wT {s₀ : Shared} {M₀ wr W O : List Addr} {ρ : Str → Option Value} {s : Shared} (L : LInv C s₀ M₀ wr W env σ τ O ρ s) : ∀ a ∈ wr, C.T ≠ some a := fun a ha q => by
  obtain ⟨o, e⟩ := L.aM a (L.mT a q); rw [L.wf a ha] at e; cases e
theorem rb_kept (s : Shared) (N : List Addr) : Kept C (rb s N) s := ⟨s.heap, s.toks, rfl, fun b o _ e => hid_sub _ _ _ _ e⟩

theorem rb_facts {s₀ : Shared} {M₀ wr W O : List Addr} {s : Shared} {ρ : Str → Option Value} (F : FrameAt C env s.heap ρ) (kept : Kept C s₀ s) (fresh : ∀ a, (a ∈ W ∨ a ∈ O) → s₀.heap.get? a = Option.none)
    (fa : ∀ a, (a = env.locals ∨ ∃ x, env.cells.lookup x = some a) → a ∈ W ∨ ∃ o, s₀.heap.get? a = some o) (aM : ∀ a ∈ M₀, ∃ o, s₀.heap.get? a = some o) (low : ∀ a ∈ M₀, ∃ o, s.heap.get? a = some o)
    (wn : ∀ a ∈ wr, a ∉ W ∧ a ∉ O) (wal : ∀ a ∈ wr, ∃ o, s.heap.get? a = some o) :
    (∀ a, (a ∈ W ∨ a ∈ O) → (rb s (W ++ O)).heap.get? a = Option.none) ∧ (∀ a, (a = env.locals ∨ ∃ x, env.cells.lookup x = some a) → a ∈ W ∨ ∃ o, (rb s (W ++ O)).heap.get? a = some o) ∧ (∀ a ∈ wr ++ M₀, ∃ o, (rb s (W ++ O)).heap.get? a = some o) := by
  have old : ∀ a, (∃ o, s₀.heap.get? a = some o) → a ∉ W ++ O := fun a zz q => by
    obtain ⟨o, e⟩ := zz
    rw [fresh a (List.mem_append.mp q)] at e; cases e
  refine ⟨fun a ha => hid_none (List.mem_append.mpr ha), fun a ha => ?_, fun a ha => ?_⟩
  · rcases fa a ha with h | ⟨o, e⟩
    · exact .inl h
    · refine .inr ?_
      have nT : C.T ≠ some a := fun q => by
        obtain ⟨h1, h2⟩ := F.notT a q
        rcases ha with rfl | ⟨x, e⟩
        · exact h1 rfl
        · exact h2 x e
      have na := old a ⟨o, e⟩
      obtain ⟨h', tk, rfl, k⟩ := kept
      exact ⟨o, hid_get (k a o nT e) na⟩
  · rcases List.mem_append.mp ha with h | h
    · obtain ⟨o, e⟩ := wal a h
      exact ⟨o, hid_get e fun q => by rcases List.mem_append.mp q with q | q; exact (wn a h).1 q; exact (wn a h).2 q⟩
    · obtain ⟨o, e⟩ := low a h
      exact ⟨o, hid_get e (old a (aM a h))⟩

theorem LInv.start {s₀ : Shared} {M₀ W O wr : List Addr} {ρ : Str → Option Value} {s s' : Shared} (F : Fs C s₀ M₀ W env σ τ O ρ s) (k : Keeps s s') (fr : ∀ a ∈ wr, s.heap.get? a = Option.none) (al : ∀ a ∈ wr, ∃ o, s'.heap.get? a = some o) : LInv C s₀ M₀ wr W env σ τ O ρ s' := by
  have wM : ∀ a ∈ wr, a ∉ W ++ (O ++ M₀) := fun a ha q => by
    obtain ⟨o, e⟩ := F.gs.low a q
    rw [fr a ha] at e; cases e
  have wn : ∀ a ∈ wr, a ∉ W ∧ a ∉ O := fun a ha => ⟨fun q => wM a ha (List.mem_append_left _ q), fun q => wM a ha (List.mem_append_right _ (List.mem_append_left _ q))⟩
  have F1 := F.then (.of k) (F.gs.keeps k)
  have perm : ∀ a, a ∈ W ++ (O ++ (wr ++ M₀)) ↔ a ∈ wr ++ (W ++ (O ++ M₀)) := fun a => by
    simp only [List.mem_append]
    constructor
    · rintro (h | h | h | h)
      · exact .inr (.inl h)
      · exact .inr (.inr (.inl h))
      · exact .inl h
      · exact .inr (.inr (.inr h))
    · rintro (h | h | h | h)
      · exact .inr (.inr (.inl h))
      · exact .inl h
      · exact .inr (.inl h)
      · exact .inr (.inr (.inr h))
  have wf : ∀ a ∈ wr, s₀.heap.get? a = Option.none := fun a ha => by
    cases q : s₀.heap.get? a with
    | none => rfl
    | some o =>
      by_cases t : C.T = some a
      · obtain ⟨o', e'⟩ := F.gs.low a (F.gs.mT a t); rw [fr a ha] at e'; cases e'
      · obtain ⟨h0, t0, e0, k0⟩ := F.kept
        have z := fr a ha
        rw [e0] at z
        have z2 : h0.get? a = some o := k0 a o t q
        have z3 : h0.get? a = Option.none := z
        rw [z2] at z3; cases z3
  have RF := rb_facts (wr := wr) F1.frame F1.kept F.fresh F.fa F.aM (fun a ha => F1.gs.low a (List.mem_append_right _ (List.mem_append_right _ ha))) wn al
  obtain ⟨h', tk, rfl, k⟩ := k
  refine ⟨?_, F1.kept, F.fresh, F.fa, F.aM, F.mT, wf, wn⟩
  exact {
    gs := (F.gs.more (N := wr) (tk := tk) k fr al).sub (fun a ha => (perm a).mp ha) (fun a q => List.mem_append_right _ (List.mem_append_right _ (List.mem_append_right _ (F.mT a q))))
    glob := F.glob
    frame := F1.frame
    vars := fun x y e i => by
      obtain ⟨v, a, r⟩ := F.vars x y e i
      exact ⟨v, a, rep_perm (fun a => (perm a).symm) (r.more k fr)⟩
    own := F.own
    apart := F.apart
    wr := F.wr
    kept := rb_kept _ _
    fresh := RF.1
    fa := RF.2.1
    aM := RF.2.2
    mT := fun a q => List.mem_append_right _ (F.mT a q) }

theorem LInv.item {s₀ : Shared} {M₀ W O wr : List Addr} {ρ : Str → Option Value} {s : Shared} {h' : Heap} {tk : Tok} (L : LInv C s₀ M₀ wr W env σ τ O ρ s) (k : ∀ b o, b ∉ wr → s.heap.get? b = some o → h'.get? b = some o) (al : ∀ a ∈ wr, ∃ o, h'.get? a = some o) : LInv C s₀ M₀ wr W env σ τ O ρ { s with heap := h', toks := tk } := by
  have kept : Kept C s₀ { s with heap := h', toks := tk } := by
    obtain ⟨h1, t1, rfl, k1⟩ := L.kept
    exact ⟨h', tk, rfl, fun b o t e => k b o (fun q => by rw [L.wf b q] at e; cases e) (k1 b o t e)⟩
  have lowM : ∀ a ∈ M₀, ∃ o, h'.get? a = some o := fun a ha => by
    obtain ⟨o, e⟩ := L.f.gs.low a (List.mem_append_right _ (List.mem_append_right _ (List.mem_append_right _ ha)))
    exact ⟨o, k a o (fun q => by obtain ⟨o', e'⟩ := L.aM a ha; rw [L.wf a q] at e'; cases e') e⟩
  have F' : FrameAt C env h' ρ := {
      ns := let ⟨m, hn, e⟩ := L.f.frame.ns; ⟨m, hn.at' fun o q => k _ o (L.wfa _ (.inl rfl)) q, e⟩
      cell := fun x hx => let ⟨c, e, o, ho, hd⟩ := L.f.frame.cell x hx; ⟨c, e, o, k c o (L.wfa c (.inr ⟨x, e⟩)) ho, hd⟩
      apart := L.f.frame.apart
      notT := L.f.frame.notT }
  have RF := rb_facts (wr := wr) (s := { s with heap := h', toks := tk }) F' kept L.fresh L.fa L.aM lowM L.wn al
  refine ⟨L.f.pokeM (X := wr) (fun b hb => ⟨List.mem_append_left _ hb, (L.wn b hb).1, (L.wn b hb).2, L.wT b hb⟩) L.wfa k (fun b hb => ⟨hb, ?_⟩) (rb_kept _ _) RF.1 RF.2.1 RF.2.2 (fun a q => List.mem_append_right _ (L.mT a q)), kept, L.fresh, L.fa, L.aM, L.mT, L.wf, L.wn⟩
  rcases List.mem_append.mp hb with h | h
  · exact al b h
  · exact lowM b h

theorem LInv.body {s₀ : Shared} {M₀ W O O' wr : List Addr} {ρ ρ' : Str → Option Value} {s s' : Shared} (L : LInv C s₀ M₀ wr W env σ τ O ρ s) (F : Fs C (rb s (W ++ O)) (wr ++ M₀) W env σ' τ₁ O' ρ' s') : LInv C s₀ M₀ wr W env σ' τ₁ O' ρ' s' := by
  have old : ∀ b o, s₀.heap.get? b = some o → (C.T ≠ some b → (hid s.heap (W ++ O)).get? b = some o) ∧ ∃ o', (hid s.heap (W ++ O)).get? b = some o' := fun b o e => by
    have nb : b ∉ W ++ O := fun q => by rw [L.fresh b (List.mem_append.mp q)] at e; cases e
    have h1 : C.T ≠ some b → (hid s.heap (W ++ O)).get? b = some o := fun t => by
      obtain ⟨h', tk, rfl, k⟩ := L.kept
      exact hid_get (k b o t e) nb
    refine ⟨h1, ?_⟩
    by_cases t : C.T = some b
    · obtain ⟨o', e'⟩ := L.f.gs.low b (L.f.gs.mT b t)
      exact ⟨o', hid_get e' nb⟩
    · exact ⟨o, h1 t⟩
  have kept : Kept C s₀ s' := by
    obtain ⟨h1, t1, e1, k1⟩ := L.kept
    obtain ⟨h2, t2, rfl, k2⟩ := F.kept
    subst e1
    exact ⟨h2, t2, rfl, fun b o t e => k2 b o t ((old b o e).1 t)⟩
  have fresh : ∀ a, (a ∈ W ∨ a ∈ O') → s₀.heap.get? a = Option.none := fun a ha => by
    cases q : s₀.heap.get? a with
    | none => rfl
    | some o =>
      obtain ⟨o', e'⟩ := (old a o q).2
      have := F.fresh a ha
      rw [show (rb s (W ++ O)).heap = hid s.heap (W ++ O) from rfl, e'] at this; cases this
  have wn : ∀ a ∈ wr, a ∉ W ∧ a ∉ O' := fun a ha => ⟨(L.wn a ha).1, fun q => by
    obtain ⟨o, e⟩ := L.f.aM a (List.mem_append_left _ ha)
    rw [F.fresh a (.inr q)] at e; cases e⟩
  have RF := rb_facts (wr := wr) F.frame kept fresh L.fa L.aM (fun a ha => F.gs.low a (List.mem_append_right _ (List.mem_append_right _ (List.mem_append_right _ ha)))) wn (fun a ha => F.gs.low a (List.mem_append_right _ (List.mem_append_right _ (List.mem_append_left _ ha))))
  exact ⟨{ F with kept := rb_kept _ _, fresh := RF.1, fa := RF.2.1, aM := RF.2.2 }, kept, fresh, L.fa, L.aM, L.mT, L.wf, wn⟩

theorem LInv.exit {s₀ : Shared} {M₀ W O wr : List Addr} {ρ : Str → Option Value} {s : Shared} {h' : Heap} {tk : Tok} (L : LInv C s₀ M₀ wr W env σ τ O ρ s) (k : ∀ b o, b ∉ wr → s.heap.get? b = some o → h'.get? b = some o) : Fs C s₀ M₀ W env σ τ O ρ { s with heap := h', toks := tk } := by
  refine L.f.pokeM (X := wr) (fun b hb => ⟨List.mem_append_left _ hb, (L.wn b hb).1, (L.wn b hb).2, L.wT b hb⟩) L.wfa k (fun b hb => ⟨List.mem_append_right _ hb, ?_⟩) ?_ L.fresh L.fa L.aM L.mT
  · obtain ⟨o, e⟩ := L.f.gs.low b (List.mem_append_right _ (List.mem_append_right _ (List.mem_append_right _ hb)))
    exact ⟨o, k b o (fun q => by obtain ⟨o', e'⟩ := L.aM b hb; rw [L.wf b q] at e'; cases e') e⟩
  · obtain ⟨h1, t1, rfl, k1⟩ := L.kept
    exact ⟨h', tk, rfl, fun b o t e => k b o (fun q => by rw [L.wf b q] at e; cases e) (k1 b o t e)⟩

theorem LInv.ret {s₀ : Shared} {M₀ W O wr : List Addr} {ρ : Str → Option Value} {s s' : Shared} {v : Value} {y : V} (L : LInv C s₀ M₀ wr W env σ τ O ρ s) (h : OutAt C (rb s (W ++ O)) (wr ++ M₀) W env (.ret y τ₁) (.ret v) s') : OutAt C s₀ M₀ W env (.ret y τ₁) (.ret v) s' := by
  obtain ⟨G, r, k, o⟩ := h
  refine ⟨G.sub (fun a ha => List.mem_append_right _ ha) L.mT, rep_less o (fun a ha => List.mem_append_right _ ha) r, ?_, o⟩
  obtain ⟨h1, t1, e1, k1⟩ := L.kept
  obtain ⟨h2, t2, rfl, k2⟩ := k
  subst e1
  refine ⟨h2, t2, rfl, fun b o t e => k2 b o t (hid_get (k1 b o t e) fun q => ?_)⟩
  rw [L.fresh b (List.mem_append.mp q)] at e; cases e

noncomputable def FRun (B : V → List (Str × V) → Option Nat → (Out → Prop) → Prop) : List V → List (Str × V) → Option Nat → (Out → Prop) → Prop
  | [], σ, τ, P => P (.next σ τ)
  | x :: r, σ, τ, P => B x σ τ fun o => match o with | .next σ' τ' => FRun B r σ' τ' P | o => P o

noncomputable def FTurn (C : Cx) (n : Nat) (t : PySem.Expr) (body : List Stmt) (env : Env) (x : V) (σ : List (Str × V)) (τ : Option Nat) (P : Out → Prop) : Prop :=
  ∃ bs, Tgt t x bs ∧ (∀ b ∈ bs, ownVar env b.1 = true) ∧ (V.own x = false → Ex C n body env (bs ++ σ) τ P)

theorem for_loop {A : Around} {g : Heap} {I : Addr} {fp wr : List Addr} {tt : Bool} {items : List V} {J : Nat → Heap → Prop} {t : PySem.Expr} {body : List Stmt} {s₀ : Shared} {M₀ W : List Addr} {P : Out → Prop}
    (R : Room A n) (htk : tgtOk tt t = true) (It' : It C n g I fp wr tt items J) :
    ∀ (rest done : List V), items = done ++ rest → ∀ σ τ, FRun (FTurn C n t body env) rest σ τ P → ∀ O ρ s, LInv C s₀ M₀ wr W env σ τ O ρ s → J done.length s.heap → Sub g s.heap → (∀ b o, g.get? b = some o → b ∉ W ++ (O ++ (wr ++ M₀))) →
      (∀ b ∈ fp, b ∈ wr ∨ ∃ o, g.get? b = some o) →
      codeAny (model C.prog C.w) A (.forLoop t (.ref I) body [] env) (fun r s' => ∃ f o, r = .ok f ∧ P o ∧ OutAt C s₀ M₀ W env o f s') s := by
  intro rest
  induction rest with
  | nil =>
    intro done he σ τ hr O ρ s L hJ hS gd hfp
    have hlen : done.length = items.length := by rw [he, List.append_nil]
    refine codeAny_of_tree ?_
    show wpAny _ A ((forTurn t (.ref I) body [] env).onRaise (fun x => do noteFrame x env; theTreesLotGoes x)) _ _ s
    refine wpAny_noted (NoE.any ?_)
    unfold forTurn
    refine wpAny_bind (wpAny_standAt (wpAny_bind (wpAny_onRaise (NoE.any (It'.done A R s _ (hlen ▸ hJ) hS fun h' tk k => ?_)))))
    refine wpAny_pure ⟨rfl, codeAny_block (wpAny_execs_nil ⟨.next, _, rfl, hr, O, ρ, L.exit k⟩)⟩
  | cons x rest ih =>
    intro done he σ τ hr O ρ s L hJ hS gd hfp
    obtain ⟨bs, hT, hbs, hbody⟩ := hr
    have hx : items[done.length]? = some x := by rw [he]; simp
    refine codeAny_of_tree ?_
    show wpAny _ A ((forTurn t (.ref I) body [] env).onRaise (fun x => do noteFrame x env; theTreesLotGoes x)) _ _ s
    refine wpAny_noted (NoE.any ?_)
    unfold forTurn
    refine wpAny_bind (wpAny_standAt (wpAny_bind (wpAny_onRaise (NoE.any (It'.item A R done.length x s _ hx hJ hS fun v h' tk k al hv go => ?_)))))
    refine wpAny_bind (go t _ _ htk fun h'' tk'' hJ' k2 => ?_)
    have kk : ∀ b o, b ∉ wr → s.heap.get? b = some o → h''.get? b = some o := fun b o nb e => k2 b o nb (k b o nb e)
    have al2 := It'.alive _ _ hJ'
    have L2 := L.item (h' := h'') (tk := tk'') kk al2
    have gs2 : Sub g h'' := fun b o e => kk b o (fun z => gd b o e (List.mem_append_right _ (List.mem_append_right _ (List.mem_append_left _ z)))) (hS b o e)
    have gh2 : Sub g (hid h'' (W ++ (O ++ (wr ++ M₀)))) := fun b o e => hid_get (gs2 b o e) (gd b o e)
    have rv : Rp C (hid h'' (W ++ (O ++ (wr ++ M₀)))) v x := by
      rcases hv with hv | ⟨T, vs, xs, rfl, rfl, l, q, fr⟩
      · exact hv.up gh2
      · have nT : T ∉ W ++ (O ++ (wr ++ M₀)) := fun z => by obtain ⟨o, e⟩ := L.f.gs.low T z; rw [fr] at e; cases e
        have nw : T ∉ wr := fun z => nT (List.mem_append_right _ (List.mem_append_right _ (List.mem_append_left _ z)))
        exact .tup (l.at fun o e => hid_get (k2 T o nw e) nT) (q.up gh2)
    have hown : V.own x = false := own_rp rv
    refine wpAny_bind (assign_tgt (wv := ownVar env) R hT L2.f (rep_of rv) hown (fun b hb => ⟨hbs b hb, hbs b hb⟩) fun ρ3 s3 F3 k3 => ?_)
    have L3 := L2.body F3
    refine wpAny_bind (wpAny_mono (hbody hown A R _ _ W O ρ3 s3 L3.f) (fun f s4 zz => ex2 zz fun o hp ho => ?_) fun _ _ x => x)
    cases o with
    | next σ' τ' =>
      cases f <;> first | exact ho.elim | skip
      obtain ⟨O', ρ', F'⟩ := ho
      have L4 := L3.body F'
      have wrO : ∀ b, b ∈ wr → b ∉ W ++ O := fun b hb q => by rcases List.mem_append.mp q with q | q; exact (L3.wn b hb).1 q; exact (L3.wn b hb).2 q
      have gW : ∀ b o, g.get? b = some o → b ∉ W ++ O := fun b o e q => gd b o e (by simp only [List.mem_append] at q ⊢; rcases q with q | q <;> simp [q])
      have gT : ∀ b o, g.get? b = some o → C.T ≠ some b := fun b o e q => gd b o e (List.mem_append_right _ (List.mem_append_right _ (List.mem_append_right _ (L.mT b q))))
      obtain ⟨h4, t4, e4, k4⟩ := F'.kept
      have k4' : ∀ b o, C.T ≠ some b → b ∉ W ++ O → s3.heap.get? b = some o → s4.heap.get? b = some o := fun b o t nb e => by
        rw [e4]; exact k4 b o t (hid_get e nb)
      have k34 : ∀ b o, C.T ≠ some b → b ∉ W ++ O → h''.get? b = some o → s4.heap.get? b = some o := fun b o t nb e => k4' b o t nb (k3 b o (fun q => nb (List.mem_append_left _ q)) e)
      have gs4 : Sub g s4.heap := fun b o e => k34 b o (gT b o e) (gW b o e) (gs2 b o e)
      have J4 : J (done ++ [x]).length s4.heap := by
        rw [List.length_append]
        refine It'.frame _ _ _ hJ' (fun b hb o e => ?_) gs4
        rcases hfp b hb with h | ⟨o', e'⟩
        · exact k34 b o (L.wT b h) (wrO b h) e
        · exact k34 b o (gT b o' e') (gW b o' e') e
      have gd4 : ∀ b o, g.get? b = some o → b ∉ W ++ (O' ++ (wr ++ M₀)) := fun b o e q => by
        have := gd b o e
        simp only [List.mem_append] at q this
        rcases q with q | q | q | q
        · exact this (.inl q)
        · have nb := gW b o e
          have a3 : s3.heap.get? b = some o := k3 b o (fun z => nb (List.mem_append_left _ z)) (gs2 b o e)
          have := F'.fresh b (.inr q)
          rw [show (rb s3 (W ++ O)).heap.get? b = some o from hid_get a3 nb] at this; cases this
        · exact this (.inr (.inr (.inl q)))
        · exact this (.inr (.inr (.inr q)))
      refine wpAny_pure ⟨rfl, ih (done ++ [x]) (by rw [he]; simp) σ' τ' hp O' ρ' s4 L4 J4 gs4 gd4 hfp⟩
    | ret y τ' =>
      cases f <;> first | exact ho.elim | skip
      exact wpAny_pure ⟨_, _, rfl, hp, L3.ret ho⟩

theorem Ex1_for {t iter : PySem.Expr} {body : List Stmt} {pos : Pos} {tt : Bool} {items : List V} {P : Out → Prop} (hit : IterE C n iter env σ τ tt items τ₁) (hr : FRun (FTurn C n t body env) items σ τ₁ P)
    (htk : tgtOk tt t = true := by rfl) (hf : ∀ x, foldedSetIterable iter env x = pure x := by intro _; rfl) : Ex1 C n (.For t iter body [] pos) env σ τ P := fun A R s₀ M₀ W O ρ s F => by
  rw [arm_exec_For]
  refine wpAny_bind (wpAny_standAt (wpAny_bind (wpAny_mono (hit A R _ s F.st) (fun v s₁ zz => ?_) fun _ _ x => x)))
  obtain ⟨sb, Sb, k, _, hpy⟩ := zz
  rw [hf]
  refine wpAny_bind (wpAny_pure (wpAny_bind (wpAny_standAt ?_)))
  refine wpAny_bind (wpAny_holding (wpAny_mono hpy (fun it s₂ zz => ?_) fun _ _ x => x))
  obtain ⟨I, fp, wr, J, e, It', hJ, k₂, fwr, ffp⟩ := zz
  subst e
  have Fb := F.then k Sb.toGs
  have L := LInv.start Fb k₂ fwr (It'.alive 0 _ hJ)
  refine wpAny_runOwn (h := none) ?_
  refine codeAny_mono (for_loop R htk It' items [] rfl σ τ₁ hr O ρ s₂ L hJ (fun b o e => ?_) (fun b o e q => ?_) ffp) ?_
  · obtain ⟨h', tk, rfl, kk⟩ := k₂
    exact kk b o (hid_sub _ _ _ _ e)
  · have nM := hid_not e
    have e1 := hid_sub _ _ _ _ e
    simp only [List.mem_append] at q nM
    rcases q with q | q | q | q
    · exact nM (.inl q)
    · exact nM (.inr (.inl q))
    · rw [fwr b q] at e1; cases e1
    · exact nM (.inr (.inr q))
  · rintro r s' ⟨f, o, rfl, hp, ho⟩
    exact ⟨o, hp, ho⟩

end
end Mine
namespace Mine

section
variable {C : Cx} {n : Nat} {env : Env} {σ σ' : List (Str × V)} {τ τ₁ τ₂ τ₃ : Option Nat} {wv : Str → Bool}

theorem Bu_tuple {x : V} {xs : List V} (e : x.items = some xs) (hl : xs.length ≤ sizeLine) : BuSpec C n (.type "tuple") [x] (.tup xs) := fun A R M s vs τ G r => by
  obtain ⟨v, rfl, q₀⟩ := repL_one r
  replace r := q₀
  by_cases ht : ∃ ys, x = .tup ys
  · obtain ⟨ys, rfl⟩ := ht
    cases e
    obtain ⟨a, ws, rfl, l, q⟩ := rep_tup r
    exact call_tuple_same l.of_hid.isTuple ⟨r, kpRfl s⟩
  · obtain ⟨a, ws, rfl, l, q⟩ := items_rep r e
    have hl' : s.heap.IsList a ws.toArray := by
      rcases l with l | l
      · exact l
      · exfalso
        cases x <;> simp only [V.items, reduceCtorEq, Option.some.injEq] at e
        · exact ht ⟨_, rfl⟩
        · obtain ⟨b, us, e1, l1, _⟩ := rep_lstE r
          cases e1
          obtain ⟨o, _, e1, c1, _⟩ := l
          obtain ⟨_, e2⟩ := l1.up (hid_sub _ _)
          rw [e1] at e2; cases e2; simp at c1
        · obtain ⟨b, us, e1, _, _, l1, _⟩ := r
          cases e1
          obtain ⟨o, _, e1, c1, _⟩ := l
          obtain ⟨_, e2⟩ := l1
          rw [e1] at e2; cases e2; simp at c1
    refine call_tuple_list hl' (fun h' k => ?_) (by rw [List.size_toArray, q.length]; exact hl)
    have K : Keeps s { s with heap := h' } := ⟨h', s.toks, rfl, k⟩
    have G' := G.keeps K
    exact ⟨push_tup G' (q.up (hid_all k)), kpTrans K (kpPush _ _)⟩

theorem EvN_list_call {f p pos e} {x : V} {xs : List V} (g : BuiltAt C f (.type "list")) (h : Ev C n e env σ τ x τ₁) (hx : x.items = some xs) (hl : xs.length ≤ sizeLine) (k : env.kindOf f = some .globalImplicit)
    (hst : (starEach [e] env).any (·.1) = false := by rfl) (he : starEach [e] env = (false, eval e env) :: starEach [] env := by rfl) (hd : (f == ("__debug__" : Str)) = false := by decide) : EvN C n (.Call (.Name f p) [e] [] pos) env σ τ xs τ₁ := fun A R M s S => by
  show wpAny _ _ (do callWith pos (← eval (.Name f p) env) [] (backTo pos (starEach [e] env)) []) _ _ _
  refine wpAny_bind (wp_built S g k hd ?_)
  refine callWith_type (by rw [backTo_any]; exact hst) (evalArgs_ev (EvL_cons h EvL_nil he) he R S fun vs s' S' r' k' => ?_)
  obtain ⟨v, rfl, r⟩ := repL_one r'
  obtain ⟨a, ws, rfl, l, q⟩ := items_rep r hx
  have fin : ∀ h' c', (∀ b o', s'.heap.get? b = some o' → h'.get? b = some o') → h'.get? s'.heap.objs.size = some { cls := .type "list", dict := none, data := .seq ws.toArray c', slots := #[] } →
      St C M env σ τ₁ { s' with heap := h' } ∧ (∃ a vs, Value.ref s'.heap.objs.size = .ref a ∧ s.heap.get? a = Option.none ∧ a ∉ M ∧ IsLst h' a vs ∧ Gs C (a :: M) τ₁ { s' with heap := h' } ∧ RpL C (hid h' (a :: M)) vs xs) ∧ Kept C s { s' with heap := h' } := fun h' c' kk e => by
    have K : Keeps s' { s' with heap := h' } := ⟨h', s'.toks, rfl, kk⟩
    have fr : ∀ a ∈ [s'.heap.objs.size], s'.heap.get? a = Option.none := fun a ha => by simp at ha; subst ha; exact size_none _
    exact ⟨S'.keeps K, ⟨_, ws, rfl, kept_none S'.toGs k' (size_none _), not_low (h' := s'.heap) S'.toGs (size_none _), ⟨c', e⟩, S'.toGs.more (N := [s'.heap.objs.size]) kk fr (fun a ha => by simp at ha; subst ha; exact ⟨_, e⟩), q.up (hid_more (N := [s'.heap.objs.size]) kk fr)⟩, k'.trans (.of K)⟩
  rcases l with l | l
  · obtain ⟨o, ho, hc, m, hd'⟩ := l
    exact call_list_seq (hsz := by rw [List.size_toArray, q.length]; exact hl) a (.inl rfl) ho hc hd' fin
  · obtain ⟨o, m, e, hc, hd', _⟩ := l
    exact call_list_seq (hsz := by rw [List.size_toArray, q.length]; exact hl) a (.inr rfl) e hc hd' fin

theorem Ev_ops {x p pos} {ops : V} (O : OpsAt C) (hx : σ.lookup x = some (.self ops)) (i : isVar env x = true)
    (hb : attributeBase (.Name x p) "ops" env (eval (.Name x p) env) = eval (.Name x p) env := by rfl) (hd : (x == ("__debug__" : Str)) = false := by decide) (hc : (x == ("__classdict__" : Str)) = false := by decide) :
    Ev C n (.Attribute (.Name x p) "ops" pos) env σ τ ops τ := fun A R M s S => by
  show wpAny _ _ (do let o ← attributeBase (.Name x p) "ops" env (eval (.Name x p) env); standAt pos.atName; let r ← holding [o] (getAttr o "ops" true); letTemporaryGo (.Name x p) o r; pure r) _ _ _
  rw [hb]
  refine wpAny_bind (wpAny_Name (wp_var S hx i hc fun v rv => wpAny_bind (wpAny_standAt ?_)) hd)
  have rv' : Rp C (hid s.heap M) v (.self ops) := rv
  cases rv' with
  | @self a w x hbag hops =>
  obtain ⟨da, hs, t, n', e1, e2⟩ := hbag.up (hid_sub _ _)
  have I : InstAt s.heap a ⟨.ref C.bag, some da, .plain, #[]⟩ C.bag (some (dictOf [⟨hs, .str opsName t, w⟩] n')) := ⟨e1, rfl, rfl, e2⟩
  obtain ⟨attr, ha, hn⟩ := O.ha
  have hh : handedIn w = true := by cases hops <;> rfl
  have X := C.kin _ S.base
  refine wpAny_bind (wpAny_holding (get_value (K := C.K) (fun b o e => hid_sub _ _ _ _ (X b o e)) I (plainGet_of O.pg).1 (findObj_own O.hh ha hn ?_) hh ?_))
  · show lookIn opsName (dictOf _ n') = _
    rw [lookIn_dict]
    unfold getL
    have : (Value.str opsName t).isStr opsName = true := by
      show (opsName == opsName) = true
      simp
    simp [this]
  · exact wpAny_bind (wpAny_pure (wpAny_pure ⟨S.keeps (kpTok s _), rep_of hops, .of (kpTok s _)⟩))

noncomputable def head1 (x : Str) : Str := if x.length ≤ 1 then x else ⟨((slicePicked x .none (some (1, 0)) .none).filterMap (x.cps[·]?)).toArray⟩

theorem Ev_head1 {value pos p k pi} {x : Str} (hv : Ev C n value env σ τ (.str x) τ₁) (hx : (slicePicked x .none (some (1, 0)) .none).length = min 1 x.length) (hz : x.length ≤ sizeLine) :
    Ev C n (.Subscript value (.Slice .none (some (.Constant (.int 1) k pi)) .none p) pos) env σ τ (.str (head1 x)) τ₁ := fun A R M s S => by
  refine Subscript_ (wpAny_mono (hv A R M s S) (fun u s₁ zz => and3 zz fun S₁ r₁ k₁ => ?_) fun _ _ x => x)
  refine wpAny_Slice ?_
  rw [evalPart_none]
  refine wpAny_pure ?_
  show wpAny _ _ (eval (.Constant (.int 1) k pi) env) _ _ _
  refine wpAny_Constant_int ?_
  refine wpAny_pure ?_
  obtain ⟨t, rfl⟩ := rep_str r₁
  have K1 : Keeps s₁ { s₁ with heap := s₁.heap.push { cls := .type "slice", data := .fields #[.none, .int 1 s₁.toks, .none] }, toks := s₁.toks + 1 } := ⟨_, _, rfl, fun _ _ e => Heap.get?_push_of_some _ e⟩
  refine tail_any (T := "str") (typeIs_str _ x t) PySem.F.slot_str_getitem.lookup (wpAny_getItem_str_slice (l := none) (u := some (1, s₁.toks)) (st := none) ⟨_, Heap.get?_push_size _ rfl, rfl, rfl⟩ (by decide) ?_) (by with_unfolding_all rfl)
  have e1 : slicePicked x .none (some (1, s₁.toks)) .none = slicePicked x .none (some (1, 0)) .none := rfl
  unfold sliceMade
  rw [e1, hx]
  unfold head1
  by_cases h1 : x.length ≤ 1
  · have : min 1 x.length = x.length := by lia
    rw [if_pos (by rw [this]; simp), if_pos h1]
    exact ⟨S₁.keeps K1, .str x t, k₁.trans (.of K1)⟩
  · have : ¬ min 1 x.length = x.length := by lia
    rw [if_neg (by simp [this]), if_neg h1]
    have K2 : Keeps s₁ { s₁ with heap := s₁.heap.push { cls := .type "slice", data := .fields #[.none, .int 1 s₁.toks, .none] }, toks := s₁.toks + 1 + 1 } := ⟨_, _, rfl, fun _ _ e => Heap.get?_push_of_some _ e⟩
    refine ⟨?_, S₁.keeps K2, .str _ _, k₁.trans (.of K2)⟩
    show (List.toArray _).size ≤ sizeLine
    rw [List.size_toArray]
    exact Nat.le_trans (List.length_filterMap_le ..) (by rw [hx, sizeLine_eq]; lia)

end
end Mine
namespace Mine

theorem lenS {vs : List Value} {k : Nat} (e : vs.length = k + 1) : ∃ a r, vs = a :: r ∧ r.length = k := by
  cases vs with
  | nil => cases e
  | cons a r => exact ⟨a, r, rfl, by simpa using e⟩
theorem len0 {vs : List Value} (e : vs.length = 0) : vs = [] := List.length_eq_zero_iff.mp e
theorem bindL1 {fd : FuncData} {ps : List Str} (hp : ps.length = 1) (h : ∀ a, bindArgs fd ⟨[a], []⟩ = pure (ps.zip [a])) (vs : List Value) (e : vs.length = ps.length) : bindArgs fd ⟨vs, []⟩ = pure (ps.zip vs) := by
  rw [hp] at e
  obtain ⟨a, r0, e0, l0⟩ := lenS e
  have z := len0 l0
  subst z
  subst e0
  exact h a
theorem bindL2 {fd : FuncData} {ps : List Str} (hp : ps.length = 2) (h : ∀ a b, bindArgs fd ⟨[a, b], []⟩ = pure (ps.zip [a, b])) (vs : List Value) (e : vs.length = ps.length) : bindArgs fd ⟨vs, []⟩ = pure (ps.zip vs) := by
  rw [hp] at e
  obtain ⟨a, r0, e0, l0⟩ := lenS e
  obtain ⟨b, r1, e1, l1⟩ := lenS l0
  have z := len0 l1
  subst z
  subst e1
  subst e0
  exact h a b
theorem bindL3 {fd : FuncData} {ps : List Str} (hp : ps.length = 3) (h : ∀ a b c, bindArgs fd ⟨[a, b, c], []⟩ = pure (ps.zip [a, b, c])) (vs : List Value) (e : vs.length = ps.length) : bindArgs fd ⟨vs, []⟩ = pure (ps.zip vs) := by
  rw [hp] at e
  obtain ⟨a, r0, e0, l0⟩ := lenS e
  obtain ⟨b, r1, e1, l1⟩ := lenS l0
  obtain ⟨c, r2, e2, l2⟩ := lenS l1
  have z := len0 l2
  subst z
  subst e2
  subst e1
  subst e0
  exact h a b c
theorem bindL4 {fd : FuncData} {ps : List Str} (hp : ps.length = 4) (h : ∀ a b c d, bindArgs fd ⟨[a, b, c, d], []⟩ = pure (ps.zip [a, b, c, d])) (vs : List Value) (e : vs.length = ps.length) : bindArgs fd ⟨vs, []⟩ = pure (ps.zip vs) := by
  rw [hp] at e
  obtain ⟨a, r0, e0, l0⟩ := lenS e
  obtain ⟨b, r1, e1, l1⟩ := lenS l0
  obtain ⟨c, r2, e2, l2⟩ := lenS l1
  obtain ⟨d, r3, e3, l3⟩ := lenS l2
  have z := len0 l3
  subst z
  subst e3
  subst e2
  subst e1
  subst e0
  exact h a b c d
theorem bindL5 {fd : FuncData} {ps : List Str} (hp : ps.length = 5) (h : ∀ a b c d f, bindArgs fd ⟨[a, b, c, d, f], []⟩ = pure (ps.zip [a, b, c, d, f])) (vs : List Value) (e : vs.length = ps.length) : bindArgs fd ⟨vs, []⟩ = pure (ps.zip vs) := by
  rw [hp] at e
  obtain ⟨a, r0, e0, l0⟩ := lenS e
  obtain ⟨b, r1, e1, l1⟩ := lenS l0
  obtain ⟨c, r2, e2, l2⟩ := lenS l1
  obtain ⟨d, r3, e3, l3⟩ := lenS l2
  obtain ⟨f, r4, e4, l4⟩ := lenS l3
  have z := len0 l4
  subst z
  subst e4
  subst e3
  subst e2
  subst e1
  subst e0
  exact h a b c d f
theorem bindL6 {fd : FuncData} {ps : List Str} (hp : ps.length = 6) (h : ∀ a b c d f g, bindArgs fd ⟨[a, b, c, d, f, g], []⟩ = pure (ps.zip [a, b, c, d, f, g])) (vs : List Value) (e : vs.length = ps.length) : bindArgs fd ⟨vs, []⟩ = pure (ps.zip vs) := by
  rw [hp] at e
  obtain ⟨a, r0, e0, l0⟩ := lenS e
  obtain ⟨b, r1, e1, l1⟩ := lenS l0
  obtain ⟨c, r2, e2, l2⟩ := lenS l1
  obtain ⟨d, r3, e3, l3⟩ := lenS l2
  obtain ⟨f, r4, e4, l4⟩ := lenS l3
  obtain ⟨g, r5, e5, l5⟩ := lenS l4
  have z := len0 l5
  subst z
  subst e5
  subst e4
  subst e3
  subst e2
  subst e1
  subst e0
  exact h a b c d f g
theorem fnData_of {C : Cx} {a : Addr} {oc : Value} {od : Option Addr} {osl : Array (Option Value)} {fd : FuncData} {body : List Stmt} {ps : List Str} (e : C.K.lookup a = some ⟨oc, od, .func fd, osl⟩) (hcd : codeIn C.K fd.code fd.qualname = true) (hb : fd.body = .stmts body)
    (gl : fd.globals = mainGlobals) (bu : fd.builtins = builtinsNs) (cl : fd.closure = []) (kd : fd.scope.kind = .function) (co : fd.scope.isCoroutine = false) (ge : fd.scope.isGenerator = false)
    (bind : ∀ vs : List Value, vs.length = ps.length → bindArgs fd ⟨vs, []⟩ = pure (ps.zip vs)) (nm : namesOk fd.scope ps = true) (nd : ps.Nodup) : FnData C a fd body ps :=
  ⟨fun h b => ⟨⟨_, C.kin h b _ _ e, rfl⟩, codeRec_of (C.kin h b) hcd⟩, hb, gl, bu, cl, kd, co, ge, bind, nm, nd⟩

noncomputable def baseOf (K : Frag) (p : Program) (loose : List Str) (mg mb : Str → Option Value) (h : Heap) : Prop := K.In h ∧ TopRead p loose mg mb h

noncomputable def cxOf (prog : Program) (w : World) (K : Frag) (p : Program) (loose : List Str) (mg mb : Str → Option Value) (T : Option Addr) (bag : Addr) (cells : List V) (k1 k2 : Str) : Cx where
  prog := prog
  w := w
  Base := baseOf K p loose mg mb
  T := T
  bag := bag
  cells := cells
  k1 := k1
  k2 := k2
  K := K
  kin := fun _ b => b.1
  nolim := fun _ b => b.2.nolimit
  big := fun _ b => by
    obtain ⟨o, _, _, e, _⟩ := b.2.g
    exact ⟨mainGlobals, o, by decide, e⟩
  mono := fun _ _ b k => ⟨fun a o e => k _ _ (b.1 a o e), b.2.keeps k⟩

section
variable {prog : Program} {w : World} {K : Frag} {p : Program} {loose : List Str} {mg mb : Str → Option Value} {T : Option Addr} {bag : Addr} {cells : List V} {k1 k2 : Str}
theorem globAt_of {x : Str} {v : Value} (e : nsIn K mainGlobals x = some (some v)) : GlobAt (cxOf prog w K p loose mg mb T bag cells k1 k2) x v := fun h b => ⟨mg, b.2.g, mg_of b.1 b.2.g e⟩
theorem builtAt_of {x : Str} {v : Value} (e : nsIn K mainGlobals x = some none) (hx : x ≠ "__name__") (e2 : bootBuiltins x = some v) : BuiltAt (cxOf prog w K p loose mg mb T bag cells k1 k2) x v := fun h b => ⟨mg, mb, b.2.g, mg_none_of b.1 b.2.g e, b.2.b, by rw [b.2.builtins x hx]; exact e2⟩
end

end Mine

namespace Mine
section
variable {C : Cx} {n : Nat} {env : Env} {σ σ' : List (Str × V)} {τ τ₁ τ₂ τ₃ : Option Nat}

theorem seqIdx_nat {k n : Nat} (h : k < n) : seqIndex? (k : Int) n = some k := by
  have h1 : ¬ (k : Int) < 0 := by lia
  simp only [seqIndex?, h1, if_false]
  rw [if_pos (by simp; assumption)]
  simp
theorem Ev_itemN {value slice pos} {x y : V} {xs : List V} {k : Nat} (hv : Ev C n value env σ τ x τ₁) (hs : Ev C n slice env σ τ₁ (.int (k : Int)) τ₂) (hx : x.items = some xs) (hy : xs[k]? = some y)
    (hhi : (k : Int) < 2 ^ 63) (he : ∀ a t, subscripted slice false (.ref a) (.int (k : Int) t) = operate [.ref a, .int (k : Int) t] (getItem (.ref a) (.int (k : Int) t)) := by intro _ _; with_unfolding_all rfl) :
    Ev C n (.Subscript value slice pos) env σ τ y τ₂ := Ev_item hv hs hx (seqIdx_nat (List.getElem?_eq_some_iff.mp hy).1) hy (by lia) hhi he
theorem Ev_at0 {value k p pos} {x y : V} {r : List V} (hv : Ev C n value env σ τ x τ₁) (hx : x.items = some (y :: r)) : Ev C n (.Subscript value (.Constant (.int 0) k p) pos) env σ τ y τ₁ := Ev_itemN (k := 0) hv Ev_int hx rfl (by decide)
theorem Ev_at1 {value k p pos} {x a y : V} {r : List V} (hv : Ev C n value env σ τ x τ₁) (hx : x.items = some (a :: y :: r)) : Ev C n (.Subscript value (.Constant (.int 1) k p) pos) env σ τ y τ₁ := Ev_itemN (k := 1) hv Ev_int hx rfl (by decide)
theorem Ev_at2 {value k p pos} {x a b y : V} {r : List V} (hv : Ev C n value env σ τ x τ₁) (hx : x.items = some (a :: b :: y :: r)) : Ev C n (.Subscript value (.Constant (.int 2) k p) pos) env σ τ y τ₁ := Ev_itemN (k := 2) hv Ev_int hx rfl (by decide)
theorem Ev_tup1 {value pos p k pi} {x : V} {xs : List V} (hv : Ev C n value env σ τ (.tup (x :: xs)) τ₁) (hl : xs.length + 1 ≤ sizeLine) :
    Ev C n (.Subscript value (.Slice (some (.Constant (.int 1) k pi)) .none .none p) pos) env σ τ (.tup xs) τ₁ := Ev_tup_from (a := 1) hv rfl (Nat.le_refl _) (by simp) (by simpa using hl)
end
end Mine
namespace Mine
open AutoSeq1 (wpAny_loadPart')

section
variable {prog : Program} {w : World} {A : Around} {E : Value → Shared → Prop} {s : Shared}

theorem tupNext_item {it t : Addr} {i : Nat} {items : Array Value} {x : Value} {Q : Value → Shared → Prop} (hit : s.heap.IsTupleIter it t i) (hl : s.heap.IsTuple t items) (hx : items[i]? = some x)
    (hQ : ∀ h', h'.IsTupleIter it t (i + 1) → Heap.SameBut it s.heap h' → Q x { s with heap := h' }) :
    wpAny (model prog w) A (Builtin.SmallTypes.nextOf (.ref it)) Q E s := by
  obtain ⟨o, ho, hc, hd⟩ := id hit
  obtain ⟨ol, hol, _, nl, hdl⟩ := hl
  unfold Builtin.SmallTypes.nextOf
  refine wpAny_bind (wpAny_callSpecial?_slot (name := Str.ofString "__next__") hit.typeIs F.slot_tuple_iterator_next
    (wpAny_call_entry F.slot_tuple_iterator_next hit.typeIs F.entry_tuple_iterator_next ?_ (F.args_tuple_iterator_next_1 _)))
  show wpAny _ _ (field (.ref it) 0 >>= _) _ _ s
  refine wpAny_bind (wpAny_field ho hd (x := .ref t) rfl ?_)
  show wpAny _ _ (if (Value.ref t == Value.none) = true then _ else _) _ _ s
  rw [if_neg (show ¬ ((Value.ref t == Value.none) = true) from Bool.false_ne_true)]
  show wpAny _ _ (field (.ref it) 1 >>= _) _ _ s
  refine wpAny_bind (wpAny_field ho hd (x := .int i 0) rfl ?_)
  show wpAny _ _ (seqItems? (.ref t) >>= _) _ _ s
  refine wpAny_bind (wpAny_seqItems hol hdl ?_)
  simp only [Int.toNat_natCast, hx]
  refine wpAny_bind (wpAny_setField ho hd (by simp) (wpAny_pure ⟨x, rfl, wpAny_pure (hQ _ ?_ (Heap.SameBut.update ..))⟩))
  exact ⟨_, Heap.get?_update_self _ ho (Obj.isFreed_of_fields (Obj.data_mapFields hd _)), (Obj.cls_mapFields ..).trans hc, by
    rw [Obj.data_mapFields hd]; simp [rawInt]⟩

theorem tupNext_end {it t : Addr} {i : Nat} {items : Array Value} {Q : Value → Shared → Prop} (hh : A.handled = none) (hit : s.heap.IsTupleIter it t i) (hl : s.heap.IsTuple t items) (hx : items[i]? = none)
    (hE : ∀ h' e, Heap.ExtBut it s.heap h' → (∃ o, h'.get? e = some o ∧ o.cls = .type "StopIteration") → E (.ref e) { s with heap := h' }) :
    wpAny (model prog w) A (Builtin.SmallTypes.nextOf (.ref it)) Q E s := by
  obtain ⟨o, ho, hc, hd⟩ := id hit
  obtain ⟨ol, hol, _, nl, hdl⟩ := hl
  unfold Builtin.SmallTypes.nextOf
  refine wpAny_bind (wpAny_callSpecial?_slot (name := Str.ofString "__next__") hit.typeIs F.slot_tuple_iterator_next
    (wpAny_call_entry F.slot_tuple_iterator_next hit.typeIs F.entry_tuple_iterator_next ?_ (F.args_tuple_iterator_next_1 _)))
  show wpAny _ _ (field (.ref it) 0 >>= _) _ _ s
  refine wpAny_bind (wpAny_field ho hd (x := .ref t) rfl ?_)
  show wpAny _ _ (if (Value.ref t == Value.none) = true then _ else _) _ _ s
  rw [if_neg (show ¬ ((Value.ref t == Value.none) = true) from Bool.false_ne_true)]
  show wpAny _ _ (field (.ref it) 1 >>= _) _ _ s
  refine wpAny_bind (wpAny_field ho hd (x := .int i 0) rfl ?_)
  show wpAny _ _ (seqItems? (.ref t) >>= _) _ _ s
  refine wpAny_bind (wpAny_seqItems hol hdl ?_)
  simp only [Int.toNat_natCast, hx]
  refine wpAny_bind (wpAny_rule (wpAny_bind (wpAny_setField ho hd (by simp) ?_)))
  show wpAny _ _ (newExc (.type "StopIteration") [] >>= _) _ _ _
  refine wpAny_bind ?_
  simp only [newExc, newTuple]
  refine wpAny_bind (wpAny_newObj_type ?_ (by size_fits))
  refine wpAny_bind (m := firstArgMember _ _) (wpAny_of_eq (a := Value.none) (by first | rfl | (simp only [firstArgMember]; rfl)) ?_)
  refine wpAny_newObj_type ?_ (by size_fits)
  unfold raiseNew
  refine wpAny_bind (wpAny_handled ?_)
  first | rw [show A.in1.handled = none from hh] | rw [hh]
  refine wpAny_bind (wpAny_pure (wpAny_throw ?_))
  exact hE _ _ (((Heap.SameBut.update ..).extBut.push _).push _) ⟨_, Heap.get?_push_size _ rfl, rfl⟩

noncomputable def SqI (tu : Bool) (h : Heap) (it a : Addr) (i : Nat) : Prop := if tu then h.IsTupleIter it a i else h.IsListIter it a i
noncomputable def Sq (tu : Bool) (h : Heap) (a : Addr) (vs : Array Value) : Prop := if tu then h.IsTuple a vs else h.IsList a vs
theorem Sq.at {tu : Bool} {h h' : Heap} {a : Addr} {vs : Array Value} (x : Sq tu h a vs) (k : ∀ o, h.get? a = some o → h'.get? a = some o) : Sq tu h' a vs := by
  cases tu
  · exact Heap.IsList.at x k
  · obtain ⟨o, e, r⟩ := x; exact ⟨o, k o e, r⟩
theorem SqI.at {tu : Bool} {h h' : Heap} {it a : Addr} {i : Nat} (x : SqI tu h it a i) (k : ∀ o, h.get? it = some o → h'.get? it = some o) : SqI tu h' it a i := by
  cases tu
  · exact Heap.IsListIter.at x k
  · obtain ⟨o, e, r⟩ := x; exact ⟨o, k o e, r⟩
theorem SqI.ex {tu : Bool} {h : Heap} {it a : Addr} {i : Nat} (x : SqI tu h it a i) : ∃ o, h.get? it = some o := by
  cases tu
  · obtain ⟨o, e, r⟩ := x; exact ⟨o, e⟩
  · obtain ⟨o, e, r⟩ := x; exact ⟨o, e⟩
theorem Sq.ex {tu : Bool} {h : Heap} {a : Addr} {vs : Array Value} (x : Sq tu h a vs) : ∃ o, h.get? a = some o := by
  cases tu
  · obtain ⟨o, e, r⟩ := x; exact ⟨o, e⟩
  · obtain ⟨o, e, r⟩ := x; exact ⟨o, e⟩
noncomputable abbrev SqPush (tu : Bool) (a : Addr) : Obj := { cls := .type (if tu then "tuple_iterator" else "list_iterator"), data := .fields #[.ref a, .int 0 0] }
theorem Sq.iter {tu : Bool} {a : Addr} {vs : Array Value} {Q : Value → Shared → Prop} (x : Sq tu s.heap a vs) (h : Q (.ref s.heap.objs.size) { s with heap := s.heap.push (SqPush tu a) }) : wpAny (model prog w) A (pyIter (.ref a)) Q E s := by
  cases tu
  · exact wpAny_pyIter_list x h
  · exact wpAny_pyIter_tuple x h
theorem Sq.pushed {tu : Bool} {h : Heap} {a : Addr} : SqI tu (h.push (SqPush tu a)) h.objs.size a 0 := by
  cases tu
  · exact ⟨_, Heap.get?_push_size _ rfl, rfl, rfl⟩
  · exact ⟨_, Heap.get?_push_size _ rfl, rfl, rfl⟩
theorem Draws_sq (tu : Bool) (hh : A.handled = none) (it l : Addr) (hne : l ≠ it) (items : Array Value) :
    Draws prog w A it [it, l] items.size (fun i v => items[i]? = some v) (fun i h => SqI tu h it l i ∧ Sq tu h l items) := by
  cases tu
  · exact Draws.list hh it l hne items
  · exact {
      live := fun _ _ st => let ⟨o, ho, _⟩ := st.1; ⟨o, ho⟩
      frame := fun _ _ _ st hk => ⟨SqI.at st.1 fun o e => hk it (by simp) o e, Sq.at st.2 fun o e => hk l (by simp) o e⟩
      item := fun i s Q E hi st hQ => by
        refine tupNext_item st.1 st.2 (x := items[i]) (by simp [hi]) fun h' hit' hs' => ?_
        exact hQ _ h' s.toks (by simp [hi]) ⟨hit', Heap.IsTuple.extBut st.2 hs'.extBut hne⟩ hs'
      done := fun s Q E st hE => tupNext_end hh st.1 st.2 (by simp) hE }

structure ZAp (z TI TO i1 i2 : Addr) (f1 f2 : List Addr) : Prop where
  ne : [z, TI, TO, i1, i2].Nodup
  z1 : z ∉ f1
  z2 : z ∉ f2
  t1 : TO ∉ f1
  t2 : TO ∉ f2
  i12 : i1 ∉ f2
  i21 : i2 ∉ f1
  m1 : i1 ∈ f1
  m2 : i2 ∈ f2

theorem zipItem {z TI TO i1 i2 : Addr} {f1 f2 : List Addr} {n1 n2 k : Nat} {P1 P2 : Nat → Value → Prop} {S1 S2 : Nat → Heap → Prop} {a b : Value} {Q : Value → Shared → Prop} (D : ZAp z TI TO i1 i2 f1 f2)
    (D1 : Draws prog w A i1 f1 n1 P1 S1) (D2 : Draws prog w A i2 f2 n2 P2 S2)
    (hz : IsZip s.heap z TI TO .none) (hTI : IsPair s.heap TI (.ref i1) (.ref i2)) (hTO : IsPair s.heap TO a b) (h1 : S1 k s.heap) (h2 : S2 k s.heap) (hk1 : k < n1) (hk2 : k < n2)
    (hQ : ∀ x y h' tk, P1 k x → P2 k y → IsZip h' z TI TO (rawInt s.heap.objs.size) → IsPair h' TO x y → S1 (k + 1) h' → S2 (k + 1) h' → IsPair h' s.heap.objs.size x y →
      (∀ c o, c ≠ z → c ≠ TO → c ≠ i1 → c ≠ i2 → s.heap.get? c = some o → h'.get? c = some o) → Q (.ref s.heap.objs.size) { s with heap := h', toks := tk }) :
    wpAny (model prog w) A (Builtin.«zip.__next__» ⟨[.ref z], []⟩) (fun fin s' => ∃ v, fin = .done (.ret v) ∧ Q v s') E s := by
  have nd := D.ne
  simp only [List.nodup_cons, List.mem_cons, List.not_mem_nil, or_false, not_or, List.nodup_nil, and_true] at nd
  obtain ⟨⟨zTI, zTO, zi1, zi2⟩, ⟨TITO, TIi1, TIi2⟩, ⟨TOi1, TOi2⟩, i12, _⟩ := nd
  obtain ⟨hp, gl, dd, tk0, os⟩ := s
  show wpAny _ _ (field (.ref z) 2 >>= _) _ _ _
  refine wpAny_bind (wpAny_field hz rfl (x := .bool false) rfl ?_)
  show wpAny _ _ (field (.ref z) 3 >>= _) _ _ _
  refine wpAny_bind (wpAny_field hz rfl (x := .ref TI) rfl ?_)
  refine wpAny_bind (wpAny_seqItems hTI rfl ?_)
  show wpAny _ _ (Builtin.SmallTypes.ownedTupleIsFree (.ref z) >>= _) _ _ _
  refine wpAny_bind ?_
  unfold Builtin.SmallTypes.ownedTupleIsFree
  refine wpAny_bind (wpAny_field hz rfl (x := .none) rfl (wpAny_pure ?_))
  simp only [if_true]
  refine wpAny_bind (wpAny_rule ?_)
  refine wpAny_bind (wpAny_field hz rfl (x := .ref TO) rfl ?_)
  refine wpAny_bind (wpAny_setField_rec hz (by simp) fun h₁ hz₁ hs₁ => ?_)
  replace hz₁ : IsZip h₁ z TI TO .ellipsis := hz₁
  replace hs₁ : Heap.SameBut z hp h₁ := hs₁
  refine wpAny_bind ?_
  simp only [List.zipIdx_cons, List.zipIdx_nil, List.forIn_cons, List.forIn_nil]
  have a1 : S1 k h₁ := D1.frame _ _ _ h1 fun c hc o e => hs₁.extBut _ _ (fun q => D.z1 (q ▸ hc)) e
  have a2 : S2 k h₁ := D2.frame _ _ _ h2 fun c hc o e => hs₁.extBut _ _ (fun q => D.z2 (q ▸ hc)) e
  refine wpAny_bind (wpAny_bind (wpAny_onRaise ?_))
  show wpAny _ _ (Builtin.SmallTypes.nextOf (.ref i1) >>= _) _ _ _
  refine wpAny_bind (D1.item k _ _ _ hk1 a1 fun x h₂ tk2 px h1₂ hs₂ => wpAny_pure ?_)
  replace hs₂ : Heap.SameBut i1 h₁ h₂ := hs₂
  have hTO₂ : IsPair h₂ TO a b := hs₂.extBut _ _ TOi1 (hs₁.extBut _ _ (Ne.symm zTO) hTO)
  refine wpAny_bind (wpAny_seqItems hTO₂ rfl ?_)
  refine wpAny_bind (wpAny_updateSeq_pair hTO₂ fun h₃ hTO₃ hs₃ => ?_)
  replace hTO₃ : IsPair h₃ TO x b := hTO₃
  replace hs₃ : Heap.SameBut TO h₂ h₃ := hs₃
  refine wpAny_bind (wpAny_letGo (wpAny_pure ?_))
  have b2 : S2 k h₃ := D2.frame _ _ _ a2 fun c hc o e => hs₃.extBut _ _ (fun q => D.t2 (q ▸ hc)) (hs₂.extBut _ _ (fun q => D.i12 (q ▸ hc)) e)
  have b1 : S1 (k + 1) h₃ := D1.frame _ _ _ h1₂ fun c hc o e => hs₃.extBut _ _ (fun q => D.t1 (q ▸ hc)) e
  refine wpAny_bind (wpAny_bind (wpAny_onRaise ?_))
  show wpAny _ _ (Builtin.SmallTypes.nextOf (.ref i2) >>= _) _ _ _
  refine wpAny_bind (D2.item k _ _ _ hk2 b2 fun y h₄ tk4 py h2₄ hs₄ => wpAny_pure ?_)
  replace hs₄ : Heap.SameBut i2 h₃ h₄ := hs₄
  have hTO₄ : IsPair h₄ TO x b := hs₄.extBut _ _ TOi2 hTO₃
  refine wpAny_bind (wpAny_seqItems hTO₄ rfl ?_)
  refine wpAny_bind (wpAny_updateSeq_pair hTO₄ fun h₅ hTO₅ hs₅ => ?_)
  replace hTO₅ : IsPair h₅ TO x y := hTO₅
  replace hs₅ : Heap.SameBut TO h₄ h₅ := hs₅
  refine wpAny_bind (wpAny_letGo (wpAny_pure (wpAny_pure ?_)))
  refine wpAny_bind (wpAny_seqItems hTO₅ rfl ?_)
  refine wpAny_bind (wpAny_newTuple ?_)
  have hsz : h₅.objs.size = hp.objs.size := by rw [hs₅.1, hs₄.1, hs₃.1, hs₂.1, hs₁.1]
  have hz₅ : IsZip h₅ z TI TO .ellipsis := hs₅.extBut _ _ zTO (hs₄.extBut _ _ zi2 (hs₃.extBut _ _ zTO (hs₂.extBut _ _ zi1 hz₁)))
  have hk₅ : ∀ c o, c ≠ z → c ≠ TO → c ≠ i1 → c ≠ i2 → hp.get? c = some o → h₅.get? c = some o := fun c o c1 c2 c3 c4 e =>
    hs₅.extBut _ _ c2 (hs₄.extBut _ _ c4 (hs₃.extBut _ _ c2 (hs₂.extBut _ _ c3 (hs₁.extBut _ _ c1 e))))
  have h1₅ : S1 (k + 1) h₅ := D1.frame _ _ _ b1 fun c hc o e => hs₅.extBut _ _ (fun q => D.t1 (q ▸ hc)) (hs₄.extBut _ _ (fun q => D.i21 (q ▸ hc)) e)
  have h2₅ : S2 (k + 1) h₅ := D2.frame _ _ _ h2₄ fun c hc o e => hs₅.extBut _ _ (fun q => D.t2 (q ▸ hc)) e
  have hzlt : z < h₅.objs.size := Heap.lt_size hz₅
  show wpAny _ _ (Builtin.SmallTypes.ownedTupleHandOut (.ref z) (.ref h₅.objs.size) >>= _) _ _ _
  refine wpAny_bind ?_
  unfold Builtin.SmallTypes.ownedTupleHandOut
  have hz₆ : IsZip (h₅.push { cls := .type "tuple", data := .seq #[x, y] }) z TI TO .ellipsis := Heap.get?_push_of_some _ hz₅
  refine wpAny_bind (wpAny_setField_rec hz₆ (by simp) fun h₇ hz₇ hs₇ => ?_)
  replace hz₇ : IsZip h₇ z TI TO (rawInt h₅.objs.size) := hz₇
  refine wpAny_setField_rec hz₇ (by simp) fun h₈ hz₈ hs₈ => ?_
  replace hz₈ : IsZip h₈ z TI TO (rawInt h₅.objs.size) := hz₈
  have up : ∀ c o, c ≠ z → h₅.get? c = some o → h₈.get? c = some o := fun c o c1 e => hs₈.extBut _ _ c1 (hs₇.extBut _ _ c1 (Heap.get?_push_of_some _ e))
  have hT₈ : IsPair h₈ h₅.objs.size x y := hs₈.extBut _ _ (Nat.ne_of_gt hzlt) (hs₇.extBut _ _ (Nat.ne_of_gt hzlt) (Heap.get?_push_size _ rfl))
  rw [hsz] at hz₈ hT₈
  refine wpAny_pure ⟨_, rfl, ?_⟩
  show Q (.ref h₅.objs.size) _
  rw [hsz]
  exact hQ x y h₈ _ px py hz₈ (up _ _ (Ne.symm zTO) hTO₅) (D1.frame _ _ _ h1₅ fun c hc o e => up c o (fun q => D.z1 (q ▸ hc)) e) (D2.frame _ _ _ h2₅ fun c hc o e => up c o (fun q => D.z2 (q ▸ hc)) e) hT₈
    fun c o c1 c2 c3 c4 e => up c o c1 (hk₅ c o c1 c2 c3 c4 e)
end
end Mine
namespace Mine
open AutoSeq1 (wpAny_loadPart')
section
variable {prog : Program} {w : World} {A : Around} {E : Value → Shared → Prop} {s : Shared}

theorem zipEnd {z TI TO i1 i2 : Addr} {f1 f2 : List Addr} {n1 : Nat} {P1 : Nat → Value → Prop} {S1 : Nat → Heap → Prop} {a b : Value} {Q : PySem.Fin → Shared → Prop} (D : ZAp z TI TO i1 i2 f1 f2)
    (D1 : Draws prog w A i1 f1 n1 P1 S1) (hz : IsZip s.heap z TI TO .none) (hTI : IsPair s.heap TI (.ref i1) (.ref i2)) (hTO : IsPair s.heap TO a b) (h1 : S1 n1 s.heap)
    (hE : ∀ h' e, (∀ c o, c ≠ z → c ≠ TO → c ≠ i1 → c ≠ i2 → s.heap.get? c = some o → h'.get? c = some o) → (∃ o, h'.get? e = some o ∧ o.cls = .type "StopIteration") → E (.ref e) { s with heap := h' }) :
    wpAny (model prog w) A (Builtin.«zip.__next__» ⟨[.ref z], []⟩) Q E s := by
  have nd := D.ne
  simp only [List.nodup_cons, List.mem_cons, List.not_mem_nil, or_false, not_or, List.nodup_nil, and_true] at nd
  obtain ⟨⟨zTI, zTO, zi1, zi2⟩, ⟨TITO, TIi1, TIi2⟩, ⟨TOi1, TOi2⟩, i12, _⟩ := nd
  show wpAny _ _ (field (.ref z) 2 >>= _) _ _ _
  refine wpAny_bind (wpAny_field hz rfl (x := .bool false) rfl ?_)
  show wpAny _ _ (field (.ref z) 3 >>= _) _ _ _
  refine wpAny_bind (wpAny_field hz rfl (x := .ref TI) rfl ?_)
  refine wpAny_bind (wpAny_seqItems hTI rfl ?_)
  show wpAny _ _ (Builtin.SmallTypes.ownedTupleIsFree (.ref z) >>= _) _ _ _
  refine wpAny_bind ?_
  unfold Builtin.SmallTypes.ownedTupleIsFree
  refine wpAny_bind (wpAny_field hz rfl (x := .none) rfl (wpAny_pure ?_))
  simp only [if_true]
  refine wpAny_bind (wpAny_rule ?_)
  refine wpAny_bind (wpAny_field hz rfl (x := .ref TO) rfl ?_)
  refine wpAny_bind (wpAny_setField_rec hz (by simp) fun h₁ hz₁ hs₁ => ?_)
  replace hz₁ : IsZip h₁ z TI TO .ellipsis := hz₁
  refine wpAny_bind ?_
  simp only [List.zipIdx_cons, List.zipIdx_nil, List.forIn_cons, List.forIn_nil]
  have a1 : S1 n1 h₁ := D1.frame _ _ _ h1 fun c hc o e => hs₁.extBut _ _ (fun q => D.z1 (q ▸ hc)) e
  refine wpAny_bind (wpAny_bind (wpAny_onRaise ?_))
  show wpAny _ _ (Builtin.SmallTypes.nextOf (.ref i1) >>= _) _ _ _
  refine wpAny_bind (D1.done _ _ _ a1 fun h₂ e hs₂ he => ?_)
  obtain ⟨oe, hoe, hce⟩ := he
  have hz₂ : IsZip h₂ z TI TO .ellipsis := hs₂ _ _ zi1 hz₁
  have hez : e ≠ z := fun x => by subst x; rw [hz₂] at hoe; cases hoe; simp at hce
  refine wpAny_setField_rec hz₂ (by simp) fun h₃ _ hs₃ => hE h₃ e (fun c o c1 _ c3 _ x => hs₃.extBut _ _ c1 (hs₂ _ _ c3 (hs₁.extBut _ _ c1 x))) ⟨oe, hs₃.extBut _ _ hez hoe, hce⟩

theorem WalksT_zip {z TI TO i1 i2 : Addr} {f1 f2 : List Addr} {k : Nat} {P1 P2 : Nat → Value → Prop} {S1 S2 : Nat → Heap → Prop} (D : ZAp z TI TO i1 i2 f1 f2)
    (D1 : Draws prog w A.in1 i1 f1 k P1 S1) (D2 : Draws prog w A.in1 i2 f2 k P2 S2) :
    WalksT prog w A z ([z, TI, TO] ++ (f1 ++ f2)) [z, TO, i1, i2] k
      (fun i vals => ∃ x y, P1 i x ∧ P2 i y ∧ vals = #[x, y])
      (fun i h => (IsZip h z TI TO .none ∧ IsPair h TI (.ref i1) (.ref i2) ∧ (∃ a b, IsPair h TO a b)) ∧ (S1 i h ∧ S2 i h) ∧ TI ∉ f1 ∧ TI ∉ f2)
      (fun i T h => (IsZip h z TI TO (rawInt T) ∧ IsPair h TI (.ref i1) (.ref i2) ∧ (∃ a b, IsPair h TO a b)) ∧ (S1 (i + 1) h ∧ S2 (i + 1) h) ∧ (TI ∉ f1 ∧ TI ∉ f2) ∧ T ≠ z ∧ T ≠ TO ∧ T ≠ i1 ∧ T ≠ i2 ∧ ∃ x y, IsPair h T x y) := by
  have nd := D.ne
  simp only [List.nodup_cons, List.mem_cons, List.not_mem_nil, or_false, not_or, List.nodup_nil, and_true] at nd
  obtain ⟨⟨zTI, zTO, zi1, zi2⟩, ⟨TITO, TIi1, TIi2⟩, ⟨TOi1, TOi2⟩, i12, _⟩ := nd
  exact {
    sub := fun c hc => by
      have m1 := D.m1; have m2 := D.m2
      simp only [List.mem_cons, List.not_mem_nil, or_false, List.mem_append] at hc ⊢
      rcases hc with rfl | rfl | rfl | rfl
      · exact .inl (.inl rfl)
      · exact .inl (.inr (.inr rfl))
      · exact .inr (.inl m1)
      · exact .inr (.inr m2)
    frame := fun i h h' hst hk => by
      obtain ⟨⟨hz, hTI, a, b, hTO⟩, ⟨h1, h2⟩, n⟩ := hst
      exact ⟨⟨hk z (by simp) _ hz, hk TI (by simp) _ hTI, a, b, hk TO (by simp) _ hTO⟩, ⟨D1.frame _ _ _ h1 fun c hc => hk c (by simp [hc]), D2.frame _ _ _ h2 fun c hc => hk c (by simp [hc])⟩, n⟩
    item := fun i s Q E hi hst hQ => by
      obtain ⟨⟨hz, hTI, a, b, hTO⟩, ⟨h1, h2⟩, n⟩ := hst
      have hT : s.TypeIs (.ref z) "zip" := ⟨_, hz, rfl⟩
      unfold pyNext
      refine wpAny_bind (wpAny_attempt (wpAny_callSpecial?_slot (name := Str.ofString "__next__") hT F.slot_zip_next
        (wpAny_call_entry F.slot_zip_next hT F.entry_zip_next (zipItem D D1 D2 hz hTI hTO h1 h2 hi hi fun x y h' tk px py b1 b2 b3 b4 b5 hk => wpAny_pure ?_) (F.args_zip_next_1 _))))
      have lt : ∀ {c o}, s.heap.get? c = some o → s.heap.objs.size ≠ c := fun e => Nat.ne_of_gt (Heap.lt_size e)
      obtain ⟨o1, e1⟩ := D1.live _ _ h1
      obtain ⟨o2, e2⟩ := D2.live _ _ h2
      exact hQ s.heap.objs.size #[x, y] h' tk ⟨_, _, px, py, rfl⟩ (Nat.le_refl _) ⟨_, b5, rfl, _, rfl⟩
        ⟨⟨b1, hk _ _ (Ne.symm zTI) TITO TIi1 TIi2 hTI, _, _, b2⟩, ⟨b3, b4⟩, n, lt hz, lt hTO, lt e1, lt e2, _, _, b5⟩
        fun c o hc e => hk c o (fun x => hc (by simp [x])) (fun x => hc (by simp [x])) (fun x => hc (by simp [x])) (fun x => hc (by simp [x])) e
    go := fun elts k pos i T s Q E hm hQ => by
      obtain ⟨⟨hz, hTI, a, b, hTO⟩, ⟨h1, h2⟩, n, _⟩ := hm
      refine wpAny_letOwnedTupleGo_zip hz fun h' hz' hs' => hQ h' ⟨⟨hz', hs'.extBut _ _ (Ne.symm zTI) hTI, a, b, hs'.extBut _ _ (Ne.symm zTO) hTO⟩,
        ⟨D1.frame _ _ _ h1 fun c hc o e => hs'.extBut _ _ (fun q => D.z1 (q ▸ hc)) e, D2.frame _ _ _ h2 fun c hc o e => hs'.extBut _ _ (fun q => D.z2 (q ▸ hc)) e⟩, n⟩ fun c o hc e => hs'.extBut _ _ (fun x => hc (by simp [x])) e
    apart := fun i T h hm hT => by
      obtain ⟨_, _, _, t1, t2, t3, t4, _⟩ := hm
      simp at hT
      rcases hT with rfl | rfl | rfl | rfl
      · exact t1 rfl
      · exact t2 rfl
      · exact t3 rfl
      · exact t4 rfl
    done := fun s Q E hst hQ => by
      obtain ⟨⟨hz, hTI, a, b, hTO⟩, ⟨h1, h2⟩, n⟩ := hst
      have hT : s.TypeIs (.ref z) "zip" := ⟨_, hz, rfl⟩
      unfold pyNext
      refine wpAny_bind (wpAny_attempt (wpAny_callSpecial?_slot (name := Str.ofString "__next__") hT F.slot_zip_next
        (wpAny_call_entry F.slot_zip_next hT F.entry_zip_next (zipEnd D D1 hz hTI hTO h1 fun h' e hk he => ?_) (F.args_zip_next_1 _))))
      obtain ⟨o, ho, hc⟩ := he
      refine wpAny_bind (wpAny_isInstance (T := "StopIteration") (b := true) ⟨o, ho, hc⟩ isSubtype_stop ?_)
      exact wpAny_pure (hQ h' s.toks fun c o hc e => hk c o (fun x => hc (by simp [x])) (fun x => hc (by simp [x])) (fun x => hc (by simp [x])) (fun x => hc (by simp [x])) e)
    self := fun i s Q E hst hQ => wpAny_pyIter_zip hst.1.1 hQ }

noncomputable abbrev zH1 (h : Heap) (t1 : Bool) (l1 : Addr) : Heap := h.push (SqPush t1 l1)
noncomputable abbrev zH2 (h : Heap) (t1 t2 : Bool) (l1 l2 : Addr) : Heap := (zH1 h t1 l1).push (SqPush t2 l2)
noncomputable abbrev zH3 (h : Heap) (t1 t2 : Bool) (l1 l2 : Addr) : Heap := (zH2 h t1 t2 l1 l2).push { cls := .type "tuple", data := .seq #[.ref h.objs.size, .ref (zH1 h t1 l1).objs.size] }
noncomputable abbrev zH4 (h : Heap) (t1 t2 : Bool) (l1 l2 : Addr) : Heap := (zH3 h t1 t2 l1 l2).push { cls := .type "tuple", data := .seq #[.none, .none] }
noncomputable abbrev zH5 (h : Heap) (t1 t2 : Bool) (l1 l2 : Addr) : Heap := (zH4 h t1 t2 l1 l2).push { cls := .type "zip", data := .fields #[.none, .bool false, .bool false, .ref (zH2 h t1 t2 l1 l2).objs.size, .ref (zH3 h t1 t2 l1 l2).objs.size] }

set_option maxRecDepth 100000 in
theorem meets_zip (t1 t2 : Bool) (l1 l2 : Addr) (xs ys : Array Value) :
    Meets (Builtin.«zip.__new__» ⟨[.type "zip", .ref l1, .ref l2], []⟩) (fun _ R s => Sq t1 s.heap l1 xs ∧ Sq t2 s.heap l2 ys ∧
      R (.ok (.ret (.ref (zH4 s.heap t1 t2 l1 l2).objs.size))) { s with heap := zH5 s.heap t1 t2 l1 l2 }) :=
  .of_wp fun prog w A R s h => by
    obtain ⟨hp, g, d, tk, os⟩ := s; obtain ⟨hl1, hl2, h⟩ := h
    have hsub := sub_zip
    have hL1 : Sq t1 (Shared.heap ⟨hp, g, d, tk, os⟩) l1 xs := hl1
    have hL2 : Sq t2 (Shared.heap ⟨hp.push (SqPush t1 l1), g, d, tk, os⟩) l2 ys := Sq.at hl2 fun o e => Heap.get?_push_of_some _ e
    wp_walk using Sq.iter hL1, Sq.iter hL2
    exact ⟨_, rfl, h⟩

theorem wp_pureB {v : Bool} {M : Model} {A : Around} {s : Shared} {E : Value → Shared → Prop} {Q : Bool → Shared → Prop} (h : ∀ b, Q b s) : wpAny M A (pure v : Sem Bool) Q E s := wpAny_pure (h v)
set_option maxRecDepth 100000 in
theorem meets_enumT (l : Addr) (items : Array Value) (n : Nat) (dct : Option Addr) (sl : Array (Option Value)) :
    Meets (Builtin.«enumerate.__new__» ⟨[.type "enumerate", .ref l], []⟩) (fun _ R s => s.heap.get? l = some { cls := .type "tuple", dict := dct, data := .seq items n, slots := sl } ∧
      R (.ok (.ret (.ref (s.heap.push (SqPush true l)).objs.size)))
        { s with heap := (s.heap.push (SqPush true l)).push { cls := .type "enumerate", data := .fields #[.none, .bool false, .ref s.heap.objs.size, rawInt 0, .none, .none] } }) :=
  .of_wp fun prog w A R s h => by
    obtain ⟨hp, g, d, tk, os⟩ := s; obtain ⟨hl, h⟩ := h
    have hsub := sub_enumerate
    have hL : Heap.IsTuple (Shared.heap ⟨hp, g, d, tk, os⟩) l items := ⟨_, hl, rfl, n, rfl⟩
    wp_walk using wpAny_loadPart' hl
    refine wpAny_stack_any fun st => wp_pureB fun b => ?_
    cases b <;> (wp_walk using wpAny_loadPart' hl, wpAny_pyIter_tuple hL; exact ⟨_, rfl, h⟩)
end
end Mine
namespace Mine
section
variable {C : Cx} {n : Nat} {env : Env} {σ σ' : List (Str × V)} {τ τ₁ τ₂ τ₃ : Option Nat} {wv : Str → Bool}

theorem It_walks {g : Heap} {I : Addr} {fp wr wr' : List Addr} {items : List V} {Pt : Nat → Array Value → Prop} {S : Nat → Heap → Prop} {Mid : Nat → Addr → Heap → Prop}
    (Wk : ∀ A, Room A n → WalksT C.prog C.w A I fp wr items.length Pt S Mid) (mp : ∀ i T h, Mid i T h → ∃ x y, IsPair h T x y) (hp : ∀ i vals, Pt i vals → ∃ xs, items[i]? = some (.tup xs) ∧ RpL C g vals.toList xs)
    (hw : ∀ b ∈ wr, b ∈ wr') (sub : ∀ b ∈ wr', b ∈ fp) (al : ∀ i h, S i h → ∀ b ∈ wr', ∃ o, h.get? b = some o) (alM : ∀ i T h, Mid i T h → ∀ b ∈ wr', ∃ o, h.get? b = some o) (ng : ∀ b ∈ wr', g.get? b = Option.none)
    (fr : ∀ i h h', S i h → (∀ b ∈ fp, ∀ o, h.get? b = some o → h'.get? b = some o) → S i h') :
    It C n g I fp wr' true items (fun i h => S i h ∧ Sub g h) where
  sub := sub
  alive := fun i h zz => and2 zz fun j _ => al i h j
  frame := fun i h h' zz k s => and2 zz fun j _ => ⟨fr i h h' j k, s⟩
  self := fun A R i s Q zz hq => and2 zz fun j _ => (Wk A R).self i s Q _ j hq
  item := fun A R i x s Q hx zz _ h => and2 zz fun j sg => by
    have hi : i < items.length := by
      rcases Nat.lt_or_ge i items.length with h | h
      · exact h
      · rw [List.getElem?_eq_none h] at hx; cases hx
    refine (Wk A R).item i s Q _ hi j fun T vals h' tk pt hT tT mid k => ?_
    obtain ⟨xs, e1, r⟩ := hp i vals pt
    rw [hx] at e1; cases e1
    have k' : ∀ b o, b ∉ wr' → s.heap.get? b = some o → h'.get? b = some o := fun b o nb e => k b o (fun q => nb (hw b q)) e
    have sg' : Sub g h' := fun b o e => k' b o (fun q => by rw [ng b q] at e; cases e) (sg b o e)
    refine h _ h' tk k' (alM i T h' mid) (.inr ⟨T, vals.toList, xs, rfl, rfl, ?_, r, ?_⟩) fun t Q' tk' ht hq => ?_
    · obtain ⟨o, e, c, m, d⟩ := tT
      obtain ⟨y1, y2, pp⟩ := mp i T h' mid
      cases (Option.some.inj (e.symm.trans pp))
      exact ⟨_, m, e, c, by simpa using d, rfl⟩
    · cases q : s.heap.get? T with
      | none => rfl
      | some o => exact absurd (Heap.lt_size q) (Nat.not_lt.mpr hT)
    · cases t <;> first | exact Bool.noConfusion ht | skip
      refine (Wk A R).go _ _ _ i T _ Q' _ mid fun h'' j'' k'' => ?_
      have k3 : ∀ b o, b ∉ wr' → h'.get? b = some o → h''.get? b = some o := fun b o nb e => k'' b o (fun q => nb (hw b q)) e
      exact hq h'' tk' ⟨j'', fun b o e => k3 b o (fun q => by rw [ng b q] at e; cases e) (sg' b o e)⟩ k3
  done := fun A R s Q zz _ h => and2 zz fun j sg => (Wk A R).done s Q _ j fun h' tk k => h h' tk fun b o nb e => k b o (fun q => nb (hw b q)) e

noncomputable def zipV (xs ys : List V) : List V := (xs.zip ys).map fun p => .tup [p.1, p.2]
noncomputable def enumV : Nat → List V → List V
  | _, [] => []
  | k, x :: r => .tup [.int k, x] :: enumV (k + 1) r
theorem enumV_length : ∀ (k : Nat) (xs : List V), (enumV k xs).length = xs.length
  | _, [] => rfl
  | k, x :: r => congrArg (· + 1) (enumV_length (k + 1) r)
theorem enumV_get : ∀ (k i : Nat) (xs : List V), (enumV k xs)[i]? = xs[i]?.map fun x => .tup [.int ((k + i : Nat) : Int), x]
  | _, _, [] => by simp [enumV]
  | k, 0, x :: r => rfl
  | k, i + 1, x :: r => by
    have := enumV_get (k + 1) i r
    rw [show k + 1 + i = k + (i + 1) by (exact Nat.add_right_comm _ _ _)] at this
    simpa [enumV] using this

theorem items_sq {h : Heap} {M : List Addr} {v : Value} {x : V} {xs : List V} (r : Rep C h M v x) (hx : (x = .lst xs) ∨ (x = .tup xs)) :
    ∃ tu a, ∃ vs : List Value, v = .ref a ∧ Sq tu (hid h M) a vs.toArray ∧ RpL C (hid h M) vs xs := by
  rcases hx with rfl | rfl
  · obtain ⟨a, vs, e, l, q⟩ := rep_lst r
    exact ⟨false, a, vs, e, l, q⟩
  · obtain ⟨a, vs, e, l, q⟩ := rep_tup r
    exact ⟨true, a, vs, e, l.isTuple, q⟩

theorem zap_nat (s l1 l2 : Nat) (b1 : l1 < s) (b2 : l2 < s) : ZAp (s + 4) (s + 2) (s + 3) s (s + 1) [s, l1] [s + 1, l2] where
  ne := by
    have h : ([s + 4, s + 2, s + 3, s, s + 1] : List Nat).Nodup := by simp
    exact h
  z1 := by have h : s + 4 ∉ ([s, l1] : List Nat) := by (simp; lia)
           exact h
  z2 := by have h : s + 4 ∉ ([s + 1, l2] : List Nat) := by (simp; lia)
           exact h
  t1 := by have h : s + 3 ∉ ([s, l1] : List Nat) := by (simp; lia)
           exact h
  t2 := by have h : s + 3 ∉ ([s + 1, l2] : List Nat) := by (simp; lia)
           exact h
  i12 := by have h : s ∉ ([s + 1, l2] : List Nat) := by (simp; (exact Nat.ne_of_gt (by assumption)))
            exact h
  i21 := by have h : s + 1 ∉ ([s, l1] : List Nat) := by (simp; lia)
            exact h
  m1 := by simp
  m2 := by simp

theorem IterE_zip {f p pos e1 e2} {x y : V} {xs ys : List V} (g : BuiltAt C f (.type "zip")) (h : EvL C n [e1, e2] env σ τ [x, y] τ₁) (hx : (x = .lst xs) ∨ (x = .tup xs)) (hy : (y = .lst ys) ∨ (y = .tup ys)) (hxy : xs.length = ys.length)
    (kf : env.kindOf f = some .globalImplicit)
    (hst : (starEach [e1, e2] env).any (·.1) = false := by rfl) (he : starEach [e1, e2] env = (false, eval e1 env) :: starEach [e2] env := by rfl) (hd : (f == ("__debug__" : Str)) = false := by decide) : IterE C n (.Call (.Name f p) [e1, e2] [] pos) env σ τ true (zipV xs ys) τ₁ := fun A R M s S => by
  show wpAny _ _ (do callWith pos (← eval (.Name f p) env) [] (backTo pos (starEach [e1, e2] env)) []) _ _ _
  refine wpAny_bind (wp_built S g kf hd ?_)
  refine callWith_type (by rw [backTo_any]; exact hst) (evalArgs_ev h he R S fun vs s' S' r' k' => ?_)
  obtain ⟨v1, v2, rfl, r1, r2⟩ := repL_two r'
  obtain ⟨t1, l1, vs1, rfl, q1, p1⟩ := items_sq r1 hx
  obtain ⟨t2, l2, vs2, rfl, q2, p2⟩ := items_sq r2 hy
  have q1' : Sq t1 s'.heap l1 vs1.toArray := q1.at fun o e => hid_sub _ _ _ _ e
  have q2' : Sq t2 s'.heap l2 vs2.toArray := q2.at fun o e => hid_sub _ _ _ _ e
  refine callType_new F.called_zip (by decide) (F.typeCall_zip_2 _ _) (F.newCall_zip_2 _ _) (fun obj => F.args_object_init_3 obj _ _) F.entry_zip_new (meets_zip t1 t2 l1 l2 _ _) ⟨q1', q2', ?_⟩
  have z1 : (zH1 s'.heap t1 l1).objs.size = s'.heap.objs.size + 1 := Heap.size_push ..
  have z2 : (zH2 s'.heap t1 t2 l1 l2).objs.size = s'.heap.objs.size + 2 := by rw [Heap.size_push, z1]
  have z3 : (zH3 s'.heap t1 t2 l1 l2).objs.size = s'.heap.objs.size + 3 := by rw [Heap.size_push, z2]
  have z4 : (zH4 s'.heap t1 t2 l1 l2).objs.size = s'.heap.objs.size + 4 := by rw [Heap.size_push, z3]
  have up : Sub s'.heap (zH5 s'.heap t1 t2 l1 l2) := fun b o e => Heap.get?_push_of_some _ (Heap.get?_push_of_some _ (Heap.get?_push_of_some _ (Heap.get?_push_of_some _ (Heap.get?_push_of_some _ e))))
  have g5 : (zH5 s'.heap t1 t2 l1 l2).get? (zH4 s'.heap t1 t2 l1 l2).objs.size = some _ := Heap.get?_push_size _ rfl
  have g4 : (zH5 s'.heap t1 t2 l1 l2).get? (zH3 s'.heap t1 t2 l1 l2).objs.size = some _ := Heap.get?_push_of_some _ (Heap.get?_push_size _ rfl)
  have g3 : (zH5 s'.heap t1 t2 l1 l2).get? (zH2 s'.heap t1 t2 l1 l2).objs.size = some _ := Heap.get?_push_of_some _ (Heap.get?_push_of_some _ (Heap.get?_push_size _ rfl))
  have g2 : SqI t2 (zH5 s'.heap t1 t2 l1 l2) (zH1 s'.heap t1 l1).objs.size l2 0 := Sq.pushed.at fun o e => Heap.get?_push_of_some _ (Heap.get?_push_of_some _ (Heap.get?_push_of_some _ e))
  have g1 : SqI t1 (zH5 s'.heap t1 t2 l1 l2) s'.heap.objs.size l1 0 := Sq.pushed.at fun o e => Heap.get?_push_of_some _ (Heap.get?_push_of_some _ (Heap.get?_push_of_some _ (Heap.get?_push_of_some _ e)))
  rw [z2, z3, z4] at g5
  rw [z1, z2] at g3
  rw [z3] at g4
  rw [z1] at g2
  show _ ∧ _
  rw [z4]
  generalize zH5 s'.heap t1 t2 l1 l2 = H at g1 g2 g3 g4 g5 up
  have nn : ∀ k, s'.heap.get? (s'.heap.objs.size + k) = Option.none := fun k => by
    cases q : s'.heap.get? (s'.heap.objs.size + k) with
    | none => rfl
    | some o => exact absurd (Heap.lt_size q) (Nat.not_lt.mpr (Nat.le_add_right _ _))
  have hn : ∀ k, (hid s'.heap M).get? (s'.heap.objs.size + k) = Option.none := fun k => by
    cases q : (hid s'.heap M).get? (s'.heap.objs.size + k) with
    | none => rfl
    | some o => have := hid_sub _ _ _ _ q; rw [nn k] at this; cases this
  obtain ⟨o1, eo1⟩ := q1'.ex
  obtain ⟨o2, eo2⟩ := q2'.ex
  have b1 := Heap.lt_size eo1
  have b2 := Heap.lt_size eo2
  have len : (zipV xs ys).length = xs.length := by simp [zipV, hxy]
  have D : ZAp (s'.heap.objs.size + 4) (s'.heap.objs.size + 2) (s'.heap.objs.size + 3) s'.heap.objs.size (s'.heap.objs.size + 1) [s'.heap.objs.size, l1] [s'.heap.objs.size + 1, l2] := zap_nat _ _ _ b1 b2
  have wk : ∀ A, Room A n → WalksT C.prog C.w A (s'.heap.objs.size + 4) _ _ (zipV xs ys).length _ _ _ := fun A R => by
    have d1 := Draws_sq (prog := C.prog) (w := C.w) (A := A.in1) t1 (show A.in1.handled = none from R.hd) s'.heap.objs.size l1 (Nat.ne_of_lt b1) vs1.toArray
    have d2 := Draws_sq (prog := C.prog) (w := C.w) (A := A.in1) t2 (show A.in1.handled = none from R.hd) (s'.heap.objs.size + 1) l2 (Nat.ne_of_lt (Nat.lt_succ_of_lt b2)) vs2.toArray
    rw [show vs1.toArray.size = (zipV xs ys).length by rw [len]; simp [p1.length]] at d1
    rw [show vs2.toArray.size = (zipV xs ys).length by rw [len, hxy]; simp [p2.length]] at d2
    exact WalksT_zip D d1 d2
  refine ⟨⟨_, g5, rfl⟩, s', S', k', ⟨H, s'.toks, rfl, up⟩, ?_⟩
  refine wpAny_pyIter_zip g5 ?_
  refine ⟨_, _, [s'.heap.objs.size + 4, s'.heap.objs.size + 2, s'.heap.objs.size + 3, s'.heap.objs.size, s'.heap.objs.size + 1], _, rfl, It_walks (wr' := [s'.heap.objs.size + 4, s'.heap.objs.size + 2, s'.heap.objs.size + 3, s'.heap.objs.size, s'.heap.objs.size + 1]) wk (fun i T h m => m.2.2.2.2.2.2.2) ?_ ?_ ?_ ?_ ?_ ?_ ?_, ⟨⟨⟨g5, g3, _, _, g4⟩, ⟨⟨g1, q1'.at fun o e => up _ _ e⟩, g2, q2'.at fun o e => up _ _ e⟩, ?_⟩, fun b o e => up _ _ (hid_sub _ _ _ _ e)⟩, ⟨H, s'.toks, rfl, up⟩, ?_, ?_⟩
  · rintro i vals ⟨x', y', ex, ey, rfl⟩
    have ex' : vs1[i]? = some x' := by simpa using ex
    have ey' : vs2[i]? = some y' := by simpa using ey
    have i1 : i < xs.length := by rw [← p1.length]; exact (List.getElem?_eq_some_iff.mp ex').1
    obtain ⟨u1, f1, w1⟩ := p1.get (List.getElem?_eq_getElem i1)
    obtain ⟨u2, f2, w2⟩ := p2.get (List.getElem?_eq_getElem (hxy ▸ i1 : i < ys.length))
    rw [ex'] at f1; cases f1
    rw [ey'] at f2; cases f2
    refine ⟨[xs[i], ys[i]'(hxy ▸ i1)], ?_, .cons w1 (.cons w2 .nil)⟩
    unfold zipV
    rw [List.getElem?_map, List.getElem?_zip_eq_some (z := (xs[i], ys[i]'(hxy ▸ i1))) |>.mpr ⟨List.getElem?_eq_getElem i1, List.getElem?_eq_getElem (hxy ▸ i1 : i < ys.length)⟩]
    rfl
  · intro b hb
    simp only [List.mem_cons, List.not_mem_nil, or_false] at hb ⊢
    rcases hb with h | h | h | h <;> simp [h]
  · intro b hb
    simp only [List.mem_cons, List.mem_append, List.not_mem_nil, or_false] at hb ⊢
    rcases hb with h | h | h | h | h <;> simp [h]
  · rintro i h ⟨⟨c1, c2, _, _, c3⟩, ⟨⟨c4, _⟩, c5, _⟩, _⟩ b hb
    simp at hb
    rcases hb with rfl | rfl | rfl | rfl | rfl
    · exact ⟨_, c1⟩
    · exact ⟨_, c2⟩
    · exact ⟨_, c3⟩
    · exact c4.ex
    · exact c5.ex
  · rintro i T h ⟨⟨c1, c2, _, _, c3⟩, ⟨⟨c4, _⟩, c5, _⟩, _⟩ b hb
    simp at hb
    rcases hb with rfl | rfl | rfl | rfl | rfl
    · exact ⟨_, c1⟩
    · exact ⟨_, c2⟩
    · exact ⟨_, c3⟩
    · exact c4.ex
    · exact c5.ex
  · intro b hb; simp at hb
    rcases hb with rfl | rfl | rfl | rfl | rfl
    · exact hn _
    · exact hn _
    · exact hn _
    · exact hn 0
    · exact hn _
  · exact (wk A R).frame
  · have h1 : s'.heap.objs.size + 2 ∉ ([s'.heap.objs.size, l1] : List Nat) := by
      have b1' : (l1 : Nat) < s'.heap.objs.size := b1
      simp only [List.mem_cons, List.not_mem_nil, or_false]
      intro q
      rcases q with q | q
      · lia
      · exact absurd (show (l1 : Nat) < s'.heap.objs.size from b1) (by rw [← q]; exact Nat.not_lt.mpr (Nat.le_add_right _ _))
    have h2 : s'.heap.objs.size + 2 ∉ ([s'.heap.objs.size + 1, l2] : List Nat) := by
      simp only [List.mem_cons, List.not_mem_nil, or_false]
      intro q
      rcases q with q | q
      · lia
      · exact absurd (show (l2 : Nat) < s'.heap.objs.size from b2) (by rw [← q]; exact Nat.not_lt.mpr (Nat.le_add_right _ _))
    exact ⟨h1, h2⟩
  · intro b hb; simp at hb
    rcases hb with rfl | rfl | rfl | rfl | rfl
    · exact nn _
    · exact nn _
    · exact nn _
    · exact nn 0
    · exact nn _
  · intro b hb
    simp only [List.mem_cons, List.mem_append, List.not_mem_nil, or_false] at hb
    rcases hb with (rfl | rfl | rfl) | (rfl | rfl) | (rfl | rfl)
    · exact .inl (by simp)
    · exact .inl (by simp)
    · exact .inl (by simp)
    · exact .inl (by simp)
    · exact .inr q1.ex
    · exact .inl (by simp)
    · exact .inr q2.ex
end
end Mine
namespace Mine
theorem call_enum {prog : Program} {w : World} {A : Around} {E : Value → Shared → Prop} {s : Shared} {tu : Bool} {l : Addr} {items : Array Value} {Q : Value → Shared → Prop} (hL : Sq tu s.heap l items)
    (h : ∀ h', IsEnum h' (s.heap.objs.size + 1) s.heap.objs.size 0 .none → SqI tu h' s.heap.objs.size l 0 →
      (∀ b o, s.heap.get? b = some o → h'.get? b = some o) → Q (.ref (s.heap.objs.size + 1)) { s with heap := h' }) :
    wpAny (model prog w) A (call (.type "enumerate") [.ref l]) Q E s := by
  cases tu
  · exact call_enumerate_list hL fun h' a b _ d => h h' a b d
  obtain ⟨⟨c, dct, dt, sl⟩, hl, hc, n, hd⟩ := hL
  replace hc : c = .type "tuple" := hc
  replace hd : dt = .seq items n := hd
  subst hc hd
  refine callType_new F.called_enumerate (by decide) (F.typeCall_enumerate_1 _) (F.newCall_enumerate_1 _) (fun obj => F.args_object_init_2 obj _) F.entry_enumerate_new
    (meets_enumT l items n dct sl) ⟨hl, ?_⟩
  have hz : (s.heap.push (SqPush true l)).objs.size = s.heap.objs.size + 1 := Heap.size_push ..
  show _ ∧ _
  rw [hz]
  have he : IsEnum ((s.heap.push (SqPush true l)).push { cls := .type "enumerate", data := .fields #[.none, .bool false, .ref s.heap.objs.size, rawInt 0, .none, .none] }) (s.heap.objs.size + 1) s.heap.objs.size 0 .none := by
    have := Heap.get?_push_size (s.heap.push (SqPush true l)) (o := { cls := .type "enumerate", data := .fields #[.none, .bool false, .ref s.heap.objs.size, rawInt 0, .none, .none] }) rfl
    rw [hz] at this; exact this
  refine ⟨⟨_, he, rfl⟩, h _ he ?_ fun b o x => Heap.get?_push_of_some _ (Heap.get?_push_of_some _ x)⟩
  exact (Sq.pushed (tu := true)).at fun o e => Heap.get?_push_of_some _ e

theorem WalksT_enum {prog : Program} {w : World} {A : Around} {it : Addr} {fp : List Addr} {n : Nat} {P : Nat → Value → Prop} {St : Nat → Heap → Prop} (D : Draws prog w A.in1 it fp n P St) (e : Addr) (hei : e ≠ it) (hef : e ∉ fp) (hif : it ∈ fp) :
    WalksT prog w A e (e :: fp) [e, it] n (fun i vals => ∃ t x, P i x ∧ vals = #[.int i t, x]) (fun i h => (∃ old, IsEnum h e it i old) ∧ St i h)
      (fun i T h => ((∃ x, IsEnumOut h e it ((i : Int) + 1) x T) ∧ St (i + 1) h ∧ T ≠ e ∧ T ≠ it) ∧ ∃ x y, IsPair h T x y) :=
  have W := WalksT.enumerateD D e hei hef hif
  { sub := W.sub, frame := W.frame, done := W.done, self := W.self
    go := fun elts k pos i T s Q E hm hQ => W.go elts k pos i T s Q E hm.1 hQ
    apart := fun i T h hm => W.apart i T h hm.1
    item := fun i s Q E hi hst hQ => by
      obtain ⟨⟨old, he⟩, hs⟩ := hst
      obtain ⟨_, y⟩ := D.live _ _ hs
      refine wpAny_pyNext_enum_itemD D he hs hi hei hef fun x h' tk hP ho hs' hT _ hk => ?_
      exact hQ _ _ h' (tk + 1) ⟨tk, x, hP, rfl⟩ (Nat.le_refl _) ⟨_, hT, rfl, _, rfl⟩ ⟨⟨⟨_, ho⟩, hs', Nat.ne_of_gt (Heap.lt_size he), Nat.ne_of_gt (Heap.lt_size y)⟩, _, _, hT⟩
        fun b o hb z => hk b o (fun q => hb (by simp [q])) (fun q => hb (by simp [q])) z }

section
variable {C : Cx} {n : Nat} {env : Env} {σ σ' : List (Str × V)} {τ τ₁ τ₂ τ₃ : Option Nat} {wv : Str → Bool}
theorem IterE_enum {f p pos e} {x : V} {xs : List V} (g : BuiltAt C f (.type "enumerate")) (h : Ev C n e env σ τ x τ₁) (hx : (x = .lst xs) ∨ (x = .tup xs))
    (kf : env.kindOf f = some .globalImplicit)
    (hst : (starEach [e] env).any (·.1) = false := by rfl) (he : starEach [e] env = (false, eval e env) :: starEach [] env := by rfl) (hd : (f == ("__debug__" : Str)) = false := by decide) : IterE C n (.Call (.Name f p) [e] [] pos) env σ τ true (enumV 0 xs) τ₁ := fun A R M s S => by
  show wpAny _ _ (do callWith pos (← eval (.Name f p) env) [] (backTo pos (starEach [e] env)) []) _ _ _
  refine wpAny_bind (wp_built S g kf hd ?_)
  refine callWith_type (by rw [backTo_any]; exact hst) (evalArgs_ev (EvL_cons h EvL_nil he) he R S fun vs s' S' r' k' => ?_)
  obtain ⟨v1, rfl, r1⟩ := repL_one r'
  obtain ⟨t1, l1, vs1, rfl, q1, p1⟩ := items_sq r1 hx
  have q1' : Sq t1 s'.heap l1 vs1.toArray := q1.at fun o e => hid_sub _ _ _ _ e
  obtain ⟨o1, eo1⟩ := q1'.ex
  have b1 := Heap.lt_size eo1
  refine call_enum q1' fun H g1 g2 up => ?_
  have nn : ∀ k, s'.heap.get? (s'.heap.objs.size + k) = Option.none := fun k => by
    cases q : s'.heap.get? (s'.heap.objs.size + k) with
    | none => rfl
    | some o => exact absurd (Heap.lt_size q) (Nat.not_lt.mpr (Nat.le_add_right _ _))
  have hn : ∀ k, (hid s'.heap M).get? (s'.heap.objs.size + k) = Option.none := fun k => by
    cases q : (hid s'.heap M).get? (s'.heap.objs.size + k) with
    | none => rfl
    | some o => have := hid_sub _ _ _ _ q; rw [nn k] at this; cases this
  have hei : s'.heap.objs.size + 1 ≠ s'.heap.objs.size := Nat.succ_ne_self _
  have wk : ∀ A, Room A n → WalksT C.prog C.w A (s'.heap.objs.size + 1) _ _ (enumV 0 xs).length _ _ _ := fun A R => by
    have d1 := Draws_sq (prog := C.prog) (w := C.w) (A := A.in1) t1 (show A.in1.handled = none from R.hd) s'.heap.objs.size l1 (Nat.ne_of_lt b1) vs1.toArray
    rw [show vs1.toArray.size = (enumV 0 xs).length by rw [enumV_length]; simp [p1.length]] at d1
    refine WalksT_enum d1 (s'.heap.objs.size + 1) hei ?_ (by simp)
    simp only [List.mem_cons, List.not_mem_nil, or_false, not_or]
    exact ⟨hei, Nat.ne_of_gt (Nat.lt_succ_of_lt b1)⟩
  refine ⟨s', S', k', ⟨H, s'.toks, rfl, up⟩, ?_⟩
  refine wpAny_pyIter_enum g1 ?_
  refine ⟨_, _, [s'.heap.objs.size + 1, s'.heap.objs.size], _, rfl, It_walks (wr' := [s'.heap.objs.size + 1, s'.heap.objs.size]) wk (fun i T h m => m.2) ?_ ?_ ?_ ?_ ?_ ?_ ?_, ⟨⟨⟨_, g1⟩, ⟨g2, q1'.at fun o e => up _ _ e⟩⟩, fun b o e => up _ _ (hid_sub _ _ _ _ e)⟩, ⟨H, s'.toks, rfl, up⟩, ?_, ?_⟩
  · rintro i vals ⟨t, x', ex, rfl⟩
    have ex' : vs1[i]? = some x' := by simpa using ex
    have i1 : i < xs.length := by rw [← p1.length]; exact (List.getElem?_eq_some_iff.mp ex').1
    obtain ⟨u1, f1, w1⟩ := p1.get (List.getElem?_eq_getElem i1)
    rw [ex'] at f1; cases f1
    refine ⟨[.int i, xs[i]], ?_, .cons (.int _ _) (.cons w1 .nil)⟩
    rw [enumV_get, List.getElem?_eq_getElem i1, Nat.zero_add]
    rfl
  · intro b hb; exact hb
  · intro b hb
    simp only [List.mem_cons, List.not_mem_nil, or_false] at hb ⊢
    rcases hb with h | h <;> simp [h]
  · rintro i h ⟨⟨_, c1⟩, c4, _⟩ b hb
    simp only [List.mem_cons, List.not_mem_nil, or_false] at hb
    rcases hb with rfl | rfl
    · exact ⟨_, c1⟩
    · exact c4.ex
  · rintro i T h ⟨⟨⟨_, c1⟩, ⟨c4, _⟩, _⟩, _⟩ b hb
    simp only [List.mem_cons, List.not_mem_nil, or_false] at hb
    rcases hb with rfl | rfl
    · exact ⟨_, c1⟩
    · exact c4.ex
  · intro b hb
    simp only [List.mem_cons, List.not_mem_nil, or_false] at hb
    rcases hb with rfl | rfl
    · exact hn _
    · exact hn 0
  · exact (wk A R).frame
  · intro b hb
    simp only [List.mem_cons, List.not_mem_nil, or_false] at hb
    rcases hb with rfl | rfl
    · exact nn _
    · exact nn 0
  · intro b hb
    simp only [List.mem_cons, List.not_mem_nil, or_false] at hb
    rcases hb with rfl | rfl | rfl
    · exact .inl (by simp)
    · exact .inl (by simp)
    · exact .inr q1.ex
end
end Mine
namespace Mine

noncomputable def gp (p : Array Nat) (k : Nat) : Nat := p.getD k 0
theorem gp_of {p q : Array Nat} {i j : Nat} (h : p[i]? = q[j]?) : gp p i = gp q j := by
  unfold gp; rw [Array.getD_eq_getD_getElem?, Array.getD_eq_getD_getElem?, h]
theorem gp_rev {p : Array Nat} {i j : Nat} (hj : j ≤ p.size) (k : Nat) : gp (kas_rev p i j) k = if i ≤ k ∧ k < j then gp p (i + j - 1 - k) else gp p k := by
  have e := getElem?_mirror_all (xs := p) (i := i) hj k
  split
  · rename_i h; rw [if_pos h] at e; exact gp_of e
  · rename_i h; rw [if_neg h] at e; exact gp_of e
theorem gp_bubble {p : Array Nat} {k l : Nat} (hk : k < p.size) (hl : l ≤ k) (i : Nat) : gp (bubble p k (k - l)) i = if i = l then gp p k else if l < i ∧ i ≤ k then gp p (i - 1) else gp p i := by
  have e := getElem?_bubble hk (k - l) (Nat.sub_le ..) i
  rw [show k - (k - l) = l by lia] at e
  by_cases h1 : i = l
  · rw [if_pos h1] at e ⊢; exact gp_of e
  · rw [if_neg h1] at e ⊢
    by_cases h2 : l < i ∧ i ≤ k
    · rw [if_pos h2] at e ⊢; exact gp_of e
    · rw [if_neg h2] at e ⊢; exact gp_of e

structure Ord (lt : Nat → Nat → Bool) : Prop where
  tot : ∀ i j, lt i j = true → lt j i = false
  tr : ∀ i j k, lt j i = false → lt k j = false → lt k i = false
section
variable {lt : Nat → Nat → Bool} {n : Nat} {cmp : Nat → Nat → (Bool → Shared → Prop) → Shared → Prop} {s : Shared}
noncomputable def Le (lt : Nat → Nat → Bool) (i j : Nat) : Prop := lt j i = false
theorem Ord.rfl' (o : Ord lt) (i : Nat) : Le lt i i := by
  unfold Le
  cases h : lt i i with
  | false => rfl
  | true => have := o.tot i i h; rw [h] at this; cases this
theorem Ord.trans (o : Ord lt) {i j k : Nat} (a : Le lt i j) (b : Le lt j k) : Le lt i k := o.tr i j k a b
noncomputable def NonDec (lt : Nat → Nat → Bool) (p : Array Nat) (m : Nat) : Prop := ∀ i j, i ≤ j → j < m → Le lt (gp p i) (gp p j)
noncomputable def NonInc (lt : Nat → Nat → Bool) (p : Array Nat) (m : Nat) : Prop := ∀ i j, i ≤ j → j < m → Le lt (gp p j) (gp p i)
theorem NonDec.more (o : Ord lt) {p : Array Nat} {m : Nat} (h : NonDec lt p m) (h1 : 1 ≤ m) (e : Le lt (gp p (m - 1)) (gp p m)) : NonDec lt p (m + 1) := fun i j hij hj => by
  by_cases q : j < m
  · exact h i j hij q
  · have : j = m := by lia
    subst this
    by_cases q2 : i = j
    · subst q2; exact o.rfl' _
    · exact o.trans (h i (j - 1) (by lia) (by lia)) e
theorem NonInc.more (o : Ord lt) {p : Array Nat} {m : Nat} (h : NonInc lt p m) (h1 : 1 ≤ m) (e : Le lt (gp p m) (gp p (m - 1))) : NonInc lt p (m + 1) := fun i j hij hj => by
  by_cases q : j < m
  · exact h i j hij q
  · have : j = m := by lia
    subst this
    by_cases q2 : i = j
    · subst q2; exact o.rfl' _
    · exact o.trans e (h i (j - 1) (by lia) (by lia))

noncomputable def Pm (n : Nat) (p : Array Nat) : Prop := p.Perm (List.range n).toArray
theorem Pm.size {p : Array Nat} (h : Pm n p) : p.size = n := by have := Array.Perm.size_eq h; simpa using this
theorem Pm.rev {p : Array Nat} (h : Pm n p) (i j : Nat) : Pm n (kas_rev p i j) := Array.Perm.trans (mirror_perm ..) h
theorem Pm.bub {p : Array Nat} (h : Pm n p) (i j : Nat) : Pm n (bubble p i j) := Array.Perm.trans (bubble_perm ..) h
theorem Pm.bnd {p : Array Nat} (h : Pm n p) (n0 : 0 < n) (k : Nat) : gp p k < n := by
  unfold gp
  by_cases hk : k < p.size
  · have e : p.getD k 0 = p[k] := by simp [Array.getD, hk]
    rw [e]
    have hm : p[k] ∈ p.toList := by simp
    have := (Array.perm_iff_toList_perm.mp h).mem_iff.mp hm
    simpa using this
  · have e : p.getD k 0 = 0 := by simp [Array.getD, hk]
    rw [e]; exact n0

noncomputable def CmpOk (n : Nat) (lt : Nat → Nat → Bool) (cmp : Nat → Nat → (Bool → Shared → Prop) → Shared → Prop) (s : Shared) : Prop := ∀ i j C, i < n → j < n → C (lt i j) s → cmp i j C s

theorem asc_ok (o : Ord lt) (hc : CmpOk n lt cmp s) {p : Array Nat} (hp : Pm n p) {Q : Nat → Shared → Prop} : ∀ (f m : Nat), m + f ≤ n → 1 ≤ m → NonDec lt p m →
    (∀ m', m ≤ m' → m' ≤ m + f → NonDec lt p m' → (m' < m + f → lt (gp p m') (gp p (m' - 1)) = true) → Q m' s) → (kas_asc p f m).kasWp cmp Q s
  | 0, m, hm, h1, nd, h => h m (Nat.le_refl _) (Nat.le_refl _) nd fun q => absurd q (Nat.lt_irrefl _)
  | f + 1, m, hm, h1, nd, h => by
    show cmp (gp p m) (gp p (m - 1)) (fun b s' => (if b = true then KasT.ret m else kas_asc p f (m + 1)).kasWp cmp Q s') s
    refine hc _ _ _ (hp.bnd (by lia) _) (hp.bnd (by lia) _) ?_
    cases e : lt (gp p m) (gp p (m - 1)) with
    | true => rw [if_pos rfl]; exact h m (Nat.le_refl _) (by (exact Nat.le_add_right _ _)) nd fun _ => e
    | false =>
      rw [if_neg (by simp)]
      exact asc_ok o hc hp f (m + 1) (by lia) (by (exact Nat.le_add_left _ _)) (nd.more o h1 e) fun m' a b c d => h m' (by (exact Nat.le_of_lt (by assumption))) (by lia) c fun q => d (by lia)

noncomputable def Grp (lt : Nat → Nat → Bool) (p : Array Nat) (a m : Nat) : Prop := ∀ i j, a ≤ i → i < m → a ≤ j → j < m → Le lt (gp p i) (gp p j)
theorem rev_same (o : Ord lt) {p : Array Nat} {a m : Nat} (hm : m ≤ p.size) (g : Grp lt p a m) (k : Nat) : Le lt (gp p k) (gp (kas_rev p a m) k) ∧ Le lt (gp (kas_rev p a m) k) (gp p k) := by
  rw [gp_rev hm]
  split
  · rename_i h; exact ⟨g _ _ (by lia) (by lia) (by lia) (by lia), g _ _ (by lia) (by lia) (by lia) (by lia)⟩
  · exact ⟨o.rfl' _, o.rfl' _⟩
theorem NonInc.same (o : Ord lt) {p q : Array Nat} {m : Nat} (h : NonInc lt p m) (e : ∀ k, Le lt (gp p k) (gp q k) ∧ Le lt (gp q k) (gp p k)) : NonInc lt q m := fun i j hij hj => o.trans (e j).2 (o.trans (h i j hij hj) (e i).1)

theorem desc_ok (o : Ord lt) (hc : CmpOk n lt cmp s) {Q : Array Nat × Nat × Nat → Shared → Prop} : ∀ (f : Nat) (p : Array Nat) (m q : Nat), Pm n p → m + f ≤ n → 1 ≤ m → q + 1 ≤ m → NonInc lt p m → Grp lt p (m - (q + 1)) m →
    (∀ p' m' q', Pm n p' → 1 ≤ m' → m' ≤ m + f → q' + 1 ≤ m' → NonInc lt p' m' → Grp lt p' (m' - (q' + 1)) m' → Q (p', m', q') s) → (kas_desc f p m q).kasWp cmp Q s
  | 0, p, m, q, hp, hm, h1, hq, ni, g, h => h p m q hp h1 (Nat.le_refl _) hq ni g
  | f + 1, p, m, q, hp, hm, h1, hq, ni, g, h => by
    show cmp (gp p m) (gp p (m - 1)) (fun c s' => (if c = true then (if q > 0 then kas_desc f (kas_rev p (m - (q + 1)) m) (m + 1) 0 else kas_desc f p (m + 1) 0)
      else .ask (gp p (m - 1)) (gp p m) fun d => if d = true then .ret (p, m, q) else kas_desc f p (m + 1) (q + 1)).kasWp cmp Q s') s
    refine hc _ _ _ (hp.bnd (by lia) _) (hp.bnd (by lia) _) ?_
    cases e : lt (gp p m) (gp p (m - 1)) with
    | true =>
      rw [if_pos rfl]
      have le1 : Le lt (gp p m) (gp p (m - 1)) := o.tot _ _ e
      by_cases hq0 : q > 0
      · rw [if_pos hq0]
        have same := rev_same o (by rw [hp.size]; lia) g
        have ni' : NonInc lt (kas_rev p (m - (q + 1)) m) (m + 1) := (ni.more o h1 le1).same o same
        refine desc_ok o hc f _ (m + 1) 0 (hp.rev _ _) (by lia) (by (exact Nat.le_add_left _ _)) (by (exact Nat.le_add_left _ _)) ni' (fun i j a b c d => ?_) fun p' m' q' a b c d => h p' m' q' a b (by lia) d
        have : i = j := by lia
        subst this; exact o.rfl' _
      · rw [if_neg hq0]
        refine desc_ok o hc f _ (m + 1) 0 hp (by lia) (by (exact Nat.le_add_left _ _)) (by (exact Nat.le_add_left _ _)) (ni.more o h1 le1) (fun i j a b c d => ?_) fun p' m' q' a b c d => h p' m' q' a b (by lia) d
        have : i = j := by lia
        subst this; exact o.rfl' _
    | false =>
      rw [if_neg (by simp)]
      show cmp (gp p (m - 1)) (gp p m) (fun d s' => (if d = true then KasT.ret (p, m, q) else kas_desc f p (m + 1) (q + 1)).kasWp cmp Q s') s
      refine hc _ _ _ (hp.bnd (by lia) _) (hp.bnd (by lia) _) ?_
      cases e2 : lt (gp p (m - 1)) (gp p m) with
      | true => rw [if_pos rfl]; exact h p m q hp h1 (by (exact Nat.le_add_right _ _)) hq ni g
      | false =>
        rw [if_neg (by simp)]
        have l1 : Le lt (gp p (m - 1)) (gp p m) := e
        have l2 : Le lt (gp p m) (gp p (m - 1)) := e2
        refine desc_ok o hc f p (m + 1) (q + 1) hp (by lia) (by (exact Nat.le_add_left _ _)) (by (exact Nat.lt_succ_of_le (by assumption))) (ni.more o h1 l2) (fun i j a b c d => ?_) fun p' m' q' a b c d => h p' m' q' a b (by lia) d
        have toM : ∀ i, m + 1 - (q + 1 + 1) ≤ i → i < m + 1 → Le lt (gp p i) (gp p m) ∧ Le lt (gp p m) (gp p i) := fun i a b => by
          by_cases z : i = m
          · subst z; exact ⟨o.rfl' _, o.rfl' _⟩
          · exact ⟨o.trans (g i (m - 1) (by lia) (by lia) (by lia) (by lia)) l1, o.trans l2 (g (m - 1) i (by lia) (by lia) (by lia) (by lia))⟩
        exact o.trans (toM i a b).1 (toM j c d).2

theorem tail3_ok (o : Ord lt) (hc : CmpOk n lt cmp s) {p : Array Nat} {m : Nat} {Q : Nat × Array Nat → Shared → Prop} (hp : Pm n p) (h1 : 1 ≤ m) (hm : m ≤ n) (ni : NonInc lt p m)
    (h : ∀ p' m', Pm n p' → m ≤ m' → m' ≤ n → NonDec lt p' m' → Q (m', p') s) : (kas_tail3 m n p).kasWp cmp Q s := by
  have nd : NonDec lt (kas_rev p 0 m) m := fun i j hij hj => by
    rw [gp_rev (by rw [hp.size]; exact hm), gp_rev (by rw [hp.size]; exact hm), if_pos ⟨by (exact Nat.le_add_left _ _), by (exact Nat.lt_of_le_of_lt (by assumption) (by assumption))⟩, if_pos ⟨by (exact Nat.le_add_left _ _), by assumption⟩]
    exact ni _ _ (by lia) (by lia)
  unfold kas_tail3
  rw [KasT.kasWp_bind]
  exact asc_ok o hc (hp.rev _ _) (n - m) m (by lia) h1 nd fun m' a b c _ => h _ m' (hp.rev _ _) a (by lia) c

theorem descPart_ok (o : Ord lt) (hc : CmpOk n lt cmp s) {p : Array Nat} {m : Nat} {Q : Nat × Array Nat → Shared → Prop} (hp : Pm n p) (h1 : 1 ≤ m) (hm : m + 1 ≤ n) (ni : NonInc lt p (m + 1))
    (h : ∀ p' m', Pm n p' → 1 ≤ m' → m' ≤ n → NonDec lt p' m' → Q (m', p') s) : (kas_descPart m n p).kasWp cmp Q s := by
  unfold kas_descPart
  rw [KasT.kasWp_bind]
  refine desc_ok o hc (n - (m + 1)) p (m + 1) 0 hp (by lia) (by (exact Nat.le_add_left _ _)) (by (exact Nat.le_add_left _ _)) ni (fun i j a b c d => ?_) fun p' m' q' hp' a b c d g => ?_
  · have : i = j := by lia
    subst this; exact o.rfl' _
  · dsimp only
    split
    · exact tail3_ok o hc (hp'.rev _ _) a (by lia) (d.same o (rev_same o (by rw [hp'.size]; lia) g)) fun p'' m'' x y z w => h p'' m'' x (by lia) z w
    · exact tail3_ok o hc hp' a (by lia) d fun p'' m'' x y z w => h p'' m'' x (by (exact Nat.le_trans (by assumption) (by assumption))) z w

theorem count_ok (o : Ord lt) (hc : CmpOk n lt cmp s) {p : Array Nat} {Q : Nat × Array Nat → Shared → Prop} (hp : Pm n p) (h1 : 1 ≤ n)
    (h : ∀ p' m', Pm n p' → 1 ≤ m' → m' ≤ n → NonDec lt p' m' → Q (m', p') s) : (kas_count n p).kasWp cmp Q s := by
  unfold kas_count
  rw [KasT.kasWp_bind]
  refine asc_ok o hc hp (n - 1) 1 (by lia) (by decide) (fun i j a b => ?_) fun m a b nd stop => ?_
  · have : i = j := by lia
    subst this; exact o.rfl' _
  · by_cases e : m = n
    · subst e
      rw [if_pos (by simp)]
      exact h p m hp a (Nat.le_refl _) nd
    · rw [if_neg (by simpa using e)]
      have st := stop (by lia)
      have le1 : Le lt (gp p m) (gp p (m - 1)) := o.tot _ _ st
      by_cases m1 : m > 1
      · rw [if_pos m1]
        show cmp (gp p 0) (gp p (m - 1)) (fun c s' => (if c = true then KasT.ret (m, p) else kas_descPart m n (kas_rev p 0 m)).kasWp cmp Q s') s
        refine hc _ _ _ (hp.bnd (by assumption) _) (hp.bnd (by assumption) _) ?_
        cases e2 : lt (gp p 0) (gp p (m - 1)) with
        | true => rw [if_pos rfl]; exact h p m hp a (by lia) nd
        | false =>
          rw [if_neg (by simp)]
          have grp : Grp lt p 0 m := fun i j _ b _ d => o.trans (nd i (m - 1) (by lia) (by lia)) (o.trans e2 (nd 0 j (by assumption) d))
          have ni : NonInc lt p m := fun i j _ b => grp j i (by (exact Nat.le_add_left _ _)) b (by (exact Nat.le_add_left _ _)) (by (exact Nat.lt_of_le_of_lt (by assumption) (by assumption)))
          exact descPart_ok o hc (hp.rev _ _) a (by lia) ((ni.more o a le1).same o (rev_same o (by rw [hp.size]; lia) grp)) h
      · rw [if_neg m1]
        have : m = 1 := by lia
        subst this
        refine descPart_ok o hc hp a (by lia) (NonInc.more o (fun i j x y => ?_) a le1) h
        have : i = j := by lia
        subst this; exact o.rfl' _

theorem place_ok (o : Ord lt) (hc : CmpOk n lt cmp s) {p : Array Nat} {k : Nat} {Q : Nat → Shared → Prop} (hp : Pm n p) (hk : k < n) (nd : NonDec lt p k) : ∀ (f l r : Nat), l ≤ r → r ≤ k → r - l ≤ f →
    (∀ i, i < l → Le lt (gp p i) (gp p k)) → (∀ i, r ≤ i → i < k → Le lt (gp p k) (gp p i)) →
    (∀ l, l ≤ k → (∀ i, i < l → Le lt (gp p i) (gp p k)) → (∀ i, l ≤ i → i < k → Le lt (gp p k) (gp p i)) → Q l s) → (kas_place p k f l r).kasWp cmp Q s
  | 0, l, r, hlr, hr, hf, a, b, h => by
    have : l = r := by lia
    subst this
    exact h l hr a b
  | f + 1, l, r, hlr, hr, hf, a, b, h => by
    unfold kas_place
    by_cases e : l ≥ r
    · rw [if_pos e]
      have : l = r := by lia
      subst this
      exact h l hr a b
    · rw [if_neg e]
      show cmp (gp p k) (gp p ((l + r) / 2)) (fun c s' => (if c = true then kas_place p k f l ((l + r) / 2) else kas_place p k f ((l + r) / 2 + 1) r).kasWp cmp Q s') s
      have lm : l ≤ (l + r) / 2 := by lia
      have mr : (l + r) / 2 < r := by lia
      generalize (l + r) / 2 = m at lm mr ⊢
      refine hc _ _ _ (hp.bnd (by lia) _) (hp.bnd (by lia) _) ?_
      cases e2 : lt (gp p k) (gp p (m)) with
      | true =>
        rw [if_pos rfl]
        have l1 : Le lt (gp p k) (gp p (m)) := o.tot _ _ e2
        exact place_ok o hc hp hk nd f l (m) (by assumption) (by lia) (by lia) a (fun i x y => o.trans l1 (nd _ _ x y)) h
      | false =>
        rw [if_neg (by simp)]
        have l1 : Le lt (gp p (m)) (gp p k) := e2
        exact place_ok o hc hp hk nd f (m + 1) r (by assumption) hr (by lia) (fun i x => o.trans (nd _ _ (by (exact Nat.le_of_succ_le_succ (by assumption))) (by (exact Nat.le_trans (by assumption) (by assumption)))) l1) b h

theorem bin_ok (o : Ord lt) (hc : CmpOk n lt cmp s) {Q : Array Nat → Shared → Prop} : ∀ (f : Nat) (p : Array Nat) (k : Nat), Pm n p → k + f = n → NonDec lt p k → (∀ p', Pm n p' → NonDec lt p' n → Q p' s) → (kas_bin f p k).kasWp cmp Q s
  | 0, p, k, hp, hk, nd, h => h p hp (by rw [← hk]; exact nd)
  | f + 1, p, k, hp, hk, nd, h => by
    unfold kas_bin
    rw [KasT.kasWp_bind]
    refine place_ok o hc hp (by lia) nd k 0 k (by (exact Nat.le_add_left _ _)) (Nat.le_refl _) (by lia) (fun i x => absurd x (Nat.not_lt_zero _)) (fun i x y => absurd x (by lia)) fun l hl a b => ?_
    refine bin_ok o hc f _ (k + 1) (hp.bub _ _) (by lia) (fun i j hij hj => ?_) h
    rw [gp_bubble (by rw [hp.size]; lia) hl, gp_bubble (by rw [hp.size]; lia) hl]
    by_cases i1 : i = l
    · rw [if_pos i1]
      by_cases j1 : j = l
      · rw [if_pos j1]; exact o.rfl' _
      · rw [if_neg j1, if_pos ⟨by lia, by (exact Nat.le_of_succ_le_succ (by assumption))⟩]; exact b _ (by lia) (by lia)
    · rw [if_neg i1]
      by_cases i2 : l < i ∧ i ≤ k
      · rw [if_pos i2, if_neg (by lia), if_pos ⟨by lia, by (exact Nat.le_of_succ_le_succ (by assumption))⟩]; exact nd _ _ (by lia) (by lia)
      · rw [if_neg i2]
        by_cases j1 : j = l
        · rw [if_pos j1]; exact a _ (by lia)
        · rw [if_neg j1]
          by_cases j2 : l < j ∧ j ≤ k
          · rw [if_pos j2]; exact nd _ _ (by lia) (by lia)
          · rw [if_neg j2]; exact nd _ _ hij (by lia)

theorem sort_ok (o : Ord lt) (hc : CmpOk n lt cmp s) {Q : Array Nat → Shared → Prop} (h1 : 1 ≤ n) (h : ∀ p', Pm n p' → NonDec lt p' n → Q p' s) : (kas_sort n).kasWp cmp Q s := by
  unfold kas_sort
  rw [KasT.kasWp_bind]
  refine count_ok o hc (Array.Perm.refl _) h1 fun p' m' hp a b nd => ?_
  dsimp only
  split
  · rw [show max m' 1 = m' by lia]
    exact bin_ok o hc _ p' m' hp (by lia) nd h
  · have : m' = n := by lia
    subst this
    exact h p' hp nd
end
end Mine
namespace Mine
open AutoSeq1 (wpAny_loadPart')
open SeqAt

noncomputable def LtAt (A : Around) (s : Shared) (x y : Value) (b : Bool) : Prop := ∀ (prog : Program) (w : World) (E : Value → Shared → Prop) (Q : Value → Shared → Prop), Q (.bool b) s → wpAny (model prog w) A (richCompare .Lt x y) Q E s
inductive LexR (A : Around) (s : Shared) (fin : Bool) : List (Value × Value) → Bool → Prop
  | nil : LexR A s fin [] fin
  | eq {x y r b} : EqAt A s x y true → LexR A s fin r b → LexR A s fin ((x, y) :: r) b
  | ne {x y r b} : EqAt A s x y false → LtAt A s x y b → LexR A s fin ((x, y) :: r) b

set_option maxRecDepth 100000 in
theorem tuple_ltAt (l b : Addr) (items items2 : Array Value) (n n2 : Nat) (dd dd2 : Option Addr) (sl sl2 : Array (Option Value)) (c : Bool) :
    Meets (Builtin.«tuple.__lt__» ⟨[.ref l, .ref b], []⟩)
      (fun A R s => s.heap.get? l = some { cls := .type "tuple", dict := dd, data := .seq items n, slots := sl } ∧ s.heap.get? b = some { cls := .type "tuple", dict := dd2, data := .seq items2 n2, slots := sl2 } ∧
        LexR A.in1 s (decide (items.size < items2.size)) (items.toList.zip items2.toList) c ∧ R (.ok (.ret (.bool c))) s) :=
  .of_wp fun prog w A R s h => by
    obtain ⟨hp, g, d, tk, os⟩ := s; obtain ⟨hl, hb, he, h⟩ := h
    have f2 := AutoSeq1.sub_tuple_tuple
    wp_walk using wpAny_loadPart' hl, wpAny_loadPart' hb, wpAny_forIn_list _ (fun rest b s' => b.1 = none ∧ s' = ⟨hp, g, d, tk, os⟩ ∧ LexR A.in1 ⟨hp, g, d, tk, os⟩ (decide (items.size < items2.size)) rest c) _
    case turn =>
      rintro ⟨y, x⟩ rest b s' ⟨hb', rfl, hz⟩
      cases hz with
      | eq e r =>
        refine wpAny_bind (e prog w _ _ ?_)
        wp_walk
        exact ⟨rfl, rfl, r⟩
      | ne e r =>
        refine wpAny_bind (e prog w _ _ ?_)
        refine wpAny_bind (wpAny_rule (wpAny_bind (r prog w _ _ ?_)))
        wp_walk
        exact ⟨_, rfl, h⟩
    case fin =>
      rintro ⟨b1, b2⟩ s' ⟨hb', rfl, hz⟩
      simp only at hb'
      subst hb'
      cases hz
      wp_walk
      exact ⟨_, rfl, by simpa [Builtin.Tuple.tupleCompareSizes] using h⟩
    case h =>
      exact ⟨rfl, rfl, he⟩
theorem LtAt.tuples {A : Around} {s : Shared} {l b : Addr} {items items2 : Array Value} {c : Bool} (hl : s.heap.IsTuple l items) (hb : s.heap.IsTuple b items2) (hu : A.units < cLine)
    (he : LexR A.in1 s (decide (items.size < items2.size)) (items.toList.zip items2.toList) c) : LtAt A s (.ref l) (.ref b) c := fun prog w E Q h => by
  obtain ⟨⟨cls, dd, data, sl⟩, ho, hc, n, hd⟩ := id hl
  obtain ⟨⟨cls2, dd2, data2, sl2⟩, ho2, hc2, n2, hd2⟩ := id hb
  simp only at hc hd hc2 hd2
  subst hc hd hc2 hd2
  exact richCompare_meets_room (op := .Lt) ⟨_, ho, rfl⟩ ⟨_, ho2, rfl⟩ F.slot_tuple_lt F.entry_tuple_lt (F.args_tuple_lt_2 _ _) (tuple_ltAt l b items items2 n n2 dd dd2 sl sl2 c)
    ⟨ho, ho2, he, show Value.bool c ≠ Value.notImplemented ∧ Q (.bool c) s from ⟨(fun x => nomatch x), h⟩⟩ hu

mutual
noncomputable def V.srt : V → Bool
  | .int _ => true
  | .str x => PyData.strOk x
  | .tup xs => srtL xs
  | .none | .bool _ | .lst _ | .dct _ | .self _ | .tray | .any | .oL _ | .oD _ => false
noncomputable def srtL : List V → Bool
  | [] => true
  | x :: r => x.srt && srtL r
end
noncomputable def cmpN : List Nat → List Nat → Ordering
  | [], [] => .eq
  | [], _ :: _ => .lt
  | _ :: _, [] => .gt
  | x :: xs, y :: ys => if x < y then .lt else if y < x then .gt else cmpN xs ys
theorem cmpN_cons {x y : Nat} {xs ys : List Nat} : cmpN (x :: xs) (y :: ys) = if x < y then .lt else if y < x then .gt else cmpN xs ys := rfl
noncomputable def cmpI (a b : Int) : Ordering := if a < b then .lt else if b < a then .gt else .eq
mutual
noncomputable def cmpV : V → V → Ordering
  | .int a, y => match y with | .int b => cmpI a b | _ => .lt
  | .str x, y => match y with | .int _ => .gt | .str y => cmpN x.cps.toList y.cps.toList | _ => .lt
  | .tup xs, y => match y with | .int _ => .gt | .str _ => .gt | .tup ys => cmpL xs ys | _ => .eq
  | _, _ => .eq
noncomputable def cmpL : List V → List V → Ordering
  | [], [] => .eq
  | [], _ :: _ => .lt
  | _ :: _, [] => .gt
  | x :: xs, y :: ys => (cmpV x y).then (cmpL xs ys)
end
theorem cmpL_cons {x y : V} {xs ys : List V} : cmpL (x :: xs) (y :: ys) = (cmpV x y).then (cmpL xs ys) := rfl
theorem cmpV_int {a b : Int} : cmpV (.int a) (.int b) = cmpI a b := rfl
theorem cmpV_str {x y : Str} : cmpV (.str x) (.str y) = cmpN x.cps.toList y.cps.toList := rfl
theorem cmpV_tup {xs ys : List V} : cmpV (.tup xs) (.tup ys) = cmpL xs ys := rfl
theorem cmpV_is {a : Int} {y : Str} : cmpV (.int a) (.str y) = .lt := rfl
theorem cmpV_it {a : Int} {ys : List V} : cmpV (.int a) (.tup ys) = .lt := rfl
theorem cmpV_si {a : Str} {y : Int} : cmpV (.str a) (.int y) = .gt := rfl
theorem cmpV_st {a : Str} {ys : List V} : cmpV (.str a) (.tup ys) = .lt := rfl
theorem cmpV_ti {xs : List V} {y : Int} : cmpV (.tup xs) (.int y) = .gt := rfl
theorem cmpV_ts {xs : List V} {y : Str} : cmpV (.tup xs) (.str y) = .gt := rfl
theorem cmpN_eq : ∀ {a b : List Nat}, cmpN a b = .eq ↔ a = b
  | [], [] => ⟨fun _ => rfl, fun _ => rfl⟩
  | [], _ :: _ => ⟨fun h => (by cases h), fun h => (by cases h)⟩
  | _ :: _, [] => ⟨fun h => (by cases h), fun h => (by cases h)⟩
  | x :: xs, y :: ys => by
    rw [cmpN_cons]
    by_cases h1 : x < y
    · rw [if_pos h1]; exact ⟨fun h => (by cases h), fun h => absurd (List.cons.inj h).1 (Nat.ne_of_lt h1)⟩
    · by_cases h2 : y < x
      · rw [if_neg h1, if_pos h2]; exact ⟨fun h => (by cases h), fun h => absurd (List.cons.inj h).1 (Nat.ne_of_gt h2)⟩
      · rw [if_neg h1, if_neg h2, cmpN_eq]
        exact ⟨fun h => by rw [Nat.le_antisymm (Nat.le_of_not_lt h2) (Nat.le_of_not_lt h1), h], fun h => (List.cons.inj h).2⟩
theorem cmpN_swap : ∀ {a b : List Nat}, cmpN b a = (cmpN a b).swap
  | [], [] => rfl
  | [], _ :: _ => rfl
  | _ :: _, [] => rfl
  | x :: xs, y :: ys => by
    rw [cmpN_cons, cmpN_cons]
    by_cases h1 : x < y
    · rw [if_neg (Nat.lt_asymm h1), if_pos h1, if_pos h1]; rfl
    · by_cases h2 : y < x
      · rw [if_pos h2, if_neg h1, if_pos h2]; rfl
      · rw [if_neg h2, if_neg h1, if_neg h1, if_neg h2]; exact cmpN_swap
theorem cmpN_trans : ∀ {a b c : List Nat}, cmpN a b ≠ .gt → cmpN b c ≠ .gt → cmpN a c ≠ .gt
  | [], _, [], _, _ => fun h => by cases h
  | [], _, _ :: _, _, _ => fun h => by cases h
  | _ :: _, [], _, h, _ => absurd rfl h
  | _ :: _, _ :: _, [], _, h => absurd rfl h
  | x :: xs, y :: ys, z :: zs, h1, h2 => by
    have le : ∀ {x y : Nat} {xs ys : List Nat}, cmpN (x :: xs) (y :: ys) ≠ .gt → x ≤ y := fun {x y xs ys} h => Nat.le_of_not_lt fun q => h (by rw [cmpN_cons, if_neg (Nat.lt_asymm q), if_pos q])
    have l1 := le h1
    have l2 := le h2
    rw [cmpN_cons]
    by_cases a : x < z
    · rw [if_pos a]; exact fun h => by cases h
    · obtain rfl := Nat.le_antisymm l1 (Nat.le_trans l2 (Nat.le_of_not_lt a))
      obtain rfl := Nat.le_antisymm l2 (Nat.le_of_not_lt a)
      rw [cmpN_cons, if_neg (Nat.lt_irrefl x), if_neg (Nat.lt_irrefl x)] at h1 h2
      rw [if_neg (Nat.lt_irrefl x), if_neg (Nat.lt_irrefl x)]
      exact cmpN_trans h1 h2
theorem cmpN_lt : ∀ {a b : List Nat}, (cmpN a b == .lt) = decide (a < b)
  | [], [] => rfl
  | [], _ :: _ => (decide_eq_true (List.nil_lt_cons _ _)).symm
  | _ :: _, [] => (decide_eq_false (List.not_lt_nil _)).symm
  | x :: xs, y :: ys => by
    rw [cmpN_cons]
    by_cases h1 : x < y
    · rw [if_pos h1]; exact (decide_eq_true (List.cons_lt_cons_iff.mpr (.inl h1))).symm
    · by_cases h2 : y < x
      · rw [if_neg h1, if_pos h2]
        exact (decide_eq_false fun h => (List.cons_lt_cons_iff.mp h).elim h1 fun q => Nat.ne_of_gt h2 q.1).symm
      · obtain rfl := Nat.le_antisymm (Nat.le_of_not_lt h2) (Nat.le_of_not_lt h1)
        rw [if_neg h1, if_neg h2, cmpN_lt]
        exact decide_eq_decide.mpr ⟨fun h => List.cons_lt_cons_iff.mpr (.inr ⟨rfl, h⟩), fun h => (List.cons_lt_cons_iff.mp h).elim (fun q => absurd q h1) And.right⟩
theorem str_ext {x y : Str} (h : x.cps.toList = y.cps.toList) : x = y := by
  cases x; cases y
  congr 1
  exact Array.toList_inj.mp h
noncomputable def rkV : V → Nat
  | .int _ => 0
  | .str _ => 1
  | _ => 2
theorem rk_lt {x y : V} (hx : x.srt = true) (hy : y.srt = true) (h : rkV x < rkV y) : cmpV x y = .lt := by
  match x, hx with
  | .int _, _ =>
    match y, hy with
    | .int _, _ => exact absurd h (Nat.lt_irrefl 0)
    | .str _, _ => rfl
    | .tup _, _ => rfl
  | .str _, _ =>
    match y, hy with
    | .int _, _ => exact absurd h (Nat.not_lt_zero 1)
    | .str _, _ => exact absurd h (Nat.lt_irrefl 1)
    | .tup _, _ => rfl
  | .tup _, _ =>
    match y, hy with
    | .int _, _ => exact absurd h (Nat.not_lt_zero 2)
    | .str _, _ => exact absurd h (show ¬ 2 < 1 by decide)
    | .tup _, _ => exact absurd h (Nat.lt_irrefl 2)
theorem rk_gt {x y : V} (hx : x.srt = true) (hy : y.srt = true) (h : rkV y < rkV x) : cmpV x y = .gt := by
  match x, hx with
  | .int _, _ => exact absurd h (Nat.not_lt_zero _)
  | .str _, _ =>
    match y, hy with
    | .int _, _ => rfl
    | .str _, _ => exact absurd h (Nat.lt_irrefl 1)
    | .tup _, _ => exact absurd h (show ¬ 2 < 1 by decide)
  | .tup _, _ =>
    match y, hy with
    | .int _, _ => rfl
    | .str _, _ => rfl
    | .tup _, _ => exact absurd h (Nat.lt_irrefl 2)
theorem rk_same {x y : V} (hx : x.srt = true) (hy : y.srt = true) (h : rkV x = rkV y) : (∃ a b, x = .int a ∧ y = .int b) ∨ (∃ a b, x = .str a ∧ y = .str b) ∨ ∃ a b, x = .tup a ∧ y = .tup b := by
  match x, hx with
  | .int a, _ =>
    match y, hy with
    | .int b, _ => exact .inl ⟨a, b, rfl, rfl⟩
    | .str _, _ => exact nomatch (show (0 : Nat) = 1 from h)
    | .tup _, _ => exact nomatch (show (0 : Nat) = 2 from h)
  | .str a, _ =>
    match y, hy with
    | .int _, _ => exact nomatch (show (1 : Nat) = 0 from h)
    | .str b, _ => exact .inr (.inl ⟨a, b, rfl, rfl⟩)
    | .tup _, _ => exact nomatch (show (1 : Nat) = 2 from h)
  | .tup a, _ =>
    match y, hy with
    | .int _, _ => exact nomatch (show (2 : Nat) = 0 from h)
    | .str _, _ => exact nomatch (show (2 : Nat) = 1 from h)
    | .tup b, _ => exact .inr (.inr ⟨a, b, rfl, rfl⟩)
theorem rk_tri {x y : V} (hx : x.srt = true) (hy : y.srt = true) : (cmpV x y = .lt ∧ cmpV y x = .gt) ∨ (cmpV x y = .gt ∧ cmpV y x = .lt) ∨ (∃ a b, x = .int a ∧ y = .int b) ∨ (∃ a b, x = .str a ∧ y = .str b) ∨ ∃ a b, x = .tup a ∧ y = .tup b := by
  rcases Nat.lt_trichotomy (rkV x) (rkV y) with h | h | h
  · exact .inl ⟨rk_lt hx hy h, rk_gt hy hx h⟩
  · exact .inr (.inr (rk_same hx hy h))
  · exact .inr (.inl ⟨rk_gt hx hy h, rk_lt hy hx h⟩)
mutual
theorem cmpV_eq : ∀ {x y : V}, x.srt = true → y.srt = true → cmpV x y = .eq → x = y
  | .int a, y, hx, hy, h => by
    rcases rk_tri hx hy with ⟨e, _⟩ | ⟨e, _⟩ | ⟨_, b, _, rfl⟩ | ⟨_, _, e, _⟩ | ⟨_, _, e, _⟩
    · rw [e] at h; cases h
    · rw [e] at h; cases h
    · rw [cmpV_int] at h
      unfold cmpI at h
      split at h
      · cases h
      · split at h
        · cases h
        · congr 1; lia
    · cases e
    · cases e
  | .str a, y, hx, hy, h => by
    rcases rk_tri hx hy with ⟨e, _⟩ | ⟨e, _⟩ | ⟨_, _, e, _⟩ | ⟨_, b, _, rfl⟩ | ⟨_, _, e, _⟩
    · rw [e] at h; cases h
    · rw [e] at h; cases h
    · cases e
    · rw [str_ext (cmpN_eq.mp h)]
    · cases e
  | .tup a, y, hx, hy, h => by
    rcases rk_tri hx hy with ⟨e, _⟩ | ⟨e, _⟩ | ⟨_, _, e, _⟩ | ⟨_, _, e, _⟩ | ⟨_, b, _, rfl⟩
    · rw [e] at h; cases h
    · rw [e] at h; cases h
    · cases e
    · cases e
    · rw [cmpL_eq hx hy h]
theorem cmpL_eq : ∀ {xs ys : List V}, srtL xs = true → srtL ys = true → cmpL xs ys = .eq → xs = ys
  | [], [], _, _, _ => rfl
  | [], _ :: _, _, _, h => by cases h
  | _ :: _, [], _, _, h => by cases h
  | x :: xs, y :: ys, hx, hy, h => by
    have hx' := Bool.and_eq_true_iff.mp (show (_ && _) = true from hx)
    have hy' := Bool.and_eq_true_iff.mp (show (_ && _) = true from hy)
    rw [cmpL_cons] at h
    cases e : cmpV x y with
    | eq => rw [e] at h; rw [cmpV_eq hx'.1 hy'.1 e, cmpL_eq hx'.2 hy'.2 h]
    | lt => rw [e] at h; cases h
    | gt => rw [e] at h; cases h
end
theorem cmpI_swap {a b : Int} : cmpI b a = (cmpI a b).swap := by
  unfold cmpI
  by_cases h1 : a < b
  · rw [if_neg (Int.lt_asymm h1), if_pos h1, if_pos h1]; rfl
  · by_cases h2 : b < a
    · rw [if_pos h2, if_neg h1, if_pos h2]; rfl
    · rw [if_neg h2, if_neg h1, if_neg h1, if_neg h2]; rfl
mutual
theorem cmpV_swap : ∀ {x y : V}, x.srt = true → y.srt = true → cmpV y x = (cmpV x y).swap
  | .int a, y, hx, hy => by
    rcases rk_tri hx hy with ⟨e, e'⟩ | ⟨e, e'⟩ | ⟨_, b, _, rfl⟩ | ⟨_, _, e, _⟩ | ⟨_, _, e, _⟩
    · rw [e, e']; rfl
    · rw [e, e']; rfl
    · exact cmpI_swap
    · cases e
    · cases e
  | .str a, y, hx, hy => by
    rcases rk_tri hx hy with ⟨e, e'⟩ | ⟨e, e'⟩ | ⟨_, _, e, _⟩ | ⟨_, b, _, rfl⟩ | ⟨_, _, e, _⟩
    · rw [e, e']; rfl
    · rw [e, e']; rfl
    · cases e
    · exact cmpN_swap
    · cases e
  | .tup a, y, hx, hy => by
    rcases rk_tri hx hy with ⟨e, e'⟩ | ⟨e, e'⟩ | ⟨_, _, e, _⟩ | ⟨_, _, e, _⟩ | ⟨_, b, _, rfl⟩
    · rw [e, e']; rfl
    · rw [e, e']; rfl
    · cases e
    · cases e
    · exact cmpL_swap hx hy
theorem cmpL_swap : ∀ {xs ys : List V}, srtL xs = true → srtL ys = true → cmpL ys xs = (cmpL xs ys).swap
  | [], [], _, _ => rfl
  | [], _ :: _, _, _ => rfl
  | _ :: _, [], _, _ => rfl
  | x :: xs, y :: ys, hx, hy => by
    have hx' := Bool.and_eq_true_iff.mp (show (_ && _) = true from hx)
    have hy' := Bool.and_eq_true_iff.mp (show (_ && _) = true from hy)
    rw [cmpL_cons, cmpL_cons, cmpV_swap hx'.1 hy'.1]
    cases cmpV x y with
    | eq => exact cmpL_swap hx'.2 hy'.2
    | lt => rfl
    | gt => rfl
end
theorem cmpV_refl {x : V} (h : x.srt = true) : cmpV x x = .eq := by
  have := cmpV_swap h h
  cases e : cmpV x x with
  | eq => rfl
  | lt => rw [e] at this; cases this
  | gt => rw [e] at this; cases this
theorem cmpI_trans {a b c : Int} (h1 : cmpI a b ≠ .gt) (h2 : cmpI b c ≠ .gt) : cmpI a c ≠ .gt := by
  have x : ∀ {a b : Int}, cmpI a b ≠ .gt → a ≤ b := fun {a b} h => Int.not_lt.mp fun q => h (by unfold cmpI; rw [if_neg (Int.lt_asymm q), if_pos q])
  have l := Int.le_trans (x h1) (x h2)
  unfold cmpI
  by_cases q : a < c
  · rw [if_pos q]; exact fun h => by cases h
  · rw [if_neg q, if_neg (Int.not_lt.mpr l)]; exact fun h => by cases h
theorem rk_mono {x y : V} (hx : x.srt = true) (hy : y.srt = true) (h : cmpV x y ≠ .gt) : rkV x ≤ rkV y := Nat.le_of_not_lt fun q => h (rk_gt hx hy q)
theorem rk_all {x y z : V} (hx : x.srt = true) (hy : y.srt = true) (hz : z.srt = true) (h1 : cmpV x y ≠ .gt) (h2 : cmpV y z ≠ .gt) (h : rkV x = rkV y → rkV y = rkV z → cmpV x z ≠ .gt) : cmpV x z ≠ .gt := by
  have a := rk_mono hx hy h1
  have b := rk_mono hy hz h2
  by_cases e : rkV x < rkV z
  · rw [rk_lt hx hz e]; exact fun q => nomatch q
  · have c := Nat.le_of_not_lt e
    exact h (Nat.le_antisymm a (Nat.le_trans b c)) (Nat.le_antisymm b (Nat.le_trans c a))
mutual
theorem cmpV_trans : ∀ {x y z : V}, x.srt = true → y.srt = true → z.srt = true → cmpV x y ≠ .gt → cmpV y z ≠ .gt → cmpV x z ≠ .gt
  | .int a, y, z, hx, hy, hz, h1, h2 => rk_all hx hy hz h1 h2 fun e1 e2 => by
    rcases rk_same hx hy e1 with ⟨_, b, e, rfl⟩ | ⟨_, _, e, _⟩ | ⟨_, _, e, _⟩
    · rcases rk_same hy hz e2 with ⟨_, c, _, rfl⟩ | ⟨_, _, e, _⟩ | ⟨_, _, e, _⟩
      · exact cmpI_trans h1 h2
      · cases e
      · cases e
    · cases e
    · cases e
  | .str a, y, z, hx, hy, hz, h1, h2 => rk_all hx hy hz h1 h2 fun e1 e2 => by
    rcases rk_same hx hy e1 with ⟨_, _, e, _⟩ | ⟨_, b, e, rfl⟩ | ⟨_, _, e, _⟩
    · cases e
    · rcases rk_same hy hz e2 with ⟨_, _, e, _⟩ | ⟨_, c, _, rfl⟩ | ⟨_, _, e, _⟩
      · cases e
      · exact cmpN_trans h1 h2
      · cases e
    · cases e
  | .tup a, y, z, hx, hy, hz, h1, h2 => rk_all hx hy hz h1 h2 fun e1 e2 => by
    rcases rk_same hx hy e1 with ⟨_, _, e, _⟩ | ⟨_, _, e, _⟩ | ⟨_, b, e, rfl⟩
    · cases e
    · cases e
    · rcases rk_same hy hz e2 with ⟨_, _, e, _⟩ | ⟨_, _, e, _⟩ | ⟨_, c, _, rfl⟩
      · cases e
      · cases e
      · exact cmpL_trans hx hy hz h1 h2
theorem cmpL_trans : ∀ {xs ys zs : List V}, srtL xs = true → srtL ys = true → srtL zs = true → cmpL xs ys ≠ .gt → cmpL ys zs ≠ .gt → cmpL xs zs ≠ .gt
  | [], _, [], _, _, _, _, _ => fun h => by cases h
  | [], _, _ :: _, _, _, _, _, _ => fun h => by cases h
  | _ :: _, [], _, _, _, _, h1, _ => absurd rfl h1
  | _ :: _, _ :: _, [], _, _, _, _, h2 => absurd rfl h2
  | x :: xs, y :: ys, z :: zs, hx, hy, hz, h1, h2 => by
    have hx' := Bool.and_eq_true_iff.mp (show (_ && _) = true from hx)
    have hy' := Bool.and_eq_true_iff.mp (show (_ && _) = true from hy)
    have hz' := Bool.and_eq_true_iff.mp (show (_ && _) = true from hz)
    rw [cmpL_cons] at h1 h2 ⊢
    have t := cmpV_trans (x := x) (y := y) (z := z) hx'.1 hy'.1 hz'.1
    cases e1 : cmpV x y with
    | gt => rw [e1] at h1; exact absurd rfl h1
    | eq =>
      have := cmpV_eq hx'.1 hy'.1 e1
      subst this
      rw [e1] at h1
      cases e2 : cmpV x z with
      | gt => rw [e2] at h2; exact absurd rfl h2
      | lt => simp
      | eq => rw [e2] at h2; exact cmpL_trans hx'.2 hy'.2 hz'.2 h1 h2
    | lt =>
      cases e2 : cmpV y z with
      | gt => rw [e2] at h2; exact absurd rfl h2
      | eq =>
        have := cmpV_eq hy'.1 hz'.1 e2
        subst this
        rw [e1]; simp
      | lt =>
        have t' := t (by rw [e1]; decide) (by rw [e2]; decide)
        cases e3 : cmpV x z with
        | gt => exact absurd e3 t'
        | lt => simp
        | eq =>
          have := cmpV_eq hx'.1 hz'.1 e3
          subst this
          rw [cmpV_swap hx'.1 hy'.1, e1] at e2; cases e2
end
end Mine
namespace Mine
open SeqAt

mutual
theorem srt_plain : ∀ {x : V}, x.srt = true → x.plain = true
  | .int _, _ => rfl
  | .str _, _ => rfl
  | .tup xs, h => srtL_plain (xs := xs) h
theorem srtL_plain : ∀ {xs : List V}, srtL xs = true → plainL xs = true
  | [], _ => rfl
  | x :: r, h => by
    have h' := Bool.and_eq_true_iff.mp (show (_ && _) = true from h)
    exact Bool.and_eq_true_iff.mpr ⟨srt_plain h'.1, srtL_plain h'.2⟩
end
mutual
theorem srt_lay : ∀ {x : V}, x.srt = true → x.py.canLay0 = true
  | .int _, _ => rfl
  | .str x, h => h
  | .tup xs, h => srtL_lay (xs := xs) h
theorem srtL_lay : ∀ {xs : List V}, srtL xs = true → PyData.canLayAll0 (pyL xs) = true
  | [], _ => rfl
  | x :: r, h => by
    have h' := Bool.and_eq_true_iff.mp (show (_ && _) = true from h)
    exact Bool.and_eq_true_iff.mpr ⟨srt_lay h'.1, srtL_lay h'.2⟩
end
theorem srt_fine {x : V} (h : x.srt = true) : x.fine = true := Bool.and_eq_true_iff.mpr ⟨srt_plain h, srt_lay h⟩
theorem cmpI_eq {a b : Int} : (cmpI a b == .eq) = (a == b) := by
  unfold cmpI
  by_cases h1 : a < b
  · rw [if_pos h1, beq_eq_false_iff_ne.mpr (Int.ne_of_lt h1)]; rfl
  · by_cases h2 : b < a
    · rw [if_neg h1, if_pos h2, beq_eq_false_iff_ne.mpr (Int.ne_of_gt h2)]; rfl
    · rw [if_neg h1, if_neg h2, beq_iff_eq.mpr (Int.le_antisymm (Int.not_lt.mp h2) (Int.not_lt.mp h1))]; rfl
mutual
theorem eqv_cmp : ∀ {x y : V}, x.srt = true → y.srt = true → PyData.eqv x.py y.py = (cmpV x y == .eq)
  | .int a, .int b, _, _ => cmpI_eq.symm
  | .str a, .str b, _, _ => by
    show (a == b) = (cmpN a.cps.toList b.cps.toList == .eq)
    cases e : (a == b) with
    | true => rw [cmpN_eq.mpr (by rw [beq_iff_eq.mp e])]; rfl
    | false =>
      cases e2 : cmpN a.cps.toList b.cps.toList with
      | eq => rw [str_ext (cmpN_eq.mp e2)] at e; simp at e
      | lt => rfl
      | gt => rfl
  | .tup xs, .tup ys, hx, hy => eqvL_cmp (xs := xs) (ys := ys) hx hy
  | .int _, .str _, _, _ => rfl
  | .int _, .tup _, _, _ => rfl
  | .str _, .int _, _, _ => rfl
  | .str _, .tup _, _, _ => rfl
  | .tup _, .int _, _, _ => rfl
  | .tup _, .str _, _, _ => rfl
theorem eqvL_cmp : ∀ {xs ys : List V}, srtL xs = true → srtL ys = true → PyData.eqvAll (pyL xs) (pyL ys) = (cmpL xs ys == .eq)
  | [], [], _, _ => rfl
  | [], _ :: _, _, _ => rfl
  | _ :: _, [], _, _ => rfl
  | x :: xs, y :: ys, hx, hy => by
    have hx' := Bool.and_eq_true_iff.mp (show (_ && _) = true from hx)
    have hy' := Bool.and_eq_true_iff.mp (show (_ && _) = true from hy)
    show (PyData.eqv x.py y.py && PyData.eqvAll (pyL xs) (pyL ys)) = _
    rw [cmpL_cons, eqv_cmp hx'.1 hy'.1]
    cases cmpV x y with
    | eq => exact eqvL_cmp hx'.2 hy'.2
    | lt => rfl
    | gt => rfl
end
theorem eqv_srt {x y : V} (hx : x.srt = true) (hy : y.srt = true) : PyData.eqv x.py y.py = true ↔ x = y := by
  rw [eqv_cmp hx hy]
  constructor
  · intro h; exact cmpV_eq hx hy (beq_iff_eq.mp h)
  · rintro rfl; rw [cmpV_refl hx]; rfl

noncomputable def byO (o : Ordering) (a b : Bool) : Bool := match o with | .eq => a | .lt | .gt => b
mutual
noncomputable def okV : V → V → Bool
  | .int _, .int _ => true
  | .str _, .str _ => true
  | .tup xs, .tup ys => okL xs ys
  | _, _ => false
noncomputable def okL : List V → List V → Bool
  | x :: xs, y :: ys => byO (cmpV x y) (okL xs ys) (okV x y)
  | _, _ => true
end
theorem okL_cons {x y : V} {xs ys : List V} : okL (x :: xs) (y :: ys) = byO (cmpV x y) (okL xs ys) (okV x y) := rfl
theorem okL_of {x y : V} {xs ys : List V} (a : okV x y = true) (b : okL xs ys = true) : okL (x :: xs) (y :: ys) = true := by
  rw [okL_cons]
  cases cmpV x y <;> assumption
mutual
noncomputable def V.dep : V → Nat
  | .tup xs => depL xs + 1
  | .lst xs => depL xs + 1
  | .oL xs => depL xs + 1
  | .none | .bool _ | .int _ | .str _ | .dct _ | .self _ | .tray | .any | .oD _ => 0
noncomputable def depL : List V → Nat
  | [] => 0
  | x :: r => max x.dep (depL r)
end
mutual
theorem py_dep : ∀ {x : V}, x.plain = true → x.py.depth = x.dep
  | .none, _ => rfl
  | .bool _, _ => rfl
  | .int _, _ => rfl
  | .str _, _ => rfl
  | .tup xs, h => congrArg (· + 1) (pyL_dep (xs := xs) h)
  | .lst xs, h => congrArg (· + 1) (pyL_dep (xs := xs) h)
theorem pyL_dep : ∀ {xs : List V}, plainL xs = true → PyData.depthAll (pyL xs) = depL xs
  | [], _ => rfl
  | x :: r, h => by
    have h' := Bool.and_eq_true_iff.mp (show (_ && _) = true from h)
    show max x.py.depth (PyData.depthAll (pyL r)) = max x.dep (depL r)
    rw [py_dep h'.1, pyL_dep h'.2]
end

section
variable {C : Cx} {h : Heap} {s : Shared}
theorem eqAt_rp {A : Around} {u v : Value} {x y : V} (ru : Rp C s.heap u x) (rv : Rp C s.heap v y) (hx : x.srt = true) (hy : y.srt = true) (hu : A.units + x.dep < cLine) : EqAt A s u v (cmpV x y == .eq) := by
  obtain ⟨as, ra⟩ := ru.reads (srt_plain hx)
  obtain ⟨bs, rb⟩ := rv.reads (srt_plain hy)
  rw [← eqv_cmp hx hy]
  exact eqAt_reads _ _ A s u v as bs ra rb (srt_lay hx) (srt_lay hy) (Nat.lt_of_le_of_lt (Nat.add_le_add_left (Nat.min_le_left _ _) _) (by rw [py_dep (srt_plain hx)]; exact hu))

theorem LtAt.int {A : Around} {a b : Int} {t u : Tok} : LtAt A s (.int a t) (.int b u) (decide (a < b)) := fun prog w E Q h => lt_int h
theorem LtAt.str {A : Around} {a b : Str} {t u : Tok} : LtAt A s (.str a t) (.str b u) (decide (a.cps.toList < b.cps.toList)) := fun prog w E Q h => PyProof.Rows.lt_str h
theorem ok_rk {x y : V} (hx : x.srt = true) (hy : y.srt = true) (ok : okV x y = true) : rkV x = rkV y := by
  match x, hx with
  | .int _, _ =>
    match y, hy with
    | .int _, _ => rfl
    | .str _, _ => exact Bool.noConfusion ok
    | .tup _, _ => exact Bool.noConfusion ok
  | .str _, _ =>
    match y, hy with
    | .int _, _ => exact Bool.noConfusion ok
    | .str _, _ => rfl
    | .tup _, _ => exact Bool.noConfusion ok
  | .tup _, _ =>
    match y, hy with
    | .int _, _ => exact Bool.noConfusion ok
    | .str _, _ => exact Bool.noConfusion ok
    | .tup _, _ => rfl
mutual
theorem ltAt_rp : ∀ {x y : V} (hx : x.srt = true) (hy : y.srt = true) (ok : okV x y = true), ∀ {A : Around} {u v : Value}, Rp C s.heap u x → Rp C s.heap v y → A.units + x.dep < cLine → LtAt A s u v (cmpV x y == .lt)
  | .int a, y, hx, hy, ok => fun ru rv _ => by
    rcases rk_same hx hy (ok_rk hx hy ok) with ⟨_, b, _, rfl⟩ | ⟨_, _, e, _⟩ | ⟨_, _, e, _⟩
    · cases ru; cases rv
      have e : (cmpV (.int a) (.int b) == .lt) = decide (a < b) := by
        rw [cmpV_int]; unfold cmpI
        by_cases h1 : a < b
        · rw [if_pos h1, decide_eq_true h1]; rfl
        · rw [if_neg h1, decide_eq_false h1]; by_cases h2 : b < a
          · rw [if_pos h2]; rfl
          · rw [if_neg h2]; rfl
      rw [e]; exact LtAt.int
    · cases e
    · cases e
  | .str a, y, hx, hy, ok => fun ru rv _ => by
    rcases rk_same hx hy (ok_rk hx hy ok) with ⟨_, _, e, _⟩ | ⟨_, b, _, rfl⟩ | ⟨_, _, e, _⟩
    · cases e
    · obtain ⟨_, rfl⟩ := rp_str ru
      obtain ⟨_, rfl⟩ := rp_str rv
      have e : (cmpV (.str a) (.str b) == .lt) = decide (a.cps.toList < b.cps.toList) := by rw [cmpV_str]; exact cmpN_lt
      rw [e]; exact LtAt.str
    · cases e
  | .tup xs, y, hx, hy, ok => fun ru rv hu => by
    rename_i A u v
    rcases rk_same hx hy (ok_rk hx hy ok) with ⟨_, _, e, _⟩ | ⟨_, _, e, _⟩ | ⟨_, ys, _, rfl⟩
    · cases e
    · cases e
    · obtain ⟨_, us, rfl, l, q⟩ := rp_tup ru
      obtain ⟨_, vs, rfl, l', q'⟩ := rp_tup rv
      have hu' : A.units + (depL xs + 1) < cLine := hu
      refine LtAt.tuples l.isTuple l'.isTuple (by lia) ?_
      have := lexR_rp (xs := xs) (ys := ys) hx hy ok (A := A.in1) q q' (show A.units + 1 + depL xs < cLine by lia)
      exact this
theorem lexR_rp : ∀ {xs ys : List V} (hx : srtL xs = true) (hy : srtL ys = true) (ok : okL xs ys = true), ∀ {A : Around} {us vs : List Value}, RpL C s.heap us xs → RpL C s.heap vs ys → A.units + depL xs < cLine →
    LexR A s (decide (us.length < vs.length)) (us.zip vs) (cmpL xs ys == .lt)
  | [], [], _, _, _ => fun ru rv _ => by
    cases ru; cases rv
    rw [show (cmpL [] [] == Ordering.lt) = decide (([] : List Value).length < ([] : List Value).length) by rfl]
    exact .nil
  | [], y :: ys, _, _, _ => fun ru rv _ => by
    cases ru
    obtain ⟨v, vs, rfl, _, _⟩ := rpl_cons rv
    rw [show (cmpL [] (y :: ys) == Ordering.lt) = decide (([] : List Value).length < (v :: vs).length) from (decide_eq_true (Nat.succ_pos _)).symm]
    exact .nil
  | x :: xs, [], _, _, _ => fun ru rv _ => by
    cases rv
    obtain ⟨v, vs, rfl, _, _⟩ := rpl_cons ru
    rw [show (cmpL (x :: xs) [] == Ordering.lt) = decide ((v :: vs).length < ([] : List Value).length) from (decide_eq_false (Nat.not_lt_zero _)).symm]
    exact .nil
  | x :: xs, y :: ys, hx, hy, ok => fun ru rv hu => by
    rename_i A _ _
    obtain ⟨u, us, rfl, r, q⟩ := rpl_cons ru
    obtain ⟨v, vs, rfl, r', q'⟩ := rpl_cons rv
    have hx' := Bool.and_eq_true_iff.mp (show (_ && _) = true from hx)
    have hy' := Bool.and_eq_true_iff.mp (show (_ && _) = true from hy)
    have hu' : A.units + max x.dep (depL xs) < cLine := hu
    have hu1 : A.units + x.dep < cLine := Nat.lt_of_le_of_lt (Nat.add_le_add_left (Nat.le_max_left _ _) _) hu'
    have hu2 : A.units + depL xs < cLine := Nat.lt_of_le_of_lt (Nat.add_le_add_left (Nat.le_max_right _ _) _) hu'
    have e1 : decide ((u :: us).length < (v :: vs).length) = decide (us.length < vs.length) := decide_eq_decide.mpr Nat.succ_lt_succ_iff
    rw [e1]
    have eq1 := eqAt_rp (A := A) r r' hx'.1 hy'.1 hu1
    rw [okL_cons] at ok
    rw [cmpL_cons]
    show LexR A s _ ((u, v) :: us.zip vs) _
    cases e : cmpV x y with
    | eq =>
      rw [e] at ok eq1
      exact .eq eq1 (lexR_rp hx'.2 hy'.2 ok q q' hu2)
    | lt =>
      rw [e] at ok eq1
      refine .ne eq1 ?_
      have := ltAt_rp hx'.1 hy'.1 ok (A := A) r r' hu1
      rw [e] at this; exact this
    | gt =>
      rw [e] at ok eq1
      refine .ne eq1 ?_
      have := ltAt_rp hx'.1 hy'.1 ok (A := A) r r' hu1
      rw [e] at this; exact this
end
end

theorem katLex_of {prog : Program} {w : World} {A : Around} {s : Shared} {b fin c : Bool} {Q : Bool → Shared → Prop} (hq : Q c s) {l : List (Value × Value)} {i : Nat} (hb : (b && i == 0) = false) (h : LexR A s fin l c) : KatLex prog w A b fin Q l i s := by
  induction h generalizing i with
  | nil => exact kat_nil hq
  | eq e rest ih => exact kat_cons (e prog w _ _ (kat_yes (ih hq (by simp))))
  | ne e lt => exact kat_cons (e prog w _ _ (kat_no (by
      rw [hb]
      exact kat_one _ _ (lt prog w _ _ (by exact hq)))))
theorem katLex_str {prog : Program} {w : World} {A : Around} {s : Shared} {fin c : Bool} {Q : Bool → Shared → Prop} {x y : Str} {t u : Tok} {l : List (Value × Value)} (hq : Q c s)
    (h : x = y → LexR A s fin l c) (hc : x ≠ y → c = decide (x.cps.toList < y.cps.toList)) : KatLex prog w A true fin Q ((.str x t, .str y u) :: l) 0 s := by
  refine kat_cons (eqBool_str ?_)
  by_cases hxy : x = y
  · rw [beq_iff_eq.mpr hxy]
    exact kat_yes (katLex_of hq (by simp) (h hxy))
  · rw [beq_eq_false_iff_ne.mpr hxy]
    refine kat_no (oneLt_str ?_)
    rw [← hc hxy]; exact hq
end Mine
namespace Mine
open SeqAt

noncomputable def leV (x y : V) : Bool := cmpV x y != .gt
noncomputable def insV (x : V) : List V → List V
  | [] => [x]
  | y :: r => if leV x y then x :: y :: r else y :: insV x r
noncomputable def sortV : List V → List V
  | [] => []
  | x :: r => insV x (sortV r)
theorem insV_perm (x : V) : ∀ (l : List V), (insV x l).Perm (x :: l)
  | [] => .refl _
  | y :: r => by
    unfold insV; split
    · exact .refl _
    · exact ((insV_perm x r).cons y).trans (.swap x y r)
theorem sortV_perm : ∀ (l : List V), (sortV l).Perm l
  | [] => .refl _
  | x :: r => (insV_perm x (sortV r)).trans ((sortV_perm r).cons x)
theorem srtL_iff {xs : List V} : srtL xs = true ↔ ∀ x ∈ xs, x.srt = true := by
  induction xs with
  | nil => exact ⟨fun _ _ h => (by cases h), fun _ => rfl⟩
  | cons x r ih => rw [List.forall_mem_cons, ← ih]; exact Bool.and_eq_true_iff
theorem leV_of {x y : V} : leV x y = true ↔ cmpV x y ≠ .gt := by simp [leV]
theorem leV_total {x y : V} (hx : x.srt = true) (hy : y.srt = true) (h : leV x y = false) : leV y x = true := by
  have e : cmpV x y = .gt := by simpa [leV] using h
  rw [leV_of, cmpV_swap hx hy, e]; decide
theorem leV_trans {x y z : V} (hx : x.srt = true) (hy : y.srt = true) (hz : z.srt = true) (h1 : leV x y = true) (h2 : leV y z = true) : leV x z = true := leV_of.mpr (cmpV_trans hx hy hz (leV_of.mp h1) (leV_of.mp h2))
theorem leV_anti {x y : V} (hx : x.srt = true) (hy : y.srt = true) (h1 : leV x y = true) (h2 : leV y x = true) : x = y := by
  have a := leV_of.mp h1
  have b := leV_of.mp h2
  rw [cmpV_swap hx hy] at b
  cases e : cmpV x y with
  | eq => exact cmpV_eq hx hy e
  | lt => rw [e] at b; exact absurd rfl b
  | gt => exact absurd e a
theorem insV_sorted {x : V} : ∀ {l : List V}, x.srt = true → (∀ y ∈ l, y.srt = true) → l.Pairwise (fun a b => leV a b = true) → (insV x l).Pairwise (fun a b => leV a b = true)
  | [], _, _, _ => List.pairwise_singleton _ _
  | y :: r, hx, hl, hp => by
    rw [List.pairwise_cons] at hp
    have hy := hl y List.mem_cons_self
    unfold insV
    split
    · rename_i e
      rw [List.pairwise_cons]
      refine ⟨fun z hz => ?_, by rw [List.pairwise_cons]; exact hp⟩
      rcases List.mem_cons.mp hz with rfl | hz
      · exact e
      · exact leV_trans hx hy (hl z (List.mem_cons_of_mem _ hz)) e (hp.1 z hz)
    · rename_i e
      rw [List.pairwise_cons]
      refine ⟨fun z hz => ?_, insV_sorted hx (fun z hz => hl z (List.mem_cons_of_mem _ hz)) hp.2⟩
      rcases List.mem_cons.mp ((insV_perm x r).mem_iff.mp hz) with rfl | hz
      · exact leV_total hx hy (by simpa using e)
      · exact hp.1 z hz
theorem sortV_sorted : ∀ {l : List V}, (∀ y ∈ l, y.srt = true) → (sortV l).Pairwise (fun a b => leV a b = true)
  | [], _ => .nil
  | x :: r, h => insV_sorted (h x List.mem_cons_self) (fun y hy => h y (List.mem_cons_of_mem _ ((sortV_perm r).mem_iff.mp hy))) (sortV_sorted fun y hy => h y (List.mem_cons_of_mem _ hy))
theorem sorted_uniq : ∀ {a b : List V}, (∀ y ∈ a, y.srt = true) → a.Perm b → a.Pairwise (fun a b => leV a b = true) → b.Pairwise (fun a b => leV a b = true) → a = b
  | [], b, _, p, _, _ => (List.nil_perm.mp p).symm
  | x :: a, [], _, p, _, _ => by have := p.length_eq; simp at this
  | x :: a, y :: b, hs, p, ha, hb => by
    have hs' : ∀ z ∈ y :: b, z.srt = true := fun z hz => hs z (p.mem_iff.mpr hz)
    have ha' := List.pairwise_cons.mp ha
    have hb' := List.pairwise_cons.mp hb
    have exy : x = y := by
      have hx := hs x List.mem_cons_self
      have hy := hs' y List.mem_cons_self
      refine leV_anti hx hy ?_ ?_
      · rcases List.mem_cons.mp (p.mem_iff.mpr (List.mem_cons_self : y ∈ y :: b)) with e | e
        · rw [e]; exact leV_of.mpr (by rw [cmpV_refl hx]; decide)
        · exact ha'.1 y e
      · rcases List.mem_cons.mp (p.mem_iff.mp (List.mem_cons_self : x ∈ x :: a)) with e | e
        · rw [e]; exact leV_of.mpr (by rw [cmpV_refl hy]; decide)
        · exact hb'.1 x e
    subst exy
    rw [sorted_uniq (fun z hz => hs z (List.mem_cons_of_mem _ hz)) (List.Perm.cons_inv p) ha'.2 hb'.2]
theorem sortV_congr {a b : List V} (h : ∀ y ∈ a, y.srt = true) (p : a.Perm b) : sortV a = sortV b :=
  sorted_uniq (fun y hy => h y ((sortV_perm a).mem_iff.mp hy)) ((sortV_perm a).trans (p.trans (sortV_perm b).symm)) (sortV_sorted h) (sortV_sorted fun y hy => h y (p.mem_iff.mpr hy))
theorem sortV_eq {a b : List V} (h : ∀ y ∈ a, y.srt = true) (p : b.Perm a) (s : b.Pairwise (fun a b => leV a b = true)) : b = sortV a :=
  sorted_uniq (fun y hy => h y (p.mem_iff.mp hy)) (p.trans (sortV_perm a).symm) s (sortV_sorted h)

noncomputable def Firsts (xs : List V) : Prop := (∀ x ∈ xs, ∃ ys r, x = .tup (.tup ys :: r)) ∨ (∀ x ∈ xs, ∃ f r, x = .tup (.str f :: r))
structure SortOk (xs : List V) : Prop where
  srt : ∀ x ∈ xs, x.srt = true
  ok : ∀ x ∈ xs, ∀ y ∈ xs, okV x y = true
  fst : Firsts xs
  dep : ∀ x ∈ xs, x.dep ≤ 200
  len : xs.length < 64

theorem keyLt_tup {C : Cx} {prog : Program} {w : World} {A : Around} {s : Shared} {u v : Value} {x y : V} {b : Bool} {Q : Bool → Shared → Prop} (ru : Rp C s.heap u x) (rv : Rp C s.heap v y) (hx : x.srt = true) (hy : y.srt = true) (ok : okV x y = true) (hu : A.units + 202 < cLine) (hd : x.dep ≤ 200)
    (hb : (b = false ∧ ∃ xs ys, x = .tup xs ∧ y = .tup ys) ∨ (b = true ∧ ∃ f r g r', x = .tup (.str f :: r) ∧ y = .tup (.str g :: r'))) (hq : Q (cmpV x y == .lt) s) :
    wpAny (model prog w) A (keyLt' (tuples' b) u v) Q (fun _ _ => False) s := by
  have ex : ∃ xs ys, x = .tup xs ∧ y = .tup ys := by
    rcases hb with ⟨_, h⟩ | ⟨_, f, r, g, r', rfl, rfl⟩
    · exact h
    · exact ⟨_, _, rfl, rfl⟩
  obtain ⟨xs, ys, rfl, rfl⟩ := ex
  obtain ⟨a, us, rfl, ⟨o, n, e, c, d, _⟩, q⟩ := rp_tup ru
  obtain ⟨a', vs, rfl, ⟨o', n', e', c', d', _⟩, q'⟩ := rp_tup rv
  have hd' : depL xs + 1 ≤ 200 := hd
  have lx := lexR_rp hx hy ok (A := A) q q' (Nat.lt_of_le_of_lt (Nat.add_le_add_left (Nat.le_trans (Nat.le_of_succ_le hd') (by decide)) _) hu)
  have hq' : Q (cmpL xs ys == .lt) s := hq
  refine kat_lt e d e' d' ?_
  have lx' : LexR A s (decide (us.toArray.size < vs.toArray.size)) (us.toArray.toList.zip vs.toArray.toList) (cmpL xs ys == .lt) := by simpa using lx
  rcases hb with ⟨rfl, _⟩ | ⟨rfl, f, r, g, r', h1, h2⟩
  · exact katLex_of hq' (by simp) lx'
  · cases h1; cases h2
    obtain ⟨u1, us', rfl, ru1, q1⟩ := rpl_cons q
    obtain ⟨v1, vs', rfl, rv1, q1'⟩ := rpl_cons q'
    obtain ⟨t, rfl⟩ := rp_str ru1
    obtain ⟨t', rfl⟩ := rp_str rv1
    refine katLex_str hq' (fun hxy => ?_) fun hne => ?_
    · subst hxy
      have hx' := Bool.and_eq_true_iff.mp (show (_ && _) = true from hx)
      have hy' := Bool.and_eq_true_iff.mp (show (_ && _) = true from hy)
      have ok' : okL (.str f :: r) (.str f :: r') = true := ok
      rw [okL_cons, cmpV_refl hx'.1] at ok'
      have := lexR_rp hx'.2 hy'.2 ok' (A := A) q1 q1' (Nat.lt_of_le_of_lt (Nat.add_le_add_left (Nat.le_trans (Nat.le_max_right 0 (depL r)) (Nat.le_trans (Nat.le_succ _) hd')) _) (Nat.lt_of_le_of_lt (Nat.le_add_right _ 2) hu))
      rw [cmpL_cons, cmpV_refl hx'.1]
      simpa [List.zip] using this
    · rw [cmpL_cons]
      have : (cmpV (.str f) (.str g) == .lt) = decide (f.cps.toList < g.cps.toList) := by rw [cmpV_str]; exact cmpN_lt
      cases e : cmpV (.str f) (.str g) with
      | eq => exact absurd (str_ext (cmpN_eq.mp e)) hne
      | lt => rw [e] at this; exact this
      | gt => rw [e] at this; exact this
end Mine
namespace Mine
open SeqAt

noncomputable def ltIx (xs : List V) (i j : Nat) : Bool := cmpV (xs.getD i (.int 0)) (xs.getD j (.int 0)) == .lt
theorem getD_srt {xs : List V} (h : ∀ x ∈ xs, x.srt = true) (i : Nat) : (xs.getD i (.int 0)).srt = true := by
  rw [List.getD_eq_getElem?_getD]
  cases e : xs[i]? with
  | none => rfl
  | some x => exact h x (List.mem_of_getElem? e)
theorem ltIx_ord {xs : List V} (h : ∀ x ∈ xs, x.srt = true) : Ord (ltIx xs) where
  tot := fun i j e => by
    unfold ltIx at *
    rw [cmpV_swap (getD_srt h i) (getD_srt h j)]
    have e := eq_of_beq e
    rw [e]; rfl
  tr := fun i j k e1 e2 => by
    unfold ltIx at *
    have f : ∀ a b, (cmpV (xs.getD a (.int 0)) (xs.getD b (.int 0)) == .lt) = false ↔ cmpV (xs.getD b (.int 0)) (xs.getD a (.int 0)) ≠ .gt := fun a b => by
      rw [cmpV_swap (getD_srt h a) (getD_srt h b)]
      cases cmpV (xs.getD a (.int 0)) (xs.getD b (.int 0)) <;> simp
    rw [f] at e1 e2 ⊢
    exact cmpV_trans (getD_srt h i) (getD_srt h j) (getD_srt h k) e1 e2
theorem range_getD {α : Type} (d : α) (xs : List α) : (List.range xs.length).map (fun i => xs.getD i d) = xs := by
  apply List.ext_getElem
  · simp
  · intro i h1 h2
    simp at h1
    simp [h1]
theorem perm_out {xs : List V} {p : Array Nat} (hp : Pm xs.length p) : (p.toList.map fun i => xs.getD i (.int 0)).Perm xs := by
  have h1 := (Array.perm_iff_toList_perm.mp hp).map fun i => xs.getD i (.int 0)
  have e : (List.range xs.length).toArray.toList = List.range xs.length := by simp
  rw [e, range_getD] at h1
  exact h1
theorem sorted_out' {xs : List V} (h : ∀ x ∈ xs, x.srt = true) {p : Array Nat} (hp : Pm xs.length p) (nd : NonDec (ltIx xs) p xs.length) : (p.toList.map fun i => xs.getD i (.int 0)) = sortV xs := by
  refine sortV_eq h (perm_out hp) ?_
  rw [List.pairwise_iff_getElem]
  intro i j hi hj hij
  have hs := hp.size
  have hi' : i < p.size := by simpa using hi
  have hj' : j < p.size := by simpa using hj
  have := nd i j (Nat.le_of_lt hij) (by lia)
  unfold Le ltIx gp at this
  have e1 : p.getD i 0 = p[i] := by simp [Array.getD, hi']
  have e2 : p.getD j 0 = p[j] := by simp [Array.getD, hj']
  rw [e1, e2] at this
  rw [leV_of]
  have e3 : (p.toList.map fun i => xs.getD i (.int 0))[i] = xs.getD p[i] (.int 0) := by simp
  have e4 : (p.toList.map fun i => xs.getD i (.int 0))[j] = xs.getD p[j] (.int 0) := by simp
  rw [e3, e4, cmpV_swap (getD_srt h _) (getD_srt h _)]
  cases e : cmpV (xs.getD p[j] (.int 0)) (xs.getD p[i] (.int 0)) with
  | eq => simp
  | gt => simp
  | lt => rw [e] at this; cases this
theorem rpl_out {C : Cx} {h : Heap} {g : V → V} {vs : List Value} {xs : List V} (r : RpL C h vs (xs.map g)) : ∀ {l : List Nat}, (∀ i ∈ l, i < xs.length) → RpL C h (l.map fun i => vs.getD i .none) ((l.map fun i => xs.getD i (.int 0)).map g)
  | [], _ => .nil
  | i :: l, hl => by
    have hi := hl i List.mem_cons_self
    obtain ⟨v, e, q⟩ := r.get (i := i) (x := g xs[i]) (by rw [List.getElem?_map, List.getElem?_eq_getElem hi]; rfl)
    refine .cons ?_ (rpl_out r fun j hj => hl j (List.mem_cons_of_mem _ hj))
    show Rp C h (vs.getD i .none) (g (xs.getD i (.int 0)))
    rw [List.getD_eq_getElem?_getD, e, List.getD_eq_getElem?_getD, List.getElem?_eq_getElem hi]
    exact q

theorem katTups_of {C : Cx} {h : Heap} (T : V → Bool) : ∀ {vs : List Value} {xs : List V}, RpL C h vs xs → (∀ x ∈ xs, ∃ y r, x = .tup (y :: r) ∧ T y = true) → ∃ fs, KatTups h vs fs ∧ fs.length = vs.length ∧ ∀ f ∈ fs, ∃ y, Rp C h f y ∧ T y = true
  | _, _, .nil, _ => ⟨[], .nil, rfl, fun _ h => nomatch h⟩
  | _, _, .cons r q, hx => by
    obtain ⟨y, rest, e, ty⟩ := hx _ List.mem_cons_self
    obtain ⟨fs, k, hl, hf⟩ := katTups_of T q fun x h => hx x (List.mem_cons_of_mem _ h)
    subst e
    cases r with | tup l q' =>
    cases q' with | cons r1 q1 =>
    obtain ⟨o, n, e, c, d, _⟩ := l
    refine ⟨_ :: fs, .cons e c d (by simp; rfl) k, by simp [hl], fun f hf' => ?_⟩
    rcases List.mem_cons.mp hf' with rfl | hf'
    · exact ⟨_, r1, ty⟩
    · exact hf f hf'

noncomputable def isTupV : V → Bool | .tup _ => true | _ => false
noncomputable def isStrV : V → Bool | .str _ => true | _ => false
structure SortG (C : Cx) (g : V → V) (ks : List V) : Prop where
  srt : ∀ x ∈ ks, x.srt = true
  len : ks.length < 64
  kind : ∀ {prog : Program} {w : World} {A : Around} {s : Shared} {vs : List Value} {Q : SortKind → Shared → Prop}, RpL C s.heap vs (ks.map g) → A.units + 202 < cLine → 0 < ks.length →
    (∀ κ, CmpOk ks.length (ltIx ks) (kas_ask prog w A κ vs) s → Q κ s) → wpAny (model prog w) A (keyKind' vs.toArray) Q NoE s
theorem kind_gen {C : Cx} {prog : Program} {w : World} {A : Around} {s : Shared} {vs : List Value} {g : V → V} {ks : List V} {Q : SortKind → Shared → Prop} (T : V → Bool) (nm : String) (r : RpL C s.heap vs (ks.map g)) (h0 : 0 < ks.length)
    (hx : ∀ x ∈ ks, ∃ y r, g x = .tup (y :: r) ∧ T y = true) (hl : ∀ v y, Rp C s.heap v y → T y = true → Looks (model prog w) s.heap (typeOf v) (.type nm)) (hn : (Value.type nm == Value.type nm) = true)
    (cmp : ∀ x ∈ ks, ∀ y ∈ ks, ∀ u v, Rp C s.heap u (g x) → Rp C s.heap v (g y) → ∀ D : Bool → Shared → Prop, D (cmpV x y == .lt) s → wpAny (model prog w) A (keyLt' (tuples' (Value.type nm != Value.type "tuple")) u v) D (fun _ _ => False) s)
    (hq : ∀ κ, CmpOk ks.length (ltIx ks) (kas_ask prog w A κ vs) s → Q κ s) : wpAny (model prog w) A (keyKind' vs.toArray) Q NoE s := by
  have at_ : ∀ i, i < ks.length → ∃ x, x ∈ ks ∧ ks.getD i (.int 0) = x ∧ Rp C s.heap (vs.getD i .none) (g x) := fun i hi => by
    obtain ⟨v, e, q⟩ := r.get (i := i) (x := g ks[i]) (by rw [List.getElem?_map, List.getElem?_eq_getElem hi]; rfl)
    refine ⟨ks[i], List.getElem_mem hi, by rw [List.getD_eq_getElem?_getD, List.getElem?_eq_getElem hi]; rfl, ?_⟩
    rw [List.getD_eq_getElem?_getD, e]; exact q
  obtain ⟨fs, k, hl', hfs⟩ := katTups_of T r fun x hx' => by
    obtain ⟨y, hy, rfl⟩ := List.mem_map.mp hx'
    exact hx y hy
  refine kat_kind k (by rw [hl', r.length, List.length_map]; exact h0) (T := .type nm) (fun v hv => let ⟨y, ry, ty⟩ := hfs v hv; hl v y ry ty) hn (hq _ fun i j D hi hj hc => ?_)
  obtain ⟨x, hx, ex, rx⟩ := at_ i hi
  obtain ⟨y, hy, ey, ry⟩ := at_ j hj
  unfold ltIx at hc
  rw [ex, ey] at hc
  exact cmp x hx y hy _ _ rx ry D hc
theorem SortOk.g {C : Cx} {xs : List V} (ok : SortOk xs) : SortG C id xs where
  srt := ok.srt
  len := ok.len
  kind := fun {prog w A s vs Q} r hu h0 hq => by
    rcases ok.fst with hf | hf
    · refine kind_gen isTupV "tuple" r h0 (fun x hx => let ⟨_, r, e⟩ := hf x hx; ⟨_, r, e, rfl⟩) (fun v y ry ty => ?_) rfl (fun x hx y hy u v ru rv D hd => keyLt_tup ru rv (ok.srt x hx) (ok.srt y hy) (ok.ok x hx y hy) hu (ok.dep x hx) (.inl ?_) hd) hq
      · cases ry <;> first | (cases ty; done) | skip
        rename_i a us zs l q
        obtain ⟨o, n, e, c, d, _⟩ := l
        rw [← c]
        exact (Looks.ld e).andThen .now
      · obtain ⟨_, _, e1⟩ := hf x hx
        obtain ⟨_, _, e2⟩ := hf y hy
        exact ⟨rfl, _, _, e1, e2⟩
    · refine kind_gen isStrV "str" r h0 (fun x hx => let ⟨_, r, e⟩ := hf x hx; ⟨_, r, e, rfl⟩) (fun v y ry ty => ?_) rfl (fun x hx y hy u v ru rv D hd => keyLt_tup ru rv (ok.srt x hx) (ok.srt y hy) (ok.ok x hx y hy) hu (ok.dep x hx) (.inr ?_) hd) hq
      · cases ry <;> first | (cases ty; done) | skip
        exact Looks.of_pure rfl
      · obtain ⟨_, _, e1⟩ := hf x hx
        obtain ⟨_, _, e2⟩ := hf y hy
        exact ⟨rfl, _, _, _, _, e1, e2⟩

theorem list_sort_g {C : Cx} {g : V → V} {prog : Program} {w : World} {A : Around} {s : Shared} {a : Addr} {h₀ : Heap} {vs : List Value} {xs : List V} {n : Nat} {P : PySem.Fin → Shared → Prop} (ho : s.heap.get? a = some (seqObj "list" vs.toArray n)) (ha0 : h₀.get? a = Option.none) (k0 : Sub h₀ s.heap)
    (r : RpL C h₀ vs (xs.map g)) (ok : SortG C g xs) (hu : A.units + 202 < cLine)
    (h : ∀ out, RpL C h₀ out ((sortV xs).map g) → P (.done (.ret .none)) { s with heap := sortedHeap s.heap a vs out.toArray }) :
    wpAny (model prog w) A (Builtin.«list.sort» ⟨[.ref a], []⟩) P NoE s := by
  have hlen : vs.length = xs.length := by have := r.length; rwa [List.length_map] at this
  have h64 := ok.len
  rw [list_sort_plain]
  have ha : a < s.heap.objs.size := Heap.lt_size ho
  refine wpAny_bind (listItems_at ho rfl ?_)
  refine wpAny_bind (listUpdate_at ho rfl ?_ (by rw [List.size_toArray, sizeLine_eq]; lia) (Nat.zero_le _))
  obtain ⟨e1, ho1⟩ : ∃ e1, (s.heap.update a (Obj.mapSeq fun _ => #[])).get? a = some (seqObj "list" #[] e1) := ⟨_, get?_update_seq ho (fun _ => #[])⟩
  refine wpAny_bind (seqEpoch_at ho1 rfl ?_)
  refine wpAny_bind (wpAny_newTuple ?_ (by show vs.length ≤ _; rw [sizeLine_eq]; lia))
  refine wpAny_bind (wpAny_newList ?_ (Nat.zero_le _))
  refine wpAny_holding ?_
  have ho6 : (((s.heap.update a (Obj.mapSeq fun _ => #[])).push (seqObj "tuple" vs.toArray 0)).push (seqObj "list" #[] 0)).get? a = some (seqObj "list" #[] e1) :=
    Heap.get?_push_of_some _ (Heap.get?_push_of_some _ ho1)
  have k6 : Sub h₀ (((s.heap.update a (Obj.mapSeq fun _ => #[])).push (seqObj "tuple" vs.toArray 0)).push (seqObj "list" #[] 0)) := fun b o e => by
    refine Heap.get?_push_of_some _ (Heap.get?_push_of_some _ ?_)
    rw [Heap.get?_update_ne _ _ _ _ (fun q => by rw [q, ha0] at e; cases e)]
    exact k0 _ _ e
  show wpAny (model prog w) A _ P NoE { s with heap := ((s.heap.update a (Obj.mapSeq fun _ => #[])).push (seqObj "tuple" vs.toArray 0)).push (seqObj "list" #[] 0) }
  dsimp only
  have hsz : vs.toArray.size = vs.length := by simp
  by_cases h2 : vs.toArray.size < 2
  · rw [if_pos h2, if_pos h2]
    refine wpAny_bind (wpAny_pure ?_)
    rw [StateT.run_pure]
    refine wpAny_bind (wpAny_pure ?_)
    dsimp only
    refine wpAny_bind (seqEpoch_at ho6 rfl ?_)
    have e7 : (vs.toArray.zip vs.toArray).map (·.2) = vs.toArray := by
      apply Array.ext <;> simp
    have earr : arrOf (SortSt.mk' general' (vs.toArray.zip vs.toArray) #[] 7 none) = vs.toArray.zip vs.toArray := rfl
    rw [earr, e7]
    refine wpAny_bind (listUpdate_at ho6 rfl ?_ (Nat.zero_le _) (by rw [List.size_toArray, sizeLine_eq]; (exact Nat.le_of_lt (Nat.lt_of_lt_of_le (by assumption) (by decide)))))
    simp only [bne_self_eq_false, Bool.false_eq_true, if_false]
    refine wpAny_pure (h vs ?_)
    have : sortV xs = xs := by
      match xs, hlen, hsz with
      | [], _, _ => rfl
      | [x], _, _ => rfl
      | x :: y :: z, hl, hs => rw [hs, hl] at h2; simp at h2; lia
    rw [this]; exact r
  · rw [if_neg h2, if_neg h2]
    have h2' : 2 ≤ vs.length := by (exact Nat.le_of_not_lt (by assumption))
    refine wpAny_bind (wpAny_mono (ok.kind (r.up k6) hu (by lia) (Q := fun κ s' => s' = { s with heap := ((s.heap.update a (Obj.mapSeq fun _ => #[])).push (seqObj "tuple" vs.toArray 0)).push (seqObj "list" #[] 0) } ∧ CmpOk xs.length (ltIx xs) (kas_ask prog w A κ vs) s') fun κ hc => ⟨rfl, hc⟩) (fun κ s0 hk => ?_) fun _ _ x => x)
    obtain ⟨rfl, hc⟩ := hk
    have hs := sort_ok (n := xs.length) (ltIx_ord ok.srt) hc (Q := fun p s' => s' = _ ∧ Pm xs.length p ∧ NonDec (ltIx xs) p xs.length) (by lia) fun p hp nd => ⟨rfl, hp, nd⟩
    rw [← hlen] at hs
    refine wpAny_bind (wpAny_mono (kat_run (Q := fun st' s' => ∃ p : Array Nat, p.size = vs.length ∧ arrOf st' = p.map (kas_item (vs.toArray.zip vs.toArray)) ∧ failedOf st' = none ∧ (s' = _ ∧ Pm vs.length p ∧ NonDec (ltIx xs) p vs.length))
      rfl h2' (by lia) (fun p' st' s' a1 a2 a3 a4 => ⟨p', a1, a2, a3, a4⟩) hs) ?_ fun _ _ e => e)
    rintro ⟨⟨⟩, st'⟩ s' ⟨p, hp, har, hf, rfl, pm, nd⟩
    dsimp only
    rw [hlen] at pm nd
    have hout := kat_snds rfl har
    refine wpAny_bind (seqEpoch_at ho6 rfl ?_)
    rw [hout]
    refine wpAny_bind (listUpdate_at ho6 rfl ?_ (Nat.zero_le _) (by rw [List.size_toArray, List.length_map, Array.length_toList, hp, sizeLine_eq]; lia))
    rw [hf]
    simp only [bne_self_eq_false, Bool.false_eq_true, if_false]
    refine wpAny_pure (h _ ?_)
    rw [← sorted_out' ok.srt pm nd]
    exact rpl_out r fun i hi => by
      have := (Array.perm_iff_toList_perm.mp pm).mem_iff.mp hi
      simpa using this

theorem list_sort_v {C : Cx} {prog : Program} {w : World} {A : Around} {s : Shared} {a : Addr} {h₀ : Heap} {vs : List Value} {xs : List V} {n : Nat} {P : PySem.Fin → Shared → Prop} (ho : s.heap.get? a = some (seqObj "list" vs.toArray n)) (ha0 : h₀.get? a = Option.none) (k0 : Sub h₀ s.heap)
    (r : RpL C h₀ vs xs) (ok : SortOk xs) (hu : A.units + 202 < cLine)
    (h : ∀ out, RpL C h₀ out (sortV xs) → P (.done (.ret .none)) { s with heap := sortedHeap s.heap a vs out.toArray }) :
    wpAny (model prog w) A (Builtin.«list.sort» ⟨[.ref a], []⟩) P NoE s :=
  list_sort_g (C := C) (g := id) ho ha0 k0 (by rw [List.map_id]; exact r) ok.g hu fun out ro => h out (by rw [List.map_id] at ro; exact ro)

theorem call_sorted_v {C : Cx} {g : V → V} {prog : Program} {w : World} {A : Around} {s : Shared} {h₀ : Heap} {l : Addr} {vs : List Value} {xs : List V} {Q : Value → Shared → Prop} (k0 : Sub h₀ s.heap) (hl : s.heap.IsList l vs.toArray) (r : RpL C h₀ vs (xs.map g)) (ok : SortG C g xs) (hu : A.units + 210 < cLine)
    (h : ∀ out, RpL C h₀ out ((sortV xs).map g) → Q (.ref (s.heap.objs.size + 1)) { s with heap := sortedAll s.heap vs out.toArray }) :
    wpAny (model prog w) A (call (.builtin "sorted") [.ref l]) Q NoE s := by
  have hlen : vs.length = xs.length := by have := r.length; rwa [List.length_map] at this
  have h64 := ok.len
  refine Calls.call_function_entry kind_sorted plain_sorted entry_sorted (args_sorted1 _) ?_
  unfold Builtin.«sorted»
  refine wpAny_bind (m := checkCount "sorted" 1 1 _) (wpAny_pure ?_)
  refine wpAny_bind (collect_list hl ?_ (by rw [sizeLine_eq]; lia))
  refine wpAny_bind (wpAny_newList ?_ (by rw [sizeLine_eq]; lia))
  have hsz : ((s.heap.push (seqObj "list" #[] 0)).update s.heap.objs.size (Obj.mapSeq (· ++ vs.toArray))).objs.size = s.heap.objs.size + 1 := by
    rw [Heap.size_update, size_push']
  have hoL : (((s.heap.push (seqObj "list" #[] 0)).update s.heap.objs.size (Obj.mapSeq (· ++ vs.toArray))).push (seqObj "list" vs.toArray 0)).get? (s.heap.objs.size + 1) = some (seqObj "list" vs.toArray 0) := by
    rw [← hsz]; exact Heap.get?_push_size _ rfl
  have keep : Sub s.heap (((s.heap.push (seqObj "list" #[] 0)).update s.heap.objs.size (Obj.mapSeq (· ++ vs.toArray))).push (seqObj "list" vs.toArray 0)) := fun b o q => by
    have hlt : b < s.heap.objs.size := Heap.lt_size q
    rw [Heap.get?_push_ne _ _ _ (by rw [hsz]; exact Nat.ne_of_lt (Nat.lt_succ_of_lt hlt)), Heap.get?_update_ne _ _ _ _ (Nat.ne_of_lt hlt), Heap.get?_push_ne _ _ _ (Nat.ne_of_lt hlt)]
    exact q
  have nn : s.heap.get? (s.heap.objs.size + 1) = Option.none := by
    cases q : s.heap.get? (s.heap.objs.size + 1) with
    | none => rfl
    | some o => exact absurd (Heap.lt_size q) (Nat.not_lt.mpr (Nat.le_add_right _ _))
  have nn0 : h₀.get? (s.heap.objs.size + 1) = Option.none := by
    cases q : h₀.get? (s.heap.objs.size + 1) with
    | none => rfl
    | some o => have := k0 _ _ q; rw [nn] at this; cases this
  show wpAny _ _ _ _ _ { s with heap := ((s.heap.push (seqObj "list" #[] 0)).update s.heap.objs.size (Obj.mapSeq (· ++ vs.toArray))).push (seqObj "list" vs.toArray 0) }
  rw [hsz]
  refine wpAny_bind (wpAny_holding (wpAny_call_entry slot_list_sort ⟨_, hoL, rfl⟩ entry_list_sort (list_sort_g hoL nn0 (k0.trans keep) r ok (show A.units + 1 + 1 + 202 < cLine by lia) fun out a1 => ⟨_, rfl, ?_⟩) (args_list_sort _)))
  exact wpAny_pure ⟨_, rfl, h out a1⟩

section
variable {C : Cx} {n : Nat} {env : Env} {σ σ' : List (Str × V)} {τ τ₁ τ₂ τ₃ : Option Nat} {wv : Str → Bool}
theorem sortedAll_facts (h : Heap) (vs out : List Value) : Sub h (sortedAll h vs out.toArray) ∧ IsLst (sortedAll h vs out.toArray) (h.objs.size + 1) out := by
  have hsz : ((h.push (seqObj "list" #[] 0)).update h.objs.size (Obj.mapSeq (· ++ vs.toArray))).objs.size = h.objs.size + 1 := by
    rw [Heap.size_update, size_push']
  have keep : Sub h (((h.push (seqObj "list" #[] 0)).update h.objs.size (Obj.mapSeq (· ++ vs.toArray))).push (seqObj "list" vs.toArray 0)) := fun b o q => by
    have hlt : b < h.objs.size := Heap.lt_size q
    rw [Heap.get?_push_ne _ _ _ (by rw [hsz]; exact Nat.ne_of_lt (Nat.lt_succ_of_lt hlt)), Heap.get?_update_ne _ _ _ _ (Nat.ne_of_lt hlt), Heap.get?_push_ne _ _ _ (Nat.ne_of_lt hlt)]
    exact q
  have hoL : (((h.push (seqObj "list" #[] 0)).update h.objs.size (Obj.mapSeq (· ++ vs.toArray))).push (seqObj "list" vs.toArray 0)).get? (h.objs.size + 1) = some (seqObj "list" vs.toArray 0) := by
    rw [← hsz]; exact Heap.get?_push_size _ rfl
  unfold sortedAll sortedHeap
  refine ⟨fun b o e => ?_, ?_⟩
  · have ne : b ≠ h.objs.size + 1 := Nat.ne_of_lt (Nat.lt_succ_of_lt (Heap.lt_size e))
    rw [Heap.get?_update_ne _ _ _ _ ne]
    refine Heap.get?_push_of_some _ (Heap.get?_push_of_some _ ?_)
    rw [Heap.get?_update_ne _ _ _ _ ne]
    exact keep b o e
  · obtain ⟨e1, ho1⟩ : ∃ e1, ((((h.push (seqObj "list" #[] 0)).update h.objs.size (Obj.mapSeq (· ++ vs.toArray))).push (seqObj "list" vs.toArray 0)).update (h.objs.size + 1) (Obj.mapSeq fun _ => #[])).get? (h.objs.size + 1) = some (seqObj "list" #[] e1) := ⟨_, get?_update_seq hoL (fun _ => #[])⟩
    exact ⟨_, get?_update_seq (Heap.get?_push_of_some _ (Heap.get?_push_of_some _ ho1)) fun _ => out.toArray⟩

theorem EvN_sortedG {f p pos e} {g : V → V} {xs : List V} (b : BuiltAt C f (.builtin "sorted")) (h : Ev C n e env σ τ (.lst (xs.map g)) τ₁) (ok : SortG C g xs) (k : env.kindOf f = some .globalImplicit)
    (hst : (starEach [e] env).any (·.1) = false := by rfl) (he : starEach [e] env = (false, eval e env) :: starEach [] env := by rfl) (hd : (f == ("__debug__" : Str)) = false := by decide) : EvN C n (.Call (.Name f p) [e] [] pos) env σ τ ((sortV xs).map g) τ₁ := fun A R M s S => by
  show wpAny _ _ (do callWith pos (← eval (.Name f p) env) [] (backTo pos (starEach [e] env)) []) _ _ _
  refine wpAny_bind (wp_built S b k hd ?_)
  refine callWith_builtin (by rw [backTo_any]; exact hst) (evalArgs_ev (EvL_cons h EvL_nil he) he R S fun vs s' S' r' k' => ?_)
  obtain ⟨v, rfl, r⟩ := repL_one r'
  obtain ⟨a, us, rfl, l, q⟩ := rep_lst r
  have l' : s'.heap.IsList a us.toArray := isList_of_hid l
  have un := R.un
  refine call_sorted_v (hid_sub _ _) l' q ok (by lia) fun out ro => ?_
  obtain ⟨k1, l1⟩ := sortedAll_facts s'.heap us out
  have nn : s'.heap.get? (s'.heap.objs.size + 1) = Option.none := by
    cases q : s'.heap.get? (s'.heap.objs.size + 1) with
    | none => rfl
    | some o => exact absurd (Heap.lt_size q) (Nat.not_lt.mpr (Nat.le_add_right _ _))
  have kp : Keeps s' { s' with heap := sortedAll s'.heap us out.toArray } := ⟨_, s'.toks, rfl, k1⟩
  have fr : ∀ a ∈ [s'.heap.objs.size + 1], s'.heap.get? a = Option.none := fun a ha => by simp at ha; subst ha; exact nn
  refine ⟨S'.keeps kp, ⟨_, out, rfl, kept_none S'.toGs k' nn, not_low (h' := s'.heap) S'.toGs nn, l1, S'.toGs.more (N := [s'.heap.objs.size + 1]) (tk := s'.toks) k1 fr (fun a ha => by simp at ha; subst ha; obtain ⟨n, e⟩ := l1; exact ⟨_, e⟩), ro.up (hid_more (N := [s'.heap.objs.size + 1]) k1 fr)⟩, k'.trans (.of kp)⟩
theorem EvN_sorted {f p pos e} {xs : List V} (b : BuiltAt C f (.builtin "sorted")) (h : Ev C n e env σ τ (.lst xs) τ₁) (ok : SortOk xs) (k : env.kindOf f = some .globalImplicit)
    (hst : (starEach [e] env).any (·.1) = false := by rfl) (he : starEach [e] env = (false, eval e env) :: starEach [] env := by rfl) (hd : (f == ("__debug__" : Str)) = false := by decide) : EvN C n (.Call (.Name f p) [e] [] pos) env σ τ (sortV xs) τ₁ := by
  have := EvN_sortedG (p := p) (pos := pos) (g := id) (xs := xs) b (by rw [List.map_id]; exact h) ok.g k hst he hd
  rwa [List.map_id] at this
end
end Mine
namespace Mine
open SeqAt
open AutoSeq1 (wpAny_loadPart')
open MeetsSeq

theorem updSeq {M : Model} {A : Around} {E : Value → Shared → Prop} {s : Shared} {a : Addr} {o : Obj} {xs : Array Value} {n : Nat} {f : Array Value → Array Value} {Q : Unit → Shared → Prop} (ho : s.heap.get? a = some o) (hd : o.data = .seq xs n) (hz : xs.size ≤ sizeLine) (hz' : (f xs).size ≤ sizeLine + 1)
    (h : Q () { s with heap := s.heap.update a (Obj.mapSeq f) }) : wpAny M A (updateSeq a f) Q E s := wpAny_updateSeq ho hd h hz hz'
theorem removeLoop (l : Addr) (items : Array Value) (n : Nat) (x : Value) (e : Nat → Bool) (j : Nat) (hj : j < items.size) (hit : e j = true) (k : Nat) (hs1 : items.size ≤ sizeLine) :
    ∀ i : Nat, j - i = k → i ≤ j → (∀ m, i ≤ m → m < j → e m = false) → Meets (Builtin.«list.remove.loop» ⟨[.ref l, x, rawInt i], []⟩)
      (fun A R s => s.heap.get? l = some { cls := .type "list", dict := none, data := .seq items n, slots := #[] } ∧ (∀ m (hm : m < items.size), EqAt A.in1 s items[m] x (e m)) ∧ R (.ok (.ret .none)) { s with heap := s.heap.update l (Obj.mapSeq fun xs => xs.eraseIdxIfInBounds j) }) := by
  induction k with
  | zero =>
    intro i hk hij hno prog w A R s h
    obtain ⟨hp, g, d, tk, os⟩ := s; obtain ⟨hl, he, h⟩ := h
    have hij' : i = j := by lia
    subst hij'
    wp_walk using wpAny_loadPart' hl
    have hi : items[((i : Nat) : Int).toNat]? = some items[i] := by simp [hj]
    rw [hi]
    refine wpAny_bind (he _ hj prog w _ _ ?_)
    rw [hit]
    have hz' : (items.eraseIdxIfInBounds i).size ≤ sizeLine + 1 := Nat.le_trans (size_erased items _) (Nat.le_succ_of_le hs1)
    wp_walk using updSeq hl rfl hs1 hz', wpAny_loadPart' hl
    simpa using h
  | succ k ih =>
    intro i hk hij hno prog w A R s h
    obtain ⟨hp, g, d, tk, os⟩ := s; obtain ⟨hl, he, h⟩ := h
    have hlt : i < items.size := by (exact Nat.lt_of_le_of_lt (by assumption) (by assumption))
    wp_walk using wpAny_loadPart' hl
    have hi : items[((i : Nat) : Int).toNat]? = some items[i] := by simp [hlt]
    have hc : ((i : Int) + 1) = ((i + 1 : Nat) : Int) := by push_cast; rfl
    rw [hi]
    refine wpAny_bind (he _ hlt prog w _ _ ?_)
    rw [hno i (Nat.le_refl _) (by lia)]
    wp_walk
    rw [hc]
    exact ⟨plainId_quiet plain_remove_loop _, codeAny_builtin entry_remove_loop (by
      rw [Around.under_plainId plain_remove_loop _]
      exact ih (i + 1) (by lia) (by lia) (fun m h1 h2 => hno m (by (exact Nat.le_of_lt (by assumption))) h2) prog w A R _ ⟨hl, he, h⟩)⟩

theorem removeAt (l : Addr) (items : Array Value) (n : Nat) (x : Value) (e : Nat → Bool) (j : Nat) (hj : j < items.size)
    (hit : e j = true) (hno : ∀ m, m < j → e m = false) (hs1 : items.size ≤ sizeLine) :
    Meets (Builtin.«list.remove» ⟨[.ref l, x], []⟩)
      (fun A R s => s.heap.get? l = some { cls := .type "list", dict := none, data := .seq items n, slots := #[] } ∧ (∀ m (hm : m < items.size), EqAt A.in1 s items[m] x (e m)) ∧ R (.ok (.ret .none)) { s with heap := s.heap.update l (Obj.mapSeq fun xs => xs.eraseIdxIfInBounds j) }) := by
  intro prog w A R s h
  obtain ⟨hp, g, d, tk, os⟩ := s; obtain ⟨hl, he, h⟩ := h
  wp_walk using wpAny_loadPart' hl
  exact ⟨plainId_quiet plain_remove_loop _, codeAny_builtin entry_remove_loop (by
    rw [Around.under_plainId plain_remove_loop _]
    exact removeLoop l items n x e j hj hit _ hs1 0 rfl (Nat.zero_le _) (fun m _ h2 => hno m h2) prog w A R _ ⟨hl, he, h⟩)⟩

noncomputable def eraseV (x : V) : List V → List V
  | [] => []
  | y :: r => if cmpV y x == .eq then r else y :: eraseV x r
theorem eraseV_at {x : V} : ∀ {xs : List V}, (∃ y ∈ xs, (cmpV y x == .eq) = true) → ∃ j, j < xs.length ∧ (∀ y, xs[j]? = some y → (cmpV y x == .eq) = true) ∧ (∀ m, m < j → ∀ y, xs[m]? = some y → (cmpV y x == .eq) = false) ∧ xs.eraseIdx j = eraseV x xs
  | [], ⟨_, h, _⟩ => nomatch h
  | y :: r, ⟨z, hz, e⟩ => by
    cases c : (cmpV y x == .eq) with
    | true => exact ⟨0, by simp, fun y' h => by cases h; exact c, fun m h => absurd h (Nat.not_lt_zero _), by unfold eraseV; rw [if_pos c]; rfl⟩
    | false =>
      obtain ⟨j, h1, h2, h3, h4⟩ := eraseV_at (x := x) (xs := r) (by
        rcases List.mem_cons.mp hz with rfl | hz
        · rw [c] at e; cases e
        · exact ⟨z, hz, e⟩)
      refine ⟨j + 1, by simpa using h1, fun y' h => h2 y' (by simpa using h), fun m hm y' h => ?_, ?_⟩
      · cases m with
        | zero => cases h; exact c
        | succ m => exact h3 m (by (exact Nat.le_of_succ_le_succ (by assumption))) y' (by simpa using h)
      · unfold eraseV; rw [if_neg (by rw [c]; simp)]
        rw [← h4]; rfl
theorem RpL.erase {C : Cx} {h : Heap} : ∀ {vs xs} (j : Nat), RpL C h vs xs → RpL C h (vs.eraseIdx j) (xs.eraseIdx j)
  | _, _, _, .nil => .nil
  | _, _, 0, .cons a b => b
  | _, _, j + 1, .cons a b => .cons a (b.erase j)

section
variable {C : Cx} {n : Nat} {env : Env} {σ σ' : List (Str × V)} {τ τ₁ τ₂ τ₃ : Option Nat} {wv : Str → Bool}
theorem Ex1_remove {x p1 p2 p3 p4} {e : PySem.Expr} {xs : List V} {y : V} {P : Out → Prop} (he : Ev C n e env σ τ y τ₁) (hx : σ.lookup x = some (.oL xs)) (hs1 : ∀ z ∈ xs, z.srt = true) (hs2 : y.srt = true) (hd1 : ∀ z ∈ xs, z.dep ≤ 200) (hin : ∃ z ∈ xs, (cmpV z y == .eq) = true) (hl : xs.length ≤ sizeLine) (h : P (.next ((x, .oL (eraseV y xs)) :: σ) τ₁)) (i : isVar env x = true)
    (hb : attributeBase (.Name x p1) "remove" env (eval (.Name x p1) env) = eval (.Name x p1) env := by rfl)
    (hfew : ((backTo p3 (starEach [e] env)).all (fun x => !x.1) && (backToKw p3 (keywordEach [] env)).all (fun x => x.1.isSome)
      && decide (([e] : List PySem.Expr).length + ([] : List Keyword).length + (if ([] : List Keyword).isEmpty then 0 else 1) < 30)) = true := by rfl) (hline : (p2.endLine == p3.line) = true := by rfl)
    (hi : interactive env = false := by rfl) (hs : swapsWith (.Call (.Attribute (.Name x p1) "remove" p2) [e] [] p3) none p4.line env = pure false := by rfl)
    (hst : (starEach [e] env).any (·.1) = false := by rfl) (hse : starEach [e] env = (false, eval e env) :: starEach [] env := by rfl) (hd : (x == ("__debug__" : Str)) = false := by decide) (hc : (x == ("__classdict__" : Str)) = false := by decide) :
    Ex1 C n (.Expr (.Call (.Attribute (.Name x p1) "remove" p2) [e] [] p3) p4) env σ τ P := fun A R s₀ M₀ W O ρ s F =>
  ownList_wp PySem.F.slot_list_remove PySem.F.type_list_remove R F he hx i (fun s₁ a v vs S₁ r l q aM Q k => by
    obtain ⟨m, e⟩ := id l
    obtain ⟨j, hj, ht, hf, hj2⟩ := eraseV_at hin
    have un := R.un
    have q' : RpL C s₁.heap vs xs := q.up (hid_sub _ _)
    have ry : Rp C s₁.heap v y := r.rp (plain_pure (srt_plain hs2))
    refine call_meets PySem.F.slot_list_remove ⟨_, e, rfl⟩ PySem.F.entry_list_remove (PySem.F.args_list_remove_2 _ _) (removeAt a vs.toArray m v (fun i => cmpV (xs.getD i (.int 0)) y == .eq) j (by simpa [q.length] using hj) ?_ (fun m hm => ?_) (by simpa [q.length] using hl)) ⟨e, fun m hm => ?_, ?_⟩
    · have := ht _ (List.getElem?_eq_getElem hj)
      show (cmpV (xs.getD _ (.int 0)) y == .eq) = _
      rw [List.getD_eq_getElem?_getD, List.getElem?_eq_getElem hj]
      exact this
    · have hm' : m < xs.length := by lia
      have := hf m hm _ (List.getElem?_eq_getElem hm')
      show (cmpV (xs.getD _ (.int 0)) y == .eq) = _
      rw [List.getD_eq_getElem?_getD, List.getElem?_eq_getElem hm']
      exact this
    · have hm' : m < xs.length := by simpa [q.length] using hm
      obtain ⟨u, eu, ru⟩ := q'.get (List.getElem?_eq_getElem hm')
      have e2 : vs.toArray[m] = u := by
        have := List.getElem?_eq_some_iff.mp eu
        simpa using this.2
      rw [e2, List.getD_eq_getElem?_getD, List.getElem?_eq_getElem hm']
      have dd := hd1 _ (List.getElem_mem hm')
      exact eqAt_rp ru ry (hs1 _ (List.getElem_mem hm')) hs2 (show A.units + 1 + (xs[m]).dep < cLine by lia)
    · have sb : Heap.SameBut a s₁.heap (s₁.heap.update a (Obj.mapSeq fun x => x.eraseIdxIfInBounds j)) := Heap.SameBut.update ..
      have sb' : ∀ b o, b ≠ a → s₁.heap.get? b = some o → (s₁.heap.update a (Obj.mapSeq fun x => x.eraseIdxIfInBounds j)).get? b = some o := fun b o nb e => (sb.2 b nb).trans e
      have up := upOwn aM sb'
      have ll := mapSeq_at l (fun x => x.eraseIdxIfInBounds j)
      have e3 : (vs.toArray.eraseIdxIfInBounds j).toList = vs.eraseIdx j := by simp
      rw [e3] at ll
      have := k _ s₁.toks (vs.eraseIdx j) sb' ll (hj2 ▸ (q.erase j).up up)
      exact this) h hb hfew hline hi hs hst hse hd hc
end
end Mine
namespace Mine

section
variable {C : Cx} {n : Nat} {env : Env} {σ σ' : List (Str × V)} {τ τ₁ τ₂ τ₃ : Option Nat} {wv : Str → Bool}

theorem swap_store {A : Around} {s₀ : Shared} {M₀ W O : List Addr} {ρ : Str → Option Value} {s : Shared} {t : Addr} {v1 v2 : Value} {y1 y2 : V} {a b : Str} {Q : Unit → Shared → Prop} (R : Room A n) (F : Fw C wv s₀ M₀ W env σ τ O ρ s)
    (l : IsTup s.heap t [v1, v2]) (r1 : Rep C s.heap (W ++ (O ++ M₀)) v1 y1) (o1 : y1.own = false) (r2 : Rep C s.heap (W ++ (O ++ M₀)) v2 y2)
    (p2 : y2.own = true → ∃ a, v2 = .ref a ∧ a ∈ O ∧ a ∉ W ∧ ∀ z w, σ.lookup z = some w → isVar env z = true → w.own = true → ρ z ≠ some (.ref a)) (ha : ownVar env a = true ∧ wv a = true) (hb : ownVar env b = true ∧ wv b = true)
    (h : ∀ ρ' s', Fw C wv s₀ M₀ W env ((a, y1) :: (b, y2) :: σ) τ O ρ' s' → Q () s') :
    wpAny (model C.prog C.w) A (do let items ← unpackItems (.ref t) 2 none; assignInOrder [bindName env b, bindName env a] items.reverse) Q NoE s := by
  refine wpAny_bind (wpAny_unpackItems_tuple (items := [v1, v2].toArray) R.hd l.isTuple fun h' he => ?_)
  have kk : Keeps s { s with heap := h' } := ⟨h', s.toks, rfl, fun b o e => he b o (Nat.ne_of_lt (Heap.lt_size e)) e⟩
  have G' := F.gs.keeps kk
  have F1 : Fw C wv s₀ M₀ W env σ τ O ρ { s with heap := h' } := F.then (.of kk) G'
  have r2' := r2.keeps kk F.gs.mT
  have r1' := r1.keeps kk F.gs.mT
  show wpAny _ _ (do holding [v1] (bindName env b v2); assignInOrder [bindName env a] [v1]) _ _ _
  have hW : ∀ x ∈ W, x ∈ W ++ (O ++ M₀) := fun x hx => List.mem_append_left _ hx
  refine wpAny_bind (wpAny_holding (wpAny_bindName (F1.set r2' p2 hb.1 hb.2 fun s₂ F2 k2 => ?_)))
  have r1'' : Rep C s₂.heap (W ++ (O ++ M₀)) v1 y1 := by
    have up : Sub (hid h' (W ++ (O ++ M₀))) (hid s₂.heap (W ++ (O ++ M₀))) := hid_mono fun b o nb e => k2 b o (fun z => nb (hW b z)) e
    exact r1'.move up fun o => by rw [o1] at o; cases o
  show wpAny _ _ (do holding [] (bindName env a v1); assignInOrder [] []) _ _ _
  exact wpAny_bind (wpAny_holding (wpAny_bindName (F2.set r1'' (notOwn o1) ha.1 ha.2 fun s₃ F3 k3 => wpAny_pure (h _ s₃ F3))))

theorem Ex1_swap {a b : Str} {p q k tp e1 e2 k' vp pos} {y1 y2 : V} {P : Out → Prop} (h : EvL C n [e1, e2] env σ τ [y1, y2] τ₁) (p1 : y1.pure = true) (p2 : y2.pure = true) (ha : ownVar env a = true) (hb : ownVar env b = true)
    (hP : P (.next ((a, y1) :: (b, y2) :: σ) τ₁))
    (hs : swapsWithSole [.Tuple [.Name a p, .Name b q] k tp] (.Tuple [e1, e2] k' vp) pos.line env = pure false := by rfl)
    (hw : swappedStores [.Tuple [.Name a p, .Name b q] k tp] (.Tuple [e1, e2] k' vp) env = pure (some [a, b]) := by rfl) :
    Ex1 C n (.Assign [.Tuple [.Name a p, .Name b q] k tp] (.Tuple [e1, e2] k' vp) pos) env σ τ P := fun A R s₀ M₀ W O ρ s F => by
  have he : Ev C n (.Tuple [e1, e2] k' vp) env σ τ (.tup [y1, y2]) τ₁ := Ev_tuple h (by simp [p1, p2]) (by simp)
  rw [exec_Assign]
  refine wpAny_bind (wpAny_standAt ?_)
  rw [hs]
  refine wpAny_bind (wpAny_pure ?_)
  rw [if_neg (by decide)]
  refine wpAny_bind (wpAny_mono (he A R _ s F.st) (fun v s₁ zz => and3 zz fun S₁ r₁ k₁ => ?_) fun _ _ x => x)
  rw [hw]
  refine wpAny_bind (wpAny_pure ?_)
  obtain ⟨c, vs, rfl, l, ql⟩ := rep_tup r₁
  obtain ⟨v1, v2, rfl, q1, q2⟩ : ∃ v1 v2, vs = [v1, v2] ∧ Rp C (hid s₁.heap (W ++ (O ++ M₀))) v1 y1 ∧ Rp C (hid s₁.heap (W ++ (O ++ M₀))) v2 y2 := by
    cases ql with
    | cons q1 ql =>
      cases ql with
      | cons q2 ql =>
        cases ql
        exact ⟨_, _, rfl, q1, q2⟩
  have F' := F.then k₁ S₁.toGs
  show wpAny _ _ (do rule "assign.swapped-stores"; let items ← unpackItems (.ref c) 2 none; assignInOrder [bindName env b, bindName env a] items.reverse; pure Flow.next) _ _ _
  refine wpAny_bind (wpAny_rule ?_)
  have := swap_store (wv := ownVar env) (a := a) (b := b) (Q := fun _ s' => wpAny (model C.prog C.w) A (pure Flow.next : Sem Flow) (fun f s' => ∃ o, P o ∧ OutAt C s₀ M₀ W env o f s') NoE s') R F' l.of_hid (rep_of q1) (own_rp q1) (rep_of q2) (notOwn (own_rp q2)) ⟨ha, ha⟩ ⟨hb, hb⟩ fun ρ' s' F'' => wpAny_pure ⟨_, hP, O, ρ', F''⟩
  have := wpAny_bind this
  rw [bind_assoc] at this
  exact this

theorem Ex1_swap_new {a b : Str} {p q k tp e1 k' vp pos lp} {y1 : V} {P : Out → Prop} (h : Ev C n e1 env σ τ y1 τ₁) (p1 : y1.pure = true) (ha : ownVar env a = true) (hb : ownVar env b = true)
    (hP : P (.next ((a, y1) :: (b, .oL []) :: σ) τ₁))
    (he : starEach [e1, .List [] lp] env = [(false, eval e1 env), (false, eval (.List [] lp) env)] := by rfl)
    (hs : swapsWithSole [.Tuple [.Name a p, .Name b q] k tp] (.Tuple [e1, .List [] lp] k' vp) pos.line env = pure false := by rfl)
    (hw : swappedStores [.Tuple [.Name a p, .Name b q] k tp] (.Tuple [e1, .List [] lp] k' vp) env = pure (some [a, b]) := by rfl) :
    Ex1 C n (.Assign [.Tuple [.Name a p, .Name b q] k tp] (.Tuple [e1, .List [] lp] k' vp) pos) env σ τ P := fun A R s₀ M₀ W O ρ s F => by
  rw [exec_Assign]
  refine wpAny_bind (wpAny_standAt ?_)
  rw [hs]
  refine wpAny_bind (wpAny_pure ?_)
  rw [if_neg (by decide)]
  refine wpAny_bind (wpAny_Tuple (wpAny_items_cons (wpAny_mono (h A R _ s F.st) (fun v s₁ zz => and3 zz fun S₁ r₁ k₁ => ?_) fun _ _ x => x) he))
  refine wpAny_items_cons (wpAny_mono ((EvN_list EvL_nil : EvN C n (.List [] lp) env σ τ₁ [] τ₁) A R _ s₁ S₁) (fun v2 s₂ zz => ?_) fun _ _ x => x)
  obtain ⟨S₂, ⟨c, vs, e, fr, cM, l, G, ql⟩, k₂⟩ := zz
  subst e
  refine wpAny_items_nil ⟨by rw [sizeLine_eq]; simp, ?_⟩
  rw [hw]
  refine wpAny_bind (wpAny_pure ?_)
  have F1 := F.then k₁ S₁.toGs
  have F2 := F1.gain (N := [c]) k₂ G fun b hb => by simp at hb; subst hb; exact fr
  have al := own_alive F1 fr
  have kp := kpPush s₂ { cls := .type "tuple", data := .seq #[v, .ref c] }
  have F3 := F2.then (.of kp) (F2.gs.keeps kp)
  have rr1 : Rep C s₂.heap (W ++ (([c] ++ O) ++ M₀)) v y1 := by
    have h1 : Rep C s₂.heap (W ++ (O ++ M₀)) v y1 := r₁.kept k₂ F.gs.mT
    have h2 := (rep_pure p1).mp (r₁ : Rep C s₁.heap _ v y1)
    obtain ⟨h', tk, rfl, kk⟩ := k₂
    refine (rep_pure p1).mpr (h2.up (hid_up (fun b o nb e => kk b o (fun t => nb (F.gs.mT b t)) e) fun b o nb e z => ?_))
    simp only [List.mem_append, List.mem_cons, List.not_mem_nil, or_false] at z nb
    rcases z with z | (z | z) | z
    · exact nb (.inl z)
    · rw [z, fr] at e; cases e
    · exact nb (.inr (.inl z))
    · exact nb (.inr (.inr z))
  have r2 : Rep C s₂.heap (W ++ (([c] ++ O) ++ M₀)) (.ref c) (.oL []) := ⟨c, vs, rfl, by simp, fun t => cM (F.gs.mT c t), l, ql.up (hid_less fun b hb => by simp only [List.mem_append, List.mem_cons, List.not_mem_nil, or_false] at hb ⊢; rcases hb with h | (h | h) | h <;> simp [h])⟩
  have mT3 := F3.gs.mT
  show wpAny _ _ (do rule "assign.swapped-stores"; let items ← unpackItems (.ref s₂.heap.objs.size) 2 none; assignInOrder [bindName env b, bindName env a] items.reverse; pure Flow.next) _ _ _
  refine wpAny_bind (wpAny_rule ?_)
  have := swap_store (wv := ownVar env) (a := a) (b := b) (t := s₂.heap.objs.size) (Q := fun _ s' => wpAny (model C.prog C.w) A (pure Flow.next : Sem Flow) (fun f s' => ∃ o, P o ∧ OutAt C s₀ M₀ W env o f s') NoE s') R F3
    ⟨_, 0, Heap.get?_push_size _ rfl, rfl, rfl, rfl⟩ (rr1.keeps kp mT3) (own_of_pure p1) (r2.keeps kp mT3) (fun _ => ⟨c, rfl, by simp, fun z => cM (List.mem_append_left _ z), al⟩) ⟨ha, ha⟩ ⟨hb, hb⟩ fun ρ' s' F'' => wpAny_pure ⟨_, hP, _, ρ', F''⟩
  have := wpAny_bind this
  rw [bind_assoc] at this
  exact this
end
end Mine
namespace Mine
open SeqAt

mutual
noncomputable def V.key : V → Bool
  | .str _ => true
  | .tup xs => keyL xs
  | .none | .bool _ | .int _ | .lst _ | .dct _ | .self _ | .tray | .any | .oL _ | .oD _ => false
noncomputable def keyL : List V → Bool
  | [] => true
  | x :: r => x.key && keyL r
end
mutual
noncomputable def V.draws : V → Nat
  | .str _ => 1
  | .tup xs => drawsL xs + 1
  | .none | .bool _ | .int _ | .lst _ | .dct _ | .self _ | .tray | .any | .oL _ | .oD _ => 0
noncomputable def drawsL : List V → Nat
  | [] => 0
  | x :: r => x.draws + drawsL r
end
theorem depL_mem {x : V} : ∀ {xs : List V}, x ∈ xs → x.dep ≤ depL xs
  | y :: r, h => by
    rcases List.mem_cons.mp h with rfl | h
    · exact Nat.le_max_left _ _
    · exact Nat.le_trans (depL_mem h) (Nat.le_max_right _ _)
theorem keyL_cons {x : V} {r : List V} (h : keyL (x :: r) = true) : x.key = true ∧ keyL r = true := Bool.and_eq_true_iff.mp (show (_ && _) = true from h)
theorem drawsL_app : ∀ (a b : List V), drawsL (a ++ b) = drawsL a + drawsL b
  | [], b => (Nat.zero_add _).symm
  | x :: a, b => by show x.draws + drawsL (a ++ b) = x.draws + drawsL a + drawsL b; rw [drawsL_app a b]; (exact (Nat.add_assoc _ _ _).symm)
theorem hashL_app (P : Params) : ∀ (a b : List V), hashL P (a ++ b) = hashL P a ++ hashL P b
  | [], b => rfl
  | x :: a, b => congrArg (hashV P x :: ·) (hashL_app P a b)

theorem pyHashV {C : Cx} : ∀ (d : Nat) {A : Around} {E : Value → Shared → Prop} {s : Shared} {v : Value} {k : V} {Q : Int → Shared → Prop}, k.dep ≤ d → A.units + d < cLine → Rp C s.heap v k → k.key = true → Q (hashV C.w.params k) { s with toks := s.toks + k.draws } →
    wpAny (model C.prog C.w) A (pyHash v) Q E s := by
  intro d
  induction d with
  | zero =>
    intro A E s v k Q hd hu r hk h
    cases r with
    | str x t => exact wpAny_pyHash_str h
    | tup l q => exact absurd hd (by show ¬ depL _ + 1 ≤ 0; lia)
    | _ => cases hk
  | succ d ih =>
    intro A E s v k Q hd hu r hk h
    cases r with
    | str x t => exact wpAny_pyHash_str h
    | @tup a vs xs l q =>
      have hT : s.TypeIs (.ref a) "tuple" := l.isTuple.typeIs
      obtain ⟨o, n, ho, hc, hd', _⟩ := l
      unfold pyHash
      first | unfold pyHashByItsType | skip
      first | refine wpAny_bind (wpAny_cRoomFor_or (.inr (by lia)) ?_) | skip
      refine wpAny_bind (wpAny_specialOf hT F.slot_tuple_hash.lookup ?_)
      show wpAny _ _ (if (some (Value.builtin "tuple.__hash__") == some Value.none) = true then _ else _) Q E s
      rw [if_neg (by rw [beq_builtin_none]; exact Bool.false_ne_true)]
      refine wpAny_bind (wpAny_specialOf hT F.slot_tuple_hash.lookup ?_)
      show wpAny _ _ (callSpecialIfBoundUnlessNone? (.ref a) "__hash__" _ >>= _) Q E s
      refine wpAny_bind (wpAny_callSpecialIfBoundUnlessNone?_slot hT F.slot_tuple_hash (wpAny_call_entry F.slot_tuple_hash hT F.entry_tuple_hash ?_ (F.args_tuple_hash_1 _)))
      show wpAny _ _ (Builtin.Tuple.tupleItemsOf (.ref a) >>= _) _ _ s
      refine wpAny_bind (wpAny_tupleItemsOf ho hd' ?_)
      refine wpAny_bind ?_
      rw [← Array.forIn_toList]
      have hk' : keyL xs = true := hk
      have hdd : depL xs + 1 ≤ d + 1 := hd
      refine wpAny_forIn_list _
        (fun rest (b : Array Int) s' => ∃ done left, xs = done ++ left ∧ RpL C s.heap rest left ∧ keyL left = true ∧ b.toList = hashL C.w.params done ∧ s' = { s with toks := s.toks + drawsL done })
        _ ?_ ?_ _ _ ⟨[], xs, rfl, by simpa using q, hk', by simp [hashL], rfl⟩
      · rintro x rest b s' ⟨done, left, e0, hl, hkl, hb, rfl⟩
        cases hl with
        | @cons _ k _ ks' h1 hl' =>
          have hk2 := keyL_cons hkl
          have hdk : k.dep ≤ d := by
            have := depL_mem (x := k) (xs := xs) (by rw [e0]; simp)
            lia
          refine wpAny_bind (ih (s := { s with toks := s.toks + drawsL done }) hdk (show A.units + 1 + d < cLine by lia) h1 hk2.1 ?_)
          have fin : ∃ done' left', xs = done' ++ left' ∧ RpL C s.heap rest left' ∧ keyL left' = true ∧ (b.push (hashV C.w.params k)).toList = hashL C.w.params done' ∧ ({ s with toks := s.toks + drawsL done + k.draws } : Shared) = { s with toks := s.toks + drawsL done' } :=
            ⟨done ++ [k], ks', by rw [e0]; simp, hl', hk2.2, by rw [hashL_app]; simp [hb, hashL], by rw [drawsL_app]; simp [drawsL, Nat.add_assoc]⟩
          first
            | exact wpAny_pure fin
            | exact wpAny_bind (wpAny_pure (wpAny_pure fin))
      · rintro b s' ⟨done, left, e0, hl, hkl, hb, rfl⟩
        cases hl
        rw [List.append_nil] at e0
        subst e0
        show wpAny _ _ (retInt (Builtin.Tuple.tupleHashOf b.toList)) _ _ _
        rw [hb]
        refine wpAny_ret_mkInt ?_
        show wpAny _ _ (if (decide (-(2 : Int) ^ 63 ≤ Builtin.Tuple.tupleHashOf (hashL C.w.params xs)) && decide (Builtin.Tuple.tupleHashOf (hashL C.w.params xs) < 2 ^ 63)) = true then _ else _) Q E _
        have h' : Q (reduceHash (Builtin.Tuple.tupleHashOf (hashL C.w.params xs))) { s with toks := s.toks + (drawsL xs + 1) } := by
          have e1 : hashV C.w.params (.tup xs) = reduceHash (Builtin.Tuple.tupleHashOf (hashL C.w.params xs)) := rfl
          rw [← e1]; exact h
        unfold reduceHash at h'
        by_cases hr : (decide (-(2 : Int) ^ 63 ≤ Builtin.Tuple.tupleHashOf (hashL C.w.params xs)) && decide (Builtin.Tuple.tupleHashOf (hashL C.w.params xs) < 2 ^ 63)) = true
        · rw [if_pos hr]
          rw [if_pos hr] at h'
          exact wpAny_pure (by simpa [Nat.add_assoc] using h')
        · rw [if_neg hr]
          rw [if_neg hr] at h'
          exact wpAny_bind (wpAny_rule (wpAny_pure (by simpa [Nat.add_assoc] using h')))
    | _ => cases hk
end Mine
namespace Mine
open SeqAt

mutual
theorem rp_detV {C : Cx} {h : Heap} : ∀ (x : V), x.key = true → ∀ {y : V} {v : Value}, Rp C h v x → Rp C h v y → y.key = true → x = y
  | .str a => fun hx => by
    intro y v rx ry hy
    cases rx; cases ry; rfl
  | .tup xs => fun hx => by
    intro y v rx ry hy
    cases rx with | tup l q =>
    cases ry with
    | tup l' q' =>
      obtain ⟨o, n, e, c, d, _⟩ := l
      obtain ⟨o', n', e', c', d', _⟩ := l'
      rw [e] at e'; cases e'
      rw [d] at d'
      injection d' with d1 d2
      have e1 := congrArg Array.toList d1
      simp only [List.toList_toArray] at e1
      subst e1
      rw [rpl_detV xs hx q q' hy]
    | _ => cases hy
  | .none => fun hx => by cases hx
  | .bool _ => fun hx => by cases hx
  | .int _ => fun hx => by cases hx
  | .lst _ => fun hx => by cases hx
  | .dct _ => fun hx => by cases hx
  | .self _ => fun hx => by cases hx
  | .tray => fun hx => by cases hx
  | .any => fun hx => by cases hx
  | .oL _ => fun hx => by cases hx
  | .oD _ => fun hx => by cases hx
theorem rpl_detV {C : Cx} {h : Heap} : ∀ (xs : List V), keyL xs = true → ∀ {ys : List V} {vs : List Value}, RpL C h vs xs → RpL C h vs ys → keyL ys = true → xs = ys
  | [] => fun _ => by intro ys vs rx ry _; cases rx; cases ry; rfl
  | x :: xs => fun hx => by
    intro ys vs rx ry hy
    cases rx with | cons r1 q1 =>
    cases ry with | cons r2 q2 =>
    rw [rp_detV x (keyL_cons hx).1 r1 r2 (keyL_cons hy).1, rpl_detV xs (keyL_cons hx).2 q1 q2 (keyL_cons hy).2]
end
theorem rp_det {C : Cx} {h : Heap} {x y : V} {v : Value} (rx : Rp C h v x) (ry : Rp C h v y) (hx : x.key = true) (hy : y.key = true) : x = y := rp_detV x hx rx ry hy
mutual
theorem rp_keepsV {C : Cx} {h h' : Heap} {d : Addr} {o : Obj} {es : Array DictEntry} {ep : Nat} (ho : h.get? d = some o) (hd : o.data = .dict es ep) (k : ∀ b x, b ≠ d → h.get? b = some x → h'.get? b = some x) : ∀ (x : V), x.key = true → ∀ {v : Value}, Rp C h v x → Rp C h' v x
  | .str a => fun hx => by intro v rx; cases rx; exact .str _ _
  | .tup xs => fun hx => by
    intro v rx
    obtain ⟨a, vs, rfl, ⟨o', n, e, c, d', dn⟩, q⟩ := rp_tup rx
    have ne : a ≠ d := by
      rintro rfl
      rw [ho] at e; cases e
      rw [hd] at d'; cases d'
    exact .tup ⟨o', n, k _ _ ne e, c, d', dn⟩ (rpl_keepsV ho hd k xs hx q)
  | .none => fun hx => by cases hx
  | .bool _ => fun hx => by cases hx
  | .int _ => fun hx => by cases hx
  | .lst _ => fun hx => by cases hx
  | .dct _ => fun hx => by cases hx
  | .self _ => fun hx => by cases hx
  | .tray => fun hx => by cases hx
  | .any => fun hx => by cases hx
  | .oL _ => fun hx => by cases hx
  | .oD _ => fun hx => by cases hx
theorem rpl_keepsV {C : Cx} {h h' : Heap} {d : Addr} {o : Obj} {es : Array DictEntry} {ep : Nat} (ho : h.get? d = some o) (hd : o.data = .dict es ep) (k : ∀ b x, b ≠ d → h.get? b = some x → h'.get? b = some x) : ∀ (xs : List V), keyL xs = true → ∀ {vs : List Value}, RpL C h vs xs → RpL C h' vs xs
  | [] => fun _ => by intro vs rx; cases rx; exact .nil
  | x :: xs => fun hx => by
    intro vs rx
    cases rx with | cons r q =>
    exact .cons (rp_keepsV ho hd k x (keyL_cons hx).1 r) (rpl_keepsV ho hd k xs (keyL_cons hx).2 q)
end
theorem rp_keeps {C : Cx} {h h' : Heap} {d : Addr} {o : Obj} {es : Array DictEntry} {ep : Nat} (ho : h.get? d = some o) (hd : o.data = .dict es ep) (k : ∀ b x, b ≠ d → h.get? b = some x → h'.get? b = some x) {x : V} {v : Value} (r : Rp C h v x) (hx : x.key = true) : Rp C h' v x := rp_keepsV ho hd k x hx r
theorem keyL_mem {x : V} : ∀ {xs : List V}, keyL xs = true → x ∈ xs → x.key = true
  | y :: r, h, hm => by
    rcases List.mem_cons.mp hm with rfl | hm
    · exact (keyL_cons h).1
    · exact keyL_mem (keyL_cons h).2 hm
theorem quietV {C : Cx} : ∀ (n : Nat) {A : Around} {E : Value → Shared → Prop} {s : Shared} {v : Value} {x : V} {Q : Bool → Shared → Prop}, x.dep ≤ n → x.key = true → Rp C s.heap v x → Q true s → wpAny (model C.prog C.w) A (eqIsQuiet n v) Q E s := by
  intro n
  induction n with
  | zero =>
    intro A E s v x Q hd hk r h
    cases r with
    | str y t => exact wpAny_of_eq (a := true) (eqIsQuiet_byValue _ rfl) h
    | tup l q => exact absurd hd (by show ¬ depL _ + 1 ≤ 0; lia)
    | _ => cases hk
  | succ n ih =>
    intro A E s v x Q hd hk r h
    cases r with
    | str y t => exact wpAny_of_eq (a := true) (eqIsQuiet_byValue _ rfl) h
    | @tup a vs xs l q =>
      have hT : s.TypeIs (.ref a) "tuple" := l.isTuple.typeIs
      obtain ⟨o, m, ho, hc, hd', _⟩ := l
      have hdd : depL xs + 1 ≤ n + 1 := hd
      have hk' : keyL xs = true := hk
      unfold eqIsQuiet
      refine wpAny_bind (wpAny_specialOf hT F.slot_tuple_eq.lookup ?_)
      show wpAny _ _ (isInstance (.ref a) (.type "tuple") >>= _) _ _ s
      refine wpAny_bind (wpAny_isInstance hT isSubtype_tuple_tuple ?_)
      simp only [Bool.not_true, Bool.false_eq_true, if_false]
      refine wpAny_bind (wpAny_seqItems ho hd' ?_)
      refine wpAny_bind ?_
      show wpAny _ _ (forIn vs.toArray _ _) _ _ s
      rw [← Array.forIn_toList]
      refine wpAny_forIn_list _ (fun rest r s' => r.1 = none ∧ s' = s ∧ ∃ ys, RpL C s.heap rest ys ∧ ∀ y ∈ ys, y.key = true ∧ y.dep ≤ n) _ ?_ ?_ _ _ ⟨rfl, rfl, xs, by simpa using q, fun y hy => ⟨keyL_mem hk' hy, by have := depL_mem hy; lia⟩⟩
      · rintro v rest r s' ⟨hr, rfl, ys, hq, hall⟩
        cases hq with | cons r1 q1 =>
        refine wpAny_bind (ih (hall _ List.mem_cons_self).2 (hall _ List.mem_cons_self).1 r1 ?_)
        simp only [Bool.not_true, Bool.false_eq_true, if_false]
        exact wpAny_pure ⟨rfl, rfl, _, q1, fun u hu' => hall u (List.mem_cons_of_mem _ hu')⟩
      · rintro ⟨r1, r2⟩ s' ⟨hr, rfl, _⟩
        simp only at hr
        subst hr
        exact wpAny_pure h
    | _ => cases hk

open Classical in
noncomputable def vKind (C : Cx) : HeapKind C.prog C.w V where
  is := fun h k a => Rp C h (.ref a) k ∧ k.srt = true ∧ k.key = true ∧ k.dep ≤ 8
  hash := hashV C.w.params
  draws := V.draws
  room := fun A => A.units + 20 < cLine
  inj := fun hx hy => rp_det hx.1 hy.1 hx.2.2.1 hy.2.2.1
  keeps := fun x ho hd hs => ⟨rp_keeps ho hd (fun b o nb e => (hs.2 b nb).trans e) x.1 x.2.2.1, x.2⟩
  pyHash := fun hu hk h => pyHashV 8 hk.2.2.2 (by lia) hk.1 hk.2.2.1 h
  eqBool := fun {A E s x y a b Q} hu hx hy h => by
    refine eqAt_rp hx.1 hy.1 hx.2.1 hy.2.1 (by have := hx.2.2.2; lia) C.prog C.w E Q ?_
    have e : (cmpV x y == .eq) = decide (x = y) := by
      by_cases q : x = y
      · subst q; rw [cmpV_refl hx.2.1]; simp
      · have : cmpV x y ≠ .eq := fun z => q (cmpV_eq hx.2.1 hy.2.1 z)
        rw [beq_eq_false_iff_ne.mpr this]; simp [q]
    rw [e]; exact h
  quiet := fun hk h => quietV 8 hk.2.2.2 hk.2.2.1 hk.1 h
end Mine
namespace Mine
open SeqAt

noncomputable def RawDict (h : Heap) (d : Addr) (es : Array DictEntry) (ep : Nat) : Prop := h.get? d = some { cls := .type "dict", data := .dict es ep }

section
variable {prog : Program} {w : World} {A : Around} {E : Value → Shared → Prop} {s : Shared}
theorem dictT {s : Shared} {d : Addr} {es : Array DictEntry} {ep : Nat} (h : RawDict s.heap d es ep) : s.TypeIs (.ref d) "dict" := ⟨_, h, rfl⟩
theorem rawIter {d : Addr} {es : Array DictEntry} {ep : Nat} {Q : Value → Shared → Prop} (hd : (d == sysModules) = false) (hm : RawDict s.heap d es ep)
    (hQ : Q (.ref s.heap.objs.size) { s with heap := s.heap.push { cls := .type "dict_keyiterator", data := .fields #[.ref d, .int 0 0, .int es.size 0, .int ep 0] } }) :
    wpAny (model prog w) A (pyIter (.ref d)) Q E s := by
  have hT : s.TypeIs (.ref d) "dict" := dictT hm
  refine wpAny_pyIter_slot hT F.slot_dict_iter (wpAny_call_entry F.slot_dict_iter hT F.entry_dict_iter ?_ (F.args_dict_iter_1 _))
  unfold Builtin.«dict.__iter__»
  refine wpAny_bind ?_
  unfold Builtin.Dict.dictSlotNone
  refine wpAny_bind (wpAny_notOrdered_dict hT ?_)
  show wpAny _ _ (pure (Value.ref d)) _ _ s
  refine wpAny_pure ?_
  show wpAny _ _ (Builtin.Dict.showsAll d >>= _) _ _ s
  unfold Builtin.Dict.showsAll
  rw [if_neg (by rw [hd]; exact Bool.false_ne_true)]
  refine wpAny_bind (wpAny_pure ?_)
  refine wpAny_bind (wpAny_dictEntries hm rfl ?_)
  refine wpAny_bind (wpAny_dictEpoch hm rfl ?_)
  refine wpAny_bind (wpAny_newObj_type (wpAny_pure ⟨_, rfl, "dict_keyiterator", _, ⟨_, Heap.get?_push_size _ rfl, rfl⟩, F.slot_dict_keyiterator_next.lookup, ?_⟩))
  simpa [rawInt] using hQ

theorem rawNext_item {it d : Addr} {i ep : Nat} {es : Array DictEntry} {Q : Option Value → Shared → Prop} (hit : s.heap.IsKeyIter it d i es.size ep)
    (hm : RawDict s.heap d es ep) (hlt : i < es.size)
    (hQ : ∀ h', h'.IsKeyIter it d (i + 1) es.size ep → Heap.SameBut it s.heap h' → Q (some es[i].key) { s with heap := h' }) :
    wpAny (model prog w) A (pyNext (.ref it)) Q E s := by
  obtain ⟨o, ho, hc, hd⟩ := id hit
  unfold pyNext
  refine wpAny_bind (wpAny_attempt (wpAny_callSpecial?_slot (name := Str.ofString "__next__") hit.typeIs F.slot_dict_keyiterator_next
    (wpAny_call_entry F.slot_dict_keyiterator_next hit.typeIs F.entry_dict_keyiterator_next ?_ (F.args_dict_keyiterator_next_1 _))))
  refine wpAny_bind (wpAny_pure ?_)
  refine wpAny_bind ?_
  refine wpAny_bind ?_
  first | refine wpAny_bind (wpAny_typeNameOfWhole_keyiter hit.typeIs (wpAny_pure ?_)) | refine wpAny_bind (wpAny_typeNameOf_keyiter hit.typeIs (wpAny_pure ?_))
  refine wpAny_bind (wpAny_fieldsOf ho hd ?_)
  rw [if_neg (show ¬ (Builtin.Dict_items.ownsTuple "dict_keyiterator" = true) by decide)]
  show wpAny _ _ (if (Value.ref d == Value.none) = true then _ else _) _ _ s
  rw [if_neg (show ¬ ((Value.ref d == Value.none) = true) from Bool.false_ne_true)]
  refine wpAny_bind (wpAny_pure ?_)
  refine wpAny_bind (wpAny_dictEntries hm rfl ?_)
  rw [if_neg (by simp)]
  refine wpAny_bind (wpAny_pure ?_)
  refine wpAny_bind (wpAny_dictEpoch hm rfl ?_)
  rw [if_neg (by simp)]
  refine wpAny_pure ?_
  dsimp only
  rw [if_neg (show ¬ ((i : Int) < 0) from Int.not_lt.mpr (Int.natCast_nonneg i)), Int.toNat_natCast, Array.getElem?_eq_getElem hlt]
  refine wpAny_bind ?_
  first | refine wpAny_bind (wpAny_typeNameOfWhole_keyiter hit.typeIs (wpAny_pure ?_)) | refine wpAny_bind (wpAny_typeNameOf_keyiter hit.typeIs (wpAny_pure ?_))
  refine wpAny_bind (wpAny_isOneOf_keyiter hit.typeIs ?_)
  show wpAny _ _ (setField (.ref it) 1 (rawInt ((i : Int) + 1)) >>= _) _ _ s
  refine wpAny_bind (wpAny_setField ho hd (by simp) ?_)
  have hit' : (s.heap.update it (Obj.mapFields (·.setIfInBounds 1 (rawInt ((i : Int) + 1))))).IsKeyIter it d (i + 1) es.size ep :=
    ⟨_, Heap.get?_update_self _ ho (Obj.isFreed_of_fields (Obj.data_mapFields hd _)), (Obj.cls_mapFields ..).trans hc, by rw [Obj.data_mapFields hd]; simp [rawInt]⟩
  refine wpAny_bind (wpAny_holding ?_)
  refine wpAny_bind (wpAny_isOneOf_keyiter (s := { s with heap := s.heap.update it (Obj.mapFields (·.setIfInBounds 1 (rawInt ((i : Int) + 1)))) }) hit'.typeIs ?_)
  show wpAny _ _ (pure es[i].key) _ _ _
  exact wpAny_pure (wpAny_pure ⟨_, rfl, wpAny_pure (hQ _ hit' (Heap.SameBut.update ..))⟩)

theorem rawNext_end {it d : Addr} {i ep : Nat} {es : Array DictEntry} {Q : Option Value → Shared → Prop} (hh : A.handled = none) (hit : s.heap.IsKeyIter it d i es.size ep)
    (hm : RawDict s.heap d es ep) (hge : es.size ≤ i)
    (hQ : ∀ h', Heap.ExtBut it s.heap h' → Q none { s with heap := h' }) : wpAny (model prog w) A (pyNext (.ref it)) Q E s := by
  obtain ⟨o, ho, hc, hd⟩ := id hit
  unfold pyNext
  refine wpAny_bind (wpAny_attempt (wpAny_callSpecial?_slot (name := Str.ofString "__next__") hit.typeIs F.slot_dict_keyiterator_next
    (wpAny_call_entry F.slot_dict_keyiterator_next hit.typeIs F.entry_dict_keyiterator_next ?_ (F.args_dict_keyiterator_next_1 _))))
  refine wpAny_bind (wpAny_pure ?_)
  refine wpAny_bind ?_
  refine wpAny_bind ?_
  first | refine wpAny_bind (wpAny_typeNameOfWhole_keyiter hit.typeIs (wpAny_pure ?_)) | refine wpAny_bind (wpAny_typeNameOf_keyiter hit.typeIs (wpAny_pure ?_))
  refine wpAny_bind (wpAny_fieldsOf ho hd ?_)
  rw [if_neg (show ¬ (Builtin.Dict_items.ownsTuple "dict_keyiterator" = true) by decide)]
  show wpAny _ _ (if (Value.ref d == Value.none) = true then _ else _) _ _ s
  rw [if_neg (show ¬ ((Value.ref d == Value.none) = true) from Bool.false_ne_true)]
  refine wpAny_bind (wpAny_pure ?_)
  refine wpAny_bind (wpAny_dictEntries hm rfl ?_)
  rw [if_neg (by simp)]
  refine wpAny_bind (wpAny_pure ?_)
  refine wpAny_bind (wpAny_dictEpoch hm rfl ?_)
  rw [if_neg (by simp)]
  refine wpAny_pure ?_
  dsimp only
  rw [if_neg (show ¬ ((i : Int) < 0) from Int.not_lt.mpr (Int.natCast_nonneg i)), Int.toNat_natCast, Array.getElem?_eq_none hge]
  refine wpAny_bind ?_
  first | refine wpAny_bind (wpAny_typeNameOfWhole_keyiter hit.typeIs (wpAny_pure ?_)) | refine wpAny_bind (wpAny_typeNameOf_keyiter hit.typeIs (wpAny_pure ?_))
  show wpAny _ _ (setField (.ref it) 0 .none >>= _) _ _ s
  refine wpAny_bind (wpAny_setField ho hd (by simp) ?_)
  show wpAny _ _ (newExc (.type "StopIteration") [] >>= _) _ _ _
  refine wpAny_bind ?_
  simp only [newExc, newTuple]
  refine wpAny_bind (wpAny_newObj_type ?_ (by size_fits))
  refine wpAny_bind (m := firstArgMember _ _) (wpAny_of_eq (a := Value.none) (by first | rfl | (simp only [firstArgMember]; rfl)) ?_)
  refine wpAny_newObj_type ?_ (by size_fits)
  unfold raiseNew
  refine wpAny_bind (wpAny_handled ?_)
  rw [show A.in1.handled = none from hh]
  refine wpAny_bind (wpAny_pure (wpAny_throw ?_))
  refine wpAny_bind (wpAny_isInstance (T := "StopIteration") (b := true) ⟨_, Heap.get?_push_size _ rfl, rfl⟩ isSubtype_stop ?_)
  exact wpAny_pure (hQ _ (((Heap.SameBut.update ..).extBut.push _).push _))

theorem Walks_raw (hh : A.handled = none) (I d : Addr) (hne : d ≠ I) (es : Array DictEntry) (ep : Nat) :
    Walks prog w A I [I, d] [I] es.size (fun i v => ∃ e, es[i]? = some e ∧ v = e.key) (fun i h => h.IsKeyIter I d i es.size ep ∧ RawDict h d es ep) where
  sub := fun b hb => by simp at hb; simp [hb]
  frame := fun _ _ _ st hk => ⟨st.1.at fun o e => hk I (by simp) o e, hk d (by simp) _ st.2⟩
  item := fun i s Q E hi st hQ => by
    refine rawNext_item st.1 st.2 hi fun h' hit' hs' => ?_
    exact hQ _ h' s.toks ⟨es[i], Array.getElem?_eq_getElem hi, rfl⟩ ⟨hit', hs'.extBut _ _ hne st.2⟩ fun b o hb e => hs'.extBut b o (fun h => hb (by simp [h])) e
  done := fun s Q E st hQ => rawNext_end hh st.1 st.2 (Nat.le_refl _) fun h' he' => hQ h' s.toks fun b o hb e => he' b o (fun h => hb (by simp [h])) e
  self := fun _ _ _ _ st hQ => wpAny_pyIter_keyiter st.1 hQ

theorem src_raw {d : Addr} {es : Array DictEntry} {ep : Nat} (lo : (d == sysModules) = false) : KdlSrc prog w "dict" d d es.size (fun i v => ∃ e, es[i]? = some e ∧ v = e.key) (fun h => RawDict h d es ep) where
  type := fun _ hm => dictT hm
  there := fun _ hm => ⟨Heap.lt_size hm, Heap.lt_size hm⟩
  keep := fun _ _ hm hk => hk d (.inl rfl) _ hm
  notList := by decide
  notTuple := by decide
  hint := fun _ _ _ _ hm hq => kdl_hint_dict (dictT hm) hq
  iter := fun _ _ hh hm => ⟨_, _, (fun _ _ hq => rawIter lo hm hq), Walks_raw hh _ d (Nat.ne_of_lt (Heap.lt_size hm)) es ep, ⟨⟨_, Heap.get?_push_size _ rfl, rfl, rfl⟩, Heap.get?_push_of_some _ hm⟩⟩
end

theorem RpD.ind {C : Cx} {h : Heap} {P : List DictEntry → List (V × V) → Prop} (n : P [] []) (c : ∀ {e k x es kvs}, e.hash = hashV C.w.params k → Rp C h e.key k → Rp C h e.val x → RpD C h es kvs → P es kvs → P (e :: es) ((k, x) :: kvs)) {es kvs} (r : RpD C h es kvs) : P es kvs :=
  RpD.rec (motive_1 := fun _ _ _ => True) (motive_2 := fun _ _ _ => True) (motive_3 := fun v x _ => P v x) trivial (fun _ => trivial) (fun _ _ => trivial) (fun _ _ => trivial) (fun _ _ _ => trivial) (fun _ _ _ => trivial) (fun _ _ _ => trivial) (fun _ _ _ => trivial) trivial (fun _ _ _ _ => trivial) n (fun e a b d _ _ ih => c e a b d ih) r
theorem RpD.keys {C : Cx} {h : Heap} {es kvs} (r : RpD C h es kvs) : RpL C h (es.map (·.key)) (kvs.map (·.1)) := by
  refine RpD.ind (P := fun es kvs => RpL C h (es.map DictEntry.key) (kvs.map Prod.fst)) ?_ ?_ r
  · exact .nil
  · intro e k x es kvs _ a _ _ ih
    exact RpL.cons a ih
theorem RpD.length {C : Cx} {h : Heap} {es kvs} (r : RpD C h es kvs) : es.length = kvs.length := by
  refine RpD.ind (P := fun es kvs => es.length = kvs.length) rfl ?_ r
  intro e k x es kvs _ _ _ _ ih
  exact congrArg (· + 1) ih

section
variable {C : Cx} {n : Nat} {env : Env} {σ σ' : List (Str × V)} {τ τ₁ τ₂ τ₃ : Option Nat} {wv : Str → Bool}
theorem rep_dct {h : Heap} {M : List Addr} {v : Value} {xs : List (V × V)} (r : Rep C h M v (.dct xs)) : ∃ a es, v = .ref a ∧ IsDct (hid h M) a es ∧ RpD C (hid h M) es xs := by
  have r' : Rp C (hid h M) v (.dct xs) := r
  cases r' with
  | dct l q => exact ⟨_, _, rfl, l, q⟩

theorem It_keys {g : Heap} {I a : Addr} {es : List DictEntry} {ep : Nat} {kvs : List (V × V)} (hl : RawDict g a es.toArray ep) (q : RpD C g es kvs) (hI : g.get? I = Option.none) :
    It C n g I [I, a] [I] false (kvs.map (·.1)) (fun i h => h.IsKeyIter I a i es.toArray.size ep ∧ Sub g h) where
  sub := fun _ hb => by simp at hb; simp [hb]
  alive := fun i h zz b hb => by obtain ⟨⟨o, e, _⟩, _⟩ := zz; simp at hb; subst hb; exact ⟨o, e⟩
  frame := fun i h h' zz k s => and2 zz fun j _ => ⟨j.at fun o e => k I (by simp) o e, s⟩
  self := fun A R i s Q zz hq => and2 zz fun j _ => wpAny_pyIter_keyiter j hq
  item := fun A R i x s Q hx zz _ h => and2 zz fun j sg => by
    obtain ⟨v, hv, rv⟩ := q.keys.get hx
    have aI : a ≠ I := fun z => by rw [z] at hl; unfold RawDict at hl; rw [hI] at hl; cases hl
    have hi : i < es.length := by
      have := (List.getElem?_eq_some_iff.mp hv).1
      simpa using this
    have hm : RawDict s.heap a es.toArray ep := sg _ _ hl
    refine rawNext_item j hm (by simpa using hi) fun h' j' sb => ?_
    have e1 : es.toArray[i].key = v := by
      have := (List.getElem?_eq_some_iff.mp hv).2
      simpa using this
    rw [e1]
    have ex : ∀ b o, b ∉ [I] → s.heap.get? b = some o → h'.get? b = some o := fun b o nb e => (sb.2 b (by simpa using nb)).trans e
    have sg' : Sub g h' := fun b o e => ex b o (fun z => by simp at z; subst z; rw [hI] at e; cases e) (sg b o e)
    refine h v h' s.toks ex (fun b hb => by simp at hb; subst hb; obtain ⟨o, e, _⟩ := j'; exact ⟨o, e⟩) (.inl rv) fun t Q' tk' _ hq => ?_
    obtain ⟨o, e, c, _⟩ := id j'
    exact go_plain (nm := "dict_keyiterator") e c (by decide) (hq h' tk' ⟨j', sg'⟩ fun b o _ e => e)
  done := fun A R s Q zz _ h => and2 zz fun j sg => by
    refine rawNext_end R.hd j (sg _ _ hl) (by simp [q.length]) fun h' ex => h h' s.toks fun b o nb e => ex b o (by simpa using nb) e

theorem IterOf_dct {kvs : List (V × V)} : IterOf C n (.dct kvs) false (kvs.map (·.1)) := fun A R M s v τ G r => by
  obtain ⟨a, es, rfl, ⟨ns, ep, l⟩, q⟩ := rep_dct r
  have aI : (hid s.heap M).get? s.heap.objs.size = Option.none := hid_size_none
  refine rawIter ns (hid_sub _ _ _ _ l) ⟨s.heap.objs.size, [s.heap.objs.size, a], [s.heap.objs.size], _, rfl, It_keys l q aI, ⟨⟨_, Heap.get?_push_size _ rfl, rfl, rfl⟩, fun b o e => Heap.get?_push_of_some _ (hid_sub _ _ _ _ e)⟩, kpPush _ _, fun b hb => ?_, fun b hb => ?_⟩
  · simp at hb; subst hb; exact size_none _
  · simp only [List.mem_cons, List.not_mem_nil, or_false] at hb
    rcases hb with rfl | rfl
    · exact .inl (by simp)
    · exact .inr ⟨_, l⟩

theorem Bu_list_dct {kvs : List (V × V)} (hl : kvs.length ≤ sizeLine) : BuSpec C n (.type "list") [.dct kvs] (.lst (kvs.map (·.1))) := fun A R M s vs τ G r => by
  obtain ⟨v, rfl, q₀⟩ := repL_one r
  replace r := q₀
  obtain ⟨a, es, rfl, ⟨ns, ep, l⟩, q⟩ := rep_dct r
  refine kdl_call (src_raw ns) R.hd (hid_sub _ _ _ _ l) (by simpa [q.length] using hl) fun h' tk acc' c' k hD hacc => ?_
  have nM : s.heap.objs.size ∉ M := fun q => let ⟨o, e⟩ := G.low _ q; Nat.lt_irrefl _ (Heap.lt_size e)
  have e1 : acc'.toList = es.map (·.key) := by
    apply List.ext_getElem?
    intro i
    by_cases hi : i < es.length
    · have h1 := hacc.1
      have hi' : i < acc'.size := by rw [h1]; simpa using hi
      obtain ⟨e, e2, e3⟩ := hacc.2 i acc'[i] (by simp [hi'])
      have e4 : es[i]? = some e := by simpa using e2
      simp [hi', e3, e4]
    · have h1 := hacc.1
      have hi' : ¬ i < acc'.size := by rw [h1]; simpa using hi
      simp [hi', hi]
  refine ⟨?_, ⟨h', tk, rfl, k⟩⟩
  have up : Sub (hid s.heap M) (hid h' M) := hid_all k
  have ll : IsLst (hid h' M) s.heap.objs.size (es.map (·.key)) := ⟨c', by rw [← e1]; simpa using hid_get hD nM⟩
  exact .lst ll (q.keys.up up)
end
end Mine
namespace Mine
open SeqAt

theorem list_miss_keys : typeLookup (.type "list") "keys" = pure none := by rw [typeLookup_type, builtinLookup_eq_fast]; kernel_rfl
theorem list_getattr_none : typeLookup (.type "list") "__getattr__" = pure none := by rw [typeLookup_type, builtinLookup_eq_fast]; kernel_rfl
theorem meets_miss_list (a : Addr) (u : Tok) (items : Array Value) (n : Nat) :
    Meets (Builtin.«object.__getattribute__» ⟨[.ref a, .str "keys" u], []⟩) (fun A R s => s.heap.get? a = some { cls := .type "list", data := .seq items n } ∧ raisesAttr (.ref a) "keys" A R s) :=
  Meets.of_wp fun prog w A R s hs => by
    obtain ⟨hp, g, d, tk, os⟩ := s
    have hx : hp.get? a = some { cls := .type "list", data := .seq items n } := hs.1
    have hT : (⟨hp, g, d, tk, os⟩ : Shared).TypeIs (.ref a) "list" := ⟨_, hx, rfl⟩
    have f4 := list_miss_keys
    unfold Builtin.«object.__getattribute__»
    repeat (any_goals (first | assumption | wp_step))
    refine wpAny_raiseAttrError hs.2.1 hs.2.2 ?_
    exact attrMsg_fits (by decide +kernel) (by rw [sizeLine_eq]; decide +kernel)

theorem list_no_keys {prog : Program} {w : World} {A : Around} {E : Value → Shared → Prop} {s : Shared} {a : Addr} {items : Array Value} {n : Nat} {Q : Option Value → Shared → Prop} (hA : A.handled = none) (hx : s.heap.get? a = some { cls := .type "list", data := .seq items n })
    (h : ∀ h' tk, (∀ b o, s.heap.get? b = some o → h'.get? b = some o) → Q none { s with heap := h', toks := tk }) : wpAny (model prog w) A (getAttr? (.ref a) "keys") Q E s := by
  obtain ⟨hp, g, d, tk, os⟩ := s
  have hT : ∀ t, (⟨hp, g, d, t, os⟩ : Shared).TypeIs (.ref a) "list" := fun _ => ⟨_, hx, rfl⟩
  have f1 := sub_AttributeError
  have f3 := F.slot_list_getattribute.lookup
  have f4 := F.slot_list_getattribute.bind (.ref a)
  have f5 := list_getattr_none
  unfold getAttr? getAttrBy? getAttrBy
  repeat (any_goals (first | assumption | exact hT _ | ((with_reducible show wpAny _ _ (call (Value.builtin "list.__getattribute__") _ _) _ _ _); refine call_meets F.slot_list_getattribute (hT _) F.entry_list_ga (F.args_list_getattribute_2 _ _) (meets_miss_list a _ items n) ⟨hx, hA, fun h' tk' e hx' => ?_⟩) | wp_step))
  obtain ⟨t', u', he⟩ := hx'.there
  show wpAny _ _ (getattributeRaised _ _ _ _ _ _ _) _ _ _
  unfold getattributeRaised
  repeat (any_goals (first | assumption | wp_step))
  exact h _ _ hx'.keeps

theorem entry_upd_loop : entryFor table "dict.update.loop" = some Builtin.«dict.update.loop» := entryFor_of_fast (by kernel_rfl)
theorem plain_upd_loop : plainId "dict.update.loop" = true := by decide +kernel

open Classical in
noncomputable def putV (k z : V) (kvs : List (V × V)) : List (V × V) := if k ∈ kvs.map (·.1) then kvs.map (fun p => if p.1 = k then (p.1, z) else p) else kvs ++ [(k, z)]
noncomputable def RpX (C : Cx) (h : Heap) : List (V × Addr × Value) → List (V × V) → Prop
  | [], [] => True
  | (k, a, v) :: xs, (k', z) :: kvs => k = k' ∧ Rp C h (.ref a) k ∧ Rp C h v z ∧ RpX C h xs kvs
  | _, _ => False
theorem RpX.keys {C : Cx} {h : Heap} : ∀ {xs kvs}, RpX C h xs kvs → xs.map (·.1) = kvs.map (·.1)
  | [], [], _ => rfl
  | (_, _, _) :: _, (_, _) :: _, ⟨e, _, _, r⟩ => by simp [e, r.keys]
theorem RpX.app {C : Cx} {h : Heap} : ∀ {xs kvs xs' kvs'}, RpX C h xs kvs → RpX C h xs' kvs' → RpX C h (xs ++ xs') (kvs ++ kvs')
  | [], [], _, _, _, r => r
  | (_, _, _) :: _, (_, _) :: _, _, _, ⟨e, a, b, q⟩, r => ⟨e, a, b, q.app r⟩
theorem RpX.up {C : Cx} {h h' : Heap} (k : Sub h h') : ∀ {xs kvs}, RpX C h xs kvs → RpX C h' xs kvs
  | [], [], _ => trivial
  | (_, _, _) :: _, (_, _) :: _, ⟨e, a, b, q⟩ => ⟨e, a.up k, b.up k, q.up k⟩
open Classical in
theorem RpX.put {C : Cx} {h : Heap} {k z : V} {v : Value} (rz : Rp C h v z) : ∀ {xs kvs}, RpX C h xs kvs → RpX C h (xs.map (putAt k v)) (kvs.map fun p => if p.1 = k then (p.1, z) else p)
  | [], [], _ => trivial
  | (k1, a1, v1) :: xs, (k2, z2) :: kvs, ⟨e, a, b, q⟩ => by
    subst e
    rw [List.map_cons, List.map_cons]
    by_cases hk : k1 = k
    · have e1 : putAt k v (k1, a1, v1) = (k1, a1, v) := by unfold putAt; rw [if_pos hk]
      rw [e1, if_pos hk]
      exact ⟨rfl, a, rz, RpX.put rz q⟩
    · have e1 : putAt k v (k1, a1, v1) = (k1, a1, v1) := by unfold putAt; rw [if_neg hk]
      rw [e1, if_neg hk]
      exact ⟨rfl, a, b, RpX.put rz q⟩
open Classical in
theorem atKey_iff {xs : List (V × Addr × Value)} {k : V} : (atKey xs k).isSome = true ↔ k ∈ xs.map (·.1) := by
  unfold atKey
  rw [Option.isSome_map, List.find?_isSome]
  constructor
  · rintro ⟨x, hx, e⟩
    exact List.mem_map.mpr ⟨x, hx, of_decide_eq_true e⟩
  · intro h
    obtain ⟨x, hx, e⟩ := List.mem_map.mp h
    exact ⟨x, hx, decide_eq_true e⟩
open Classical in
theorem RpX.stored {C : Cx} {h : Heap} {k z : V} {a : Addr} {v : Value} {xs kvs} (r : RpX C h xs kvs) (rk : Rp C h (.ref a) k) (rz : Rp C h v z) : RpX C h (storedH xs k a v) (putV k z kvs) := by
  unfold storedH putV
  by_cases hk : k ∈ kvs.map (·.1)
  · rw [if_pos (atKey_iff.mpr (r.keys ▸ hk)), if_pos hk]
    exact r.put rz
  · rw [if_neg (fun q => hk (r.keys ▸ atKey_iff.mp q)), if_neg hk]
    exact r.app ⟨rfl, rk, rz, trivial⟩
open Classical in
theorem RpX.toD {C : Cx} {h : Heap} : ∀ {xs kvs}, RpX C h xs kvs → RpD C h (xs.map (entryOfKey (vKind C))) kvs
  | [], [], _ => .nil
  | (_, _, _) :: _, (_, _) :: _, ⟨e, a, b, q⟩ => by
    subst e
    exact .cons rfl a b q.toD
noncomputable def keyOk (k : V) : Prop := k.srt = true ∧ k.key = true ∧ k.dep ≤ 8 ∧ ∃ xs, k = .tup xs
open Classical in
theorem RpX.ofD {C : Cx} {h : Heap} {es kvs} (r : RpD C h es kvs) : (∀ p ∈ kvs, keyOk p.1) → ∃ xs, es = xs.map (entryOfKey (vKind C)) ∧ RpX C h xs kvs := by
  refine r.ind (P := fun es kvs => (∀ p ∈ kvs, keyOk p.1) → ∃ xs, es = xs.map (entryOfKey (vKind C)) ∧ RpX C h xs kvs) (fun _ => ⟨[], rfl, trivial⟩) fun {e k x es kvs} eh rk rx q ih hk => ?_
  obtain ⟨xs, e1, r⟩ := ih fun p hp => hk p (List.mem_cons_of_mem _ hp)
  obtain ⟨_, _, _, ys, e2⟩ := hk _ List.mem_cons_self
  simp only at e2
  subst e2
  obtain ⟨eh', ek, ev⟩ := e
  simp only at rk eh
  cases rk with
  | @tup a vs _ l ql =>
    refine ⟨(.tup ys, a, ev) :: xs, ?_, rfl, .tup l ql, rx, r⟩
    rw [List.map_cons, ← e1, eh]
    rfl
end Mine
namespace Mine
open SeqAt

noncomputable def pairV (p : V × V) : V := .tup [p.1, p.2]
theorem putV_length (k z : V) (kvs : List (V × V)) : (putV k z kvs).length ≤ kvs.length + 1 := by
  unfold putV; split <;> simp
theorem RpX.len {C : Cx} {h : Heap} {xs kvs} (r : RpX C h xs kvs) : xs.length = kvs.length := by
  have := congrArg List.length r.keys; simpa using this

theorem ix_of {C : Cx} {h : Heap} : ∀ {xs : List (V × Addr × Value)} {kvs : List (V × V)}, RpX C h xs kvs → ∀ x ∈ xs, Rp C h (.ref x.2.1) x.1
  | [], _, _, x, hx => nomatch hx
  | (_, _, _) :: _, (_, _) :: _, ⟨_, r1, _, r3⟩, x, hx => by
    rcases List.mem_cons.mp hx with rfl | hx
    · exact r1
    · exact ix_of r3 x hx

open Classical in
theorem dict_at {C : Cx} {g h h' : Heap} {d : Addr} {xs : List (V × Addr × Value)} {kvs : List (V × V)} (hm : h.DictOfH (vKind C) d xs) (rx : RpX C g xs kvs) (sg : Sub g h') (e : ∀ o, h.get? d = some o → h'.get? d = some o) : h'.DictOfH (vKind C) d xs := by
  obtain ⟨o, es, ep, ho, hc, hd', he, his, hn⟩ := hm
  exact ⟨o, es, ep, e o ho, hc, hd', he, fun x hx => ⟨(ix_of rx x hx).up sg, (his x hx).2⟩, hn⟩
open Classical in
theorem upd_loop {C : Cx} {A : Around} {g : Heap} {l I d : Addr} {vs : List Value} {kzs : List (V × V)} {R : Result → Shared → Prop} (hl : IsLst g l vs) (q : RpL C g vs (kzs.map pairV)) (hI : g.get? I = Option.none) (hd : g.get? d = Option.none) (Id : I ≠ d)
    (hk : ∀ p ∈ kzs, keyOk p.1) (hu : A.units + 30 < cLine) (hh : A.handled = Option.none) (hsz : kzs.length ≤ sizeLine) :
    ∀ (rest done : List (V × V)), kzs = done ++ rest → ∀ (s : Shared) xs kvs, Sub g s.heap → s.heap.IsListIter I l done.length → s.heap.DictOfH (vKind C) d xs → RpX C g xs kvs → kvs.length ≤ done.length →
      (∀ h' tk xs', Sub g h' → h'.DictOfH (vKind C) d xs' → RpX C g xs' (rest.foldl (fun m p => putV p.1 p.2 m) kvs) → (∀ b o, b ≠ I → b ≠ d → s.heap.get? b = some o → h'.get? b = some o) → R (.ok (.ret .none)) { s with heap := h', toks := tk }) →
      codeAny (model C.prog C.w) A (.builtin "dict.update.loop" ⟨[.ref d, .ref I, rawInt done.length, .none], []⟩) R s := by
  intro rest
  induction rest with
  | nil =>
    intro done he s xs kvs sg hit hm rx hle hR
    rw [List.append_nil] at he
    subst he
    refine codeAny_builtin entry_upd_loop ?_
    rw [Around.under_plainId plain_upd_loop _]
    show wpAny _ A.in1 (pyNext (.ref I) >>= _) _ _ s
    refine wpAny_bind (wpAny_pyNext_list_end (show A.in1.handled = Option.none from hh) hit ((hl.isList).at fun o e => sg _ _ e) (by have := q.length; simp at this; simp [this]) fun h' ex => ?_)
    show wpAny _ _ (Builtin.Dict.addKeywords d [] >>= _) _ _ _
    have sg' : Sub g h' := fun b o e => ex b o (fun z => by rw [z, hI] at e; cases e) (sg b o e)
    refine wpAny_bind (wpAny_pure (wpAny_pure ?_))
    exact hR h' s.toks xs sg' (dict_at hm rx sg' fun o e => ex d o Id.symm e) rx fun b o b1 _ e => ex b o b1 e
  | cons p rest ih =>
    intro done he s xs kvs sg hit hm rx hle hR
    have hlt : done.length < (kzs.map pairV).length := by rw [he]; simp
    have hge : (kzs.map pairV)[done.length]? = some (pairV p) := by rw [he]; simp
    obtain ⟨v, ev, rv⟩ := q.get hge
    refine codeAny_builtin entry_upd_loop ?_
    rw [Around.under_plainId plain_upd_loop _]
    show wpAny _ A.in1 (pyNext (.ref I) >>= _) _ _ s
    refine wpAny_bind (wpAny_pyNext_list_item hit ((hl.isList).at fun o e => sg _ _ e) (x := v) (by simpa using ev) fun h1 hit1 sb1 => ?_)
    have sg1 : Sub g h1 := fun b o e => sb1.extBut b o (fun z => by rw [z, hI] at e; cases e) (sg b o e)
    have kp := hk p (by rw [he]; simp)
    obtain ⟨k, z⟩ := p
    obtain ⟨ks, kk, kd, ys, ek⟩ := kp
    simp only at ek ks kk kd
    have rv' : Rp C g v (.tup [k, z]) := rv
    obtain ⟨T, us, rfl, lT, qT⟩ := rp_tup rv'
    obtain ⟨kv, zv, rfl, rk, rz⟩ := rpl_two qT
    obtain ⟨oT, nT, eT, cT, dT, _⟩ := lT.up sg1
    subst ek
    obtain ⟨ka, ws, rfl, lk, qk⟩ := rp_tup rk
    have rk : Rp C g (.ref ka) (.tup ys) := .tup lk qk
    refine wpAny_bind (wpAny_holding (wpAny_bind (wpAny_tryCatch ?_)))
    unfold Builtin.Dict.pairItems
    refine wpAny_bind (wpAny_typeOf (T := "tuple") ⟨_, eT, cT⟩ ?_)
    rw [if_pos (by decide)]
    refine wpAny_bind (wpAny_seqItems eT dT ?_)
    refine wpAny_pure ?_
    show wpAny _ _ (holding [.ref ka, zv] (dictSet d (.ref ka) zv)) _ _ _
    have hm1 : h1.DictOfH (vKind C) d xs := dict_at hm rx sg1 fun o e => sb1.extBut d o Id.symm e
    refine wpAny_holding (wpAny_dictSet_heap (knd := vKind C) (k := .tup ys) (show A.in1.units + 20 < cLine from by show A.units + 1 + 20 < cLine; lia) ⟨rk.up sg1, ks, kk, kd⟩ hm1 (fun h2 hm2 sb2 => ?_) (by rw [rx.len]; have := hlt; simp at this; lia))
    have sg2 : Sub g h2 := fun b o e => sb2.extBut b o (fun z => by rw [z, hd] at e; cases e) (sg1 b o e)
    have e1 : ((done.length : Int) + 1) = ((done ++ [(V.tup ys, z)]).length : Int) := by simp
    have hit2 : h2.IsListIter I l (done ++ [(V.tup ys, z)]).length := by
      rw [List.length_append]
      exact hit1.at fun o e => sb2.extBut I o Id e
    refine wpAny_pure ⟨plainId_quiet plain_upd_loop _, ?_⟩
    show codeAny _ _ (.builtin "dict.update.loop" ⟨[.ref d, .ref I, rawInt ((done.length : Int) + 1), .none], []⟩) R _
    rw [e1]
    refine ih (done ++ [(V.tup ys, z)]) (by rw [he]; simp) _ (storedH xs (V.tup ys) ka zv) (putV (.tup ys) z kvs) sg2 hit2 hm2 (rx.stored rk rz) (by have := putV_length (.tup ys) z kvs; rw [List.length_append]; simp; lia) fun h' tk xs' a b c dd => ?_
    exact hR h' tk xs' a b c fun b' o b1 b2 e => dd b' o b1 b2 (sb2.extBut b' o b2 (sb1.extBut b' o b1 e))
end Mine
namespace Mine
open SeqAt

noncomputable def fromPairs (kzs : List (V × V)) : List (V × V) := kzs.foldl (fun m p => putV p.1 p.2 m) []

section
variable {C : Cx} {n : Nat} {env : Env} {σ σ' : List (Str × V)} {τ τ₁ τ₂ τ₃ : Option Nat} {wv : Str → Bool}
theorem Gs.fresh_mod {M : List Addr} {s : Shared} (G : Gs C M τ s) {a : Addr} (h : s.heap.get? a = Option.none ∨ s.heap.objs.size ≤ a) : (s.heap.objs.size == sysModules) = false := by
  obtain ⟨b, o, hb, e⟩ := C.big _ G.base
  have := Heap.lt_size (hid_sub _ _ _ _ e)
  have h1 : (1 : Nat) < b := hb
  exact beq_eq_false_iff_ne.mpr (show s.heap.objs.size ≠ (1 : Nat) from by
    have : b < s.heap.objs.size := this
    exact Nat.ne_of_gt (Nat.lt_trans h1 this))

open Classical in
theorem dctOfH {g h : Heap} {M : List Addr} {d : Addr} {xs : List (V × Addr × Value)} {kvs : List (V × V)} (ns : (d == sysModules) = false) (dM : d ∉ M) (hm : h.DictOfH (vKind C) d xs) (rx : RpX C g xs kvs) (sg : Sub g (hid h M)) : Rp C (hid h M) (.ref d) (.dct kvs) := by
  obtain ⟨⟨c, dd, dt, sl⟩, es, ep, ho, hc, hd', he, his, hn⟩ := hm
  obtain ⟨c1, c2, c3⟩ := hc
  simp only at c1 c2 c3 hd'
  subst c1 c2 c3 hd'
  have e : es = es.toList.toArray := by simp
  exact .dct (es := es.toList) ⟨ns, ep, by rw [← e]; exact hid_get ho dM⟩ (he ▸ (rx.toD).up sg)

open Classical in
theorem Bu_dict_pairs {kzs : List (V × V)} (hk : ∀ p ∈ kzs, keyOk p.1) (hl : kzs.length ≤ sizeLine) : BuSpec C n (.type "dict") [.lst (kzs.map pairV)] (.dct (fromPairs kzs)) := fun A R M s vs τ G r => by
  obtain ⟨v, rfl, q₀⟩ := repL_one r
  replace r := q₀
  obtain ⟨l, us, rfl, il, q⟩ := rep_lstE r
  obtain ⟨nl, el⟩ := id il
  have el' : s.heap.get? l = some { cls := .type "list", data := .seq us.toArray nl } := hid_sub _ _ _ _ el
  have un := R.un
  have ns := G.fresh_mod (.inl (size_none _))
  have dM : s.heap.objs.size ∉ M := fun q => let ⟨o, e⟩ := G.low _ q; Nat.lt_irrefl _ (Heap.lt_size e)
  refine callType_codes (Q₁ := fun obj s₁ => obj = .ref s.heap.objs.size ∧ s₁ = { s with heap := s.heap.push { cls := .type "dict", data := .dict #[] } }) F.kt_called_dict (F.kt_typeCall_dict_1 _) F.entry_dict_init (kt_code_dict_new _ ⟨rfl, rfl⟩) ?_
  rintro obj s₁ ⟨rfl, rfl⟩
  have hD : (s.heap.push { cls := .type "dict", data := .dict #[] }).get? s.heap.objs.size = some { cls := .type "dict", data := .dict #[] } := Heap.get?_push_size _ rfl
  have el1 : (s.heap.push { cls := .type "dict", data := .dict #[] }).get? l = some { cls := .type "list", data := .seq us.toArray nl } := Heap.get?_push_of_some _ el'
  refine ⟨⟨_, hD, rfl⟩, F.args_dict_init_2 _ _, ?_⟩
  unfold Builtin.«dict.__init__»
  refine wpAny_bind ?_
  unfold Builtin.Dict.selfAndRest
  refine wpAny_bind (wpAny_notOrdered_dict ⟨_, hD, rfl⟩ ?_)
  show wpAny _ _ (pure (s.heap.objs.size, [Value.ref l])) _ _ _
  refine wpAny_pure ?_
  show wpAny _ _ (Builtin.Dict.updateFrom "dict.__init__" s.heap.objs.size (.ref l) [] .none) _ _ _
  unfold Builtin.Dict.updateFrom
  refine wpAny_bind (wpAny_typeOf (T := "list") ⟨_, el1, rfl⟩ ?_)
  rw [if_pos (by decide)]
  refine wpAny_bind (list_no_keys (show A.in1.in1.handled = Option.none from R.hd) el1 fun h' tk k => ?_)
  rw [if_pos (by rfl)]
  refine wpAny_bind (wpAny_rule ?_)
  have el2 : h'.get? l = some { cls := .type "list", data := .seq us.toArray nl } := k _ _ el1
  refine wpAny_bind (wpAny_pyIter_list (items := us.toArray) ⟨_, el2, rfl, nl, rfl⟩ ?_)
  have s0 : Sub s.heap h' := fun b o e => k b o (Heap.get?_push_of_some _ e)
  have sg : Sub (hid s.heap M) h' := fun b o e => s0 b o (hid_sub _ _ _ _ e)
  have hI : (hid s.heap M).get? h'.objs.size = Option.none := by
    cases e : (hid s.heap M).get? h'.objs.size with
    | none => rfl
    | some o => exact absurd (Heap.lt_size (sg _ _ e)) (Nat.lt_irrefl _)
  have hDn : (hid s.heap M).get? s.heap.objs.size = Option.none := hid_size_none
  have Dlt : s.heap.objs.size < h'.objs.size := Heap.lt_size (k _ _ hD)
  refine wpAny_pure ⟨plainId_quiet plain_upd_loop _, ?_⟩
  refine upd_loop (C := C) (A := A.in1) (g := hid s.heap M) (l := l) (I := h'.objs.size) (d := s.heap.objs.size) (kzs := kzs) il q hI hDn (Nat.ne_of_gt Dlt) hk (show A.units + 1 + 30 < cLine by lia) R.hd hl kzs [] rfl _ [] [] (fun b o e => Heap.get?_push_of_some _ (sg b o e)) ⟨_, Heap.get?_push_size _ rfl, rfl, rfl⟩
    ⟨_, #[], 0, Heap.get?_push_of_some _ (k _ _ hD), ⟨rfl, rfl, rfl⟩, rfl, rfl, fun x hx => (nomatch hx), List.nodup_nil⟩ trivial (Nat.le_refl _) fun h2 tk2 xs' sg2 hm2 rx2 kk => ?_
  refine ⟨rfl, ?_, ⟨h2, tk2, rfl, fun b o e => ?_⟩⟩
  · refine dctOfH ns dM hm2 rx2 fun b o e => ?_
    exact hid_get (sg2 b o e) (hid_not e)
  · have b1 : b ≠ h'.objs.size := Nat.ne_of_lt (Nat.lt_trans (Heap.lt_size e) Dlt)
    have b2 : b ≠ s.heap.objs.size := Nat.ne_of_lt (Heap.lt_size e)
    exact kk b o b1 b2 (Heap.get?_push_of_some _ (s0 b o e))
end
end Mine
namespace Mine
open SeqAt

section
variable {C : Cx} {n : Nat} {env : Env} {σ σ' : List (Str × V)} {τ τ₁ τ₂ τ₃ : Option Nat} {wv : Str → Bool}
structure KeysOk (kvs : List (V × V)) : Prop where
  ok : ∀ p ∈ kvs, keyOk p.1
  nd : (kvs.map (·.1)).Nodup
theorem KeysOk.nil : KeysOk [] := ⟨fun p h => (nomatch h), List.nodup_nil⟩

open Classical in
theorem dctH {h g : Heap} {a : Addr} {es : List DictEntry} {kvs : List (V × V)} (l : IsDct h a es) (q : RpD C g es kvs) (sg : Sub g h) (ko : KeysOk kvs) : ∃ xs, h.DictOfH (vKind C) a xs ∧ RpX C g xs kvs := by
  obtain ⟨xs, e, r⟩ := RpX.ofD q ko.ok
  obtain ⟨ns, ep, ho⟩ := l
  refine ⟨xs, ⟨_, _, ep, ho, ⟨rfl, rfl, rfl⟩, rfl, by simp [e], fun x hx => ⟨(ix_of r x hx).up sg, ?_⟩, by rw [r.keys]; exact ko.nd⟩, r⟩
  have : x.1 ∈ kvs.map (·.1) := by rw [← r.keys]; exact List.mem_map.mpr ⟨x, hx, rfl⟩
  obtain ⟨p, hp, e2⟩ := List.mem_map.mp this
  have := ko.ok p hp
  rw [e2] at this
  exact ⟨this.1, this.2.1, this.2.2.1⟩

theorem Ev_dict0 {pos} : Ev C n (.Dict [] [] pos) env σ τ (.dct []) τ := fun A R M s S => by
  have ns := S.toGs.fresh_mod (.inl (size_none _))
  have dM : s.heap.objs.size ∉ M := fun q => let ⟨o, e⟩ := S.low _ q; Nat.lt_irrefl _ (Heap.lt_size e)
  exact wpAny_Dict_empty ⟨S.keeps (kpPush ..), .dct (es := []) ⟨ns, 0, hid_get (Heap.get?_push_size _ rfl) dM⟩ .nil, .of (kpPush ..)⟩

theorem Ex1_assign_dict0 {x p pos pos2} {P : Out → Prop} (hx : ownVar env x = true) (h : P (.next ((x, .oD []) :: σ) τ))
    (hs : swapsWith (.Dict [] [] pos2) (some (.Name x p)) pos.line env = pure false := by rfl) : Ex1 C n (.Assign [.Name x p] (.Dict [] [] pos2) pos) env σ τ P := fun A R s₀ M₀ W O ρ s F => by
  have ns := F.gs.fresh_mod (.inl (size_none _))
  have fr : s.heap.get? s.heap.objs.size = Option.none := size_none _
  have aM : s.heap.objs.size ∉ W ++ (O ++ M₀) := fun q => let ⟨o, e⟩ := F.gs.low _ q; Nat.lt_irrefl _ (Heap.lt_size e)
  refine wpAny_Assign_Name (wpAny_Dict_empty ?_) hs
  have kp := kpPush s { cls := .type "dict", data := .dict #[] }
  have k : Sub s.heap (s.heap.push { cls := .type "dict", data := .dict #[] }) := fun _ _ e => Heap.get?_push_of_some _ e
  have fr1 : ∀ a ∈ [s.heap.objs.size], s.heap.get? a = Option.none := fun a ha => by simp at ha; subst ha; exact size_none _
  have G := F.gs.more (N := [s.heap.objs.size]) (tk := s.toks) k fr1 (fun a ha => by simp at ha; subst ha; exact ⟨_, Heap.get?_push_size _ rfl⟩)
  have F₁ := F.gain (N := [s.heap.objs.size]) (.of kp) G fr1
  have aW : s.heap.objs.size ∉ W := fun z => aM (List.mem_append_left _ z)
  have aT : C.T ≠ some s.heap.objs.size := fun t => aM (F.gs.mT _ t)
  have r : Rep C (s.heap.push { cls := .type "dict", data := .dict #[] }) (W ++ (([s.heap.objs.size] ++ O) ++ M₀)) (.ref s.heap.objs.size) (.oD []) := ⟨_, [], rfl, by simp, aT, ⟨ns, 0, Heap.get?_push_size _ rfl⟩, .nil⟩
  exact F₁.set r (fun _ => ⟨_, rfl, by simp, aW, own_alive F fr⟩) hx hx fun s' F' _ => ⟨_, h, _, _, F'⟩

theorem Fw.eval_var {A : Around} {s₀ : Shared} {M₀ W O : List Addr} {ρ : Str → Option Value} {s : Shared} {x : Str} {p : Pos} {v : Value} {Q : Value → Shared → Prop} (F : Fw C wv s₀ M₀ W env σ τ O ρ s) (hρ : ρ x = some v) (i : isVar env x = true) (h : Q v s)
    (hd : (x == ("__debug__" : Str)) = false) (hc : (x == ("__classdict__" : Str)) = false) : wpAny (model C.prog C.w) A (eval (.Name x p) env) Q NoE s :=
  wpAny_Name (load_at F.frame F.glob.2.2 hρ i hc h) hd

open Classical in
theorem Ex1_setitem {x p i pos' value pos} {k z : V} {kvs : List (V × V)} {P : Out → Prop} (hv : Ev C n value env σ τ z τ₁) (hi : Ev C n i env σ τ₁ k τ₂) (hx : σ.lookup x = some (.oD kvs)) (hz : z.pure = true) (hk : keyOk k) (ko : KeysOk kvs) (hl : kvs.length ≤ 1000)
    (h : P (.next ((x, .oD (putV k z kvs)) :: σ) τ₂)) (iv : isVar env x = true)
    (hs : swapsWith value (some (.Subscript (.Name x p) i pos')) pos.line env = pure false := by rfl) (hd : (x == ("__debug__" : Str)) = false := by decide) (hc : (x == ("__classdict__" : Str)) = false := by decide) :
    Ex1 C n (.Assign [.Subscript (.Name x p) i pos'] value pos) env σ τ P := fun A R s₀ M₀ W O ρ s F => by
  refine wpAny_Assign_Subscript (wpAny_mono (hv A R _ s F.st) (fun v s₁ zz => and3 zz fun S₁ r₁ k₁ => ?_) fun _ _ x => x) hs
  have F1 := F.then k₁ S₁.toGs
  obtain ⟨v₀, hρ, rv⟩ := F1.vars x _ hx iv
  refine F1.eval_var hρ iv ?_ hd hc
  refine wpAny_mono (hi A R _ s₁ F1.st) (fun kv s₂ zz => and3 zz fun S₂ r₂ k₂ => ?_) fun _ _ x => x
  have F2 := F1.then k₂ S₂.toGs
  obtain ⟨v₁, hρ₁, rv₁⟩ := F2.vars x _ hx iv
  rw [hρ] at hρ₁; cases hρ₁
  obtain ⟨a, es, rfl, aM, aT, l, q⟩ := rv₁
  have rz : Rp C (hid s₂.heap (W ++ (O ++ M₀))) v z := (rep_pure hz).mp (r₁.kept k₂ F.gs.mT)
  obtain ⟨ks, kk, kd, ys, ek⟩ := hk
  subst ek
  obtain ⟨ka, ws, rfl, lk, qk⟩ := rep_tup r₂
  have rk : Rp C (hid s₂.heap (W ++ (O ++ M₀))) (.ref ka) (.tup ys) := .tup lk qk
  obtain ⟨xs, hm, rx⟩ := dctH l q (hid_sub _ _) ko
  have un := R.un
  refine wpAny_setItem_heap (knd := vKind C) (k := .tup ys) (show A.units + 1 + 20 < cLine by lia) ⟨rk.up (hid_sub _ _), ks, kk, kd⟩ hm (fun h' hm' sb => ?_) (by rw [rx.len, sizeLine_eq]; (exact Nat.le_trans (by assumption) (by decide)))
  have sb' : ∀ b o, b ≠ a → s₂.heap.get? b = some o → h'.get? b = some o := fun b o nb e => (sb.2 b nb).trans e
  have up := upOwn aM sb'
  obtain ⟨⟨c, dd, dt, sl⟩, es', ep, ho, hc', hd', he, his, hn⟩ := hm'
  obtain ⟨c1, c2, c3⟩ := hc'
  simp only at c1 c2 c3 hd'
  subst c1 c2 c3 hd'
  have e : es' = es'.toList.toArray := by simp
  have rr : Rep C h' (W ++ (O ++ M₀)) (.ref a) (.oD (putV (.tup ys) z kvs)) := ⟨a, es'.toList, rfl, aM, aT, ⟨l.1, ep, by rw [← e]; exact ho⟩, he ▸ ((rx.stored rk rz).toD).up up⟩
  exact ⟨_, h, O, ρ, F2.mutate hx iv rfl hρ sb' ⟨_, ho⟩ rfl rr⟩

theorem RpX.at {h : Heap} : ∀ {xs : List (V × Addr × Value)} {kvs : List (V × V)} {k z : V}, RpX C h xs kvs → (k, z) ∈ kvs → ∃ (i : Nat) (a : Addr) (v : Value), xs[i]? = some (k, a, v) ∧ Rp C h v z
  | [], [], _, _, _, hm => nomatch hm
  | (k1, a1, v1) :: xs, (k2, z2) :: kvs, k, z, ⟨e, _, r2, r3⟩, hm => by
    rcases List.mem_cons.mp hm with e2 | hm
    · cases e2
      exact ⟨0, a1, v1, by simp [e], r2⟩
    · obtain ⟨i, a, v, h1, h2⟩ := RpX.at r3 hm
      exact ⟨i + 1, a, v, by simpa using h1, h2⟩

open Classical in
theorem Ev_getitem {value slice pos} {k z : V} {kvs : List (V × V)} (hv : Ev C n value env σ τ (.dct kvs) τ₁) (hs : Ev C n slice env σ τ₁ k τ₂) (hk : keyOk k) (ko : KeysOk kvs) (hz : (k, z) ∈ kvs)
    (he : ∀ a b, subscripted slice false (.ref a) (.ref b) = operate [.ref a, .ref b] (getItem (.ref a) (.ref b)) := by intro _ _; with_unfolding_all rfl) :
    Ev C n (.Subscript value slice pos) env σ τ z τ₂ := fun A R M s S =>
  Subscript_ (wpAny_mono (hv A R M s S) (fun u s₁ zz => and3 zz fun S₁ r₁ k₁ => wpAny_mono (hs A R M s₁ S₁) (fun v s₂ zz => and3 zz fun S₂ r₂ k₂ => by
    have r₁' := r₁.kept k₂ S.mT
    obtain ⟨a, es, rfl, l, q⟩ := rep_dct r₁'
    obtain ⟨ks, kk, kd, ys, ek⟩ := hk
    subst ek
    obtain ⟨ka, ws, rfl, lk, qk⟩ := rep_tup r₂
    have rk : Rp C (hid s₂.heap M) (.ref ka) (.tup ys) := .tup lk qk
    obtain ⟨xs, hm, rx⟩ := dctH (l.up (hid_sub _ _)) q (hid_sub _ _) ko
    obtain ⟨j, b, w, hj, rw'⟩ := rx.at hz
    have hn : (xs.map (·.1)).Nodup := by rw [rx.keys]; exact ko.nd
    have un := R.un
    refine tail_any hm.typeIs slot_dict_getitem.lookup (wpAny_getItem_heap (knd := vKind C) (k := .tup ys) (p := (b, w)) (show A.units + 1 + 20 < cLine by lia) ⟨rk.up (hid_sub _ _), ks, kk, kd⟩ hm (atKey_of_get hn hj) ?_) (he a ka)
    exact ⟨S₂.keeps (kpTok ..), (rep_of rw').keeps (kpTok s₂ _) S₂.mT, (k₁.trans k₂).trans (.of (kpTok ..))⟩) fun _ _ x => x) fun _ _ x => x)
end
end Mine
namespace Mine
open SeqAt

noncomputable def strD (kvs : List (Str × V)) : List (V × V) := kvs.map fun p => (.str p.1, p.2)
noncomputable def RpS (C : Cx) (h : Heap) : List (Str × Value) → List (Str × V) → Prop
  | [], [] => True
  | (k, v) :: xs, (k', z) :: kvs => k = k' ∧ Rp C h v z ∧ RpS C h xs kvs
  | _, _ => False
theorem RpS.keys {C : Cx} {h : Heap} : ∀ {xs kvs}, RpS C h xs kvs → xs.map (·.1) = kvs.map (·.1)
  | [], [], _ => rfl
  | (_, _) :: _, (_, _) :: _, ⟨e, _, r⟩ => by simp [e, r.keys]
theorem RpS.len {C : Cx} {h : Heap} {xs kvs} (r : RpS C h xs kvs) : xs.length = kvs.length := by
  have := congrArg List.length r.keys; simpa using this
theorem RpS.get {C : Cx} {h : Heap} : ∀ {xs : List (Str × Value)} {kvs : List (Str × V)}, RpS C h xs kvs → ∀ {i : Nat} {k : Str} {v : Value}, xs[i]? = some (k, v) → ∃ z, kvs[i]? = some (k, z) ∧ Rp C h v z
  | (k1, v1) :: xs, (k2, z2) :: kvs, ⟨e, r1, r2⟩, 0, k, v, h => by
    simp at h; obtain ⟨rfl, rfl⟩ := h
    exact ⟨z2, by simp [e], r1⟩
  | (k1, v1) :: xs, (k2, z2) :: kvs, ⟨e, r1, r2⟩, i + 1, k, v, h => by
    obtain ⟨z, h1, h2⟩ := r2.get (i := i) (by simpa using h)
    exact ⟨z, by simpa using h1, h2⟩
theorem RpS.ofD {C : Cx} {h : Heap} : ∀ {es : List DictEntry} {kvs : List (Str × V)}, RpD C h es (strD kvs) → ∃ xs, Pairs (strKind C.prog C.w) es xs ∧ (∀ e ∈ es, ∃ k, Value.isStrOf k e.key = true ∧ e.hash = hashStr C.w k) ∧ RpS C h xs kvs
  | es, [], r => by
    cases r
    exact ⟨[], .nil, fun e h => (nomatch h), trivial⟩
  | es, (k, z) :: kvs, r => by
    cases r with | @cons e _ _ es' _ eh rk rx q =>
    obtain ⟨xs, p, hk, rr⟩ := RpS.ofD q
    obtain ⟨eh', ek, ev⟩ := e
    simp only at rk eh
    cases rk with | str _ t =>
    refine ⟨(k, ev) :: xs, .cons (show Value.isStrOf k (.str k t) = true by simp [Value.isStrOf]) rfl p, fun e' he => ?_, rfl, rx, rr⟩
    rcases List.mem_cons.mp he with rfl | he
    · exact ⟨k, by simp [Value.isStrOf], eh⟩
    · exact hk e' he

theorem dctAt {C : Cx} {h g : Heap} {a : Addr} {es : List DictEntry} {kvs : List (Str × V)} (l : IsDct h a es) (q : RpD C g es (strD kvs)) (nd : (kvs.map (·.1)).Nodup) : ∃ xs ep, h.DictAt (PySem.strKind C.prog C.w) a xs ep ∧ RpS C g xs kvs := by
  obtain ⟨xs, p, hk, r⟩ := RpS.ofD q
  obtain ⟨ns, ep, ho⟩ := l
  exact ⟨xs, ep, ⟨_, _, ho, ⟨rfl, rfl, rfl⟩, rfl, fun e he => hk e (by simpa using he), by simpa using p, by rw [r.keys]; exact nd⟩, r⟩

section
variable {C : Cx} {n : Nat} {env : Env} {σ σ' : List (Str × V)} {τ τ₁ τ₂ τ₃ : Option Nat} {wv : Str → Bool}

theorem sorted_pairs_sub {h g : Heap} {as : List Addr} {xs : List (Str × Value)} {kvs : List (Str × V)} (hl : as.length = xs.length) (hp : ∀ (j : Nat) (a : Addr), as[j]? = some a → ∃ key k x, xs[j]? = some (k, x) ∧ Value.isStrOf k key = true ∧ h.get? a = some { cls := .type "tuple", data := .seq #[key, x] })
    (r : RpS C g xs kvs) (sg : Sub g h) : RpL C h (as.map Value.ref) ((strD kvs).map pairV) := by
  induction as generalizing xs kvs with
  | nil =>
    cases xs with
    | nil => cases kvs with
      | nil => exact .nil
      | cons p ps => exact r.elim
    | cons y ys => simp at hl
  | cons a as ih =>
    cases xs with
    | nil => simp at hl
    | cons y ys =>
      obtain ⟨k, v⟩ := y
      cases kvs with
      | nil => exact r.elim
      | cons p ps =>
        obtain ⟨k2, z⟩ := p
        obtain ⟨e, r1, r2⟩ := r
        subst e
        obtain ⟨key, k', x, h1, h2, h3⟩ := hp 0 a rfl
        simp at h1
        obtain ⟨rfl, rfl⟩ := h1
        obtain ⟨t, rfl⟩ := Value.isStrOf_shape h2
        exact .cons (.tup ⟨_, 0, h3, rfl, rfl, rfl⟩ (.cons (.str _ _) (.cons (r1.up sg) .nil))) (ih (by simpa using hl) (fun j a' hj => hp (j + 1) a' (by simpa using hj)) r2)

theorem sortedHeap_facts {h : Heap} {a : Addr} {vs out : List Value} {n : Nat} (ho : h.get? a = some (seqObj "list" vs.toArray n)) :
    (∀ b o, b ≠ a → h.get? b = some o → (sortedHeap h a vs out.toArray).get? b = some o) ∧ IsLst (sortedHeap h a vs out.toArray) a out := by
  unfold sortedHeap
  refine ⟨fun b o ne e => ?_, ?_⟩
  · rw [Heap.get?_update_ne _ _ _ _ ne]
    refine Heap.get?_push_of_some _ (Heap.get?_push_of_some _ ?_)
    rw [Heap.get?_update_ne _ _ _ _ ne]
    exact e
  · obtain ⟨e1, ho1⟩ : ∃ e1, (h.update a (Obj.mapSeq fun _ => #[])).get? a = some (seqObj "list" #[] e1) := ⟨_, get?_update_seq ho (fun _ => #[])⟩
    exact ⟨_, get?_update_seq (Heap.get?_push_of_some _ (Heap.get?_push_of_some _ ho1)) fun _ => out.toArray⟩

theorem EvN_sorted_items {f p pos x px apos pc} {kvs : List (Str × V)} (g : BuiltAt C f (.builtin "sorted")) (hx : σ.lookup x = some (.dct (strD kvs))) (i : isVar env x = true) (nd : (kvs.map (·.1)).Nodup) (ok : SortOk ((strD kvs).map pairV)) (k : env.kindOf f = some .globalImplicit)
    (hbase : attributeBase (.Name x px) "items" env (eval (.Name x px) env) = eval (.Name x px) env := by rfl) (hline : (apos.endLine == pc.line) = true := by rfl)
    (hst : (starEach [.Call (.Attribute (.Name x px) "items" apos) [] [] pc] env).any (·.1) = false := by rfl) (he : starEach [.Call (.Attribute (.Name x px) "items" apos) [] [] pc] env = (false, eval (.Call (.Attribute (.Name x px) "items" apos) [] [] pc) env) :: starEach [] env := by rfl)
    (hd : (f == ("__debug__" : Str)) = false := by decide) (hdx : (x == ("__debug__" : Str)) = false := by decide) (hcx : (x == ("__classdict__" : Str)) = false := by decide) :
    EvN C n (.Call (.Name f p) [.Call (.Attribute (.Name x px) "items" apos) [] [] pc] [] pos) env σ τ (sortV ((strD kvs).map pairV)) τ := fun A R M s S => by
  show wpAny _ _ (do callWith pos (← eval (.Name f p) env) [] (backTo pos (starEach [.Call (.Attribute (.Name x px) "items" apos) [] [] pc] env)) []) _ _ _
  refine wpAny_bind (wp_built S g k hd ?_)
  refine callWith_builtin (by rw [backTo_any]; exact hst) ?_
  have hb : backTo pos (starEach [.Call (.Attribute (.Name x px) "items" apos) [] [] pc] env) = (false, eval (.Call (.Attribute (.Name x px) "items" apos) [] [] pc) env) :: backTo pos (starEach [] env) := by rw [he]; rfl
  rw [hb]
  refine evalArgs_plain ?_
  rw [← hb]
  refine wpAny_items_cons ?_ he
  refine wpAny_Call_method0_late hbase hline ?_
  refine wpAny_Name (wp_var S hx i hcx fun v rv => ?_) hdx
  obtain ⟨a, es, rfl, l, q⟩ := rep_dct rv
  have l' : IsDct s.heap a es := l.up (hid_sub _ _)
  obtain ⟨xs, ep, hat, rs⟩ := dctAt l' q nd
  have un := R.un
  refine ⟨"dict", _, PySem.F.plainAttrs_dict, PySem.F.slot_dict_items, PySem.F.type_dict_items, hat.dictOf.typeIs, fun b e => by cases e; obtain ⟨_, ep', ho⟩ := l'; exact ⟨_, ho, rfl⟩, ?_⟩
  refine callWith_builtin rfl ?_
  refine evalArgs_empty ?_
  show wpAny _ _ (call (.builtin "dict.items") [.ref a]) _ _ _
  refine call_meetsIn PySem.F.slot_dict_items hat.dictOf.typeIs PySem.F.entry_dict_items (PySem.F.args_dict_items_1 _) (meets_dict_items (PySem.strKind C.prog C.w) a l'.1) ⟨⟨xs, hat.dictOf⟩, ?_⟩
  refine wpAny_items_nil ?_
  show wpAny _ _ (call (.builtin "sorted") [.ref s.heap.objs.size]) _ _ _
  refine Calls.call_function_entry kind_sorted plain_sorted entry_sorted (args_sorted1 _) ?_
  unfold Builtin.«sorted»
  refine wpAny_bind (m := checkCount "sorted" 1 1 _) (wpAny_pure ?_)
  have hlen : xs.length = kvs.length := rs.len
  have h64 := ok.len
  simp only [List.length_map, strD] at h64
  have hat1 : (s.heap.push { cls := .type "dict_items", data := .fields #[.ref a] }).DictAt (PySem.strKind C.prog C.w) a xs ep := hat.push _
  refine wpAny_bind (kdx_collect (A := A.in1) (knd := PySem.strKind C.prog C.w) (kvs := xs) (ep := ep) R.hd ⟨_, Heap.get?_push_size _ rfl, rfl, rfl⟩ hat1 (by rw [sizeLine_eq]; lia) fun h' tk as hk hl hG => ?_)
  have s0 : Sub s.heap h' := fun b o e => hk b o (Heap.get?_push_of_some _ e)
  have sz : (s.heap.push { cls := .type "dict_items", data := .fields #[.ref a] }).objs.size = s.heap.objs.size + 1 := Heap.size_push ..
  have asM : ∀ b ∈ as, b ∉ M := fun b hb q => by
    obtain ⟨o, e⟩ := S.low b q
    have h1 := hG.above b hb
    have h2 := Heap.lt_size e
    have h3 : s.heap.objs.size + 1 < b := by rw [← sz]; exact h1
    exact absurd h2 (Nat.not_lt.mpr (Nat.le_of_lt (Nat.lt_of_succ_lt h3)))
  have rl : RpL C (hid h' M) (as.map Value.ref) ((strD kvs).map pairV) := sorted_pairs_sub hl (fun j b hj => by
    obtain ⟨key, k', x', e1, e2, e3⟩ := hG.pairs j b hj
    exact ⟨key, k', x', e1, e2, hid_get e3 (asM b (List.mem_of_getElem? hj))⟩) rs (hid_all s0)
  have rlen := rl.length
  simp only [List.length_map, strD] at rlen
  refine wpAny_bind (wpAny_newList ?_ (by rw [List.length_map, rlen, sizeLine_eq]; (exact Nat.le_of_lt (Nat.lt_of_lt_of_le (by assumption) (by decide)))))
  have hoL : (h'.push (seqObj "list" (as.map Value.ref).toArray 0)).get? h'.objs.size = some (seqObj "list" (as.map Value.ref).toArray 0) := Heap.get?_push_size _ rfl
  have nB : h'.get? h'.objs.size = Option.none := size_none _
  have nn0 : (hid h' M).get? h'.objs.size = Option.none := hid_size_none
  have keep : Sub (hid h' M) (h'.push (seqObj "list" (as.map Value.ref).toArray 0)) := fun b o e => Heap.get?_push_of_some _ (hid_sub _ _ _ _ e)
  show wpAny _ _ _ _ _ { s with heap := h'.push (seqObj "list" (as.map Value.ref).toArray 0), toks := tk }
  refine wpAny_bind (wpAny_holding (wpAny_call_entry slot_list_sort ⟨_, hoL, rfl⟩ entry_list_sort (list_sort_v hoL nn0 keep rl ok (show A.units + 1 + 1 + 202 < cLine by lia) fun out ro => ⟨_, rfl, ?_⟩) (args_list_sort _)))
  refine wpAny_pure ⟨_, rfl, ?_⟩
  obtain ⟨f1, f2⟩ := sortedHeap_facts (out := out) hoL
  have k1 : Sub h' (sortedHeap (h'.push (seqObj "list" (as.map Value.ref).toArray 0)) h'.objs.size (as.map Value.ref) out.toArray) := fun b o e => f1 b o (Nat.ne_of_lt (Heap.lt_size e)) (Heap.get?_push_of_some _ e)
  have kp : Keeps s { s with heap := sortedHeap (h'.push (seqObj "list" (as.map Value.ref).toArray 0)) h'.objs.size (as.map Value.ref) out.toArray, toks := tk } := ⟨_, tk, rfl, s0.trans k1⟩
  have nn : s.heap.get? h'.objs.size = Option.none := by
    cases e : s.heap.get? h'.objs.size with
    | none => rfl
    | some o => have := s0 _ _ e; rw [nB] at this; cases this
  have fr : ∀ b ∈ [h'.objs.size], h'.get? b = Option.none := fun b hb => by simp at hb; subst hb; exact nB
  have frs : ∀ b ∈ [h'.objs.size], s.heap.get? b = Option.none := fun b hb => by simp at hb; subst hb; exact nn
  refine ⟨S.keeps kp, ⟨_, out, rfl, nn, not_low (h' := s.heap) S.toGs nn, f2, S.toGs.more (N := [h'.objs.size]) (tk := tk) (s0.trans k1) frs (fun b hb => by simp at hb; subst hb; obtain ⟨n, e⟩ := f2; exact ⟨_, e⟩), ro.up (hid_more (N := [h'.objs.size]) k1 fr)⟩, .of kp⟩
end
end Mine
namespace Mine

structure MakeAt (C : Cx) (fI : Addr) : Prop where
  mks : makesIn C.K C.bag = true
  kp : keepIn C.K (.ref C.bag) = true
  init : findIn C.K (.ref C.bag) "__init__" = some (some (.ref fI))
  ty : typeIn C.K (.ref fI) = some (.type "function")
  st : findIn C.K (.ref C.bag) "__setattr__" = some (some (.builtin "object.__setattr__"))
  po : plainOver C.K C.bag = true
  tk : takerIn C.K C.bag opsName = some none
  hh : (clsIn C.K C.bag).any (·.hasDict) = true
  fn : ∃ fd p1 p2 p3 p4, FnData C fI fd [.Assign [.Attribute (.Name "self" p1) opsName p2] (.Name "ops" p3) p4] ["self", "ops"] ∧ ∀ L cs, isVar (fenv fd fI L cs) "self" = true ∧ isVar (fenv fd fI L cs) "ops" = true ∧ swapsWith (.Name "ops" p3) (some (.Attribute (.Name "self" p1) opsName p2)) p4.line (fenv fd fI L cs) = pure false

section
variable {C : Cx} {n : Nat} {env : Env} {σ σ' : List (Str × V)} {τ τ₁ τ₂ τ₃ : Option Nat} {wv : Str → Bool}

theorem set_ops {A : Around} {s : Shared} {x dx : Addr} {v : Value} {Q : Unit → Shared → Prop} {fI : Addr} (X : C.K.In s.heap) (m : MakeAt C fI) (hx : s.heap.get? x = some (instObj C.bag dx)) (hD : s.heap.get? dx = some emptyDict)
    (h : ∀ h' tk hs t n', (∀ b o, b ≠ dx → s.heap.get? b = some o → h'.get? b = some o) → h'.get? dx = some (dictOf [⟨hs, .str opsName t, v⟩] n') → Q () { s with heap := h', toks := tk }) :
    wpAny (model C.prog C.w) A (setAttr (.ref x) opsName v) Q NoE s := by
  have I : InstAt s.heap x (instObj C.bag dx) C.bag (some emptyDict) := ⟨hx, rfl, rfl, hD⟩
  refine set_plain X I m.st ?_
  refine osa_open (s := { s with toks := s.toks + 1 }) X I m.po m.tk fun b => ?_
  obtain ⟨cd, hc, hd'⟩ := any_some m.hh
  obtain ⟨es', n', e1, e2⟩ : ∃ (es' : List DictEntry) (n' : Nat), Obj.putName opsName (PyData.keyHash C.w.params opsName) (.str opsName (s.toks + 1)) v emptyDict = dictOf es' n' ∧ es' = [⟨PyData.keyHash C.w.params opsName, .str opsName (s.toks + 1), v⟩] := by
    exact ⟨_, _, putName_dict opsName _ _ v [] 0, rfl⟩
  subst e2
  refine wpAny_bind (wpAny_pure (wpAny_bind (wpAny_bind (wpAny_loadPart hx (wpAny_bind (Looks.here (s := { s with toks := s.toks + 1 }) (looks_clsIn X hc) ?_))))))
  rw [hd']
  refine wpAny_pure (a := some dx) (wpAny_bind (wpAny_pure (wpAny_bind ?_)))
  unfold nsSet
  refine wpAny_bind (wpAny_bind (wpAny_askSetting (wpAny_pure (wpAny_bind (wpAny_mkText (wpAny_bind (wpAny_loadPart hD ?_)))))))
  dsimp only
  have c : (!(#[] : Array DictEntry).any (·.key.isStr opsName) && (#[] : Array DictEntry).any (·.refKey)) = false := by simp
  rw [aRefKeyMayBeTheName_at, c]
  have D' : (s.heap.update dx (Obj.putName opsName (PyData.keyHash C.w.params opsName) (.str opsName (s.toks + 1)) v)).get? dx = some (dictOf [⟨PyData.keyHash C.w.params opsName, .str opsName (s.toks + 1), v⟩] n') := by
    rw [Heap.get?_update_self _ hD (by rw [e1]; rfl), e1]
  refine wpAny_updatePart hD ?_
  refine wpAny_bind (wpAny_lookBehind D' (pastItsLine_dict (by rw [sizeLine_eq]; simp)) ?_)
  exact wpAny_pure (h _ _ _ _ n' (fun b o nb e => (Heap.get?_update_ne _ _ _ _ nb).trans e) D')

theorem Ev_make {f p pos e} {ops : V} {fI : Addr} (m : MakeAt C fI) (g : GlobAt C f (.ref C.bag)) (h : Ev C (n + 1) e env σ τ ops τ₁) (hp : ops.pure = true) (k : env.kindOf f = some .globalImplicit)
    (he : starEach [e] env = (false, eval e env) :: starEach [] env := by rfl) (hd : (f == ("__debug__" : Str)) = false := by decide) : Ev C (n + 1) (.Call (.Name f p) [e] [] pos) env σ τ (.self ops) τ₁ := fun A R M s S => by
  show wpAny _ _ (do callWith pos (← eval (.Name f p) env) [] (backTo pos (starEach [e] env)) []) _ _ _
  refine wpAny_bind (wp_glob S g k hd ?_)
  refine callWith_K (C.kin _ S.base) m.kp ?_ (hplain := by rw [backTo_any]; rfl) (he := he)
  refine wpAny_mono ((EvL_cons h EvL_nil he) pos A R M s S) (fun vs s' zz => and3 zz fun S' r' k' => ?_) fun _ _ x => x
  obtain ⟨v, rfl, r⟩ := repL_one r'
  have X : C.K.In s'.heap := fun b o e => hid_sub _ _ _ _ (C.kin _ S'.base b o e)
  refine ⟨X, ?_⟩
  obtain ⟨hp0, gg, dd, tt, os⟩ := s'
  refine wpAny_call (make_core (makes_of X m.mks) (looks_findIn X m.init) (fun self => bind_fn X self m.ty) (.inl rfl) ?_)
  obtain ⟨fd, p1, p2, p3, p4, D, hv⟩ := m.fn
  have kk : Sub hp0 ((hp0.push emptyDict).push (instObj C.bag hp0.objs.size)) := fun b o e => Heap.get?_push_of_some _ (Heap.get?_push_of_some _ e)
  have sz : (hp0.push emptyDict).objs.size = hp0.objs.size + 1 := Heap.size_push ..
  have hx : ((hp0.push emptyDict).push (instObj C.bag hp0.objs.size)).get? (hp0.objs.size + 1) = some (instObj C.bag hp0.objs.size) := by rw [← sz]; exact Heap.get?_push_size _ rfl
  have hD : ((hp0.push emptyDict).push (instObj C.bag hp0.objs.size)).get? hp0.objs.size = some emptyDict := Heap.get?_push_of_some _ (Heap.get?_push_size _ rfl)
  have fr : ∀ a ∈ [hp0.objs.size], hp0.get? a = Option.none := fun a ha => by simp at ha; subst ha; exact size_none _
  have G0 : Gs C M τ₁ ⟨hp0, gg, dd, tt, os⟩ := S'.toGs
  have G1 := G0.more (N := [hp0.objs.size]) (tk := tt) kk fr (fun a ha => by simp at ha; subst ha; exact ⟨_, hD⟩)
  have dn : hp0.get? hp0.objs.size = Option.none := size_none _
  have xn : hp0.get? (hp0.objs.size + 1) = Option.none := by
    cases q : hp0.get? (hp0.objs.size + 1) with
    | none => rfl
    | some o => exact absurd (Heap.lt_size q) (Nat.not_lt.mpr (Nat.le_add_right _ _))
  have r1 : RepL C ((hp0.push emptyDict).push (instObj C.bag hp0.objs.size)) ([hp0.objs.size] ++ M) [.ref (hp0.objs.size + 1), v] [.any, ops] := ⟨True.intro, Rep.more (h := hp0) r kk fr, trivial⟩
  have dp := R.dp
  refine codeAny_mono (fn_enter (Q := fun v' s'' => v' = .none ∧ (St C M env σ τ₁ s'' ∧ Rep C s''.heap M (.ref (hp0.objs.size + 1)) (.self ops) ∧ Kept C s s'')) D rfl (fun z hz => ?_) (show A.depth + 1 < recursionLimit by lia) G1 r1 fun L cs W s2 F k2 frW => ?_) (fun q s'' z => ?_)
  · simp only [List.mem_cons, List.not_mem_nil, or_false] at hz
    rcases hz with rfl | rfl
    · rfl
    · exact own_of_pure hp
  · obtain ⟨i1, i2, sw⟩ := hv L cs
    refine wpAny_execs_cons (plainObj_wpAny_Assign_Attribute (F.eval_var (v := v) (by rfl) i2 (F.eval_var (v := .ref (hp0.objs.size + 1)) (by rfl) i1 ?_ (by decide) (by decide)) (by decide) (by decide)) sw)
    obtain ⟨h2, tk2, e2, kk2⟩ := k2
    subst e2
    have X2 : C.K.In h2 := fun b o e => hid_sub _ _ _ _ (C.kin _ F.gs.base b o e)
    refine set_ops (fI := fI) X2 m (kk2 _ _ hx) (kk2 _ _ hD) fun h3 tk3 hs t n' k3 h3d => ?_
    refine wpAny_execs_nil ?_
    have sub : Sub hp0 h3 := fun b o e => k3 b o (fun q => by rw [q, dn] at e; cases e) (kk2 _ _ (kk _ _ e))
    have kp : Keeps ⟨hp0, gg, dd, tt, os⟩ { (⟨h2, gg, dd, tk2, os⟩ : Shared) with heap := h3, toks := tk3 } := ⟨h3, tk3, rfl, sub⟩
    have nx : hp0.objs.size + 1 ∉ M := not_low (h' := hp0) G0 xn
    have nd : hp0.objs.size ∉ M := not_low (h' := hp0) G0 dn
    have bg : IsBag C.bag (hid h3 M) (hp0.objs.size + 1) v := ⟨hp0.objs.size, hs, t, n', hid_get (k3 _ _ (Nat.succ_ne_self _) (kk2 _ _ hx)) nx, hid_get h3d nd⟩
    exact ⟨rfl, S'.keeps kp, .self bg (((rep_pure hp).mp r).up (hid_all sub)), k'.trans (.of kp)⟩
  · rcases q with e | (v' | _ | _ | _) <;> first | exact z.elim | exact ⟨z.1, z.2⟩
end
end Mine
namespace Mine
theorem dict_two {prog : Program} {w : World} {h : Heap} {d : Addr} {k1 k2 : Str} {v1 v2 : Value} (hm : h.DictOf (PySem.strKind prog w) d [(k1, v1), (k2, v2)]) :
    ∃ t1 t2 n, h.get? d = some { cls := .type "dict", data := .dict #[⟨PyData.keyHash w.params k1, .str k1 t1, v1⟩, ⟨PyData.keyHash w.params k2, .str k2 t2, v2⟩] n } := by
  obtain ⟨⟨c, dd, dt, sl⟩, es', ep, ho, hc', hd', hks, hps, hn⟩ := hm
  obtain ⟨c1, c2, c3⟩ := hc'
  simp only at c1 c2 c3 hd'
  subst c1 c2 c3 hd'
  have ex : ∃ e1 e2 : DictEntry, es' = #[e1, e2] ∧ Value.isStrOf k1 e1.key = true ∧ e1.val = v1 ∧ Value.isStrOf k2 e2.key = true ∧ e2.val = v2 := by
    generalize hL : es'.toList = L at hps
    cases hps with | cons a1 a2 r =>
    cases r with | cons b1 b2 r =>
    cases r
    rename_i e1 e2
    exact ⟨e1, e2, by rw [← Array.toArray_toList (xs := es'), hL], a1, a2, b1, b2⟩
  obtain ⟨e1, e2, rfl, a1, a2, b1, b2⟩ := ex
  obtain ⟨h1, ky1, vl1⟩ := e1
  obtain ⟨h2, ky2, vl2⟩ := e2
  simp only at a1 a2 b1 b2
  obtain ⟨u1, rfl⟩ := Value.isStrOf_shape a1
  obtain ⟨u2, rfl⟩ := Value.isStrOf_shape b1
  subst a2 b2
  have g1 : h1 = PyData.keyHash w.params k1 := by
    obtain ⟨q, q1, q2⟩ := hks ⟨h1, .str k1 u1, vl1⟩ (by simp)
    have := Value.isStrOf_inj _ _ _ (show Value.isStrOf q (.str k1 u1) = true from q1) (show Value.isStrOf k1 (.str k1 u1) = true by simp [Value.isStrOf])
    subst this; exact q2
  have g2 : h2 = PyData.keyHash w.params k2 := by
    obtain ⟨q, q1, q2⟩ := hks ⟨h2, .str k2 u2, vl2⟩ (by simp)
    have := Value.isStrOf_inj _ _ _ (show Value.isStrOf q (.str k2 u2) = true from q1) (show Value.isStrOf k2 (.str k2 u2) = true by simp [Value.isStrOf])
    subst this; exact q2
  subst g1 g2
  exact ⟨u1, u2, ep, ho⟩


section
variable {C : Cx} {n : Nat} {env : Env} {σ σ' : List (Str × V)} {τ τ₁ τ₂ τ₃ : Option Nat} {wv : Str → Bool}
theorem Ev_neg {e pos} {i : Int} (h : Ev C n e env σ τ (.int i) τ₁) : Ev C n (.UnaryOp .USub e pos) env σ τ (.int (-i)) τ₁ := fun A R M s S =>
  UnaryOp_ (wpAny_mono (h A R M s S) (fun v s₁ zz => and3 zz fun S₁ r₁ k₁ => by
    obtain ⟨t, rfl⟩ := rep_int r₁
    exact PyProof.Rows.neg_int ⟨S₁.keeps (kpTok ..), .int _ _, k₁.trans (.of (kpTok ..))⟩) fun _ _ x => x)

theorem tray_dict {h : Heap} {M : List Addr} {k : Nat} (t : TrayIs C h M (some k)) (hk : C.k1 ≠ C.k2) : ∃ a b tk, C.T = some a ∧ h.DictOf (PySem.strKind C.prog C.w) a [(C.k1, .ref b), (C.k2, .int (k : Int) tk)] ∧ Rp C (hid h M) (.ref b) (.lst C.cells) := by
  obtain ⟨a, t1, t2, tk, n', b, x1, x2, x3⟩ := t
  refine ⟨a, b, tk, x1, ⟨_, _, n', x2, ⟨rfl, rfl, rfl⟩, rfl, fun e he => ?_, ?_, by simp [hk]⟩, x3⟩
  · simp at he
    rcases he with rfl | rfl
    · exact ⟨C.k1, by simp [PySem.strKind, Value.isStrOf], rfl⟩
    · exact ⟨C.k2, by simp [PySem.strKind, Value.isStrOf], rfl⟩
  · exact .cons (by simp [PySem.strKind, Value.isStrOf]) rfl (.cons (by simp [PySem.strKind, Value.isStrOf]) rfl .nil)

theorem Ev_tray {x p k1 pi pos} {y : V} {key : Str} {k : Nat} (hx : σ.lookup x = some .tray) (i : isVar env x = true) (hk : C.k1 ≠ C.k2)
    (hy : (key = C.k2 ∧ y = .int (k : Int)) ∨ (key = C.k1 ∧ y = .lst C.cells))
    (he : ∀ a t, subscripted (.Constant (.str key) k1 pi) false (.ref a) (.str key t) = operate [.ref a, .str key t] (getItem (.ref a) (.str key t)) := by intro _ _; with_unfolding_all rfl)
    (hd : (x == ("__debug__" : Str)) = false := by decide) (hc : (x == ("__classdict__" : Str)) = false := by decide) :
    Ev C n (.Subscript (.Name x p) (.Constant (.str key) k1 pi) pos) env σ (some k) y (some k) := fun A R M s S => by
  refine Subscript_ (wpAny_Name (wp_var S hx i hc fun v rv => ?_) hd)
  refine wpAny_Constant_str ?_
  obtain ⟨a, rfl, hT⟩ := rv
  obtain ⟨a', b, tk, hT', hm, rb⟩ := tray_dict S.tray hk
  rw [hT] at hT'; cases hT'
  have hm' : ({ s with toks := s.toks + 1 } : Shared).heap.DictOf (PySem.strKind C.prog C.w) a [(C.k1, .ref b), (C.k2, .int (k : Int) tk)] := hm
  have fin : ∀ w y, Rep C s.heap M w y → St C M env σ (some k) { s with toks := s.toks + 1 + 1 } ∧ Rep C s.heap M w y ∧ Kept C s { s with toks := s.toks + 1 + 1 } := fun w y r => ⟨S.keeps (kpTok s _), r, .of (kpTok s _)⟩
  rcases hy with ⟨rfl, rfl⟩ | ⟨rfl, rfl⟩
  · refine tail_any (T := "dict") hm.typeIs slot_dict_getitem.lookup (wpAny_getItem_of (knd := PySem.strKind C.prog C.w) (k := C.k2) (v := .int (k : Int) tk) (by simp [PySem.strKind, Value.isStrOf]) hm'.mapOf ?_ (fin _ _ (.int _ _))) (he a _)
    simp [valueAt, hk]
  · refine tail_any (T := "dict") hm.typeIs slot_dict_getitem.lookup (wpAny_getItem_of (knd := PySem.strKind C.prog C.w) (k := C.k1) (v := .ref b) (by simp [PySem.strKind, Value.isStrOf]) hm'.mapOf ?_ (fin _ _ rb)) (he a _)
    simp [valueAt]

theorem Ex1_tray {x p k1 pi p' e pos} {k j : Nat} {P : Out → Prop} (he : Ev C n e env σ τ (.int (j : Int)) (some k)) (hx : σ.lookup x = some .tray) (i : isVar env x = true) (hk : C.k1 ≠ C.k2)
    (h : P (.next σ (some j)))
    (hs : swapsWith e (some (.Subscript (.Name x p) (.Constant (.str C.k2) k1 pi) p')) pos.line env = pure false) (hd : (x == ("__debug__" : Str)) = false := by decide) (hc : (x == ("__classdict__" : Str)) = false := by decide) :
    Ex1 C n (.Assign [.Subscript (.Name x p) (.Constant (.str C.k2) k1 pi) p'] e pos) env σ τ P := fun A R s₀ M₀ W O ρ s F => by
  refine wpAny_Assign_Subscript (wpAny_mono (he A R _ s F.st) (fun v s₁ zz => and3 zz fun S₁ r₁ k₁ => ?_) fun _ _ x => x) hs
  obtain ⟨tj, rfl⟩ := rep_int r₁
  have F1 := F.then k₁ S₁.toGs
  obtain ⟨v₀, hρ, rv⟩ := F1.vars x _ hx i
  obtain ⟨a, rfl, hT⟩ := rv
  refine F1.eval_var hρ i ?_ hd hc
  refine wpAny_Constant_str ?_
  obtain ⟨a', t1, t2, tk, n', b, x1, x2, x3⟩ := F1.gs.tray
  rw [hT] at x1; cases x1
  have hm : ({ s₁ with toks := s₁.toks + 1 } : Shared).heap.DictOf (PySem.strKind C.prog C.w) a [(C.k1, .ref b), (C.k2, .int (k : Int) tk)] := by
    obtain ⟨a2, b2, tk2, h1, h2, h3⟩ := tray_dict (C := C) (h := s₁.heap) (M := W ++ (O ++ M₀)) ⟨a, t1, t2, tk, n', b, hT, x2, x3⟩ hk
    refine ⟨_, _, n', x2, ⟨rfl, rfl, rfl⟩, rfl, fun e he => ?_, ?_, by simp [hk]⟩
    · simp at he
      rcases he with rfl | rfl
      · exact ⟨C.k1, by simp [PySem.strKind, Value.isStrOf], rfl⟩
      · exact ⟨C.k2, by simp [PySem.strKind, Value.isStrOf], rfl⟩
    · exact .cons (by simp [PySem.strKind, Value.isStrOf]) rfl (.cons (by simp [PySem.strKind, Value.isStrOf]) rfl .nil)
  refine wpAny_setItem_pairs (knd := PySem.strKind C.prog C.w) (k := C.k2) (by simp [PySem.strKind, Value.isStrOf]) hm (fun h' hm' sb => ?_) (by rw [sizeLine_eq]; simp)
  have st : stored [(C.k1, Value.ref b), (C.k2, Value.int (k : Int) tk)] C.k2 (.int (j : Int) tj) = [(C.k1, .ref b), (C.k2, .int (j : Int) tj)] := by
    simp [stored, hk]
  rw [st] at hm'
  obtain ⟨u1, u2, ep, ho⟩ := dict_two hm'
  have kk : Kept C s₁ { s₁ with heap := h', toks := s₁.toks + 1 + 1 } := ⟨h', _, rfl, fun b' o nT e => (sb.2 b' (fun q => nT (q ▸ hT))).trans e⟩
  have up : Sub (hid s₁.heap (W ++ (O ++ M₀))) (hid h' (W ++ (O ++ M₀))) := hid_mono fun b' o nb e => (sb.2 b' (fun q => nb (q ▸ F1.gs.mT a hT))).trans e
  have G := F1.gs.kept (h' := h') (tk := s₁.toks + 1 + 1) (τ' := some j) (fun b' o nT e => (sb.2 b' (fun q => nT (q ▸ hT))).trans e) (fun a' q => by rw [hT] at q; cases q; exact ⟨_, ho⟩)
    ⟨a, u1, u2, tj, ep, b, hT, ho, x3.up up⟩
  exact ⟨_, h, O, ρ, F1.then kk G⟩

theorem Ev_and3 {x y z pos} {a b c : Bool} (hx : Ev C n x env σ τ (.bool a) τ) (hy : a = true → Ev C n y env σ τ (.bool b) τ) (hz : a = true → b = true → Ev C n z env σ τ (.bool c) τ) : Ev C n (.BoolOp .And [x, y, z] pos) env σ τ (.bool (a && b && c)) τ := fun A R M s S => by
  show wpAny _ _ (do
    let v ← eval x env
    standAt pos
    let t ← holding [v] (truthy v)
    match BoolOp.And, t with
    | .And, false | .Or, true => pure v
    | _, _ => (do
      let v ← eval y env
      standAt pos
      let t ← holding [v] (truthy v)
      match BoolOp.And, t with
      | .And, false | .Or, true => pure v
      | _, _ => eval z env)) _ _ _
  refine wpAny_bind (wpAny_mono (hx A R M s S) (fun v s₁ zz => and3 zz fun S₁ r₁ k₁ => ?_) fun _ _ x => x)
  obtain rfl := rep_bool r₁
  refine wpAny_bind (wpAny_standAt (wpAny_bind (wpAny_holding (wpAny_truthy_bool ?_))))
  cases a with
  | false => exact wpAny_pure ⟨S₁, .bool _, k₁⟩
  | true =>
    refine wpAny_bind (wpAny_mono (hy rfl A R M s₁ S₁) (fun v s₂ zz => and3 zz fun S₂ r₂ k₂ => ?_) fun _ _ x => x)
    obtain rfl := rep_bool r₂
    refine wpAny_bind (wpAny_standAt (wpAny_bind (wpAny_holding (wpAny_truthy_bool ?_))))
    cases b with
    | false => exact wpAny_pure ⟨S₂, .bool _, k₁.trans k₂⟩
    | true => exact wpAny_mono (hz rfl rfl A R M s₂ S₂) (fun v s₃ zz => and3 zz fun S₃ r₃ k₃ => ⟨S₃, r₃, (k₁.trans k₂).trans k₃⟩) fun _ _ x => x

theorem Ex1_pair {a b : Str} {p q k tp e pos} {y1 y2 : V} {P : Out → Prop} (h : Ev C n e env σ τ (.tup [y1, y2]) τ₁) (ha : ownVar env a = true) (hb : ownVar env b = true)
    (hP : P (.next ((b, y2) :: (a, y1) :: σ) τ₁))
    (hs : swapsWithSole [.Tuple [.Name a p, .Name b q] k tp] e pos.line env = pure false := by rfl)
    (hw : swappedStores [.Tuple [.Name a p, .Name b q] k tp] e env = pure none := by rfl) :
    Ex1 C n (.Assign [.Tuple [.Name a p, .Name b q] k tp] e pos) env σ τ P := fun A R s₀ M₀ W O ρ s F =>
  Assign_Tuple (wpAny_mono (h A R _ s F.st) (fun v s₁ zz => and3 zz fun S₁ r₁ k₁ => assign_tgt (wv := ownVar env) R .pair (F.then k₁ S₁.toGs) r₁ rfl (fun b' hb' => by
    simp only [List.mem_cons, List.not_mem_nil, or_false] at hb'
    rcases hb' with rfl | rfl
    · exact ⟨hb, hb⟩
    · exact ⟨ha, ha⟩) fun ρ' s' F' _ => ⟨_, hP, O, ρ', F'⟩) fun _ _ x => x) hs hw
end
end Mine
namespace Mine

inductive Tm where
  | mk (f : Str) (ks : List Tm)
  deriving Inhabited
noncomputable def Tm.f : Tm → Str | .mk f _ => f
noncomputable def Tm.ks : Tm → List Tm | .mk _ ks => ks
theorem Tm.eta : ∀ t : Tm, Tm.mk t.f t.ks = t | .mk _ _ => rfl
mutual
noncomputable def Tm.v : Tm → V
  | .mk f ks => .tup (.str f :: vL ks)
noncomputable def vL : List Tm → List V
  | [] => []
  | t :: r => t.v :: vL r
end
mutual
noncomputable def Tm.size : Tm → Nat
  | .mk _ ks => sizeL ks + 1
noncomputable def sizeL : List Tm → Nat
  | [] => 0
  | t :: r => t.size + sizeL r
end
mutual
noncomputable def Tm.ht : Tm → Nat
  | .mk _ ks => htL ks + 1
noncomputable def htL : List Tm → Nat
  | [] => 0
  | t :: r => max t.ht (htL r)
end
noncomputable def okNames : List Str := ["a", "b", "c", "s", "f", "g", "p"]
noncomputable def okName (x : Str) : Bool := okNames.contains x
mutual
noncomputable def Tm.good : Tm → Bool
  | .mk f ks => okName f && goodL ks
noncomputable def goodL : List Tm → Bool
  | [] => true
  | t :: r => t.good && goodL r
end
theorem vL_eq : ∀ ks : List Tm, vL ks = ks.map Tm.v
  | [] => rfl
  | t :: r => congrArg _ (vL_eq r)
theorem vL_length (ks : List Tm) : (vL ks).length = ks.length := by rw [vL_eq, List.length_map]
theorem sizeL_eq : ∀ ks : List Tm, sizeL ks = (ks.map Tm.size).sum
  | [] => rfl
  | t :: r => by simp [sizeL, sizeL_eq r]
theorem goodL_iff {ks : List Tm} : goodL ks = true ↔ ∀ t ∈ ks, t.good = true := by
  induction ks with
  | nil => simp [goodL]
  | cons t r ih => simp [goodL, ih]
theorem htL_mem {t : Tm} : ∀ {ks : List Tm}, t ∈ ks → t.ht ≤ htL ks
  | y :: r, h => by
    rcases List.mem_cons.mp h with rfl | h
    · exact Nat.le_max_left _ _
    · exact Nat.le_trans (htL_mem h) (Nat.le_max_right _ _)
theorem htL_le {n : Nat} : ∀ {ks : List Tm}, (∀ t ∈ ks, t.ht ≤ n) → htL ks ≤ n
  | [], _ => Nat.zero_le _
  | t :: r, h => Nat.max_le.mpr ⟨h t List.mem_cons_self, htL_le fun u hu => h u (List.mem_cons_of_mem _ hu)⟩
theorem sizeL_mem {t : Tm} {ks : List Tm} (h : t ∈ ks) : t.size ≤ sizeL ks := by
  induction ks with
  | nil => cases h
  | cons y r ih =>
    rcases List.mem_cons.mp h with rfl | h
    · exact Nat.le_add_right _ _
    · exact Nat.le_trans (ih h) (Nat.le_add_left _ _)
mutual
theorem size_pos : ∀ t : Tm, 1 ≤ t.size
  | .mk _ ks => Nat.succ_le_succ (Nat.zero_le _)
end
theorem len_le_sizeL : ∀ ks : List Tm, ks.length ≤ sizeL ks
  | [] => Nat.le_refl _
  | t :: r => by
    have := size_pos t
    have := len_le_sizeL r
    simp only [List.length_cons, sizeL]; (first | lia | omega)
theorem okName_srt {x : Str} (h : okName x = true) : PyData.strOk x = true := by
  have : x ∈ okNames := by simpa [okName] using h
  revert x
  have all : ∀ x ∈ okNames, PyData.strOk x = true := by decide +kernel
  intro x _ hx; exact all x hx
mutual
theorem Tm.srt : ∀ {t : Tm}, t.good = true → t.v.srt = true
  | .mk f ks, h => by
    have h' := Bool.and_eq_true_iff.mp (show (_ && _) = true from h)
    simp [Tm.v, V.srt, srtL, okName_srt h'.1, srtL_good h'.2]
theorem srtL_good : ∀ {ks : List Tm}, goodL ks = true → srtL (vL ks) = true
  | [], _ => rfl
  | t :: r, h => by
    have h' := Bool.and_eq_true_iff.mp (show (_ && _) = true from h)
    simp [vL, srtL, Tm.srt h'.1, srtL_good h'.2]
end
mutual
theorem Tm.dep : ∀ t : Tm, t.v.dep = t.ht
  | .mk f ks => by
    show depL (.str f :: vL ks) + 1 = htL ks + 1
    have : depL (.str f :: vL ks) = max 0 (depL (vL ks)) := rfl
    rw [this, depL_v ks]; (first | lia | omega)
theorem depL_v : ∀ ks : List Tm, depL (vL ks) = htL ks
  | [] => rfl
  | t :: r => by show max t.v.dep (depL (vL r)) = max t.ht (htL r); rw [Tm.dep t, depL_v r]
end
mutual
theorem Tm.key : ∀ t : Tm, t.v.key = true
  | .mk f ks => by show keyL (.str f :: vL ks) = true; simp [keyL, V.key, keyL_v ks]
theorem keyL_v : ∀ ks : List Tm, keyL (vL ks) = true
  | [] => rfl
  | t :: r => by simp [vL, keyL, Tm.key t, keyL_v r]
end
mutual
theorem Tm.v_inj : ∀ {t u : Tm}, t.v = u.v → t = u
  | .mk f ks, .mk g js, h => by
    simp only [Tm.v, V.tup.injEq, List.cons.injEq, V.str.injEq] at h
    rw [h.1, vL_inj h.2]
theorem vL_inj : ∀ {ks js : List Tm}, vL ks = vL js → ks = js
  | [], [], _ => rfl
  | [], _ :: _, h => by simp [vL] at h
  | _ :: _, [], h => by simp [vL] at h
  | t :: r, u :: s, h => by
    simp only [vL, List.cons.injEq] at h
    rw [Tm.v_inj h.1, vL_inj h.2]
end
theorem Tm.pure (t : Tm) : t.v.pure = true := by cases t; rfl
theorem Tm.own (t : Tm) : t.v.own = false := by cases t; rfl
theorem Tm.keyOk {t : Tm} (h : t.good = true) (d : t.ht ≤ 8) : keyOk t.v := ⟨Tm.srt h, Tm.key t, by rw [Tm.dep]; exact d, by cases t; exact ⟨_, rfl⟩⟩
theorem Tm.eqv {t u : Tm} (ht : t.good = true) (hu : u.good = true) : PyData.eqv t.v.py u.v.py = true ↔ t = u := by
  rw [eqv_srt (Tm.srt ht) (Tm.srt hu)]
  exact ⟨Tm.v_inj, fun h => h ▸ rfl⟩
theorem Tm.cmp {t u : Tm} (ht : t.good = true) (hu : u.good = true) : (cmpV t.v u.v == .eq) = true ↔ t = u := by
  rw [← eqv_cmp (Tm.srt ht) (Tm.srt hu)]; exact Tm.eqv ht hu
mutual
theorem okV_tm : ∀ {t u : Tm}, okV t.v u.v = true
  | .mk f ks, .mk g js => by
    exact okL_of (x := .str f) (y := .str g) rfl (okL_tm (ks := ks) (js := js))
theorem okL_tm : ∀ {ks js : List Tm}, okL (vL ks) (vL js) = true
  | [], [] => rfl
  | [], _ :: _ => rfl
  | _ :: _, [] => rfl
  | t :: r, u :: s => by
    exact okL_of (okV_tm (t := t) (u := u)) (okL_tm (ks := r) (js := s))
end

mutual
noncomputable def parts : Tm → List (List Nat × Tm)
  | .mk f ks => ([], .mk f ks) :: partsK 0 ks
noncomputable def partsK : Nat → List Tm → List (List Nat × Tm)
  | _, [] => []
  | k, t :: r => (parts t).map (fun p => (k :: p.1, p.2)) ++ partsK (k + 1) r
end
mutual
noncomputable def subs : Tm → List Tm
  | .mk f ks => .mk f ks :: subsL ks
noncomputable def subsL : List Tm → List Tm
  | [] => []
  | t :: r => subs t ++ subsL r
end
mutual
theorem parts_snd : ∀ t : Tm, (parts t).map (·.2) = subs t
  | .mk f ks => by simp [parts, subs, partsK_snd ks 0]
theorem partsK_snd : ∀ (ks : List Tm) (k : Nat), (partsK k ks).map (·.2) = subsL ks
  | [], _ => rfl
  | t :: r, k => by
    simp only [partsK, subsL, List.map_append, List.map_map, partsK_snd r (k + 1), ← parts_snd t]
    rfl
end
mutual
theorem subs_len : ∀ t : Tm, (subs t).length = t.size
  | .mk f ks => by simp [subs, Tm.size, subsL_len ks]
theorem subsL_len : ∀ ks : List Tm, (subsL ks).length = sizeL ks
  | [] => rfl
  | t :: r => by simp [subsL, sizeL, subs_len t, subsL_len r]
end
theorem parts_len (t : Tm) : (parts t).length = t.size := by rw [← subs_len, ← parts_snd, List.length_map]
theorem partsK_len (ks : List Tm) (k : Nat) : (partsK k ks).length = sizeL ks := by rw [← subsL_len, ← partsK_snd ks k, List.length_map]
noncomputable def pathV (p : List Nat) : V := .tup (p.map fun (i : Nat) => .int (i : Int))
noncomputable def partV (p : List Nat × Tm) : V := .tup [pathV p.1, p.2.v]
noncomputable def keyT (t : Tm) : V := .tup [.int (t.size : Int), .tup ((subs t).map fun u => .str u.f), .tup ((subs t).map fun u => .int ((u.ks.length : Nat) : Int))]
noncomputable def ktV (t : Tm) : V := .tup [keyT t, t.v]
mutual
theorem subs_good : ∀ {t : Tm}, t.good = true → ∀ u ∈ subs t, u.good = true
  | .mk f ks, h, u, hu => by
    rcases List.mem_cons.mp hu with rfl | hu
    · exact h
    · exact subsL_good (Bool.and_eq_true_iff.mp (show (_ && _) = true from h)).2 u hu
theorem subsL_good : ∀ {ks : List Tm}, goodL ks = true → ∀ u ∈ subsL ks, u.good = true
  | [], _, u, hu => nomatch hu
  | t :: r, h, u, hu => by
    have h' := Bool.and_eq_true_iff.mp (show (_ && _) = true from h)
    rcases List.mem_append.mp hu with hu | hu
    · exact subs_good h'.1 u hu
    · exact subsL_good h'.2 u hu
end
theorem Tm.good_f {t : Tm} (h : t.good = true) : okName t.f = true := by cases t; exact (Bool.and_eq_true_iff.mp (show (_ && _) = true from h)).1
theorem Tm.good_ks {t : Tm} (h : t.good = true) : goodL t.ks = true := by cases t; exact (Bool.and_eq_true_iff.mp (show (_ && _) = true from h)).2
theorem srtL_map {α : Type} {f : α → V} {l : List α} (h : ∀ x ∈ l, (f x).srt = true) : srtL (l.map f) = true := by
  rw [srtL_iff]; intro y hy; obtain ⟨x, hx, rfl⟩ := List.mem_map.mp hy; exact h x hx
theorem depL_map {α : Type} {f : α → V} {n : Nat} : ∀ {l : List α}, (∀ x ∈ l, (f x).dep ≤ n) → depL (l.map f) ≤ n
  | [], _ => Nat.zero_le _
  | x :: r, h => Nat.max_le.mpr ⟨h x List.mem_cons_self, depL_map fun y hy => h y (List.mem_cons_of_mem _ hy)⟩
theorem keyT_srt {t : Tm} (h : t.good = true) : (keyT t).srt = true := by
  have h1 : srtL ((subs t).map fun u => V.str u.f) = true := srtL_map fun u hu => okName_srt (Tm.good_f (subs_good h u hu))
  have h2 : srtL ((subs t).map fun u => V.int ((u.ks.length : Nat) : Int)) = true := srtL_map fun u hu => rfl
  simp [keyT, V.srt, srtL, h1, h2]
theorem keyT_dep (t : Tm) : (keyT t).dep ≤ 2 := by
  have h1 : depL ((subs t).map fun u => V.str u.f) ≤ 0 := depL_map fun u hu => Nat.le_refl _
  have h2 : depL ((subs t).map fun u => V.int ((u.ks.length : Nat) : Int)) ≤ 0 := depL_map fun u hu => Nat.le_refl _
  show max 0 (max (depL _ + 1) (max (depL _ + 1) 0)) + 1 ≤ 2
  (first | lia | omega)
theorem ktV_srt {t : Tm} (h : t.good = true) : (ktV t).srt = true := by simp [ktV, V.srt, srtL, keyT_srt h, Tm.srt h]
theorem ktV_dep (t : Tm) : (ktV t).dep ≤ max 2 t.ht + 1 := by
  have := keyT_dep t
  show max (keyT t).dep (max t.v.dep 0) + 1 ≤ _
  rw [Tm.dep]; (first | lia | omega)
theorem okL_all : ∀ {xs ys : List V}, (∀ x ∈ xs, ∀ y ∈ ys, okV x y = true) → okL xs ys = true
  | [], [], _ => rfl
  | [], _ :: _, _ => rfl
  | _ :: _, [], _ => rfl
  | x :: xs, y :: ys, h => okL_of (h x List.mem_cons_self y List.mem_cons_self) (okL_all fun a ha b hb => h a (List.mem_cons_of_mem _ ha) b (List.mem_cons_of_mem _ hb))
theorem okL_map {α β : Type} {f : α → V} {g : β → V} (h : ∀ a b, okV (f a) (g b) = true) {l : List α} {m : List β} : okL (l.map f) (m.map g) = true := okL_all fun x hx y hy => by
  obtain ⟨a, _, rfl⟩ := List.mem_map.mp hx
  obtain ⟨b, _, rfl⟩ := List.mem_map.mp hy
  exact h a b
theorem okV_key (t u : Tm) : okV (keyT t) (keyT u) = true :=
  okL_of (x := .int _) (y := .int _) rfl (okL_of (okL_map fun _ _ => rfl) (okL_of (okL_map fun _ _ => rfl) rfl))
theorem okV_kt (t u : Tm) : okV (ktV t) (ktV u) = true := by
  exact okL_of (okV_key t u) (okL_of okV_tm rfl)

noncomputable def insT (t : Tm) : List Tm → List Tm
  | [] => [t]
  | u :: r => if leV (ktV t) (ktV u) then t :: u :: r else u :: insT t r
noncomputable def ordT : List Tm → List Tm
  | [] => []
  | t :: r => insT t (ordT r)
theorem insT_v (t : Tm) : ∀ l : List Tm, insV (ktV t) (l.map ktV) = (insT t l).map ktV
  | [] => rfl
  | u :: r => by
    rw [List.map_cons]; unfold insV insT
    split
    · rfl
    · rw [insT_v t r]; rfl
theorem ordT_v : ∀ l : List Tm, sortV (l.map ktV) = (ordT l).map ktV
  | [] => rfl
  | t :: r => by
    rw [List.map_cons]; unfold sortV ordT
    rw [ordT_v r, insT_v]
theorem ktV_inj {t u : Tm} (h : ktV t = ktV u) : t = u := by
  unfold ktV at h
  simp only [V.tup.injEq, List.cons.injEq] at h
  exact Tm.v_inj h.2.1
theorem insT_perm (t : Tm) : ∀ l : List Tm, (insT t l).Perm (t :: l)
  | [] => .refl _
  | u :: r => by
    unfold insT; split
    · exact .refl _
    · exact ((insT_perm t r).cons u).trans (.swap t u r)
theorem ordT_perm : ∀ l : List Tm, (ordT l).Perm l
  | [] => .refl _
  | t :: r => (insT_perm t (ordT r)).trans ((ordT_perm r).cons t)
theorem map_inj {α β : Type} {f : α → β} (hf : ∀ x y, f x = f y → x = y) : ∀ {a b : List α}, a.map f = b.map f → a = b
  | [], [], _ => rfl
  | [], _ :: _, h => by simp at h
  | _ :: _, [], h => by simp at h
  | x :: a, y :: b, h => by
    simp only [List.map_cons, List.cons.injEq] at h
    rw [hf _ _ h.1, map_inj hf h.2]
theorem ordT_congr {a b : List Tm} (h : ∀ t ∈ a, t.good = true) (p : a.Perm b) : ordT a = ordT b := by
  apply map_inj (f := ktV) fun x y => ktV_inj
  rw [← ordT_v, ← ordT_v]
  exact sortV_congr (fun y hy => by obtain ⟨t, ht, rfl⟩ := List.mem_map.mp hy; exact ktV_srt (h t ht)) (p.map ktV)
theorem ordT_idem {a : List Tm} (h : ∀ t ∈ a, t.good = true) : ordT (ordT a) = ordT a := ordT_congr (fun t ht => h t ((ordT_perm a).mem_iff.mp ht)) (ordT_perm a)
theorem ordT_len (l : List Tm) : (ordT l).length = l.length := (ordT_perm l).length_eq
theorem sortOk_kt {l : List Tm} (h : ∀ t ∈ l, t.good = true) (d : ∀ t ∈ l, t.ht ≤ 100) (n : l.length < 64) : SortOk (l.map ktV) where
  srt := fun x hx => by obtain ⟨t, ht, rfl⟩ := List.mem_map.mp hx; exact ktV_srt (h t ht)
  ok := fun x hx y hy => by
    obtain ⟨t, ht, rfl⟩ := List.mem_map.mp hx
    obtain ⟨u, hu, rfl⟩ := List.mem_map.mp hy
    exact okV_kt t u
  fst := .inl fun x hx => by obtain ⟨t, ht, rfl⟩ := List.mem_map.mp hx; exact ⟨_, _, rfl⟩
  dep := fun x hx => by
    obtain ⟨t, ht, rfl⟩ := List.mem_map.mp hx
    have := ktV_dep t
    have := d t ht
    (first | lia | omega)
  len := by rw [List.length_map]; exact n
end Mine
namespace Mine
noncomputable def theView : Program := view PySem.Challenge.pw_sa0026_01 [1, 2, 3, 5, 6, 7, 8, 9, 11, 12, 13, 14, 15, 16, 18, 19, 20, 21, 22, 23]
noncomputable def topQ (p : Program) (w : World) (N : Nat) : Option Shared :=
  (Option.bind (PySem.W.Fast.tw10274390034422433532 PySem.W.Fast.tw14364793385576792824 (opening p) w N (PySem.W.Fast.tw1435165496053646825 (opening p)).1 (PySem.W.Fast.tw1435165496053646825 (opening p)).2) (PySem.W.Fast.tw14289696077712309145 p)).bind fun s₀ =>
      match s₀.heap.isNs mainGlobals && s₀.gens.size == 0 with
      | true => (PySem.W.Fast.tw14082659384304107361 PySem.W.Fast.tw14364793385576792824 p w s₀.heap.objs.size (s₀.heap.nsMap mainGlobals "__annotations__") N s₀ (topStub p)).bind fun s₁ => match staticsOk (importedModules p.main.body) s₀.heap s₁.heap && namesBound p s₁.heap && gensDone s₁ && laidKept s₀.heap s₁.heap with
        | true => some s₁
        | false => none
      | false => none
theorem topQ_eq (p : Program) (w : World) (N : Nat) : openEnds treeTable p w N = topQ p w N := by
  unfold openEnds fencedOpening topQ
  rw [PySem.W.Fast.te10274390034422433532, PySem.W.Fast.te1435165496053646825, PySem.W.Fast.te14289696077712309145, PySem.W.Fast.te14364793385576792824]
  congr 1
  funext s₀
  unfold topFrom
  rw [PySem.W.Fast.te14082659384304107361]
  rfl
theorem left_quick {p p' q : Program} {loose : List Str} {Xt : Shared → Bool} {α : Type} {Yf : Shared → α} {Ya : World → α} {N : Nat} {g0 : Bool} (ep : p' = p)
    (h : ∀ w : World, (topQ p w N).map (fun s => (PySem.W.Fast.tw4187177175401517315 q loose (importedModules p.main.body) Xt g0 s, Yf s)) = some (openGood q loose, Ya w)) : LeftO p' q loose Xt Yf Ya N g0 := by
  rw [ep]
  intro w
  have a := h w
  rw [← PySem.W.Fast.te4187177175401517315] at a
  rw [topQ_eq]
  cases e : topQ p w N with
  | none => rw [e] at a; cases a
  | some s =>
    rw [e] at a
    have b := Prod.mk.inj (Option.some.inj a)
    simp only [Option.map_some]
    rw [b.1, b.2]
theorem said1 : PySem.Challenge.rw_sa0026_01.wellSaid = true := by kernel_rfl
theorem said0 (h : PySem.Challenge.rw_sa0026_01.row.wellSaid = true → PySem.Challenge.rw_sa0026_01.row.Holds) : PySem.Challenge.rw_sa0026_01.Holds := holds_law said1 h
local macro_rules | `(tactic| o_head $H) => `(tactic| assumption)
theorem kk (h : PySem.Challenge.rw_sa0026_01.row.Holds) : PySem.Challenge.rw_sa0026_01.row.Holds := by k_head
noncomputable def prm0 : Params := { strHash := fun _ => 0, shareClass := fun _ => 0, mergeTok := fun t => t, idOf := fun _ => 0, idOfShared := fun _ _ => 0, followText := fun _ => false, idOfImm := fun _ => 0 }
noncomputable abbrev theFrag : Params → Frag := kk.heap_1
noncomputable def theAddrs : List Addr := (theFrag prm0).map (·.1)
theorem addrs_eq : ∀ P, theAddrs = (theFrag P).map (·.1) := fun P => by kernel_rfl
noncomputable abbrev theHook : Hook := kHook theFrag theAddrs addrs_eq
theorem run (w : World) : (topQ PySem.Challenge.pw_sa0026_01 w 3600).map (fun s => (PySem.W.Fast.tw4187177175401517315 theView [] (importedModules PySem.Challenge.pw_sa0026_01.main.body) (fun s => xlAt theView [] s && recOk [] s) true s, theHook.obs s)) = some (openGood theView [], theHook.val w) := by kernel_rfl
theorem left : LeftO PySem.Challenge.rw_sa0026_01.row.prog theView [] (fun s => xlAt theView [] s && recOk [] s) theHook.obs theHook.val 3600 := left_quick (p := PySem.Challenge.pw_sa0026_01) rfl run
end Mine
namespace Mine

noncomputable abbrev cx1 (w : World) (mg mb : Str → Option Value) (T : Option Addr) (cells : List V) : Cx :=
  cxOf PySem.Challenge.rw_sa0026_01.row.prog w (Mine.theFrag w.params) Mine.theView (looseW Mine.theView []) mg mb T 201 cells "cells" "at"

theorem FnSpec.le {C : Cx} {n m : Nat} {f : Value} {xs : List V} {τ : Option Nat} {y : V} {τ' : Option Nat} (h : FnSpec C n f xs τ y τ') (l : n ≤ m) : FnSpec C m f xs τ y τ' := fun A R => h A (R.le l)
theorem lk {x z : Str} {y w : V} {σ : List (Str × V)} (e : σ.lookup z = some w) (h : (z == x) = false) : ((x, y) :: σ).lookup z = some w := by
  rw [List.lookup_cons, h]; exact e
theorem isFun_of {C : Cx} {a : Addr} {oc : Value} {od : Option Addr} {fd : FuncData} {osl : Array (Option Value)} (e : C.K.lookup a = some ⟨oc, od, .func fd, osl⟩) : IsFun C a := fun h b => ⟨_, fd, C.kin h b a _ e, rfl⟩

section
variable {w : World} {mg mb : Str → Option Value} {T : Option Addr} {cells : List V} {τ : Option Nat} {n : Nat}
theorem g_is_variable : GlobAt (cx1 w mg mb T cells) "is_variable" (.ref 74) := globAt_of rfl
theorem g_parts : GlobAt (cx1 w mg mb T cells) "parts" (.ref 89) := globAt_of rfl
theorem g_key_of : GlobAt (cx1 w mg mb T cells) "key_of" (.ref 94) := globAt_of rfl
theorem g_MOST : GlobAt (cx1 w mg mb T cells) "MOST_BAGS" (.int 4096 294) := globAt_of rfl
theorem g_in_order_of : GlobAt (cx1 w mg mb T cells) "in_order_of" (.ref 99) := globAt_of rfl
theorem g_without : GlobAt (cx1 w mg mb T cells) "without" (.ref 106) := globAt_of rfl
theorem g_want_few : GlobAt (cx1 w mg mb T cells) "want_few" (.ref 113) := globAt_of rfl
theorem g_Bags : GlobAt (cx1 w mg mb T cells) "Bags" (.ref 201) := globAt_of rfl
theorem g_pick : GlobAt (cx1 w mg mb T cells) "_law_pick" (.ref 213) := globAt_of rfl
theorem g_drawn : GlobAt (cx1 w mg mb T cells) "_law_drawn" (.ref 218) := globAt_of rfl
theorem g_term : GlobAt (cx1 w mg mb T cells) "_law_term" (.ref 223) := globAt_of rfl
theorem g_due : GlobAt (cx1 w mg mb T cells) "_law_due" (.ref 228) := globAt_of rfl
theorem g_plain : GlobAt (cx1 w mg mb T cells) "_law_plain" (.ref 206) := globAt_of rfl
theorem b_len : BuiltAt (cx1 w mg mb T cells) "len" (.builtin "len") := builtAt_of rfl (by decide) (by decide +kernel)
theorem b_tuple : BuiltAt (cx1 w mg mb T cells) "tuple" (.type "tuple") := builtAt_of rfl (by decide) (by decide +kernel)
theorem b_list : BuiltAt (cx1 w mg mb T cells) "list" (.type "list") := builtAt_of rfl (by decide) (by decide +kernel)
theorem b_dict : BuiltAt (cx1 w mg mb T cells) "dict" (.type "dict") := builtAt_of rfl (by decide) (by decide +kernel)
theorem b_range : BuiltAt (cx1 w mg mb T cells) "range" (.type "range") := builtAt_of rfl (by decide) (by decide +kernel)
theorem b_enumerate : BuiltAt (cx1 w mg mb T cells) "enumerate" (.type "enumerate") := builtAt_of rfl (by decide) (by decide +kernel)
theorem b_zip : BuiltAt (cx1 w mg mb T cells) "zip" (.type "zip") := builtAt_of rfl (by decide) (by decide +kernel)
theorem b_sorted : BuiltAt (cx1 w mg mb T cells) "sorted" (.builtin "sorted") := builtAt_of rfl (by decide) (by decide +kernel)
theorem opsAt : OpsAt (cx1 w mg mb T cells) := ⟨by rfl, by rfl, _, rfl, by rfl⟩
theorem m_is_bag : MethAt (cx1 w mg mb T cells) "is_bag" 139 := ⟨by rfl, by rfl, by rfl, by decide, isFun_of rfl⟩
theorem m_kids : MethAt (cx1 w mg mb T cells) "kids" 144 := ⟨by rfl, by rfl, by rfl, by decide, isFun_of rfl⟩
theorem m_made : MethAt (cx1 w mg mb T cells) "made" 149 := ⟨by rfl, by rfl, by rfl, by decide, isFun_of rfl⟩
theorem m_normal : MethAt (cx1 w mg mb T cells) "normal" 154 := ⟨by rfl, by rfl, by rfl, by decide, isFun_of rfl⟩
theorem m_are_like : MethAt (cx1 w mg mb T cells) "are_like" 161 := ⟨by rfl, by rfl, by rfl, by decide, isFun_of rfl⟩
theorem m_nested : MethAt (cx1 w mg mb T cells) "nested" 166 := ⟨by rfl, by rfl, by rfl, by decide, isFun_of rfl⟩
theorem m_extended : MethAt (cx1 w mg mb T cells) "extended" 173 := ⟨by rfl, by rfl, by rfl, by decide, isFun_of rfl⟩
theorem m_shared_out : MethAt (cx1 w mg mb T cells) "shared_out" 178 := ⟨by rfl, by rfl, by rfl, by decide, isFun_of rfl⟩
theorem m_taken : MethAt (cx1 w mg mb T cells) "taken" 183 := ⟨by rfl, by rfl, by rfl, by decide, isFun_of rfl⟩
theorem m_matched : MethAt (cx1 w mg mb T cells) "matched" 188 := ⟨by rfl, by rfl, by rfl, by decide, isFun_of rfl⟩
theorem mkAt : MakeAt (cx1 w mg mb T cells) 132 := {
  mks := by rfl
  kp := by rfl
  init := by rfl
  ty := by rfl
  st := by rfl
  po := by rfl
  tk := by rfl
  hh := by rfl
  fn := ⟨_, _, _, _, _, fnData_of rfl rfl rfl rfl rfl rfl rfl rfl rfl (bindL2 rfl fun _ _ => rfl) rfl (by decide), fun L cs => ⟨rfl, rfl, rfl⟩⟩ }
end
end Mine
namespace Mine

theorem okn_head {x : Str} (h : okName x = true) : PyData.eqv (V.str (head1 x)).py (V.str "?").py = false := by
  have hm : x ∈ okNames := by simpa [okName] using h
  have all : ∀ x ∈ okNames, PyData.eqv (V.str (head1 x)).py (V.str "?").py = false := by decide +kernel
  exact all x hm
theorem okn_fine {x : Str} (h : okName x = true) : (V.str (head1 x)).fine = true := by
  have hm : x ∈ okNames := by simpa [okName] using h
  have all : ∀ x ∈ okNames, (V.str (head1 x)).fine = true := by decide +kernel
  exact all x hm
theorem okn_slice {x : Str} (h : okName x = true) : (slicePicked x .none (some (1, 0)) .none).length = min 1 x.length := by
  have hm : x ∈ okNames := by simpa [okName] using h
  have all : ∀ x ∈ okNames, (slicePicked x .none (some (1, 0)) .none).length = min 1 x.length := by decide +kernel
  exact all x hm
theorem okn_len {x : Str} (h : okName x = true) : x.length ≤ sizeLine := by
  have hm : x ∈ okNames := by simpa [okName] using h
  have all : ∀ x ∈ okNames, x.length ≤ 10 := by decide +kernel
  have := all x hm
  rw [sizeLine_eq]; (first | lia | omega)

structure Sm (t : Tm) : Prop where
  good : t.good = true
  size : t.size ≤ 60
  ht : t.ht ≤ 40
theorem Tm.v_eq (t : Tm) : t.v = .tup (.str t.f :: vL t.ks) := by cases t; rfl
theorem Sm.kid {t u : Tm} (h : Sm t) (hu : u ∈ t.ks) : Sm u := by
  obtain ⟨f, ks⟩ := t
  have h1 := h.size
  have h2 := h.ht
  have : u ∈ ks := hu
  have a := sizeL_mem this
  have b := htL_mem this
  exact ⟨goodL_iff.mp (Tm.good_ks h.good) u hu, by simp only [Tm.size] at h1; (first | lia | omega), by simp only [Tm.ht] at h2; (first | lia | omega)⟩
theorem Sm.len {t : Tm} (h : Sm t) : t.ks.length ≤ 60 := by
  obtain ⟨f, ks⟩ := t
  have h1 := h.size
  have := len_le_sizeL ks
  simp only [Tm.size] at h1
  show ks.length ≤ 60
  (first | lia | omega)

section
variable {w : World} {mg mb : Str → Option Value} {T : Option Addr} {cells : List V} {τ : Option Nat} {n : Nat}

theorem spec_is_variable {t : Tm} (h : Sm t) : FnSpec (cx1 w mg mb T cells) (n + 1) (.ref 74) [t.v] τ (.bool false) τ := by
  have D : FnData (cx1 w mg mb T cells) 74 _ _ ["t"] := fnData_of rfl rfl rfl rfl rfl rfl rfl rfl rfl (bindL1 rfl fun _ => rfl) rfl (by decide)
  have hl : (V.str t.f :: vL t.ks).length ≤ sizeLine := by
    have := h.len
    rw [List.length_cons, vL_length, sizeLine_eq]; (first | lia | omega)
  have e : V.bool false = V.bool (PyData.eqv (V.int ((V.str t.f :: vL t.ks).length : Int)).py (V.int 1).py && false) := by rw [Bool.and_false]
  rw [Tm.v_eq, e]
  refine fn_spec D rfl (by simp [V.own]) fun L cs => ?_
  have gf := Tm.good_f h.good
  refine Ex_cons (Ex1_return (Ev_and2 (Ev_cmp (Ev_builtin b_len (Bu_len rfl hl) (EvL_cons (Ev_name rfl rfl) EvL_nil) rfl) Ev_int (Cmp_eq rfl rfl (by simp [V.py, PyData.depth]) rfl))
    (fun _ => Ev_cmp (Ev_head1 (Ev_at0 (Ev_name rfl rfl) rfl) (okn_slice gf) (okn_len gf)) Ev_str (Cmp_eq (okn_fine gf) (by decide +kernel) (by simp [V.py, PyData.depth]) (okn_head gf))) fun _ => rfl) rfl ⟨rfl, rfl⟩)

end

theorem pure_tup {xs : List V} : (V.tup xs).pure = true := rfl
theorem pure_lst {xs : List V} : (V.lst xs).pure = true := rfl
theorem pure_int {i : Int} : (V.int i).pure = true := rfl
theorem pure_str {i : Str} : (V.str i).pure = true := rfl
theorem pure_bool {i : Bool} : (V.bool i).pure = true := rfl
theorem own_tup {xs : List V} : (V.tup xs).own = false := rfl
theorem own_lst {xs : List V} : (V.lst xs).own = false := rfl
theorem own_dct {xs : List (V × V)} : (V.dct xs).own = false := rfl
theorem own_int {i : Int} : (V.int i).own = false := rfl
theorem own_str {i : Str} : (V.str i).own = false := rfl
theorem own_self {i : V} : (V.self i).own = false := rfl
theorem Ev_name' {C : Cx} {n : Nat} {env : Env} {σ : List (Str × V)} {τ : Option Nat} {x pos} {y y' : V} (hy : y = y') (e : σ.lookup x = some y) (i : isVar env x = true) (hd : (x == ("__debug__" : Str)) = false := by decide) (hc : (x == ("__classdict__" : Str)) = false := by decide) :
    Ev C n (.Name x pos) env σ τ y' τ := hy ▸ Ev_name e i hd hc

section
variable {C : Cx} {n : Nat} {env : Env} {σ σ' : List (Str × V)} {τ τ₁ τ₂ τ₃ : Option Nat}
theorem CTurn_name {elt : PySem.Expr} {gens : List Comprehension} {scope : Scope} {pos : Pos} {d : Nat} {x : Str} {p : Pos} {ifs : List PySem.Expr} {y : V} {zs : List V} (he : CAct C n elt gens scope pos d ifs env ((x, y) :: σ) τ zs τ₁)
    (h1 : ∀ L cs, ownVar (cenvOf scope env L cs) x = true := by intro _ _; rfl) (h2 : wvOf scope x = true := by rfl) (h3 : σ.lookup x = Option.none := by rfl) : CTurn C n elt gens scope pos d (.Name x p) ifs env σ y τ zs τ₁ :=
  ⟨[(x, y)], .name, by intro b hb; simp only [List.mem_cons, List.not_mem_nil, or_false] at hb; subst hb; exact ⟨h1, h2, h3⟩, fun _ => he⟩
theorem CTurn_pair {elt : PySem.Expr} {gens : List Comprehension} {scope : Scope} {pos : Pos} {d : Nat} {a b : Str} {p q r : Pos} {k : Nat} {ifs : List PySem.Expr} {y1 y2 : V} {zs : List V} (he : CAct C n elt gens scope pos d ifs env ((b, y2) :: (a, y1) :: σ) τ zs τ₁)
    (h1 : ∀ L cs, ownVar (cenvOf scope env L cs) a = true := by intro _ _; rfl) (h2 : wvOf scope a = true := by rfl) (h3 : σ.lookup a = Option.none := by rfl)
    (h1' : ∀ L cs, ownVar (cenvOf scope env L cs) b = true := by intro _ _; rfl) (h2' : wvOf scope b = true := by rfl) (h3' : σ.lookup b = Option.none := by rfl) : CTurn C n elt gens scope pos d (.Tuple [.Name a p, .Name b q] k r) ifs env σ (.tup [y1, y2]) τ zs τ₁ :=
  ⟨[(b, y2), (a, y1)], .pair, by intro c hc; simp only [List.mem_cons, List.not_mem_nil, or_false] at hc; rcases hc with rfl | rfl; exact ⟨h1', h2', h3'⟩; exact ⟨h1, h2, h3⟩, fun _ => he⟩
theorem FTurn_name {x : Str} {p : Pos} {body : List Stmt} {y : V} {P : Out → Prop} (h : Ex C n body env ((x, y) :: σ) τ P) (h1 : ownVar env x = true := by rfl) : FTurn C n (.Name x p) body env y σ τ P :=
  ⟨[(x, y)], .name, by intro b hb; simp only [List.mem_cons, List.not_mem_nil, or_false] at hb; subst hb; exact h1, fun _ => h⟩
theorem FTurn_pair {a b : Str} {p q r : Pos} {k : Nat} {body : List Stmt} {y1 y2 : V} {P : Out → Prop} (h : Ex C n body env ((b, y2) :: (a, y1) :: σ) τ P) (h1 : ownVar env a = true := by rfl) (h2 : ownVar env b = true := by rfl) : FTurn C n (.Tuple [.Name a p, .Name b q] k r) body env (.tup [y1, y2]) σ τ P :=
  ⟨[(b, y2), (a, y1)], .pair, by intro c hc; simp only [List.mem_cons, List.not_mem_nil, or_false] at hc; rcases hc with rfl | rfl; exact h2; exact h1, fun _ => h⟩
theorem EvN_comp1 {elt t iter : PySem.Expr} {ifs : List PySem.Expr} {scope : Scope} {pos : Pos} {tt : Bool} {items ys : List V}
    (hx : IterE C n iter env σ τ tt items τ₁) (fl : Filt scope σ σ')
    (ht : Turns (CTurn C n elt [⟨t, iter, ifs, 0⟩] scope pos 0 t ifs env σ') items τ₁ ys τ₂) (hl : ys.length ≤ sizeLine)
    (ok : compOk scope env = true := by rfl) (kd : scope.kind = .function := by rfl) (htk : tgtOk tt t = true := by rfl) (hi : ifs.length ≤ 1 := by decide)
    (hs : ∀ x, foldedSetIterable iter env x = pure x := by intro _; rfl) : EvN C n (.ListComp elt [⟨t, iter, ifs, 0⟩] scope pos) env σ τ ys τ₂ :=
  EvN_comp hx fl ht hl ok kd htk hi (fun g' h => by simp at h) hs
theorem EvN_comp2 {elt t iter t' iter' : PySem.Expr} {ifs' : List PySem.Expr} {scope : Scope} {pos : Pos} {tt : Bool} {items ys : List V}
    (hx : IterE C n iter env σ τ tt items τ₁) (fl : Filt scope σ σ')
    (ht : Turns (CTurn C n elt [⟨t, iter, [], 0⟩, ⟨t', iter', ifs', 0⟩] scope pos 0 t [] env σ') items τ₁ ys τ₂) (hl : ys.length ≤ sizeLine)
    (ok : compOk scope env = true := by rfl) (kd : scope.kind = .function := by rfl) (htk : tgtOk tt t = true := by rfl)
    (hs : ∀ x, foldedSetIterable iter env x = pure x := by intro _; rfl) : EvN C n (.ListComp elt [⟨t, iter, [], 0⟩, ⟨t', iter', ifs', 0⟩] scope pos) env σ τ ys τ₂ :=
  EvN_comp hx fl ht hl ok kd htk (Nat.zero_le _) (fun g' h => by simp at h; subst h; rfl) hs
theorem CAct_nest1 {elt t t' iter iter' : PySem.Expr} {ifs' : List PySem.Expr} {scope : Scope} {pos : Pos} {tt : Bool} {items ys : List V}
    (hit : ∀ L cs, IterE C n iter' (cenvOf scope env L cs) σ τ tt items τ₁) (ht : Turns (CTurn C n elt [⟨t, iter, [], 0⟩, ⟨t', iter', ifs', 0⟩] scope pos 1 t' ifs' env σ) items τ₁ ys τ₂)
    (hi : ifs'.length ≤ 1 := by decide) (htk : tgtOk tt t' = true := by rfl) (hs : ∀ e x, foldedSetIterable iter' e x = pure x := by intro _ _; rfl) :
    CAct C n elt [⟨t, iter, [], 0⟩, ⟨t', iter', ifs', 0⟩] scope pos 0 [] env σ τ ys τ₂ := CAct_nest hit ht rfl (fun g' h => by simp at h) hi htk hs
end

mutual
theorem parts_path : ∀ (t : Tm), ∀ p ∈ parts t, p.1.length < t.ht
  | .mk f ks, p, hp => by
    rcases List.mem_cons.mp hp with rfl | hp
    · exact Nat.succ_pos _
    · have := partsK_path ks 0 p hp
      simp only [Tm.ht]; (first | lia | omega)
theorem partsK_path : ∀ (ks : List Tm) (k : Nat), ∀ p ∈ partsK k ks, p.1.length ≤ htL ks
  | [], _, p, hp => nomatch hp
  | t :: r, k, p, hp => by
    rcases List.mem_append.mp hp with hp | hp
    · obtain ⟨q, hq, rfl⟩ := List.mem_map.mp hp
      have := parts_path t q hq
      show q.1.length + 1 ≤ max t.ht (htL r)
      (first | lia | omega)
    · have := partsK_path r (k + 1) p hp
      show p.1.length ≤ max t.ht (htL r)
      (first | lia | omega)
end
theorem FRun_ind {B : V → List (Str × V) → Option Nat → (Out → Prop) → Prop} {τ : Option Nat} {P : Out → Prop} (I : Nat → List (Str × V) → Prop) : ∀ {items : List V} {σ : List (Str × V)}, I 0 σ →
    (∀ i x σ, items[i]? = some x → I i σ → ∀ P' : Out → Prop, (∀ σ', I (i + 1) σ' → P' (.next σ' τ)) → B x σ τ P') → (∀ σ', I items.length σ' → P (.next σ' τ)) → FRun B items σ τ P := by
  intro items σ h0 step fin
  have go : ∀ (rest : List V) (i : Nat) (σ : List (Str × V)), rest = items.drop i → i ≤ items.length → I i σ → FRun B rest σ τ P := by
    intro rest
    induction rest with
    | nil =>
      intro i σ hr hi hI
      have : i = items.length := by
        have := congrArg List.length hr
        simp at this; (first | lia | omega)
      subst this
      exact fin σ hI
    | cons x r ih =>
      intro i σ hr hi hI
      have hlt : i < items.length := by
        rcases Nat.lt_or_ge i items.length with h | h
        · exact h
        · rw [List.drop_eq_nil_of_le h] at hr; cases hr
      rw [List.drop_eq_getElem_cons hlt] at hr
      injection hr with e1 e2
      show B x σ τ _
      exact step i x σ (by rw [List.getElem?_eq_getElem hlt, e1]) hI _ fun σ' h' => ih (i + 1) σ' e2 hlt h'
  exact go items 0 σ rfl (Nat.zero_le _) h0
theorem Turns.over {α : Type} {T' : V → Option Nat → List V → Option Nat → Prop} {g h : α → V} {τ : Option Nat} : ∀ {l : List α}, (∀ p ∈ l, T' (g p) τ [h p] τ) → Turns T' (l.map g) τ (l.map h) τ
  | [], _ => ⟨rfl, rfl⟩
  | x :: r, hx => ⟨[h x], r.map h, τ, hx x List.mem_cons_self, Turns.over fun y hy => hx y (List.mem_cons_of_mem _ hy), rfl⟩
theorem Turns.flat {α : Type} {T' : V → Option Nat → List V → Option Nat → Prop} {g : α → V} {h : α → List V} {τ : Option Nat} : ∀ {l : List α}, (∀ p ∈ l, T' (g p) τ (h p) τ) → Turns T' (l.map g) τ (l.flatMap h) τ
  | [], _ => ⟨rfl, rfl⟩
  | x :: r, hx => ⟨h x, r.flatMap h, τ, hx x List.mem_cons_self, Turns.flat fun y hy => hx y (List.mem_cons_of_mem _ hy), by simp⟩
theorem partsK_app : ∀ (a b : List Tm) (k : Nat), partsK k (a ++ b) = partsK k a ++ partsK (k + a.length) b
  | [], b, k => by simp [partsK]
  | t :: a, b, k => by simp only [List.cons_append, partsK, List.length_cons, partsK_app a b (k + 1), List.append_assoc]; rw [show k + 1 + a.length = k + (a.length + 1) by (first | lia | omega)]
theorem partsK_take {ks : List Tm} {i : Nat} {u : Tm} (h : ks[i]? = some u) : partsK 0 (ks.take (i + 1)) = partsK 0 (ks.take i) ++ (parts u).map fun p => (i :: p.1, p.2) := by
  have hi := (List.getElem?_eq_some_iff.mp h).1
  rw [List.take_add_one, h]
  show partsK 0 (ks.take i ++ [u]) = _
  rw [partsK_app]
  simp [partsK, Nat.min_eq_left (Nat.le_of_lt hi)]

section
variable {w : World} {mg mb : Str → Option Value} {T : Option Addr} {cells : List V} {τ : Option Nat} {n : Nat}
theorem spec_parts : ∀ (d : Nat) (t : Tm), t.ht ≤ d → Sm t → ∀ τ, FnSpec (cx1 w mg mb T cells) (d + n) (.ref 89) [t.v] τ (.lst ((parts t).map partV)) τ := by
  intro d
  induction d with
  | zero =>
    intro t hd
    obtain ⟨f, ks⟩ := t
    exact absurd hd (by simp only [Tm.ht]; (first | lia | omega))
  | succ d ih =>
    intro t hd h τ
    have D : FnData (cx1 w mg mb T cells) 89 _ _ ["t"] := fnData_of rfl rfl rfl rfl rfl rfl rfl rfl rfl (bindL1 rfl fun _ => rfl) rfl (by decide)
    rw [show d + 1 + n = d + n + 1 by (first | lia | omega)]
    refine fn_spec D rfl (by simp [Tm.own]) fun L cs => ?_
    have hlen := h.len
    have hsz := h.size
    have hkid : ∀ u ∈ t.ks, u.ht ≤ d := fun u hu => by
      obtain ⟨f, ks⟩ := t
      have := htL_mem (show u ∈ ks from hu)
      simp only [Tm.ht] at hd; (first | lia | omega)
    have e0 : t.v = .tup (.str t.f :: vL t.ks) := Tm.v_eq t
    refine Ex_cons (Ex1_assign_own (ys := [.tup [.tup [], t.v]]) (EvN_list (EvL_cons (Ev_tuple (ys := [.tup [], t.v]) (EvL_cons (Ev_tuple EvL_nil) (EvL_cons (Ev_name rfl rfl) EvL_nil)) (by simp [pure_tup, Tm.pure]) (by simp)) EvL_nil) (by simp [pure_tup]) (by simp)) rfl ?_)
    refine Ex_cons (Ex1_for (items := enumV 0 (vL t.ks)) (IterE_enum b_enumerate (Ev_tup1 (x := .str t.f) (xs := vL t.ks) (Ev_name' e0 rfl rfl) (by rw [vL_length, sizeLine_eq]; (first | lia | omega))) (.inr rfl) rfl) ?_)
    refine FRun_ind (I := fun i σ => σ.lookup ("found" : Str) = some (V.oL ((([], t) :: partsK 0 (t.ks.take i)).map partV))) rfl (fun i x σ hx hI P' hP' => ?_) (fun σ' hI => ?_)
    · rw [enumV_get, Nat.zero_add, vL_eq, List.getElem?_map] at hx
      cases hu : t.ks[i]? with
      | none => rw [hu] at hx; cases hx
      | some u =>
        rw [hu] at hx
        cases hx
        have um : u ∈ t.ks := List.mem_of_getElem? hu
        have su := h.kid um
        have pl : (parts u).length = u.size := parts_len u
        have us := su.size
        refine FTurn_pair (Ex_cons (Ex1_extend (τ₁ := τ) (ys := ((parts u).map fun p => (i :: p.1, p.2)).map partV) (EvN.ev (EvN_comp1 (items := (parts u).map partV) (σ' := [("k", .int (i : Int))]) (IterE.of (Ev_call g_parts (isFun_of rfl) (ih u (hkid u um) su τ) (EvL_cons (Ev_name rfl rfl) EvL_nil) rfl) IterOf_lst)
          (Filt.add Filt.nil rfl rfl rfl) ?_ ?_)) (lk (lk hI rfl) rfl) ?_ (Ex_nil ?_) rfl))
        · rw [List.map_map]
          refine Turns.over fun p hp => CTurn_pair (CAct_emit (fun L cs => Ev_tuple (ys := [pathV (i :: p.1), p.2.v]) (EvL_cons (Ev_bin (Ev_tuple (ys := [.int (i : Int)]) (EvL_cons (Ev_name rfl rfl) EvL_nil) rfl (by simp)) (Ev_name rfl rfl) (Bin_add_tup (ys := p.1.map fun (j : Nat) => .int (j : Int)) ?_)) (EvL_cons (Ev_name rfl rfl) EvL_nil)) (by simp [pure_tup, Tm.pure, pathV]) (by simp)) rfl rfl)
          have := parts_path u p hp
          have := su.ht
          rw [List.length_map, sizeLine_eq]; simp; (first | lia | omega)
        · rw [List.length_map, List.length_map, pl, sizeLine_eq]; (first | lia | omega)
        · have l1 : (partsK 0 (t.ks.take i)).length ≤ 60 := by
            rw [partsK_len, sizeL_eq]
            have e1 : (t.ks.map Tm.size).sum ≤ 60 := by
              rw [← sizeL_eq]
              obtain ⟨f, ks⟩ := t
              simp only [Tm.size] at hsz
              show sizeL ks ≤ 60
              (first | lia | omega)
            have e2 : ((t.ks.take i).map Tm.size).sum ≤ (t.ks.map Tm.size).sum := by
              rw [List.map_take]
              conv => rhs; rw [← List.take_append_drop i (t.ks.map Tm.size), List.sum_append]
              exact Nat.le_add_right _ _
            (first | lia | omega)
          simp only [List.length_map, List.length_cons, pl]; rw [sizeLine_eq]; (first | lia | omega)
        · refine hP' _ ?_
          rw [lookup_cons_eq, partsK_take hu]
          simp
    · refine Ex_freeze hI rfl (Ex_cons (Ex1_return (Ev_name (lookup_cons_eq) rfl) rfl ?_))
      have e1 : (enumV 0 (vL t.ks)).length = t.ks.length := by rw [enumV_length, vL_length]
      rw [e1, List.take_length]
      obtain ⟨f, ks⟩ := t
      exact ⟨rfl, rfl⟩
end
end Mine
namespace Mine

section
variable {C : Cx} {n : Nat} {env : Env} {σ σ' : List (Str × V)} {τ τ₁ τ₂ τ₃ : Option Nat}
theorem Ev_eq {e : PySem.Expr} {y y' : V} (h : Ev C n e env σ τ y τ₁) (q : y = y') : Ev C n e env σ τ y' τ₁ := q ▸ h
theorem Ex1_comp1 {x : Str} {p pos pos2 : Pos} {elt t iter : PySem.Expr} {ifs : List PySem.Expr} {scope : Scope} {tt : Bool} {items ys : List V} {P : Out → Prop}
    (hit : IterE C n iter env σ τ tt items τ₁) (fl : Filt scope σ σ')
    (ht : Turns (CTurn C n elt [⟨t, iter, ifs, 0⟩] scope pos2 0 t ifs env σ') items τ₁ ys τ₂) (hl : ys.length ≤ sizeLine) (h : P (.next ((x, .oL ys) :: σ) τ₂))
    (hx : ownVar env x = true := by rfl) (ok : compOk scope env = true := by rfl) (kd : scope.kind = .function := by rfl) (htk : tgtOk tt t = true := by rfl) (hi : ifs.length ≤ 1 := by decide)
    (hf : ∀ x, foldedSetIterable iter env x = pure x := by intro _; rfl)
    (hs : swapsWith (.ListComp elt [⟨t, iter, ifs, 0⟩] scope pos2) (some (.Name x p)) pos.line env = pure true := by rfl) : Ex1 C n (.Assign [.Name x p] (.ListComp elt [⟨t, iter, ifs, 0⟩] scope pos2) pos) env σ τ P :=
  Ex1_assign_comp hit fl ht hl hx h ok kd htk hi (fun g' h => by simp at h) hf hs
end

section
variable {w : World} {mg mb : Str → Option Value} {T : Option Addr} {cells : List V} {τ : Option Nat} {n : Nat}

theorem Bu_len_tm {u : Tm} (h : u.ks.length ≤ 400) : BuSpec (cx1 w mg mb T cells) n (.builtin "len") [u.v] (.int ((u.ks.length + 1 : Nat) : Int)) := by
  rw [Tm.v_eq]
  have := Bu_len (C := cx1 w mg mb T cells) (n := n) (x := .tup (.str u.f :: vL u.ks)) (xs := .str u.f :: vL u.ks) rfl (by rw [List.length_cons, vL_length, sizeLine_eq]; (first | lia | omega))
  rw [List.length_cons, vL_length] at this
  exact this

mutual
theorem subs_sm : ∀ {t : Tm}, t.good = true → t.size ≤ 60 → t.ht ≤ 40 → ∀ u ∈ subs t, Sm u
  | .mk f ks, g, s, d, u, hu => by
    rcases List.mem_cons.mp hu with rfl | hu
    · exact ⟨g, s, d⟩
    · simp only [Tm.size] at s
      simp only [Tm.ht] at d
      exact subsL_sm (Bool.and_eq_true_iff.mp (show (_ && _) = true from g)).2 (by (first | lia | omega)) (by (first | lia | omega)) u hu
theorem subsL_sm : ∀ {ks : List Tm}, goodL ks = true → sizeL ks ≤ 60 → htL ks ≤ 40 → ∀ u ∈ subsL ks, Sm u
  | [], _, _, _, u, hu => nomatch hu
  | t :: r, g, s, d, u, hu => by
    have g' := Bool.and_eq_true_iff.mp (show (_ && _) = true from g)
    simp only [sizeL] at s
    simp only [htL] at d
    rcases List.mem_append.mp hu with hu | hu
    · exact subs_sm g'.1 (by (first | lia | omega)) (by (first | lia | omega)) u hu
    · exact subsL_sm g'.2 (by (first | lia | omega)) (by (first | lia | omega)) u hu
end
theorem Sm.subs {t : Tm} (h : Sm t) : ∀ u ∈ subs t, Sm u := subs_sm h.good h.size h.ht

theorem spec_key_of {t : Tm} (h : Sm t) : FnSpec (cx1 w mg mb T cells) (42 + n) (.ref 94) [t.v] τ (keyT t) τ := by
  have D : FnData (cx1 w mg mb T cells) 94 _ _ ["t"] := fnData_of rfl rfl rfl rfl rfl rfl rfl rfl rfl (bindL1 rfl fun _ => rfl) rfl (by decide)
  rw [show 42 + n = 41 + n + 1 by (first | lia | omega)]
  refine fn_spec D rfl (by simp [Tm.own]) fun L cs => ?_
  have hs := h.size
  have hh := h.ht
  have len : (subs t).length ≤ 60 := by rw [subs_len]; exact hs
  have e0 : (parts t).map (fun p => p.2.v) = (subs t).map Tm.v := by rw [← parts_snd, List.map_map]; rfl
  refine Ex_cons (Ex1_comp1 (τ₂ := τ) (items := (parts t).map partV) (ys := (subs t).map Tm.v) (IterE.of (Ev_call g_parts (isFun_of rfl) ((spec_parts (n := 0) t.ht t (Nat.le_refl _) h τ).le (by (first | lia | omega))) (EvL_cons (Ev_name rfl rfl) EvL_nil) rfl) IterOf_lst) Filt.nil ?_ ?_ ?_)
  · rw [← e0]
    exact Turns.over fun p hp => CTurn_pair (CAct_emit (fun L cs => Ev_name rfl rfl) (Tm.pure _) rfl)
  · rw [List.length_map, sizeLine_eq]; (first | lia | omega)
  · refine Ex_freeze lookup_cons_eq rfl ?_
    refine Ex_cons (Ex1_return (Ev_tuple (ys := [.int (t.size : Int), .tup ((subs t).map fun u => .str u.f), .tup ((subs t).map fun u => .int ((u.ks.length : Nat) : Int))])
      (EvL_cons (Ev_eq (Ev_builtin b_len (Bu_len (xs := (subs t).map Tm.v) rfl (by rw [List.length_map, sizeLine_eq]; (first | lia | omega))) (EvL_cons (Ev_name lookup_cons_eq rfl) EvL_nil) rfl) (by rw [List.length_map, subs_len]))
      (EvL_cons (Ev_type b_tuple (Bu_tuple (xs := (subs t).map fun u => .str u.f) rfl (by rw [List.length_map, sizeLine_eq]; (first | lia | omega))) (EvL_cons (EvN.ev (EvN_comp1 (τ₁ := τ) (items := (subs t).map Tm.v) (σ' := []) (IterE.of (Ev_name lookup_cons_eq rfl) IterOf_lst) Filt.nil (Turns.over fun u hu => CTurn_name (CAct_emit (fun L cs => Ev_at0 (Ev_name' (Tm.v_eq u) rfl rfl) rfl) rfl rfl)) (by rw [List.length_map, sizeLine_eq]; (first | lia | omega)))) EvL_nil) rfl)
      (EvL_cons (Ev_type b_tuple (Bu_tuple (xs := (subs t).map fun u => .int ((u.ks.length : Nat) : Int)) rfl (by rw [List.length_map, sizeLine_eq]; (first | lia | omega))) (EvL_cons (EvN.ev (EvN_comp1 (τ₁ := τ) (items := (subs t).map Tm.v) (σ' := []) (IterE.of (Ev_name lookup_cons_eq rfl) IterOf_lst) Filt.nil (Turns.over fun u hu => CTurn_name (CAct_emit (fun L cs => Ev_eq (Ev_bin (Ev_builtin b_len (Bu_len_tm (by have := (h.subs u hu).len; (first | lia | omega))) (EvL_cons (Ev_name rfl rfl) EvL_nil) rfl) Ev_int Bin_sub_int) (by congr 1; (first | lia | omega))) rfl rfl)) (by rw [List.length_map, sizeLine_eq]; (first | lia | omega)))) EvL_nil) rfl) EvL_nil)))
      (by simp [pure_tup, pure_int]) (by simp)) rfl ⟨rfl, rfl⟩)
end
end Mine
namespace Mine

noncomputable def isBag (ops : List Str) (t : Tm) : Bool := ops.contains t.f && decide (1 < t.ks.length)
mutual
noncomputable def kidsT (ops : List Str) (op : Str) : Tm → List Tm
  | .mk f ks => if f = op ∧ isBag ops (.mk f ks) = true then kidsL ops op ks else [.mk f ks]
noncomputable def kidsL (ops : List Str) (op : Str) : List Tm → List Tm
  | [] => []
  | t :: r => kidsT ops op t ++ kidsL ops op r
end
theorem kidsL_eq (ops : List Str) (op : Str) : ∀ ks : List Tm, kidsL ops op ks = ks.flatMap (kidsT ops op)
  | [] => rfl
  | t :: r => by simp [kidsL, kidsL_eq ops op r]
noncomputable def madeT (ops : List Str) (op : Str) (some : List Tm) : Tm := match ordT (kidsL ops op some) with
  | [x] => x
  | l => .mk op l
mutual
noncomputable def normT (ops : List Str) : Tm → Tm
  | .mk f ks => if isBag ops (.mk f ks) then madeT ops f (normL ops ks) else .mk f (normL ops ks)
noncomputable def normL (ops : List Str) : List Tm → List Tm
  | [] => []
  | t :: r => normT ops t :: normL ops r
end
theorem normL_eq (ops : List Str) : ∀ ks : List Tm, normL ops ks = ks.map (normT ops)
  | [] => rfl
  | t :: r => by simp [normL, normL_eq ops r]

noncomputable def opsAll : List (List Str) := [["s"], ["p"], ["s", "p"], ["p", "s"]]
noncomputable def okOps (ops : List Str) : Bool := opsAll.contains ops
noncomputable def opsV (ops : List Str) : V := .lst (ops.map V.str)
theorem okOps_fine {ops : List Str} (h : okOps ops = true) : (opsV ops).fine = true := by
  have hm : ops ∈ opsAll := by simpa [okOps] using h
  have all : ∀ ops ∈ opsAll, (opsV ops).fine = true := by decide +kernel
  exact all ops hm
theorem okOps_len {ops : List Str} (h : okOps ops = true) : ops.length ≤ 2 := by
  have hm : ops ∈ opsAll := by simpa [okOps] using h
  have all : ∀ ops ∈ opsAll, ops.length ≤ 2 := by decide +kernel
  exact all ops hm
theorem eqv_str {x y : Str} : PyData.eqv (V.str x).py (V.str y).py = (x == y) := rfl
theorem in_ops (ops : List Str) (x : Str) : ((pyL (ops.map V.str)).any fun y => PyData.eqv y (V.str x).py) = ops.contains x := by
  induction ops with
  | nil => rfl
  | cons y r ih =>
    simp only [List.map_cons, pyL, List.any_cons, ih, List.contains_cons]
    rw [eqv_str, Bool.beq_comm]
theorem okName_fine {x : Str} (h : okName x = true) : (V.str x).fine = true := srt_fine (by simpa [V.srt] using okName_srt h)

section
variable {w : World} {mg mb : Str → Option Value} {T : Option Addr} {cells : List V} {τ : Option Nat} {n : Nat} {ops : List Str}
theorem spec_is_bag {t : Tm} (ho : okOps ops = true) (h : Sm t) : FnSpec (cx1 w mg mb T cells) (n + 1) (.ref 139) [.self (opsV ops), t.v] τ (.bool (isBag ops t)) τ := by
  have D : FnData (cx1 w mg mb T cells) 139 _ _ ["self", "t"] := fnData_of rfl rfl rfl rfl rfl rfl rfl rfl rfl (bindL2 rfl fun _ _ => rfl) rfl (by decide)
  refine fn_spec D rfl (by simp [own_self, Tm.own]) fun L cs => ?_
  have gf := Tm.good_f h.good
  have hl := h.len
  refine Ex_cons (Ex1_return (Ev_and2 (Ev_cmp (Ev_at0 (Ev_name' (Tm.v_eq t) rfl rfl) rfl) (Ev_ops opsAt rfl rfl) (Cmp_in_lst (okName_fine gf) (okOps_fine ho) (by simp [V.py, PyData.depth]) (in_ops ops t.f)))
    (fun _ => Ev_cmp (Ev_builtin b_len (Bu_len_tm (by (first | lia | omega))) (EvL_cons (Ev_name rfl rfl) EvL_nil) rfl) Ev_int (Cmp_gt_int ?_)) fun _ => rfl) rfl ⟨rfl, rfl⟩)
  by_cases q : 1 < t.ks.length
  · rw [decide_eq_true q]; exact decide_eq_true (by (first | lia | omega))
  · rw [decide_eq_false q]; exact decide_eq_false (by (first | lia | omega))

theorem spec_in_order_of {l : List Tm} (h : ∀ t ∈ l, Sm t) (hl : l.length < 64) : FnSpec (cx1 w mg mb T cells) (43 + n) (.ref 99) [.lst (l.map Tm.v)] τ (.tup ((ordT l).map Tm.v)) τ := by
  have D : FnData (cx1 w mg mb T cells) 99 _ _ ["terms"] := fnData_of rfl rfl rfl rfl rfl rfl rfl rfl rfl (bindL1 rfl fun _ => rfl) rfl (by decide)
  rw [show 43 + n = 42 + n + 1 by (first | lia | omega)]
  refine fn_spec D rfl (by simp [own_lst]) fun L cs => ?_
  have so := sortOk_kt (l := l) (fun t ht => (h t ht).good) (fun t ht => by have := (h t ht).ht; (first | lia | omega)) hl
  refine Ex_cons (Ex1_return (Ev_type b_tuple (Bu_tuple (xs := (ordT l).map Tm.v) rfl (by rw [List.length_map, ordT_len, sizeLine_eq]; (first | lia | omega))) (EvL_cons (EvN.ev (EvN_comp1 (τ₁ := τ) (items := (ordT l).map ktV) (σ' := [])
    (IterE.of (x := .lst ((ordT l).map ktV)) (ordT_v l ▸ EvN.ev (EvN_sorted b_sorted (EvN.ev (EvN_comp1 (τ₁ := τ) (items := l.map Tm.v) (ys := l.map ktV) (σ' := []) (IterE.of (Ev_name rfl rfl) IterOf_lst) Filt.nil ?_ (by rw [List.length_map, sizeLine_eq]; (first | lia | omega)))) so rfl)) IterOf_lst)
    Filt.nil ?_ (by rw [List.length_map, ordT_len, sizeLine_eq]; (first | lia | omega)))) EvL_nil) rfl) rfl ⟨rfl, rfl⟩)
  · exact Turns.over fun t ht => CTurn_name (CAct_emit (fun L cs => Ev_tuple (ys := [keyT t, t.v]) (EvL_cons (Ev_call g_key_of (isFun_of rfl) (spec_key_of (h t ht)) (EvL_cons (Ev_name rfl rfl) EvL_nil) rfl) (EvL_cons (Ev_name rfl rfl) EvL_nil)) (by simp [keyT, pure_tup, Tm.pure]) (by simp)) rfl rfl)
  · exact Turns.over fun t ht => CTurn_pair (CAct_emit (fun L cs => Ev_name rfl rfl) (Tm.pure _) rfl)
end
end Mine
namespace Mine

theorem sizeL_app (a b : List Tm) : sizeL (a ++ b) = sizeL a + sizeL b := by simp [sizeL_eq]
theorem sizeL_perm {a b : List Tm} (p : a.Perm b) : sizeL a = sizeL b := by
  induction p with
  | nil => rfl
  | cons x _ ih => simp only [sizeL, ih]
  | swap x y l => simp only [sizeL]; (first | lia | omega)
  | trans _ _ h1 h2 => exact h1.trans h2
theorem htL_app (a b : List Tm) : htL (a ++ b) = max (htL a) (htL b) := by
  induction a with
  | nil => simp [htL]
  | cons t r ih => simp only [List.cons_append, htL, ih]; (first | lia | omega)
mutual
theorem kidsT_size (ops : List Str) (op : Str) : ∀ t : Tm, sizeL (kidsT ops op t) ≤ t.size
  | .mk f ks => by
    unfold kidsT
    split
    · have := kidsL_size ops op ks
      simp only [Tm.size]; (first | lia | omega)
    · simp only [sizeL]; (first | lia | omega)
theorem kidsL_size (ops : List Str) (op : Str) : ∀ ks : List Tm, sizeL (kidsL ops op ks) ≤ sizeL ks
  | [] => Nat.le_refl _
  | t :: r => by
    have := kidsT_size ops op t
    have := kidsL_size ops op r
    simp only [kidsL, sizeL_app, sizeL]; (first | lia | omega)
end
mutual
theorem kidsT_all {Pr : Tm → Prop} (hp : ∀ t, Pr t → ∀ u ∈ t.ks, Pr u) (ops : List Str) (op : Str) : ∀ t : Tm, Pr t → ∀ u ∈ kidsT ops op t, Pr u
  | .mk f ks, h, u, hu => by
    unfold kidsT at hu
    split at hu
    · exact kidsL_all hp ops op ks (fun x hx => hp _ h x hx) u hu
    · simp at hu; subst hu; exact h
theorem kidsL_all {Pr : Tm → Prop} (hp : ∀ t, Pr t → ∀ u ∈ t.ks, Pr u) (ops : List Str) (op : Str) : ∀ ks : List Tm, (∀ t ∈ ks, Pr t) → ∀ u ∈ kidsL ops op ks, Pr u
  | [], _, u, hu => nomatch hu
  | t :: r, h, u, hu => by
    rcases List.mem_append.mp hu with hu | hu
    · exact kidsT_all hp ops op t (h t List.mem_cons_self) u hu
    · exact kidsL_all hp ops op r (fun x hx => h x (List.mem_cons_of_mem _ hx)) u hu
end
theorem kidsT_sm {ops : List Str} {op : Str} {t : Tm} (h : Sm t) : ∀ u ∈ kidsT ops op t, Sm u := kidsT_all (Pr := Sm) (fun t h u hu => h.kid hu) ops op t h
theorem kidsL_sm {ops : List Str} {op : Str} {l : List Tm} (h : ∀ t ∈ l, Sm t) : ∀ u ∈ kidsL ops op l, Sm u := kidsL_all (Pr := Sm) (fun t h u hu => h.kid hu) ops op l h
theorem good_kids {t : Tm} (h : t.good = true) : ∀ u ∈ t.ks, u.good = true := goodL_iff.mp (Tm.good_ks h)
theorem ht_kids {n : Nat} {t : Tm} (h : t.ht ≤ n) : ∀ u ∈ t.ks, u.ht ≤ n := fun u hu => by
  obtain ⟨f, ks⟩ := t
  have := htL_mem (show u ∈ ks from hu)
  simp only [Tm.ht] at h; (first | lia | omega)
theorem kidsL_good {ops : List Str} {op : Str} {l : List Tm} (h : ∀ t ∈ l, t.good = true) : ∀ u ∈ kidsL ops op l, u.good = true := kidsL_all (Pr := fun t => t.good = true) (fun t h => good_kids h) ops op l h
theorem kidsL_ht {ops : List Str} {op : Str} {l : List Tm} {n : Nat} (h : ∀ t ∈ l, t.ht ≤ n) : ∀ u ∈ kidsL ops op l, u.ht ≤ n := kidsL_all (Pr := fun t => t.ht ≤ n) (fun t h => ht_kids h) ops op l h
theorem kidsT_ne (ops : List Str) (op : Str) : ∀ t : Tm, 1 ≤ (kidsT ops op t).length
  | .mk f ks => by
    unfold kidsT
    split
    · rename_i h
      have h2 := h.2
      unfold isBag at h2
      simp only [Bool.and_eq_true, decide_eq_true_eq] at h2
      match ks, h2.2 with
      | t :: r, _ =>
        have := kidsT_ne ops op t
        simp only [kidsL, List.length_append]; (first | lia | omega)
    · exact Nat.le_refl _
theorem kidsL_ne (ops : List Str) (op : Str) : ∀ ks : List Tm, ks.length ≤ (kidsL ops op ks).length
  | [] => Nat.le_refl _
  | t :: r => by
    have := kidsT_ne ops op t
    have := kidsL_ne ops op r
    simp only [kidsL, List.length_append, List.length_cons]; (first | lia | omega)
theorem madeT_eq (ops : List Str) (op : Str) (l : List Tm) : (∃ x, ordT (kidsL ops op l) = [x] ∧ madeT ops op l = x) ∨ ((ordT (kidsL ops op l)).length ≠ 1 ∧ madeT ops op l = .mk op (ordT (kidsL ops op l))) := by
  unfold madeT
  split
  · rename_i x h; exact .inl ⟨x, h, rfl⟩
  · rename_i h
    refine .inr ⟨fun q => ?_, rfl⟩
    match e : ordT (kidsL ops op l), q with
    | [x], _ => exact h x e
theorem madeT_good {ops : List Str} {op : Str} {l : List Tm} (ho : okName op = true) (h : ∀ t ∈ l, t.good = true) : (madeT ops op l).good = true := by
  have g : ∀ u ∈ ordT (kidsL ops op l), u.good = true := fun u hu => kidsL_good h u ((ordT_perm _).mem_iff.mp hu)
  rcases madeT_eq ops op l with ⟨x, e, e2⟩ | ⟨_, e2⟩
  · rw [e2]; exact g x (by rw [e]; exact List.mem_singleton_self _)
  · rw [e2]; show (_ && _) = true; rw [ho, goodL_iff.mpr g]; rfl
theorem madeT_size (ops : List Str) (op : Str) (l : List Tm) : (madeT ops op l).size ≤ sizeL l + 1 := by
  have h := kidsL_size ops op l
  have p := sizeL_perm (ordT_perm (kidsL ops op l))
  rcases madeT_eq ops op l with ⟨x, e, e2⟩ | ⟨_, e2⟩
  · rw [e2]; rw [e] at p; simp only [sizeL] at p; (first | lia | omega)
  · rw [e2]; simp only [Tm.size]; (first | lia | omega)
theorem madeT_ht (ops : List Str) (op : Str) (l : List Tm) : (madeT ops op l).ht ≤ htL l + 1 := by
  have g : ∀ u ∈ ordT (kidsL ops op l), u.ht ≤ htL l := fun u hu => kidsL_ht (fun t ht => htL_mem ht) u ((ordT_perm _).mem_iff.mp hu)
  rcases madeT_eq ops op l with ⟨x, e, e2⟩ | ⟨_, e2⟩
  · rw [e2]; have := g x (by rw [e]; exact List.mem_singleton_self _); (first | lia | omega)
  · rw [e2]; have := htL_le g; simp only [Tm.ht]; (first | lia | omega)
mutual
theorem normT_size (ops : List Str) : ∀ t : Tm, (normT ops t).size ≤ t.size
  | .mk f ks => by
    have h := normL_size ops ks
    unfold normT; split
    · have := madeT_size ops f (normL ops ks)
      simp only [Tm.size]; (first | lia | omega)
    · simp only [Tm.size]; (first | lia | omega)
theorem normL_size (ops : List Str) : ∀ ks : List Tm, sizeL (normL ops ks) ≤ sizeL ks
  | [] => Nat.le_refl _
  | t :: r => by
    have := normT_size ops t
    have := normL_size ops r
    simp only [normL, sizeL]; (first | lia | omega)
end
mutual
theorem normT_ht (ops : List Str) : ∀ t : Tm, (normT ops t).ht ≤ t.ht
  | .mk f ks => by
    have h := normL_ht ops ks
    unfold normT; split
    · have := madeT_ht ops f (normL ops ks)
      simp only [Tm.ht]; (first | lia | omega)
    · simp only [Tm.ht]; (first | lia | omega)
theorem normL_ht (ops : List Str) : ∀ ks : List Tm, htL (normL ops ks) ≤ htL ks
  | [] => Nat.le_refl _
  | t :: r => by
    have := normT_ht ops t
    have := normL_ht ops r
    simp only [normL, htL]; (first | lia | omega)
end
mutual
theorem normT_good (ops : List Str) : ∀ t : Tm, t.good = true → (normT ops t).good = true
  | .mk f ks, h => by
    have h' := Bool.and_eq_true_iff.mp (show (_ && _) = true from h)
    have g := normL_good ops ks h'.2
    unfold normT; split
    · exact madeT_good h'.1 (goodL_iff.mp g)
    · show (_ && _) = true; rw [h'.1, g]; rfl
theorem normL_good (ops : List Str) : ∀ ks : List Tm, goodL ks = true → goodL (normL ops ks) = true
  | [], _ => rfl
  | t :: r, h => by
    have h' := Bool.and_eq_true_iff.mp (show (_ && _) = true from h)
    show (_ && _) = true
    rw [normT_good ops t h'.1, normL_good ops r h'.2]; rfl
end
theorem Sm.norm {ops : List Str} {t : Tm} (h : Sm t) : Sm (normT ops t) :=
  ⟨normT_good ops t h.good, Nat.le_trans (normT_size ops t) h.size, Nat.le_trans (normT_ht ops t) h.ht⟩
end Mine
namespace Mine

theorem isBag_iff {ops : List Str} {op : Str} {t : Tm} : (!(t.f == op) || !isBag ops t) = false ↔ (t.f = op ∧ isBag ops t = true) := by
  simp
theorem kidsT_no {ops : List Str} {op : Str} {t : Tm} (h : (!(t.f == op) || !isBag ops t) = true) : kidsT ops op t = [t] := by
  obtain ⟨f, ks⟩ := t
  unfold kidsT
  rw [if_neg]
  intro q
  have e : (!((Tm.mk f ks).f == op) || !isBag ops (.mk f ks)) = false := isBag_iff.mpr q
  rw [e] at h; cases h
theorem kidsT_yes {ops : List Str} {op : Str} {t : Tm} (h : (!(t.f == op) || !isBag ops t) = false) : kidsT ops op t = kidsL ops op t.ks := by
  obtain ⟨f, ks⟩ := t
  unfold kidsT
  have q : f = op ∧ isBag ops (.mk f ks) = true := isBag_iff.mp h
  rw [if_pos q]; rfl
theorem sm_ht {t : Tm} {d : Nat} (hd : t.ht ≤ d + 1) {u : Tm} (hu : u ∈ t.ks) : u.ht ≤ d := by
  obtain ⟨f, ks⟩ := t
  have := htL_mem (show u ∈ ks from hu)
  simp only [Tm.ht] at hd; (first | lia | omega)
theorem ht_pos (t : Tm) : 1 ≤ t.ht := by cases t; simp only [Tm.ht]; (first | lia | omega)
theorem IterOf_seq {C : Cx} {n : Nat} {x : V} {xs : List V} (h : x = .lst xs ∨ x = .tup xs) : IterOf C n x false xs := by
  rcases h with rfl | rfl
  · exact IterOf_lst
  · exact IterOf_tup
theorem Turns.flatL {T' : V → Option Nat → List V → Option Nat → Prop} {f : Tm → List Tm} {τ : Option Nat} : ∀ {l : List Tm}, (∀ p ∈ l, T' p.v τ ((f p).map Tm.v) τ) → Turns T' (l.map Tm.v) τ ((l.flatMap f).map Tm.v) τ := by
  intro l h
  rw [List.map_flatMap]
  exact Turns.flat h

section
variable {w : World} {mg mb : Str → Option Value} {T : Option Addr} {cells : List V} {n : Nat} {ops : List Str}
theorem spec_kids (ho : okOps ops = true) {op : Str} (hop : okName op = true) : ∀ (d : Nat) (t : Tm), t.ht ≤ d → Sm t → ∀ τ, FnSpec (cx1 w mg mb T cells) (d + (n + 1)) (.ref 144) [.self (opsV ops), .str op, t.v] τ (.tup ((kidsT ops op t).map Tm.v)) τ := by
  intro d
  induction d with
  | zero =>
    intro t hd
    have := ht_pos t; (first | lia | omega)
  | succ d ih =>
    intro t hd h τ
    have D : FnData (cx1 w mg mb T cells) 144 _ _ ["self", "op", "t"] := fnData_of rfl rfl rfl rfl rfl rfl rfl rfl rfl (bindL3 rfl fun _ _ _ => rfl) rfl (by decide)
    rw [show d + 1 + (n + 1) = d + (n + 1) + 1 by (first | lia | omega)]
    refine fn_spec D rfl (by simp [own_self, own_str, Tm.own]) fun L cs => ?_
    have gf := Tm.good_f h.good
    refine Ex_cons (Ex1_if (τ₁ := τ) (Tst_or2 (a := !(t.f == op)) (b := !isBag ops t) (Tst_cmp (Ev_at0 (Ev_name' (Tm.v_eq t) rfl rfl) rfl) (Ev_name rfl rfl) (Cmp_ne (okName_fine gf) (okName_fine hop) (by simp [V.py, PyData.depth]) rfl))
      (fun _ => Tst_not (Tst_val (Ev_method m_is_bag ((spec_is_bag (n := 0) ho h).le (by (first | lia | omega))) (EvL_cons (Ev_name rfl rfl) EvL_nil) rfl rfl))) fun _ => rfl) (fun hc => ?_) (fun hc => ?_))
    · rw [kidsT_no hc]
      exact Ex_cons (Ex1_return (Ev_tuple (ys := [t.v]) (EvL_cons (Ev_name rfl rfl) EvL_nil) (by simp [Tm.pure]) (by simp)) rfl ⟨rfl, rfl⟩)
    · refine Ex_nil ?_
      have e : kidsT ops op t = t.ks.flatMap (kidsT ops op) := by rw [kidsT_yes hc, kidsL_eq]
      have len : ((kidsT ops op t).map Tm.v).length ≤ sizeLine := by
        have := kidsT_size ops op t
        have := len_le_sizeL (kidsT ops op t)
        have := h.size
        rw [List.length_map, sizeLine_eq]; (first | lia | omega)
      refine Ex_cons (Ex1_return (Ev_type b_tuple (Bu_tuple (xs := (kidsT ops op t).map Tm.v) rfl len) (EvL_cons (EvN.ev (EvN_comp2 (items := vL t.ks) (τ₁ := τ) (σ' := [("op", .str op), ("self", .self (opsV ops))])
        (IterE.of (Ev_tup1 (x := .str t.f) (xs := vL t.ks) (Ev_name' (Tm.v_eq t) rfl rfl) (by have := h.len; rw [vL_length, sizeLine_eq]; (first | lia | omega))) IterOf_tup)
        (Filt.add (Filt.add Filt.nil rfl rfl rfl) rfl rfl rfl) ?_ len)) EvL_nil) rfl) rfl ⟨rfl, rfl⟩)
      rw [e, vL_eq]
      exact Turns.flatL fun u hu => CTurn_name (CAct_nest1 (τ₁ := τ) (fun L cs => IterE.of (Ev_method m_kids (ih u (sm_ht hd hu) (h.kid hu) τ) (EvL_cons (Ev_name rfl rfl) (EvL_cons (Ev_name rfl rfl) EvL_nil)) rfl rfl) IterOf_tup)
        (Turns.over fun x hx => CTurn_name (CAct_emit (fun L cs => Ev_name rfl rfl) (Tm.pure _) rfl)))

theorem spec_made (ho : okOps ops = true) {op : Str} (hop : okName op = true) {l : List Tm} (hl : ∀ t ∈ l, Sm t) (hs : sizeL l < 60) {x : V} (hx : x = .lst (l.map Tm.v) ∨ x = .tup (l.map Tm.v)) (τ : Option Nat) :
    FnSpec (cx1 w mg mb T cells) (45 + n) (.ref 149) [.self (opsV ops), .str op, x] τ (madeT ops op l).v τ := by
  have D : FnData (cx1 w mg mb T cells) 149 _ _ ["self", "op", "some"] := fnData_of rfl rfl rfl rfl rfl rfl rfl rfl rfl (bindL3 rfl fun _ _ _ => rfl) rfl (by decide)
  rw [show 45 + n = 44 + n + 1 by (first | lia | omega)]
  have xo : x.own = false := by rcases hx with rfl | rfl <;> rfl
  refine fn_spec D rfl (by simp [own_self, own_str, xo]) fun L cs => ?_
  have kl : (kidsL ops op l).length < 60 := by
    have := kidsL_size ops op l
    have := len_le_sizeL (kidsL ops op l)
    (first | lia | omega)
  have len : ((kidsL ops op l).map Tm.v).length ≤ sizeLine := by rw [List.length_map, sizeLine_eq]; (first | lia | omega)
  have ol : (ordT (kidsL ops op l)).length < 60 := by rw [ordT_len]; exact kl
  refine Ex_cons (Ex1_assign (τ₁ := τ) (y := .tup ((ordT (kidsL ops op l)).map Tm.v)) (Ev_call g_in_order_of (isFun_of rfl) ((spec_in_order_of (n := 0) (l := kidsL ops op l) (kidsL_sm hl) (by (first | lia | omega))).le (by (first | lia | omega))) (EvL_cons (EvN.ev (EvN_comp2 (items := l.map Tm.v) (τ₁ := τ) (σ' := [("op", .str op), ("self", .self (opsV ops))])
    (IterE.of (Ev_name rfl rfl) (IterOf_seq hx)) (Filt.add (Filt.add Filt.nil rfl rfl rfl) rfl rfl rfl) ?_ len)) EvL_nil) rfl) rfl rfl ?_)
  · rw [kidsL_eq]
    exact Turns.flatL fun u hu => CTurn_name (CAct_nest1 (τ₁ := τ) (fun L cs => IterE.of (Ev_method m_kids ((spec_kids (n := 0) ho hop u.ht u (Nat.le_refl _) (hl u hu) τ).le (by have := (hl u hu).ht; (first | lia | omega))) (EvL_cons (Ev_name rfl rfl) (EvL_cons (Ev_name rfl rfl) EvL_nil)) rfl rfl) IterOf_tup)
        (Turns.over fun x hx => CTurn_name (CAct_emit (fun L cs => Ev_name rfl rfl) (Tm.pure _) rfl)))
  · refine Ex_cons (Ex1_return (Ev_ifexp (c := decide ((ordT (kidsL ops op l)).length = 1)) (Tst_cmp (Ev_builtin b_len (Bu_len (xs := (ordT (kidsL ops op l)).map Tm.v) rfl (by rw [List.length_map, sizeLine_eq]; (first | lia | omega))) (EvL_cons (Ev_name rfl rfl) EvL_nil) rfl) Ev_int (Cmp_eq rfl rfl (by simp [V.py, PyData.depth]) ?_)) (fun hc => ?_) (fun hc => ?_)) (Tm.own _) ⟨rfl, rfl⟩)
    · rw [List.length_map]
      show ((((ordT (kidsL ops op l)).length : Nat) : Int) == 1) = _
      by_cases q : (ordT (kidsL ops op l)).length = 1
      · rw [decide_eq_true q, q]; rfl
      · rw [decide_eq_false q]; exact beq_false_of_ne (by (first | lia | omega))
    · rcases madeT_eq ops op l with ⟨y, e, e2⟩ | ⟨e, e2⟩
      · rw [e2]
        exact Ev_at0 (Ev_name' (y := .tup ((ordT (kidsL ops op l)).map Tm.v)) (y' := .tup [y.v]) (by rw [e]; rfl) rfl rfl) rfl
      · exact absurd (of_decide_eq_true hc) e
    · rcases madeT_eq ops op l with ⟨y, e, e2⟩ | ⟨e, e2⟩
      · exact absurd (by rw [e]; rfl) (of_decide_eq_false hc)
      · rw [e2]
        refine Ev_eq (Ev_bin (Ev_tuple (ys := [.str op]) (EvL_cons (Ev_name rfl rfl) EvL_nil) rfl (by simp)) (Ev_name rfl rfl) (Bin_add_tup (xs := [.str op]) (ys := (ordT (kidsL ops op l)).map Tm.v) (by rw [List.length_map, sizeLine_eq]; simp; (first | lia | omega)))) ?_
        rw [Tm.v, vL_eq]; rfl

theorem spec_normal (ho : okOps ops = true) : ∀ (d : Nat) (t : Tm), t.ht ≤ d → Sm t → ∀ τ, FnSpec (cx1 w mg mb T cells) (d + (45 + n)) (.ref 154) [.self (opsV ops), t.v] τ (normT ops t).v τ := by
  intro d
  induction d with
  | zero =>
    intro t hd
    have := ht_pos t; (first | lia | omega)
  | succ d ih =>
    intro t hd h τ
    have D : FnData (cx1 w mg mb T cells) 154 _ _ ["self", "t"] := fnData_of rfl rfl rfl rfl rfl rfl rfl rfl rfl (bindL2 rfl fun _ _ => rfl) rfl (by decide)
    rw [show d + 1 + (45 + n) = d + (45 + n) + 1 by (first | lia | omega)]
    refine fn_spec D rfl (by simp [own_self, Tm.own]) fun L cs => ?_
    have gf := Tm.good_f h.good
    have hlen := h.len
    have e0 : (normL ops t.ks).map Tm.v = t.ks.map fun u => (normT ops u).v := by rw [normL_eq, List.map_map]; rfl
    have nl : (normL ops t.ks).length = t.ks.length := by rw [normL_eq, List.length_map]
    refine Ex_cons (Ex1_comp1 (τ₂ := τ) (items := vL t.ks) (ys := (normL ops t.ks).map Tm.v) (σ' := [("self", .self (opsV ops))]) (IterE.of (Ev_tup1 (x := .str t.f) (xs := vL t.ks) (Ev_name' (Tm.v_eq t) rfl rfl) (by rw [vL_length, sizeLine_eq]; (first | lia | omega))) IterOf_tup)
      (Filt.add Filt.nil rfl rfl rfl) ?_ (by rw [List.length_map, nl, sizeLine_eq]; (first | lia | omega)) ?_)
    · rw [e0, vL_eq]
      exact Turns.over fun u hu => CTurn_name (CAct_emit (fun L cs => Ev_method m_normal (ih u (sm_ht hd hu) (h.kid hu) τ) (EvL_cons (Ev_name rfl rfl) EvL_nil) rfl rfl) (Tm.pure _) rfl)
    · refine Ex_freeze lookup_cons_eq rfl ?_
      have gks : ∀ u ∈ normL ops t.ks, Sm u := fun u hu => by
        rw [normL_eq] at hu
        obtain ⟨x, hx, rfl⟩ := List.mem_map.mp hu
        exact (h.kid hx).norm
      have sz : sizeL (normL ops t.ks) < 60 := by
        have a := normL_size ops t.ks
        have b := h.size
        obtain ⟨f, ks⟩ := t
        simp only [Tm.size] at b
        have : sizeL (normL ops ks) ≤ sizeL ks := a
        show sizeL (normL ops ks) < 60
        (first | lia | omega)
      refine Ex_cons (Ex1_return (Ev_ifexp (τ₁ := τ) (Tst_val (Ev_method m_is_bag ((spec_is_bag (n := 0) ho h).le (by (first | lia | omega))) (EvL_cons (Ev_name rfl rfl) EvL_nil) rfl rfl)) (fun hc => ?_) (fun hc => ?_)) (Tm.own _) ⟨rfl, rfl⟩)
      · have e : normT ops t = madeT ops t.f (normL ops t.ks) := by
          obtain ⟨f, ks⟩ := t
          unfold normT; rw [if_pos hc]; rfl
        rw [e]
        exact Ev_method m_made ((spec_made (n := 0) ho gf gks sz (.inl rfl) τ).le (by (first | lia | omega))) (EvL_cons (Ev_at0 (Ev_name' (Tm.v_eq t) rfl rfl) rfl) (EvL_cons (Ev_name lookup_cons_eq rfl) EvL_nil)) rfl rfl
      · have e : normT ops t = .mk t.f (normL ops t.ks) := by
          obtain ⟨f, ks⟩ := t
          unfold normT; rw [if_neg (by rw [hc]; decide)]; rfl
        rw [e]
        refine Ev_eq (Ev_bin (Ev_tuple (ys := [.str t.f]) (EvL_cons (Ev_at0 (Ev_name' (Tm.v_eq t) rfl rfl) rfl) EvL_nil) rfl (by simp)) (Ev_type b_tuple (Bu_tuple (xs := (normL ops t.ks).map Tm.v) rfl (by rw [List.length_map, nl, sizeLine_eq]; (first | lia | omega))) (EvL_cons (Ev_name lookup_cons_eq rfl) EvL_nil) rfl) (Bin_add_tup (by rw [List.length_map, nl, sizeLine_eq]; simp; (first | lia | omega)))) ?_
        rw [Tm.v, vL_eq]; rfl
end
end Mine
namespace Mine

theorem pick_nat {xs : List V} {lo hi : Option Int} {a b : Nat} (e : sliceBounds lo hi none xs.length = ((a : Int), (b : Int), 1)) : pick xs lo hi none = (xs.drop a).take (b - a) := by
  unfold pick
  rw [e]
  have h := pick_run xs.toArray a (b - a)
  simp only [sliceRange_one]
  simpa using h
theorem take_pick : ∀ (m : Nat) (xs : List V), m ≤ xs.length → (List.range m).filterMap (xs[·]?) = xs.take m := by
  intro m
  induction m with
  | zero => intro xs _; simp
  | succ m ih =>
    intro xs h
    rw [List.range_succ, List.filterMap_append, ih xs (by (first | lia | omega)), List.take_add_one]
    simp [List.getElem?_eq_getElem (show m < xs.length by (first | lia | omega))]
theorem pick_back {xs : List V} (h : 1 ≤ xs.length) : pick xs (some (-2)) none (some (-1)) = xs.dropLast.reverse := by
  have e : sliceBounds (some (-2)) none (some (-1)) xs.length = (((xs.length - 1 : Nat) : Int) - 1, -1, -1) := by
    simp only [sliceBounds, Option.getD_some, show ¬ ((-1 : Int) > 0) by decide, if_false, show ((-2 : Int) < 0) by decide, if_true]
    congr 1
    (first | lia | omega)
  unfold pick
  rw [e]
  show (sliceRange (((xs.length - 1 : Nat) : Int) - 1) (-1) (-1)).filterMap (xs[·]?) = _
  rw [krv_sliceRange, krv_range, List.filterMap_reverse, take_pick _ _ (by (first | lia | omega)), List.dropLast_eq_take]

theorem FRun_fold {α β : Type} {B : V → List (Str × V) → Option Nat → (Out → Prop) → Prop} {τ : Option Nat} {P : Out → Prop} (f : α → V) (g : β → α → β) (R : β → List (Str × V) → Prop) : ∀ {l : List α} {b : β} {σ : List (Str × V)}, R b σ →
    (∀ x ∈ l, ∀ b σ, R b σ → ∀ P' : Out → Prop, (∀ σ', R (g b x) σ' → P' (.next σ' τ)) → B (f x) σ τ P') → (∀ σ', R (l.foldl g b) σ' → P (.next σ' τ)) → FRun B (l.map f) σ τ P
  | [], b, σ, h0, step, fin => fin σ h0
  | x :: r, b, σ, h0, step, fin => step x List.mem_cons_self b σ h0 _ fun σ' h' => FRun_fold f g R h' (fun y hy => step y (List.mem_cons_of_mem _ hy)) fin

noncomputable def nextL (ops : List Str) (t : Tm) : List Tm := if isBag ops t then kidsT ops t.f t else t.ks
noncomputable def rnest (op : Str) (l : List Tm) : Tm := l.dropLast.reverse.foldl (fun acc k => .mk op [k, acc]) (l.getLastD (.mk op []))
noncomputable def nestF (ops : List Str) : Nat → Tm → Tm
  | 0, t => t
  | d + 1, t => if isBag ops t then rnest t.f ((nextL ops t).map (nestF ops d)) else .mk t.f ((nextL ops t).map (nestF ops d))
theorem kidsT_bag {ops : List Str} {t : Tm} (h : isBag ops t = true) : kidsT ops t.f t = kidsL ops t.f t.ks := kidsT_yes (by rw [h]; simp)
theorem nextL_ht {ops : List Str} {t : Tm} {d : Nat} (hd : t.ht ≤ d + 1) : ∀ u ∈ nextL ops t, u.ht ≤ d := fun u hu => by
  unfold nextL at hu
  split at hu
  · rename_i h
    rw [kidsT_bag h] at hu
    exact kidsL_ht (fun x hx => sm_ht hd hx) u hu
  · exact sm_ht hd hu
theorem nextL_sm {ops : List Str} {t : Tm} (h : Sm t) : ∀ u ∈ nextL ops t, Sm u := fun u hu => by
  unfold nextL at hu
  split at hu
  · exact kidsT_sm h u hu
  · exact h.kid hu
theorem nextL_len {ops : List Str} {t : Tm} (h : Sm t) : (nextL ops t).length ≤ 60 := by
  unfold nextL
  split
  · have := kidsT_size ops t.f t
    have := len_le_sizeL (kidsT ops t.f t)
    have := h.size
    (first | lia | omega)
  · exact h.len
theorem nextL_ne {ops : List Str} {t : Tm} (h : isBag ops t = true) : 1 ≤ (nextL ops t).length := by
  unfold nextL; rw [if_pos h]; exact kidsT_ne _ _ _
theorem getLast_at {xs : List Tm} {z : Tm} (h : 1 ≤ xs.length) : xs[xs.length - 1]? = some (xs.getLastD z) := by
  cases xs with
  | nil => simp at h
  | cons a r =>
    rw [← List.getLast?_eq_getElem?, List.getLast?_cons, List.getLastD_cons, List.getLastD_eq_getLast?]

section
variable {w : World} {mg mb : Str → Option Value} {T : Option Addr} {cells : List V} {n : Nat} {ops : List Str}
theorem spec_are_like (ho : okOps ops = true) {t u : Tm} (ht : Sm t) (hu : Sm u) (τ : Option Nat) (e : normT ops t = normT ops u) : FnSpec (cx1 w mg mb T cells) (86 + n) (.ref 161) [.self (opsV ops), t.v, u.v] τ (.bool true) τ := by
  have D : FnData (cx1 w mg mb T cells) 161 _ _ ["self", "t", "u"] := fnData_of rfl rfl rfl rfl rfl rfl rfl rfl rfl (bindL3 rfl fun _ _ _ => rfl) rfl (by decide)
  rw [show 86 + n = 85 + n + 1 by (first | lia | omega)]
  refine fn_spec D rfl (by simp [own_self, Tm.own]) fun L cs => ?_
  refine Ex_cons (Ex1_return (Ev_cmp (Ev_method m_normal ((spec_normal (n := 0) ho t.ht t (Nat.le_refl _) ht τ).le (by have := ht.ht; (first | lia | omega))) (EvL_cons (Ev_name rfl rfl) EvL_nil) rfl rfl)
    (Ev_method m_normal ((spec_normal (n := 0) ho u.ht u (Nat.le_refl _) hu τ).le (by have := hu.ht; (first | lia | omega))) (EvL_cons (Ev_name rfl rfl) EvL_nil) rfl rfl)
    (Cmp_eq (srt_fine (Tm.srt ht.norm.good)) (srt_fine (Tm.srt hu.norm.good)) ?_ ((Tm.eqv ht.norm.good hu.norm.good).mpr e))) rfl ⟨rfl, rfl⟩)
  rw [py_dep (srt_plain (Tm.srt ht.norm.good)), Tm.dep]
  have := (ht.norm (ops := ops)).ht
  (first | lia | omega)

theorem spec_nested (ho : okOps ops = true) : ∀ (d : Nat) (t : Tm), t.ht ≤ d → Sm t → ∀ τ, FnSpec (cx1 w mg mb T cells) (d + (45 + n)) (.ref 166) [.self (opsV ops), t.v] τ (nestF ops d t).v τ := by
  intro d
  induction d with
  | zero =>
    intro t hd
    have := ht_pos t; (first | lia | omega)
  | succ d ih =>
    intro t hd h τ
    have D : FnData (cx1 w mg mb T cells) 166 _ _ ["self", "t"] := fnData_of rfl rfl rfl rfl rfl rfl rfl rfl rfl (bindL2 rfl fun _ _ => rfl) rfl (by decide)
    rw [show d + 1 + (45 + n) = d + (45 + n) + 1 by (first | lia | omega)]
    refine fn_spec D rfl (by simp [own_self, Tm.own]) fun L cs => ?_
    have gf := Tm.good_f h.good
    have nl := nextL_len (ops := ops) h
    refine Ex_cons (Ex1_comp1 (τ₁ := τ) (τ₂ := τ) (items := (nextL ops t).map Tm.v) (ys := ((nextL ops t).map (nestF ops d)).map Tm.v) (σ' := [("self", .self (opsV ops))])
      (IterE.of (x := .tup ((nextL ops t).map Tm.v)) (Ev_ifexp (c := isBag ops t) (τ₁ := τ) (Tst_val (Ev_method m_is_bag ((spec_is_bag (n := 0) ho h).le (by (first | lia | omega))) (EvL_cons (Ev_name rfl rfl) EvL_nil) rfl rfl)) (fun hc => ?_) (fun hc => ?_)) IterOf_tup)
      (Filt.add Filt.nil rfl rfl rfl) ?_ (by rw [List.length_map, List.length_map, sizeLine_eq]; (first | lia | omega)) ?_)
    · have e : nextL ops t = kidsT ops t.f t := by unfold nextL; rw [if_pos hc]
      rw [e]
      exact Ev_method m_kids ((spec_kids (n := 0) ho gf t.ht t (Nat.le_refl _) h τ).le (by have := h.ht; (first | lia | omega))) (EvL_cons (Ev_at0 (Ev_name' (Tm.v_eq t) rfl rfl) rfl) (EvL_cons (Ev_name rfl rfl) EvL_nil)) rfl rfl
    · have e : (nextL ops t).map Tm.v = vL t.ks := by unfold nextL; rw [if_neg (by rw [hc]; decide), vL_eq]
      rw [e]
      exact Ev_tup1 (x := .str t.f) (xs := vL t.ks) (Ev_name' (Tm.v_eq t) rfl rfl) (by have := h.len; rw [vL_length, sizeLine_eq]; (first | lia | omega))
    · rw [List.map_map]
      exact Turns.over fun u hu => CTurn_name (CAct_emit (fun L cs => Ev_method m_nested (ih u (nextL_ht hd u hu) (nextL_sm h u hu) τ) (EvL_cons (Ev_name rfl rfl) EvL_nil) rfl rfl) (Tm.pure _) rfl)
    · refine Ex_freeze lookup_cons_eq rfl ?_
      refine Ex_cons (Ex1_if (c := !isBag ops t) (τ₁ := τ) (Tst_not (Tst_val (Ev_method m_is_bag ((spec_is_bag (n := 0) ho h).le (by (first | lia | omega))) (EvL_cons (Ev_name rfl rfl) EvL_nil) rfl rfl))) (fun hc => ?_) (fun hc => ?_))
      · have e : nestF ops (d + 1) t = .mk t.f ((nextL ops t).map (nestF ops d)) := by
          rw [nestF, if_neg (by intro q; rw [q] at hc; cases hc)]
        rw [e]
        refine Ex_cons (Ex1_return (y := (Tm.mk t.f ((nextL ops t).map (nestF ops d))).v) (Ev_eq (Ev_bin (Ev_tuple (ys := [.str t.f]) (EvL_cons (Ev_at0 (Ev_name' (Tm.v_eq t) rfl rfl) rfl) EvL_nil) rfl (by simp)) (Ev_type b_tuple (Bu_tuple (xs := ((nextL ops t).map (nestF ops d)).map Tm.v) rfl (by rw [List.length_map, List.length_map, sizeLine_eq]; (first | lia | omega))) (EvL_cons (Ev_name lookup_cons_eq rfl) EvL_nil) rfl) (Bin_add_tup (by rw [List.length_map, List.length_map, sizeLine_eq]; simp; (first | lia | omega)))) ?_) (Tm.own _) ⟨rfl, rfl⟩)
        rw [Tm.v, vL_eq]; rfl
      · have hb : isBag ops t = true := by cases q : isBag ops t with | true => rfl | false => rw [q] at hc; cases hc
        have e : nestF ops (d + 1) t = rnest t.f ((nextL ops t).map (nestF ops d)) := by rw [nestF, if_pos hb]
        have ne := nextL_ne hb
        rw [e]
        generalize hys : (nextL ops t).map (nestF ops d) = ys
        have yl : ys.length = (nextL ops t).length := by rw [← hys, List.length_map]
        refine Ex_nil (Ex_cons (Ex1_assign (τ₁ := τ) (y := (ys.getLastD (.mk t.f [])).v) (Ev_item (i := -1) (j := ys.length - 1) (xs := ys.map Tm.v) (Ev_name lookup_cons_eq rfl) (Ev_neg Ev_int) rfl ?_ ?_ (by decide) (by decide)) (Tm.own _) rfl ?_))
        · rw [List.length_map]
          unfold seqIndex?
          simp
          (first | lia | omega)
        · rw [List.getElem?_map, getLast_at (by (first | lia | omega))]; rfl
        · refine Ex_cons (Ex1_for (items := (ys.dropLast.reverse).map Tm.v) (τ₁ := τ) (IterE.of (x := .lst ((ys.dropLast.reverse).map Tm.v)) (Ev_eq (Ev_slice (xs := ys.map Tm.v) (lo := some (-2)) (hi := none) (st := some (-1)) (Ev_name (lk lookup_cons_eq rfl) rfl) (EvO_some (Ev_neg Ev_int)) EvO_none (EvO_some (Ev_neg Ev_int)) (.inl rfl) (by decide) (by rw [List.length_map, sizeLine_eq]; (first | lia | omega))) ?_) IterOf_lst) ?_)
          · rw [pick_back (by rw [List.length_map]; (first | lia | omega)), List.map_reverse, List.map_dropLast]
          · refine FRun_fold Tm.v (fun acc k => .mk t.f [k, acc]) (R := fun b σ => σ.lookup ("late" : Str) = some (Tm.v b) ∧ σ.lookup ("t" : Str) = some t.v) ⟨lookup_cons_eq, rfl⟩ (fun x hx b σ hR P' hP' => ?_) (fun σ' hR => ?_)
            · exact FTurn_name (Ex_cons (Ex1_assign (τ₁ := τ) (y := (Tm.mk t.f [x, b]).v) (Ev_tuple (ys := [.str t.f, x.v, b.v]) (EvL_cons (Ev_at0 (Ev_name' (Tm.v_eq t) (lk hR.2 rfl) rfl) rfl) (EvL_cons (Ev_name lookup_cons_eq rfl) (EvL_cons (Ev_name (lk hR.1 rfl) rfl) EvL_nil))) (by simp [pure_str, Tm.pure]) (by simp)) (Tm.own _) rfl
                (Ex_nil (hP' _ ⟨lookup_cons_eq, lk (lk hR.2 rfl) rfl⟩))))
            · exact Ex_cons (Ex1_return (Ev_name hR.1 rfl) (Tm.own _) ⟨rfl, rfl⟩)
end
end Mine
namespace Mine

theorem Rp.cx {C C' : Cx} (hb : C.bag = C'.bag) (hw : C.w = C'.w) {h : Heap} {v x} (r : Rp C h v x) : Rp C' h v x :=
  Rp.rec (motive_1 := fun v x _ => Rp C' h v x) (motive_2 := fun v x _ => RpL C' h v x) (motive_3 := fun v x _ => RpD C' h v x) .none .bool .int .str (fun a _ b => .tup a b) (fun a _ b => .lst a b) (fun a _ b => .dct a b) (fun a _ b => .self (hb ▸ a) b) .nil (fun _ _ a b => .cons a b) .nil (fun e _ _ _ a b c => .cons (hw ▸ e) a b c) r
theorem RpL.cx {C C' : Cx} (hb : C.bag = C'.bag) (hw : C.w = C'.w) {h : Heap} {v x} (r : RpL C h v x) : RpL C' h v x :=
  RpL.rec (motive_1 := fun v x _ => Rp C' h v x) (motive_2 := fun v x _ => RpL C' h v x) (motive_3 := fun v x _ => RpD C' h v x) .none .bool .int .str (fun a _ b => .tup a b) (fun a _ b => .lst a b) (fun a _ b => .dct a b) (fun a _ b => .self (hb ▸ a) b) .nil (fun _ _ a b => .cons a b) .nil (fun e _ _ _ a b c => .cons (hw ▸ e) a b c) r
theorem FnSpec_own {C C' : Cx} (hb : C.bag = C'.bag) (hw : C.w = C'.w) (hp : C.prog = C'.prog) (hT : C'.T = Option.none) (hB : C.Base = C'.Base) {n : Nat} {f : Value} {xs : List V} {τ : Option Nat} (h : FnSpec C' n f [.lst xs] Option.none .none Option.none) : FnSpec C n f [.oL xs] τ .none τ := by
  intro A R M s vs G r
  match vs, r with
  | [v], ⟨r0, _⟩ =>
    obtain ⟨a, ws, e0, aM, aT, l, q⟩ := r0
    subst e0
    let M' := M.filter fun b => b != a
    have nM : a ∉ M' := fun m => by simp [M'] at m
    have less : ∀ b ∈ M', b ∈ M := fun b m => (List.mem_filter.mp m).1
    have G' : Gs C' M' Option.none s := {
      base := hB ▸ C.mono _ _ G.base (hid_less less)
      low := fun b m => G.low b (less b m)
      mT := fun b e => by rw [hT] at e; cases e
      tray := trivial }
    have r' : RepL C' s.heap M' [.ref a] [.lst xs] := ⟨.lst (l.at fun o e => hid_get e nM) ((q.up (hid_less less)).cx hb hw), trivial⟩
    rw [hp, hw]
    refine wpAny_mono (h A R M' s [.ref a] G' r') (fun v' s' zz => and3 zz fun _ r2 k => ?_) fun _ _ x => x
    have e := rep_none r2
    subst e
    obtain ⟨h', tk, e, k⟩ := k
    have K : Keeps s s' := ⟨h', tk, e, fun b o e => k b o (by rw [hT]; exact fun q => nomatch q) e⟩
    exact ⟨G.keeps K, .none, .of K⟩

noncomputable def foldO {α β : Type} (g : β → α → Option β) : List α → β → Option β
  | [], b => some b
  | x :: r, b => match g b x with
    | none => none
    | some b' => foldO g r b'
theorem FRun_opt {α β : Type} {B : V → List (Str × V) → Option Nat → (Out → Prop) → Prop} {τ : Option Nat} {P : Out → Prop} (f : α → V) (g : β → α → Option β) (R : β → List (Str × V) → Prop) (y0 : V) : ∀ {l : List α} {b : β} {σ : List (Str × V)}, R b σ →
    (∀ x ∈ l, ∀ b σ, R b σ → ∀ P' : Out → Prop, (g b x = none → P' (.ret y0 τ)) → (∀ b', g b x = some b' → ∀ σ', R b' σ' → P' (.next σ' τ)) → B (f x) σ τ P') → (foldO g l b = none → P (.ret y0 τ)) → (∀ b', foldO g l b = some b' → ∀ σ', R b' σ' → P (.next σ' τ)) → FRun B (l.map f) σ τ P
  | [], b, σ, h0, step, hn, fin => fin b rfl σ h0
  | x :: r, b, σ, h0, step, hn, fin => step x List.mem_cons_self b σ h0 _ (fun e => hn (by rw [foldO, e])) fun b' e σ' h' => FRun_opt f g R y0 h' (fun y hy => step y (List.mem_cons_of_mem _ hy)) (fun e2 => hn (by rw [foldO, e]; exact e2)) (fun b2 e2 => fin b2 (by rw [foldO, e]; exact e2))

open Classical in
noncomputable def eraseT (t : Tm) : List Tm → List Tm
  | [] => []
  | u :: r => if u = t then r else u :: eraseT t r
open Classical in
noncomputable def without1 (l : List Tm) (t : Tm) : Option (List Tm) := if t ∈ l then some (eraseT t l) else none
noncomputable def withoutT (rest some : List Tm) : Option (List Tm) := foldO without1 some rest
theorem eraseT_v {t : Tm} (ht : t.good = true) : ∀ {l : List Tm}, (∀ u ∈ l, u.good = true) → eraseV t.v (l.map Tm.v) = (eraseT t l).map Tm.v
  | [], _ => rfl
  | u :: r, h => by
    have ih := eraseT_v ht (l := r) fun x hx => h x (List.mem_cons_of_mem _ hx)
    have c := Tm.cmp (h u List.mem_cons_self) ht
    rw [List.map_cons]; unfold eraseV eraseT
    by_cases q : u = t
    · rw [if_pos (c.mpr q), if_pos q]
    · rw [if_neg (fun e => q (c.mp e)), if_neg q, ih]; rfl
theorem eraseT_perm {t : Tm} : ∀ {l : List Tm}, t ∈ l → l.Perm (t :: eraseT t l)
  | u :: r, h => by
    unfold eraseT
    by_cases q : u = t
    · rw [if_pos q, q]
    · rw [if_neg q]
      rcases List.mem_cons.mp h with e | h
      · exact absurd e.symm q
      · exact ((eraseT_perm h).cons u).trans (.swap ..)
theorem eraseT_mem {t u : Tm} : ∀ {l : List Tm}, u ∈ eraseT t l → u ∈ l
  | x :: r, h => by
    unfold eraseT at h
    split at h
    · exact List.mem_cons_of_mem _ h
    · rcases List.mem_cons.mp h with e | h
      · exact e ▸ List.mem_cons_self
      · exact List.mem_cons_of_mem _ (eraseT_mem h)
theorem eraseT_len {t : Tm} : ∀ {l : List Tm}, (eraseT t l).length ≤ l.length
  | [] => Nat.le_refl _
  | x :: r => by
    unfold eraseT
    split
    · simp
    · have := eraseT_len (t := t) (l := r); simp only [List.length_cons]; (first | lia | omega)
theorem mem_any {t : Tm} (ht : t.good = true) : ∀ {l : List Tm}, (∀ u ∈ l, u.good = true) → (((pyL (l.map Tm.v)).any fun y => PyData.eqv y t.v.py) = true ↔ t ∈ l) := by
  intro l
  induction l with
  | nil => intro _; simp [pyL]
  | cons u r ih =>
    intro h
    have c := Tm.eqv (h u List.mem_cons_self) ht
    have := ih fun x hx => h x (List.mem_cons_of_mem _ hx)
    simp only [List.map_cons, pyL, List.any_cons, Bool.or_eq_true, this, c, List.mem_cons]
    constructor
    · rintro (e | e)
      · exact .inl e.symm
      · exact .inr e
    · rintro (e | e)
      · exact .inl e.symm
      · exact .inr e
theorem srtL_v {l : List Tm} (h : ∀ u ∈ l, u.good = true) : srtL (l.map Tm.v) = true := srtL_map fun u hu => Tm.srt (h u hu)
theorem fine_seq {l : List Tm} (h : ∀ u ∈ l, u.good = true) : (V.tup (l.map Tm.v)).fine = true := srt_fine (by simp [V.srt, srtL_v h])
theorem fine_lst {l : List Tm} (h : ∀ u ∈ l, u.good = true) : (V.lst (l.map Tm.v)).fine = true := by
  have a := srtL_plain (srtL_v h)
  have b := srtL_lay (srtL_v h)
  unfold V.fine
  have e1 : (V.lst (l.map Tm.v)).plain = plainL (l.map Tm.v) := rfl
  have e2 : (V.lst (l.map Tm.v)).py.canLay0 = PyData.canLayAll0 (pyL (l.map Tm.v)) := by simp [V.py, PyData.canLay0]
  rw [e1, e2, a, b]; rfl
noncomputable def optV : Option (List Tm) → V
  | none => .none
  | some l => .tup (l.map Tm.v)

section
variable {w : World} {mg mb : Str → Option Value} {T : Option Addr} {cells : List V} {n : Nat} {ops : List Str}
theorem spec_without {rest some : List Tm} (hr : ∀ t ∈ rest, Sm t) (hs : ∀ t ∈ some, Sm t) (lr : rest.length ≤ 400) (τ : Option Nat) : FnSpec (cx1 w mg mb T cells) (n + 1) (.ref 106) [.tup (rest.map Tm.v), .tup (some.map Tm.v)] τ (optV (withoutT rest some)) τ := by
  have D : FnData (cx1 w mg mb T cells) 106 _ _ ["rest", "some"] := fnData_of rfl rfl rfl rfl rfl rfl rfl rfl rfl (bindL2 rfl fun _ _ => rfl) rfl (by decide)
  refine fn_spec D rfl (by simp [own_tup]) fun L cs => ?_
  refine Ex_cons (Ex1_assign_own (ys := rest.map Tm.v) (EvN_list_call b_list (Ev_name rfl rfl) rfl (by rw [List.length_map, sizeLine_eq]; (first | lia | omega)) rfl) rfl ?_)
  refine Ex_cons (Ex1_for (items := some.map Tm.v) (τ₁ := τ) (IterE.of (Ev_name rfl rfl) IterOf_tup) ?_)
  refine FRun_opt (β := List Tm) Tm.v without1 (R := fun b σ => σ.lookup ("left" : Str) = Option.some (.oL (b.map Tm.v)) ∧ (∀ t ∈ b, Sm t) ∧ b.length ≤ 400) .none ⟨lookup_cons_eq, hr, lr⟩ (fun x hx b σ hR P' hn hP' => ?_) (fun hn => ?_) (fun b' hb σ' hR => ?_)
  · obtain ⟨hl, hg, hlen⟩ := hR
    have xg := (hs x hx).good
    have bg : ∀ u ∈ b, u.good = true := fun u hu => (hg u hu).good
    have xh := (hs x hx).ht
    refine FTurn_name (Ex_cons (Ex1_if (c := !((pyL (b.map Tm.v)).any fun y => PyData.eqv y x.v.py)) (Tst_cmp (Ev_name lookup_cons_eq rfl) (Ev_name (lk hl rfl) rfl) (Cmp_notIn_oL (srt_fine (Tm.srt xg)) (fine_lst bg) (by rw [py_dep (srt_plain (Tm.srt xg)), Tm.dep]; (first | lia | omega)) rfl)) (fun hc => ?_) (fun hc => ?_)))
    · refine Ex_cons (Ex1_return Ev_none rfl (hn ?_))
      unfold without1
      rw [if_neg]
      intro q
      rw [(mem_any xg bg).mpr q] at hc; cases hc
    · have q : x ∈ b := by
        refine (mem_any xg bg).mp ?_
        cases e : ((pyL (b.map Tm.v)).any fun y => PyData.eqv y x.v.py) with
        | true => rfl
        | false => rw [e] at hc; cases hc
      refine Ex_nil (Ex_cons (Ex1_remove (Ev_name lookup_cons_eq rfl) (lk hl rfl) (fun z hz => ?_) (Tm.srt xg) (fun z hz => ?_) ⟨x.v, List.mem_map.mpr ⟨x, q, rfl⟩, (Tm.cmp xg xg).mpr rfl⟩ (by rw [List.length_map, sizeLine_eq]; (first | lia | omega)) (Ex_nil (hP' (eraseT x b) (by unfold without1; rw [if_pos q]) _ ⟨?_, fun u hu => hg u (eraseT_mem hu), ?_⟩)) rfl))
      · obtain ⟨u, hu, rfl⟩ := List.mem_map.mp hz; exact Tm.srt (bg u hu)
      · obtain ⟨u, hu, rfl⟩ := List.mem_map.mp hz; rw [Tm.dep]; have := (hg u hu).ht; (first | lia | omega)
      · rw [lookup_cons_eq, eraseT_v xg bg]
      · have := eraseT_len (t := x) (l := b); (first | lia | omega)
  · have e : withoutT rest some = none := hn
    rw [e]
    exact ⟨rfl, rfl⟩
  · have e : withoutT rest some = Option.some b' := hb
    rw [e]
    exact Ex_cons (Ex1_return (Ev_type b_tuple (Bu_tuple (xs := b'.map Tm.v) rfl (by rw [List.length_map, sizeLine_eq]; have := hR.2.2; (first | lia | omega))) (EvL_cons (Ev_name hR.1 rfl) EvL_nil) rfl) rfl ⟨rfl, rfl⟩)

theorem spec_want_few' {xs : List V} (hl : xs.length ≤ 4096) (τ : Option Nat) : FnSpec (cx1 w mg mb T cells) (n + 1) (.ref 113) [.lst xs] τ .none τ := by
  have D : FnData (cx1 w mg mb T cells) 113 _ _ ["ways"] := fnData_of rfl rfl rfl rfl rfl rfl rfl rfl rfl (bindL1 rfl fun _ => rfl) rfl (by decide)
  refine fn_spec D rfl (by simp [own_lst]) fun L cs => ?_
  refine Ex_cons (Ex1_if (c := false) (τ₁ := τ) (Tst_cmp (Ev_builtin b_len (Bu_len (xs := xs) rfl (by rw [sizeLine_eq]; (first | lia | omega))) (EvL_cons (Ev_name rfl rfl) EvL_nil) rfl) (Ev_glob_int g_MOST rfl) (Cmp_gt_int (decide_eq_false (by (first | lia | omega))))) (fun hc => by cases hc) (fun _ => Ex_nil (Ex_nil ⟨rfl, rfl⟩)))
theorem spec_want_few {xs : List V} (hl : xs.length ≤ 4096) (τ : Option Nat) : FnSpec (cx1 w mg mb T cells) (n + 1) (.ref 113) [.oL xs] τ .none τ :=
  FnSpec_own (C := cx1 w mg mb T cells) (C' := cx1 w mg mb none cells) rfl rfl rfl rfl rfl (spec_want_few' hl _)
end
end Mine
namespace Mine

noncomputable def flat (ops : List Str) (op : Str) (t : Tm) : Prop := ¬ (t.f = op ∧ isBag ops t = true)
theorem kidsT_flat1 {ops : List Str} {op : Str} {t : Tm} (h : flat ops op t) : kidsT ops op t = [t] := by
  obtain ⟨f, ks⟩ := t
  have h' : ¬ (f = op ∧ isBag ops (.mk f ks) = true) := h
  unfold kidsT; rw [if_neg h']
theorem kidsT_bag1 {ops : List Str} {op : Str} {t : Tm} (h : t.f = op ∧ isBag ops t = true) : kidsT ops op t = kidsL ops op t.ks := by
  obtain ⟨f, ks⟩ := t
  have h' : f = op ∧ isBag ops (.mk f ks) = true := h
  unfold kidsT; rw [if_pos h']; rfl
mutual
theorem kidsT_flat (ops : List Str) (op : Str) : ∀ t : Tm, ∀ u ∈ kidsT ops op t, flat ops op u
  | .mk f ks, u, hu => by
    unfold kidsT at hu
    split at hu
    · exact kidsL_flat ops op ks u hu
    · rename_i h
      simp at hu; subst hu; exact h
theorem kidsL_flat (ops : List Str) (op : Str) : ∀ ks : List Tm, ∀ u ∈ kidsL ops op ks, flat ops op u
  | [], u, hu => nomatch hu
  | t :: r, u, hu => by
    rcases List.mem_append.mp hu with hu | hu
    · exact kidsT_flat ops op t u hu
    · exact kidsL_flat ops op r u hu
end
theorem kidsL_flats {ops : List Str} {op : Str} : ∀ {l : List Tm}, (∀ u ∈ l, flat ops op u) → kidsL ops op l = l
  | [], _ => rfl
  | t :: r, h => by
    rw [kidsL, kidsT_flat1 (h t List.mem_cons_self), kidsL_flats fun u hu => h u (List.mem_cons_of_mem _ hu)]; rfl
theorem isBag_mk {ops : List Str} {f : Str} {ks : List Tm} : isBag ops (.mk f ks) = (ops.contains f && decide (1 < ks.length)) := rfl
theorem norm_bag0 {ops : List Str} {t : Tm} (h : isBag ops t = true) : normT ops t = .mk t.f (ordT (kidsL ops t.f (normL ops t.ks))) := by
  obtain ⟨f, ks⟩ := t
  have e : normT ops (.mk f ks) = madeT ops f (normL ops ks) := by unfold normT; rw [if_pos h]
  rw [e]
  have l := kidsL_ne ops f (normL ops ks)
  have l2 : (normL ops ks).length = ks.length := by rw [normL_eq, List.length_map]
  rw [isBag_mk, Bool.and_eq_true, decide_eq_true_eq] at h
  rcases madeT_eq ops f (normL ops ks) with ⟨x, e, _⟩ | ⟨_, e⟩
  · have := congrArg List.length e
    rw [ordT_len] at this
    simp at this; (first | lia | omega)
  · exact e
theorem norm_nobag {ops : List Str} {t : Tm} (h : isBag ops t = false) : normT ops t = .mk t.f (t.ks.map (normT ops)) := by
  obtain ⟨f, ks⟩ := t
  unfold normT; rw [if_neg (by rw [h]; decide), normL_eq]; rfl
theorem norm_f {ops : List Str} {t : Tm} : (normT ops t).f = t.f := by
  cases h : isBag ops t with
  | true => rw [norm_bag0 h]; rfl
  | false => rw [norm_nobag h]; rfl
theorem norm_isBag {ops : List Str} {t : Tm} : isBag ops (normT ops t) = isBag ops t := by
  obtain ⟨f, ks⟩ := t
  cases h : isBag ops (.mk f ks) with
  | true =>
    rw [norm_bag0 h, isBag_mk]
    have l := kidsL_ne ops f (normL ops ks)
    have l2 : (normL ops ks).length = ks.length := by rw [normL_eq, List.length_map]
    rw [isBag_mk, Bool.and_eq_true, decide_eq_true_eq] at h
    rw [Bool.and_eq_true]
    refine ⟨h.1, decide_eq_true ?_⟩
    rw [ordT_len]
    show 1 < (kidsL ops f (normL ops ks)).length
    (first | lia | omega)
  | false =>
    rw [norm_nobag h, isBag_mk]
    rw [isBag_mk] at h
    show (ops.contains f && decide (1 < (ks.map (normT ops)).length)) = false
    rw [List.length_map]; exact h
theorem norm_flat {ops : List Str} {op : Str} {t : Tm} (h : flat ops op t) : flat ops op (normT ops t) := by
  unfold flat; rw [norm_f, norm_isBag]; exact h
mutual
theorem kids_norm (ops : List Str) (op : Str) : ∀ t : Tm, (kidsT ops op (normT ops t)).Perm ((kidsT ops op t).map (normT ops))
  | .mk f ks => by
    by_cases h : (Tm.mk f ks).f = op ∧ isBag ops (.mk f ks) = true
    · have hn : (normT ops (.mk f ks)).f = op ∧ isBag ops (normT ops (.mk f ks)) = true := by rw [norm_f, norm_isBag]; exact h
      rw [kidsT_bag1 hn, kidsT_bag1 h, norm_bag0 h.2]
      have e : f = op := h.1
      subst e
      show (kidsL ops f (ordT (kidsL ops f (normL ops ks)))).Perm ((kidsL ops f ks).map (normT ops))
      rw [kidsL_flats fun u hu => kidsL_flat ops f _ u ((ordT_perm _).mem_iff.mp hu)]
      exact (ordT_perm _).trans (kids_normL ops f ks)
    · rw [kidsT_flat1 h, kidsT_flat1 (norm_flat h)]
      exact .refl _
theorem kids_normL (ops : List Str) (op : Str) : ∀ ks : List Tm, (kidsL ops op (normL ops ks)).Perm ((kidsL ops op ks).map (normT ops))
  | [] => .refl _
  | t :: r => by
    simp only [normL, kidsL, List.map_append]
    exact (kids_norm ops op t).append (kids_normL ops op r)
end
theorem norm_bag {ops : List Str} {t : Tm} (g : t.good = true) (h : isBag ops t = true) : normT ops t = .mk t.f (ordT ((kidsT ops t.f t).map (normT ops))) := by
  rw [norm_bag0 h, kidsT_bag1 ⟨rfl, h⟩]
  congr 1
  refine ordT_congr (fun u hu => kidsL_good (fun x hx => ?_) u hu) (kids_normL ops t.f t.ks)
  exact goodL_iff.mp (normL_good ops _ (Tm.good_ks g)) x hx

inductive NF (ops : List Str) : Tm → Prop
  | mk {f : Str} {ks : List Tm} : (∀ u ∈ ks, NF ops u) → (isBag ops (.mk f ks) = true → (∀ u ∈ ks, flat ops f u) ∧ ordT ks = ks) → NF ops (.mk f ks)
theorem NF.kid {ops : List Str} {t u : Tm} (h : NF ops t) (hu : u ∈ t.ks) : NF ops u := by
  cases h with
  | mk a b => exact a u hu
theorem NF.bag {ops : List Str} {t : Tm} (h : NF ops t) (hb : isBag ops t = true) : (∀ u ∈ t.ks, flat ops t.f u) ∧ ordT t.ks = t.ks := by
  cases h with
  | mk a b => exact b hb
theorem NF_norm {ops : List Str} : ∀ (d : Nat) (t : Tm), t.ht ≤ d → t.good = true → NF ops (normT ops t) := by
  intro d
  induction d with
  | zero => intro t hd; have := ht_pos t; (first | lia | omega)
  | succ d ih =>
    intro t hd g
    cases h : isBag ops t with
    | true =>
      have gk : ∀ u ∈ (kidsT ops t.f t).map (normT ops), u.good = true := fun u hu => by
        obtain ⟨x, hx, rfl⟩ := List.mem_map.mp hu
        refine normT_good ops x (kidsT_all (Pr := fun t => t.good = true) (fun t h => good_kids h) ops t.f t g x hx)
      rw [norm_bag g h]
      refine NF.mk (fun u hu => ?_) fun hb => ⟨fun u hu => ?_, ordT_idem gk⟩
      · obtain ⟨x, hx, rfl⟩ := List.mem_map.mp ((ordT_perm _).mem_iff.mp hu)
        refine ih x ?_ (kidsT_all (Pr := fun t => t.good = true) (fun t h => good_kids h) ops t.f t g x hx)
        rw [kidsT_bag1 ⟨rfl, h⟩] at hx
        exact kidsL_ht (fun y hy => sm_ht hd hy) x hx
      · obtain ⟨x, hx, rfl⟩ := List.mem_map.mp ((ordT_perm _).mem_iff.mp hu)
        exact norm_flat (kidsT_flat ops t.f t x hx)
    | false =>
      have hb := norm_isBag (ops := ops) (t := t)
      rw [norm_nobag h] at hb ⊢
      refine NF.mk (fun u hu => ?_) fun q => by rw [hb, h] at q; cases q
      obtain ⟨x, hx, rfl⟩ := List.mem_map.mp hu
      exact ih x (sm_ht hd hx) (good_kids g x hx)

theorem foldO_app {α β : Type} {g : β → α → Option β} : ∀ {a c : List α} {b : β}, foldO g (a ++ c) b = (foldO g a b).bind (foldO g c)
  | [], c, b => rfl
  | x :: a, c, b => by
    rw [List.cons_append, foldO, foldO]
    cases g b x with
    | none => rfl
    | some b' => exact foldO_app
theorem without_perm : ∀ {s l l' : List Tm}, withoutT l s = some l' → l.Perm (s ++ l')
  | [], l, l', h => by cases h; exact .refl _
  | t :: s, l, l', h => by
    unfold withoutT at h
    rw [foldO] at h
    unfold without1 at h
    by_cases q : t ∈ l
    · rw [if_pos q] at h
      exact (eraseT_perm q).trans ((without_perm (s := s) h).cons t)
    · rw [if_neg q] at h; cases h
theorem without_of : ∀ {s l l'' : List Tm}, l.Perm (s ++ l'') → ∃ l', withoutT l s = some l' ∧ l'.Perm l''
  | [], l, l'', h => ⟨l, rfl, h⟩
  | t :: s, l, l'', h => by
    have q : t ∈ l := h.mem_iff.mpr List.mem_cons_self
    have p : (eraseT t l).Perm (s ++ l'') := ((eraseT_perm q).symm.trans h).cons_inv
    obtain ⟨l', e, r⟩ := without_of (s := s) p
    refine ⟨l', ?_, r⟩
    unfold withoutT
    rw [foldO]
    unfold without1
    rw [if_pos q]; exact e
theorem without_all {s l : List Tm} : withoutT l s = some [] ↔ l.Perm s := by
  constructor
  · intro h; simpa using without_perm h
  · intro h
    obtain ⟨l', e, r⟩ := without_of (s := s) (l := l) (l'' := []) (by simpa using h)
    rw [e, r.eq_nil]
open Classical in
noncomputable def sol (b : Prop) : List Unit := if b then [()] else []
theorem sol_yes {b : Prop} (h : b) : sol b = [()] := if_pos h
theorem sol_no {b : Prop} (h : ¬ b) : sol b = [] := if_neg h
theorem sol_congr {a b : Prop} (h : a ↔ b) : sol a = sol b := by
  by_cases q : a
  · rw [sol_yes q, sol_yes (h.mp q)]
  · rw [sol_no q, sol_no fun r => q (h.mpr r)]
open Classical in
noncomputable def addT (m : List Tm) (t : Tm) : List Tm := if t ∈ m then m else m ++ [t]
noncomputable def nubT (l : List Tm) : List Tm := l.foldl addT []
theorem nub_go (l : List Tm) : ∀ m : List Tm, m.Nodup → (l.foldl addT m).Nodup ∧ (∀ u, u ∈ l.foldl addT m ↔ u ∈ m ∨ u ∈ l) ∧ (l.foldl addT m).length ≤ m.length + l.length := by
  induction l with
  | nil => intro m h; exact ⟨h, fun u => by simp, by simp⟩
  | cons t r ih =>
    intro m h
    simp only [List.foldl_cons]
    by_cases q : t ∈ m
    · have e : addT m t = m := by unfold addT; rw [if_pos q]
      rw [e]
      obtain ⟨a, b, c⟩ := ih m h
      refine ⟨a, fun u => (b u).trans ?_, by simp only [List.length_cons]; (first | lia | omega)⟩
      constructor
      · rintro (e | e)
        · exact .inl e
        · exact .inr (List.mem_cons_of_mem _ e)
      · rintro (e | e)
        · exact .inl e
        · rcases List.mem_cons.mp e with rfl | e
          · exact .inl q
          · exact .inr e
    · have e : addT m t = m ++ [t] := by unfold addT; rw [if_neg q]
      rw [e]
      obtain ⟨a, b, c⟩ := ih (m ++ [t]) (by rw [List.nodup_append]; exact ⟨h, by simp, fun x hx y hy => by simp at hy; subst hy; intro e; exact q (e ▸ hx)⟩)
      refine ⟨a, fun u => (b u).trans ?_, by simp only [List.length_cons, List.length_append, List.length_nil] at c ⊢; (first | lia | omega)⟩
      simp only [List.mem_append, List.mem_cons, List.not_mem_nil, or_false, or_assoc]
theorem nub_nodup (l : List Tm) : (nubT l).Nodup := (nub_go l [] .nil).1
theorem nub_mem {l : List Tm} {u : Tm} : u ∈ nubT l ↔ u ∈ l := ((nub_go l [] .nil).2.1 u).trans (by simp)
theorem nub_len (l : List Tm) : (nubT l).length ≤ l.length := by have := (nub_go l [] .nil).2.2; simpa [nubT] using this
theorem putV_nub (m : List Tm) (t : Tm) (z : V) : putV t.v z (m.map fun u => (u.v, z)) = (addT m t).map fun u => (u.v, z) := by
  unfold putV addT
  have e : t.v ∈ (m.map fun u => (u.v, z)).map (·.1) ↔ t ∈ m := by
    rw [List.map_map]
    constructor
    · intro h
      obtain ⟨u, hu, e⟩ := List.mem_map.mp h
      exact Tm.v_inj e ▸ hu
    · intro h; exact List.mem_map.mpr ⟨t, h, rfl⟩
  by_cases q : t ∈ m
  · rw [if_pos (e.mpr q), if_pos q, List.map_map]
    apply List.map_congr_left
    intro u _
    simp only [Function.comp]
    split
    · rfl
    · rfl
  · rw [if_neg (fun h => q (e.mp h)), if_neg q, List.map_append]; rfl
theorem fromPairs_nub (l : List Tm) (z : V) : fromPairs (l.map fun u => (u.v, z)) = (nubT l).map fun u => (u.v, z) := by
  unfold fromPairs nubT
  have go : ∀ (l m : List Tm), (l.map fun u => (u.v, z)).foldl (fun m p => putV p.1 p.2 m) (m.map fun u => (u.v, z)) = (l.foldl addT m).map fun u => (u.v, z) := by
    intro l
    induction l with
    | nil => intro m; rfl
    | cons t r ih => intro m; simp only [List.map_cons, List.foldl_cons]; rw [putV_nub, ih]
  exact go l []
theorem flat_one {α : Type} {x : Tm} (h : Tm → α) : ∀ {l : List Tm}, l.Nodup → (l.flatMap fun u => (sol (x = u)).map fun _ => h u) = (sol (x ∈ l)).map fun _ => h x
  | [], _ => by rw [sol_no (by simp)]; rfl
  | u :: r, nd => by
    have nd' := List.nodup_cons.mp nd
    rw [List.flatMap_cons, flat_one h nd'.2]
    by_cases q : x = u
    · subst q
      rw [sol_yes rfl, sol_no nd'.1, sol_yes List.mem_cons_self]; rfl
    · rw [sol_no q]
      rw [sol_congr (a := x ∈ u :: r) (b := x ∈ r) ⟨fun h => (List.mem_cons.mp h).resolve_left q, List.mem_cons_of_mem _⟩]; rfl
end Mine
namespace Mine

theorem own_bool {i : Bool} : (V.bool i).own = false := rfl
noncomputable def extV (b : Prop) : V := .lst ((sol b).map fun _ => V.dct [])
noncomputable def rowsL : Option (List Tm) → List V
  | none => []
  | some l => [.tup [.dct [], .tup (l.map Tm.v)]]
theorem FRun_sol {B : V → List (Str × V) → Option Nat → (Out → Prop) → Prop} {τ : Option Nat} {P : Out → Prop} {σ : List (Str × V)} {b : Prop} {x : V} (h1 : b → B x σ τ P) (h0 : ¬ b → P (.next σ τ)) : FRun B ((sol b).map fun _ => x) σ τ P := by
  by_cases q : b
  · rw [sol_yes q]
    show B x σ τ (fun o => match o with | .next σ' τ' => P (.next σ' τ') | o => P o)
    have e : (fun o => match o with | .next σ' τ' => P (.next σ' τ') | o => P o) = P := by
      funext o; cases o <;> rfl
    rw [e]; exact h1 q
  · rw [sol_no q]; exact h0 q
theorem FRun_rows {B : V → List (Str × V) → Option Nat → (Out → Prop) → Prop} {τ : Option Nat} {P : Out → Prop} {σ : List (Str × V)} {o : Option (List Tm)} (h1 : ∀ l, o = some l → B (.tup [.dct [], .tup (l.map Tm.v)]) σ τ P) (h0 : o = none → P (.next σ τ)) : FRun B (rowsL o) σ τ P := by
  cases o with
  | some l =>
    show B _ σ τ (fun o => match o with | .next σ' τ' => P (.next σ' τ') | o => P o)
    have e : (fun o => match o with | .next σ' τ' => P (.next σ' τ') | o => P o) = P := by
      funext o; cases o <;> rfl
    rw [e]; exact h1 l rfl
  | none => exact h0 rfl
structure Kd (ops : List Str) (op : Str) (u : Tm) : Prop where
  sm : Sm u
  size : u.size < 60
  ht : u.ht ≤ 8
  fl : flat ops op u
  nf : NF ops u
theorem made_one {ops : List Str} {op : Str} {u : Tm} (h : flat ops op u) : madeT ops op [u] = u := by
  have e : kidsL ops op [u] = [u] := kidsL_flats fun x hx => by simp at hx; subst hx; exact h
  unfold madeT
  rw [e]; rfl
theorem without_one {l : List Tm} {u : Tm} (h : u ∈ l) : withoutT l [u] = some (eraseT u l) := by
  unfold withoutT
  rw [foldO]; unfold without1; rw [if_pos h]; rfl

section
variable {w : World} {mg mb : Str → Option Value} {T : Option Addr} {cells : List V} {n : Nat} {ops : List Str}
theorem spec_taken (ho : okOps ops = true) {op : Str} (hop : okName op = true) {q x : Tm} (hq : Sm q) {left : List Tm} (hl : ∀ u ∈ left, Kd ops op u) (ln : left.length ≤ 60) {b : Bool} {m : Nat} (hm : 46 ≤ m) (τ : Option Nat)
    (H : ∀ u ∈ left, FnSpec (cx1 w mg mb T cells) m (.ref 173) [.self (opsV ops), .dct [], q.v, u.v] τ (extV (x = u)) τ) :
    FnSpec (cx1 w mg mb T cells) (m + 1) (.ref 183) [.self (opsV ops), .dct [], .str op, q.v, .tup (left.map Tm.v), .bool b] τ (.lst (rowsL (without1 left x))) τ := by
  have D : FnData (cx1 w mg mb T cells) 183 _ _ ["self", "table", "op", "pattern", "rest", "is_last"] := fnData_of rfl rfl rfl rfl rfl rfl rfl rfl rfl (bindL6 rfl fun _ _ _ _ _ _ => rfl) rfl (by decide)
  refine fn_spec D rfl (by simp [own_self, own_dct, own_str, own_tup, own_bool, Tm.own]) fun L cs => ?_
  have nl := nub_len left
  have kin : ∀ u ∈ nubT left, Kd ops op u := fun u hu => hl u (nub_mem.mp hu)
  refine Ex_cons (Ex1_if (c := true) (τ₁ := τ) (Tst_not (b := false) (Tst_val (Ev_call g_is_variable (isFun_of rfl) ((spec_is_variable (n := 0) hq).le (by (first | lia | omega))) (EvL_cons (Ev_name rfl rfl) EvL_nil) rfl))) (fun _ => ?_) (fun h => by cases h))
  have ekz : left.map (fun u => (u.v, V.bool true)) = (left.map fun u => (u.v, V.bool true)) := rfl
  have edict : BuSpec (cx1 w mg mb T cells) m (.type "dict") [.lst (left.map fun u => pairV (u.v, V.bool true))] (.dct ((nubT left).map fun u => (u.v, V.bool true))) := by
    have := Bu_dict_pairs (C := cx1 w mg mb T cells) (n := m) (kzs := left.map fun u => (u.v, V.bool true)) (fun p hp => by obtain ⟨u, hu, rfl⟩ := List.mem_map.mp hp; exact Tm.keyOk (hl u hu).sm.good (hl u hu).ht) (by rw [List.length_map, sizeLine_eq]; (first | lia | omega))
    rw [fromPairs_nub, List.map_map] at this
    exact this
  refine Ex_cons (Ex1_comp1 (τ₁ := τ) (τ₂ := τ) (items := (nubT left).map Tm.v) (ys := (nubT left).map fun u => V.tup [u.v]) (σ' := []) (IterE.of (x := .lst ((nubT left).map Tm.v))
    (Ev_eq (Ev_type b_list (Bu_list_dct (by rw [List.length_map, sizeLine_eq]; (first | lia | omega))) (EvL_cons (Ev_type b_dict edict (EvL_cons (EvN.ev (EvN_comp1 (τ₁ := τ) (items := left.map Tm.v) (σ' := []) (IterE.of (Ev_name rfl rfl) IterOf_tup) Filt.nil ?_ (by rw [List.length_map, sizeLine_eq]; (first | lia | omega)))) EvL_nil) rfl) EvL_nil) rfl) (by rw [List.map_map]; rfl)) IterOf_lst) Filt.nil ?_ (by rw [List.length_map, sizeLine_eq]; (first | lia | omega)) (Ex_nil ?_))
  · exact Turns.over fun u hu => CTurn_name (CAct_emit (fun L cs => Ev_tuple (ys := [u.v, .bool true]) (EvL_cons (Ev_name rfl rfl) (EvL_cons Ev_bool EvL_nil)) (by simp [pure_bool, Tm.pure]) (by simp)) rfl rfl)
  · exact Turns.over fun u hu => CTurn_name (CAct_emit (fun L cs => Ev_tuple (ys := [u.v]) (EvL_cons (Ev_name rfl rfl) EvL_nil) (by simp [Tm.pure]) (by simp)) rfl rfl)
  refine Ex_freeze lookup_cons_eq rfl ?_
  refine Ex_cons (Ex1_assign_own (ys := []) (EvN_list EvL_nil rfl (by simp)) rfl ?_)
  refine Ex_cons (Ex1_for (items := (nubT left).map fun u => V.tup [u.v]) (τ₁ := τ) (IterE.of (Ev_name (lk lookup_cons_eq rfl) rfl) IterOf_lst) ?_)
  let f : Tm → List V := fun u => (sol (x = u)).map fun _ => V.tup [.dct [], .tup ((eraseT u left).map Tm.v)]
  have fl : ∀ u, (f u).length ≤ 1 := fun u => by
    by_cases h : x = u
    · simp [f, sol_yes h]
    · simp [f, sol_no h]
  have fml : ∀ l : List Tm, (l.flatMap f).length ≤ l.length := by
    intro l
    induction l with
    | nil => simp
    | cons u r ih => rw [List.flatMap_cons, List.length_append, List.length_cons]; have := fl u; (first | lia | omega)
  refine FRun_ind (I := fun i σ => σ.lookup ("found" : Str) = some (V.oL (((nubT left).take i).flatMap f)) ∧ σ.lookup ("self" : Str) = some (.self (opsV ops)) ∧ σ.lookup ("rest" : Str) = some (.tup (left.map Tm.v)) ∧ σ.lookup ("table" : Str) = some (.dct []) ∧ σ.lookup ("pattern" : Str) = some q.v ∧ σ.lookup ("op" : Str) = some (.str op)) ⟨rfl, rfl, rfl, rfl, rfl, rfl⟩ (fun i y σ hy hI P' hP' => ?_) (fun σ' hI => ?_)
  · obtain ⟨i1, i2, i3, i4, i5, i6⟩ := hI
    rw [List.getElem?_map] at hy
    cases hu : (nubT left)[i]? with
    | none => rw [hu] at hy; cases hy
    | some u =>
      rw [hu] at hy
      cases hy
      have um : u ∈ nubT left := List.mem_of_getElem? hu
      have ul : u ∈ left := nub_mem.mp um
      have ku := kin u um
      have el := eraseT_len (t := u) (l := left)
      have ew : optV (withoutT left [u]) = .tup ((eraseT u left).map Tm.v) := by rw [without_one ul]; rfl
      refine FTurn_name (Ex_cons (Ex1_assign (τ₁ := τ) (y := .tup ((eraseT u left).map Tm.v)) (ew ▸ Ev_call g_without (isFun_of rfl) ((spec_without (n := 0) (some := [u]) (fun t ht => (hl t ht).sm) (fun t ht => by simp at ht; subst ht; exact ku.sm) (by (first | lia | omega)) τ).le (by (first | lia | omega))) (EvL_cons (Ev_name (lk i3 rfl) rfl) (EvL_cons (Ev_name lookup_cons_eq rfl) EvL_nil)) rfl) rfl rfl ?_))
      refine Ex_cons (Ex1_if (c := true) (τ₁ := τ) (Tst_cmp (Ev_name lookup_cons_eq rfl) Ev_none (Cmp_isNot_none rfl rfl)) (fun _ => ?_) (fun h => by cases h))
      have sp := spec_made (w := w) (mg := mg) (mb := mb) (T := T) (cells := cells) (n := 0) ho hop (l := [u]) (fun t ht => by simp at ht; subst ht; exact ku.sm) (by have := ku.size; simp only [sizeL]; (first | lia | omega)) (x := .tup [u.v]) (.inr rfl) τ
      rw [made_one ku.fl] at sp
      refine Ex_cons (Ex1_extend (τ₁ := τ) (ys := f u) (EvN.ev (EvN_comp1 (items := (sol (x = u)).map fun _ => V.dct []) (σ' := [("left", .tup ((eraseT u left).map Tm.v))])
        (IterE.of (Ev_method m_extended (H u ul) (EvL_cons (Ev_name (lk (lk i4 rfl) rfl) rfl) (EvL_cons (Ev_name (lk (lk i5 rfl) rfl) rfl) (EvL_cons (Ev_method m_made (sp.le (by (first | lia | omega))) (EvL_cons (Ev_name (lk (lk i6 rfl) rfl) rfl) (EvL_cons (Ev_name (lk lookup_cons_eq rfl) rfl) EvL_nil)) (lk (lk i2 rfl) rfl) rfl) EvL_nil))) (lk (lk i2 rfl) rfl) rfl) IterOf_lst)
        (Filt.add Filt.nil rfl lookup_cons_eq rfl) ?_ (by have := fl u; rw [sizeLine_eq]; (first | lia | omega)))) (lk (lk i1 rfl) rfl) ?_ (Ex_nil (Ex_nil (hP' _ ⟨?_, lk (lk (lk i2 rfl) rfl) rfl, lk (lk (lk i3 rfl) rfl) rfl, lk (lk (lk i4 rfl) rfl) rfl, lk (lk (lk i5 rfl) rfl) rfl, lk (lk (lk i6 rfl) rfl) rfl⟩))) rfl)
      · exact Turns.over fun _ _ => CTurn_name (CAct_emit (fun L cs => Ev_tuple (ys := [.dct [], .tup ((eraseT u left).map Tm.v)]) (EvL_cons (Ev_name rfl rfl) (EvL_cons (Ev_name rfl rfl) EvL_nil)) rfl (by simp)) rfl rfl)
      · have a := fl u
        have b := fml ((nubT left).take i)
        have c : ((nubT left).take i).length ≤ 60 := by rw [List.length_take]; (first | lia | omega)
        rw [sizeLine_eq]; (first | lia | omega)
      · rw [lookup_cons_eq, List.take_add_one, hu]
        simp
  · obtain ⟨i1, _⟩ := hI
    rw [List.length_map, List.take_length] at i1
    have e : (nubT left).flatMap f = rowsL (without1 left x) := by
      have := flat_one (x := x) (fun u => V.tup [.dct [], .tup ((eraseT u left).map Tm.v)]) (nub_nodup left)
      refine this.trans ?_
      unfold without1
      by_cases h : x ∈ left
      · rw [sol_yes (nub_mem.mpr h), if_pos h]; rfl
      · rw [sol_no (fun q => h (nub_mem.mp q)), if_neg h]; rfl
    rw [e] at i1
    exact Ex_freeze i1 rfl (Ex_cons (Ex1_return (Ev_name lookup_cons_eq rfl) rfl ⟨rfl, rfl⟩))
end
end Mine
namespace Mine

theorem rowsL_len (o : Option (List Tm)) : (rowsL o).length ≤ 1 := by cases o <;> simp [rowsL]
section
variable {w : World} {mg mb : Str → Option Value} {T : Option Addr} {cells : List V} {n : Nat} {ops : List Str}
theorem spec_shared_out (ho : okOps ops = true) {op : Str} (hop : okName op = true) {qs : List Tm} {N : Tm → Tm} (hq : ∀ q ∈ qs, Sm q) (lq : qs.length ≤ 60) {rest : List Tm} (hl : ∀ u ∈ rest, Kd ops op u) (ln : rest.length ≤ 60) {m : Nat} (hm : 46 ≤ m) (τ : Option Nat)
    (H : ∀ q ∈ qs, ∀ u ∈ rest, FnSpec (cx1 w mg mb T cells) m (.ref 173) [.self (opsV ops), .dct [], q.v, u.v] τ (extV (N q = u)) τ) :
    FnSpec (cx1 w mg mb T cells) (m + 2) (.ref 178) [.self (opsV ops), .dct [], .str op, .tup (qs.map Tm.v), .tup (rest.map Tm.v)] τ (extV (withoutT rest (qs.map N) = some [])) τ := by
  have D : FnData (cx1 w mg mb T cells) 178 _ _ ["self", "table", "op", "some", "rest"] := fnData_of rfl rfl rfl rfl rfl rfl rfl rfl rfl (bindL5 rfl fun _ _ _ _ _ => rfl) rfl (by decide)
  refine fn_spec D rfl (by simp [own_self, own_dct, own_str, own_tup]) fun L cs => ?_
  refine Ex_cons (Ex1_assign_own (ys := rowsL (some rest)) (EvN_list (EvL_cons (Ev_tuple (ys := [.dct [], .tup (rest.map Tm.v)]) (EvL_cons (Ev_name rfl rfl) (EvL_cons (Ev_name rfl rfl) EvL_nil)) rfl (by simp)) EvL_nil) rfl (by simp [rowsL])) rfl ?_)
  have isv : ∀ (b : Bool) (q : Tm), q ∈ qs → FnSpec (cx1 w mg mb T cells) (m + 1) (.ref 74) [q.v] τ (.bool false) τ := fun _ q hqq => (spec_is_variable (n := 0) (hq q hqq)).le (by (first | lia | omega))
  have lq' : (qs.map Tm.v).length ≤ sizeLine := by rw [List.length_map, sizeLine_eq]; (first | lia | omega)
  refine Ex_cons (Ex1_assign (τ₁ := τ) (y := .lst (qs.map Tm.v)) (Ev_eq (Ev_bin (y := .lst []) (EvN.ev (EvN_comp1 (τ₁ := τ) (items := qs.map Tm.v) (ys := qs.map Tm.v) (σ' := []) (IterE.of (Ev_name rfl rfl) IterOf_tup) Filt.nil ?_ lq')) (EvN.ev (EvN_comp1 (τ₁ := τ) (items := qs.map Tm.v) (ys := []) (σ' := []) (IterE.of (Ev_name rfl rfl) IterOf_tup) Filt.nil ?_ (Nat.zero_le _))) (Bin_add_lst (by simpa using lq'))) (by rw [List.append_nil])) rfl rfl ?_)
  · exact Turns.over fun q hqq => CTurn_name (CAct_if (b := true) (τ₁ := τ) (y := q.v) (fun L cs => Tst_not (b := false) (Tst_val (Ev_call g_is_variable (isFun_of rfl) (isv true q hqq) (EvL_cons (Ev_name rfl rfl) EvL_nil) rfl))) (fun _ => ⟨fun L cs => Ev_name rfl rfl, Tm.pure _, rfl⟩) (fun h => by cases h) rfl)
  · have : ([] : List V) = (qs.flatMap fun q => ([] : List V)) := by induction qs with
      | nil => rfl
      | cons x r ih => simp
    rw [this]
    exact Turns.flat fun q hqq => CTurn_name (CAct_if (b := false) (τ₁ := τ) (y := q.v) (fun L cs => Tst_val (Ev_call g_is_variable (isFun_of rfl) (isv true q hqq) (EvL_cons (Ev_name rfl rfl) EvL_nil) rfl)) (fun h => by cases h) (fun _ => ⟨rfl, rfl⟩) rfl)
  refine Ex_freeze (lk lookup_cons_eq rfl) rfl ?_
  refine Ex_cons (Ex1_for (items := enumV 0 (qs.map Tm.v)) (τ₁ := τ) (IterE_enum b_enumerate (Ev_name (lk lookup_cons_eq rfl) rfl) (.inl rfl) rfl) ?_)
  let st : Nat → Option (List Tm) := fun i => withoutT rest ((qs.take i).map N)
  have stm : ∀ i l, st i = some l → ∀ u ∈ l, u ∈ rest := fun i l e u hu => (without_perm e).mem_iff.mpr (List.mem_append_right _ hu)
  have stl : ∀ i l, st i = some l → l.length ≤ rest.length := fun i l e => by have := (without_perm e).length_eq; rw [List.length_append] at this; (first | lia | omega)
  refine FRun_ind (I := fun i σ => σ.lookup ("rows" : Str) = some (V.lst (rowsL (st i))) ∧ σ.lookup ("self" : Str) = some (.self (opsV ops)) ∧ σ.lookup ("op" : Str) = some (.str op) ∧ σ.lookup ("row" : Str) = some (.lst (qs.map Tm.v))) ⟨rfl, rfl, rfl, rfl⟩ (fun i y σ hy hI P' hP' => ?_) (fun σ' hI => ?_)
  · obtain ⟨i1, i2, i3, i4⟩ := hI
    rw [enumV_get, Nat.zero_add, List.getElem?_map] at hy
    cases hu : qs[i]? with
    | none => rw [hu] at hy; cases hy
    | some q =>
      rw [hu] at hy
      cases hy
      have qm : q ∈ qs := List.mem_of_getElem? hu
      have est : st (i + 1) = (st i).bind (fun l => without1 l (N q)) := by
        show foldO without1 ((qs.take (i + 1)).map N) rest = (foldO without1 ((qs.take i).map N) rest).bind _
        rw [List.take_add_one, hu, List.map_append, foldO_app]
        congr 1
        funext l
        show foldO without1 [N q] l = _
        rw [foldO]
        cases without1 l (N q) <;> rfl
      refine FTurn_pair (Ex_cons (Ex1_swap_new (Ev_name (lk (lk i1 rfl) rfl) rfl) rfl rfl rfl ?_))
      refine Ex_cons (Ex1_for (items := rowsL (st i)) (τ₁ := τ) (IterE.of (Ev_name lookup_cons_eq rfl) IterOf_lst) ?_)
      refine FRun_rows (fun l hl' => ?_) (fun h0 => ?_)
      · have e2 : st (i + 1) = without1 l (N q) := by rw [est, hl']; rfl
        refine FTurn_pair (Ex_cons (Ex1_extend (xs := []) (τ₁ := τ) (ys := rowsL (st (i + 1))) (e2 ▸ Ev_method m_taken (spec_taken ho hop (hq q qm) (left := l) (fun u hu => hl u (stm i l hl' u hu)) (by have := stl i l hl'; (first | lia | omega)) hm τ fun u hu => H q qm u (stm i l hl' u hu)) (EvL_cons (Ev_name (lk lookup_cons_eq rfl) rfl) (EvL_cons (Ev_name (lk (lk (lk (lk (lk (lk i3 rfl) rfl) rfl) rfl) rfl) rfl) rfl) (EvL_cons (Ev_name rfl rfl) (EvL_cons (Ev_name lookup_cons_eq rfl) (EvL_cons
          (Ev_cmp (b := PyData.eqv (V.int (i : Int)).py (V.int (((qs.map Tm.v).length : Int) - 1)).py) (Ev_name rfl rfl) (Ev_bin (Ev_builtin b_len (Bu_len (xs := qs.map Tm.v) rfl lq') (EvL_cons (Ev_name (lk (lk (lk (lk (lk (lk i4 rfl) rfl) rfl) rfl) rfl) rfl) rfl) EvL_nil) rfl) Ev_int Bin_sub_int) (Cmp_eq rfl rfl (by simp [V.py, PyData.depth]) rfl)) EvL_nil))))) (lk (lk (lk (lk (lk (lk i2 rfl) rfl) rfl) rfl) rfl) rfl) rfl) rfl ?_ ?_ rfl))
        · have := rowsL_len (st (i + 1)); rw [sizeLine_eq]; simp; (first | lia | omega)
        · refine Ex_cons (Ex1_expr (Ev_call g_want_few (isFun_of rfl) ((spec_want_few (n := 0) (xs := [] ++ rowsL (st (i + 1))) (by have := rowsL_len (st (i + 1)); simp; (first | lia | omega)) τ).le (by (first | lia | omega))) (EvL_cons (Ev_name lookup_cons_eq rfl) EvL_nil) rfl) (Ex_nil ?_))
          exact Ex_freeze lookup_cons_eq rfl (Ex_nil (hP' _ ⟨lookup_cons_eq, lk (lk (lk (lk (lk (lk (lk (lk i2 rfl) rfl) rfl) rfl) rfl) rfl) rfl) rfl, lk (lk (lk (lk (lk (lk (lk (lk i3 rfl) rfl) rfl) rfl) rfl) rfl) rfl) rfl, lk (lk (lk (lk (lk (lk (lk (lk i4 rfl) rfl) rfl) rfl) rfl) rfl) rfl) rfl⟩))
      · have e2 : st (i + 1) = none := by rw [est, h0]; rfl
        refine Ex_freeze (x := ("rows" : Str)) (xs := []) rfl rfl (Ex_nil (hP' _ ⟨?_, by (repeat refine lk ?_ rfl); exact i2, by (repeat refine lk ?_ rfl); exact i3, by (repeat refine lk ?_ rfl); exact i4⟩))
        rw [e2]; rfl
  · obtain ⟨i1, _⟩ := hI
    rw [enumV_length, List.length_map] at i1
    have e : st qs.length = withoutT rest (qs.map N) := by show withoutT _ _ = _; rw [List.take_length]
    rw [e] at i1
    refine Ex_cons (Ex1_return (y := extV (withoutT rest (qs.map N) = some [])) (EvN.ev (EvN_comp1 (τ₁ := τ) (items := rowsL (withoutT rest (qs.map N))) (σ' := []) (IterE.of (Ev_name i1 rfl) IterOf_lst) Filt.nil ?_ ?_)) rfl ⟨rfl, rfl⟩)
    · cases eo : withoutT rest (qs.map N) with
      | none => rw [sol_no (by simp)]; exact ⟨rfl, rfl⟩
      | some l =>
        have gl : ∀ u ∈ l, u.good = true := fun u hu => (hl u ((without_perm eo).mem_iff.mpr (List.mem_append_right _ hu))).sm.good
        refine ⟨_, [], τ, CTurn_pair (CAct_if (b := PyData.eqv (V.tup (l.map Tm.v)).py (V.tup []).py) (τ₁ := τ) (y := .dct []) (ys := (sol (some l = some [])).map fun _ => V.dct []) (fun L cs => Tst_cmp (Ev_name lookup_cons_eq rfl) (Ev_tuple EvL_nil) (Cmp_eq (fine_seq gl) rfl (by rw [Nat.min_def]; split <;> simp_all [V.py, pyL, PyData.depth, PyData.depthAll]) rfl))
          (fun hb => ⟨fun L cs => Ev_name (lk lookup_cons_eq rfl) rfl, rfl, ?_⟩) (fun hb => ⟨rfl, ?_⟩) rfl), ⟨rfl, rfl⟩, (List.append_nil _).symm⟩
        · have : l = [] := by
            cases l with
            | nil => rfl
            | cons x r => exact absurd hb (by simp [V.py, pyL, PyData.eqv, PyData.eqvAll])
          rw [this, sol_yes rfl]; rfl
        · have : l ≠ [] := fun q => by subst q; exact absurd hb (by simp [V.py, pyL, PyData.eqv, PyData.eqvAll])
          rw [sol_no (by simpa using this)]; rfl
    · rw [List.length_map, sizeLine_eq]
      by_cases h : withoutT rest (qs.map N) = some []
      · rw [sol_yes h]; simp
      · rw [sol_no h]; simp
end
end Mine
namespace Mine

theorem Kd_kid {ops : List Str} {t : Tm} (h : Sm t) (nf : NF ops t) (d : t.ht ≤ 8) (hb : isBag ops t = true) {u : Tm} (hu : u ∈ t.ks) : Kd ops t.f u := by
  have h1 := h.size
  refine ⟨h.kid hu, ?_, ht_kids d u hu, (nf.bag hb).1 u hu, nf.kid hu⟩
  obtain ⟨f, ks⟩ := t
  have := sizeL_mem (show u ∈ ks from hu)
  simp only [Tm.size] at h1; (first | lia | omega)
theorem take_map_eq {N : Tm → Tm} {a b : List Tm} {i : Nat} {x y : Tm} (ha : a[i]? = some x) (hb : b[i]? = some y) : ((a.take (i + 1)).map N = b.take (i + 1)) ↔ ((a.take i).map N = b.take i ∧ N x = y) := by
  have la := (List.getElem?_eq_some_iff.mp ha).1
  have lb := (List.getElem?_eq_some_iff.mp hb).1
  rw [List.take_add_one, List.take_add_one, ha, hb, List.map_append]
  show ((a.take i).map N ++ [N x] = b.take i ++ [y]) ↔ _
  constructor
  · intro h
    have := List.append_inj h (by simp; (first | lia | omega))
    exact ⟨this.1, by simpa using this.2⟩
  · rintro ⟨h1, h2⟩; rw [h1, h2]

section
variable {w : World} {mg mb : Str → Option Value} {T : Option Addr} {cells : List V} {n : Nat} {ops : List Str}
theorem ev_nil {n : Nat} {C : Cx} {env : Env} {σ : List (Str × V)} {τ : Option Nat} {pos : Pos} {b : Prop} (h : ¬ b) : Ev C n (.List [] pos) env σ τ (extV b) τ := by
  unfold extV; rw [sol_no h]
  exact EvN.ev (EvN_list EvL_nil rfl (by simp))
theorem spec_extended (ho : okOps ops = true) : ∀ (d : Nat) (p : Tm), p.ht ≤ d → Sm p → ∀ t, Sm t → NF ops t → t.ht ≤ 8 → ∀ τ, FnSpec (cx1 w mg mb T cells) (3 * d + (50 + n)) (.ref 173) [.self (opsV ops), .dct [], p.v, t.v] τ (extV (normT ops p = t)) τ := by
  intro d
  induction d with
  | zero =>
    intro p hd
    have := ht_pos p; (first | lia | omega)
  | succ d ih =>
    intro p hd hp t ht nf d8 τ
    have D : FnData (cx1 w mg mb T cells) 173 _ _ ["self", "table", "pattern", "t"] := fnData_of rfl rfl rfl rfl rfl rfl rfl rfl rfl (bindL4 rfl fun _ _ _ _ => rfl) rfl (by decide)
    rw [show 3 * (d + 1) + (50 + n) = (3 * d + (50 + n)) + 2 + 1 by (first | lia | omega)]
    have gp := Tm.good_f hp.good
    have gt := Tm.good_f ht.good
    have lp := hp.len
    have lt := ht.len
    refine fn_spec D rfl (by simp [own_self, own_dct, Tm.own]) fun L cs => ?_
    refine Ex_cons (Ex1_if (c := false) (τ₁ := τ) (Tst_val (Ev_call g_is_variable (isFun_of rfl) ((spec_is_variable (n := 0) hp).le (by (first | lia | omega))) (EvL_cons (Ev_name rfl rfl) EvL_nil) rfl)) (fun h => by cases h) (fun _ => Ex_nil ?_))
    refine Ex_cons (Ex1_if (c := isBag ops p) (τ₁ := τ) (Tst_val (Ev_method m_is_bag ((spec_is_bag (n := 0) ho hp).le (by (first | lia | omega))) (EvL_cons (Ev_name rfl rfl) EvL_nil) rfl rfl)) (fun hb => ?_) (fun hb => Ex_nil ?_))
    · have hkt : (kidsT ops p.f t).length ≤ 60 := by
        have := kidsT_size ops p.f t
        have := len_le_sizeL (kidsT ops p.f t)
        have := ht.size
        (first | lia | omega)
      have hkp : (kidsT ops p.f p).length ≤ 60 := by
        have := kidsT_size ops p.f p
        have := len_le_sizeL (kidsT ops p.f p)
        have := hp.size
        (first | lia | omega)
      refine Ex_cons (Ex1_assign (τ₁ := τ) (y := .tup ((kidsT ops p.f t).map Tm.v)) (Ev_method m_kids ((spec_kids (n := 0) ho gp t.ht t (Nat.le_refl _) ht τ).le (by (first | lia | omega))) (EvL_cons (Ev_at0 (Ev_name' (Tm.v_eq p) rfl rfl) rfl) (EvL_cons (Ev_name rfl rfl) EvL_nil)) rfl rfl) rfl rfl ?_)
      refine Ex_cons (Ex1_return (y := extV (normT ops p = t)) (Ev_ifexp (c := decide ((1 : Int) < ((kidsT ops p.f t).map Tm.v).length)) (τ₁ := τ) (Tst_cmp (Ev_builtin b_len (Bu_len (xs := (kidsT ops p.f t).map Tm.v) rfl (by rw [List.length_map, sizeLine_eq]; (first | lia | omega))) (EvL_cons (Ev_name rfl rfl) EvL_nil) rfl) Ev_int (Cmp_gt_int rfl)) (fun hc => ?_) (fun hc => ?_)) rfl ⟨rfl, rfl⟩)
      · have hc' := of_decide_eq_true hc
        rw [List.length_map] at hc'
        have hf : t.f = p.f ∧ isBag ops t = true := by
          by_cases q : t.f = p.f ∧ isBag ops t = true
          · exact q
          · rw [kidsT_flat1 q] at hc'; simp at hc'
        have ek : kidsT ops p.f t = t.ks := by
          rw [kidsT_bag1 hf, ← hf.1]
          exact kidsL_flats (nf.bag hf.2).1
        rw [ek] at hkt ⊢
        have gq : ∀ u ∈ (kidsT ops p.f p).map (normT ops), u.good = true := fun u hu => by
          obtain ⟨x, hx, rfl⟩ := List.mem_map.mp hu
          exact normT_good ops x (kidsT_sm hp x hx).good
        have iff : (normT ops p = t) ↔ withoutT t.ks ((kidsT ops p.f p).map (normT ops)) = some [] := by
          rw [norm_bag hp.good hb, without_all]
          constructor
          · intro e
            have : ordT ((kidsT ops p.f p).map (normT ops)) = t.ks := by rw [← e]; rfl
            rw [← this]; exact ordT_perm _
          · intro q
            have e2 := ordT_congr gq q.symm
            rw [(nf.bag hf.2).2] at e2
            rw [e2, ← hf.1]; exact Tm.eta t
        have e : extV (normT ops p = t) = extV (withoutT t.ks ((kidsT ops p.f p).map (normT ops)) = some []) := by unfold extV; rw [sol_congr iff]
        rw [e]
        refine Ev_method m_shared_out (spec_shared_out (N := normT ops) ho gp (qs := kidsT ops p.f p) (kidsT_sm hp) hkp (rest := t.ks) (fun u hu => hf.1 ▸ Kd_kid ht nf d8 hf.2 hu) hkt (m := 3 * d + (50 + n)) (by (first | lia | omega)) τ fun q hq u hu => ?_)
          (EvL_cons (Ev_name rfl rfl) (EvL_cons (Ev_at0 (Ev_name' (Tm.v_eq p) rfl rfl) rfl) (EvL_cons (Ev_method m_kids ((spec_kids (n := 0) ho gp p.ht p (Nat.le_refl _) hp τ).le (by have := hp.ht; (first | lia | omega))) (EvL_cons (Ev_at0 (Ev_name' (Tm.v_eq p) rfl rfl) rfl) (EvL_cons (Ev_name rfl rfl) EvL_nil)) rfl rfl) (EvL_cons (Ev_name lookup_cons_eq rfl) EvL_nil)))) rfl rfl
        refine ih q ?_ (kidsT_sm hp q hq) u (ht.kid hu) (nf.kid hu) (ht_kids d8 u hu) τ
        rw [kidsT_bag1 ⟨rfl, hb⟩] at hq
        exact kidsL_ht (fun y hy => sm_ht hd hy) q hq
      · have hc' := of_decide_eq_false hc
        rw [List.length_map] at hc'
        refine ev_nil fun q => hc' ?_
        have e1 : t.f = p.f ∧ isBag ops t = true := by rw [← q, norm_f, norm_isBag]; exact ⟨rfl, hb⟩
        rw [kidsT_bag1 e1, ← e1.1, kidsL_flats (nf.bag e1.2).1]
        have hb2 := e1.2
        unfold isBag at hb2
        simp only [Bool.and_eq_true, decide_eq_true_eq] at hb2
        have := hb2.2
        (first | lia | omega)
    · refine Ex_cons (Ex1_if (c := ((!(p.f == t.f) || !PyData.eqv (V.int ((p.ks.length + 1 : Nat) : Int)).py (V.int ((t.ks.length + 1 : Nat) : Int)).py) || isBag ops t)) (τ₁ := τ) (Tst_or3 (Tst_cmp (Ev_at0 (Ev_name' (Tm.v_eq p) rfl rfl) rfl) (Ev_at0 (Ev_name' (Tm.v_eq t) rfl rfl) rfl) (Cmp_ne (okName_fine gp) (okName_fine gt) (by simp [V.py, PyData.depth]) rfl))
        (fun _ => Tst_cmp (Ev_builtin b_len (Bu_len_tm (by (first | lia | omega))) (EvL_cons (Ev_name rfl rfl) EvL_nil) rfl) (Ev_builtin b_len (Bu_len_tm (by (first | lia | omega))) (EvL_cons (Ev_name rfl rfl) EvL_nil) rfl) (Cmp_ne rfl rfl (by simp [V.py, PyData.depth]) rfl))
        (fun _ _ => Tst_val (Ev_method m_is_bag ((spec_is_bag (n := 0) ho ht).le (by (first | lia | omega))) (EvL_cons (Ev_name rfl rfl) EvL_nil) rfl rfl))) (fun hc => ?_) (fun hc => Ex_nil ?_))
      · refine Ex_cons (Ex1_return (y := extV (normT ops p = t)) (ev_nil fun q => ?_) rfl ⟨rfl, rfl⟩)
        have h1 : p.f = t.f := by rw [← q, norm_f]
        have h2 : isBag ops t = false := by rw [← q, norm_isBag]; exact hb
        have h3 : p.ks.length = t.ks.length := by
          rw [← q, norm_nobag hb]
          show _ = (p.ks.map (normT ops)).length
          rw [List.length_map]
        rw [h1, h2, h3] at hc
        simp [V.py, PyData.eqv] at hc
      · have h1 : p.f = t.f := by
          by_cases q : p.f = t.f
          · exact q
          · simp [q] at hc
        have h3 : p.ks.length = t.ks.length := by
          by_cases q : p.ks.length = t.ks.length
          · exact q
          · have : PyData.eqv (V.int ((p.ks.length + 1 : Nat) : Int)).py (V.int ((t.ks.length + 1 : Nat) : Int)).py = false := beq_false_of_ne (by (first | lia | omega))
            rw [this] at hc; simp at hc
        have iff : (normT ops p = t) ↔ p.ks.map (normT ops) = t.ks := by
          rw [norm_nobag hb]
          constructor
          · intro e; rw [← e]; rfl
          · intro e; rw [e, h1]; exact Tm.eta t
        let st : Nat → Prop := fun i => (p.ks.take i).map (normT ops) = t.ks.take i
        have s0 : sol (st 0) = [()] := sol_yes (by simp [st])
        refine Ex_cons (Ex1_assign_own (ys := [.dct []]) (EvN_list (EvL_cons (Ev_name rfl rfl) EvL_nil) rfl (by simp)) rfl ?_)
        refine Ex_freeze lookup_cons_eq rfl ?_
        refine Ex_cons (Ex1_for (items := zipV (vL p.ks) (vL t.ks)) (τ₁ := τ) (IterE_zip b_zip (EvL_cons (Ev_tup1 (x := .str p.f) (xs := vL p.ks) (Ev_name' (Tm.v_eq p) rfl rfl) (by rw [vL_length, sizeLine_eq]; (first | lia | omega))) (EvL_cons (Ev_tup1 (x := .str t.f) (xs := vL t.ks) (Ev_name' (Tm.v_eq t) rfl rfl) (by rw [vL_length, sizeLine_eq]; (first | lia | omega))) EvL_nil)) (.inr rfl) (.inr rfl) (by rw [vL_length, vL_length, h3]) rfl) ?_)
        refine FRun_ind (I := fun i σ => σ.lookup ("tables" : Str) = some (extV (st i)) ∧ σ.lookup ("self" : Str) = some (.self (opsV ops))) ⟨by unfold extV; rw [s0]; rfl, rfl⟩ (fun i y σ hy hI P' hP' => ?_) (fun σ' hI => ?_)
        · obtain ⟨i1, i2⟩ := hI
          unfold zipV at hy
          rw [List.getElem?_map, vL_eq, vL_eq] at hy
          obtain ⟨z, hz, ez⟩ := Option.map_eq_some_iff.mp hy
          subst ez
          obtain ⟨hz1, hz2⟩ := List.getElem?_zip_eq_some.mp hz
          rw [List.getElem?_map] at hz1 hz2
          obtain ⟨x, hx, ex⟩ := Option.map_eq_some_iff.mp hz1
          obtain ⟨u, hu, eu⟩ := Option.map_eq_some_iff.mp hz2
          obtain ⟨z1, z2⟩ := z
          simp only at ex eu
          subst ex; subst eu
          have xm : x ∈ p.ks := List.mem_of_getElem? hx
          have um : u ∈ t.ks := List.mem_of_getElem? hu
          have est : st (i + 1) ↔ (st i ∧ normT ops x = u) := take_map_eq hx hu
          refine FTurn_pair (Ex_cons (Ex1_swap_new (Ev_name (lk (lk i1 rfl) rfl) rfl) rfl rfl rfl ?_))
          refine Ex_cons (Ex1_for (items := (sol (st i)).map fun _ => V.dct []) (τ₁ := τ) (IterE.of (Ev_name lookup_cons_eq rfl) IterOf_lst) ?_)
          refine FRun_sol (fun hs => ?_) (fun hs => ?_)
          · have e2 : sol (st (i + 1)) = sol (normT ops x = u) := sol_congr (est.trans ⟨fun h => h.2, fun h => ⟨hs, h⟩⟩)
            have ll : ((sol (st (i + 1))).map fun _ => V.dct []).length ≤ 1 := by
              by_cases h : st (i + 1)
              · rw [sol_yes h]; simp
              · rw [sol_no h]; simp
            refine FTurn_name (Ex_cons (Ex1_extend (xs := []) (τ₁ := τ) (ys := (sol (st (i + 1))).map fun _ => V.dct []) (e2 ▸ Ev_method m_extended ((ih x (sm_ht hd xm) (hp.kid xm) u (ht.kid um) (nf.kid um) (ht_kids d8 u um) τ).le (by (first | lia | omega))) (EvL_cons (Ev_name lookup_cons_eq rfl) (EvL_cons (Ev_name (by (repeat refine lk ?_ rfl); exact lookup_cons_eq) rfl) (EvL_cons (Ev_name (by (repeat refine lk ?_ rfl); exact lookup_cons_eq) rfl) EvL_nil))) (by (repeat refine lk ?_ rfl); exact i2) rfl) rfl ?_ ?_ rfl))
            · rw [sizeLine_eq]; simp at ll ⊢; (first | lia | omega)
            · refine Ex_cons (Ex1_expr (Ev_call g_want_few (isFun_of rfl) ((spec_want_few (n := 0) (xs := [] ++ (sol (st (i + 1))).map fun _ => V.dct []) (by simp at ll ⊢; (first | lia | omega)) τ).le (by (first | lia | omega))) (EvL_cons (Ev_name lookup_cons_eq rfl) EvL_nil) rfl) (Ex_nil ?_))
              exact Ex_freeze lookup_cons_eq rfl (Ex_nil (hP' _ ⟨lookup_cons_eq, by (repeat refine lk ?_ rfl); exact i2⟩))
          · have e2 : sol (st (i + 1)) = [] := sol_no fun h => hs (est.mp h).1
            refine Ex_freeze (x := ("tables" : Str)) (xs := []) rfl rfl (Ex_nil (hP' _ ⟨?_, by (repeat refine lk ?_ rfl); exact i2⟩))
            unfold extV; rw [e2]; rfl
        · have e : (zipV (vL p.ks) (vL t.ks)).length = p.ks.length := by
            unfold zipV
            rw [List.length_map, List.length_zip, vL_length, vL_length, h3, Nat.min_self]
          rw [e] at hI
          have e2 : extV (st p.ks.length) = extV (normT ops p = t) := by
            unfold extV
            rw [sol_congr (a := st p.ks.length) (b := normT ops p = t)]
            rw [iff]
            show (p.ks.take p.ks.length).map _ = t.ks.take p.ks.length ↔ _
            rw [List.take_length, h3, List.take_length]
          rw [e2] at hI
          exact Ex_cons (Ex1_return (Ev_name hI.1 rfl) rfl ⟨rfl, rfl⟩)
end
end Mine
namespace Mine

section
variable {w : World} {mg mb : Str → Option Value} {T : Option Addr} {cells : List V} {n : Nat} {ops : List Str}
theorem sortOk_nil : SortOk [] where
  srt := fun _ h => nomatch h
  ok := fun _ h => nomatch h
  fst := .inl fun _ h => nomatch h
  dep := fun _ h => nomatch h
  len := by simp
theorem sortOk_unit : SortOk [.tup [.tup [], .tup []]] where
  srt := fun x h => by simp at h; subst h; rfl
  ok := fun x h y h' => by simp at h h'; subst h; subst h'; rfl
  fst := .inl fun x h => by simp at h; subst h; exact ⟨_, _, rfl⟩
  dep := fun x h => by simp at h; subst h; simp [V.dep, depL]
  len := by simp
theorem keyOk_nil : keyOk (.tup []) := ⟨rfl, rfl, by simp [V.dep, depL], _, rfl⟩
theorem putV_nil (k z : V) : putV k z [] = [(k, z)] := by unfold putV; rw [if_neg (by simp)]; rfl
theorem spec_matched (ho : okOps ops = true) {p t : Tm} (hp : Sm p) (ht : Sm t) (dp : p.ht ≤ 8) (d8 : t.ht ≤ 8) (e : normT ops p = normT ops t) (τ : Option Nat) :
    FnSpec (cx1 w mg mb T cells) (120 + n) (.ref 188) [.self (opsV ops), p.v, t.v] τ (.lst [.tup []]) τ := by
  have D : FnData (cx1 w mg mb T cells) 188 _ _ ["self", "pattern", "t"] := fnData_of rfl rfl rfl rfl rfl rfl rfl rfl rfl (bindL3 rfl fun _ _ _ => rfl) rfl (by decide)
  rw [show 120 + n = 119 + n + 1 by (first | lia | omega)]
  refine fn_spec D rfl (by simp [own_self, Tm.own]) fun L cs => ?_
  have hn : (normT ops t).ht ≤ 8 := Nat.le_trans (normT_ht ops t) d8
  refine Ex_cons (Ex1_assign_dict0 rfl ?_)
  refine Ex_cons (Ex1_for (items := (sol (normT ops p = normT ops t)).map fun _ => V.dct []) (τ₁ := τ) (IterE.of (Ev_method m_extended ((spec_extended (n := 0) ho p.ht p (Nat.le_refl _) hp (normT ops t) ht.norm (NF_norm t.ht t (Nat.le_refl _) ht.good) hn τ).le (by (first | lia | omega)))
    (EvL_cons Ev_dict0 (EvL_cons (Ev_name rfl rfl) (EvL_cons (Ev_method m_normal ((spec_normal (n := 0) ho t.ht t (Nat.le_refl _) ht τ).le (by (first | lia | omega))) (EvL_cons (Ev_name rfl rfl) EvL_nil) rfl rfl) EvL_nil))) rfl rfl) IterOf_lst) ?_)
  refine FRun_sol (fun _ => ?_) (fun h => absurd e h)
  refine FTurn_name (Ex_cons (Ex1_assign (τ₁ := τ) (y := .tup []) (Ev_type b_tuple (Bu_tuple (xs := []) rfl (by simp)) (EvL_cons (EvN.ev (ys := []) (EvN_sorted_items (kvs := []) b_sorted lookup_cons_eq rfl (by simp) sortOk_nil rfl)) EvL_nil) rfl) rfl rfl ?_))
  refine Ex_cons (Ex1_setitem (z := .tup []) (k := .tup []) (kvs := []) (τ₁ := τ) (τ₂ := τ) (Ev_type b_tuple (Bu_tuple (xs := []) rfl (by simp)) (EvL_cons (EvN.ev (ys := []) (EvN_comp1 (τ₁ := τ) (items := []) (ys := []) (σ' := []) (IterE.of (x := .tup []) (Ev_name lookup_cons_eq rfl) IterOf_tup) Filt.nil ⟨rfl, rfl⟩ (by simp))) EvL_nil) rfl) (Ev_name lookup_cons_eq rfl) (by (repeat refine lk ?_ rfl); exact lookup_cons_eq) rfl keyOk_nil KeysOk.nil (by simp) (Ex_nil ?_) rfl)
  rw [putV_nil]
  refine Ex_freezeD lookup_cons_eq rfl ?_
  have ko : KeysOk [((V.tup [] : V), (V.tup [] : V))] := ⟨fun p hp => by simp at hp; subst hp; exact keyOk_nil, by simp⟩
  refine Ex_cons (Ex1_return (y := .lst [.tup []]) (EvN.ev (EvN_comp1 (τ₁ := τ) (items := [.tup [.tup [], .tup []]]) (σ' := []) (IterE.of (x := .lst [.tup [.tup [], .tup []]]) (EvN.ev (ys := sortV [.tup [.tup [], .tup []]]) (EvN_sorted b_sorted (EvN.ev (EvN_comp1 (τ₁ := τ) (items := [.tup []]) (ys := [.tup [.tup [], .tup []]]) (σ' := [("found", .dct [(.tup [], .tup [])])])
    (IterE.of (Ev_name lookup_cons_eq rfl) IterOf_dct) (Filt.add Filt.nil rfl lookup_cons_eq rfl) ⟨_, [], τ, CTurn_name (CAct_emit (fun L cs => Ev_tuple (ys := [.tup [], .tup []]) (EvL_cons (Ev_getitem (kvs := [(.tup [], .tup [])]) (Ev_name rfl rfl) (Ev_name rfl rfl) keyOk_nil ko (by simp)) (EvL_cons (Ev_name rfl rfl) EvL_nil)) rfl (by simp)) rfl rfl), ⟨rfl, rfl⟩, rfl⟩ (by rw [sizeLine_eq]; simp))) sortOk_unit rfl)) IterOf_lst)
    Filt.nil ⟨_, [], τ, CTurn_pair (CAct_emit (fun L cs => Ev_name rfl rfl) rfl rfl), ⟨rfl, rfl⟩, rfl⟩ (by rw [sizeLine_eq]; simp))) rfl ⟨rfl, rfl⟩)
end
end Mine
namespace Mine

noncomputable def pickN (zs : List Int) (k many : Nat) : Nat := (match zs[k]? with
  | some z => z % (many : Int)
  | none => ((7 * (k : Int) * k + 4 * k + 1) % 53) % (many : Int)).toNat
theorem pickN_lt {zs : List Int} {k many : Nat} (h : 0 < many) : pickN zs k many < many := by
  unfold pickN
  have : ∀ a : Int, (a % (many : Int)).toNat < many := fun a => by
    have h1 := Int.emod_nonneg a (b := (many : Int)) (by (first | lia | omega))
    have h2 := Int.emod_lt_of_pos a (b := (many : Int)) (by (first | lia | omega))
    (first | lia | omega)
  split <;> exact this _
theorem mod_pick {a : Int} {many : Nat} (h : 0 < many) : a.fmod (many : Int) = (((a % (many : Int)).toNat : Nat) : Int) := by
  rw [Int.fmod_eq_emod_of_nonneg _ (by (first | lia | omega))]
  have h1 := Int.emod_nonneg a (b := (many : Int)) (by (first | lia | omega))
  (first | lia | omega)
noncomputable def cellsV (zs : List Int) : List V := zs.map V.int

section
variable {w : World} {mg mb : Str → Option Value} {T : Option Addr} {zs : List Int} {n : Nat}
theorem spec_pick {many k : Nat} (hm : 0 < many) (hz : zs.length ≤ 1000) (hk : k ≤ 1000) : FnSpec (cx1 w mg mb T (cellsV zs)) (n + 1) (.ref 213) [.tray, .int (many : Int)] (some k) (.int (pickN zs k many : Nat)) (some (k + 1)) := by
  have D : FnData (cx1 w mg mb T (cellsV zs)) 213 _ _ ["tray", "many"] := fnData_of rfl rfl rfl rfl rfl rfl rfl rfl rfl (bindL2 rfl fun _ _ => rfl) rfl (by decide)
  have kk : (cx1 w mg mb T (cellsV zs)).k1 ≠ (cx1 w mg mb T (cellsV zs)).k2 := by show ("cells" : Str) ≠ "at"; decide
  refine fn_spec D rfl (by simp [V.own]) fun L cs => ?_
  refine Ex_cons (Ex1_assign (τ₁ := some k) (y := .int (k : Int)) (Ev_tray rfl rfl kk (.inl ⟨rfl, rfl⟩)) rfl rfl ?_)
  refine Ex_cons (Ex1_tray (k := k) (j := k + 1) (Ev_eq (Ev_bin (Ev_name rfl rfl) Ev_int Bin_add_int) (by simp)) (by (repeat refine lk ?_ rfl); rfl) rfl kk ?_ rfl)
  have lc : (cellsV zs).length ≤ sizeLine := by unfold cellsV; rw [List.length_map, sizeLine_eq]; (first | lia | omega)
  refine Ex_cons (Ex1_if (c := decide ((k : Int) < ((cellsV zs).length : Int))) (τ₁ := some (k + 1)) (Tst_cmp (Ev_name lookup_cons_eq rfl) (Ev_builtin b_len (Bu_len (x := .lst (cellsV zs)) (xs := cellsV zs) rfl lc) (EvL_cons (Ev_tray (k := k + 1) rfl rfl kk (.inr ⟨rfl, rfl⟩)) EvL_nil) rfl) (Cmp_lt_int rfl)) (fun hc => ?_) (fun hc => Ex_nil ?_))
  · have hlt : k < zs.length := by have := of_decide_eq_true hc; unfold cellsV at this; rw [List.length_map] at this; (first | lia | omega)
    refine Ex_cons (Ex1_return (Ev_bin (x := .int zs[k]) (y := .int (many : Int)) (Ev_itemN (xs := cellsV zs) (k := k) (x := .lst (cellsV zs)) (Ev_tray (k := k + 1) rfl rfl kk (.inr ⟨rfl, rfl⟩)) (Ev_name rfl rfl) rfl (by unfold cellsV; rw [List.getElem?_map, List.getElem?_eq_getElem hlt]; rfl) (by (first | lia | omega))) (Ev_name rfl rfl) (Bin_mod_int (by (first | lia | omega)))) rfl ⟨?_, rfl⟩)
    rw [mod_pick hm]
    unfold pickN
    rw [List.getElem?_eq_getElem hlt]
  · have hge : zs.length ≤ k := by have := of_decide_eq_false hc; unfold cellsV at this; rw [List.length_map] at this; (first | lia | omega)
    refine Ex_cons (Ex1_return (Ev_bin (y := .int (many : Int)) (Ev_bin (Ev_bin (Ev_bin (Ev_bin (Ev_bin Ev_int (Ev_name (y := .int (k : Int)) rfl rfl) (Bin_mul_int (.of_left (by decide)))) (Ev_name (y := .int (k : Int)) rfl rfl) (Bin_mul_int (.of_right (intBits_le_64 (by (first | lia | omega)) (by (first | lia | omega)))))) (Ev_bin Ev_int (Ev_name (y := .int (k : Int)) rfl rfl) (Bin_mul_int (.of_left (by decide)))) Bin_add_int) Ev_int Bin_add_int) Ev_int (Bin_mod_int (by decide))) (Ev_name rfl rfl) (Bin_mod_int (by (first | lia | omega)))) rfl ⟨?_, rfl⟩)
    rw [mod_pick hm]
    unfold pickN
    rw [List.getElem?_eq_none hge, Int.fmod_eq_emod_of_nonneg _ (by decide)]
end

inductive Tr where
  | leaf (x : Str)
  | node (f : Str) (ks : List Tr)
  | list (f : Str) (ks : List Tr)
mutual
noncomputable def Tr.v : Tr → V
  | .leaf x => .tup [.str "leaf", .str x]
  | .node f ks => .tup [.str "node", .str f, .lst (trL ks)]
  | .list f ks => .tup [.str "list", .str f, .lst (trL ks)]
noncomputable def trL : List Tr → List V
  | [] => []
  | t :: r => t.v :: trL r
end
theorem trL_eq : ∀ ks : List Tr, trL ks = ks.map Tr.v
  | [] => rfl
  | t :: r => congrArg _ (trL_eq r)
mutual
noncomputable def Tr.size : Tr → Nat
  | .leaf _ => 1
  | .node _ ks => trS ks + 1
  | .list _ ks => trS ks + 1
noncomputable def trS : List Tr → Nat
  | [] => 0
  | t :: r => t.size + trS r
end
theorem Tr.pure (t : Tr) : t.v.pure = true := by cases t <;> rfl
theorem Tr.own (t : Tr) : t.v.own = false := by cases t <;> rfl
mutual
noncomputable def dueT : Tr → Tm
  | .leaf x => .mk x []
  | .node f ks => .mk f (dueL ks)
  | .list f ks => dueC f ks
noncomputable def dueL : List Tr → List Tm
  | [] => []
  | t :: r => dueT t :: dueL r
noncomputable def dueC (f : Str) : List Tr → Tm
  | [] => .mk f []
  | [a] => .mk f [dueT a]
  | [a, b] => .mk f [dueT a, dueT b]
  | a :: b :: c :: r => .mk f [dueT a, dueC f (b :: c :: r)]
end
theorem dueL_eq : ∀ ks : List Tr, dueL ks = ks.map dueT
  | [] => rfl
  | t :: r => congrArg _ (dueL_eq r)
theorem trS_mem {t : Tr} : ∀ {ks : List Tr}, t ∈ ks → t.size ≤ trS ks
  | y :: r, h => by
    rcases List.mem_cons.mp h with rfl | h
    · exact Nat.le_add_right _ _
    · exact Nat.le_trans (trS_mem h) (Nat.le_add_left _ _)
theorem trS_pos (t : Tr) : 1 ≤ t.size := by cases t <;> simp only [Tr.size] <;> (first | lia | omega)
theorem trS_len : ∀ ks : List Tr, ks.length ≤ trS ks
  | [] => Nat.le_refl _
  | t :: r => by have := trS_pos t; have := trS_len r; simp only [List.length_cons, trS]; (first | lia | omega)
theorem pick_from {xs : List V} {a : Nat} : pick xs (some (a : Int)) none none = xs.drop a := by
  have e : sliceBounds (some (a : Int)) none none xs.length = (((min a xs.length : Nat) : Int), (xs.length : Int), 1) := by
    simp only [sliceBounds, Option.getD_none, show (1 : Int) > 0 by decide, if_true, if_neg (show ¬ ((a : Int) < 0) by (first | lia | omega))]
    congr 1
    (first | lia | omega)
  rw [pick_nat e]
  by_cases h : a ≤ xs.length
  · rw [Nat.min_eq_left h, List.take_of_length_le (by rw [List.length_drop]; (first | lia | omega))]
  · rw [Nat.min_eq_right (by (first | lia | omega)), List.drop_of_length_le (Nat.le_refl _), List.drop_of_length_le (by (first | lia | omega))]; simp
theorem pick_upto {xs : List V} {b : Nat} : pick xs none (some (b : Int)) none = xs.take b := by
  have e : sliceBounds none (some (b : Int)) none xs.length = (((0 : Nat) : Int), ((min b xs.length : Nat) : Int), 1) := by
    simp only [sliceBounds, Option.getD_none, show (1 : Int) > 0 by decide, if_true, if_neg (show ¬ ((b : Int) < 0) by (first | lia | omega))]
    congr 1
    congr 1
    (first | lia | omega)
  rw [pick_nat e, List.drop_zero, Nat.sub_zero]
  by_cases h : b ≤ xs.length
  · rw [Nat.min_eq_left h]
  · rw [Nat.min_eq_right (by (first | lia | omega)), List.take_of_length_le (Nat.le_refl _), List.take_of_length_le (by (first | lia | omega))]

section
variable {w : World} {mg mb : Str → Option Value} {T : Option Addr} {cells : List V} {n : Nat}
theorem spec_due : ∀ (d : Nat) (t : Tr), t.size ≤ d → t.size ≤ 60 → ∀ τ, FnSpec (cx1 w mg mb T cells) (d + n) (.ref 228) [t.v] τ (dueT t).v τ := by
  intro d
  induction d with
  | zero => intro t hd; have := trS_pos t; (first | lia | omega)
  | succ d ih =>
    intro t hd h60 τ
    have D : FnData (cx1 w mg mb T cells) 228 _ _ ["tree"] := fnData_of rfl rfl rfl rfl rfl rfl rfl rfl rfl (bindL1 rfl fun _ => rfl) rfl (by decide)
    rw [show d + 1 + n = d + n + 1 by (first | lia | omega)]
    refine fn_spec D rfl (by simp [Tr.own]) fun L cs => ?_
    have f1 : (V.str "leaf").fine = true := by decide +kernel
    have f2 : (V.str "node").fine = true := by decide +kernel
    have f3 : (V.str "list").fine = true := by decide +kernel
    cases t with
    | leaf x =>
      refine Ex_cons (Ex1_if (c := true) (τ₁ := τ) (Tst_cmp (Ev_at0 (Ev_name' (y' := .tup [.str "leaf", .str x]) rfl rfl rfl) rfl) Ev_str (Cmp_eq f1 f1 (by simp [V.py, PyData.depth]) rfl)) (fun _ => ?_) (fun h => by cases h))
      exact Ex_cons (Ex1_return (Ev_tuple (ys := [.str x]) (EvL_cons (Ev_at1 (Ev_name' (y' := .tup [.str "leaf", .str x]) rfl rfl rfl) rfl) EvL_nil) rfl (by simp)) rfl ⟨rfl, rfl⟩)
    | node f ks =>
      have lk' : ks.length ≤ 60 := by have := trS_len ks; simp only [Tr.size] at h60; (first | lia | omega)
      refine Ex_cons (Ex1_if (c := false) (τ₁ := τ) (Tst_cmp (Ev_at0 (Ev_name' (y' := .tup [.str "node", .str f, .lst (trL ks)]) rfl rfl rfl) rfl) Ev_str (Cmp_eq f2 f1 (by simp [V.py, PyData.depth]) rfl)) (fun h => by cases h) (fun _ => Ex_nil ?_))
      refine Ex_cons (Ex1_if (c := false) (τ₁ := τ) (Tst_and2 (a := false) (b := false) (τ₁ := τ) (Tst_cmp (Ev_at0 (Ev_name' (y' := .tup [.str "node", .str f, .lst (trL ks)]) rfl rfl rfl) rfl) Ev_str (Cmp_eq f2 f3 (by simp [V.py, PyData.depth]) rfl)) (fun h => by cases h) (fun _ => rfl)) (fun h => by cases h) (fun _ => Ex_nil ?_))
      refine Ex_cons (Ex1_return (y := (dueT (.node f ks)).v) (Ev_eq (Ev_bin (Ev_tuple (ys := [.str f]) (EvL_cons (Ev_at1 (Ev_name' (y' := .tup [.str "node", .str f, .lst (trL ks)]) rfl rfl rfl) rfl) EvL_nil) rfl (by simp)) (Ev_type b_tuple (Bu_tuple (xs := ks.map fun u => (dueT u).v) rfl (by rw [List.length_map, sizeLine_eq]; (first | lia | omega))) (EvL_cons (EvN.ev (EvN_comp1 (τ₁ := τ) (items := ks.map Tr.v) (σ' := [])
        (IterE.of (x := .lst (ks.map Tr.v)) (Ev_at2 (Ev_name' (y' := .tup [.str "node", .str f, .lst (ks.map Tr.v)]) (by rw [← trL_eq]; rfl) rfl rfl) rfl) IterOf_lst) Filt.nil ?_ (by rw [List.length_map, sizeLine_eq]; (first | lia | omega)))) EvL_nil) rfl) (Bin_add_tup (by rw [List.length_map, sizeLine_eq]; simp; (first | lia | omega)))) ?_) (Tm.own _) ⟨rfl, rfl⟩)
      · exact Turns.over fun u hu => CTurn_name (CAct_emit (fun L cs => Ev_call g_due (isFun_of rfl) (ih u (by have := trS_mem hu; simp only [Tr.size] at hd; (first | lia | omega)) (by have := trS_mem hu; simp only [Tr.size] at h60; (first | lia | omega)) τ) (EvL_cons (Ev_name rfl rfl) EvL_nil) rfl) (Tm.pure _) rfl)
      · show V.tup ([.str f] ++ _) = (Tm.mk f (dueL ks)).v
        rw [Tm.v, vL_eq, dueL_eq, List.map_map]; rfl
    | list f ks =>
      have lk' : ks.length ≤ 60 := by have := trS_len ks; simp only [Tr.size] at h60; (first | lia | omega)
      refine Ex_cons (Ex1_if (c := false) (τ₁ := τ) (Tst_cmp (Ev_at0 (Ev_name' (y' := .tup [.str "list", .str f, .lst (trL ks)]) rfl rfl rfl) rfl) Ev_str (Cmp_eq f3 f1 (by simp [V.py, PyData.depth]) rfl)) (fun h => by cases h) (fun _ => Ex_nil ?_))
      refine Ex_cons (Ex1_if (c := true && decide ((2 : Int) < ((ks.map Tr.v).length : Int))) (τ₁ := τ) (Tst_and2 (a := true) (τ₁ := τ) (Tst_cmp (Ev_at0 (Ev_name' (y' := .tup [.str "list", .str f, .lst (trL ks)]) rfl rfl rfl) rfl) Ev_str (Cmp_eq f3 f3 (by simp [V.py, PyData.depth]) rfl)) (fun _ => Tst_cmp (Ev_builtin b_len (Bu_len (x := .lst (ks.map Tr.v)) (xs := ks.map Tr.v) rfl (by rw [List.length_map, sizeLine_eq]; (first | lia | omega))) (EvL_cons (Ev_at2 (Ev_name' (y' := .tup [.str "list", .str f, .lst (ks.map Tr.v)]) (by rw [← trL_eq]; rfl) rfl rfl) rfl) EvL_nil) rfl) Ev_int (Cmp_gt_int rfl)) (fun h => by cases h)) (fun hc => ?_) (fun hc => Ex_nil ?_))
      · rw [Bool.true_and] at hc
        have hl := of_decide_eq_true hc
        rw [List.length_map] at hl
        match ks, hl with
        | a :: b :: c :: r, _ =>
          have e0 : (Tr.list f (a :: b :: c :: r)).v = .tup [.str "list", .str f, .lst (a.v :: ((b :: c :: r).map Tr.v))] := by
            show V.tup [_, _, .lst (trL _)] = _
            rw [trL_eq]; rfl
          simp only [Tr.size, trS] at hd h60
          have spa : a.size ≥ 1 := trS_pos a
          refine Ex_cons (Ex1_return (y := (dueT (.list f (a :: b :: c :: r))).v) (Ev_tuple (ys := [.str f, (dueT a).v, (dueT (.list f (b :: c :: r))).v]) (EvL_cons (Ev_at1 (Ev_name' (y' := .tup [.str "list", .str f, .lst (a.v :: ((b :: c :: r).map Tr.v))]) e0 rfl rfl) rfl)
            (EvL_cons (Ev_call g_due (isFun_of rfl) (ih a (by (first | lia | omega)) (by (first | lia | omega)) τ) (EvL_cons (Ev_at0 (Ev_at2 (Ev_name' (y' := .tup [.str "list", .str f, .lst (a.v :: ((b :: c :: r).map Tr.v))]) e0 rfl rfl) rfl) rfl) EvL_nil) rfl)
            (EvL_cons (Ev_call g_due (isFun_of rfl) (ih (.list f (b :: c :: r)) (by simp only [Tr.size, trS]; (first | lia | omega)) (by simp only [Tr.size, trS]; (first | lia | omega)) τ) (EvL_cons (Ev_tuple (ys := [.str "list", .str f, .lst (trL (b :: c :: r))]) (EvL_cons Ev_str (EvL_cons (Ev_at1 (Ev_name' (y' := .tup [.str "list", .str f, .lst (a.v :: ((b :: c :: r).map Tr.v))]) e0 rfl rfl) rfl)
              (EvL_cons (Ev_eq (Ev_slice (xs := a.v :: ((b :: c :: r).map Tr.v)) (lo := some ((1 : Nat) : Int)) (hi := none) (st := none) (Ev_at2 (Ev_name' (y' := .tup [.str "list", .str f, .lst (a.v :: ((b :: c :: r).map Tr.v))]) e0 rfl rfl) rfl) (EvO_some Ev_int) EvO_none EvO_none (.inl rfl) (by decide) ?_) (by rw [pick_from, trL_eq]; rfl)) EvL_nil))) (by simp [pure_str, pure_lst]) (by simp)) EvL_nil) rfl) EvL_nil))) (by simp [pure_str, Tm.pure]) (by simp)) (Tm.own _) ⟨rfl, rfl⟩)
          rw [sizeLine_eq]
          simp only [List.length_cons, List.length_map] at lk' ⊢
          (first | lia | omega)
      · rw [Bool.true_and] at hc
        have hl := of_decide_eq_false hc
        rw [List.length_map] at hl
        have edue : dueT (.list f ks) = .mk f (dueL ks) := by
          match ks, hl with
          | [], _ => rfl
          | [a], _ => rfl
          | [a, b], _ => rfl
          | a :: b :: c :: r, h => exact absurd (by simp only [List.length_cons]; (first | lia | omega)) h
        rw [edue]
        refine Ex_cons (Ex1_return (y := (Tm.mk f (dueL ks)).v) (Ev_eq (Ev_bin (Ev_tuple (ys := [.str f]) (EvL_cons (Ev_at1 (Ev_name' (y' := .tup [.str "list", .str f, .lst (trL ks)]) rfl rfl rfl) rfl) EvL_nil) rfl (by simp)) (Ev_type b_tuple (Bu_tuple (xs := ks.map fun u => (dueT u).v) rfl (by rw [List.length_map, sizeLine_eq]; (first | lia | omega))) (EvL_cons (EvN.ev (EvN_comp1 (τ₁ := τ) (items := ks.map Tr.v) (σ' := [])
          (IterE.of (x := .lst (ks.map Tr.v)) (Ev_at2 (Ev_name' (y' := .tup [.str "list", .str f, .lst (ks.map Tr.v)]) (by rw [← trL_eq]; rfl) rfl rfl) rfl) IterOf_lst) Filt.nil ?_ (by rw [List.length_map, sizeLine_eq]; (first | lia | omega)))) EvL_nil) rfl) (Bin_add_tup (by rw [List.length_map, sizeLine_eq]; simp; (first | lia | omega)))) ?_) (Tm.own _) ⟨rfl, rfl⟩)
        · exact Turns.over fun u hu => CTurn_name (CAct_emit (fun L cs => Ev_call g_due (isFun_of rfl) (ih u (by have := trS_mem hu; simp only [Tr.size] at hd; (first | lia | omega)) (by have := trS_mem hu; simp only [Tr.size] at h60; (first | lia | omega)) τ) (EvL_cons (Ev_name rfl rfl) EvL_nil) rfl) (Tm.pure _) rfl)
        · rw [Tm.v, vL_eq, dueL_eq, List.map_map]; rfl
end
end Mine
namespace Mine

noncomputable def brk (zs : List Int) (f : Str) (s : List Tm × Nat) : List Tm × Nat :=
  if 0 < pickN zs s.2 4 then
    let at' := pickN zs (s.2 + 1) (s.1.length - 1)
    (s.1.take at' ++ [.mk f [s.1.getD at' default, s.1.getD (at' + 1) default]] ++ s.1.drop (at' + 2), s.2 + 2)
  else (s.1, s.2 + 1)
noncomputable def brkN (zs : List Int) (f : Str) (s : List Tm × Nat) : Nat → List Tm × Nat
  | 0 => s
  | i + 1 => brk zs f (brkN zs f s i)
mutual
noncomputable def termT (zs : List Int) : Tr → Nat → Tm × Nat
  | .leaf x, k => (.mk x [], k)
  | .node f ks, k => let r := termL zs ks k; (.mk f r.1, r.2)
  | .list f ks, k => let r := termL zs ks k; let s := brkN zs f r (ks.length - 2); (.mk f s.1, s.2)
noncomputable def termL (zs : List Int) : List Tr → Nat → List Tm × Nat
  | [], k => ([], k)
  | t :: r, k => let a := termT zs t k; let b := termL zs r a.2; (a.1 :: b.1, b.2)
end
theorem termL_len (zs : List Int) : ∀ (ks : List Tr) (k : Nat), (termL zs ks k).1.length = ks.length
  | [], _ => rfl
  | t :: r, k => by simp only [termL, List.length_cons, termL_len zs r]
theorem brk_len {zs : List Int} {f : Str} {s : List Tm × Nat} (h : 2 ≤ s.1.length) : s.1.length - 1 ≤ (brk zs f s).1.length ∧ (brk zs f s).1.length ≤ s.1.length ∧ s.2 ≤ (brk zs f s).2 ∧ (brk zs f s).2 ≤ s.2 + 2 := by
  unfold brk
  split
  · have := pickN_lt (zs := zs) (k := s.2 + 1) (many := s.1.length - 1) (by (first | lia | omega))
    simp only [List.length_append, List.length_take, List.length_drop, List.length_cons, List.length_nil]
    (first | lia | omega)
  · simp only; (first | lia | omega)
theorem brkN_len {zs : List Int} {f : Str} {s : List Tm × Nat} : ∀ {i : Nat}, i + 2 ≤ s.1.length → s.1.length - i ≤ (brkN zs f s i).1.length ∧ (brkN zs f s i).1.length ≤ s.1.length ∧ s.2 ≤ (brkN zs f s i).2 ∧ (brkN zs f s i).2 ≤ s.2 + 2 * i
  | 0, h => ⟨Nat.le_refl _, Nat.le_refl _, Nat.le_refl _, Nat.le_refl _⟩
  | i + 1, h => by
    have ih := brkN_len (zs := zs) (f := f) (s := s) (i := i) (by (first | lia | omega))
    have := brk_len (zs := zs) (f := f) (s := brkN zs f s i) (by (first | lia | omega))
    unfold brkN
    (first | lia | omega)
mutual
noncomputable def Tr.wf : Tr → Bool
  | .leaf _ => true
  | .node _ ks => wfL ks
  | .list _ ks => decide (2 ≤ ks.length) && wfL ks
noncomputable def wfL : List Tr → Bool
  | [] => true
  | t :: r => t.wf && wfL r
end
mutual
theorem termT_k (zs : List Int) : ∀ (t : Tr) (k : Nat), t.wf = true → k ≤ (termT zs t k).2 ∧ (termT zs t k).2 + 2 ≤ k + 2 * t.size
  | .leaf x, k, _ => by simp only [termT, Tr.size]; (first | lia | omega)
  | .node f ks, k, h => by
    have := termL_k zs ks k h
    simp only [termT, Tr.size]
    (first | lia | omega)
  | .list f ks, k, h => by
    have h' := Bool.and_eq_true_iff.mp (show (_ && _) = true from h)
    have h2 := of_decide_eq_true h'.1
    have a := termL_k zs ks k h'.2
    have b := brkN_len (zs := zs) (f := f) (s := termL zs ks k) (i := ks.length - 2) (by rw [termL_len]; (first | lia | omega))
    have c := trS_len ks
    have d : (termL zs ks k).1.length = ks.length := termL_len zs ks k
    simp only [termT, Tr.size]
    (first | lia | omega)
theorem termL_k (zs : List Int) : ∀ (ks : List Tr) (k : Nat), wfL ks = true → k ≤ (termL zs ks k).2 ∧ (termL zs ks k).2 + 2 * ks.length ≤ k + 2 * trS ks
  | [], k, _ => by simp [termL, trS]
  | t :: r, k, h => by
    have h' := Bool.and_eq_true_iff.mp (show (_ && _) = true from h)
    have a := termT_k zs t k h'.1
    have b := termL_k zs r (termT zs t k).2 h'.2
    have c := trS_pos t
    simp only [termL, trS, List.length_cons]
    (first | lia | omega)
end
theorem wfL_mem {t : Tr} : ∀ {ks : List Tr}, wfL ks = true → t ∈ ks → t.wf = true
  | y :: r, h, hm => by
    have h' := Bool.and_eq_true_iff.mp (show (_ && _) = true from h)
    rcases List.mem_cons.mp hm with rfl | hm
    · exact h'.1
    · exact wfL_mem h'.2 hm
theorem own_tray : V.tray.own = false := rfl
theorem FRun_indS {B : V → List (Str × V) → Option Nat → (Out → Prop) → Prop} {P : Out → Prop} (I : Nat → List (Str × V) → Prop) (tt : Nat → Option Nat) : ∀ {items : List V} {σ : List (Str × V)}, I 0 σ →
    (∀ i x σ, items[i]? = some x → I i σ → ∀ P' : Out → Prop, (∀ σ', I (i + 1) σ' → P' (.next σ' (tt (i + 1)))) → B x σ (tt i) P') → (∀ σ', I items.length σ' → P (.next σ' (tt items.length))) → FRun B items σ (tt 0) P := by
  intro items σ h0 step fin
  have go : ∀ (rest : List V) (i : Nat) (σ : List (Str × V)), rest = items.drop i → i ≤ items.length → I i σ → FRun B rest σ (tt i) P := by
    intro rest
    induction rest with
    | nil =>
      intro i σ hr hi hI
      have : i = items.length := by
        have := congrArg List.length hr
        simp at this; (first | lia | omega)
      subst this
      exact fin σ hI
    | cons x r ih =>
      intro i σ hr hi hI
      have hlt : i < items.length := by
        rcases Nat.lt_or_ge i items.length with h | h
        · exact h
        · rw [List.drop_eq_nil_of_le h] at hr; cases hr
      rw [List.drop_eq_getElem_cons hlt] at hr
      injection hr with e1 e2
      show B x σ (tt i) _
      exact step i x σ (by rw [List.getElem?_eq_getElem hlt, e1]) hI _ fun σ' h' => ih (i + 1) σ' e2 hlt h'
  exact go items 0 σ rfl (Nat.zero_le _) h0
theorem Turns.termL {zs : List Int} {T' : V → Option Nat → List V → Option Nat → Prop} : ∀ {ks : List Tr} {k : Nat}, (∀ t ∈ ks, ∀ k', k ≤ k' → k' + 2 * t.size ≤ k + 2 * trS ks → T' t.v (some k') [(termT zs t k').1.v] (some (termT zs t k').2)) → wfL ks = true →
    Turns T' (ks.map Tr.v) (some k) ((Mine.termL zs ks k).1.map Tm.v) (some (Mine.termL zs ks k).2)
  | [], k, _, _ => ⟨rfl, rfl⟩
  | t :: r, k, h, hw => by
    have h' := Bool.and_eq_true_iff.mp (show (_ && _) = true from hw)
    have b := termT_k zs t k h'.1
    refine ⟨[(termT zs t k).1.v], (Mine.termL zs r (termT zs t k).2).1.map Tm.v, some (termT zs t k).2, h t List.mem_cons_self k (Nat.le_refl _) (by simp only [trS]; (first | lia | omega)), ?_, rfl⟩
    exact Turns.termL (fun u hu k' h1 h2 => h u (List.mem_cons_of_mem _ hu) k' (by (first | lia | omega)) (by simp only [trS]; (first | lia | omega))) h'.2
theorem brk_arith {a l s2 i n k0 k S : Nat} (hi : i < n - 2) (b1 : a - i ≤ l) (b2 : l ≤ a) (b4 : s2 ≤ k0 + 2 * i) (ll : a = n) (n60 : n ≤ 60) (kk : k0 + 2 * n ≤ k + 2 * S) (hk : k + 2 * (S + 1) ≤ 1000) : 3 ≤ l ∧ l ≤ 60 ∧ s2 + 4 ≤ 1000 := by
  omega
theorem take_two {α : Type} [Inhabited α] {l : List α} {i : Nat} (h : i + 1 < l.length) : l[i]? = some (l.getD i default) ∧ l[i + 1]? = some (l.getD (i + 1) default) := by
  constructor
  · rw [List.getD_eq_getElem?_getD, List.getElem?_eq_getElem (by (first | lia | omega))]; rfl
  · rw [List.getD_eq_getElem?_getD, List.getElem?_eq_getElem (by (first | lia | omega))]; rfl

section
variable {w : World} {mg mb : Str → Option Value} {T : Option Addr} {zs : List Int} {n : Nat}
theorem spec_term (hz : zs.length ≤ 1000) : ∀ (d : Nat) (t : Tr) (k : Nat), t.size ≤ d → t.size ≤ 60 → t.wf = true → k + 2 * t.size ≤ 1000 → FnSpec (cx1 w mg mb T (cellsV zs)) (d + (n + 1)) (.ref 223) [.tray, t.v] (some k) (termT zs t k).1.v (some (termT zs t k).2) := by
  intro d
  induction d with
  | zero => intro t k hd; have := trS_pos t; (first | lia | omega)
  | succ d ih =>
    intro t k hd h60 hw hk
    have D : FnData (cx1 w mg mb T (cellsV zs)) 223 _ _ ["tray", "tree"] := fnData_of rfl rfl rfl rfl rfl rfl rfl rfl rfl (bindL2 rfl fun _ _ => rfl) rfl (by decide)
    rw [show d + 1 + (n + 1) = d + (n + 1) + 1 by (first | lia | omega)]
    refine fn_spec D rfl (by simp [own_tray, Tr.own]) fun L cs => ?_
    have f1 : (V.str "leaf").fine = true := by decide +kernel
    have f2 : (V.str "node").fine = true := by decide +kernel
    have f3 : (V.str "list").fine = true := by decide +kernel
    cases t with
    | leaf x =>
      refine Ex_cons (Ex1_if (c := true) (τ₁ := some k) (Tst_cmp (Ev_at0 (Ev_name' (y' := .tup [.str "leaf", .str x]) rfl rfl rfl) rfl) Ev_str (Cmp_eq f1 f1 (by simp [V.py, PyData.depth]) rfl)) (fun _ => ?_) (fun h => by cases h))
      exact Ex_cons (Ex1_return (Ev_tuple (ys := [.str x]) (EvL_cons (Ev_at1 (Ev_name' (y' := .tup [.str "leaf", .str x]) rfl rfl rfl) rfl) EvL_nil) rfl (by simp)) rfl ⟨rfl, rfl⟩)
    | node f ks =>
      have lk' : ks.length ≤ 60 := by have := trS_len ks; simp only [Tr.size] at h60; (first | lia | omega)
      have e0 : (Tr.node f ks).v = .tup [.str "node", .str f, .lst (ks.map Tr.v)] := by rw [← trL_eq]; rfl
      have wl : wfL ks = true := hw
      have ll := termL_len zs ks k
      simp only [Tr.size] at hd h60 hk
      refine Ex_cons (Ex1_if (c := false) (τ₁ := some k) (Tst_cmp (Ev_at0 (Ev_name' e0 rfl rfl) rfl) Ev_str (Cmp_eq f2 f1 (by simp [V.py, PyData.depth]) rfl)) (fun h => by cases h) (fun _ => Ex_nil ?_))
      refine Ex_cons (Ex1_comp1 (τ₁ := some k) (τ₂ := some (termL zs ks k).2) (items := ks.map Tr.v) (ys := (termL zs ks k).1.map Tm.v) (σ' := [("tray", .tray)]) (IterE.of (Ev_at2 (Ev_name' e0 rfl rfl) rfl) IterOf_lst) (Filt.add Filt.nil rfl rfl rfl) ?_ (by rw [List.length_map, ll, sizeLine_eq]; (first | lia | omega)) ?_)
      · exact Turns.termL (fun u hu k' h1 h2 => CTurn_name (CAct_emit (fun L cs => Ev_call g_term (isFun_of rfl) (ih u k' (by have := trS_mem hu; (first | lia | omega)) (by have := trS_mem hu; (first | lia | omega)) (wfL_mem wl hu) (by (first | lia | omega))) (EvL_cons (Ev_name rfl rfl) (EvL_cons (Ev_name rfl rfl) EvL_nil)) rfl) (Tm.pure _) rfl)) wl
      · refine Ex_freeze lookup_cons_eq rfl ?_
        refine Ex_cons (Ex1_for (items := upto 0) (τ₁ := some (termL zs ks k).2) (IterE_range b_range (Ev_ifexp (c := false) (τ₁ := some (termL zs ks k).2) (Tst_cmp (Ev_at0 (Ev_name' e0 rfl rfl) rfl) Ev_str (Cmp_eq f2 f3 (by simp [V.py, PyData.depth]) rfl)) (fun h => by cases h) (fun _ => Ev_int)) rfl (by simp)) ?_)
        show Ex _ _ _ _ _ _ _
        refine Ex_cons (Ex1_return (y := (Tm.mk f (termL zs ks k).1).v) (Ev_eq (Ev_bin (Ev_tuple (ys := [.str f]) (EvL_cons (Ev_at1 (Ev_name' e0 rfl rfl) rfl) EvL_nil) rfl (by simp)) (Ev_type b_tuple (Bu_tuple (xs := (termL zs ks k).1.map Tm.v) rfl (by rw [List.length_map, ll, sizeLine_eq]; (first | lia | omega))) (EvL_cons (Ev_name lookup_cons_eq rfl) EvL_nil) rfl) (Bin_add_tup (by rw [List.length_map, ll, sizeLine_eq]; simp; (first | lia | omega)))) ?_) (Tm.own _) ⟨rfl, rfl⟩)
        rw [Tm.v, vL_eq]; rfl
    | list f ks =>
      have lk' : ks.length ≤ 60 := by have := trS_len ks; simp only [Tr.size] at h60; (first | lia | omega)
      have e0 : (Tr.list f ks).v = .tup [.str "list", .str f, .lst (ks.map Tr.v)] := by rw [← trL_eq]; rfl
      have hw' := Bool.and_eq_true_iff.mp (show (_ && _) = true from hw)
      have wl : wfL ks = true := hw'.2
      have l2 := of_decide_eq_true hw'.1
      have ll := termL_len zs ks k
      have kk := termL_k zs ks k wl
      simp only [Tr.size] at hd h60 hk
      refine Ex_cons (Ex1_if (c := false) (τ₁ := some k) (Tst_cmp (Ev_at0 (Ev_name' e0 rfl rfl) rfl) Ev_str (Cmp_eq f3 f1 (by simp [V.py, PyData.depth]) rfl)) (fun h => by cases h) (fun _ => Ex_nil ?_))
      refine Ex_cons (Ex1_comp1 (τ₁ := some k) (τ₂ := some (termL zs ks k).2) (items := ks.map Tr.v) (ys := (termL zs ks k).1.map Tm.v) (σ' := [("tray", .tray)]) (IterE.of (Ev_at2 (Ev_name' e0 rfl rfl) rfl) IterOf_lst) (Filt.add Filt.nil rfl rfl rfl) ?_ (by rw [List.length_map, ll, sizeLine_eq]; (first | lia | omega)) ?_)
      · exact Turns.termL (fun u hu k' h1 h2 => CTurn_name (CAct_emit (fun L cs => Ev_call g_term (isFun_of rfl) (ih u k' (by have := trS_mem hu; (first | lia | omega)) (by have := trS_mem hu; (first | lia | omega)) (wfL_mem wl hu) (by (first | lia | omega))) (EvL_cons (Ev_name rfl rfl) (EvL_cons (Ev_name rfl rfl) EvL_nil)) rfl) (Tm.pure _) rfl)) wl
      · refine Ex_freeze lookup_cons_eq rfl ?_
        let s0 := termL zs ks k
        have bl : ∀ i, i ≤ ks.length - 2 → s0.1.length - i ≤ (brkN zs f s0 i).1.length ∧ (brkN zs f s0 i).1.length ≤ s0.1.length ∧ s0.2 ≤ (brkN zs f s0 i).2 ∧ (brkN zs f s0 i).2 ≤ s0.2 + 2 * i := fun i hi => brkN_len (by show i + 2 ≤ (termL zs ks k).1.length; (first | lia | omega))
        refine Ex_cons (Ex1_for (items := upto (ks.length - 2)) (τ₁ := some s0.2) (IterE_range b_range (Ev_ifexp (c := true) (τ₁ := some s0.2) (Tst_cmp (Ev_at0 (Ev_name' e0 rfl rfl) rfl) Ev_str (Cmp_eq f3 f3 (by simp [V.py, PyData.depth]) rfl)) (fun _ => Ev_eq (Ev_bin (Ev_builtin b_len (Bu_len (x := .lst (s0.1.map Tm.v)) (xs := s0.1.map Tm.v) rfl (by rw [List.length_map, ll, sizeLine_eq]; (first | lia | omega))) (EvL_cons (Ev_name lookup_cons_eq rfl) EvL_nil) rfl) Ev_int Bin_sub_int) (by rw [List.length_map, ll]; congr 1; (first | lia | omega))) (fun h => by cases h)) rfl (by rw [sizeLine_eq]; (first | lia | omega))) ?_)
        refine FRun_indS (I := fun i σ => σ.lookup ("some" : Str) = some (V.lst ((brkN zs f s0 i).1.map Tm.v)) ∧ σ.lookup ("tray" : Str) = some .tray ∧ σ.lookup ("tree" : Str) = some (.tup [.str "list", .str f, .lst (ks.map Tr.v)])) (tt := fun i => some (brkN zs f s0 i).2) ⟨rfl, rfl, by rw [← e0]; rfl⟩ (fun i y σ hy hI P' hP' => ?_) (fun σ' hI => ?_)
        · obtain ⟨i1, i2, i3⟩ := hI
          have hi : i < ks.length - 2 := by
            have := (List.getElem?_eq_some_iff.mp hy).1
            unfold upto at this; rw [List.length_map, List.length_range] at this; exact this
          have bi := bl i (by (first | lia | omega))
          have ll' : s0.1.length = ks.length := ll
          have kk' : s0.2 + 2 * ks.length ≤ k + 2 * trS ks := kk.2
          generalize hs : brkN zs f s0 i = s at *
          have est : brkN zs f s0 (i + 1) = brk zs f s := by rw [brkN, hs]
          obtain ⟨c1, c2, c3⟩ := brk_arith hi bi.1 bi.2.1 bi.2.2.2 ll' lk' kk' hk
          clear bi kk' bl kk hk hd h60 l2 ll' lk' hw wl ih hi
          rw [est] at hP'
          have eb : brk zs f s = if 0 < pickN zs s.2 4 then (s.1.take (pickN zs (s.2 + 1) (s.1.length - 1)) ++ [.mk f [s.1.getD (pickN zs (s.2 + 1) (s.1.length - 1)) default, s.1.getD (pickN zs (s.2 + 1) (s.1.length - 1) + 1) default]] ++ s.1.drop (pickN zs (s.2 + 1) (s.1.length - 1) + 2), s.2 + 2) else (s.1, s.2 + 1) := rfl
          have pl := pickN_lt (zs := zs) (k := s.2 + 1) (many := s.1.length - 1) (by (first | lia | omega))
          refine FTurn_name (Ex_cons (Ex1_if (c := decide ((0 : Int) < (pickN zs s.2 4 : Nat))) (τ₁ := some (s.2 + 1)) (Tst_cmp (Ev_call g_pick (isFun_of rfl) ((spec_pick (n := 0) (many := 4) (k := s.2) (by decide) hz (by (first | lia | omega))).le (by (first | lia | omega))) (EvL_cons (Ev_name (lk i2 rfl) rfl) (EvL_cons Ev_int EvL_nil)) rfl) Ev_int (Cmp_gt_int rfl)) (fun hc => ?_) (fun hc => ?_)))
          · have hp : 0 < pickN zs s.2 4 := by have := of_decide_eq_true hc; (first | lia | omega)
            rw [if_pos hp] at eb
            rw [eb] at hP'
            have sp := spec_pick (w := w) (mg := mg) (mb := mb) (T := T) (zs := zs) (n := 0) (many := s.1.length - 1) (k := s.2 + 1) (by (first | lia | omega)) hz (by (first | lia | omega))
            generalize pickN zs (s.2 + 1) (s.1.length - 1) = at' at *
            obtain ⟨g1, g2⟩ := take_two (l := s.1) (i := at') (by (first | lia | omega))
            have sl : (s.1.map Tm.v).length ≤ sizeLine := by rw [List.length_map, sizeLine_eq]; (first | lia | omega)
            refine Ex_cons (Ex1_assign (τ₁ := some (s.2 + 2)) (y := .int (at' : Int)) ?_ rfl rfl ?_)
            · exact Ev_call g_pick (isFun_of rfl) (sp.le (by (first | lia | omega))) (EvL_cons (Ev_name (lk i2 rfl) rfl) (EvL_cons (Ev_eq (Ev_bin (Ev_builtin b_len (Bu_len (x := .lst (s.1.map Tm.v)) (xs := s.1.map Tm.v) rfl sl) (EvL_cons (Ev_name (lk i1 rfl) rfl) EvL_nil) rfl) Ev_int Bin_sub_int) (by rw [List.length_map]; congr 1; (first | lia | omega))) EvL_nil)) rfl
            · refine Ex_cons (Ex1_assign (τ₁ := some (s.2 + 2)) (y := .lst ((s.1.take at' ++ [Tm.mk f [s.1.getD at' default, s.1.getD (at' + 1) default]] ++ s.1.drop (at' + 2)).map Tm.v)) (Ev_eq (Ev_bin (Ev_bin
                (Ev_eq (y' := .lst ((s.1.take at').map Tm.v)) (Ev_slice (xs := s.1.map Tm.v) (lo := none) (hi := some ((at' : Nat) : Int)) (st := none) (Ev_name (by (repeat refine lk ?_ rfl); exact i1) rfl) EvO_none (EvO_some (Ev_name lookup_cons_eq rfl)) EvO_none (.inl rfl) (by decide) sl) (by rw [pick_upto, List.map_take]))
                (EvN.ev (EvN_list (ys := [(Tm.mk f [s.1.getD at' default, s.1.getD (at' + 1) default]).v]) (EvL_cons (Ev_tuple (ys := [.str f, (s.1.getD at' default).v, (s.1.getD (at' + 1) default).v]) (EvL_cons (Ev_at1 (Ev_name (by (repeat refine lk ?_ rfl); exact i3) rfl) rfl)
                  (EvL_cons (Ev_itemN (xs := s.1.map Tm.v) (k := at') (Ev_name (by (repeat refine lk ?_ rfl); exact i1) rfl) (Ev_name lookup_cons_eq rfl) rfl (by rw [List.getElem?_map, g1]; rfl) (by (first | lia | omega)))
                  (EvL_cons (Ev_itemN (xs := s.1.map Tm.v) (k := at' + 1) (Ev_name (by (repeat refine lk ?_ rfl); exact i1) rfl) (Ev_eq (Ev_bin (Ev_name lookup_cons_eq rfl) Ev_int Bin_add_int) (by congr 1)) rfl (by rw [List.getElem?_map, g2]; rfl) (by (first | lia | omega))) EvL_nil))) (by simp [pure_str, Tm.pure]) (by simp)) EvL_nil) (by simp [Tm.pure]) (by simp)))
                (Bin_add_lst (by rw [List.length_map, List.length_take, sizeLine_eq]; simp; (first | lia | omega))))
                (Ev_eq (y' := .lst ((s.1.drop (at' + 2)).map Tm.v)) (Ev_slice (xs := s.1.map Tm.v) (lo := some ((at' + 2 : Nat) : Int)) (hi := none) (st := none) (Ev_name (by (repeat refine lk ?_ rfl); exact i1) rfl) (EvO_some (Ev_eq (Ev_bin (Ev_name lookup_cons_eq rfl) Ev_int Bin_add_int) (by congr 1))) EvO_none EvO_none (.inl rfl) (by decide) sl) (by rw [pick_from, List.map_drop]))
                (Bin_add_lst (by simp only [List.length_append, List.length_map, List.length_take, List.length_drop, List.length_cons, List.length_nil]; rw [sizeLine_eq]; (first | lia | omega)))) (by rw [List.map_append, List.map_append]; rfl)) rfl rfl (Ex_nil (Ex_nil (hP' _ ⟨lookup_cons_eq, by (repeat refine lk ?_ rfl); exact i2, by (repeat refine lk ?_ rfl); exact i3⟩))))
          · have hp : ¬ 0 < pickN zs s.2 4 := by have := of_decide_eq_false hc; (first | lia | omega)
            rw [if_neg hp] at eb
            rw [eb] at hP'
            exact Ex_nil (Ex_nil (hP' _ ⟨lk i1 rfl, lk i2 rfl, lk i3 rfl⟩))
        · obtain ⟨i1, i2, i3⟩ := hI
          have eu : (upto (ks.length - 2)).length = ks.length - 2 := by unfold upto; rw [List.length_map, List.length_range]
          rw [eu] at i1 ⊢
          have bi := bl (ks.length - 2) (Nat.le_refl _)
          have ll' : s0.1.length = ks.length := ll
          have et : termT zs (.list f ks) k = (.mk f (brkN zs f s0 (ks.length - 2)).1, (brkN zs f s0 (ks.length - 2)).2) := rfl
          rw [et]
          refine Ex_cons (Ex1_return (y := (Tm.mk f (brkN zs f s0 (ks.length - 2)).1).v) (Ev_eq (Ev_bin (Ev_tuple (ys := [.str f]) (EvL_cons (Ev_at1 (Ev_name i3 rfl) rfl) EvL_nil) rfl (by simp)) (Ev_type b_tuple (Bu_tuple (xs := (brkN zs f s0 (ks.length - 2)).1.map Tm.v) rfl (by rw [List.length_map, sizeLine_eq]; (first | lia | omega))) (EvL_cons (Ev_name i1 rfl) EvL_nil) rfl) (Bin_add_tup (by rw [List.length_map, sizeLine_eq]; simp; (first | lia | omega)))) ?_) (Tm.own _) ⟨rfl, rfl⟩)
          rw [Tm.v, vL_eq]; rfl
end
end Mine
namespace Mine

noncomputable def drawN (D : Nat → Tr × Nat) : Nat → Nat → List Tr × Nat
  | 0, k => ([], k)
  | c + 1, k => ((D k).1 :: (drawN D c (D k).2).1, (drawN D c (D k).2).2)
noncomputable def nm4 (i : Nat) : Str := ([("a" : Str), "b", "c", "s"] : List Str).getD i "a"
noncomputable def nm2 (i : Nat) : Str := ([("f" : Str), "s"] : List Str).getD i "f"
noncomputable def nm3 (i : Nat) : Str := ([("g" : Str), "s", "p"] : List Str).getD i "g"
noncomputable def freeOf (told : List Str) (around : Str) : List Str := told.filter fun op => !(op == around)
noncomputable def drawT (zs : List Int) (told : List Str) : Nat → Str → Nat → Tr × Nat
  | 0, around, k => (.leaf (nm4 (pickN zs k 4)), k + 1)
  | d + 1, around, k =>
    if pickN zs k 5 = 0 then (.leaf (nm4 (pickN zs (k + 1) 4)), k + 2)
    else if pickN zs k 5 = 1 then (.node (nm2 (pickN zs (k + 1) 2)) [(drawT zs told d "" (k + 2)).1], (drawT zs told d "" (k + 2)).2)
    else if pickN zs k 5 = 2 then (.node (if told.contains (nm3 (pickN zs (k + 1) 3)) then "g" else nm3 (pickN zs (k + 1) 3)) (drawN (drawT zs told d "") 2 (k + 2)).1, (drawN (drawT zs told d "") 2 (k + 2)).2)
    else if freeOf told around = [] then (.leaf "b", k + 1)
    else (.list ((freeOf told around).getD (pickN zs (k + 1) (freeOf told around).length) "s") (drawN (drawT zs told d ((freeOf told around).getD (pickN zs (k + 1) (freeOf told around).length) "s")) (2 + pickN zs (k + 2) 2) (k + 3)).1,
      (drawN (drawT zs told d ((freeOf told around).getD (pickN zs (k + 1) (freeOf told around).length) "s")) (2 + pickN zs (k + 2) 2) (k + 3)).2)
noncomputable def cB : Nat → Nat
  | 0 => 1
  | d + 1 => 3 + 3 * cB d
theorem drawN_len {D : Nat → Tr × Nat} : ∀ (c k : Nat), (drawN D c k).1.length = c
  | 0, _ => rfl
  | c + 1, k => by simp only [drawN, List.length_cons, drawN_len c]
theorem drawN_k {D : Nat → Tr × Nat} {B : Nat} (h : ∀ k, k ≤ (D k).2 ∧ (D k).2 ≤ k + B) : ∀ (c k : Nat), k ≤ (drawN D c k).2 ∧ (drawN D c k).2 ≤ k + c * B
  | 0, k => by simp [drawN]
  | c + 1, k => by
    have a := h k
    have b := drawN_k h c (D k).2
    have e : (c + 1) * B = c * B + B := Nat.succ_mul c B
    simp only [drawN]; (first | lia | omega)
theorem drawT_k (zs : List Int) (told : List Str) : ∀ (d : Nat) (around : Str) (k : Nat), k ≤ (drawT zs told d around k).2 ∧ (drawT zs told d around k).2 ≤ k + cB d
  | 0, around, k => by simp only [drawT, cB]; (first | lia | omega)
  | d + 1, around, k => by
    have ih := fun a k => drawT_k zs told d a k
    unfold drawT cB
    split
    · simp only; (first | lia | omega)
    split
    · have := ih "" (k + 2)
      simp only; (first | lia | omega)
    split
    · have := drawN_k (ih "") 2 (k + 2)
      simp only; (first | lia | omega)
    split
    · simp only; (first | lia | omega)
    · have h2 := pickN_lt (zs := zs) (k := k + 2) (many := 2) (by decide)
      have := drawN_k (ih ((freeOf told around).getD (pickN zs (k + 1) (freeOf told around).length) "s")) (2 + pickN zs (k + 2) 2) (k + 3)
      have e : (2 + pickN zs (k + 2) 2) * cB d ≤ 3 * cB d := Nat.mul_le_mul_right _ (by (first | lia | omega))
      simp only; (first | lia | omega)
theorem Turns.drawN {T' : V → Option Nat → List V → Option Nat → Prop} {D : Nat → Tr × Nat} {B : Nat} (hB : ∀ k, k ≤ (D k).2 ∧ (D k).2 ≤ k + B) : ∀ {items : List V} {c k : Nat}, items.length = c →
    (∀ x ∈ items, ∀ k', k ≤ k' → k' + B ≤ k + c * B → T' x (some k') [(D k').1.v] (some (D k').2)) → Turns T' items (some k) ((Mine.drawN D c k).1.map Tr.v) (some (Mine.drawN D c k).2)
  | [], 0, k, _, _ => ⟨rfl, rfl⟩
  | x :: r, c + 1, k, hl, h => by
    have e : (c + 1) * B = c * B + B := Nat.succ_mul c B
    have b := hB k
    refine ⟨[(D k).1.v], (Mine.drawN D c (D k).2).1.map Tr.v, some (D k).2, h x List.mem_cons_self k (Nat.le_refl _) (by (first | lia | omega)), ?_, rfl⟩
    exact Turns.drawN hB (by simpa using hl) fun y hy k' h1 h2 => h y (List.mem_cons_of_mem _ hy) k' (by (first | lia | omega)) (by (first | lia | omega))
theorem told_ok {told : List Str} (h : okOps told = true) : ∀ x ∈ told, (V.str x).fine = true := by
  have hm : told ∈ opsAll := by simpa [okOps] using h
  have all : ∀ o ∈ opsAll, ∀ x ∈ o, (V.str x).fine = true := by decide +kernel
  exact all told hm
theorem getD_some {l : List Str} {i : Nat} {d : Str} (h : i < l.length) : (l.map V.str)[i]? = some (.str (l.getD i d)) := by
  rw [List.getElem?_map, List.getD_eq_getElem?_getD, List.getElem?_eq_getElem h]; rfl
theorem free_sub {told : List Str} {around : Str} : ∀ x ∈ freeOf told around, x ∈ told := fun x h => (List.mem_filter.mp h).1
theorem fine_lst0 {l : List Str} (h : ∀ x ∈ l, (V.str x).fine = true) : (V.lst (l.map V.str)).fine = true := by
  have a : plainL (l.map V.str) = true := by
    clear h
    induction l with
    | nil => rfl
    | cons x r ih => exact ih
  have b : PyData.canLayAll0 (pyL (l.map V.str)) = true := by
    induction l with
    | nil => rfl
    | cons x r ih =>
      have hx := V.fine_lay (h x List.mem_cons_self)
      have := ih (fun y hy => h y (List.mem_cons_of_mem _ hy)) (by clear h ih hx a; induction r with
        | nil => rfl
        | cons x r ih => exact ih)
      simp only [List.map_cons, pyL, PyData.canLayAll0, hx, this, Bool.and_self]
  unfold V.fine
  have e1 : (V.lst (l.map V.str)).plain = plainL (l.map V.str) := rfl
  have e2 : (V.lst (l.map V.str)).py.canLay0 = PyData.canLayAll0 (pyL (l.map V.str)) := by simp [V.py, PyData.canLay0]
  rw [e1, e2, a, b]; rfl

section
variable {w : World} {mg mb : Str → Option Value} {T : Option Addr} {zs : List Int} {n : Nat} {told : List Str}
theorem ev_pick {C : Cx} {n : Nat} {env : Env} {σ : List (Str × V)} {k many : Nat} {p1 p2 p3 p4 kk} (hC : C = cx1 w mg mb T (cellsV zs)) (hm : 0 < many) (hz : zs.length ≤ 1000) (hk : k ≤ 1000) (hn : 1 ≤ n) (ht : σ.lookup ("tray" : Str) = some .tray) (it : isVar env "tray" = true) (kf : env.kindOf "_law_pick" = some .globalImplicit) :
    Ev C n (.Call (.Name "_law_pick" p1) [.Name "tray" p2, .Constant (.int (many : Int)) kk p3] [] p4) env σ (some k) (.int (pickN zs k many : Nat)) (some (k + 1)) := by
  subst hC
  exact Ev_call g_pick (isFun_of rfl) ((spec_pick (n := 0) hm hz hk).le (by (first | lia | omega))) (EvL_cons (Ev_name ht it) (EvL_cons Ev_int EvL_nil)) kf
theorem spec_drawn (ho : okOps told = true) (hz : zs.length ≤ 1000) : ∀ (d : Nat) (around : Str) (k : Nat), (V.str around).fine = true → d ≤ 10 → k + cB d ≤ 1000 → FnSpec (cx1 w mg mb T (cellsV zs)) (d + (n + 2)) (.ref 218) [.tray, opsV told, .int (d : Int), .str around] (some k) (drawT zs told d around k).1.v (some (drawT zs told d around k).2) := by
  intro d
  induction d with
  | zero =>
    intro around k fa _ hk
    have D : FnData (cx1 w mg mb T (cellsV zs)) 218 _ _ ["tray", "told", "floors", "around"] := fnData_of rfl rfl rfl rfl rfl rfl rfl rfl rfl (bindL4 rfl fun _ _ _ _ => rfl) rfl (by decide)
    rw [show 0 + (n + 2) = n + 1 + 1 by (first | lia | omega)]
    refine fn_spec D rfl (by simp [own_tray, own_int, own_str, opsV, own_lst]) fun L cs => ?_
    have p4 := pickN_lt (zs := zs) (k := k) (many := 4) (by decide)
    unfold cB at hk
    refine Ex_cons (Ex1_assign (τ₁ := some k) (y := .int 0) (Ev_ifexp (c := false) (τ₁ := some k) (Tst_cmp (Ev_name rfl rfl) Ev_int (Cmp_gt_int rfl)) (fun h => by cases h) (fun _ => Ev_int)) rfl rfl ?_)
    refine Ex_cons (Ex1_if (c := true) (τ₁ := some k) (Tst_cmp (Ev_name rfl rfl) Ev_int (Cmp_eq rfl rfl (by simp [V.py, PyData.depth]) rfl)) (fun _ => ?_) (fun h => by cases h))
    exact Ex_cons (Ex1_return (y := (Tr.leaf (nm4 (pickN zs k 4))).v) (Ev_tuple (ys := [.str "leaf", .str (nm4 (pickN zs k 4))]) (EvL_cons Ev_str (EvL_cons (Ev_itemN (k := pickN zs k 4) (xs := ([("a" : Str), "b", "c", "s"] : List Str).map V.str) (x := .tup (([("a" : Str), "b", "c", "s"] : List Str).map V.str)) (τ₁ := some k) (Ev_tuple (ys := ([("a" : Str), "b", "c", "s"] : List Str).map V.str) (EvL_cons Ev_str (EvL_cons Ev_str (EvL_cons Ev_str (EvL_cons Ev_str EvL_nil)))) rfl (by simp))
      (ev_pick (many := 4) rfl (by decide) hz (by (first | lia | omega)) (by (first | lia | omega)) (by (repeat refine lk ?_ rfl); rfl) rfl rfl) rfl (getD_some p4) (by (first | lia | omega))) EvL_nil)) rfl (by simp)) rfl ⟨rfl, rfl⟩)
  | succ d ih =>
    intro around k fa d10 hk
    have D : FnData (cx1 w mg mb T (cellsV zs)) 218 _ _ ["tray", "told", "floors", "around"] := fnData_of rfl rfl rfl rfl rfl rfl rfl rfl rfl (bindL4 rfl fun _ _ _ _ => rfl) rfl (by decide)
    rw [show d + 1 + (n + 2) = d + (n + 2) + 1 by (first | lia | omega)]
    refine fn_spec D rfl (by simp [own_tray, own_int, own_str, opsV, own_lst]) fun L cs => ?_
    have p5 := pickN_lt (zs := zs) (k := k) (many := 5) (by decide)
    have p4 := pickN_lt (zs := zs) (k := k + 1) (many := 4) (by decide)
    have p3 := pickN_lt (zs := zs) (k := k + 1) (many := 3) (by decide)
    have p2 := pickN_lt (zs := zs) (k := k + 1) (many := 2) (by decide)
    have q2 := pickN_lt (zs := zs) (k := k + 2) (many := 2) (by decide)
    unfold cB at hk
    have tl := okOps_len ho
    have fe : (V.str "").fine = true := by decide +kernel
    have hB : ∀ a k, k ≤ (drawT zs told d a k).2 ∧ (drawT zs told d a k).2 ≤ k + cB d := fun a k => drawT_k zs told d a k
    have tests : ∀ (a b : Nat), PyData.eqv (V.int (a : Int)).py (V.int (b : Int)).py = decide (a = b) := fun a b => by
      show ((a : Int) == (b : Int)) = _
      by_cases h : a = b
      · rw [decide_eq_true h, h]; exact beq_self_eq_true _
      · rw [decide_eq_false h]; exact beq_false_of_ne (by (first | lia | omega))
    refine Ex_cons (Ex1_assign (τ₁ := some (k + 1)) (y := .int (pickN zs k 5 : Nat)) (Ev_ifexp (c := true) (τ₁ := some k) (Tst_cmp (Ev_name rfl rfl) Ev_int (Cmp_gt_int (decide_eq_true (by (first | lia | omega))))) (fun _ => ev_pick (many := 5) rfl (by decide) hz (by (first | lia | omega)) (by (first | lia | omega)) rfl rfl rfl) (fun h => by cases h)) rfl rfl ?_)
    refine Ex_cons (Ex1_if (c := decide (pickN zs k 5 = 0)) (τ₁ := some (k + 1)) (Tst_cmp (Ev_name rfl rfl) Ev_int (Cmp_eq rfl rfl (by simp [V.py, PyData.depth]) (tests _ 0))) (fun hc => ?_) (fun hc => Ex_nil ?_))
    · have e : drawT zs told (d + 1) around k = (.leaf (nm4 (pickN zs (k + 1) 4)), k + 2) := by rw [drawT, if_pos (of_decide_eq_true hc)]
      rw [e]
      exact Ex_cons (Ex1_return (y := (Tr.leaf (nm4 (pickN zs (k + 1) 4))).v) (Ev_tuple (ys := [.str "leaf", .str (nm4 (pickN zs (k + 1) 4))]) (EvL_cons Ev_str (EvL_cons (Ev_itemN (k := pickN zs (k + 1) 4) (xs := ([("a" : Str), "b", "c", "s"] : List Str).map V.str) (x := .tup (([("a" : Str), "b", "c", "s"] : List Str).map V.str)) (τ₁ := some (k + 1)) (Ev_tuple (ys := ([("a" : Str), "b", "c", "s"] : List Str).map V.str) (EvL_cons Ev_str (EvL_cons Ev_str (EvL_cons Ev_str (EvL_cons Ev_str EvL_nil)))) rfl (by simp))
        (ev_pick (many := 4) rfl (by decide) hz (by (first | lia | omega)) (by (first | lia | omega)) (by (repeat refine lk ?_ rfl); rfl) rfl rfl) rfl (getD_some p4) (by (first | lia | omega))) EvL_nil)) rfl (by simp)) rfl ⟨rfl, rfl⟩)
    refine Ex_cons (Ex1_if (c := decide (pickN zs k 5 = 1)) (τ₁ := some (k + 1)) (Tst_cmp (Ev_name rfl rfl) Ev_int (Cmp_eq rfl rfl (by simp [V.py, PyData.depth]) (tests _ 1))) (fun hc1 => ?_) (fun hc1 => Ex_nil ?_))
    · have e : drawT zs told (d + 1) around k = (.node (nm2 (pickN zs (k + 1) 2)) [(drawT zs told d "" (k + 2)).1], (drawT zs told d "" (k + 2)).2) := by rw [drawT, if_neg (of_decide_eq_false hc), if_pos (of_decide_eq_true hc1)]
      rw [e]
      refine Ex_cons (Ex1_return (y := (Tr.node (nm2 (pickN zs (k + 1) 2)) [(drawT zs told d "" (k + 2)).1]).v) (Ev_tuple (ys := [.str "node", .str (nm2 (pickN zs (k + 1) 2)), .lst [(drawT zs told d "" (k + 2)).1.v]]) (EvL_cons Ev_str (EvL_cons (Ev_itemN (k := pickN zs (k + 1) 2) (xs := ([("f" : Str), "s"] : List Str).map V.str) (x := .tup (([("f" : Str), "s"] : List Str).map V.str)) (τ₁ := some (k + 1)) (Ev_tuple (ys := ([("f" : Str), "s"] : List Str).map V.str) (EvL_cons Ev_str (EvL_cons Ev_str EvL_nil)) rfl (by simp))
        (ev_pick (many := 2) rfl (by decide) hz (by (first | lia | omega)) (by (first | lia | omega)) (by (repeat refine lk ?_ rfl); rfl) rfl rfl) rfl (getD_some p2) (by (first | lia | omega))) (EvL_cons (EvN.ev (EvN_list (EvL_cons (Ev_call g_drawn (isFun_of rfl) (ih "" (k + 2) fe (by (first | lia | omega)) (by (first | lia | omega))) (EvL_cons (Ev_name (by (repeat refine lk ?_ rfl); rfl) rfl) (EvL_cons (Ev_name (by (repeat refine lk ?_ rfl); rfl) rfl) (EvL_cons (Ev_eq (Ev_bin (Ev_name (y := .int ((d + 1 : Nat) : Int)) (by (repeat refine lk ?_ rfl); rfl) rfl) Ev_int Bin_sub_int) (by congr 1; (first | lia | omega))) (EvL_cons Ev_str EvL_nil)))) rfl) EvL_nil) (by simp [Tr.pure]) (by simp))) EvL_nil))) rfl (by simp)) rfl ⟨rfl, rfl⟩)
    refine Ex_cons (Ex1_if (c := decide (pickN zs k 5 = 2)) (τ₁ := some (k + 1)) (Tst_cmp (Ev_name rfl rfl) Ev_int (Cmp_eq rfl rfl (by simp [V.py, PyData.depth]) (tests _ 2))) (fun hc2 => ?_) (fun hc2 => Ex_nil ?_))
    · have e : drawT zs told (d + 1) around k = (.node (if told.contains (nm3 (pickN zs (k + 1) 3)) then "g" else nm3 (pickN zs (k + 1) 3)) (drawN (drawT zs told d "") 2 (k + 2)).1, (drawN (drawT zs told d "") 2 (k + 2)).2) := by
        rw [drawT, if_neg (of_decide_eq_false hc), if_neg (of_decide_eq_false hc1), if_pos (of_decide_eq_true hc2)]
      rw [e]
      have n3 : ∀ i, i < 3 → (V.str (nm3 i)).fine = true := by decide +kernel
      refine Ex_cons (Ex1_assign (τ₁ := some (k + 2)) (y := .str (nm3 (pickN zs (k + 1) 3))) (Ev_itemN (k := pickN zs (k + 1) 3) (xs := ([("g" : Str), "s", "p"] : List Str).map V.str) (x := .tup (([("g" : Str), "s", "p"] : List Str).map V.str)) (τ₁ := some (k + 1)) (Ev_tuple (ys := ([("g" : Str), "s", "p"] : List Str).map V.str) (EvL_cons Ev_str (EvL_cons Ev_str (EvL_cons Ev_str EvL_nil))) rfl (by simp))
        (ev_pick (many := 3) rfl (by decide) hz (by (first | lia | omega)) (by (first | lia | omega)) (by (repeat refine lk ?_ rfl); rfl) rfl rfl) rfl (getD_some p3) (by (first | lia | omega))) rfl rfl ?_)
      have ll : (drawN (drawT zs told d "") 2 (k + 2)).1.length = 2 := drawN_len ..
      refine Ex_cons (Ex1_return (y := (Tr.node (if told.contains (nm3 (pickN zs (k + 1) 3)) then "g" else nm3 (pickN zs (k + 1) 3)) (drawN (drawT zs told d "") 2 (k + 2)).1).v) (Ev_eq (Ev_tuple (ys := [.str "node", .str (if told.contains (nm3 (pickN zs (k + 1) 3)) then "g" else nm3 (pickN zs (k + 1) 3)), .lst ((drawN (drawT zs told d "") 2 (k + 2)).1.map Tr.v)]) (EvL_cons Ev_str (EvL_cons (Ev_ifexp (c := told.contains (nm3 (pickN zs (k + 1) 3))) (τ₁ := some (k + 2)) (Tst_cmp (Ev_name lookup_cons_eq rfl) (Ev_name (by (repeat refine lk ?_ rfl); rfl) rfl) (Cmp_in_lst (n3 _ p3) (okOps_fine ho) (by simp [V.py, PyData.depth]) (in_ops told _)))
          (fun h => by rw [if_pos h]; exact Ev_str) (fun h => by rw [if_neg (by rw [h]; decide)]; exact Ev_name lookup_cons_eq rfl))
        (EvL_cons (EvN.ev (EvN_comp1 (items := upto 2) (τ₁ := some (k + 2)) (σ' := [("floors", .int ((d + 1 : Nat) : Int)), ("told", opsV told), ("tray", .tray)]) (IterE_range (k := 2) b_range Ev_int rfl (by rw [sizeLine_eq]; (first | lia | omega))) (Filt.add (Filt.add (Filt.add Filt.nil rfl rfl rfl) rfl rfl rfl) rfl rfl rfl)
          (Turns.drawN (hB "") (by unfold upto; simp) fun x _ k' h1 h2 => CTurn_name (CAct_emit (fun L cs => Ev_call g_drawn (isFun_of rfl) (ih "" k' fe (by (first | lia | omega)) (by (first | lia | omega))) (EvL_cons (Ev_name rfl rfl) (EvL_cons (Ev_name rfl rfl) (EvL_cons (Ev_eq (Ev_bin (Ev_name (y := .int ((d + 1 : Nat) : Int)) rfl rfl) Ev_int Bin_sub_int) (by congr 1; (first | lia | omega))) (EvL_cons Ev_str EvL_nil)))) rfl) (Tr.pure _) rfl)) (by rw [List.length_map, ll, sizeLine_eq]; (first | lia | omega)))) EvL_nil))) rfl (by simp)) ?_) rfl ⟨rfl, rfl⟩)
      rw [Tr.v, trL_eq]
    have efree : (told.map V.str).flatMap (fun x => ((freeOf told around).map V.str).filter fun _ => false) = [] := by simp
    have fl : (freeOf told around).length ≤ 2 := Nat.le_trans (List.length_filter_le _ _) tl
    refine Ex_cons (Ex1_comp1 (items := told.map V.str) (τ₁ := some (k + 1)) (τ₂ := some (k + 1)) (ys := (freeOf told around).map V.str) (σ' := [("around", .str around)]) (IterE.of (x := opsV told) (Ev_name rfl rfl) IterOf_lst) (Filt.add Filt.nil rfl rfl rfl) ?_ (by rw [List.length_map, sizeLine_eq]; (first | lia | omega)) ?_)
    · have e : (freeOf told around).map V.str = told.flatMap fun op => if (!(op == around)) = true then [V.str op] else [] := by
        unfold freeOf
        clear tl fl efree ho ih D hB
        induction told with
        | nil => rfl
        | cons x r ih =>
          rw [List.filter_cons, List.flatMap_cons]
          split
          · rw [List.map_cons, ih]; rfl
          · rw [ih]; rfl
      rw [e]
      refine Turns.flat fun op hop => CTurn_name (CAct_if (b := !(op == around)) (τ₁ := some (k + 1)) (y := .str op) (fun L cs => Tst_cmp (Ev_name rfl rfl) (Ev_name rfl rfl) (Cmp_ne (told_ok ho op hop) fa (by simp [V.py, PyData.depth]) rfl)) (fun hb => ⟨fun L cs => Ev_name rfl rfl, rfl, by rw [if_pos hb]⟩) (fun hb => ⟨rfl, by rw [if_neg (by rw [hb]; decide)]⟩) rfl)
    · refine Ex_freeze lookup_cons_eq rfl ?_
      have ff : ∀ x ∈ freeOf told around, (V.str x).fine = true := fun x hx => told_ok ho x (free_sub x hx)
      refine Ex_cons (Ex1_if (c := PyData.eqv (V.lst ((freeOf told around).map V.str)).py (V.lst []).py) (τ₁ := some (k + 1)) (Tst_cmp (Ev_name lookup_cons_eq rfl) (EvN.ev (EvN_list EvL_nil rfl (by simp))) (Cmp_eq (fine_lst0 ff) rfl (by rw [Nat.min_def]; split <;> simp_all [V.py, pyL, PyData.depth, PyData.depthAll]) rfl)) (fun hc3 => ?_) (fun hc3 => Ex_nil ?_))
      · have ef : freeOf told around = [] := by
          cases h : freeOf told around with
          | nil => rfl
          | cons x r => rw [h] at hc3; simp [V.py, pyL, PyData.eqv, PyData.eqvAll] at hc3
        have e : drawT zs told (d + 1) around k = (.leaf "b", k + 1) := by
          rw [drawT, if_neg (of_decide_eq_false hc), if_neg (of_decide_eq_false hc1), if_neg (of_decide_eq_false hc2), if_pos ef]
        rw [e]
        exact Ex_cons (Ex1_return (y := (Tr.leaf "b").v) (Ev_tuple (ys := [.str "leaf", .str "b"]) (EvL_cons Ev_str (EvL_cons Ev_str EvL_nil)) rfl (by simp)) rfl ⟨rfl, rfl⟩)
      · have ef : ¬ freeOf told around = [] := by
          intro h
          rw [h] at hc3
          simp [V.py, pyL, PyData.eqv, PyData.eqvAll] at hc3
        have flp : 0 < (freeOf told around).length := by
          rcases Nat.eq_zero_or_pos (freeOf told around).length with h | h
          · exact absurd (List.eq_nil_of_length_eq_zero h) ef
          · exact h
        have e : drawT zs told (d + 1) around k = (.list ((freeOf told around).getD (pickN zs (k + 1) (freeOf told around).length) "s") (drawN (drawT zs told d ((freeOf told around).getD (pickN zs (k + 1) (freeOf told around).length) "s")) (2 + pickN zs (k + 2) 2) (k + 3)).1,
            (drawN (drawT zs told d ((freeOf told around).getD (pickN zs (k + 1) (freeOf told around).length) "s")) (2 + pickN zs (k + 2) 2) (k + 3)).2) := by
          rw [drawT, if_neg (of_decide_eq_false hc), if_neg (of_decide_eq_false hc1), if_neg (of_decide_eq_false hc2), if_neg ef]
        have pf := pickN_lt (zs := zs) (k := k + 1) (many := (freeOf told around).length) flp
        rw [e]
        have fop : (V.str ((freeOf told around).getD (pickN zs (k + 1) (freeOf told around).length) "s")).fine = true := ff _ (by rw [List.getD_eq_getElem?_getD, List.getElem?_eq_getElem pf]; exact List.getElem_mem pf)
        have gds := getD_some (d := "s") pf
        have sp := spec_pick (w := w) (mg := mg) (mb := mb) (T := T) (zs := zs) (n := 0) (many := (freeOf told around).length) (k := k + 1) flp hz (by (first | lia | omega))
        generalize pickN zs (k + 1) (freeOf told around).length = pp at *
        generalize (freeOf told around).getD pp "s" = op at *
        have flz : ((freeOf told around).map V.str).length ≤ sizeLine := by rw [List.length_map, sizeLine_eq]; (first | lia | omega)
        refine Ex_cons (Ex1_assign (τ₁ := some (k + 2)) (y := .str op) (Ev_itemN (k := pp) (xs := (freeOf told around).map V.str) (x := .lst ((freeOf told around).map V.str)) (τ₁ := some (k + 1)) (Ev_name lookup_cons_eq rfl)
          (Ev_call g_pick (isFun_of rfl) (sp.le (by (first | lia | omega))) (EvL_cons (Ev_name (by (repeat refine lk ?_ rfl); rfl) rfl) (EvL_cons (Ev_eq (Ev_builtin b_len (Bu_len (x := .lst ((freeOf told around).map V.str)) (xs := (freeOf told around).map V.str) rfl flz) (EvL_cons (Ev_name lookup_cons_eq rfl) EvL_nil) rfl) (by rw [List.length_map])) EvL_nil)) rfl) rfl gds (by (first | lia | omega))) rfl rfl ?_)
        have ll : (drawN (drawT zs told d op) (2 + pickN zs (k + 2) 2) (k + 3)).1.length = 2 + pickN zs (k + 2) 2 := drawN_len ..
        have mm : (2 + pickN zs (k + 2) 2) * cB d ≤ 3 * cB d := Nat.mul_le_mul_right _ (by (first | lia | omega))
        refine Ex_cons (Ex1_return (y := (Tr.list op (drawN (drawT zs told d op) (2 + pickN zs (k + 2) 2) (k + 3)).1).v) (Ev_eq (Ev_tuple (ys := [.str "list", .str op, .lst ((drawN (drawT zs told d op) (2 + pickN zs (k + 2) 2) (k + 3)).1.map Tr.v)]) (EvL_cons Ev_str (EvL_cons (Ev_name lookup_cons_eq rfl)
          (EvL_cons (EvN.ev (EvN_comp1 (items := upto (2 + pickN zs (k + 2) 2)) (τ₁ := some (k + 3)) (σ' := [("op", .str op), ("floors", .int ((d + 1 : Nat) : Int)), ("told", opsV told), ("tray", .tray)]) (IterE_range b_range (Ev_eq (Ev_bin Ev_int (ev_pick (many := 2) rfl (by decide) hz (by (first | lia | omega)) (by (first | lia | omega)) (by (repeat refine lk ?_ rfl); rfl) rfl rfl) Bin_add_int) (by congr 1)) rfl (by rw [sizeLine_eq]; (first | lia | omega))) (Filt.add (Filt.add (Filt.add (Filt.add Filt.nil rfl rfl rfl) rfl rfl rfl) rfl rfl rfl) rfl rfl rfl)
            (Turns.drawN (hB op) (by unfold upto; simp) fun x _ k' h1 h2 => CTurn_name (CAct_emit (fun L cs => Ev_call g_drawn (isFun_of rfl) (ih op k' fop (by (first | lia | omega)) (by (first | lia | omega))) (EvL_cons (Ev_name rfl rfl) (EvL_cons (Ev_name rfl rfl) (EvL_cons (Ev_eq (Ev_bin (Ev_name (y := .int ((d + 1 : Nat) : Int)) rfl rfl) Ev_int Bin_sub_int) (by congr 1; (first | lia | omega))) (EvL_cons (Ev_name rfl rfl) EvL_nil)))) rfl) (Tr.pure _) rfl)) (by rw [List.length_map, ll, sizeLine_eq]; (first | lia | omega)))) EvL_nil))) rfl (by simp)) ?_) rfl ⟨rfl, rfl⟩)
        rw [Tr.v, trL_eq]
end
end Mine
namespace Mine

noncomputable def Tr.isL (f : Str) : Tr → Bool
  | .list g _ => g == f
  | _ => false
mutual
noncomputable def Tr.ok (told : List Str) : Tr → Bool
  | .leaf x => okName x
  | .node f ks => okName f && (!told.contains f || decide (ks.length ≤ 1)) && okTL told ks
  | .list f ks => okName f && told.contains f && decide (2 ≤ ks.length) && okTL told ks && ks.all fun t => !t.isL f
noncomputable def okTL (told : List Str) : List Tr → Bool
  | [] => true
  | t :: r => t.ok told && okTL told r
end
mutual
noncomputable def Of (told : List Str) : Tr → Tm → Prop
  | .leaf x, t => t = .mk x []
  | .node f ks, t => ∃ ts, t = .mk f ts ∧ OfL told ks ts
  | .list f ks, t => t.f = f ∧ isBag told t = true ∧ OfL told ks (kidsT told f t)
noncomputable def OfL (told : List Str) : List Tr → List Tm → Prop
  | [], ts => ts = []
  | k :: r, ts => ∃ t ts', ts = t :: ts' ∧ Of told k t ∧ OfL told r ts'
end
theorem OfL.len {told : List Str} : ∀ {ks : List Tr} {ts : List Tm}, OfL told ks ts → ts.length = ks.length
  | [], ts, h => by cases h; rfl
  | k :: r, ts, h => by obtain ⟨t, ts', rfl, _, h2⟩ := h; simp only [List.length_cons, OfL.len h2]
theorem okTL_mem {told : List Str} {t : Tr} : ∀ {ks : List Tr}, okTL told ks = true → t ∈ ks → t.ok told = true
  | y :: r, h, hm => by
    have h' := Bool.and_eq_true_iff.mp (show (_ && _) = true from h)
    rcases List.mem_cons.mp hm with rfl | hm
    · exact h'.1
    · exact okTL_mem h'.2 hm
structure OkList (told : List Str) (f : Str) (ks : List Tr) : Prop where
  nm : okName f = true
  td : told.contains f = true
  two : 2 ≤ ks.length
  ok : okTL told ks = true
  no : ∀ t ∈ ks, t.isL f = false
theorem ok_list {told : List Str} {f : Str} {ks : List Tr} (h : (Tr.list f ks).ok told = true) : OkList told f ks := by
  have h' : (okName f && told.contains f && decide (2 ≤ ks.length) && okTL told ks && ks.all fun t => !t.isL f) = true := h
  simp only [Bool.and_eq_true, decide_eq_true_eq, List.all_eq_true, Bool.not_eq_true'] at h'
  exact ⟨h'.1.1.1.1, h'.1.1.1.2, h'.1.1.2, h'.1.2, h'.2⟩
theorem ok_node {told : List Str} {f : Str} {ks : List Tr} (h : (Tr.node f ks).ok told = true) : okName f = true ∧ (told.contains f = false ∨ ks.length ≤ 1) ∧ okTL told ks = true := by
  have h' : (okName f && (!told.contains f || decide (ks.length ≤ 1)) && okTL told ks) = true := h
  simp only [Bool.and_eq_true, decide_eq_true_eq, Bool.or_eq_true, Bool.not_eq_true'] at h'
  exact ⟨h'.1.1, h'.1.2, h'.2⟩
theorem nobag {told : List Str} {f : Str} {ts : List Tm} (h : told.contains f = false ∨ ts.length ≤ 1) : isBag told (.mk f ts) = false := by
  rw [isBag_mk]
  rcases h with h | h
  · rw [h]; rfl
  · rw [decide_eq_false (by (first | lia | omega)), Bool.and_false]
theorem of_flat {told : List Str} {op : Str} {tr : Tr} {t : Tm} (ok : tr.ok told = true) (h : Of told tr t) (hn : tr.isL op = false) : flat told op t := by
  cases tr with
  | leaf x =>
    have e : t = .mk x [] := h
    rw [e]
    intro q
    rw [nobag (.inr (Nat.zero_le _))] at q; cases q.2
  | node f ks =>
    obtain ⟨ts, e, hs⟩ : ∃ ts, t = .mk f ts ∧ OfL told ks ts := h
    rw [e]
    intro q
    have o := (ok_node ok).2.1
    rw [nobag (o.imp id fun x => by rw [hs.len]; exact x)] at q; cases q.2
  | list f ks =>
    have h' : t.f = f ∧ isBag told t = true ∧ OfL told ks (kidsT told f t) := h
    intro q
    have : (f == op) = false := hn
    rw [← h'.1, q.1] at this
    simp at this
theorem ofL_flat {told : List Str} {op : Str} : ∀ {ks : List Tr} {ts : List Tm}, okTL told ks = true → OfL told ks ts → (∀ t ∈ ks, t.isL op = false) → ∀ u ∈ ts, flat told op u
  | [], ts, _, h, _, u, hu => by cases h; cases hu
  | k :: r, ts, ok, h, hn, u, hu => by
    obtain ⟨t, ts', rfl, h1, h2⟩ := h
    have ok' := Bool.and_eq_true_iff.mp (show (_ && _) = true from ok)
    rcases List.mem_cons.mp hu with rfl | hu
    · exact of_flat ok'.1 h1 (hn k List.mem_cons_self)
    · exact ofL_flat ok'.2 h2 (fun t ht => hn t (List.mem_cons_of_mem _ ht)) u hu

theorem kidsL_app {ops : List Str} {op : Str} (a b : List Tm) : kidsL ops op (a ++ b) = kidsL ops op a ++ kidsL ops op b := by
  rw [kidsL_eq, kidsL_eq, kidsL_eq, List.flatMap_append]
theorem kids_two {told : List Str} {f : Str} {l : List Tm} (h : told.contains f = true) (hl : 2 ≤ l.length) : kidsT told f (.mk f l) = kidsL told f l :=
  kidsT_bag1 (t := .mk f l) ⟨rfl, by rw [isBag_mk, h, decide_eq_true (by (first | lia | omega))]; rfl⟩
theorem split_two {l : List Tm} {i : Nat} (h : i + 1 < l.length) : l = l.take i ++ [l.getD i default, l.getD (i + 1) default] ++ l.drop (i + 2) := by
  obtain ⟨g1, g2⟩ := take_two h
  have e1 := List.getElem?_eq_some_iff.mp g1
  have e2 := List.getElem?_eq_some_iff.mp g2
  conv => lhs; rw [← List.take_append_drop i l, List.drop_eq_getElem_cons e1.1, List.drop_eq_getElem_cons e2.1, e1.2, e2.2]
  simp
theorem brk_kids {told : List Str} {f : Str} {zs : List Int} {s : List Tm × Nat} (h : told.contains f = true) (hl : 2 ≤ s.1.length) : kidsL told f (brk zs f s).1 = kidsL told f s.1 := by
  unfold brk
  split
  · have pl := pickN_lt (zs := zs) (k := s.2 + 1) (many := s.1.length - 1) (by (first | lia | omega))
    simp only
    conv => rhs; rw [split_two (l := s.1) (i := pickN zs (s.2 + 1) (s.1.length - 1)) (by (first | lia | omega))]
    rw [kidsL_app, kidsL_app, kidsL_app, kidsL_app]
    congr 2
    show kidsT told f _ ++ [] = _
    rw [List.append_nil, kids_two h (by simp)]
  · rfl
theorem brkN_kids {told : List Str} {f : Str} {zs : List Int} {s : List Tm × Nat} (h : told.contains f = true) : ∀ {i : Nat}, i + 2 ≤ s.1.length → kidsL told f (brkN zs f s i).1 = kidsL told f s.1
  | 0, _ => rfl
  | i + 1, hl => by
    have := brkN_len (zs := zs) (f := f) (s := s) (i := i) (by (first | lia | omega))
    unfold brkN
    rw [brk_kids h (by (first | lia | omega)), brkN_kids h (by (first | lia | omega))]
mutual
theorem of_term {told : List Str} {zs : List Int} : ∀ (t : Tr) (k : Nat), t.ok told = true → Of told t (termT zs t k).1
  | .leaf x, k, _ => rfl
  | .node f ks, k, h => ⟨_, rfl, of_termL ks k (ok_node h).2.2⟩
  | .list f ks, k, h => by
    have o := ok_list h
    have l := termL_len zs ks k
    have hL := of_termL (zs := zs) ks k o.ok
    have b := brkN_len (zs := zs) (f := f) (s := termL zs ks k) (i := ks.length - 2) (by have := o.two; (first | lia | omega))
    have l2 : 2 ≤ (brkN zs f (termL zs ks k) (ks.length - 2)).1.length := by have := o.two; (first | lia | omega)
    show (termT zs (.list f ks) k).1.f = f ∧ isBag told (termT zs (.list f ks) k).1 = true ∧ OfL told ks (kidsT told f (termT zs (.list f ks) k).1)
    have e : (termT zs (.list f ks) k).1 = .mk f (brkN zs f (termL zs ks k) (ks.length - 2)).1 := rfl
    rw [e]
    refine ⟨rfl, by rw [isBag_mk, o.td, decide_eq_true (by (first | lia | omega))]; rfl, ?_⟩
    rw [kids_two o.td l2, brkN_kids o.td (by have := o.two; (first | lia | omega)), kidsL_flats (ofL_flat o.ok hL o.no)]
    exact hL
theorem of_termL {told : List Str} {zs : List Int} : ∀ (ks : List Tr) (k : Nat), okTL told ks = true → OfL told ks (termL zs ks k).1
  | [], k, _ => rfl
  | t :: r, k, h => by
    have h' := Bool.and_eq_true_iff.mp (show (_ && _) = true from h)
    exact ⟨_, _, rfl, of_term t k h'.1, of_termL r _ h'.2⟩
end
theorem dueC_kids {told : List Str} {f : Str} (h : told.contains f = true) : ∀ {ks : List Tr}, 2 ≤ ks.length → (∀ u ∈ dueL ks, flat told f u) → (dueC f ks).f = f ∧ isBag told (dueC f ks) = true ∧ kidsT told f (dueC f ks) = dueL ks
  | [a, b], _, hf => by
    have e : dueC f [a, b] = .mk f (dueL [a, b]) := by simp [dueC, dueL]
    rw [e]
    refine ⟨rfl, by rw [isBag_mk, h]; rfl, ?_⟩
    rw [kids_two h (by simp [dueL]), kidsL_flats hf]
  | a :: b :: c :: r, _, hf => by
    obtain ⟨i1, i2, i3⟩ := dueC_kids h (ks := b :: c :: r) (by simp) fun u hu => hf u (by rw [dueL]; exact List.mem_cons_of_mem _ hu)
    have e : dueC f (a :: b :: c :: r) = .mk f [dueT a, dueC f (b :: c :: r)] := by rw [dueC]
    rw [e]
    refine ⟨rfl, by rw [isBag_mk, h]; rfl, ?_⟩
    rw [kids_two h (by simp), kidsL, kidsL, kidsL, i3, kidsT_flat1 (hf _ (by rw [dueL]; exact List.mem_cons_self))]
    rw [dueL, List.append_nil]; rfl
mutual
theorem of_due {told : List Str} : ∀ (t : Tr), t.ok told = true → Of told t (dueT t)
  | .leaf x, _ => rfl
  | .node f ks, h => ⟨_, rfl, of_dueL ks (ok_node h).2.2⟩
  | .list f ks, h => by
    have o := ok_list h
    have hL := of_dueL ks o.ok
    obtain ⟨a, b, c⟩ := dueC_kids o.td o.two (ofL_flat o.ok hL o.no)
    exact ⟨a, b, by show OfL told ks (kidsT told f (dueC f ks)); rw [c]; exact hL⟩
theorem of_dueL {told : List Str} : ∀ (ks : List Tr), okTL told ks = true → OfL told ks (dueL ks)
  | [], _ => rfl
  | t :: r, h => by
    have h' := Bool.and_eq_true_iff.mp (show (_ && _) = true from h)
    exact ⟨_, _, rfl, of_due t h'.1, of_dueL r h'.2⟩
end
theorem rnest_cons {op : Str} {a : Tm} {r : List Tm} (h : r ≠ []) : rnest op (a :: r) = .mk op [a, rnest op r] := by
  cases r with
  | nil => exact absurd rfl h
  | cons b r =>
    unfold rnest
    rw [List.dropLast_cons_of_ne_nil (by simp), List.reverse_cons, List.foldl_append]
    simp [List.getLastD_eq_getLast?]
theorem rnest_due {f : Str} : ∀ {ks : List Tr}, 2 ≤ ks.length → rnest f (dueL ks) = dueC f ks
  | [a, b], _ => by
    rw [dueL, rnest_cons (by simp [dueL])]
    simp [dueL, dueC, rnest]
  | a :: b :: c :: r, _ => by
    rw [dueL, rnest_cons (by simp [dueL]), rnest_due (by simp), dueC]
mutual
theorem nest_of {told : List Str} : ∀ (tr : Tr) (d : Nat) (t : Tm), tr.ok told = true → Of told tr t → t.ht ≤ d → nestF told d t = dueT tr
  | .leaf x, 0, t, _, h, hd => by have := ht_pos t; (first | lia | omega)
  | .node f ks, 0, t, _, h, hd => by have := ht_pos t; (first | lia | omega)
  | .list f ks, 0, t, _, h, hd => by have := ht_pos t; (first | lia | omega)
  | .leaf x, d + 1, t, _, h, hd => by
    have e : t = .mk x [] := h
    rw [e, nestF]
    have nb : isBag told (.mk x []) = false := nobag (.inr (Nat.zero_le _))
    rw [if_neg (by rw [nb]; decide)]
    unfold nextL
    rw [if_neg (by rw [nb]; decide)]; rfl
  | .node f ks, d + 1, t, ok, h, hd => by
    obtain ⟨ts, e, hs⟩ : ∃ ts, t = .mk f ts ∧ OfL told ks ts := h
    have o := ok_node ok
    have nb : isBag told t = false := by rw [e]; exact nobag (o.2.1.imp id fun x => by rw [hs.len]; exact x)
    rw [nestF, if_neg (by rw [nb]; decide)]
    have en : nextL told t = ts := by unfold nextL; rw [if_neg (by rw [nb]; decide), e]; rfl
    rw [nest_ofL ks d (nextL told t) o.2.2 (en ▸ hs) (nextL_ht hd), e]; rfl
  | .list f ks, d + 1, t, ok, h, hd => by
    have o := ok_list ok
    obtain ⟨h1, h2, h3⟩ : t.f = f ∧ isBag told t = true ∧ OfL told ks (kidsT told f t) := h
    rw [nestF, if_pos h2]
    have en : nextL told t = kidsT told f t := by unfold nextL; rw [if_pos h2, h1]
    rw [nest_ofL ks d (nextL told t) o.ok (en ▸ h3) (nextL_ht hd), h1, rnest_due o.two]; rfl
theorem nest_ofL {told : List Str} : ∀ (ks : List Tr) (d : Nat) (ts : List Tm), okTL told ks = true → OfL told ks ts → (∀ u ∈ ts, u.ht ≤ d) → ts.map (nestF told d) = dueL ks
  | [], d, ts, _, h, _ => by cases h; rfl
  | k :: r, d, ts, ok, h, hd => by
    obtain ⟨t, ts', rfl, h1, h2⟩ := h
    have ok' := Bool.and_eq_true_iff.mp (show (_ && _) = true from ok)
    rw [List.map_cons, nest_of k d t ok'.1 h1 (hd t List.mem_cons_self), nest_ofL r d ts' ok'.2 h2 fun u hu => hd u (List.mem_cons_of_mem _ hu)]; rfl
end
mutual
theorem norm_of {told : List Str} : ∀ (tr : Tr) (t u : Tm), tr.ok told = true → Of told tr t → Of told tr u → t.good = true → u.good = true → normT told t = normT told u
  | .leaf x, t, u, _, h, h', _, _ => by rw [show t = .mk x [] from h, show u = .mk x [] from h']
  | .node f ks, t, u, ok, h, h', g, g' => by
    obtain ⟨ts, e, hs⟩ : ∃ ts, t = .mk f ts ∧ OfL told ks ts := h
    obtain ⟨us, e', hs'⟩ : ∃ ts, u = .mk f ts ∧ OfL told ks ts := h'
    have o := ok_node ok
    have nb : isBag told t = false := by rw [e]; exact nobag (o.2.1.imp id fun x => by rw [hs.len]; exact x)
    have nb' : isBag told u = false := by rw [e']; exact nobag (o.2.1.imp id fun x => by rw [hs'.len]; exact x)
    rw [norm_nobag nb, norm_nobag nb']
    have := norm_ofL ks ts us o.2.2 hs hs' (fun x hx => good_kids g x (by rw [e]; exact hx)) (fun x hx => good_kids g' x (by rw [e']; exact hx))
    rw [e, e']
    show Tm.mk f (ts.map _) = Tm.mk f (us.map _)
    rw [this]
  | .list f ks, t, u, ok, h, h', g, g' => by
    have o := ok_list ok
    obtain ⟨h1, h2, h3⟩ : t.f = f ∧ isBag told t = true ∧ OfL told ks (kidsT told f t) := h
    obtain ⟨h1', h2', h3'⟩ : u.f = f ∧ isBag told u = true ∧ OfL told ks (kidsT told f u) := h'
    have gk : ∀ (t : Tm), t.good = true → ∀ x ∈ kidsT told f t, x.good = true := fun t g x hx => kidsT_all (Pr := fun t => t.good = true) (fun t h => good_kids h) told f t g x hx
    rw [norm_bag g h2, norm_bag g' h2', h1, h1', norm_ofL ks _ _ o.ok h3 h3' (gk t g) (gk u g')]
theorem norm_ofL {told : List Str} : ∀ (ks : List Tr) (ts us : List Tm), okTL told ks = true → OfL told ks ts → OfL told ks us → (∀ t ∈ ts, t.good = true) → (∀ t ∈ us, t.good = true) → ts.map (normT told) = us.map (normT told)
  | [], ts, us, _, h, h', _, _ => by cases h; cases h'; rfl
  | k :: r, ts, us, ok, h, h', g, g' => by
    obtain ⟨t, ts', rfl, h1, h2⟩ := h
    obtain ⟨u, us', rfl, h1', h2'⟩ := h'
    have ok' := Bool.and_eq_true_iff.mp (show (_ && _) = true from ok)
    rw [List.map_cons, List.map_cons, norm_of k t u ok'.1 h1 h1' (g t List.mem_cons_self) (g' u List.mem_cons_self), norm_ofL r ts' us' ok'.2 h2 h2' (fun x hx => g x (List.mem_cons_of_mem _ hx)) fun x hx => g' x (List.mem_cons_of_mem _ hx)]
end
mutual
theorem nest_size (ops : List Str) (f : Str) : ∀ t : Tm, t.size + 1 ≤ sizeL (kidsT ops f t) + (kidsT ops f t).length ∧ t.ht + 1 ≤ htL (kidsT ops f t) + (kidsT ops f t).length
  | .mk g ks => by
    by_cases h : (Tm.mk g ks).f = f ∧ isBag ops (.mk g ks) = true
    · rw [kidsT_bag1 h]
      have h2 := h.2
      rw [isBag_mk, Bool.and_eq_true, decide_eq_true_eq] at h2
      have := nest_sizeL ops f ks (by intro q; rw [q] at h2; simp at h2)
      simp only [Tm.size, Tm.ht]
      show sizeL ks + 1 + 1 ≤ sizeL (kidsL ops f ks) + (kidsL ops f ks).length ∧ htL ks + 1 + 1 ≤ htL (kidsL ops f ks) + (kidsL ops f ks).length
      (first | lia | omega)
    · rw [kidsT_flat1 h]
      simp only [sizeL, htL, List.length_cons, List.length_nil]
      (first | lia | omega)
theorem nest_sizeL (ops : List Str) (f : Str) : ∀ l : List Tm, l ≠ [] → sizeL l + l.length ≤ sizeL (kidsL ops f l) + (kidsL ops f l).length ∧ htL l + l.length ≤ htL (kidsL ops f l) + (kidsL ops f l).length
  | [], h => absurd rfl h
  | [t], _ => by
    have := nest_size ops f t
    simp only [kidsL, List.append_nil, sizeL, htL, List.length_cons, List.length_nil]
    (first | lia | omega)
  | t :: u :: r, _ => by
    have a := nest_size ops f t
    have b := nest_sizeL ops f (u :: r) (by simp)
    have c := kidsL_ne ops f (u :: r)
    have d := kidsT_ne ops f t
    rw [kidsL, sizeL_app, htL_app, List.length_append, sizeL, htL, List.length_cons]
    (first | lia | omega)
end
mutual
theorem nest_good (ops : List Str) {f : Str} (hf : okName f = true) : ∀ t : Tm, (∀ u ∈ kidsT ops f t, u.good = true) → t.good = true
  | .mk g ks, h => by
    by_cases q : (Tm.mk g ks).f = f ∧ isBag ops (.mk g ks) = true
    · rw [kidsT_bag1 q] at h
      have e : g = f := q.1
      show (_ && _) = true
      rw [e, hf, nest_goodL ops hf ks h]; rfl
    · rw [kidsT_flat1 q] at h
      exact h _ List.mem_cons_self
theorem nest_goodL (ops : List Str) {f : Str} (hf : okName f = true) : ∀ l : List Tm, (∀ u ∈ kidsL ops f l, u.good = true) → goodL l = true
  | [], _ => rfl
  | x :: r, h => by
    rw [kidsL] at h
    show (_ && _) = true
    rw [nest_good ops hf x fun u hu => h u (List.mem_append_left _ hu), nest_goodL ops hf r fun u hu => h u (List.mem_append_right _ hu)]; rfl
end
mutual
noncomputable def Tr.tsz : Tr → Nat
  | .leaf _ => 1
  | .node _ ks => tszL ks + 1
  | .list _ ks => tszL ks + ks.length - 1
noncomputable def tszL : List Tr → Nat
  | [] => 0
  | t :: r => t.tsz + tszL r
end
mutual
noncomputable def Tr.tht : Tr → Nat
  | .leaf _ => 1
  | .node _ ks => thtL ks + 1
  | .list _ ks => thtL ks + ks.length - 1
noncomputable def thtL : List Tr → Nat
  | [] => 0
  | t :: r => max t.tht (thtL r)
end
mutual
theorem of_size {told : List Str} : ∀ (tr : Tr) (t : Tm), tr.ok told = true → Of told tr t → t.size ≤ tr.tsz ∧ t.ht ≤ tr.tht ∧ t.good = true
  | .leaf x, t, ok, h => by
    rw [show t = .mk x [] from h]
    refine ⟨by simp [Tm.size, sizeL, Tr.tsz], by simp [Tm.ht, htL, Tr.tht], ?_⟩
    show (_ && _) = true
    rw [show okName x = true from ok]; rfl
  | .node f ks, t, ok, h => by
    obtain ⟨ts, e, hs⟩ : ∃ ts, t = .mk f ts ∧ OfL told ks ts := h
    have o := ok_node ok
    have := of_sizeL ks ts o.2.2 hs
    rw [e]
    refine ⟨by simp only [Tm.size, Tr.tsz]; (first | lia | omega), by simp only [Tm.ht, Tr.tht]; (first | lia | omega), ?_⟩
    show (_ && _) = true
    rw [o.1, goodL_iff.mpr this.2.2]; rfl
  | .list f ks, t, ok, h => by
    have o := ok_list ok
    obtain ⟨h1, h2, h3⟩ : t.f = f ∧ isBag told t = true ∧ OfL told ks (kidsT told f t) := h
    have a := of_sizeL ks _ o.ok h3
    have b := nest_size told f t
    rw [h3.len] at b
    refine ⟨by simp only [Tr.tsz]; (first | lia | omega), by simp only [Tr.tht]; (first | lia | omega), nest_good told o.nm t a.2.2⟩
theorem of_sizeL {told : List Str} : ∀ (ks : List Tr) (ts : List Tm), okTL told ks = true → OfL told ks ts → sizeL ts ≤ tszL ks ∧ htL ts ≤ thtL ks ∧ ∀ t ∈ ts, t.good = true
  | [], ts, _, h => by cases h; exact ⟨Nat.le_refl _, Nat.le_refl _, fun t ht => nomatch ht⟩
  | k :: r, ts, ok, h => by
    obtain ⟨t, ts', rfl, h1, h2⟩ := h
    have ok' := Bool.and_eq_true_iff.mp (show (_ && _) = true from ok)
    have a := of_size k t ok'.1 h1
    have b := of_sizeL r ts' ok'.2 h2
    refine ⟨by simp only [sizeL, tszL]; (first | lia | omega), by simp only [htL, thtL]; (first | lia | omega), fun u hu => ?_⟩
    rcases List.mem_cons.mp hu with rfl | hu
    · exact a.2.2
    · exact b.2.2 u hu
end
end Mine
namespace Mine

theorem drawN_all {Pr : Tr → Prop} {D : Nat → Tr × Nat} (h : ∀ k, Pr (D k).1) : ∀ (c k : Nat), ∀ t ∈ (drawN D c k).1, Pr t
  | 0, k, t, ht => nomatch ht
  | c + 1, k, t, ht => by
    rcases List.mem_cons.mp ht with rfl | ht
    · exact h k
    · exact drawN_all h c _ t ht
theorem okTL_of {told : List Str} : ∀ {ks : List Tr}, (∀ t ∈ ks, t.ok told = true) → okTL told ks = true
  | [], _ => rfl
  | t :: r, h => by
    show (_ && _) = true
    rw [h t List.mem_cons_self, okTL_of fun u hu => h u (List.mem_cons_of_mem _ hu)]; rfl
theorem wfL_of : ∀ {ks : List Tr}, (∀ t ∈ ks, t.wf = true) → wfL ks = true
  | [], _ => rfl
  | t :: r, h => by
    show (_ && _) = true
    rw [h t List.mem_cons_self, wfL_of fun u hu => h u (List.mem_cons_of_mem _ hu)]; rfl
theorem tszL_of {Z : Nat} : ∀ {ks : List Tr}, (∀ t ∈ ks, t.tsz ≤ Z) → tszL ks ≤ ks.length * Z
  | [], _ => Nat.zero_le _
  | t :: r, h => by
    have a := h t List.mem_cons_self
    have b := tszL_of (ks := r) fun u hu => h u (List.mem_cons_of_mem _ hu)
    have e : (r.length + 1) * Z = r.length * Z + Z := Nat.succ_mul _ _
    simp only [tszL, List.length_cons]; (first | lia | omega)
theorem trS_of {Z : Nat} : ∀ {ks : List Tr}, (∀ t ∈ ks, t.size ≤ Z) → trS ks ≤ ks.length * Z
  | [], _ => Nat.zero_le _
  | t :: r, h => by
    have a := h t List.mem_cons_self
    have b := trS_of (ks := r) fun u hu => h u (List.mem_cons_of_mem _ hu)
    have e : (r.length + 1) * Z = r.length * Z + Z := Nat.succ_mul _ _
    simp only [trS, List.length_cons]; (first | lia | omega)
theorem thtL_of {Z : Nat} : ∀ {ks : List Tr}, (∀ t ∈ ks, t.tht ≤ Z) → thtL ks ≤ Z
  | [], _ => Nat.zero_le _
  | t :: r, h => by
    have a := h t List.mem_cons_self
    have b := thtL_of (ks := r) fun u hu => h u (List.mem_cons_of_mem _ hu)
    simp only [thtL]; (first | lia | omega)
structure Dr (told : List Str) (around : Str) (z h s : Nat) (t : Tr) : Prop where
  ok : t.ok told = true
  no : t.isL around = false
  wf : t.wf = true
  tsz : t.tsz ≤ z
  tht : t.tht ≤ h
  sz : t.size ≤ s
noncomputable def zB : Nat → Nat
  | 0 => 1
  | d + 1 => 3 * zB d + 2
noncomputable def hB : Nat → Nat
  | 0 => 1
  | d + 1 => hB d + 2
noncomputable def sB : Nat → Nat
  | 0 => 1
  | d + 1 => 3 * sB d + 1
theorem told_facts {told : List Str} (h : okOps told = true) : (∀ x ∈ told, okName x = true) ∧ told.contains "g" = false ∧ told ≠ [] := by
  have hm : told ∈ opsAll := by simpa [okOps] using h
  have all : ∀ o ∈ opsAll, (∀ x ∈ o, okName x = true) ∧ o.contains "g" = false ∧ o ≠ [] := by decide +kernel
  exact all told hm
theorem leaf_dr {told : List Str} {around x : Str} {d : Nat} (h : okName x = true) : Dr told around (zB d) (hB d) (sB d) (.leaf x) := by
  have a : 1 ≤ zB d ∧ 1 ≤ hB d ∧ 1 ≤ sB d := by
    induction d with
    | zero => exact ⟨Nat.le_refl _, Nat.le_refl _, Nat.le_refl _⟩
    | succ d ih => simp only [zB, hB, sB]; (first | lia | omega)
  exact ⟨h, rfl, rfl, a.1, a.2.1, a.2.2⟩
theorem drawT_dr {told : List Str} (ho : okOps told = true) (zs : List Int) : ∀ (d : Nat) (around : Str) (k : Nat), Dr told around (zB d) (hB d) (sB d) (drawT zs told d around k).1
  | 0, around, k => by
    have n4 : ∀ i, i < 4 → okName (nm4 i) = true := by decide +kernel
    exact leaf_dr (n4 _ (pickN_lt (by (first | lia | omega))))
  | d + 1, around, k => by
    have n4 : ∀ i, i < 4 → okName (nm4 i) = true := by decide +kernel
    have n3 : ∀ i, i < 3 → okName (nm3 i) = true := by decide +kernel
    have n2 : ∀ i, i < 2 → okName (nm2 i) = true := by decide +kernel
    have ih := fun a k => drawT_dr ho zs d a k
    have tf := told_facts ho
    unfold drawT
    split
    · exact leaf_dr (n4 _ (pickN_lt (by (first | lia | omega))))
    split
    · have i := ih "" (k + 2)
      refine ⟨?_, rfl, ?_, ?_, ?_, ?_⟩
      · show (okName _ && (_ || decide (_ ≤ 1)) && okTL told _) = true
        rw [n2 _ (pickN_lt (by (first | lia | omega))), okTL_of (by intro t ht; simp at ht; subst ht; exact i.ok)]; simp
      · exact wfL_of (by intro t ht; simp at ht; subst ht; exact i.wf)
      · have := i.tsz; simp only [Tr.tsz, tszL, zB]; (first | lia | omega)
      · have := i.tht; simp only [Tr.tht, thtL, hB]; (first | lia | omega)
      · have := i.sz; simp only [Tr.size, trS, sB]; (first | lia | omega)
    split
    · have i := fun k => ih "" k
      have ll : (drawN (drawT zs told d "") 2 (k + 2)).1.length = 2 := drawN_len ..
      have p3 := n3 _ (pickN_lt (zs := zs) (k := k + 1) (many := 3) (by decide))
      generalize nm3 (pickN zs (k + 1) 3) = nm at *
      refine ⟨?_, rfl, ?_, ?_, ?_, ?_⟩
      · show (okName _ && (_ || decide (_ ≤ 1)) && okTL told _) = true
        rw [okTL_of (drawN_all (fun k => (i k).ok) _ _)]
        cases q : told.contains nm with
        | true =>
          rw [if_pos rfl, tf.2.1]
          have : okName "g" = true := by decide +kernel
          rw [this]; simp
        | false => rw [if_neg (by decide), q, p3]; simp
      · exact wfL_of (drawN_all (fun k => (i k).wf) _ _)
      · have := tszL_of (drawN_all (fun k => (i k).tsz) 2 (k + 2)); rw [ll] at this; simp only [Tr.tsz, zB]; (first | lia | omega)
      · have := thtL_of (drawN_all (fun k => (i k).tht) 2 (k + 2)); simp only [Tr.tht, hB]; (first | lia | omega)
      · have := trS_of (drawN_all (fun k => (i k).sz) 2 (k + 2)); rw [ll] at this; simp only [Tr.size, sB]; (first | lia | omega)
    split
    · exact leaf_dr (by decide +kernel)
    · rename_i hf
      have flp : 0 < (freeOf told around).length := by
        rcases Nat.eq_zero_or_pos (freeOf told around).length with h | h
        · exact absurd (List.eq_nil_of_length_eq_zero h) hf
        · exact h
      have pf := pickN_lt (zs := zs) (k := k + 1) flp
      have om : (freeOf told around).getD (pickN zs (k + 1) (freeOf told around).length) "s" ∈ freeOf told around := by
        rw [List.getD_eq_getElem?_getD, List.getElem?_eq_getElem pf]; exact List.getElem_mem pf
      generalize (freeOf told around).getD (pickN zs (k + 1) (freeOf told around).length) "s" = op at *
      have p2 := pickN_lt (zs := zs) (k := k + 2) (many := 2) (by decide)
      have i := fun k => ih op k
      have ll : (drawN (drawT zs told d op) (2 + pickN zs (k + 2) 2) (k + 3)).1.length = 2 + pickN zs (k + 2) 2 := drawN_len ..
      have hm := List.mem_filter.mp om
      refine ⟨?_, ?_, ?_, ?_, ?_, ?_⟩
      · show (okName op && told.contains op && decide (2 ≤ _) && okTL told _ && List.all _ _) = true
        rw [tf.1 op hm.1, okTL_of (drawN_all (fun k => (i k).ok) _ _), List.contains_iff_mem.mpr hm.1, ll, decide_eq_true (by (first | lia | omega))]
        simp only [Bool.true_and, List.all_eq_true, Bool.not_eq_true']
        exact drawN_all (fun k => (i k).no) _ _
      · show (op == around) = false
        have := hm.2
        simpa using this
      · show (decide (2 ≤ _) && wfL _) = true
        rw [wfL_of (drawN_all (fun k => (i k).wf) _ _), ll, decide_eq_true (by (first | lia | omega))]; rfl
      · have := tszL_of (drawN_all (fun k => (i k).tsz) (2 + pickN zs (k + 2) 2) (k + 3)); rw [ll] at this
        have mm : (2 + pickN zs (k + 2) 2) * zB d ≤ 3 * zB d := Nat.mul_le_mul_right _ (by (first | lia | omega))
        simp only [Tr.tsz, zB]; (first | lia | omega)
      · have := thtL_of (drawN_all (fun k => (i k).tht) (2 + pickN zs (k + 2) 2) (k + 3)); simp only [Tr.tht, hB]; (first | lia | omega)
      · have := trS_of (drawN_all (fun k => (i k).sz) (2 + pickN zs (k + 2) 2) (k + 3)); rw [ll] at this
        have mm : (2 + pickN zs (k + 2) 2) * sB d ≤ 3 * sB d := Nat.mul_le_mul_right _ (by (first | lia | omega))
        simp only [Tr.size, sB]; (first | lia | omega)

noncomputable def topL (zs : List Int) (told : List Str) (op : Str) (m k : Nat) : List Tr × Nat :=
  ((drawT zs told 2 op k).1 :: (drawN (drawT zs told 1 op) m (drawT zs told 2 op k).2).1, (drawN (drawT zs told 1 op) m (drawT zs told 2 op k).2).2)
theorem topL_k {zs : List Int} {told : List Str} {op : Str} {m k : Nat} (hm : m ≤ 3) : k ≤ (topL zs told op m k).2 ∧ (topL zs told op m k).2 ≤ k + 39 := by
  have a := drawT_k zs told 2 op k
  have b := drawN_k (D := drawT zs told 1 op) (drawT_k zs told 1 op) m (drawT zs told 2 op k).2
  have e1 : cB 2 = 21 := rfl
  have e2 : cB 1 = 6 := rfl
  rw [e1] at a
  rw [e2] at b
  simp only [topL]; (first | lia | omega)
theorem topL_ok {zs : List Int} {told : List Str} {op : Str} {m k : Nat} (ho : okOps told = true) (hop : op ∈ told) (h1 : 1 ≤ m) (hm : m ≤ 3) :
    (Tr.list op (topL zs told op m k).1).ok told = true ∧ (Tr.list op (topL zs told op m k).1).wf = true ∧ (Tr.list op (topL zs told op m k).1).tsz ≤ 35 ∧ (Tr.list op (topL zs told op m k).1).tht ≤ 8 ∧ (Tr.list op (topL zs told op m k).1).size ≤ 30 ∧ (topL zs told op m k).1.length = m + 1 := by
  have a := drawT_dr ho zs 2 op k
  have b := drawN_all (drawT_dr ho zs 1 op) m (drawT zs told 2 op k).2
  have tf := told_facts ho
  have ll : (topL zs told op m k).1.length = m + 1 := by simp only [topL, List.length_cons, drawN_len]
  have l2 : (drawN (drawT zs told 1 op) m (drawT zs told 2 op k).2).1.length = m := drawN_len ..
  have z1 := tszL_of fun t ht => (b t ht).tsz
  have s1 := trS_of fun t ht => (b t ht).sz
  have t1 := thtL_of fun t ht => (b t ht).tht
  rw [l2] at z1 s1
  have e1 : zB 1 = 5 := rfl
  have e2 : sB 1 = 4 := rfl
  have e3 : hB 1 = 3 := rfl
  have a1 := a.tsz
  have a2 := a.sz
  have a3 := a.tht
  have f1 : zB 2 = 17 := rfl
  have f2 : sB 2 = 13 := rfl
  have f3 : hB 2 = 5 := rfl
  rw [f1] at a1
  rw [f2] at a2
  rw [f3] at a3
  rw [e1] at z1
  rw [e2] at s1
  rw [e3] at t1
  refine ⟨?_, ?_, ?_, ?_, ?_, ll⟩
  · show (okName op && told.contains op && decide (2 ≤ _) && okTL told _ && List.all _ _) = true
    rw [tf.1 op hop, List.contains_iff_mem.mpr hop, ll, decide_eq_true (by (first | lia | omega)), okTL_of (fun t ht => by
      rcases List.mem_cons.mp ht with rfl | ht
      · exact a.ok
      · exact (b t ht).ok)]
    simp only [Bool.true_and, List.all_eq_true, Bool.not_eq_true']
    intro t ht
    rcases List.mem_cons.mp ht with rfl | ht
    · exact a.no
    · exact (b t ht).no
  · show (decide (2 ≤ _) && wfL _) = true
    rw [ll, decide_eq_true (by (first | lia | omega)), wfL_of (fun t ht => by
      rcases List.mem_cons.mp ht with rfl | ht
      · exact a.wf
      · exact (b t ht).wf)]; rfl
  · simp only [Tr.tsz, ll]
    simp only [topL, tszL]
    (first | lia | omega)
  · simp only [Tr.tht, ll]
    simp only [topL, thtL]
    (first | lia | omega)
  · simp only [Tr.size]
    simp only [topL, trS]
    (first | lia | omega)
end Mine
namespace Mine

theorem Rep.cx {C C' : Cx} (hb : C.bag = C'.bag) (hw : C.w = C'.w) (hT : C.T = Option.none) {h : Heap} {M : List Addr} {v : Value} {y : V} (o : y.own = false) (r : Rep C h M v y) : Rep C' h M v y := by
  cases y with
  | oL xs => cases o
  | oD xs => cases o
  | tray => obtain ⟨a, _, t⟩ := r; rw [hT] at t; cases t
  | any => exact True.intro
  | _ => exact Rp.cx hb hw r
section
variable {prog : Program} {w : World} {K : Frag} {p : Program} {loose : List Str} {mg mb : Str → Option Value} {bag : Addr} {cells : List V} {k1 k2 : Str}
structure Box (p : Prop) : Prop where
  out : p
theorem tray_start {n : Nat} {env : Env} {σ : List (Str × V)} {x : Str} {pn pos pd p1 p2 p3 : Pos} {kk1 kk2 kk3} {e : PySem.Expr} {rest : List Stmt} {A : Around} {s₀ s : Shared} {W : List Addr} {ρ : Str → Option Value} {Q : Value → Shared → Prop}
    (hk : k1 ≠ k2) (R : Room A n) (F : Fs (cxOf prog w K p loose mg mb Option.none bag [] k1 k2) s₀ [] W env σ Option.none [] ρ s) (no : noOwn σ)
    (he : Ev (cxOf prog w K p loose mg mb Option.none bag [] k1 k2) n e env σ Option.none (.lst cells) Option.none) (hx : ownVar env x = true) (hx' : isVar env x = true)
    (hs : swapsWith (.Dict [some (.Constant (.str k1) kk1 p1), some (.Constant (.str k2) kk2 p2)] [e, .Constant (.int 0) kk3 p3] pd) (some (.Name x pn)) pos.line env = pure false)
    (h : ∀ d s₁ ρ' s', Fs (cxOf prog w K p loose mg mb (some d) bag cells k1 k2) s₁ [d] W env ((x, .tray) :: σ) (some 0) [] ρ' s' →
      (∀ s2, Kept (cxOf prog w K p loose mg mb (some d) bag cells k1 k2) s₁ s2 → Keeps s₀ s2) → wpAny (model prog w) A (execs rest env) (flowTo Q) NoE s') :
    Box (wpAny (model prog w) A (execs (.Assign [.Name x pn] (.Dict [some (.Constant (.str k1) kk1 p1), some (.Constant (.str k2) kk2 p2)] [e, .Constant (.int 0) kk3 p3] pd) pos :: rest) env) (flowTo Q) NoE s) := by
  refine ⟨?_⟩
  let C := cxOf prog w K p loose mg mb Option.none bag [] k1 k2
  refine wpAny_execs_cons (wpAny_Assign_Name ?_ hs)
  have fr : s.heap.get? s.heap.objs.size = Option.none := size_none _
  have aM : s.heap.objs.size ∉ W ++ ([] ++ []) := fun q => let ⟨o, e⟩ := F.gs.low _ q; Nat.lt_irrefl _ (Heap.lt_size e)
  refine wpAny_Dict_walk (knd := PySem.strKind prog w) rfl rfl (by simp) (by simp) ?_
  have kp := kpPush s { cls := .type "dict", data := .dict #[] }
  have k : Sub s.heap (s.heap.push { cls := .type "dict", data := .dict #[] }) := fun _ _ e => Heap.get?_push_of_some _ e
  generalize hd : s.heap.objs.size = d at *
  have fr1 : ∀ a ∈ [d], s.heap.get? a = Option.none := fun a ha => by simp at ha; subst ha; exact fr
  have hd1 : (s.heap.push { cls := .type "dict", data := .dict #[] }).get? d = some { cls := .type "dict", data := .dict #[] } := by rw [← hd]; exact Heap.get?_push_size _ rfl
  have G := F.gs.more (N := [d]) (tk := s.toks) k fr1 (fun a ha => by simp at ha; subst ha; exact ⟨_, hd1⟩)
  have F₁ := F.gain (N := [d]) (.of kp) G fr1
  have dW : d ∉ W := fun z => aM (List.mem_append_left _ z)
  have d0 : s₀.heap.get? d = Option.none := by
    cases q : s₀.heap.get? d with
    | none => rfl
    | some o =>
      obtain ⟨h', tk, e1, k1⟩ := F.kept
      have := k1 d o (fun z => nomatch z) q
      rw [e1] at fr
      have fr' : h'.get? d = Option.none := fr
      rw [this] at fr'; cases fr'
  clear hd
  refine pairTrees_cons_walk (wpAny_Constant_str (wpAny_mono (he A R _ _ (F₁.st.keeps (kpTok _ _))) (fun v s₁ zz => and3 zz fun S₁ r₁ K₁ => ?_) fun _ _ x => x))
  refine pairTrees_cons_walk (wpAny_Constant_str (wpAny_Constant_int (pairTrees_nil_walk ?_)))
  obtain ⟨b, bs, rfl, -⟩ := rep_lstE r₁
  have F₂ := (F₁.then (.of (kpTok _ _)) (F₁.gs.keeps (kpTok _ _))).then K₁ S₁.toGs
  have F₃ := F₂.then (.of (kpTrans (kpTok _ (s₁.toks + 1)) (kpTok _ (s₁.toks + 1 + 1)))) (F₂.gs.keeps (kpTrans (kpTok _ (s₁.toks + 1)) (kpTok _ (s₁.toks + 1 + 1))))
  have d2 : s₁.heap.get? d = some { cls := .type "dict", data := .dict #[] } := by
    obtain ⟨h', tk, e1, q⟩ := K₁
    subst e1
    exact q d _ (fun z => nomatch z) hd1
  refine ⟨[(k1, .ref b), (k2, .int 0 (s₁.toks + 1))], ?_, ?_, fun h' hm sb => ?_⟩
  · exact ⟨by simp [PySem.strKind, Value.isStrOf], rfl, by simp [PySem.strKind, Value.isStrOf], rfl, trivial⟩
  · exact ⟨_, #[], 0, d2, ⟨rfl, rfl, rfl⟩, rfl, fun e he => by simp at he, .nil, by simp⟩
  have em : merged [] [(k1, Value.ref b), (k2, .int 0 (s₁.toks + 1))] = [(k1, .ref b), (k2, .int 0 (s₁.toks + 1))] := by
    simp [merged, stored, hk]
  rw [em] at hm
  obtain ⟨t1, t2, n', od⟩ := dict_two hm
  have F₄ := F₃.poke (h' := h') (tk := s₁.toks + 1 + 1 + [(Value.str k1 s.toks, Value.ref b), (.str k2 s₁.toks, .int 0 (s₁.toks + 1))].length) (X := [d]) (O' := [d] ++ []) (fun b hb => by simp at hb; subst hb; exact ⟨by simp, dW⟩)
    (fun b' o nb e => (sb.2 b' (fun q => nb (by simp [q]))).trans e) (fun b' hb => by simp at hb; subst hb; exact ⟨by simp, _, od⟩) no.poke
  refine F₄.set (v := .ref d) (y := .any) True.intro (notOwn rfl) hx hx fun s' F₅ kW => ?_
  have eM : W ++ (([d] ++ []) ++ []) = W ++ ([] ++ [d]) := by simp
  have mem : ∀ a, a ∈ W ++ (([d] ++ []) ++ []) ↔ a ∈ W ++ ([] ++ [d]) := fun a => by rw [eM]
  have od5 : s'.heap.get? d = _ := kW d _ dW od
  have rc : Rp C (hid s₁.heap (W ++ (([d] ++ []) ++ []))) (.ref b) (.lst cells) := r₁
  have subH : Sub (hid s₁.heap (W ++ (([d] ++ []) ++ []))) (hid s'.heap (W ++ ([] ++ [d]))) := by
    rw [← eM]
    refine hid_mono fun b' o nb e => ?_
    have nW : b' ∉ W := fun q => nb (List.mem_append_left _ q)
    have nd : b' ≠ d := fun q => nb (by rw [q]; simp)
    exact kW b' o nW ((sb.2 b' nd).trans e)
  have fresh : ∀ a, a ∈ W → s₀.heap.get? a = Option.none := fun a ha => F.fresh a (.inl ha)
  refine h d (rb s' W) (upd ρ x (.ref d)) s' ?_ ?_
  · refine {
      gs := { base := ?_, low := fun a m => F₅.gs.low a ((mem a).mpr m), mT := fun a q => by cases q; simp, tray := ?_ }
      glob := F₅.glob
      frame := { ns := F₅.frame.ns, cell := F₅.frame.cell, apart := F₅.frame.apart, notT := fun a q => ?_ }
      vars := fun y z e i => ?_
      own := fun y z e i o => ?_
      apart := fun y y' z z' a e e' i i' o => ?_
      wr := F₅.wr
      kept := rb_kept _ _
      fresh := fun a ha => by
        rcases ha with ha | ha
        · exact hid_none ha
        · cases ha
      fa := fun a ha => ?_
      aM := fun a ha => by simp at ha; subst ha; exact ⟨_, hid_get od5 dW⟩
      mT := fun a q => by cases q; simp }
    · have := F₅.gs.base
      rw [eM] at this
      exact this
    · exact ⟨d, t1, t2, _, n', b, rfl, od5, (Rp.cx (C := cxOf prog w K p loose mg mb Option.none bag [] k1 k2) (C' := cxOf prog w K p loose mg mb (some d) bag cells k1 k2) rfl rfl rc).up subH⟩
    · cases q
      have dn : ∀ a, (a = env.locals ∨ ∃ x, env.cells.lookup x = some a) → a ≠ d := fun a ha q => by
        rcases F.fa a ha with h | ⟨o, e⟩
        · exact dW (q ▸ h)
        · rw [q, d0] at e; cases e
      exact ⟨dn _ (.inl rfl), fun y e => dn d (.inr ⟨y, e⟩) rfl⟩
    · by_cases q : y = x
      · subst q
        rw [lookup_cons_eq] at e
        cases e
        refine ⟨.ref d, by simp [upd], ⟨d, rfl, rfl⟩⟩
      · rw [lookup_cons_ne q] at e
        obtain ⟨u, e1, r1⟩ := F₅.vars y z (by rw [lookup_cons_ne q]; exact e) i
        refine ⟨u, e1, ?_⟩
        have := Rep.cx (C := cxOf prog w K p loose mg mb Option.none bag [] k1 k2) (C' := cxOf prog w K p loose mg mb (some d) bag cells k1 k2) rfl rfl rfl (no y z e) r1
        rw [eM] at this
        exact this
    · by_cases q : y = x
      · subst q
        rw [lookup_cons_eq] at e
        cases e; cases o
      · rw [lookup_cons_ne q] at e
        rw [no y z e] at o; cases o
    · by_cases q : y = x
      · subst q
        rw [lookup_cons_eq] at e
        cases e; cases o
      · rw [lookup_cons_ne q] at e
        rw [no y z e] at o; cases o
    · rcases F.fa a ha with h | ⟨o, e⟩
      · exact .inl h
      · refine .inr ?_
        obtain ⟨h5, tk5, e5, k5⟩ := F₅.kept
        have nW : a ∉ W := fun q => by rw [fresh a q] at e; cases e
        exact ⟨o, by subst e5; exact hid_get (k5 a o (fun z => nomatch z) e) nW⟩
  · intro s2 K2
    obtain ⟨h5, tk5, e5, k5⟩ := F₅.kept
    obtain ⟨h6, tk6, e6, k6⟩ := K2
    subst e5
    refine ⟨h6, tk6, e6, fun b' o e => k6 b' o ?_ (hid_get (k5 b' o (fun z => nomatch z) e) fun q => ?_)⟩
    · intro q
      cases q
      rw [d0] at e; cases e
    · rw [fresh b' q] at e; cases e
end
end Mine
namespace Mine

noncomputable def plainZ : List Int := [0, 0, 0, 0, 0, 0, 1, 0, 2, 1, 0, 1, 1]
theorem upto_succ (m : Nat) : upto (m + 1) = .int 0 :: (List.range m).map fun (i : Nat) => .int ((i : Int) + 1) := by
  unfold upto
  rw [List.range_succ_eq_map, List.map_cons, List.map_map]
  rfl
theorem Turns.topL {zs : List Int} {told : List Str} {op : Str} {T' : V → Option Nat → List V → Option Nat → Prop} {m k : Nat} (h0 : T' (.int 0) (some k) [(drawT zs told 2 op k).1.v] (some (drawT zs told 2 op k).2))
    (h1 : ∀ (i k' : Nat), k ≤ k' → k' + 6 ≤ k + 21 + m * 6 → T' (.int ((i : Int) + 1)) (some k') [(drawT zs told 1 op k').1.v] (some (drawT zs told 1 op k').2)) :
    Turns T' (upto (m + 1)) (some k) ((Mine.topL zs told op m k).1.map Tr.v) (some (Mine.topL zs told op m k).2) := by
  rw [upto_succ]
  refine ⟨_, _, _, h0, Turns.drawN (D := drawT zs told 1 op) (B := 6) (drawT_k zs told 1 op) (by simp) fun x hx k' a b => ?_, rfl⟩
  obtain ⟨i, _, rfl⟩ := List.mem_map.mp hx
  have := drawT_k zs told 2 op k
  have e1 : cB 2 = 21 := rfl
  rw [e1] at this
  exact h1 i k' (by (first | lia | omega)) (by (first | lia | omega))

section
variable {w : World} {mg mb : Str → Option Value} {T : Option Addr} {cells : List V}
theorem Ev_plain {n : Nat} {env : Env} {σ : List (Str × V)} {τ : Option Nat} {pos : Pos} (k : env.kindOf "_law_plain" = some .globalImplicit) : Ev (cx1 w mg mb T cells) n (.Name "_law_plain" pos) env σ τ (.tup (cellsV plainZ)) τ := fun A R M s S => by
  have e := (cx1 w mg mb T cells).kin _ S.base 206 _ rfl
  exact wp_glob S g_plain k (by decide) ⟨S, .tup ⟨_, _, e, rfl, rfl, rfl⟩ (.cons (.int _ _) (.cons (.int _ _) (.cons (.int _ _) (.cons (.int _ _) (.cons (.int _ _) (.cons (.int _ _) (.cons (.int _ _) (.cons (.int _ _) (.cons (.int _ _) (.cons (.int _ _) (.cons (.int _ _) (.cons (.int _ _) (.cons (.int _ _) .nil))))))))))))), .refl ..⟩
end
end Mine
namespace Mine

theorem fineT {t : Tm} (h : t.good = true) : t.v.fine = true := srt_fine (Tm.srt h)
theorem depT {t : Tm} (h : t.good = true) : t.v.py.depth = t.ht := by rw [py_dep (srt_plain (Tm.srt h)), Tm.dep]
theorem lst_dep {l : List Tm} {n : Nat} (h : ∀ t ∈ l, t.good = true) (d : ∀ t ∈ l, t.ht ≤ n) : (V.lst (l.map Tm.v)).py.depth ≤ n + 1 := by
  have e : (V.lst (l.map Tm.v)).py.depth = PyData.depthAll (pyL (l.map Tm.v)) + 1 := by simp [V.py, PyData.depth]
  rw [e, pyL_dep (srtL_plain (srtL_v h))]
  have := depL_map (f := Tm.v) (l := l) (n := n) fun t ht => by rw [Tm.dep]; exact d t ht
  (first | lia | omega)
theorem eqv_refl_lst {l : List Tm} (h : ∀ t ∈ l, t.good = true) : PyData.eqv (V.lst (l.map Tm.v)).py (V.lst (l.map Tm.v)).py = true := by
  have e : PyData.eqv (V.lst (l.map Tm.v)).py (V.lst (l.map Tm.v)).py = PyData.eqvAll (pyL (l.map Tm.v)) (pyL (l.map Tm.v)) := by simp [V.py, PyData.eqv]
  have s := srtL_v h
  rw [e, eqvL_cmp s s]
  have : cmpV (.tup (l.map Tm.v)) (.tup (l.map Tm.v)) = .eq := cmpV_refl (by simp [V.srt, s])
  have e2 : cmpV (.tup (l.map Tm.v)) (.tup (l.map Tm.v)) = cmpL (l.map Tm.v) (l.map Tm.v) := by rw [cmpV]
  rw [e2] at this
  rw [this]; rfl

theorem Ex.run {C : Cx} {n : Nat} {ss : List Stmt} {env : Env} {σ : List (Str × V)} {τ : Option Nat} {P : Out → Prop} {A : Around} {s₀ s : Shared} {M₀ W O : List Addr} {ρ : Str → Option Value} {Q : Flow → Shared → Prop} (h : Ex C n ss env σ τ P) (R : Room A n) (F : Fs C s₀ M₀ W env σ τ O ρ s)
    (k : ∀ o f s', P o → OutAt C s₀ M₀ W env o f s' → Q f s') : Box (wpAny (model C.prog C.w) A (execs ss env) Q NoE s) := ⟨wpAny_mono (h A R s₀ M₀ W O ρ s F) (fun f s' zz => ex2 zz fun o p q => k o f s' p q) fun _ _ x => x⟩

theorem ev_told {w : World} {mg mb : Str → Option Value} {T : Option Addr} {us : List Int} {C : Cx} {n : Nat} {env : Env} {σ : List (Str × V)} {k1 k2 k3 k4 k5 k6 p1 p2 p3 p4 p5 p6 q1 q2 q3 q4 q5 pos a1 a2 a3 a4 kk} (hC : C = cx1 w mg mb T (cellsV us)) (lu : us.length ≤ 1000) (hn : 1 ≤ n) (ht : σ.lookup ("tray" : Str) = some .tray) (it : isVar env "tray" = true) (kf : env.kindOf "_law_pick" = some .globalImplicit) :
    Ev C n (.Subscript (.List [.List [.Constant (.str "s") k1 p1] q1, .List [.Constant (.str "p") k2 p2] q2, .List [.Constant (.str "s") k3 p3, .Constant (.str "p") k4 p4] q3, .List [.Constant (.str "p") k5 p5, .Constant (.str "s") k6 p6] q4] q5)
      (.Call (.Name "_law_pick" a1) [.Name "tray" a2, .Constant (.int (4 : Int)) kk a3] [] a4) pos) env σ (some 0) (opsV (opsAll.getD (pickN us 0 4) [])) (some 1) := by
  have p4 := pickN_lt (zs := us) (k := 0) (many := 4) (by decide)
  have hto : opsAll[pickN us 0 4]? = some (opsAll.getD (pickN us 0 4) []) := by rw [List.getD_eq_getElem?_getD, List.getElem?_eq_getElem p4]; rfl
  have l1 : ∀ {x : Str} {kk : Nat} {pp qq : Pos}, Ev C n (.List [.Constant (.str x) kk pp] qq) env σ (some 0) (.lst [.str x]) (some 0) := by
    intro x kk pp qq
    exact @EvN.ev _ _ _ _ _ _ _ _ (@EvN_list _ _ _ _ _ _ _ _ _ (@EvL_cons _ _ _ _ _ _ _ _ _ _ _ (@Ev_str _ _ _ _ _ _ _ _) (@EvL_nil _ _ _ _ _) rfl) rfl (by simp))
  have l2 : ∀ {x y : Str} {kk k' : Nat} {pp pp' qq : Pos}, Ev C n (.List [.Constant (.str x) kk pp, .Constant (.str y) k' pp'] qq) env σ (some 0) (.lst [.str x, .str y]) (some 0) := by
    intro x y kk k' pp pp' qq
    exact @EvN.ev _ _ _ _ _ _ _ _ (@EvN_list _ _ _ _ _ _ _ _ _ (@EvL_cons _ _ _ _ _ _ _ _ _ _ _ (@Ev_str _ _ _ _ _ _ _ _) (@EvL_cons _ _ _ _ _ _ _ _ _ _ _ (@Ev_str _ _ _ _ _ _ _ _) (@EvL_nil _ _ _ _ _) rfl) rfl) rfl (by simp))
  refine @Ev_itemN _ _ _ _ _ (some 0) _ _ _ _ (.lst (opsAll.map opsV)) _ (opsAll.map opsV) (pickN us 0 4) ?_ ?_ rfl ?_ (by (first | lia | omega)) (by intro _ _; with_unfolding_all rfl)
  · exact @EvN.ev _ _ _ _ _ _ _ _ (@EvN_list _ _ _ _ _ _ _ _ (opsAll.map opsV) (@EvL_cons _ _ _ _ _ _ _ _ _ _ _ l1 (@EvL_cons _ _ _ _ _ _ _ _ _ _ _ l1 (@EvL_cons _ _ _ _ _ _ _ _ _ _ _ l2 (@EvL_cons _ _ _ _ _ _ _ _ _ _ _ l2 (@EvL_nil _ _ _ _ _) rfl) rfl) rfl) rfl) rfl (by simp [opsAll]))
  · exact @ev_pick _ _ _ _ _ _ _ _ _ 0 4 _ _ _ _ _ hC (by (first | lia | omega)) lu (by (first | lia | omega)) hn ht it kf
  · rw [List.getElem?_map, hto]; rfl

section
variable {w : World} {mg mb : Str → Option Value}
theorem walk_law {s : Shared} {zs : List Int} {v : Value} (B : (cx1 w mg mb none []).Base s.heap) (r : Rp (cx1 w mg mb none []) s.heap v (.lst (cellsV zs))) (hz : zs.length ≤ 1000) {A : Around} (R : Room A 191) :
    wpAny (model PySem.Challenge.rw_sa0026_01.row.prog w) A (call (.ref 233) [v]) (fun u s' => u = .bool true ∧ Keeps s s') NoE s := by
  have D : FnData (cx1 w mg mb none []) 233 _ _ ["script"] := fnData_of rfl rfl rfl rfl rfl rfl rfl rfl rfl (bindL1 rfl fun _ => rfl) rfl (by decide)
  have G : Gs (cx1 w mg mb none []) [] none s := { base := B, low := fun _ h => (nomatch h), mT := fun _ h => (nomatch h), tray := trivial }
  refine wpAny_call (fn_enter (C := cx1 w mg mb none []) (xs := [.lst (cellsV zs)]) D rfl (by simp [own_lst]) (by have := R.dp; (first | lia | omega)) G ⟨r, trivial⟩ fun L cs W s' F k fr => ?_)
  have R' : ∀ e, Room (A.deeper e) 190 := fun e => R.deeper e
  let us : List Int := if 0 < zs.length then zs.take 60 else plainZ
  have lu : us.length ≤ 1000 := by
    show (if 0 < zs.length then zs.take 60 else plainZ).length ≤ 1000
    split
    · rw [List.length_take]; (first | lia | omega)
    · simp [plainZ]
  have lz : (cellsV zs).length ≤ sizeLine := by unfold cellsV; rw [List.length_map, sizeLine_eq]; (first | lia | omega)
  refine Box.out (p := wpAny _ _ _ _ _ _) ?_
  refine tray_start (prog := PySem.Challenge.rw_sa0026_01.row.prog) (w := w) (K := Mine.theFrag w.params) (p := Mine.theView) (loose := looseW Mine.theView []) (mg := mg) (mb := mb) (bag := 201) (k1 := "cells") (k2 := "at") (cells := cellsV us) (n := 190) (by decide) (R' _) F (fun x y e => ?_) ?_ ?_ ?_ ?_ fun d s₁ ρ' s₂ F₁ K₁ => ?_
  · have : (x, y) ∈ ([("script", .lst (cellsV zs))] : List (Str × V)) := mem_of_lookup e
    simp at this
    rw [this.2]; rfl
  rotate_left
  · rfl
  · rfl
  · rfl
  rotate_left
  refine Ev_ifexp (c := decide (0 < zs.length)) (τ₁ := none) ?_ (fun hc => ?_) (fun hc => ?_)
  refine Tst_cmp (Ev_builtin b_len (Bu_len (x := .lst (cellsV zs)) (xs := cellsV zs) rfl lz) (EvL_cons (Ev_name rfl rfl) EvL_nil) rfl) Ev_int (Cmp_gt_int ?_)
  · unfold cellsV; rw [List.length_map]
    by_cases q : 0 < zs.length
    · rw [decide_eq_true q]; exact decide_eq_true (by (first | lia | omega))
    · rw [decide_eq_false q]; exact decide_eq_false (by (first | lia | omega))
  · have e : us = zs.take 60 := if_pos (of_decide_eq_true hc)
    rw [e]
    exact EvN.ev (EvN_list_call b_list (Ev_eq (y' := .lst (cellsV (zs.take 60))) (Ev_slice (xs := cellsV zs) (lo := none) (hi := some ((60 : Nat) : Int)) (st := none) (Ev_name rfl rfl) EvO_none (EvO_some Ev_int) EvO_none (.inl rfl) (by decide) lz) (by rw [pick_upto]; unfold cellsV; rw [List.map_take])) rfl (by unfold cellsV; rw [List.length_map, List.length_take, sizeLine_eq]; (first | lia | omega)) rfl)
  · have e : us = plainZ := if_neg (of_decide_eq_false hc)
    rw [e]
    exact EvN.ev (EvN_list_call b_list (Ev_plain rfl) rfl (by rw [sizeLine_eq]; simp [cellsV, plainZ]) rfl)
  -- the rest, with the tray
  clear_value us
  refine Box.out (p := wpAny _ _ _ _ _ _) ?_
  refine Ex.run (C := cx1 w mg mb (some d) (cellsV us)) (n := 190) (P := fun o => ∃ τ, o = .ret (.bool true) τ) ?_ (R' _) F₁ (fun o f s2 ⟨τ, p⟩ q => ?_)
  rotate_left
  · subst p
    cases f <;> first | exact q.elim | skip
    obtain ⟨_, q2, q3, _⟩ := q
    exact ⟨rep_bool q2, K₁ _ q3⟩
  clear F₁ K₁ F R' k fr
  -- told
  have p4 := pickN_lt (zs := us) (k := 0) (many := 4) (by decide)
  have hto : opsAll[pickN us 0 4]? = some (opsAll.getD (pickN us 0 4) []) := by rw [List.getD_eq_getElem?_getD, List.getElem?_eq_getElem p4]; rfl
  refine @Ex_cons _ _ _ _ _ _ _ _ ?_
  refine @Ex1_assign _ _ _ _ _ (some 1) _ _ _ _ (opsV (opsAll.getD (pickN us 0 4) [])) _ ?_ rfl rfl ?_ rfl
  · exact @ev_told _ _ _ _ us _ _ _ _ _ _ _ _ _ _ _ _ _ _ _ _ _ _ _ _ _ _ _ _ _ _ _ rfl lu (by (first | lia | omega)) rfl rfl rfl
  have ho : okOps (opsAll.getD (pickN us 0 4) []) = true := by
    have := List.mem_of_getElem? hto
    simpa [okOps] using this
  generalize opsAll.getD (pickN us 0 4) [] = told at *
  clear hto p4
  have tf := told_facts ho
  have tl := okOps_len ho
  have tp : 0 < told.length := List.length_pos_iff.mpr tf.2.2
  have pt := pickN_lt (zs := us) (k := 1) tp
  have p2 := pickN_lt (zs := us) (k := 2) (many := 2) (by decide)
  have hop : told.getD (pickN us 1 told.length) "s" ∈ told := by rw [List.getD_eq_getElem?_getD, List.getElem?_eq_getElem pt]; exact List.getElem_mem pt
  have gds := getD_some (d := "s") pt
  have sp := spec_pick (w := w) (mg := mg) (mb := mb) (T := some d) (zs := us) (n := 0) (many := told.length) (k := 1) tp lu (by (first | lia | omega))
  generalize hpp : pickN us 1 told.length = pp at *
  generalize told.getD pp "s" = op at *
  have tz : (told.map V.str).length ≤ sizeLine := by rw [List.length_map, sizeLine_eq]; (first | lia | omega)
  refine Ex_cons (Ex1_pair (y1 := .str op) (y2 := .int ((3 + pickN us 2 2 : Nat) : Int)) (τ₁ := some 3) (Ev_tuple (EvL_cons (Ev_itemN (k := pp) (xs := told.map V.str) (x := opsV told) (τ₁ := some 1) (τ₂ := some 2) (Ev_name rfl rfl) (Ev_call g_pick (isFun_of rfl) (sp.le (by (first | lia | omega))) (EvL_cons (Ev_name rfl rfl) (EvL_cons (Ev_eq (Ev_builtin b_len (Bu_len (x := opsV told) (xs := told.map V.str) rfl tz) (EvL_cons (Ev_name rfl rfl) EvL_nil) rfl) (by rw [List.length_map])) EvL_nil)) rfl) rfl gds (by (first | lia | omega)))
    (EvL_cons (Ev_eq (Ev_bin Ev_int (ev_pick (many := 2) (k := 2) rfl (by decide) lu (by (first | lia | omega)) (by (first | lia | omega)) rfl rfl rfl) Bin_add_int) (by congr 1)) EvL_nil)) rfl (by simp)) rfl rfl ?_)
  generalize hm : 2 + pickN us 2 2 = m at *
  have em : 3 + pickN us 2 2 = m + 1 := by (first | lia | omega)
  rw [em]
  have hoN : okName op = true := tf.1 op hop
  have tk := topL_k (zs := us) (told := told) (op := op) (m := m) (k := 3) (by (first | lia | omega))
  obtain ⟨tok, twf, ttsz, ttht, tsz, tlen⟩ := topL_ok (zs := us) (told := told) (op := op) (m := m) (k := 3) ho hop (by (first | lia | omega)) (by (first | lia | omega))
  -- the tree
  have fop : (V.str op).fine = true := okName_fine hoN
  have etree : (Tr.list op (topL us told op m 3).1).v = .tup [.str "list", .str op, .lst ((topL us told op m 3).1.map Tr.v)] := by rw [Tr.v, trL_eq]
  refine Ex_cons (Ex1_assign (τ₁ := some (topL us told op m 3).2) (y := (Tr.list op (topL us told op m 3).1).v) (Ev_eq (Ev_tuple (ys := [.str "list", .str op, .lst ((topL us told op m 3).1.map Tr.v)]) (EvL_cons Ev_str (EvL_cons (Ev_name rfl rfl) (EvL_cons (EvN.ev (EvN_comp1 (items := upto (m + 1)) (τ₁ := some 3) (σ' := [("op", .str op), ("told", opsV told), ("tray", .tray)]) (IterE_range b_range (Ev_name rfl rfl) rfl (by rw [sizeLine_eq]; (first | lia | omega))) (Filt.add (Filt.add (Filt.add Filt.nil rfl rfl rfl) rfl rfl rfl) rfl rfl rfl)
    (Turns.topL (CTurn_name (CAct_emit (fun L cs => Ev_call g_drawn (isFun_of rfl) ((spec_drawn (n := 0) ho lu 2 op 3 fop (by (first | lia | omega)) (by decide)).le (by (first | lia | omega))) (EvL_cons (Ev_name rfl rfl) (EvL_cons (Ev_name rfl rfl) (EvL_cons (Ev_ifexp (c := true) (τ₁ := some 3) (Tst_cmp (Ev_name rfl rfl) Ev_int (Cmp_eq rfl rfl (by simp [V.py, PyData.depth]) rfl)) (fun _ => Ev_int) (fun h => by cases h)) (EvL_cons (Ev_name rfl rfl) EvL_nil)))) rfl) (Tr.pure _) rfl))
      (fun i k' a b => CTurn_name (CAct_emit (fun L cs => Ev_call g_drawn (isFun_of rfl) ((spec_drawn (n := 0) ho lu 1 op k' fop (by (first | lia | omega)) (by show k' + 6 ≤ 1000; (first | lia | omega))).le (by (first | lia | omega))) (EvL_cons (Ev_name rfl rfl) (EvL_cons (Ev_name rfl rfl) (EvL_cons (Ev_ifexp (c := false) (τ₁ := some k') (Tst_cmp (Ev_name (y := .int ((i : Int) + 1)) rfl rfl) Ev_int (Cmp_eq rfl rfl (by simp [V.py, PyData.depth]) (beq_false_of_ne (by (first | lia | omega))))) (fun h => by cases h) (fun _ => Ev_int)) (EvL_cons (Ev_name rfl rfl) EvL_nil)))) rfl) (Tr.pure _) rfl)))
    (by rw [List.length_map, tlen, sizeLine_eq]; (first | lia | omega)))) EvL_nil))) rfl (by simp)) etree.symm) (Tr.own _) rfl ?_)
  generalize hks : topL us told op m 3 = kk at *
  obtain ⟨ks, k3⟩ := kk
  simp only at *
  have okl := ok_list tok
  have hkd : kidsT told op (dueT (Tr.list op ks)) = dueL ks := (dueC_kids okl.td okl.two (ofL_flat okl.ok (of_dueL ks okl.ok) okl.no)).2.2
  have hksz : ∀ c ∈ ks, c.size ≤ 30 := fun c hc => by
    have := trS_mem hc
    simp only [Tr.size] at tsz
    (first | lia | omega)
  generalize htr : Tr.list op ks = tree at *
  have kt := termT_k us tree k3 twf
  have ku := termT_k us tree (termT us tree k3).2 twf
  have ot := of_term (zs := us) tree k3 tok
  have ou := of_term (zs := us) tree (termT us tree k3).2 tok
  have od := of_due tree tok
  have st := of_size tree _ tok ot
  have su := of_size tree _ tok ou
  have sd := of_size tree _ tok od
  refine Ex_cons (Ex1_assign (τ₁ := some (termT us tree k3).2) (y := (termT us tree k3).1.v) (Ev_call g_term (isFun_of rfl) ((spec_term (n := 0) lu tree.size tree k3 (Nat.le_refl _) (by (first | lia | omega)) twf (by (first | lia | omega))).le (by (first | lia | omega))) (EvL_cons (Ev_name rfl rfl) (EvL_cons (Ev_name rfl rfl) EvL_nil)) rfl) (Tm.own _) rfl ?_)
  refine Ex_cons (Ex1_assign (τ₁ := some (termT us tree (termT us tree k3).2).2) (y := (termT us tree (termT us tree k3).2).1.v) (Ev_call g_term (isFun_of rfl) ((spec_term (n := 0) lu tree.size tree (termT us tree k3).2 (Nat.le_refl _) (by (first | lia | omega)) twf (by (first | lia | omega))).le (by (first | lia | omega))) (EvL_cons (Ev_name rfl rfl) (EvL_cons (Ev_name rfl rfl) EvL_nil)) rfl) (Tm.own _) rfl ?_)
  generalize (termT us tree (termT us tree k3).2).2 = k5 at *
  generalize (termT us tree (termT us tree k3).2).1 = u at *
  generalize (termT us tree k3).1 = t at *
  generalize hdue : dueT tree = due at *
  have Nt := nest_of (told := told) tree 8 t tok ot (by (first | lia | omega))
  have Nu := nest_of (told := told) tree 8 u tok ou (by (first | lia | omega))
  have Nd := nest_of (told := told) tree 8 due tok od (by (first | lia | omega))
  have smt : Sm t := ⟨st.2.2, by (first | lia | omega), by (first | lia | omega)⟩
  have smu : Sm u := ⟨su.2.2, by (first | lia | omega), by (first | lia | omega)⟩
  have smd : Sm due := ⟨sd.2.2, by (first | lia | omega), by (first | lia | omega)⟩
  have ntu := norm_of (told := told) tree t u tok ot ou st.2.2 su.2.2
  have ndu := norm_of (told := told) tree due u tok od ou sd.2.2 su.2.2
  refine Ex_cons (Ex1_swap (y1 := .self (opsV told)) (y2 := due.v) (τ₁ := some k5) (EvL_cons (Ev_make (n := 189) mkAt g_Bags (Ev_name rfl rfl) rfl rfl) (EvL_cons (hdue ▸ Ev_call g_due (isFun_of rfl) ((spec_due (n := 0) tree.size tree (Nat.le_refl _) (by (first | lia | omega)) (some k5)).le (by (first | lia | omega))) (EvL_cons (Ev_name rfl rfl) EvL_nil) rfl) EvL_nil)) rfl (Tm.pure _) rfl rfl ?_)
  rw [hdue] at Nt Nu Nd
  have sn : ∀ x : Tm, Sm x → x.ht ≤ 8 → nestF told 8 x = due → FnSpec (cx1 w mg mb (some d) (cellsV us)) 190 (.ref 166) [.self (opsV told), x.v] (some k5) due.v (some k5) := fun x hx h8 e => e ▸ (spec_nested (n := 0) ho 8 x h8 hx (some k5)).le (by (first | lia | omega))
  have cne : CmpR (cx1 w mg mb (some d) (cellsV us)) 190 .NotEq due.v due.v false := Cmp_ne (fineT smd.good) (fineT smd.good) (by rw [depT smd.good, Nat.min_self]; have := smd.ht; (first | lia | omega)) (by rw [(Tm.eqv smd.good smd.good).mpr rfl]; rfl)
  refine Ex_cons (Ex1_if (c := false || false || false) (τ₁ := some k5) (Tst_or3 (Tst_cmp (Ev_method m_nested (sn t smt (by (first | lia | omega)) Nt) (EvL_cons (Ev_name rfl rfl) EvL_nil) rfl rfl) (Ev_name rfl rfl) cne) (fun _ => Tst_cmp (Ev_method m_nested (sn u smu (by (first | lia | omega)) Nu) (EvL_cons (Ev_name rfl rfl) EvL_nil) rfl rfl) (Ev_name rfl rfl) cne)
    (fun _ _ => Tst_cmp (Ev_method m_nested (sn due smd (by (first | lia | omega)) Nd) (EvL_cons (Ev_name rfl rfl) EvL_nil) rfl rfl) (Ev_name rfl rfl) cne)) (fun h => by cases h) (fun _ => Ex_nil ?_))
  have gk : ∀ x ∈ dueL ks, Sm x := fun x hx => kidsT_sm (ops := told) (op := op) smd x (by rw [hkd]; exact hx)
  have gk' : ∀ x ∈ dueL ks, x.good = true := fun x hx => (gk x hx).good
  have dl : (dueL ks).length = ks.length := by rw [dueL_eq, List.length_map]
  have dlz : ((dueL ks).map Tm.v).length ≤ sizeLine := by rw [List.length_map, dl, sizeLine_eq]; (first | lia | omega)
  have ekd : (dueL ks).map Tm.v = ks.map fun c => (dueT c).v := by rw [dueL_eq, List.map_map]; rfl
  refine Ex_cons (Ex1_if (c := false) (τ₁ := some k5) (Tst_cmp (y := .lst ((dueL ks).map Tm.v)) (EvN.ev (ys := (dueL ks).map Tm.v) (EvN_list_call (x := .tup ((dueL ks).map Tm.v)) b_list (Ev_method m_kids (hkd ▸ (spec_kids (n := 0) ho hoN due.ht due (Nat.le_refl _) smd (some k5)).le (by (first | lia | omega))) (EvL_cons (Ev_name rfl rfl) (EvL_cons (Ev_method m_nested (sn t smt (by (first | lia | omega)) Nt) (EvL_cons (Ev_name rfl rfl) EvL_nil) rfl rfl) EvL_nil)) rfl rfl) rfl dlz rfl))
    (ekd ▸ EvN.ev (EvN_comp1 (τ₁ := some k5) (items := ks.map Tr.v) (σ' := []) (IterE.of (x := .lst (ks.map Tr.v)) (Ev_at2 (Ev_name' etree rfl rfl) rfl) IterOf_lst) Filt.nil
      (Turns.over fun c hc => CTurn_name (CAct_emit (fun L cs => Ev_call g_due (isFun_of rfl) ((spec_due (n := 0) c.size c (Nat.le_refl _) (by have := hksz c hc; (first | lia | omega)) (some k5)).le (by have := hksz c hc; (first | lia | omega))) (EvL_cons (Ev_name rfl rfl) EvL_nil) rfl) (Tm.pure _) rfl)) (by rw [List.length_map, sizeLine_eq]; (first | lia | omega))))
    (Cmp_ne (fine_lst gk') (fine_lst gk') (by rw [Nat.min_self]; have := lst_dep (l := dueL ks) (n := 40) gk' (fun x hx => (gk x hx).ht); (first | lia | omega)) (by rw [eqv_refl_lst gk']; rfl))) (fun h => by cases h) (fun _ => Ex_nil ?_))
  refine Ex_cons (Ex1_return (y := .bool (true && true && true)) (Ev_and3 (Ev_method m_are_like ((spec_are_like (n := 0) ho smt smu (some k5) ntu).le (by (first | lia | omega))) (EvL_cons (Ev_name rfl rfl) (EvL_cons (Ev_name rfl rfl) EvL_nil)) rfl rfl)
    (fun _ => Ev_method m_are_like ((spec_are_like (n := 0) ho smd smu (some k5) ndu).le (by (first | lia | omega))) (EvL_cons (Ev_name rfl rfl) (EvL_cons (Ev_name rfl rfl) EvL_nil)) rfl rfl)
    (fun _ _ => Ev_cmp (Ev_method m_matched ((spec_matched (n := 0) ho smt smu (by (first | lia | omega)) (by (first | lia | omega)) ntu (some k5)).le (by (first | lia | omega))) (EvL_cons (Ev_name rfl rfl) (EvL_cons (Ev_name rfl rfl) EvL_nil)) rfl rfl) (EvN.ev (EvN_list (EvL_cons (Ev_tuple EvL_nil) EvL_nil) rfl (by simp))) (Cmp_eq (by rfl) (by rfl) (by simp [V.py, pyL, PyData.depth, PyData.depthAll]) (by rfl)))) rfl ⟨_, rfl⟩)
end
end Mine
namespace Mine

theorem items_int {R : WRecords} : ∀ {ds : List WData}, WShape.hasItems R ds .int = true → ∃ zs : List Int, ds = zs.map WData.int
  | [], _ => ⟨[], rfl⟩
  | d :: r, h => by
    have h' : (WShape.has R d .int && WShape.hasItems R r .int) = true := h
    rw [Bool.and_eq_true] at h'
    obtain ⟨i, rfl⟩ := hasW_int h'.1
    obtain ⟨zs, rfl⟩ := items_int h'.2
    exact ⟨i :: zs, rfl⟩
theorem rpl_int {C : Cx} {P : Params} {h : Heap} : ∀ {vs : List Value} {zs : List Int}, WellAll P h vs (zs.map WData.int) → RpL C h vs (cellsV zs)
  | _, [], x => by
    cases x; exact .nil
  | _, z :: zs, x => by
    cases x with
    | cons a b =>
      cases a with
      | int i t => exact .cons (.int z t) (rpl_int b)
theorem arg_one {C : Cx} {P : Params} {h : Heap} {vals : List Value} {zs : List Int} (x : WellAll P h vals [.list (zs.map WData.int)]) : ∃ v, vals = [v] ∧ Rp C h v (.lst (cellsV zs)) := by
  cases x with
  | cons a b =>
    cases b with
    | nil =>
      cases a with
      | list e q => exact ⟨_, rfl, .lst ⟨_, e⟩ (rpl_int q)⟩
theorem pre_len {R : WRecords} {zs : List Int} (h : WTm.holds R (.and (.not (.lt (.lit (.int 63)) (.len (.arg 0)))) (.lit (.bool true))) { args := [.list (zs.map WData.int)] } = true) : zs.length ≤ 63 := by
  have h1 := (holds_andW h).1
  simp only [WTm.holds, WTm.value, List.getElem?_cons_zero] at h1
  simp only [less?, Num.less?, List.length_map, Option.map_some] at h1
  by_cases q : 63 < zs.length
  · rw [decide_eq_true (show (63 : Int) < zs.length by omega)] at h1
    cases h1
  · omega
theorem post_true {r : RowW} {args : List WData} (h1 : r.post = .eq .res (.lit (.bool true))) (h2 : r.returns = .bool) : r.claim.post args (.bool true) args = true :=
  postW_of (X := true) (by rw [h2]; rfl) (by rw [h1]; simp [WTm.value, same]) rfl
theorem law_at {w : World} {mg mb : Str → Option Value} {h : Heap} (B : (cx1 w mg mb none []).Base h) {fa : Addr} (e : mg "law" = some (.ref fa)) : fa = 233 := by
  have q := mg_of B.1 B.2.g (show nsIn (cx1 w mg mb none []).K mainGlobals "law" = some (some (.ref 233)) from rfl)
  rw [e] at q
  injection q with q
  injection q with q
end Mine

theorem PySem.Challenge.cw_sa0026_01_holds : PySem.Challenge.rw_sa0026_01.Holds := by
  w_on
  refine Mine.said0 fun said => ?_
  refine holds_open (q := Mine.theView) (loose := []) (Xt := fun s => xlAt Mine.theView [] s && recOk [] s) (XP := XL Mine.theView []) (Yf := Mine.theHook.obs) (Ya := Mine.theHook.val) (YP := Mine.theHook.says) (N := 3600)
    Mine.left (Hook.of Mine.theHook) (Hook.keeps Mine.theHook) (fun s e => xl_of s (Bool.and_eq_true_iff.mp e).1) XL.keeps (by rfl) (by rfl) (by rfl) (fun s e => recFacts_of (Bool.and_eq_true_iff.mp e).2) (by rfl) said (by decide +kernel) ⟨rfl, rfl, rfl, rfl, rfl, by decide +kernel⟩ ?hw ?hc
  case hw => w_witness2
  case hc =>
    intro w s₀ s₁ mg mb G Y fa o pm cd doc dV kV ho hd' hcd hD hmg hg args vals as hpre hlay hrd hwl hlo
    have KX := kIn_of Y
    refine Ground.open G ?_
    intro T B D E TW
    have hs := pre_splitW hpre
    obtain ⟨d, r, rfl, h1, h2⟩ := hasAllW_cons hs.1
    have h3 := hasAllW_nil h2
    subst h3
    obtain ⟨ds, rfl, h4⟩ := hasW_list h1
    obtain ⟨zs, rfl⟩ := Mine.items_int h4
    have hz : zs.length ≤ 63 := Mine.pre_len hs.2
    obtain ⟨v, rfl, r⟩ := Mine.arg_one (C := Mine.cx1 w mg mb none []) hwl
    have B0 : (Mine.cx1 w mg mb none []).Base s₁.heap := ⟨KX, topRead_of T⟩
    have efa : fa = 233 := Mine.law_at B0 hmg
    subst efa
    refine wpAny_mono (Mine.walk_law B0 r (by omega) (A := callerA) ⟨rfl, by decide, by decide⟩) (fun u s' q => ?_) fun _ _ x => x.elim
    obtain ⟨e, h', tk, e', k⟩ := q
    subst e e'
    exact ⟨.inl ⟨_, _, [], rfl, fun _ => rfl, ReadsW.bool true, Mine.post_true rfl rfl, fun _ => ⟨List.nodup_nil, fun _ hm => nomatch hm⟩⟩, .of_keep k, rfl, .of_eq hg⟩
