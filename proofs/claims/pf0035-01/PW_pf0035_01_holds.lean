import PyProof.Rows.All
import Wide.All
import OpenK.AllK
import KE.KNest
import KE.KDictList
import PyProof.ForAnyI
import PyProof.ExcInit
import KE.KLam
import Wide.FinOn
import PyProof.ExcBaseAll.Exception
import PyProof.InstStoreFacts
import PyProof.AssignAttr
import PyProof.ExcArgsOwn
import PyProof.ExcAttrAll.Exception
import PyProof.InstLoad
import Lean
import PySem.Challenge.RW_pf0035_01
set_option Elab.async false
set_option maxRecDepth 100000
namespace Lz
open PySem PySem.W PyProof.Rows

inductive PV where
  | none
  | bool (b : Bool)
  | int (i : Int)
  | str (x : Str)
  | tup (l : List PV)
  | lst (l : List PV)
  | dic (l : List (Int × PV))
  | box

abbrev Rho := List (Str × PV)
abbrev M (α : Type) := Int → Option (Except Str α × Int)
noncomputable def ret {α : Type} (a : α) : M α := fun n => some (.ok a, n)
noncomputable def stuck {α : Type} : M α := fun _ => Option.none
noncomputable def fail {α : Type} (k : Str) : M α := fun n => some (.error k, n)
noncomputable def bnd {α β : Type} (m : M α) (f : α → M β) : M β := fun n => match m n with
  | some (.ok a, n') => f a n'
  | some (.error k, n') => some (.error k, n')
  | Option.none => Option.none
noncomputable def lift {α : Type} : Option α → M α
  | some a => ret a
  | Option.none => stuck

theorem nn {P : Prop} {α : Type} {o : Option α} {a : α} (e : o = some a) (h : o = Option.none) : P := nomatch h.symm.trans e
theorem ss {α : Type} {o : Option α} {a b : α} (e : o = some a) (h : o = some b) : a = b := Option.some.inj (e.symm.trans h)

theorem bnd_some {α β : Type} {m : M α} {f : α → M β} {n n' : Int} {r : Except Str β} (h : bnd m f n = some (r, n')) :
    (∃ a n₁, m n = some (.ok a, n₁) ∧ f a n₁ = some (r, n')) ∨ (∃ k, m n = some (.error k, n') ∧ r = .error k) := by
  unfold bnd at h
  split at h
  · next a n₁ e => exact .inl ⟨a, n₁, e, h⟩
  · next k n₁ e => cases h; exact .inr ⟨k, e, rfl⟩
  · cases h

/-- what is fixed throughout -/
structure Wd where
  prog : Program
  w : World
  G : Heap
  mg : Str → Option Value
  mb : Str → Option Value
  B : Addr
  Lf : Addr
  scr : List Int
  tabs : List (Addr × Str)
  clsRef : Addr
  codes : List (Scope × Addr × Addr × Str)

noncomputable def Wd.W (wd : Wd) (b : Addr) : Prop := b = wd.B ∨ ∃ q, (b, q) ∈ wd.tabs

mutual
inductive Rep (wd : Wd) (X : Addr → Prop) (h : Heap) : Value → PV → Prop
  | none : Rep wd X h .none .none
  | bool (b : Bool) : Rep wd X h (.bool b) (.bool b)
  | int (i : Int) (t : Tok) : Rep wd X h (.int i t) (.int i)
  | str (x : Str) (t : Tok) : Rep wd X h (.str x t) (.str x)
  | tup {a : Addr} {its : Array Value} {k : Nat} {ds : List PV} : ¬ X a → h.get? a = some { cls := .type "tuple", dict := Option.none, data := .seq its k, slots := #[] } → Reps wd X h its.toList ds → Rep wd X h (.ref a) (.tup ds)
  | lst {a : Addr} {its : Array Value} {k : Nat} {ds : List PV} : ¬ X a → h.get? a = some { cls := .type "list", dict := Option.none, data := .seq its k, slots := #[] } → Reps wd X h its.toList ds → Rep wd X h (.ref a) (.lst ds)
  | dic {a : Addr} {kvs : List (Int × Value)} {D : List (Int × PV)} : ¬ X a → mainGlobals < a → h.DictOf (intKind wd.prog wd.w) a kvs → kvs.map (·.1) = D.map (·.1) → Reps wd X h (kvs.map (·.2)) (D.map (·.2)) → Rep wd X h (.ref a) (.dic D)
  | box : Rep wd X h (.ref wd.B) .box
inductive Reps (wd : Wd) (X : Addr → Prop) (h : Heap) : List Value → List PV → Prop
  | nil : Reps wd X h [] []
  | cons {v : Value} {d : PV} {vs : List Value} {ds : List PV} : Rep wd X h v d → Reps wd X h vs ds → Reps wd X h (v :: vs) (d :: ds)
end

section
variable {wd : Wd} {X X' : Addr → Prop} {h h' : Heap}

theorem dictOf_at {a : Addr} {kvs : List (Int × Value)} (x : h.DictOf (intKind wd.prog wd.w) a kvs) (k : ∀ o, h.get? a = some o → h'.get? a = some o) : h'.DictOf (intKind wd.prog wd.w) a kvs :=
  let ⟨o, es, ep, e, r⟩ := x; ⟨o, es, ep, k _ e, r⟩

/-- the values stay as they are, if what is not in X stays; cells are no values -/
theorem Rep.monoC (hX : ∀ b o, h.get? b = some o → ¬ X b → (∀ v, o.data ≠ .cell v) → ¬ X' b) (k : ∀ b o, h.get? b = some o → ¬ X b → (∀ v, o.data ≠ .cell v) → h'.get? b = some o) {v : Value} {d : PV} (r : Rep wd X h v d) : Rep wd X' h' v d := by
  refine Rep.rec (motive_1 := fun v d _ => Rep wd X' h' v d) (motive_2 := fun vs ds _ => Reps wd X' h' vs ds) .none .bool .int .str (fun hx ho _ r => ?_) (fun hx ho _ r => ?_) (fun hx lo ho hk _ r => ?_) .box .nil (fun _ _ p r => .cons p r) r
  · exact .tup (hX _ _ ho hx (fun _ q => nomatch q)) (k _ _ ho hx (fun _ q => nomatch q)) r
  · exact .lst (hX _ _ ho hx (fun _ q => nomatch q)) (k _ _ ho hx (fun _ q => nomatch q)) r
  · obtain ⟨o, es, ep, e, q, hd, q'⟩ := ho
    have nc : ∀ v, o.data ≠ .cell v := fun v z => by (first | exact nn z (hd) | cases ss (hd) z | cases Eq.trans (Eq.symm (hd)) z | (rw [hd] at z; cases z))
    exact .dic (hX _ _ e hx nc) lo ⟨o, es, ep, k _ _ e hx nc, q, hd, q'⟩ hk r
theorem Reps.monoC (hX : ∀ b o, h.get? b = some o → ¬ X b → (∀ v, o.data ≠ .cell v) → ¬ X' b) (k : ∀ b o, h.get? b = some o → ¬ X b → (∀ v, o.data ≠ .cell v) → h'.get? b = some o) {vs : List Value} {ds : List PV} (r : Reps wd X h vs ds) : Reps wd X' h' vs ds := by
  induction ds generalizing vs with
  | nil => cases r; exact .nil
  | cons d ds ih => cases r with
    | cons p r => exact .cons (p.monoC hX k) (ih r)
theorem Rep.mono (hX : ∀ b o, h.get? b = some o → ¬ X b → ¬ X' b) (k : ∀ b o, h.get? b = some o → ¬ X b → h'.get? b = some o) {v : Value} {d : PV} (r : Rep wd X h v d) : Rep wd X' h' v d :=
  r.monoC (fun b o e x _ => hX b o e x) fun b o e x _ => k b o e x
theorem Reps.mono (hX : ∀ b o, h.get? b = some o → ¬ X b → ¬ X' b) (k : ∀ b o, h.get? b = some o → ¬ X b → h'.get? b = some o) {vs : List Value} {ds : List PV} (r : Reps wd X h vs ds) : Reps wd X' h' vs ds :=
  r.monoC (fun b o e x _ => hX b o e x) fun b o e x _ => k b o e x

theorem Rep.keeps (k : ∀ b o, h.get? b = some o → h'.get? b = some o) {v : Value} {d : PV} (r : Rep wd X h v d) : Rep wd X h' v d := r.mono (fun _ _ _ x => x) fun b o e _ => k b o e
theorem Reps.keeps (k : ∀ b o, h.get? b = some o → h'.get? b = some o) {vs : List Value} {ds : List PV} (r : Reps wd X h vs ds) : Reps wd X h' vs ds := r.mono (fun _ _ _ x => x) fun b o e _ => k b o e

theorem Reps.length {vs : List Value} {ds : List PV} (r : Reps wd X h vs ds) : vs.length = ds.length := by
  induction ds generalizing vs with
  | nil => cases r; rfl
  | cons d ds ih => cases r with
    | cons p r => exact congrArg Nat.succ (ih r)
theorem Reps.get {vs : List Value} {ds : List PV} (r : Reps wd X h vs ds) : ∀ {i : Nat} {d : PV}, ds[i]? = some d → ∃ v, vs[i]? = some v ∧ Rep wd X h v d := by
  induction ds generalizing vs with
  | nil => intro i d e; exact nomatch e
  | cons d ds ih => cases r with
    | cons p r =>
      intro i d' e
      cases i with
      | zero => cases e; exact ⟨_, rfl, p⟩
      | succ i => exact ih r e
theorem Reps.at {vs : List Value} {ds : List PV} (r : Reps wd X h vs ds) : ∀ {i : Nat} {v : Value}, vs[i]? = some v → ∃ d, ds[i]? = some d ∧ Rep wd X h v d := by
  induction ds generalizing vs with
  | nil => intro i d e; cases r; exact nomatch e
  | cons d ds ih => cases r with
    | cons p r =>
      intro i d' e
      cases i with
      | zero => cases e; exact ⟨_, rfl, p⟩
      | succ i => exact ih r e
theorem Reps.append {vs us : List Value} {ds es : List PV} (r : Reps wd X h vs ds) (q : Reps wd X h us es) : Reps wd X h (vs ++ us) (ds ++ es) := by
  induction ds generalizing vs with
  | nil => cases r; exact q
  | cons d ds ih => cases r with
    | cons p r => exact .cons p (ih r)
theorem Reps.take {vs : List Value} {ds : List PV} (n : Nat) (r : Reps wd X h vs ds) : Reps wd X h (vs.take n) (ds.take n) := by
  induction ds generalizing vs n with
  | nil => cases r; cases n <;> exact .nil
  | cons d ds ih => cases r with
    | cons p r => cases n with
      | zero => exact .nil
      | succ n => exact .cons p (ih n r)
theorem Reps.drop {vs : List Value} {ds : List PV} (n : Nat) (r : Reps wd X h vs ds) : Reps wd X h (vs.drop n) (ds.drop n) := by
  induction ds generalizing vs n with
  | nil => cases r; cases n <;> exact .nil
  | cons d ds ih => cases r with
    | cons p r => cases n with
      | zero => exact .cons p r
      | succ n => exact ih n r
theorem Rep.int_inv {v : Value} {i : Int} (r : Rep wd X h v (.int i)) : ∃ t, v = .int i t := by cases r; exact ⟨_, rfl⟩
theorem Rep.none_inv {v : Value} (r : Rep wd X h v .none) : v = .none := by cases r; rfl
inductive SeqOf (wd : Wd) (X : Addr → Prop) (h : Heap) (T : String) (v : Value) (ds : List PV) : Prop
  | mk (a : Addr) (its : Array Value) (k : Nat) : v = .ref a → ¬ X a → h.get? a = some { cls := .type T, dict := Option.none, data := .seq its k, slots := #[] } → Reps wd X h its.toList ds → SeqOf wd X h T v ds
inductive DicOf (wd : Wd) (X : Addr → Prop) (h : Heap) (v : Value) (D : List (Int × PV)) : Prop
  | mk (a : Addr) (kvs : List (Int × Value)) : v = .ref a → ¬ X a → mainGlobals < a → h.DictOf (intKind wd.prog wd.w) a kvs → kvs.map (·.1) = D.map (·.1) → Reps wd X h (kvs.map (·.2)) (D.map (·.2)) → DicOf wd X h v D
theorem Rep.box_inv {v : Value} (r : Rep wd X h v .box) : v = .ref wd.B := by cases r; rfl
theorem Rep.lst_inv {v : Value} {ds : List PV} (r : Rep wd X h v (.lst ds)) : SeqOf wd X h "list" v ds := by
  cases r with
  | lst a b c => exact ⟨_, _, _, rfl, a, b, c⟩
theorem Rep.tup_inv {v : Value} {ds : List PV} (r : Rep wd X h v (.tup ds)) : SeqOf wd X h "tuple" v ds := by
  cases r with
  | tup a b c => exact ⟨_, _, _, rfl, a, b, c⟩
theorem Rep.dic_inv {v : Value} {D : List (Int × PV)} (r : Rep wd X h v (.dic D)) : DicOf wd X h v D := by
  cases r with
  | dic a b c d e => exact ⟨_, _, rfl, a, b, c, d, e⟩
theorem Reps.snoc {vs : List Value} {ds : List PV} {v : Value} {d : PV} (r : Reps wd X h vs ds) (p : Rep wd X h v d) : Reps wd X h (vs ++ [v]) (ds ++ [d]) := r.append (.cons p .nil)
end

mutual
noncomputable def toPy : PV → PyData
  | .none => .none
  | .bool b => .bool b
  | .int i => .int i
  | .str x => .str x
  | .tup ds => .tuple (toPys ds)
  | .lst ds => .list (toPys ds)
  | .dic _ => .none
  | .box => .none
noncomputable def toPys : List PV → List PyData
  | [] => []
  | d :: ds => toPy d :: toPys ds
end

/-- what may be asked for equality -/
noncomputable def okEq : Nat → PV → Bool
  | _, .none => true
  | _, .int _ => true
  | _, .str x => PyData.strOk x
  | n + 1, .tup ds => ds.all (okEq n)
  | n + 1, .lst ds => ds.all (okEq n)
  | _, _ => false

section
variable {wd : Wd} {X : Addr → Prop} {h : Heap}
theorem reads_all {ok : PV → Bool} (ih : ∀ v d, Rep wd X h v d → ok d = true → ∃ as, Reads h v (toPy d) as) {vs : List Value} {ds : List PV} (r : Reps wd X h vs ds) (hk : ds.all ok = true) : ∃ as, ReadsAll h vs (toPys ds) as := by
  induction ds generalizing vs with
  | nil => cases r; exact ⟨_, ReadsAll.nil⟩
  | cons d ds hi => cases r with
    | cons p r =>
      rw [List.all_cons, Bool.and_eq_true] at hk
      obtain ⟨as, q⟩ := ih _ _ p hk.1
      obtain ⟨bs, p⟩ := hi r hk.2
      exact ⟨_, ReadsAll.cons q p⟩
theorem Rep.reads : ∀ {v : Value} {d : PV} (n : Nat), Rep wd X h v d → okEq n d = true → ∃ as, Reads h v (toPy d) as := by
  intro v d n
  induction n generalizing v d with
  | zero =>
    intro r hk
    cases r with
    | none => exact ⟨_, Reads.none⟩
    | bool b => exact nomatch hk
    | int i t => exact ⟨_, Reads.int i t⟩
    | str x t => exact ⟨_, Reads.str x t⟩
    | _ => exact nomatch hk
  | succ n ih =>
    intro r hk
    cases r with
    | none => exact ⟨_, Reads.none⟩
    | bool b => exact nomatch hk
    | int i t => exact ⟨_, Reads.int i t⟩
    | str x t => exact ⟨_, Reads.str x t⟩
    | tup _ ho r => obtain ⟨as, q⟩ := reads_all (fun _ _ => ih) r hk; exact ⟨as, reads_tuple_at ho rfl rfl q⟩
    | lst _ ho r => obtain ⟨as, q⟩ := reads_all (fun _ _ => ih) r hk; exact ⟨_, reads_list_at ho rfl rfl q⟩
    | _ => exact nomatch hk
end

theorem okEq_tup (n : Nat) (ds : List PV) : okEq (n + 1) (.tup ds) = ds.all (okEq n) := rfl
theorem okEq_lst (n : Nat) (ds : List PV) : okEq (n + 1) (.lst ds) = ds.all (okEq n) := rfl
theorem okEq_int (n : Nat) (i : Int) : okEq n (.int i) = true := by cases n <;> rfl
theorem okEq_str (n : Nat) (x : Str) : okEq n (.str x) = PyData.strOk x := by cases n <;> rfl
theorem toPy_int (i : Int) : toPy (.int i) = .int i := rfl
theorem toPy_str (x : Str) : toPy (.str x) = .str x := rfl
theorem toPy_tup (ds : List PV) : toPy (.tup ds) = .tuple (toPys ds) := rfl
theorem toPy_lst (ds : List PV) : toPy (.lst ds) = .list (toPys ds) := rfl
theorem toPys_nil : toPys [] = [] := rfl
theorem toPys_cons (d : PV) (ds : List PV) : toPys (d :: ds) = toPy d :: toPys ds := rfl
theorem lay_all {ok : PV → Bool} {n : Nat} (ih : ∀ d, ok d = true → (toPy d).canLay0 = true ∧ (toPy d).depth ≤ n) (ds : List PV) (h : ds.all ok = true) : PyData.canLayAll0 (toPys ds) = true ∧ PyData.depthAll (toPys ds) ≤ n := by
  induction ds with
  | nil => exact ⟨rfl, Nat.zero_le _⟩
  | cons d ds hi =>
    rw [List.all_cons, Bool.and_eq_true] at h
    have h1 := ih d h.1
    have h2 := hi h.2
    exact ⟨Bool.and_eq_true_iff.mpr ⟨h1.1, h2.1⟩, Nat.max_le.mpr ⟨h1.2, h2.2⟩⟩
theorem okEq_lay (n : Nat) : ∀ d : PV, okEq n d = true → (toPy d).canLay0 = true ∧ (toPy d).depth ≤ n := by
  induction n with
  | zero =>
    intro d h
    cases d with
    | none => exact ⟨rfl, Nat.le_refl 0⟩
    | int i => exact ⟨rfl, Nat.le_refl 0⟩
    | str x => exact ⟨h, Nat.le_refl 0⟩
    | _ => exact nomatch h
  | succ n ih =>
    intro d h
    cases d with
    | none => exact ⟨rfl, Nat.zero_le _⟩
    | int i => exact ⟨rfl, Nat.zero_le _⟩
    | str x => exact ⟨h, Nat.zero_le _⟩
    | tup ds => have q := lay_all ih ds h; exact ⟨q.1, Nat.succ_le_succ q.2⟩
    | lst ds => have q := lay_all ih ds h; exact ⟨q.1, Nat.succ_le_succ q.2⟩
    | _ => exact nomatch h
theorem okEq_shaped {d : PV} (h : okEq 8 d = true) : SeqAt.shaped (toPy d) = true := by
  have l := okEq_lay 8 d h
  unfold SeqAt.shaped
  rw [l.1, Bool.true_and]
  exact decide_eq_true (Nat.le_trans l.2 (by decide))

inductive TabIs (h : Heap) (P : Addr) (q : Str) : Prop
  | mk (ps : Array Value) : h.get? P = some (tabObj ps) → TriplesOk ps.toList → (∀ pos cv, codeAmong pos ps.toList = some cv → h.CodeRec cv q) → TabIs h P q

/-- the mutable things of the world -/
structure Inv (wd : Wd) (n : Int) (h : Heap) : Prop where
  stay : ∀ b o, wd.G.get? b = some o → h.get? b = some o
  box : ∃ t, h.IsList wd.B #[.ref wd.Lf, .int n t]
  froz : ∃ its k, h.get? wd.Lf = some { cls := .type "list", dict := Option.none, data := .seq its k, slots := #[] } ∧ ∃ xs : List (Int × Tok), its.toList = xs.map (fun p => .int p.1 p.2) ∧ xs.map (·.1) = wd.scr
  tab : ∀ P q, (P, q) ∈ wd.tabs → TabIs h P q

/-- what is asked of the fixed things -/
structure Wd.Ok (wd : Wd) : Prop where
  g : wd.G.Ns mainGlobals wd.mg
  b : wd.G.Ns builtinsNs wd.mb
  nolimit : wd.G.NoLimit
  nodigits : ∃ mc, wd.G.Ns cStatics mc ∧ mc "sys.int_max_str_digits" = Option.none
  wg : ∀ b, wd.W b → wd.G.get? b = Option.none
  uniq : ∀ P q q', (P, q) ∈ wd.tabs → (P, q') ∈ wd.tabs → q = q'
  dot : ∀ p ∈ wd.codes, p.1.names.lookup (".0" : Str) = Option.none
  hd : ∀ p ∈ wd.codes, CodeHd wd.G p.2.1 p.2.2.1 ∧ (p.2.2.1, p.2.2.2) ∈ wd.tabs
  bmain : ∃ bm o, wd.mg "__builtins__" = some (.ref bm) ∧ bm ≠ builtinsNs ∧ bm ≠ mainGlobals ∧ wd.G.get? bm = some o ∧ o.cls = .type "module" ∧ o.dict = some builtinsNs ∧ o.data = .plain

noncomputable def frs (l : List Env) (b : Addr) : Prop := ∃ e ∈ l, e.frame = some b

/-- from one heap to a later one, seen from the frames l -/
noncomputable def Go (wd : Wd) (l : List Env) (h h' : Heap) : Prop :=
  ∀ b o, h.get? b = some o → ¬ wd.W b → (¬ frs l b → h'.get? b = some o) ∧ ∃ sl, h'.get? b = some { o with slots := sl }

theorem Go.refl (wd : Wd) (l : List Env) (h : Heap) : Go wd l h h := fun _ o e _ => ⟨fun _ => e, o.slots, e⟩
theorem Go.of_keeps {wd : Wd} {l : List Env} {h h' : Heap} (k : ∀ b o, h.get? b = some o → h'.get? b = some o) : Go wd l h h' := fun _ o e _ => ⟨fun _ => k _ _ e, o.slots, k _ _ e⟩
theorem Go.trans {wd : Wd} {l : List Env} {h₁ h₂ h₃ : Heap} (x : Go wd l h₁ h₂) (y : Go wd l h₂ h₃) : Go wd l h₁ h₃ := fun b o e hw => by
  obtain ⟨x1, sl, x2⟩ := x b o e hw
  obtain ⟨y1, sl', y2⟩ := y b _ x2 hw
  exact ⟨fun hf => (y b o (x1 hf) hw).1 hf, sl', y2⟩

structure Cx where
  A : Around
  env : Env
  l : List Env
  X : Addr → Prop

inductive ChainAt (wd : Wd) (X : Addr → Prop) (e : Env) : Prop
  | mk : e.scope.kind ≠ .module → (L : Addr) → e.frame = some L → wd.G.get? L = Option.none → ¬ wd.W L → X L → ChainAt wd X e

/-- the still part of a station -/
structure St (wd : Wd) (cx : Cx) : Prop where
  ok : wd.Ok
  frames : cx.A.frames = some cx.l
  handled : cx.A.handled = Option.none
  kind : cx.env.scope.kind = .function
  globals : cx.env.globals = mainGlobals
  builtins : cx.env.builtins = builtinsNs
  chain : ∀ e ∈ cx.l, ChainAt wd cx.X e
  xw : ∀ b, wd.W b → cx.X b
  xlf : ¬ cx.X wd.Lf
  xg : ∀ b o, wd.G.get? b = some o → ¬ cx.X b
  cellIs : ∀ y, cx.env.kindOf y = some .cell → ∃ c, cx.env.cells.lookup y = some c
  code : ∀ p ∈ wd.codes, cx.env.scope = p.1 → cx.env.code = .ref p.2.1 ∧ cx.env.qual ++ "<lambda>" = p.2.2.2

inductive FrAt (e : Env) (h : Heap) : Prop
  | mk (L : Addr) (m : Str → Option Value) : e.frame = some L → h.Ns L m → FrAt e h
noncomputable def Frs (l : List Env) (h : Heap) : Prop := ∀ e ∈ l, FrAt e h

/-- the moving part -/
structure Dy (wd : Wd) (cx : Cx) (n : Int) (h : Heap) : Prop where
  inv : Inv wd n h
  frs : Frs cx.l h
  there : ∀ b, cx.X b → ∃ o, h.get? b = some o
  code : ∀ P q ps pos c, (P, q) ∈ wd.tabs → h.get? P = some (tabObj ps) → codeAmong pos ps.toList = some (.ref c) → ¬ cx.X c

noncomputable def Room (k : Nat) (A : Around) : Prop := A.depth + 2 * k ≤ 900 ∧ A.units + 20 * k ≤ 9000

/-- a name's place -/
inductive BoundL (wd : Wd) (env : Env) (h : Heap) (x : Str) (v : Value) : Prop
  | mk : env.kindOf x = some .local → ¬ wd.W env.locals → (m : Str → Option Value) → h.Ns env.locals m → m x = some v → BoundL wd env h x v
inductive BoundC (wd : Wd) (env : Env) (h : Heap) (x : Str) (v : Value) : Prop
  | mk : (env.kindOf x = some .cell ∨ (env.kindOf x = some .free ∧ (x == ("__classdict__" : Str)) = false)) → (c : Addr) → env.cells.lookup x = some c → ¬ wd.W c → h.IsCell c (some v) → BoundC wd env h x v
noncomputable def Bound (wd : Wd) (env : Env) (h : Heap) (x : Str) (v : Value) : Prop := BoundL wd env h x v ∨ BoundC wd env h x v
noncomputable def Loc (wd : Wd) (cx : Cx) (ρ : Rho) (h : Heap) : Prop := ∀ x d, ρ.lookup x = some d → ∃ v, Bound wd cx.env h x v ∧ Rep wd cx.X h v d

theorem ns_slots {h h' : Heap} {a : Addr} {m : Str → Option Value} (hn : h.Ns a m) (k : ∀ o, h.get? a = some o → ∃ sl, h'.get? a = some { o with slots := sl }) : h'.Ns a m := by
  obtain ⟨o, es, ep, e, r⟩ := hn
  obtain ⟨sl, e'⟩ := k o e
  exact ⟨_, es, ep, e', r⟩

theorem Bound.go {wd : Wd} {l : List Env} {env : Env} {h h' : Heap} {x : Str} {v : Value} (g : Go wd l h h') : Bound wd env h x v → Bound wd env h' x v
  | .inl ⟨hk, hw, m, hn, hv⟩ => .inl ⟨hk, hw, m, ns_slots hn fun o e => (g _ o e hw).2, hv⟩
  | .inr ⟨hk, c, hc, hw, o, e, hd⟩ => let ⟨_, e'⟩ := (g _ o e hw).2; .inr ⟨hk, c, hc, hw, _, e', hd⟩

theorem Rep.go {wd : Wd} {cx : Cx} {h h' : Heap} {v : Value} {d : PV} (S : St wd cx) (g : Go wd cx.l h h') (r : Rep wd cx.X h v d) : Rep wd cx.X h' v d :=
  r.mono (fun _ _ _ x => x) fun b o e hx => (g b o e fun hw => hx (S.xw b hw)).1 fun ⟨e', he', hf⟩ => by
    obtain ⟨_, L, hL, _, _, hXL⟩ := S.chain e' he'
    (first | exact nn hf (hL) | cases ss (hL) hf | cases Eq.trans (Eq.symm (hL)) hf | (rw [hL] at hf; cases hf))
    exact hx hXL
theorem Reps.go {wd : Wd} {cx : Cx} {h h' : Heap} {vs : List Value} {ds : List PV} (S : St wd cx) (g : Go wd cx.l h h') (r : Reps wd cx.X h vs ds) : Reps wd cx.X h' vs ds :=
  r.mono (fun _ _ _ x => x) fun b o e hx => (g b o e fun hw => hx (S.xw b hw)).1 fun ⟨e', he', hf⟩ => by
    obtain ⟨_, L, hL, _, _, hXL⟩ := S.chain e' he'
    (first | exact nn hf (hL) | cases ss (hL) hf | cases Eq.trans (Eq.symm (hL)) hf | (rw [hL] at hf; cases hf))
    exact hx hXL
theorem Loc.go {wd : Wd} {cx : Cx} {ρ : Rho} {h h' : Heap} (S : St wd cx) (g : Go wd cx.l h h') (x : Loc wd cx ρ h) : Loc wd cx ρ h' := fun y d e =>
  let ⟨v, b, r⟩ := x y d e; ⟨v, b.go g, r.go S g⟩


theorem Inv.keeps {wd : Wd} {n : Int} {h h' : Heap} (x : Inv wd n h) (k : ∀ b o, h.get? b = some o → h'.get? b = some o) : Inv wd n h' where
  stay := fun b o e => k b o (x.stay b o e)
  box := let ⟨t, o, e, r⟩ := x.box; ⟨t, o, k _ _ e, r⟩
  froz := let ⟨its, j, e, r⟩ := x.froz; ⟨its, j, k _ _ e, r⟩
  tab := fun P q hm => let ⟨ps, e, ht, hc⟩ := x.tab P q hm; ⟨ps, k _ _ e, ht, fun pos cv hh => (hc pos cv hh).keeps k⟩
theorem Dy.keeps {wd : Wd} {cx : Cx} {n : Int} {h h' : Heap} (x : Dy wd cx n h) (k : ∀ b o, h.get? b = some o → h'.get? b = some o) : Dy wd cx n h' :=
  ⟨x.inv.keeps k, fun e he => let ⟨L, m, hf, hn⟩ := x.frs e he; ⟨L, m, hf, hn.keeps k⟩, fun b hb => let ⟨o, e⟩ := x.there b hb; ⟨o, k _ _ e⟩, fun P q ps pos c hm e hc => by
    obtain ⟨ps', e', _⟩ := x.inv.tab P q hm
    have := k _ _ e'
    (first | exact nn this (e) | cases ss (e) this | cases Eq.trans (Eq.symm (e)) this | (rw [e] at this; cases this))
    exact x.code P q ps pos c hm e' hc⟩
theorem Dy.fresh {wd : Wd} {cx : Cx} {n : Int} {h : Heap} (x : Dy wd cx n h) {b : Addr} (hb : h.objs.size ≤ b) : ¬ cx.X b := fun hx => let ⟨_, e⟩ := x.there b hx; absurd (Heap.lt_size e) (Nat.not_lt.mpr hb)

/-- a step from s to s' -/
structure Step (wd : Wd) (cx : Cx) (s : Shared) (n' : Int) (s' : Shared) : Prop where
  same : ∃ h tk, s' = { s with heap := h, toks := tk }
  go : Go wd cx.l s.heap s'.heap
  dy : Dy wd cx n' s'.heap
  there : ∀ b o, s.heap.get? b = some o → ∃ o', s'.heap.get? b = some o'

theorem Step.refl {wd : Wd} {cx : Cx} {s : Shared} {n : Int} (d : Dy wd cx n s.heap) : Step wd cx s n s := ⟨⟨s.heap, s.toks, rfl⟩, Go.refl _ _ _, d, fun _ o e => ⟨o, e⟩⟩
theorem Step.trans {wd : Wd} {cx : Cx} {s s₁ s₂ : Shared} {n₁ n₂ : Int} (x : Step wd cx s n₁ s₁) (y : Step wd cx s₁ n₂ s₂) : Step wd cx s n₂ s₂ := by
  obtain ⟨h, tk, rfl⟩ := x.same
  obtain ⟨h', tk', rfl⟩ := y.same
  exact ⟨⟨h', tk', rfl⟩, x.go.trans y.go, y.dy, fun b o e => let ⟨o', e'⟩ := x.there b o e; y.there b o' e'⟩
theorem Step.of_keeps {wd : Wd} {cx : Cx} {s : Shared} {n : Int} (d : Dy wd cx n s.heap) {h : Heap} (tk : Tok) (k : ∀ b o, s.heap.get? b = some o → h.get? b = some o) : Step wd cx s n { s with heap := h, toks := tk } :=
  ⟨⟨h, tk, rfl⟩, Go.of_keeps k, d.keeps k, fun _ o e => ⟨o, k _ _ e⟩⟩

/-- an exception of the program's own class flies, seen from the frames l -/
inductive TraceAt (h base : Heap) (e : Addr) (fl : Value) (vs : Array Value) : Prop
  | mk (T : Addr) (oT : Obj) (ts : Array Value) : vs[1]? = some (.ref T) → base.get? T = Option.none → T ≠ e → h.get? T = some oT → oT.data = .fields ts → ts[3]? = some fl → TraceAt h base e fl vs
inductive ExcAt (h base : Heap) (e C : Addr) (kd : Str) (fl : Value) : Prop
  | mk (oe : Obj) (vs : Array Value) (dd : Addr) (m : Str → Option Value) (t : Tok) : h.get? e = some oe → oe.cls = .ref C → oe.dict = some dd → base.Ns dd m → m "kind" = some (.str kd t) → oe.data = .fields vs →
    (vs[1]? = some .none ∨ TraceAt h base e fl vs) → ExcAt h base e C kd fl

structure Flies (wd : Wd) (l : List Env) (base : Heap) (kd : Str) (n : Int) (e : Addr) (h : Heap) : Prop where
  inv : Inv wd n base
  stay : base.StaysIn h
  new : base.get? e = Option.none
  frames : h.FunFrames base l
  exc : ExcAt h base e wd.clsRef kd .none

inductive FliesFrom (wd : Wd) (cx : Cx) (P : Heap → Prop) (n' : Int) (kd : Str) (ev : Value) (h' : Heap) : Prop
  | mk (e : Addr) (base : Heap) : ev = .ref e → Flies wd cx.l base kd n' e h' → P base → (∀ b, cx.X b → frs cx.l b ∨ ∃ o, base.get? b = some o) → FliesFrom wd cx P n' kd ev h'
structure Thrown (wd : Wd) (cx : Cx) (s : Shared) (n' : Int) (kd : Str) (ev : Value) (s' : Shared) : Prop where
  step : Step wd cx s n' s'
  flies : FliesFrom wd cx (fun base => ∀ b o, s.heap.get? b = some o → ¬ wd.W b → ¬ frs cx.l b → base.get? b = some o) n' kd ev s'.heap

/-- the meaning of a tree: what m says of the names' values is what the tree gives -/
noncomputable def EvG (wd : Wd) {β α : Type} (rel : (Addr → Prop) → Heap → β → α → Prop) (sc : Scope) (k : Nat) (t : Env → Sem β) (m : Rho → M α) : Prop :=
  ∀ cx, St wd cx → cx.env.scope = sc → Room k cx.A → ∀ ρ s n r n', m ρ n = some (r, n') → Dy wd cx n s.heap → Loc wd cx ρ s.heap →
    ∀ (Q : β → Shared → Prop) (E : Value → Shared → Prop),
      (∀ d v s', r = .ok d → Step wd cx s n' s' → rel cx.X s'.heap v d → Q v s') →
      (∀ kd ev s', r = .error kd → Thrown wd cx s n' kd ev s' → E ev s') →
      wpAny (model wd.prog wd.w) cx.A (t cx.env) Q E s
abbrev Ev (wd : Wd) := EvG wd (Rep wd)
abbrev Evs (wd : Wd) := EvG wd (Reps wd)
abbrev Tv (wd : Wd) := EvG wd (α := Bool) (β := Bool) (fun _ _ b c => b = c)

theorem Thrown.trans {wd : Wd} {cx : Cx} {s s₁ s' : Shared} {n₁ n' : Int} {kd : Str} {ev : Value} (x : Step wd cx s n₁ s₁) (y : Thrown wd cx s₁ n' kd ev s') : Thrown wd cx s n' kd ev s' := by
  obtain ⟨e, base, he, hf, hb, hx⟩ := y.flies
  exact ⟨x.trans y.step, e, base, he, hf, fun b o eo hw hnf => hb b o ((x.go b o eo hw).1 hnf) hw hnf, hx⟩


/-- a first tree, then the rest -/
theorem EvG.bnd {wd : Wd} {β α γ : Type} {rel : (Addr → Prop) → Heap → β → α → Prop} {sc : Scope} {k : Nat} {t : Env → Sem β} {m : Rho → M α} (h : EvG wd rel sc k t m)
    {cx : Cx} (S : St wd cx) (hs : cx.env.scope = sc) (R : Room k cx.A) {ρ : Rho} {s : Shared} {n n' : Int} {f : α → M γ} {r : Except Str γ}
    (e : bnd (m ρ) f n = some (r, n')) (D : Dy wd cx n s.heap) (L : Loc wd cx ρ s.heap) {Q : β → Shared → Prop} {E : Value → Shared → Prop}
    (hQ : ∀ d n₁ v s₁, f d n₁ = some (r, n') → Step wd cx s n₁ s₁ → rel cx.X s₁.heap v d → Q v s₁)
    (hE : ∀ kd ev s', r = .error kd → Thrown wd cx s n' kd ev s' → E ev s') : wpAny (model wd.prog wd.w) cx.A (t cx.env) Q E s := by
  rcases bnd_some e with ⟨a, n₁, e1, e2⟩ | ⟨kd, e1, rfl⟩
  · exact h cx S hs R ρ s n _ _ e1 D L Q E (fun d v s' hd st hr => by cases hd; exact hQ _ _ _ _ e2 st hr) fun kd ev s' he => by cases he
  · exact h cx S hs R ρ s n _ _ e1 D L Q E (fun d v s' hd => by cases hd) fun kd' ev s' he ht => hE _ _ _ (by cases he; rfl) ht
theorem lift_some {α : Type} {o : Option α} {n n' : Int} {r : Except Str α} (h : lift o n = some (r, n')) : ∃ a, o = some a ∧ r = .ok a ∧ n' = n := by
  cases o with
  | none => cases h
  | some a => cases h; exact ⟨a, rfl, rfl, rfl⟩
theorem ret_some {α : Type} {a : α} {n n' : Int} {r : Except Str α} (h : ret a n = some (r, n')) : r = .ok a ∧ n' = n := by
  cases h; exact ⟨rfl, rfl⟩

/-- more room than is asked -/
theorem Room.le {k k' : Nat} {A : Around} (h : Room k A) (hk : k' ≤ k) : Room k' A := ⟨Nat.le_trans (Nat.add_le_add_left (Nat.mul_le_mul_left 2 hk) _) h.1, Nat.le_trans (Nat.add_le_add_left (Nat.mul_le_mul_left 20 hk) _) h.2⟩
theorem EvG.more {wd : Wd} {β α : Type} {rel : (Addr → Prop) → Heap → β → α → Prop} {sc : Scope} {k k' : Nat} {t : Env → Sem β} {m : Rho → M α} (h : EvG wd rel sc k t m) (hk : k ≤ k') : EvG wd rel sc k' t m :=
  fun cx S hs R => h cx S hs (R.le hk)
/-- a first tree that gives a value -/
theorem EvG.okAt {wd : Wd} {β α : Type} {rel : (Addr → Prop) → Heap → β → α → Prop} {sc : Scope} {k : Nat} {t : Env → Sem β} {m : Rho → M α} (h : EvG wd rel sc k t m)
    {cx : Cx} (S : St wd cx) (hs : cx.env.scope = sc) (R : Room k cx.A) {ρ : Rho} {s : Shared} {n n' : Int} {d : α} (e : m ρ n = some (.ok d, n')) (D : Dy wd cx n s.heap) (L : Loc wd cx ρ s.heap)
    {Q : β → Shared → Prop} {E : Value → Shared → Prop} (hQ : ∀ v s', Step wd cx s n' s' → rel cx.X s'.heap v d → Q v s') : wpAny (model wd.prog wd.w) cx.A (t cx.env) Q E s :=
  h cx S hs R ρ s n _ _ e D L Q E (fun _ v s' hd st r => hQ v s' st (by cases hd; exact r)) fun _ _ _ hd => nomatch hd
theorem no_none {P : Prop} {α : Type} {a : α} (h : (Option.none : Option α) = some a) : P := nomatch h
theorem bnd_ok {α β : Type} {m : M α} {f : α → M β} {n n' : Int} {b : β} (h : bnd m f n = some (.ok b, n')) : ∃ a n₁, m n = some (.ok a, n₁) ∧ f a n₁ = some (.ok b, n') := by
  rcases bnd_some h with q | ⟨_, _, q⟩
  · exact q
  · cases q
theorem ret_ok {α : Type} {a b : α} {n n' : Int} (h : ret a n = some (.ok b, n')) : b = a ∧ n' = n := by
  cases h; exact ⟨rfl, rfl⟩
theorem len0 {P : List Value → Prop} (h : P []) (vs : List Value) (e : vs.length = 0) : P vs := (List.eq_nil_of_length_eq_zero e).symm ▸ h
theorem lenS {P : List Value → Prop} {n : Nat} (h : ∀ a l, l.length = n → P (a :: l)) (vs : List Value) (e : vs.length = n + 1) : P vs := by
  cases vs with
  | nil => exact nomatch e
  | cons a l => exact h a l (Nat.succ.inj e)
theorem len1 {P : List Value → Prop} (h : ∀ a, P [a]) : ∀ vs, vs.length = 1 → P vs := lenS fun a => len0 (P := fun l => P (a :: l)) (h a)
theorem len2 {P : List Value → Prop} (h : ∀ a b, P [a, b]) : ∀ vs, vs.length = 2 → P vs := lenS fun a => len1 (P := fun l => P (a :: l)) (h a)
theorem len3 {P : List Value → Prop} (h : ∀ a b c, P [a, b, c]) : ∀ vs, vs.length = 3 → P vs := lenS fun a => len2 (P := fun l => P (a :: l)) (h a)

end Lz
namespace Lz
open PySem PySem.W PyProof.Rows

/-- a tree of one, two values that only makes new things -/
noncomputable def Op1 (wd : Wd) (f : Value → Sem Value) (g : PV → Option PV) : Prop :=
  ∀ cx, St wd cx → Room 0 cx.A → ∀ s n va a d, Dy wd cx n s.heap → Rep wd cx.X s.heap va a → g a = some d →
    ∀ (Q E : Value → Shared → Prop), (∀ v h tk, (∀ b o, s.heap.get? b = some o → h.get? b = some o) → Rep wd cx.X h v d → Q v { s with heap := h, toks := tk }) →
      wpAny (model wd.prog wd.w) cx.A (f va) Q E s
noncomputable def Op2 (wd : Wd) (f : Value → Value → Sem Value) (g : PV → PV → Option PV) : Prop :=
  ∀ cx, St wd cx → Room 0 cx.A → ∀ s n va vb a b d, Dy wd cx n s.heap → Rep wd cx.X s.heap va a → Rep wd cx.X s.heap vb b → g a b = some d →
    ∀ (Q E : Value → Shared → Prop), (∀ v h tk, (∀ b o, s.heap.get? b = some o → h.get? b = some o) → Rep wd cx.X h v d → Q v { s with heap := h, toks := tk }) →
      wpAny (model wd.prog wd.w) cx.A (f va vb) Q E s
noncomputable def OpN (wd : Wd) (f : List Value → Sem Value) (g : List PV → Option PV) : Prop :=
  ∀ cx, St wd cx → Room 0 cx.A → ∀ s n vs ds d, Dy wd cx n s.heap → Reps wd cx.X s.heap vs ds → g ds = some d →
    ∀ (Q E : Value → Shared → Prop), (∀ v h tk, (∀ b o, s.heap.get? b = some o → h.get? b = some o) → Rep wd cx.X h v d → Q v { s with heap := h, toks := tk }) →
      wpAny (model wd.prog wd.w) cx.A (f vs) Q E s

section
variable {wd : Wd} {sc : Scope} {k : Nat}

theorem Ev.name {x : Str} {pos : Pos} (hd : (x == ("__debug__" : Str)) = false := by decide) : Ev wd sc k (eval (.Name x pos)) (fun ρ => lift (ρ.lookup x)) := by
  intro cx S hs R ρ s n r n' e D L Q E hQ hE
  obtain ⟨d, e1, rfl, rfl⟩ := lift_some e
  obtain ⟨v, b, rv⟩ := L _ _ e1
  have q := hQ d v s rfl (Step.refl D) rv
  rcases b with ⟨hk, _, m, hn, hv⟩ | ⟨hk, c, hc, _, hv⟩
  · exact wpAny_Name (wpAny_loadName_local S.kind hk hn hv q) hd
  · rcases hk with hk | ⟨hk, hcd⟩
    · exact wpAny_Name (wpAny_loadName_cell S.kind hk hc hv q) hd
    · exact wpAny_Name (wpAny_loadName_free S.kind hk hc hv q hcd) hd

theorem Ev.glob {x : Str} {pos : Pos} {v : Value} {d : PV} (hl : sc.names.lookup x = some .globalImplicit) (hv : wd.mg x = some v)
    (hr : ∀ X : Addr → Prop, (∀ b o, wd.G.get? b = some o → ¬ X b) → Rep wd X wd.G v d) (hd : (x == ("__debug__" : Str)) = false := by decide) :
    Ev wd sc k (eval (.Name x pos)) (fun _ => ret d) := by
  intro cx S hs R ρ s n r n' e D L Q E hQ hE
  obtain ⟨rfl, rfl⟩ := ret_some e
  refine Calls.Name_function_global S.kind (by unfold Env.kindOf; rw [hs]; exact hl) (Calls.loadGlobal_global (mg := wd.mg) ?_ hv (hQ d v s rfl (Step.refl D) ?_)) hd
  · rw [S.globals]; exact S.ok.g.keeps D.inv.stay
  · exact (hr cx.X S.xg).keeps D.inv.stay

theorem Ev.int {i : Int} {kd : Nat} {pos : Pos} : Ev wd sc k (eval (.Constant (.int i) kd pos)) (fun _ => ret (.int i)) := by
  intro cx S hs R ρ s n r n' e D L Q E hQ hE
  obtain ⟨rfl, rfl⟩ := ret_some e
  exact wpAny_Constant_int (hQ _ _ _ rfl (Step.of_keeps D _ fun _ _ x => x) (.int _ _))
theorem Ev.str {x : Str} {kd : Nat} {pos : Pos} : Ev wd sc k (eval (.Constant (.str x) kd pos)) (fun _ => ret (.str x)) := by
  intro cx S hs R ρ s n r n' e D L Q E hQ hE
  obtain ⟨rfl, rfl⟩ := ret_some e
  exact wpAny_Constant_str (hQ _ _ _ rfl (Step.of_keeps D _ fun _ _ x => x) (.str _ _))
theorem Ev.none {kd : Nat} {pos : Pos} : Ev wd sc k (eval (.Constant .none kd pos)) (fun _ => ret .none) := by
  intro cx S hs R ρ s n r n' e D L Q E hQ hE
  obtain ⟨rfl, rfl⟩ := ret_some e
  exact wpAny_Constant_none (hQ _ _ _ rfl (Step.refl D) .none)
theorem Ev.bool {b : Bool} {kd : Nat} {pos : Pos} : Ev wd sc k (eval (.Constant (.bool b) kd pos)) (fun _ => ret (.bool b)) := by
  intro cx S hs R ρ s n r n' e D L Q E hQ hE
  obtain ⟨rfl, rfl⟩ := ret_some e
  exact wpAny_Constant_bool (hQ _ _ _ rfl (Step.refl D) (.bool _))

theorem Room.zero {k : Nat} {A : Around} (R : Room k A) : Room 0 A := R.le (Nat.zero_le _)

theorem Ev.un {x : Expr} {op : UnaryOp} {pos : Pos} {mx : Rho → M PV} {g : PV → Option PV} (hx : Ev wd sc k (eval x) mx) (ho : Op1 wd (unaryOp op) g) :
    Ev wd sc k (eval (.UnaryOp op x pos)) (fun ρ => bnd (mx ρ) fun a => lift (g a)) := by
  intro cx S hs R ρ s n r n' e D L Q E hQ hE
  refine wpAny_UnaryOp (hx.bnd S hs R e D L (fun a n₁ va s₁ e₁ st₁ ra => ?_) hE)
  obtain ⟨d, e2, rfl, rfl⟩ := lift_some e₁
  refine ho cx S R.zero s₁ _ va a d st₁.dy ra e2 _ _ fun v h tk hk rd => hQ d v _ rfl (st₁.trans (Step.of_keeps st₁.dy tk hk)) rd

theorem two {l r : Expr} {f : Value → Value → Sem Value} {ml mr : Rho → M PV} {g : PV → PV → Option PV} (hl : Ev wd sc k (eval l) ml) (hr : Ev wd sc k (eval r) mr) (ho : Op2 wd f g)
    {cx : Cx} (S : St wd cx) (hs : cx.env.scope = sc) (R : Room k cx.A) {ρ : Rho} {s : Shared} {n n' : Int} {q : Except Str PV}
    (e : (bnd (ml ρ) fun a => bnd (mr ρ) fun b => lift (g a b)) n = some (q, n')) (D : Dy wd cx n s.heap) (L : Loc wd cx ρ s.heap) {Q E : Value → Shared → Prop}
    (hQ : ∀ d v s', q = .ok d → Step wd cx s n' s' → Rep wd cx.X s'.heap v d → Q v s') (hE : ∀ kd ev s', q = .error kd → Thrown wd cx s n' kd ev s' → E ev s') :
    wpAny (model wd.prog wd.w) cx.A (eval l cx.env) (fun a s₁ => wpAny (model wd.prog wd.w) cx.A (eval r cx.env) (fun b s₂ => wpAny (model wd.prog wd.w) cx.A (f a b) Q E s₂) E s₁) E s := by
  refine hl.bnd S hs R e D L (fun a n₁ va s₁ e₁ st₁ ra => ?_) hE
  refine hr.bnd S hs R e₁ st₁.dy (L.go S st₁.go) (fun b n₂ vb s₂ e₂ st₂ rb => ?_) fun kd ev s' h1 h2 => hE kd ev s' h1 (Thrown.trans st₁ h2)
  obtain ⟨d, e3, rfl, rfl⟩ := lift_some e₂
  exact ho cx S R.zero s₂ _ va vb a b d st₂.dy (ra.go S st₂.go) rb e3 _ _ fun v h tk hk rd => hQ d v _ rfl (st₁.trans (st₂.trans (Step.of_keeps st₂.dy tk hk))) rd

theorem Ev.bin {l r : Expr} {op : Operator} {pos : Pos} {ml mr : Rho → M PV} {g : PV → PV → Option PV} (hl : Ev wd sc k (eval l) ml) (hr : Ev wd sc k (eval r) mr) (ho : Op2 wd (binaryOp op) g) :
    Ev wd sc k (eval (.BinOp l op r pos)) (fun ρ => bnd (ml ρ) fun a => bnd (mr ρ) fun b => lift (g a b)) := by
  intro cx S hs R ρ s n q n' e D L Q E hQ hE
  exact wpAny_BinOp (two hl hr ho S hs R e D L hQ hE)
theorem Ev.cmp {l r : Expr} {op : CmpOp} {pos : Pos} {ml mr : Rho → M PV} {g : PV → PV → Option PV} (hl : Ev wd sc k (eval l) ml) (hr : Ev wd sc k (eval r) mr) (ho : Op2 wd (compareOp op) g)
    (hm : behindInMarks op r = false := by with_unfolding_all rfl) : Ev wd sc k (eval (.Compare l [op] [r] pos)) (fun ρ => bnd (ml ρ) fun a => bnd (mr ρ) fun b => lift (g a b)) := by
  intro cx S hs R ρ s n q n' e D L Q E hQ hE
  exact wpAny_Compare1 (two hl hr ho S hs R e D L hQ hE) hm

/-- is it true? -/
noncomputable def truthV : PV → Option Bool
  | .bool b => some b
  | .int i => some (i != 0)
  | .none => some false
  | _ => Option.none
noncomputable def toB : PV → M Bool := fun d => lift (truthV d)

theorem truth {cx : Cx} {s : Shared} {v : Value} {d : PV} {b : Bool} {Q : Bool → Shared → Prop} {E : Value → Shared → Prop} (r : Rep wd cx.X s.heap v d) (hb : truthV d = some b) (h : Q b s) :
    wpAny (model wd.prog wd.w) cx.A (truthy v) Q E s := by
  cases r <;> cases hb
  · exact fun _ _ _ => h
  · exact wpAny_truthy_bool h
  · exact P.truthy_int h

theorem Tv.cmp {l r : Expr} {op : CmpOp} {pos : Pos} {ml mr : Rho → M PV} {g : PV → PV → Option PV} (hl : Ev wd sc k (eval l) ml) (hr : Ev wd sc k (eval r) mr) (ho : Op2 wd (compareOp op) g)
    (hm : behindInMarks op r = false := by with_unfolding_all rfl) :
    Tv wd sc k (fun env => isTrue (.Compare l [op] [r] pos) env (eval (.Compare l [op] [r] pos) env)) (fun ρ => bnd (ml ρ) fun a => bnd (mr ρ) fun b => bnd (lift (g a b)) toB) := by
  intro cx S hs R ρ s n q n' e D L Q E hQ hE
  refine wpAny_isTrue_Compare1 ?_ hm
  refine hl.bnd S hs R e D L (fun a n₁ va s₁ e₁ st₁ ra => ?_) hE
  refine hr.bnd S hs R e₁ st₁.dy (L.go S st₁.go) (fun b n₂ vb s₂ e₂ st₂ rb => ?_) fun kd ev s' h1 h2 => hE kd ev s' h1 (Thrown.trans st₁ h2)
  rcases bnd_some e₂ with ⟨d, n₃, e3, e4⟩ | ⟨kd, e3, rfl⟩
  · obtain ⟨d', e5, hd', rfl⟩ := lift_some e3
    cases hd'
    obtain ⟨c, e6, rfl, rfl⟩ := lift_some e4
    exact ho cx S R.zero s₂ _ va vb a b d st₂.dy (ra.go S st₂.go) rb e5 _ _ fun v h tk hk rd =>
      truth rd e6 (hQ c c _ rfl (st₁.trans (st₂.trans (Step.of_keeps st₂.dy tk hk))) rfl)
  · obtain ⟨_, _, h, _⟩ := lift_some e3
    cases h

theorem Tv.value {x : Expr} {m : Rho → M PV} (hx : Ev wd sc k (eval x) m)
    (he : ∀ env whole, isTrue x env whole = (do let v ← whole; standAt x.pos; holding [v] (truthy v)) := by intros; rfl) :
    Tv wd sc k (fun env => isTrue x env (eval x env)) (fun ρ => bnd (m ρ) toB) := by
  intro cx S hs R ρ s n q n' e D L Q E hQ hE
  refine wpAny_isTrue_value ?_ (he _ _)
  refine hx.bnd S hs R e D L (fun a n₁ va s₁ e₁ st₁ ra => ?_) hE
  obtain ⟨c, e6, rfl, rfl⟩ := lift_some e₁
  exact truth ra e6 (hQ c c _ rfl st₁ rfl)

theorem Tv.not {x : Expr} {pos : Pos} {m : Rho → M Bool} (hx : Tv wd sc k (fun env => isTrue x env (eval x env)) m) :
    Tv wd sc k (fun env => isTrue (.UnaryOp .Not x pos) env (eval (.UnaryOp .Not x pos) env)) (fun ρ => bnd (m ρ) fun b => ret (!b)) := by
  intro cx S hs R ρ s n q n' e D L Q E hQ hE
  refine wpAny_isTrue_Not ?_
  refine hx.bnd S hs R e D L (fun a n₁ va s₁ e₁ st₁ ra => ?_) hE
  obtain ⟨rfl, rfl⟩ := ret_some e₁
  cases ra
  exact hQ _ _ _ rfl st₁ rfl

/-- all, any of a row of tests -/
noncomputable def allT : Rho → List (Rho → M Bool) → M Bool
  | _, [] => ret true
  | ρ, m :: r => bnd (m ρ) fun b => if b then allT ρ r else ret false
noncomputable def anyT : Rho → List (Rho → M Bool) → M Bool
  | _, [] => ret false
  | ρ, m :: r => bnd (m ρ) fun b => if b then ret true else anyT ρ r

theorem Tv.allNil : Tv wd sc k (allTrue .And []) (fun ρ => allT ρ []) := by
  intro cx S hs R ρ s n q n' e D L Q E hQ hE
  obtain ⟨rfl, rfl⟩ := ret_some e
  exact wpAny_allTrue_And_nil (hQ _ _ _ rfl (Step.refl D) rfl)
theorem Tv.allCons {x : Expr} {rest : List Expr} {m : Rho → M Bool} {ms : List (Rho → M Bool)} (hx : Tv wd sc k (fun env => isTrue x env (eval x env)) m) (hr : Tv wd sc k (allTrue .And rest) (fun ρ => allT ρ ms)) :
    Tv wd sc k (allTrue .And (x :: rest)) (fun ρ => allT ρ (m :: ms)) := by
  intro cx S hs R ρ s n q n' e D L Q E hQ hE
  refine wpAny_allTrue_And_cons ?_
  refine hx.bnd S hs R e D L (fun a n₁ va s₁ e₁ st₁ ra => ?_) hE
  cases ra
  cases a with
  | true => exact hr cx S hs R ρ s₁ n₁ _ _ e₁ st₁.dy (L.go S st₁.go) _ _ (fun d v s' h1 h2 h3 => hQ d v s' h1 (st₁.trans h2) h3) fun kd ev s' h1 h2 => hE kd ev s' h1 (Thrown.trans st₁ h2)
  | false =>
    obtain ⟨rfl, rfl⟩ := ret_some e₁
    exact hQ _ _ _ rfl st₁ rfl
theorem Tv.anyNil : Tv wd sc k (allTrue .Or []) (fun ρ => anyT ρ []) := by
  intro cx S hs R ρ s n q n' e D L Q E hQ hE
  obtain ⟨rfl, rfl⟩ := ret_some e
  exact wpAny_allTrue_Or_nil (hQ _ _ _ rfl (Step.refl D) rfl)
theorem Tv.anyCons {x : Expr} {rest : List Expr} {m : Rho → M Bool} {ms : List (Rho → M Bool)} (hx : Tv wd sc k (fun env => isTrue x env (eval x env)) m) (hr : Tv wd sc k (allTrue .Or rest) (fun ρ => anyT ρ ms)) :
    Tv wd sc k (allTrue .Or (x :: rest)) (fun ρ => anyT ρ (m :: ms)) := by
  intro cx S hs R ρ s n q n' e D L Q E hQ hE
  refine wpAny_allTrue_Or_cons ?_
  refine hx.bnd S hs R e D L (fun a n₁ va s₁ e₁ st₁ ra => ?_) hE
  cases ra
  cases a with
  | false => exact hr cx S hs R ρ s₁ n₁ _ _ e₁ st₁.dy (L.go S st₁.go) _ _ (fun d v s' h1 h2 h3 => hQ d v s' h1 (st₁.trans h2) h3) fun kd ev s' h1 h2 => hE kd ev s' h1 (Thrown.trans st₁ h2)
  | true =>
    obtain ⟨rfl, rfl⟩ := ret_some e₁
    exact hQ _ _ _ rfl st₁ rfl
theorem Tv.boolop {op : BoolOp} {xs : List Expr} {pos : Pos} {m : Rho → M Bool} (h : Tv wd sc k (allTrue op xs) m) :
    Tv wd sc k (fun env => isTrue (.BoolOp op xs pos) env (eval (.BoolOp op xs pos) env)) m := by
  intro cx S hs R ρ s n q n' e D L Q E hQ hE
  exact wpAny_isTrue_BoolOp (h cx S hs R ρ s n q n' e D L Q E hQ hE)

/-- x or y, as a value -/
theorem Ev.or2 {x y : Expr} {pos : Pos} {mx my : Rho → M PV} (hx : Ev wd sc k (eval x) mx) (hy : Ev wd sc k (eval y) my) :
    Ev wd sc k (eval (.BoolOp .Or [x, y] pos)) (fun ρ => bnd (mx ρ) fun a => bnd (toB a) fun b => if b then ret a else my ρ) := by
  intro cx S hs R ρ s n q n' e D L Q E hQ hE
  refine wpAny_Or2 ?_
  refine hx.bnd S hs R e D L (fun a n₁ va s₁ e₁ st₁ ra => ?_) hE
  rcases bnd_some e₁ with ⟨b, n₂, e3, e4⟩ | ⟨kd, e3, rfl⟩
  · obtain ⟨b', e5, hb, rfl⟩ := lift_some e3
    cases hb
    refine truth ra e5 ?_
    cases b with
    | true =>
      obtain ⟨rfl, rfl⟩ := ret_some e4
      exact hQ _ _ _ rfl st₁ ra
    | false => exact hy cx S hs R ρ s₁ _ _ _ e4 st₁.dy (L.go S st₁.go) _ _ (fun d v s' h1 h2 h3 => hQ d v s' h1 (st₁.trans h2) h3) fun kd ev s' h1 h2 => hE kd ev s' h1 (Thrown.trans st₁ h2)
  · obtain ⟨_, _, h, _⟩ := lift_some e3
    cases h

theorem Ev.ifexp {t x y : Expr} {pos : Pos} {mt : Rho → M Bool} {mx my : Rho → M PV} (ht : Tv wd sc k (fun env => isTrue t env (eval t env)) mt) (hx : Ev wd sc k (eval x) mx) (hy : Ev wd sc k (eval y) my) :
    Ev wd sc k (eval (.IfExp t x y pos)) (fun ρ => bnd (mt ρ) fun b => if b then mx ρ else my ρ) := by
  intro cx S hs R ρ s n q n' e D L Q E hQ hE
  refine wpAny_IfExp ?_
  refine ht.bnd S hs R e D L (fun a n₁ va s₁ e₁ st₁ ra => ?_) hE
  cases ra
  cases a with
  | true => exact hx cx S hs R ρ s₁ _ _ _ e₁ st₁.dy (L.go S st₁.go) _ _ (fun d v s' h1 h2 h3 => hQ d v s' h1 (st₁.trans h2) h3) fun kd ev s' h1 h2 => hE kd ev s' h1 (Thrown.trans st₁ h2)
  | false => exact hy cx S hs R ρ s₁ _ _ _ e₁ st₁.dy (L.go S st₁.go) _ _ (fun d v s' h1 h2 h3 => hQ d v s' h1 (st₁.trans h2) h3) fun kd ev s' h1 h2 => hE kd ev s' h1 (Thrown.trans st₁ h2)

/-- a row of values -/
noncomputable def rowM : Rho → List (Rho → M PV) → M (List PV)
  | _, [] => ret []
  | ρ, m :: r => bnd (m ρ) fun a => bnd (rowM ρ r) fun b => ret (a :: b)
theorem Evs.nil {pos : Pos} : Evs wd sc k (fun env => spliced (backTo pos (starEach [] env))) (fun ρ => rowM ρ []) := by
  intro cx S hs R ρ s n q n' e D L Q E hQ hE
  obtain ⟨rfl, rfl⟩ := ret_some e
  exact wpAny_items_nil (hQ _ _ _ rfl (Step.refl D) .nil)
theorem Evs.cons {pos : Pos} {x : Expr} {rest : List Expr} {m : Rho → M PV} {ms : List (Rho → M PV)} (hx : Ev wd sc k (eval x) m) (hr : Evs wd sc k (fun env => spliced (backTo pos (starEach rest env))) (fun ρ => rowM ρ ms))
    (he : ∀ env, starEach (x :: rest) env = (false, eval x env) :: starEach rest env := by intros; rfl) :
    Evs wd sc k (fun env => spliced (backTo pos (starEach (x :: rest) env))) (fun ρ => rowM ρ (m :: ms)) := by
  intro cx S hs R ρ s n q n' e D L Q E hQ hE
  refine wpAny_items_cons ?_ (he _)
  refine hx.bnd S hs R e D L (fun a n₁ va s₁ e₁ st₁ ra => ?_) hE
  refine hr.bnd S hs R e₁ st₁.dy (L.go S st₁.go) (fun b n₂ vb s₂ e₂ st₂ rb => ?_) fun kd ev s' h1 h2 => hE kd ev s' h1 (Thrown.trans st₁ h2)
  obtain ⟨rfl, rfl⟩ := ret_some e₂
  exact hQ _ _ _ rfl (st₁.trans st₂) (.cons (ra.go S st₂.go) rb)

noncomputable def few (ds : List PV) : Option (List PV) := if ds.length ≤ 1000 then some ds else Option.none
theorem few_some {ds es : List PV} (h : few ds = some es) : es = ds ∧ ds.length ≤ 1000 := by
  unfold few at h
  split at h
  · cases h; exact ⟨rfl, by assumption⟩
  · cases h

theorem Ev.tuple {es : List Expr} {kd : Nat} {pos : Pos} {ms : Rho → M (List PV)} (h : Evs wd sc k (fun env => spliced (backTo pos (starEach es env))) ms) :
    Ev wd sc k (eval (.Tuple es kd pos)) (fun ρ => bnd (ms ρ) fun ds => bnd (lift (few ds)) fun ds => ret (.tup ds)) := by
  intro cx S hs R ρ s n q n' e D L Q E hQ hE
  refine wpAny_Tuple ?_
  refine h.bnd S hs R e D L (fun a n₁ va s₁ e₁ st₁ ra => ?_) hE
  rcases bnd_some e₁ with ⟨d, n₂, e3, e4⟩ | ⟨kd, e3, rfl⟩
  · obtain ⟨d', e5, hd', rfl⟩ := lift_some e3
    cases hd'
    obtain ⟨rfl, hlen⟩ := few_some e5
    obtain ⟨rfl, rfl⟩ := ret_some e4
    have hl := ra.length
    refine ⟨by rw [hl]; exact Nat.le_trans hlen (by decide), hQ _ _ _ rfl (st₁.trans (Step.of_keeps st₁.dy s₁.toks fun b o x => Heap.get?_push_of_some _ x)) ?_⟩
    exact .tup (k := 0) (its := va.toArray) (st₁.dy.fresh (Nat.le_refl _)) (Heap.get?_push_size _ rfl) (by simpa using ra.keeps fun b o x => Heap.get?_push_of_some _ x)
  · obtain ⟨_, _, h, _⟩ := lift_some e3
    cases h
theorem Ev.list {es : List Expr} {pos : Pos} {ms : Rho → M (List PV)} (h : Evs wd sc k (fun env => spliced (backTo pos (starEach es env))) ms) :
    Ev wd sc k (eval (.List es pos)) (fun ρ => bnd (ms ρ) fun ds => bnd (lift (few ds)) fun ds => ret (.lst ds)) := by
  intro cx S hs R ρ s n q n' e D L Q E hQ hE
  refine wpAny_List ?_
  refine h.bnd S hs R e D L (fun a n₁ va s₁ e₁ st₁ ra => ?_) hE
  rcases bnd_some e₁ with ⟨d, n₂, e3, e4⟩ | ⟨kd, e3, rfl⟩
  · obtain ⟨d', e5, hd', rfl⟩ := lift_some e3
    cases hd'
    obtain ⟨rfl, hlen⟩ := few_some e5
    obtain ⟨rfl, rfl⟩ := ret_some e4
    have hl := ra.length
    refine ⟨by rw [hl]; exact Nat.le_trans hlen (by decide), hQ _ _ _ rfl (st₁.trans (Step.of_keeps st₁.dy s₁.toks fun b o x => Heap.get?_push_of_some _ x)) ?_⟩
    exact .lst (k := 0) (its := va.toArray) (st₁.dy.fresh (Nat.le_refl _)) (Heap.get?_push_size _ rfl) (by simpa using ra.keeps fun b o x => Heap.get?_push_of_some _ x)
  · obtain ⟨_, _, h, _⟩ := lift_some e3
    cases h
end
end Lz
namespace Lz
open PySem PySem.W PyProof.Rows

noncomputable def small (b : Int) : Bool := decide (-18446744073709551616 < b) && decide (b < 18446744073709551616)
theorem small_lt {b : Int} (h : small b = true) : -(2 ^ 64 : Int) < b ∧ b < 2 ^ 64 := by
  simp only [small, Bool.and_eq_true, decide_eq_true_eq] at h
  omega
theorem small_mul {a b : Int} (h : small b = true) : IntMulOk a b := .of_right (intBits_le_64 (small_lt h).1 (small_lt h).2)
theorem small_div {a b : Int} (h : small b = true) : Builtin.divisionGoesByPylong a b = false := by
  refine PyProof.noPylong_of_log2 ?_
  by_cases h0 : b.natAbs = 0
  · rw [h0]; decide +kernel
  · have h1 := small_lt h
    have : b.natAbs.log2 < 64 := (Nat.log2_lt h0).mpr (by omega)
    omega

noncomputable def addV : PV → PV → Option PV
  | .int a, .int b => some (.int (a + b))
  | .lst a, .lst b => if a.length + b.length ≤ 1000 then some (.lst (a ++ b)) else Option.none
  | _, _ => Option.none
noncomputable def subV : PV → PV → Option PV
  | .int a, .int b => some (.int (a - b))
  | _, _ => Option.none
noncomputable def mulV : PV → PV → Option PV
  | .int a, .int b => if small b then some (.int (a * b)) else Option.none
  | .lst a, .int b => if decide (-1000 ≤ b) && decide (b ≤ 1000) && decide (a.length ≤ 1000) then some (.lst (List.replicate b.toNat a).flatten) else Option.none
  | _, _ => Option.none
noncomputable def modV : PV → PV → Option PV
  | .int a, .int b => if b = 0 then Option.none else some (.int (a.fmod b))
  | _, _ => Option.none
noncomputable def fdivV : PV → PV → Option PV
  | .int a, .int b => if b = 0 then Option.none else if small b then some (.int (a.fdiv b)) else Option.none
  | _, _ => Option.none
noncomputable def negV : PV → Option PV
  | .int a => some (.int (-a))
  | _ => Option.none
noncomputable def ltV : PV → PV → Option PV
  | .int a, .int b => some (.bool (decide (a < b)))
  | _, _ => Option.none
noncomputable def leV : PV → PV → Option PV
  | .int a, .int b => some (.bool (decide (a ≤ b)))
  | _, _ => Option.none
noncomputable def gtV : PV → PV → Option PV
  | .int a, .int b => some (.bool (decide (a > b)))
  | _, _ => Option.none
noncomputable def geV : PV → PV → Option PV
  | .int a, .int b => some (.bool (decide (a ≥ b)))
  | _, _ => Option.none
noncomputable def eqV (a b : PV) : Option PV := if okEq 8 a && okEq 8 b then some (.bool (PyData.eqv (toPy a) (toPy b))) else Option.none
noncomputable def neV (a b : PV) : Option PV := if okEq 8 a && okEq 8 b then some (.bool (!PyData.eqv (toPy a) (toPy b))) else Option.none
noncomputable def isV : PV → PV → Option PV
  | .none, .none => some (.bool true)
  | .lst _, .none => some (.bool false)
  | _, _ => Option.none

section
variable {wd : Wd}
/-- an operator on whole numbers -/
theorem op_int {f : Value → Value → Sem Value} {g : PV → PV → Option PV} (hg : ∀ a b d, g a b = some d → ∃ i j, a = .int i ∧ b = .int j)
    (H : ∀ {A : Around} {s : Shared} {i j : Int} {t u : Tok} {d : PV} {Q E : Value → Shared → Prop}, g (.int i) (.int j) = some d → (∀ v tk, (∀ X h, Rep wd X h v d) → Q v { s with toks := tk }) → wpAny (model wd.prog wd.w) A (f (.int i t) (.int j u)) Q E s) : Op2 wd f g := by
  intro cx S R s n va vb a b d D ra rb e Q E hQ
  obtain ⟨i, j, rfl, rfl⟩ := hg _ _ _ e
  obtain ⟨t, rfl⟩ := ra.int_inv
  obtain ⟨u, rfl⟩ := rb.int_inv
  exact H e fun v tk hr => hQ v s.heap tk (fun _ _ x => x) (hr _ _)
theorem op_sub : Op2 wd (binaryOp .Sub) subV := op_int (fun a b d e => by unfold subV at e; split at e; exact ⟨_, _, rfl, rfl⟩; cases e) fun e hQ => by
  cases e; exact P.sub_int (hQ _ _ fun _ _ => .int _ _)
theorem op_mod : Op2 wd (binaryOp .Mod) modV := op_int (fun a b d e => by unfold modV at e; split at e; exact ⟨_, _, rfl, rfl⟩; cases e) fun e hQ => by
  unfold modV at e
  dsimp only at e
  split at e
  · cases e
  · cases e
    exact mod_int' (by assumption) (hQ _ _ fun _ _ => .int _ _)
theorem op_fdiv : Op2 wd (binaryOp .FloorDiv) fdivV := op_int (fun a b d e => by unfold fdivV at e; split at e; exact ⟨_, _, rfl, rfl⟩; cases e) fun e hQ => by
  unfold fdivV at e
  dsimp only at e
  split at e
  · cases e
  · split at e
    · cases e
      exact floordiv_int (by assumption) (hQ _ _ fun _ _ => .int _ _) (.inl (small_div (by assumption)))
    · cases e
theorem op_lt : Op2 wd (compareOp .Lt) ltV := op_int (fun a b d e => by unfold ltV at e; split at e; exact ⟨_, _, rfl, rfl⟩; cases e) fun e hQ => by
  cases e; exact P.lt_int (hQ _ _ fun _ _ => .bool _)
theorem op_le : Op2 wd (compareOp .LtE) leV := op_int (fun a b d e => by unfold leV at e; split at e; exact ⟨_, _, rfl, rfl⟩; cases e) fun e hQ => by
  cases e; exact P.le_int (hQ _ _ fun _ _ => .bool _)
theorem op_gt : Op2 wd (compareOp .Gt) gtV := op_int (fun a b d e => by unfold gtV at e; split at e; exact ⟨_, _, rfl, rfl⟩; cases e) fun e hQ => by
  cases e; exact P.gt_int (hQ _ _ fun _ _ => .bool _)
theorem op_ge : Op2 wd (compareOp .GtE) geV := op_int (fun a b d e => by unfold geV at e; split at e; exact ⟨_, _, rfl, rfl⟩; cases e) fun e hQ => by
  cases e; exact P.ge_int (hQ _ _ fun _ _ => .bool _)
theorem op_eq : Op2 wd (compareOp .Eq) eqV := by
  intro cx S R s n va vb a b d D ra rb e Q E hQ
  unfold eqV at e
  split at e
  · next h =>
    cases e
    obtain ⟨ha, hb⟩ := Bool.and_eq_true_iff.mp h
    obtain ⟨as, qa⟩ := ra.reads 8 ha
    obtain ⟨bs, qb⟩ := rb.reads 8 hb
    exact eq_dataH qa qb (okEq_shaped ha) (okEq_shaped hb) (by have := R.2; show _ < 9900; omega) (hQ _ _ _ (fun _ _ x => x) (.bool _))
  · cases e
theorem op_ne : Op2 wd (compareOp .NotEq) neV := by
  intro cx S R s n va vb a b d D ra rb e Q E hQ
  unfold neV at e
  split at e
  · next h =>
    cases e
    obtain ⟨ha, hb⟩ := Bool.and_eq_true_iff.mp h
    obtain ⟨as, qa⟩ := ra.reads 8 ha
    obtain ⟨bs, qb⟩ := rb.reads 8 hb
    exact ne_dataH qa qb (okEq_shaped ha) (okEq_shaped hb) (by have := R.2; show _ < 9900; omega) (hQ _ _ _ (fun _ _ x => x) (.bool _))
  · cases e
inductive IsV (a b d : PV) : Prop
  | yes : a = .none → b = .none → d = .bool true → IsV a b d
  | no (l : List PV) : a = .lst l → b = .none → d = .bool false → IsV a b d
theorem isV_some {a b d : PV} (e : isV a b = some d) : IsV a b d := by
  cases a with
  | none => cases b with
    | none => exact .yes rfl rfl (Option.some.inj e).symm
    | _ => exact no_none e
  | lst l => cases b with
    | none => exact .no l rfl rfl (Option.some.inj e).symm
    | _ => exact no_none e
  | _ => exact no_none e
inductive AddV (a b d : PV) : Prop
  | int (i j : Int) : a = .int i → b = .int j → d = .int (i + j) → AddV a b d
  | lst (l m : List PV) : a = .lst l → b = .lst m → l.length + m.length ≤ 1000 → d = .lst (l ++ m) → AddV a b d
theorem addV_some {a b d : PV} (e : addV a b = some d) : AddV a b d := by
  cases a with
  | int i => cases b with
    | int j => exact .int i j rfl rfl (Option.some.inj e).symm
    | _ => exact no_none e
  | lst l => cases b with
    | lst m =>
      by_cases h : l.length + m.length ≤ 1000
      · exact .lst l m rfl rfl h (Option.some.inj ((if_pos h).symm.trans e)).symm
      · exact no_none ((if_neg h).symm.trans e)
    | _ => exact no_none e
  | _ => exact no_none e
inductive MulV (a b d : PV) : Prop
  | int (i j : Int) : a = .int i → b = .int j → small j = true → d = .int (i * j) → MulV a b d
  | lst (l : List PV) (j : Int) : a = .lst l → b = .int j → -1000 ≤ j → j ≤ 1000 → l.length ≤ 1000 → d = .lst (List.replicate j.toNat l).flatten → MulV a b d
theorem mulV_some {a b d : PV} (e : mulV a b = some d) : MulV a b d := by
  cases a with
  | int i => cases b with
    | int j =>
      by_cases h : small j = true
      · exact .int i j rfl rfl h (Option.some.inj ((if_pos h).symm.trans e)).symm
      · exact no_none ((if_neg h).symm.trans e)
    | _ => exact no_none e
  | lst l => cases b with
    | int j =>
      replace e : (if decide (-1000 ≤ j) && decide (j ≤ 1000) && decide (l.length ≤ 1000) then some (PV.lst (List.replicate j.toNat l).flatten) else Option.none) = some d := e
      split at e
      · next h =>
        simp only [Bool.and_eq_true, decide_eq_true_eq] at h
        exact .lst l j rfl rfl h.1.1 h.1.2 h.2 (Option.some.inj e).symm
      · exact no_none e
    | _ => exact no_none e
  | _ => exact no_none e
theorem op_is : Op2 wd (compareOp .Is) isV := by
  intro cx S R s n va vb a b d D ra rb e Q E hQ
  rcases isV_some e with ⟨rfl, rfl, rfl⟩ | ⟨l, rfl, rfl, rfl⟩
  · cases ra.none_inv
    cases rb.none_inv
    exact is_none (hQ _ _ _ (fun _ _ x => x) (.bool _))
  · obtain ⟨_, _, _, rfl, _⟩ := ra.lst_inv
    cases rb.none_inv
    exact is_none (hQ _ _ _ (fun _ _ x => x) (.bool _))
theorem op_add : Op2 wd (binaryOp .Add) addV := by
  intro cx S R s n va vb a b d D ra rb e Q E hQ
  rcases addV_some e with ⟨i, j, rfl, rfl, rfl⟩ | ⟨l, m, rfl, rfl, hl, rfl⟩
  · obtain ⟨t, rfl⟩ := ra.int_inv
    obtain ⟨u, rfl⟩ := rb.int_inv
    exact P.add_int (hQ _ _ _ (fun _ _ x => x) (.int _ _))
  · obtain ⟨_, _, _, rfl, hx1, ho1, r1⟩ := ra.lst_inv
    obtain ⟨_, _, _, rfl, hx2, ho2, r2⟩ := rb.lst_inv
    have l1 := r1.length
    have l2 := r2.length
    have old : ∀ (o' : Obj) b o, s.heap.get? b = some o → (s.heap.push o').get? b = some o := fun _ b o x => Heap.get?_push_of_some _ x
    refine P.add_list ho1 ho2 (hQ _ _ s.toks (old _) (.lst (k := 0) (D.fresh (Nat.le_refl _)) (Heap.get?_push_size _ rfl) ?_)) ?_
    · rw [Array.toList_append]; exact (r1.keeps (old _)).append (r2.keeps (old _))
    · rw [← Array.length_toList, ← Array.length_toList, l1, l2]; exact Nat.le_trans hl (by decide)
theorem Reps.replicate {X : Addr → Prop} {h : Heap} {vs : List Value} {ds : List PV} (r : Reps wd X h vs ds) : ∀ n : Nat, Reps wd X h (List.replicate n vs).flatten (List.replicate n ds).flatten
  | 0 => .nil
  | n + 1 => by rw [List.replicate_succ, List.replicate_succ, List.flatten_cons, List.flatten_cons]; exact r.append (r.replicate n)
/-- a list, n times -/
theorem times_rep {X : Addr → Prop} {h : Heap} {its : Array Value} {ds : List PV} (r : Reps wd X h its.toList ds) (x : Int) : Reps wd X h (((List.replicate (if its.isEmpty = true then 0 else x.toNat) its).foldl (fun x1 x2 => x1 ++ x2) #[])).toList (List.replicate x.toNat ds).flatten := by
  rw [listMul_foldl]
  have q := r.replicate x.toNat
  cases he : its.isEmpty with
  | false => simpa [he] using q
  | true =>
    have hnil : its = #[] := by simpa using he
    subst hnil
    cases r
    simpa using Reps.nil
theorem op_mul : Op2 wd (binaryOp .Mult) mulV := by
  intro cx S R s n va vb a b d D ra rb e Q E hQ
  rcases mulV_some e with ⟨i, j, rfl, rfl, hs, rfl⟩ | ⟨ds, x, rfl, rfl, h1, h2, h3, rfl⟩
  · obtain ⟨t, rfl⟩ := ra.int_inv
    obtain ⟨u, rfl⟩ := rb.int_inv
    exact P.mul_int (hQ _ _ _ (fun _ _ x => x) (.int _ _)) (small_mul hs)
  · obtain ⟨_, its, k, rfl, hx1, ho1, r1⟩ := ra.lst_inv
    obtain ⟨u, rfl⟩ := rb.int_inv
    have l1 := r1.length
    rw [Array.length_toList] at l1
    have hprod : its.size * x.toNat ≤ 1000 * 1000 := Nat.mul_le_mul (by omega) (by omega)
    have old : ∀ (o' : Obj) b o, s.heap.get? b = some o → (s.heap.push o').get? b = some o := fun _ b o x => Heap.get?_push_of_some _ x
    exact wpAny_binaryOp_repeat_ref (T := "list") (U := "int") (by decide) ⟨_, ho1, rfl⟩ (fun s' => typeIs_int s' x u) noFill_list_mul F.fills_int_mul F.slot_int_rmul repeat_list F.slot_int_index.lookup
      (call_meets F.slot_int_rmul (typeIs_int s x u) F.entry_int_rmul (F.args_int_rmul_2 _ _) (int___rmul___int_list x u _ its k)
        ⟨ho1, rfl, ⟨_, ho1, rfl⟩, call_meets F.slot_list_mul ⟨_, ho1, rfl⟩ F.entry_list_mul (F.args_list_mul_2 _ _)
          (AutoListH.list___mul___list_int_3 _ its k x u (by simp [Builtin.List.listFitsIndex]; omega) (by omega) (by simp [Builtin.List.listTooLong, sizeLine]; omega))
          ⟨ho1, hQ _ _ s.toks (old _) (.lst (k := 0) (D.fresh (Nat.le_refl _)) (Heap.get?_push_size _ rfl) (times_rep (r1.keeps (old _)) x))⟩⟩)
theorem op_neg : Op1 wd (unaryOp .USub) negV := by
  intro cx S R s n va a d D ra e Q E hQ
  unfold negV at e
  split at e
  · cases e
    obtain ⟨t, rfl⟩ := ra.int_inv
    exact P.neg_int (hQ _ _ _ (fun _ _ x => x) (.int _ _))
  · cases e
end
end Lz
namespace Lz
open PySem PySem.W PyProof.Rows

section
variable {wd : Wd}

/-- a subscript's tail, whatever its base -/
theorem tail_of {A : Around} {s : Shared} {value slice : Expr} {o i : Value} {T id : String} {Q E : Value → Shared → Prop} (hT : s.TypeIs o T)
    (hl : typeLookup (.type T) "__getitem__" = pure (some (.builtin id))) (h : wpAny (model wd.prog wd.w) A (getItem o i) Q E s)
    (hs : subscripted slice false o i = operate [o, i] (getItem o i) ∨ subscripted slice false o i = operate [i, o] (getItem o i)) :
    wpAny (model wd.prog wd.w) A (subscriptTail value slice o i) Q E s := by
  unfold subscriptTail
  refine wpAny_bind ?_
  rw [getitemInPython_of_ne hT.not_modules]
  refine wpAny_bind (wpAny_specialOf hT hl ?_)
  have fin : wpAny (model wd.prog wd.w) A (subscripted slice false o i) (fun r s₃ => wpAny (model wd.prog wd.w) A (letTemporaryGo value o r >>= fun _ => pure r) Q E s₃) E s := by
    rcases hs with hs | hs <;> rw [hs] <;>
    exact wpAny_operating (wpAny_mono h (fun r s₃ h₃ => wpAny_bind (wpAny_letTemporaryGo (wpAny_pure h₃))) fun _ _ x => x)
  first
    | exact wpAny_pure (wpAny_bind fin)
    | exact wpAny_bind (wpAny_pure (wpAny_bind fin))
    | exact wpAny_bind fin

noncomputable def atV : PV → PV → Option PV
  | .tup l, .int i => if decide (0 ≤ i) && decide (i < 1000) then l[i.toNat]? else Option.none
  | .lst l, .int i => if decide (0 ≤ i) && decide (i < 1000) then l[i.toNat]? else Option.none
  | .dic D, .int i => (D.find? fun p => p.1 = i).map (·.2)
  | _, _ => Option.none

theorem dic_find {X : Addr → Prop} {h : Heap} {i : Int} : ∀ {kvs : List (Int × Value)} {D : List (Int × PV)}, kvs.map (·.1) = D.map (·.1) → Reps wd X h (kvs.map (·.2)) (D.map (·.2)) →
    match (D.find? fun p => p.1 = i) with
    | some p => ∃ v, valueAt kvs i = some v ∧ Rep wd X h v p.2
    | Option.none => valueAt kvs i = Option.none
  | [], [], _, _ => rfl
  | [], _ :: _, e, _ => by cases e
  | _ :: _, [], e, _ => by cases e
  | (k, v) :: kvs, (k', d) :: D, e, r => by
    simp only [List.map_cons, List.cons.injEq] at e
    obtain ⟨rfl, e⟩ := e
    cases r with
    | cons p r =>
      have ih := dic_find (i := i) e r
      by_cases hk : k = i
      · subst hk
        simp only [List.find?_cons, decide_true]
        exact ⟨v, by simp [valueAt], p⟩
      · simp only [List.find?_cons, hk, decide_false]
        have e2 : valueAt ((k, v) :: kvs) i = valueAt kvs i := by simp [valueAt, hk]
        rw [e2]; exact ih

inductive AtV (a b d : PV) : Prop
  | tup (l : List PV) (i : Int) : a = .tup l → b = .int i → 0 ≤ i → i < 1000 → l[i.toNat]? = some d → AtV a b d
  | lst (l : List PV) (i : Int) : a = .lst l → b = .int i → 0 ≤ i → i < 1000 → l[i.toNat]? = some d → AtV a b d
  | dic (D : List (Int × PV)) (i : Int) (p : Int × PV) : a = .dic D → b = .int i → (D.find? fun p => p.1 = i) = some p → d = p.2 → AtV a b d
theorem at_if {l : List PV} {i : Int} {d : PV} (e : (if decide (0 ≤ i) && decide (i < 1000) then l[i.toNat]? else Option.none) = some d) : 0 ≤ i ∧ i < 1000 ∧ l[i.toNat]? = some d := by
  split at e
  · next h => rw [Bool.and_eq_true, decide_eq_true_eq, decide_eq_true_eq] at h; exact ⟨h.1, h.2, e⟩
  · exact no_none e
theorem atV_some {a b d : PV} (e : atV a b = some d) : AtV a b d := by
  cases a with
  | tup l => cases b with
    | int i => obtain ⟨h1, h2, h3⟩ := at_if (show (if decide (0 ≤ i) && decide (i < 1000) then l[i.toNat]? else Option.none) = some d from e); exact .tup l i rfl rfl h1 h2 h3
    | _ => exact no_none e
  | lst l => cases b with
    | int i => obtain ⟨h1, h2, h3⟩ := at_if (show (if decide (0 ≤ i) && decide (i < 1000) then l[i.toNat]? else Option.none) = some d from e); exact .lst l i rfl rfl h1 h2 h3
    | _ => exact no_none e
  | dic D => cases b with
    | int i => obtain ⟨p, h1, h2⟩ := Option.map_eq_some_iff.mp (show (D.find? fun p => p.1 = i).map (·.2) = some d from e); exact .dic D i p rfl rfl h1 h2.symm
    | _ => exact no_none e
  | _ => exact no_none e
theorem op_at {value slice : Expr} (hs : ∀ o i, subscripted slice false o i = operate [o, i] (getItem o i) := by intros; rfl) : Op2 wd (subscriptTail value slice) atV := by
  intro cx S R s n va vb a b d D ra rb e Q E hQ
  rcases atV_some e with ⟨l, i, rfl, rfl, h0, h1, e1⟩ | ⟨l, i, rfl, rfl, h0, h1, e1⟩ | ⟨D', i, p, rfl, rfl, hf, rfl⟩
  · obtain ⟨_, _, _, rfl, hx, ho, r⟩ := ra.tup_inv
    obtain ⟨_, rfl⟩ := rb.int_inv
    obtain ⟨v, hv, rv⟩ := r.get e1
    have hv' := hv
    rw [Array.getElem?_toList] at hv'
    have hlt : _ < _ := (Array.getElem?_eq_some_iff.mp hv').1
    exact tail_of ⟨_, ho, rfl⟩ F.slot_tuple_getitem.lookup (PySem.P.getItem_tuple ho (by omega) (by omega) (seqIndex_of h0 (by omega)) hv' (hQ v _ s.toks (fun _ _ x => x) rv)) (.inl (hs _ _))
  · obtain ⟨_, _, _, rfl, hx, ho, r⟩ := ra.lst_inv
    obtain ⟨_, rfl⟩ := rb.int_inv
    obtain ⟨v, hv, rv⟩ := r.get e1
    have hv' := hv
    rw [Array.getElem?_toList] at hv'
    exact tail_of ⟨_, ho, rfl⟩ slot_list_getitem.lookup (wpAny_getItem_list ⟨_, ho, rfl, _, rfl⟩ h0 (by omega) hv' (hQ v _ s.toks (fun _ _ x => x) rv)) (.inl (hs _ _))
  · obtain ⟨_, _, rfl, hx, lo, ho, hk, r⟩ := ra.dic_inv
    obtain ⟨t, rfl⟩ := rb.int_inv
    have q := dic_find (i := i) hk r
    rw [hf] at q
    obtain ⟨v, hv, rv⟩ := q
    exact tail_of ho.mapOf.typeIs slot_dict_getitem.lookup (wpAny_getItem_of (knd := intKind wd.prog wd.w) (k := i) (by simp [intKind, Value.isInt]) ho.mapOf hv (hQ v _ _ (fun _ _ x => x) rv)) (.inl (hs _ _))

theorem Ev.sub {sc : Scope} {k : Nat} {value slice : Expr} {pos : Pos} {ml mr : Rho → M PV} {g : PV → PV → Option PV} (hl : Ev wd sc k (eval value) ml) (hr : Ev wd sc k (eval slice) mr) (ho : Op2 wd (subscriptTail value slice) g) :
    Ev wd sc k (eval (.Subscript value slice pos)) (fun ρ => bnd (ml ρ) fun a => bnd (mr ρ) fun b => lift (g a b)) := by
  intro cx S hs R ρ s n q n' e D L Q E hQ hE
  exact Subscript_ (two hl hr ho S hs R e D L hQ hE)

/-- slices from, up to a whole number not below 0 -/
noncomputable def fromV : PV → PV → Option PV
  | .lst l, .int i => if decide (0 ≤ i) && decide (l.length ≤ 1000) then some (.lst (l.drop i.toNat)) else Option.none
  | _, _ => Option.none
noncomputable def uptoV : PV → PV → Option PV
  | .lst l, .int i => if decide (0 ≤ i) && decide (l.length ≤ 1000) then some (.lst (l.take i.toNat)) else Option.none
  | _, _ => Option.none
theorem fromV_some {a b d : PV} (e : fromV a b = some d) : ∃ l i, a = .lst l ∧ b = .int i ∧ (0 ≤ i ∧ l.length ≤ 1000) ∧ d = .lst (l.drop i.toNat) := by
  unfold fromV at e
  split at e
  · split at e
    · next h => cases e; simp only [Bool.and_eq_true, decide_eq_true_eq] at h; exact ⟨_, _, rfl, rfl, h, rfl⟩
    · cases e
  · cases e
theorem uptoV_some {a b d : PV} (e : uptoV a b = some d) : ∃ l i, a = .lst l ∧ b = .int i ∧ (0 ≤ i ∧ l.length ≤ 1000) ∧ d = .lst (l.take i.toNat) := by
  unfold uptoV at e
  split at e
  · split at e
    · next h => cases e; simp only [Bool.and_eq_true, decide_eq_true_eq] at h; exact ⟨_, _, rfl, rfl, h, rfl⟩
    · cases e
  · cases e

theorem Ev.from {sc : Scope} {k : Nat} {value lower : Expr} {p pos : Pos} {ml mr : Rho → M PV} (hl : Ev wd sc k (eval value) ml) (hr : Ev wd sc k (eval lower) mr) :
    Ev wd sc k (eval (.Subscript value (.Slice (some lower) .none .none p) pos)) (fun ρ => bnd (ml ρ) fun a => bnd (mr ρ) fun b => lift (fromV a b)) := by
  intro cx S hs R ρ s n q n' e D L Q E hQ hE
  refine Subscript_ ?_
  refine hl.bnd S hs R e D L (fun a n₁ va s₁ e₁ st₁ ra => wpAny_Slice ?_) hE
  rw [evalPart_some]
  refine hr.bnd S hs R e₁ st₁.dy (L.go S st₁.go) (fun b n₂ vb s₂ e₂ st₂ rb => ?_) fun kd ev s' h1 h2 => hE kd ev s' h1 (Thrown.trans st₁ h2)
  rw [evalPart_none]
  refine wpAny_pure (wpAny_pure ?_)
  obtain ⟨d, e3, rfl, rfl⟩ := lift_some e₂
  replace ra := ra.go S st₂.go
  obtain ⟨l, i, rfl, rfl, hi, rfl⟩ := fromV_some e3
  obtain ⟨_, _, _, rfl, hx, ho, r⟩ := ra.lst_inv
  obtain ⟨t, rfl⟩ := rb.int_inv
  · clear hE e e₁ e₂ e3
    have hlen := r.length
    rw [Array.length_toList] at hlen
    have old : ∀ (o' : Obj) {h : Heap} b o, h.get? b = some o → (h.push o').get? b = some o := fun _ _ b o x => Heap.get?_push_of_some _ x
    refine tail_of (T := "list") ⟨_, old _ _ _ ho, rfl⟩ list_getitem_lookup (wpAny_getItem_list_slice (lo := some i) (hi := Option.none) ⟨_, old _ _ _ ho, rfl, _, rfl⟩ (Heap.IsSliceOf.new ..) (.int i t) .none .none (by simp) ?_ (by rw [hlen]; exact Nat.le_trans hi.2 (by decide))) (.inr rfl)
    have kk : ∀ (o₁ o₂ : Obj) b o, s₂.heap.get? b = some o → ((s₂.heap.push o₁).push o₂).get? b = some o := fun _ _ b o x => old _ _ _ (old _ _ _ x)
    refine hQ _ _ _ rfl (st₁.trans (st₂.trans (Step.of_keeps st₂.dy s₂.toks (kk _ _)))) (.lst (k := 0) (st₂.dy.fresh (by rw [Heap.size_push]; omega)) (Heap.get?_push_size _ rfl) ?_)
    obtain ⟨j, rfl⟩ := Int.eq_ofNat_of_zero_le hi.1
    rw [show (some (j : Int)) = some ((j : Nat) : Int) from rfl, slicePick_from']
    simpa using (r.keeps (kk _ _)).drop j
theorem Ev.upto {sc : Scope} {k : Nat} {value upper : Expr} {p pos : Pos} {ml mr : Rho → M PV} (hl : Ev wd sc k (eval value) ml) (hr : Ev wd sc k (eval upper) mr) :
    Ev wd sc k (eval (.Subscript value (.Slice .none (some upper) .none p) pos)) (fun ρ => bnd (ml ρ) fun a => bnd (mr ρ) fun b => lift (uptoV a b)) := by
  intro cx S hs R ρ s n q n' e D L Q E hQ hE
  refine Subscript_ ?_
  refine hl.bnd S hs R e D L (fun a n₁ va s₁ e₁ st₁ ra => wpAny_Slice ?_) hE
  rw [evalPart_none]
  refine wpAny_pure ?_
  rw [evalPart_some]
  refine hr.bnd S hs R e₁ st₁.dy (L.go S st₁.go) (fun b n₂ vb s₂ e₂ st₂ rb => ?_) fun kd ev s' h1 h2 => hE kd ev s' h1 (Thrown.trans st₁ h2)
  refine wpAny_pure ?_
  obtain ⟨d, e3, rfl, rfl⟩ := lift_some e₂
  replace ra := ra.go S st₂.go
  obtain ⟨l, i, rfl, rfl, hi, rfl⟩ := uptoV_some e3
  obtain ⟨_, _, _, rfl, hx, ho, r⟩ := ra.lst_inv
  obtain ⟨t, rfl⟩ := rb.int_inv
  · clear hE e e₁ e₂ e3
    have hlen := r.length
    rw [Array.length_toList] at hlen
    have old : ∀ (o' : Obj) {h : Heap} b o, h.get? b = some o → (h.push o').get? b = some o := fun _ _ b o x => Heap.get?_push_of_some _ x
    refine tail_of (T := "list") ⟨_, old _ _ _ ho, rfl⟩ list_getitem_lookup (wpAny_getItem_list_slice (lo := Option.none) (hi := some i) ⟨_, old _ _ _ ho, rfl, _, rfl⟩ (Heap.IsSliceOf.new ..) .none (.int i t) .none (by simp) ?_ (by rw [hlen]; exact Nat.le_trans hi.2 (by decide))) (.inr rfl)
    have kk : ∀ (o₁ o₂ : Obj) b o, s₂.heap.get? b = some o → ((s₂.heap.push o₁).push o₂).get? b = some o := fun _ _ b o x => old _ _ _ (old _ _ _ x)
    refine hQ _ _ _ rfl (st₁.trans (st₂.trans (Step.of_keeps st₂.dy s₂.toks (kk _ _)))) (.lst (k := 0) (st₂.dy.fresh (by rw [Heap.size_push]; omega)) (Heap.get?_push_size _ rfl) ?_)
    obtain ⟨j, rfl⟩ := Int.eq_ofNat_of_zero_le hi.1
    rw [show (some (j : Int)) = some ((j : Nat) : Int) from rfl, slicePick_upto']
    simpa using (r.keeps (kk _ _)).take j
end
end Lz
namespace Lz
open PySem PySem.W PyProof.Rows

theorem evalArgs_of {M : Model} {A : Around} {E : Value → Shared → Prop} {s : Shared} {f : Value} {Q : Args → Shared → Prop} : ∀ {args : List (Bool × Sem Value)}, args.any (·.1) = false →
    wpAny M A (spliced args) (fun vs s' => Q ⟨vs, []⟩ s') E s → wpAny M A (evalArgs f true args []) Q E s
  | [], _, h => by
    unfold evalArgs
    show wpAny M A (spliced [] >>= _) Q E s
    refine wpAny_bind (wpAny_mono h (fun vs s' h' => ?_) fun _ _ x => x)
    refine wpAny_bind (wpAny_pure ?_)
    refine wpAny_holding ?_
    exact wpAny_bind (wpAny_pure (wpAny_bind (wpAny_pure (wpAny_pure h'))))
  | (false, x) :: r, _, h => Calls.evalArgs_plain h
  | (true, x) :: r, hp, _ => by simp at hp

section
variable {wd : Wd} {sc : Scope} {k : Nat}

theorem Ev.callB {x : Str} {np pos : Pos} {es : List Expr} {f : Value} {ms : Rho → M (List PV)} {g : List PV → Option PV} (hl : sc.names.lookup x = some .globalImplicit)
    (hb : wd.mg x = Option.none ∧ wd.mb x = some f) (hf : (∃ id, f = .builtin id) ∨ (∃ T, f = .type T)) (h : Evs wd sc k (fun env => spliced (backTo pos (starEach es env))) ms) (ho : OpN wd (fun vs => call f vs) g)
    (hp : ∀ env, (backTo pos (starEach es env)).any (·.1) = false := by intros; rfl) (hd : (x == ("__debug__" : Str)) = false := by decide) :
    Ev wd sc k (eval (.Call (.Name x np) es [] pos)) (fun ρ => bnd (ms ρ) fun ds => lift (g ds)) := by
  intro cx S hs R ρ s n q n' e D L Q E hQ hE
  have hgG : s.heap.Ns cx.env.globals wd.mg := by rw [S.globals]; exact S.ok.g.keeps D.inv.stay
  have hgB : s.heap.Ns cx.env.builtins wd.mb := by rw [S.builtins]; exact S.ok.b.keeps D.inv.stay
  refine Call_Name rfl (Calls.Name_function_global S.kind (by unfold Env.kindOf; rw [hs]; exact hl) (Calls.loadGlobal_builtin hgG hb.1 hgB hb.2 ?_) hd)
  have body : wpAny (model wd.prog wd.w) cx.A (evalArgs f true (backTo pos (starEach es cx.env)) []) (fun a s₁ => wpAny (model wd.prog wd.w) cx.A (call f ([] ++ a.pos) a.kw) Q E s₁) E s := by
    refine evalArgs_of (hp _) (h.bnd S hs R e D L (fun a n₁ va s₁ e₁ st₁ ra => ?_) hE)
    obtain ⟨d, e2, rfl, rfl⟩ := lift_some e₁
    exact ho cx S R.zero s₁ _ va a d st₁.dy ra e2 _ _ fun v h tk hk rd => hQ d v _ rfl (st₁.trans (Step.of_keeps st₁.dy tk hk)) rd
  rcases hf with ⟨id, rfl⟩ | ⟨T, rfl⟩
  · exact Calls.callWith_builtin (hp _) body
  · exact PyProof.Rows.callWith_type (hp _) body

noncomputable def absV : List PV → Option PV
  | [.int a] => some (.int (if a < 0 then -a else a))
  | _ => Option.none
noncomputable def lenV : List PV → Option PV
  | [.lst l] => if l.length ≤ 1000 then some (.int l.length) else Option.none
  | _ => Option.none
noncomputable def minI (a : Int) (l : List Int) : Int := l.foldl (fun m x => if x < m then x else m) a
noncomputable def ints? : List PV → Option (List Int)
  | [] => some []
  | .int i :: r => (ints? r).map (i :: ·)
  | _ => Option.none
noncomputable def minV : List PV → Option PV
  | [.int a, .int b] => some (.int (if b < a then b else a))
  | [.lst l] => match ints? l with
    | some (a :: r) => some (.int (minI a r))
    | _ => Option.none
  | _ => Option.none
noncomputable def listV : List PV → Option PV
  | [.lst l] => if l.length ≤ 1000 then some (.lst l) else Option.none
  | [.dic D] => if D.length ≤ 1000 then some (.lst (D.map fun p => .int p.1)) else Option.none
  | _ => Option.none

theorem Reps.one {X : Addr → Prop} {h : Heap} {vs : List Value} {d : PV} (r : Reps wd X h vs [d]) : ∃ v, vs = [v] ∧ Rep wd X h v d := by
  cases r with
  | cons p r => cases r; exact ⟨_, rfl, p⟩
theorem Reps.two {X : Addr → Prop} {h : Heap} {vs : List Value} {d e : PV} (r : Reps wd X h vs [d, e]) : ∃ v u, vs = [v, u] ∧ Rep wd X h v d ∧ Rep wd X h u e := by
  cases r with
  | cons p r =>
    obtain ⟨u, rfl, q⟩ := Reps.one r
    exact ⟨_, u, rfl, p, q⟩
theorem opN_abs : OpN wd (fun vs => call (.builtin "abs") vs) absV := by
  intro cx S R s n vs ds d D r e Q E hQ
  unfold absV at e
  split at e
  · obtain ⟨v, rfl, q⟩ := r.one
    clear r
    obtain ⟨_, rfl⟩ := q.int_inv
    cases e; exact call_abs_int fun u tk => hQ _ s.heap tk (fun _ _ x => x) (.int _ _)
  · cases e
theorem opN_len : OpN wd (fun vs => call (.builtin "len") vs) lenV := by
  intro cx S R s n vs ds d D r e Q E hQ
  unfold lenV at e
  split at e
  · next l =>
    obtain ⟨v, rfl, q⟩ := r.one
    clear r
    obtain ⟨_, _, _, rfl, hx, ho, r⟩ := q.lst_inv
    split at e
    · next hl =>
      cases e
      have l1 := r.length
      rw [Array.length_toList] at l1
      exact Calls.call_len_list ⟨_, ho, rfl, _, rfl⟩ (by omega) (hQ _ s.heap _ (fun _ _ x => x) (by rw [l1]; exact .int _ _))
    · cases e
  · cases e
theorem minI_le (a : Int) (l : List Int) : minI a l ≤ a ∧ (∀ x ∈ l, minI a l ≤ x) ∧ (minI a l = a ∨ minI a l ∈ l) := by
  induction l generalizing a with
  | nil => exact ⟨Int.le_refl _, by simp, .inl rfl⟩
  | cons y l ih =>
    have e : minI a (y :: l) = minI (if y < a then y else a) l := rfl
    rw [e]
    obtain ⟨h1, h2, h3⟩ := ih (if y < a then y else a)
    by_cases hy : y < a
    · rw [if_pos hy] at h1 h2 h3 ⊢
      refine ⟨by omega, fun x hx => ?_, ?_⟩
      · rcases List.mem_cons.mp hx with rfl | hx
        · exact h1
        · exact h2 x hx
      · rcases h3 with h3 | h3
        · exact .inr (by rw [h3]; exact .head _)
        · exact .inr (.tail _ h3)
    · rw [if_neg hy] at h1 h2 h3 ⊢
      refine ⟨by omega, fun x hx => ?_, ?_⟩
      · rcases List.mem_cons.mp hx with rfl | hx
        · omega
        · exact h2 x hx
      · rcases h3 with h3 | h3
        · exact .inl h3
        · exact .inr (.tail _ h3)
theorem ints_of {X : Addr → Prop} {h : Heap} {ds : List PV} {vs : List Value} {ns : List Int} (r : Reps wd X h vs ds) (e : ints? ds = some ns) : ∃ xs : List (Int × Tok), vs = xs.map (fun p => .int p.1 p.2) ∧ xs.map (·.1) = ns := by
  induction ds generalizing vs ns with
  | nil => cases r; cases e; exact ⟨[], rfl, rfl⟩
  | cons d ds ih => cases r with
    | cons p r => cases p with
      | int i t =>
        obtain ⟨ms, e1, rfl⟩ := Option.map_eq_some_iff.mp e
        obtain ⟨xs, rfl, rfl⟩ := ih r e1
        exact ⟨(_, _) :: xs, rfl, rfl⟩
      | _ => exact nomatch e
inductive MinV (ds : List PV) (d : PV) : Prop
  | two (a b : Int) : ds = [.int a, .int b] → d = .int (if b < a then b else a) → MinV ds d
  | lst (l : List PV) (a : Int) (rest : List Int) : ds = [.lst l] → ints? l = some (a :: rest) → d = .int (minI a rest) → MinV ds d
theorem minV_some {ds : List PV} {d : PV} (e : minV ds = some d) : MinV ds d := by
  cases ds with
  | nil => exact no_none e
  | cons x l => cases l with
    | nil => cases x with
      | lst l =>
        replace e : (match ints? l with | some (a :: r) => some (PV.int (minI a r)) | _ => Option.none) = some d := e
        cases hi : ints? l with
        | none => rw [hi] at e; exact no_none e
        | some q =>
          rw [hi] at e
          cases q with
          | nil => exact no_none e
          | cons a r => exact .lst l a r rfl hi (Option.some.inj e).symm
      | _ => exact no_none e
    | cons y l => cases x with
      | int a => cases l with
        | nil => cases y with
          | int b => exact .two a b rfl (Option.some.inj e).symm
          | _ => exact no_none e
        | cons _ _ => cases y <;> exact no_none e
      | lst _ => exact no_none e
      | _ => exact no_none e
theorem opN_min : OpN wd (fun vs => call (.builtin "min") vs) minV := by
  intro cx S R s n vs ds d D r e Q E hQ
  rcases minV_some e with ⟨a, b, rfl, rfl⟩ | ⟨l, a, rest, rfl, hi, rfl⟩
  · obtain ⟨v, u, rfl, q1, q2⟩ := r.two
    obtain ⟨_, rfl⟩ := q1.int_inv
    obtain ⟨_, rfl⟩ := q2.int_inv
    refine min_two_ints S.handled fun h' tk hk => ?_
    refine hQ _ h' tk hk ?_
    split <;> exact .int _ _
  · obtain ⟨v, rfl, q⟩ := r.one
    clear r
    obtain ⟨_, _, _, rfl, hx, ho, r⟩ := q.lst_inv
    obtain ⟨xs, e1, e2⟩ := ints_of r hi
    have hl : s.heap.IsList _ (intItems xs.toArray) := ⟨_, ho, rfl, _, by
      have : intItems xs.toArray = (xs.map fun p => Value.int p.1 p.2).toArray := by simp [intItems]
      rw [this, ← e1]⟩
    have hne : 0 < xs.toArray.size := by
      cases xs with
      | nil => simp at e2
      | cons p q => simp
    refine min_intList S.handled hl hne fun v h' tk hv hk => ?_
    obtain ⟨t, rfl⟩ := intItems_at hv
    obtain ⟨h1, h2⟩ := argBest_lt (numAt xs.toArray) (xs.toArray.size - 1)
    generalize argBest (fun i j => decide (numAt xs.toArray i < numAt xs.toArray j)) (xs.toArray.size - 1) = b at *
    have hb : b < xs.length := by simp at hne; simp at h1; omega
    have key : numAt xs.toArray b = minI a rest := by
      obtain ⟨m1, m2, m3⟩ := minI_le a rest
      have mem : numAt xs.toArray b ∈ a :: rest := by
        rw [← e2]
        refine List.mem_map.mpr ⟨xs[b], List.getElem_mem hb, ?_⟩
        simp [numAt, hb]
      have up : ∀ x ∈ a :: rest, numAt xs.toArray b ≤ x := fun x hx => by
        rw [← e2] at hx
        obtain ⟨p, hp, rfl⟩ := List.mem_map.mp hx
        obtain ⟨j, hj, rfl⟩ := List.mem_iff_getElem.mp hp
        have := h2 j (by simp; omega)
        simpa [numAt, hj] using this
      have l1 : minI a rest ≤ numAt xs.toArray b := by
        rcases List.mem_cons.mp mem with q | q
        · rw [q]; exact m1
        · exact m2 _ q
      have l2 : numAt xs.toArray b ≤ minI a rest := up _ (by
        rcases m3 with q | q
        · rw [q]; exact .head _
        · exact .tail _ q)
      omega
    rw [key]
    exact hQ _ h' tk hk (.int _ _)
theorem not_modules {a : Addr} (lo : mainGlobals < a) : (a == sysModules) = false := by
  have : ¬ (a = sysModules) := fun q => by rw [q] at lo; exact absurd lo (by decide)
  simpa using this
inductive ListV (ds : List PV) (d : PV) : Prop
  | lst (l : List PV) : ds = [.lst l] → l.length ≤ 1000 → d = .lst l → ListV ds d
  | dic (D : List (Int × PV)) : ds = [.dic D] → D.length ≤ 1000 → d = .lst (D.map fun p => .int p.1) → ListV ds d
theorem listV_some {ds : List PV} {d : PV} (e : listV ds = some d) : ListV ds d := by
  cases ds with
  | nil => exact no_none e
  | cons x l => cases l with
    | cons y l => cases x <;> exact no_none e
    | nil => cases x with
      | lst l =>
        by_cases h : l.length ≤ 1000
        · exact .lst l rfl h (Option.some.inj ((if_pos h).symm.trans e)).symm
        · exact no_none ((if_neg h).symm.trans e)
      | dic D =>
        by_cases h : D.length ≤ 1000
        · exact .dic D rfl h (Option.some.inj ((if_pos h).symm.trans e)).symm
        · exact no_none ((if_neg h).symm.trans e)
      | _ => exact no_none e
theorem ints_at {X : Addr → Prop} {h : Heap} {vs : List Value} {D' : List (Int × PV)} (hl : vs.length = D'.length) (hat : ∀ (j : Nat) (v : Value), vs[j]? = some v → ∃ k t, (D'.map (·.1))[j]? = some k ∧ v = Value.int k t) : Reps wd X h vs (D'.map fun p => PV.int p.1) := by
  induction vs generalizing D' with
  | nil => cases D' with
    | nil => exact .nil
    | cons _ _ => exact nomatch hl
  | cons v vs ih => cases D' with
    | nil => exact nomatch hl
    | cons p D' =>
      obtain ⟨k, t, h1, h2⟩ := hat 0 v rfl
      cases h1; subst h2
      exact .cons (.int _ _) (ih (Nat.succ.inj hl) fun j u hu => hat (j + 1) u hu)
theorem opN_list : OpN wd (fun vs => call (.type "list") vs) listV := by
  intro cx S R s n vs ds d D r e Q E hQ
  rcases listV_some e with ⟨l, rfl, hl, rfl⟩ | ⟨Dd, rfl, hl, rfl⟩
  · obtain ⟨v, rfl, q⟩ := r.one
    clear r e
    obtain ⟨_, _, _, rfl, hx, ho, r⟩ := q.lst_inv
    have l1 := r.length
    rw [Array.length_toList] at l1
    refine call_list_seq _ (.inl rfl) ho rfl rfl (fun h' c' hk hD => ?_) (by rw [l1]; exact Nat.le_trans hl (by decide))
    exact hQ _ h' s.toks hk (.lst (D.fresh (Nat.le_refl _)) hD (r.keeps hk))
  · obtain ⟨v, rfl, q⟩ := r.one
    clear r e
    obtain ⟨_, kvs, rfl, hx, lo, ho, hkk, r⟩ := q.dic_inv
    have l1 := congrArg List.length hkk
    rw [List.length_map, List.length_map] at l1
    obtain ⟨ep, hat⟩ := ho.dictAt
    refine kdl_call (kdl_dict (knd := intKind wd.prog wd.w) (kvs := kvs) (ep := ep) (not_modules lo)) S.handled hat (by rw [l1]; exact Nat.le_trans hl (by decide)) fun h' tk acc' c' hk hD hacc => ?_
    refine hQ _ h' tk hk (.lst (D.fresh (Nat.le_refl _)) hD (ints_at (by rw [Array.length_toList, hacc.1, l1]) fun j v hv => ?_))
    rw [Array.getElem?_toList] at hv
    obtain ⟨k, x, hx, hk'⟩ := hacc.2 j v hv
    obtain ⟨t, rfl⟩ := Value.isInt_shape hk'
    exact ⟨k, t, by rw [← hkk, List.getElem?_map, hx]; rfl, rfl⟩

/-- d.get(k, e) -/
noncomputable def getV : List (Int × PV) → PV → PV → Option PV
  | D, .int i, e => some (match (D.find? fun p => p.1 = i) with | some p => p.2 | Option.none => e)
  | _, _, _ => Option.none
noncomputable def dicV : PV → Option (List (Int × PV))
  | .dic D => some D
  | _ => Option.none
theorem dicV_some {d : PV} {D : List (Int × PV)} (e : dicV d = some D) : d = .dic D := by
  unfold dicV at e
  split at e
  · cases e; rfl
  · cases e
theorem getV_some {D : List (Int × PV)} {k c d : PV} (e : getV D k c = some d) : ∃ i, k = .int i ∧ d = (match (D.find? fun p => p.1 = i) with | some p => p.2 | Option.none => c) := by
  unfold getV at e
  split at e
  · cases e; exact ⟨_, rfl, rfl⟩
  · cases e
theorem Ev.get {o ke de : Expr} {apos pos : Pos} {mo mk md : Rho → M PV} (ho : Ev wd sc k (eval o) mo) (hk : Ev wd sc k (eval ke) mk) (hde : Ev wd sc k (eval de) md)
    (hbase : ∀ env, attributeBase o "get" env (eval o env) = eval o env := by intros; rfl) (hline : (apos.endLine == pos.line) = true := by rfl)
    (htrees : ∀ env, backTo pos (starEach [ke, de] env) = [(false, eval ke env), (false, eval de env)] := by intros; rfl) :
    Ev wd sc k (eval (.Call (.Attribute o "get" apos) [ke, de] [] pos)) (fun ρ => bnd (mo ρ) fun a => bnd (lift (dicV a)) fun D => bnd (mk ρ) fun b => bnd (md ρ) fun c => lift (getV D b c)) := by
  intro cx S hs R ρ s n q n' e D L Q E hQ hE
  refine wpAny_Call_method2_late (hbase _) hline (htrees _) ?_
  refine ho.bnd S hs R e D L (fun a n₁ va s₁ e₁ st₁ ra => ?_) hE
  rcases bnd_some e₁ with ⟨Dd, n₂, e2, e₁⟩ | ⟨kd, e2, rfl⟩
  case inr => obtain ⟨_, _, h, _⟩ := lift_some e2; cases h
  obtain ⟨D', e3, h3, rfl⟩ := lift_some e2
  cases h3
  obtain rfl := dicV_some e3
  clear e e3
  obtain ⟨_, _, rfl, hx, lo, hd, hkk, r⟩ := ra.dic_inv
  refine ⟨"dict", "dict.get", F.plainAttrs_dict, F.slot_dict_get, F.type_dict_get, hd.mapOf.typeIs, hd.mapOf.noDict, ?_⟩
  refine wpAny_dict_get2 (knd := intKind wd.prog wd.w) (not_modules lo) ?_
  refine hk.bnd S hs R e₁ st₁.dy (L.go S st₁.go) (fun b n₂ vb s₂ e₂ st₂ rb => ?_) fun kd ev s' h1 h2 => hE kd ev s' h1 (Thrown.trans st₁ h2)
  refine hde.bnd S hs R e₂ st₂.dy ((L.go S st₁.go).go S st₂.go) (fun c n₃ vc s₃ e₃ st₃ rc => ?_) fun kd ev s' h1 h2 => hE kd ev s' h1 (Thrown.trans (st₁.trans st₂) h2)
  obtain ⟨d, e4, rfl, rfl⟩ := lift_some e₃
  have rd := (Rep.dic hx lo hd hkk r).go S (st₂.trans st₃).go
  obtain ⟨i, rfl, rfl⟩ := getV_some e4
  obtain ⟨t, rfl⟩ := rb.int_inv
  obtain ⟨_, _, q, hx', lo', hd', hkk', r'⟩ := rd.dic_inv
  · cases q
    refine ⟨_, _, intKind_is _ _ _ _, hd'.mapOf, ?_⟩
    have w := fun i => dic_find (i := i) hkk' r'
    refine hQ _ _ _ rfl (st₁.trans (st₂.trans (st₃.trans (Step.of_keeps st₃.dy _ fun _ _ x => x)))) ?_
    replace w := w i; revert w
    cases (List.find? (fun p : Int × PV => decide (p.1 = i)) Dd) with
    | none => intro w; simp only at w; rw [w]; exact rc
    | some p => intro w; obtain ⟨v, hv, rv⟩ := w; rw [hv]; exact rv
end
end Lz
namespace Lz
open PySem PySem.W PyProof.Rows

/-- a function's own station -/
structure SF (wd : Wd) (cx : Cx) : Prop where
  st : St wd cx
  outer : ∃ l, cx.l = cx.env :: l
  frame : cx.env.frame = some cx.env.locals
  cellG : ∀ y c, cx.env.cells.lookup y = some c → ¬ wd.W c ∧ wd.G.get? c = Option.none
  cellIs : ∀ y, cx.env.kindOf y = some .cell → ∃ c, cx.env.cells.lookup y = some c
  apart : ∀ y z c, cx.env.cells.lookup y = some c → cx.env.cells.lookup z = some c → y = z

theorem SF.own {wd : Wd} {cx : Cx} (F : SF wd cx) : wd.G.get? cx.env.locals = Option.none ∧ ¬ wd.W cx.env.locals ∧ cx.X cx.env.locals := by
  obtain ⟨l, hl⟩ := F.outer
  obtain ⟨_, L, hL, h1, h2, h3⟩ := F.st.chain cx.env (by rw [hl]; exact .head _)
  (first | exact nn hL (F.frame) | cases ss (F.frame) hL | cases Eq.trans (Eq.symm (F.frame)) hL | (rw [F.frame] at hL; cases hL))
  exact ⟨h1, h2, h3⟩

/-- what the function itself may change -/
noncomputable def Own (cx : Cx) (am : Option Addr) (b : Addr) : Prop := b = cx.env.locals ∨ (∃ y, cx.env.cells.lookup y = some b) ∨ am = some b

noncomputable def Cx.plus (cx : Cx) (am : Option Addr) : Cx := { cx with X := fun b => cx.X b ∨ am = some b }

/-- the owned thing: a list, a dict of the function's own making -/
inductive Owned (wd : Wd) (cx : Cx) (h : Heap) (a : Addr) : PV → Prop
  | lst {its : Array Value} {k : Nat} {ds : List PV} : h.get? a = some { cls := .type "list", dict := Option.none, data := .seq its k, slots := #[] } → Reps wd (cx.plus (some a)).X h its.toList ds → Owned wd cx h a (.lst ds)
  | dic {kvs : List (Int × Value)} {D : List (Int × PV)} : mainGlobals < a → h.DictOf (intKind wd.prog wd.w) a kvs → kvs.map (·.1) = D.map (·.1) → Reps wd (cx.plus (some a)).X h (kvs.map (·.2)) (D.map (·.2)) → Owned wd cx h a (.dic D)

structure Sig where
  ρ : Rho
  mu : Option (Str × PV)
noncomputable def Sig.all (σ : Sig) : Rho := match σ.mu with | some p => p :: σ.ρ | Option.none => σ.ρ

noncomputable def MuOk (wd : Wd) (cx : Cx) (am : Option Addr) (h : Heap) : Option (Str × PV) → Prop
  | Option.none => am = Option.none
  | some (x, d) => ∃ a, am = some a ∧ ¬ cx.X a ∧ wd.G.get? a = Option.none ∧ a ≠ wd.Lf ∧ Bound wd cx.env h x (.ref a) ∧ Owned wd cx h a d

inductive MuAt (wd : Wd) (cx : Cx) (am : Option Addr) (h : Heap) (x : Str) (d : PV) : Prop
  | mk (a : Addr) : am = some a → ¬ cx.X a → wd.G.get? a = Option.none → a ≠ wd.Lf → Bound wd cx.env h x (.ref a) → Owned wd cx h a d → MuAt wd cx am h x d
theorem MuOk.at {wd : Wd} {cx : Cx} {am : Option Addr} {h : Heap} {mu : Option (Str × PV)} (m : MuOk wd cx am h mu) {x : Str} {d : PV} (e : mu = some (x, d)) : MuAt wd cx am h x d := by
  subst e
  obtain ⟨a, h1, h2, h3, h4, h5, h6⟩ := m
  exact ⟨a, h1, h2, h3, h4, h5, h6⟩
inductive OwnedL (wd : Wd) (cx : Cx) (h : Heap) (a : Addr) (ds : List PV) : Prop
  | mk (its : Array Value) (k : Nat) : h.get? a = some { cls := .type "list", dict := Option.none, data := .seq its k, slots := #[] } → Reps wd (cx.plus (some a)).X h its.toList ds → OwnedL wd cx h a ds
inductive OwnedD (wd : Wd) (cx : Cx) (h : Heap) (a : Addr) (D : List (Int × PV)) : Prop
  | mk (kvs : List (Int × Value)) : mainGlobals < a → h.DictOf (intKind wd.prog wd.w) a kvs → kvs.map (·.1) = D.map (·.1) → Reps wd (cx.plus (some a)).X h (kvs.map (·.2)) (D.map (·.2)) → OwnedD wd cx h a D
theorem Owned.lst_inv {wd : Wd} {cx : Cx} {h : Heap} {a : Addr} {ds : List PV} (o : Owned wd cx h a (.lst ds)) : OwnedL wd cx h a ds := by
  cases o with
  | lst e r => exact ⟨_, _, e, r⟩
theorem Owned.dic_inv {wd : Wd} {cx : Cx} {h : Heap} {a : Addr} {D : List (Int × PV)} (o : Owned wd cx h a (.dic D)) : OwnedD wd cx h a D := by
  cases o with
  | dic a b c d => exact ⟨_, a, b, c, d⟩
theorem flat_if {α : Type} {c : Bool} {a : α} {n n' : Int} {r : Except Str α} (e : (if c = true then ret a else stuck) n = some (r, n')) : c = true ∧ r = .ok a ∧ n' = n := by
  cases c with
  | false => cases e
  | true => cases e; exact ⟨rfl, rfl, rfl⟩

structure SOk (wd : Wd) (cx : Cx) (am : Option Addr) (σ : Sig) (n : Int) (h : Heap) : Prop where
  dy : Dy wd cx n h
  ns : ∃ m, h.Ns cx.env.locals m
  cell : ∀ y c, cx.env.cells.lookup y = some c → ∃ v, h.IsCell c v
  loc : Loc wd (cx.plus am) σ.ρ h
  mu : MuOk wd cx am h σ.mu

/-- from one heap to a later one, within the function -/
noncomputable def SGo (wd : Wd) (cx : Cx) (am : Option Addr) (h h' : Heap) : Prop :=
  ∀ b o, h.get? b = some o → ¬ wd.W b → ¬ Own cx am b → (¬ frs cx.l b → h'.get? b = some o) ∧ ∃ sl, h'.get? b = some { o with slots := sl }

structure SSt (wd : Wd) (cx : Cx) (am : Option Addr) (s : Shared) (am' : Option Addr) (s' : Shared) : Prop where
  same : ∃ h tk, s' = { s with heap := h, toks := tk }
  go : SGo wd cx am s.heap s'.heap
  there : ∀ b o, s.heap.get? b = some o → ∃ o', s'.heap.get? b = some o'
  keep : ∀ a, am = some a → am' = some a
  new : am = Option.none → ∀ a, am' = some a → s.heap.get? a = Option.none

theorem SSt.refl {wd : Wd} {cx : Cx} {am : Option Addr} {s : Shared} : SSt wd cx am s am s :=
  ⟨⟨s.heap, s.toks, rfl⟩, fun _ o e _ _ => ⟨fun _ => e, o.slots, e⟩, fun _ o e => ⟨o, e⟩, fun _ h => h, fun h a h' => by (first | exact nn h' (h) | cases ss (h) h' | cases Eq.trans (Eq.symm (h)) h' | (rw [h] at h'; cases h'))⟩
theorem SSt.trans {wd : Wd} {cx : Cx} {am am₁ am₂ : Option Addr} {s s₁ s₂ : Shared} (x : SSt wd cx am s am₁ s₁) (y : SSt wd cx am₁ s₁ am₂ s₂) : SSt wd cx am s am₂ s₂ := by
  obtain ⟨h, tk, rfl⟩ := x.same
  obtain ⟨h', tk', rfl⟩ := y.same
  have not : ∀ b o, s.heap.get? b = some o → ¬ Own cx am b → ¬ Own cx am₁ b := fun b o e hn hy => by
    rcases hy with hy | hy | hy
    · exact hn (.inl hy)
    · exact hn (.inr (.inl hy))
    · cases ha : am with
      | some a =>
        have := x.keep a ha
        (first | exact nn this (hy) | cases ss (hy) this | cases Eq.trans (Eq.symm (hy)) this | (rw [hy] at this; cases this))
        exact hn (.inr (.inr ha))
      | none =>
        have := x.new ha b hy
        (first | exact nn this (e) | cases ss (e) this | cases Eq.trans (Eq.symm (e)) this | (rw [e] at this; cases this))
  refine ⟨⟨h', tk', rfl⟩, fun b o e hw hn => ?_, fun b o e => let ⟨o', e'⟩ := x.there b o e; y.there b o' e', fun a ha => y.keep a (x.keep a ha), fun ha a ha2 => ?_⟩
  · obtain ⟨x1, sl, x2⟩ := x.go b o e hw hn
    obtain ⟨y1, sl', y2⟩ := y.go b _ x2 hw (not b o e hn)
    exact ⟨fun hf => (y.go b o (x1 hf) hw (not b o e hn)).1 hf, sl', y2⟩
  · cases h1 : am₁ with
    | some c =>
      have h2 := y.keep c h1
      (first | exact nn h2 (ha2) | cases ss (ha2) h2 | cases Eq.trans (Eq.symm (ha2)) h2 | (rw [ha2] at h2; cases h2))
      exact x.new ha a h1
    | none =>
      have h2 := y.new h1 a ha2
      cases q : s.heap.get? a with
      | none => rfl
      | some o =>
        obtain ⟨o', e'⟩ := x.there a o q
        (first | exact nn e' (h2) | cases ss (h2) e' | cases Eq.trans (Eq.symm (h2)) e' | (rw [h2] at e'; cases e'))

/-- a new owned thing changes nothing of what is said of the rest -/
theorem Cx.plus_none (cx : Cx) : ∀ b, (cx.plus Option.none).X b ↔ cx.X b := fun b => ⟨fun h => h.elim id (fun q => by cases q), fun h => Or.inl h⟩

theorem SF.plus {wd : Wd} {cx : Cx} (F : SF wd cx) {am : Option Addr} (ha : ∀ a, am = some a → wd.G.get? a = Option.none ∧ a ≠ wd.Lf) : St wd (cx.plus am) where
  ok := F.st.ok
  frames := F.st.frames
  handled := F.st.handled
  kind := F.st.kind
  globals := F.st.globals
  builtins := F.st.builtins
  chain := fun e he => let ⟨h1, L, h2, h3, h4, h5⟩ := F.st.chain e he; ⟨h1, L, h2, h3, h4, .inl h5⟩
  xw := fun b hb => .inl (F.st.xw b hb)
  xlf := fun h => h.elim F.st.xlf fun q => (ha _ q).2 rfl
  xg := fun b o e h => h.elim (F.st.xg b o e) fun q => by (first | exact nn e ((ha _ q).1) | cases ss ((ha _ q).1) e | cases Eq.trans (Eq.symm ((ha _ q).1)) e | (rw [(ha _ q).1] at e; cases e))
  cellIs := F.st.cellIs
  code := F.st.code

theorem MuOk.out {wd : Wd} {cx : Cx} {am : Option Addr} {h : Heap} {mu : Option (Str × PV)} (m : MuOk wd cx am h mu) : ∀ a, am = some a → wd.G.get? a = Option.none ∧ a ≠ wd.Lf ∧ ¬ cx.X a := fun a ha => by
  cases mu with
  | none => (first | exact nn ha (show am = Option.none from m) | cases ss (show am = Option.none from m) ha | cases Eq.trans (Eq.symm (show am = Option.none from m)) ha | (rw [show am = Option.none from m] at ha; cases ha))
  | some p => obtain ⟨b, hb, h1, h2, h3, _⟩ := m; (first | exact nn hb (ha) | cases ss (ha) hb | cases Eq.trans (Eq.symm (ha)) hb | (rw [ha] at hb; cases hb)); exact ⟨h2, h3, h1⟩
theorem SOk.stPlus {wd : Wd} {cx : Cx} {am : Option Addr} {σ : Sig} {n : Int} {h : Heap} (F : SF wd cx) (k : SOk wd cx am σ n h) : St wd (cx.plus am) := F.plus fun a ha => ⟨(k.mu.out a ha).1, (k.mu.out a ha).2.1⟩

theorem Owned.rep {wd : Wd} {cx : Cx} {h : Heap} {a : Addr} {d : PV} (hx : ¬ cx.X a) : Owned wd cx h a d → Rep wd cx.X h (.ref a) d
  | .lst e r => .lst hx e (r.mono (fun _ _ _ q z => q (.inl z)) fun _ _ e _ => e)
  | .dic lo e hk r => .dic hx lo e hk (r.mono (fun _ _ _ q z => q (.inl z)) fun _ _ e _ => e)

/-- what the names give, seen as still -/
theorem SOk.all {wd : Wd} {cx : Cx} {am : Option Addr} {σ : Sig} {n : Int} {h : Heap} (k : SOk wd cx am σ n h) : Loc wd cx σ.all h := by
  have base : Loc wd cx σ.ρ h := fun x d e => let ⟨v, b, r⟩ := k.loc x d e; ⟨v, b, r.mono (fun _ _ _ q z => q (.inl z)) fun _ _ e _ => e⟩
  unfold Sig.all
  have hm := k.mu
  cases hmu : σ.mu with
  | none => exact base
  | some p =>
    rw [hmu] at hm
    obtain ⟨x, d⟩ := p
    obtain ⟨a, _, h1, _, _, hb, ho⟩ := hm
    intro y d' e
    rw [List.lookup_cons] at e
    cases hyx : y == x with
    | true =>
      (first | exact nn e (hyx) | cases ss (hyx) e | cases Eq.trans (Eq.symm (hyx)) e | (rw [hyx] at e; cases e))
      rw [eq_of_beq hyx]
      exact ⟨_, hb, ho.rep h1⟩
    | false => rw [hyx] at e; exact base y d' e

/-- an expression's step, within the function -/
theorem Step.sst {wd : Wd} {cx : Cx} {am : Option Addr} {s s' : Shared} {n' : Int} (x : Step wd cx s n' s') : SSt wd cx am s am s' :=
  ⟨x.same, fun b o e hw _ => x.go b o e hw, x.there, fun _ h => h, fun h a h' => by (first | exact nn h' (h) | cases ss (h) h' | cases Eq.trans (Eq.symm (h)) h' | (rw [h] at h'; cases h'))⟩
theorem Owned.go {wd : Wd} {cx : Cx} {h h' : Heap} {a : Addr} {d : PV} (S : St wd (cx.plus (some a))) (hx : ¬ cx.X a) (S' : St wd cx) (g : Go wd cx.l h h') (o : Owned wd cx h a d) : Owned wd cx h' a d := by
  have here : ∀ o, h.get? a = some o → h'.get? a = some o := fun o e => (g a o e fun hw => hx (S'.xw a hw)).1 fun ⟨e', he', hf⟩ => by
    obtain ⟨_, L, hL, _, _, hXL⟩ := S'.chain e' he'
    (first | exact nn hf (hL) | cases ss (hL) hf | cases Eq.trans (Eq.symm (hL)) hf | (rw [hL] at hf; cases hf))
    exact hx hXL
  cases o with
  | lst e r => exact .lst (here _ e) (r.go (cx := cx.plus (some a)) S g)
  | dic lo e hk r => exact .dic lo (dictOf_at e here) hk (r.go (cx := cx.plus (some a)) S g)
theorem SOk.go {wd : Wd} {cx : Cx} {am : Option Addr} {σ : Sig} {n n' : Int} {s s' : Shared} (F : SF wd cx) (k : SOk wd cx am σ n s.heap) (x : Step wd cx s n' s') : SOk wd cx am σ n' s'.heap where
  dy := x.dy
  ns := let ⟨m, hn⟩ := k.ns; ⟨m, ns_slots hn fun o e => (x.go _ o e F.own.2.1).2⟩
  cell := fun y c hc => let ⟨v, o, e, hd⟩ := k.cell y c hc; let ⟨sl, e'⟩ := (x.go _ o e (F.cellG y c hc).1).2; ⟨v, _, e', hd⟩
  loc := Loc.go (cx := cx.plus am) (k.stPlus F) x.go k.loc
  mu := by
    have S := k.stPlus F
    have hm := k.mu
    cases hmu : σ.mu with
    | none => rw [hmu] at hm; exact hm
    | some p =>
      rw [hmu] at hm
      obtain ⟨a, ha, h1, h2, h3, hb, ho⟩ := hm
      subst ha
      exact ⟨a, rfl, h1, h2, h3, hb.go x.go, ho.go S h1 F.st x.go⟩

/-- flat: holds no list, no dict -/
noncomputable def flat : PV → Bool
  | .tup l => l.all fun d => match d with | .int _ => true | _ => false
  | .lst _ => false
  | .dic _ => false
  | .box => false
  | _ => true
theorem Rep.flat {wd : Wd} {X X' : Addr → Prop} {h : Heap} {v : Value} {d : PV} (r : Rep wd X h v d) (hf : Lz.flat d = true) (hX : ∀ a its k, h.get? a = some { cls := .type "tuple", dict := Option.none, data := .seq its k, slots := #[] } → ¬ X a → ¬ X' a) : Rep wd X' h v d := by
  cases r with
  | none => exact .none
  | bool b => exact .bool b
  | int i t => exact .int i t
  | str x t => exact .str x t
  | lst _ _ _ => cases hf
  | dic _ _ _ _ _ => cases hf
  | box => cases hf
  | tup hx ho r =>
    refine .tup (hX _ _ _ ho hx) ho ?_
    have : ∀ {vs : List Value} {ds : List PV}, Reps wd X h vs ds → (ds.all fun d => match d with | .int _ => true | _ => false) = true → Reps wd X' h vs ds := by
      intro vs ds r
      induction ds generalizing vs with
      | nil => intro _; cases r; exact .nil
      | cons d ds ih =>
        intro hf
        simp only [List.all_cons, Bool.and_eq_true] at hf
        cases r with
        | cons p r =>
          refine .cons ?_ (ih r hf.2)
          cases p <;> first | exact .int _ _ | (simp at hf)
    exact this r hf

/-- a value that may be stored -/
noncomputable def stor (σ : Sig) (d : PV) : Bool := σ.mu.isNone || flat d
theorem SOk.stor {wd : Wd} {cx : Cx} {am : Option Addr} {σ : Sig} {n : Int} {h : Heap} (k : SOk wd cx am σ n h) {v : Value} {d : PV} (r : Rep wd cx.X h v d) (hs : Lz.stor σ d = true) : Rep wd (cx.plus am).X h v d := by
  have hm := k.mu
  unfold Lz.stor at hs
  cases hmu : σ.mu with
  | none =>
    rw [hmu] at hm
    rw [show am = Option.none from hm]
    exact r.mono (fun b _ _ q z => q ((cx.plus_none b).mp z)) fun _ _ e _ => e
  | some p =>
    rw [hmu] at hm hs
    obtain ⟨a, ha, h1, h2, h3, hb, ho⟩ := hm
    refine r.flat (by simpa using hs) fun b its j e hx z => ?_
    rcases z with z | z
    · exact hx z
    · (first | exact nn z (ha) | cases ss (ha) z | cases Eq.trans (Eq.symm (ha)) z | (rw [ha] at z; cases z))
      have : ∀ {d' : PV}, Owned wd cx h a d' → False := fun {d'} ho => by
        cases ho with
        | lst e' _ => rw [e] at e'; simp at e'
        | dic _ e' _ _ =>
          obtain ⟨o, _, _, e1, e2, _⟩ := e'
          (first | exact nn e1 (e) | cases ss (e) e1 | cases Eq.trans (Eq.symm (e)) e1 | (rw [e] at e1; cases e1))
          have := e2.1
          simp at this
      exact this ho

/-- storing -/
noncomputable def setR (x : Str) (d : PV) : Rho → Rho
  | [] => [(x, d)]
  | (y, e) :: r => if y == x then (x, d) :: r else (y, e) :: setR x d r
theorem setR_lookup {x y : Str} {d : PV} : ∀ {ρ : Rho}, (setR x d ρ).lookup y = if y = x then some d else ρ.lookup y
  | [] => by
    by_cases h : y = x
    · subst h; simp [setR]
    · have : (y == x) = false := beq_eq_false_iff_ne.mpr h
      simp [setR, List.lookup, this, h]
  | (z, e) :: r => by
    unfold setR
    have ih := @setR_lookup x y d r
    cases hz : z == x with
    | true =>
      rw [eq_of_beq hz]
      simp only [if_true, List.lookup_cons]
      by_cases h : y = x
      · subst h; simp
      · have : (y == x) = false := beq_eq_false_iff_ne.mpr h
        simp [this, h]
    | false =>
      simp only [Bool.false_eq_true, if_false, List.lookup_cons, ih]
      by_cases h : y = x
      · subst h
        have : (y == z) = false := by rw [beq_eq_false_iff_ne] at hz ⊢; exact fun q => hz q.symm
        simp [this]
      · simp only [if_neg h]

noncomputable def muIs (σ : Sig) (x : Str) : Bool := match σ.mu with | some (y, _) => x == y | Option.none => false

theorem storeS {wd : Wd} {cx : Cx} {am : Option Addr} {σ : Sig} {n : Int} {s : Shared} {x : Str} {v : Value} {d : PV} {Q : Unit → Shared → Prop} {E : Value → Shared → Prop}
    (F : SF wd cx) (k : SOk wd cx am σ n s.heap) (r : Rep wd (cx.plus am).X s.heap v d) (hk : cx.env.kindOf x = some .local ∨ cx.env.kindOf x = some .cell) (hm : muIs σ x = false)
    (hQ : ∀ s', SSt wd cx am s am s' → SOk wd cx am { σ with ρ := setR x d σ.ρ } n s'.heap → Bound wd cx.env s'.heap x v → (∀ y u, Bound wd cx.env s.heap y u → y ≠ x → Bound wd cx.env s'.heap y u) →
      (∀ X : Addr → Prop, (∀ b, cx.X b → X b) → ∀ {v d}, Rep wd X s.heap v d → Rep wd X s'.heap v d) → Q () s') : wpAny (model wd.prog wd.w) cx.A (storeName cx.env x v) Q E s := by
  -- both roads end in a heap that differs in one place
  have fin : ∀ (a : Addr) (h' : Heap) (tk : Tok), Heap.SameBut a s.heap h' → Own cx Option.none a → ¬ wd.W a → wd.G.get? a = Option.none →
      (∃ o, h'.get? a = some o) → (∃ o, s.heap.get? a = some o ∧ (∀ vs, o.data ≠ .fields vs) ∧ (∀ its j, o.data ≠ .seq its j)) →
      (∀ m, s.heap.Ns a m → ∃ m', h'.Ns a m') → (∃ m, h'.Ns cx.env.locals m) → (∀ y c, cx.env.cells.lookup y = some c → ∃ v, h'.IsCell c v) →
      (cx.X a ∨ ∃ u, s.heap.IsCell a u) →
      (∀ y u, Bound wd cx.env s.heap y u → y ≠ x → Bound wd cx.env h' y u) → Bound wd cx.env h' x v → Q () { s with heap := h', toks := tk } := by
    intro a h' tk hs hown hw hg hex hd hns hns' hcell hcls hoth hnew
    obtain ⟨oa, hoa, hnf, hnq⟩ := hd
    have keep : ∀ b o, b ≠ a → s.heap.get? b = some o → h'.get? b = some o := fun b o hb e => (hs.2 b hb).trans e
    have notF : ∀ b o vs, s.heap.get? b = some o → o.data = .fields vs → b ≠ a := fun b o vs e hdd q => by subst q; (first | exact nn e (hoa) | cases ss (hoa) e | cases Eq.trans (Eq.symm (hoa)) e | (rw [hoa] at e; cases e)); exact hnf vs hdd
    have notQ : ∀ b o its j, s.heap.get? b = some o → o.data = .seq its j → b ≠ a := fun b o its j e hdd q => by subst q; (first | exact nn e (hoa) | cases ss (hoa) e | cases Eq.trans (Eq.symm (hoa)) e | (rw [hoa] at e; cases e)); exact hnq its j hdd
    have hXa : ∀ {X : Addr → Prop}, (∀ b, cx.X b → X b) → ∀ b o, s.heap.get? b = some o → ¬ X b → (∀ v, o.data ≠ .cell v) → b ≠ a := fun {X} hXX b o e hx hc q => by
      subst q
      rcases hcls with q | ⟨u, o', e', hdat⟩
      · exact hx (hXX _ q)
      · (first | exact nn e' (e) | cases ss (e) e' | cases Eq.trans (Eq.symm (e)) e' | (rw [e] at e'; cases e')); exact hc u hdat
    have repk : ∀ {X : Addr → Prop}, (∀ b, cx.X b → X b) → ∀ {v d}, Rep wd X s.heap v d → Rep wd X h' v d := fun {X} hXX {v d} r =>
      r.monoC (fun _ _ _ z _ => z) fun b o e hx hc => keep b o (hXa hXX b o e hx hc) e
    have there : ∀ b o, s.heap.get? b = some o → ∃ o', h'.get? b = some o' := fun b o e => by
      by_cases hb : b = a
      · subst hb; exact hex
      · exact ⟨o, keep b o hb e⟩
    have k0 := k.dy.inv
    refine hQ _ ⟨⟨h', tk, rfl⟩, fun b o e hwb hnb => ?_, there, fun _ q => q, fun q c q' => by (first | exact nn q' (q) | cases ss (q) q' | cases Eq.trans (Eq.symm (q)) q' | (rw [q] at q'; cases q'))⟩ ⟨⟨⟨fun b o e => ?_, ?_, ?_, fun P q hm => ?_⟩, fun e he => ?_, fun b hb => ?_, fun P q ps pos c hm e hc => ?_⟩, hns', hcell, fun y e hy => ?_, ?_⟩ hnew hoth (fun X hXX {v d} r => repk hXX r)
    · have hba : b ≠ a := fun q => hnb (by
        subst q
        rcases hown with q | q | q
        · exact .inl q
        · exact .inr (.inl q)
        · cases q)
      exact ⟨fun _ => keep b o hba e, o.slots, keep b o hba e⟩
    · exact keep b o (fun q => by (first | exact nn e ((q) ▸ (hg)) | (rw [q, hg] at e; cases e))) (k0.stay b o e)
    · obtain ⟨t, o, e, hc, j, hdd⟩ := k0.box
      exact ⟨t, o, keep _ _ (notQ _ _ _ _ e hdd) e, hc, j, hdd⟩
    · obtain ⟨its, j, e, r⟩ := k0.froz
      exact ⟨its, j, keep _ _ (notQ _ _ _ _ e rfl) e, r⟩
    · obtain ⟨ps, e, ht, hc⟩ := k0.tab P q hm
      refine ⟨ps, keep _ _ (notF _ _ _ e rfl) e, ht, fun pos cv hh => ?_⟩
      obtain ⟨c, o, vs, t, h1, h2, h3, h4⟩ := hc pos cv hh
      exact ⟨c, o, vs, t, h1, keep _ _ (notF _ _ _ h2 h3) h2, h3, h4⟩
    · obtain ⟨L, m, hf, hn⟩ := k.dy.frs e he
      by_cases hLa : L = a
      · subst hLa
        obtain ⟨m', hn'⟩ := hns m hn
        exact ⟨_, m', hf, hn'⟩
      · exact ⟨L, m, hf, hn.sameBut hs hLa⟩
    · obtain ⟨o, e⟩ := k.dy.there b hb
      exact there b o e
    · obtain ⟨ps', e', _⟩ := k0.tab P q hm
      have := keep _ _ (notF _ _ _ e' rfl) e'
      (first | exact nn this (e) | cases ss (e) this | cases Eq.trans (Eq.symm (e)) this | (rw [e] at this; cases this))
      exact k.dy.code P q ps pos c hm e' hc
    · rw [setR_lookup] at hy
      by_cases hyx : y = x
      · subst hyx
        (first | exact nn hy (if_pos rfl) | cases ss (if_pos rfl) hy | cases Eq.trans (Eq.symm (if_pos rfl)) hy | (rw [if_pos rfl] at hy; cases hy))
        exact ⟨v, hnew, repk (fun b hb => .inl hb) r⟩
      · rw [if_neg hyx] at hy
        obtain ⟨u, hb, hr⟩ := k.loc y e hy
        exact ⟨u, hoth y u hb hyx, repk (fun b hb => .inl hb) hr⟩
    · have hmu := k.mu
      show MuOk wd cx am h' σ.mu
      cases hs' : σ.mu with
      | none => rw [hs'] at hmu; exact hmu
      | some p =>
        rw [hs'] at hmu
        obtain ⟨c, q1, q2, q3, q4, q5, q6⟩ := hmu
        refine ⟨c, q1, q2, q3, q4, hoth _ _ q5 fun q => ?_, ?_⟩
        · unfold muIs at hm
          rw [hs'] at hm
          simp only [beq_eq_false_iff_ne, ne_eq] at hm
          exact hm q.symm
        · revert q6
          generalize p.2 = d'
          intro q6
          cases q6 with
          | lst e r => exact .lst (keep _ _ (notQ _ _ _ _ e rfl) e) (r.monoC (fun _ _ _ z _ => z) fun b o e hx hc => keep b o (hXa (fun b hb => .inl hb) b o e hx hc) e)
          | dic lo e hk r =>
            refine .dic lo (dictOf_at e fun o eo => keep _ _ (fun q => ?_) eo) hk (r.monoC (fun _ _ _ z _ => z) fun b o e hx hc => keep b o (hXa (fun b hb => .inl hb) b o e hx hc) e)
            obtain ⟨o', es, ep, e1, _, hdd, _⟩ := e
            (first | exact nn e1 (eo) | cases ss (eo) e1 | cases Eq.trans (Eq.symm (eo)) e1 | (rw [eo] at e1; cases e1))
            exact hXa (X := cx.X) (fun _ z => z) _ _ eo q2 (fun v z => by (first | exact nn z (hdd) | cases ss (hdd) z | cases Eq.trans (Eq.symm (hdd)) z | (rw [hdd] at z; cases z))) q
  rcases hk with hk | hk
  · obtain ⟨m, hn⟩ := k.ns
    refine wpAny_storeName_local hk hn (fun h' hn' hs' => ?_) (by rw [F.st.kind]; rfl)
    obtain ⟨o, es, ep, e, hd, _⟩ := id hn
    refine fin _ h' _ hs' (.inl rfl) F.own.2.1 F.own.1 (let ⟨o', _, _, e', _⟩ := hn'; ⟨o', e'⟩) ⟨o, e, (fun vs q => by (first | exact nn q (hd) | cases ss (hd) q | cases Eq.trans (Eq.symm (hd)) q | (rw [hd] at q; cases q))), (fun its j q => by (first | exact nn q (hd) | cases ss (hd) q | cases Eq.trans (Eq.symm (hd)) q | (rw [hd] at q; cases q)))⟩ (fun _ _ => ⟨_, hn'⟩) ⟨_, hn'⟩ (fun y c hc => ?_) (.inl F.own.2.2) (fun y u hb hy => ?_)
      (.inl ⟨hk, F.own.2.1, _, hn', by simp⟩)
    · obtain ⟨v', hcell⟩ := k.cell y c hc
      have hne : c ≠ cx.env.locals := fun q => by
        obtain ⟨o', e', hd'⟩ := hcell
        (first | exact nn e' ((q) ▸ (e)) | (rw [q, e] at e'; cases e')); (first | exact nn hd' (hd) | cases ss (hd) hd' | cases Eq.trans (Eq.symm (hd)) hd' | (rw [hd] at hd'; cases hd'))
      exact ⟨v', hcell.sameBut hs' hne⟩
    · rcases hb with ⟨hky, hw, m', hm', hv⟩ | ⟨hky, c, hc, hw, hcell⟩
      · refine .inl ⟨hky, hw, _, hn', ?_⟩
        rw [if_neg hy, ← hv]
        exact (hn.agree hm' y)
      · have hne : c ≠ cx.env.locals := fun q => by
          obtain ⟨o', e', hd'⟩ := hcell
          (first | exact nn e' ((q) ▸ (e)) | (rw [q, e] at e'; cases e')); (first | exact nn hd' (hd) | cases ss (hd) hd' | cases Eq.trans (Eq.symm (hd)) hd' | (rw [hd] at hd'; cases hd'))
        exact .inr ⟨hky, c, hc, hw, hcell.sameBut hs' hne⟩
  · obtain ⟨c, hc⟩ := F.cellIs x hk
    obtain ⟨v₀, hcell⟩ := k.cell x c hc
    refine wpAny_storeName_cell F.st.kind hk hc hcell fun h' hc' hs' => ?_
    obtain ⟨o, e, hd⟩ := id hcell
    have hcw := F.cellG x c hc
    refine fin c h' _ hs' (.inr (.inl ⟨x, hc⟩)) hcw.1 hcw.2 (let ⟨o', e', _⟩ := hc'; ⟨o', e'⟩) ⟨o, e, (fun vs q => by (first | exact nn q (hd) | cases ss (hd) q | cases Eq.trans (Eq.symm (hd)) q | (rw [hd] at q; cases q))), (fun its j q => by (first | exact nn q (hd) | cases ss (hd) q | cases Eq.trans (Eq.symm (hd)) q | (rw [hd] at q; cases q)))⟩ (fun m hm => ?_) ?_ (fun y c' hy => ?_) (.inr ⟨_, hcell⟩) (fun y u hb hy => ?_)
      (.inr ⟨.inl hk, c, hc, hcw.1, hc'⟩)
    · obtain ⟨o', es, ep, e', hd', _⟩ := hm
      (first | exact nn e' (e) | cases ss (e) e' | cases Eq.trans (Eq.symm (e)) e' | (rw [e] at e'; cases e')); (first | exact nn hd' (hd) | cases ss (hd) hd' | cases Eq.trans (Eq.symm (hd)) hd' | (rw [hd] at hd'; cases hd'))
    · obtain ⟨m, hn⟩ := k.ns
      refine ⟨m, hn.sameBut hs' fun q => ?_⟩
      obtain ⟨o', es, ep, e', hd', _⟩ := hn
      (first | exact nn e' ((q) ▸ (e)) | (rw [q, e] at e'; cases e')); (first | exact nn hd' (hd) | cases ss (hd) hd' | cases Eq.trans (Eq.symm (hd)) hd' | (rw [hd] at hd'; cases hd'))
    · by_cases hcc : c' = c
      · subst hcc; exact ⟨_, hc'⟩
      · obtain ⟨v', hv'⟩ := k.cell y c' hy
        exact ⟨v', hv'.sameBut hs' hcc⟩
    · rcases hb with ⟨hky, hw, m', hm', hv⟩ | ⟨hky, c', hy', hw, hcell'⟩
      · refine .inl ⟨hky, hw, m', hm'.sameBut hs' (fun q => ?_), hv⟩
        obtain ⟨o', es, ep, e', hd', _⟩ := hm'
        (first | exact nn e' ((q) ▸ (e)) | (rw [q, e] at e'; cases e')); (first | exact nn hd' (hd) | cases ss (hd) hd' | cases Eq.trans (Eq.symm (hd)) hd' | (rw [hd] at hd'; cases hd'))
      · exact .inr ⟨hky, c', hy', hw, hcell'.sameBut hs' fun q => hy (F.apart y x c (q ▸ hy') hc)⟩
end Lz
namespace Lz
open PySem PySem.W PyProof.Rows

/-- an iterator that gives the values ds -/
noncomputable def Cx.add (cx : Cx) (I : Addr) : Cx := { cx with X := fun b => cx.X b ∨ b = I }
structure Walkable (wd : Wd) (cx : Cx) (s₂ : Shared) (n' : Int) (I : Addr) (ds : List PV) : Prop where
  walk : ∃ fp P St, Walks wd.prog wd.w cx.A I fp [I] ds.length P St ∧ St 0 s₂.heap ∧
    (∀ b ∈ fp, b = I ∨ (¬ cx.X b ∧ ∃ o, s₂.heap.get? b = some o ∧ ∀ v, o.data ≠ .cell v)) ∧ (∀ j v d, P j v → ds[j]? = some d → Rep wd (cx.add I).X s₂.heap v d) ∧
    (∀ i h, St i h → ∃ o, h.get? I = some o ∧ ∀ v, o.data ≠ .cell v)
  notX : ¬ cx.X I
  size : ds.length ≤ 1000
  dy : Dy wd (cx.add I) n' s₂.heap

theorem Inv.codeThere {wd : Wd} {n : Int} {h : Heap} (x : Inv wd n h) {P : Addr} {q : Str} {ps : Array Value} {pos : Pos} {c : Addr} (hm : (P, q) ∈ wd.tabs) (e : h.get? P = some (tabObj ps)) (hc : codeAmong pos ps.toList = some (.ref c)) : ∃ o vs, h.get? c = some o ∧ o.data = .fields vs := by
  obtain ⟨ps', e', _, h3⟩ := x.tab P q hm
  (first | exact nn e' (e) | cases ss (e) e' | cases Eq.trans (Eq.symm (e)) e' | (rw [e] at e'; cases e'))
  obtain ⟨c', o, vs, t, h4, h5, h6, _⟩ := h3 pos _ hc
  cases h4
  exact ⟨o, vs, h5, h6⟩
/-- a new thing may be set apart -/
theorem Dy.add {wd : Wd} {cx : Cx} {n : Int} {h : Heap} (x : Dy wd cx n h) (o : Obj) (hf : o.isFreed = false) : Dy wd (cx.add h.objs.size) n (h.push o) := by
  have y := x.keeps (h' := h.push o) fun _ _ e => Heap.get?_push_of_some _ e
  refine ⟨y.inv, y.frs, fun b hb => hb.elim (y.there b) fun q => ?_, fun P q ps pos c hm e hc hx => hx.elim (y.code P q ps pos c hm e hc) fun hcI => ?_⟩
  · exact ⟨o, q ▸ Heap.get?_push_size _ hf⟩
  · obtain ⟨ps', e', _⟩ := x.inv.tab P q hm
    have := Heap.get?_push_of_some o e'
    (first | exact nn this (e) | cases ss (e) this | cases Eq.trans (Eq.symm (e)) this | (rw [e] at this; cases this))
    obtain ⟨o', _, e2, _⟩ := x.inv.codeThere hm e' hc
    rw [hcI] at e2
    exact absurd (Heap.lt_size e2) (Nat.lt_irrefl _)

noncomputable def ItV (wd : Wd) (sc : Scope) (k : Nat) (iter : Expr) (m : Rho → M (List PV)) : Prop :=
  ∀ cx, St wd cx → cx.env.scope = sc → Room k cx.A → ∀ ρ s n r n', m ρ n = some (r, n') → Dy wd cx n s.heap → Loc wd cx ρ s.heap →
    ∀ (Q : Value → Shared → Prop) (E : Value → Shared → Prop),
      (∀ ds I s₂, r = .ok ds → Step wd cx s n' s₂ → Walkable wd cx s₂ n' I ds → s.heap.get? I = Option.none → Q (.ref I) s₂) →
      (∀ kd ev s', r = .error kd → Thrown wd cx s n' kd ev s' → E ev s') →
      wpAny (model wd.prog wd.w) cx.A (eval iter cx.env) (fun x s₁ => wpAny (model wd.prog wd.w) cx.A (pyIter x) Q E s₁) E s

theorem ItV.okAt {wd : Wd} {sc : Scope} {k : Nat} {iter : Expr} {m : Rho → M (List PV)} (hi : ItV wd sc k iter m) {cx : Cx} (S : St wd cx) (hs : cx.env.scope = sc) (R : Room k cx.A) {ρ : Rho} {s : Shared} {n n' : Int} {ds : List PV} (e : m ρ n = some (.ok ds, n'))
    (D : Dy wd cx n s.heap) (L : Loc wd cx ρ s.heap) {Q : Value → Shared → Prop} {E : Value → Shared → Prop} (hQ : ∀ I s₂, Step wd cx s n' s₂ → Walkable wd cx s₂ n' I ds → s.heap.get? I = Option.none → Q (.ref I) s₂) :
    wpAny (model wd.prog wd.w) cx.A (eval iter cx.env) (fun x s₁ => wpAny (model wd.prog wd.w) cx.A (pyIter x) Q E s₁) E s :=
  hi cx S hs R ρ s n _ _ e D L Q E (fun _ I s₂ hd st W hI => hQ I s₂ st (by cases hd; exact W) hI) fun _ _ _ hd => nomatch hd
theorem turn_nat {j i L : Nat} (h : j + i = L + 1) (hlt : i < L) : L - i < j ∧ (L - i) + (i + 1) = L + 1 := by omega
theorem drop_at {α : Type} {ds : List α} {i : Nat} (h : i < ds.length) : ∃ d, ds[i]? = some d ∧ ds.drop i = d :: ds.drop (i + 1) :=
  ⟨ds[i], List.getElem?_eq_getElem h, List.drop_eq_getElem_cons h⟩

noncomputable def itemsV : PV → Option (List PV)
  | .lst l => if l.length ≤ 1000 then some l else Option.none
  | .dic D => if D.length ≤ 1000 then some (D.map fun p => .int p.1) else Option.none
  | _ => Option.none

section
variable {wd : Wd} {sc : Scope} {k : Nat}
theorem fresh_at {s s₁ : Shared} {cx : Cx} {n₁ : Int} (st : Step wd cx s n₁ s₁) : s.heap.get? s₁.heap.objs.size = Option.none := by
  cases q : s.heap.get? s₁.heap.objs.size with
  | none => rfl
  | some o =>
    obtain ⟨o', e'⟩ := st.there _ o q
    exact absurd (Heap.lt_size e') (Nat.lt_irrefl _)

theorem ItV.val {iter : Expr} {mi : Rho → M PV} (hi : Ev wd sc k (eval iter) mi) : ItV wd sc k iter (fun ρ => bnd (mi ρ) fun a => lift (itemsV a)) := by
  intro cx S hs R ρ s n r n' e D L Q E hQ hE
  refine hi.bnd S hs R e D L (fun a n₁ va s₁ e₁ st₁ ra => ?_) hE
  obtain ⟨ds, e2, rfl, rfl⟩ := lift_some e₁
  have old : ∀ (o' : Obj) b o, s₁.heap.get? b = some o → (s₁.heap.push o').get? b = some o := fun _ b o x => Heap.get?_push_of_some _ x
  clear e e₁ hE
  unfold itemsV at e2
  split at e2
  · obtain ⟨a, its, j₀, rfl, hx, ho, r⟩ := ra.lst_inv
    clear ra
    split at e2
    · next hl =>
      cases e2
      have hlen := r.length
      rw [Array.length_toList] at hlen
      have W := Walks.list (prog := wd.prog) (w := wd.w) S.handled _ _ (Nat.ne_of_lt (Heap.lt_size ho)) its
      rw [hlen] at W
      refine wpAny_pyIter_list ⟨_, ho, rfl, _, rfl⟩ (hQ _ _ _ rfl (st₁.trans (Step.of_keeps st₁.dy s₁.toks (old _))) ⟨⟨_, _, _, W, ?_, fun b hb => ?_, fun j v d hv hd => ?_, fun i h hst => ?_⟩, st₁.dy.fresh (Nat.le_refl _), hl, st₁.dy.add _ rfl⟩ (fresh_at st₁))
      · exact ⟨⟨_, Heap.get?_push_size _ rfl, rfl, rfl⟩, ⟨_, old _ _ _ ho, rfl, _, rfl⟩⟩
      · rcases List.mem_cons.mp hb with rfl | hb
        · exact .inl rfl
        · rw [List.mem_singleton.mp hb]
          exact .inr ⟨hx, _, old _ _ _ ho, fun v q => by cases q⟩
      · obtain ⟨d', h1, h2⟩ := r.at (i := j) (v := v) (by rw [Array.getElem?_toList]; exact hv)
        (first | exact nn h1 (hd) | cases ss (hd) h1 | cases Eq.trans (Eq.symm (hd)) h1 | (rw [hd] at h1; cases h1))
        exact h2.mono (fun b o e z q => q.elim z fun q => by rw [q] at e; exact absurd (Heap.lt_size e) (Nat.lt_irrefl _)) fun b o e _ => old _ b o e
      · obtain ⟨⟨o, e, _, hdat⟩, _⟩ := hst
        exact ⟨o, e, fun v q => by (first | exact nn q (hdat) | cases ss (hdat) q | cases Eq.trans (Eq.symm (hdat)) q | (rw [hdat] at q; cases q))⟩
    · cases e2
  · next Dd =>
    obtain ⟨a, kvs, rfl, hx, lo, ho, hkk, r⟩ := ra.dic_inv
    clear ra
    split at e2
    · next hl =>
      cases e2
      obtain ⟨ep, hat⟩ := ho.dictAt
      have hlen := congrArg List.length hkk
      rw [List.length_map, List.length_map] at hlen
      obtain ⟨o, es, ep', e3, _, hdd, _⟩ := id ho
      have W := Walks.dictKeys (prog := wd.prog) (w := wd.w) (knd := intKind wd.prog wd.w) S.handled _ _ (Nat.ne_of_lt (Heap.lt_size e3)) kvs ep
      have hle : (Dd.map fun p => PV.int p.1).length = kvs.length := by rw [List.length_map, hlen]
      refine wpAny_pyIter_dict (not_modules lo) hat (hQ _ _ _ rfl (st₁.trans (Step.of_keeps st₁.dy s₁.toks (old _))) ⟨⟨_, (fun i v => ∃ k x, kvs[i]? = some (k, x) ∧ (intKind wd.prog wd.w).is k v = true), (fun i h => h.IsKeyIter s₁.heap.objs.size a i kvs.length ep ∧ h.DictAt (intKind wd.prog wd.w) a kvs ep), (by rw [hle]; exact W), ?_, fun b hb => ?_, fun j v d hv hd => ?_, fun i h hst => ?_⟩, st₁.dy.fresh (Nat.le_refl _), by rw [List.length_map]; exact hl, st₁.dy.add _ rfl⟩ (fresh_at st₁))
      · exact ⟨⟨_, Heap.get?_push_size _ rfl, rfl, rfl⟩, hat.keep (old _)⟩
      · rcases List.mem_cons.mp hb with rfl | hb
        · exact .inl rfl
        · rw [List.mem_singleton.mp hb]
          exact .inr ⟨hx, _, old _ _ _ e3, fun v q => by (first | exact nn q (hdd) | cases ss (hdd) q | cases Eq.trans (Eq.symm (hdd)) q | (rw [hdd] at q; cases q))⟩
      · obtain ⟨k, x, hx', hk'⟩ := hv
        obtain ⟨t, rfl⟩ := Value.isInt_shape hk'
        have : (List.map (fun p : Int × PV => p.1) Dd)[j]? = some k := by rw [← hkk, List.getElem?_map, hx']; rfl
        rw [List.getElem?_map] at this hd
        cases hq : Dd[j]? with
        | none => (first | exact nn hd (hq) | cases ss (hq) hd | cases Eq.trans (Eq.symm (hq)) hd | (rw [hq] at hd; cases hd))
        | some p =>
          rw [hq] at hd this
          cases hd
          simp at this
          subst this
          exact .int _ _
      · obtain ⟨⟨o, e, _, hdat⟩, _⟩ := hst
        exact ⟨o, e, fun v q => by (first | exact nn q (hdat) | cases ss (hdat) q | cases Eq.trans (Eq.symm (hdat)) q | (rw [hdat] at q; cases q))⟩
    · cases e2
  · cases e2

noncomputable def rangeV : List PV → Option (List PV)
  | [.int b] => if decide (b ≤ 1000) && decide (-1000 ≤ b) then some ((List.range b.toNat).map fun i => .int (i : Nat)) else Option.none
  | [.int a, .int b] => if decide (b ≤ 500) && decide (-500 ≤ a) && decide (-500 ≤ b) && decide (a ≤ 500) then some ((List.range (b - a).toNat).map fun i => .int (a + (i : Nat))) else Option.none
  | _ => Option.none

inductive RangeV (ds d : List PV) : Prop
  | one (b : Int) : ds = [.int b] → b ≤ 1000 → -1000 ≤ b → d = ((List.range (b - 0).toNat).map fun i => .int (0 + (i : Nat))) → RangeV ds d
  | two (a b : Int) : ds = [.int a, .int b] → b ≤ 500 → -500 ≤ a → -500 ≤ b → a ≤ 500 → d = ((List.range (b - a).toNat).map fun i => .int (a + (i : Nat))) → RangeV ds d
theorem rangeV_some {ds d : List PV} (e : rangeV ds = some d) : RangeV ds d := by
  cases ds with
  | nil => exact no_none e
  | cons x l => cases x with
    | int a => cases l with
      | nil =>
        replace e : (if decide (a ≤ 1000) && decide (-1000 ≤ a) then some ((List.range a.toNat).map fun i => PV.int (i : Nat)) else Option.none) = some d := e
        split at e
        · next h =>
          rw [Bool.and_eq_true, decide_eq_true_eq, decide_eq_true_eq] at h
          exact .one a rfl h.1 h.2 (by rw [Int.sub_zero]; simp only [Int.zero_add]; exact (Option.some.inj e).symm)
        · exact no_none e
      | cons y l => cases l with
        | nil => cases y with
          | int b =>
            replace e : (if decide (b ≤ 500) && decide (-500 ≤ a) && decide (-500 ≤ b) && decide (a ≤ 500) then some ((List.range (b - a).toNat).map fun i => PV.int (a + (i : Nat))) else Option.none) = some d := e
            split at e
            · next h =>
              simp only [Bool.and_eq_true, decide_eq_true_eq] at h
              exact .two a b rfl h.1.1.1 h.1.1.2 h.1.2 h.2 (Option.some.inj e).symm
            · exact no_none e
          | _ => exact no_none e
        | cons _ _ => cases y <;> exact no_none e
    | _ => exact no_none e

theorem ItV.range {np pos : Pos} {es : List Expr} {ms : Rho → M (List PV)} (hl : sc.names.lookup ("range" : Str) = some .globalImplicit)
    (hb : wd.mg ("range" : Str) = Option.none ∧ wd.mb ("range" : Str) = some (.type "range")) (h : Evs wd sc k (fun env => spliced (backTo pos (starEach es env))) ms)
    (hp : ∀ env, (backTo pos (starEach es env)).any (·.1) = false := by intros; rfl) :
    ItV wd sc k (.Call (.Name "range" np) es [] pos) (fun ρ => bnd (ms ρ) fun ds => lift (rangeV ds)) := by
  intro cx S hs R ρ s n r n' e D L Q E hQ hE
  have hgG : s.heap.Ns cx.env.globals wd.mg := by rw [S.globals]; exact S.ok.g.keeps D.inv.stay
  have hgB : s.heap.Ns cx.env.builtins wd.mb := by rw [S.builtins]; exact S.ok.b.keeps D.inv.stay
  refine Call_Name rfl (Calls.Name_function_global S.kind (by unfold Env.kindOf; rw [hs]; exact hl) (Calls.loadGlobal_builtin hgG hb.1 hgB hb.2 ?_) (by decide))
  refine PyProof.Rows.callWith_type (hp _) (evalArgs_of (hp _) (h.bnd S hs R e D L (fun ds n₁ vs s₁ e₁ st₁ ra => ?_) hE))
  obtain ⟨d, e2, rfl, rfl⟩ := lift_some e₁
  have old : ∀ {h : Heap} (o' : Obj) b o, h.get? b = some o → (h.push o').get? b = some o := fun _ b o x => Heap.get?_push_of_some _ x
  have fin : ∀ (a b : Int) (tk : Tok) (o₁ : Obj), Builtin.Range.rangeSize a b 1 = ((b - a).toNat : Int) → (b - a).toNat ≤ 1000 → d = ((List.range (b - a).toNat).map fun i => PV.int (a + (i : Nat))) →
      Q (.ref (s₁.heap.push o₁).objs.size) { s₁ with heap := (s₁.heap.push o₁).push { cls := .type "range_iterator", data := .fields #[rawInt a, rawInt (Builtin.Range.rangeSize a b 1), rawInt 1] }, toks := tk } := by
    intro a b tk o₁ hsz hle hd
    subst hd
    have stp := st₁.trans (Step.of_keeps (h := s₁.heap.push o₁) st₁.dy tk (fun b o e => old _ b o e))
    refine hQ _ _ _ rfl (stp.trans (Step.of_keeps stp.dy tk (old _))) ⟨⟨[_], _, _, Walks.range S.handled _ a 1 _, ?_, fun b hb => .inl (List.mem_singleton.mp hb), fun j v d hv hd => ?_, fun i h hst => ⟨_, hst, fun v q => by cases q⟩⟩, stp.dy.fresh (Nat.le_refl _), by simpa using hle, stp.dy.add _ rfl⟩ (fresh_at stp)
    · have e1 : a + ((0 : Nat) : Int) * 1 = a := by simp
      have e2 : ((((List.range (b - a).toNat).map fun i => PV.int (a + (i : Nat))).length : Nat) : Int) - ((0 : Nat) : Int) = Builtin.Range.rangeSize a b 1 := by rw [hsz]; simp
      show IsRangeIter _ _ _ _ _
      rw [e1, e2]
      exact Heap.get?_push_size _ rfl
    · obtain ⟨t, rfl⟩ := hv
      simp only [List.getElem?_map, Option.map_eq_some_iff] at hd
      obtain ⟨i, hi, rfl⟩ := hd
      have : i = j := by
        rw [List.getElem?_eq_some_iff] at hi
        obtain ⟨_, hi⟩ := hi
        simpa using hi.symm
      subst this
      simpa using Rep.int (wd := wd) (X := (cx.add (s₁.heap.push o₁).objs.size).X) (h := _) (a + (i : Int) * 1) t
  rcases rangeV_some e2 with ⟨b, rfl, h1, h2, h3⟩ | ⟨a, b, rfl, h1, h2, h3, h4, h5⟩
  · obtain ⟨v, rfl, q⟩ := ra.one
    obtain ⟨_, rfl⟩ := q.int_inv
    exact call_range_1 (wpAny_pyIter_range (IsRange.new ..) (small_one (a := 0) (b := b) (by decide) (by decide) (by omega) (by omega)) (fin 0 b _ _ (by rw [rangeSize_one]; split <;> omega) (by omega) h3))
  · obtain ⟨v, u, rfl, q1, q2⟩ := ra.two
    obtain ⟨_, rfl⟩ := q1.int_inv
    obtain ⟨_, rfl⟩ := q2.int_inv
    exact call_range_2 (wpAny_pyIter_range (IsRange.new ..) (small_one (a := a) (b := b) (by omega) (by omega) (by omega) (by omega)) (fin a b _ _ (by rw [rangeSize_one]; split <;> omega) (by omega) h5))
end
end Lz
namespace Lz
open PySem PySem.W PyProof.Rows

inductive Fl where
  | next
  | ret (d : PV)

noncomputable def FlRep (wd : Wd) (cx : Cx) (h : Heap) : Flow → Fl → Prop
  | .next, .next => True
  | .ret v, .ret d => Rep wd cx.X h v d
  | _, _ => False

structure SThrown (wd : Wd) (cx : Cx) (am : Option Addr) (s : Shared) (n' : Int) (kd : Str) (ev : Value) (s' : Shared) : Prop where
  same : ∃ h tk, s' = { s with heap := h, toks := tk }
  go : SGo wd cx am s.heap s'.heap
  there : ∀ b o, s.heap.get? b = some o → ∃ o', s'.heap.get? b = some o'
  dy : Dy wd cx n' s'.heap
  flies : FliesFrom wd cx (fun base => ∀ b o, s.heap.get? b = some o → ¬ wd.W b → ¬ Own cx am b → ¬ frs cx.l b → base.get? b = some o) n' kd ev s'.heap

noncomputable def Sv (wd : Wd) (sc : Scope) (k : Nat) (t : Env → Sem Flow) (m : Sig → M (Fl × Sig)) : Prop :=
  ∀ cx, SF wd cx → cx.env.scope = sc → Room k cx.A → ∀ am σ s n r n', m σ n = some (r, n') → SOk wd cx am σ n s.heap →
    ∀ (Q : Flow → Shared → Prop) (E : Value → Shared → Prop),
      (∀ f σ' am' fv s', r = .ok (f, σ') → SSt wd cx am s am' s' → SOk wd cx am' σ' n' s'.heap → FlRep wd cx s'.heap fv f → Q fv s') →
      (∀ kd ev s', r = .error kd → SThrown wd cx am s n' kd ev s' → E ev s') →
      wpAny (model wd.prog wd.w) cx.A (t cx.env) Q E s

section
variable {wd : Wd} {sc : Scope} {k : Nat}

theorem notOwn {cx : Cx} {am am₁ : Option Addr} {s s₁ : Shared} (x : SSt wd cx am s am₁ s₁) {b : Addr} {o : Obj} (e : s.heap.get? b = some o) (hn : ¬ Own cx am b) : ¬ Own cx am₁ b := fun hy => by
  rcases hy with hy | hy | hy
  · exact hn (.inl hy)
  · exact hn (.inr (.inl hy))
  · cases ha : am with
    | some a =>
      have := x.keep a ha
      (first | exact nn this (hy) | cases ss (hy) this | cases Eq.trans (Eq.symm (hy)) this | (rw [hy] at this; cases this))
      exact hn (.inr (.inr ha))
    | none =>
      have := x.new ha b hy
      (first | exact nn this (e) | cases ss (e) this | cases Eq.trans (Eq.symm (e)) this | (rw [e] at this; cases this))

theorem SThrown.trans {cx : Cx} {am am₁ : Option Addr} {s s₁ s' : Shared} {n' : Int} {kd : Str} {ev : Value} (x : SSt wd cx am s am₁ s₁) (y : SThrown wd cx am₁ s₁ n' kd ev s') : SThrown wd cx am s n' kd ev s' := by
  obtain ⟨h, tk, rfl⟩ := x.same
  obtain ⟨h', tk', rfl⟩ := y.same
  obtain ⟨e, base, he, hf, hb, hx⟩ := y.flies
  refine ⟨⟨h', tk', rfl⟩, fun b o eo hw hn => ?_, fun b o eo => let ⟨o', e'⟩ := x.there b o eo; y.there b o' e', y.dy, e, base, he, hf, fun b o eo hw hn hnf => ?_, hx⟩
  · obtain ⟨x1, sl, x2⟩ := x.go b o eo hw hn
    obtain ⟨y1, sl', y2⟩ := y.go b _ x2 hw (notOwn x eo hn)
    exact ⟨fun hf => (y.go b o (x1 hf) hw (notOwn x eo hn)).1 hf, sl', y2⟩
  · exact hb b o ((x.go b o eo hw hn).1 hnf) hw (notOwn x eo hn) hnf

theorem Thrown.sthrown {cx : Cx} {am : Option Addr} {s s' : Shared} {n' : Int} {kd : Str} {ev : Value} (y : Thrown wd cx s n' kd ev s') : SThrown wd cx am s n' kd ev s' :=
  let ⟨e, base, he, hf, hb, hx⟩ := y.flies
  ⟨y.step.same, fun b o eo hw _ => y.step.go b o eo hw, y.step.there, y.step.dy, e, base, he, hf, fun b o eo hw _ hnf => hb b o eo hw hnf, hx⟩

theorem FlRep.next_inv {cx : Cx} {h : Heap} {fv : Flow} (x : FlRep wd cx h fv .next) : fv = .next := by
  cases fv with
  | next => rfl
  | _ => exact x.elim
theorem FlRep.ret_inv {cx : Cx} {h : Heap} {fv : Flow} {d : PV} (x : FlRep wd cx h fv (.ret d)) : ∃ v, fv = .ret v ∧ Rep wd cx.X h v d := by
  cases fv with
  | ret v => exact ⟨v, rfl, x⟩
  | _ => exact x.elim

/-- an expression, within a function -/
theorem EvG.inS {β α γ : Type} {rel : (Addr → Prop) → Heap → β → α → Prop} {t : Env → Sem β} {m : Rho → M α} (h : EvG wd rel sc k t m)
    {cx : Cx} (F : SF wd cx) (hs : cx.env.scope = sc) (R : Room k cx.A) {am : Option Addr} {σ : Sig} {s : Shared} {n n' : Int} {f : α → M γ} {r : Except Str γ}
    (e : Lz.bnd (m σ.all) f n = some (r, n')) (K : SOk wd cx am σ n s.heap) {Q : β → Shared → Prop} {E : Value → Shared → Prop}
    (hQ : ∀ d n₁ v s₁, f d n₁ = some (r, n') → SSt wd cx am s am s₁ → SOk wd cx am σ n₁ s₁.heap → rel cx.X s₁.heap v d → Q v s₁)
    (hE : ∀ kd ev s', r = .error kd → SThrown wd cx am s n' kd ev s' → E ev s') : wpAny (model wd.prog wd.w) cx.A (t cx.env) Q E s :=
  h.bnd F.st hs R e K.dy K.all (fun d n₁ v s₁ e₁ st₁ ra => hQ d n₁ v s₁ e₁ st₁.sst (K.go F st₁) ra) fun kd ev s' h1 h2 => hE kd ev s' h1 h2.sthrown

/-- targets -/
noncomputable def Av (wd : Wd) (sc : Scope) (t : Env → Value → Sem Unit) (f : PV → Sig → Option Sig) : Prop :=
  ∀ cx, SF wd cx → cx.env.scope = sc → ∀ am σ s n v d σ', f d σ = some σ' → SOk wd cx am σ n s.heap → Rep wd (cx.plus am).X s.heap v d →
    ∀ (Q : Unit → Shared → Prop) (E : Value → Shared → Prop), (∀ s', SSt wd cx am s am s' → SOk wd cx am σ' n s'.heap → Q () s') → wpAny (model wd.prog wd.w) cx.A (t cx.env v) Q E s
noncomputable def AvL (wd : Wd) (sc : Scope) (ts : Env → List (Value → Sem Unit)) (f : List PV → Sig → Option Sig) : Prop :=
  ∀ cx, SF wd cx → cx.env.scope = sc → ∀ am σ s n vs ds σ', f ds σ = some σ' → SOk wd cx am σ n s.heap → Reps wd (cx.plus am).X s.heap vs ds →
    ∀ (Q : Unit → Shared → Prop) (E : Value → Shared → Prop), (∀ s', SSt wd cx am s am s' → SOk wd cx am σ' n s'.heap → Q () s') → wpAny (model wd.prog wd.w) cx.A (assignInOrder (ts cx.env) vs) Q E s

noncomputable def put (x : Str) (d : PV) (σ : Sig) : Option Sig := if muIs σ x then Option.none else some { σ with ρ := setR x d σ.ρ }

theorem Av.store {x : Str} (hk : sc.names.lookup x = some .local ∨ sc.names.lookup x = some .cell) : Av wd sc (fun env v => storeName env x v) (put x) := by
  intro cx F hs am σ s n v d σ' e K r Q E hQ
  unfold put at e
  split at e
  · cases e
  · next hm =>
    cases e
    exact storeS F K r (by unfold Env.kindOf; rw [hs]; exact hk) (by simpa using hm) fun s' a b _ _ _ => hQ s' a b
theorem Av.name {x : Str} {pos : Pos} (hk : sc.names.lookup x = some .local ∨ sc.names.lookup x = some .cell) : Av wd sc (assign (.Name x pos)) (put x) := by
  intro cx F hs am σ s n v d σ' e K r Q E hQ
  exact wpAny_assign_Name (Av.store hk cx F hs am σ s n v d σ' e K r Q E hQ)
theorem Av.bind {x : Str} (hk : sc.names.lookup x = some .local ∨ sc.names.lookup x = some .cell) : Av wd sc (fun env v => bindName env x v) (put x) := by
  intro cx F hs am σ s n v d σ' e K r Q E hQ
  exact wpAny_bindName (Av.store hk cx F hs am σ s n v d σ' e K r Q E hQ)

noncomputable def putL : List (PV → Sig → Option Sig) → List PV → Sig → Option Sig
  | [], [], σ => some σ
  | f :: fs, d :: ds, σ => match f d σ with | some σ' => putL fs ds σ' | Option.none => Option.none
  | _, _, _ => Option.none

theorem plusRep {cx : Cx} {am : Option Addr} {σ : Sig} {n : Int} {s s' : Shared} (F : SF wd cx) (st : SSt wd cx am s am s') (K : SOk wd cx am σ n s.heap)
    {vs : List Value} {ds : List PV} (r : Reps wd (cx.plus am).X s.heap vs ds) : Reps wd (cx.plus am).X s'.heap vs ds :=
  r.monoC (fun _ _ _ z _ => z) fun b o e hx hc => (st.go b o e (fun hw => hx (.inl (F.st.xw b hw))) fun hown => by
    rcases hown with q | ⟨y, q⟩ | q
    · exact hx (.inl (q ▸ F.own.2.2))
    · obtain ⟨v, o', e', hd⟩ := K.cell y b q
      (first | exact nn e' (e) | cases ss (e) e' | cases Eq.trans (Eq.symm (e)) e' | (rw [e] at e'; cases e'))
      exact hc v hd
    · exact hx (.inr q)).1 fun ⟨e', he', hf⟩ => by
      obtain ⟨_, L, hL, _, _, hXL⟩ := F.st.chain e' he'
      (first | exact nn hf (hL) | cases ss (hL) hf | cases Eq.trans (Eq.symm (hL)) hf | (rw [hL] at hf; cases hf))
      exact hx (.inl hXL)

theorem AvL.nil : AvL wd sc (fun _ => []) (putL []) := by
  intro cx F hs am σ s n vs ds σ' e K r Q E hQ
  cases ds with
  | nil => cases e; cases r; exact wpAny_pure (hQ s SSt.refl K)
  | cons _ _ => cases e
theorem AvL.cons {t : Env → Value → Sem Unit} {ts : Env → List (Value → Sem Unit)} {f : PV → Sig → Option Sig} {fs : List (PV → Sig → Option Sig)} (ht : Av wd sc t f) (hts : AvL wd sc ts (putL fs)) :
    AvL wd sc (fun env => t env :: ts env) (putL (f :: fs)) := by
  intro cx F hs am σ s n vs ds σ' e K r Q E hQ
  cases r with
  | nil => cases e
  | @cons v d vs ds p r =>
    simp only [putL] at e
    cases h1 : f d σ with
    | none => (first | exact nn e (h1) | cases ss (h1) e | cases Eq.trans (Eq.symm (h1)) e | (rw [h1] at e; cases e))
    | some σ₁ =>
      rw [h1] at e
      refine wpAny_bind (wpAny_holding (ht cx F hs am σ s n v d σ₁ h1 K p _ _ fun s₁ st₁ K₁ => ?_))
      exact hts cx F hs am σ₁ s₁ n vs ds σ' e K₁ (plusRep F st₁ K r) _ _ fun s₂ st₂ K₂ => hQ s₂ (st₁.trans st₂) K₂

/-- a tuple of targets -/
noncomputable def unp (n : Nat) (f : List PV → Sig → Option Sig) : PV → Sig → Option Sig
  | .tup ds, σ => if ds.length = n then f ds σ else Option.none
  | _, _ => Option.none
theorem Av.tuple {elts : List Expr} {kd : Nat} {pos : Pos} {N : Nat} {f : List PV → Sig → Option Sig} (h : AvL wd sc (fun env => (assignEach elts env).map (·.2)) f)
    (hn : ∀ env, (assignEach elts env).length = N := by intros; rfl) (hstar : ∀ env, (assignEach elts env).findIdx? (·.1) = Option.none := by intros; rfl) :
    Av wd sc (assign (.Tuple elts kd pos)) (unp N f) := by
  intro cx F hs am σ s n v d σ' e K r Q E hQ
  cases r <;> simp only [unp, reduceCtorEq] at e
  next hx ho r =>
  split at e
  · next hlen =>
    have hl := r.length
    rw [Array.length_toList] at hl
    refine assign_Tuple_tuple F.st.handled ⟨_, ho, rfl, _, rfl⟩ (by rw [hn, hl, hlen]) (hstar _) fun h' hx' => ?_
    have kk : ∀ b o, s.heap.get? b = some o → h'.get? b = some o := fun b o eo => hx' b o (Nat.ne_of_lt (Heap.lt_size eo)) eo
    have stp : Step wd cx s n { s with heap := h' } := Step.of_keeps K.dy s.toks kk
    exact h cx F hs am σ { s with heap := h' } n _ _ σ' e (K.go F stp) (r.keeps kk) _ _ fun s₂ st₂ K₂ => hQ s₂ (stp.sst.trans st₂) K₂
  · cases e

noncomputable def asg (mv : Rho → M PV) (f : PV → Sig → Option Sig) (σ : Sig) : M (Fl × Sig) := bnd (mv σ.all) fun d => if stor σ d then bnd (lift (f d σ)) fun σ' => ret (.next, σ') else stuck

theorem asg_tail {σ : Sig} {d : PV} {f : PV → Sig → Option Sig} {n n' : Int} {r : Except Str (Fl × Sig)} (e : (if stor σ d then bnd (lift (f d σ)) fun σ' => ret (Fl.next, σ') else stuck) n = some (r, n')) :
    stor σ d = true ∧ ∃ σ', f d σ = some σ' ∧ r = .ok (.next, σ') ∧ n' = n := by
  split at e
  · next hst =>
    rcases bnd_some e with ⟨σ', n₁, e1, e2⟩ | ⟨kd, e1, rfl⟩
    · obtain ⟨a, e3, h3, rfl⟩ := lift_some e1
      cases h3
      obtain ⟨rfl, rfl⟩ := ret_some e2
      exact ⟨hst, _, e3, rfl, rfl⟩
    · obtain ⟨_, _, h, _⟩ := lift_some e1
      cases h
  · cases e

/-- one target, no swap -/
theorem Sv.assign {target value : Expr} {pos : Pos} {mv : Rho → M PV} {f : PV → Sig → Option Sig} (hv : Ev wd sc k (eval value) mv) (ha : Av wd sc (assign target) f)
    (hsw : ∀ env, swapsWith value (some target) pos.line env = pure false := by intros; rfl)
    (hss : ∀ env : Env, env.scope = sc → swappedStores [target] value env = pure Option.none := by intros; rfl)
    (hea : ∀ env, (assignEach [target] env).map (·.2) = [PySem.assign target env] := by intros; rfl) :
    Sv wd sc k (exec (.Assign [target] value pos)) (asg mv f) := by
  intro cx F hs R am σ s n r n' e K Q E hQ hE
  rw [arm_exec_Assign]
  refine wpAny_bind (wpAny_standAt ?_)
  rw [show swapsWithSole [target] value pos.line cx.env = pure false from hsw _]
  refine wpAny_bind (wpAny_pure ?_)
  rw [if_neg Bool.false_ne_true]
  refine wpAny_bind (hv.inS F hs R e K (fun d n₁ v s₁ e₁ st₁ K₁ rv => ?_) hE)
  obtain ⟨hst, σ', e3, rfl, rfl⟩ := asg_tail e₁
  rw [hss _ hs]
  refine wpAny_bind (wpAny_pure ?_)
  rw [hea]
  refine wpAny_bind ?_
  exact ha cx F hs am σ s₁ _ v d σ' e3 K₁ (K₁.stor rv hst) _ _ fun s₂ st₂ K₂ => wpAny_pure (hQ .next σ' am .next s₂ rfl (st₁.trans st₂) K₂ trivial)

/-- a tuple of names from a tuple of values, stored in turned order -/
theorem Sv.swap {target value : Expr} {names : List Str} {pos : Pos} {mv : Rho → M PV} {f : List PV → Sig → Option Sig} (hv : Ev wd sc k (eval value) mv)
    (ha : AvL wd sc (fun env => names.reverse.map fun n => bindName env n) f)
    (hsw : ∀ env, swapsWith value (some target) pos.line env = pure false := by intros; rfl)
    (hss : ∀ env : Env, env.scope = sc → swappedStores [target] value env = pure (some names)) :
    Sv wd sc k (exec (.Assign [target] value pos)) (asg mv (unp names.length fun ds => f ds.reverse)) := by
  intro cx F hs R am σ s n r n' e K Q E hQ hE
  rw [arm_exec_Assign]
  refine wpAny_bind (wpAny_standAt ?_)
  rw [show swapsWithSole [target] value pos.line cx.env = pure false from hsw _]
  refine wpAny_bind (wpAny_pure ?_)
  rw [if_neg Bool.false_ne_true]
  refine wpAny_bind (hv.inS F hs R e K (fun d n₁ v s₁ e₁ st₁ K₁ rv => ?_) hE)
  obtain ⟨hst, σ', e3, rfl, rfl⟩ := asg_tail e₁
  rw [hss _ hs]
  refine wpAny_bind (wpAny_pure ?_)
  have rp := K₁.stor rv hst
  cases rp <;> simp only [unp, reduceCtorEq] at e3
  next hx ho rr =>
  split at e3
  · next hlen =>
    have hl := rr.length
    rw [Array.length_toList] at hl
    unfold assignStores
    refine wpAny_bind (wpAny_rule (wpAny_bind ?_))
    rw [← hlen, ← hl]
    refine unpackItems_tuple F.st.handled ⟨_, ho, rfl, _, rfl⟩ fun h' hx' => ?_
    have kk : ∀ b o, s₁.heap.get? b = some o → h'.get? b = some o := fun b o eo => hx' b o (Nat.ne_of_lt (Heap.lt_size eo)) eo
    have stp : Step wd cx s₁ n' { s₁ with heap := h' } := Step.of_keeps K₁.dy s₁.toks kk
    have rev : ∀ {vs : List Value} {ds : List PV}, Reps wd (cx.plus am).X h' vs ds → Reps wd (cx.plus am).X h' vs.reverse ds.reverse := by
      intro vs ds r
      induction ds generalizing vs with
      | nil => cases r; exact .nil
      | cons d ds ih => cases r with
        | cons p r => rw [List.reverse_cons, List.reverse_cons]; exact (ih r).append (.cons p .nil)
    refine wpAny_bind (ha cx F hs am σ { s₁ with heap := h' } n' _ _ σ' e3 (K₁.go F stp) (rev (rr.keeps kk)) _ _ fun s₂ st₂ K₂ => ?_)
    exact wpAny_pure (hQ .next σ' am .next s₂ rfl (st₁.trans (stp.sst.trans st₂)) K₂ trivial)
  · cases e3

theorem Sv.ret {value : Expr} {pos : Pos} {mv : Rho → M PV} (hv : Ev wd sc k (eval value) mv) : Sv wd sc k (exec (.Return (some value) pos)) (fun σ => bnd (mv σ.all) fun d => Lz.ret (.ret d, σ)) := by
  intro cx F hs R am σ s n r n' e K Q E hQ hE
  refine wpAny_Return_some (hv.inS F hs R e K (fun d n₁ v s₁ e₁ st₁ K₁ rv => ?_) hE)
  obtain ⟨rfl, rfl⟩ := ret_some e₁
  exact hQ _ _ am _ _ rfl st₁ K₁ rv

theorem Sv.nil : Sv wd sc k (execs []) (fun σ => Lz.ret (.next, σ)) := by
  intro cx F hs R am σ s n r n' e K Q E hQ hE
  obtain ⟨rfl, rfl⟩ := ret_some e
  exact wpAny_execs_nil (hQ _ _ am _ _ rfl SSt.refl K trivial)

noncomputable def seqM (m₁ m₂ : Sig → M (Fl × Sig)) (σ : Sig) : M (Fl × Sig) := bnd (m₁ σ) fun q => match q.1 with | .next => m₂ q.2 | .ret d => Lz.ret (.ret d, q.2)

theorem Sv.bnd {t : Env → Sem Flow} {m : Sig → M (Fl × Sig)} (h : Sv wd sc k t m) {cx : Cx} (F : SF wd cx) (hs : cx.env.scope = sc) (R : Room k cx.A) {am : Option Addr} {σ : Sig} {s : Shared} {n n' : Int} {γ : Type} {f : Fl × Sig → M γ} {r : Except Str γ}
    (e : Lz.bnd (m σ) f n = some (r, n')) (K : SOk wd cx am σ n s.heap) {Q : Flow → Shared → Prop} {E : Value → Shared → Prop}
    (hQ : ∀ g σ' n₁ am' fv s₁, f (g, σ') n₁ = some (r, n') → SSt wd cx am s am' s₁ → SOk wd cx am' σ' n₁ s₁.heap → FlRep wd cx s₁.heap fv g → Q fv s₁)
    (hE : ∀ kd ev s', r = .error kd → SThrown wd cx am s n' kd ev s' → E ev s') : wpAny (model wd.prog wd.w) cx.A (t cx.env) Q E s := by
  rcases bnd_some e with ⟨⟨g, σ'⟩, n₁, e1, e2⟩ | ⟨kd, e1, rfl⟩
  · exact h cx F hs R am σ s n _ _ e1 K Q E (fun f' σ'' am' fv s' hd st K' hf => by cases hd; exact hQ _ _ _ _ _ _ e2 st K' hf) fun kd ev s' he => by cases he
  · exact h cx F hs R am σ s n _ _ e1 K Q E (fun f' σ'' am' fv s' hd => by cases hd) fun kd' ev s' he ht => hE _ _ _ (by cases he; rfl) ht

theorem Sv.cons {st : Stmt} {rest : List Stmt} {m₁ m₂ : Sig → M (Fl × Sig)} (h₁ : Sv wd sc k (exec st) m₁) (h₂ : Sv wd sc k (execs rest) m₂) : Sv wd sc k (execs (st :: rest)) (seqM m₁ m₂) := by
  intro cx F hs R am σ s n r n' e K Q E hQ hE
  refine wpAny_execs_cons (h₁.bnd F hs R e K (fun g σ' n₁ am' fv s₁ e₁ st₁ K₁ hf => ?_) hE)
  cases g with
  | next =>
    rw [hf.next_inv]
    exact h₂ cx F hs R am' σ' s₁ n₁ r n' e₁ K₁ Q E (fun f σ'' am'' fv s' h1 h2 h3 h4 => hQ f σ'' am'' fv s' h1 (st₁.trans h2) h3 h4) fun kd ev s' h1 h2 => hE kd ev s' h1 (SThrown.trans st₁ h2)
  | ret d =>
    obtain ⟨v, hv, hf⟩ := hf.ret_inv
    obtain ⟨rfl, rfl⟩ := ret_some e₁
    rw [hv]
    exact hQ _ _ am' _ _ rfl st₁ K₁ hf

theorem Sv.cond {test : Expr} {body orelse : List Stmt} {pos : Pos} {mt : Rho → M Bool} {mb mo : Sig → M (Fl × Sig)} (ht : Tv wd sc k (fun env => isTrue test env (eval test env)) mt)
    (hb : Sv wd sc k (execs body) mb) (ho : Sv wd sc k (execs orelse) mo) : Sv wd sc k (exec (.If test body orelse pos)) (fun σ => Lz.bnd (mt σ.all) fun b => if b then mb σ else mo σ) := by
  intro cx F hs R am σ s n r n' e K Q E hQ hE
  refine wpAny_If (ht.inS F hs R e K (fun d n₁ v s₁ e₁ st₁ K₁ rv => ?_) hE)
  cases rv
  cases d with
  | true => exact hb cx F hs R am σ s₁ n₁ r n' e₁ K₁ Q E (fun f σ'' am'' fv s' h1 h2 h3 h4 => hQ f σ'' am'' fv s' h1 (st₁.trans h2) h3 h4) fun kd ev s' h1 h2 => hE kd ev s' h1 (SThrown.trans st₁ h2)
  | false => exact ho cx F hs R am σ s₁ n₁ r n' e₁ K₁ Q E (fun f σ'' am'' fv s' h1 h2 h3 h4 => hQ f σ'' am'' fv s' h1 (st₁.trans h2) h3 h4) fun kd ev s' h1 h2 => hE kd ev s' h1 (SThrown.trans st₁ h2)

/-- no exceptions are looked at within loops -/
noncomputable def noErr {α : Type} (m : M α) : M α := fun n => match m n with
  | some (.ok a, n') => some (.ok a, n')
  | _ => Option.none
theorem noErr_some {α : Type} {m : M α} {n n' : Int} {r : Except Str α} (h : noErr m n = some (r, n')) : ∃ a, r = .ok a ∧ m n = some (.ok a, n') := by
  unfold noErr at h
  split at h
  · cases h; exact ⟨_, rfl, by assumption⟩
  · cases h

theorem noErr_bnd {α β : Type} {m : M α} {f : α → M β} {n n' : Int} {r : Except Str β} (h : bnd (noErr m) f n = some (r, n')) : ∃ a n₁, m n = some (.ok a, n₁) ∧ f a n₁ = some (r, n') := by
  rcases bnd_some h with ⟨a, n₁, e1, e2⟩ | ⟨kd, e1, rfl⟩
  · obtain ⟨_, q, e3⟩ := noErr_some e1
    cases q; exact ⟨_, _, e3, e2⟩
  · obtain ⟨_, q, _⟩ := noErr_some e1; cases q
theorem Sv.okAt {t : Env → Sem Flow} {m : Sig → M (Fl × Sig)} (h : Sv wd sc k t m) {cx : Cx} (F : SF wd cx) (hs : cx.env.scope = sc) (R : Room k cx.A) {am : Option Addr} {σ σ' : Sig} {g : Fl} {s : Shared} {n n' : Int}
    (e : m σ n = some (.ok (g, σ'), n')) (K : SOk wd cx am σ n s.heap) {Q : Flow → Shared → Prop} {E : Value → Shared → Prop}
    (hQ : ∀ am' fv s₁, SSt wd cx am s am' s₁ → SOk wd cx am' σ' n' s₁.heap → FlRep wd cx s₁.heap fv g → Q fv s₁) : wpAny (model wd.prog wd.w) cx.A (t cx.env) Q E s :=
  h cx F hs R am σ s n _ _ e K Q E (fun _ _ am' fv s₁ hd st K' hf => hQ am' fv s₁ st (by cases hd; exact K') (by cases hd; exact hf)) fun _ _ _ hd => nomatch hd
noncomputable def whileM (t : Sig → M Bool) (body : Sig → M (Fl × Sig)) : Nat → Sig → M (Fl × Sig)
  | 0, _ => stuck
  | j + 1, σ => bnd (noErr (t σ)) fun b => if b then bnd (noErr (body σ)) fun q => (match q.1 with | .next => whileM t body j q.2 | .ret d => Lz.ret (.ret d, q.2)) else Lz.ret (.next, σ)


theorem Sv.loop {test : Expr} {body : List Stmt} {pos : Pos} {mt : Rho → M Bool} {mb : Sig → M (Fl × Sig)} (N : Nat) (ht : Tv wd sc k (fun env => isTrue test env (eval test env)) mt)
    (hb : Sv wd sc k (execs body) mb) : Sv wd sc k (exec (.While test body [] pos)) (whileM (fun σ => mt σ.all) mb N) := by
  intro cx F hs R am σ s n r n' e K Q E hQ hE
  refine wpAny_While (codeAny_whileLoop (fun j s₁ => ∃ σ₁ n₁ am₁, whileM (fun σ => mt σ.all) mb j σ₁ n₁ = some (r, n') ∧ SSt wd cx am s am₁ s₁ ∧ SOk wd cx am₁ σ₁ n₁ s₁.heap) ?_ N ⟨σ, n, am, e, SSt.refl, K⟩)
  rintro j s₁ ⟨σ₁, n₁, am₁, e₁, st₁, K₁⟩
  cases j with
  | zero => exact nomatch e₁
  | succ j =>
  obtain ⟨b, n₂, e2, e3⟩ := noErr_bnd e₁
  refine ht.okAt F.st hs R e2 K₁.dy K₁.all fun v s₂ st₂ hv => ?_
  subst hv
  have K₂ := K₁.go F st₂
  have st₁₂ := st₁.trans (st₂.sst (am := am₁))
  cases v with
  | false =>
    obtain ⟨hr, hn⟩ := ret_some e3
    exact wpAny_execs_nil (hQ _ _ am₁ _ _ hr st₁₂ (hn ▸ K₂) trivial)
  | true =>
    obtain ⟨⟨g, σ₃⟩, n₃, e5, e6⟩ := noErr_bnd e3
    refine hb.okAt F hs R e5 K₂ fun am'' fv s' st₃ K₃ hf => ?_
    cases g with
    | next =>
      rw [hf.next_inv]
      exact ⟨j, Nat.lt_succ_self _, σ₃, n₃, am'', e6, st₁₂.trans st₃, K₃⟩
    | ret d =>
      obtain ⟨v, hv, hf⟩ := hf.ret_inv
      obtain ⟨hr, hn⟩ := ret_some e6
      rw [hv]
      exact hQ _ _ am'' _ _ hr (st₁₂.trans st₃) (hn ▸ K₃) hf
end
end Lz
namespace Lz
open PySem PySem.W PyProof.Rows

section
variable {wd : Wd} {sc : Scope} {k : Nat}

/-- for x in row -/
noncomputable def forM (x : Str) (body : Sig → M (Fl × Sig)) : List PV → Sig → M (Fl × Sig)
  | [], σ => ret (.next, σ)
  | d :: ds, σ => match put x d σ with
    | some σ₁ => bnd (noErr (body σ₁)) fun q => if q.2.mu.isNone == σ.mu.isNone then (match q.1 with | .next => forM x body ds q.2 | .ret d => ret (.ret d, q.2)) else stuck
    | Option.none => stuck

theorem MuOk.there {cx : Cx} {am : Option Addr} {h : Heap} {mu : Option (Str × PV)} (m : MuOk wd cx am h mu) : ∀ b, am = some b → ∃ o, h.get? b = some o ∧ ∀ vs, o.data ≠ .fields vs := fun b q => by
  cases mu with
  | none => (first | exact nn q (show am = Option.none from m) | cases ss (show am = Option.none from m) q | cases Eq.trans (Eq.symm (show am = Option.none from m)) q | (rw [show am = Option.none from m] at q; cases q))
  | some p =>
    obtain ⟨a, ha, _, _, _, _, ho⟩ := m
    (first | exact nn ha (q) | cases ss (q) ha | cases Eq.trans (Eq.symm (q)) ha | (rw [q] at ha; cases ha))
    revert ho
    generalize p.2 = d
    intro ho
    cases ho with
    | lst e _ => exact ⟨_, e, fun vs q => by cases q⟩
    | dic _ e _ _ => obtain ⟨o, _, _, e, _, hd, _⟩ := e; exact ⟨o, e, fun vs q => by (first | exact nn q (hd) | cases ss (hd) q | cases Eq.trans (Eq.symm (hd)) q | (rw [hd] at q; cases q))⟩
theorem SOk.dyPlus {cx : Cx} {am : Option Addr} {σ : Sig} {n : Int} {h : Heap} (K : SOk wd cx am σ n h) : Dy wd (cx.plus am) n h :=
  ⟨K.dy.inv, K.dy.frs, fun b hb => hb.elim (K.dy.there b) fun q => let ⟨o, e, _⟩ := K.mu.there b q; ⟨o, e⟩, fun P q ps pos c hm e hc hx => hx.elim (K.dy.code P q ps pos c hm e hc) fun z => by
    obtain ⟨o, e1, hn⟩ := K.mu.there c z
    obtain ⟨o', vs, e2, hd⟩ := K.dy.inv.codeThere hm e hc
    (first | exact nn e2 (e1) | cases ss (e1) e2 | cases Eq.trans (Eq.symm (e1)) e2 | (rw [e1] at e2; cases e2))
    exact hn vs hd⟩
theorem Dy.sub {cx cx' : Cx} {n : Int} {h : Heap} (x : Dy wd cx n h) (hl : cx'.l = cx.l) (hX : ∀ b, cx'.X b → cx.X b) : Dy wd cx' n h :=
  ⟨x.inv, by rw [hl]; exact x.frs, fun b hb => x.there b (hX b hb), fun P q ps pos c hm e hc hx => x.code P q ps pos c hm e hc (hX _ hx)⟩
theorem Dy.sub' {cx cx' : Cx} {n : Int} {h : Heap} (x : Dy wd cx n h) (hl : ∀ e ∈ cx'.l, e ∈ cx.l) (hX : ∀ b, cx'.X b → cx.X b) : Dy wd cx' n h :=
  ⟨x.inv, fun e he => x.frs e (hl e he), fun b hb => x.there b (hX b hb), fun P q ps pos c hm e hc hx => x.code P q ps pos c hm e hc (hX _ hx)⟩
theorem Step.unplus {cx : Cx} {am : Option Addr} {s s' : Shared} {n' : Int} (x : Step wd (cx.plus am) s n' s') : Step wd cx s n' s' :=
  ⟨x.same, x.go, x.dy.sub rfl fun b hb => .inl hb, x.there⟩

theorem SF.add {cx : Cx} {I : Addr} (F : SF wd cx) (h1 : I ≠ wd.Lf) (h2 : wd.G.get? I = Option.none) : SF wd (cx.add I) where
  st := { ok := F.st.ok, frames := F.st.frames, handled := F.st.handled, kind := F.st.kind, globals := F.st.globals, builtins := F.st.builtins
          chain := fun e he => let ⟨h1, L, h2, h3, h4, h5⟩ := F.st.chain e he; ⟨h1, L, h2, h3, h4, .inl h5⟩
          xw := fun b hb => .inl (F.st.xw b hb)
          xlf := fun h => h.elim F.st.xlf fun q => h1 q.symm
          xg := fun b o e h => h.elim (F.st.xg b o e) fun q => by (first | exact nn e ((q) ▸ (h2)) | (rw [q, h2] at e; cases e))
          cellIs := F.st.cellIs
          code := F.st.code }
  outer := F.outer
  frame := F.frame
  cellG := F.cellG
  cellIs := F.cellIs
  apart := F.apart

/-- a thing apart from all that the function has -/
structure Apart (wd : Wd) (cx : Cx) (am : Option Addr) (I : Addr) : Prop where
  nl : I ≠ cx.env.locals
  nc : ∀ y, cx.env.cells.lookup y ≠ some I
  nw : ¬ wd.W I
  ng : wd.G.get? I = Option.none
  nf : ¬ frs cx.l I
  nlf : I ≠ wd.Lf
  nam : am ≠ some I
theorem SOk.apart {cx : Cx} {am : Option Addr} {σ : Sig} {n : Int} {h : Heap} (F : SF wd cx) (K : SOk wd cx am σ n h) {I : Addr} (hI : h.get? I = Option.none) : Apart wd cx am I where
  nl := fun q => by obtain ⟨m, o, _, _, e, _⟩ := K.ns; (first | exact nn e ((q) ▸ (hI)) | (rw [← q, hI] at e; cases e))
  nc := fun y q => by obtain ⟨v, o, e, _⟩ := K.cell y I q; (first | exact nn e (hI) | cases ss (hI) e | cases Eq.trans (Eq.symm (hI)) e | (rw [hI] at e; cases e))
  nw := fun q => by obtain ⟨o, e⟩ := K.dy.there I (F.st.xw I q); (first | exact nn e (hI) | cases ss (hI) e | cases Eq.trans (Eq.symm (hI)) e | (rw [hI] at e; cases e))
  ng := by
    cases q : wd.G.get? I with
    | none => rfl
    | some o => have := K.dy.inv.stay I o q; (first | exact nn this (hI) | cases ss (hI) this | cases Eq.trans (Eq.symm (hI)) this | (rw [hI] at this; cases this))
  nf := fun ⟨e, he, hf⟩ => by
    obtain ⟨L, m, hL, o, _, _, eo, _⟩ := K.dy.frs e he
    (first | exact nn hL (hf) | cases ss (hf) hL | cases Eq.trans (Eq.symm (hf)) hL | (rw [hf] at hL; cases hL))
    (first | exact nn eo (hI) | cases ss (hI) eo | cases Eq.trans (Eq.symm (hI)) eo | (rw [hI] at eo; cases eo))
  nlf := fun q => by obtain ⟨its, k, e, _⟩ := K.dy.inv.froz; (first | exact nn e ((q) ▸ (hI)) | (rw [← q, hI] at e; cases e))
  nam := fun q => by obtain ⟨o, e, _⟩ := K.mu.there I q; (first | exact nn e (hI) | cases ss (hI) e | cases Eq.trans (Eq.symm (hI)) e | (rw [hI] at e; cases e))

theorem Reps.addX {X : Addr → Prop} {h : Heap} {I : Addr} (hI : h.get? I = Option.none) {vs : List Value} {ds : List PV} {X' : Addr → Prop} (hX : ∀ b, X' b → X b ∨ b = I) (r : Reps wd X h vs ds) : Reps wd X' h vs ds :=
  r.mono (fun b o e hx z => (hX b z).elim hx fun q => by (first | exact nn e ((q) ▸ (hI)) | (rw [q, hI] at e; cases e))) fun _ _ e _ => e
theorem Rep.addX {X : Addr → Prop} {h : Heap} {I : Addr} (hI : h.get? I = Option.none) {v : Value} {d : PV} {X' : Addr → Prop} (hX : ∀ b, X' b → X b ∨ b = I) (r : Rep wd X h v d) : Rep wd X' h v d :=
  r.mono (fun b o e hx z => (hX b z).elim hx fun q => by (first | exact nn e ((q) ▸ (hI)) | (rw [q, hI] at e; cases e))) fun _ _ e _ => e

/-- setting the iterator apart -/
theorem SOk.add {cx : Cx} {am : Option Addr} {σ : Sig} {n n' : Int} {s s' : Shared} (F : SF wd cx) (K : SOk wd cx am σ n s.heap) {I : Addr} (hI : s.heap.get? I = Option.none)
    (st : Step wd cx s n' s') (D : Dy wd (cx.add I) n' s'.heap) : SOk wd (cx.add I) am σ n' s'.heap := by
  have ap := K.apart F hI
  have FI := F.add ap.nlf ap.ng
  have K' := K.go F st
  have hX : ∀ b, ((cx.add I).plus am).X b → (cx.plus am).X b ∨ b = I := fun b hb => by
    rcases hb with (hb | hb) | hb
    · exact .inl (.inl hb)
    · exact .inr hb
    · exact .inl (.inr hb)
  have Sp : St wd ((cx.add I).plus am) := FI.plus fun a ha => ⟨(K.mu.out a ha).1, (K.mu.out a ha).2.1⟩
  refine ⟨D, K'.ns, K'.cell, fun y d e => ?_, ?_⟩
  · obtain ⟨v, b, r⟩ := K.loc y d e
    exact ⟨v, b.go st.go, (r.addX hI hX).go (cx := (cx.add I).plus am) Sp st.go⟩
  · have hm := K.mu
    cases hs : σ.mu with
    | none => rw [hs] at hm; exact hm
    | some p =>
      rw [hs] at hm
      obtain ⟨a, ha, h1, h2, h3, hb, ho⟩ := hm
      subst ha
      have h1' : ¬ (cx.add I).X a := fun z => z.elim h1 fun q => ap.nam (by rw [q])
      refine ⟨a, rfl, h1', h2, h3, hb.go st.go, Owned.go Sp h1' FI.st st.go ?_⟩
      revert ho
      generalize p.2 = d
      intro ho
      cases ho with
      | lst e r => exact .lst e (r.addX hI hX)
      | dic lo e hk r => exact .dic lo e hk (r.addX hI hX)
theorem SOk.weak {cx : Cx} {I : Addr} {am : Option Addr} {σ : Sig} {n : Int} {h : Heap} (K : SOk wd (cx.add I) am σ n h) : SOk wd cx am σ n h := by
  have hX : ∀ {am : Option Addr} b, ((cx.plus am).X b) → ((cx.add I).plus am).X b := fun b hb => hb.elim (fun z => .inl (.inl z)) .inr
  refine ⟨K.dy.sub rfl fun b hb => .inl hb, K.ns, K.cell, fun y d e => ?_, ?_⟩
  · obtain ⟨v, b, r⟩ := K.loc y d e
    exact ⟨v, b, r.mono (fun b _ _ x z => x (hX b z)) fun _ _ e _ => e⟩
  · have hm := K.mu
    cases hs : σ.mu with
    | none => rw [hs] at hm; exact hm
    | some p =>
      rw [hs] at hm
      obtain ⟨a, ha, h1, h2, h3, hb, ho⟩ := hm
      refine ⟨a, ha, fun z => h1 (.inl z), h2, h3, hb, ?_⟩
      revert ho
      generalize p.2 = d
      intro ho
      cases ho with
      | lst e r => exact .lst e (r.mono (fun b _ _ x z => x (hX b z)) fun _ _ e _ => e)
      | dic lo e hk r => exact .dic lo e hk (r.mono (fun b _ _ x z => x (hX b z)) fun _ _ e _ => e)

/-- the iterator alone moves -/
theorem SOk.but {cx : Cx} {I : Addr} {am : Option Addr} {σ : Sig} {n : Int} {h h' : Heap} (ap : Apart wd cx am I) (K : SOk wd (cx.add I) am σ n h)
    (keep : ∀ b o, b ≠ I → h.get? b = some o → h'.get? b = some o) (hex : ∃ o, h'.get? I = some o) : SOk wd (cx.add I) am σ n h' := by
  have xk : ∀ {X : Addr → Prop}, (∀ b, (cx.add I).X b → X b) → ∀ b o, h.get? b = some o → ¬ X b → h'.get? b = some o := fun hX b o e hx => keep b o (fun q => hx (hX b (.inr q))) e
  have bd : ∀ {y u}, Bound wd cx.env h y u → Bound wd cx.env h' y u := fun {y u} hb => by
    rcases hb with ⟨hk, hw, m, hn, hv⟩ | ⟨hk, c, hc, hw, o, e, hd⟩
    · exact .inl ⟨hk, hw, m, hn.at fun o e => keep _ o ap.nl.symm e, hv⟩
    · exact .inr ⟨hk, c, hc, hw, o, keep c o (fun q => ap.nc _ (q ▸ hc)) e, hd⟩
  have k0 := K.dy.inv
  have old : ∀ b, wd.W b → b ≠ I := fun b hb q => ap.nw (q ▸ hb)
  have tabk : ∀ P q, (P, q) ∈ wd.tabs → ∀ o, h.get? P = some o → h'.get? P = some o := fun P q hm o e => keep P o (old P (.inr ⟨q, hm⟩)) e
  refine ⟨⟨⟨fun b o e => keep b o (fun q => by (first | exact nn e ((q) ▸ (ap.ng)) | (rw [q, ap.ng] at e; cases e))) (k0.stay b o e), ?_, ?_, fun P q hm => ?_⟩, fun e he => ?_, fun b hb => ?_, fun P q ps pos c hm e hc => ?_⟩, ?_, fun y c hc => ?_, fun y d e => ?_, ?_⟩
  · obtain ⟨t, o, e, r⟩ := k0.box
    exact ⟨t, o, keep _ _ (old _ (.inl rfl)) e, r⟩
  · obtain ⟨its, j, e, r⟩ := k0.froz
    exact ⟨its, j, keep _ _ ap.nlf.symm e, r⟩
  · obtain ⟨ps, e, ht, hc⟩ := k0.tab P q hm
    refine ⟨ps, tabk P q hm _ e, ht, fun pos cv hh => ?_⟩
    obtain ⟨c, o, vs, t, h1, h2, h3, h4⟩ := hc pos cv hh
    subst h1
    have hcx := K.dy.code P q ps pos c hm e hh
    exact ⟨c, o, vs, t, rfl, keep _ _ (fun q => hcx (.inr q)) h2, h3, h4⟩
  · obtain ⟨L, m, hf, hn⟩ := K.dy.frs e he
    exact ⟨L, m, hf, hn.at fun o eo => keep _ o (fun q => ap.nf ⟨e, he, q ▸ hf⟩) eo⟩
  · by_cases hbI : b = I
    · rw [hbI]; exact hex
    · obtain ⟨o, e⟩ := K.dy.there b hb
      exact ⟨o, keep b o hbI e⟩
  · obtain ⟨ps', e', _⟩ := k0.tab P q hm
    have := tabk P q hm _ e'
    (first | exact nn this (e) | cases ss (e) this | cases Eq.trans (Eq.symm (e)) this | (rw [e] at this; cases this))
    exact K.dy.code P q ps pos c hm e' hc
  · obtain ⟨m, hn⟩ := K.ns
    exact ⟨m, hn.at fun o e => keep _ o ap.nl.symm e⟩
  · obtain ⟨v, o, e, hd⟩ := K.cell y c hc
    exact ⟨v, o, keep c o (fun q => ap.nc y (q ▸ hc)) e, hd⟩
  · obtain ⟨v, b, r⟩ := K.loc y d e
    exact ⟨v, bd b, r.mono (fun _ _ _ x => x) (xk fun b hb => .inl hb)⟩
  · have hm := K.mu
    cases hs : σ.mu with
    | none => rw [hs] at hm; exact hm
    | some p =>
      rw [hs] at hm
      obtain ⟨a, ha, h1, h2, h3, hb, ho⟩ := hm
      have haI : a ≠ I := fun q => h1 (.inr q)
      refine ⟨a, ha, h1, h2, h3, bd hb, ?_⟩
      revert ho
      generalize p.2 = d
      intro ho
      cases ho with
      | lst e r => exact .lst (keep _ _ haI e) (r.mono (fun _ _ _ x => x) (xk fun b hb => .inl hb))
      | dic lo e hk r => exact .dic lo (dictOf_at e fun o eo => keep _ o haI eo) hk (r.mono (fun _ _ _ x => x) (xk fun b hb => .inl hb))

/-- the iterator alone moves, and is forgotten -/
theorem SOk.butW {cx : Cx} {I : Addr} {am : Option Addr} {σ : Sig} {n : Int} {h h' : Heap} (ap : Apart wd cx am I) (K : SOk wd (cx.add I) am σ n h)
    (keep : ∀ b o, b ≠ I → h.get? b = some o → h'.get? b = some o) (hnx : ¬ cx.X I) : SOk wd cx am σ n h' := by
  have xk : ∀ {X : Addr → Prop}, (∀ b, (cx.add I).X b → X b) → ∀ b o, h.get? b = some o → ¬ X b → h'.get? b = some o := fun hX b o e hx => keep b o (fun q => hx (hX b (.inr q))) e
  have hX : ∀ {am : Option Addr} {b}, ((cx.plus am).X b) → ((cx.add I).plus am).X b := fun hb => hb.elim (fun z => .inl (.inl z)) .inr
  have bd : ∀ {y u}, Bound wd cx.env h y u → Bound wd cx.env h' y u := fun {y u} hb => by
    rcases hb with ⟨hk, hw, m, hn, hv⟩ | ⟨hk, c, hc, hw, o, e, hd⟩
    · exact .inl ⟨hk, hw, m, hn.at fun o e => keep _ o ap.nl.symm e, hv⟩
    · exact .inr ⟨hk, c, hc, hw, o, keep c o (fun q => ap.nc _ (q ▸ hc)) e, hd⟩
  have k0 := K.dy.inv
  have old : ∀ b, wd.W b → b ≠ I := fun b hb q => ap.nw (q ▸ hb)
  have tabk : ∀ P q, (P, q) ∈ wd.tabs → ∀ o, h.get? P = some o → h'.get? P = some o := fun P q hm o e => keep P o (old P (.inr ⟨q, hm⟩)) e
  refine ⟨⟨⟨fun b o e => keep b o (fun q => by (first | exact nn e ((q) ▸ (ap.ng)) | (rw [q, ap.ng] at e; cases e))) (k0.stay b o e), ?_, ?_, fun P q hm => ?_⟩, fun e he => ?_, fun b hb => ?_, fun P q ps pos c hm e hc => ?_⟩, ?_, fun y c hc => ?_, fun y d e => ?_, ?_⟩
  · obtain ⟨t, o, e, r⟩ := k0.box
    exact ⟨t, o, keep _ _ (old _ (.inl rfl)) e, r⟩
  · obtain ⟨its, j, e, r⟩ := k0.froz
    exact ⟨its, j, keep _ _ ap.nlf.symm e, r⟩
  · obtain ⟨ps, e, ht, hc⟩ := k0.tab P q hm
    refine ⟨ps, tabk P q hm _ e, ht, fun pos cv hh => ?_⟩
    obtain ⟨c, o, vs, t, h1, h2, h3, h4⟩ := hc pos cv hh
    subst h1
    have hcx := K.dy.code P q ps pos c hm e hh
    exact ⟨c, o, vs, t, rfl, keep _ _ (fun q => hcx (.inr q)) h2, h3, h4⟩
  · obtain ⟨L, m, hf, hn⟩ := K.dy.frs e he
    exact ⟨L, m, hf, hn.at fun o eo => keep _ o (fun q => ap.nf ⟨e, he, q ▸ hf⟩) eo⟩
  · obtain ⟨o, e⟩ := K.dy.there b (.inl hb)
    exact ⟨o, keep b o (fun q => hnx (q ▸ hb)) e⟩
  · obtain ⟨ps', e', _⟩ := k0.tab P q hm
    have := tabk P q hm _ e'
    (first | exact nn this (e) | cases ss (e) this | cases Eq.trans (Eq.symm (e)) this | (rw [e] at this; cases this))
    exact fun z => K.dy.code P q ps pos c hm e' hc (.inl z)
  · obtain ⟨m, hn⟩ := K.ns
    exact ⟨m, hn.at fun o e => keep _ o ap.nl.symm e⟩
  · obtain ⟨v, o, e, hd⟩ := K.cell y c hc
    exact ⟨v, o, keep c o (fun q => ap.nc y (q ▸ hc)) e, hd⟩
  · obtain ⟨v, b, r⟩ := K.loc y d e
    exact ⟨v, bd b, r.mono (fun _ _ _ x z => x (hX z)) (xk fun b hb => .inl hb)⟩
  · have hm := K.mu
    cases hs : σ.mu with
    | none => rw [hs] at hm; exact hm
    | some p =>
      rw [hs] at hm
      obtain ⟨a, ha, h1, h2, h3, hb, ho⟩ := hm
      have haI : a ≠ I := fun q => h1 (.inr q)
      refine ⟨a, ha, fun z => h1 (.inl z), h2, h3, bd hb, ?_⟩
      revert ho
      generalize p.2 = d
      intro ho
      cases ho with
      | lst e r => exact .lst (keep _ _ haI e) (r.mono (fun _ _ _ x z => x (hX z)) (xk fun b hb => .inl hb))
      | dic lo e hk r => exact .dic lo (dictOf_at e fun o eo => keep _ o haI eo) hk (r.mono (fun _ _ _ x z => x (hX z)) (xk fun b hb => .inl hb))

theorem SSt.but {cx : Cx} {I : Addr} {am am' : Option Addr} {s s₃ : Shared} {h' : Heap} {tk : Tok} (st : SSt wd cx am s am' s₃) (ap : Apart wd cx am I) (hI : s.heap.get? I = Option.none)
    (keep : ∀ b o, b ≠ I → s₃.heap.get? b = some o → h'.get? b = some o) : SSt wd cx am s am' { s₃ with heap := h', toks := tk } := by
  obtain ⟨h, tk', rfl⟩ := st.same
  have ne : ∀ b o, s.heap.get? b = some o → b ≠ I := fun b o e q => by (first | exact nn e ((q) ▸ (hI)) | (rw [q, hI] at e; cases e))
  refine ⟨⟨h', tk, rfl⟩, fun b o e hw hn => ?_, fun b o e => ?_, st.keep, st.new⟩
  · obtain ⟨x1, sl, x2⟩ := st.go b o e hw hn
    exact ⟨fun hf => keep b o (ne b o e) (x1 hf), sl, keep b _ (ne b o e) x2⟩
  · obtain ⟨o', e'⟩ := st.there b o e
    exact ⟨o', keep b o' (ne b o e) e'⟩
end
end Lz
namespace Lz
open PySem PySem.W PyProof.Rows

section
variable {wd : Wd} {sc : Scope} {k : Nat}

theorem MuOk.same {cx : Cx} {am am' : Option Addr} {h h' : Heap} {mu mu' : Option (Str × PV)} (m : MuOk wd cx am h mu) (m' : MuOk wd cx am' h' mu') (keep : ∀ a, am = some a → am' = some a) (he : (mu'.isNone == mu.isNone) = true) : am' = am := by
  cases mu with
  | none =>
    cases mu' with
    | none => rw [show am = Option.none from m, show am' = Option.none from m']
    | some p => cases he
  | some p =>
    obtain ⟨a, ha, _⟩ := m
    rw [ha]; exact keep a ha

theorem SStPlus {cx : Cx} {am am' : Option Addr} {σ : Sig} {n : Int} {s s' : Shared} (F : SF wd cx) (st : SSt wd cx am s am' s') (K : SOk wd cx am σ n s.heap) {b : Addr} {o : Obj}
    (e : s.heap.get? b = some o) (hx : ¬ (cx.plus am).X b) (hc : ∀ v, o.data ≠ .cell v) : s'.heap.get? b = some o :=
  (st.go b o e (fun hw => hx (.inl (F.st.xw b hw))) fun hown => by
    rcases hown with q | ⟨y, q⟩ | q
    · exact hx (.inl (q ▸ F.own.2.2))
    · obtain ⟨v, o', e', hd⟩ := K.cell y b q
      (first | exact nn e' (e) | cases ss (e) e' | cases Eq.trans (Eq.symm (e)) e' | (rw [e] at e'; cases e'))
      exact hc v hd
    · exact hx (.inr q)).1 fun ⟨e', he', hf⟩ => by
      obtain ⟨_, L, hL, _, _, hXL⟩ := F.st.chain e' he'
      (first | exact nn hf (hL) | cases ss (hL) hf | cases Eq.trans (Eq.symm (hL)) hf | (rw [hL] at hf; cases hf))
      exact hx (.inl hXL)

theorem if_some {α : Type} {b : Bool} {m : M α} {n n' : Int} {r : Except Str α} (h : (if b = true then m else stuck) n = some (r, n')) : b = true ∧ m n = some (r, n') := by
  cases b with
  | true => exact ⟨rfl, h⟩
  | false => exact nomatch h
theorem put_mu {x : Str} {d : PV} {σ σ' : Sig} (h : put x d σ = some σ') : σ'.mu = σ.mu := by
  unfold put at h
  split at h
  · cases h
  · cases h; rfl

/-- one turn's meaning -/
inductive ForM1 (x : Str) (mb : Sig → M (Fl × Sig)) (d : PV) (ds : List PV) (σ : Sig) (n : Int) (r : Except Str (Fl × Sig)) (n' : Int) : Prop
  | mk (σ₄ : Sig) (g : Fl) (σ₆ : Sig) (n₆ : Int) : put x d σ = some σ₄ → mb σ₄ n = some (.ok (g, σ₆), n₆) → (σ₆.mu.isNone == σ₄.mu.isNone) = true → (g = .next → forM x mb ds σ₆ n₆ = some (r, n')) →
    (∀ d', g = .ret d' → r = .ok (.ret d', σ₆) ∧ n' = n₆) → ForM1 x mb d ds σ n r n'
theorem forM_one {x : Str} {mb : Sig → M (Fl × Sig)} {d : PV} {ds : List PV} {σ : Sig} {n n' : Int} {r : Except Str (Fl × Sig)} (e : forM x mb (d :: ds) σ n = some (r, n')) : ForM1 x mb d ds σ n r n' := by
  simp only [forM] at e
  cases hput : put x d σ with
  | none => (first | exact nn e (hput) | cases ss (hput) e | cases Eq.trans (Eq.symm (hput)) e | (rw [hput] at e; cases e))
  | some σ₄ =>
  rw [hput] at e
  obtain ⟨⟨g, σ₆⟩, n₆, e8, e7⟩ := noErr_bnd e
  obtain ⟨hmu, e7⟩ := if_some e7
  exact ⟨σ₄, g, σ₆, n₆, hput, e8, by rw [put_mu hput]; exact hmu, fun hg => by subst hg; exact e7, fun d' hg => by subst hg; exact ret_some e7⟩

/-- what stands while the loop runs -/
structure ForCx (wd : Wd) (cx : Cx) (am : Option Addr) (I : Addr) (s s₂ : Shared) (ds : List PV) (fp : List Addr) (P : Nat → Value → Prop) (Sw : Nat → Heap → Prop) : Prop where
  F : SF wd cx
  FI : SF wd (cx.add I)
  ap : Apart wd cx am I
  hI : s.heap.get? I = Option.none
  nx : ¬ (cx.plus am).X I
  walk : Walks wd.prog wd.w cx.A I fp [I] ds.length P Sw
  hfp : ∀ b ∈ fp, b = I ∨ (¬ (cx.plus am).X b ∧ ∃ o, s₂.heap.get? b = some o ∧ ∀ v, o.data ≠ .cell v)
  val : ∀ j v d, P j v → ds[j]? = some d → Rep wd ((cx.plus am).add I).X s₂.heap v d
  live : ∀ i h, Sw i h → ∃ o, h.get? I = some o ∧ ∀ v, o.data ≠ .cell v
structure ForInv (wd : Wd) (cx : Cx) (am : Option Addr) (I : Addr) (s s₂ : Shared) (Sw : Nat → Heap → Prop) (i : Nat) (σ : Sig) (n : Int) (s₃ : Shared) : Prop where
  st : SSt wd cx am s am s₃
  K : SOk wd (cx.add I) am σ n s₃.heap
  sw : Sw i s₃.heap
  keep : ∀ b o, s₂.heap.get? b = some o → ¬ ((cx.add I).plus am).X b → (∀ v, o.data ≠ .cell v) → s₃.heap.get? b = some o

section
variable {cx : Cx} {am : Option Addr} {I : Addr} {s s₂ : Shared} {ds : List PV} {fp : List Addr} {P : Nat → Value → Prop} {Sw : Nat → Heap → Prop}
theorem addPlus {b : Addr} : ((cx.plus am).add I).X b ↔ ((cx.add I).plus am).X b :=
  ⟨fun z => z.elim (fun z => z.elim (fun z => .inl (.inl z)) .inr) fun z => .inl (.inr z), fun z => z.elim (fun z => z.elim (fun z => .inl (.inl z)) .inr) fun z => .inl (.inr z)⟩

theorem ForInv.go {i : Nat} {σ σ' : Sig} {n n' : Int} {s₄ s₅ : Shared} (C : ForCx wd cx am I s s₂ ds fp P Sw) (V : ForInv wd cx am I s s₂ Sw i σ n s₄) (st : SSt wd (cx.add I) am s₄ am s₅) (K : SOk wd (cx.add I) am σ' n' s₅.heap) : ForInv wd cx am I s s₂ Sw i σ' n' s₅ := by
  have keep : ∀ b o, s₄.heap.get? b = some o → ¬ ((cx.add I).plus am).X b → (∀ v, o.data ≠ .cell v) → s₅.heap.get? b = some o := fun b o e hx hc => SStPlus C.FI st V.K e hx hc
  have keepI : ∀ o, s₄.heap.get? I = some o → s₅.heap.get? I = some o := fun o e =>
    (st.go I o e C.ap.nw fun z => z.elim C.ap.nl fun z => z.elim (fun ⟨y, z⟩ => C.ap.nc y z) C.ap.nam).1 C.ap.nf
  refine ⟨V.st.trans ⟨st.same, st.go, st.there, st.keep, st.new⟩, K, C.walk.frame _ _ _ V.sw fun b hb o e => ?_, fun b o e hx hc => keep b o (V.keep b o e hx hc) hx hc⟩
  by_cases hbI : b = I
  · subst hbI; exact keepI o e
  · obtain ⟨hx, o', e', hc⟩ := (C.hfp b hb).resolve_left hbI
    have hx' : ¬ ((cx.add I).plus am).X b := fun z => (addPlus.mpr z).elim hx hbI
    have e4 := V.keep b o' e' hx' hc
    (first | exact nn e4 (e) | cases ss (e) e4 | cases Eq.trans (Eq.symm (e)) e4 | (rw [e] at e4; cases e4))
    exact keep b o e hx' hc

theorem ForInv.turn {i : Nat} {σ : Sig} {n : Int} {s₃ : Shared} (C : ForCx wd cx am I s s₂ ds fp P Sw) (V : ForInv wd cx am I s s₂ Sw i σ n s₃) (hi : i ≤ ds.length) {N : Option Value → Shared → Prop} {E : Value → Shared → Prop}
    (h0 : ∀ s₄, i = ds.length → SSt wd cx am s am s₄ → SOk wd cx am σ n s₄.heap → N Option.none s₄)
    (h1 : ∀ v d s₄, i < ds.length → ds.drop i = d :: ds.drop (i + 1) → ForInv wd cx am I s s₂ Sw (i + 1) σ n s₄ → Rep wd ((cx.add I).plus am).X s₄.heap v d → N (some v) s₄) : wpAny (model wd.prog wd.w) cx.A (pyNext (.ref I)) N E s₃ := by
  have keepI : ∀ {h₄ : Heap}, (∀ b o, b ∉ [I] → s₃.heap.get? b = some o → h₄.get? b = some o) → ∀ b o, b ≠ I → s₃.heap.get? b = some o → h₄.get? b = some o := fun hk b o hb e => hk b o (fun q => hb (List.mem_singleton.mp q)) e
  rcases Nat.lt_or_eq_of_le hi with hlt | hlt
  · obtain ⟨d, hd, hdrop⟩ := drop_at hlt
    refine C.walk.item i _ _ _ hlt V.sw fun v h₄ tk₄ hPv sw₄ hk₄ => h1 v d _ hlt hdrop ⟨V.st.but C.ap C.hI (keepI hk₄), V.K.but C.ap (keepI hk₄) (let ⟨o, e, _⟩ := C.live _ _ sw₄; ⟨o, e⟩), sw₄, fun b o e hx hc => ?_⟩ ?_
    · exact keepI hk₄ b o (fun q => hx (.inl (.inr q))) (V.keep b o e hx hc)
    · exact (C.val i v d hPv hd).monoC (fun b o e hx _ => fun z => hx (addPlus.mpr z)) fun b o e hx hc => keepI hk₄ b o (fun q => hx (.inr q)) (V.keep b o e (fun z => hx (addPlus.mpr z)) hc)
  · exact C.walk.done _ _ _ (hlt ▸ V.sw) fun h₄ tk₄ hk₄ => h0 _ hlt (V.st.but C.ap C.hI (keepI hk₄)) (V.K.butW C.ap (keepI hk₄) fun z => C.nx (.inl z))
end

theorem Sv.for {x : Str} {px pos : Pos} {iter : Expr} {body : List Stmt} {mi : Rho → M (List PV)} {mb : Sig → M (Fl × Sig)} (hi : ItV wd sc k iter mi) (hb : Sv wd sc k (execs body) mb)
    (hk : sc.names.lookup x = some .local ∨ sc.names.lookup x = some .cell) (hs' : ∀ env y, foldedSetIterable iter env y = pure y := by intros; rfl) :
    Sv wd sc k (exec (.For (.Name x px) iter body [] pos)) (fun σ => Lz.bnd (noErr (mi σ.ρ)) fun ds => forM x mb ds σ) := by
  intro cx F hs R am σ s n r n' e K Q E hQ hE
  obtain ⟨ds, n₁, e3, e2⟩ := noErr_bnd e
  clear e hE
  refine wpAny_For (hi.okAt (K.stPlus F) hs R e3 K.dyPlus K.loc fun I s₂ st₂ W hI => ?_) (hs' _)
  obtain ⟨fp, P, Sw, walk, st0, hfp, hval, live⟩ := W.walk
  have ap := K.apart F hI
  have C : ForCx wd cx am I s s₂ ds fp P Sw := ⟨F, F.add ap.nlf ap.ng, ap, hI, W.notX, walk, hfp, hval, live⟩
  have V0 : ForInv wd cx am I s s₂ Sw 0 σ n₁ s₂ := ⟨st₂.unplus.sst, K.add F hI st₂.unplus (W.dy.sub rfl fun b hb => hb.elim (fun z => .inl (.inl z)) .inr), st0, fun _ _ e _ _ => e⟩
  clear K W st₂ e3 st0 walk hfp hval live
  refine codeAny_forLoop_any (R := fun r s' => match r with | .ok f => Q f s' | .error e => cameBackBy (model wd.prog wd.w) cx.A cx.env E e s')
    (fun j s₃ => ∃ i σ₃ n₃, (j + i = ds.length + 1 ∧ i ≤ ds.length) ∧ forM x mb (ds.drop i) σ₃ n₃ = some (r, n') ∧ ForInv wd cx am I s s₂ Sw i σ₃ n₃ s₃) ?_ (ds.length + 1) ⟨0, σ, n₁, ⟨rfl, Nat.zero_le _⟩, e2, V0⟩
  clear e2 V0
  intro j s₃ ⟨i, σ₃, n₃, hj, e₃, V⟩
  refine V.turn C hj.2 (fun s₄ hlt st₄ K₄ => ?_) fun v d s₄ hlt hdrop V₄ rv => ?_
  · rw [hlt, List.drop_length] at e₃
    obtain ⟨hr, hn⟩ := ret_some (show Lz.ret (Fl.next, σ₃) n₃ = _ from e₃)
    exact wpAny_execs_nil (hQ _ _ am _ _ hr st₄ (hn ▸ K₄) trivial)
  · rw [hdrop] at e₃
    obtain ⟨σ₄, g, σ₆, n₆, hput, e8, hmu, e7, e7'⟩ := forM_one e₃
    refine wpAny_pure (Av.name (wd := wd) (sc := sc) hk (cx.add I) C.FI hs am σ₃ s₄ n₃ v d σ₄ hput V₄.K rv _ _ fun s₅ st₅ K₅ => ?_)
    refine hb.okAt C.FI hs R e8 K₅ fun am'' fv s₆ st₆ K₆ hf => ?_
    have ham : am'' = am := K₅.mu.same K₆.mu st₆.keep hmu
    subst ham
    have V₆ := (V₄.go C st₅ K₅).go C st₆ K₆
    cases g with
    | next =>
      rw [hf.next_inv]
      exact ⟨ds.length - i, (turn_nat hj.1 hlt).1, i + 1, σ₆, n₆, ⟨(turn_nat hj.1 hlt).2, hlt⟩, e7 rfl, V₆⟩
    | ret d' =>
      obtain ⟨v, hv, hf⟩ := hf.ret_inv
      obtain ⟨hr, hn⟩ := e7' d' rfl
      rw [hv]
      exact hQ _ _ am'' _ _ hr V₆.st (hn ▸ V₆.K.weak) (hf.mono (fun b _ _ x z => x (.inl z)) fun _ _ e _ => e)
end
end Lz
namespace Lz
open PySem PySem.W PyProof.Rows

section
variable {M : Model} {A : Around} {E : Value → Shared → Prop} {s : Shared}

/-- what a new entry in the traceback leaves -/
noncomputable def Left (base : Heap) (l : List Env) (e : Addr) (cls : Value) (dd : Option Addr) (h h' : Heap) : Prop :=
  base.StaysIn h' ∧ h'.FunFrames base l ∧
    (∃ oe vs T oT ts, h'.get? e = some oe ∧ oe.cls = cls ∧ oe.dict = dd ∧ oe.data = .fields vs ∧ vs[1]? = some (.ref T) ∧ base.get? T = Option.none ∧ T ≠ e ∧ h'.get? T = some oT ∧ oT.data = .fields ts ∧ ts[3]? = some .none) ∧
    h.UpToSlots h'

theorem dict_mapFields (o : Obj) (f : Array Value → Array Value) : (Obj.mapFields f o).dict = o.dict := by
  obtain ⟨c, d, dt, sl⟩ := o
  cases dt <;> rfl

theorem newEntry {base : Heap} {env : Env} {outer : List Env} {L e : Addr} {oe : Obj} {vs : Array Value} {head : Value} {hadNext : Bool} {Q : Unit → Shared → Prop}
    (hfr : A.frames = some (env :: outer)) (hl : s.heap.FunFrames base (env :: outer)) (hf : env.frame = some L)
    (he : s.heap.get? e = some oe) (hkb : base.StaysIn s.heap) (hen : base.get? e = Option.none) (hd : oe.data = .fields vs) (hsz : 1 < vs.size)
    (h : ∀ h', Left base (env :: outer) e oe.cls oe.dict s.heap h' → Q () { s with heap := h' }) :
    wpAny M A (do let a ← frameOf env; let pl ← entryPlaceOf L hadNext; let b ← EntryCells.newEntry head a .none (rawInt L) .none pl; setField (.ref e) 1 b) (fun _ s' => wpAny M A (setFlight (.ref e) Option.none) Q E s') E s := by
  have hene : e ∉ (env :: outer).filterMap (·.frame) := fun hm => by
    obtain ⟨_, o, ho, hnf⟩ := hl.mem hm
    rw [he] at ho; injection ho with ho; subst ho; exact hnf vs hd
  refine wpAny_bind (wpAny_frameOf_fun hfr hl hf fun h₁ hs₁ => ?_)
  refine wpAny_bind (wpAny_entryPlaceOf fun pl hpl => ?_)
  unfold EntryCells.newEntry newFields
  refine wpAny_bind (wpAny_newObj_type ?_ (hpl.sizeOk5 _ _ _ _ _))
  have he₁ : h₁.get? e = some oe := (hs₁.2.1 e hene).trans he
  have kb₁ : base.StaysIn h₁ := fun b o hbo => (hs₁.2.1 b fun hm => by (first | exact nn hbo ((hl.mem hm).1) | cases ss ((hl.mem hm).1) hbo | cases Eq.trans (Eq.symm ((hl.mem hm).1)) hbo | (rw [(hl.mem hm).1] at hbo; cases hbo))).trans (hkb b o hbo)
  generalize hoT : ({ cls := .type "traceback", dict := Option.none, data := .fields ([head, .ref L, .none, rawInt L, .none] ++ (if pl.isEmpty then List.replicate 6 Value.none else pl)).toArray } : Obj) = oT0
  have hTd : oT0.data = .fields ([head, .ref L, .none, rawInt L, .none] ++ (if pl.isEmpty then List.replicate 6 Value.none else pl)).toArray := by rw [← hoT]
  have he₂ := Heap.get?_push_of_some (h := h₁) oT0 he₁
  refine wpAny_setField he₂ hd hsz ?_
  have hTe : h₁.objs.size ≠ e := Nat.ne_of_gt (Heap.lt_size he₁)
  have hd₃ := Obj.data_mapFields hd (·.setIfInBounds 1 (Value.ref h₁.objs.size))
  have he₃ := Heap.get?_update_self (Obj.mapFields (·.setIfInBounds 1 (Value.ref h₁.objs.size))) he₂ (Obj.isFreed_of_fields hd₃)
  have hT₃ := (Heap.get?_update_other (h₁.push oT0) (Obj.mapFields (·.setIfInBounds 1 (Value.ref h₁.objs.size))) (Ne.symm hTe)).trans (Heap.get?_push_size h₁ (o := oT0) (by rw [← hoT]; rfl))
  unfold setFlight
  refine wpAny_bind (wpAny_field he₃ hd₃ (x := .ref h₁.objs.size) (by simp [hsz]) ?_)
  rw [if_pos (show (Value.ref h₁.objs.size != Value.none) = true from by simp)]
  have hsz3 : 3 < ([head, .ref L, .none, rawInt L, .none] ++ (if pl.isEmpty then List.replicate 6 Value.none else pl)).toArray.size := by simp only [List.size_toArray, List.length_append, List.length_cons, List.length_nil]; omega
  refine wpAny_setField hT₃ hTd hsz3 (h _ ?_)
  have keep : ∀ b o, b ≠ e → h₁.get? b = some o →
      (((h₁.push oT0).update e (Obj.mapFields (·.setIfInBounds 1 (Value.ref h₁.objs.size)))).update h₁.objs.size
        (Obj.mapFields (·.setIfInBounds 3 ((Option.none : Option Addr).elim Value.none fun f => rawInt f)))).get? b = some o := fun b o hbe hb => by
    have hbT : h₁.objs.size ≠ b := Nat.ne_of_gt (Heap.lt_size hb)
    rw [Heap.get?_update_other _ _ hbT, Heap.get?_update_other _ _ (Ne.symm hbe)]
    exact Heap.get?_push_of_some _ hb
  have noRecord : ∀ b o, s.heap.get? b = some o → (∀ vs, o.data ≠ .fields vs) → b ≠ e := fun b o hb hnf q => by
    rw [q, he] at hb; injection hb with hb; subst hb; exact hnf vs hd
  refine ⟨fun b o hbo => keep b o (fun q => by (first | exact nn hbo ((q) ▸ (hen)) | (rw [q, hen] at hbo; cases hbo))) (kb₁ b o hbo), hl.of_keeps fun b o hb hnf => ?_, ?_, fun b o hb hnf => ?_⟩
  · obtain ⟨sl, hs⟩ := hs₁.2.2 b o hb
    exact ⟨_, keep b _ (noRecord b o hb hnf) hs, rfl⟩
  · refine ⟨_, _, h₁.objs.size, _, _, ?_, Obj.cls_mapFields _ _, dict_mapFields _ _, hd₃, by simp [hsz], kb₁.fresh, hTe, Heap.get?_update_self _ hT₃ (Obj.isFreed_of_fields (Obj.data_mapFields hTd _)), Obj.data_mapFields hTd _, ?_⟩
    · rw [Heap.get?_update_other _ _ hTe]; exact he₃
    · simp [hsz3]
  · obtain ⟨sl, hs⟩ := hs₁.2.2 b o hb
    exact ⟨sl, keep b _ (noRecord b o hb hnf) hs⟩

/-- the first frame that is left -/
theorem leaving_first {base : Heap} {env : Env} {outer : List Env} {L e : Addr} {oe : Obj} {vs : Array Value} {Q : Unit → Shared → Prop}
    (hfr : A.frames = some (env :: outer)) (hl : s.heap.FunFrames base (env :: outer)) (hf : env.frame = some L)
    (he : s.heap.get? e = some oe) (hkb : base.StaysIn s.heap) (hen : base.get? e = Option.none) (hd : oe.data = .fields vs) (h1 : vs[1]? = some .none)
    (h : ∀ h', Left base (env :: outer) e oe.cls oe.dict s.heap h' → Q () { s with heap := h' }) : wpAny M A (leaving env (.ref e)) Q E s := by
  unfold leaving noteFrame
  simp only [hf]
  refine wpAny_bind (wpAny_bind (wpAny_field he hd h1 ?_))
  rw [if_neg (by decide)]
  exact newEntry hfr hl hf he hkb hen hd (Array.getElem?_eq_some_iff.mp h1).1 h

/-- the next ones -/
theorem leaving_next {base : Heap} {env : Env} {outer : List Env} {L e : Addr} {oe : Obj} {vs : Array Value} {T : Addr} {oT : Obj} {ts : Array Value} {Q : Unit → Shared → Prop}
    (hfr : A.frames = some (env :: outer)) (hl : s.heap.FunFrames base (env :: outer)) (hf : env.frame = some L)
    (he : s.heap.get? e = some oe) (hkb : base.StaysIn s.heap) (hen : base.get? e = Option.none) (hd : oe.data = .fields vs) (h1 : vs[1]? = some (.ref T))
    (hnT : base.get? T = Option.none) (hTe : T ≠ e) (hT : s.heap.get? T = some oT) (hdT : oT.data = .fields ts) (h3 : ts[3]? = some .none)
    (h : ∀ h', Left base (env :: outer) e oe.cls oe.dict s.heap h' → Q () { s with heap := h' }) : wpAny M A (leaving env (.ref e)) Q E s := by
  unfold leaving noteFrame
  simp only [hf]
  refine wpAny_bind (wpAny_bind (wpAny_field he hd h1 ?_))
  rw [if_pos (show (Value.ref T != Value.none) = true from by simp)]
  refine wpAny_bind (wpAny_field hT hdT h3 ?_)
  rw [if_neg (show ¬ ((Value.none == rawInt L) = true) from by simp [rawInt])]
  refine wpAny_bind (wpAny_setField hT hdT (Array.getElem?_eq_some_iff.mp h3).1 ?_)
  have other : ∀ b, b ≠ T → (s.heap.update T (Obj.mapFields (·.setIfInBounds 3 Value.none))).get? b = s.heap.get? b := fun b hb => Heap.get?_update_other _ _ (Ne.symm hb)
  have noRecord : ∀ b o, s.heap.get? b = some o → (∀ vs, o.data ≠ .fields vs) → b ≠ T := fun b o hb hnf q => by
    rw [q, hT] at hb; injection hb with hb; subst hb; exact hnf ts hdT
  refine newEntry hfr (hl.of_keeps fun b o hb hnf => ⟨o, (other b (noRecord b o hb hnf)).trans hb, rfl⟩) hf ((other e (Ne.symm hTe)).trans he)
    (fun b o hbo => (other b fun q => by (first | exact nn hbo ((q) ▸ (hnT)) | (rw [q, hnT] at hbo; cases hbo))).trans (hkb b o hbo)) hen hd (Array.getElem?_eq_some_iff.mp h1).1
    fun h' ⟨x1, x2, x3, x4⟩ => h h' ⟨x1, x2, x3, fun b o hb hnf => x4 b o ((other b (noRecord b o hb hnf)).trans hb) hnf⟩

theorem leaves_held {wd : Wd} {base : Heap} {env : Env} {outer : List Env} {L e : Addr} {kd : Str} {n : Int} {Q : Unit → Shared → Prop}
    (hfr : A.frames = some (env :: outer)) (hf : env.frame = some L) (fl : Flies wd (env :: outer) base kd n e s.heap)
    (hQ : ∀ h', Flies wd (env :: outer) base kd n e h' → s.heap.UpToSlots h' → Q () { s with heap := h' }) : wpAny M A (leaving env (.ref e)) Q E s := by
  obtain ⟨oe, vs, dd, m, t, he, hcls, hdict, hm, hk, hd, h1 | ⟨T, oT, ts, h1, hnT, hTe, hT, hdT, h3⟩⟩ := fl.exc
  · refine leaving_first hfr fl.frames hf he fl.stay fl.new hd h1 fun h' ⟨k1, k2, k3, k4⟩ => ?_
    obtain ⟨oe', vs', T', oT', ts', q1, q2, q3, q4, q5, q6, q7, q8, q9, q10⟩ := k3
    exact hQ h' ⟨fl.inv, k1, fl.new, k2, oe', vs', dd, m, t, q1, q2.trans hcls, q3.trans hdict, hm, hk, q4, .inr ⟨T', oT', ts', q5, q6, q7, q8, q9, q10⟩⟩ k4
  · refine leaving_next hfr fl.frames hf he fl.stay fl.new hd h1 hnT hTe hT hdT h3 fun h' ⟨k1, k2, k3, k4⟩ => ?_
    obtain ⟨oe', vs', T', oT', ts', q1, q2, q3, q4, q5, q6, q7, q8, q9, q10⟩ := k3
    exact hQ h' ⟨fl.inv, k1, fl.new, k2, oe', vs', dd, m, t, q1, q2.trans hcls, q3.trans hdict, hm, hk, q4, .inr ⟨T', oT', ts', q5, q6, q7, q8, q9, q10⟩⟩ k4
theorem leaves_on {wd : Wd} {base : Heap} {env : Env} {outer : List Env} {L e : Addr} {kd : Str} {n : Int} {Q : Unit → Shared → Prop}
    (hfr : A.frames = some (env :: outer)) (hf : env.frame = some L) (fl : Flies wd (env :: outer) base kd n e s.heap)
    (hQ : ∀ h', Flies wd outer base kd n e h' → s.heap.UpToSlots h' → Q () { s with heap := h' }) : wpAny M A (leaving env (.ref e)) Q E s :=
  leaves_held hfr hf fl fun h' f up => hQ h' ⟨f.inv, f.stay, f.new, f.frames.2.2, f.exc⟩ up
end
end Lz
namespace Lz
open PySem PySem.W PyProof.Rows

/-- a def of the text -/
inductive FnAtG (wd : Wd) (name : Str) (params : Arguments) (body : List Stmt) (scope : Scope) : Prop
  | mk (a : Addr) (o : Obj) (pm code doc : Value) : wd.mg name = some (.ref a) → wd.G.get? a = some o → o.data = .func (Calls.docDef name params body scope pm code doc) → wd.G.CodeRec code name →
    (∀ p ∈ wd.codes, scope = p.1 → code = .ref p.2.1 ∧ (name ++ ".<locals>.") ++ "<lambda>" = p.2.2.2) → FnAtG wd name params body scope

/-- what a call of it does -/
noncomputable def Fn (wd : Wd) (k : Nat) (name : Str) (spec : List PV → M PV) : Prop :=
  ∀ cx, St wd cx → Room k cx.A → ∃ a o fd, wd.mg name = some (.ref a) ∧ wd.G.get? a = some o ∧ o.data = .func fd ∧ ∀ s n vs ds r n', spec ds n = some (r, n') → Dy wd cx n s.heap → Reps wd cx.X s.heap vs ds →
    ∀ (Q E : Value → Shared → Prop),
      (∀ d v s', r = .ok d → Step wd cx s n' s' → Rep wd cx.X s'.heap v d → Q v s') →
      (∀ kd ev s', r = .error kd → Thrown wd cx s n' kd ev s' → E ev s') →
      wpAny (model wd.prog wd.w) cx.A (call (.ref a) vs) Q E s

theorem Fn.more {wd : Wd} {k k' : Nat} {name : Str} {spec : List PV → M PV} (h : Fn wd k name spec) (hk : k ≤ k') : Fn wd k' name spec := fun cx S R => h cx S (R.le hk)
theorem Fn.sub {wd : Wd} {k : Nat} {name : Str} {spec spec' : List PV → M PV} (h : Fn wd k name spec) (hs : ∀ ds n r n', spec' ds n = some (r, n') → spec ds n = some (r, n')) : Fn wd k name spec' := fun cx S R =>
  (h cx S R).imp fun _ => .imp fun _ => .imp fun _ => And.imp_right (And.imp_right (And.imp_right fun h4 s n vs ds r n' e => h4 s n vs ds r n' (hs ds n r n' e)))

section
variable {wd : Wd} {sc : Scope} {k : Nat}

theorem Ev.callF {x : Str} {np pos : Pos} {es : List Expr} {ms : Rho → M (List PV)} {spec : List PV → M PV} (hf : Fn wd k x spec) (hl : sc.names.lookup x = some .globalImplicit)
    (h : Evs wd sc k (fun env => spliced (backTo pos (starEach es env))) ms)
    (hp : ∀ env, (backTo pos (starEach es env)).any (·.1) = false := by intros; rfl) (hd : (x == ("__debug__" : Str)) = false := by decide) :
    Ev wd sc k (eval (.Call (.Name x np) es [] pos)) (fun ρ => bnd (ms ρ) spec) := by
  intro cx S hs R ρ s n q n' e D L Q E hQ hE
  obtain ⟨a, o, fd, hmg, ho, hdat, hcall⟩ := hf cx S R
  have hgG : s.heap.Ns cx.env.globals wd.mg := by rw [S.globals]; exact S.ok.g.keeps D.inv.stay
  refine Call_Name rfl (Calls.Name_function_global S.kind (by unfold Env.kindOf; rw [hs]; exact hl) (Calls.loadGlobal_global hgG hmg ?_) hd)
  refine Calls.callWith_function (o := o) (fd := fd) (evalArgs_of (hp _) (h.bnd S hs R e D L (fun ds n₁ vs s₁ e₁ st₁ ra => ?_) hE))
  exact ⟨⟨st₁.dy.inv.stay _ _ ho, hdat⟩, hcall s₁ n₁ vs ds q n' e₁ st₁.dy ra _ _ (fun d v s' h1 h2 h3 => hQ d v s' h1 (st₁.trans h2) h3) fun kd ev s' h1 h2 => hE kd ev s' h1 (Thrown.trans st₁ h2)⟩

theorem cellsFrom_mem {y : Str} {c : Addr} : ∀ {names : List (Str × NameKind)} {n : Nat} {acc : List (Str × Addr)}, (y, c) ∈ acc → (y, c) ∈ cellsFrom n names acc
  | [], _, _, h => h
  | (x, kd) :: r, n, acc, h => by
    unfold cellsFrom
    split
    · exact cellsFrom_mem (.tail _ h)
    · exact cellsFrom_mem h
theorem cellsFrom_has {y : Str} : ∀ {names : List (Str × NameKind)} {n : Nat} {acc : List (Str × Addr)}, (y, NameKind.cell) ∈ names → ∃ c, (y, c) ∈ cellsFrom n names acc
  | (x, kd) :: r, n, acc, h => by
    unfold cellsFrom
    rcases List.mem_cons.mp h with q | q
    · cases q
      rw [if_pos (by decide)]
      exact ⟨n, cellsFrom_mem (.head _)⟩
    · split
      · exact cellsFrom_has q
      · exact cellsFrom_has q
theorem lookup_of_mem {α : Type} {y : Str} {c : α} : ∀ {l : List (Str × α)}, (y, c) ∈ l → ∃ c', l.lookup y = some c'
  | (x, d) :: r, h => by
    rw [List.lookup_cons]
    cases hb : y == x with
    | true => exact ⟨d, rfl⟩
    | false =>
      rcases List.mem_cons.mp h with q | q
      · cases q; simp at hb
      · exact lookup_of_mem q

theorem bindL_get {kindOf : Str → Option NameKind} {y : Str} {v : Value} : ∀ {binds : List (Str × Value)} {m : Str → Option Value}, (binds.map (·.1)).Nodup → kindOf y = some .local → binds.lookup y = some v → bindL kindOf binds m y = some v
  | (x, u) :: r, m, hn, hk, hv => by
    simp only [List.map_cons, List.nodup_cons] at hn
    unfold bindL
    rw [List.lookup_cons] at hv
    cases hb : y == x with
    | true =>
      (first | exact nn hv (hb) | cases ss (hb) hv | cases Eq.trans (Eq.symm (hb)) hv | (rw [hb] at hv; cases hv))
      have : y = x := eq_of_beq hb
      subst this
      rw [if_pos hk]
      have keep : ∀ {r : List (Str × Value)} {m : Str → Option Value}, y ∉ r.map (·.1) → bindL kindOf r m y = m y := by
        intro r
        induction r with
        | nil => intro m _; rfl
        | cons p r ih =>
          intro m hy
          simp only [List.map_cons, List.mem_cons, not_or] at hy
          unfold bindL
          rw [ih hy.2]
          split
          · simp [hy.1]
          · rfl
      rw [keep hn.1]; simp
    | false => rw [hb] at hv; exact bindL_get hn.2 hk hv
theorem bindC_get {kindOf : Str → Option NameKind} {y : Str} {v : Value} : ∀ {binds : List (Str × Value)} {m : Str → Option Value}, (binds.map (·.1)).Nodup → kindOf y ≠ some .local → binds.lookup y = some v → bindC kindOf binds m y = some v
  | (x, u) :: r, m, hn, hk, hv => by
    simp only [List.map_cons, List.nodup_cons] at hn
    unfold bindC
    rw [List.lookup_cons] at hv
    cases hb : y == x with
    | true =>
      (first | exact nn hv (hb) | cases ss (hb) hv | cases Eq.trans (Eq.symm (hb)) hv | (rw [hb] at hv; cases hv))
      have : y = x := eq_of_beq hb
      subst this
      rw [if_neg hk]
      have keep : ∀ {r : List (Str × Value)} {m : Str → Option Value}, y ∉ r.map (·.1) → bindC kindOf r m y = m y := by
        intro r
        induction r with
        | nil => intro m _; rfl
        | cons p r ih =>
          intro m hy
          simp only [List.map_cons, List.mem_cons, not_or] at hy
          unfold bindC
          rw [ih hy.2]
          split
          · rfl
          · simp [hy.1]
      rw [keep hn.1]; simp
    | false => rw [hb] at hv; exact bindC_get hn.2 hk hv

theorem zip_lookup {wd : Wd} {X : Addr → Prop} {h : Heap} {y : Str} {d : PV} : ∀ {names : List Str} {vs : List Value} {ds : List PV}, Reps wd X h vs ds → (names.zip ds).lookup y = some d → ∃ v, (names.zip vs).lookup y = some v ∧ Rep wd X h v d
  | [], _, _, _, e => by simp at e
  | x :: names, _, _, .nil, e => by simp at e
  | x :: names, _, _, .cons p r, e => by
    rw [List.zip_cons_cons, List.lookup_cons] at e ⊢
    cases hb : y == x with
    | true => (first | exact nn e (hb) | cases ss (hb) e | cases Eq.trans (Eq.symm (hb)) e | (rw [hb] at e; cases e)); exact ⟨_, rfl, p⟩
    | false => rw [hb] at e; exact zip_lookup r e

/-- the call's meaning, from the body's -/
noncomputable def runF (names : List Str) (m : Sig → M (Fl × Sig)) (ds : List PV) : M PV :=
  if ds.length = names.length then bnd (m ⟨names.zip ds, Option.none⟩) fun q => match q.1 with | .ret d => ret d | .next => ret .none else stuck

/-- an exception goes out of a frame -/
theorem thrown_exit {M : Model} {A : Around} {E : Value → Shared → Prop} {Q : Unit → Shared → Prop} {cx cx' : Cx} {env : Env} {L : Addr} {s s' : Shared} {n n' : Int} {kd : Str} {e0 : Addr} {base : Heap} (S : St wd cx) (hl : cx'.l = env :: cx.l) (hX : ∀ b, cx.X b → cx'.X b)
    (hframe : env.frame = some L) (hfresh : s.heap.get? L = Option.none) (D : Dy wd cx n s.heap) (same : ∃ h tk, s' = { s with heap := h, toks := tk }) (go : Go wd cx.l s.heap s'.heap) (there : ∀ b o, s.heap.get? b = some o → ∃ o', s'.heap.get? b = some o')
    (dy : Dy wd cx' n' s'.heap) (fl : Flies wd (env :: cx.l) base kd n' e0 s'.heap) (hbase : ∀ b o, s.heap.get? b = some o → ¬ wd.W b → ¬ frs cx.l b → base.get? b = some o) (hxs : ∀ b, cx'.X b → frs (env :: cx.l) b ∨ ∃ o, base.get? b = some o)
    (hfr : A.frames = some (env :: cx.l)) (hE : ∀ s'', Thrown wd cx s n' kd (.ref e0) s'' → Q () s'') : wpAny M A (leaving env (.ref e0)) Q E s' := by
  have notX : ¬ cx.X L := fun q => by obtain ⟨o, e⟩ := D.there L q; (first | exact nn e (hfresh) | cases ss (hfresh) e | cases Eq.trans (Eq.symm (hfresh)) e | (rw [hfresh] at e; cases e))
  have xs : ∀ b, cx.X b → frs cx.l b ∨ ∃ o, base.get? b = some o := fun b hb => by
    rcases hxs b (hX b hb) with ⟨e', he', hf⟩ | q
    · rcases List.mem_cons.mp he' with q | he'
      · rw [q, hframe] at hf
        injection hf with hf
        exact absurd hb (hf ▸ notX)
      · exact .inl ⟨e', he', hf⟩
    · exact .inr q
  refine leaves_on hfr hframe fl fun h' fl' up => ?_
  obtain ⟨h₂, tk₂, hs₂⟩ := same
  refine hE _ ⟨⟨⟨h', tk₂, by rw [hs₂]⟩, fun b o' eb hw => ?_, ⟨?_, fun e' he' => ?_, fun b hb => ?_, fun P q ps pos c hm e' hc => ?_⟩, fun b o' eb => ?_⟩, e0, base, rfl, fl', fun b o' eb hw hnf => hbase b o' eb hw hnf, xs⟩
  · obtain ⟨g1, sl, g2⟩ := go b o' eb hw
    have ex : ¬ frs cx.l b → h'.get? b = some o' := fun hnf => fl'.stay b o' (hbase b o' eb hw hnf)
    refine ⟨ex, ?_⟩
    by_cases hf : frs cx.l b
    · obtain ⟨e', he', hfe⟩ := hf
      obtain ⟨L', m', hL', ob, es, ep, eo, hod, _⟩ := D.frs e' he'
      (first | exact nn hL' (hfe) | cases ss (hfe) hL' | cases Eq.trans (Eq.symm (hfe)) hL' | (rw [hfe] at hL'; cases hL'))
      (first | exact nn eo (eb) | cases ss (eb) eo | cases Eq.trans (Eq.symm (eb)) eo | (rw [eb] at eo; cases eo))
      obtain ⟨sl', g3⟩ := up b _ g2 fun vs q => by (first | exact nn q (show o'.data = _ from hod) | cases ss (show o'.data = _ from hod) q | cases Eq.trans (Eq.symm (show o'.data = _ from hod)) q | (rw [show o'.data = _ from hod] at q; cases q))
      exact ⟨sl', g3⟩
    · exact ⟨o'.slots, ex hf⟩
  · exact fl'.inv.keeps fl'.stay
  · obtain ⟨L', m', hL', hn'⟩ := dy.frs e' (by rw [hl]; exact .tail _ he')
    exact ⟨L', m', hL', Heap.UpToSlots.ns up hn'⟩
  · rcases xs b hb with ⟨e', he', hf⟩ | ⟨o', eb⟩
    · obtain ⟨_, o', eo, _⟩ := fl'.frames.mem (b := b) (List.mem_filterMap.mpr ⟨e', he', hf⟩)
      exact ⟨o', eo⟩
    · exact ⟨o', fl'.stay b o' eb⟩
  · obtain ⟨ps', e2, _⟩ := fl.inv.tab P q hm
    have e3 := fl'.stay _ _ e2
    (first | exact nn e3 (e') | cases ss (e') e3 | cases Eq.trans (Eq.symm (e')) e3 | (rw [e'] at e3; cases e3))
    exact fun z => dy.code P q ps pos c hm (fl.stay _ _ e2) hc (hX _ z)
  · by_cases hw : wd.W b
    · rcases xs b (S.xw b hw) with ⟨e', he', hf⟩ | ⟨o', eb⟩
      · obtain ⟨_, o', eo, _⟩ := fl'.frames.mem (b := b) (List.mem_filterMap.mpr ⟨e', he', hf⟩)
        exact ⟨o', eo⟩
      · exact ⟨o', fl'.stay b o' eb⟩
    · obtain ⟨g1, sl, g2⟩ := go b o' eb hw
      by_cases hf : frs cx.l b
      · obtain ⟨e', he', hfe⟩ := hf
        obtain ⟨L', m', hL', ob, es, ep, eo, hod, _⟩ := D.frs e' he'
        (first | exact nn hL' (hfe) | cases ss (hfe) hL' | cases Eq.trans (Eq.symm (hfe)) hL' | (rw [hfe] at hL'; cases hL'))
        (first | exact nn eo (eb) | cases ss (eb) eo | cases Eq.trans (Eq.symm (eb)) eo | (rw [eb] at eo; cases eo))
        obtain ⟨sl', g3⟩ := up b _ g2 fun vs q => by (first | exact nn q (show o'.data = _ from hod) | cases ss (show o'.data = _ from hod) q | cases Eq.trans (Eq.symm (show o'.data = _ from hod)) q | (rw [show o'.data = _ from hod] at q; cases q))
        exact ⟨_, g3⟩
      · exact ⟨o', fl'.stay b o' (hbase b o' eb hw hf)⟩

/-- within a call: from the call's station to the body's -/
theorem callStation {name : Str} {params : Arguments} {body : List Stmt} {scope : Scope} {names : List Str} (hat : FnAtG wd name params body scope)
    (hbind : ∀ pm code doc vs, vs.length = names.length → bindArgs (Calls.docDef name params body scope pm code doc) ⟨vs, []⟩ = pure (names.zip vs))
    (hnd : names.Nodup) (hkinds : ∀ x ∈ names, scope.names.lookup x = some .local ∨ scope.names.lookup x = some .cell)
    (hco : scope.isCoroutine = false) (hgen : scope.isGenerator = false) (hk : scope.kind = .function)
    {cx : Cx} (S : St wd cx) (R : Room (k + 1) cx.A) : ∃ a o fd, wd.mg name = some (.ref a) ∧ wd.G.get? a = some o ∧ o.data = .func fd ∧ ∀ (s : Shared) (n : Int) (vs : List Value), vs.length = names.length → Dy wd cx n s.heap → ∀ (Q E : Value → Shared → Prop),
    (∀ cx' s₁, SF wd cx' → cx'.env.scope = scope → Room k cx'.A → (∀ b, cx.X b → cx'.X b) → Step wd cx s n s₁ → (∀ b o, s.heap.get? b = some o → s₁.heap.get? b = some o) → SOk wd cx' Option.none ⟨[], Option.none⟩ n s₁.heap →
      (∀ y v, (names.zip vs).lookup y = some v → Bound wd cx'.env s₁.heap y v) → (∀ v d, Rep wd cx.X s.heap v d → Rep wd cx'.X s₁.heap v d) → (∃ N, cx'.env.cells = cellsFrom N scope.names []) →
      wpAny (model wd.prog wd.w) cx'.A (execs body cx'.env)
        (fun fv s' => ∃ σ' am' n', SSt wd cx' Option.none s₁ am' s' ∧ SOk wd cx' am' σ' n' s'.heap ∧ (Step wd cx s n' s' → (∀ v d, Rep wd cx'.X s'.heap v d → Rep wd cx.X s'.heap v d) → Q (match fv with | .ret v => v | _ => .none) s'))
        (fun ev s' => ∃ n' kd, SThrown wd cx' Option.none s₁ n' kd ev s' ∧ (∀ s'', Thrown wd cx s n' kd ev s'' → E ev s'')) s₁) →
    wpAny (model wd.prog wd.w) cx.A (call (.ref a) vs) Q E s := by
  obtain ⟨a, o, pm, code, doc, hmg, ho, hdat, hcode, hcodes⟩ := hat
  refine ⟨a, o, _, hmg, ho, hdat, fun s n vs hvl D Q E H => wpAny_call ?_⟩
  have hfst : (names.zip vs).map (·.1) = names := by rw [← List.unzip_fst, List.unzip_zip hvl.symm]
  have hroom : cx.A.depth < recursionLimit := by have := R.1; show _ < 1000; omega
  refine codeAny_call_cells (binds := names.zip vs) hroom (D.inv.stay _ _ ho) hdat (let ⟨mc, hn, h0⟩ := S.ok.nolimit; ⟨mc, hn.keeps D.inv.stay, h0⟩) (hcode.keeps D.inv.stay) rfl (hbind pm code doc vs hvl) rfl ?_ (fun s₁ IC => ?_) hco hgen hk
  · intro x hx
    have hxn : x.1 ∈ names := by rw [← hfst]; exact List.mem_map_of_mem hx
    rcases hkinds x.1 hxn with q | q
    · exact .inl q
    · refine .inr ⟨q, ?_⟩
      obtain ⟨c, hc⟩ := cellsFrom_has (n := s.heap.objs.size + 1) (acc := []) (mem_of_lookup q)
      obtain ⟨c', hc'⟩ := lookup_of_mem hc
      show (List.lookup x.1 (cellsFrom (s.heap.objs.size + 1) scope.names [])).isSome = true
      rw [hc']; rfl
  -- the function's own station
  generalize henv : callEnvC (Calls.docDef name params body scope pm code doc) s.heap.objs.size a = env at IC ⊢
  have hscope : env.scope = scope := by rw [← henv]; rfl
  have hL : env.locals = s.heap.objs.size := by rw [← henv]; rfl
  have hframe : env.frame = some env.locals := by rw [← henv]; rfl
  have hglob : env.globals = mainGlobals := by rw [← henv]; rfl
  have hblt : env.builtins = builtinsNs := by rw [← henv]; rfl
  have hcells : env.cells = cellsFrom (s.heap.objs.size + 1) scope.names [] := by rw [← henv]; rfl
  have hkindOf : ∀ y, env.kindOf y = scope.names.lookup y := fun y => by unfold Env.kindOf; rw [hscope]
  have freshS : ∀ b, s.heap.objs.size ≤ b → s.heap.get? b = Option.none := fun b hb => by
    cases q : s.heap.get? b with
    | none => rfl
    | some o' => exact absurd (Heap.lt_size q) (Nat.not_lt.mpr hb)
  have freshG : ∀ b, s.heap.objs.size ≤ b → wd.G.get? b = Option.none := fun b hb => by
    cases q : wd.G.get? b with
    | none => rfl
    | some o' => have := D.inv.stay b o' q; (first | exact nn this (freshS b hb) | cases ss (freshS b hb) this | cases Eq.trans (Eq.symm (freshS b hb)) this | (rw [freshS b hb] at this; cases this))
  have notW : ∀ b, s.heap.objs.size ≤ b → ¬ wd.W b := fun b hb hw => by
    obtain ⟨o', e'⟩ := D.there b (S.xw b hw)
    (first | exact nn e' (freshS b hb) | cases ss (freshS b hb) e' | cases Eq.trans (Eq.symm (freshS b hb)) e' | (rw [freshS b hb] at e'; cases e'))
  have notX : ∀ b, s.heap.objs.size ≤ b → ¬ cx.X b := fun b hb hw => by
    obtain ⟨o', e'⟩ := D.there b hw
    (first | exact nn e' (freshS b hb) | cases ss (freshS b hb) e' | cases Eq.trans (Eq.symm (freshS b hb)) e' | (rw [freshS b hb] at e'; cases e'))
  have cellUp : ∀ y c, env.cells.lookup y = some c → s.heap.objs.size ≤ c := fun y c hc => by
    have := IC.above y c (mem_of_lookup hc)
    rw [hL] at this; exact Nat.le_of_lt this
  have keep := IC.toInCall.keep
  let cx' : Cx := { A := cx.A.deeper env, env := env, l := env :: cx.l, X := fun b => cx.X b ∨ b = env.locals }
  have hfr : cx'.A.frames = some cx'.l := by show (cx.A.frames.map (env :: ·)) = _; rw [S.frames]; rfl
  have cellIs' : ∀ y, env.kindOf y = some .cell → ∃ c, env.cells.lookup y = some c := fun y hy => by
    have hyk : scope.names.lookup y = some .cell := by rw [← hkindOf]; exact hy
    obtain ⟨c, hc⟩ := cellsFrom_has (n := s.heap.objs.size + 1) (acc := []) (mem_of_lookup hyk)
    obtain ⟨c', hc'⟩ := lookup_of_mem hc
    exact ⟨c', by rw [hcells]; exact hc'⟩
  have SF' : SF wd cx' := by
    refine ⟨⟨S.ok, hfr, S.handled, by show env.scope.kind = _; rw [hscope, hk], hglob, hblt, fun e' he' => ?_, fun b hb => .inl (S.xw b hb), fun z => z.elim S.xlf fun q => ?_, fun b o' e' z => z.elim (S.xg b o' e') fun q => ?_, cellIs', fun p hp hq => ?_⟩, ⟨_, rfl⟩, hframe, fun y c hc => ⟨notW c (cellUp y c hc), freshG c (cellUp y c hc)⟩, fun y hy => ?_, fun y z c hy hz => name_of_addr IC.apart (mem_of_lookup hy) (mem_of_lookup hz)⟩
    · rcases List.mem_cons.mp he' with q | he'
      · subst q
        exact ⟨by rw [hscope, hk]; decide, cx'.env.locals, hframe, freshG _ (by rw [hL]; exact Nat.le_refl _), notW _ (by rw [hL]; exact Nat.le_refl _), .inr rfl⟩
      · obtain ⟨h1, L', h2, h3, h4, h5⟩ := S.chain e' he'
        exact ⟨h1, L', h2, h3, h4, .inl h5⟩
    · obtain ⟨its, j, e', _⟩ := D.inv.froz
      have := freshS _ (Nat.le_of_eq hL.symm)
      (first | exact nn this ((q) ▸ (e')) | (rw [← q, e'] at this; cases this))
    · have := freshG b (by rw [q, hL]; exact Nat.le_refl _)
      (first | exact nn this (e') | cases ss (e') this | cases Eq.trans (Eq.symm (e')) this | (rw [e'] at this; cases this))
    · have hc1 : env.code = code := by rw [← henv]; rfl
      have hc2 : env.qual = name ++ ".<locals>." := by rw [← henv]; rfl
      have := hcodes p hp (by rw [← hq]; exact hscope.symm)
      exact ⟨hc1.trans this.1, by rw [show cx'.env.qual = _ from hc2]; exact this.2⟩
    · have hyk : scope.names.lookup y = some .cell := by rw [← hkindOf]; exact hy
      obtain ⟨c, hc⟩ := cellsFrom_has (n := s.heap.objs.size + 1) (acc := []) (mem_of_lookup hyk)
      obtain ⟨c', hc'⟩ := lookup_of_mem hc
      exact ⟨c', by rw [show cx'.env.cells = env.cells from rfl, hcells]; exact hc'⟩
  have D₁ : Dy wd cx n s₁.heap := D.keeps keep
  have D' : Dy wd cx' n s₁.heap := by
    refine ⟨D₁.inv, fun e' he' => ?_, fun b hb => hb.elim (D₁.there b) fun q => ?_, fun P q ps pos c hm e' hc z => z.elim (D₁.code P q ps pos c hm e' hc) fun hcl => ?_⟩
    · rcases List.mem_cons.mp he' with q | he'
      · rw [q]; exact ⟨_, _, hframe, IC.toInCall.ns⟩
      · exact D₁.frs e' he'
    · obtain ⟨o', _, _, e', _⟩ := IC.toInCall.ns
      exact ⟨o', q ▸ e'⟩
    · obtain ⟨ps', e2, _⟩ := D.inv.tab P q hm
      have := keep _ _ e2
      (first | exact nn this (e') | cases ss (e') this | cases Eq.trans (Eq.symm (e')) this | (rw [e'] at this; cases this))
      obtain ⟨o', _, e3, _⟩ := D.inv.codeThere hm e2 hc
      rw [hcl, hL] at e3
      exact absurd (Heap.lt_size e3) (Nat.lt_irrefl _)
  have K : SOk wd cx' Option.none ⟨[], Option.none⟩ n s₁.heap := ⟨D', ⟨_, IC.toInCall.ns⟩, fun y c hc => ⟨_, IC.cell y c hc⟩, fun y d ed => (by cases ed), rfl⟩
  have hbd : ∀ y v, (names.zip vs).lookup y = some v → Bound wd cx'.env s₁.heap y v := fun y v hv => by
    have hyn : y ∈ names := by rw [← hfst]; exact List.mem_map_of_mem (mem_of_lookup hv)
    rcases hkinds y hyn with q | q
    · exact .inl ⟨(hkindOf y).trans q, SF'.own.2.1, _, IC.toInCall.ns, bindL_get (by rw [hfst]; exact hnd) ((hkindOf y).trans q) hv⟩
    · obtain ⟨c, hc⟩ := SF'.cellIs y ((hkindOf y).trans q)
      refine .inr ⟨.inl ((hkindOf y).trans q), c, hc, (SF'.cellG y c hc).1, ?_⟩
      have := IC.cell y c hc
      rwa [bindC_get (by rw [hfst]; exact hnd) (by rw [hkindOf, q]; decide) hv] at this
  have hreps : ∀ v d, Rep wd cx.X s.heap v d → Rep wd cx'.X s₁.heap v d := fun v d rv => rv.mono (fun b o' eb hx z => by
    rcases z with z | z
    · exact hx z
    · exact absurd (Heap.lt_size eb) (by rw [show b = env.locals from z, hL]; exact Nat.lt_irrefl _)) fun b o' eb _ => keep b o' eb
  have R' : Room k cx'.A := ⟨by have := R.1; show cx.A.depth + 1 + 2 * k ≤ 900; omega, by have := R.2; show cx.A.units + 3 + 20 * k ≤ 9000; omega⟩
  have ownFresh : ∀ b o', s.heap.get? b = some o' → ¬ Own cx' Option.none b := fun b o' eb z => by
    have hlt := Heap.lt_size eb
    rcases z with z | ⟨y, z⟩ | z
    · rw [show b = env.locals from z, hL] at hlt; exact Nat.lt_irrefl _ hlt
    · exact absurd hlt (Nat.not_lt.mpr (cellUp y b z))
    · cases z
  have frsUp : ∀ b o', s.heap.get? b = some o' → ¬ frs cx.l b → ¬ frs cx'.l b := fun b o' eb hn ⟨e', he', hf⟩ => by
    rcases List.mem_cons.mp he' with q | he'
    · rw [q, hframe] at hf
      injection hf with hf
      have hlt := Heap.lt_size eb
      rw [← hf, hL] at hlt; exact Nat.lt_irrefl _ hlt
    · exact hn ⟨e', he', hf⟩
  have goBack : ∀ {h' : Heap}, SGo wd cx' Option.none s₁.heap h' → Go wd cx.l s.heap h' := fun g b o' eb hw => by
    obtain ⟨g1, g2⟩ := g b o' (keep b o' eb) hw (ownFresh b o' eb)
    exact ⟨fun hf => g1 (frsUp b o' eb hf), g2⟩
  obtain ⟨h₁, tk₁, hs₁⟩ := IC.toInCall.same
  have st₀ : Step wd cx s n s₁ := ⟨IC.toInCall.same, Go.of_keeps keep, D₁, fun b o e => ⟨o, keep b o e⟩⟩
  refine wpAny_mono (H cx' s₁ SF' hscope R' (fun b hb => .inl hb) st₀ keep K hbd hreps ⟨_, hcells⟩) (fun fv s' ⟨σ', am', n', st₁, K₁, hq⟩ => ?_) fun ev s' ⟨n', kd, ht, hq⟩ => ?_
  · have stp : Step wd cx s n' s' := by
      obtain ⟨h', tk', hs'⟩ := st₁.same
      refine ⟨⟨h', tk', by rw [hs', hs₁]⟩, goBack st₁.go, ⟨K₁.dy.inv, fun e' he' => K₁.dy.frs e' (.tail _ he'), fun b hb => K₁.dy.there b (.inl hb), fun P q ps pos c hm e' hc z => K₁.dy.code P q ps pos c hm e' hc (.inl z)⟩, fun b o' eb => st₁.there b o' (keep b o' eb)⟩
    exact hq stp fun v d r => r.mono (fun b _ _ x z => x (.inl z)) fun _ _ e _ => e
  · obtain ⟨e0, base, rfl, fl, hbase, hxs⟩ := ht.flies
    obtain ⟨h₂, tk₂, hs₂⟩ := ht.same
    exact thrown_exit (cx' := cx') S rfl (fun b hb => .inl hb) hframe (freshS _ (Nat.le_of_eq hL.symm)) D ⟨h₂, tk₂, by rw [hs₂, hs₁]⟩ (goBack ht.go) (fun b o' eb => ht.there b o' (keep b o' eb)) ht.dy fl
      (fun b o' eb hw hnf => hbase b o' (keep b o' eb) hw (ownFresh b o' eb) (frsUp b o' eb hnf)) hxs hfr hq

theorem Fn.mk {name : Str} {params : Arguments} {body : List Stmt} {scope : Scope} {names : List Str} {m : Sig → M (Fl × Sig)} (hat : FnAtG wd name params body scope) (hb : Sv wd scope k (execs body) m)
    (hbind : ∀ pm code doc vs, vs.length = names.length → bindArgs (Calls.docDef name params body scope pm code doc) ⟨vs, []⟩ = pure (names.zip vs))
    (hnd : names.Nodup) (hkinds : ∀ x ∈ names, scope.names.lookup x = some .local ∨ scope.names.lookup x = some .cell)
    (hco : scope.isCoroutine = false := by rfl) (hgen : scope.isGenerator = false := by rfl) (hk : scope.kind = .function := by rfl) :
    Fn wd (k + 1) name (runF names m) := by
  intro cx S R
  obtain ⟨a, o, fd, h1, h2, h3, H⟩ := callStation (k := k) hat hbind hnd hkinds hco hgen hk S R
  refine ⟨a, o, fd, h1, h2, h3, fun s n vs ds r n' e D ra Q E hQ hE => ?_⟩
  unfold runF at e
  split at e
  case isFalse => cases e
  next hlen =>
  have hvl : vs.length = names.length := by rw [ra.length, hlen]
  refine H s n vs hvl D Q E fun cx' s₁ SF' hscope R' hX st₀ keep K hbd hreps _ => ?_
  have K' : SOk wd cx' Option.none ⟨names.zip ds, Option.none⟩ n s₁.heap := by
    refine ⟨K.dy, K.ns, K.cell, fun y d ed => ?_, rfl⟩
    obtain ⟨v, hv, rv⟩ := zip_lookup ra ed
    exact ⟨v, hbd y v hv, (hreps v d rv).mono (fun b _ _ x z => x (z.elim id fun q => by cases q)) fun _ _ e _ => e⟩
  refine hb.bnd SF' hscope R' (f := fun q => match q.1 with | .ret d => ret d | .next => ret .none) e K' (fun g σ' n₁ am' fv s' e₁ st₁ K₁ hf => ?_) fun kd ev s' hr ht => ⟨n', kd, ht, fun s'' ht' => hE kd ev s'' hr ht'⟩
  refine ⟨σ', am', n₁, st₁, K₁, fun stp rp => ?_⟩
  cases g with
  | ret d =>
    obtain ⟨v, rfl, hf⟩ := hf.ret_inv
    obtain ⟨rfl, rfl⟩ := ret_some e₁
    exact hQ _ _ _ rfl stp (rp _ _ hf)
  | next =>
    cases hf.next_inv
    obtain ⟨rfl, rfl⟩ := ret_some e₁
    exact hQ _ _ _ rfl stp .none
end
end Lz
namespace Lz
open PySem PySem.W PyProof.Rows

section
variable {wd : Wd} {sc : Scope} {k : Nat}

/-- x = [], x = {}: a thing of the function's own -/
noncomputable def own (x : Str) (d : PV) (σ : Sig) : M (Fl × Sig) := if σ.mu.isNone && (σ.ρ.lookup x).isNone then ret (.next, { σ with mu := some (x, d) }) else stuck

theorem own_store {cx : Cx} {σ : Sig} {n : Int} {s s₁ : Shared} {x : Str} {d : PV} {Q : Unit → Shared → Prop} {E : Value → Shared → Prop} (F : SF wd cx) (K : SOk wd cx Option.none σ n s.heap) (hmu : σ.mu = Option.none) (hx : σ.ρ.lookup x = Option.none)
    (hk : cx.env.kindOf x = some .local ∨ cx.env.kindOf x = some .cell) (o : Obj) (hs₁ : s₁ = { s with heap := s.heap.push o }) (hof : o.isFreed = false) (hoc : ∀ v, o.data ≠ .cell v)
    (hown : ∀ h, h.get? s.heap.objs.size = some o → mainGlobals < s.heap.objs.size → Owned wd cx h s.heap.objs.size d)
    (hQ : ∀ s', SSt wd cx Option.none s (some s.heap.objs.size) s' → SOk wd cx (some s.heap.objs.size) { σ with mu := some (x, d) } n s'.heap → Q () s') :
    wpAny (model wd.prog wd.w) cx.A (storeName cx.env x (.ref s.heap.objs.size)) Q E s₁ := by
  subst hs₁
  have hI : s.heap.get? s.heap.objs.size = Option.none := Heap.get?_none_of_le (Nat.le_refl _)
  have ap := K.apart F hI
  have old : ∀ b o', s.heap.get? b = some o' → (s.heap.push o).get? b = some o' := fun b o' e => Heap.get?_push_of_some _ e
  have stp : Step wd cx s n { s with heap := s.heap.push o } := Step.of_keeps K.dy s.toks old
  have K₁ : SOk wd cx Option.none σ n (s.heap.push o) := K.go F stp
  have hnX : ¬ cx.X s.heap.objs.size := K.dy.fresh (Nat.le_refl _)
  have hlt : mainGlobals < s.heap.objs.size := by
    obtain ⟨og, _, _, e, _⟩ := F.st.ok.g
    exact Heap.lt_size (K.dy.inv.stay _ _ e)
  have rv : Rep wd (cx.plus Option.none).X (s.heap.push o) (.ref s.heap.objs.size) d :=
    (Owned.rep hnX (hown _ (Heap.get?_push_size _ hof) hlt)).mono (fun b _ _ q z => q ((cx.plus_none b).mp z)) fun _ _ e _ => e
  refine storeS F K₁ rv hk (by unfold muIs; rw [hmu]) fun s' st' K' hb hoth hrep => ?_
  have e₂ : s'.heap.get? s.heap.objs.size = some o := by
    refine (st'.go _ o (Heap.get?_push_size _ hof) ap.nw fun z => ?_).1 ap.nf
    rcases z with z | ⟨y, z⟩ | z
    · exact ap.nl z
    · exact ap.nc y z
    · cases z
  have st₂ := stp.sst.trans st'
  refine hQ s' ⟨st₂.same, fun b o' eb hw hn => ?_, st₂.there, fun a q => (by cases q), fun _ a q => (by cases q; exact hI)⟩ ⟨K'.dy, K'.ns, K'.cell, fun y e hy => ?_, ⟨_, rfl, hnX, ap.ng, ap.nlf, hb, hown _ e₂ hlt⟩⟩
  · exact st₂.go b o' eb hw hn
  · obtain ⟨v, bv, r⟩ := K.loc y e hy
    have hyx : y ≠ x := fun q => by (first | exact nn hy ((q) ▸ (hx)) | (rw [q, hx] at hy; cases hy))
    refine ⟨v, hoth y v (bv.go stp.go) hyx, ?_⟩
    have r1 : Rep wd (cx.plus (some s.heap.objs.size)).X s.heap v e := r.mono (fun b o' eb q z => by
      rcases z with z | z
      · exact q (.inl z)
      · cases z; (first | exact nn eb (hI) | cases ss (hI) eb | cases Eq.trans (Eq.symm (hI)) eb | (rw [hI] at eb; cases eb))) fun _ _ e _ => e
    exact hrep _ (fun b z => .inl z) (r1.keeps old)

theorem own_some {x : Str} {d : PV} {σ : Sig} {n n' : Int} {r : Except Str (Fl × Sig)} (e : own x d σ n = some (r, n')) : σ.mu = Option.none ∧ σ.ρ.lookup x = Option.none ∧ r = .ok (.next, { σ with mu := some (x, d) }) ∧ n' = n := by
  unfold own at e
  split at e
  · next h =>
    obtain ⟨rfl, rfl⟩ := ret_some e
    simp only [Bool.and_eq_true, Option.isNone_iff_eq_none] at h
    exact ⟨h.1, h.2, rfl, rfl⟩
  · cases e

theorem Sv.newList {x : Str} {px lp pos : Pos} (hk : sc.names.lookup x = some .local ∨ sc.names.lookup x = some .cell) : Sv wd sc k (exec (.Assign [.Name x px] (.List [] lp) pos)) (own x (.lst [])) := by
  intro cx F hs R am σ s n r n' e K Q E hQ hE
  obtain ⟨hmu, hx, rfl, rfl⟩ := own_some e
  have ham : am = Option.none := by have := K.mu; rw [hmu] at this; exact this
  subst ham
  refine wpAny_Assign_Name (wpAny_List (wpAny_items_nil ⟨by decide, ?_⟩)) rfl
  refine own_store F K hmu hx (by unfold Env.kindOf; rw [hs]; exact hk) _ rfl rfl (fun v q => by cases q) (fun h e _ => .lst e .nil) fun s' st' K' => hQ _ _ _ _ _ rfl st' K' trivial
theorem Sv.newDict {x : Str} {px lp pos : Pos} (hk : sc.names.lookup x = some .local ∨ sc.names.lookup x = some .cell) : Sv wd sc k (exec (.Assign [.Name x px] (.Dict [] [] lp) pos)) (own x (.dic [])) := by
  intro cx F hs R am σ s n r n' e K Q E hQ hE
  obtain ⟨hmu, hx, rfl, rfl⟩ := own_some e
  have ham : am = Option.none := by have := K.mu; rw [hmu] at this; exact this
  subst ham
  refine wpAny_Assign_Name (wpAny_Dict_empty ?_) rfl
  refine own_store F K hmu hx (by unfold Env.kindOf; rw [hs]; exact hk) _ rfl rfl (fun v q => by cases q) (fun h e lo => .dic lo ⟨_, #[], 0, e, ⟨rfl, rfl, rfl⟩, rfl, fun _ he => by simp at he, Pairs.nil, List.nodup_nil⟩ rfl .nil) fun s' st' K' => hQ _ _ _ _ _ rfl st' K' trivial

/-- the owned thing changes -/
theorem SOk.change {cx : Cx} {a : Addr} {σ : Sig} {n : Int} {s : Shared} {x : Str} {d d' : PV} (F : SF wd cx) (K : SOk wd cx (some a) σ n s.heap) (hmu : σ.mu = some (x, d)) {h' : Heap} (hs : Heap.SameBut a s.heap h') (hex : ∃ o, h'.get? a = some o)
    (hnf : ∀ o, s.heap.get? a = some o → (∀ vs, o.data ≠ .fields vs) ∧ (∀ v, o.data ≠ .cell v)) (hown : Owned wd cx h' a d') (tk : Tok) :
    SSt wd cx (some a) s (some a) { s with heap := h', toks := tk } ∧ SOk wd cx (some a) { σ with mu := some (x, d') } n h' := by
  have hm := K.mu
  rw [hmu] at hm
  obtain ⟨a', ha', h1, h2, h3, hb, ho⟩ := hm
  cases ha'
  have keep : ∀ b o, b ≠ a → s.heap.get? b = some o → h'.get? b = some o := fun b o hb e => (hs.2 b hb).trans e
  have there : ∀ b o, s.heap.get? b = some o → ∃ o', h'.get? b = some o' := fun b o e => by
    by_cases q : b = a
    · rw [q]; exact hex
    · exact ⟨o, keep b o q e⟩
  have hW : ¬ wd.W a := fun q => h1 (F.st.xw a q)
  have hL : a ≠ cx.env.locals := fun q => h1 (q ▸ F.own.2.2)
  have k0 := K.dy.inv
  have tabk : ∀ P q, (P, q) ∈ wd.tabs → ∀ o, s.heap.get? P = some o → h'.get? P = some o := fun P q hm o e => keep P o (fun z => hW (z ▸ .inr ⟨q, hm⟩)) e
  have cellk : ∀ {y c}, cx.env.cells.lookup y = some c → c ≠ a := fun {y c} hc q => by
    obtain ⟨v, o, e, hd⟩ := K.cell y c hc
    exact (hnf o (q ▸ e)).2 v hd
  have bd : ∀ {y u}, Bound wd cx.env s.heap y u → Bound wd cx.env h' y u := fun {y u} hb => by
    rcases hb with ⟨hk, hw, m, hn, hv⟩ | ⟨hk, c, hc, hw, o, e, hd⟩
    · exact .inl ⟨hk, hw, m, hn.at fun o e => keep _ o (fun z => hL z.symm) e, hv⟩
    · exact .inr ⟨hk, c, hc, hw, o, keep c o (cellk hc) e, hd⟩
  refine ⟨⟨⟨h', tk, rfl⟩, fun b o e hw hn => ?_, there, fun _ q => q, fun q => by cases q⟩, ⟨⟨⟨fun b o e => keep b o (fun q => by (first | exact nn e ((q) ▸ (h2)) | (rw [q, h2] at e; cases e))) (k0.stay b o e), ?_, ?_, fun P q hm => ?_⟩, fun e he => ?_, fun b hb => ?_, fun P q ps pos c hm e hc => ?_⟩, ?_, fun y c hc => ?_, fun y e hy => ?_, ⟨a, rfl, h1, h2, h3, bd hb, hown⟩⟩⟩
  · have hba : b ≠ a := fun q => hn (.inr (.inr (by rw [q])))
    exact ⟨fun _ => keep b o hba e, o.slots, keep b o hba e⟩
  · obtain ⟨t, o, e, r⟩ := k0.box
    exact ⟨t, o, keep _ _ (fun z => hW (z ▸ .inl rfl)) e, r⟩
  · obtain ⟨its, j, e, r⟩ := k0.froz
    exact ⟨its, j, keep _ _ h3.symm e, r⟩
  · obtain ⟨ps, e, ht, hc⟩ := k0.tab P q hm
    refine ⟨ps, tabk P q hm _ e, ht, fun pos cv hh => ?_⟩
    obtain ⟨c, o, vs, t, q1, q2, q3, q4⟩ := hc pos cv hh
    exact ⟨c, o, vs, t, q1, keep _ _ (fun z => (hnf o (z ▸ q2)).1 vs q3) q2, q3, q4⟩
  · obtain ⟨L, m, hf, hn⟩ := K.dy.frs e he
    exact ⟨L, m, hf, hn.at fun o eo => keep _ o (fun q => by
      obtain ⟨_, L', hL', _, _, hX⟩ := F.st.chain e he
      (first | exact nn hL' (hf) | cases ss (hf) hL' | cases Eq.trans (Eq.symm (hf)) hL' | (rw [hf] at hL'; cases hL'))
      exact h1 (q ▸ hX)) eo⟩
  · obtain ⟨o, e⟩ := K.dy.there b hb
    exact there b o e
  · obtain ⟨ps', e', _⟩ := k0.tab P q hm
    have := tabk P q hm _ e'
    (first | exact nn this (e) | cases ss (e) this | cases Eq.trans (Eq.symm (e)) this | (rw [e] at this; cases this))
    exact K.dy.code P q ps pos c hm e' hc
  · obtain ⟨m, hn⟩ := K.ns
    exact ⟨m, hn.at fun o e => keep _ o (fun z => hL z.symm) e⟩
  · obtain ⟨v, o, e, hd⟩ := K.cell y c hc
    exact ⟨v, o, keep c o (cellk hc) e, hd⟩
  · obtain ⟨v, b, r⟩ := K.loc y e hy
    exact ⟨v, bd b, r.mono (fun _ _ _ z => z) fun b o e hx => keep b o (fun q => hx (.inr (by rw [q]))) e⟩

/-- x.append(e) on the owned list -/
noncomputable def appM (x : Str) (mv : Rho → M PV) (σ : Sig) : M (Fl × Sig) := match σ.mu with
  | some (y, .lst ds) => if (y == x) && decide (ds.length ≤ 1000) then bnd (mv σ.all) fun d => if flat d then ret (.next, { σ with mu := some (y, .lst (ds ++ [d])) }) else stuck else stuck
  | _ => stuck

theorem appM_some {x : Str} {mv : Rho → M PV} {σ : Sig} {n n' : Int} {r : Except Str (Fl × Sig)} (e : appM x mv σ n = some (r, n')) :
    ∃ ds, σ.mu = some (x, .lst ds) ∧ ds.length ≤ 1000 ∧ bnd (mv σ.all) (fun d => if flat d then ret (.next, { σ with mu := some (x, .lst (ds ++ [d])) }) else stuck) n = some (r, n') := by
  unfold appM at e
  rcases hmu : σ.mu with _ | ⟨y, dd⟩
  · (first | exact nn e (hmu) | cases ss (hmu) e | cases Eq.trans (Eq.symm (hmu)) e | (rw [hmu] at e; cases e))
  rw [hmu] at e
  cases dd <;> try (cases e; done)
  · next ds =>
    simp only at e
    split at e
    · next h =>
      simp only [Bool.and_eq_true, decide_eq_true_eq, beq_iff_eq] at h
      obtain ⟨rfl, hl⟩ := h
      exact ⟨ds, rfl, hl, e⟩
    · cases e
theorem interactive_no {env : Env} (h : env.scope.kind = .function) : interactive env = false := by unfold interactive; rw [h]; rfl

theorem Bound.load {cx : Cx} {s : Shared} {x : Str} {pos : Pos} {v : Value} {Q E : Value → Shared → Prop} (F : St wd cx) (b : Bound wd cx.env s.heap x v) (h : Q v s) (hd : (x == ("__debug__" : Str)) = false) :
    wpAny (model wd.prog wd.w) cx.A (eval (.Name x pos) cx.env) Q E s := by
  rcases b with ⟨hk, _, m, hn, hv⟩ | ⟨hk, c, hc, _, hv⟩
  · exact wpAny_Name (wpAny_loadName_local F.kind hk hn hv h) hd
  · rcases hk with hk | ⟨hk, hcd⟩
    · exact wpAny_Name (wpAny_loadName_cell F.kind hk hc hv h) hd
    · exact wpAny_Name (wpAny_loadName_free F.kind hk hc hv h hcd) hd

theorem Sv.append {x : Str} {px apos pos epos : Pos} {e : Expr} {mv : Rho → M PV} (hv : Ev wd sc k (eval e) mv) (hline : (apos.endLine == pos.line) = true := by rfl)
    (htrees : ∀ env, backTo pos (starEach [e] env) = [(false, eval e env)] := by intros; rfl) (hd : (x == ("__debug__" : Str)) = false := by decide) :
    Sv wd sc k (exec (.Expr (.Call (.Attribute (.Name x px) "append" apos) [e] [] pos) epos)) (appM x mv) := by
  intro cx F hs R am σ s n r n' em K Q E hQ hE
  obtain ⟨ds, hmu, hlen, em'⟩ := appM_some em
  clear em
  refine wpAny_Expr ?_ (interactive_no F.st.kind) rfl
  obtain ⟨a, rfl, h1, h2, h3, hb, ho⟩ := K.mu.at hmu
  obtain ⟨_, _, ea, ra⟩ := ho.lst_inv
  refine wpAny_Call_method1_late rfl hline (htrees _) (Bound.load F.st hb ?_ hd)
  refine ⟨"list", "list.append", PySem.F.plainAttrs_list, PySem.F.slot_list_append, PySem.F.type_list_append, ⟨_, ea, rfl⟩, fun b q => by cases q; exact ⟨_, ea, rfl⟩, ?_⟩
  refine P.append_list (hv.inS F hs R em' K (fun d n₁ v s₁ e₁ st₁ K₁ rv => ?_) hE)
  clear hb ho ea ra K h1 h2 h3 hE em'
  obtain ⟨hflat, rfl, rfl⟩ := flat_if e₁
  obtain ⟨_, ha', q1, q2, q3, q4, q5⟩ := K₁.mu.at hmu
  cases ha'
  obtain ⟨its₁, j₁, ea₁, ra₁⟩ := q5.lst_inv
  have hl₁ := ra₁.length
  rw [Array.length_toList] at hl₁
  refine ⟨its₁, j₁, by rw [hl₁]; exact Nat.le_trans hlen (by decide), ea₁, ?_⟩
  have up := IsL.update ea₁ (fun xs => xs.push v)
  have rvp : Rep wd (cx.plus (some a)).X s₁.heap v d := K₁.stor rv (by unfold stor; rw [hflat]; simp)
  have hsb : Heap.SameBut a s₁.heap (s₁.heap.update a (Obj.mapSeq fun xs => xs.push v)) := Heap.SameBut.update ..
  have mono : ∀ {u e}, Rep wd (cx.plus (some a)).X s₁.heap u e → Rep wd (cx.plus (some a)).X (s₁.heap.update a (Obj.mapSeq fun xs => xs.push v)) u e := fun r => r.mono (fun _ _ _ z => z) fun b o e hx => (hsb.2 b (fun q => hx (.inr (by rw [q])))).trans e
  have monos : ∀ {us es}, Reps wd (cx.plus (some a)).X s₁.heap us es → Reps wd (cx.plus (some a)).X (s₁.heap.update a (Obj.mapSeq fun xs => xs.push v)) us es := fun r => r.mono (fun _ _ _ z => z) fun b o e hx => (hsb.2 b (fun q => hx (.inr (by rw [q])))).trans e
  obtain ⟨st₂, K₂⟩ := K₁.change F hmu hsb ⟨_, up⟩ (fun o e => by (first | exact nn e (ea₁) | cases ss (ea₁) e | cases Eq.trans (Eq.symm (ea₁)) e | (rw [ea₁] at e; cases e)); exact ⟨(fun _ q => by cases q), (fun _ q => by cases q)⟩)
    (d' := .lst (ds ++ [d])) (.lst up (by rw [Array.toList_push]; exact (monos ra₁).snoc (mono rvp))) s₁.toks
  exact hQ _ _ _ _ _ rfl (st₁.trans st₂) K₂ trivial

/-- x[k] = v on the owned dict -/
noncomputable def storeD (i : Int) (d : PV) (D : List (Int × PV)) : List (Int × PV) := if D.any (fun p => p.1 = i) then D.map (fun p => if p.1 = i then (p.1, d) else p) else D ++ [(i, d)]
noncomputable def setM (x : Str) (mk mv : Rho → M PV) (σ : Sig) : M (Fl × Sig) := match σ.mu with
  | some (y, .dic D) => if (y == x) && decide (D.length ≤ 1000) then bnd (mv σ.all) fun d => bnd (mk σ.all) fun i => (match i with | .int i => if flat d then ret (.next, { σ with mu := some (y, .dic (storeD i d D)) }) else stuck | _ => stuck) else stuck
  | _ => stuck

theorem mapped_rep {X : Addr → Prop} {h : Heap} {i : Int} {v : Value} {d : PV} (rv : Rep wd X h v d) : ∀ {kvs : List (Int × Value)} {D : List (Int × PV)}, kvs.map (·.1) = D.map (·.1) → Reps wd X h (kvs.map (·.2)) (D.map (·.2)) →
    (kvs.map (fun kv => if kv.1 = i then (kv.1, v) else kv)).map (·.1) = (D.map (fun p => if p.1 = i then (p.1, d) else p)).map (·.1) ∧
      Reps wd X h ((kvs.map (fun kv => if kv.1 = i then (kv.1, v) else kv)).map (·.2)) ((D.map (fun p => if p.1 = i then (p.1, d) else p)).map (·.2))
  | [], [], _, _ => ⟨rfl, .nil⟩
  | [], _ :: _, e, _ => by cases e
  | _ :: _, [], e, _ => by cases e
  | (k, u) :: kvs, (k', c) :: D, e, r => by
    simp only [List.map_cons, List.cons.injEq] at e
    obtain ⟨rfl, e⟩ := e
    cases r with
    | cons p r =>
      obtain ⟨h1, h2⟩ := mapped_rep rv e r
      simp only [List.map_cons]
      by_cases hk : k = i
      · simp only [hk, if_true]
        exact ⟨by rw [h1], .cons rv h2⟩
      · simp only [hk, if_false]
        exact ⟨by rw [h1], .cons p h2⟩
theorem stored_rep {X : Addr → Prop} {h : Heap} {i : Int} {v : Value} {d : PV} (rv : Rep wd X h v d) : ∀ {kvs : List (Int × Value)} {D : List (Int × PV)}, kvs.map (·.1) = D.map (·.1) → Reps wd X h (kvs.map (·.2)) (D.map (·.2)) →
    (stored kvs i v).map (·.1) = (storeD i d D).map (·.1) ∧ Reps wd X h ((stored kvs i v).map (·.2)) ((storeD i d D).map (·.2)) := by
  intro kvs D e r
  have hany : ∀ {kvs : List (Int × Value)} {D : List (Int × PV)}, kvs.map (·.1) = D.map (·.1) → kvs.any (fun kv => kv.1 = i) = D.any (fun p => p.1 = i) := by
    intro kvs
    induction kvs with
    | nil => intro D e; cases D with
      | nil => rfl
      | cons _ _ => cases e
    | cons p kvs ih => intro D e; cases D with
      | nil => cases e
      | cons q D =>
        simp only [List.map_cons, List.cons.injEq] at e
        simp only [List.any_cons, e.1, ih e.2]
  unfold stored storeD
  rw [hany e]
  split
  · exact mapped_rep rv e r
  · simp only [List.map_append, List.map_cons, List.map_nil]
    exact ⟨by rw [e], r.snoc rv⟩

theorem setI_some {σ : Sig} {x : Str} {D : List (Int × PV)} {d i : PV} {n n' : Int} {r : Except Str (Fl × Sig)}
    (e : (match i with | .int i => if flat d then ret (Fl.next, { σ with mu := some (x, PV.dic (storeD i d D)) }) else stuck | _ => stuck) n = some (r, n')) :
    ∃ j, i = .int j ∧ flat d = true ∧ r = .ok (.next, { σ with mu := some (x, .dic (storeD j d D)) }) ∧ n' = n := by
  split at e
  · obtain ⟨h1, h2, h3⟩ := flat_if e; exact ⟨_, rfl, h1, h2, h3⟩
  · cases e
theorem setM_some {x : Str} {mk mv : Rho → M PV} {σ : Sig} {n n' : Int} {r : Except Str (Fl × Sig)} (e : setM x mk mv σ n = some (r, n')) :
    ∃ D, σ.mu = some (x, .dic D) ∧ D.length ≤ 1000 ∧ bnd (mv σ.all) (fun d => bnd (mk σ.all) fun i => (match i with | .int i => if flat d then ret (.next, { σ with mu := some (x, .dic (storeD i d D)) }) else stuck | _ => stuck)) n = some (r, n') := by
  unfold setM at e
  rcases hmu : σ.mu with _ | ⟨y, dd⟩
  · (first | exact nn e (hmu) | cases ss (hmu) e | cases Eq.trans (Eq.symm (hmu)) e | (rw [hmu] at e; cases e))
  rw [hmu] at e
  cases dd <;> try (cases e; done)
  · next D =>
    simp only at e
    split at e
    · next h =>
      simp only [Bool.and_eq_true, decide_eq_true_eq, beq_iff_eq] at h
      obtain ⟨rfl, hl⟩ := h
      exact ⟨D, rfl, hl, e⟩
    · cases e
theorem Sv.setItem {x : Str} {px tpos pos : Pos} {ke value : Expr} {mk mv : Rho → M PV} (hv : Ev wd sc k (eval value) mv) (hk : Ev wd sc k (eval ke) mk)
    (hsw : ∀ env, swapsWith value (some (.Subscript (.Name x px) ke tpos)) pos.line env = pure false := by intros; rfl) (hd : (x == ("__debug__" : Str)) = false := by decide) :
    Sv wd sc k (exec (.Assign [.Subscript (.Name x px) ke tpos] value pos)) (setM x mk mv) := by
  intro cx F hs R am σ s n r n' em K Q E hQ hE
  obtain ⟨D, hmu, hlen, em'⟩ := setM_some em
  clear em
  refine wpAny_Assign_Subscript (hv.inS F hs R em' K (fun d n₁ v s₁ e₁ st₁ K₁ rv => ?_) hE) (hsw _)
  clear K em'
  obtain ⟨a, rfl, q1, q2, q3, q4, q5⟩ := K₁.mu.at hmu
  refine Bound.load F.st q4 ?_ hd
  refine hk.inS F hs R e₁ K₁ (fun i n₂ vi s₂ e₂ st₂ K₂ ri => ?_) fun kd ev s' h1 h2 => hE kd ev s' h1 (SThrown.trans st₁ h2)
  clear q1 q2 q3 q4 q5 e₁ hE
  obtain ⟨i, rfl, hflat, rfl, rfl⟩ := setI_some e₂
  obtain ⟨t, rfl⟩ := ri.int_inv
  obtain ⟨_, ha', p1, p2, p3, p4, p5⟩ := K₂.mu.at hmu
  cases ha'
  have rv₂ : Rep wd (cx.plus (some a)).X s₂.heap v d := by
    have : Reps wd (cx.plus (some a)).X s₂.heap [v] [d] := plusRep F st₂ K₁ (.cons (K₁.stor rv (by unfold stor; rw [hflat]; simp)) .nil)
    cases this with
    | cons p _ => exact p
  obtain ⟨kvs, lo, hD, hkk, rr⟩ := p5.dic_inv
  have hkl := congrArg List.length hkk
  rw [List.length_map, List.length_map] at hkl
  refine wpAny_setItem_pairs (knd := intKind wd.prog wd.w) (k := i) (intKind_is _ _ i t) hD (fun h' hD' hsb => ?_) (by rw [hkl]; exact Nat.le_trans hlen (by decide))
  have mono : ∀ {u e}, Rep wd (cx.plus (some a)).X s₂.heap u e → Rep wd (cx.plus (some a)).X h' u e := fun r => r.mono (fun _ _ _ z => z) fun b o e hx => (hsb.2 b (fun q => hx (.inr (by rw [q])))).trans e
  have monos : ∀ {us es}, Reps wd (cx.plus (some a)).X s₂.heap us es → Reps wd (cx.plus (some a)).X h' us es := fun r => r.mono (fun _ _ _ z => z) fun b o e hx => (hsb.2 b (fun q => hx (.inr (by rw [q])))).trans e
  obtain ⟨s1, s2⟩ := stored_rep (i := i) (mono rv₂) hkk (monos rr)
  obtain ⟨od, es, ep, eo, hx0, hdat, hkeys, _⟩ := id hD
  obtain ⟨st₃, K₃⟩ := K₂.change F hmu hsb (let ⟨o, _, _, e, _⟩ := hD'; ⟨o, e⟩) (fun o e => by (first | exact nn e (eo) | cases ss (eo) e | cases Eq.trans (Eq.symm (eo)) e | (rw [eo] at e; cases e)); exact ⟨(fun _ q => by (first | exact nn q (hdat) | cases ss (hdat) q | cases Eq.trans (Eq.symm (hdat)) q | (rw [hdat] at q; cases q))), (fun _ q => by (first | exact nn q (hdat) | cases ss (hdat) q | cases Eq.trans (Eq.symm (hdat)) q | (rw [hdat] at q; cases q)))⟩)
    (d' := .dic (storeD i d D)) (.dic lo hD' s1 s2) (s₂.toks + 1)
  exact hQ _ _ _ _ _ rfl (st₁.trans (st₂.trans st₃)) K₃ trivial
end
end Lz
namespace Lz
open PySem PySem.W PyProof.Rows

section
variable {wd : Wd} {sc : Scope} {k : Nat}

/-- box[0], box[1] -/
noncomputable def box0 (wd : Wd) (x : Str) (ρ : Rho) : M PV := match ρ.lookup x with
  | some .box => ret (.lst (wd.scr.map .int))
  | _ => stuck
noncomputable def box1 (x : Str) (ρ : Rho) : M PV := match ρ.lookup x with
  | some .box => fun n => some (.ok (.int n), n)
  | _ => stuck

theorem froz_rep {cx : Cx} {n : Int} {h : Heap} (S : St wd cx) (D : Dy wd cx n h) : Rep wd cx.X h (.ref wd.Lf) (.lst (wd.scr.map .int)) := by
  obtain ⟨its, j, e, xs, h1, h2⟩ := D.inv.froz
  refine .lst S.xlf e ?_
  rw [h1, ← h2]
  have : ∀ xs : List (Int × Tok), Reps wd cx.X h (xs.map fun p => Value.int p.1 p.2) ((xs.map (·.1)).map PV.int) := by
    intro xs
    induction xs with
    | nil => exact .nil
    | cons p xs ih => exact .cons (.int _ _) ih
  exact this xs

theorem box0_some {x : Str} {ρ : Rho} {n n' : Int} {r : Except Str PV} (e : box0 wd x ρ n = some (r, n')) : ρ.lookup x = some .box ∧ r = .ok (.lst (wd.scr.map .int)) ∧ n' = n := by
  unfold Lz.box0 at e
  rcases h : ρ.lookup x with _ | d
  · (first | exact nn e (h) | cases ss (h) e | cases Eq.trans (Eq.symm (h)) e | (rw [h] at e; cases e))
  rw [h] at e
  cases d <;> first | (cases e; done) | (obtain ⟨h1, h2⟩ := ret_some e; exact ⟨rfl, h1, h2⟩) | (cases e; exact ⟨rfl, rfl, rfl⟩)
theorem box1_some {x : Str} {ρ : Rho} {n n' : Int} {r : Except Str PV} (e : box1 x ρ n = some (r, n')) : ρ.lookup x = some .box ∧ r = .ok (.int n) ∧ n' = n := by
  unfold Lz.box1 at e
  rcases h : ρ.lookup x with _ | d
  · (first | exact nn e (h) | cases ss (h) e | cases Eq.trans (Eq.symm (h)) e | (rw [h] at e; cases e))
  rw [h] at e
  cases d <;> first | (cases e; done) | (obtain ⟨h1, h2⟩ := ret_some e; exact ⟨rfl, h1, h2⟩) | (cases e; exact ⟨rfl, rfl, rfl⟩)
theorem Ev.box0 {x : Str} {px ip pos : Pos} {kd : Nat} (hd : (x == ("__debug__" : Str)) = false := by decide) : Ev wd sc k (eval (.Subscript (.Name x px) (.Constant (.int 0) kd ip) pos)) (box0 wd x) := by
  intro cx S hs R ρ s n r n' e D L Q E hQ hE
  obtain ⟨hl, rfl, rfl⟩ := box0_some e
  obtain ⟨v, b, rv⟩ := L _ _ hl
  obtain rfl := rv.box_inv
  obtain ⟨t, hb⟩ := D.inv.box
  refine Subscript_ (Bound.load S b (wpAny_Constant_int ?_) hd)
  exact tail_of hb.typeIs slot_list_getitem.lookup (wpAny_getItem_list (k := 0) hb (by decide) (by decide) rfl (hQ _ _ _ rfl (Step.of_keeps D _ fun _ _ x => x) (froz_rep S D))) (.inl rfl)
theorem Ev.box1 {x : Str} {px ip pos : Pos} {kd : Nat} (hd : (x == ("__debug__" : Str)) = false := by decide) : Ev wd sc k (eval (.Subscript (.Name x px) (.Constant (.int 1) kd ip) pos)) (box1 x) := by
  intro cx S hs R ρ s n r n' e D L Q E hQ hE
  obtain ⟨hl, rfl, rfl⟩ := box1_some e
  obtain ⟨v, b, rv⟩ := L _ _ hl
  obtain rfl := rv.box_inv
  obtain ⟨t, hb⟩ := D.inv.box
  refine Subscript_ (Bound.load S b (wpAny_Constant_int ?_) hd)
  exact tail_of hb.typeIs slot_list_getitem.lookup (wpAny_getItem_list (k := 1) hb (by decide) (by decide) rfl (hQ _ _ _ rfl (Step.of_keeps D _ fun _ _ x => x) (.int _ _))) (.inl rfl)

/-- box[1] = value -/
noncomputable def boxSet (x : Str) (mv : Rho → M PV) (σ : Sig) : M (Fl × Sig) := bnd (mv σ.all) fun d => match d, σ.ρ.lookup x with
  | .int i, some .box => fun _ => some (.ok (.next, σ), i)
  | _, _ => stuck

theorem boxSet_some {σ : Sig} {x : Str} {d : PV} {n n' : Int} {r : Except Str (Fl × Sig)} (e : (match d, σ.ρ.lookup x with
  | .int i, some .box => fun _ => some (Except.ok (Fl.next, σ), i)
  | _, _ => (stuck : M (Fl × Sig))) n = some (r, n')) : ∃ i, d = .int i ∧ σ.ρ.lookup x = some .box ∧ r = Except.ok (Fl.next, σ) ∧ n' = i := by
  rcases h : σ.ρ.lookup x with _ | c
  · rw [h] at e
    cases d <;> cases e
  rw [h] at e
  cases d <;> try (cases e; done)
  cases c <;> try (cases e; done)
  cases e
  exact ⟨_, rfl, rfl, rfl, rfl⟩
theorem Sv.boxSet {x : Str} {px ip tpos pos : Pos} {kd : Nat} {value : Expr} {mv : Rho → M PV} (hv : Ev wd sc k (eval value) mv)
    (hsw : ∀ env, swapsWith value (some (.Subscript (.Name x px) (.Constant (.int 1) kd ip) tpos)) pos.line env = pure false := by intros; rfl) (hd : (x == ("__debug__" : Str)) = false := by decide) :
    Sv wd sc k (exec (.Assign [.Subscript (.Name x px) (.Constant (.int 1) kd ip) tpos] value pos)) (boxSet x mv) := by
  intro cx F hs R am σ s n r n' em K Q E hQ hE
  refine wpAny_Assign_Subscript (hv.inS F hs R em K (fun d n₁ v s₁ e₁ st₁ K₁ rv => ?_) hE) (hsw _)
  obtain ⟨i, rfl, hl, rfl, rfl⟩ := boxSet_some e₁
  clear K hE em e₁
  obtain ⟨t, rfl⟩ := rv.int_inv
  obtain ⟨v', b, rv'⟩ := K₁.loc _ _ hl
  obtain rfl := rv'.box_inv
  · clear rv rv' hl
    refine Bound.load F.st b (wpAny_Constant_int ?_) hd
    obtain ⟨t₀, hb⟩ := K₁.dy.inv.box
    refine wpAny_setItem_list (s := { s₁ with toks := s₁.toks + 1 }) (k := 1) hb (by decide) (by decide) (by simp) fun h' hl' hsb => ?_
    have keep : ∀ b o, b ≠ wd.B → s₁.heap.get? b = some o → h'.get? b = some o := fun b o hb e => (hsb.2 b hb).trans e
    have hW : wd.W wd.B := .inl rfl
    have hBX := F.st.xw _ hW
    have there : ∀ b o, s₁.heap.get? b = some o → ∃ o', h'.get? b = some o' := fun b o e => by
      by_cases q : b = wd.B
      · obtain ⟨o', e', _⟩ := hl'; exact ⟨o', q ▸ e'⟩
      · exact ⟨o, keep b o q e⟩
    obtain ⟨oB, eB, _, jB, hdB⟩ := hb
    have ne : ∀ b o, s₁.heap.get? b = some o → (∀ its j, o.data ≠ .seq its j) → b ≠ wd.B := fun b o e hn q => by
      (first | exact nn e ((q) ▸ (eB)) | (rw [q, eB] at e; cases e)); exact hn _ _ hdB
    have k0 := K₁.dy.inv
    have tabk : ∀ P q, (P, q) ∈ wd.tabs → ∀ ps, s₁.heap.get? P = some (tabObj ps) → h'.get? P = some (tabObj ps) := fun P q hm ps e => keep P _ (ne P _ e fun _ _ q => by cases q) e
    have hLf : wd.Lf ≠ wd.B := fun q => F.st.xlf (q ▸ hBX)
    have st₂ : SSt wd cx am s₁ am { s₁ with heap := h', toks := s₁.toks + 1 } := ⟨⟨h', _, rfl⟩, fun b o e hw _ => by
      have q : b ≠ wd.B := fun q => hw (q ▸ hW)
      exact ⟨fun _ => keep b o q e, o.slots, keep b o q e⟩, there, fun _ q => q, fun h a q => by (first | exact nn q (h) | cases ss (h) q | cases Eq.trans (Eq.symm (h)) q | (rw [h] at q; cases q))⟩
    have bd : ∀ {y u}, Bound wd cx.env s₁.heap y u → Bound wd cx.env h' y u := fun {y u} hb => by
      rcases hb with ⟨hk, hw, m, hn, hv⟩ | ⟨hk, c, hc, hw, o, e, hd⟩
      · exact .inl ⟨hk, hw, m, hn.at fun o e => keep _ o (fun z => hw (z ▸ hW)) e, hv⟩
      · exact .inr ⟨hk, c, hc, hw, o, keep c o (fun z => hw (z ▸ hW)) e, hd⟩
    have rk : ∀ {X : Addr → Prop}, X wd.B → ∀ {v d}, Rep wd X s₁.heap v d → Rep wd X h' v d := fun hX _ _ r => r.mono (fun _ _ _ z => z) fun b o e hx => keep b o (fun q => hx (q ▸ hX)) e
    have rks : ∀ {X : Addr → Prop}, X wd.B → ∀ {v d}, Reps wd X s₁.heap v d → Reps wd X h' v d := fun hX _ _ r => r.mono (fun _ _ _ z => z) fun b o e hx => keep b o (fun q => hx (q ▸ hX)) e
    refine hQ _ _ am _ _ rfl (st₁.trans st₂) ⟨⟨⟨fun b o e => ?_, ⟨t, by simpa using hl'⟩, ?_, fun P q hm => ?_⟩, fun e he => ?_, fun b hb => ?_, fun P q ps pos c hm e hc => ?_⟩, ?_, fun y c hc => ?_, fun y e hy => ?_, ?_⟩ trivial
    · refine keep b o (fun q => ?_) (k0.stay b o e)
      have := F.st.ok.wg _ hW
      (first | exact nn this ((q) ▸ (e)) | (rw [← q, e] at this; cases this))
    · obtain ⟨its, j, e, r⟩ := k0.froz
      exact ⟨its, j, keep _ _ hLf e, r⟩
    · obtain ⟨ps, e, ht, hc⟩ := k0.tab P q hm
      refine ⟨ps, tabk P q hm _ e, ht, fun pos cv hh => ?_⟩
      obtain ⟨c, o, vs, t, q1, q2, q3, q4⟩ := hc pos cv hh
      exact ⟨c, o, vs, t, q1, keep _ _ (ne c o q2 fun its j q => by (first | exact nn q (q3) | cases ss (q3) q | cases Eq.trans (Eq.symm (q3)) q | (rw [q3] at q; cases q))) q2, q3, q4⟩
    · obtain ⟨L, m, hf, hn⟩ := K₁.dy.frs e he
      obtain ⟨_, L', hL', _, hnW, _⟩ := F.st.chain e he
      (first | exact nn hL' (hf) | cases ss (hf) hL' | cases Eq.trans (Eq.symm (hf)) hL' | (rw [hf] at hL'; cases hL'))
      exact ⟨L, m, hf, hn.at fun o eo => keep _ o (fun q => hnW (q ▸ hW)) eo⟩
    · obtain ⟨o, e⟩ := K₁.dy.there b hb
      exact there b o e
    · obtain ⟨ps', e', _⟩ := k0.tab P q hm
      have := tabk P q hm _ e'
      (first | exact nn this (e) | cases ss (e) this | cases Eq.trans (Eq.symm (e)) this | (rw [e] at this; cases this))
      exact K₁.dy.code P q ps pos c hm e' hc
    · obtain ⟨m, hn⟩ := K₁.ns
      exact ⟨m, hn.at fun o e => keep _ o (fun z => F.own.2.1 (z ▸ hW)) e⟩
    · obtain ⟨v, o, e, hd⟩ := K₁.cell y c hc
      exact ⟨v, o, keep c o (fun z => (F.cellG y c hc).1 (z ▸ hW)) e, hd⟩
    · obtain ⟨v, b, r⟩ := K₁.loc y e hy
      exact ⟨v, bd b, rk (.inl hBX) r⟩
    · have hm := K₁.mu
      cases hs : σ.mu with
      | none => rw [hs] at hm; exact hm
      | some p =>
        rw [hs] at hm
        obtain ⟨a, ha, h1, h2, h3, hb', ho⟩ := hm
        have haB : a ≠ wd.B := fun q => h1 (q ▸ hBX)
        refine ⟨a, ha, h1, h2, h3, bd hb', ?_⟩
        revert ho
        generalize p.2 = d
        intro ho
        cases ho with
        | lst e r => exact .lst (keep _ _ haB e) (rks (.inl hBX) r)
        | dic lo e hk r => exact .dic lo (dictOf_at e fun o eo => keep _ o haB eo) hk (rks (.inl hBX) r)
end
end Lz
namespace Lz
open PySem PySem.W PyProof.Rows

/-- the comprehension's scope, as it is seen from a scope -/
noncomputable def relab (scope sc : Scope) : Scope :=
  { scope with names := scope.names.map fun (n, k) => if (k == .free && sc.kind == .function && sc.names.lookup n == some .cell) then (n, .cell) else (n, k) }
theorem relabel_eq {scope : Scope} {env : Env} {sc : Scope} (hs : env.scope = sc) : relabel scope env = relab scope sc := by
  subst hs; rfl

noncomputable def subR (keep : List Str) (ρ : Rho) : Rho := ρ.filter fun p => keep.contains p.1
theorem subR_lookup {keep : List Str} {y : Str} {d : PV} : ∀ {ρ : Rho}, (subR keep ρ).lookup y = some d → y ∈ keep ∧ ρ.lookup y = some d
  | [], h => by cases h
  | (z, e) :: r, h => by
    unfold subR at h
    rw [List.filter_cons] at h
    split at h
    · next hz =>
      rw [List.lookup_cons] at h ⊢
      cases hb : y == z with
      | true =>
        rw [hb] at h
        rw [eq_of_beq hb]
        exact ⟨by simpa using hz, h⟩
      | false => rw [hb] at h; exact subR_lookup h
    · next hz =>
      have ih := subR_lookup (ρ := r) h
      refine ⟨ih.1, ?_⟩
      rw [List.lookup_cons]
      cases hb : y == z with
      | true => rw [eq_of_beq hb] at ih; exact absurd (by simpa using ih.1) hz
      | false => exact ih.2

section
variable {wd : Wd} {sc : Scope} {k : Nat}

structure Out (wd : Wd) (cx : Cx) (z : Addr) : Prop where
  nw : ¬ wd.W z
  ng : wd.G.get? z = Option.none
  nlf : z ≠ wd.Lf
  nf : ¬ frs cx.l z
  nx : ¬ cx.X z
theorem Dy.out {cx : Cx} {n : Int} {h : Heap} (S : St wd cx) (D : Dy wd cx n h) {z : Addr} (hz : h.get? z = Option.none) : Out wd cx z where
  nw := fun q => by obtain ⟨o, e⟩ := D.there z (S.xw z q); (first | exact nn e (hz) | cases ss (hz) e | cases Eq.trans (Eq.symm (hz)) e | (rw [hz] at e; cases e))
  ng := by
    cases q : wd.G.get? z with
    | none => rfl
    | some o => have := D.inv.stay z o q; (first | exact nn this (hz) | cases ss (hz) this | cases Eq.trans (Eq.symm (hz)) this | (rw [hz] at this; cases this))
  nlf := fun q => by obtain ⟨its, k, e, _⟩ := D.inv.froz; (first | exact nn e ((q) ▸ (hz)) | (rw [← q, hz] at e; cases e))
  nf := fun ⟨e, he, hf⟩ => by
    obtain ⟨L, m, hL, o, _, _, eo, _⟩ := D.frs e he
    (first | exact nn hL (hf) | cases ss (hf) hL | cases Eq.trans (Eq.symm (hf)) hL | (rw [hf] at hL; cases hL))
    (first | exact nn eo (hz) | cases ss (hz) eo | cases Eq.trans (Eq.symm (hz)) eo | (rw [hz] at eo; cases eo))
  nx := fun q => by obtain ⟨o, e⟩ := D.there z q; (first | exact nn e (hz) | cases ss (hz) e | cases Eq.trans (Eq.symm (hz)) e | (rw [hz] at e; cases e))

/-- one thing set apart changes -/
theorem Dy.but {cx : Cx} {n : Int} {h h' : Heap} {z : Addr} (hz : cx.X z) (nw : ¬ wd.W z) (ng : wd.G.get? z = Option.none) (nlf : z ≠ wd.Lf) (nf : ¬ Lz.frs cx.l z) (D : Dy wd cx n h)
    (keep : ∀ b o, b ≠ z → h.get? b = some o → h'.get? b = some o) (hex : ∃ o, h'.get? z = some o) : Dy wd cx n h' := by
  have old : ∀ b, wd.W b → b ≠ z := fun b hb q => nw (q ▸ hb)
  have tabk : ∀ P q, (P, q) ∈ wd.tabs → ∀ o, h.get? P = some o → h'.get? P = some o := fun P q hm o e => keep P o (old P (.inr ⟨q, hm⟩)) e
  have k0 := D.inv
  refine ⟨⟨fun b o e => keep b o (fun q => by (first | exact nn e ((q) ▸ (ng)) | (rw [q, ng] at e; cases e))) (k0.stay b o e), ?_, ?_, fun P q hm => ?_⟩, fun e he => ?_, fun b hb => ?_, fun P q ps pos c hm e hc => ?_⟩
  · obtain ⟨t, o, e, r⟩ := k0.box
    exact ⟨t, o, keep _ _ (old _ (.inl rfl)) e, r⟩
  · obtain ⟨its, j, e, r⟩ := k0.froz
    exact ⟨its, j, keep _ _ nlf.symm e, r⟩
  · obtain ⟨ps, e, ht, hc⟩ := k0.tab P q hm
    refine ⟨ps, tabk P q hm _ e, ht, fun pos cv hh => ?_⟩
    obtain ⟨c, o, vs, t, h1, h2, h3, h4⟩ := hc pos cv hh
    subst h1
    have hcx := D.code P q ps pos c hm e hh
    exact ⟨c, o, vs, t, rfl, keep _ _ (fun q => hcx (q ▸ hz)) h2, h3, h4⟩
  · obtain ⟨L, m, hf, hn⟩ := D.frs e he
    exact ⟨L, m, hf, hn.at fun o eo => keep _ o (fun q => nf ⟨e, he, q ▸ hf⟩) eo⟩
  · by_cases hbI : b = z
    · rw [hbI]; exact hex
    · obtain ⟨o, e⟩ := D.there b hb
      exact ⟨o, keep b o hbI e⟩
  · obtain ⟨ps', e', _⟩ := k0.tab P q hm
    have := tabk P q hm _ e'
    (first | exact nn this (e) | cases ss (e) this | cases Eq.trans (Eq.symm (e)) this | (rw [e] at this; cases this))
    exact D.code P q ps pos c hm e' hc

/-- the names that lie in cells -/
noncomputable def LocC (wd : Wd) (cl : List (Str × Addr)) (X : Addr → Prop) (ρ : Rho) (h : Heap) : Prop := ∀ y d, ρ.lookup y = some d → ∃ v c, cl.lookup y = some c ∧ ¬ wd.W c ∧ h.IsCell c (some v) ∧ Rep wd X h v d
theorem LocC.but {cl : List (Str × Addr)} {X : Addr → Prop} {ρ : Rho} {h h' : Heap} {z : Addr} (hz : X z) (L : LocC wd cl X ρ h) (nc : ∀ v, ¬ h.IsCell z v) (keep : ∀ b o, b ≠ z → h.get? b = some o → h'.get? b = some o) : LocC wd cl X ρ h' := fun y d e => by
  obtain ⟨v, c, h1, h2, ⟨o, eo, hd⟩, r⟩ := L y d e
  exact ⟨v, c, h1, h2, ⟨o, keep c o (fun q => nc (some v) ⟨o, q ▸ eo, hd⟩) eo, hd⟩, r.mono (fun _ _ _ x => x) fun b o e hx => keep b o (fun q => hx (q ▸ hz)) e⟩
theorem LocC.go {cx : Cx} {cl : List (Str × Addr)} {ρ : Rho} {h h' : Heap} (S : St wd cx) (g : Go wd cx.l h h') (L : LocC wd cl cx.X ρ h) : LocC wd cl cx.X ρ h' := fun y d e => by
  obtain ⟨v, c, h1, h2, ⟨o, eo, hd⟩, r⟩ := L y d e
  obtain ⟨sl, e'⟩ := (g c o eo h2).2
  exact ⟨v, c, h1, h2, ⟨_, e', hd⟩, r.go S g⟩

/-- what a step of the block leaves alone -/
noncomputable def BGo (wd : Wd) (l : List Env) (Z : Addr → Prop) (h h' : Heap) : Prop :=
  (∀ b o, h.get? b = some o → ¬ wd.W b → ¬ Z b → (¬ frs l b → h'.get? b = some o) ∧ ∃ sl, h'.get? b = some { o with slots := sl }) ∧ ∀ b o, h.get? b = some o → ∃ o', h'.get? b = some o'
theorem BGo.trans {l : List Env} {Z : Addr → Prop} {h₁ h₂ h₃ : Heap} (x : BGo wd l Z h₁ h₂) (y : BGo wd l Z h₂ h₃) : BGo wd l Z h₁ h₃ :=
  ⟨fun b o e hw hz => by
    obtain ⟨x1, sl, x2⟩ := x.1 b o e hw hz
    obtain ⟨y1, sl', y2⟩ := y.1 b _ x2 hw hz
    exact ⟨fun hf => (y.1 b o (x1 hf) hw hz).1 hf, sl', y2⟩, fun b o e => let ⟨o', e'⟩ := x.2 b o e; y.2 b o' e'⟩
theorem BGo.but {l : List Env} {Z : Addr → Prop} {h h' : Heap} {z : Addr} (hz : Z z) (keep : ∀ b o, b ≠ z → h.get? b = some o → h'.get? b = some o) (hex : ∃ o, h'.get? z = some o) : BGo wd l Z h h' :=
  ⟨fun b o e _ hn => have q : b ≠ z := fun q => hn (q ▸ hz); ⟨fun _ => keep b o q e, o.slots, keep b o q e⟩, fun b o e => by
    by_cases q : b = z
    · rw [q]; exact hex
    · exact ⟨o, keep b o q e⟩⟩
theorem BGo.of_keeps {l : List Env} {Z : Addr → Prop} {h h' : Heap} (k : ∀ b o, h.get? b = some o → h'.get? b = some o) : BGo wd l Z h h' := ⟨fun _ o e _ _ => ⟨fun _ => k _ _ e, o.slots, k _ _ e⟩, fun _ o e => ⟨o, k _ _ e⟩⟩

/-- the closure: each free name's cell is the surrounding one's -/
theorem closure_of {scope : Scope} {env : Env} (h : ∀ y, (y, NameKind.free) ∈ scope.names → ∃ c, env.cells.lookup y = some c) :
    ∃ cl, closureFor scope env = pure cl ∧ ∀ y, (y, NameKind.free) ∈ scope.names → cl.lookup y = env.cells.lookup y := by
  have key : ∀ (names : List (Str × NameKind)) (acc : List (Str × Addr)), (∀ y, (y, NameKind.free) ∈ names → ∃ c, env.cells.lookup y = some c) → (∀ y c, acc.lookup y = some c → env.cells.lookup y = some c) →
      ∃ cl, (forIn names acc fun (x : Str × NameKind) (cs : List (Str × Addr)) => (if x.2 == NameKind.free then (do let a ← cellOf env x.1; pure (ForInStep.yield ((x.1, a) :: cs))) else pure (ForInStep.yield cs) : Sem _)) = pure cl ∧
        (∀ y c, cl.lookup y = some c → env.cells.lookup y = some c) ∧ (∀ y c, acc.lookup y = some c → cl.lookup y = some c) ∧ ∀ y, (y, NameKind.free) ∈ names → cl.lookup y = env.cells.lookup y := by
    intro names
    induction names with
    | nil => intro acc _ ha; exact ⟨acc, rfl, ha, fun _ _ h => h, fun _ h => (nomatch h)⟩
    | cons p names ih =>
      obtain ⟨n, kd⟩ := p
      intro acc hn ha
      rw [List.forIn_cons]
      cases hk : kd == NameKind.free with
      | true =>
        have hkd : kd = .free := eq_of_beq hk
        subst hkd
        obtain ⟨c, hc⟩ := hn n (.head _)
        have hstep : ∀ y c', ((n, c) :: acc).lookup y = some c' → env.cells.lookup y = some c' := fun y c' h => by
          rw [List.lookup_cons] at h
          cases hb : y == n with
          | true => (first | exact nn h (hb) | cases ss (hb) h | cases Eq.trans (Eq.symm (hb)) h | (rw [hb] at h; cases h)); rw [eq_of_beq hb]; exact hc
          | false => rw [hb] at h; exact ha y c' h
        obtain ⟨cl, h1, h2, h3, h4⟩ := ih ((n, c) :: acc) (fun y hy => hn y (.tail _ hy)) hstep
        refine ⟨cl, ?_, h2, fun y c' h => ?_, fun y hy => ?_⟩
        · have : cellOf env n = pure c := by unfold cellOf; rw [hc]
          simp only [if_true, this, pure_bind]
          exact h1
        · apply h3
          rw [List.lookup_cons]
          cases hb : y == n with
          | true =>
            have := ha y c' h
            rw [eq_of_beq hb, hc] at this; exact this
          | false => exact h
        · rcases List.mem_cons.mp hy with q | q
          · cases q
            rw [hc]; exact h3 n c (by rw [List.lookup_cons]; simp)
          · exact h4 y q
      | false =>
        obtain ⟨cl, h1, h2, h3, h4⟩ := ih acc (fun y hy => hn y (.tail _ hy)) ha
        refine ⟨cl, ?_, h2, h3, fun y hy => ?_⟩
        · simp only [Bool.false_eq_true, if_false, pure_bind]
          exact h1
        · rcases List.mem_cons.mp hy with q | q
          · cases q; simp at hk
          · exact h4 y q
  obtain ⟨cl, h1, _, _, h4⟩ := key scope.names [] h (fun _ _ h => by cases h)
  refine ⟨cl, ?_, h4⟩
  unfold closureFor
  have e : ∀ (f g : Str × NameKind → List (Str × Addr) → Sem (ForInStep (List (Str × Addr)))), (∀ x cs, f x cs = g x cs) → forIn scope.names ([] : List (Str × Addr)) f = forIn scope.names [] g := fun f g hfg => by
    have : f = g := funext fun x => funext fun cs => hfg x cs
    rw [this]
  show (forIn scope.names ([] : List (Str × Addr)) _ >>= fun r => pure r) = pure cl
  rw [e _ _ (fun x cs => ?_)]
  · rw [h1]; rfl
  · obtain ⟨n, kd⟩ := x
    cases hk : kd == NameKind.free <;> simp [hk]
end
end Lz
namespace Lz
open PySem PySem.W PyProof.Rows

section
variable {wd : Wd} {sc : Scope} {k : Nat}

/-- what a comprehension's scope must be -/
structure CScope (sc scope : Scope) (x : Str) (keep : List Str) : Prop where
  kind : scope.kind = .function
  cell : ∀ y ∈ scope.names, y.2 ≠ .cell
  names : ∀ y ∈ scope.names, y.2 = .local → scope.names.lookup y.1 = some .local
  var : scope.names.lookup x = some .local
  free : ∀ y ∈ scope.names, y.2 = .free → sc.names.lookup y.1 = some .cell
  kept : ∀ y ∈ keep, (y, NameKind.free) ∈ scope.names ∧ (relab scope sc).names.lookup y = some .cell
  varNot : x ∉ keep
  dot : scope.names.lookup (".0" : Str) = some .local

/-- the block's frame of reference -/
noncomputable def cxB (cx : Cx) (scope : Scope) (cl : List (Str × Addr)) (I C : Addr) : Cx := { A := cx.A, env := compEnvC scope cl C cx.env, l := cx.l, X := fun b => cx.X b ∨ b = I ∨ b = C }

theorem relab_cell {scope sc : Scope} {y : Str} (hc : ∀ y ∈ scope.names, y.2 ≠ .cell) (h : (relab scope sc).names.lookup y = some .cell) : (y, NameKind.free) ∈ scope.names := by
  have hm := mem_of_lookup h
  obtain ⟨⟨n, kd⟩, hm', he⟩ := List.mem_map.mp hm
  simp only at he
  split at he
  · next hq =>
    cases he
    simp only [Bool.and_eq_true, beq_iff_eq] at hq
    rw [← hq.1.1]; exact hm'
  · cases he
    exact absurd rfl (hc _ hm')

theorem cxB_st {cx : Cx} {scope : Scope} {x : Str} {keep : List Str} {cl : List (Str × Addr)} {I C : Addr} {am : Option Addr} (S : St wd cx) (hs : cx.env.scope = sc) (cs : CScope sc scope x keep) (oI : Out wd cx I) (oC : Out wd cx C) (oD : ∀ D, am = some D → Out wd cx D)
    (hcl : ∀ y, (y, NameKind.free) ∈ scope.names → cl.lookup y = cx.env.cells.lookup y) : St wd ((cxB cx scope cl I C).plus am) where
  ok := S.ok
  frames := S.frames
  handled := S.handled
  kind := cs.kind
  globals := S.globals
  builtins := S.builtins
  chain := fun e he => let ⟨h1, L, h2, h3, h4, h5⟩ := S.chain e he; ⟨h1, L, h2, h3, h4, .inl (.inl h5)⟩
  xw := fun b hb => .inl (.inl (S.xw b hb))
  xlf := fun h => by
    rcases h with (h | h | h) | h
    · exact S.xlf h
    · exact oI.nlf h.symm
    · exact oC.nlf h.symm
    · exact (oD _ h).nlf rfl
  xg := fun b o e h => by
    rcases h with (h | h | h) | h
    · exact S.xg b o e h
    · (first | exact nn e ((h) ▸ (oI.ng)) | (rw [h, oI.ng] at e; cases e))
    · (first | exact nn e ((h) ▸ (oC.ng)) | (rw [h, oC.ng] at e; cases e))
    · (first | exact nn e ((oD _ h).ng) | cases ss ((oD _ h).ng) e | cases Eq.trans (Eq.symm ((oD _ h).ng)) e | (rw [(oD _ h).ng] at e; cases e))
  cellIs := fun y hy => by
    have hy' : (relab scope sc).names.lookup y = some .cell := by rw [← relabel_eq hs]; exact hy
    have hf := relab_cell cs.cell hy'
    obtain ⟨c, hc⟩ := S.cellIs y (by unfold Env.kindOf; rw [hs]; exact cs.free _ hf rfl)
    exact ⟨c, (hcl y hf).trans hc⟩
  code := fun p hp hq => by
    have h0 : (relab scope sc).names.lookup (".0" : Str) = some .local := by rw [← relabel_eq hs]; exact lookup_relabel_local cs.dot
    have h1 := S.ok.dot p hp
    rw [← hq] at h1
    rw [show (((cxB cx scope cl I C).plus am).env.scope) = relabel scope cx.env from rfl, relabel_eq hs, h0] at h1
    cases h1

/-- the turn's state -/
structure BInv (wd : Wd) (cx : Cx) (scope : Scope) (cl : List (Str × Addr)) (I D C : Addr) (ρ : Rho) (Sw : Nat → Heap → Prop) (s₂ : Shared) (acc : PV) (i : Nat) (n : Int) (s₃ : Shared) : Prop where
  same : ∃ h tk, s₃ = { s₂ with heap := h, toks := tk }
  bg : BGo wd cx.l (fun b => b = I ∨ b = D ∨ b = C) s₂.heap s₃.heap
  dy : Dy wd ((cxB cx scope cl I C).plus (some D)) n s₃.heap
  lc : LocC wd cl ((cxB cx scope cl I C).plus (some D)).X ρ s₃.heap
  ns : ∃ m, s₃.heap.Ns C m
  own : Owned wd (cxB cx scope cl I C) s₃.heap D acc
  sw : Sw i s₃.heap

theorem Owned.but {cx : Cx} {h h' : Heap} {a z : Addr} {d : PV} (hz : (cx.plus (some a)).X z) (hza : a ≠ z) (o : Owned wd cx h a d) (keep : ∀ b o, b ≠ z → h.get? b = some o → h'.get? b = some o) : Owned wd cx h' a d := by
  cases o with
  | lst e r => exact .lst (keep _ _ hza e) (r.mono (fun _ _ _ x => x) fun b o e hx => keep b o (fun q => hx (q ▸ hz)) e)
  | dic lo e hk r => exact .dic lo (dictOf_at e fun o eo => keep _ o hza eo) hk (r.mono (fun _ _ _ x => x) fun b o e hx => keep b o (fun q => hx (q ▸ hz)) e)
theorem Owned.there {cx : Cx} {h : Heap} {a : Addr} {d : PV} (o : Owned wd cx h a d) : ∃ o, h.get? a = some o ∧ (∀ v, o.data ≠ .cell v) ∧ (∀ vs, o.data ≠ .fields vs) := by
  cases o with
  | lst e _ => exact ⟨_, e, (fun _ q => by cases q), (fun _ q => by cases q)⟩
  | dic _ e _ _ => obtain ⟨o, _, _, e, _, hd, _⟩ := e; exact ⟨o, e, (fun _ q => by (first | exact nn q (hd) | cases ss (hd) q | cases Eq.trans (Eq.symm (hd)) q | (rw [hd] at q; cases q))), (fun _ q => by (first | exact nn q (hd) | cases ss (hd) q | cases Eq.trans (Eq.symm (hd)) q | (rw [hd] at q; cases q)))⟩

/-- tests -/
noncomputable def TestsV (wd : Wd) (sc : Scope) (k : Nat) (ifs : List Expr) (m : Rho → M Bool) : Prop :=
  Tv wd sc k (fun env => forIn ifs true fun c r => if r = true then do let ok ← isTrue c env (eval c env); pure (ForInStep.yield ok) else pure (ForInStep.yield r)) m
theorem TestsV.nil : TestsV wd sc k [] (fun _ => ret true) := by
  intro cx S hs R ρ s n q n' e D L Q E hQ hE
  obtain ⟨rfl, rfl⟩ := ret_some e
  exact wpAny_tests_nil (hQ _ _ _ rfl (Step.refl D) rfl)
theorem TestsV.one {c : Expr} {m : Rho → M Bool} (h : Tv wd sc k (fun env => isTrue c env (eval c env)) m) : TestsV wd sc k [c] m := by
  intro cx S hs R ρ s n q n' e D L Q E hQ hE
  exact wpAny_tests_one (h cx S hs R ρ s n q n' e D L Q E hQ hE)

/-- the fold over the items -/
noncomputable def compF {α : Type} (x : Str) (ρ : Rho) (mt : Rho → M Bool) (step : Rho → α → M α) : List PV → α → M α
  | [], acc => ret acc
  | d :: ds, acc => bnd (noErr (mt ((x, d) :: ρ))) fun b => if b then bnd (noErr (step ((x, d) :: ρ) acc)) fun acc' => compF x ρ mt step ds acc' else compF x ρ mt step ds acc


section
variable {cx : Cx} {scope : Scope} {x : Str} {keep : List Str} {cl : List (Str × Addr)} {I D C : Addr} {ρ : Rho} {Sw : Nat → Heap → Prop} {s₂ s₃ : Shared} {acc : PV} {i : Nat} {n : Int}

/-- one of the block's own things but the accumulator moves -/
theorem BInv.but {z : Addr} {i' : Nat} {h' : Heap} {tk : Tok} (K : BInv wd cx scope cl I D C ρ Sw s₂ acc i n s₃) (hz : z = I ∨ z = C) (oz : Out wd cx z) (hDz : D ≠ z) (nc : ∀ v, ¬ s₃.heap.IsCell z v)
    (keepz : ∀ b o, b ≠ z → s₃.heap.get? b = some o → h'.get? b = some o) (hex : ∃ o, h'.get? z = some o) (hns : ∃ m, h'.Ns C m) (hsw : Sw i' h') :
    BInv wd cx scope cl I D C ρ Sw s₂ acc i' n { s₃ with heap := h', toks := tk } := by
  have hX : ((cxB cx scope cl I C).plus (some D)).X z := .inl (.inr hz)
  obtain ⟨h, tk', rfl⟩ := K.same
  exact ⟨⟨h', tk, rfl⟩, K.bg.trans (BGo.but (by rcases hz with q | q <;> simp [q]) keepz hex), K.dy.but hX oz.nw oz.ng oz.nlf oz.nf keepz hex, K.lc.but hX nc keepz, hns, K.own.but hX hDz keepz, hsw⟩

/-- a step within the block -/
theorem BInv.step {n' : Int} {s₄ : Shared} (K : BInv wd cx scope cl I D C ρ Sw s₂ acc i n s₃) (S : St wd ((cxB cx scope cl I C).plus (some D))) (S0 : St wd (cxB cx scope cl I C)) (oI : Out wd cx I) (oD : Out wd cx D) (oC : Out wd cx C)
    (hDI : D ≠ I) (hDC : D ≠ C)
    (st : Step wd ((cxB cx scope cl I C).plus (some D)) s₃ n' s₄) (fr : ∀ i h h', Sw i h → (∀ b o, (b = I ∨ (¬ (cxB cx scope cl I C).X b ∧ b ≠ D)) → h.get? b = some o → h'.get? b = some o) → Sw i h') : BInv wd cx scope cl I D C ρ Sw s₂ acc i n' s₄ := by
  obtain ⟨h, tk, rfl⟩ := K.same
  obtain ⟨h', tk', rfl⟩ := st.same
  refine ⟨⟨h', tk', rfl⟩, K.bg.trans ⟨fun b o e hw _ => st.go b o e hw, st.there⟩, st.dy, K.lc.go (cx := (cxB cx scope cl I C).plus (some D)) S st.go, ?_, Owned.go S (fun z => ?_) S0 st.go K.own, ?_⟩
  · obtain ⟨m, hn⟩ := K.ns
    exact ⟨m, ns_slots hn fun o e => (st.go _ o e oC.nw).2⟩
  · rcases z with z | z | z
    · exact oD.nx z
    · exact hDI z
    · exact hDC z
  · refine fr _ _ _ K.sw fun b o hb e => ?_
    rcases hb with rfl | ⟨hb, _⟩
    · exact (st.go _ o e oI.nw).1 oI.nf
    · refine (st.go b o e fun hw => hb (S0.xw b hw)).1 fun ⟨e', he', hf⟩ => ?_
      obtain ⟨_, L, hL, _, _, hXL⟩ := S0.chain e' he'
      (first | exact nn hf (hL) | cases ss (hL) hf | cases Eq.trans (Eq.symm (hL)) hf | (rw [hL] at hf; cases hf))
      exact hb hXL

/-- the item's names -/
theorem BInv.loc {m : Str → Option Value} {v : Value} {d : PV} (K : BInv wd cx scope cl I D C (subR keep ρ) Sw s₂ acc i n s₃) (hs : cx.env.scope = sc) (cs : CScope sc scope x keep) (oC : Out wd cx C)
    (hn : s₃.heap.Ns C m) (hv : m x = some v) (hr : Rep wd ((cxB cx scope cl I C).plus (some D)).X s₃.heap v d) : Loc wd ((cxB cx scope cl I C).plus (some D)) ((x, d) :: subR keep ρ) s₃.heap := by
  intro y e hy
  rw [List.lookup_cons] at hy
  have kO : ∀ y, (compEnvC scope cl C cx.env).kindOf y = (relab scope sc).names.lookup y := fun y => by
    show (relabel scope cx.env).names.lookup y = _
    rw [relabel_eq hs]
  cases hb : y == x with
  | true =>
    (first | exact nn hy (hb) | cases ss (hb) hy | cases Eq.trans (Eq.symm (hb)) hy | (rw [hb] at hy; cases hy))
    have hyx := eq_of_beq hb
    subst hyx
    refine ⟨v, .inl ⟨?_, oC.nw, m, hn, hv⟩, hr⟩
    show (relabel scope cx.env).names.lookup y = _
    exact lookup_relabel_local cs.var
  | false =>
    rw [hb] at hy
    obtain ⟨hk, hρ⟩ := subR_lookup hy
    obtain ⟨u, c, h1, h2, h3, h4⟩ := K.lc y e hy
    exact ⟨u, .inr ⟨.inl ((kO y).trans (cs.kept y hk).2), c, h1, h2, h3⟩, h4⟩
end
end
end Lz
namespace Lz
open PySem PySem.W PyProof.Rows

section
variable {wd : Wd} {sc : Scope} {k : Nat}

/-- the start of a block: the iterator I, the accumulator D, the block's names C -/
structure BStart (wd : Wd) (cx : Cx) (s : Shared) (n₁ : Int) (s₂ : Shared) (I : Addr) (ds : List PV) : Prop where
  st : Step wd cx s n₁ s₂
  w : Walkable wd cx s₂ n₁ I ds
  hI : s.heap.get? I = Option.none

theorem BStart.binv {cx : Cx} {scope : Scope} {x : Str} {keep : List Str} {cl : List (Str × Addr)} {I : Addr} {ρ : Rho} {s s₂ : Shared} {n n₁ : Int} {ds : List PV} {acc : PV} {o : Obj}
    (B : BStart wd cx s n₁ s₂ I ds) (S : St wd cx) (hs : cx.env.scope = sc) (cs : CScope sc scope x keep) (Dy0 : Dy wd cx n s.heap) (L : Loc wd cx ρ s.heap)
    (hcl : ∀ y, (y, NameKind.free) ∈ scope.names → cl.lookup y = cx.env.cells.lookup y) {fp : List Addr} {P : Nat → Value → Prop} {Sw : Nat → Heap → Prop}
    (walk : Walks wd.prog wd.w cx.A I fp [I] ds.length P Sw) (st0 : Sw 0 s₂.heap) (hfp : ∀ b ∈ fp, b = I ∨ (¬ cx.X b ∧ ∃ o, s₂.heap.get? b = some o ∧ ∀ v, o.data ≠ .cell v)) (live : ∀ i h, Sw i h → ∃ o, h.get? I = some o ∧ ∀ v, o.data ≠ .cell v)
    (hof : o.isFreed = false) (hown : ∀ h, h.get? s₂.heap.objs.size = some o → mainGlobals < s₂.heap.objs.size → Owned wd (cxB cx scope cl I (s₂.heap.objs.size + 1)) h s₂.heap.objs.size acc)
    {h₁ : Heap} {m : Str → Option Value} (hns : h₁.Ns (s₂.heap.objs.size + 1) m) {o₂ : Obj} (hsb : Heap.SameBut (s₂.heap.objs.size + 1) ((s₂.heap.push o).push o₂) h₁) (tk : Tok) :
    BInv wd cx scope cl I s₂.heap.objs.size (s₂.heap.objs.size + 1) (subR keep ρ) Sw s₂ acc 0 n₁ { s₂ with heap := h₁, toks := tk } ∧ Out wd cx I ∧ Out wd cx s₂.heap.objs.size ∧ Out wd cx (s₂.heap.objs.size + 1) ∧ I < s₂.heap.objs.size ∧ ∀ b o, s₂.heap.get? b = some o → h₁.get? b = some o := by
  have up : ∀ b o', s.heap.get? b = some o' → b < s₂.heap.objs.size := fun b o' e => let ⟨_, e'⟩ := B.st.there b o' e; Heap.lt_size e'
  have hI2 : I < s₂.heap.objs.size := by obtain ⟨o', e, _⟩ := live _ _ st0; exact Heap.lt_size e
  have sfresh : ∀ z, s₂.heap.objs.size ≤ z → s.heap.get? z = Option.none := fun z hz => by
    cases q : s.heap.get? z with
    | none => rfl
    | some o' => exact absurd (up z o' q) (Nat.not_lt.mpr hz)
  have oI := Dy0.out S B.hI
  have oD := Dy0.out S (sfresh _ (Nat.le_refl _))
  have oC := Dy0.out S (sfresh _ (Nat.le_succ s₂.heap.objs.size))
  have hDn : s₂.heap.objs.size ≠ s₂.heap.objs.size + 1 := Nat.ne_of_lt (Nat.lt_succ_self _)
  have old : ∀ b o', s₂.heap.get? b = some o' → h₁.get? b = some o' := fun b o' e => hsb.extBut b o' (Nat.ne_of_lt (Nat.lt_succ_of_lt (Heap.lt_size e))) (Heap.get?_push_of_some _ (Heap.get?_push_of_some _ e))
  have eD : h₁.get? s₂.heap.objs.size = some o := hsb.extBut _ _ hDn (Heap.get?_push_of_some _ (Heap.get?_push_size _ hof))
  have hlt : mainGlobals < s₂.heap.objs.size := by
    obtain ⟨og, _, _, e, _⟩ := S.ok.g
    exact Heap.lt_size (B.st.dy.inv.stay _ _ e)
  have DI := B.w.dy.keeps old
  have S' : St wd ((cxB cx scope cl I (s₂.heap.objs.size + 1)).plus (some s₂.heap.objs.size)) := cxB_st S hs cs oI oC (fun D q => by cases q; exact oD) hcl
  refine ⟨⟨⟨h₁, tk, rfl⟩, BGo.of_keeps old, ⟨DI.inv, DI.frs, fun b hb => ?_, fun P q ps pos c hm e hc hx => ?_⟩, fun y d e => ?_, ⟨m, hns⟩, hown _ eD hlt, walk.frame _ _ _ st0 fun b _ o' e => old b o' e⟩, oI, oD, oC, hI2, old⟩
  · rcases hb with (hb | hb | hb) | hb
    · exact DI.there b (.inl hb)
    · exact DI.there b (.inr hb)
    · obtain ⟨o', _, _, e', _⟩ := hns; exact ⟨o', hb ▸ e'⟩
    · cases hb; exact ⟨o, eD⟩
  · have hlt2 : c < s₂.heap.objs.size := by
      obtain ⟨ps', e', _⟩ := B.w.dy.inv.tab P q hm
      have := old _ _ e'
      (first | exact nn this (e) | cases ss (e) this | cases Eq.trans (Eq.symm (e)) this | (rw [e] at this; cases this))
      obtain ⟨o', _, e2, _⟩ := B.w.dy.inv.codeThere hm e' hc
      exact Heap.lt_size e2
    rcases hx with (hx | hx | hx) | hx
    · exact DI.code P q ps pos c hm e hc (.inl hx)
    · exact DI.code P q ps pos c hm e hc (.inr hx)
    · rw [hx] at hlt2; exact absurd hlt2 (Nat.not_lt.mpr (Nat.le_succ _))
    · cases hx; exact Nat.lt_irrefl _ hlt2
  · obtain ⟨hk, hρ⟩ := subR_lookup e
    obtain ⟨v, b, r⟩ := L y d hρ
    have hf := (cs.kept y hk).1
    have hck : cx.env.kindOf y = some .cell := by unfold Env.kindOf; rw [hs]; exact cs.free _ hf rfl
    rcases b with ⟨hkl, _⟩ | ⟨_, c, hc, hw, hcell⟩
    · (first | exact nn hkl (hck) | cases ss (hck) hkl | cases Eq.trans (Eq.symm (hck)) hkl | (rw [hck] at hkl; cases hkl))
    · refine ⟨v, c, (hcl y hf).trans hc, hw, ?_, ?_⟩
      · obtain ⟨oc, ec, hd⟩ := hcell
        obtain ⟨sl, e'⟩ := (B.st.go c oc ec hw).2
        exact ⟨_, old _ _ e', hd⟩
      · have r1 : Rep wd ((cxB cx scope cl I (s₂.heap.objs.size + 1)).plus (some s₂.heap.objs.size)).X s.heap v d := r.mono (fun b o' eb hx z => by
          rcases z with (z | z | z) | z
          · exact hx z
          · (first | exact nn eb ((z) ▸ (B.hI)) | (rw [z, B.hI] at eb; cases eb))
          · (first | exact nn eb ((z) ▸ (sfresh _ (Nat.le_succ s₂.heap.objs.size))) | (rw [z, sfresh _ (Nat.le_succ s₂.heap.objs.size)] at eb; cases eb))
          · cases z; (first | exact nn eb (sfresh _ (Nat.le_refl _)) | cases ss (sfresh _ (Nat.le_refl _)) eb | cases Eq.trans (Eq.symm (sfresh _ (Nat.le_refl _))) eb | (rw [sfresh _ (Nat.le_refl _)] at eb; cases eb))) fun _ _ e _ => e
        exact (Rep.go (cx := (cxB cx scope cl I (s₂.heap.objs.size + 1)).plus (some s₂.heap.objs.size)) S' B.st.go r1).keeps old

/-- from the block back -/
theorem BInv.done {cx : Cx} {scope : Scope} {cl : List (Str × Addr)} {I D C : Addr} {ρ : Rho} {Sw : Nat → Heap → Prop} {s s₂ s₃ : Shared} {acc : PV} {i : Nat} {n₁ n' : Int} {ds : List PV} {h' : Heap} {tk : Tok}
    (B : BStart wd cx s n₁ s₂ I ds) (K : BInv wd cx scope cl I D C ρ Sw s₂ acc i n' s₃) (S : St wd cx) (oI : Out wd cx I) (oD : Out wd cx D) (oC : Out wd cx C) (hDI : D ≠ I) (hDC : D ≠ C) (hIC : I ≠ C) (hD2 : s.heap.get? D = Option.none) (hC2 : s.heap.get? C = Option.none)
    (keep : ∀ b o, b ≠ I → s₃.heap.get? b = some o → h'.get? b = some o) :
    Step wd cx s n' { s₃ with heap := h', toks := tk } ∧ Dy wd (cx.add C) n' h' ∧ Rep wd (cx.add C).X h' (.ref D) acc ∧ ∃ m, h'.Ns C m := by
  obtain ⟨h, tk', rfl⟩ := K.same
  obtain ⟨h₂, tk₂, rfl⟩ := B.st.same
  have old : ∀ b, wd.W b → b ≠ I := fun b hb q => oI.nw (q ▸ hb)
  have tabk : ∀ P q, (P, q) ∈ wd.tabs → ∀ o, h.get? P = some o → h'.get? P = some o := fun P q hm o e => keep P o (old P (.inr ⟨q, hm⟩)) e
  have k0 := K.dy.inv
  have inv' : Inv wd n' h' := by
    refine ⟨fun b o e => keep b o (fun q => by (first | exact nn e ((q) ▸ (oI.ng)) | (rw [q, oI.ng] at e; cases e))) (k0.stay b o e), ?_, ?_, fun P q hm => ?_⟩
    · obtain ⟨t, o, e, r⟩ := k0.box
      exact ⟨t, o, keep _ _ (old _ (.inl rfl)) e, r⟩
    · obtain ⟨its, j, e, r⟩ := k0.froz
      exact ⟨its, j, keep _ _ oI.nlf.symm e, r⟩
    · obtain ⟨ps, e, ht, hc⟩ := k0.tab P q hm
      refine ⟨ps, tabk P q hm _ e, ht, fun pos cv hh => ?_⟩
      obtain ⟨c, o, vs, t, h1, h2, h3, h4⟩ := hc pos cv hh
      subst h1
      have hcx := K.dy.code P q ps pos c hm e hh
      exact ⟨c, o, vs, t, rfl, keep _ _ (fun q => hcx (.inl (.inr (.inl q)))) h2, h3, h4⟩
  have frs' : Frs cx.l h' := fun e he => by
    obtain ⟨L, m, hf, hn⟩ := K.dy.frs e he
    exact ⟨L, m, hf, hn.at fun o eo => keep _ o (fun q => oI.nf ⟨e, he, q ▸ hf⟩) eo⟩
  have dyC : Dy wd (cx.add C) n' h' := by
    refine ⟨inv', frs', fun b hb => ?_, fun P q ps pos c hm e hc hx => ?_⟩
    · have hbI : b ≠ I := fun q => by
        rcases hb with hb | hb
        · exact oI.nx (q ▸ hb)
        · exact hIC (q ▸ hb)
      obtain ⟨o, e⟩ := K.dy.there b (by rcases hb with hb | hb; exact .inl (.inl hb); exact .inl (.inr (.inr hb)))
      exact ⟨o, keep b o hbI e⟩
    · obtain ⟨ps', e', _⟩ := k0.tab P q hm
      have := tabk P q hm _ e'
      (first | exact nn this (e) | cases ss (e) this | cases Eq.trans (Eq.symm (e)) this | (rw [e] at this; cases this))
      exact K.dy.code P q ps pos c hm e' hc (by rcases hx with hx | hx; exact .inl (.inl hx); exact .inl (.inr (.inr hx)))
  have ns' : ∃ m, h'.Ns C m := let ⟨m, hn⟩ := K.ns; ⟨m, hn.at fun o e => keep _ o hIC.symm e⟩
  refine ⟨⟨⟨h', tk, rfl⟩, fun b o e hw => ?_, dyC.sub rfl fun b hb => .inl hb, fun b o e => ?_⟩, dyC, ?_, ns'⟩
  · obtain ⟨x1, sl, x2⟩ := B.st.go b o e hw
    have hz : ¬ (b = I ∨ b = D ∨ b = C) := fun z => by
      rcases z with z | z | z
      · (first | exact nn e ((z) ▸ (B.hI)) | (rw [z, B.hI] at e; cases e))
      · (first | exact nn e ((z) ▸ (hD2)) | (rw [z, hD2] at e; cases e))
      · (first | exact nn e ((z) ▸ (hC2)) | (rw [z, hC2] at e; cases e))
    have hbI : b ≠ I := fun q => hz (.inl q)
    obtain ⟨y1, sl', y2⟩ := K.bg.1 b _ x2 hw hz
    exact ⟨fun hf => keep b o hbI ((K.bg.1 b o (x1 hf) hw hz).1 hf), sl', keep b _ hbI y2⟩
  · obtain ⟨o', e'⟩ := B.st.there b o e
    obtain ⟨o'', e''⟩ := K.bg.2 b o' e'
    exact ⟨o'', keep b o'' (fun q => by (first | exact nn e ((q) ▸ (B.hI)) | (rw [q, B.hI] at e; cases e))) e''⟩
  · have hnD : ¬ (cx.add C).X D := fun z => z.elim oD.nx hDC
    have hX : ∀ b, (cx.add C).X b → ((cxB cx scope cl I C).plus (some D)).X b := fun b hb => by
      rcases hb with hb | hb
      · exact .inl (.inl hb)
      · exact .inl (.inr (.inr hb))
    have r1 : Rep wd (cx.add C).X h (.ref D) acc := by
      cases K.own with
      | lst e r => exact .lst hnD e (r.mono (fun b _ _ x z => x (hX b z)) fun _ _ e _ => e)
      | dic lo e hk r => exact .dic hnD lo e hk (r.mono (fun b _ _ x z => x (hX b z)) fun _ _ e _ => e)
    have rI : Rep wd (fun b => (cx.add C).X b ∨ b = I) h (.ref D) acc := by
      have hX' : ∀ b, ((cx.add C).X b ∨ b = I) → ((cxB cx scope cl I C).plus (some D)).X b := fun b hb => by
        rcases hb with hb | hb
        · exact hX b hb
        · exact .inl (.inr (.inl hb))
      cases K.own with
      | lst e r => exact .lst (fun z => z.elim hnD hDI) e (r.mono (fun b _ _ x z => x (hX' b z)) fun _ _ e _ => e)
      | dic lo e hk r => exact .dic (fun z => z.elim hnD hDI) lo e hk (r.mono (fun b _ _ x z => x (hX' b z)) fun _ _ e _ => e)
    exact rI.mono (fun b _ _ x z => x (.inl z)) fun b o e hx => keep b o (fun q => hx (.inr q)) e

theorem BInv.val {cx : Cx} {scope : Scope} {cl : List (Str × Addr)} {I D C : Addr} {ρ : Rho} {Sw : Nat → Heap → Prop} {s₂ s₃ : Shared} {acc : PV} {i : Nat} {n : Int} (K : BInv wd cx scope cl I D C ρ Sw s₂ acc i n s₃) (S : St wd cx)
    (hD : s₂.heap.get? D = Option.none) (hC : s₂.heap.get? C = Option.none) {v : Value} {d : PV} (r : Rep wd (cx.add I).X s₂.heap v d) : Rep wd ((cxB cx scope cl I C).plus (some D)).X s₃.heap v d :=
  r.mono (fun b o e hx z => by
    rcases z with (z | z | z) | z
    · exact hx (.inl z)
    · exact hx (.inr z)
    · (first | exact nn e ((z) ▸ (hC)) | (rw [z, hC] at e; cases e))
    · cases z; (first | exact nn e (hD) | cases ss (hD) e | cases Eq.trans (Eq.symm (hD)) e | (rw [hD] at e; cases e))) fun b o e hx => (K.bg.1 b o e (fun hw => hx (.inl (S.xw b hw))) fun z => by
      rcases z with z | z | z
      · exact hx (.inr z)
      · (first | exact nn e ((z) ▸ (hD)) | (rw [z, hD] at e; cases e))
      · (first | exact nn e ((z) ▸ (hC)) | (rw [z, hC] at e; cases e))).1 fun ⟨e', he', hf⟩ => by
        obtain ⟨_, L, hL, _, _, hXL⟩ := S.chain e' he'
        (first | exact nn hf (hL) | cases ss (hL) hf | cases Eq.trans (Eq.symm (hL)) hf | (rw [hL] at hf; cases hf))
        exact hx (.inl hXL)

/-- one turn's meaning -/
inductive CompF1 {α : Type} (x : Str) (ρ : Rho) (mt : Rho → M Bool) (step : Rho → α → M α) (d : PV) (ds : List PV) (acc : α) (n : Int) (out : α) (n' : Int) : Prop
  | mk (b : Bool) (n₄ : Int) : mt ((x, d) :: ρ) n = some (.ok b, n₄) → (b = false → compF x ρ mt step ds acc n₄ = some (.ok out, n')) →
    (b = true → ∃ acc' n₅, step ((x, d) :: ρ) acc n₄ = some (.ok acc', n₅) ∧ compF x ρ mt step ds acc' n₅ = some (.ok out, n')) → CompF1 x ρ mt step d ds acc n out n'
theorem compF_one {α : Type} {x : Str} {ρ : Rho} {mt : Rho → M Bool} {step : Rho → α → M α} {d : PV} {ds : List PV} {acc out : α} {n n' : Int} (e : compF x ρ mt step (d :: ds) acc n = some (.ok out, n')) : CompF1 x ρ mt step d ds acc n out n' := by
  simp only [compF] at e
  obtain ⟨b, n₄, e1, e2⟩ := noErr_bnd e
  exact ⟨b, n₄, e1, fun hb => by subst hb; exact e2, fun hb => by subst hb; exact noErr_bnd e2⟩

/-- what stands while a block runs: the accumulator D, the block's names behind it -/
structure BCx (wd : Wd) (cx : Cx) (sc scope : Scope) (x : Str) (keep : List Str) (cl : List (Str × Addr)) (I D : Addr) (s s₂ : Shared) (n₁ : Int) (ds : List PV) (fp : List Addr) (P : Nat → Value → Prop) (Sw : Nat → Heap → Prop) : Prop where
  B : BStart wd cx s n₁ s₂ I ds
  S : St wd cx
  hs : cx.env.scope = sc
  cs : CScope sc scope x keep
  S' : St wd ((cxB cx scope cl I (D + 1)).plus (some D))
  S0 : St wd (cxB cx scope cl I (D + 1))
  oI : Out wd cx I
  oD : Out wd cx D
  oC : Out wd cx (D + 1)
  hDI : D ≠ I
  hIC : I ≠ D + 1
  hD : s₂.heap.objs.size = D
  d0 : ∀ z, D ≤ z → s.heap.get? z = Option.none
  walk : Walks wd.prog wd.w cx.A I fp [I] ds.length P Sw
  fpb : ∀ b ∈ fp, b = I ∨ (¬ (cxB cx scope cl I (D + 1)).X b ∧ b ≠ D)
  val : ∀ j v d, P j v → ds[j]? = some d → Rep wd (cx.add I).X s₂.heap v d
  live : ∀ i h, Sw i h → ∃ o, h.get? I = some o ∧ ∀ v, o.data ≠ .cell v

section
variable {cx : Cx} {scope : Scope} {x : Str} {keep : List Str} {cl : List (Str × Addr)} {I D : Addr} {s s₂ : Shared} {n₁ : Int} {ds : List PV} {fp : List Addr} {P : Nat → Value → Prop} {Sw : Nat → Heap → Prop} {ρ : Rho}

theorem BCx.d2 (T : BCx wd cx sc scope x keep cl I D s s₂ n₁ ds fp P Sw) : s₂.heap.get? D = Option.none := Heap.get?_none_of_le (Nat.le_of_eq T.hD)
theorem BCx.c2 (T : BCx wd cx sc scope x keep cl I D s s₂ n₁ ds fp P Sw) : s₂.heap.get? (D + 1) = Option.none := Heap.get?_none_of_le (T.hD.symm ▸ Nat.le_succ _)
theorem BCx.hDC (_ : BCx wd cx sc scope x keep cl I D s s₂ n₁ ds fp P Sw) : D ≠ D + 1 := Nat.ne_of_lt (Nat.lt_succ_self _)
theorem BCx.frame (T : BCx wd cx sc scope x keep cl I D s s₂ n₁ ds fp P Sw) (i : Nat) (h h' : Heap) (sw : Sw i h) (kk : ∀ b o, (b = I ∨ (¬ (cxB cx scope cl I (D + 1)).X b ∧ b ≠ D)) → h.get? b = some o → h'.get? b = some o) : Sw i h' := T.walk.frame i h h' sw fun b hb o e => kk b o (T.fpb b hb) e
theorem BCx.frameC (T : BCx wd cx sc scope x keep cl I D s s₂ n₁ ds fp P Sw) {i : Nat} {h h' : Heap} (sw : Sw i h) (kk : ∀ b o, b ≠ D + 1 → h.get? b = some o → h'.get? b = some o) : Sw i h' := T.frame i h h' sw fun b o hb e => kk b o (fun q => by
  rcases hb with hb | hb
  · exact T.hIC (hb.symm.trans q)
  · exact hb.1 (.inr (.inr q))) e
theorem BCx.frameD (T : BCx wd cx sc scope x keep cl I D s s₂ n₁ ds fp P Sw) {i : Nat} {h h' : Heap} (sw : Sw i h) (kk : ∀ b o, b ≠ D → h.get? b = some o → h'.get? b = some o) : Sw i h' := T.frame i h h' sw fun b o hb e => kk b o (fun q => by
  rcases hb with hb | hb
  · exact T.hDI (q.symm.trans hb)
  · exact hb.2 q) e
theorem BCx.step (T : BCx wd cx sc scope x keep cl I D s s₂ n₁ ds fp P Sw) {acc : PV} {i : Nat} {n n' : Int} {s₃ s₄ : Shared} (K : BInv wd cx scope cl I D (D + 1) ρ Sw s₂ acc i n s₃) (st : Step wd ((cxB cx scope cl I (D + 1)).plus (some D)) s₃ n' s₄) : BInv wd cx scope cl I D (D + 1) ρ Sw s₂ acc i n' s₄ :=
  K.step T.S' T.S0 T.oI T.oD T.oC T.hDI T.hDC st T.frame
theorem BCx.hs' (T : BCx wd cx sc scope x keep cl I D s s₂ n₁ ds fp P Sw) : ((cxB cx scope cl I (D + 1)).plus (some D)).env.scope = relab scope sc := relabel_eq T.hs

/-- the accumulator grows -/
theorem BCx.grow (T : BCx wd cx sc scope x keep cl I D s s₂ n₁ ds fp P Sw) {acc acc' : PV} {i : Nat} {n : Int} {s₃ : Shared} {h' : Heap} {tk : Tok} (K : BInv wd cx scope cl I D (D + 1) ρ Sw s₂ acc i n s₃)
    (hs : Heap.SameBut D s₃.heap h') (hex : ∃ o, h'.get? D = some o) (own : (∀ b o, b ≠ D → s₃.heap.get? b = some o → h'.get? b = some o) → Owned wd (cxB cx scope cl I (D + 1)) h' D acc') : BInv wd cx scope cl I D (D + 1) ρ Sw s₂ acc' i n { s₃ with heap := h', toks := tk } := by
  have keep : ∀ b o, b ≠ D → s₃.heap.get? b = some o → h'.get? b = some o := fun b o hb e => hs.extBut b o hb e
  have hXD : ((cxB cx scope cl I (D + 1)).plus (some D)).X D := .inr rfl
  obtain ⟨h, tk', hs'⟩ := K.same
  obtain ⟨o, e, hc, _⟩ := K.own.there
  obtain ⟨m, hn⟩ := K.ns
  exact ⟨⟨h', tk, by rw [hs']⟩, K.bg.trans (BGo.but (.inr (.inl rfl)) keep hex), K.dy.but hXD T.oD.nw T.oD.ng T.oD.nlf T.oD.nf keep hex, K.lc.but hXD (fun v ⟨o', e', hd⟩ => by (first | exact nn e' (e) | cases ss (e) e' | cases Eq.trans (Eq.symm (e)) e' | (rw [e] at e'; cases e')); exact hc _ hd) keep, ⟨m, hn.at fun o e => keep _ o T.hDC.symm e⟩, own keep, T.frameD K.sw keep⟩

theorem BStart.ctx {fp : List Addr} {P : Nat → Value → Prop} {Sw : Nat → Heap → Prop} {n : Int} {o : Obj} {acc : PV} (B : BStart wd cx s n₁ s₂ I ds) (S : St wd cx) (hs : cx.env.scope = sc) (cs : CScope sc scope x keep) (D0 : Dy wd cx n s.heap) (L : Loc wd cx ρ s.heap)
    (hcl : ∀ y, (y, NameKind.free) ∈ scope.names → cl.lookup y = cx.env.cells.lookup y) (walk : Walks wd.prog wd.w cx.A I fp [I] ds.length P Sw) (st0 : Sw 0 s₂.heap) (hfp : ∀ b ∈ fp, b = I ∨ (¬ cx.X b ∧ ∃ o, s₂.heap.get? b = some o ∧ ∀ v, o.data ≠ .cell v))
    (live : ∀ i h, Sw i h → ∃ o, h.get? I = some o ∧ ∀ v, o.data ≠ .cell v) (hval : ∀ j v d, P j v → ds[j]? = some d → Rep wd (cx.add I).X s₂.heap v d) (hD : s₂.heap.objs.size = D)
    (hof : o.isFreed = false) (hown : ∀ h, h.get? D = some o → mainGlobals < D → Owned wd (cxB cx scope cl I (D + 1)) h D acc)
    {h₁ : Heap} {m : Str → Option Value} (hns : h₁.Ns (D + 1) m) {o₂ : Obj} (hsb : Heap.SameBut (D + 1) ((s₂.heap.push o).push o₂) h₁) (tk : Tok) :
    BCx wd cx sc scope x keep cl I D s s₂ n₁ ds fp P Sw ∧ BInv wd cx scope cl I D (D + 1) (subR keep ρ) Sw s₂ acc 0 n₁ { s₂ with heap := h₁, toks := tk } := by
  subst hD
  obtain ⟨K0, oI, oD, oC, hI2, old⟩ := B.binv S hs cs D0 L hcl walk st0 hfp live hof hown hns hsb tk
  have sfresh : ∀ z, s₂.heap.objs.size ≤ z → s.heap.get? z = Option.none := fun z hz => by
    cases q : s.heap.get? z with
    | none => rfl
    | some o' => obtain ⟨_, e'⟩ := B.st.there z o' q; exact absurd (Heap.lt_size e') (Nat.not_lt.mpr hz)
  have q := cxB_st (am := Option.none) S hs cs oI oC (fun D' q => by cases q) hcl
  refine ⟨⟨B, S, hs, cs, cxB_st S hs cs oI oC (fun D' q => by cases q; exact oD) hcl, ?_, oI, oD, oC, Nat.ne_of_gt hI2, Nat.ne_of_lt (Nat.lt_succ_of_lt hI2), rfl, sfresh, walk, fun b hb => ?_, hval, live⟩, K0⟩
  · exact { ok := q.ok, frames := q.frames, handled := q.handled, kind := q.kind, globals := q.globals, builtins := q.builtins, chain := fun e he => let ⟨h1, L, h2, h3, h4, h5⟩ := S.chain e he; ⟨h1, L, h2, h3, h4, .inl h5⟩, xw := fun b hb => .inl (S.xw b hb), xlf := fun z => q.xlf (.inl z), xg := fun b o e z => q.xg b o e (.inl z), cellIs := q.cellIs, code := q.code }
  · by_cases hbI : b = I
    · exact .inl hbI
    · obtain ⟨hx, o, e, _⟩ := (hfp b hb).resolve_left hbI
      have hlt := Heap.lt_size e
      exact .inr ⟨fun z => z.elim hx fun z => z.elim hbI fun z => by rw [z] at hlt; exact absurd hlt (Nat.not_lt.mpr (Nat.le_succ _)), Nat.ne_of_lt hlt⟩

/-- one turn of a block -/
theorem BCx.turn {α : Type} {wrap : α → PV} {mt : Rho → M Bool} {step : Rho → α → M α} {ifs : List Expr} {px : Pos} (T : BCx wd cx sc scope x keep cl I D s s₂ n₁ ds fp P Sw) (ht : TestsV wd (relab scope sc) k ifs mt) (R : Room k cx.A)
    {i : Nat} {outs out : α} {n₃ n' : Int} {s₃ : Shared} (hile : i ≤ ds.length) (e : compF x (subR keep ρ) mt step (ds.drop i) outs n₃ = some (.ok out, n')) (K : BInv wd cx scope cl I D (D + 1) (subR keep ρ) Sw s₂ (wrap outs) i n₃ s₃)
    {N0 Tr Fa : Shared → Prop} {E : Value → Shared → Prop} {N : Option Value → Shared → Prop}
    (hN0 : ∀ s', Step wd cx s n' s' → Dy wd (cx.add (D + 1)) n' s'.heap → Rep wd (cx.add (D + 1)).X s'.heap (.ref D) (wrap out) → (∃ m, s'.heap.Ns (D + 1) m) → N0 s')
    (hT : ∀ s₆ n₄ d acc' n₅, i < ds.length → step ((x, d) :: subR keep ρ) outs n₄ = some (.ok acc', n₅) → compF x (subR keep ρ) mt step (ds.drop (i + 1)) acc' n₅ = some (.ok out, n') → BInv wd cx scope cl I D (D + 1) (subR keep ρ) Sw s₂ (wrap outs) (i + 1) n₄ s₆ →
      Loc wd ((cxB cx scope cl I (D + 1)).plus (some D)) ((x, d) :: subR keep ρ) s₆.heap → Tr s₆)
    (hF : ∀ s₆ n₄, i < ds.length → compF x (subR keep ρ) mt step (ds.drop (i + 1)) outs n₄ = some (.ok out, n') → BInv wd cx scope cl I D (D + 1) (subR keep ρ) Sw s₂ (wrap outs) (i + 1) n₄ s₆ → Fa s₆)
    (hN : N = fun r s₁ => match r with
      | Option.none => N0 s₁
      | some v => wpAny (model wd.prog wd.w) cx.A (PySem.assign (.Name x px) (compEnvC scope cl (D + 1) cx.env) v) (fun _ s₂ =>
          wpAny (model wd.prog wd.w) cx.A (forIn ifs true fun c r => if r = true then do let ok ← isTrue c (compEnvC scope cl (D + 1) cx.env) (eval c (compEnvC scope cl (D + 1) cx.env)); pure (ForInStep.yield ok) else pure (ForInStep.yield r)) (fun ok s₃ => if ok = true then Tr s₃ else Fa s₃) E s₂) E s₁) :
    wpAny (model wd.prog wd.w) cx.A (pyNext (.ref I)) N E s₃ := by
  obtain ⟨m₃, hn₃⟩ := K.ns
  have keepI : ∀ {h₄ : Heap}, (∀ b o, b ∉ [I] → s₃.heap.get? b = some o → h₄.get? b = some o) → ∀ b o, b ≠ I → s₃.heap.get? b = some o → h₄.get? b = some o := fun hk b o hb e => hk b o (fun q => hb (List.mem_singleton.mp q)) e
  rcases Nat.lt_or_eq_of_le hile with hlt | hlt
  · obtain ⟨d, hd, hdrop⟩ := drop_at hlt
    rw [hdrop] at e
    obtain ⟨b, n₄, e1, e2, e3⟩ := compF_one e
    have KL : ∀ v h₄ tk₄, P i v → Sw (i + 1) h₄ → (∀ b o, b ≠ I → s₃.heap.get? b = some o → h₄.get? b = some o) → h₄.Ns (D + 1) m₃ ∧ ∀ h₅ m₅, h₅.Ns (D + 1) m₅ → m₅ x = some v → Heap.SameBut (D + 1) h₄ h₅ →
        BInv wd cx scope cl I D (D + 1) (subR keep ρ) Sw s₂ (wrap outs) (i + 1) n₃ { s₃ with heap := h₅, toks := tk₄ } ∧ Loc wd ((cxB cx scope cl I (D + 1)).plus (some D)) ((x, d) :: subR keep ρ) h₅ := fun v h₄ tk₄ hPv sw₄ kI => by
      have hn₄ : h₄.Ns (D + 1) m₃ := hn₃.at fun o e => kI _ o T.hIC.symm e
      have K₄ : BInv wd cx scope cl I D (D + 1) (subR keep ρ) Sw s₂ (wrap outs) (i + 1) n₃ { s₃ with heap := h₄, toks := tk₄ } :=
        K.but (z := I) (.inl rfl) T.oI T.hDI (fun v ⟨o, e, hd⟩ => by obtain ⟨o', e', hc⟩ := T.live _ _ K.sw; (first | exact nn e' (e) | cases ss (e) e' | cases Eq.trans (Eq.symm (e)) e' | (rw [e] at e'; cases e')); exact hc v hd) kI (let ⟨o, e, _⟩ := T.live _ _ sw₄; ⟨o, e⟩) ⟨m₃, hn₄⟩ sw₄
      refine ⟨hn₄, fun h₅ m₅ hn₅ hx hs₅ => ?_⟩
      have keep₅ : ∀ b o, b ≠ D + 1 → h₄.get? b = some o → h₅.get? b = some o := fun b o hb e => hs₅.extBut b o hb e
      have K₅ : BInv wd cx scope cl I D (D + 1) (subR keep ρ) Sw s₂ (wrap outs) (i + 1) n₃ { s₃ with heap := h₅, toks := tk₄ } :=
        K₄.but (z := D + 1) (tk := tk₄) (.inr rfl) T.oC T.hDC (fun v ⟨o, e, hd⟩ => by obtain ⟨o', _, _, e', hd', _⟩ := hn₄; (first | exact nn e' (e) | cases ss (e) e' | cases Eq.trans (Eq.symm (e)) e' | (rw [e] at e'; cases e')); (first | exact nn hd' (hd) | cases ss (hd) hd' | cases Eq.trans (Eq.symm (hd)) hd' | (rw [hd] at hd'; cases hd'))) keep₅ (let ⟨o, _, _, e, _⟩ := hn₅; ⟨o, e⟩) ⟨_, hn₅⟩ (T.frameC sw₄ keep₅)
      exact ⟨K₅, K₅.loc (x := x) (keep := keep) T.hs T.cs T.oC hn₅ hx (K₅.val T.S T.d2 T.c2 (T.val i v d hPv hd))⟩
    refine T.walk.item i _ _ _ hlt K.sw fun v h₄ tk₄ hPv sw₄ hk₄ => ?_
    obtain ⟨hn₄, KL⟩ := KL v h₄ (tk₄ + 1) hPv sw₄ (keepI hk₄)
    rw [hN]
    refine wpAny_assign_Name (wpAny_storeName_local (lookup_relabel_local T.cs.var) hn₄ (fun h₅ hn₅ hs₅ => ?_) (by
      show (scope.kind == .class || (scope.kind == .module && _)) = false
      rw [T.cs.kind]; rfl))
    obtain ⟨K₅, L₅⟩ := KL h₅ _ hn₅ (if_pos rfl) hs₅
    unfold TestsV at ht
    refine ht.okAt T.S' T.hs' R e1 K₅.dy L₅ fun ok s₆ st₆ hok => ?_
    have K₆ := T.step K₅ st₆
    subst hok
    cases ok with
    | false => exact hF s₆ n₄ hlt (e2 rfl) K₆
    | true => obtain ⟨acc', n₅, e4, e5⟩ := e3 rfl; exact hT s₆ n₄ d acc' n₅ hlt e4 e5 K₆ (L₅.go T.S' st₆.go)
  · rw [hlt, List.drop_length] at e
    obtain ⟨ho, hn⟩ := ret_ok (show Lz.ret outs n₃ = _ from e)
    subst ho; subst hn
    refine T.walk.done _ _ _ (hlt ▸ K.sw) fun h₄ tk₄ hk₄ => ?_
    obtain ⟨f1, f2, f3, f4⟩ := BInv.done (tk := tk₄) T.B K T.S T.oI T.oD T.oC T.hDI T.hDC T.hIC (T.d0 _ (Nat.le_refl _)) (T.d0 _ (Nat.le_succ _)) (keepI hk₄)
    rw [hN]
    exact hN0 _ f1 f2 f3 f4
end

/-- the list comprehension's block -/
theorem comp_list {iter elt : Expr} {x : Str} {px : Pos} {ifs : List Expr} {scope : Scope} {pos : Pos} {keep : List Str} {mi : Rho → M (List PV)} {mt : Rho → M Bool} {me : Rho → M PV} (cs : CScope sc scope x keep) (hi : ItV wd sc k iter mi)
    (ht : TestsV wd (relab scope sc) k ifs mt) (he : Ev wd (relab scope sc) k (eval elt) me) {cx : Cx} (S : St wd cx) (hs : cx.env.scope = sc) (R : Room k cx.A) {ρ : Rho} {s : Shared} {n n' : Int} {out : List PV}
    (em : (bnd (noErr (mi ρ)) fun ds => compF x (subR keep ρ) mt (fun ρ' acc => bnd (me ρ') fun e => ret (acc ++ [e])) ds []) n = some (.ok out, n')) (D0 : Dy wd cx n s.heap) (L : Loc wd cx ρ s.heap)
    {RR : Value → Addr → Result → Shared → Prop} {E : Value → Shared → Prop}
    (hRR : ∀ D C s', Step wd cx s n' s' → Dy wd (cx.add C) n' s'.heap → Rep wd (cx.add C).X s'.heap (.ref D) (.lst out) → (∃ m, s'.heap.Ns C m) → Out wd cx C → s.heap.get? C = Option.none → RR (.ref D) C (.ok .next) s') :
    ∃ cl, closureFor scope cx.env = pure cl ∧ wpAny (model wd.prog wd.w) cx.A (eval iter cx.env) (fun xv s₁ => wpAny (model wd.prog wd.w) cx.A (pyIter xv) (fun it s₂ => wpAny (model wd.prog wd.w) cx.A (newList []) (fun acc s₃ =>
      wpAny (model wd.prog wd.w) cx.A (newFunctionEnv scope cx.env.globals cl [] cx.env.qual Option.none .none (some cx.env)) (fun cenv s₄ =>
        codeAny (model wd.prog wd.w) cx.A (.compStart (.ListComp elt [⟨.Name x px, iter, ifs, 0⟩] scope pos) 0 it acc { cenv with scope := relabel scope cx.env }) (RR acc cenv.locals) s₄) E s₃) E s₂) E s₁) E s := by
  obtain ⟨cl, hclos, hcl⟩ := closure_of (scope := scope) (env := cx.env) fun y hy => S.cellIs y (by unfold Env.kindOf; rw [hs]; exact cs.free _ hy rfl)
  obtain ⟨ds, n₁, e3, e2⟩ := noErr_bnd em
  refine ⟨cl, hclos, hi.okAt S hs R e3 D0 L fun I s₂ st₂ W hI => ?_⟩
  refine wpAny_newObj_type (wpAny_newFunctionEnv cs.cell (by intro y hy; simp at hy) (fun h₁ hns₁ hsb₁ => ?_) cs.kind)
  dsimp only at hns₁ hsb₁ ⊢
  rw [Heap.size_push] at hns₁ hsb₁ ⊢
  obtain ⟨fp, P, Sw, walk, st0, hfp, hval, live⟩ := W.walk
  generalize hDD : s₂.heap.objs.size = D at *
  generalize htk : s₂.toks + ([] : List (Str × Value)).length = tk
  obtain ⟨T, K0⟩ := BStart.ctx (acc := .lst []) ⟨st₂, W, hI⟩ S hs cs D0 L hcl walk st0 hfp live hval hDD (o := { cls := .type "list", dict := Option.none, data := .seq ([] : List Value).toArray }) rfl (fun h e _ => .lst e .nil) hns₁ hsb₁ tk
  have hsz := W.size
  clear st0 hfp hval live hns₁ hsb₁ W st₂ hI htk
  have loop : ∀ s₃ : Shared, s₃ = { s₂ with heap := h₁, toks := tk } → codeAny (model wd.prog wd.w) cx.A (.compLoop (.ListComp elt [⟨.Name x px, iter, ifs, 0⟩] scope pos) 0 (.ref I) (.ref D) (compEnvC scope cl (D + 1) cx.env)) (RR (.ref D) (D + 1)) s₃ := by
    intro s₃ hs₃
    refine codeAny_compLoop_tests (fun j s₃ => ∃ i n₃ outs, (j + i = ds.length + 1 ∧ i ≤ ds.length ∧ outs.length ≤ i) ∧ compF x (subR keep ρ) mt (fun ρ' acc => bnd (me ρ') fun e => ret (acc ++ [e])) (ds.drop i) outs n₃ = some (.ok out, n') ∧
      BInv wd cx scope cl I D (D + 1) (subR keep ρ) Sw s₂ (.lst outs) i n₃ s₃) ?_ (ds.length + 1) ⟨0, n₁, [], ⟨rfl, Nat.zero_le _, Nat.le_refl _⟩, e2, hs₃ ▸ K0⟩
    intro j s₃ ⟨i, n₃, outs, hj, e₃, K₃⟩
    refine T.turn (wrap := .lst) ht R hj.2.1 e₃ K₃ (fun s' f1 f2 f3 f4 => hRR D (D + 1) s' f1 f2 f3 f4 T.oC (T.d0 _ (Nat.le_succ _))) (fun s₆ n₄ d acc' n₅ hlt e4 e5 K₆ L₆ => ?_) (fun s₆ n₄ hlt e5 K₆ => ⟨ds.length - i, (turn_nat hj.1 hlt).1, i + 1, n₄, outs, ⟨(turn_nat hj.1 hlt).2, hlt, Nat.le_succ_of_le hj.2.2⟩, e5, K₆⟩) rfl
    obtain ⟨y, n₆, e6, e7⟩ := bnd_ok e4
    obtain ⟨ha, hn⟩ := ret_ok e7
    subst ha; subst hn
    refine he.okAt T.S' T.hs' R e6 K₆.dy L₆ fun yv s₇ st₇ ry => ?_
    have K₇ := T.step K₆ st₇
    obtain ⟨its, j₇, eD, rD⟩ := K₇.own.lst_inv
    have hl7 := rD.length
    rw [Array.length_toList] at hl7
    refine wpAny_list_append_plain (hsz := by rw [hl7]; exact Nat.le_trans (Nat.le_trans hj.2.2 (Nat.le_trans hj.2.1 hsz)) (by decide)) ⟨_, eD⟩ fun h₈ ⟨j₈, e₈⟩ hs₈ => ?_
    refine ⟨ds.length - i, (turn_nat hj.1 hlt).1, i + 1, _, outs ++ [y], ⟨(turn_nat hj.1 hlt).2, hlt, by rw [List.length_append]; exact Nat.succ_le_succ hj.2.2⟩, e5, T.grow (tk := s₇.toks) K₇ hs₈ ⟨_, e₈⟩ fun kk => .lst e₈ ?_⟩
    rw [Array.toList_push]
    exact ((rD.mono (fun _ _ _ z => z) fun b o e hx => kk b o (fun q => hx (.inr (q ▸ rfl))) e)).snoc (ry.mono (fun _ _ _ z => z) fun b o e hx => kk b o (fun q => hx (.inr (q ▸ rfl))) e)
  exact codeAny_compStart_list (loop _ rfl) (T.walk.self 0 _ _ _ K0.sw (loop _ rfl))
end
end Lz
namespace Lz
open PySem PySem.W PyProof.Rows

section
variable {wd : Wd} {sc : Scope} {k : Nat}

noncomputable def dstep (mk mv : Rho → M PV) (ρ : Rho) (acc : List (Int × PV)) : M (List (Int × PV)) := bnd (mk ρ) fun i => match i with
  | .int i => bnd (mv ρ) fun v => ret (storeD i v acc)
  | _ => stuck
theorem storeD_length (i : Int) (d : PV) (D : List (Int × PV)) : (storeD i d D).length ≤ D.length + 1 := by
  unfold storeD
  split
  · rw [List.length_map]; exact Nat.le_succ _
  · rw [List.length_append]; exact Nat.le_refl _

theorem dstep_ok {mk mv : Rho → M PV} {ρ : Rho} {acc acc' : List (Int × PV)} {n n' : Int} (e : dstep mk mv ρ acc n = some (.ok acc', n')) : ∃ ki n₆ y, mk ρ n = some (.ok (.int ki), n₆) ∧ mv ρ n₆ = some (.ok y, n') ∧ acc' = storeD ki y acc := by
  obtain ⟨i, n₆, e1, e2⟩ := bnd_ok e
  cases i with
  | int ki =>
    obtain ⟨y, n₇, e3, e4⟩ := bnd_ok e2
    obtain ⟨h1, h2⟩ := ret_ok e4
    exact ⟨ki, n₆, y, e1, h2 ▸ e3, h1⟩
  | _ => exact nomatch e2

/-- the dict comprehension's block -/
theorem comp_dict {iter kx vx : Expr} {x : Str} {px : Pos} {ifs : List Expr} {scope : Scope} {pos : Pos} {keep : List Str} {mi : Rho → M (List PV)} {mt : Rho → M Bool} {mk mv : Rho → M PV} (cs : CScope sc scope x keep) (hi : ItV wd sc k iter mi)
    (ht : TestsV wd (relab scope sc) k ifs mt) (hek : Ev wd (relab scope sc) k (eval kx) mk) (hev : Ev wd (relab scope sc) k (eval vx) mv) {cx : Cx} (S : St wd cx) (hs : cx.env.scope = sc) (R : Room k cx.A) {ρ : Rho} {s : Shared} {n n' : Int} {out : List (Int × PV)}
    (em : (bnd (noErr (mi ρ)) fun ds => compF x (subR keep ρ) mt (dstep mk mv) ds []) n = some (.ok out, n')) (D0 : Dy wd cx n s.heap) (L : Loc wd cx ρ s.heap)
    {RR : Value → Addr → Result → Shared → Prop} {E : Value → Shared → Prop}
    (hRR : ∀ D C s', Step wd cx s n' s' → Dy wd (cx.add C) n' s'.heap → Rep wd (cx.add C).X s'.heap (.ref D) (.dic out) → (∃ m, s'.heap.Ns C m) → Out wd cx C → s.heap.get? C = Option.none → RR (.ref D) C (.ok .next) s') :
    ∃ cl, closureFor scope cx.env = pure cl ∧ wpAny (model wd.prog wd.w) cx.A (eval iter cx.env) (fun xv s₁ => wpAny (model wd.prog wd.w) cx.A (pyIter xv) (fun it s₂ => wpAny (model wd.prog wd.w) cx.A newDict (fun acc s₃ =>
      wpAny (model wd.prog wd.w) cx.A (newFunctionEnv scope cx.env.globals cl [] cx.env.qual Option.none .none (some cx.env)) (fun cenv s₄ =>
        codeAny (model wd.prog wd.w) cx.A (.compStart (.DictComp kx vx [⟨.Name x px, iter, ifs, 0⟩] scope pos) 0 it acc { cenv with scope := relabel scope cx.env }) (RR acc cenv.locals) s₄) E s₃) E s₂) E s₁) E s := by
  obtain ⟨cl, hclos, hcl⟩ := closure_of (scope := scope) (env := cx.env) fun y hy => S.cellIs y (by unfold Env.kindOf; rw [hs]; exact cs.free _ hy rfl)
  obtain ⟨ds, n₁, e3, e2⟩ := noErr_bnd em
  refine ⟨cl, hclos, hi.okAt S hs R e3 D0 L fun I s₂ st₂ W hI => ?_⟩
  refine wpAny_newObj_type (wpAny_newFunctionEnv cs.cell (by intro y hy; simp at hy) (fun h₁ hns₁ hsb₁ => ?_) cs.kind)
  dsimp only at hns₁ hsb₁ ⊢
  rw [Heap.size_push] at hns₁ hsb₁ ⊢
  obtain ⟨fp, P, Sw, walk, st0, hfp, hval, live⟩ := W.walk
  generalize hDD : s₂.heap.objs.size = D at *
  generalize htk : s₂.toks + ([] : List (Str × Value)).length = tk
  obtain ⟨T, K0⟩ := BStart.ctx (acc := .dic []) ⟨st₂, W, hI⟩ S hs cs D0 L hcl walk st0 hfp live hval hDD (o := { cls := .type "dict", dict := Option.none, data := .dict #[] }) rfl (fun h e lo => .dic lo ⟨_, #[], 0, e, ⟨rfl, rfl, rfl⟩, rfl, fun _ he => by simp at he, Pairs.nil, List.nodup_nil⟩ rfl .nil) hns₁ hsb₁ tk
  have hsz := W.size
  clear st0 hfp hval live hns₁ hsb₁ W st₂ hI htk
  have loop : ∀ s₃ : Shared, s₃ = { s₂ with heap := h₁, toks := tk } → codeAny (model wd.prog wd.w) cx.A (.compLoop (.DictComp kx vx [⟨.Name x px, iter, ifs, 0⟩] scope pos) 0 (.ref I) (.ref D) (compEnvC scope cl (D + 1) cx.env)) (RR (.ref D) (D + 1)) s₃ := by
    intro s₃ hs₃
    refine codeAny_compLoop_testsD (fun j s₃ => ∃ i n₃ outs, (j + i = ds.length + 1 ∧ i ≤ ds.length ∧ outs.length ≤ i) ∧ compF x (subR keep ρ) mt (dstep mk mv) (ds.drop i) outs n₃ = some (.ok out, n') ∧
      BInv wd cx scope cl I D (D + 1) (subR keep ρ) Sw s₂ (.dic outs) i n₃ s₃) ?_ (ds.length + 1) ⟨0, n₁, [], ⟨rfl, Nat.zero_le _, Nat.le_refl _⟩, e2, hs₃ ▸ K0⟩
    intro j s₃ ⟨i, n₃, outs, hj, e₃, K₃⟩
    refine T.turn (wrap := .dic) ht R hj.2.1 e₃ K₃ (fun s' f1 f2 f3 f4 => hRR D (D + 1) s' f1 f2 f3 f4 T.oC (T.d0 _ (Nat.le_succ _))) (fun s₆ n₄ d acc' n₅ hlt e4 e5 K₆ L₆ => ?_) (fun s₆ n₄ hlt e5 K₆ => ⟨ds.length - i, (turn_nat hj.1 hlt).1, i + 1, n₄, outs, ⟨(turn_nat hj.1 hlt).2, hlt, Nat.le_succ_of_le hj.2.2⟩, e5, K₆⟩) rfl
    obtain ⟨ki, n₆, y, e6, e7, ha⟩ := dstep_ok e4
    subst ha
    refine hek.okAt T.S' T.hs' R e6 K₆.dy L₆ fun kv s₇ st₇ rk => ?_
    have K₇ := T.step K₆ st₇
    obtain ⟨kt, hkv⟩ := rk.int_inv
    refine hev.okAt T.S' T.hs' R e7 K₇.dy (L₆.go T.S' st₇.go) fun yv s₈ st₈ ry => ?_
    have K₈ := T.step K₇ st₈
    obtain ⟨kvs, lo, hD8, hkk, rr⟩ := K₈.own.dic_inv
    have hl8 := congrArg List.length hkk
    rw [List.length_map, List.length_map] at hl8
    refine wpAny_dictSet_pairs (knd := intKind wd.prog wd.w) (k := ki) (hkv ▸ intKind_is _ _ ki kt) hD8 (fun h₉ hD9 hs₉ => ?_) (by rw [hl8]; exact Nat.le_trans (Nat.le_trans hj.2.2 (Nat.le_trans hj.2.1 hsz)) (by decide))
    refine ⟨ds.length - i, (turn_nat hj.1 hlt).1, i + 1, _, storeD ki y outs, ⟨(turn_nat hj.1 hlt).2, hlt, Nat.le_trans (storeD_length ki y outs) (Nat.succ_le_succ hj.2.2)⟩, e5, T.grow K₈ hs₉ (let ⟨o, _, _, e, _⟩ := hD9; ⟨o, e⟩) fun kk => ?_⟩
    obtain ⟨r1, r2⟩ := stored_rep (i := ki) (ry.mono (h' := h₉) (fun _ _ _ z => z) fun b o e hx => kk b o (fun q => hx (.inr (q ▸ rfl))) e) hkk (rr.mono (fun _ _ _ z => z) fun b o e hx => kk b o (fun q => hx (.inr (q ▸ rfl))) e)
    exact .dic lo hD9 r1 r2
  exact codeAny_compStart_dict (loop _ rfl) (T.walk.self 0 _ _ _ K0.sw (loop _ rfl))

/-- [elt for x in iter if ..] -/
noncomputable def listC (x : Str) (keep : List Str) (mi : Rho → M (List PV)) (mt : Rho → M Bool) (me : Rho → M PV) (ρ : Rho) : M PV :=
  bnd (noErr (bnd (noErr (mi ρ)) fun ds => compF x (subR keep ρ) mt (fun ρ' acc => bnd (me ρ') fun e => ret (acc ++ [e])) ds [])) fun out => ret (.lst out)
noncomputable def dictC (x : Str) (keep : List Str) (mi : Rho → M (List PV)) (mt : Rho → M Bool) (mk mv : Rho → M PV) (ρ : Rho) : M PV :=
  bnd (noErr (bnd (noErr (mi ρ)) fun ds => compF x (subR keep ρ) mt (dstep mk mv) ds [])) fun out => ret (.dic out)

theorem Step.butC {cx : Cx} {s s' : Shared} {n' : Int} {C : Addr} {h' : Heap} (st : Step wd cx s n' s') (D : Dy wd (cx.add C) n' s'.heap) (oC : Out wd cx C) (hC : s.heap.get? C = Option.none) (hs : Heap.SameBut C s'.heap h') : Step wd cx s n' { s' with heap := h' } := by
  obtain ⟨h, tk, rfl⟩ := st.same
  have keep : ∀ b o, b ≠ C → h.get? b = some o → h'.get? b = some o := fun b o hb e => (hs.2 b hb).trans e
  have ne : ∀ b o, s.heap.get? b = some o → b ≠ C := fun b o e q => by (first | exact nn e ((q) ▸ (hC)) | (rw [q, hC] at e; cases e))
  have old : ∀ b, wd.W b → b ≠ C := fun b hb q => oC.nw (q ▸ hb)
  have tabk : ∀ P q, (P, q) ∈ wd.tabs → ∀ o, h.get? P = some o → h'.get? P = some o := fun P q hm o e => keep P o (old P (.inr ⟨q, hm⟩)) e
  have k0 := D.inv
  refine ⟨⟨h', tk, rfl⟩, fun b o e hw => ?_, ⟨⟨fun b o e => keep b o (fun q => by (first | exact nn e ((q) ▸ (oC.ng)) | (rw [q, oC.ng] at e; cases e))) (k0.stay b o e), ?_, ?_, fun P q hm => ?_⟩, fun e he => ?_, fun b hb => ?_, fun P q ps pos c hm e hc => ?_⟩, fun b o e => ?_⟩
  · obtain ⟨x1, sl, x2⟩ := st.go b o e hw
    exact ⟨fun hf => keep b o (ne b o e) (x1 hf), sl, keep b _ (ne b o e) x2⟩
  · obtain ⟨t, o, e, r⟩ := k0.box
    exact ⟨t, o, keep _ _ (old _ (.inl rfl)) e, r⟩
  · obtain ⟨its, j, e, r⟩ := k0.froz
    exact ⟨its, j, keep _ _ oC.nlf.symm e, r⟩
  · obtain ⟨ps, e, ht, hc⟩ := k0.tab P q hm
    refine ⟨ps, tabk P q hm _ e, ht, fun pos cv hh => ?_⟩
    obtain ⟨c, o, vs, t, h1, h2, h3, h4⟩ := hc pos cv hh
    subst h1
    have hcx := D.code P q ps pos c hm e hh
    exact ⟨c, o, vs, t, rfl, keep _ _ (fun q => hcx (.inr q)) h2, h3, h4⟩
  · obtain ⟨L, m, hf, hn⟩ := D.frs e he
    exact ⟨L, m, hf, hn.at fun o eo => keep _ o (fun q => oC.nf ⟨e, he, q ▸ hf⟩) eo⟩
  · obtain ⟨o, e⟩ := D.there b (.inl hb)
    exact ⟨o, keep b o (fun q => oC.nx (q ▸ hb)) e⟩
  · obtain ⟨ps', e', _⟩ := k0.tab P q hm
    have := tabk P q hm _ e'
    (first | exact nn this (e) | cases ss (e) this | cases Eq.trans (Eq.symm (e)) this | (rw [e] at this; cases this))
    exact fun z => D.code P q ps pos c hm e' hc (.inl z)
  · obtain ⟨o', e'⟩ := st.there b o e
    exact ⟨o', keep b o' (ne b o e) e'⟩

theorem Ev.listComp {iter elt : Expr} {x : Str} {px : Pos} {ifs : List Expr} {scope : Scope} {pos : Pos} {mi : Rho → M (List PV)} {mt : Rho → M Bool} {me : Rho → M PV} (keep : List Str) (cs : CScope sc scope x keep) (hi : ItV wd sc k iter mi)
    (ht : TestsV wd (relab scope sc) k ifs mt) (he : Ev wd (relab scope sc) k (eval elt) me) (hs' : ∀ env y, foldedSetIterable iter env y = pure y := by intros; rfl) :
    Ev wd sc k (eval (.ListComp elt [⟨.Name x px, iter, ifs, 0⟩] scope pos)) (listC x keep mi mt me) := by
  intro cx S hs R ρ s n r n' e D L Q E hQ hE
  unfold listC at e
  rcases bnd_some e with ⟨out, n₁, e1, e2⟩ | ⟨kd, e1, rfl⟩
  case inr => obtain ⟨_, h, _⟩ := noErr_some e1; cases h
  obtain ⟨out', ho, e3⟩ := noErr_some e1
  cases ho
  obtain ⟨rfl, rfl⟩ := ret_some e2
  obtain ⟨cl, hclos, hw⟩ := comp_list (px := px) (pos := pos) (E := E) (RR := fun acc C => compPost (model wd.prog wd.w) cx.A E Option.none Q acc C) cs hi ht he S hs R e3 D L (fun Da C s' st D' rD hn oC hC => by
    obtain ⟨m, hn⟩ := hn
    refine ⟨m, hn, fun h' hs' => hQ _ _ _ rfl (st.butC D' oC hC hs') (rD.mono (fun b _ _ x z => x (.inl z)) fun b o e hx => (hs'.2 b (fun q => hx (.inr q))).trans e)⟩)
  show wpAny _ _ (eval _ _) _ _ _
  rw [eval_ListComp]
  exact wpAny_comprehension_free (use := Option.none) rfl (hs' _) hclos cs.kind cs.names hw
theorem Ev.dictComp {iter kx vx : Expr} {x : Str} {px : Pos} {ifs : List Expr} {scope : Scope} {pos : Pos} {mi : Rho → M (List PV)} {mt : Rho → M Bool} {mk mv : Rho → M PV} (keep : List Str) (cs : CScope sc scope x keep) (hi : ItV wd sc k iter mi)
    (ht : TestsV wd (relab scope sc) k ifs mt) (hek : Ev wd (relab scope sc) k (eval kx) mk) (hev : Ev wd (relab scope sc) k (eval vx) mv) (hs' : ∀ env y, foldedSetIterable iter env y = pure y := by intros; rfl) :
    Ev wd sc k (eval (.DictComp kx vx [⟨.Name x px, iter, ifs, 0⟩] scope pos)) (dictC x keep mi mt mk mv) := by
  intro cx S hs R ρ s n r n' e D L Q E hQ hE
  unfold dictC at e
  rcases bnd_some e with ⟨out, n₁, e1, e2⟩ | ⟨kd, e1, rfl⟩
  case inr => obtain ⟨_, h, _⟩ := noErr_some e1; cases h
  obtain ⟨out', ho, e3⟩ := noErr_some e1
  cases ho
  obtain ⟨rfl, rfl⟩ := ret_some e2
  obtain ⟨cl, hclos, hw⟩ := comp_dict (px := px) (pos := pos) (E := E) (RR := fun acc C => compPost (model wd.prog wd.w) cx.A E Option.none Q acc C) cs hi ht hek hev S hs R e3 D L (fun Da C s' st D' rD hn oC hC => by
    obtain ⟨m, hn⟩ := hn
    refine ⟨m, hn, fun h' hs' => hQ _ _ _ rfl (st.butC D' oC hC hs') (rD.mono (fun b _ _ x z => x (.inl z)) fun b o e hx => (hs'.2 b (fun q => hx (.inr q))).trans e)⟩)
  show wpAny _ _ (eval _ _) _ _ _
  rw [arm_eval_DictComp]
  exact wpAny_comprehension_free (use := Option.none) rfl (hs' _) hclos cs.kind cs.names hw

/-- y = {.. for x in ..}, on one line -/
theorem Sv.assignDict {iter kx vx : Expr} {x y : Str} {px py : Pos} {ifs : List Expr} {scope : Scope} {pos spos : Pos} {mi : Rho → M (List PV)} {mt : Rho → M Bool} {mk mv : Rho → M PV} (keep : List Str) (cs : CScope sc scope x keep) (hi : ItV wd sc k iter mi)
    (ht : TestsV wd (relab scope sc) k ifs mt) (hek : Ev wd (relab scope sc) k (eval kx) mk) (hev : Ev wd (relab scope sc) k (eval vx) mv) (hk : sc.names.lookup y = some .local ∨ sc.names.lookup y = some .cell)
    (hsw : ∀ env : Env, env.scope = sc → swapsWith (.DictComp kx vx [⟨.Name x px, iter, ifs, 0⟩] scope pos) (some (.Name y py)) spos.line env = pure true)
    (hs' : ∀ env y, foldedSetIterable iter env y = pure y := by intros; rfl) :
    Sv wd sc k (exec (.Assign [.Name y py] (.DictComp kx vx [⟨.Name x px, iter, ifs, 0⟩] scope pos) spos)) (fun σ => if σ.mu.isNone then Lz.bnd (dictC x keep mi mt mk mv σ.ρ) fun d => Lz.bnd (lift (put y d σ)) fun σ' => Lz.ret (Fl.next, σ') else stuck) := by
  intro cx F hs R am σ s n r n' e K Q E hQ hE
  simp only at e
  split at e
  case isFalse => cases e
  next hmu =>
  have ham : am = Option.none := by
    have := K.mu
    rw [Option.isNone_iff_eq_none.mp hmu] at this; exact this
  subst ham
  have Lρ : Loc wd cx σ.ρ s.heap := fun y d e => let ⟨v, b, r⟩ := K.loc y d e; ⟨v, b, r.mono (fun b _ _ q z => q (.inl z)) fun _ _ e _ => e⟩
  rcases bnd_some e with ⟨d, n₁, e1, e2⟩ | ⟨kd, e1, rfl⟩
  case inr =>
    unfold dictC at e1
    rcases bnd_some e1 with ⟨out, n₁, e3, e4⟩ | ⟨kd, e3, h⟩
    · obtain ⟨h, _⟩ := ret_some e4; cases h
    · obtain ⟨_, h, _⟩ := noErr_some e3; cases h
  unfold dictC at e1
  rcases bnd_some e1 with ⟨out, n₂, e3, e4⟩ | ⟨kd, e3, h⟩
  case inr => cases h
  obtain ⟨out', ho, e5⟩ := noErr_some e3
  cases ho
  obtain ⟨hd, hnn⟩ := ret_some e4
  cases hd; cases hnn
  rcases bnd_some e2 with ⟨σ', n₃, e6, e7⟩ | ⟨kd, e6, h⟩
  case inr => obtain ⟨_, _, h, _⟩ := lift_some e6; cases h
  obtain ⟨a, e8, h8, rfl⟩ := lift_some e6
  cases h8
  obtain ⟨rfl, rfl⟩ := ret_some e7
  obtain ⟨cl, hclos, hw⟩ := comp_dict (px := px) (pos := pos) (E := E) (RR := fun acc C => compPost (model wd.prog wd.w) cx.A E (some (PySem.assign (.Name y py) cx.env)) (fun _ s' => Q .next s') acc C) cs hi ht hek hev F.st hs R e5 K.dy Lρ (fun Da C s' st D' rD hn oC hC => by
    have KC : SOk wd (cx.add C) Option.none σ n' s'.heap := K.add F hC st D'
    have ap := K.apart F hC
    have FC := F.add ap.nlf ap.ng
    have rP : Rep wd ((cx.add C).plus Option.none).X s'.heap (.ref Da) (.dic out) := rD.mono (fun b _ _ q z => q (((cx.add C).plus_none b).mp z)) fun _ _ e _ => e
    refine Av.name (wd := wd) (sc := sc) hk (cx.add C) FC hs Option.none σ s' n' (.ref Da) (.dic out) σ' e8 KC rP _ _ fun s₂ st₂ K₂ => ?_
    obtain ⟨m, hn⟩ := hn
    -- the block's names are still there
    have hnC : ∃ m, s₂.heap.Ns C m := by
      have notOwn : ¬ Own (cx.add C) Option.none C := fun z => by
        rcases z with z | ⟨y, z⟩ | z
        · exact ap.nl z
        · exact ap.nc y z
        · cases z
      exact ⟨m, hn.at fun o e => (st₂.go C o e ap.nw notOwn).1 ap.nf⟩
    obtain ⟨m₂, hn₂⟩ := hnC
    refine ⟨m₂, hn₂, fun h' hs'' => ?_⟩
    have keep : ∀ b o, b ≠ C → s₂.heap.get? b = some o → h'.get? b = some o := fun b o hb e => (hs''.2 b hb).trans e
    have st₂' : SSt wd cx Option.none s' Option.none s₂ := ⟨st₂.same, st₂.go, st₂.there, st₂.keep, st₂.new⟩
    have stA : SSt wd cx Option.none s Option.none s₂ := (st.sst).trans st₂'
    exact hQ .next σ' Option.none .next { s₂ with heap := h' } rfl (stA.but (tk := s₂.toks) ap hC keep) (K₂.butW ap keep oC.nx) trivial)
  rw [exec_Assign_Name_used _ _ _ _ (hsw _ hs)]
  refine wpAny_bind (wpAny_standAt (wpAny_bind ?_))
  show wpAny _ cx.A (do let _ ← comprehension (.DictComp kx vx [⟨.Name x px, iter, ifs, 0⟩] scope pos) scope cx.env _ PySem.newDict false (eval iter cx.env) (some (PySem.assign (.Name y py) cx.env))) _ _ s
  exact wpAny_bind (wpAny_mono (wpAny_comprehension_free (use := some (PySem.assign (.Name y py) cx.env)) (Q := fun _ s' => Q .next s') rfl (hs' _) hclos cs.kind cs.names hw) (fun _ s' hq => wpAny_pure (wpAny_pure hq)) fun _ _ e => e)
end
end Lz
namespace Lz
open PySem PySem.W PyProof.Rows

inductive MadeAt (C : Addr) (kd : Str) (h h' : Heap) (e : Addr) : Prop
  | mk (oe : Obj) (vs : Array Value) (dd : Addr) (m : Str → Option Value) (t : Tok) : h'.get? e = some oe → oe.cls = .ref C → oe.dict = some dd → h.get? dd = Option.none → dd ≠ e → h'.Ns dd m → m "kind" = some (.str kd t) → oe.data = .fields vs → vs[1]? = some .none → MadeAt C kd h h' e
/-- an exception of the class C, newly made -/
structure Made (C : Addr) (kd : Str) (h h' : Heap) (e : Addr) : Prop where
  keeps : ∀ b o, h.get? b = some o → h'.get? b = some o
  new : h.get? e = Option.none
  there : MadeAt C kd h h' e

inductive ClsAt (wd : Wd) : Prop
  | mk (nm q : Str) (N : Addr) (bs bm : List Value) (hdct : Bool) (sn : List Str) (sub : List Value) (ab : Bool) (col : Option Bool) (dd : Option Addr) (k0 k1 k2 k3 k5 : Option Value) (newId : String) :
    wd.G.get? wd.clsRef = some (excClassObj nm q wd.clsRef N bs bm hdct sn sub ab col dd k0 k1 k2 k3 k5 newId) → bm.contains (.type "BaseException") = true → ClsAt wd
structure ExcOk (wd : Wd) : Prop where
  name : wd.mg "CasFail" = some (.ref wd.clsRef)
  cls : ClsAt wd
  make : ∀ (A : Around) (s : Shared) (kd tx : Str) (t1 t2 : Tok) (Q : Value → Shared → Prop) (E : Value → Shared → Prop), (∀ b o, wd.G.get? b = some o → s.heap.get? b = some o) → Room 1 A → kd.length ≤ 1000 ∧ tx.length ≤ 1000 →
    (∀ e h' tk, Made wd.clsRef kd s.heap h' e → Q (.ref e) { s with heap := h', toks := tk }) → wpAny (model wd.prog wd.w) A (call (.ref wd.clsRef) [.str kd t1, .str tx t2]) Q E s
  kind : ∀ (A : Around) (s : Shared) (e dd : Addr) (oe : Obj) (vs : Array Value) (m : Str → Option Value) (kd : Str) (t : Tok) (expr : Bool) (Q : Value → Shared → Prop) (E : Value → Shared → Prop), (∀ b o, wd.G.get? b = some o → s.heap.get? b = some o) →
    s.heap.get? e = some oe → oe.cls = .ref wd.clsRef → oe.dict = some dd → oe.data = .fields vs → s.heap.Ns dd m → m "kind" = some (.str kd t) → (∀ tk, Q (.str kd t) { s with toks := tk }) → wpAny (model wd.prog wd.w) A (getAttr (.ref e) "kind" expr) Q E s

section
variable {nm q : Str} {C N : Addr} {bs bm : List Value} {hdct : Bool} {sn : List Str} {sub : List Value} {ab : Bool} {col : Option Bool} {dd : Option Addr} {k0 k1 k2 k3 k5 : Option Value} {newId : String}
theorem raiseStmt_made {M : Model} {A : Around} {E : Value → Shared → Prop} {env : Env} {s : Shared} {x : Sem Value} {Q : Flow → Shared → Prop} (hbase : bm.contains (.type "BaseException") = true) (hh : A.handled = Option.none)
    (h : wpAny M A x (fun v s₁ => ∃ e oe vs, v = .ref e ∧ s₁.heap.get? C = some (excClassObj nm q C N bs bm hdct sn sub ab col dd k0 k1 k2 k3 k5 newId) ∧
      s₁.heap.get? e = some oe ∧ oe.cls = .ref C ∧ oe.data = .fields vs ∧ vs[1]? = some .none ∧ E (.ref e) s₁) E s) :
    wpAny M A (raiseStmt env (some x) Option.none) Q E s := by
  have hcB : (Value.ref C :: bm).contains (.type "BaseException") = true := by rw [List.contains_cons, hbase, Bool.or_true]
  unfold raiseStmt
  refine wpAny_bind (wpAny_mono h (fun v s₁ h₁ => ?_) fun _ _ x => x)
  obtain ⟨e, oe, vs, rfl, hC, he, hcls, hd, h1, hE⟩ := h₁
  obtain ⟨hp, g, d, tk, os⟩ := s₁
  have heF : ∀ {Q : Value → Shared → Prop}, Q .none ⟨hp, g, d, tk, os⟩ → wpAny M A (field (.ref e) 1) Q E ⟨hp, g, d, tk, os⟩ := fun hq => wpAny_field he hd h1 hq
  repeat (first | (with_reducible refine heF ?_) | (with_reducible refine wpAny_loadPart_at he ?_; rw [hcls]) | with_reducible refine wpAny_loadPart_at hC ?_ | (with_reducible refine wpAny_isSubtype_exc hC ?_; rw [hcB]) | wp_step)
  exact wpAny_raiseNew_none hh hE
end

theorem Inv.thru {wd : Wd} {n : Int} {h h' : Heap} (x : Inv wd n h) (P : Addr → Prop) (k : ∀ b o, h.get? b = some o → P b → h'.get? b = some o) (pg : ∀ b o, wd.G.get? b = some o → P b) (pb : P wd.B) (pl : P wd.Lf)
    (pt : ∀ p q, (p, q) ∈ wd.tabs → P p) (pc : ∀ p q ps pos c, (p, q) ∈ wd.tabs → h.get? p = some (tabObj ps) → codeAmong pos ps.toList = some (.ref c) → P c) : Inv wd n h' where
  stay := fun b o e => k b o (x.stay b o e) (pg b o e)
  box := let ⟨t, o, e, r⟩ := x.box; ⟨t, o, k _ _ e pb, r⟩
  froz := let ⟨its, j, e, r⟩ := x.froz; ⟨its, j, k _ _ e pl, r⟩
  tab := fun p q hm => let ⟨ps, e, ht, hc⟩ := x.tab p q hm; ⟨ps, k _ _ e (pt p q hm), ht, fun pos cv hh => by
    obtain ⟨c, oc, vs, t, rfl, ho, hd, hv⟩ := hc pos cv hh
    exact ⟨c, oc, vs, t, rfl, k _ _ ho (pc p q ps pos c hm e hh), hd, hv⟩⟩

section
variable {wd : Wd} {sc : Scope} {k : Nat}

theorem frames_of {base h : Heap} : ∀ {l : List Env}, (∀ e ∈ l, e.scope.kind ≠ .module ∧ ∃ L, e.frame = some L ∧ base.get? L = Option.none) → Frs l h → h.FunFrames base l
  | [], _, _ => trivial
  | e :: l, hc, hf => by
    obtain ⟨h1, L, h2, h3⟩ := hc e (.head _)
    obtain ⟨L', m, h4, hn⟩ := hf e (.head _)
    (first | exact nn h4 (h2) | cases ss (h2) h4 | cases Eq.trans (Eq.symm (h2)) h4 | (rw [h2] at h4; cases h4))
    obtain ⟨o, es, ep, eo, hd, _⟩ := hn
    exact ⟨h1, ⟨L, o, h2, h3, eo, fun vs q => by (first | exact nn q (hd) | cases ss (hd) q | cases Eq.trans (Eq.symm (hd)) q | (rw [hd] at q; cases q))⟩, frames_of (fun e he => hc e (.tail _ he)) fun e he => hf e (.tail _ he)⟩

theorem thrown_new {cx : Cx} (F : SF wd cx) {am : Option Addr} {s : Shared} {n : Int} {kd : Str} {e : Addr} {h' : Heap} {tk : Tok} (D : Dy wd cx n s.heap) (m : Made wd.clsRef kd s.heap h' e) :
    SThrown wd cx am s n kd (.ref e) { s with heap := h', toks := tk } := by
  have S := F.st
  have notE : ∀ b o, s.heap.get? b = some o → b ≠ e := fun b o eo q => by (first | exact nn eo ((q) ▸ (m.new)) | (rw [q, m.new] at eo; cases eo))
  have get : ∀ b o, h'.get? b = some o → b ≠ e → ¬ frs cx.l b → (hideAll h' (e :: cx.l.filterMap (·.frame))).get? b = some o := fun b o eo hne hnf => hideAll_get _ eo fun hm => by
    rcases List.mem_cons.mp hm with q | q
    · exact hne q
    · obtain ⟨e', he', hf⟩ := List.mem_filterMap.mp q
      exact hnf ⟨e', he', hf⟩
  have D' := D.keeps m.keeps
  have noX : ∀ b, ¬ cx.X b → ¬ frs cx.l b := fun b hx ⟨e', he', hf⟩ => by
    obtain ⟨_, L, hL, _, _, hX⟩ := S.chain e' he'
    (first | exact nn hf (hL) | cases ss (hL) hf | cases Eq.trans (Eq.symm (hL)) hf | (rw [hL] at hf; cases hf))
    exact hx hX
  have noW : ∀ b, wd.W b → ¬ frs cx.l b := fun b hw ⟨e', he', hf⟩ => by
    obtain ⟨_, L, hL, _, hnW, _⟩ := S.chain e' he'
    (first | exact nn hf (hL) | cases ss (hL) hf | cases Eq.trans (Eq.symm (hL)) hf | (rw [hL] at hf; cases hf))
    exact hnW hw
  obtain ⟨oe, vs, dd, mm, t, q1, q2, q3, q4, q5, q6, q7, q8, q9⟩ := m.there
  refine ⟨⟨h', tk, rfl⟩, fun b o eo _ _ => ⟨fun _ => m.keeps b o eo, o.slots, m.keeps b o eo⟩, fun b o eo => ⟨o, m.keeps b o eo⟩, D', e, hideAll h' (e :: cx.l.filterMap (·.frame)), rfl,
    ⟨?_, fun b o q => of_hideAll _ q, hideAll_none _ (.head _), frames_of (fun e' he' => ?_) D'.frs, oe, vs, dd, mm, t, q1, q2, q3, ?_, q7, q8, .inl q9⟩, fun b o eo _ _ hnf => get b o (m.keeps b o eo) (notE b o eo) hnf, fun b hb => ?_⟩
  · refine D.inv.thru (fun b => ¬ frs cx.l b) (fun b o eo hb => get b o (m.keeps b o eo) (notE b o eo) hb) (fun b o eo => noX b (S.xg b o eo)) (noW _ (.inl rfl)) (noX _ S.xlf) (fun p q hm => noW _ (.inr ⟨q, hm⟩)) fun p q ps pos c hm e1 e2 => noX c (D.code p q ps pos c hm e1 e2)
  · obtain ⟨h1, L, h2, _⟩ := S.chain e' he'
    exact ⟨h1, L, h2, hideAll_none _ (.tail _ (List.mem_filterMap.mpr ⟨e', he', h2⟩))⟩
  · obtain ⟨o, es, ep, eo, r⟩ := q6
    refine ⟨o, es, ep, get _ _ eo q5 fun ⟨e', he', hf⟩ => ?_, r⟩
    obtain ⟨L, m', h1, h2⟩ := D.frs e' he'
    (first | exact nn h1 (hf) | cases ss (hf) h1 | cases Eq.trans (Eq.symm (hf)) h1 | (rw [hf] at h1; cases h1))
    obtain ⟨o', _, _, e2, _⟩ := h2
    (first | exact nn e2 (q4) | cases ss (q4) e2 | cases Eq.trans (Eq.symm (q4)) e2 | (rw [q4] at e2; cases e2))
  · by_cases hf : frs cx.l b
    · exact .inl hf
    · obtain ⟨o, eo⟩ := D.there b hb
      exact .inr ⟨o, get _ _ (m.keeps b o eo) (notE b o eo) hf⟩

theorem Sv.raise {kd tx : Str} {np cpos pos p1 p2 : Pos} {a1 a2 : Nat} (X : ExcOk wd) (hl : sc.names.lookup ("CasFail" : Str) = some .globalImplicit) (hlen : kd.length ≤ 1000 ∧ tx.length ≤ 1000 := by decide +kernel) :
    Sv wd sc (k + 1) (exec (.Raise (some (.Call (.Name "CasFail" np) [.Constant (.str kd) a1 p1, .Constant (.str tx) a2 p2] [] cpos)) Option.none pos)) (fun _ => fail kd) := by
  intro cx F hs R am σ s n r n' e K Q E hQ hE
  cases e
  have S := F.st
  obtain ⟨nm, q, N, bs, bm, hdct, sn, sub, ab, col, dd, k0, k1, k2, k3, k5, newId, hC, hbase⟩ := X.cls
  rw [arm_exec_Raise]
  refine wpAny_bind (wpAny_standAt (raiseStmt_made (C := wd.clsRef) (nm := nm) (q := q) (N := N) (bs := bs) (bm := bm) (hdct := hdct) (sn := sn) (sub := sub) (ab := ab) (col := col) (dd := dd) (k0 := k0) (k1 := k1) (k2 := k2) (k3 := k3) (k5 := k5) (newId := newId) hbase S.handled ?_))
  refine wpAny_bind ?_
  have hgG : s.heap.Ns cx.env.globals wd.mg := by rw [S.globals]; exact S.ok.g.keeps K.dy.inv.stay
  refine Call_Name rfl (Calls.Name_function_global S.kind (by unfold Env.kindOf; rw [hs]; exact hl) (Calls.loadGlobal_global hgG X.name ?_) (by decide))
  unfold callWith
  have evs : Evs wd sc (k + 1) (fun env => spliced (backTo cpos (starEach [.Constant (.str kd) a1 p1, .Constant (.str tx) a2 p2] env))) (fun ρ => rowM ρ [fun _ => Lz.ret (PV.str kd), fun _ => Lz.ret (PV.str tx)]) := Evs.cons Ev.str (Evs.cons Ev.str Evs.nil)
  refine wpAny_bind (wpAny_holding (evalArgs_of rfl (evs cx S hs R σ.all s n _ _ rfl K.dy K.all _ _ (fun ds vs s₁ hd st ra => ?_) fun _ _ _ h => by cases h)))
  cases hd
  obtain ⟨v1, v2, rfl, r1, r2⟩ := ra.two
  cases r1
  cases r2
  next t1 t2 =>
  refine wpAny_bind (wpAny_standAt ?_)
  obtain ⟨hp, g, d, tk, os⟩ := s₁
  have hC₁ := st.dy.inv.stay _ _ hC
  simp only [show (backTo cpos (starEach [Expr.Constant (.str kd) a1 p1, .Constant (.str tx) a2 p2] cx.env)).any (·.1) = false from rfl]
  refine wpAny_bind (wpAny_keeperOf_exc hC₁ ?_)
  refine wpAny_bind (X.make cx.A _ kd tx t1 t2 _ _ st.dy.inv.stay (R.le (by omega)) hlen fun e h' tk' hm => wpAny_bind (wpAny_holding (wpAny_point (wpAny_pure (wpAny_bind (wpAny_standAt (wpAny_pure ?_)))))))
  obtain ⟨oe, vs, dd', mm, t, q1, q2, q3, q4, q5, q6, q7, q8, q9⟩ := hm.there
  exact ⟨e, oe, vs, rfl, hm.keeps _ _ hC₁, q1, q2, q8, q9, hE kd _ _ rfl (SThrown.trans st.sst (thrown_new F st.dy hm))⟩
end
end Lz
namespace Lz
open PySem PySem.W PyProof.Rows

theorem among_snoc {pos : Pos} {a b : Int} {c cv : Value} : ∀ (l : List Value), TriplesOk l → codeAmong pos (l ++ [rawInt a, rawInt b, c]) = some cv → codeAmong pos l = some cv ∨ cv = c := by
  intro l
  fun_induction TriplesOk l with
  | case1 =>
    intro _ h
    simp only [List.nil_append, codeAmong, rawInt] at h
    split at h
    · cases h; exact .inr rfl
    · cases h
  | case2 a' t b' u x rest ih =>
    intro ht h
    simp only [List.cons_append, codeAmong] at h ⊢
    split at h
    · next q => rw [if_pos q]; exact .inl h
    · next q => rw [if_neg q]; exact ih ht h
  | case3 => intro h; exact h.elim

section
variable {wd : Wd} {sc : Scope} {k : Nat}

/-- a table gains an entry -/
theorem Dy.table {cx : Cx} {n : Int} {h h' : Heap} {P c' : Addr} {q : Str} {ps : Array Value} {pos : Pos} (S : St wd cx) (D : Dy wd cx n h) (hm : (P, q) ∈ wd.tabs) (hP : h.get? P = some (tabObj ps)) (hx : Heap.ExtBut P h h')
    (hc : ¬ cx.X c') (hrec : h'.CodeRec (.ref c') q) (hP' : h'.get? P = some (tabObj (ps ++ #[rawInt pos.line, rawInt pos.col, .ref c']))) : Dy wd cx n h' := by
  have k0 := D.inv
  have nG : ∀ b o, wd.G.get? b = some o → b ≠ P := fun b o e z => by (first | exact nn e ((z) ▸ (S.ok.wg P (.inr ⟨q, hm⟩))) | (rw [z, S.ok.wg P (.inr ⟨q, hm⟩)] at e; cases e))
  have tabs : ∀ P' q', (P', q') ∈ wd.tabs → ∃ ps : Array Value, h'.get? P' = some (tabObj ps) ∧ TriplesOk ps.toList ∧ ∀ pos cv, codeAmong pos ps.toList = some cv → h'.CodeRec cv q' ∧ ∀ c, cv = .ref c → ¬ cx.X c := by
    intro P' q' hm'
    have old : ∀ {c : Addr} {ps0 : Array Value} {pos0 : Pos} {cv : Value}, h.get? P' = some (tabObj ps0) → codeAmong pos0 ps0.toList = some cv → h.CodeRec cv q' → h'.CodeRec cv q' ∧ ∀ c, cv = .ref c → ¬ cx.X c := by
      intro c ps0 pos0 cv e0 e1 e2
      obtain ⟨c1, oc, vs, t, rfl, e3, e4, e5⟩ := e2
      have nx := D.code P' q' ps0 pos0 c1 hm' e0 e1
      refine ⟨⟨c1, oc, vs, t, rfl, hx _ _ (fun z => nx (z ▸ S.xw P (.inr ⟨q, hm⟩))) e3, e4, e5⟩, fun c z => by cases z; exact nx⟩
    by_cases hPP : P' = P
    · subst hPP
      have := S.ok.uniq _ _ _ hm hm'
      subst this
      obtain ⟨ps0, e, ht, hcs⟩ := k0.tab P' q hm'
      rw [hP] at e
      have : ps0 = ps := by
        injection e with e
        injection e with _ _ e _
        injection e with e
        exact e.symm
      subst this
      refine ⟨_, hP', ?_, fun pos0 cv hh => ?_⟩
      · rw [Array.toList_append]; exact TriplesOk_snoc _ _ _ _ ht
      · rw [Array.toList_append] at hh
        rcases among_snoc _ ht hh with z | z
        · exact old (c := c') hP z (hcs _ _ z)
        · subst z
          exact ⟨hrec, fun c z => by cases z; exact hc⟩
    · obtain ⟨ps0, e, ht, hcs⟩ := k0.tab P' q' hm'
      exact ⟨ps0, hx _ _ hPP e, ht, fun pos0 cv hh => old (c := c') e hh (hcs _ _ hh)⟩
  refine ⟨⟨fun b o e => hx b o (nG b o e) (k0.stay b o e), ?_, ?_, fun P' q' hm' => ?_⟩, fun e he => ?_, fun b hb => ?_, fun P' q' ps' pos' c hm' e hh => ?_⟩
  · obtain ⟨t, o, e, r⟩ := k0.box
    refine ⟨t, o, hx _ _ (fun z => ?_) e, r⟩
    rw [z, hP] at e
    cases e
    have := r.1
    simp [tabObj] at this
  · obtain ⟨its, j, e, r⟩ := k0.froz
    exact ⟨its, j, hx _ _ (fun z => S.xlf (z ▸ S.xw P (.inr ⟨q, hm⟩))) e, r⟩
  · obtain ⟨ps, e, ht, hcs⟩ := tabs P' q' hm'
    exact ⟨ps, e, ht, fun pos cv hh => (hcs pos cv hh).1⟩
  · obtain ⟨L, m, hf, hn⟩ := D.frs e he
    obtain ⟨_, L', hL', _, hw, _⟩ := S.chain e he
    (first | exact nn hL' (hf) | cases ss (hf) hL' | cases Eq.trans (Eq.symm (hf)) hL' | (rw [hf] at hL'; cases hL'))
    exact ⟨L, m, hf, hn.at fun o eo => hx _ o (fun z => hw (z ▸ .inr ⟨q, hm⟩)) eo⟩
  · by_cases hbP : b = P
    · rw [hbP]; exact ⟨_, hP'⟩
    · obtain ⟨o, e⟩ := D.there b hb
      exact ⟨o, hx b o hbP e⟩
  · obtain ⟨ps, e', ht, hcs⟩ := tabs P' q' hm'
    rw [e] at e'
    have : ps' = ps := by
      injection e' with e
      injection e with _ _ e _
      injection e with e
    subst this
    exact (hcs _ _ hh).2 c rfl
end
end Lz
namespace Lz
open PySem PySem.W PyProof.Rows

section
variable {wd : Wd} {sc : Scope} {k : Nat}

abbrev lamObj (q : Str) (params : Arguments) (lbody : Expr) (lscope : Scope) (cl : List (Str × Addr)) (pm cdv ctv : Value) : Obj :=
  { cls := .type "function", data := .func (kla_fn "<lambda>" q params lbody lscope cl pm cdv ctv) }

theorem lamMake {cx : Cx} {n : Int} {s : Shared} {params : Arguments} {lbody : Expr} {lscope : Scope} {pos : Pos} {c P : Addr} {q : Str} {Q E : Value → Shared → Prop} (S : St wd cx) (D : Dy wd cx n s.heap) (hp : (cx.env.scope, c, P, q) ∈ wd.codes)
    (hfree : ∀ y, (y, NameKind.free) ∈ lscope.names → cx.env.kindOf y = some .cell) (hdef : defaultsOf params cx.env = ([], []))
    (hQ : ∀ f s' cl pm cdv ctv, Step wd cx s n s' → s'.heap.get? f = some (lamObj q params lbody lscope cl pm cdv ctv) → s'.heap.CodeRec cdv q → s.heap.get? f = Option.none →
      (∀ y, (y, NameKind.free) ∈ lscope.names → cl.lookup y = cx.env.cells.lookup y) → Q (.ref f) s') :
    wpAny (model wd.prog wd.w) cx.A (eval (.Lambda params lbody lscope pos) cx.env) Q E s := by
  obtain ⟨hcode, hqual⟩ := S.code _ hp rfl
  obtain ⟨hhd, htab⟩ := S.ok.hd _ hp
  dsimp only at hcode hqual hhd htab
  obtain ⟨ps, hP, ht, hcs⟩ := D.inv.tab P q htab
  obtain ⟨cl, h1, h2⟩ := closure_of (scope := lscope) (env := cx.env) (fun y hy => S.cellIs y (hfree y hy))
  refine kla_eval hdef ?_
  rw [hqual]
  have hg : s.heap.Ns mainGlobals wd.mg := S.ok.g.keeps D.inv.stay
  have hPn : wd.G.get? P = Option.none := S.ok.wg P (.inr ⟨q, htab⟩)
  have hgP : mainGlobals ≠ P := fun z => by obtain ⟨o, es, ep, e, _⟩ := S.ok.g; (first | exact nn e ((z) ▸ (hPn)) | (rw [z, hPn] at e; cases e))
  have hb : s.heap.BuiltinsAt wd.mg P := by
    obtain ⟨bm, o, b1, b2, b3, b4, b5, b6, b7⟩ := S.ok.bmain
    exact ⟨bm, o, b1, b2, b3, (fun (z : bm = P) => by (first | exact nn b4 ((z) ▸ (hPn)) | (rw [z, hPn] at b4; cases b4))), D.inv.stay _ _ b4, b5, b6, b7⟩
  cases hf : codeAmong pos ps.toList with
  | none =>
    refine kla_makeFunction h1 S.globals hg hcode (hhd.keeps D.inv.stay) hP ht hf hgP hb fun c' ctv h' tk hx hge hlt hrec htb => ?_
    have D1 : Dy wd cx n h' := Dy.table S D htab hP hx (D.fresh hge) hrec htb
    have old : ∀ b o, s.heap.get? b = some o → ¬ wd.W b → h'.get? b = some o := fun b o e hw => hx b o (fun z => hw (z ▸ .inr ⟨q, htab⟩)) e
    refine hQ _ _ cl _ _ _ ⟨⟨_, tk, rfl⟩, fun b o e hw => ⟨fun _ => Heap.get?_push_of_some _ (old b o e hw), o.slots, Heap.get?_push_of_some _ (old b o e hw)⟩, D1.keeps fun b o e => Heap.get?_push_of_some _ e, fun b o e => ?_⟩
      (Heap.get?_push_size _ rfl) (hrec.push _) (Heap.get?_none_of_le (Nat.le_of_lt (Nat.lt_of_le_of_lt hge hlt))) h2
    by_cases hbP : b = P
    · rw [hbP]; exact ⟨_, Heap.get?_push_of_some _ htb⟩
    · exact ⟨o, Heap.get?_push_of_some _ (hx b o hbP e)⟩
  | some cv =>
    refine kla_makeFunctionHit h1 S.globals hg hcode (hhd.keeps D.inv.stay) hP ht hf hb fun ctv h' tk hk hsz => ?_
    have keep : ∀ b o, s.heap.get? b = some o → (h'.push (lamObj q params lbody lscope cl ((wd.mg "__name__").getD .none) cv ctv)).get? b = some o := fun b o e => Heap.get?_push_of_some _ (hk b o e)
    exact hQ _ _ cl _ _ _ (Step.of_keeps D tk keep) (Heap.get?_push_size _ rfl) ((hcs _ _ hf).keeps keep) (Heap.get?_none_of_le hsz) h2

theorem lamCall {cx : Cx} {n n' : Int} {s : Shared} {params : Arguments} {lbody : Expr} {lscope : Scope} {f : Addr} {q : Str} {cl : List (Str × Addr)} {pm cdv ctv : Value} {Q E : Value → Shared → Prop} {ρ : Rho} {mE : Rho → M PV} {r : Except Str PV}
    (S : St wd cx) (R : Room (k + 1) cx.A) (D : Dy wd cx n s.heap) (ho : s.heap.get? f = some (lamObj q params lbody lscope cl pm cdv ctv)) (hrec : s.heap.CodeRec cdv q) (hbind : bindArgs (kla_fn "<lambda>" q params lbody lscope cl pm cdv ctv) ⟨[], []⟩ = pure [])
    (hcell : ∀ x ∈ lscope.names, x.2 ≠ .cell) (hcodes : ∀ p ∈ wd.codes, lscope ≠ p.1) (hnames : ∀ y d, ρ.lookup y = some d → lscope.names.lookup y = some .free ∧ (y == ("__classdict__" : Str)) = false) (L : LocC wd cl cx.X ρ s.heap)
    (hE : Ev wd lscope k (eval lbody) mE) (e : mE ρ n = some (r, n'))
    (hQ : ∀ d v s', r = .ok d → Step wd cx s n' s' → Q v s') (hEx : ∀ kd ev s', r = .error kd → Thrown wd cx s n' kd ev s' → E ev s')
    (hco : lscope.isCoroutine = false) (hgen : lscope.isGenerator = false) (hk : lscope.kind = .function) :
    wpAny (model wd.prog wd.w) cx.A (call (.ref f) []) Q E s := by
  have hroom : cx.A.depth < recursionLimit := by have := R.1; show _ < 1000; omega
  have nl : s.heap.NoLimit := let ⟨mc, hn, h0⟩ := S.ok.nolimit; ⟨mc, hn.keeps D.inv.stay, h0⟩
  refine wpAny_call (kla_callFunE hroom ho rfl hco hgen rfl hrec ?_)
  rw [hbind]
  refine wpAny_pure (wpAny_newFunctionEnv hcell (fun _ h => by cases h) (fun h₁ hns hsb => ⟨nl.fresh _ hsb, ?_⟩) hk)
  have keep : ∀ b o, s.heap.get? b = some o → h₁.get? b = some o := fun b o e => hsb.extBut b o (Nat.ne_of_lt (Heap.lt_size e)) (Heap.get?_push_of_some _ e)
  show codeAny _ _ (.expr lbody (envX q lscope s.heap.objs.size f cdv cl)) _ _
  generalize henv : envX q lscope s.heap.objs.size f cdv cl = env
  have hscope : env.scope = lscope := by rw [← henv]
  have hL : env.locals = s.heap.objs.size := by rw [← henv]
  have hframe : env.frame = some env.locals := by rw [← henv]
  have hglob : env.globals = mainGlobals := by rw [← henv]
  have hblt : env.builtins = builtinsNs := by rw [← henv]
  have hcells : env.cells = cl := by rw [← henv]
  have freshS : ∀ b, s.heap.objs.size ≤ b → s.heap.get? b = Option.none := fun b hb => by
    cases q : s.heap.get? b with
    | none => rfl
    | some o' => exact absurd (Heap.lt_size q) (Nat.not_lt.mpr hb)
  have hfreshL : s.heap.get? env.locals = Option.none := freshS _ (Nat.le_of_eq hL.symm)
  have hG : wd.G.get? env.locals = Option.none := by
    cases q : wd.G.get? env.locals with
    | none => rfl
    | some o' => have := D.inv.stay _ o' q; (first | exact nn this (hfreshL) | cases ss (hfreshL) this | cases Eq.trans (Eq.symm (hfreshL)) this | (rw [hfreshL] at this; cases this))
  have hnW : ¬ wd.W env.locals := fun hw => by obtain ⟨o', e'⟩ := D.there _ (S.xw _ hw); (first | exact nn e' (hfreshL) | cases ss (hfreshL) e' | cases Eq.trans (Eq.symm (hfreshL)) e' | (rw [hfreshL] at e'; cases e'))
  let cx' : Cx := { A := cx.A.deeper env, env := env, l := env :: cx.l, X := fun b => cx.X b ∨ b = env.locals }
  have hfr : cx'.A.frames = some cx'.l := by show (cx.A.frames.map (env :: ·)) = _; rw [S.frames]; rfl
  have S' : St wd cx' := by
    refine ⟨S.ok, hfr, S.handled, by show env.scope.kind = _; rw [hscope, hk], hglob, hblt, fun e' he' => ?_, fun b hb => .inl (S.xw b hb), fun z => z.elim S.xlf fun q => ?_, fun b o' e' z => z.elim (S.xg b o' e') fun q => ?_, fun y hy => ?_, fun p hp hq => absurd (hscope.symm.trans hq) (hcodes p hp)⟩
    · rcases List.mem_cons.mp he' with q | he'
      · subst q
        exact ⟨by rw [hscope, hk]; decide, cx'.env.locals, hframe, hG, hnW, .inr rfl⟩
      · obtain ⟨h1, L', h2, h3, h4, h5⟩ := S.chain e' he'
        exact ⟨h1, L', h2, h3, h4, .inl h5⟩
    · obtain ⟨its, j, e', _⟩ := D.inv.froz
      (first | exact nn e' ((show wd.Lf = env.locals from q) ▸ (hfreshL)) | (rw [show wd.Lf = env.locals from q, hfreshL] at e'; cases e'))
    · (first | exact nn e' ((show b = env.locals from q) ▸ (hG)) | (rw [show b = env.locals from q, hG] at e'; cases e'))
    · have hyk : lscope.names.lookup y = some .cell := by rw [← hscope]; exact hy
      exact absurd rfl (hcell _ (mem_of_lookup hyk))
  have D₁ : Dy wd cx n h₁ := D.keeps keep
  have hnsL : h₁.Ns env.locals (fun x => List.lookup x ([] : List (Str × Value)).reverse) := by rw [hL]; exact hns
  have D' : Dy wd cx' n h₁ := by
    refine ⟨D₁.inv, fun e' he' => ?_, fun b hb => hb.elim (D₁.there b) fun q => ?_, fun P q ps pos c hm e' hc z => z.elim (D₁.code P q ps pos c hm e' hc) fun hcl => ?_⟩
    · rcases List.mem_cons.mp he' with q | he'
      · rw [q]; exact ⟨_, _, hframe, hnsL⟩
      · exact D₁.frs e' he'
    · obtain ⟨o', _, _, e', _⟩ := hnsL
      exact ⟨o', q ▸ e'⟩
    · obtain ⟨ps', e2, _⟩ := D.inv.tab P q hm
      have := keep _ _ e2
      (first | exact nn this (e') | cases ss (e') this | cases Eq.trans (Eq.symm (e')) this | (rw [e'] at this; cases this))
      obtain ⟨o', _, e3, _⟩ := D.inv.codeThere hm e2 hc
      (first | exact nn e3 ((hcl) ▸ (hfreshL)) | (rw [hcl, hfreshL] at e3; cases e3))
  have repk : ∀ v d, Rep wd cx.X s.heap v d → Rep wd cx'.X h₁ v d := fun v d r => r.mono (fun b o' eb hx z => by
    rcases z with z | z
    · exact hx z
    · (first | exact nn eb ((show b = env.locals from z) ▸ (hfreshL)) | (rw [show b = env.locals from z, hfreshL] at eb; cases eb))) fun b o' eb _ => keep b o' eb
  have L' : Loc wd cx' ρ h₁ := fun y d ed => by
    obtain ⟨v, c, c1, c2, ⟨o', eo, hd⟩, c4⟩ := L y d ed
    obtain ⟨n1, n2⟩ := hnames y d ed
    refine ⟨v, .inr ⟨.inr ⟨?_, n2⟩, c, ?_, c2, o', keep _ _ eo, hd⟩, repk v d c4⟩
    · show env.scope.names.lookup y = _
      rw [hscope]; exact n1
    · show env.cells.lookup y = _
      rw [hcells]; exact c1
  have R' : Room k cx'.A := ⟨by have := R.1; show cx.A.depth + 1 + 2 * k ≤ 900; omega, by have := R.2; show cx.A.units + 3 + 20 * k ≤ 9000; omega⟩
  have frsUp : ∀ b o', s.heap.get? b = some o' → ¬ frs cx.l b → ¬ frs cx'.l b := fun b o' eb hn ⟨e', he', hf⟩ => by
    rcases List.mem_cons.mp he' with q | he'
    · rw [q, hframe] at hf
      injection hf with hf
      (first | exact nn eb ((hf) ▸ (hfreshL)) | (rw [← hf, hfreshL] at eb; cases eb))
    · exact hn ⟨e', he', hf⟩
  have goBack : ∀ {h' : Heap}, Go wd cx'.l h₁ h' → Go wd cx.l s.heap h' := fun g b o' eb hw => by
    obtain ⟨g1, g2⟩ := g b o' (keep b o' eb) hw
    exact ⟨fun hf => g1 (frsUp b o' eb hf), g2⟩
  refine kla_codeExpr ?_
  refine hE cx' S' hscope R' ρ { s with heap := h₁, toks := _ } n r n' e D' L' _ _ (fun d v s' hr st _ => ?_) fun kd ev s' hr ht => ?_
  · obtain ⟨h', tk', hs'⟩ := st.same
    exact hQ d v s' hr ⟨⟨h', tk', by rw [hs']⟩, goBack st.go, st.dy.sub' (fun e he => .tail _ he) fun b hb => .inl hb, fun b o' eb => st.there b o' (keep b o' eb)⟩
  · obtain ⟨e0, base, rfl, fl, hbase, hxs⟩ := ht.flies
    obtain ⟨h₂, tk₂, hs₂⟩ := ht.step.same
    exact thrown_exit (cx' := cx') S rfl (fun b hb => .inl hb) hframe hfreshL D ⟨h₂, tk₂, by rw [hs₂]⟩ (goBack ht.step.go) (fun b o' eb => ht.step.there b o' (keep b o' eb)) ht.step.dy fl
      (fun b o' eb hw hnf => hbase b o' (keep b o' eb) hw (frsUp b o' eb hnf)) hxs hfr fun s'' hq => hEx kd _ s'' hr hq
end
end Lz
namespace Lz
open PySem PySem.W PyProof.Rows

section
variable {M : Model} {A : Around} {E : Value → Shared → Prop} {s : Shared} {env : Env}
theorem try_held {body orelse : Sem Flow} {h₀ : ExceptHandler} {hs : List ExceptHandler} {Q : Flow → Shared → Prop}
    (h : wpAny M A body (fun f s₁ => match f with | .next => wpAny M A orelse Q E s₁ | f => Q f s₁)
      (fun e s₁ => wpAny M A (leaving env e) (fun _ s₃ => wpAny M A (handleBy e env (h₀ :: hs)) Q E s₃) E s₁) s) :
    wpAny M A (tryStmt false body (h₀ :: hs) orelse [] env) Q E s := by
  unfold tryStmt
  simp only [List.isEmpty_nil, if_true, List.isEmpty_cons, Bool.false_and, Bool.false_eq_true, if_false]
  refine wpAny_bind (wpAny_attempt (wpAny_mono h (fun f s₁ h₁ => ?_) fun e s₁ h₁ => ?_))
  · cases f <;> first | exact h₁ | exact wpAny_pure h₁
  · have q : (do noteFrame e env; setFlight e Option.none; handleBy e env (h₀ :: hs) : Sem Flow) = (do leaving env e; handleBy e env (h₀ :: hs)) := by
      unfold leaving; simp only [bind_assoc]
    show wpAny M A (do noteFrame e env; setFlight e Option.none; handleBy e env (h₀ :: hs) : Sem Flow) Q E s₁
    rw [q]
    exact wpAny_bind h₁
end

section
variable {wd : Wd} {k : Nat}

/-- setting the flight again -/
theorem flight_again {M : Model} {A : Around} {E : Value → Shared → Prop} {s : Shared} {base : Heap} {l : List Env} {e : Addr} {kd : Str} {n : Int} {Q : Unit → Shared → Prop} (fl : Flies wd l base kd n e s.heap)
    (hQ : ∀ h', Flies wd l base kd n e h' → s.heap.UpToSlots h' → Q () { s with heap := h' }) : wpAny M A (setFlight (.ref e) Option.none) Q E s := by
  obtain ⟨oe, vs, dd, m, t, he, hcls, hdict, hm, hk, hd, h1⟩ := fl.exc
  unfold setFlight
  rcases h1 with h1 | ⟨T, oT, ts, h1, hnT, hTe, hT, hdT, h3⟩
  · refine wpAny_bind (wpAny_field he hd h1 ?_)
    rw [if_neg (by decide)]
    exact wpAny_pure (hQ s.heap fl fun b o e _ => ⟨o.slots, e⟩)
  · refine wpAny_bind (wpAny_field he hd h1 ?_)
    rw [if_pos (show (Value.ref T != Value.none) = true from by simp)]
    refine wpAny_setField hT hdT (Array.getElem?_eq_some_iff.mp h3).1 ?_
    have other : ∀ b, b ≠ T → (s.heap.update T (Obj.mapFields (·.setIfInBounds 3 Value.none))).get? b = s.heap.get? b := fun b hb => Heap.get?_update_other _ _ (Ne.symm hb)
    have noRecord : ∀ b o, s.heap.get? b = some o → (∀ vs, o.data ≠ .fields vs) → b ≠ T := fun b o hb hnf q => by
      rw [q, hT] at hb; injection hb with hb; subst hb; exact hnf ts hdT
    have hd' := Obj.data_mapFields hdT (·.setIfInBounds 3 Value.none)
    refine hQ _ ⟨fl.inv, fun b o hbo => (other b fun q => by (first | exact nn hbo ((q) ▸ (hnT)) | (rw [q, hnT] at hbo; cases hbo))).trans (fl.stay b o hbo), fl.new, fl.frames.of_keeps fun b o hb hnf => ⟨o, (other b (noRecord b o hb hnf)).trans hb, rfl⟩, oe, vs, dd, m, t, (other e (Ne.symm hTe)).trans he, hcls, hdict, hm, hk, hd,
      .inr ⟨T, _, _, h1, hnT, hTe, Heap.get?_update_self _ hT (Obj.isFreed_of_fields hd'), hd', ?_⟩⟩ fun b o hb hnf => ⟨o.slots, (other b (noRecord b o hb hnf)).trans hb⟩
    rw [Array.getElem?_setIfInBounds]
    simp [(Array.getElem?_eq_some_iff.mp h3).1]

/-- the exception is held: what stands -/
theorem flies_step {cx : Cx} {s s' : Shared} {n n' : Int} {kd : Str} {e : Addr} {base h' : Heap} (S : St wd cx) (D : Dy wd cx n s.heap) (st : Step wd cx s n' s') (fl : Flies wd cx.l base kd n' e s'.heap)
    (hbase : ∀ b o, s.heap.get? b = some o → ¬ wd.W b → ¬ frs cx.l b → base.get? b = some o) (xs : ∀ b, cx.X b → frs cx.l b ∨ ∃ o, base.get? b = some o)
    (fl' : Flies wd cx.l base kd n' e h') (up : s'.heap.UpToSlots h') : Step wd cx s n' { s' with heap := h' } := by
  obtain ⟨h₂, tk₂, hs₂⟩ := st.same
  refine ⟨⟨h', tk₂, by rw [hs₂]⟩, fun b o' eb hw => ?_, ⟨?_, fun e' he' => ?_, fun b hb => ?_, fun P q ps pos c hm e' hc => ?_⟩, fun b o' eb => ?_⟩
  · obtain ⟨g1, sl, g2⟩ := st.go b o' eb hw
    have ex : ¬ frs cx.l b → h'.get? b = some o' := fun hnf => fl'.stay b o' (hbase b o' eb hw hnf)
    refine ⟨ex, ?_⟩
    by_cases hf : frs cx.l b
    · obtain ⟨e', he', hfe⟩ := hf
      obtain ⟨L', m', hL', ob, es, ep, eo, hod, _⟩ := D.frs e' he'
      (first | exact nn hL' (hfe) | cases ss (hfe) hL' | cases Eq.trans (Eq.symm (hfe)) hL' | (rw [hfe] at hL'; cases hL'))
      (first | exact nn eo (eb) | cases ss (eb) eo | cases Eq.trans (Eq.symm (eb)) eo | (rw [eb] at eo; cases eo))
      obtain ⟨sl', g3⟩ := up b _ g2 fun vs q => by (first | exact nn q (show o'.data = _ from hod) | cases ss (show o'.data = _ from hod) q | cases Eq.trans (Eq.symm (show o'.data = _ from hod)) q | (rw [show o'.data = _ from hod] at q; cases q))
      exact ⟨sl', g3⟩
    · exact ⟨o'.slots, ex hf⟩
  · exact fl'.inv.keeps fl'.stay
  · obtain ⟨L', m', hL', hn'⟩ := st.dy.frs e' he'
    exact ⟨L', m', hL', Heap.UpToSlots.ns up hn'⟩
  · rcases xs b hb with ⟨e', he', hf⟩ | ⟨o', eb⟩
    · obtain ⟨_, o', eo, _⟩ := fl'.frames.mem (b := b) (List.mem_filterMap.mpr ⟨e', he', hf⟩)
      exact ⟨o', eo⟩
    · exact ⟨o', fl'.stay b o' eb⟩
  · obtain ⟨ps', e2, _⟩ := fl.inv.tab P q hm
    have e3 := fl'.stay _ _ e2
    (first | exact nn e3 (e') | cases ss (e') e3 | cases Eq.trans (Eq.symm (e')) e3 | (rw [e'] at e3; cases e3))
    exact fun z => st.dy.code P q ps pos c hm (fl.stay _ _ e2) hc z
  · by_cases hw : wd.W b
    · rcases xs b (S.xw b hw) with ⟨e', he', hf⟩ | ⟨o', eb⟩
      · obtain ⟨_, o', eo, _⟩ := fl'.frames.mem (b := b) (List.mem_filterMap.mpr ⟨e', he', hf⟩)
        exact ⟨o', eo⟩
      · exact ⟨o', fl'.stay b o' eb⟩
    · obtain ⟨g1, sl, g2⟩ := st.go b o' eb hw
      by_cases hf : frs cx.l b
      · obtain ⟨e', he', hfe⟩ := hf
        obtain ⟨L', m', hL', ob, es, ep, eo, hod, _⟩ := D.frs e' he'
        (first | exact nn hL' (hfe) | cases ss (hfe) hL' | cases Eq.trans (Eq.symm (hfe)) hL' | (rw [hfe] at hL'; cases hL'))
        (first | exact nn eo (eb) | cases ss (eb) eo | cases Eq.trans (Eq.symm (eb)) eo | (rw [eb] at eo; cases eo))
        obtain ⟨sl', g3⟩ := up b _ g2 fun vs q => by (first | exact nn q (show o'.data = _ from hod) | cases ss (show o'.data = _ from hod) q | cases Eq.trans (Eq.symm (show o'.data = _ from hod)) q | (rw [show o'.data = _ from hod] at q; cases q))
        exact ⟨_, g3⟩
      · exact ⟨o', fl'.stay b o' (hbase b o' eb hw hf)⟩

/-- a name of the function's own is set -/
theorem SOk.locals {cx : Cx} {n : Int} {s : Shared} {h' : Heap} {tk : Tok} (F : SF wd cx) (hc0 : cx.env.cells = []) (K : SOk wd cx Option.none ⟨[], Option.none⟩ n s.heap) (hs : Heap.SameBut cx.env.locals s.heap h') (hn : ∃ m, h'.Ns cx.env.locals m) :
    SOk wd cx Option.none ⟨[], Option.none⟩ n h' ∧ SSt wd cx Option.none s Option.none { s with heap := h', toks := tk } := by
  have S := F.st
  obtain ⟨hG, hW, hX⟩ := F.own
  have keep : ∀ b o, b ≠ cx.env.locals → s.heap.get? b = some o → h'.get? b = some o := fun b o hb e => (hs.2 b hb).trans e
  have hex : ∃ o, h'.get? cx.env.locals = some o := by obtain ⟨m, o, _, _, e, _⟩ := hn; exact ⟨o, e⟩
  have old : ∀ b, wd.W b → b ≠ cx.env.locals := fun b hb q => hW (q ▸ hb)
  have D := K.dy
  have k0 := D.inv
  refine ⟨⟨⟨k0.thru (fun b => b ≠ cx.env.locals) (fun b o e hb => keep b o hb e) (fun b o e q => by (first | exact nn e ((q) ▸ (hG)) | (rw [q, hG] at e; cases e))) (old _ (.inl rfl)) (fun q => S.xlf (q ▸ hX)) (fun p q hm => old _ (.inr ⟨q, hm⟩)) (fun p q ps pos c hm e1 e2 z => D.code p q ps pos c hm e1 e2 (z ▸ hX)),
    fun e he => ?_, fun b hb => ?_, fun P q ps pos c hm e hc => ?_⟩, hn, fun y c hc => (by (first | exact nn hc (hc0) | cases ss (hc0) hc | cases Eq.trans (Eq.symm (hc0)) hc | (rw [hc0] at hc; cases hc))), fun y d e => (by cases e), rfl⟩, ⟨⟨h', tk, rfl⟩, fun b o e hw hno => ?_, fun b o e => ?_, fun _ q => q, fun _ a q => by cases q⟩⟩
  · obtain ⟨L, m, hf, hm⟩ := D.frs e he
    by_cases hL : L = cx.env.locals
    · obtain ⟨m', hn'⟩ := hn
      exact ⟨L, m', hf, hL ▸ hn'⟩
    · exact ⟨L, m, hf, hm.at fun o eo => keep _ o hL eo⟩
  · by_cases hb2 : b = cx.env.locals
    · rw [hb2]; exact hex
    · obtain ⟨o, e⟩ := D.there b hb
      exact ⟨o, keep b o hb2 e⟩
  · obtain ⟨ps', e', _⟩ := k0.tab P q hm
    have := keep P _ (old P (.inr ⟨q, hm⟩)) e'
    (first | exact nn this (e) | cases ss (e) this | cases Eq.trans (Eq.symm (e)) this | (rw [e] at this; cases this))
    exact D.code P q ps pos c hm e' hc
  · have q : b ≠ cx.env.locals := fun q => hno (.inl q)
    exact ⟨fun _ => keep b o q e, o.slots, keep b o q e⟩
  · by_cases q : b = cx.env.locals
    · rw [q]; exact hex
    · exact ⟨o, keep b o q e⟩
end
end Lz
namespace Lz
open PySem PySem.W PyProof.Rows

noncomputable def outcome (r : Except Str PV) : Str := match r with | .ok _ => "" | .error kd => kd

abbrev kindStmts (p1 p2 p3 p4 p5 p6 p7 p8 p9 p10 p11 : Pos) (k0 : Nat) : List Stmt :=
  [.Try [.Expr (.Call (.Name "deed" p1) [] [] p2) p3] [.ExceptHandler (some (.Name "CasFail" p4)) (some "wrong") [.Return (some (.Attribute (.Name "wrong" p5) "kind" p6)) p7] p8] [] [] p9, .Return (some (.Constant (.str "") k0 p10)) p11]

section
variable {wd : Wd} {k : Nat}

theorem kindBody {cx : Cx} {s : Shared} {n n' : Int} {f : Addr} {o : Obj} {fd : FuncData} {r : Except Str PV} {Q : Flow → Shared → Prop} {E : Value → Shared → Prop} {p1 p2 p3 p4 p5 p6 p7 p8 p9 p10 p11 : Pos} {k0 : Nat}
    (X : ExcOk wd) (F : SF wd cx) (R : Room k cx.A) (hc0 : cx.env.cells = []) (hk1 : cx.env.kindOf "wrong" = some .local) (hk2 : cx.env.kindOf "CasFail" = some .globalImplicit)
    (K : SOk wd cx Option.none ⟨[], Option.none⟩ n s.heap) (hd : Bound wd cx.env s.heap "deed" (.ref f)) (ho : s.heap.get? f = some o) (hfd : o.data = .func fd)
    (hcall : ∀ (Q' E' : Value → Shared → Prop), (∀ d v s', r = .ok d → Step wd cx s n' s' → Q' v s') → (∀ kd ev s', r = .error kd → Thrown wd cx s n' kd ev s' → E' ev s') → wpAny (model wd.prog wd.w) cx.A (call (.ref f) []) Q' E' s)
    (hQ : ∀ s' t, SSt wd cx Option.none s Option.none s' → SOk wd cx Option.none ⟨[], Option.none⟩ n' s'.heap → Q (.ret (.str (outcome r) t)) s') :
    wpAny (model wd.prog wd.w) cx.A (execs (kindStmts p1 p2 p3 p4 p5 p6 p7 p8 p9 p10 p11 k0) cx.env) Q E s := by
  have S := F.st
  have hp : (cx.env.scope.kind == .class || (cx.env.scope.kind == .module && cx.env.locals != cx.env.globals)) = false := by rw [S.kind]; rfl
  obtain ⟨outer, hl⟩ := F.outer
  have hfr : cx.A.frames = some (cx.env :: outer) := by rw [S.frames, hl]
  refine wpAny_execs_cons ?_
  rw [arm_exec_Try]
  refine wpAny_bind (wpAny_standAt (try_held ?_))
  refine wpAny_execs_cons (wpAny_Expr_any ?_ (interactive_no S.kind) rfl)
  refine Call_Name rfl (Bound.load S hd ?_ (by decide))
  refine Calls.callWith_function (o := o) (fd := fd) (evalArgs_of rfl (wpAny_pure ⟨⟨ho, hfd⟩, ?_⟩))
  refine hcall _ _ (fun d v s' hr st => ?_) fun kd ev s' hr ht => ?_
  · refine wpAny_execs_nil (wpAny_execs_nil ?_)
    refine wpAny_execs_cons (wpAny_Return_some (Ev.str (wd := wd) (sc := cx.env.scope) (k := 0) cx S rfl R.zero [] s' n' _ _ rfl st.dy (fun _ _ h => by cases h) _ _ (fun d v s₂ hd st₂ rv => ?_) fun _ _ _ h => by cases h))
    cases hd
    cases rv
    subst hr
    exact hQ _ _ (st.sst.trans st₂.sst) ((K.go F st).go F st₂)
  · obtain ⟨e, base, rfl, fl, hbase, hxs⟩ := ht.flies
    subst hr
    refine leaves_held hfr F.frame (hl ▸ fl) fun h₂ fl₂ up₂ => ?_
    rw [← hl] at fl₂
    obtain ⟨oe, vs, dd, m, t, he, hcls, hdict, hm, hk, hdat, h1⟩ := fl₂.exc
    have stG : ∀ b o, wd.G.get? b = some o → h₂.get? b = some o := fun b o eb => fl₂.stay b o (fl₂.inv.stay b o eb)
    obtain ⟨nm, q, N, bs, bm, hdct, sn, sub, ab, col, dd0, k0, k1, k2, k3, k5, newId, hC, hbaseE⟩ := X.cls
    have hgG : h₂.Ns cx.env.globals wd.mg := by rw [S.globals]; exact S.ok.g.keeps stG
    refine wpAny_handleBy_cons (codeAny_handlers_test (Calls.Name_function_global S.kind hk2 (Calls.loadGlobal_global hgG X.name ?_) (by decide))) (by intro q; cases q)
    refine wpAny_excMatches_sub_self (stG _ _ hC) he hcls hbaseE (codeAny_handlers_suite_as ?_)
    refine flight_again fl₂ fun h₃ fl₃ up₃ => ?_
    have st₃ : Step wd cx s n' { s' with heap := h₃ } := flies_step S K.dy ht.step fl hbase hxs fl₃ (up₂.trans up₃)
    have K₃ := K.go F st₃
    obtain ⟨m₃, hn₃⟩ := K₃.ns
    obtain ⟨oe, vs, dd, m, t, he, hcls, hdict, hm, hk, hdat, h1⟩ := fl₃.exc
    refine wpAny_storeName_local hk1 hn₃ (fun h₄ hn₄ hs₄ => ?_) hp
    obtain ⟨K₄, SS₄⟩ := K₃.locals (s := { s' with heap := h₃ }) (tk := s'.toks + 1) F hc0 hs₄ ⟨_, hn₄⟩
    have hbl : base.get? cx.env.locals = Option.none := (fl₃.frames.mem (b := cx.env.locals) (List.mem_filterMap.mpr ⟨cx.env, by rw [hl]; exact .head _, F.frame⟩)).1
    have he₄ : h₄.get? e = some oe := (hs₄.2 e fun q => by
      obtain ⟨o', _, _, e', hd', _⟩ := hn₃
      rw [← q] at e'
      (first | exact nn e' (show h₃.get? e = some oe from he) | cases ss (show h₃.get? e = some oe from he) e' | cases Eq.trans (Eq.symm (show h₃.get? e = some oe from he)) e' | (rw [show h₃.get? e = some oe from he] at e'; cases e'))
      (first | exact nn hd' (hdat) | cases ss (hdat) hd' | cases Eq.trans (Eq.symm (hdat)) hd' | (rw [hdat] at hd'; cases hd'))).trans he
    have hm₄ : h₄.Ns dd m := by
      obtain ⟨o', es, ep, e', rr⟩ := hm
      exact ⟨o', es, ep, (hs₄.2 dd fun q => by (first | exact nn e' ((q) ▸ (hbl)) | (rw [q, hbl] at e'; cases e'))).trans (fl₃.stay _ _ e'), rr⟩
    refine wpAny_execs_cons (wpAny_Return_some ?_)
    rw [arm_eval_Attribute]
    refine wpAny_bind (m := eval (.Name "wrong" p5) cx.env) (wpAny_Name (wpAny_loadName_local S.kind hk1 hn₄ (if_pos rfl) ?_) (by decide))
    refine wpAny_bind (wpAny_standAt (wpAny_bind (wpAny_holding (X.kind _ _ e dd oe vs m kd t true _ _ K₄.dy.inv.stay he₄ hcls hdict hdat hm₄ hk fun tk => ?_))))
    refine wpAny_bind (m := pure ()) (wpAny_pure (wpAny_pure ?_))
    obtain ⟨m₄, hn₄'⟩ := K₄.ns
    refine wpAny_bind (wpAny_bindName (wpAny_storeName_local hk1 hn₄' (fun h₅ hn₅ hs₅ => ?_) hp))
    obtain ⟨K₅, SS₅⟩ := K₄.locals (s := { s' with heap := h₄, toks := tk }) (tk := tk + 1) F hc0 hs₅ ⟨_, hn₅⟩
    unfold unbindBehindTheSuite
    refine wpAny_onRaise (wpAny_unbindName_local hk1 hn₅ (if_pos rfl) hp fun h₆ u hn₆ hs₆ => ?_)
    obtain ⟨K₆, SS₆⟩ := K₅.locals (s := { s' with heap := h₅, toks := tk + 1 }) (tk := tk + 1) F hc0 hs₆ ⟨_, hn₆⟩
    have SS₄' : SSt wd cx Option.none { s' with heap := h₃ } Option.none { s' with heap := h₄, toks := tk } := ⟨⟨h₄, tk, rfl⟩, SS₄.go, SS₄.there, SS₄.keep, SS₄.new⟩
    exact hQ _ t (st₃.sst.trans (SS₄'.trans (SS₅.trans SS₆))) K₆
end
end Lz
namespace Lz
open PySem PySem.W PyProof.Rows

noncomputable def kindM (keep : List Str) (mE : Rho → M PV) (ρ : Rho) : M PV := fun n => match mE (subR keep ρ) n with
  | some (r, n') => some (.ok (.str (outcome r)), n')
  | Option.none => Option.none

inductive KindAt (wd : Wd) : Prop
  | mk (kparams : Arguments) (kscope : Scope) (p1 p2 p3 p4 p5 p6 p7 p8 p9 p10 p11 : Pos) (k0 : Nat) : FnAtG wd "_law_kind" kparams (kindStmts p1 p2 p3 p4 p5 p6 p7 p8 p9 p10 p11 k0) kscope →
    (∀ pm code doc vs, vs.length = (["deed"] : List Str).length → bindArgs (Calls.docDef "_law_kind" kparams (kindStmts p1 p2 p3 p4 p5 p6 p7 p8 p9 p10 p11 k0) kscope pm code doc) ⟨vs, []⟩ = pure ((["deed"] : List Str).zip vs)) →
    kscope.names.lookup ("deed" : Str) = some .local → kscope.names.lookup ("wrong" : Str) = some .local → kscope.names.lookup ("CasFail" : Str) = some .globalImplicit → (∀ x ∈ kscope.names, x.2 ≠ .cell) →
    kscope.isCoroutine = false → kscope.isGenerator = false → kscope.kind = .function → KindAt wd
structure KindOk (wd : Wd) : Prop where
  ex : KindAt wd

theorem cellsFrom_none {names : List (Str × NameKind)} (h : ∀ x ∈ names, x.2 ≠ .cell) : ∀ N, cellsFrom N names [] = [] := by
  induction names with
  | nil => intro N; rfl
  | cons p r ih =>
    obtain ⟨x, kd⟩ := p
    intro N
    unfold cellsFrom
    have : (kd == NameKind.cell) = false := beq_eq_false_iff_ne.mpr (h _ (.head _))
    rw [if_neg (by rw [this]; decide)]
    exact ih (fun x hx => h x (.tail _ hx)) N

section
variable {wd : Wd} {sc : Scope} {k : Nat}

theorem Ev.kind {np pos lpos : Pos} {params : Arguments} {lbody : Expr} {lscope : Scope} {c P : Addr} {q : Str} {mE : Rho → M PV} (keep : List Str) (X : ExcOk wd) (KO : KindOk wd) (hp : (sc, c, P, q) ∈ wd.codes) (hE : Ev wd lscope k (eval lbody) mE)
    (hl : sc.names.lookup ("_law_kind" : Str) = some .globalImplicit) (hfree : ∀ y, (y, NameKind.free) ∈ lscope.names → sc.names.lookup y = some .cell) (hdef : ∀ env, defaultsOf params env = ([], []))
    (hbind : ∀ cl pm cdv ctv, bindArgs (kla_fn "<lambda>" q params lbody lscope cl pm cdv ctv) ⟨[], []⟩ = pure []) (hcell : ∀ x ∈ lscope.names, x.2 ≠ .cell) (hcodes : ∀ p ∈ wd.codes, lscope ≠ p.1)
    (hkeep : ∀ y ∈ keep, (y, NameKind.free) ∈ lscope.names ∧ lscope.names.lookup y = some .free ∧ (y == ("__classdict__" : Str)) = false)
    (hco : lscope.isCoroutine = false) (hgen : lscope.isGenerator = false) (hk : lscope.kind = .function) :
    Ev wd sc (k + 2) (eval (.Call (.Name "_law_kind" np) [.Lambda params lbody lscope lpos] [] pos)) (kindM keep mE) := by
  intro cx S hs R ρ s n r n' e D L Q E hQ hE'
  unfold kindM at e
  split at e
  case h_2 => cases e
  next r0 n1 e0 =>
  cases e
  obtain ⟨kparams, kscope, p1, p2, p3, p4, p5, p6, p7, p8, p9, p10, p11, k0, hat, hbd0, hd1, hd2, hd3, hkc, hco', hgen', hk'⟩ := KO.ex
  obtain ⟨a, o, fd, hmg, ho, hdat, H⟩ := callStation (k := k + 1) hat hbd0 (by decide) (fun x hx => by
    rw [List.mem_singleton.mp hx]; exact .inl hd1) hco' hgen' hk' S R
  have hgG : s.heap.Ns cx.env.globals wd.mg := by rw [S.globals]; exact S.ok.g.keeps D.inv.stay
  refine Call_Name rfl (Calls.Name_function_global S.kind (by unfold Env.kindOf; rw [hs]; exact hl) (Calls.loadGlobal_global hgG hmg ?_) (by decide))
  refine Calls.callWith_function (o := o) (fd := fd) (evalArgs_of rfl ?_)
  refine wpAny_items_cons ?_ rfl
  refine lamMake S D (by rw [hs]; exact hp) (fun y hy => by unfold Env.kindOf; rw [hs]; exact hfree y hy) (hdef _) fun f s₁ cl pm cdv ctv st₁ hf hrec hfn hcl => ?_
  refine wpAny_items_nil ⟨⟨st₁.dy.inv.stay _ _ ho, hdat⟩, ?_⟩
  have L₁ := L.go S st₁.go
  refine H s₁ n [.ref f] rfl st₁.dy _ _ fun cx' s₂ SF' hs' R' hX st₂ keep₂ K₂ hbd hreps hcs => ?_
  obtain ⟨N, hcs⟩ := hcs
  have hc0 : cx'.env.cells = [] := by rw [hcs]; exact cellsFrom_none hkc N
  have kOf : ∀ y, cx'.env.kindOf y = kscope.names.lookup y := fun y => by unfold Env.kindOf; rw [hs']
  have hf₂ := keep₂ _ _ hf
  refine kindBody (k := k + 1) (o := _) (fd := _) (r := r0) (n' := n') X SF' R' hc0 ((kOf _).trans hd2) ((kOf _).trans hd3) K₂ (hbd "deed" (.ref f) rfl) hf₂ rfl (fun Q' E' hQ' hE'' => ?_) fun s' t SS' K' => ?_
  · refine lamCall (k := k) (ρ := subR keep ρ) SF'.st R' K₂.dy hf₂ (hrec.keeps keep₂) (hbind cl pm cdv ctv) hcell hcodes (fun y d hy => ?_) (fun y d hy => ?_) hE e0 hQ' hE'' hco hgen hk
    · exact (hkeep y (subR_lookup hy).1).2
    · obtain ⟨hk1, hy⟩ := subR_lookup hy
      obtain ⟨v, b, rv⟩ := L₁ y d hy
      have hfr := (hkeep y hk1).1
      rcases b with ⟨b1, _⟩ | ⟨_, c, b2, b3, b4⟩
      · rw [show cx.env.kindOf y = some .cell from by unfold Env.kindOf; rw [hs]; exact hfree y hfr] at b1; cases b1
      · obtain ⟨oc, eo, hdc⟩ := b4
        exact ⟨v, c, (hcl y hfr).trans b2, b3, ⟨oc, keep₂ _ _ eo, hdc⟩, hreps v d rv⟩
  · exact ⟨_, _, _, SS', K', fun stp _ => hQ _ _ _ rfl (st₁.trans stp) (.str _ _)⟩
end
end Lz
namespace Lz
open PySem PySem.W PyProof.Rows

/-! the program's defs, by place -/
noncomputable def nth (i : Nat) : Stmt := (PySem.Challenge.pw_pf0035_01.main.body[i]?).getD (.Pass default)
noncomputable def bdOf : Stmt → List Stmt | .FunctionDef _ _ b .. => b | _ => []
noncomputable def prOf : Stmt → Arguments | .FunctionDef _ a .. => a | _ => ⟨[], [], none, [], [], none, []⟩
noncomputable def scOf : Stmt → Scope | .FunctionDef _ _ _ _ _ _ s .. => s | _ => default
noncomputable def bd (i : Nat) : List Stmt := bdOf (nth i)
noncomputable def pr (i : Nat) : Arguments := prOf (nth i)
noncomputable def sco (i : Nat) : Scope := scOf (nth i)

/-! meanings -/
noncomputable def nmM (x : Str) (ρ : Rho) : M PV := lift (ρ.lookup x)
noncomputable def cM (d : PV) (_ : Rho) : M PV := ret d
noncomputable def unM (g : PV → Option PV) (mx : Rho → M PV) (ρ : Rho) : M PV := bnd (mx ρ) fun a => lift (g a)
noncomputable def biM (g : PV → PV → Option PV) (ml mr : Rho → M PV) (ρ : Rho) : M PV := bnd (ml ρ) fun a => bnd (mr ρ) fun b => lift (g a b)
noncomputable def tupM (ms : List (Rho → M PV)) (ρ : Rho) : M PV := bnd (rowM ρ ms) fun ds => bnd (lift (few ds)) fun ds => ret (.tup ds)
noncomputable def lstM (ms : List (Rho → M PV)) (ρ : Rho) : M PV := bnd (rowM ρ ms) fun ds => bnd (lift (few ds)) fun ds => ret (.lst ds)
noncomputable def callM (sp : List PV → M PV) (ms : List (Rho → M PV)) (ρ : Rho) : M PV := bnd (rowM ρ ms) sp
noncomputable def bltM (g : List PV → Option PV) (ms : List (Rho → M PV)) (ρ : Rho) : M PV := bnd (rowM ρ ms) fun ds => lift (g ds)
noncomputable def ifM (mt : Rho → M Bool) (mx my : Rho → M PV) (ρ : Rho) : M PV := bnd (mt ρ) fun b => if b then mx ρ else my ρ
noncomputable def orM (mx my : Rho → M PV) (ρ : Rho) : M PV := bnd (mx ρ) fun a => bnd (toB a) fun b => if b then ret a else my ρ
noncomputable def getM (mo mk md : Rho → M PV) (ρ : Rho) : M PV := bnd (mo ρ) fun a => bnd (lift (dicV a)) fun D => bnd (mk ρ) fun b => bnd (md ρ) fun c => lift (getV D b c)
noncomputable def tcM (g : PV → PV → Option PV) (ml mr : Rho → M PV) (ρ : Rho) : M Bool := bnd (ml ρ) fun a => bnd (mr ρ) fun b => bnd (lift (g a b)) toB
noncomputable def tvM (m : Rho → M PV) (ρ : Rho) : M Bool := bnd (m ρ) toB
noncomputable def ntM (m : Rho → M Bool) (ρ : Rho) : M Bool := bnd (m ρ) fun b => ret (!b)
noncomputable def alM (ms : List (Rho → M Bool)) (ρ : Rho) : M Bool := allT ρ ms
noncomputable def anM (ms : List (Rho → M Bool)) (ρ : Rho) : M Bool := anyT ρ ms
noncomputable def ivM (m : Rho → M PV) (ρ : Rho) : M (List PV) := bnd (m ρ) fun a => lift (itemsV a)
noncomputable def irM (ms : List (Rho → M PV)) (ρ : Rho) : M (List PV) := bnd (rowM ρ ms) fun ds => lift (rangeV ds)
noncomputable def rtM (mv : Rho → M PV) (σ : Sig) : M (Fl × Sig) := bnd (mv σ.all) fun d => ret (.ret d, σ)
noncomputable def nilM (σ : Sig) : M (Fl × Sig) := ret (.next, σ)
noncomputable def ifS (mt : Rho → M Bool) (mb mo : Sig → M (Fl × Sig)) (σ : Sig) : M (Fl × Sig) := bnd (mt σ.all) fun b => if b then mb σ else mo σ
noncomputable def whS (N : Nat) (mt : Rho → M Bool) (mb : Sig → M (Fl × Sig)) : Sig → M (Fl × Sig) := whileM (fun σ => mt σ.all) mb N
noncomputable def foS (x : Str) (mi : Rho → M (List PV)) (mb : Sig → M (Fl × Sig)) (σ : Sig) : M (Fl × Sig) := bnd (noErr (mi σ.ρ)) fun ds => forM x mb ds σ
noncomputable def adS (y x : Str) (keep : List Str) (mi : Rho → M (List PV)) (mt : Rho → M Bool) (mk mv : Rho → M PV) (σ : Sig) : M (Fl × Sig) :=
  if σ.mu.isNone then bnd (dictC x keep mi mt mk mv σ.ρ) fun d => bnd (lift (put y d σ)) fun σ' => ret (.next, σ') else stuck
noncomputable def raS (kd : Str) (_ : Sig) : M (Fl × Sig) := fail kd
noncomputable def stS (_ : Sig) : M (Fl × Sig) := stuck

section
variable {wd : Wd} {sc : Scope} {k : Nat}
abbrev Ro (wd : Wd) (sc : Scope) (k : Nat) (pos : Pos) (es : List Expr) (ms : List (Rho → M PV)) : Prop := Evs wd sc k (fun env => spliced (backTo pos (starEach es env))) (fun ρ => rowM ρ ms)
abbrev Te (wd : Wd) (sc : Scope) (k : Nat) (x : Expr) (m : Rho → M Bool) : Prop := Tv wd sc k (fun env => isTrue x env (eval x env)) m

theorem X.nm {x : Str} {pos : Pos} (hd : (x == ("__debug__" : Str)) = false := by decide) : Ev wd sc k (eval (.Name x pos)) (nmM x) := Ev.name hd
theorem X.int {i : Int} {kd : Nat} {pos : Pos} : Ev wd sc k (eval (.Constant (.int i) kd pos)) (cM (.int i)) := Ev.int
theorem X.str {x : Str} {kd : Nat} {pos : Pos} : Ev wd sc k (eval (.Constant (.str x) kd pos)) (cM (.str x)) := Ev.str
theorem X.none {kd : Nat} {pos : Pos} : Ev wd sc k (eval (.Constant .none kd pos)) (cM .none) := Ev.none
theorem X.bool {b : Bool} {kd : Nat} {pos : Pos} : Ev wd sc k (eval (.Constant (.bool b) kd pos)) (cM (.bool b)) := Ev.bool
theorem X.un {x : Expr} {op : UnaryOp} {pos : Pos} {mx : Rho → M PV} {g : PV → Option PV} (hx : Ev wd sc k (eval x) mx) (ho : Op1 wd (unaryOp op) g) : Ev wd sc k (eval (.UnaryOp op x pos)) (unM g mx) := Ev.un hx ho
theorem X.bin {l r : Expr} {op : Operator} {pos : Pos} {ml mr : Rho → M PV} {g : PV → PV → Option PV} (hl : Ev wd sc k (eval l) ml) (hr : Ev wd sc k (eval r) mr) (ho : Op2 wd (binaryOp op) g) : Ev wd sc k (eval (.BinOp l op r pos)) (biM g ml mr) := Ev.bin hl hr ho
theorem X.cmp {l r : Expr} {op : CmpOp} {pos : Pos} {ml mr : Rho → M PV} {g : PV → PV → Option PV} (hl : Ev wd sc k (eval l) ml) (hr : Ev wd sc k (eval r) mr) (ho : Op2 wd (compareOp op) g)
    (hm : behindInMarks op r = false := by with_unfolding_all rfl) : Ev wd sc k (eval (.Compare l [op] [r] pos)) (biM g ml mr) := Ev.cmp hl hr ho hm
theorem X.at {value slice : Expr} {pos : Pos} {ml mr : Rho → M PV} (hl : Ev wd sc k (eval value) ml) (hr : Ev wd sc k (eval slice) mr) (hs : ∀ o i, subscripted slice false o i = operate [o, i] (getItem o i) := by intros; rfl) :
    Ev wd sc k (eval (.Subscript value slice pos)) (biM atV ml mr) := Ev.sub hl hr (op_at hs)
theorem X.from {value lower : Expr} {p pos : Pos} {ml mr : Rho → M PV} (hl : Ev wd sc k (eval value) ml) (hr : Ev wd sc k (eval lower) mr) : Ev wd sc k (eval (.Subscript value (.Slice (some lower) .none .none p) pos)) (biM fromV ml mr) := Ev.from hl hr
theorem X.upto {value upper : Expr} {p pos : Pos} {ml mr : Rho → M PV} (hl : Ev wd sc k (eval value) ml) (hr : Ev wd sc k (eval upper) mr) : Ev wd sc k (eval (.Subscript value (.Slice .none (some upper) .none p) pos)) (biM uptoV ml mr) := Ev.upto hl hr
theorem X.rn {pos : Pos} : Ro wd sc k pos [] [] := Evs.nil
theorem X.rc {pos : Pos} {x : Expr} {rest : List Expr} {m : Rho → M PV} {ms : List (Rho → M PV)} (hx : Ev wd sc k (eval x) m) (hr : Ro wd sc k pos rest ms)
    (he : ∀ env, starEach (x :: rest) env = (false, eval x env) :: starEach rest env := by intros; rfl) : Ro wd sc k pos (x :: rest) (m :: ms) := Evs.cons hx hr he
theorem X.tup {es : List Expr} {kd : Nat} {pos : Pos} {ms : List (Rho → M PV)} (h : Ro wd sc k pos es ms) : Ev wd sc k (eval (.Tuple es kd pos)) (tupM ms) := Ev.tuple h
theorem X.lst {es : List Expr} {pos : Pos} {ms : List (Rho → M PV)} (h : Ro wd sc k pos es ms) : Ev wd sc k (eval (.List es pos)) (lstM ms) := Ev.list h
theorem X.call {x : Str} {np pos : Pos} {es : List Expr} {ms : List (Rho → M PV)} {sp : List PV → M PV} {j : Nat} (hf : Fn wd j x sp) (hj : j ≤ k) (hl : sc.names.lookup x = some .globalImplicit) (h : Ro wd sc k pos es ms)
    (hp : ∀ env, (backTo pos (starEach es env)).any (·.1) = false := by intros; rfl) (hd : (x == ("__debug__" : Str)) = false := by decide) :
    Ev wd sc k (eval (.Call (.Name x np) es [] pos)) (callM sp ms) := Ev.callF (hf.more hj) hl h hp hd
theorem X.blt {x : Str} {np pos : Pos} {es : List Expr} {f : Value} {ms : List (Rho → M PV)} {g : List PV → Option PV} (hb : wd.mg x = Option.none ∧ wd.mb x = some f) (hf : (∃ id, f = .builtin id) ∨ (∃ T, f = .type T)) (ho : OpN wd (fun vs => PySem.call f vs) g)
    (hl : sc.names.lookup x = some .globalImplicit) (h : Ro wd sc k pos es ms)
    (hp : ∀ env, (backTo pos (starEach es env)).any (·.1) = false := by intros; rfl) (hd : (x == ("__debug__" : Str)) = false := by decide) :
    Ev wd sc k (eval (.Call (.Name x np) es [] pos)) (bltM g ms) := Ev.callB hl hb hf h ho hp hd
theorem X.ife {t x y : Expr} {pos : Pos} {mt : Rho → M Bool} {mx my : Rho → M PV} (ht : Te wd sc k t mt) (hx : Ev wd sc k (eval x) mx) (hy : Ev wd sc k (eval y) my) : Ev wd sc k (eval (.IfExp t x y pos)) (ifM mt mx my) := Ev.ifexp ht hx hy
theorem X.or {x y : Expr} {pos : Pos} {mx my : Rho → M PV} (hx : Ev wd sc k (eval x) mx) (hy : Ev wd sc k (eval y) my) : Ev wd sc k (eval (.BoolOp .Or [x, y] pos)) (orM mx my) := Ev.or2 hx hy
theorem X.get {o ke de : Expr} {apos pos : Pos} {mo mk md : Rho → M PV} (ho : Ev wd sc k (eval o) mo) (hk : Ev wd sc k (eval ke) mk) (hde : Ev wd sc k (eval de) md)
    (hbase : ∀ env, attributeBase o "get" env (eval o env) = eval o env := by intros; rfl) (hline : (apos.endLine == pos.line) = true := by rfl)
    (htrees : ∀ env, backTo pos (starEach [ke, de] env) = [(false, eval ke env), (false, eval de env)] := by intros; rfl) :
    Ev wd sc k (eval (.Call (.Attribute o "get" apos) [ke, de] [] pos)) (getM mo mk md) := Ev.get ho hk hde hbase hline htrees
theorem T.cmp {l r : Expr} {op : CmpOp} {pos : Pos} {ml mr : Rho → M PV} {g : PV → PV → Option PV} (hl : Ev wd sc k (eval l) ml) (hr : Ev wd sc k (eval r) mr) (ho : Op2 wd (compareOp op) g)
    (hm : behindInMarks op r = false := by with_unfolding_all rfl) : Te wd sc k (.Compare l [op] [r] pos) (tcM g ml mr) := Tv.cmp hl hr ho hm
theorem T.val {x : Expr} {m : Rho → M PV} (hx : Ev wd sc k (eval x) m) (he : ∀ env whole, isTrue x env whole = (do let v ← whole; standAt x.pos; holding [v] (truthy v)) := by intros; rfl) : Te wd sc k x (tvM m) := Tv.value hx he
theorem T.not {x : Expr} {pos : Pos} {m : Rho → M Bool} (hx : Te wd sc k x m) : Te wd sc k (.UnaryOp .Not x pos) (ntM m) := Tv.not hx
theorem T.and2 {x y : Expr} {pos : Pos} {m1 m2 : Rho → M Bool} (h1 : Te wd sc k x m1) (h2 : Te wd sc k y m2) : Te wd sc k (.BoolOp .And [x, y] pos) (alM [m1, m2]) := Tv.boolop (Tv.allCons h1 (Tv.allCons h2 Tv.allNil))
theorem T.or2 {x y : Expr} {pos : Pos} {m1 m2 : Rho → M Bool} (h1 : Te wd sc k x m1) (h2 : Te wd sc k y m2) : Te wd sc k (.BoolOp .Or [x, y] pos) (anM [m1, m2]) := Tv.boolop (Tv.anyCons h1 (Tv.anyCons h2 Tv.anyNil))
theorem T.or3 {x y z : Expr} {pos : Pos} {m1 m2 m3 : Rho → M Bool} (h1 : Te wd sc k x m1) (h2 : Te wd sc k y m2) (h3 : Te wd sc k z m3) : Te wd sc k (.BoolOp .Or [x, y, z] pos) (anM [m1, m2, m3]) := Tv.boolop (Tv.anyCons h1 (Tv.anyCons h2 (Tv.anyCons h3 Tv.anyNil)))
theorem I.val {iter : Expr} {mi : Rho → M PV} (hi : Ev wd sc k (eval iter) mi) : ItV wd sc k iter (ivM mi) := ItV.val hi
theorem I.rng {np pos : Pos} {es : List Expr} {ms : List (Rho → M PV)} (hb : wd.mg ("range" : Str) = Option.none ∧ wd.mb ("range" : Str) = some (.type "range")) (hl : sc.names.lookup ("range" : Str) = some .globalImplicit) (h : Ro wd sc k pos es ms)
    (hp : ∀ env, (backTo pos (starEach es env)).any (·.1) = false := by intros; rfl) : ItV wd sc k (.Call (.Name "range" np) es [] pos) (irM ms) := ItV.range hl hb h hp

theorem S.rt {value : Expr} {pos : Pos} {mv : Rho → M PV} (hv : Ev wd sc k (eval value) mv) : Sv wd sc k (exec (.Return (some value) pos)) (rtM mv) := Sv.ret hv
theorem S.nil : Sv wd sc k (execs []) nilM := Sv.nil
theorem S.iff {test : Expr} {body orelse : List Stmt} {pos : Pos} {mt : Rho → M Bool} {mb mo : Sig → M (Fl × Sig)} (ht : Te wd sc k test mt) (hb : Sv wd sc k (execs body) mb) (ho : Sv wd sc k (execs orelse) mo) : Sv wd sc k (exec (.If test body orelse pos)) (ifS mt mb mo) := Sv.cond ht hb ho
theorem S.wh {test : Expr} {body : List Stmt} {pos : Pos} {mt : Rho → M Bool} {mb : Sig → M (Fl × Sig)} (N : Nat) (ht : Te wd sc k test mt) (hb : Sv wd sc k (execs body) mb) : Sv wd sc k (exec (.While test body [] pos)) (whS N mt mb) := Sv.loop N ht hb
theorem S.fo {x : Str} {px pos : Pos} {iter : Expr} {body : List Stmt} {mi : Rho → M (List PV)} {mb : Sig → M (Fl × Sig)} (hi : ItV wd sc k iter mi) (hb : Sv wd sc k (execs body) mb) (hk : sc.names.lookup x = some .local ∨ sc.names.lookup x = some .cell)
    (hs' : ∀ env y, foldedSetIterable iter env y = pure y := by intros; rfl) : Sv wd sc k (exec (.For (.Name x px) iter body [] pos)) (foS x mi mb) := Sv.for hi hb hk hs'
theorem S.ra {kd tx : Str} {np cpos pos p1 p2 : Pos} {a1 a2 : Nat} (X : ExcOk wd) (hl : sc.names.lookup ("CasFail" : Str) = some .globalImplicit) (hlen : kd.length ≤ 1000 ∧ tx.length ≤ 1000 := by decide +kernel) :
    Sv wd sc (k + 1) (exec (.Raise (some (.Call (.Name "CasFail" np) [.Constant (.str kd) a1 p1, .Constant (.str tx) a2 p2] [] cpos)) Option.none pos)) (raS kd) := Sv.raise X hl hlen
theorem S.st {t : Env → Sem Flow} : Sv wd sc k t stS := fun cx F hs R am σ s n r n' e => by cases e
theorem A.two {t1 t2 : Expr} {kd : Nat} {pos : Pos} {f1 f2 : PV → Sig → Option Sig} (h1 : Av wd sc (assign t1) f1) (h2 : Av wd sc (assign t2) f2)
    (he : ∀ env, assignEach [t1, t2] env = [(false, assign t1 env), (false, assign t2 env)] := by intros; rfl) : Av wd sc (assign (.Tuple [t1, t2] kd pos)) (unp 2 (putL [f1, f2])) := by
  refine Av.tuple (N := 2) ?_ (fun env => by rw [he]; rfl) (fun env => by rw [he]; rfl)
  simp only [he]
  exact AvL.cons h1 (AvL.cons h2 AvL.nil)
theorem S.swap {value : Expr} {x y : Str} {p1 p2 tp pos : Pos} {kd : Nat} {mv : Rho → M PV} (hv : Ev wd sc k (eval value) mv) (h1 : sc.names.lookup x = some .local) (h2 : sc.names.lookup y = some .local)
    (hss : ∀ env : Env, env.scope = sc → swappedStores [.Tuple [.Name x p1, .Name y p2] kd tp] value env = pure (some [x, y]))
    (hsw : ∀ env, swapsWith value (some (.Tuple [.Name x p1, .Name y p2] kd tp)) pos.line env = pure false := by intros; rfl) :
    Sv wd sc k (exec (.Assign [.Tuple [.Name x p1, .Name y p2] kd tp] value pos)) (asg mv (unp 2 fun ds => putL [put y, put x] ds.reverse)) :=
  Sv.swap (names := [x, y]) hv (AvL.cons (Av.bind (.inl h2)) (AvL.cons (Av.bind (.inl h1)) AvL.nil)) hsw hss
end
end Lz
namespace Lz
open PySem PySem.W PyProof.Rows

/-- the world of the program -/
structure Wld (wd : Wd) : Prop where
  at3 : FnAtG wd "gcd" (pr 3) (bd 3) (sco 3)
  at7 : FnAtG wd "rat" (pr 7) (bd 7) (sco 7)
  at8 : FnAtG wd "radd" (pr 8) (bd 8) (sco 8)
  at9 : FnAtG wd "rsub" (pr 9) (bd 9) (sco 9)
  at10 : FnAtG wd "rmul" (pr 10) (bd 10) (sco 10)
  at11 : FnAtG wd "rdiv" (pr 11) (bd 11) (sco 11)
  at12 : FnAtG wd "rneg" (pr 12) (bd 12) (sco 12)
  at14 : FnAtG wd "cut" (pr 14) (bd 14) (sco 14)
  at15 : FnAtG wd "sadd" (pr 15) (bd 15) (sco 15)
  at16 : FnAtG wd "mixed" (pr 16) (bd 16) (sco 16)
  at17 : FnAtG wd "smul" (pr 17) (bd 17) (sco 17)
  at18 : FnAtG wd "sinverse" (pr 18) (bd 18) (sco 18)
  at19 : FnAtG wd "swhole_power" (pr 19) (bd 19) (sco 19)
  at21 : FnAtG wd "lplain" (pr 21) (bd 21) (sco 21)
  at22 : FnAtG wd "lmoved" (pr 22) (bd 22) (sco 22)
  at23 : FnAtG wd "ladd" (pr 23) (bd 23) (sco 23)
  at24 : FnAtG wd "lneg" (pr 24) (bd 24) (sco 24)
  at25 : FnAtG wd "lmul" (pr 25) (bd 25) (sco 25)
  at26 : FnAtG wd "ltrim" (pr 26) (bd 26) (sco 26)
  at27 : FnAtG wd "linverse" (pr 27) (bd 27) (sco 27)
  at28 : FnAtG wd "lpower" (pr 28) (bd 28) (sco 28)
  at29 : FnAtG wd "lcut" (pr 29) (bd 29) (sco 29)
  at31 : FnAtG wd "_law_take" (pr 31) (bd 31) (sco 31)
  at32 : FnAtG wd "_law_drawn" (pr 32) (bd 32) (sco 32)
  at33 : FnAtG wd "_law_rows" (pr 33) (bd 33) (sco 33)
  at34 : FnAtG wd "_law_alike" (pr 34) (bd 34) (sco 34)
  at35 : FnAtG wd "_law_product" (pr 35) (bd 35) (sco 35)
  at37 : FnAtG wd "_law_two_right" (pr 37) (bd 37) (sco 37)
  at38 : FnAtG wd "_law_power_right" (pr 38) (bd 38) (sco 38)
  at39 : FnAtG wd "_law_inverse_right" (pr 39) (bd 39) (sco 39)
  at40 : FnAtG wd "_law_cut_right" (pr 40) (bd 40) (sco 40)
  at41 : FnAtG wd "_law_plain_right" (pr 41) (bd 41) (sco 41)
  abs : wd.mg "abs" = Option.none ∧ wd.mb "abs" = some (.builtin "abs")
  len : wd.mg "len" = Option.none ∧ wd.mb "len" = some (.builtin "len")
  min : wd.mg "min" = Option.none ∧ wd.mb "min" = some (.builtin "min")
  list : wd.mg "list" = Option.none ∧ wd.mb "list" = some (.type "list")
  str : wd.mg "str" = Option.none ∧ wd.mb "str" = some (.type "str")
  range : wd.mg "range" = Option.none ∧ wd.mb "range" = some (.type "range")
  g0 : ∃ v, wd.mg "R0" = some v ∧ ∀ X : Addr → Prop, (∀ b o, wd.G.get? b = some o → ¬ X b) → Rep wd X wd.G v (.tup [.int 0, .int 1])
  g1 : ∃ v, wd.mg "R1" = some v ∧ ∀ X : Addr → Prop, (∀ b o, wd.G.get? b = some o → ¬ X b) → Rep wd X wd.G v (.tup [.int 1, .int 1])
  exc : ExcOk wd
  knd : KindOk wd
  c38 : ∃ c P q, (sco 38, c, P, q) ∈ wd.codes
  c39 : ∃ c P q, (sco 39, c, P, q) ∈ wd.codes
  c40 : ∃ c P q, (sco 40, c, P, q) ∈ wd.codes
  c41 : ∃ c P q, (sco 41, c, P, q) ∈ wd.codes
  cOnly : ∀ p ∈ wd.codes, p.1 = sco 38 ∨ p.1 = sco 39 ∨ p.1 = sco 40 ∨ p.1 = sco 41

section
variable {wd : Wd} {sc : Scope} {k : Nat}
theorem Wld.r0 (C : Wld wd) {pos : Pos} (hl : sc.names.lookup ("R0" : Str) = some .globalImplicit) : Ev wd sc k (eval (.Name "R0" pos)) (cM (.tup [.int 0, .int 1])) := by
  obtain ⟨v, h1, h2⟩ := C.g0
  exact Ev.glob hl h1 h2
theorem Wld.r1 (C : Wld wd) {pos : Pos} (hl : sc.names.lookup ("R1" : Str) = some .globalImplicit) : Ev wd sc k (eval (.Name "R1" pos)) (cM (.tup [.int 1, .int 1])) := by
  obtain ⟨v, h1, h2⟩ := C.g1
  exact Ev.glob hl h1 h2
theorem X.kind {np pos lpos : Pos} {params : Arguments} {lbody : Expr} {lscope : Scope} {mE : Rho → M PV} (keep : List Str) (C : Wld wd) (hp : ∃ c P q, (sc, c, P, q) ∈ wd.codes) (hE : Ev wd lscope k (eval lbody) mE)
    (hl : sc.names.lookup ("_law_kind" : Str) = some .globalImplicit) (hfree : ∀ y ∈ lscope.names, y.2 = .free → sc.names.lookup y.1 = some .cell) (hdef : ∀ env, defaultsOf params env = ([], []))
    (hbind : ∀ q cl pm cdv ctv, bindArgs (kla_fn "<lambda>" q params lbody lscope cl pm cdv ctv) ⟨[], []⟩ = pure []) (hcell : ∀ x ∈ lscope.names, x.2 ≠ .cell) (hcodes : lscope ≠ sco 38 ∧ lscope ≠ sco 39 ∧ lscope ≠ sco 40 ∧ lscope ≠ sco 41)
    (hkeep : ∀ y ∈ keep, (y, NameKind.free) ∈ lscope.names ∧ lscope.names.lookup y = some .free ∧ (y == ("__classdict__" : Str)) = false)
    (hco : lscope.isCoroutine = false) (hgen : lscope.isGenerator = false) (hk : lscope.kind = .function) :
    Ev wd sc (k + 2) (eval (.Call (.Name "_law_kind" np) [.Lambda params lbody lscope lpos] [] pos)) (kindM keep mE) := by
  obtain ⟨c, P, q, hp⟩ := hp
  exact Ev.kind keep C.exc C.knd hp hE hl (fun y hy => hfree _ hy rfl) hdef (hbind q) hcell (fun p hp z => by
    rcases C.cOnly p hp with h | h | h | h <;> rw [h] at z
    · exact hcodes.1 z
    · exact hcodes.2.1 z
    · exact hcodes.2.2.1 z
    · exact hcodes.2.2.2 z) hkeep hco hgen hk
theorem S.ad {iter kx vx : Expr} {x y : Str} {px py : Pos} {ifs : List Expr} {scope : Scope} {pos spos : Pos} {mi : Rho → M (List PV)} {mt : Rho → M Bool} {mk mv : Rho → M PV} (keep : List Str) (cs : CScope sc scope x keep) (hi : ItV wd sc k iter mi)
    (ht : TestsV wd (relab scope sc) k ifs mt) (hek : Ev wd (relab scope sc) k (eval kx) mk) (hev : Ev wd (relab scope sc) k (eval vx) mv) (hk : sc.names.lookup y = some .local ∨ sc.names.lookup y = some .cell)
    (hsw : ∀ env : Env, env.scope = sc → swapsWith (.DictComp kx vx [⟨.Name x px, iter, ifs, 0⟩] scope pos) (some (.Name y py)) spos.line env = pure true)
    (hs' : ∀ env y, foldedSetIterable iter env y = pure y := by intros; rfl) :
    Sv wd sc k (exec (.Assign [.Name y py] (.DictComp kx vx [⟨.Name x px, iter, ifs, 0⟩] scope pos) spos)) (adS y x keep mi mt mk mv) := Sv.assignDict keep cs hi ht hek hev hk hsw hs'
end
end Lz
namespace Lz
open PySem PySem.W PyProof.Rows

theorem lk_hit {α : Type} {x : Str} {d : α} {r : List (Str × α)} : List.lookup x ((x, d) :: r) = some d := by simp [List.lookup_cons]
theorem lk_miss {α : Type} {x y : Str} {d : α} {r : List (Str × α)} (h : (x == y) = false) : List.lookup x ((y, d) :: r) = List.lookup x r := by rw [List.lookup_cons, h]
theorem sr_nil {x : Str} {d : PV} : setR x d [] = [(x, d)] := rfl
theorem sr_hit {x : Str} {d e : PV} {r : Rho} : setR x d ((x, e) :: r) = (x, d) :: r := by simp [setR]
theorem sr_miss {x y : Str} {d e : PV} {r : Rho} (h : (y == x) = false) : setR x d ((y, e) :: r) = (y, e) :: setR x d r := by simp [setR, h]
theorem mu_none {ρ : Rho} {x : Str} : muIs ⟨ρ, Option.none⟩ x = false := rfl
theorem mu_some {ρ : Rho} {x y : Str} {d : PV} (h : (x == y) = false) : muIs ⟨ρ, some (y, d)⟩ x = false := h
theorem st_none {ρ : Rho} {d : PV} : stor ⟨ρ, Option.none⟩ d = true := rfl
theorem al_none {ρ : Rho} : Sig.all ⟨ρ, Option.none⟩ = ρ := rfl
theorem al_some {ρ : Rho} {p : Str × PV} : Sig.all ⟨ρ, some p⟩ = p :: ρ := rfl
theorem put_none {x : Str} {d : PV} {ρ : Rho} : put x d ⟨ρ, Option.none⟩ = some ⟨setR x d ρ, Option.none⟩ := rfl
theorem put_some {x y : Str} {d e : PV} {ρ : Rho} (h : (x == y) = false) : put x d ⟨ρ, some (y, e)⟩ = some ⟨setR x d ρ, some (y, e)⟩ := by unfold put; rw [mu_some h]; rfl
theorem bnd_ret {α β : Type} {a : α} {f : α → M β} : bnd (ret a) f = f a := rfl
theorem bnd_fail {α β : Type} {k : Str} {f : α → M β} : bnd (fail k) f = fail k := rfl
theorem bnd_stuck {α β : Type} {f : α → M β} : bnd stuck f = stuck := rfl
theorem bnd_bnd {α β γ : Type} {m : M α} {f : α → M β} {g : β → M γ} : bnd (bnd m f) g = bnd m fun a => bnd (f a) g := by
  funext n
  unfold bnd
  cases m n with
  | none => rfl
  | some p => obtain ⟨a | a, n⟩ := p <;> rfl
theorem lift_some' {α : Type} {a : α} : lift (some a) = ret a := rfl
theorem lift_none' {α : Type} : lift (Option.none : Option α) = stuck := rfl
theorem noErr_ret {α : Type} {a : α} : noErr (ret a) = ret a := rfl
theorem bnd_of {α β : Type} {m : M α} {f : α → M β} {n n' : Int} {a : α} (h : m n = some (.ok a, n')) : bnd m f n = f a n' := by unfold bnd; rw [h]
theorem noErr_of {α : Type} {m : M α} {n n' : Int} {a : α} (h : m n = some (.ok a, n')) : noErr m n = some (.ok a, n') := by unfold noErr; rw [h]
theorem few_ok {ds : List PV} (h : ds.length ≤ 1000) : few ds = some ds := if_pos h
theorem sub_c {keep : List Str} {x : Str} {d : PV} {r : Rho} (h : keep.contains x = true) : subR keep ((x, d) :: r) = (x, d) :: subR keep r := by unfold subR; rw [List.filter_cons, if_pos h]
theorem sub_d {keep : List Str} {x : Str} {d : PV} {r : Rho} (h : keep.contains x = false) : subR keep ((x, d) :: r) = subR keep r := by unfold subR; rw [List.filter_cons, if_neg (by rw [h]; decide)]
theorem sub_n {keep : List Str} : subR keep [] = [] := rfl
end Lz
namespace Lz
open PySem PySem.W PyProof.Rows

abbrev Rt := Int × Int
noncomputable def pvR (q : Rt) : PV := .tup [.int q.1, .int q.2]
noncomputable def pvS (a : List Rt) : PV := .lst (a.map pvR)
noncomputable def pvL (p : Int × List Rt) : PV := .tup [.int p.1, pvS p.2]
noncomputable def rt? : PV → Option Rt
  | .tup [.int a, .int b] => some (a, b)
  | _ => Option.none
noncomputable def rts? : List PV → Option (List Rt)
  | [] => some []
  | d :: r => match rt? d, rts? r with
    | some q, some l => some (q :: l)
    | _, _ => Option.none
noncomputable def ser? : PV → Option (List Rt)
  | .lst l => rts? l
  | _ => Option.none
noncomputable def lau? : PV → Option (Int × List Rt)
  | .tup [.int l, d] => match ser? d with
    | some a => some (l, a)
    | Option.none => Option.none
  | _ => Option.none
theorem rt_some {d : PV} {q : Rt} (h : rt? d = some q) : d = pvR q := by
  cases d with
  | tup l => cases l with
    | nil => exact no_none h
    | cons x l => cases x with
      | int a => cases l with
        | nil => exact no_none h
        | cons y l => cases y with
          | int b => cases l with
            | nil => cases h; rfl
            | cons _ _ => exact no_none h
          | _ => exact no_none h
      | _ => exact no_none h
  | _ => exact no_none h
theorem rts_some : ∀ {l : List PV} {a : List Rt}, rts? l = some a → l = a.map pvR
  | [], a, h => by cases h; rfl
  | d :: r, a, h => by
    unfold rts? at h
    split at h
    · next q l h1 h2 => cases h; rw [List.map_cons, ← rt_some h1, ← rts_some h2]
    · cases h
theorem ser_some {d : PV} {a : List Rt} (h : ser? d = some a) : d = pvS a := by
  unfold ser? at h
  split at h
  · unfold pvS; rw [← rts_some h]
  · cases h
theorem lau_some {d : PV} {p : Int × List Rt} (h : lau? d = some p) : d = pvL p := by
  cases d with
  | tup l => cases l with
    | nil => exact no_none h
    | cons x l => cases x with
      | int a => cases l with
        | nil => exact no_none h
        | cons y l => cases l with
          | nil =>
            unfold lau? at h
            dsimp only at h
            split at h
            · next h1 => cases h; unfold pvL; rw [ser_some h1]
            · cases h
          | cons _ _ => exact no_none h
      | _ => exact no_none h
  | _ => exact no_none h
theorem rt_pv (q : Rt) : rt? (pvR q) = some q := rfl
theorem rts_pv : ∀ a : List Rt, rts? (a.map pvR) = some a
  | [] => rfl
  | q :: a => by rw [List.map_cons]; unfold rts?; rw [rt_pv, rts_pv a]
theorem ser_pv (a : List Rt) : ser? (pvS a) = some a := rts_pv a
theorem lau_pv (p : Int × List Rt) : lau? (pvL p) = some p := by unfold lau? pvL; simp only [ser_pv]

/-! equality -/
theorem okR (n : Nat) (q : Rt) : okEq (n + 1) (pvR q) = true := by simp [okEq_tup, okEq_lst, okEq_int, okEq_str, pvR]
theorem okS (n : Nat) (a : List Rt) : okEq (n + 2) (pvS a) = true := by
  simp only [okEq_tup, okEq_lst, okEq_int, okEq_str, pvS, List.all_map]
  exact List.all_eq_true.mpr fun q _ => okR n q
theorem okL (n : Nat) (p : Int × List Rt) : okEq (n + 3) (pvL p) = true := by simp [okEq_tup, okEq_lst, okEq_int, okEq_str, pvL, okS]
theorem eqvR (x y : Rt) : PyData.eqv (toPy (pvR x)) (toPy (pvR y)) = decide (x = y) := by
  obtain ⟨a, b⟩ := x
  obtain ⟨c, d⟩ := y
  simp only [pvR, toPy_int, toPy_str, toPy_tup, toPy_lst, toPys_nil, toPys_cons, PyData.eqv, PyData.eqvAll, Bool.and_true]
  by_cases h1 : a = c <;> by_cases h2 : b = d <;> simp [h1, h2]
theorem eqvSs : ∀ (a b : List Rt), PyData.eqvAll (toPys (a.map pvR)) (toPys (b.map pvR)) = decide (a = b)
  | [], [] => rfl
  | [], _ :: _ => rfl
  | _ :: _, [] => rfl
  | x :: a, y :: b => by
    simp only [List.map_cons, toPys_nil, toPys_cons, PyData.eqvAll, eqvR, eqvSs a b]
    by_cases h1 : x = y <;> by_cases h2 : a = b <;> simp [h1, h2]
theorem eqvS (a b : List Rt) : PyData.eqv (toPy (pvS a)) (toPy (pvS b)) = decide (a = b) := by
  simp only [pvS, toPy_int, toPy_str, toPy_tup, toPy_lst, PyData.eqv, eqvSs]
theorem eqvL (p q : Int × List Rt) : PyData.eqv (toPy (pvL p)) (toPy (pvL q)) = decide (p = q) := by
  obtain ⟨a, b⟩ := p
  obtain ⟨c, d⟩ := q
  simp only [pvL, toPy_int, toPy_str, toPy_tup, toPy_lst, toPys_nil, toPys_cons, PyData.eqv, PyData.eqvAll, Bool.and_true]
  rw [show PyData.eqv (toPy (pvS b)) (toPy (pvS d)) = decide (b = d) from eqvS b d]
  by_cases h1 : a = c <;> by_cases h2 : b = d <;> simp [h1, h2]
theorem eq_i (a b : Int) : eqV (.int a) (.int b) = some (.bool (decide (a = b))) := by
  simp only [eqV, okEq_tup, okEq_lst, okEq_int, okEq_str, toPy_int, toPy_str, toPy_tup, toPy_lst, PyData.eqv, Bool.and_self, if_true]
  rfl
theorem ne_i (a b : Int) : neV (.int a) (.int b) = some (.bool (!decide (a = b))) := by
  simp only [neV, okEq_tup, okEq_lst, okEq_int, okEq_str, toPy_int, toPy_str, toPy_tup, toPy_lst, PyData.eqv, Bool.and_self, if_true]
  rfl
theorem eq_r (a b : Rt) : eqV (pvR a) (pvR b) = some (.bool (decide (a = b))) := by
  simp only [eqV, okR, Bool.and_self, if_true, eqvR]
theorem ne_r (a b : Rt) : neV (pvR a) (pvR b) = some (.bool (!decide (a = b))) := by
  simp only [neV, okR, Bool.and_self, if_true, eqvR]
theorem eq_s (a b : List Rt) : eqV (pvS a) (pvS b) = some (.bool (decide (a = b))) := by
  simp only [eqV, okS, Bool.and_self, if_true, eqvS]
theorem ne_s (a b : List Rt) : neV (pvS a) (pvS b) = some (.bool (!decide (a = b))) := by
  simp only [neV, okS, Bool.and_self, if_true, eqvS]
theorem eq_l (a b : Int × List Rt) : eqV (pvL a) (pvL b) = some (.bool (decide (a = b))) := by
  simp only [eqV, okL, Bool.and_self, if_true, eqvL]
theorem ne_l (a b : Int × List Rt) : neV (pvL a) (pvL b) = some (.bool (!decide (a = b))) := by
  simp only [neV, okL, Bool.and_self, if_true, eqvL]

/-! operators -/
theorem at_t0 {d : PV} {r : List PV} : atV (.tup (d :: r)) (.int 0) = some d := rfl
theorem at_t1 {d e : PV} {r : List PV} : atV (.tup (d :: e :: r)) (.int 1) = some e := rfl
theorem at_r0 {q : Rt} : atV (pvR q) (.int 0) = some (.int q.1) := rfl
theorem at_r1 {q : Rt} : atV (pvR q) (.int 1) = some (.int q.2) := rfl
theorem at_l0 {p : Int × List Rt} : atV (pvL p) (.int 0) = some (.int p.1) := rfl
theorem at_l1 {p : Int × List Rt} : atV (pvL p) (.int 1) = some (pvS p.2) := rfl
theorem at_s {a : List Rt} {i : Nat} {q : Rt} (hi : i < 1000) (h : a[i]? = some q) : atV (pvS a) (.int i) = some (pvR q) := by
  unfold pvS atV
  dsimp only
  rw [if_pos (by simp; omega)]
  simp [h]
theorem add_i {a b : Int} : addV (.int a) (.int b) = some (.int (a + b)) := rfl
theorem sub_i {a b : Int} : subV (.int a) (.int b) = some (.int (a - b)) := rfl
theorem mul_i {a b : Int} (h : small b = true) : mulV (.int a) (.int b) = some (.int (a * b)) := by unfold mulV; dsimp only; rw [if_pos h]
theorem fdiv_i {a b : Int} (h0 : b ≠ 0) (h : small b = true) : fdivV (.int a) (.int b) = some (.int (a.fdiv b)) := by unfold fdivV; dsimp only; rw [if_neg h0, if_pos h]
theorem mod_i {a b : Int} (h0 : b ≠ 0) : modV (.int a) (.int b) = some (.int (a.fmod b)) := by unfold modV; dsimp only; rw [if_neg h0]
theorem neg_i {a : Int} : negV (.int a) = some (.int (-a)) := rfl
theorem lt_i {a b : Int} : ltV (.int a) (.int b) = some (.bool (decide (a < b))) := rfl
theorem le_i {a b : Int} : leV (.int a) (.int b) = some (.bool (decide (a ≤ b))) := rfl
theorem gt_i {a b : Int} : gtV (.int a) (.int b) = some (.bool (decide (a > b))) := rfl
theorem ge_i {a b : Int} : geV (.int a) (.int b) = some (.bool (decide (a ≥ b))) := rfl
theorem abs_i {a : Int} : absV [.int a] = some (.int a.natAbs) := by unfold absV; simp only; congr 2; split <;> omega
theorem min_i {a b : Int} : minV [.int a, .int b] = some (.int (if b < a then b else a)) := rfl
theorem len_s {a : List Rt} (h : a.length ≤ 1000) : lenV [pvS a] = some (.int a.length) := by
  unfold lenV pvS
  dsimp only
  rw [if_pos (by simpa using h)]
  simp
theorem bnd_id {α : Type} {m : M α} : bnd m (fun d => ret d) = m := by
  funext n
  unfold bnd
  cases m n with
  | none => rfl
  | some p => obtain ⟨a | a, n⟩ := p <;> rfl
theorem pvR_mk {a b : Int} : PV.tup [.int a, .int b] = pvR (a, b) := rfl
theorem pvL_mk {a : Int} {l : List Rt} : PV.tup [.int a, pvS l] = pvL (a, l) := rfl
theorem pvS_mk {l : List Rt} : PV.lst (l.map pvR) = pvS l := rfl
theorem pvS_nil : PV.lst [] = pvS [] := rfl
theorem pvS_one {q : Rt} : PV.lst [pvR q] = pvS [q] := rfl
theorem add_s {a b : List Rt} (h : a.length + b.length ≤ 1000) : addV (pvS a) (pvS b) = some (pvS (a ++ b)) := by
  unfold addV pvS
  dsimp only
  rw [if_pos (by simpa using h), List.map_append]
theorem rep_s {q : Rt} {b : Int} (h : b ≤ 1000) (h' : -1000 ≤ b) : mulV (pvS [q]) (.int b) = some (pvS (List.replicate b.toNat q)) := by
  unfold mulV pvS
  simp only [List.map_cons, List.map_nil, List.length_cons, List.length_nil]
  rw [if_pos (by simp; omega)]
  congr 2
  induction b.toNat with
  | zero => rfl
  | succ m ih => rw [List.replicate_succ, List.flatten_cons, ih, List.replicate_succ, List.map_cons]; rfl
theorem from_s {a : List Rt} {i : Int} (h : 0 ≤ i) (hl : a.length ≤ 1000) : fromV (pvS a) (.int i) = some (pvS (a.drop i.toNat)) := by
  unfold fromV pvS
  dsimp only
  rw [if_pos (by simp; omega), List.map_drop]
theorem upto_s {a : List Rt} {i : Int} (h : 0 ≤ i) (hl : a.length ≤ 1000) : uptoV (pvS a) (.int i) = some (pvS (a.take i.toNat)) := by
  unfold uptoV pvS
  dsimp only
  rw [if_pos (by simp; omega), List.map_take]
theorem list_s {a : List Rt} (hl : a.length ≤ 1000) : listV [pvS a] = some (pvS a) := by
  unfold listV pvS
  dsimp only
  rw [if_pos (by simpa using hl)]
theorem st_some {ρ : Rho} {p : Str × PV} {d : PV} : stor ⟨ρ, some p⟩ d = flat d := by simp [stor]
theorem flat_r {q : Rt} : flat (pvR q) = true := by simp [flat, pvR]
theorem flat_i {i : Int} : flat (.int i) = true := rfl
theorem mu_isNone : (Option.none : Option (Str × PV)).isNone = true := rfl

theorem unp_t {f : List PV → Sig → Option Sig} {d e : PV} {σ : Sig} : unp 2 f (.tup [d, e]) σ = f [d, e] σ := rfl
theorem unp_r {f : List PV → Sig → Option Sig} {q : Rt} {σ : Sig} : unp 2 f (pvR q) σ = f [.int q.1, .int q.2] σ := rfl
theorem unp_l {f : List PV → Sig → Option Sig} {p : Int × List Rt} {σ : Sig} : unp 2 f (pvL p) σ = f [.int p.1, pvS p.2] σ := rfl
theorem toB_b {b : Bool} : toB (.bool b) = ret b := rfl
end Lz
set_option linter.unusedSimpArgs false
namespace Lz
open PySem PySem.W PyProof.Rows

noncomputable def sp_gcd : List PV → M PV
  | [.int a, .int b] => if small b then ret (.int (Int.gcd a b)) else stuck
  | _ => stuck
noncomputable def gI (t b : Int) : Int := if b > 0 then (Int.gcd t b : Int) else 0 - (Int.gcd t b : Int)
noncomputable def ratO0 (t b : Int) : Option Rt :=
  if b = 0 then none else if small b then
    (if gI t b ≠ 0 ∧ small (gI t b) = true then some (t.fdiv (gI t b), b.fdiv (gI t b)) else none)
  else none
noncomputable def strictN {α : Type} (n : Nat) (f : Nat → α) : α := match n with
  | 0 => f 0
  | m + 1 => f (m + 1)
noncomputable def strictI {α : Type} (i : Int) (f : Int → α) : α := match i with
  | .ofNat n => strictN n fun n => f (.ofNat n)
  | .negSucc n => strictN n fun n => f (.negSucc n)
theorem strictN_eq {α : Type} {n : Nat} {f : Nat → α} : strictN n f = f n := by cases n <;> rfl
theorem strictI_eq {α : Type} {i : Int} {f : Int → α} : strictI i f = f i := by
  unfold strictI
  cases i
  · exact strictN_eq (f := fun n => f (.ofNat n))
  · exact strictN_eq (f := fun n => f (.negSucc n))
noncomputable def ratO (t b : Int) : Option Rt := strictI t fun t => strictI b fun b => match ratO0 t b with
  | some q => strictI q.1 fun x => strictI q.2 fun y => some (x, y)
  | none => none
theorem ratO_eq (t b : Int) : ratO t b = ratO0 t b := by
  unfold ratO
  rw [strictI_eq, strictI_eq]
  cases ratO0 t b with
  | none => rfl
  | some q => simp only [strictI_eq]
noncomputable def raddO (a b : Rt) : Option Rt := if small b.2 && small a.2 then ratO (a.1 * b.2 + b.1 * a.2) (a.2 * b.2) else none
noncomputable def rsubO (a b : Rt) : Option Rt := if small b.2 && small a.2 then ratO (a.1 * b.2 - b.1 * a.2) (a.2 * b.2) else none
noncomputable def rmulO (a b : Rt) : Option Rt := if small b.1 && small b.2 then ratO (a.1 * b.1) (a.2 * b.2) else none
noncomputable def rdivO (a b : Rt) : Option Rt := if small b.2 && small b.1 then ratO (a.1 * b.2) (a.2 * b.1) else none
noncomputable def sp_rat : List PV → M PV
  | [.int t, .int b] => lift ((ratO t b).map pvR)
  | _ => stuck
noncomputable def sp2 (f : Rt → Rt → Option Rt) : List PV → M PV
  | [x, y] => lift ((rt? x).bind fun a => (rt? y).bind fun b => (f a b).map pvR)
  | _ => stuck
noncomputable def sp_radd : List PV → M PV := sp2 raddO
noncomputable def sp_rsub : List PV → M PV := sp2 rsubO
noncomputable def sp_rmul : List PV → M PV := sp2 rmulO
noncomputable def sp_rdiv : List PV → M PV := sp2 rdivO
noncomputable def sp_rneg : List PV → M PV
  | [x] => lift ((rt? x).map fun a => pvR (0 - a.1, a.2))
  | _ => stuck
noncomputable def b_gcd_1 : Sig → M (Fl × Sig) := (seqM (asg (tupM [(nmM "b"), (biM modV (nmM "a") (nmM "b"))]) (unp 2 fun ds => putL [put "b", put "a"] ds.reverse)) nilM)
noncomputable def t_gcd_2 : Rho → M Bool := (tcM neV (nmM "b") (cM (.int 0)))
noncomputable def m_gcd : Sig → M (Fl × Sig) := (seqM (asg (tupM [(bltM absV [(nmM "a")]), (bltM absV [(nmM "b")])]) (unp 2 fun ds => putL [put "b", put "a"] ds.reverse)) (seqM (whS 18446744073709551617 t_gcd_2 b_gcd_1) (seqM (rtM (nmM "a")) nilM)))
set_option maxHeartbeats 4000000 in
theorem v_gcd {wd : Wd} (C : Wld wd) : Sv wd (sco 3) 1 (execs (bd 3)) (m_gcd) := (Sv.cons (S.swap (X.tup (X.rc (X.blt C.abs (.inl ⟨_, rfl⟩) opN_abs (by rfl) (X.rc X.nm X.rn)) (X.rc (X.blt C.abs (.inl ⟨_, rfl⟩) opN_abs (by rfl) (X.rc X.nm X.rn)) X.rn))) (by rfl) (by rfl) (by intro env h; have hb : env.blockKind = .function := (by unfold Env.blockKind; rw [h]; rfl); unfold swappedStores Env.kindOf; rw [hb, h]; rfl)) (Sv.cons (S.wh 18446744073709551617 (T.cmp X.nm X.int op_ne) (Sv.cons (S.swap (X.tup (X.rc X.nm (X.rc (X.bin X.nm X.nm op_mod) X.rn))) (by rfl) (by rfl) (by intro env h; have hb : env.blockKind = .function := (by unfold Env.blockKind; rw [h]; rfl); unfold swappedStores Env.kindOf; rw [hb, h]; rfl)) S.nil)) (Sv.cons (S.rt X.nm) S.nil)))
theorem f_gcd {wd : Wd} (C : Wld wd) : Fn wd 2 "gcd" (runF ["a", "b"] (m_gcd)) := Fn.mk C.at3 (v_gcd C) (fun _ _ _ => len2 fun a b => rfl) (by decide) (by decide)
noncomputable def m_rat : Sig → M (Fl × Sig) := (seqM (ifS (tcM eqV (nmM "bottom") (cM (.int 0))) (seqM stS nilM) nilM) (seqM (asg (ifM (tcM gtV (nmM "bottom") (cM (.int 0))) (callM sp_gcd [(nmM "top"), (nmM "bottom")]) (biM subV (cM (.int 0)) (callM sp_gcd [(nmM "top"), (nmM "bottom")]))) (put "g")) (seqM (rtM (tupM [(biM fdivV (nmM "top") (nmM "g")), (biM fdivV (nmM "bottom") (nmM "g"))])) nilM)))
set_option maxHeartbeats 4000000 in
theorem v_rat {wd : Wd} (C : Wld wd) (h_gcd : Fn wd 2 "gcd" sp_gcd) : Sv wd (sco 7) 2 (execs (bd 7)) (m_rat) := (Sv.cons (S.iff (T.cmp X.nm X.int op_eq) (Sv.cons S.st S.nil) S.nil) (Sv.cons (Sv.assign (X.ife (T.cmp X.nm X.int op_gt) (X.call (h_gcd) (by decide) (by rfl) (X.rc X.nm (X.rc X.nm X.rn))) (X.bin X.int (X.call (h_gcd) (by decide) (by rfl) (X.rc X.nm (X.rc X.nm X.rn))) op_sub)) (Av.name (by first | exact .inl rfl | exact .inr rfl))) (Sv.cons (S.rt (X.tup (X.rc (X.bin X.nm X.nm op_fdiv) (X.rc (X.bin X.nm X.nm op_fdiv) X.rn)))) S.nil)))
theorem f_rat {wd : Wd} (C : Wld wd) (h_gcd : Fn wd 2 "gcd" sp_gcd) : Fn wd 3 "rat" (runF ["top", "bottom"] (m_rat)) := Fn.mk C.at7 (v_rat C h_gcd) (fun _ _ _ => len2 fun a b => rfl) (by decide) (by decide)
noncomputable def m_radd : Sig → M (Fl × Sig) := (seqM (rtM (callM sp_rat [(biM addV (biM mulV (biM atV (nmM "a") (cM (.int 0))) (biM atV (nmM "b") (cM (.int 1)))) (biM mulV (biM atV (nmM "b") (cM (.int 0))) (biM atV (nmM "a") (cM (.int 1))))), (biM mulV (biM atV (nmM "a") (cM (.int 1))) (biM atV (nmM "b") (cM (.int 1))))])) nilM)
set_option maxHeartbeats 4000000 in
theorem v_radd {wd : Wd} (C : Wld wd) (h_rat : Fn wd 3 "rat" sp_rat) : Sv wd (sco 8) 3 (execs (bd 8)) (m_radd) := (Sv.cons (S.rt (X.call (h_rat) (by decide) (by rfl) (X.rc (X.bin (X.bin (X.at X.nm X.int) (X.at X.nm X.int) op_mul) (X.bin (X.at X.nm X.int) (X.at X.nm X.int) op_mul) op_add) (X.rc (X.bin (X.at X.nm X.int) (X.at X.nm X.int) op_mul) X.rn)))) S.nil)
theorem f_radd {wd : Wd} (C : Wld wd) (h_rat : Fn wd 3 "rat" sp_rat) : Fn wd 4 "radd" (runF ["a", "b"] (m_radd)) := Fn.mk C.at8 (v_radd C h_rat) (fun _ _ _ => len2 fun a b => rfl) (by decide) (by decide)
noncomputable def m_rsub : Sig → M (Fl × Sig) := (seqM (rtM (callM sp_rat [(biM subV (biM mulV (biM atV (nmM "a") (cM (.int 0))) (biM atV (nmM "b") (cM (.int 1)))) (biM mulV (biM atV (nmM "b") (cM (.int 0))) (biM atV (nmM "a") (cM (.int 1))))), (biM mulV (biM atV (nmM "a") (cM (.int 1))) (biM atV (nmM "b") (cM (.int 1))))])) nilM)
set_option maxHeartbeats 4000000 in
theorem v_rsub {wd : Wd} (C : Wld wd) (h_rat : Fn wd 3 "rat" sp_rat) : Sv wd (sco 9) 3 (execs (bd 9)) (m_rsub) := (Sv.cons (S.rt (X.call (h_rat) (by decide) (by rfl) (X.rc (X.bin (X.bin (X.at X.nm X.int) (X.at X.nm X.int) op_mul) (X.bin (X.at X.nm X.int) (X.at X.nm X.int) op_mul) op_sub) (X.rc (X.bin (X.at X.nm X.int) (X.at X.nm X.int) op_mul) X.rn)))) S.nil)
theorem f_rsub {wd : Wd} (C : Wld wd) (h_rat : Fn wd 3 "rat" sp_rat) : Fn wd 4 "rsub" (runF ["a", "b"] (m_rsub)) := Fn.mk C.at9 (v_rsub C h_rat) (fun _ _ _ => len2 fun a b => rfl) (by decide) (by decide)
noncomputable def m_rmul : Sig → M (Fl × Sig) := (seqM (rtM (callM sp_rat [(biM mulV (biM atV (nmM "a") (cM (.int 0))) (biM atV (nmM "b") (cM (.int 0)))), (biM mulV (biM atV (nmM "a") (cM (.int 1))) (biM atV (nmM "b") (cM (.int 1))))])) nilM)
set_option maxHeartbeats 4000000 in
theorem v_rmul {wd : Wd} (C : Wld wd) (h_rat : Fn wd 3 "rat" sp_rat) : Sv wd (sco 10) 3 (execs (bd 10)) (m_rmul) := (Sv.cons (S.rt (X.call (h_rat) (by decide) (by rfl) (X.rc (X.bin (X.at X.nm X.int) (X.at X.nm X.int) op_mul) (X.rc (X.bin (X.at X.nm X.int) (X.at X.nm X.int) op_mul) X.rn)))) S.nil)
theorem f_rmul {wd : Wd} (C : Wld wd) (h_rat : Fn wd 3 "rat" sp_rat) : Fn wd 4 "rmul" (runF ["a", "b"] (m_rmul)) := Fn.mk C.at10 (v_rmul C h_rat) (fun _ _ _ => len2 fun a b => rfl) (by decide) (by decide)
noncomputable def m_rdiv : Sig → M (Fl × Sig) := (seqM (rtM (callM sp_rat [(biM mulV (biM atV (nmM "a") (cM (.int 0))) (biM atV (nmM "b") (cM (.int 1)))), (biM mulV (biM atV (nmM "a") (cM (.int 1))) (biM atV (nmM "b") (cM (.int 0))))])) nilM)
set_option maxHeartbeats 4000000 in
theorem v_rdiv {wd : Wd} (C : Wld wd) (h_rat : Fn wd 3 "rat" sp_rat) : Sv wd (sco 11) 3 (execs (bd 11)) (m_rdiv) := (Sv.cons (S.rt (X.call (h_rat) (by decide) (by rfl) (X.rc (X.bin (X.at X.nm X.int) (X.at X.nm X.int) op_mul) (X.rc (X.bin (X.at X.nm X.int) (X.at X.nm X.int) op_mul) X.rn)))) S.nil)
theorem f_rdiv {wd : Wd} (C : Wld wd) (h_rat : Fn wd 3 "rat" sp_rat) : Fn wd 4 "rdiv" (runF ["a", "b"] (m_rdiv)) := Fn.mk C.at11 (v_rdiv C h_rat) (fun _ _ _ => len2 fun a b => rfl) (by decide) (by decide)
noncomputable def m_rneg : Sig → M (Fl × Sig) := (seqM (rtM (tupM [(biM subV (cM (.int 0)) (biM atV (nmM "a") (cM (.int 0)))), (biM atV (nmM "a") (cM (.int 1)))])) nilM)
set_option maxHeartbeats 4000000 in
theorem v_rneg {wd : Wd} (C : Wld wd) : Sv wd (sco 12) 1 (execs (bd 12)) (m_rneg) := (Sv.cons (S.rt (X.tup (X.rc (X.bin X.int (X.at X.nm X.int) op_sub) (X.rc (X.at X.nm X.int) X.rn)))) S.nil)
theorem f_rneg {wd : Wd} (C : Wld wd) : Fn wd 2 "rneg" (runF ["a"] (m_rneg)) := Fn.mk C.at12 (v_rneg C) (fun _ _ _ => len1 fun a => rfl) (by decide) (by decide)


theorem gcd_loop : ∀ (N : Nat) (a b : Nat), b < N → whS N t_gcd_2 b_gcd_1
    ⟨[("a", .int a), ("b", .int b)], none⟩ = ret (.next, ⟨[("a", .int (Nat.gcd a b)), ("b", .int 0)], none⟩)
  | 0, _, _, h => absurd h (Nat.not_lt_zero _)
  | N + 1, a, b, h => by
    unfold whS whileM t_gcd_2 b_gcd_1
    cases b with
    | zero =>
      simp (decide := true) only [runF, seqM, asg, rtM, nilM, ifS, raS, stS, nmM, cM, unM, biM, tupM, lstM, callM, bltM, ifM, orM, getM, tcM, tvM, ntM, alM, anM, ivM, irM, rowM, allT, anyT, toB_b, unp_t, unp_r, unp_l, putL, List.reverse_cons, List.reverse_nil, List.nil_append, List.cons_append, List.zip_cons_cons, List.zip_nil_left, List.zip_nil_right, List.length_cons, List.length_nil, lk_hit, lk_miss, sr_nil, sr_hit, sr_miss, st_none, al_none, al_some, put_none, put_some, bnd_ret, bnd_fail, bnd_stuck, bnd_bnd, lift_some', lift_none', noErr_ret, few_ok, sub_c, sub_d, sub_n, if_true, ite_true, dite_true, Bool.false_eq_true, if_false, bnd_id, at_t0, at_t1, at_r0, at_r1, at_l0, at_l1, add_i, sub_i, neg_i, lt_i, le_i, gt_i, ge_i, eq_i, ne_i, eq_r, ne_r, eq_s, ne_s, eq_l, ne_l, abs_i, min_i, ite_false, pvR_mk, pvL_mk, setR_lookup, st_some, flat_r, mu_isNone, Option.isNone_none, Option.isNone_some, Bool.not_true, Bool.not_false, decide_true, decide_false, Bool.and_true, Bool.true_and, reduceCtorEq, Nat.gcd_zero_right]
      rfl
    | succ b =>
      have hb : ¬ ((b + 1 : Nat) : Int) = 0 := by omega
      simp (decide := true) only [runF, seqM, asg, rtM, nilM, ifS, raS, stS, nmM, cM, unM, biM, tupM, lstM, callM, bltM, ifM, orM, getM, tcM, tvM, ntM, alM, anM, ivM, irM, rowM, allT, anyT, toB_b, unp_t, unp_r, unp_l, putL, List.reverse_cons, List.reverse_nil, List.nil_append, List.cons_append, List.zip_cons_cons, List.zip_nil_left, List.zip_nil_right, List.length_cons, List.length_nil, lk_hit, lk_miss, sr_nil, sr_hit, sr_miss, st_none, al_none, al_some, put_none, put_some, bnd_ret, bnd_fail, bnd_stuck, bnd_bnd, lift_some', lift_none', noErr_ret, few_ok, sub_c, sub_d, sub_n, if_true, ite_true, dite_true, Bool.false_eq_true, if_false, bnd_id, at_t0, at_t1, at_r0, at_r1, at_l0, at_l1, add_i, sub_i, neg_i, lt_i, le_i, gt_i, ge_i, eq_i, ne_i, eq_r, ne_r, eq_s, ne_s, eq_l, ne_l, abs_i, min_i, ite_false, pvR_mk, pvL_mk, setR_lookup, st_some, flat_r, mu_isNone, Option.isNone_none, Option.isNone_some, Bool.not_true, Bool.not_false, decide_true, decide_false, Bool.and_true, Bool.true_and, reduceCtorEq, mod_i hb, hb, decide_false, Bool.not_false]
      rw [show ((a : Int).fmod ((b + 1 : Nat) : Int)) = ((a % (b + 1) : Nat) : Int) from by
        rw [Int.fmod_eq_emod_of_nonneg _ (by omega)]; rfl]
      have ih := gcd_loop N (b + 1) (a % (b + 1)) (by have := Nat.mod_lt a (show b + 1 > 0 by omega); omega)
      unfold whS t_gcd_2 b_gcd_1 at ih
      rw [show Nat.gcd a (b + 1) = Nat.gcd (b + 1) (a % (b + 1)) from by rw [Nat.gcd_comm, Nat.gcd_rec, Nat.gcd_comm]]
      exact ih
theorem small_nat {b : Int} (h : small b = true) : b.natAbs < 18446744073709551617 := by
  have := small_lt h
  omega
theorem u_gcd {a b : Int} (h : small b = true) : runF ["a", "b"] m_gcd [.int a, .int b] = ret (.int (Int.gcd a b)) := by
  simp (decide := true) only [m_gcd, runF, seqM, asg, rtM, nilM, ifS, raS, stS, nmM, cM, unM, biM, tupM, lstM, callM, bltM, ifM, orM, getM, tcM, tvM, ntM, alM, anM, ivM, irM, rowM, allT, anyT, toB_b, unp_t, unp_r, unp_l, putL, List.reverse_cons, List.reverse_nil, List.nil_append, List.cons_append, List.zip_cons_cons, List.zip_nil_left, List.zip_nil_right, List.length_cons, List.length_nil, lk_hit, lk_miss, sr_nil, sr_hit, sr_miss, st_none, al_none, al_some, put_none, put_some, bnd_ret, bnd_fail, bnd_stuck, bnd_bnd, lift_some', lift_none', noErr_ret, few_ok, sub_c, sub_d, sub_n, if_true, ite_true, dite_true, Bool.false_eq_true, if_false, bnd_id, at_t0, at_t1, at_r0, at_r1, at_l0, at_l1, add_i, sub_i, neg_i, lt_i, le_i, gt_i, ge_i, eq_i, ne_i, eq_r, ne_r, eq_s, ne_s, eq_l, ne_l, abs_i, min_i, ite_false, pvR_mk, pvL_mk, setR_lookup, st_some, flat_r, mu_isNone, Option.isNone_none, Option.isNone_some, Bool.not_true, Bool.not_false, decide_true, decide_false, Bool.and_true, Bool.true_and, reduceCtorEq]
  rw [gcd_loop 18446744073709551617 a.natAbs b.natAbs (small_nat h)]
  simp (decide := true) only [runF, seqM, asg, rtM, nilM, ifS, raS, stS, nmM, cM, unM, biM, tupM, lstM, callM, bltM, ifM, orM, getM, tcM, tvM, ntM, alM, anM, ivM, irM, rowM, allT, anyT, toB_b, unp_t, unp_r, unp_l, putL, List.reverse_cons, List.reverse_nil, List.nil_append, List.cons_append, List.zip_cons_cons, List.zip_nil_left, List.zip_nil_right, List.length_cons, List.length_nil, lk_hit, lk_miss, sr_nil, sr_hit, sr_miss, st_none, al_none, al_some, put_none, put_some, bnd_ret, bnd_fail, bnd_stuck, bnd_bnd, lift_some', lift_none', noErr_ret, few_ok, sub_c, sub_d, sub_n, if_true, ite_true, dite_true, Bool.false_eq_true, if_false, bnd_id, at_t0, at_t1, at_r0, at_r1, at_l0, at_l1, add_i, sub_i, neg_i, lt_i, le_i, gt_i, ge_i, eq_i, ne_i, eq_r, ne_r, eq_s, ne_s, eq_l, ne_l, abs_i, min_i, ite_false, pvR_mk, pvL_mk, setR_lookup, st_some, flat_r, mu_isNone, Option.isNone_none, Option.isNone_some, Bool.not_true, Bool.not_false, decide_true, decide_false, Bool.and_true, Bool.true_and, reduceCtorEq]
  rfl
theorem u_rat {t b : Int} {q : Rt} (h : ratO t b = some q) : runF ["top", "bottom"] m_rat [.int t, .int b] = ret (pvR q) := by
  rw [ratO_eq] at h
  unfold ratO0 at h
  split at h
  · cases h
  next h0 =>
  split at h
  case isFalse => cases h
  next hs =>
  split at h
  case isFalse => cases h
  next hg =>
  cases h
  unfold gI at *
  have e : sp_gcd [.int t, .int b] = ret (.int (Int.gcd t b)) := if_pos hs
  simp (decide := true) only [m_rat, runF, seqM, asg, rtM, nilM, ifS, raS, stS, nmM, cM, unM, biM, tupM, lstM, callM, bltM, ifM, orM, getM, tcM, tvM, ntM, alM, anM, ivM, irM, rowM, allT, anyT, toB_b, unp_t, unp_r, unp_l, putL, List.reverse_cons, List.reverse_nil, List.nil_append, List.cons_append, List.zip_cons_cons, List.zip_nil_left, List.zip_nil_right, List.length_cons, List.length_nil, lk_hit, lk_miss, sr_nil, sr_hit, sr_miss, st_none, al_none, al_some, put_none, put_some, bnd_ret, bnd_fail, bnd_stuck, bnd_bnd, lift_some', lift_none', noErr_ret, few_ok, sub_c, sub_d, sub_n, if_true, ite_true, dite_true, Bool.false_eq_true, if_false, bnd_id, at_t0, at_t1, at_r0, at_r1, at_l0, at_l1, add_i, sub_i, neg_i, lt_i, le_i, gt_i, ge_i, eq_i, ne_i, eq_r, ne_r, eq_s, ne_s, eq_l, ne_l, abs_i, min_i, ite_false, pvR_mk, pvL_mk, setR_lookup, st_some, flat_r, mu_isNone, Option.isNone_none, Option.isNone_some, Bool.not_true, Bool.not_false, decide_true, decide_false, Bool.and_true, Bool.true_and, reduceCtorEq, h0, decide_false, e]
  by_cases hp : b > 0
  · rw [if_pos hp] at hg ⊢
    simp (decide := true) only [runF, seqM, asg, rtM, nilM, ifS, raS, stS, nmM, cM, unM, biM, tupM, lstM, callM, bltM, ifM, orM, getM, tcM, tvM, ntM, alM, anM, ivM, irM, rowM, allT, anyT, toB_b, unp_t, unp_r, unp_l, putL, List.reverse_cons, List.reverse_nil, List.nil_append, List.cons_append, List.zip_cons_cons, List.zip_nil_left, List.zip_nil_right, List.length_cons, List.length_nil, lk_hit, lk_miss, sr_nil, sr_hit, sr_miss, st_none, al_none, al_some, put_none, put_some, bnd_ret, bnd_fail, bnd_stuck, bnd_bnd, lift_some', lift_none', noErr_ret, few_ok, sub_c, sub_d, sub_n, if_true, ite_true, dite_true, Bool.false_eq_true, if_false, bnd_id, at_t0, at_t1, at_r0, at_r1, at_l0, at_l1, add_i, sub_i, neg_i, lt_i, le_i, gt_i, ge_i, eq_i, ne_i, eq_r, ne_r, eq_s, ne_s, eq_l, ne_l, abs_i, min_i, ite_false, pvR_mk, pvL_mk, setR_lookup, st_some, flat_r, mu_isNone, Option.isNone_none, Option.isNone_some, Bool.not_true, Bool.not_false, decide_true, decide_false, Bool.and_true, Bool.true_and, reduceCtorEq, hp, decide_true, e, fdiv_i hg.1 hg.2]
  · rw [if_neg hp] at hg ⊢
    simp (decide := true) only [runF, seqM, asg, rtM, nilM, ifS, raS, stS, nmM, cM, unM, biM, tupM, lstM, callM, bltM, ifM, orM, getM, tcM, tvM, ntM, alM, anM, ivM, irM, rowM, allT, anyT, toB_b, unp_t, unp_r, unp_l, putL, List.reverse_cons, List.reverse_nil, List.nil_append, List.cons_append, List.zip_cons_cons, List.zip_nil_left, List.zip_nil_right, List.length_cons, List.length_nil, lk_hit, lk_miss, sr_nil, sr_hit, sr_miss, st_none, al_none, al_some, put_none, put_some, bnd_ret, bnd_fail, bnd_stuck, bnd_bnd, lift_some', lift_none', noErr_ret, few_ok, sub_c, sub_d, sub_n, if_true, ite_true, dite_true, Bool.false_eq_true, if_false, bnd_id, at_t0, at_t1, at_r0, at_r1, at_l0, at_l1, add_i, sub_i, neg_i, lt_i, le_i, gt_i, ge_i, eq_i, ne_i, eq_r, ne_r, eq_s, ne_s, eq_l, ne_l, abs_i, min_i, ite_false, pvR_mk, pvL_mk, setR_lookup, st_some, flat_r, mu_isNone, Option.isNone_none, Option.isNone_some, Bool.not_true, Bool.not_false, decide_true, decide_false, Bool.and_true, Bool.true_and, reduceCtorEq, hp, decide_false, e, fdiv_i hg.1 hg.2]
theorem sp_rat_of {t b : Int} {q : Rt} (h : ratO t b = some q) : sp_rat [.int t, .int b] = ret (pvR q) := by
  unfold sp_rat; dsimp only; rw [h]; rfl
theorem u_radd {a b q : Rt} (h : raddO a b = some q) : runF ["a", "b"] m_radd [pvR a, pvR b] = ret (pvR q) := by
  unfold raddO at h
  split at h
  case isFalse => cases h
  next hg =>
  simp only [Bool.and_eq_true] at hg
  simp (decide := true) only [m_radd, runF, seqM, asg, rtM, nilM, ifS, raS, stS, nmM, cM, unM, biM, tupM, lstM, callM, bltM, ifM, orM, getM, tcM, tvM, ntM, alM, anM, ivM, irM, rowM, allT, anyT, toB_b, unp_t, unp_r, unp_l, putL, List.reverse_cons, List.reverse_nil, List.nil_append, List.cons_append, List.zip_cons_cons, List.zip_nil_left, List.zip_nil_right, List.length_cons, List.length_nil, lk_hit, lk_miss, sr_nil, sr_hit, sr_miss, st_none, al_none, al_some, put_none, put_some, bnd_ret, bnd_fail, bnd_stuck, bnd_bnd, lift_some', lift_none', noErr_ret, few_ok, sub_c, sub_d, sub_n, if_true, ite_true, dite_true, Bool.false_eq_true, if_false, bnd_id, at_t0, at_t1, at_r0, at_r1, at_l0, at_l1, add_i, sub_i, neg_i, lt_i, le_i, gt_i, ge_i, eq_i, ne_i, eq_r, ne_r, eq_s, ne_s, eq_l, ne_l, abs_i, min_i, ite_false, pvR_mk, pvL_mk, setR_lookup, st_some, flat_r, mu_isNone, Option.isNone_none, Option.isNone_some, Bool.not_true, Bool.not_false, decide_true, decide_false, Bool.and_true, Bool.true_and, reduceCtorEq, mul_i hg.1, mul_i hg.2, sp_rat_of h]
theorem u_rsub {a b q : Rt} (h : rsubO a b = some q) : runF ["a", "b"] m_rsub [pvR a, pvR b] = ret (pvR q) := by
  unfold rsubO at h
  split at h
  case isFalse => cases h
  next hg =>
  simp only [Bool.and_eq_true] at hg
  simp (decide := true) only [m_rsub, runF, seqM, asg, rtM, nilM, ifS, raS, stS, nmM, cM, unM, biM, tupM, lstM, callM, bltM, ifM, orM, getM, tcM, tvM, ntM, alM, anM, ivM, irM, rowM, allT, anyT, toB_b, unp_t, unp_r, unp_l, putL, List.reverse_cons, List.reverse_nil, List.nil_append, List.cons_append, List.zip_cons_cons, List.zip_nil_left, List.zip_nil_right, List.length_cons, List.length_nil, lk_hit, lk_miss, sr_nil, sr_hit, sr_miss, st_none, al_none, al_some, put_none, put_some, bnd_ret, bnd_fail, bnd_stuck, bnd_bnd, lift_some', lift_none', noErr_ret, few_ok, sub_c, sub_d, sub_n, if_true, ite_true, dite_true, Bool.false_eq_true, if_false, bnd_id, at_t0, at_t1, at_r0, at_r1, at_l0, at_l1, add_i, sub_i, neg_i, lt_i, le_i, gt_i, ge_i, eq_i, ne_i, eq_r, ne_r, eq_s, ne_s, eq_l, ne_l, abs_i, min_i, ite_false, pvR_mk, pvL_mk, setR_lookup, st_some, flat_r, mu_isNone, Option.isNone_none, Option.isNone_some, Bool.not_true, Bool.not_false, decide_true, decide_false, Bool.and_true, Bool.true_and, reduceCtorEq, mul_i hg.1, mul_i hg.2, sp_rat_of h]
theorem u_rmul {a b q : Rt} (h : rmulO a b = some q) : runF ["a", "b"] m_rmul [pvR a, pvR b] = ret (pvR q) := by
  unfold rmulO at h
  split at h
  case isFalse => cases h
  next hg =>
  simp only [Bool.and_eq_true] at hg
  simp (decide := true) only [m_rmul, runF, seqM, asg, rtM, nilM, ifS, raS, stS, nmM, cM, unM, biM, tupM, lstM, callM, bltM, ifM, orM, getM, tcM, tvM, ntM, alM, anM, ivM, irM, rowM, allT, anyT, toB_b, unp_t, unp_r, unp_l, putL, List.reverse_cons, List.reverse_nil, List.nil_append, List.cons_append, List.zip_cons_cons, List.zip_nil_left, List.zip_nil_right, List.length_cons, List.length_nil, lk_hit, lk_miss, sr_nil, sr_hit, sr_miss, st_none, al_none, al_some, put_none, put_some, bnd_ret, bnd_fail, bnd_stuck, bnd_bnd, lift_some', lift_none', noErr_ret, few_ok, sub_c, sub_d, sub_n, if_true, ite_true, dite_true, Bool.false_eq_true, if_false, bnd_id, at_t0, at_t1, at_r0, at_r1, at_l0, at_l1, add_i, sub_i, neg_i, lt_i, le_i, gt_i, ge_i, eq_i, ne_i, eq_r, ne_r, eq_s, ne_s, eq_l, ne_l, abs_i, min_i, ite_false, pvR_mk, pvL_mk, setR_lookup, st_some, flat_r, mu_isNone, Option.isNone_none, Option.isNone_some, Bool.not_true, Bool.not_false, decide_true, decide_false, Bool.and_true, Bool.true_and, reduceCtorEq, mul_i hg.1, mul_i hg.2, sp_rat_of h]
theorem u_rdiv {a b q : Rt} (h : rdivO a b = some q) : runF ["a", "b"] m_rdiv [pvR a, pvR b] = ret (pvR q) := by
  unfold rdivO at h
  split at h
  case isFalse => cases h
  next hg =>
  simp only [Bool.and_eq_true] at hg
  simp (decide := true) only [m_rdiv, runF, seqM, asg, rtM, nilM, ifS, raS, stS, nmM, cM, unM, biM, tupM, lstM, callM, bltM, ifM, orM, getM, tcM, tvM, ntM, alM, anM, ivM, irM, rowM, allT, anyT, toB_b, unp_t, unp_r, unp_l, putL, List.reverse_cons, List.reverse_nil, List.nil_append, List.cons_append, List.zip_cons_cons, List.zip_nil_left, List.zip_nil_right, List.length_cons, List.length_nil, lk_hit, lk_miss, sr_nil, sr_hit, sr_miss, st_none, al_none, al_some, put_none, put_some, bnd_ret, bnd_fail, bnd_stuck, bnd_bnd, lift_some', lift_none', noErr_ret, few_ok, sub_c, sub_d, sub_n, if_true, ite_true, dite_true, Bool.false_eq_true, if_false, bnd_id, at_t0, at_t1, at_r0, at_r1, at_l0, at_l1, add_i, sub_i, neg_i, lt_i, le_i, gt_i, ge_i, eq_i, ne_i, eq_r, ne_r, eq_s, ne_s, eq_l, ne_l, abs_i, min_i, ite_false, pvR_mk, pvL_mk, setR_lookup, st_some, flat_r, mu_isNone, Option.isNone_none, Option.isNone_some, Bool.not_true, Bool.not_false, decide_true, decide_false, Bool.and_true, Bool.true_and, reduceCtorEq, mul_i hg.1, mul_i hg.2, sp_rat_of h]
theorem u_rneg {a : Rt} : runF ["a"] m_rneg [pvR a] = ret (pvR (0 - a.1, a.2)) := by
  simp (decide := true) only [m_rneg, runF, seqM, asg, rtM, nilM, ifS, raS, stS, nmM, cM, unM, biM, tupM, lstM, callM, bltM, ifM, orM, getM, tcM, tvM, ntM, alM, anM, ivM, irM, rowM, allT, anyT, toB_b, unp_t, unp_r, unp_l, putL, List.reverse_cons, List.reverse_nil, List.nil_append, List.cons_append, List.zip_cons_cons, List.zip_nil_left, List.zip_nil_right, List.length_cons, List.length_nil, lk_hit, lk_miss, sr_nil, sr_hit, sr_miss, st_none, al_none, al_some, put_none, put_some, bnd_ret, bnd_fail, bnd_stuck, bnd_bnd, lift_some', lift_none', noErr_ret, few_ok, sub_c, sub_d, sub_n, if_true, ite_true, dite_true, Bool.false_eq_true, if_false, bnd_id, at_t0, at_t1, at_r0, at_r1, at_l0, at_l1, add_i, sub_i, neg_i, lt_i, le_i, gt_i, ge_i, eq_i, ne_i, eq_r, ne_r, eq_s, ne_s, eq_l, ne_l, abs_i, min_i, ite_false, pvR_mk, pvL_mk, setR_lookup, st_some, flat_r, mu_isNone, Option.isNone_none, Option.isNone_some, Bool.not_true, Bool.not_false, decide_true, decide_false, Bool.and_true, Bool.true_and, reduceCtorEq]
theorem sp2_sub {f : Rt → Rt → Option Rt} {m : List PV → M PV} (h : ∀ a b q, f a b = some q → m [pvR a, pvR b] = ret (pvR q)) : ∀ ds n r n', sp2 f ds n = some (r, n') → m ds n = some (r, n') := by
  intro ds n r n' e
  unfold sp2 at e
  split at e
  · obtain ⟨d, h3, rfl, rfl⟩ := lift_some e
    obtain ⟨a, h1, h3⟩ := Option.bind_eq_some_iff.mp h3
    obtain ⟨b, h2, h3⟩ := Option.bind_eq_some_iff.mp h3
    obtain ⟨q, h4, rfl⟩ := Option.map_eq_some_iff.mp h3
    rw [rt_some h1, rt_some h2, h a b q h4]; rfl
  · cases e
theorem sp2_of {f : Rt → Rt → Option Rt} {a b q : Rt} (h : f a b = some q) : sp2 f [pvR a, pvR b] = ret (pvR q) := by
  unfold sp2; simp only [rt_pv, h, Option.bind_some]; rfl

section
variable {wd : Wd}
theorem k_gcd (C : Wld wd) : Fn wd 2 "gcd" sp_gcd := (f_gcd C).sub fun ds n r n' e => by
  cases ds with
  | nil => exact no_none e
  | cons x l => cases x with
    | int a => cases l with
      | nil => exact no_none e
      | cons y l => cases y with
        | int b => cases l with
          | nil =>
            replace e : (if small b then ret (PV.int (Int.gcd a b)) else stuck) n = some (r, n') := e
            split at e
            · next h => rw [u_gcd h]; exact e
            · exact no_none e
          | cons _ _ => exact no_none e
        | _ => exact no_none e
    | _ => exact no_none e
theorem k_rat (C : Wld wd) : Fn wd 3 "rat" sp_rat := (f_rat C (k_gcd C)).sub fun ds n r n' e => by
  unfold sp_rat at e
  split at e
  · obtain ⟨d, h3, rfl, rfl⟩ := lift_some e
    obtain ⟨q, h4, rfl⟩ := Option.map_eq_some_iff.mp h3
    rw [u_rat h4]; rfl
  · cases e
theorem k_radd (C : Wld wd) : Fn wd 4 "radd" sp_radd := (f_radd C (k_rat C)).sub (sp2_sub fun _ _ _ h => u_radd h)
theorem k_rsub (C : Wld wd) : Fn wd 4 "rsub" sp_rsub := (f_rsub C (k_rat C)).sub (sp2_sub fun _ _ _ h => u_rsub h)
theorem k_rmul (C : Wld wd) : Fn wd 4 "rmul" sp_rmul := (f_rmul C (k_rat C)).sub (sp2_sub fun _ _ _ h => u_rmul h)
theorem k_rdiv (C : Wld wd) : Fn wd 4 "rdiv" sp_rdiv := (f_rdiv C (k_rat C)).sub (sp2_sub fun _ _ _ h => u_rdiv h)
theorem k_rneg (C : Wld wd) : Fn wd 2 "rneg" sp_rneg := (f_rneg C).sub fun ds n r n' e => by
  unfold sp_rneg at e
  split at e
  · obtain ⟨d, h3, rfl, rfl⟩ := lift_some e
    obtain ⟨q, h4, rfl⟩ := Option.map_eq_some_iff.mp h3
    rw [rt_some h4, u_rneg]; rfl
  · cases e
end
end Lz
set_option linter.unusedSimpArgs false
namespace Lz
open PySem PySem.W PyProof.Rows

noncomputable def foldO {α β : Type} (f : β → α → Option β) : List α → β → Option β
  | [], b => some b
  | a :: r, b => match f b a with
    | some b' => foldO f r b'
    | none => none
noncomputable def mapO {α β : Type} (f : α → Option β) : List α → Option (List β)
  | [] => some []
  | a :: r => match f a with
    | some b => (mapO f r).map (b :: ·)
    | none => none

theorem mapO_len {α β : Type} {f : α → Option β} : ∀ {l : List α} {r : List β}, mapO f l = some r → r.length = l.length
  | [], _, h => by cases h; rfl
  | a :: l, r, h => by
    unfold mapO at h
    split at h
    · obtain ⟨r', h1, rfl⟩ := Option.map_eq_some_iff.mp h
      simp [mapO_len h1]
    · cases h

theorem compF_map {α : Type} {x : Str} {ρ : Rho} {me : Rho → M PV} (enc : α → PV) (enc' : α → PV) {f : α → Option Rt} : ∀ {l : List α} {r : List Rt} {acc : List PV}, mapO f l = some r →
    (∀ a ∈ l, ∀ q, f a = some q → me ((x, enc a) :: ρ) = ret (pvR q)) → compF x ρ (fun _ => ret true) (fun ρ' acc => bnd (me ρ') fun e => ret (acc ++ [e])) (l.map enc) acc = ret (acc ++ r.map pvR)
  | [], r, acc, h, _ => by cases h; simp [compF]
  | a :: l, r, acc, h, hm => by
    unfold mapO at h
    split at h
    · next b hb =>
      obtain ⟨r', h1, rfl⟩ := Option.map_eq_some_iff.mp h
      rw [List.map_cons, compF]
      simp only [noErr_ret, bnd_ret, if_true, hm a (.head _) b hb]
      rw [compF_map enc enc' h1 fun a ha => hm a (.tail _ ha)]
      simp
    · cases h
theorem listC_map {α : Type} {x : Str} {keep : List Str} {ρ : Rho} {mi : Rho → M (List PV)} {me : Rho → M PV} {f : α → Option Rt} {l : List α} {r : List Rt} (enc : α → PV) (hi : mi ρ = ret (l.map enc)) (h : mapO f l = some r)
    (hm : ∀ a ∈ l, ∀ q, f a = some q → me ((x, enc a) :: subR keep ρ) = ret (pvR q)) : listC x keep mi (fun _ => ret true) me ρ = ret (pvS r) := by
  unfold listC
  rw [hi]
  simp only [noErr_ret, bnd_ret]
  rw [compF_map enc enc h hm]
  simp only [noErr_ret, bnd_ret, List.nil_append]
  rfl
theorem range_1 {b : Int} (h : b ≤ 1000) (h' : -1000 ≤ b) : rangeV [.int b] = some ((List.range b.toNat).map fun i => .int (i : Nat)) := by
  unfold rangeV; dsimp only; rw [if_pos (by simp; omega)]
theorem range_2 {a b : Int} (h : b ≤ 500) (h1 : -500 ≤ a) (h2 : -500 ≤ b) (h3 : a ≤ 500) : rangeV [.int a, .int b] = some ((List.range (b - a).toNat).map fun i => .int (a + (i : Nat))) := by
  unfold rangeV; dsimp only; rw [if_pos (by simp; omega)]
theorem forM_rel {x : Str} {body : Sig → M (Fl × Sig)} {α β : Type} (enc : α → PV) (R : β → Sig → Prop) (step : β → α → Option β) : ∀ (ds : List α),
    (∀ b a b' σ, a ∈ ds → R b σ → step b a = some b' → ∃ σ₁ σ', put x (enc a) σ = some σ₁ ∧ body σ₁ = ret (.next, σ') ∧ R b' σ' ∧ σ'.mu.isNone = σ.mu.isNone) →
    ∀ b b' σ, R b σ → foldO step ds b = some b' → ∃ σ', forM x body (ds.map enc) σ = ret (.next, σ') ∧ R b' σ'
  | [], _, b, b', σ, h, e => by cases e; exact ⟨σ, rfl, h⟩
  | a :: ds, hb, b, b', σ, h, e => by
    unfold foldO at e
    split at e
    · next b₁ h1 =>
      obtain ⟨σ₁, σ', e1, e2, e3, e4⟩ := hb b a b₁ σ (.head _) h h1
      obtain ⟨σ'', e5, e6⟩ := forM_rel enc R step ds (fun b a b' σ ha => hb b a b' σ (.tail _ ha)) b₁ b' σ' e3 e
      refine ⟨σ'', ?_, e6⟩
      rw [List.map_cons, forM, e1]
      simp only [e2, noErr_ret, bnd_ret, e4, BEq.rfl, if_true, e5]
    · cases e

noncomputable def cutI (a : List Rt) (k : Nat) : List Rt := a.take k ++ List.replicate (k - a.length) (0, 1)
noncomputable def sp_cut : List PV → M PV
  | [x, .int o] => lift ((ser? x).bind fun a => if 0 ≤ o ∧ o ≤ 500 ∧ a.length ≤ 500 then some (pvS (cutI a o.toNat)) else none)
  | _ => stuck
noncomputable def pairO (f : Rt → Rt → Option Rt) (a b : List Rt) (i : Nat) : Option Rt := match a[i]?, b[i]? with
  | some x, some y => f x y
  | _, _ => none
noncomputable def saddO (a b : List Rt) : Option (List Rt) := mapO (pairO raddO a b) (List.range (min a.length b.length))
noncomputable def mixStep (a b : List Rt) (k : Nat) (acc : Rt) (i : Nat) : Option Rt := match a[i]? with
  | none => none
  | some x => if x = (0, 1) then some acc else match b[k - i]? with
    | none => none
    | some y => if y = (0, 1) then some acc else (rmulO x y).bind fun z => raddO acc z
noncomputable def mixedO (a b : List Rt) (k : Nat) : Option Rt := foldO (mixStep a b k) (List.range (k + 1)) (0, 1)
noncomputable def smulO (a b : List Rt) : Option (List Rt) := mapO (mixedO a b) (List.range (min a.length b.length))
noncomputable def spSS (f : List Rt → List Rt → Option (List Rt)) : List PV → M PV
  | [x, y] => lift ((ser? x).bind fun a => (ser? y).bind fun b => if a.length ≤ 400 ∧ b.length ≤ 400 then (f a b).map pvS else none)
  | _ => stuck
noncomputable def sp_sadd : List PV → M PV := spSS saddO
noncomputable def sp_smul : List PV → M PV := spSS smulO
noncomputable def sp_mixed : List PV → M PV
  | [x, y, .int k] => lift ((ser? x).bind fun a => (ser? y).bind fun b => if 0 ≤ k ∧ k < 400 then (mixedO a b k.toNat).map pvR else none)
  | _ => stuck
noncomputable def m_cut : Sig → M (Fl × Sig) := (seqM (rtM (biM addV (bltM listV [(biM uptoV (nmM "a") (nmM "order"))]) (biM mulV (lstM [(cM (pvR (0, 1)))]) (biM subV (nmM "order") (bltM lenV [(nmM "a")]))))) nilM)
set_option maxHeartbeats 4000000 in
theorem v_cut {wd : Wd} (C : Wld wd) : Sv wd (sco 14) 1 (execs (bd 14)) (m_cut) := (Sv.cons (S.rt (X.bin (X.blt C.list (.inr ⟨_, rfl⟩) opN_list (by rfl) (X.rc (X.upto X.nm X.nm) X.rn)) (X.bin (X.lst (X.rc (C.r0 (by rfl)) X.rn)) (X.bin X.nm (X.blt C.len (.inl ⟨_, rfl⟩) opN_len (by rfl) (X.rc X.nm X.rn)) op_sub) op_mul) op_add)) S.nil)
theorem f_cut {wd : Wd} (C : Wld wd) : Fn wd 2 "cut" (runF ["a", "order"] (m_cut)) := Fn.mk C.at14 (v_cut C) (fun _ _ _ => len2 fun a b => rfl) (by decide) (by decide)
noncomputable def m_sadd : Sig → M (Fl × Sig) := (seqM (rtM (listC "at" ["a", "b"] (irM [(bltM minV [(bltM lenV [(nmM "a")]), (bltM lenV [(nmM "b")])])]) (fun _ => ret true) (callM sp_radd [(biM atV (nmM "a") (nmM "at")), (biM atV (nmM "b") (nmM "at"))]))) nilM)
set_option maxHeartbeats 4000000 in
theorem v_sadd {wd : Wd} (C : Wld wd) (h_radd : Fn wd 4 "radd" sp_radd) : Sv wd (sco 15) 4 (execs (bd 15)) (m_sadd) := (Sv.cons (S.rt (Ev.listComp ["a", "b"] (by constructor <;> decide) (I.rng C.range (by rfl) (X.rc (X.blt C.min (.inl ⟨_, rfl⟩) opN_min (by rfl) (X.rc (X.blt C.len (.inl ⟨_, rfl⟩) opN_len (by rfl) (X.rc X.nm X.rn)) (X.rc (X.blt C.len (.inl ⟨_, rfl⟩) opN_len (by rfl) (X.rc X.nm X.rn)) X.rn))) X.rn)) TestsV.nil (X.call (h_radd) (by decide) (by rfl) (X.rc (X.at X.nm X.nm) (X.rc (X.at X.nm X.nm) X.rn))))) S.nil)
theorem f_sadd {wd : Wd} (C : Wld wd) (h_radd : Fn wd 4 "radd" sp_radd) : Fn wd 5 "sadd" (runF ["a", "b"] (m_sadd)) := Fn.mk C.at15 (v_sadd C h_radd) (fun _ _ _ => len2 fun a b => rfl) (by decide) (by decide)
noncomputable def b_mixed_1 : Sig → M (Fl × Sig) := (seqM (ifS (alM [(tcM neV (biM atV (nmM "a") (nmM "spot")) (cM (pvR (0, 1)))), (tcM neV (biM atV (nmM "b") (biM subV (nmM "at") (nmM "spot"))) (cM (pvR (0, 1))))]) (seqM (asg (callM sp_radd [(nmM "found"), (callM sp_rmul [(biM atV (nmM "a") (nmM "spot")), (biM atV (nmM "b") (biM subV (nmM "at") (nmM "spot")))])]) (put "found")) nilM) nilM) nilM)
noncomputable def m_mixed : Sig → M (Fl × Sig) := (seqM (asg (cM (pvR (0, 1))) (put "found")) (seqM (foS "spot" (irM [(biM addV (nmM "at") (cM (.int 1)))]) b_mixed_1) (seqM (rtM (nmM "found")) nilM)))
set_option maxHeartbeats 4000000 in
theorem v_mixed {wd : Wd} (C : Wld wd) (h_radd : Fn wd 4 "radd" sp_radd) (h_rmul : Fn wd 4 "rmul" sp_rmul) : Sv wd (sco 16) 4 (execs (bd 16)) (m_mixed) := (Sv.cons (Sv.assign (C.r0 (by rfl)) (Av.name (by first | exact .inl rfl | exact .inr rfl))) (Sv.cons (S.fo (I.rng C.range (by rfl) (X.rc (X.bin X.nm X.int op_add) X.rn)) (Sv.cons (S.iff (T.and2 (T.cmp (X.at X.nm X.nm) (C.r0 (by rfl)) op_ne) (T.cmp (X.at X.nm (X.bin X.nm X.nm op_sub)) (C.r0 (by rfl)) op_ne)) (Sv.cons (Sv.assign (X.call (h_radd) (by decide) (by rfl) (X.rc X.nm (X.rc (X.call (h_rmul) (by decide) (by rfl) (X.rc (X.at X.nm X.nm) (X.rc (X.at X.nm (X.bin X.nm X.nm op_sub)) X.rn))) X.rn))) (Av.name (by first | exact .inl rfl | exact .inr rfl))) S.nil) S.nil) S.nil) (by first | exact .inl rfl | exact .inr rfl)) (Sv.cons (S.rt X.nm) S.nil)))
theorem f_mixed {wd : Wd} (C : Wld wd) (h_radd : Fn wd 4 "radd" sp_radd) (h_rmul : Fn wd 4 "rmul" sp_rmul) : Fn wd 5 "mixed" (runF ["a", "b", "at"] (m_mixed)) := Fn.mk C.at16 (v_mixed C h_radd h_rmul) (fun _ _ _ => len3 fun a b c => rfl) (by decide) (by decide)
noncomputable def m_smul : Sig → M (Fl × Sig) := (seqM (rtM (listC "at" ["a", "b"] (irM [(bltM minV [(bltM lenV [(nmM "a")]), (bltM lenV [(nmM "b")])])]) (fun _ => ret true) (callM sp_mixed [(nmM "a"), (nmM "b"), (nmM "at")]))) nilM)
set_option maxHeartbeats 4000000 in
theorem v_smul {wd : Wd} (C : Wld wd) (h_mixed : Fn wd 5 "mixed" sp_mixed) : Sv wd (sco 17) 5 (execs (bd 17)) (m_smul) := (Sv.cons (S.rt (Ev.listComp ["a", "b"] (by constructor <;> decide) (I.rng C.range (by rfl) (X.rc (X.blt C.min (.inl ⟨_, rfl⟩) opN_min (by rfl) (X.rc (X.blt C.len (.inl ⟨_, rfl⟩) opN_len (by rfl) (X.rc X.nm X.rn)) (X.rc (X.blt C.len (.inl ⟨_, rfl⟩) opN_len (by rfl) (X.rc X.nm X.rn)) X.rn))) X.rn)) TestsV.nil (X.call (h_mixed) (by decide) (by rfl) (X.rc X.nm (X.rc X.nm (X.rc X.nm X.rn)))))) S.nil)
theorem f_smul {wd : Wd} (C : Wld wd) (h_mixed : Fn wd 5 "mixed" sp_mixed) : Fn wd 6 "smul" (runF ["a", "b"] (m_smul)) := Fn.mk C.at17 (v_smul C h_mixed) (fun _ _ _ => len2 fun a b => rfl) (by decide) (by decide)


theorem u_cut {a : List Rt} {o : Int} (h0 : 0 ≤ o) (h1 : o ≤ 500) (h2 : a.length ≤ 500) : runF ["a", "order"] m_cut [pvS a, .int o] = ret (pvS (cutI a o.toNat)) := by
  simp (decide := true) only [m_cut, runF, seqM, asg, rtM, nilM, ifS, raS, stS, nmM, cM, unM, biM, tupM, lstM, callM, bltM, ifM, orM, getM, tcM, tvM, ntM, alM, anM, ivM, irM, rowM, allT, anyT, toB_b, unp_t, unp_r, unp_l, putL, List.reverse_cons, List.reverse_nil, List.nil_append, List.cons_append, List.zip_cons_cons, List.zip_nil_left, List.zip_nil_right, List.length_cons, List.length_nil, lk_hit, lk_miss, sr_nil, sr_hit, sr_miss, st_none, al_none, al_some, put_none, put_some, bnd_ret, bnd_fail, bnd_stuck, bnd_bnd, lift_some', lift_none', noErr_ret, few_ok, sub_c, sub_d, sub_n, if_true, ite_true, dite_true, Bool.false_eq_true, if_false, bnd_id, at_t0, at_t1, at_r0, at_r1, at_l0, at_l1, add_i, sub_i, neg_i, lt_i, le_i, gt_i, ge_i, eq_i, ne_i, eq_r, ne_r, eq_s, ne_s, eq_l, ne_l, abs_i, min_i, ite_false, pvR_mk, pvL_mk, setR_lookup, st_some, flat_r, mu_isNone, Option.isNone_none, Option.isNone_some, Bool.not_true, Bool.not_false, decide_true, decide_false, Bool.and_true, Bool.true_and, reduceCtorEq, upto_s h0 (show a.length ≤ 1000 by omega), list_s (show (a.take o.toNat).length ≤ 1000 by simp; omega), len_s (show a.length ≤ 1000 by omega), pvS_one,
    rep_s (show o - (a.length : Int) ≤ 1000 by omega) (show -1000 ≤ o - (a.length : Int) by omega)]
  rw [add_s (by simp; omega)]
  simp (decide := true) only [runF, seqM, asg, rtM, nilM, ifS, raS, stS, nmM, cM, unM, biM, tupM, lstM, callM, bltM, ifM, orM, getM, tcM, tvM, ntM, alM, anM, ivM, irM, rowM, allT, anyT, toB_b, unp_t, unp_r, unp_l, putL, List.reverse_cons, List.reverse_nil, List.nil_append, List.cons_append, List.zip_cons_cons, List.zip_nil_left, List.zip_nil_right, List.length_cons, List.length_nil, lk_hit, lk_miss, sr_nil, sr_hit, sr_miss, st_none, al_none, al_some, put_none, put_some, bnd_ret, bnd_fail, bnd_stuck, bnd_bnd, lift_some', lift_none', noErr_ret, few_ok, sub_c, sub_d, sub_n, if_true, ite_true, dite_true, Bool.false_eq_true, if_false, bnd_id, at_t0, at_t1, at_r0, at_r1, at_l0, at_l1, add_i, sub_i, neg_i, lt_i, le_i, gt_i, ge_i, eq_i, ne_i, eq_r, ne_r, eq_s, ne_s, eq_l, ne_l, abs_i, min_i, ite_false, pvR_mk, pvL_mk, setR_lookup, st_some, flat_r, mu_isNone, Option.isNone_none, Option.isNone_some, Bool.not_true, Bool.not_false, decide_true, decide_false, Bool.and_true, Bool.true_and, reduceCtorEq, cutI]
  rw [show (o - (a.length : Int)).toNat = o.toNat - a.length by omega]
theorem minI_nat (a b : Nat) : (if (b : Int) < (a : Int) then (b : Int) else (a : Int)) = ((min a b : Nat) : Int) := by
  split <;> omega
theorem u_sadd {a b r : List Rt} (ha : a.length ≤ 400) (hb : b.length ≤ 400) (h : saddO a b = some r) : runF ["a", "b"] m_sadd [pvS a, pvS b] = ret (pvS r) := by
  simp (decide := true) only [m_sadd, runF, seqM, asg, rtM, nilM, ifS, raS, stS, nmM, cM, unM, biM, tupM, lstM, callM, bltM, ifM, orM, getM, tcM, tvM, ntM, alM, anM, ivM, irM, rowM, allT, anyT, toB_b, unp_t, unp_r, unp_l, putL, List.reverse_cons, List.reverse_nil, List.nil_append, List.cons_append, List.zip_cons_cons, List.zip_nil_left, List.zip_nil_right, List.length_cons, List.length_nil, lk_hit, lk_miss, sr_nil, sr_hit, sr_miss, st_none, al_none, al_some, put_none, put_some, bnd_ret, bnd_fail, bnd_stuck, bnd_bnd, lift_some', lift_none', noErr_ret, few_ok, sub_c, sub_d, sub_n, if_true, ite_true, dite_true, Bool.false_eq_true, if_false, bnd_id, at_t0, at_t1, at_r0, at_r1, at_l0, at_l1, add_i, sub_i, neg_i, lt_i, le_i, gt_i, ge_i, eq_i, ne_i, eq_r, ne_r, eq_s, ne_s, eq_l, ne_l, abs_i, min_i, ite_false, pvR_mk, pvL_mk, setR_lookup, st_some, flat_r, mu_isNone, Option.isNone_none, Option.isNone_some, Bool.not_true, Bool.not_false, decide_true, decide_false, Bool.and_true, Bool.true_and, reduceCtorEq]
  rw [listC_map (fun i : Nat => PV.int i) (f := pairO raddO a b) (l := List.range (min a.length b.length)) (r := r) ?_ h fun i hi q hq => ?_]
  · simp (decide := true) only [runF, seqM, asg, rtM, nilM, ifS, raS, stS, nmM, cM, unM, biM, tupM, lstM, callM, bltM, ifM, orM, getM, tcM, tvM, ntM, alM, anM, ivM, irM, rowM, allT, anyT, toB_b, unp_t, unp_r, unp_l, putL, List.reverse_cons, List.reverse_nil, List.nil_append, List.cons_append, List.zip_cons_cons, List.zip_nil_left, List.zip_nil_right, List.length_cons, List.length_nil, lk_hit, lk_miss, sr_nil, sr_hit, sr_miss, st_none, al_none, al_some, put_none, put_some, bnd_ret, bnd_fail, bnd_stuck, bnd_bnd, lift_some', lift_none', noErr_ret, few_ok, sub_c, sub_d, sub_n, if_true, ite_true, dite_true, Bool.false_eq_true, if_false, bnd_id, at_t0, at_t1, at_r0, at_r1, at_l0, at_l1, add_i, sub_i, neg_i, lt_i, le_i, gt_i, ge_i, eq_i, ne_i, eq_r, ne_r, eq_s, ne_s, eq_l, ne_l, abs_i, min_i, ite_false, pvR_mk, pvL_mk, setR_lookup, st_some, flat_r, mu_isNone, Option.isNone_none, Option.isNone_some, Bool.not_true, Bool.not_false, decide_true, decide_false, Bool.and_true, Bool.true_and, reduceCtorEq, len_s (show a.length ≤ 1000 by omega), len_s (show b.length ≤ 1000 by omega), minI_nat]
    rw [range_1 (by omega) (by omega)]
    rfl
  · have hi := List.mem_range.mp hi
    unfold pairO at hq
    split at hq
    · next x y h1 h2 =>
      simp (decide := true) only [runF, seqM, asg, rtM, nilM, ifS, raS, stS, nmM, cM, unM, biM, tupM, lstM, callM, bltM, ifM, orM, getM, tcM, tvM, ntM, alM, anM, ivM, irM, rowM, allT, anyT, toB_b, unp_t, unp_r, unp_l, putL, List.reverse_cons, List.reverse_nil, List.nil_append, List.cons_append, List.zip_cons_cons, List.zip_nil_left, List.zip_nil_right, List.length_cons, List.length_nil, lk_hit, lk_miss, sr_nil, sr_hit, sr_miss, st_none, al_none, al_some, put_none, put_some, bnd_ret, bnd_fail, bnd_stuck, bnd_bnd, lift_some', lift_none', noErr_ret, few_ok, sub_c, sub_d, sub_n, if_true, ite_true, dite_true, Bool.false_eq_true, if_false, bnd_id, at_t0, at_t1, at_r0, at_r1, at_l0, at_l1, add_i, sub_i, neg_i, lt_i, le_i, gt_i, ge_i, eq_i, ne_i, eq_r, ne_r, eq_s, ne_s, eq_l, ne_l, abs_i, min_i, ite_false, pvR_mk, pvL_mk, setR_lookup, st_some, flat_r, mu_isNone, Option.isNone_none, Option.isNone_some, Bool.not_true, Bool.not_false, decide_true, decide_false, Bool.and_true, Bool.true_and, reduceCtorEq, at_s (show i < 1000 by omega) h1, at_s (show i < 1000 by omega) h2]
      exact sp2_of hq
    · cases hq
theorem sp_mixed_of {a b : List Rt} {k : Nat} {q : Rt} (hk : k < 400) (h : mixedO a b k = some q) : sp_mixed [pvS a, pvS b, .int k] = ret (pvR q) := by
  unfold sp_mixed
  simp only [ser_pv, Option.bind_some]
  rw [if_pos ⟨by omega, by omega⟩]
  simp only [Int.toNat_natCast, h]
  rfl
theorem u_smul {a b r : List Rt} (ha : a.length ≤ 400) (hb : b.length ≤ 400) (h : smulO a b = some r) : runF ["a", "b"] m_smul [pvS a, pvS b] = ret (pvS r) := by
  simp (decide := true) only [m_smul, runF, seqM, asg, rtM, nilM, ifS, raS, stS, nmM, cM, unM, biM, tupM, lstM, callM, bltM, ifM, orM, getM, tcM, tvM, ntM, alM, anM, ivM, irM, rowM, allT, anyT, toB_b, unp_t, unp_r, unp_l, putL, List.reverse_cons, List.reverse_nil, List.nil_append, List.cons_append, List.zip_cons_cons, List.zip_nil_left, List.zip_nil_right, List.length_cons, List.length_nil, lk_hit, lk_miss, sr_nil, sr_hit, sr_miss, st_none, al_none, al_some, put_none, put_some, bnd_ret, bnd_fail, bnd_stuck, bnd_bnd, lift_some', lift_none', noErr_ret, few_ok, sub_c, sub_d, sub_n, if_true, ite_true, dite_true, Bool.false_eq_true, if_false, bnd_id, at_t0, at_t1, at_r0, at_r1, at_l0, at_l1, add_i, sub_i, neg_i, lt_i, le_i, gt_i, ge_i, eq_i, ne_i, eq_r, ne_r, eq_s, ne_s, eq_l, ne_l, abs_i, min_i, ite_false, pvR_mk, pvL_mk, setR_lookup, st_some, flat_r, mu_isNone, Option.isNone_none, Option.isNone_some, Bool.not_true, Bool.not_false, decide_true, decide_false, Bool.and_true, Bool.true_and, reduceCtorEq]
  rw [listC_map (fun i : Nat => PV.int i) (f := mixedO a b) (l := List.range (min a.length b.length)) (r := r) ?_ h fun i hi q hq => ?_]
  · simp (decide := true) only [runF, seqM, asg, rtM, nilM, ifS, raS, stS, nmM, cM, unM, biM, tupM, lstM, callM, bltM, ifM, orM, getM, tcM, tvM, ntM, alM, anM, ivM, irM, rowM, allT, anyT, toB_b, unp_t, unp_r, unp_l, putL, List.reverse_cons, List.reverse_nil, List.nil_append, List.cons_append, List.zip_cons_cons, List.zip_nil_left, List.zip_nil_right, List.length_cons, List.length_nil, lk_hit, lk_miss, sr_nil, sr_hit, sr_miss, st_none, al_none, al_some, put_none, put_some, bnd_ret, bnd_fail, bnd_stuck, bnd_bnd, lift_some', lift_none', noErr_ret, few_ok, sub_c, sub_d, sub_n, if_true, ite_true, dite_true, Bool.false_eq_true, if_false, bnd_id, at_t0, at_t1, at_r0, at_r1, at_l0, at_l1, add_i, sub_i, neg_i, lt_i, le_i, gt_i, ge_i, eq_i, ne_i, eq_r, ne_r, eq_s, ne_s, eq_l, ne_l, abs_i, min_i, ite_false, pvR_mk, pvL_mk, setR_lookup, st_some, flat_r, mu_isNone, Option.isNone_none, Option.isNone_some, Bool.not_true, Bool.not_false, decide_true, decide_false, Bool.and_true, Bool.true_and, reduceCtorEq, len_s (show a.length ≤ 1000 by omega), len_s (show b.length ≤ 1000 by omega), minI_nat]
    rw [range_1 (by omega) (by omega)]
    rfl
  · have hi := List.mem_range.mp hi
    simp (decide := true) only [runF, seqM, asg, rtM, nilM, ifS, raS, stS, nmM, cM, unM, biM, tupM, lstM, callM, bltM, ifM, orM, getM, tcM, tvM, ntM, alM, anM, ivM, irM, rowM, allT, anyT, toB_b, unp_t, unp_r, unp_l, putL, List.reverse_cons, List.reverse_nil, List.nil_append, List.cons_append, List.zip_cons_cons, List.zip_nil_left, List.zip_nil_right, List.length_cons, List.length_nil, lk_hit, lk_miss, sr_nil, sr_hit, sr_miss, st_none, al_none, al_some, put_none, put_some, bnd_ret, bnd_fail, bnd_stuck, bnd_bnd, lift_some', lift_none', noErr_ret, few_ok, sub_c, sub_d, sub_n, if_true, ite_true, dite_true, Bool.false_eq_true, if_false, bnd_id, at_t0, at_t1, at_r0, at_r1, at_l0, at_l1, add_i, sub_i, neg_i, lt_i, le_i, gt_i, ge_i, eq_i, ne_i, eq_r, ne_r, eq_s, ne_s, eq_l, ne_l, abs_i, min_i, ite_false, pvR_mk, pvL_mk, setR_lookup, st_some, flat_r, mu_isNone, Option.isNone_none, Option.isNone_some, Bool.not_true, Bool.not_false, decide_true, decide_false, Bool.and_true, Bool.true_and, reduceCtorEq]
    exact sp_mixed_of (by omega) hq
theorem u_mixed {a b : List Rt} {k : Nat} {q : Rt} (hk : k < 400) (h : mixedO a b k = some q) : runF ["a", "b", "at"] m_mixed [pvS a, pvS b, .int k] = ret (pvR q) := by
  have step : ∀ f i f' (σ : Sig), i ∈ List.range (k + 1) → (σ.mu = none ∧ σ.ρ.lookup ("a" : Str) = some (pvS a) ∧ σ.ρ.lookup ("b" : Str) = some (pvS b) ∧ σ.ρ.lookup ("at" : Str) = some (.int k) ∧ σ.ρ.lookup ("found" : Str) = some (pvR f)) → mixStep a b k f i = some f' →
      ∃ σ₁ σ', put "spot" (.int (i : Nat)) σ = some σ₁ ∧ b_mixed_1 σ₁ = ret (.next, σ') ∧
        (σ'.mu = none ∧ σ'.ρ.lookup ("a" : Str) = some (pvS a) ∧ σ'.ρ.lookup ("b" : Str) = some (pvS b) ∧ σ'.ρ.lookup ("at" : Str) = some (.int k) ∧ σ'.ρ.lookup ("found" : Str) = some (pvR f')) ∧ σ'.mu.isNone = σ.mu.isNone := by
    intro f i f' σ hi ⟨r1, r2, r3, r4, r5⟩ hs
    obtain ⟨ρ, mu⟩ := σ
    dsimp only at r1 r2 r3 r4 r5
    subst r1
    have hi := List.mem_range.mp hi
    have hik : ((k : Int) - (i : Int)) = ((k - i : Nat) : Int) := by omega
    unfold mixStep at hs
    split at hs
    · cases hs
    next x hx =>
    have hax := at_s (show i < 1000 by omega) hx
    split at hs
    · next hz =>
      cases hs
      subst hz
      refine ⟨⟨setR "spot" (.int i) ρ, none⟩, ⟨setR "spot" (.int i) ρ, none⟩, rfl, ?_, ⟨rfl, ?_, ?_, ?_, ?_⟩, rfl⟩
      · simp (decide := true) only [b_mixed_1, runF, seqM, asg, rtM, nilM, ifS, raS, stS, nmM, cM, unM, biM, tupM, lstM, callM, bltM, ifM, orM, getM, tcM, tvM, ntM, alM, anM, ivM, irM, rowM, allT, anyT, toB_b, unp_t, unp_r, unp_l, putL, List.reverse_cons, List.reverse_nil, List.nil_append, List.cons_append, List.zip_cons_cons, List.zip_nil_left, List.zip_nil_right, List.length_cons, List.length_nil, lk_hit, lk_miss, sr_nil, sr_hit, sr_miss, st_none, al_none, al_some, put_none, put_some, bnd_ret, bnd_fail, bnd_stuck, bnd_bnd, lift_some', lift_none', noErr_ret, few_ok, sub_c, sub_d, sub_n, if_true, ite_true, dite_true, Bool.false_eq_true, if_false, bnd_id, at_t0, at_t1, at_r0, at_r1, at_l0, at_l1, add_i, sub_i, neg_i, lt_i, le_i, gt_i, ge_i, eq_i, ne_i, eq_r, ne_r, eq_s, ne_s, eq_l, ne_l, abs_i, min_i, ite_false, pvR_mk, pvL_mk, setR_lookup, st_some, flat_r, mu_isNone, Option.isNone_none, Option.isNone_some, Bool.not_true, Bool.not_false, decide_true, decide_false, Bool.and_true, Bool.true_and, reduceCtorEq, r2, r3, r4, r5, hax]
      all_goals simp (decide := true) only [runF, seqM, asg, rtM, nilM, ifS, raS, stS, nmM, cM, unM, biM, tupM, lstM, callM, bltM, ifM, orM, getM, tcM, tvM, ntM, alM, anM, ivM, irM, rowM, allT, anyT, toB_b, unp_t, unp_r, unp_l, putL, List.reverse_cons, List.reverse_nil, List.nil_append, List.cons_append, List.zip_cons_cons, List.zip_nil_left, List.zip_nil_right, List.length_cons, List.length_nil, lk_hit, lk_miss, sr_nil, sr_hit, sr_miss, st_none, al_none, al_some, put_none, put_some, bnd_ret, bnd_fail, bnd_stuck, bnd_bnd, lift_some', lift_none', noErr_ret, few_ok, sub_c, sub_d, sub_n, if_true, ite_true, dite_true, Bool.false_eq_true, if_false, bnd_id, at_t0, at_t1, at_r0, at_r1, at_l0, at_l1, add_i, sub_i, neg_i, lt_i, le_i, gt_i, ge_i, eq_i, ne_i, eq_r, ne_r, eq_s, ne_s, eq_l, ne_l, abs_i, min_i, ite_false, pvR_mk, pvL_mk, setR_lookup, st_some, flat_r, mu_isNone, Option.isNone_none, Option.isNone_some, Bool.not_true, Bool.not_false, decide_true, decide_false, Bool.and_true, Bool.true_and, reduceCtorEq, r2, r3, r4, r5]
    next hz =>
    split at hs
    · cases hs
    next y hy =>
    have hay := at_s (show k - i < 1000 by omega) hy
    split at hs
    · next hz2 =>
      cases hs
      subst hz2
      refine ⟨⟨setR "spot" (.int i) ρ, none⟩, ⟨setR "spot" (.int i) ρ, none⟩, rfl, ?_, ⟨rfl, ?_, ?_, ?_, ?_⟩, rfl⟩
      · simp (decide := true) only [b_mixed_1, runF, seqM, asg, rtM, nilM, ifS, raS, stS, nmM, cM, unM, biM, tupM, lstM, callM, bltM, ifM, orM, getM, tcM, tvM, ntM, alM, anM, ivM, irM, rowM, allT, anyT, toB_b, unp_t, unp_r, unp_l, putL, List.reverse_cons, List.reverse_nil, List.nil_append, List.cons_append, List.zip_cons_cons, List.zip_nil_left, List.zip_nil_right, List.length_cons, List.length_nil, lk_hit, lk_miss, sr_nil, sr_hit, sr_miss, st_none, al_none, al_some, put_none, put_some, bnd_ret, bnd_fail, bnd_stuck, bnd_bnd, lift_some', lift_none', noErr_ret, few_ok, sub_c, sub_d, sub_n, if_true, ite_true, dite_true, Bool.false_eq_true, if_false, bnd_id, at_t0, at_t1, at_r0, at_r1, at_l0, at_l1, add_i, sub_i, neg_i, lt_i, le_i, gt_i, ge_i, eq_i, ne_i, eq_r, ne_r, eq_s, ne_s, eq_l, ne_l, abs_i, min_i, ite_false, pvR_mk, pvL_mk, setR_lookup, st_some, flat_r, mu_isNone, Option.isNone_none, Option.isNone_some, Bool.not_true, Bool.not_false, decide_true, decide_false, Bool.and_true, Bool.true_and, reduceCtorEq, r2, r3, r4, r5, hax, hik, hay, hz]
      all_goals simp (decide := true) only [runF, seqM, asg, rtM, nilM, ifS, raS, stS, nmM, cM, unM, biM, tupM, lstM, callM, bltM, ifM, orM, getM, tcM, tvM, ntM, alM, anM, ivM, irM, rowM, allT, anyT, toB_b, unp_t, unp_r, unp_l, putL, List.reverse_cons, List.reverse_nil, List.nil_append, List.cons_append, List.zip_cons_cons, List.zip_nil_left, List.zip_nil_right, List.length_cons, List.length_nil, lk_hit, lk_miss, sr_nil, sr_hit, sr_miss, st_none, al_none, al_some, put_none, put_some, bnd_ret, bnd_fail, bnd_stuck, bnd_bnd, lift_some', lift_none', noErr_ret, few_ok, sub_c, sub_d, sub_n, if_true, ite_true, dite_true, Bool.false_eq_true, if_false, bnd_id, at_t0, at_t1, at_r0, at_r1, at_l0, at_l1, add_i, sub_i, neg_i, lt_i, le_i, gt_i, ge_i, eq_i, ne_i, eq_r, ne_r, eq_s, ne_s, eq_l, ne_l, abs_i, min_i, ite_false, pvR_mk, pvL_mk, setR_lookup, st_some, flat_r, mu_isNone, Option.isNone_none, Option.isNone_some, Bool.not_true, Bool.not_false, decide_true, decide_false, Bool.and_true, Bool.true_and, reduceCtorEq, r2, r3, r4, r5]
    next hz2 =>
    obtain ⟨z, hz3, hz4⟩ := Option.bind_eq_some_iff.mp hs
    refine ⟨⟨setR "spot" (.int i) ρ, none⟩, ⟨setR "found" (pvR f') (setR "spot" (.int i) ρ), none⟩, rfl, ?_, ⟨rfl, ?_, ?_, ?_, ?_⟩, rfl⟩
    · simp (decide := true) only [b_mixed_1, runF, seqM, asg, rtM, nilM, ifS, raS, stS, nmM, cM, unM, biM, tupM, lstM, callM, bltM, ifM, orM, getM, tcM, tvM, ntM, alM, anM, ivM, irM, rowM, allT, anyT, toB_b, unp_t, unp_r, unp_l, putL, List.reverse_cons, List.reverse_nil, List.nil_append, List.cons_append, List.zip_cons_cons, List.zip_nil_left, List.zip_nil_right, List.length_cons, List.length_nil, lk_hit, lk_miss, sr_nil, sr_hit, sr_miss, st_none, al_none, al_some, put_none, put_some, bnd_ret, bnd_fail, bnd_stuck, bnd_bnd, lift_some', lift_none', noErr_ret, few_ok, sub_c, sub_d, sub_n, if_true, ite_true, dite_true, Bool.false_eq_true, if_false, bnd_id, at_t0, at_t1, at_r0, at_r1, at_l0, at_l1, add_i, sub_i, neg_i, lt_i, le_i, gt_i, ge_i, eq_i, ne_i, eq_r, ne_r, eq_s, ne_s, eq_l, ne_l, abs_i, min_i, ite_false, pvR_mk, pvL_mk, setR_lookup, st_some, flat_r, mu_isNone, Option.isNone_none, Option.isNone_some, Bool.not_true, Bool.not_false, decide_true, decide_false, Bool.and_true, Bool.true_and, reduceCtorEq, r2, r3, r4, r5, hax, hik, hay, hz, hz2, show sp_rmul [pvR x, pvR y] = ret (pvR z) from sp2_of hz3, show sp_radd [pvR f, pvR z] = ret (pvR f') from sp2_of hz4]
    all_goals simp (decide := true) only [runF, seqM, asg, rtM, nilM, ifS, raS, stS, nmM, cM, unM, biM, tupM, lstM, callM, bltM, ifM, orM, getM, tcM, tvM, ntM, alM, anM, ivM, irM, rowM, allT, anyT, toB_b, unp_t, unp_r, unp_l, putL, List.reverse_cons, List.reverse_nil, List.nil_append, List.cons_append, List.zip_cons_cons, List.zip_nil_left, List.zip_nil_right, List.length_cons, List.length_nil, lk_hit, lk_miss, sr_nil, sr_hit, sr_miss, st_none, al_none, al_some, put_none, put_some, bnd_ret, bnd_fail, bnd_stuck, bnd_bnd, lift_some', lift_none', noErr_ret, few_ok, sub_c, sub_d, sub_n, if_true, ite_true, dite_true, Bool.false_eq_true, if_false, bnd_id, at_t0, at_t1, at_r0, at_r1, at_l0, at_l1, add_i, sub_i, neg_i, lt_i, le_i, gt_i, ge_i, eq_i, ne_i, eq_r, ne_r, eq_s, ne_s, eq_l, ne_l, abs_i, min_i, ite_false, pvR_mk, pvL_mk, setR_lookup, st_some, flat_r, mu_isNone, Option.isNone_none, Option.isNone_some, Bool.not_true, Bool.not_false, decide_true, decide_false, Bool.and_true, Bool.true_and, reduceCtorEq, r2, r3, r4, r5]
  simp (decide := true) only [m_mixed, runF, seqM, asg, rtM, nilM, ifS, raS, stS, nmM, cM, unM, biM, tupM, lstM, callM, bltM, ifM, orM, getM, tcM, tvM, ntM, alM, anM, ivM, irM, rowM, allT, anyT, toB_b, unp_t, unp_r, unp_l, putL, List.reverse_cons, List.reverse_nil, List.nil_append, List.cons_append, List.zip_cons_cons, List.zip_nil_left, List.zip_nil_right, List.length_cons, List.length_nil, lk_hit, lk_miss, sr_nil, sr_hit, sr_miss, st_none, al_none, al_some, put_none, put_some, bnd_ret, bnd_fail, bnd_stuck, bnd_bnd, lift_some', lift_none', noErr_ret, few_ok, sub_c, sub_d, sub_n, if_true, ite_true, dite_true, Bool.false_eq_true, if_false, bnd_id, at_t0, at_t1, at_r0, at_r1, at_l0, at_l1, add_i, sub_i, neg_i, lt_i, le_i, gt_i, ge_i, eq_i, ne_i, eq_r, ne_r, eq_s, ne_s, eq_l, ne_l, abs_i, min_i, ite_false, pvR_mk, pvL_mk, setR_lookup, st_some, flat_r, mu_isNone, Option.isNone_none, Option.isNone_some, Bool.not_true, Bool.not_false, decide_true, decide_false, Bool.and_true, Bool.true_and, reduceCtorEq, foS]
  rw [range_1 (by omega) (by omega)]
  simp (decide := true) only [runF, seqM, asg, rtM, nilM, ifS, raS, stS, nmM, cM, unM, biM, tupM, lstM, callM, bltM, ifM, orM, getM, tcM, tvM, ntM, alM, anM, ivM, irM, rowM, allT, anyT, toB_b, unp_t, unp_r, unp_l, putL, List.reverse_cons, List.reverse_nil, List.nil_append, List.cons_append, List.zip_cons_cons, List.zip_nil_left, List.zip_nil_right, List.length_cons, List.length_nil, lk_hit, lk_miss, sr_nil, sr_hit, sr_miss, st_none, al_none, al_some, put_none, put_some, bnd_ret, bnd_fail, bnd_stuck, bnd_bnd, lift_some', lift_none', noErr_ret, few_ok, sub_c, sub_d, sub_n, if_true, ite_true, dite_true, Bool.false_eq_true, if_false, bnd_id, at_t0, at_t1, at_r0, at_r1, at_l0, at_l1, add_i, sub_i, neg_i, lt_i, le_i, gt_i, ge_i, eq_i, ne_i, eq_r, ne_r, eq_s, ne_s, eq_l, ne_l, abs_i, min_i, ite_false, pvR_mk, pvL_mk, setR_lookup, st_some, flat_r, mu_isNone, Option.isNone_none, Option.isNone_some, Bool.not_true, Bool.not_false, decide_true, decide_false, Bool.and_true, Bool.true_and, reduceCtorEq]
  rw [show ((k : Int) + 1).toNat = k + 1 by omega]
  obtain ⟨σ', e1, e2, e3⟩ := forM_rel (x := "spot") (fun i : Nat => PV.int i) (fun (f : Rt) (σ : Sig) => σ.mu = none ∧ σ.ρ.lookup ("a" : Str) = some (pvS a) ∧ σ.ρ.lookup ("b" : Str) = some (pvS b) ∧ σ.ρ.lookup ("at" : Str) = some (.int k) ∧ σ.ρ.lookup ("found" : Str) = some (pvR f)) (mixStep a b k) (List.range (k + 1))
    step (0, 1) q ⟨[("a", pvS a), ("b", pvS b), ("at", .int k), ("found", pvR (0, 1))], none⟩ ⟨rfl, rfl, rfl, rfl, rfl⟩ h
  rw [e1]
  obtain ⟨ρ', mu'⟩ := σ'
  obtain ⟨e3, e4, e5, e6⟩ := e3
  dsimp only at e2 e3 e4 e5 e6
  subst e2
  simp (decide := true) only [runF, seqM, asg, rtM, nilM, ifS, raS, stS, nmM, cM, unM, biM, tupM, lstM, callM, bltM, ifM, orM, getM, tcM, tvM, ntM, alM, anM, ivM, irM, rowM, allT, anyT, toB_b, unp_t, unp_r, unp_l, putL, List.reverse_cons, List.reverse_nil, List.nil_append, List.cons_append, List.zip_cons_cons, List.zip_nil_left, List.zip_nil_right, List.length_cons, List.length_nil, lk_hit, lk_miss, sr_nil, sr_hit, sr_miss, st_none, al_none, al_some, put_none, put_some, bnd_ret, bnd_fail, bnd_stuck, bnd_bnd, lift_some', lift_none', noErr_ret, few_ok, sub_c, sub_d, sub_n, if_true, ite_true, dite_true, Bool.false_eq_true, if_false, bnd_id, at_t0, at_t1, at_r0, at_r1, at_l0, at_l1, add_i, sub_i, neg_i, lt_i, le_i, gt_i, ge_i, eq_i, ne_i, eq_r, ne_r, eq_s, ne_s, eq_l, ne_l, abs_i, min_i, ite_false, pvR_mk, pvL_mk, setR_lookup, st_some, flat_r, mu_isNone, Option.isNone_none, Option.isNone_some, Bool.not_true, Bool.not_false, decide_true, decide_false, Bool.and_true, Bool.true_and, reduceCtorEq, e6]

theorem spSS_sub {f : List Rt → List Rt → Option (List Rt)} {m : List PV → M PV} (h : ∀ a b r, a.length ≤ 400 → b.length ≤ 400 → f a b = some r → m [pvS a, pvS b] = ret (pvS r)) : ∀ ds n r n', spSS f ds n = some (r, n') → m ds n = some (r, n') := by
  intro ds n r n' e
  unfold spSS at e
  split at e
  · obtain ⟨d, h3, rfl, rfl⟩ := lift_some e
    obtain ⟨a, h1, h3⟩ := Option.bind_eq_some_iff.mp h3
    obtain ⟨b, h2, h3⟩ := Option.bind_eq_some_iff.mp h3
    split at h3
    case isFalse => cases h3
    next hl =>
    obtain ⟨q, h4, rfl⟩ := Option.map_eq_some_iff.mp h3
    rw [ser_some h1, ser_some h2, h a b q hl.1 hl.2 h4]; rfl
  · cases e
theorem spSS_of {f : List Rt → List Rt → Option (List Rt)} {a b r : List Rt} (ha : a.length ≤ 400) (hb : b.length ≤ 400) (h : f a b = some r) : spSS f [pvS a, pvS b] = ret (pvS r) := by
  unfold spSS; simp only [ser_pv, Option.bind_some, h]; rw [if_pos ⟨ha, hb⟩]; rfl
theorem sp_cut_of {a : List Rt} {o : Int} (h0 : 0 ≤ o) (h1 : o ≤ 500) (h2 : a.length ≤ 500) : sp_cut [pvS a, .int o] = ret (pvS (cutI a o.toNat)) := by
  unfold sp_cut; simp only [ser_pv, Option.bind_some]; rw [if_pos ⟨h0, h1, h2⟩]; rfl
section
variable {wd : Wd}
theorem k_cut (C : Wld wd) : Fn wd 2 "cut" sp_cut := (f_cut C).sub fun ds n r n' e => by
  cases ds with
  | nil => exact no_none e
  | cons x l => cases l with
    | nil => exact no_none e
    | cons y l => cases y with
      | int o => cases l with
        | nil =>
          obtain ⟨d, h3, rfl, rfl⟩ := lift_some e
          obtain ⟨a, h1, h3⟩ := Option.bind_eq_some_iff.mp h3
          split at h3
          case isFalse => cases h3
          next hl =>
          cases h3
          rw [ser_some h1, u_cut hl.1 hl.2.1 hl.2.2]; rfl
        | cons _ _ => exact no_none e
      | _ => exact no_none e
theorem k_sadd (C : Wld wd) : Fn wd 5 "sadd" sp_sadd := (f_sadd C (k_radd C)).sub (spSS_sub fun _ _ _ ha hb h => u_sadd ha hb h)
theorem k_mixed (C : Wld wd) : Fn wd 5 "mixed" sp_mixed := (f_mixed C (k_radd C) (k_rmul C)).sub fun ds n r n' e => by
  cases ds with
  | nil => exact no_none e
  | cons x l => cases l with
    | nil => exact no_none e
    | cons y l => cases l with
      | nil => exact no_none e
      | cons z l => cases z with
        | int k => cases l with
          | nil =>
            obtain ⟨d, h3, rfl, rfl⟩ := lift_some e
            obtain ⟨a, h1, h3⟩ := Option.bind_eq_some_iff.mp h3
            obtain ⟨b, h2, h3⟩ := Option.bind_eq_some_iff.mp h3
            split at h3
            case isFalse => cases h3
            next hl =>
            obtain ⟨q, h4, rfl⟩ := Option.map_eq_some_iff.mp h3
            rw [ser_some h1, ser_some h2]
            have := u_mixed (k := k.toNat) (by omega) h4
            rw [Int.toNat_of_nonneg hl.1] at this
            rw [this]; rfl
          | cons _ _ => exact no_none e
        | _ => exact no_none e
theorem k_smul (C : Wld wd) : Fn wd 6 "smul" sp_smul := (f_smul C (k_mixed C)).sub (spSS_sub fun _ _ _ ha hb h => u_smul ha hb h)
end
end Lz
set_option linter.unusedSimpArgs false
namespace Lz
open PySem PySem.W PyProof.Rows

noncomputable def serM (x : PV) (f : List Rt → M PV) : M PV := match ser? x with
  | some a => f a
  | none => stuck
noncomputable def lauM (x : PV) (f : Int × List Rt → M PV) : M PV := match lau? x with
  | some p => f p
  | none => stuck
theorem serM_pv {a : List Rt} {f : List Rt → M PV} : serM (pvS a) f = f a := by unfold serM; rw [ser_pv]
theorem lauM_pv {p : Int × List Rt} {f : Int × List Rt → M PV} : lauM (pvL p) f = f p := by unfold lauM; rw [lau_pv]
theorem serM_some {x : PV} {f : List Rt → M PV} {n n' : Int} {r : Except Str PV} (h : serM x f n = some (r, n')) : ∃ a, x = pvS a ∧ f a n = some (r, n') := by
  unfold serM at h
  cases hx : ser? x with
  | none => simp only [hx] at h; cases h
  | some a => simp only [hx] at h; exact ⟨a, ser_some hx, h⟩
theorem lauM_some {x : PV} {f : Int × List Rt → M PV} {n n' : Int} {r : Except Str PV} (h : lauM x f n = some (r, n')) : ∃ p, x = pvL p ∧ f p n = some (r, n') := by
  unfold lauM at h
  cases hx : lau? x with
  | none => simp only [hx] at h; cases h
  | some a => simp only [hx] at h; exact ⟨a, lau_some hx, h⟩

noncomputable def totStep (a found : List Rt) (k : Nat) (t : Rt) (i : Nat) : Option Rt := match a[1 + i]?, found[k - (1 + i)]? with
  | some x, some y => (rmulO x y).bind fun z => rsubO t z
  | _, _ => none
noncomputable def sinvStep (a found : List Rt) (k : Nat) : Option (List Rt) := (foldO (totStep a found k) (List.range k) (if k = 0 then (1, 1) else (0, 1))).bind fun t => match a[0]? with
  | some a0 => (rdivO t a0).map fun q => found ++ [q]
  | none => none
noncomputable def sinvO (a : List Rt) : Option (List Rt) := foldO (sinvStep a) (List.range a.length) []
noncomputable def sinvM (a : List Rt) : M PV := if a.length ≤ 400 then (if a[0]? = some (0, 1) then fail "division by zero" else lift ((sinvO a).map pvS)) else stuck
noncomputable def sp_sinverse : List PV → M PV
  | [x] => serM x sinvM
  | _ => stuck
noncomputable def powO : Nat → List Rt → List Rt → Nat → Option (List Rt)
  | 0, _, _, _ => none
  | f + 1, found, base, left => if left = 0 then some found else if found.length ≤ 400 ∧ base.length ≤ 400 then
      (if left % 2 = 1 then smulO found base else some found).bind fun found' => (smulO base base).bind fun base' => powO f found' base' (left / 2) else none
noncomputable def powM (a : List Rt) (many : Int) : M PV := if a.length ≤ 400 ∧ -1000 ≤ many ∧ many ≤ 1000 then
  bnd (if many < 0 then sinvM a else ret (pvS a)) fun b => serM b fun base => lift ((powO 2000 (cutI [(1, 1)] a.length) base many.natAbs).map pvS) else stuck
noncomputable def sp_swhole_power : List PV → M PV
  | [x, .int many] => serM x fun a => powM a many
  | _ => stuck
noncomputable def b_sinverse_1 : Sig → M (Fl × Sig) := (seqM (asg (callM sp_rsub [(nmM "total"), (callM sp_rmul [(biM atV (nmM "a") (nmM "spot")), (biM atV (nmM "found") (biM subV (nmM "at") (nmM "spot")))])]) (put "total")) nilM)
noncomputable def b_sinverse_2 : Sig → M (Fl × Sig) := (seqM (asg (ifM (tcM eqV (nmM "at") (cM (.int 0))) (cM (pvR (1, 1))) (cM (pvR (0, 1)))) (put "total")) (seqM (foS "spot" (irM [(cM (.int 1)), (biM addV (nmM "at") (cM (.int 1)))]) b_sinverse_1) (seqM (appM "found" (callM sp_rdiv [(nmM "total"), (biM atV (nmM "a") (cM (.int 0)))])) nilM)))
noncomputable def m_sinverse : Sig → M (Fl × Sig) := (seqM (ifS (alM [(tcM gtV (bltM lenV [(nmM "a")]) (cM (.int 0))), (tcM eqV (biM atV (nmM "a") (cM (.int 0))) (cM (pvR (0, 1))))]) (seqM (raS "division by zero") nilM) nilM) (seqM (own "found" (.lst [])) (seqM (foS "at" (irM [(bltM lenV [(nmM "a")])]) b_sinverse_2) (seqM (rtM (nmM "found")) nilM))))
set_option maxHeartbeats 4000000 in
theorem v_sinverse {wd : Wd} (C : Wld wd) (h_rsub : Fn wd 4 "rsub" sp_rsub) (h_rmul : Fn wd 4 "rmul" sp_rmul) (h_rdiv : Fn wd 4 "rdiv" sp_rdiv) : Sv wd (sco 18) 4 (execs (bd 18)) (m_sinverse) := (Sv.cons (S.iff (T.and2 (T.cmp (X.blt C.len (.inl ⟨_, rfl⟩) opN_len (by rfl) (X.rc X.nm X.rn)) X.int op_gt) (T.cmp (X.at X.nm X.int) (C.r0 (by rfl)) op_eq)) (Sv.cons (S.ra C.exc (by rfl)) S.nil) S.nil) (Sv.cons (Sv.newList (by first | exact .inl rfl | exact .inr rfl)) (Sv.cons (S.fo (I.rng C.range (by rfl) (X.rc (X.blt C.len (.inl ⟨_, rfl⟩) opN_len (by rfl) (X.rc X.nm X.rn)) X.rn)) (Sv.cons (Sv.assign (X.ife (T.cmp X.nm X.int op_eq) (C.r1 (by rfl)) (C.r0 (by rfl))) (Av.name (by first | exact .inl rfl | exact .inr rfl))) (Sv.cons (S.fo (I.rng C.range (by rfl) (X.rc X.int (X.rc (X.bin X.nm X.int op_add) X.rn))) (Sv.cons (Sv.assign (X.call (h_rsub) (by decide) (by rfl) (X.rc X.nm (X.rc (X.call (h_rmul) (by decide) (by rfl) (X.rc (X.at X.nm X.nm) (X.rc (X.at X.nm (X.bin X.nm X.nm op_sub)) X.rn))) X.rn))) (Av.name (by first | exact .inl rfl | exact .inr rfl))) S.nil) (by first | exact .inl rfl | exact .inr rfl)) (Sv.cons (Sv.append (X.call (h_rdiv) (by decide) (by rfl) (X.rc X.nm (X.rc (X.at X.nm X.int) X.rn)))) S.nil))) (by first | exact .inl rfl | exact .inr rfl)) (Sv.cons (S.rt X.nm) S.nil))))
theorem f_sinverse {wd : Wd} (C : Wld wd) (h_rsub : Fn wd 4 "rsub" sp_rsub) (h_rmul : Fn wd 4 "rmul" sp_rmul) (h_rdiv : Fn wd 4 "rdiv" sp_rdiv) : Fn wd 5 "sinverse" (runF ["a"] (m_sinverse)) := Fn.mk C.at18 (v_sinverse C h_rsub h_rmul h_rdiv) (fun _ _ _ => len1 fun a => rfl) (by decide) (by decide)
noncomputable def b_swhole_power_1 : Sig → M (Fl × Sig) := (seqM (ifS (tcM eqV (biM modV (nmM "left") (cM (.int 2))) (cM (.int 1))) (seqM (asg (callM sp_smul [(nmM "found"), (nmM "base")]) (put "found")) nilM) nilM) (seqM (asg (callM sp_smul [(nmM "base"), (nmM "base")]) (put "base")) (seqM (asg (biM fdivV (nmM "left") (cM (.int 2))) (put "left")) nilM)))
noncomputable def t_swhole_power_2 : Rho → M Bool := (tcM gtV (nmM "left") (cM (.int 0)))
noncomputable def m_swhole_power : Sig → M (Fl × Sig) := (seqM (asg (ifM (tcM ltV (nmM "many") (cM (.int 0))) (callM sp_sinverse [(nmM "a")]) (nmM "a")) (put "base")) (seqM (asg (tupM [(callM sp_cut [(lstM [(cM (pvR (1, 1)))]), (bltM lenV [(nmM "a")])]), (bltM absV [(nmM "many")])]) (unp 2 fun ds => putL [put "left", put "found"] ds.reverse)) (seqM (whS 2000 t_swhole_power_2 b_swhole_power_1) (seqM (rtM (nmM "found")) nilM))))
set_option maxHeartbeats 4000000 in
theorem v_swhole_power {wd : Wd} (C : Wld wd) (h_cut : Fn wd 2 "cut" sp_cut) (h_smul : Fn wd 6 "smul" sp_smul) (h_sinverse : Fn wd 5 "sinverse" sp_sinverse) : Sv wd (sco 19) 6 (execs (bd 19)) (m_swhole_power) := (Sv.cons (Sv.assign (X.ife (T.cmp X.nm X.int op_lt) (X.call (h_sinverse) (by decide) (by rfl) (X.rc X.nm X.rn)) X.nm) (Av.name (by first | exact .inl rfl | exact .inr rfl))) (Sv.cons (S.swap (X.tup (X.rc (X.call (h_cut) (by decide) (by rfl) (X.rc (X.lst (X.rc (C.r1 (by rfl)) X.rn)) (X.rc (X.blt C.len (.inl ⟨_, rfl⟩) opN_len (by rfl) (X.rc X.nm X.rn)) X.rn))) (X.rc (X.blt C.abs (.inl ⟨_, rfl⟩) opN_abs (by rfl) (X.rc X.nm X.rn)) X.rn))) (by rfl) (by rfl) (by intro env h; have hb : env.blockKind = .function := (by unfold Env.blockKind; rw [h]; rfl); unfold swappedStores Env.kindOf; rw [hb, h]; rfl)) (Sv.cons (S.wh 2000 (T.cmp X.nm X.int op_gt) (Sv.cons (S.iff (T.cmp (X.bin X.nm X.int op_mod) X.int op_eq) (Sv.cons (Sv.assign (X.call (h_smul) (by decide) (by rfl) (X.rc X.nm (X.rc X.nm X.rn))) (Av.name (by first | exact .inl rfl | exact .inr rfl))) S.nil) S.nil) (Sv.cons (Sv.assign (X.call (h_smul) (by decide) (by rfl) (X.rc X.nm (X.rc X.nm X.rn))) (Av.name (by first | exact .inl rfl | exact .inr rfl))) (Sv.cons (Sv.assign (X.bin X.nm X.int op_fdiv) (Av.name (by first | exact .inl rfl | exact .inr rfl))) S.nil)))) (Sv.cons (S.rt X.nm) S.nil))))
theorem f_swhole_power {wd : Wd} (C : Wld wd) (h_cut : Fn wd 2 "cut" sp_cut) (h_smul : Fn wd 6 "smul" sp_smul) (h_sinverse : Fn wd 5 "sinverse" sp_sinverse) : Fn wd 7 "swhole_power" (runF ["a", "many"] (m_swhole_power)) := Fn.mk C.at19 (v_swhole_power C h_cut h_smul h_sinverse) (fun _ _ _ => len2 fun a b => rfl) (by decide) (by decide)


theorem sinv_len {a : List Rt} : ∀ {l : List Nat} {found r : List Rt}, foldO (sinvStep a) l found = some r → r.length = found.length + l.length
  | [], found, r, h => by cases h; rfl
  | k :: l, found, r, h => by
    unfold foldO at h
    split at h
    · next b hb =>
      have := sinv_len h
      unfold sinvStep at hb
      obtain ⟨t, _, hb⟩ := Option.bind_eq_some_iff.mp hb
      split at hb
      · obtain ⟨q, _, rfl⟩ := Option.map_eq_some_iff.mp hb
        simp at this
        simp [this]; omega
      · cases hb
    · cases h
theorem forM_grow {x : Str} {body : Sig → M (Fl × Sig)} {β : Type} (enc : Nat → PV) (R : Nat → β → Sig → Prop) (step : β → Nat → Option β) : ∀ (m k : Nat),
    (∀ b j b' σ, k ≤ j → j < k + m → R j b σ → step b j = some b' → ∃ σ₁ σ', put x (enc j) σ = some σ₁ ∧ body σ₁ = ret (.next, σ') ∧ R (j + 1) b' σ' ∧ σ'.mu.isNone = σ.mu.isNone) →
    ∀ b b' σ, R k b σ → foldO step (List.range' k m) b = some b' → ∃ σ', forM x body ((List.range' k m).map enc) σ = ret (.next, σ') ∧ R (k + m) b' σ'
  | 0, k, _, b, b', σ, h, e => by cases e; exact ⟨σ, rfl, h⟩
  | m + 1, k, hb, b, b', σ, h, e => by
    rw [List.range'_succ] at e ⊢
    unfold foldO at e
    split at e
    · next b₁ h1 =>
      obtain ⟨σ₁, σ', e1, e2, e3, e4⟩ := hb b k b₁ σ (Nat.le_refl _) (by omega) h h1
      obtain ⟨σ'', e5, e6⟩ := forM_grow enc R step m (k + 1) (fun b j b' σ h1 h2 => hb b j b' σ (by omega) (by omega)) b₁ b' σ' e3 e
      refine ⟨σ'', ?_, by rw [show k + (m + 1) = k + 1 + m by omega]; exact e6⟩
      rw [List.map_cons, forM, e1]
      simp only [e2, noErr_ret, bnd_ret, e4, BEq.rfl, if_true, e5]
    · cases e

theorem at_ls {a : List Rt} {i : Nat} {q : Rt} (hi : i < 1000) (h : a[i]? = some q) : atV (.lst (a.map pvR)) (.int i) = some (pvR q) := at_s hi h
theorem tot_loop {a found : List Rt} {k : Nat} {t t' : Rt} {ρ : Rho} (hk : k < 400) (h : foldO (totStep a found k) (List.range k) t = some t') (h1 : ρ.lookup ("a" : Str) = some (pvS a)) (h2 : ρ.lookup ("at" : Str) = some (.int k)) (h3 : ρ.lookup ("total" : Str) = some (pvR t)) :
    ∃ ρ', foS "spot" (irM [(cM (.int 1)), (biM addV (nmM "at") (cM (.int 1)))]) b_sinverse_1 ⟨ρ, some ("found", .lst (found.map pvR))⟩ = ret (.next, ⟨ρ', some ("found", .lst (found.map pvR))⟩) ∧
      ρ'.lookup ("a" : Str) = some (pvS a) ∧ ρ'.lookup ("at" : Str) = some (.int k) ∧ ρ'.lookup ("total" : Str) = some (pvR t') := by
  have step : ∀ t i t' (σ : Sig), i ∈ List.range k → (σ.mu = some (("found" : Str), PV.lst (found.map pvR)) ∧ σ.ρ.lookup ("a" : Str) = some (pvS a) ∧ σ.ρ.lookup ("at" : Str) = some (.int k) ∧ σ.ρ.lookup ("total" : Str) = some (pvR t)) → totStep a found k t i = some t' →
      ∃ σ₁ σ', put "spot" (.int (1 + (i : Nat))) σ = some σ₁ ∧ b_sinverse_1 σ₁ = ret (.next, σ') ∧
        (σ'.mu = some (("found" : Str), PV.lst (found.map pvR)) ∧ σ'.ρ.lookup ("a" : Str) = some (pvS a) ∧ σ'.ρ.lookup ("at" : Str) = some (.int k) ∧ σ'.ρ.lookup ("total" : Str) = some (pvR t')) ∧ σ'.mu.isNone = σ.mu.isNone := by
    intro t i t' σ hi ⟨r1, r2, r3, r4⟩ hs
    obtain ⟨ρ, mu⟩ := σ
    dsimp only at r1 r2 r3 r4
    subst r1
    have hi := List.mem_range.mp hi
    have hik : ((k : Int) - ((1 + i : Nat) : Int)) = ((k - (1 + i) : Nat) : Int) := by omega
    have hi1 : (1 + (i : Int)) = ((1 + i : Nat) : Int) := by omega
    unfold totStep at hs
    split at hs
    case h_2 => cases hs
    next x y hx hy =>
    obtain ⟨z, hz3, hz4⟩ := Option.bind_eq_some_iff.mp hs
    refine ⟨⟨setR "spot" (.int (1 + (i : Nat))) ρ, some ("found", .lst (found.map pvR))⟩, ⟨setR "total" (pvR t') (setR "spot" (.int (1 + (i : Nat))) ρ), some ("found", .lst (found.map pvR))⟩, put_some (by decide), ?_, ⟨rfl, ?_, ?_, ?_⟩, rfl⟩
    · simp (decide := true) only [b_sinverse_1, runF, seqM, asg, rtM, nilM, ifS, raS, stS, nmM, cM, unM, biM, tupM, lstM, callM, bltM, ifM, orM, getM, tcM, tvM, ntM, alM, anM, ivM, irM, rowM, allT, anyT, toB_b, unp_t, unp_r, unp_l, putL, List.reverse_cons, List.reverse_nil, List.nil_append, List.cons_append, List.zip_cons_cons, List.zip_nil_left, List.zip_nil_right, List.length_cons, List.length_nil, lk_hit, lk_miss, sr_nil, sr_hit, sr_miss, st_none, al_none, al_some, put_none, put_some, bnd_ret, bnd_fail, bnd_stuck, bnd_bnd, lift_some', lift_none', noErr_ret, few_ok, sub_c, sub_d, sub_n, if_true, ite_true, dite_true, Bool.false_eq_true, if_false, bnd_id, at_t0, at_t1, at_r0, at_r1, at_l0, at_l1, add_i, sub_i, neg_i, lt_i, le_i, gt_i, ge_i, eq_i, ne_i, eq_r, ne_r, eq_s, ne_s, eq_l, ne_l, abs_i, min_i, ite_false, pvR_mk, pvL_mk, setR_lookup, st_some, flat_r, mu_isNone, Option.isNone_none, Option.isNone_some, Bool.not_true, Bool.not_false, decide_true, decide_false, Bool.and_true, Bool.true_and, reduceCtorEq, r2, r3, r4, hik, hi1, at_s (show 1 + i < 1000 by omega) hx, at_ls (show k - (1 + i) < 1000 by omega) hy, show sp_rmul [pvR x, pvR y] = ret (pvR z) from sp2_of hz3, show sp_rsub [pvR t, pvR z] = ret (pvR t') from sp2_of hz4]
    all_goals simp (decide := true) only [runF, seqM, asg, rtM, nilM, ifS, raS, stS, nmM, cM, unM, biM, tupM, lstM, callM, bltM, ifM, orM, getM, tcM, tvM, ntM, alM, anM, ivM, irM, rowM, allT, anyT, toB_b, unp_t, unp_r, unp_l, putL, List.reverse_cons, List.reverse_nil, List.nil_append, List.cons_append, List.zip_cons_cons, List.zip_nil_left, List.zip_nil_right, List.length_cons, List.length_nil, lk_hit, lk_miss, sr_nil, sr_hit, sr_miss, st_none, al_none, al_some, put_none, put_some, bnd_ret, bnd_fail, bnd_stuck, bnd_bnd, lift_some', lift_none', noErr_ret, few_ok, sub_c, sub_d, sub_n, if_true, ite_true, dite_true, Bool.false_eq_true, if_false, bnd_id, at_t0, at_t1, at_r0, at_r1, at_l0, at_l1, add_i, sub_i, neg_i, lt_i, le_i, gt_i, ge_i, eq_i, ne_i, eq_r, ne_r, eq_s, ne_s, eq_l, ne_l, abs_i, min_i, ite_false, pvR_mk, pvL_mk, setR_lookup, st_some, flat_r, mu_isNone, Option.isNone_none, Option.isNone_some, Bool.not_true, Bool.not_false, decide_true, decide_false, Bool.and_true, Bool.true_and, reduceCtorEq, r2, r3, r4]
  simp (decide := true) only [runF, seqM, asg, rtM, nilM, ifS, raS, stS, nmM, cM, unM, biM, tupM, lstM, callM, bltM, ifM, orM, getM, tcM, tvM, ntM, alM, anM, ivM, irM, rowM, allT, anyT, toB_b, unp_t, unp_r, unp_l, putL, List.reverse_cons, List.reverse_nil, List.nil_append, List.cons_append, List.zip_cons_cons, List.zip_nil_left, List.zip_nil_right, List.length_cons, List.length_nil, lk_hit, lk_miss, sr_nil, sr_hit, sr_miss, st_none, al_none, al_some, put_none, put_some, bnd_ret, bnd_fail, bnd_stuck, bnd_bnd, lift_some', lift_none', noErr_ret, few_ok, sub_c, sub_d, sub_n, if_true, ite_true, dite_true, Bool.false_eq_true, if_false, bnd_id, at_t0, at_t1, at_r0, at_r1, at_l0, at_l1, add_i, sub_i, neg_i, lt_i, le_i, gt_i, ge_i, eq_i, ne_i, eq_r, ne_r, eq_s, ne_s, eq_l, ne_l, abs_i, min_i, ite_false, pvR_mk, pvL_mk, setR_lookup, st_some, flat_r, mu_isNone, Option.isNone_none, Option.isNone_some, Bool.not_true, Bool.not_false, decide_true, decide_false, Bool.and_true, Bool.true_and, reduceCtorEq, foS, h2]
  rw [range_2 (by omega) (by omega) (by omega) (by omega)]
  simp (decide := true) only [runF, seqM, asg, rtM, nilM, ifS, raS, stS, nmM, cM, unM, biM, tupM, lstM, callM, bltM, ifM, orM, getM, tcM, tvM, ntM, alM, anM, ivM, irM, rowM, allT, anyT, toB_b, unp_t, unp_r, unp_l, putL, List.reverse_cons, List.reverse_nil, List.nil_append, List.cons_append, List.zip_cons_cons, List.zip_nil_left, List.zip_nil_right, List.length_cons, List.length_nil, lk_hit, lk_miss, sr_nil, sr_hit, sr_miss, st_none, al_none, al_some, put_none, put_some, bnd_ret, bnd_fail, bnd_stuck, bnd_bnd, lift_some', lift_none', noErr_ret, few_ok, sub_c, sub_d, sub_n, if_true, ite_true, dite_true, Bool.false_eq_true, if_false, bnd_id, at_t0, at_t1, at_r0, at_r1, at_l0, at_l1, add_i, sub_i, neg_i, lt_i, le_i, gt_i, ge_i, eq_i, ne_i, eq_r, ne_r, eq_s, ne_s, eq_l, ne_l, abs_i, min_i, ite_false, pvR_mk, pvL_mk, setR_lookup, st_some, flat_r, mu_isNone, Option.isNone_none, Option.isNone_some, Bool.not_true, Bool.not_false, decide_true, decide_false, Bool.and_true, Bool.true_and, reduceCtorEq]
  rw [show ((k : Int) + 1 - 1).toNat = k by omega]
  obtain ⟨⟨ρ', mu'⟩, e1, e2, e3, e4, e5⟩ := forM_rel (x := "spot") (fun i : Nat => PV.int (1 + (i : Nat))) (fun (t : Rt) (σ : Sig) => σ.mu = some (("found" : Str), PV.lst (found.map pvR)) ∧ σ.ρ.lookup ("a" : Str) = some (pvS a) ∧ σ.ρ.lookup ("at" : Str) = some (.int k) ∧ σ.ρ.lookup ("total" : Str) = some (pvR t))
    (totStep a found k) (List.range k) step t t' ⟨ρ, some ("found", .lst (found.map pvR))⟩ ⟨rfl, h1, h2, h3⟩ h
  dsimp only at e2 e3 e4 e5
  subst e2
  exact ⟨ρ', e1, e3, e4, e5⟩
theorem sinv_rest {a r : List Rt} (ha : a.length ≤ 400) (h : sinvO a = some r) :
    ∃ ρ', foS "at" (irM [(bltM lenV [(nmM "a")])]) b_sinverse_2 ⟨[("a", pvS a)], some ("found", .lst [])⟩ = ret (.next, ⟨ρ', some ("found", pvS r)⟩) := by
  have hl : lenV [pvS a] = some (.int a.length) := len_s (by omega)
  simp (decide := true) only [runF, seqM, asg, rtM, nilM, ifS, raS, stS, nmM, cM, unM, biM, tupM, lstM, callM, bltM, ifM, orM, getM, tcM, tvM, ntM, alM, anM, ivM, irM, rowM, allT, anyT, toB_b, unp_t, unp_r, unp_l, putL, List.reverse_cons, List.reverse_nil, List.nil_append, List.cons_append, List.zip_cons_cons, List.zip_nil_left, List.zip_nil_right, List.length_cons, List.length_nil, lk_hit, lk_miss, sr_nil, sr_hit, sr_miss, st_none, al_none, al_some, put_none, put_some, bnd_ret, bnd_fail, bnd_stuck, bnd_bnd, lift_some', lift_none', noErr_ret, few_ok, sub_c, sub_d, sub_n, if_true, ite_true, dite_true, Bool.false_eq_true, if_false, bnd_id, at_t0, at_t1, at_r0, at_r1, at_l0, at_l1, add_i, sub_i, neg_i, lt_i, le_i, gt_i, ge_i, eq_i, ne_i, eq_r, ne_r, eq_s, ne_s, eq_l, ne_l, abs_i, min_i, ite_false, pvR_mk, pvL_mk, setR_lookup, st_some, flat_r, mu_isNone, Option.isNone_none, Option.isNone_some, Bool.not_true, Bool.not_false, decide_true, decide_false, Bool.and_true, Bool.true_and, reduceCtorEq, foS, hl]
  rw [range_1 (by omega) (by omega)]
  simp (decide := true) only [runF, seqM, asg, rtM, nilM, ifS, raS, stS, nmM, cM, unM, biM, tupM, lstM, callM, bltM, ifM, orM, getM, tcM, tvM, ntM, alM, anM, ivM, irM, rowM, allT, anyT, toB_b, unp_t, unp_r, unp_l, putL, List.reverse_cons, List.reverse_nil, List.nil_append, List.cons_append, List.zip_cons_cons, List.zip_nil_left, List.zip_nil_right, List.length_cons, List.length_nil, lk_hit, lk_miss, sr_nil, sr_hit, sr_miss, st_none, al_none, al_some, put_none, put_some, bnd_ret, bnd_fail, bnd_stuck, bnd_bnd, lift_some', lift_none', noErr_ret, few_ok, sub_c, sub_d, sub_n, if_true, ite_true, dite_true, Bool.false_eq_true, if_false, bnd_id, at_t0, at_t1, at_r0, at_r1, at_l0, at_l1, add_i, sub_i, neg_i, lt_i, le_i, gt_i, ge_i, eq_i, ne_i, eq_r, ne_r, eq_s, ne_s, eq_l, ne_l, abs_i, min_i, ite_false, pvR_mk, pvL_mk, setR_lookup, st_some, flat_r, mu_isNone, Option.isNone_none, Option.isNone_some, Bool.not_true, Bool.not_false, decide_true, decide_false, Bool.and_true, Bool.true_and, reduceCtorEq, Int.toNat_natCast]
  unfold sinvO at h
  rw [List.range_eq_range'] at h ⊢
  have step : ∀ (found : List Rt) j found' (σ : Sig), 0 ≤ j → j < 0 + a.length → (found.length = j ∧ σ.mu = some (("found" : Str), PV.lst (found.map pvR)) ∧ σ.ρ.lookup ("a" : Str) = some (pvS a)) → sinvStep a found j = some found' →
      ∃ σ₁ σ', put "at" (.int (j : Nat)) σ = some σ₁ ∧ b_sinverse_2 σ₁ = ret (.next, σ') ∧ (found'.length = j + 1 ∧ σ'.mu = some (("found" : Str), PV.lst (found'.map pvR)) ∧ σ'.ρ.lookup ("a" : Str) = some (pvS a)) ∧ σ'.mu.isNone = σ.mu.isNone := by
    intro found j found' σ _ hj ⟨r0, r1, r2⟩ hs
    obtain ⟨ρ, mu⟩ := σ
    dsimp only at r1 r2
    subst r1
    unfold sinvStep at hs
    obtain ⟨t, ht, hs⟩ := Option.bind_eq_some_iff.mp hs
    split at hs
    case h_2 => cases hs
    next a0 ha0 =>
    obtain ⟨q, hq, rfl⟩ := Option.map_eq_some_iff.mp hs
    obtain ⟨ρ', e1, e2, e3, e4⟩ := tot_loop (ρ := setR "total" (pvR (if j = 0 then (1, 1) else (0, 1))) (setR "at" (.int j) ρ)) (by omega) ht (by simp (decide := true) only [runF, seqM, asg, rtM, nilM, ifS, raS, stS, nmM, cM, unM, biM, tupM, lstM, callM, bltM, ifM, orM, getM, tcM, tvM, ntM, alM, anM, ivM, irM, rowM, allT, anyT, toB_b, unp_t, unp_r, unp_l, putL, List.reverse_cons, List.reverse_nil, List.nil_append, List.cons_append, List.zip_cons_cons, List.zip_nil_left, List.zip_nil_right, List.length_cons, List.length_nil, lk_hit, lk_miss, sr_nil, sr_hit, sr_miss, st_none, al_none, al_some, put_none, put_some, bnd_ret, bnd_fail, bnd_stuck, bnd_bnd, lift_some', lift_none', noErr_ret, few_ok, sub_c, sub_d, sub_n, if_true, ite_true, dite_true, Bool.false_eq_true, if_false, bnd_id, at_t0, at_t1, at_r0, at_r1, at_l0, at_l1, add_i, sub_i, neg_i, lt_i, le_i, gt_i, ge_i, eq_i, ne_i, eq_r, ne_r, eq_s, ne_s, eq_l, ne_l, abs_i, min_i, ite_false, pvR_mk, pvL_mk, setR_lookup, st_some, flat_r, mu_isNone, Option.isNone_none, Option.isNone_some, Bool.not_true, Bool.not_false, decide_true, decide_false, Bool.and_true, Bool.true_and, reduceCtorEq, r2]) (by simp (decide := true) only [runF, seqM, asg, rtM, nilM, ifS, raS, stS, nmM, cM, unM, biM, tupM, lstM, callM, bltM, ifM, orM, getM, tcM, tvM, ntM, alM, anM, ivM, irM, rowM, allT, anyT, toB_b, unp_t, unp_r, unp_l, putL, List.reverse_cons, List.reverse_nil, List.nil_append, List.cons_append, List.zip_cons_cons, List.zip_nil_left, List.zip_nil_right, List.length_cons, List.length_nil, lk_hit, lk_miss, sr_nil, sr_hit, sr_miss, st_none, al_none, al_some, put_none, put_some, bnd_ret, bnd_fail, bnd_stuck, bnd_bnd, lift_some', lift_none', noErr_ret, few_ok, sub_c, sub_d, sub_n, if_true, ite_true, dite_true, Bool.false_eq_true, if_false, bnd_id, at_t0, at_t1, at_r0, at_r1, at_l0, at_l1, add_i, sub_i, neg_i, lt_i, le_i, gt_i, ge_i, eq_i, ne_i, eq_r, ne_r, eq_s, ne_s, eq_l, ne_l, abs_i, min_i, ite_false, pvR_mk, pvL_mk, setR_lookup, st_some, flat_r, mu_isNone, Option.isNone_none, Option.isNone_some, Bool.not_true, Bool.not_false, decide_true, decide_false, Bool.and_true, Bool.true_and, reduceCtorEq]) (by simp (decide := true) only [runF, seqM, asg, rtM, nilM, ifS, raS, stS, nmM, cM, unM, biM, tupM, lstM, callM, bltM, ifM, orM, getM, tcM, tvM, ntM, alM, anM, ivM, irM, rowM, allT, anyT, toB_b, unp_t, unp_r, unp_l, putL, List.reverse_cons, List.reverse_nil, List.nil_append, List.cons_append, List.zip_cons_cons, List.zip_nil_left, List.zip_nil_right, List.length_cons, List.length_nil, lk_hit, lk_miss, sr_nil, sr_hit, sr_miss, st_none, al_none, al_some, put_none, put_some, bnd_ret, bnd_fail, bnd_stuck, bnd_bnd, lift_some', lift_none', noErr_ret, few_ok, sub_c, sub_d, sub_n, if_true, ite_true, dite_true, Bool.false_eq_true, if_false, bnd_id, at_t0, at_t1, at_r0, at_r1, at_l0, at_l1, add_i, sub_i, neg_i, lt_i, le_i, gt_i, ge_i, eq_i, ne_i, eq_r, ne_r, eq_s, ne_s, eq_l, ne_l, abs_i, min_i, ite_false, pvR_mk, pvL_mk, setR_lookup, st_some, flat_r, mu_isNone, Option.isNone_none, Option.isNone_some, Bool.not_true, Bool.not_false, decide_true, decide_false, Bool.and_true, Bool.true_and, reduceCtorEq])
    refine ⟨⟨setR "at" (.int j) ρ, some ("found", .lst (found.map pvR))⟩, ⟨ρ', some ("found", .lst ((found ++ [q]).map pvR))⟩, put_some (by decide), ?_, ⟨by simp [r0], rfl, e2⟩, rfl⟩
    have hz : (((j : Nat) : Int) = 0) ↔ j = 0 := by omega
    have hat := at_s (a := a) (i := 0) (by omega) ha0
    have hrd : sp_rdiv [pvR t, pvR a0] = ret (pvR q) := sp2_of hq
    have hlen : (found.map pvR).length ≤ 1000 := by rw [List.length_map]; omega
    by_cases hj0 : j = 0
    · rw [if_pos hj0] at e1
      subst hj0
      simp only [Int.natCast_zero] at e1 e3
      simp (decide := true) only [b_sinverse_2, runF, seqM, asg, rtM, nilM, ifS, raS, stS, nmM, cM, unM, biM, tupM, lstM, callM, bltM, ifM, orM, getM, tcM, tvM, ntM, alM, anM, ivM, irM, rowM, allT, anyT, toB_b, unp_t, unp_r, unp_l, putL, List.reverse_cons, List.reverse_nil, List.nil_append, List.cons_append, List.zip_cons_cons, List.zip_nil_left, List.zip_nil_right, List.length_cons, List.length_nil, lk_hit, lk_miss, sr_nil, sr_hit, sr_miss, st_none, al_none, al_some, put_none, put_some, bnd_ret, bnd_fail, bnd_stuck, bnd_bnd, lift_some', lift_none', noErr_ret, few_ok, sub_c, sub_d, sub_n, if_true, ite_true, dite_true, Bool.false_eq_true, if_false, bnd_id, at_t0, at_t1, at_r0, at_r1, at_l0, at_l1, add_i, sub_i, neg_i, lt_i, le_i, gt_i, ge_i, eq_i, ne_i, eq_r, ne_r, eq_s, ne_s, eq_l, ne_l, abs_i, min_i, ite_false, pvR_mk, pvL_mk, setR_lookup, st_some, flat_r, mu_isNone, Option.isNone_none, Option.isNone_some, Bool.not_true, Bool.not_false, decide_true, decide_false, Bool.and_true, Bool.true_and, reduceCtorEq, r2, e1, Int.natCast_zero]
      simp (decide := true) only [runF, seqM, asg, rtM, nilM, ifS, raS, stS, nmM, cM, unM, biM, tupM, lstM, callM, bltM, ifM, orM, getM, tcM, tvM, ntM, alM, anM, ivM, irM, rowM, allT, anyT, toB_b, unp_t, unp_r, unp_l, putL, List.reverse_cons, List.reverse_nil, List.nil_append, List.cons_append, List.zip_cons_cons, List.zip_nil_left, List.zip_nil_right, List.length_cons, List.length_nil, lk_hit, lk_miss, sr_nil, sr_hit, sr_miss, st_none, al_none, al_some, put_none, put_some, bnd_ret, bnd_fail, bnd_stuck, bnd_bnd, lift_some', lift_none', noErr_ret, few_ok, sub_c, sub_d, sub_n, if_true, ite_true, dite_true, Bool.false_eq_true, if_false, bnd_id, at_t0, at_t1, at_r0, at_r1, at_l0, at_l1, add_i, sub_i, neg_i, lt_i, le_i, gt_i, ge_i, eq_i, ne_i, eq_r, ne_r, eq_s, ne_s, eq_l, ne_l, abs_i, min_i, ite_false, pvR_mk, pvL_mk, setR_lookup, st_some, flat_r, mu_isNone, Option.isNone_none, Option.isNone_some, Bool.not_true, Bool.not_false, decide_true, decide_false, Bool.and_true, Bool.true_and, reduceCtorEq, appM, e2, e3, e4, hlen, show atV (pvS a) (.int 0) = some (pvR a0) from hat, hrd, List.map_append, List.map_cons, List.map_nil]
    · rw [if_neg hj0] at e1
      simp (decide := true) only [b_sinverse_2, runF, seqM, asg, rtM, nilM, ifS, raS, stS, nmM, cM, unM, biM, tupM, lstM, callM, bltM, ifM, orM, getM, tcM, tvM, ntM, alM, anM, ivM, irM, rowM, allT, anyT, toB_b, unp_t, unp_r, unp_l, putL, List.reverse_cons, List.reverse_nil, List.nil_append, List.cons_append, List.zip_cons_cons, List.zip_nil_left, List.zip_nil_right, List.length_cons, List.length_nil, lk_hit, lk_miss, sr_nil, sr_hit, sr_miss, st_none, al_none, al_some, put_none, put_some, bnd_ret, bnd_fail, bnd_stuck, bnd_bnd, lift_some', lift_none', noErr_ret, few_ok, sub_c, sub_d, sub_n, if_true, ite_true, dite_true, Bool.false_eq_true, if_false, bnd_id, at_t0, at_t1, at_r0, at_r1, at_l0, at_l1, add_i, sub_i, neg_i, lt_i, le_i, gt_i, ge_i, eq_i, ne_i, eq_r, ne_r, eq_s, ne_s, eq_l, ne_l, abs_i, min_i, ite_false, pvR_mk, pvL_mk, setR_lookup, st_some, flat_r, mu_isNone, Option.isNone_none, Option.isNone_some, Bool.not_true, Bool.not_false, decide_true, decide_false, Bool.and_true, Bool.true_and, reduceCtorEq, r2, e1, hz, hj0]
      simp (decide := true) only [runF, seqM, asg, rtM, nilM, ifS, raS, stS, nmM, cM, unM, biM, tupM, lstM, callM, bltM, ifM, orM, getM, tcM, tvM, ntM, alM, anM, ivM, irM, rowM, allT, anyT, toB_b, unp_t, unp_r, unp_l, putL, List.reverse_cons, List.reverse_nil, List.nil_append, List.cons_append, List.zip_cons_cons, List.zip_nil_left, List.zip_nil_right, List.length_cons, List.length_nil, lk_hit, lk_miss, sr_nil, sr_hit, sr_miss, st_none, al_none, al_some, put_none, put_some, bnd_ret, bnd_fail, bnd_stuck, bnd_bnd, lift_some', lift_none', noErr_ret, few_ok, sub_c, sub_d, sub_n, if_true, ite_true, dite_true, Bool.false_eq_true, if_false, bnd_id, at_t0, at_t1, at_r0, at_r1, at_l0, at_l1, add_i, sub_i, neg_i, lt_i, le_i, gt_i, ge_i, eq_i, ne_i, eq_r, ne_r, eq_s, ne_s, eq_l, ne_l, abs_i, min_i, ite_false, pvR_mk, pvL_mk, setR_lookup, st_some, flat_r, mu_isNone, Option.isNone_none, Option.isNone_some, Bool.not_true, Bool.not_false, decide_true, decide_false, Bool.and_true, Bool.true_and, reduceCtorEq, appM, e2, e3, e4, hlen, show atV (pvS a) (.int 0) = some (pvR a0) from hat, hrd, List.map_append, List.map_cons, List.map_nil]
  obtain ⟨⟨ρ', mu'⟩, e1, e2, e3, e4⟩ := forM_grow (x := "at") (fun i : Nat => PV.int (i : Nat)) (fun j (found : List Rt) (σ : Sig) => found.length = j ∧ σ.mu = some (("found" : Str), PV.lst (found.map pvR)) ∧ σ.ρ.lookup ("a" : Str) = some (pvS a)) (sinvStep a) a.length 0
    step [] r ⟨[("a", pvS a)], some ("found", .lst [])⟩ ⟨rfl, rfl, rfl⟩ h
  dsimp only at e3 e4
  subst e3
  exact ⟨ρ', e1⟩
theorem u_sinverse {a : List Rt} (ha : a.length ≤ 400) : ∀ n r n', sinvM a n = some (r, n') → runF ["a"] m_sinverse [pvS a] n = some (r, n') := by
  intro n r n' h
  unfold sinvM at h
  rw [if_pos ha] at h
  have hl : lenV [pvS a] = some (.int a.length) := len_s (by omega)
  have hgt : (decide ((a.length : Int) > 0)) = !decide (a = []) := by cases a <;> simp
  split at h
  · next h0 =>
    have hat := at_s (a := a) (i := 0) (by omega) h0
    have hne : a ≠ [] := fun q => by (first | exact nn h0 (q) | cases ss (q) h0 | cases Eq.trans (Eq.symm (q)) h0 | (rw [q] at h0; cases h0))
    simp (decide := true) only [m_sinverse, runF, seqM, asg, rtM, nilM, ifS, raS, stS, nmM, cM, unM, biM, tupM, lstM, callM, bltM, ifM, orM, getM, tcM, tvM, ntM, alM, anM, ivM, irM, rowM, allT, anyT, toB_b, unp_t, unp_r, unp_l, putL, List.reverse_cons, List.reverse_nil, List.nil_append, List.cons_append, List.zip_cons_cons, List.zip_nil_left, List.zip_nil_right, List.length_cons, List.length_nil, lk_hit, lk_miss, sr_nil, sr_hit, sr_miss, st_none, al_none, al_some, put_none, put_some, bnd_ret, bnd_fail, bnd_stuck, bnd_bnd, lift_some', lift_none', noErr_ret, few_ok, sub_c, sub_d, sub_n, if_true, ite_true, dite_true, Bool.false_eq_true, if_false, bnd_id, at_t0, at_t1, at_r0, at_r1, at_l0, at_l1, add_i, sub_i, neg_i, lt_i, le_i, gt_i, ge_i, eq_i, ne_i, eq_r, ne_r, eq_s, ne_s, eq_l, ne_l, abs_i, min_i, ite_false, pvR_mk, pvL_mk, setR_lookup, st_some, flat_r, mu_isNone, Option.isNone_none, Option.isNone_some, Bool.not_true, Bool.not_false, decide_true, decide_false, Bool.and_true, Bool.true_and, reduceCtorEq, hl, hgt, hne, show atV (pvS a) (.int 0) = some (pvR (0, 1)) from hat]
    exact h
  · next h0 =>
    obtain ⟨d, h3, rfl, rfl⟩ := lift_some h
    obtain ⟨q, h4, rfl⟩ := Option.map_eq_some_iff.mp h3
    obtain ⟨ρ', e⟩ := sinv_rest ha h4
    cases hal : a with
    | nil =>
      subst hal
      simp (decide := true) only [m_sinverse, runF, seqM, asg, rtM, nilM, ifS, raS, stS, nmM, cM, unM, biM, tupM, lstM, callM, bltM, ifM, orM, getM, tcM, tvM, ntM, alM, anM, ivM, irM, rowM, allT, anyT, toB_b, unp_t, unp_r, unp_l, putL, List.reverse_cons, List.reverse_nil, List.nil_append, List.cons_append, List.zip_cons_cons, List.zip_nil_left, List.zip_nil_right, List.length_cons, List.length_nil, lk_hit, lk_miss, sr_nil, sr_hit, sr_miss, st_none, al_none, al_some, put_none, put_some, bnd_ret, bnd_fail, bnd_stuck, bnd_bnd, lift_some', lift_none', noErr_ret, few_ok, sub_c, sub_d, sub_n, if_true, ite_true, dite_true, Bool.false_eq_true, if_false, bnd_id, at_t0, at_t1, at_r0, at_r1, at_l0, at_l1, add_i, sub_i, neg_i, lt_i, le_i, gt_i, ge_i, eq_i, ne_i, eq_r, ne_r, eq_s, ne_s, eq_l, ne_l, abs_i, min_i, ite_false, pvR_mk, pvL_mk, setR_lookup, st_some, flat_r, mu_isNone, Option.isNone_none, Option.isNone_some, Bool.not_true, Bool.not_false, decide_true, decide_false, Bool.and_true, Bool.true_and, reduceCtorEq, hl, hgt, own, e]
      rfl
    | cons a0 a' =>
      have hat := at_s (a := a) (i := 0) (q := a0) (by omega) (by rw [hal]; rfl)
      have hz : ¬ a0 = (0, 1) := fun z => h0 (by rw [hal, z]; rfl)
      have hne : a ≠ [] := fun q => by (first | exact nn q (hal) | cases ss (hal) q | cases Eq.trans (Eq.symm (hal)) q | (rw [hal] at q; cases q))
      rw [← hal]
      simp (decide := true) only [m_sinverse, runF, seqM, asg, rtM, nilM, ifS, raS, stS, nmM, cM, unM, biM, tupM, lstM, callM, bltM, ifM, orM, getM, tcM, tvM, ntM, alM, anM, ivM, irM, rowM, allT, anyT, toB_b, unp_t, unp_r, unp_l, putL, List.reverse_cons, List.reverse_nil, List.nil_append, List.cons_append, List.zip_cons_cons, List.zip_nil_left, List.zip_nil_right, List.length_cons, List.length_nil, lk_hit, lk_miss, sr_nil, sr_hit, sr_miss, st_none, al_none, al_some, put_none, put_some, bnd_ret, bnd_fail, bnd_stuck, bnd_bnd, lift_some', lift_none', noErr_ret, few_ok, sub_c, sub_d, sub_n, if_true, ite_true, dite_true, Bool.false_eq_true, if_false, bnd_id, at_t0, at_t1, at_r0, at_r1, at_l0, at_l1, add_i, sub_i, neg_i, lt_i, le_i, gt_i, ge_i, eq_i, ne_i, eq_r, ne_r, eq_s, ne_s, eq_l, ne_l, abs_i, min_i, ite_false, pvR_mk, pvL_mk, setR_lookup, st_some, flat_r, mu_isNone, Option.isNone_none, Option.isNone_some, Bool.not_true, Bool.not_false, decide_true, decide_false, Bool.and_true, Bool.true_and, reduceCtorEq, hl, hgt, hne, hz, own, e, show atV (pvS a) (.int 0) = some (pvR a0) from hat]
      rfl

theorem sinvM_some {a : List Rt} {n n' : Int} {r : Except Str PV} (h : sinvM a n = some (r, n')) : a.length ≤ 400 := by
  unfold sinvM at h
  split at h
  · next q => exact q
  · cases h
theorem smul_len {a b r : List Rt} (h : smulO a b = some r) : r.length = min a.length b.length := by rw [mapO_len h, List.length_range]
theorem pow_loop : ∀ (N : Nat) (found base r : List Rt) (left : Nat) (σ : Sig), σ.mu = none → σ.ρ.lookup ("found" : Str) = some (pvS found) → σ.ρ.lookup ("base" : Str) = some (pvS base) → σ.ρ.lookup ("left" : Str) = some (.int left) → powO N found base left = some r →
    ∃ σ', whS N t_swhole_power_2 b_swhole_power_1 σ = ret (.next, σ') ∧ σ'.mu = none ∧ σ'.ρ.lookup ("found" : Str) = some (pvS r)
  | 0, _, _, _, _, _, _, _, _, _, h => by cases h
  | N + 1, found, base, r, left, σ, h0, h1, h2, h3, h => by
    obtain ⟨ρ, mu⟩ := σ
    dsimp only at h0 h1 h2 h3
    subst h0
    unfold powO at h
    have hgt : ((left : Int) > 0) ↔ ¬ left = 0 := by omega
    split at h
    · next hz =>
      cases h
      refine ⟨⟨ρ, none⟩, ?_, rfl, h1⟩
      unfold whS whileM t_swhole_power_2
      simp (decide := true) only [runF, seqM, asg, rtM, nilM, ifS, raS, stS, nmM, cM, unM, biM, tupM, lstM, callM, bltM, ifM, orM, getM, tcM, tvM, ntM, alM, anM, ivM, irM, rowM, allT, anyT, toB_b, unp_t, unp_r, unp_l, putL, List.reverse_cons, List.reverse_nil, List.nil_append, List.cons_append, List.zip_cons_cons, List.zip_nil_left, List.zip_nil_right, List.length_cons, List.length_nil, lk_hit, lk_miss, sr_nil, sr_hit, sr_miss, st_none, al_none, al_some, put_none, put_some, bnd_ret, bnd_fail, bnd_stuck, bnd_bnd, lift_some', lift_none', noErr_ret, few_ok, sub_c, sub_d, sub_n, if_true, ite_true, dite_true, Bool.false_eq_true, if_false, bnd_id, at_t0, at_t1, at_r0, at_r1, at_l0, at_l1, add_i, sub_i, neg_i, lt_i, le_i, gt_i, ge_i, eq_i, ne_i, eq_r, ne_r, eq_s, ne_s, eq_l, ne_l, abs_i, min_i, ite_false, pvR_mk, pvL_mk, setR_lookup, st_some, flat_r, mu_isNone, Option.isNone_none, Option.isNone_some, Bool.not_true, Bool.not_false, decide_true, decide_false, Bool.and_true, Bool.true_and, reduceCtorEq, h3, hgt, hz]
    · next hz =>
      split at h
      case isFalse => cases h
      next hlen =>
      obtain ⟨found', hf, h⟩ := Option.bind_eq_some_iff.mp h
      obtain ⟨base', hb, h⟩ := Option.bind_eq_some_iff.mp h
      have hmod : ((left : Int).fmod 2) = ((left % 2 : Nat) : Int) := by rw [Int.fmod_eq_emod_of_nonneg _ (by decide)]; rfl
      have hdiv : ((left : Int).fdiv 2) = ((left / 2 : Nat) : Int) := by rw [Int.fdiv_eq_ediv_of_nonneg _ (by decide)]; rfl
      have h1' : (((left % 2 : Nat) : Int) = 1) ↔ left % 2 = 1 := by omega
      have hsq : sp_smul [pvS base, pvS base] = ret (pvS base') := spSS_of hlen.2 hlen.2 hb
      have ih := fun σ' => pow_loop N found' base' r (left / 2) σ'
      unfold whS at ih ⊢
      by_cases ho : left % 2 = 1
      · rw [if_pos ho] at hf
        have hfb : sp_smul [pvS found, pvS base] = ret (pvS found') := spSS_of hlen.1 hlen.2 hf
        obtain ⟨σ', e1, e2, e3⟩ := ih ⟨setR "left" (.int (left / 2 : Nat)) (setR "base" (pvS base') (setR "found" (pvS found') ρ)), none⟩ rfl (by simp (decide := true) only [runF, seqM, asg, rtM, nilM, ifS, raS, stS, nmM, cM, unM, biM, tupM, lstM, callM, bltM, ifM, orM, getM, tcM, tvM, ntM, alM, anM, ivM, irM, rowM, allT, anyT, toB_b, unp_t, unp_r, unp_l, putL, List.reverse_cons, List.reverse_nil, List.nil_append, List.cons_append, List.zip_cons_cons, List.zip_nil_left, List.zip_nil_right, List.length_cons, List.length_nil, lk_hit, lk_miss, sr_nil, sr_hit, sr_miss, st_none, al_none, al_some, put_none, put_some, bnd_ret, bnd_fail, bnd_stuck, bnd_bnd, lift_some', lift_none', noErr_ret, few_ok, sub_c, sub_d, sub_n, if_true, ite_true, dite_true, Bool.false_eq_true, if_false, bnd_id, at_t0, at_t1, at_r0, at_r1, at_l0, at_l1, add_i, sub_i, neg_i, lt_i, le_i, gt_i, ge_i, eq_i, ne_i, eq_r, ne_r, eq_s, ne_s, eq_l, ne_l, abs_i, min_i, ite_false, pvR_mk, pvL_mk, setR_lookup, st_some, flat_r, mu_isNone, Option.isNone_none, Option.isNone_some, Bool.not_true, Bool.not_false, decide_true, decide_false, Bool.and_true, Bool.true_and, reduceCtorEq]) (by simp (decide := true) only [runF, seqM, asg, rtM, nilM, ifS, raS, stS, nmM, cM, unM, biM, tupM, lstM, callM, bltM, ifM, orM, getM, tcM, tvM, ntM, alM, anM, ivM, irM, rowM, allT, anyT, toB_b, unp_t, unp_r, unp_l, putL, List.reverse_cons, List.reverse_nil, List.nil_append, List.cons_append, List.zip_cons_cons, List.zip_nil_left, List.zip_nil_right, List.length_cons, List.length_nil, lk_hit, lk_miss, sr_nil, sr_hit, sr_miss, st_none, al_none, al_some, put_none, put_some, bnd_ret, bnd_fail, bnd_stuck, bnd_bnd, lift_some', lift_none', noErr_ret, few_ok, sub_c, sub_d, sub_n, if_true, ite_true, dite_true, Bool.false_eq_true, if_false, bnd_id, at_t0, at_t1, at_r0, at_r1, at_l0, at_l1, add_i, sub_i, neg_i, lt_i, le_i, gt_i, ge_i, eq_i, ne_i, eq_r, ne_r, eq_s, ne_s, eq_l, ne_l, abs_i, min_i, ite_false, pvR_mk, pvL_mk, setR_lookup, st_some, flat_r, mu_isNone, Option.isNone_none, Option.isNone_some, Bool.not_true, Bool.not_false, decide_true, decide_false, Bool.and_true, Bool.true_and, reduceCtorEq]) (by simp (decide := true) only [runF, seqM, asg, rtM, nilM, ifS, raS, stS, nmM, cM, unM, biM, tupM, lstM, callM, bltM, ifM, orM, getM, tcM, tvM, ntM, alM, anM, ivM, irM, rowM, allT, anyT, toB_b, unp_t, unp_r, unp_l, putL, List.reverse_cons, List.reverse_nil, List.nil_append, List.cons_append, List.zip_cons_cons, List.zip_nil_left, List.zip_nil_right, List.length_cons, List.length_nil, lk_hit, lk_miss, sr_nil, sr_hit, sr_miss, st_none, al_none, al_some, put_none, put_some, bnd_ret, bnd_fail, bnd_stuck, bnd_bnd, lift_some', lift_none', noErr_ret, few_ok, sub_c, sub_d, sub_n, if_true, ite_true, dite_true, Bool.false_eq_true, if_false, bnd_id, at_t0, at_t1, at_r0, at_r1, at_l0, at_l1, add_i, sub_i, neg_i, lt_i, le_i, gt_i, ge_i, eq_i, ne_i, eq_r, ne_r, eq_s, ne_s, eq_l, ne_l, abs_i, min_i, ite_false, pvR_mk, pvL_mk, setR_lookup, st_some, flat_r, mu_isNone, Option.isNone_none, Option.isNone_some, Bool.not_true, Bool.not_false, decide_true, decide_false, Bool.and_true, Bool.true_and, reduceCtorEq]) h
        refine ⟨σ', ?_, e2, e3⟩
        rw [← e1]
        simp (decide := true) only [whileM, t_swhole_power_2, b_swhole_power_1, runF, seqM, asg, rtM, nilM, ifS, raS, stS, nmM, cM, unM, biM, tupM, lstM, callM, bltM, ifM, orM, getM, tcM, tvM, ntM, alM, anM, ivM, irM, rowM, allT, anyT, toB_b, unp_t, unp_r, unp_l, putL, List.reverse_cons, List.reverse_nil, List.nil_append, List.cons_append, List.zip_cons_cons, List.zip_nil_left, List.zip_nil_right, List.length_cons, List.length_nil, lk_hit, lk_miss, sr_nil, sr_hit, sr_miss, st_none, al_none, al_some, put_none, put_some, bnd_ret, bnd_fail, bnd_stuck, bnd_bnd, lift_some', lift_none', noErr_ret, few_ok, sub_c, sub_d, sub_n, if_true, ite_true, dite_true, Bool.false_eq_true, if_false, bnd_id, at_t0, at_t1, at_r0, at_r1, at_l0, at_l1, add_i, sub_i, neg_i, lt_i, le_i, gt_i, ge_i, eq_i, ne_i, eq_r, ne_r, eq_s, ne_s, eq_l, ne_l, abs_i, min_i, ite_false, pvR_mk, pvL_mk, setR_lookup, st_some, flat_r, mu_isNone, Option.isNone_none, Option.isNone_some, Bool.not_true, Bool.not_false, decide_true, decide_false, Bool.and_true, Bool.true_and, reduceCtorEq, h1, h2, h3, hgt, hz, mod_i (show (2 : Int) ≠ 0 by decide), fdiv_i (show (2 : Int) ≠ 0 by decide) (show small 2 = true by decide), hmod, hdiv, h1', ho, hfb, hsq]
      · rw [if_neg ho] at hf
        cases hf
        obtain ⟨σ', e1, e2, e3⟩ := ih ⟨setR "left" (.int (left / 2 : Nat)) (setR "base" (pvS base') ρ), none⟩ rfl (by simp (decide := true) only [runF, seqM, asg, rtM, nilM, ifS, raS, stS, nmM, cM, unM, biM, tupM, lstM, callM, bltM, ifM, orM, getM, tcM, tvM, ntM, alM, anM, ivM, irM, rowM, allT, anyT, toB_b, unp_t, unp_r, unp_l, putL, List.reverse_cons, List.reverse_nil, List.nil_append, List.cons_append, List.zip_cons_cons, List.zip_nil_left, List.zip_nil_right, List.length_cons, List.length_nil, lk_hit, lk_miss, sr_nil, sr_hit, sr_miss, st_none, al_none, al_some, put_none, put_some, bnd_ret, bnd_fail, bnd_stuck, bnd_bnd, lift_some', lift_none', noErr_ret, few_ok, sub_c, sub_d, sub_n, if_true, ite_true, dite_true, Bool.false_eq_true, if_false, bnd_id, at_t0, at_t1, at_r0, at_r1, at_l0, at_l1, add_i, sub_i, neg_i, lt_i, le_i, gt_i, ge_i, eq_i, ne_i, eq_r, ne_r, eq_s, ne_s, eq_l, ne_l, abs_i, min_i, ite_false, pvR_mk, pvL_mk, setR_lookup, st_some, flat_r, mu_isNone, Option.isNone_none, Option.isNone_some, Bool.not_true, Bool.not_false, decide_true, decide_false, Bool.and_true, Bool.true_and, reduceCtorEq, h1]) (by simp (decide := true) only [runF, seqM, asg, rtM, nilM, ifS, raS, stS, nmM, cM, unM, biM, tupM, lstM, callM, bltM, ifM, orM, getM, tcM, tvM, ntM, alM, anM, ivM, irM, rowM, allT, anyT, toB_b, unp_t, unp_r, unp_l, putL, List.reverse_cons, List.reverse_nil, List.nil_append, List.cons_append, List.zip_cons_cons, List.zip_nil_left, List.zip_nil_right, List.length_cons, List.length_nil, lk_hit, lk_miss, sr_nil, sr_hit, sr_miss, st_none, al_none, al_some, put_none, put_some, bnd_ret, bnd_fail, bnd_stuck, bnd_bnd, lift_some', lift_none', noErr_ret, few_ok, sub_c, sub_d, sub_n, if_true, ite_true, dite_true, Bool.false_eq_true, if_false, bnd_id, at_t0, at_t1, at_r0, at_r1, at_l0, at_l1, add_i, sub_i, neg_i, lt_i, le_i, gt_i, ge_i, eq_i, ne_i, eq_r, ne_r, eq_s, ne_s, eq_l, ne_l, abs_i, min_i, ite_false, pvR_mk, pvL_mk, setR_lookup, st_some, flat_r, mu_isNone, Option.isNone_none, Option.isNone_some, Bool.not_true, Bool.not_false, decide_true, decide_false, Bool.and_true, Bool.true_and, reduceCtorEq]) (by simp (decide := true) only [runF, seqM, asg, rtM, nilM, ifS, raS, stS, nmM, cM, unM, biM, tupM, lstM, callM, bltM, ifM, orM, getM, tcM, tvM, ntM, alM, anM, ivM, irM, rowM, allT, anyT, toB_b, unp_t, unp_r, unp_l, putL, List.reverse_cons, List.reverse_nil, List.nil_append, List.cons_append, List.zip_cons_cons, List.zip_nil_left, List.zip_nil_right, List.length_cons, List.length_nil, lk_hit, lk_miss, sr_nil, sr_hit, sr_miss, st_none, al_none, al_some, put_none, put_some, bnd_ret, bnd_fail, bnd_stuck, bnd_bnd, lift_some', lift_none', noErr_ret, few_ok, sub_c, sub_d, sub_n, if_true, ite_true, dite_true, Bool.false_eq_true, if_false, bnd_id, at_t0, at_t1, at_r0, at_r1, at_l0, at_l1, add_i, sub_i, neg_i, lt_i, le_i, gt_i, ge_i, eq_i, ne_i, eq_r, ne_r, eq_s, ne_s, eq_l, ne_l, abs_i, min_i, ite_false, pvR_mk, pvL_mk, setR_lookup, st_some, flat_r, mu_isNone, Option.isNone_none, Option.isNone_some, Bool.not_true, Bool.not_false, decide_true, decide_false, Bool.and_true, Bool.true_and, reduceCtorEq]) h
        refine ⟨σ', ?_, e2, e3⟩
        rw [← e1]
        simp (decide := true) only [whileM, t_swhole_power_2, b_swhole_power_1, runF, seqM, asg, rtM, nilM, ifS, raS, stS, nmM, cM, unM, biM, tupM, lstM, callM, bltM, ifM, orM, getM, tcM, tvM, ntM, alM, anM, ivM, irM, rowM, allT, anyT, toB_b, unp_t, unp_r, unp_l, putL, List.reverse_cons, List.reverse_nil, List.nil_append, List.cons_append, List.zip_cons_cons, List.zip_nil_left, List.zip_nil_right, List.length_cons, List.length_nil, lk_hit, lk_miss, sr_nil, sr_hit, sr_miss, st_none, al_none, al_some, put_none, put_some, bnd_ret, bnd_fail, bnd_stuck, bnd_bnd, lift_some', lift_none', noErr_ret, few_ok, sub_c, sub_d, sub_n, if_true, ite_true, dite_true, Bool.false_eq_true, if_false, bnd_id, at_t0, at_t1, at_r0, at_r1, at_l0, at_l1, add_i, sub_i, neg_i, lt_i, le_i, gt_i, ge_i, eq_i, ne_i, eq_r, ne_r, eq_s, ne_s, eq_l, ne_l, abs_i, min_i, ite_false, pvR_mk, pvL_mk, setR_lookup, st_some, flat_r, mu_isNone, Option.isNone_none, Option.isNone_some, Bool.not_true, Bool.not_false, decide_true, decide_false, Bool.and_true, Bool.true_and, reduceCtorEq, h1, h2, h3, hgt, hz, mod_i (show (2 : Int) ≠ 0 by decide), fdiv_i (show (2 : Int) ≠ 0 by decide) (show small 2 = true by decide), hmod, hdiv, h1', ho, hsq]
noncomputable def rest_pow : Sig → M (Fl × Sig) := (seqM (asg (tupM [(callM sp_cut [(lstM [(cM (pvR (1, 1)))]), (bltM lenV [(nmM "a")])]), (bltM absV [(nmM "many")])]) (unp 2 fun ds => putL [put "left", put "found"] ds.reverse)) (seqM (whS 2000 t_swhole_power_2 b_swhole_power_1) (seqM (rtM (nmM "found")) nilM)))
theorem m_pow_eq : m_swhole_power = seqM (asg (ifM (tcM ltV (nmM "many") (cM (.int 0))) (callM sp_sinverse [(nmM "a")]) (nmM "a")) (put "base")) rest_pow := rfl
theorem bnd_imp {α β : Type} {m : M α} {f g : α → M β} {n n' : Int} {r : Except Str β} (h : ∀ a n, g a n = some (r, n') → f a n = some (r, n')) (e : bnd m g n = some (r, n')) : bnd m f n = some (r, n') := by
  rcases bnd_some e with ⟨a, n₁, e1, e2⟩ | ⟨k, e1, rfl⟩
  · rw [bnd_of e1]; exact h _ _ e2
  · unfold bnd; rw [e1]
theorem u_swhole_power {a : List Rt} {many : Int} : ∀ n r n', powM a many n = some (r, n') → runF ["a", "many"] m_swhole_power [pvS a, .int many] n = some (r, n') := by
  intro n r n' h
  unfold powM at h
  split at h
  case isFalse => cases h
  next hg =>
  have hl : lenV [pvS a] = some (.int a.length) := len_s (by omega)
  have hcut : sp_cut [pvS [(1, 1)], .int a.length] = ret (pvS (cutI [(1, 1)] a.length)) := by
    have := sp_cut_of (a := [(1, 1)]) (o := a.length) (by omega) (by omega) (by simp)
    rw [Int.toNat_natCast] at this; exact this
  have fin : ∀ base ρ, ρ.lookup ("a" : Str) = some (pvS a) → ρ.lookup ("many" : Str) = some (.int many) → ρ.lookup ("base" : Str) = some (pvS base) → ∀ n, (lift ((powO 2000 (cutI [(1, 1)] a.length) base many.natAbs).map pvS) : M PV) n = some (r, n') →
      ∃ (σ' : Sig) (d : PV), rest_pow ⟨ρ, none⟩ n = some (.ok (.ret d, σ'), n') ∧ r = .ok d := by
    intro base ρ r1 r2 r3 n h
    obtain ⟨d, h3, rfl, rfl⟩ := lift_some h
    obtain ⟨q, h4, rfl⟩ := Option.map_eq_some_iff.mp h3
    obtain ⟨⟨ρ', mu'⟩, e1, e2, e3⟩ := pow_loop 2000 (cutI [(1, 1)] a.length) base q many.natAbs ⟨setR "found" (pvS (cutI [(1, 1)] a.length)) (setR "left" (.int many.natAbs) ρ), none⟩ rfl (by simp (decide := true) only [runF, seqM, asg, rtM, nilM, ifS, raS, stS, nmM, cM, unM, biM, tupM, lstM, callM, bltM, ifM, orM, getM, tcM, tvM, ntM, alM, anM, ivM, irM, rowM, allT, anyT, toB_b, unp_t, unp_r, unp_l, putL, List.reverse_cons, List.reverse_nil, List.nil_append, List.cons_append, List.zip_cons_cons, List.zip_nil_left, List.zip_nil_right, List.length_cons, List.length_nil, lk_hit, lk_miss, sr_nil, sr_hit, sr_miss, st_none, al_none, al_some, put_none, put_some, bnd_ret, bnd_fail, bnd_stuck, bnd_bnd, lift_some', lift_none', noErr_ret, few_ok, sub_c, sub_d, sub_n, if_true, ite_true, dite_true, Bool.false_eq_true, if_false, bnd_id, at_t0, at_t1, at_r0, at_r1, at_l0, at_l1, add_i, sub_i, neg_i, lt_i, le_i, gt_i, ge_i, eq_i, ne_i, eq_r, ne_r, eq_s, ne_s, eq_l, ne_l, abs_i, min_i, ite_false, pvR_mk, pvL_mk, setR_lookup, st_some, flat_r, mu_isNone, Option.isNone_none, Option.isNone_some, Bool.not_true, Bool.not_false, decide_true, decide_false, Bool.and_true, Bool.true_and, reduceCtorEq]) (by simp (decide := true) only [runF, seqM, asg, rtM, nilM, ifS, raS, stS, nmM, cM, unM, biM, tupM, lstM, callM, bltM, ifM, orM, getM, tcM, tvM, ntM, alM, anM, ivM, irM, rowM, allT, anyT, toB_b, unp_t, unp_r, unp_l, putL, List.reverse_cons, List.reverse_nil, List.nil_append, List.cons_append, List.zip_cons_cons, List.zip_nil_left, List.zip_nil_right, List.length_cons, List.length_nil, lk_hit, lk_miss, sr_nil, sr_hit, sr_miss, st_none, al_none, al_some, put_none, put_some, bnd_ret, bnd_fail, bnd_stuck, bnd_bnd, lift_some', lift_none', noErr_ret, few_ok, sub_c, sub_d, sub_n, if_true, ite_true, dite_true, Bool.false_eq_true, if_false, bnd_id, at_t0, at_t1, at_r0, at_r1, at_l0, at_l1, add_i, sub_i, neg_i, lt_i, le_i, gt_i, ge_i, eq_i, ne_i, eq_r, ne_r, eq_s, ne_s, eq_l, ne_l, abs_i, min_i, ite_false, pvR_mk, pvL_mk, setR_lookup, st_some, flat_r, mu_isNone, Option.isNone_none, Option.isNone_some, Bool.not_true, Bool.not_false, decide_true, decide_false, Bool.and_true, Bool.true_and, reduceCtorEq, r3]) (by simp (decide := true) only [runF, seqM, asg, rtM, nilM, ifS, raS, stS, nmM, cM, unM, biM, tupM, lstM, callM, bltM, ifM, orM, getM, tcM, tvM, ntM, alM, anM, ivM, irM, rowM, allT, anyT, toB_b, unp_t, unp_r, unp_l, putL, List.reverse_cons, List.reverse_nil, List.nil_append, List.cons_append, List.zip_cons_cons, List.zip_nil_left, List.zip_nil_right, List.length_cons, List.length_nil, lk_hit, lk_miss, sr_nil, sr_hit, sr_miss, st_none, al_none, al_some, put_none, put_some, bnd_ret, bnd_fail, bnd_stuck, bnd_bnd, lift_some', lift_none', noErr_ret, few_ok, sub_c, sub_d, sub_n, if_true, ite_true, dite_true, Bool.false_eq_true, if_false, bnd_id, at_t0, at_t1, at_r0, at_r1, at_l0, at_l1, add_i, sub_i, neg_i, lt_i, le_i, gt_i, ge_i, eq_i, ne_i, eq_r, ne_r, eq_s, ne_s, eq_l, ne_l, abs_i, min_i, ite_false, pvR_mk, pvL_mk, setR_lookup, st_some, flat_r, mu_isNone, Option.isNone_none, Option.isNone_some, Bool.not_true, Bool.not_false, decide_true, decide_false, Bool.and_true, Bool.true_and, reduceCtorEq]) h4
    dsimp only at e2 e3
    subst e2
    refine ⟨⟨ρ', none⟩, pvS q, ?_, rfl⟩
    simp (decide := true) only [rest_pow, runF, seqM, asg, rtM, nilM, ifS, raS, stS, nmM, cM, unM, biM, tupM, lstM, callM, bltM, ifM, orM, getM, tcM, tvM, ntM, alM, anM, ivM, irM, rowM, allT, anyT, toB_b, unp_t, unp_r, unp_l, putL, List.reverse_cons, List.reverse_nil, List.nil_append, List.cons_append, List.zip_cons_cons, List.zip_nil_left, List.zip_nil_right, List.length_cons, List.length_nil, lk_hit, lk_miss, sr_nil, sr_hit, sr_miss, st_none, al_none, al_some, put_none, put_some, bnd_ret, bnd_fail, bnd_stuck, bnd_bnd, lift_some', lift_none', noErr_ret, few_ok, sub_c, sub_d, sub_n, if_true, ite_true, dite_true, Bool.false_eq_true, if_false, bnd_id, at_t0, at_t1, at_r0, at_r1, at_l0, at_l1, add_i, sub_i, neg_i, lt_i, le_i, gt_i, ge_i, eq_i, ne_i, eq_r, ne_r, eq_s, ne_s, eq_l, ne_l, abs_i, min_i, ite_false, pvR_mk, pvL_mk, setR_lookup, st_some, flat_r, mu_isNone, Option.isNone_none, Option.isNone_some, Bool.not_true, Bool.not_false, decide_true, decide_false, Bool.and_true, Bool.true_and, reduceCtorEq, hl, pvS_one, hcut, r1, r2]
    rw [e1]
    simp (decide := true) only [runF, seqM, asg, rtM, nilM, ifS, raS, stS, nmM, cM, unM, biM, tupM, lstM, callM, bltM, ifM, orM, getM, tcM, tvM, ntM, alM, anM, ivM, irM, rowM, allT, anyT, toB_b, unp_t, unp_r, unp_l, putL, List.reverse_cons, List.reverse_nil, List.nil_append, List.cons_append, List.zip_cons_cons, List.zip_nil_left, List.zip_nil_right, List.length_cons, List.length_nil, lk_hit, lk_miss, sr_nil, sr_hit, sr_miss, st_none, al_none, al_some, put_none, put_some, bnd_ret, bnd_fail, bnd_stuck, bnd_bnd, lift_some', lift_none', noErr_ret, few_ok, sub_c, sub_d, sub_n, if_true, ite_true, dite_true, Bool.false_eq_true, if_false, bnd_id, at_t0, at_t1, at_r0, at_r1, at_l0, at_l1, add_i, sub_i, neg_i, lt_i, le_i, gt_i, ge_i, eq_i, ne_i, eq_r, ne_r, eq_s, ne_s, eq_l, ne_l, abs_i, min_i, ite_false, pvR_mk, pvL_mk, setR_lookup, st_some, flat_r, mu_isNone, Option.isNone_none, Option.isNone_some, Bool.not_true, Bool.not_false, decide_true, decide_false, Bool.and_true, Bool.true_and, reduceCtorEq, e3]
    rfl
  have fin2 : ∀ d n, serM d (fun base => lift ((powO 2000 (cutI [(1, 1)] a.length) base many.natAbs).map pvS)) n = some (r, n') →
      (bnd (rest_pow ⟨[("a", pvS a), ("many", .int many), ("base", d)], none⟩) fun q => match q.1 with | .ret d => ret d | .next => ret .none) n = some (r, n') := by
    intro d n h
    obtain ⟨base, rfl, h2⟩ := serM_some h
    obtain ⟨σ', d, e1, rfl⟩ := fin base [("a", pvS a), ("many", .int many), ("base", pvS base)] rfl rfl rfl n h2
    rw [bnd_of e1]; rfl
  by_cases hm : many < 0
  · rw [if_pos hm] at h
    have e : runF ["a", "many"] m_swhole_power [pvS a, .int many] = bnd (sinvM a) fun d => bnd (rest_pow ⟨[("a", pvS a), ("many", .int many), ("base", d)], none⟩) fun q => match q.1 with | .ret d => ret d | .next => ret .none := by
      rw [m_pow_eq]
      simp (decide := true) only [runF, seqM, asg, rtM, nilM, ifS, raS, stS, nmM, cM, unM, biM, tupM, lstM, callM, bltM, ifM, orM, getM, tcM, tvM, ntM, alM, anM, ivM, irM, rowM, allT, anyT, toB_b, unp_t, unp_r, unp_l, putL, List.reverse_cons, List.reverse_nil, List.nil_append, List.cons_append, List.zip_cons_cons, List.zip_nil_left, List.zip_nil_right, List.length_cons, List.length_nil, lk_hit, lk_miss, sr_nil, sr_hit, sr_miss, st_none, al_none, al_some, put_none, put_some, bnd_ret, bnd_fail, bnd_stuck, bnd_bnd, lift_some', lift_none', noErr_ret, few_ok, sub_c, sub_d, sub_n, if_true, ite_true, dite_true, Bool.false_eq_true, if_false, bnd_id, at_t0, at_t1, at_r0, at_r1, at_l0, at_l1, add_i, sub_i, neg_i, lt_i, le_i, gt_i, ge_i, eq_i, ne_i, eq_r, ne_r, eq_s, ne_s, eq_l, ne_l, abs_i, min_i, ite_false, pvR_mk, pvL_mk, setR_lookup, st_some, flat_r, mu_isNone, Option.isNone_none, Option.isNone_some, Bool.not_true, Bool.not_false, decide_true, decide_false, Bool.and_true, Bool.true_and, reduceCtorEq, hm, show sp_sinverse [pvS a] = sinvM a from serM_pv]
      all_goals rfl
    rw [e]
    exact bnd_imp fin2 h
  · rw [if_neg hm] at h
    have e : runF ["a", "many"] m_swhole_power [pvS a, .int many] = bnd (rest_pow ⟨[("a", pvS a), ("many", .int many), ("base", pvS a)], none⟩) fun q => match q.1 with | .ret d => ret d | .next => ret .none := by
      rw [m_pow_eq]
      simp (decide := true) only [runF, seqM, asg, rtM, nilM, ifS, raS, stS, nmM, cM, unM, biM, tupM, lstM, callM, bltM, ifM, orM, getM, tcM, tvM, ntM, alM, anM, ivM, irM, rowM, allT, anyT, toB_b, unp_t, unp_r, unp_l, putL, List.reverse_cons, List.reverse_nil, List.nil_append, List.cons_append, List.zip_cons_cons, List.zip_nil_left, List.zip_nil_right, List.length_cons, List.length_nil, lk_hit, lk_miss, sr_nil, sr_hit, sr_miss, st_none, al_none, al_some, put_none, put_some, bnd_ret, bnd_fail, bnd_stuck, bnd_bnd, lift_some', lift_none', noErr_ret, few_ok, sub_c, sub_d, sub_n, if_true, ite_true, dite_true, Bool.false_eq_true, if_false, bnd_id, at_t0, at_t1, at_r0, at_r1, at_l0, at_l1, add_i, sub_i, neg_i, lt_i, le_i, gt_i, ge_i, eq_i, ne_i, eq_r, ne_r, eq_s, ne_s, eq_l, ne_l, abs_i, min_i, ite_false, pvR_mk, pvL_mk, setR_lookup, st_some, flat_r, mu_isNone, Option.isNone_none, Option.isNone_some, Bool.not_true, Bool.not_false, decide_true, decide_false, Bool.and_true, Bool.true_and, reduceCtorEq, hm]
      all_goals rfl
    rw [e]
    exact fin2 _ _ h

section
variable {wd : Wd}
theorem k_sinverse (C : Wld wd) : Fn wd 5 "sinverse" sp_sinverse := (f_sinverse C (k_rsub C) (k_rmul C) (k_rdiv C)).sub fun ds n r n' e => by
  unfold sp_sinverse at e
  split at e
  · obtain ⟨a, rfl, h⟩ := serM_some e
    exact u_sinverse (sinvM_some h) _ _ _ h
  · cases e
theorem k_swhole_power (C : Wld wd) : Fn wd 7 "swhole_power" sp_swhole_power := (f_swhole_power C (k_cut C) (k_smul C) (k_sinverse C)).sub fun ds n r n' e => by
  unfold sp_swhole_power at e
  split at e
  · obtain ⟨a, rfl, h⟩ := serM_some e
    exact u_swhole_power _ _ _ h
  · cases e
end
end Lz
set_option linter.unusedSimpArgs false
namespace Lz
open PySem PySem.W PyProof.Rows

noncomputable def trimI : Int → List Rt → Int × List Rt
  | low, [] => (low, [])
  | low, x :: r => if x = (0, 1) then trimI (low + 1) r else (low, x :: r)
noncomputable def movI (p : Int × List Rt) (low : Int) : List Rt := List.replicate (p.1 - low).toNat (0, 1) ++ p.2
noncomputable def negR (q : Rt) : Rt := (0 - q.1, q.2)
noncomputable def sp_lplain : List PV → M PV
  | [x, .int many] => lift ((rt? x).bind fun q => if 1 ≤ many ∧ many ≤ 400 then some (pvL (0, q :: List.replicate (many - 1).toNat (0, 1))) else none)
  | _ => stuck
noncomputable def sp_lmoved : List PV → M PV
  | [x, .int low] => lauM x fun p => if p.1 - low ≤ 400 ∧ -400 ≤ p.1 - low ∧ p.2.length ≤ 400 then ret (pvL (low, movI p low)) else stuck
  | _ => stuck
noncomputable def laddO (p q : Int × List Rt) : Option (Int × List Rt) := (saddO (movI p (if q.1 < p.1 then q.1 else p.1)) (movI q (if q.1 < p.1 then q.1 else p.1))).map fun s => ((if q.1 < p.1 then q.1 else p.1), s)
noncomputable def lmulO (p q : Int × List Rt) : Option (Int × List Rt) := (smulO p.2 q.2).map fun s => (p.1 + q.1, s)
abbrev okL2 (p q : Int × List Rt) : Prop := -100 ≤ p.1 ∧ p.1 ≤ 100 ∧ -100 ≤ q.1 ∧ q.1 ≤ 100 ∧ p.2.length ≤ 100 ∧ q.2.length ≤ 100
noncomputable def spLL (f : Int × List Rt → Int × List Rt → Option (Int × List Rt)) : List PV → M PV
  | [x, y] => lauM x fun p => lauM y fun q => if okL2 p q then lift ((f p q).map pvL) else stuck
  | _ => stuck
noncomputable def sp_ladd : List PV → M PV := spLL laddO
noncomputable def sp_lmul : List PV → M PV := spLL lmulO
noncomputable def spL (f : Int × List Rt → M PV) : List PV → M PV
  | [x] => lauM x fun p => if p.2.length ≤ 400 then f p else stuck
  | _ => stuck
noncomputable def sp_lneg : List PV → M PV := spL fun p => ret (pvL (p.1, p.2.map negR))
noncomputable def sp_ltrim : List PV → M PV := spL fun p => ret (pvL (trimI p.1 p.2))
noncomputable def linvM (p : Int × List Rt) : M PV := if (trimI p.1 p.2).2 = [] then fail "limit" else bnd (sinvM (trimI p.1 p.2).2) fun s => ret (.tup [.int (0 - (trimI p.1 p.2).1), s])
noncomputable def sp_linverse : List PV → M PV := spL linvM
noncomputable def lpow0 (p : Int × List Rt) (many : Int) : M PV := if many = 0 then ret (pvL (0, (1, 1) :: List.replicate (p.2.length - 1) (0, 1))) else
  bnd (powM (trimI p.1 p.2).2 many) fun s => ret (.tup [.int ((trimI p.1 p.2).1 * many), s])
noncomputable def sp_lpower0 : List PV → M PV
  | [x, .int many] => lauM x fun p => if p.2.length ≤ 400 ∧ 0 ≤ many ∧ many ≤ 400 then lpow0 p many else stuck
  | _ => stuck
noncomputable def sp_lpower : List PV → M PV
  | [x, .int many] => lauM x fun p => if p.2.length ≤ 400 ∧ -400 ≤ many ∧ many ≤ 400 then (if many < 0 then bnd (linvM p) fun y => sp_lpower0 [y, .int (0 - many)] else lpow0 p many) else stuck
  | _ => stuck
noncomputable def lcutM (p : Int × List Rt) (e : Int) : M PV :=
  if (trimI p.1 p.2).2 ≠ [] ∧ (trimI p.1 p.2).1 < 0 then fail "domain" else if (trimI p.1 p.2).1 + (trimI p.1 p.2).2.length < e then ret .none
  else ret (pvS (if (trimI p.1 p.2).1 ≥ 0 then (List.replicate (trimI p.1 p.2).1.toNat (0, 1) ++ (trimI p.1 p.2).2).take e.toNat else List.replicate e.toNat (0, 1)))
noncomputable def sp_lcut : List PV → M PV
  | [x, .int e] => lauM x fun p => if p.2.length ≤ 100 ∧ -100 ≤ p.1 ∧ p.1 ≤ 100 ∧ 0 ≤ e ∧ e ≤ 100 then lcutM p e else stuck
  | _ => stuck
noncomputable def m_lplain : Sig → M (Fl × Sig) := (seqM (rtM (tupM [(cM (.int 0)), (biM addV (lstM [(nmM "number")]) (biM mulV (lstM [(cM (pvR (0, 1)))]) (biM subV (nmM "many") (cM (.int 1)))))])) nilM)
set_option maxHeartbeats 4000000 in
theorem v_lplain {wd : Wd} (C : Wld wd) : Sv wd (sco 21) 1 (execs (bd 21)) (m_lplain) := (Sv.cons (S.rt (X.tup (X.rc X.int (X.rc (X.bin (X.lst (X.rc X.nm X.rn)) (X.bin (X.lst (X.rc (C.r0 (by rfl)) X.rn)) (X.bin X.nm X.int op_sub) op_mul) op_add) X.rn)))) S.nil)
theorem f_lplain {wd : Wd} (C : Wld wd) : Fn wd 2 "lplain" (runF ["number", "many"] (m_lplain)) := Fn.mk C.at21 (v_lplain C) (fun _ _ _ => len2 fun a b => rfl) (by decide) (by decide)
noncomputable def m_lmoved : Sig → M (Fl × Sig) := (seqM (rtM (tupM [(nmM "low"), (biM addV (biM mulV (lstM [(cM (pvR (0, 1)))]) (biM subV (biM atV (nmM "a") (cM (.int 0))) (nmM "low"))) (biM atV (nmM "a") (cM (.int 1))))])) nilM)
set_option maxHeartbeats 4000000 in
theorem v_lmoved {wd : Wd} (C : Wld wd) : Sv wd (sco 22) 1 (execs (bd 22)) (m_lmoved) := (Sv.cons (S.rt (X.tup (X.rc X.nm (X.rc (X.bin (X.bin (X.lst (X.rc (C.r0 (by rfl)) X.rn)) (X.bin (X.at X.nm X.int) X.nm op_sub) op_mul) (X.at X.nm X.int) op_add) X.rn)))) S.nil)
theorem f_lmoved {wd : Wd} (C : Wld wd) : Fn wd 2 "lmoved" (runF ["a", "low"] (m_lmoved)) := Fn.mk C.at22 (v_lmoved C) (fun _ _ _ => len2 fun a b => rfl) (by decide) (by decide)
noncomputable def m_ladd : Sig → M (Fl × Sig) := (seqM (asg (bltM minV [(biM atV (nmM "a") (cM (.int 0))), (biM atV (nmM "b") (cM (.int 0)))]) (put "low")) (seqM (rtM (tupM [(nmM "low"), (callM sp_sadd [(biM atV (callM sp_lmoved [(nmM "a"), (nmM "low")]) (cM (.int 1))), (biM atV (callM sp_lmoved [(nmM "b"), (nmM "low")]) (cM (.int 1)))])])) nilM))
set_option maxHeartbeats 4000000 in
theorem v_ladd {wd : Wd} (C : Wld wd) (h_sadd : Fn wd 5 "sadd" sp_sadd) (h_lmoved : Fn wd 2 "lmoved" sp_lmoved) : Sv wd (sco 23) 5 (execs (bd 23)) (m_ladd) := (Sv.cons (Sv.assign (X.blt C.min (.inl ⟨_, rfl⟩) opN_min (by rfl) (X.rc (X.at X.nm X.int) (X.rc (X.at X.nm X.int) X.rn))) (Av.name (by first | exact .inl rfl | exact .inr rfl))) (Sv.cons (S.rt (X.tup (X.rc X.nm (X.rc (X.call (h_sadd) (by decide) (by rfl) (X.rc (X.at (X.call (h_lmoved) (by decide) (by rfl) (X.rc X.nm (X.rc X.nm X.rn))) X.int) (X.rc (X.at (X.call (h_lmoved) (by decide) (by rfl) (X.rc X.nm (X.rc X.nm X.rn))) X.int) X.rn))) X.rn)))) S.nil))
theorem f_ladd {wd : Wd} (C : Wld wd) (h_sadd : Fn wd 5 "sadd" sp_sadd) (h_lmoved : Fn wd 2 "lmoved" sp_lmoved) : Fn wd 6 "ladd" (runF ["a", "b"] (m_ladd)) := Fn.mk C.at23 (v_ladd C h_sadd h_lmoved) (fun _ _ _ => len2 fun a b => rfl) (by decide) (by decide)
noncomputable def m_lneg : Sig → M (Fl × Sig) := (seqM (rtM (tupM [(biM atV (nmM "a") (cM (.int 0))), (listC "one" [] (ivM (biM atV (nmM "a") (cM (.int 1)))) (fun _ => ret true) (callM sp_rneg [(nmM "one")]))])) nilM)
set_option maxHeartbeats 4000000 in
theorem v_lneg {wd : Wd} (C : Wld wd) (h_rneg : Fn wd 2 "rneg" sp_rneg) : Sv wd (sco 24) 2 (execs (bd 24)) (m_lneg) := (Sv.cons (S.rt (X.tup (X.rc (X.at X.nm X.int) (X.rc (Ev.listComp [] (by constructor <;> decide) (I.val (X.at X.nm X.int)) TestsV.nil (X.call (h_rneg) (by decide) (by rfl) (X.rc X.nm X.rn))) X.rn)))) S.nil)
theorem f_lneg {wd : Wd} (C : Wld wd) (h_rneg : Fn wd 2 "rneg" sp_rneg) : Fn wd 3 "lneg" (runF ["a"] (m_lneg)) := Fn.mk C.at24 (v_lneg C h_rneg) (fun _ _ _ => len1 fun a => rfl) (by decide) (by decide)
noncomputable def m_lmul : Sig → M (Fl × Sig) := (seqM (rtM (tupM [(biM addV (biM atV (nmM "a") (cM (.int 0))) (biM atV (nmM "b") (cM (.int 0)))), (callM sp_smul [(biM atV (nmM "a") (cM (.int 1))), (biM atV (nmM "b") (cM (.int 1)))])])) nilM)
set_option maxHeartbeats 4000000 in
theorem v_lmul {wd : Wd} (C : Wld wd) (h_smul : Fn wd 6 "smul" sp_smul) : Sv wd (sco 25) 6 (execs (bd 25)) (m_lmul) := (Sv.cons (S.rt (X.tup (X.rc (X.bin (X.at X.nm X.int) (X.at X.nm X.int) op_add) (X.rc (X.call (h_smul) (by decide) (by rfl) (X.rc (X.at X.nm X.int) (X.rc (X.at X.nm X.int) X.rn))) X.rn)))) S.nil)
theorem f_lmul {wd : Wd} (C : Wld wd) (h_smul : Fn wd 6 "smul" sp_smul) : Fn wd 7 "lmul" (runF ["a", "b"] (m_lmul)) := Fn.mk C.at25 (v_lmul C h_smul) (fun _ _ _ => len2 fun a b => rfl) (by decide) (by decide)
noncomputable def b_ltrim_1 : Sig → M (Fl × Sig) := (seqM (asg (tupM [(biM addV (nmM "low") (cM (.int 1))), (biM fromV (nmM "rest") (cM (.int 1)))]) (unp 2 fun ds => putL [put "rest", put "low"] ds.reverse)) nilM)
noncomputable def t_ltrim_2 : Rho → M Bool := (alM [(tcM gtV (bltM lenV [(nmM "rest")]) (cM (.int 0))), (tcM eqV (biM atV (nmM "rest") (cM (.int 0))) (cM (pvR (0, 1))))])
noncomputable def m_ltrim : Sig → M (Fl × Sig) := (seqM (asg (nmM "a") (unp 2 (putL [(put "low"), (put "rest")]))) (seqM (whS 2000 t_ltrim_2 b_ltrim_1) (seqM (rtM (tupM [(nmM "low"), (nmM "rest")])) nilM)))
set_option maxHeartbeats 4000000 in
theorem v_ltrim {wd : Wd} (C : Wld wd) : Sv wd (sco 26) 1 (execs (bd 26)) (m_ltrim) := (Sv.cons (Sv.assign X.nm (A.two (Av.name (by first | exact .inl rfl | exact .inr rfl)) (Av.name (by first | exact .inl rfl | exact .inr rfl)))) (Sv.cons (S.wh 2000 (T.and2 (T.cmp (X.blt C.len (.inl ⟨_, rfl⟩) opN_len (by rfl) (X.rc X.nm X.rn)) X.int op_gt) (T.cmp (X.at X.nm X.int) (C.r0 (by rfl)) op_eq)) (Sv.cons (S.swap (X.tup (X.rc (X.bin X.nm X.int op_add) (X.rc (X.from X.nm X.int) X.rn))) (by rfl) (by rfl) (by intro env h; have hb : env.blockKind = .function := (by unfold Env.blockKind; rw [h]; rfl); unfold swappedStores Env.kindOf; rw [hb, h]; rfl)) S.nil)) (Sv.cons (S.rt (X.tup (X.rc X.nm (X.rc X.nm X.rn)))) S.nil)))
theorem f_ltrim {wd : Wd} (C : Wld wd) : Fn wd 2 "ltrim" (runF ["a"] (m_ltrim)) := Fn.mk C.at26 (v_ltrim C) (fun _ _ _ => len1 fun a => rfl) (by decide) (by decide)
noncomputable def m_linverse : Sig → M (Fl × Sig) := (seqM (asg (callM sp_ltrim [(nmM "a")]) (unp 2 (putL [(put "low"), (put "rest")]))) (seqM (ifS (tcM eqV (bltM lenV [(nmM "rest")]) (cM (.int 0))) (seqM (raS "limit") nilM) nilM) (seqM (rtM (tupM [(biM subV (cM (.int 0)) (nmM "low")), (callM sp_sinverse [(nmM "rest")])])) nilM)))
set_option maxHeartbeats 4000000 in
theorem v_linverse {wd : Wd} (C : Wld wd) (h_sinverse : Fn wd 5 "sinverse" sp_sinverse) (h_ltrim : Fn wd 2 "ltrim" sp_ltrim) : Sv wd (sco 27) 5 (execs (bd 27)) (m_linverse) := (Sv.cons (Sv.assign (X.call (h_ltrim) (by decide) (by rfl) (X.rc X.nm X.rn)) (A.two (Av.name (by first | exact .inl rfl | exact .inr rfl)) (Av.name (by first | exact .inl rfl | exact .inr rfl)))) (Sv.cons (S.iff (T.cmp (X.blt C.len (.inl ⟨_, rfl⟩) opN_len (by rfl) (X.rc X.nm X.rn)) X.int op_eq) (Sv.cons (S.ra C.exc (by rfl)) S.nil) S.nil) (Sv.cons (S.rt (X.tup (X.rc (X.bin X.int X.nm op_sub) (X.rc (X.call (h_sinverse) (by decide) (by rfl) (X.rc X.nm X.rn)) X.rn)))) S.nil)))
theorem f_linverse {wd : Wd} (C : Wld wd) (h_sinverse : Fn wd 5 "sinverse" sp_sinverse) (h_ltrim : Fn wd 2 "ltrim" sp_ltrim) : Fn wd 6 "linverse" (runF ["a"] (m_linverse)) := Fn.mk C.at27 (v_linverse C h_sinverse h_ltrim) (fun _ _ _ => len1 fun a => rfl) (by decide) (by decide)
noncomputable def m_lpower (sp_self : List PV → M PV) : Sig → M (Fl × Sig) := (seqM (ifS (tcM eqV (nmM "many") (cM (.int 0))) (seqM (rtM (tupM [(cM (.int 0)), (biM addV (lstM [(cM (pvR (1, 1)))]) (biM mulV (lstM [(cM (pvR (0, 1)))]) (biM subV (bltM lenV [(biM atV (nmM "a") (cM (.int 1)))]) (cM (.int 1)))))])) nilM) nilM) (seqM (ifS (tcM ltV (nmM "many") (cM (.int 0))) (seqM (rtM (callM sp_self [(callM sp_linverse [(nmM "a")]), (biM subV (cM (.int 0)) (nmM "many"))])) nilM) nilM) (seqM (asg (callM sp_ltrim [(nmM "a")]) (unp 2 (putL [(put "low"), (put "rest")]))) (seqM (rtM (tupM [(biM mulV (nmM "low") (nmM "many")), (callM sp_swhole_power [(nmM "rest"), (nmM "many")])])) nilM))))
set_option maxHeartbeats 4000000 in
theorem v_lpower0 {wd : Wd} (C : Wld wd) {sp_self : List PV → M PV} (h_swhole_power : Fn wd 7 "swhole_power" sp_swhole_power) (h_ltrim : Fn wd 2 "ltrim" sp_ltrim) (h_linverse : Fn wd 6 "linverse" sp_linverse) (h_lpower : Fn wd 7 "lpower" sp_self) : Sv wd (sco 28) 7 (execs (bd 28)) (m_lpower sp_self) := (Sv.cons (S.iff (T.cmp X.nm X.int op_eq) (Sv.cons (S.rt (X.tup (X.rc X.int (X.rc (X.bin (X.lst (X.rc (C.r1 (by rfl)) X.rn)) (X.bin (X.lst (X.rc (C.r0 (by rfl)) X.rn)) (X.bin (X.blt C.len (.inl ⟨_, rfl⟩) opN_len (by rfl) (X.rc (X.at X.nm X.int) X.rn)) X.int op_sub) op_mul) op_add) X.rn)))) S.nil) S.nil) (Sv.cons (S.iff (T.cmp X.nm X.int op_lt) (Sv.cons (S.rt (X.call (h_lpower) (by decide) (by rfl) (X.rc (X.call (h_linverse) (by decide) (by rfl) (X.rc X.nm X.rn)) (X.rc (X.bin X.int X.nm op_sub) X.rn)))) S.nil) S.nil) (Sv.cons (Sv.assign (X.call (h_ltrim) (by decide) (by rfl) (X.rc X.nm X.rn)) (A.two (Av.name (by first | exact .inl rfl | exact .inr rfl)) (Av.name (by first | exact .inl rfl | exact .inr rfl)))) (Sv.cons (S.rt (X.tup (X.rc (X.bin X.nm X.nm op_mul) (X.rc (X.call (h_swhole_power) (by decide) (by rfl) (X.rc X.nm (X.rc X.nm X.rn))) X.rn)))) S.nil))))
theorem f_lpower0 {wd : Wd} (C : Wld wd) {sp_self : List PV → M PV} (h_swhole_power : Fn wd 7 "swhole_power" sp_swhole_power) (h_ltrim : Fn wd 2 "ltrim" sp_ltrim) (h_linverse : Fn wd 6 "linverse" sp_linverse) (h_lpower : Fn wd 7 "lpower" sp_self) : Fn wd 8 "lpower" (runF ["a", "many"] (m_lpower sp_self)) := Fn.mk C.at28 (v_lpower0 C h_swhole_power h_ltrim h_linverse h_lpower) (fun _ _ _ => len2 fun a b => rfl) (by decide) (by decide)
set_option maxHeartbeats 4000000 in
theorem v_lpower {wd : Wd} (C : Wld wd) {sp_self : List PV → M PV} (h_swhole_power : Fn wd 7 "swhole_power" sp_swhole_power) (h_ltrim : Fn wd 2 "ltrim" sp_ltrim) (h_linverse : Fn wd 6 "linverse" sp_linverse) (h_lpower : Fn wd 8 "lpower" sp_self) : Sv wd (sco 28) 8 (execs (bd 28)) (m_lpower sp_self) := (Sv.cons (S.iff (T.cmp X.nm X.int op_eq) (Sv.cons (S.rt (X.tup (X.rc X.int (X.rc (X.bin (X.lst (X.rc (C.r1 (by rfl)) X.rn)) (X.bin (X.lst (X.rc (C.r0 (by rfl)) X.rn)) (X.bin (X.blt C.len (.inl ⟨_, rfl⟩) opN_len (by rfl) (X.rc (X.at X.nm X.int) X.rn)) X.int op_sub) op_mul) op_add) X.rn)))) S.nil) S.nil) (Sv.cons (S.iff (T.cmp X.nm X.int op_lt) (Sv.cons (S.rt (X.call (h_lpower) (by decide) (by rfl) (X.rc (X.call (h_linverse) (by decide) (by rfl) (X.rc X.nm X.rn)) (X.rc (X.bin X.int X.nm op_sub) X.rn)))) S.nil) S.nil) (Sv.cons (Sv.assign (X.call (h_ltrim) (by decide) (by rfl) (X.rc X.nm X.rn)) (A.two (Av.name (by first | exact .inl rfl | exact .inr rfl)) (Av.name (by first | exact .inl rfl | exact .inr rfl)))) (Sv.cons (S.rt (X.tup (X.rc (X.bin X.nm X.nm op_mul) (X.rc (X.call (h_swhole_power) (by decide) (by rfl) (X.rc X.nm (X.rc X.nm X.rn))) X.rn)))) S.nil))))
theorem f_lpower {wd : Wd} (C : Wld wd) {sp_self : List PV → M PV} (h_swhole_power : Fn wd 7 "swhole_power" sp_swhole_power) (h_ltrim : Fn wd 2 "ltrim" sp_ltrim) (h_linverse : Fn wd 6 "linverse" sp_linverse) (h_lpower : Fn wd 8 "lpower" sp_self) : Fn wd 9 "lpower" (runF ["a", "many"] (m_lpower sp_self)) := Fn.mk C.at28 (v_lpower C h_swhole_power h_ltrim h_linverse h_lpower) (fun _ _ _ => len2 fun a b => rfl) (by decide) (by decide)
noncomputable def m_lcut : Sig → M (Fl × Sig) := (seqM (asg (callM sp_ltrim [(nmM "a")]) (unp 2 (putL [(put "low"), (put "rest")]))) (seqM (ifS (alM [(tcM gtV (bltM lenV [(nmM "rest")]) (cM (.int 0))), (tcM ltV (nmM "low") (cM (.int 0)))]) (seqM (raS "domain") nilM) nilM) (seqM (ifS (tcM ltV (biM addV (nmM "low") (bltM lenV [(nmM "rest")])) (nmM "end")) (seqM (rtM (cM .none)) nilM) nilM) (seqM (rtM (ifM (tcM geV (nmM "low") (cM (.int 0))) (biM uptoV (biM addV (biM mulV (lstM [(cM (pvR (0, 1)))]) (nmM "low")) (nmM "rest")) (nmM "end")) (biM mulV (lstM [(cM (pvR (0, 1)))]) (nmM "end")))) nilM))))
set_option maxHeartbeats 4000000 in
theorem v_lcut {wd : Wd} (C : Wld wd) (h_ltrim : Fn wd 2 "ltrim" sp_ltrim) : Sv wd (sco 29) 2 (execs (bd 29)) (m_lcut) := (Sv.cons (Sv.assign (X.call (h_ltrim) (by decide) (by rfl) (X.rc X.nm X.rn)) (A.two (Av.name (by first | exact .inl rfl | exact .inr rfl)) (Av.name (by first | exact .inl rfl | exact .inr rfl)))) (Sv.cons (S.iff (T.and2 (T.cmp (X.blt C.len (.inl ⟨_, rfl⟩) opN_len (by rfl) (X.rc X.nm X.rn)) X.int op_gt) (T.cmp X.nm X.int op_lt)) (Sv.cons (S.ra C.exc (by rfl)) S.nil) S.nil) (Sv.cons (S.iff (T.cmp (X.bin X.nm (X.blt C.len (.inl ⟨_, rfl⟩) opN_len (by rfl) (X.rc X.nm X.rn)) op_add) X.nm op_lt) (Sv.cons (S.rt X.none) S.nil) S.nil) (Sv.cons (S.rt (X.ife (T.cmp X.nm X.int op_ge) (X.upto (X.bin (X.bin (X.lst (X.rc (C.r0 (by rfl)) X.rn)) X.nm op_mul) X.nm op_add) X.nm) (X.bin (X.lst (X.rc (C.r0 (by rfl)) X.rn)) X.nm op_mul))) S.nil))))
theorem f_lcut {wd : Wd} (C : Wld wd) (h_ltrim : Fn wd 2 "ltrim" sp_ltrim) : Fn wd 3 "lcut" (runF ["a", "end"] (m_lcut)) := Fn.mk C.at29 (v_lcut C h_ltrim) (fun _ _ _ => len2 fun a b => rfl) (by decide) (by decide)


theorem trim_len : ∀ (low : Int) (rest : List Rt), (trimI low rest).2.length ≤ rest.length
  | _, [] => Nat.le_refl _
  | low, x :: r => by
    unfold trimI
    split
    · have := trim_len (low + 1) r; simp; omega
    · exact Nat.le_refl _
theorem trim_low : ∀ (low : Int) (rest : List Rt), (trimI low rest).1 + (trimI low rest).2.length = low + rest.length
  | _, [] => rfl
  | low, x :: r => by
    unfold trimI
    split
    · have := trim_low (low + 1) r; simp; omega
    · rfl
theorem len_gt {a : List Rt} : (decide ((a.length : Int) > 0)) = !decide (a = []) := by cases a <;> simp
theorem len_eq0 {a : List Rt} : (decide ((a.length : Int) = 0)) = decide (a = []) := by cases a <;> simp; omega
theorem wh_true {t : Sig → M Bool} {b : Sig → M (Fl × Sig)} {N : Nat} {σ σ' : Sig} (h1 : t σ = ret true) (h2 : b σ = ret (.next, σ')) : whileM t b (N + 1) σ = whileM t b N σ' := by
  rw [whileM, h1]
  simp only [noErr_ret, bnd_ret, if_true, h2]
theorem wh_false {t : Sig → M Bool} {b : Sig → M (Fl × Sig)} {N : Nat} {σ : Sig} (h1 : t σ = ret false) : whileM t b (N + 1) σ = ret (.next, σ) := by
  rw [whileM, h1]
  simp only [noErr_ret, bnd_ret, Bool.false_eq_true, if_false]
theorem trim_loop : ∀ (N : Nat) (low : Int) (rest : List Rt) (A : PV), rest.length < N → rest.length ≤ 1000 → whS N t_ltrim_2 b_ltrim_1 ⟨[("a", A), ("low", .int low), ("rest", pvS rest)], none⟩ =
    ret (.next, ⟨[("a", A), ("low", .int (trimI low rest).1), ("rest", pvS (trimI low rest).2)], none⟩)
  | 0, _, _, _, h, _ => absurd h (Nat.not_lt_zero _)
  | N + 1, low, rest, A, h, hl => by
    have hlen := len_s (a := rest) hl
    unfold whS
    cases rest with
    | nil =>
      rw [wh_false (by simp (decide := true) only [t_ltrim_2, runF, seqM, asg, rtM, nilM, ifS, raS, stS, nmM, cM, unM, biM, tupM, lstM, callM, bltM, ifM, orM, getM, tcM, tvM, ntM, alM, anM, ivM, irM, rowM, allT, anyT, toB_b, unp_t, unp_r, unp_l, putL, List.reverse_cons, List.reverse_nil, List.nil_append, List.cons_append, List.zip_cons_cons, List.zip_nil_left, List.zip_nil_right, List.length_cons, List.length_nil, lk_hit, lk_miss, sr_nil, sr_hit, sr_miss, st_none, al_none, al_some, put_none, put_some, bnd_ret, bnd_fail, bnd_stuck, bnd_bnd, lift_some', lift_none', noErr_ret, few_ok, sub_c, sub_d, sub_n, if_true, ite_true, dite_true, Bool.false_eq_true, if_false, bnd_id, at_t0, at_t1, at_r0, at_r1, at_l0, at_l1, add_i, sub_i, neg_i, lt_i, le_i, gt_i, ge_i, eq_i, ne_i, eq_r, ne_r, eq_s, ne_s, eq_l, ne_l, abs_i, min_i, ite_false, pvR_mk, pvL_mk, setR_lookup, st_some, flat_r, mu_isNone, Option.isNone_none, Option.isNone_some, Bool.not_true, Bool.not_false, decide_true, decide_false, Bool.and_true, Bool.true_and, reduceCtorEq, hlen, len_gt])]
      rfl
    | cons x r =>
      have hat : atV (pvS (x :: r)) (.int 0) = some (pvR x) := at_s (i := 0) (by omega) rfl
      have hp : ((r.length + 1 : Nat) : Int) > 0 := by omega
      by_cases hx : x = (0, 1)
      · subst hx
        have ih := trim_loop N (low + 1) r A (by simp at h; omega) (by simp at hl; omega)
        unfold whS at ih
        rw [wh_true (σ' := ⟨[("a", A), ("low", .int (low + 1)), ("rest", pvS r)], none⟩) (by simp (decide := true) only [t_ltrim_2, runF, seqM, asg, rtM, nilM, ifS, raS, stS, nmM, cM, unM, biM, tupM, lstM, callM, bltM, ifM, orM, getM, tcM, tvM, ntM, alM, anM, ivM, irM, rowM, allT, anyT, toB_b, unp_t, unp_r, unp_l, putL, List.reverse_cons, List.reverse_nil, List.nil_append, List.cons_append, List.zip_cons_cons, List.zip_nil_left, List.zip_nil_right, List.length_cons, List.length_nil, lk_hit, lk_miss, sr_nil, sr_hit, sr_miss, st_none, al_none, al_some, put_none, put_some, bnd_ret, bnd_fail, bnd_stuck, bnd_bnd, lift_some', lift_none', noErr_ret, few_ok, sub_c, sub_d, sub_n, if_true, ite_true, dite_true, Bool.false_eq_true, if_false, bnd_id, at_t0, at_t1, at_r0, at_r1, at_l0, at_l1, add_i, sub_i, neg_i, lt_i, le_i, gt_i, ge_i, eq_i, ne_i, eq_r, ne_r, eq_s, ne_s, eq_l, ne_l, abs_i, min_i, ite_false, pvR_mk, pvL_mk, setR_lookup, st_some, flat_r, mu_isNone, Option.isNone_none, Option.isNone_some, Bool.not_true, Bool.not_false, decide_true, decide_false, Bool.and_true, Bool.true_and, reduceCtorEq, hlen, hat, hp])
          (by simp (decide := true) only [b_ltrim_1, runF, seqM, asg, rtM, nilM, ifS, raS, stS, nmM, cM, unM, biM, tupM, lstM, callM, bltM, ifM, orM, getM, tcM, tvM, ntM, alM, anM, ivM, irM, rowM, allT, anyT, toB_b, unp_t, unp_r, unp_l, putL, List.reverse_cons, List.reverse_nil, List.nil_append, List.cons_append, List.zip_cons_cons, List.zip_nil_left, List.zip_nil_right, List.length_cons, List.length_nil, lk_hit, lk_miss, sr_nil, sr_hit, sr_miss, st_none, al_none, al_some, put_none, put_some, bnd_ret, bnd_fail, bnd_stuck, bnd_bnd, lift_some', lift_none', noErr_ret, few_ok, sub_c, sub_d, sub_n, if_true, ite_true, dite_true, Bool.false_eq_true, if_false, bnd_id, at_t0, at_t1, at_r0, at_r1, at_l0, at_l1, add_i, sub_i, neg_i, lt_i, le_i, gt_i, ge_i, eq_i, ne_i, eq_r, ne_r, eq_s, ne_s, eq_l, ne_l, abs_i, min_i, ite_false, pvR_mk, pvL_mk, setR_lookup, st_some, flat_r, mu_isNone, Option.isNone_none, Option.isNone_some, Bool.not_true, Bool.not_false, decide_true, decide_false, Bool.and_true, Bool.true_and, reduceCtorEq, from_s (show (0 : Int) ≤ 1 by decide) hl]; rfl), ih]
        rw [show trimI low ((0, 1) :: r) = trimI (low + 1) r from by conv => lhs; unfold trimI; rw [if_pos rfl]]
      · rw [wh_false (by simp (decide := true) only [t_ltrim_2, runF, seqM, asg, rtM, nilM, ifS, raS, stS, nmM, cM, unM, biM, tupM, lstM, callM, bltM, ifM, orM, getM, tcM, tvM, ntM, alM, anM, ivM, irM, rowM, allT, anyT, toB_b, unp_t, unp_r, unp_l, putL, List.reverse_cons, List.reverse_nil, List.nil_append, List.cons_append, List.zip_cons_cons, List.zip_nil_left, List.zip_nil_right, List.length_cons, List.length_nil, lk_hit, lk_miss, sr_nil, sr_hit, sr_miss, st_none, al_none, al_some, put_none, put_some, bnd_ret, bnd_fail, bnd_stuck, bnd_bnd, lift_some', lift_none', noErr_ret, few_ok, sub_c, sub_d, sub_n, if_true, ite_true, dite_true, Bool.false_eq_true, if_false, bnd_id, at_t0, at_t1, at_r0, at_r1, at_l0, at_l1, add_i, sub_i, neg_i, lt_i, le_i, gt_i, ge_i, eq_i, ne_i, eq_r, ne_r, eq_s, ne_s, eq_l, ne_l, abs_i, min_i, ite_false, pvR_mk, pvL_mk, setR_lookup, st_some, flat_r, mu_isNone, Option.isNone_none, Option.isNone_some, Bool.not_true, Bool.not_false, decide_true, decide_false, Bool.and_true, Bool.true_and, reduceCtorEq, hlen, hat, hx, hp])]
        rw [show trimI low (x :: r) = (low, x :: r) from by unfold trimI; rw [if_neg hx]]
theorem u_ltrim {p : Int × List Rt} (h : p.2.length ≤ 400) : runF ["a"] m_ltrim [pvL p] = ret (pvL (trimI p.1 p.2)) := by
  simp (decide := true) only [m_ltrim, runF, seqM, asg, rtM, nilM, ifS, raS, stS, nmM, cM, unM, biM, tupM, lstM, callM, bltM, ifM, orM, getM, tcM, tvM, ntM, alM, anM, ivM, irM, rowM, allT, anyT, toB_b, unp_t, unp_r, unp_l, putL, List.reverse_cons, List.reverse_nil, List.nil_append, List.cons_append, List.zip_cons_cons, List.zip_nil_left, List.zip_nil_right, List.length_cons, List.length_nil, lk_hit, lk_miss, sr_nil, sr_hit, sr_miss, st_none, al_none, al_some, put_none, put_some, bnd_ret, bnd_fail, bnd_stuck, bnd_bnd, lift_some', lift_none', noErr_ret, few_ok, sub_c, sub_d, sub_n, if_true, ite_true, dite_true, Bool.false_eq_true, if_false, bnd_id, at_t0, at_t1, at_r0, at_r1, at_l0, at_l1, add_i, sub_i, neg_i, lt_i, le_i, gt_i, ge_i, eq_i, ne_i, eq_r, ne_r, eq_s, ne_s, eq_l, ne_l, abs_i, min_i, ite_false, pvR_mk, pvL_mk, setR_lookup, st_some, flat_r, mu_isNone, Option.isNone_none, Option.isNone_some, Bool.not_true, Bool.not_false, decide_true, decide_false, Bool.and_true, Bool.true_and, reduceCtorEq, trim_loop 2000 p.1 p.2 (pvL p) (by omega) (by omega)]
theorem u_lplain {q : Rt} {many : Int} (h1 : 1 ≤ many) (h2 : many ≤ 400) : runF ["number", "many"] m_lplain [pvR q, .int many] = ret (pvL (0, q :: List.replicate (many - 1).toNat (0, 1))) := by
  simp (decide := true) only [m_lplain, runF, seqM, asg, rtM, nilM, ifS, raS, stS, nmM, cM, unM, biM, tupM, lstM, callM, bltM, ifM, orM, getM, tcM, tvM, ntM, alM, anM, ivM, irM, rowM, allT, anyT, toB_b, unp_t, unp_r, unp_l, putL, List.reverse_cons, List.reverse_nil, List.nil_append, List.cons_append, List.zip_cons_cons, List.zip_nil_left, List.zip_nil_right, List.length_cons, List.length_nil, lk_hit, lk_miss, sr_nil, sr_hit, sr_miss, st_none, al_none, al_some, put_none, put_some, bnd_ret, bnd_fail, bnd_stuck, bnd_bnd, lift_some', lift_none', noErr_ret, few_ok, sub_c, sub_d, sub_n, if_true, ite_true, dite_true, Bool.false_eq_true, if_false, bnd_id, at_t0, at_t1, at_r0, at_r1, at_l0, at_l1, add_i, sub_i, neg_i, lt_i, le_i, gt_i, ge_i, eq_i, ne_i, eq_r, ne_r, eq_s, ne_s, eq_l, ne_l, abs_i, min_i, ite_false, pvR_mk, pvL_mk, setR_lookup, st_some, flat_r, mu_isNone, Option.isNone_none, Option.isNone_some, Bool.not_true, Bool.not_false, decide_true, decide_false, Bool.and_true, Bool.true_and, reduceCtorEq, pvS_one, rep_s (show many - 1 ≤ 1000 by omega) (show -1000 ≤ many - 1 by omega)]
  rw [add_s (by simp; omega)]
  simp (decide := true) only [runF, seqM, asg, rtM, nilM, ifS, raS, stS, nmM, cM, unM, biM, tupM, lstM, callM, bltM, ifM, orM, getM, tcM, tvM, ntM, alM, anM, ivM, irM, rowM, allT, anyT, toB_b, unp_t, unp_r, unp_l, putL, List.reverse_cons, List.reverse_nil, List.nil_append, List.cons_append, List.zip_cons_cons, List.zip_nil_left, List.zip_nil_right, List.length_cons, List.length_nil, lk_hit, lk_miss, sr_nil, sr_hit, sr_miss, st_none, al_none, al_some, put_none, put_some, bnd_ret, bnd_fail, bnd_stuck, bnd_bnd, lift_some', lift_none', noErr_ret, few_ok, sub_c, sub_d, sub_n, if_true, ite_true, dite_true, Bool.false_eq_true, if_false, bnd_id, at_t0, at_t1, at_r0, at_r1, at_l0, at_l1, add_i, sub_i, neg_i, lt_i, le_i, gt_i, ge_i, eq_i, ne_i, eq_r, ne_r, eq_s, ne_s, eq_l, ne_l, abs_i, min_i, ite_false, pvR_mk, pvL_mk, setR_lookup, st_some, flat_r, mu_isNone, Option.isNone_none, Option.isNone_some, Bool.not_true, Bool.not_false, decide_true, decide_false, Bool.and_true, Bool.true_and, reduceCtorEq]
theorem u_lmoved {p : Int × List Rt} {low : Int} (h1 : p.1 - low ≤ 400) (h2 : -400 ≤ p.1 - low) (h3 : p.2.length ≤ 400) : runF ["a", "low"] m_lmoved [pvL p, .int low] = ret (pvL (low, movI p low)) := by
  simp (decide := true) only [m_lmoved, runF, seqM, asg, rtM, nilM, ifS, raS, stS, nmM, cM, unM, biM, tupM, lstM, callM, bltM, ifM, orM, getM, tcM, tvM, ntM, alM, anM, ivM, irM, rowM, allT, anyT, toB_b, unp_t, unp_r, unp_l, putL, List.reverse_cons, List.reverse_nil, List.nil_append, List.cons_append, List.zip_cons_cons, List.zip_nil_left, List.zip_nil_right, List.length_cons, List.length_nil, lk_hit, lk_miss, sr_nil, sr_hit, sr_miss, st_none, al_none, al_some, put_none, put_some, bnd_ret, bnd_fail, bnd_stuck, bnd_bnd, lift_some', lift_none', noErr_ret, few_ok, sub_c, sub_d, sub_n, if_true, ite_true, dite_true, Bool.false_eq_true, if_false, bnd_id, at_t0, at_t1, at_r0, at_r1, at_l0, at_l1, add_i, sub_i, neg_i, lt_i, le_i, gt_i, ge_i, eq_i, ne_i, eq_r, ne_r, eq_s, ne_s, eq_l, ne_l, abs_i, min_i, ite_false, pvR_mk, pvL_mk, setR_lookup, st_some, flat_r, mu_isNone, Option.isNone_none, Option.isNone_some, Bool.not_true, Bool.not_false, decide_true, decide_false, Bool.and_true, Bool.true_and, reduceCtorEq, pvS_one, rep_s (show p.1 - low ≤ 1000 by omega) (show -1000 ≤ p.1 - low by omega)]
  rw [add_s (by simp; omega)]
  simp (decide := true) only [runF, seqM, asg, rtM, nilM, ifS, raS, stS, nmM, cM, unM, biM, tupM, lstM, callM, bltM, ifM, orM, getM, tcM, tvM, ntM, alM, anM, ivM, irM, rowM, allT, anyT, toB_b, unp_t, unp_r, unp_l, putL, List.reverse_cons, List.reverse_nil, List.nil_append, List.cons_append, List.zip_cons_cons, List.zip_nil_left, List.zip_nil_right, List.length_cons, List.length_nil, lk_hit, lk_miss, sr_nil, sr_hit, sr_miss, st_none, al_none, al_some, put_none, put_some, bnd_ret, bnd_fail, bnd_stuck, bnd_bnd, lift_some', lift_none', noErr_ret, few_ok, sub_c, sub_d, sub_n, if_true, ite_true, dite_true, Bool.false_eq_true, if_false, bnd_id, at_t0, at_t1, at_r0, at_r1, at_l0, at_l1, add_i, sub_i, neg_i, lt_i, le_i, gt_i, ge_i, eq_i, ne_i, eq_r, ne_r, eq_s, ne_s, eq_l, ne_l, abs_i, min_i, ite_false, pvR_mk, pvL_mk, setR_lookup, st_some, flat_r, mu_isNone, Option.isNone_none, Option.isNone_some, Bool.not_true, Bool.not_false, decide_true, decide_false, Bool.and_true, Bool.true_and, reduceCtorEq]
  rfl
theorem sp_lmoved_of {p : Int × List Rt} {low : Int} (h1 : p.1 - low ≤ 400) (h2 : -400 ≤ p.1 - low) (h3 : p.2.length ≤ 400) : sp_lmoved [pvL p, .int low] = ret (pvL (low, movI p low)) := by
  unfold sp_lmoved; simp only [lauM_pv]; rw [if_pos ⟨h1, h2, h3⟩]
theorem mov_len {p : Int × List Rt} {low : Int} : (movI p low).length = (p.1 - low).toNat + p.2.length := by simp [movI]
theorem u_ladd {p q r : Int × List Rt} (hg : okL2 p q) (h : laddO p q = some r) : runF ["a", "b"] m_ladd [pvL p, pvL q] = ret (pvL r) := by
  unfold okL2 at hg
  unfold laddO at h
  obtain ⟨s, hs, rfl⟩ := Option.map_eq_some_iff.mp h
  generalize hlow : (if q.1 < p.1 then q.1 else p.1) = low at hs ⊢
  have hb : low ≤ p.1 ∧ low ≤ q.1 ∧ -100 ≤ low := by rw [← hlow]; split <;> omega
  simp (decide := true) only [m_ladd, runF, seqM, asg, rtM, nilM, ifS, raS, stS, nmM, cM, unM, biM, tupM, lstM, callM, bltM, ifM, orM, getM, tcM, tvM, ntM, alM, anM, ivM, irM, rowM, allT, anyT, toB_b, unp_t, unp_r, unp_l, putL, List.reverse_cons, List.reverse_nil, List.nil_append, List.cons_append, List.zip_cons_cons, List.zip_nil_left, List.zip_nil_right, List.length_cons, List.length_nil, lk_hit, lk_miss, sr_nil, sr_hit, sr_miss, st_none, al_none, al_some, put_none, put_some, bnd_ret, bnd_fail, bnd_stuck, bnd_bnd, lift_some', lift_none', noErr_ret, few_ok, sub_c, sub_d, sub_n, if_true, ite_true, dite_true, Bool.false_eq_true, if_false, bnd_id, at_t0, at_t1, at_r0, at_r1, at_l0, at_l1, add_i, sub_i, neg_i, lt_i, le_i, gt_i, ge_i, eq_i, ne_i, eq_r, ne_r, eq_s, ne_s, eq_l, ne_l, abs_i, min_i, ite_false, pvR_mk, pvL_mk, setR_lookup, st_some, flat_r, mu_isNone, Option.isNone_none, Option.isNone_some, Bool.not_true, Bool.not_false, decide_true, decide_false, Bool.and_true, Bool.true_and, reduceCtorEq, hlow, sp_lmoved_of (p := p) (low := low) (by omega) (by omega) (by omega), sp_lmoved_of (p := q) (low := low) (by omega) (by omega) (by omega),
    show sp_sadd [pvS (movI p low), pvS (movI q low)] = ret (pvS s) from spSS_of (by rw [mov_len]; omega) (by rw [mov_len]; omega) hs]
theorem u_lmul {p q r : Int × List Rt} (hg : okL2 p q) (h : lmulO p q = some r) : runF ["a", "b"] m_lmul [pvL p, pvL q] = ret (pvL r) := by
  unfold okL2 at hg
  unfold lmulO at h
  obtain ⟨s, hs, rfl⟩ := Option.map_eq_some_iff.mp h
  simp (decide := true) only [m_lmul, runF, seqM, asg, rtM, nilM, ifS, raS, stS, nmM, cM, unM, biM, tupM, lstM, callM, bltM, ifM, orM, getM, tcM, tvM, ntM, alM, anM, ivM, irM, rowM, allT, anyT, toB_b, unp_t, unp_r, unp_l, putL, List.reverse_cons, List.reverse_nil, List.nil_append, List.cons_append, List.zip_cons_cons, List.zip_nil_left, List.zip_nil_right, List.length_cons, List.length_nil, lk_hit, lk_miss, sr_nil, sr_hit, sr_miss, st_none, al_none, al_some, put_none, put_some, bnd_ret, bnd_fail, bnd_stuck, bnd_bnd, lift_some', lift_none', noErr_ret, few_ok, sub_c, sub_d, sub_n, if_true, ite_true, dite_true, Bool.false_eq_true, if_false, bnd_id, at_t0, at_t1, at_r0, at_r1, at_l0, at_l1, add_i, sub_i, neg_i, lt_i, le_i, gt_i, ge_i, eq_i, ne_i, eq_r, ne_r, eq_s, ne_s, eq_l, ne_l, abs_i, min_i, ite_false, pvR_mk, pvL_mk, setR_lookup, st_some, flat_r, mu_isNone, Option.isNone_none, Option.isNone_some, Bool.not_true, Bool.not_false, decide_true, decide_false, Bool.and_true, Bool.true_and, reduceCtorEq, show sp_smul [pvS p.2, pvS q.2] = ret (pvS s) from spSS_of (by omega) (by omega) hs]
theorem mapO_some {α β : Type} {g : α → β} : ∀ l : List α, mapO (fun a => some (g a)) l = some (l.map g)
  | [] => rfl
  | a :: l => by simp [mapO, mapO_some l]
theorem items_s {a : List Rt} (h : a.length ≤ 1000) : itemsV (pvS a) = some (a.map pvR) := by
  unfold itemsV pvS; dsimp only; rw [if_pos (by simpa using h)]
theorem u_lneg {p : Int × List Rt} (h : p.2.length ≤ 400) : runF ["a"] m_lneg [pvL p] = ret (pvL (p.1, p.2.map negR)) := by
  have e : listC "one" [] (ivM (biM atV (nmM "a") (cM (.int 1)))) (fun _ => ret true) (callM sp_rneg [(nmM "one")]) [("a", pvL p)] = ret (pvS (p.2.map negR)) := by
    refine listC_map pvR (f := fun q => some (negR q)) (l := p.2) ?_ (mapO_some _) fun q hq r hr => ?_
    · simp (decide := true) only [runF, seqM, asg, rtM, nilM, ifS, raS, stS, nmM, cM, unM, biM, tupM, lstM, callM, bltM, ifM, orM, getM, tcM, tvM, ntM, alM, anM, ivM, irM, rowM, allT, anyT, toB_b, unp_t, unp_r, unp_l, putL, List.reverse_cons, List.reverse_nil, List.nil_append, List.cons_append, List.zip_cons_cons, List.zip_nil_left, List.zip_nil_right, List.length_cons, List.length_nil, lk_hit, lk_miss, sr_nil, sr_hit, sr_miss, st_none, al_none, al_some, put_none, put_some, bnd_ret, bnd_fail, bnd_stuck, bnd_bnd, lift_some', lift_none', noErr_ret, few_ok, sub_c, sub_d, sub_n, if_true, ite_true, dite_true, Bool.false_eq_true, if_false, bnd_id, at_t0, at_t1, at_r0, at_r1, at_l0, at_l1, add_i, sub_i, neg_i, lt_i, le_i, gt_i, ge_i, eq_i, ne_i, eq_r, ne_r, eq_s, ne_s, eq_l, ne_l, abs_i, min_i, ite_false, pvR_mk, pvL_mk, setR_lookup, st_some, flat_r, mu_isNone, Option.isNone_none, Option.isNone_some, Bool.not_true, Bool.not_false, decide_true, decide_false, Bool.and_true, Bool.true_and, reduceCtorEq, items_s (show p.2.length ≤ 1000 by omega)]
    · cases hr
      simp (decide := true) only [runF, seqM, asg, rtM, nilM, ifS, raS, stS, nmM, cM, unM, biM, tupM, lstM, callM, bltM, ifM, orM, getM, tcM, tvM, ntM, alM, anM, ivM, irM, rowM, allT, anyT, toB_b, unp_t, unp_r, unp_l, putL, List.reverse_cons, List.reverse_nil, List.nil_append, List.cons_append, List.zip_cons_cons, List.zip_nil_left, List.zip_nil_right, List.length_cons, List.length_nil, lk_hit, lk_miss, sr_nil, sr_hit, sr_miss, st_none, al_none, al_some, put_none, put_some, bnd_ret, bnd_fail, bnd_stuck, bnd_bnd, lift_some', lift_none', noErr_ret, few_ok, sub_c, sub_d, sub_n, if_true, ite_true, dite_true, Bool.false_eq_true, if_false, bnd_id, at_t0, at_t1, at_r0, at_r1, at_l0, at_l1, add_i, sub_i, neg_i, lt_i, le_i, gt_i, ge_i, eq_i, ne_i, eq_r, ne_r, eq_s, ne_s, eq_l, ne_l, abs_i, min_i, ite_false, pvR_mk, pvL_mk, setR_lookup, st_some, flat_r, mu_isNone, Option.isNone_none, Option.isNone_some, Bool.not_true, Bool.not_false, decide_true, decide_false, Bool.and_true, Bool.true_and, reduceCtorEq]
      rfl
  simp (decide := true) only [m_lneg, runF, seqM, asg, rtM, nilM, ifS, raS, stS, nmM, cM, unM, biM, tupM, lstM, callM, bltM, ifM, orM, getM, tcM, tvM, ntM, alM, anM, ivM, irM, rowM, allT, anyT, toB_b, unp_t, unp_r, unp_l, putL, List.reverse_cons, List.reverse_nil, List.nil_append, List.cons_append, List.zip_cons_cons, List.zip_nil_left, List.zip_nil_right, List.length_cons, List.length_nil, lk_hit, lk_miss, sr_nil, sr_hit, sr_miss, st_none, al_none, al_some, put_none, put_some, bnd_ret, bnd_fail, bnd_stuck, bnd_bnd, lift_some', lift_none', noErr_ret, few_ok, sub_c, sub_d, sub_n, if_true, ite_true, dite_true, Bool.false_eq_true, if_false, bnd_id, at_t0, at_t1, at_r0, at_r1, at_l0, at_l1, add_i, sub_i, neg_i, lt_i, le_i, gt_i, ge_i, eq_i, ne_i, eq_r, ne_r, eq_s, ne_s, eq_l, ne_l, abs_i, min_i, ite_false, pvR_mk, pvL_mk, setR_lookup, st_some, flat_r, mu_isNone, Option.isNone_none, Option.isNone_some, Bool.not_true, Bool.not_false, decide_true, decide_false, Bool.and_true, Bool.true_and, reduceCtorEq, e]
theorem sp_ltrim_of {p : Int × List Rt} (h : p.2.length ≤ 400) : sp_ltrim [pvL p] = ret (pvL (trimI p.1 p.2)) := by
  unfold sp_ltrim spL; simp only [lauM_pv]; rw [if_pos h]
theorem u_linverse {p : Int × List Rt} (h : p.2.length ≤ 400) : runF ["a"] m_linverse [pvL p] = linvM p := by
  have hl := trim_len p.1 p.2
  have ht := sp_ltrim_of h
  unfold linvM
  generalize trimI p.1 p.2 = q at *
  obtain ⟨ql, qr⟩ := q
  dsimp only at *
  have hlen := len_s (show qr.length ≤ 1000 by omega)
  by_cases h0 : qr = []
  · subst h0
    simp (decide := true) only [m_linverse, runF, seqM, asg, rtM, nilM, ifS, raS, stS, nmM, cM, unM, biM, tupM, lstM, callM, bltM, ifM, orM, getM, tcM, tvM, ntM, alM, anM, ivM, irM, rowM, allT, anyT, toB_b, unp_t, unp_r, unp_l, putL, List.reverse_cons, List.reverse_nil, List.nil_append, List.cons_append, List.zip_cons_cons, List.zip_nil_left, List.zip_nil_right, List.length_cons, List.length_nil, lk_hit, lk_miss, sr_nil, sr_hit, sr_miss, st_none, al_none, al_some, put_none, put_some, bnd_ret, bnd_fail, bnd_stuck, bnd_bnd, lift_some', lift_none', noErr_ret, few_ok, sub_c, sub_d, sub_n, if_true, ite_true, dite_true, Bool.false_eq_true, if_false, bnd_id, at_t0, at_t1, at_r0, at_r1, at_l0, at_l1, add_i, sub_i, neg_i, lt_i, le_i, gt_i, ge_i, eq_i, ne_i, eq_r, ne_r, eq_s, ne_s, eq_l, ne_l, abs_i, min_i, ite_false, pvR_mk, pvL_mk, setR_lookup, st_some, flat_r, mu_isNone, Option.isNone_none, Option.isNone_some, Bool.not_true, Bool.not_false, decide_true, decide_false, Bool.and_true, Bool.true_and, reduceCtorEq, ht, hlen]
  · simp (decide := true) only [m_linverse, runF, seqM, asg, rtM, nilM, ifS, raS, stS, nmM, cM, unM, biM, tupM, lstM, callM, bltM, ifM, orM, getM, tcM, tvM, ntM, alM, anM, ivM, irM, rowM, allT, anyT, toB_b, unp_t, unp_r, unp_l, putL, List.reverse_cons, List.reverse_nil, List.nil_append, List.cons_append, List.zip_cons_cons, List.zip_nil_left, List.zip_nil_right, List.length_cons, List.length_nil, lk_hit, lk_miss, sr_nil, sr_hit, sr_miss, st_none, al_none, al_some, put_none, put_some, bnd_ret, bnd_fail, bnd_stuck, bnd_bnd, lift_some', lift_none', noErr_ret, few_ok, sub_c, sub_d, sub_n, if_true, ite_true, dite_true, Bool.false_eq_true, if_false, bnd_id, at_t0, at_t1, at_r0, at_r1, at_l0, at_l1, add_i, sub_i, neg_i, lt_i, le_i, gt_i, ge_i, eq_i, ne_i, eq_r, ne_r, eq_s, ne_s, eq_l, ne_l, abs_i, min_i, ite_false, pvR_mk, pvL_mk, setR_lookup, st_some, flat_r, mu_isNone, Option.isNone_none, Option.isNone_some, Bool.not_true, Bool.not_false, decide_true, decide_false, Bool.and_true, Bool.true_and, reduceCtorEq, ht, hlen, len_eq0, h0, show sp_sinverse [pvS qr] = sinvM qr from serM_pv]
theorem sp_linverse_of {p : Int × List Rt} (h : p.2.length ≤ 400) : sp_linverse [pvL p] = linvM p := by
  unfold sp_linverse spL; simp only [lauM_pv]; rw [if_pos h]
theorem small_of {i : Int} (h1 : -1000000 ≤ i) (h2 : i ≤ 1000000) : small i = true := by unfold small; simp; omega
theorem u_lpow0 {sp_self : List PV → M PV} {p : Int × List Rt} {many : Int} (h : p.2.length ≤ 400) (h0 : 0 ≤ many) (h1 : many ≤ 400) : runF ["a", "many"] (m_lpower sp_self) [pvL p, .int many] = lpow0 p many := by
  have hl := trim_len p.1 p.2
  unfold lpow0
  by_cases hz : many = 0
  · subst hz
    simp (decide := true) only [m_lpower, runF, seqM, asg, rtM, nilM, ifS, raS, stS, nmM, cM, unM, biM, tupM, lstM, callM, bltM, ifM, orM, getM, tcM, tvM, ntM, alM, anM, ivM, irM, rowM, allT, anyT, toB_b, unp_t, unp_r, unp_l, putL, List.reverse_cons, List.reverse_nil, List.nil_append, List.cons_append, List.zip_cons_cons, List.zip_nil_left, List.zip_nil_right, List.length_cons, List.length_nil, lk_hit, lk_miss, sr_nil, sr_hit, sr_miss, st_none, al_none, al_some, put_none, put_some, bnd_ret, bnd_fail, bnd_stuck, bnd_bnd, lift_some', lift_none', noErr_ret, few_ok, sub_c, sub_d, sub_n, if_true, ite_true, dite_true, Bool.false_eq_true, if_false, bnd_id, at_t0, at_t1, at_r0, at_r1, at_l0, at_l1, add_i, sub_i, neg_i, lt_i, le_i, gt_i, ge_i, eq_i, ne_i, eq_r, ne_r, eq_s, ne_s, eq_l, ne_l, abs_i, min_i, ite_false, pvR_mk, pvL_mk, setR_lookup, st_some, flat_r, mu_isNone, Option.isNone_none, Option.isNone_some, Bool.not_true, Bool.not_false, decide_true, decide_false, Bool.and_true, Bool.true_and, reduceCtorEq, pvS_one, len_s (show p.2.length ≤ 1000 by omega), rep_s (show (p.2.length : Int) - 1 ≤ 1000 by omega) (show -1000 ≤ (p.2.length : Int) - 1 by omega)]
    rw [add_s (by simp; omega), show ((p.2.length : Int) - 1).toNat = p.2.length - 1 by omega]
    simp (decide := true) only [runF, seqM, asg, rtM, nilM, ifS, raS, stS, nmM, cM, unM, biM, tupM, lstM, callM, bltM, ifM, orM, getM, tcM, tvM, ntM, alM, anM, ivM, irM, rowM, allT, anyT, toB_b, unp_t, unp_r, unp_l, putL, List.reverse_cons, List.reverse_nil, List.nil_append, List.cons_append, List.zip_cons_cons, List.zip_nil_left, List.zip_nil_right, List.length_cons, List.length_nil, lk_hit, lk_miss, sr_nil, sr_hit, sr_miss, st_none, al_none, al_some, put_none, put_some, bnd_ret, bnd_fail, bnd_stuck, bnd_bnd, lift_some', lift_none', noErr_ret, few_ok, sub_c, sub_d, sub_n, if_true, ite_true, dite_true, Bool.false_eq_true, if_false, bnd_id, at_t0, at_t1, at_r0, at_r1, at_l0, at_l1, add_i, sub_i, neg_i, lt_i, le_i, gt_i, ge_i, eq_i, ne_i, eq_r, ne_r, eq_s, ne_s, eq_l, ne_l, abs_i, min_i, ite_false, pvR_mk, pvL_mk, setR_lookup, st_some, flat_r, mu_isNone, Option.isNone_none, Option.isNone_some, Bool.not_true, Bool.not_false, decide_true, decide_false, Bool.and_true, Bool.true_and, reduceCtorEq]
  · have hn : ¬ many < 0 := by omega
    simp (decide := true) only [m_lpower, runF, seqM, asg, rtM, nilM, ifS, raS, stS, nmM, cM, unM, biM, tupM, lstM, callM, bltM, ifM, orM, getM, tcM, tvM, ntM, alM, anM, ivM, irM, rowM, allT, anyT, toB_b, unp_t, unp_r, unp_l, putL, List.reverse_cons, List.reverse_nil, List.nil_append, List.cons_append, List.zip_cons_cons, List.zip_nil_left, List.zip_nil_right, List.length_cons, List.length_nil, lk_hit, lk_miss, sr_nil, sr_hit, sr_miss, st_none, al_none, al_some, put_none, put_some, bnd_ret, bnd_fail, bnd_stuck, bnd_bnd, lift_some', lift_none', noErr_ret, few_ok, sub_c, sub_d, sub_n, if_true, ite_true, dite_true, Bool.false_eq_true, if_false, bnd_id, at_t0, at_t1, at_r0, at_r1, at_l0, at_l1, add_i, sub_i, neg_i, lt_i, le_i, gt_i, ge_i, eq_i, ne_i, eq_r, ne_r, eq_s, ne_s, eq_l, ne_l, abs_i, min_i, ite_false, pvR_mk, pvL_mk, setR_lookup, st_some, flat_r, mu_isNone, Option.isNone_none, Option.isNone_some, Bool.not_true, Bool.not_false, decide_true, decide_false, Bool.and_true, Bool.true_and, reduceCtorEq, hz, hn, sp_ltrim_of h, mul_i (small_of (show -1000000 ≤ many by omega) (show many ≤ 1000000 by omega)), show sp_swhole_power [pvS (trimI p.1 p.2).2, .int many] = powM (trimI p.1 p.2).2 many from serM_pv]
theorem u_lpower {p : Int × List Rt} {many : Int} (h : p.2.length ≤ 400) (h0 : -400 ≤ many) (h1 : many ≤ 400) : runF ["a", "many"] (m_lpower sp_lpower0) [pvL p, .int many] = if many < 0 then bnd (linvM p) fun y => sp_lpower0 [y, .int (0 - many)] else lpow0 p many := by
  by_cases hn : many < 0
  · rw [if_pos hn]
    have hz : ¬ many = 0 := by omega
    simp (decide := true) only [m_lpower, runF, seqM, asg, rtM, nilM, ifS, raS, stS, nmM, cM, unM, biM, tupM, lstM, callM, bltM, ifM, orM, getM, tcM, tvM, ntM, alM, anM, ivM, irM, rowM, allT, anyT, toB_b, unp_t, unp_r, unp_l, putL, List.reverse_cons, List.reverse_nil, List.nil_append, List.cons_append, List.zip_cons_cons, List.zip_nil_left, List.zip_nil_right, List.length_cons, List.length_nil, lk_hit, lk_miss, sr_nil, sr_hit, sr_miss, st_none, al_none, al_some, put_none, put_some, bnd_ret, bnd_fail, bnd_stuck, bnd_bnd, lift_some', lift_none', noErr_ret, few_ok, sub_c, sub_d, sub_n, if_true, ite_true, dite_true, Bool.false_eq_true, if_false, bnd_id, at_t0, at_t1, at_r0, at_r1, at_l0, at_l1, add_i, sub_i, neg_i, lt_i, le_i, gt_i, ge_i, eq_i, ne_i, eq_r, ne_r, eq_s, ne_s, eq_l, ne_l, abs_i, min_i, ite_false, pvR_mk, pvL_mk, setR_lookup, st_some, flat_r, mu_isNone, Option.isNone_none, Option.isNone_some, Bool.not_true, Bool.not_false, decide_true, decide_false, Bool.and_true, Bool.true_and, reduceCtorEq, hz, hn, sp_linverse_of h]
  · rw [if_neg hn]
    exact u_lpow0 h (by omega) h1
theorem u_lcut {p : Int × List Rt} {e : Int} (h : p.2.length ≤ 100) (h1 : -100 ≤ p.1) (h2 : p.1 ≤ 100) (h3 : 0 ≤ e) (h4 : e ≤ 100) : runF ["a", "end"] m_lcut [pvL p, .int e] = lcutM p e := by
  have hl := trim_len p.1 p.2
  have hw := trim_low p.1 p.2
  have ht := sp_ltrim_of (p := p) (by omega)
  unfold lcutM
  generalize trimI p.1 p.2 = q at *
  have hlen := len_s (show q.2.length ≤ 1000 by omega)
  by_cases g1 : q.2 ≠ [] ∧ q.1 < 0
  · rw [if_pos g1]
    simp (decide := true) only [m_lcut, runF, seqM, asg, rtM, nilM, ifS, raS, stS, nmM, cM, unM, biM, tupM, lstM, callM, bltM, ifM, orM, getM, tcM, tvM, ntM, alM, anM, ivM, irM, rowM, allT, anyT, toB_b, unp_t, unp_r, unp_l, putL, List.reverse_cons, List.reverse_nil, List.nil_append, List.cons_append, List.zip_cons_cons, List.zip_nil_left, List.zip_nil_right, List.length_cons, List.length_nil, lk_hit, lk_miss, sr_nil, sr_hit, sr_miss, st_none, al_none, al_some, put_none, put_some, bnd_ret, bnd_fail, bnd_stuck, bnd_bnd, lift_some', lift_none', noErr_ret, few_ok, sub_c, sub_d, sub_n, if_true, ite_true, dite_true, Bool.false_eq_true, if_false, bnd_id, at_t0, at_t1, at_r0, at_r1, at_l0, at_l1, add_i, sub_i, neg_i, lt_i, le_i, gt_i, ge_i, eq_i, ne_i, eq_r, ne_r, eq_s, ne_s, eq_l, ne_l, abs_i, min_i, ite_false, pvR_mk, pvL_mk, setR_lookup, st_some, flat_r, mu_isNone, Option.isNone_none, Option.isNone_some, Bool.not_true, Bool.not_false, decide_true, decide_false, Bool.and_true, Bool.true_and, reduceCtorEq, ht, hlen, len_gt, g1.1, g1.2]
  · rw [if_neg g1]
    have c1 : (alM [(tcM gtV (bltM lenV [(nmM "rest")]) (cM (.int 0))), (tcM ltV (nmM "low") (cM (.int 0)))]) [("a", pvL p), ("end", .int e), ("low", .int q.1), ("rest", pvS q.2)] = ret false := by
      by_cases g2 : q.2 = []
      · rw [g2] at hlen ⊢
        simp (decide := true) only [runF, seqM, asg, rtM, nilM, ifS, raS, stS, nmM, cM, unM, biM, tupM, lstM, callM, bltM, ifM, orM, getM, tcM, tvM, ntM, alM, anM, ivM, irM, rowM, allT, anyT, toB_b, unp_t, unp_r, unp_l, putL, List.reverse_cons, List.reverse_nil, List.nil_append, List.cons_append, List.zip_cons_cons, List.zip_nil_left, List.zip_nil_right, List.length_cons, List.length_nil, lk_hit, lk_miss, sr_nil, sr_hit, sr_miss, st_none, al_none, al_some, put_none, put_some, bnd_ret, bnd_fail, bnd_stuck, bnd_bnd, lift_some', lift_none', noErr_ret, few_ok, sub_c, sub_d, sub_n, if_true, ite_true, dite_true, Bool.false_eq_true, if_false, bnd_id, at_t0, at_t1, at_r0, at_r1, at_l0, at_l1, add_i, sub_i, neg_i, lt_i, le_i, gt_i, ge_i, eq_i, ne_i, eq_r, ne_r, eq_s, ne_s, eq_l, ne_l, abs_i, min_i, ite_false, pvR_mk, pvL_mk, setR_lookup, st_some, flat_r, mu_isNone, Option.isNone_none, Option.isNone_some, Bool.not_true, Bool.not_false, decide_true, decide_false, Bool.and_true, Bool.true_and, reduceCtorEq, hlen]
      · have g3 : ¬ q.1 < 0 := fun z => g1 ⟨g2, z⟩
        simp (decide := true) only [runF, seqM, asg, rtM, nilM, ifS, raS, stS, nmM, cM, unM, biM, tupM, lstM, callM, bltM, ifM, orM, getM, tcM, tvM, ntM, alM, anM, ivM, irM, rowM, allT, anyT, toB_b, unp_t, unp_r, unp_l, putL, List.reverse_cons, List.reverse_nil, List.nil_append, List.cons_append, List.zip_cons_cons, List.zip_nil_left, List.zip_nil_right, List.length_cons, List.length_nil, lk_hit, lk_miss, sr_nil, sr_hit, sr_miss, st_none, al_none, al_some, put_none, put_some, bnd_ret, bnd_fail, bnd_stuck, bnd_bnd, lift_some', lift_none', noErr_ret, few_ok, sub_c, sub_d, sub_n, if_true, ite_true, dite_true, Bool.false_eq_true, if_false, bnd_id, at_t0, at_t1, at_r0, at_r1, at_l0, at_l1, add_i, sub_i, neg_i, lt_i, le_i, gt_i, ge_i, eq_i, ne_i, eq_r, ne_r, eq_s, ne_s, eq_l, ne_l, abs_i, min_i, ite_false, pvR_mk, pvL_mk, setR_lookup, st_some, flat_r, mu_isNone, Option.isNone_none, Option.isNone_some, Bool.not_true, Bool.not_false, decide_true, decide_false, Bool.and_true, Bool.true_and, reduceCtorEq, hlen, len_gt, g2, g3]
    by_cases g3 : q.1 + q.2.length < e
    · rw [if_pos g3]
      unfold m_lcut
      simp (decide := true) only [runF, seqM, asg, callM, rowM, nmM, List.zip_cons_cons, List.zip_nil_left, List.zip_nil_right, List.length_cons, List.length_nil, lk_hit, lk_miss, al_none, if_true, lift_some', bnd_ret, bnd_bnd, ht, st_none, unp_l, putL, put_none, setR_lookup, sr_hit, sr_miss, sr_nil, ifS, c1]
      simp (decide := true) only [runF, seqM, asg, rtM, nilM, ifS, raS, stS, nmM, cM, unM, biM, tupM, lstM, callM, bltM, ifM, orM, getM, tcM, tvM, ntM, alM, anM, ivM, irM, rowM, allT, anyT, toB_b, unp_t, unp_r, unp_l, putL, List.reverse_cons, List.reverse_nil, List.nil_append, List.cons_append, List.zip_cons_cons, List.zip_nil_left, List.zip_nil_right, List.length_cons, List.length_nil, lk_hit, lk_miss, sr_nil, sr_hit, sr_miss, st_none, al_none, al_some, put_none, put_some, bnd_ret, bnd_fail, bnd_stuck, bnd_bnd, lift_some', lift_none', noErr_ret, few_ok, sub_c, sub_d, sub_n, if_true, ite_true, dite_true, Bool.false_eq_true, if_false, bnd_id, at_t0, at_t1, at_r0, at_r1, at_l0, at_l1, add_i, sub_i, neg_i, lt_i, le_i, gt_i, ge_i, eq_i, ne_i, eq_r, ne_r, eq_s, ne_s, eq_l, ne_l, abs_i, min_i, ite_false, pvR_mk, pvL_mk, setR_lookup, st_some, flat_r, mu_isNone, Option.isNone_none, Option.isNone_some, Bool.not_true, Bool.not_false, decide_true, decide_false, Bool.and_true, Bool.true_and, reduceCtorEq, hlen, g3]
    · rw [if_neg g3]
      unfold m_lcut
      simp (decide := true) only [runF, seqM, asg, callM, rowM, nmM, List.zip_cons_cons, List.zip_nil_left, List.zip_nil_right, List.length_cons, List.length_nil, lk_hit, lk_miss, al_none, if_true, lift_some', bnd_ret, bnd_bnd, ht, st_none, unp_l, putL, put_none, setR_lookup, sr_hit, sr_miss, sr_nil, ifS, c1]
      by_cases g4 : q.1 ≥ 0
      · simp (decide := true) only [runF, seqM, asg, rtM, nilM, ifS, raS, stS, nmM, cM, unM, biM, tupM, lstM, callM, bltM, ifM, orM, getM, tcM, tvM, ntM, alM, anM, ivM, irM, rowM, allT, anyT, toB_b, unp_t, unp_r, unp_l, putL, List.reverse_cons, List.reverse_nil, List.nil_append, List.cons_append, List.zip_cons_cons, List.zip_nil_left, List.zip_nil_right, List.length_cons, List.length_nil, lk_hit, lk_miss, sr_nil, sr_hit, sr_miss, st_none, al_none, al_some, put_none, put_some, bnd_ret, bnd_fail, bnd_stuck, bnd_bnd, lift_some', lift_none', noErr_ret, few_ok, sub_c, sub_d, sub_n, if_true, ite_true, dite_true, Bool.false_eq_true, if_false, bnd_id, at_t0, at_t1, at_r0, at_r1, at_l0, at_l1, add_i, sub_i, neg_i, lt_i, le_i, gt_i, ge_i, eq_i, ne_i, eq_r, ne_r, eq_s, ne_s, eq_l, ne_l, abs_i, min_i, ite_false, pvR_mk, pvL_mk, setR_lookup, st_some, flat_r, mu_isNone, Option.isNone_none, Option.isNone_some, Bool.not_true, Bool.not_false, decide_true, decide_false, Bool.and_true, Bool.true_and, reduceCtorEq, hlen, g3, g4, pvS_one, rep_s (show q.1 ≤ 1000 by omega) (show -1000 ≤ q.1 by omega), add_s (show (List.replicate q.1.toNat ((0, 1) : Rt)).length + q.2.length ≤ 1000 by simp; omega),
          upto_s h3 (show (List.replicate q.1.toNat ((0, 1) : Rt) ++ q.2).length ≤ 1000 by simp; omega)]
      · simp (decide := true) only [runF, seqM, asg, rtM, nilM, ifS, raS, stS, nmM, cM, unM, biM, tupM, lstM, callM, bltM, ifM, orM, getM, tcM, tvM, ntM, alM, anM, ivM, irM, rowM, allT, anyT, toB_b, unp_t, unp_r, unp_l, putL, List.reverse_cons, List.reverse_nil, List.nil_append, List.cons_append, List.zip_cons_cons, List.zip_nil_left, List.zip_nil_right, List.length_cons, List.length_nil, lk_hit, lk_miss, sr_nil, sr_hit, sr_miss, st_none, al_none, al_some, put_none, put_some, bnd_ret, bnd_fail, bnd_stuck, bnd_bnd, lift_some', lift_none', noErr_ret, few_ok, sub_c, sub_d, sub_n, if_true, ite_true, dite_true, Bool.false_eq_true, if_false, bnd_id, at_t0, at_t1, at_r0, at_r1, at_l0, at_l1, add_i, sub_i, neg_i, lt_i, le_i, gt_i, ge_i, eq_i, ne_i, eq_r, ne_r, eq_s, ne_s, eq_l, ne_l, abs_i, min_i, ite_false, pvR_mk, pvL_mk, setR_lookup, st_some, flat_r, mu_isNone, Option.isNone_none, Option.isNone_some, Bool.not_true, Bool.not_false, decide_true, decide_false, Bool.and_true, Bool.true_and, reduceCtorEq, hlen, g3, g4, pvS_one, rep_s (show e ≤ 1000 by omega) (show -1000 ≤ e by omega)]
theorem spLL_sub {f : Int × List Rt → Int × List Rt → Option (Int × List Rt)} {m : List PV → M PV} (h : ∀ a b r, okL2 a b → f a b = some r → m [pvL a, pvL b] = ret (pvL r)) : ∀ ds n r n', spLL f ds n = some (r, n') → m ds n = some (r, n') := by
  intro ds n r n' e
  unfold spLL at e
  split at e
  · obtain ⟨p, rfl, e1⟩ := lauM_some e
    obtain ⟨q, rfl, e2⟩ := lauM_some e1
    split at e2
    case isFalse => cases e2
    next hl =>
    obtain ⟨d, h3, rfl, rfl⟩ := lift_some e2
    obtain ⟨q, h4, rfl⟩ := Option.map_eq_some_iff.mp h3
    rw [h _ _ _ hl h4]; rfl
  · cases e
theorem spL_sub {f : Int × List Rt → M PV} {m : List PV → M PV} (h : ∀ p, p.2.length ≤ 400 → m [pvL p] = f p) : ∀ ds n r n', spL f ds n = some (r, n') → m ds n = some (r, n') := by
  intro ds n r n' e
  unfold spL at e
  split at e
  · obtain ⟨p, rfl, e1⟩ := lauM_some e
    split at e1
    case isFalse => cases e1
    next hl => rw [h _ hl]; exact e1
  · cases e
theorem Fn.stuck {wd : Wd} {k : Nat} {name : Str} {params : Arguments} {body : List Stmt} {scope : Scope} (hat : FnAtG wd name params body scope) : Fn wd k name (fun _ => Lz.stuck) := fun cx S R =>
  let ⟨a, o, _, _, _, h1, h2, h3, _, _⟩ := hat
  ⟨a, o, _, h1, h2, h3, fun s n vs ds r n' e => by cases e⟩
section
variable {wd : Wd}
theorem k_lplain (C : Wld wd) : Fn wd 2 "lplain" sp_lplain := (f_lplain C).sub fun ds n r n' e => by
  unfold sp_lplain at e
  split at e
  · obtain ⟨d, h3, rfl, rfl⟩ := lift_some e
    obtain ⟨q, h4, h3⟩ := Option.bind_eq_some_iff.mp h3
    split at h3
    case isFalse => cases h3
    next hg => cases h3; rw [rt_some h4, u_lplain hg.1 hg.2]; rfl
  · cases e
theorem k_lmoved (C : Wld wd) : Fn wd 2 "lmoved" sp_lmoved := (f_lmoved C).sub fun ds n r n' e => by
  unfold sp_lmoved at e
  split at e
  · obtain ⟨p, rfl, e1⟩ := lauM_some e
    split at e1
    case isFalse => cases e1
    next hg => rw [u_lmoved hg.1 hg.2.1 hg.2.2]; exact e1
  · cases e
theorem k_ladd (C : Wld wd) : Fn wd 6 "ladd" sp_ladd := (f_ladd C (k_sadd C) (k_lmoved C)).sub (spLL_sub fun _ _ _ hg h => u_ladd hg h)
theorem k_lneg (C : Wld wd) : Fn wd 3 "lneg" sp_lneg := (f_lneg C (k_rneg C)).sub (spL_sub fun _ h => u_lneg h)
theorem k_lmul (C : Wld wd) : Fn wd 7 "lmul" sp_lmul := (f_lmul C (k_smul C)).sub (spLL_sub fun _ _ _ hg h => u_lmul hg h)
theorem k_ltrim (C : Wld wd) : Fn wd 2 "ltrim" sp_ltrim := (f_ltrim C).sub (spL_sub fun _ h => u_ltrim h)
theorem k_linverse (C : Wld wd) : Fn wd 6 "linverse" sp_linverse := (f_linverse C (k_sinverse C) (k_ltrim C)).sub (spL_sub fun _ h => u_linverse h)
theorem k_lpower0 (C : Wld wd) : Fn wd 8 "lpower" sp_lpower0 := (f_lpower0 C (k_swhole_power C) (k_ltrim C) (k_linverse C) (Fn.stuck C.at28)).sub fun ds n r n' e => by
  unfold sp_lpower0 at e
  split at e
  · obtain ⟨p, rfl, e1⟩ := lauM_some e
    split at e1
    case isFalse => cases e1
    next hg => rw [u_lpow0 hg.1 hg.2.1 hg.2.2]; exact e1
  · cases e
theorem k_lpower (C : Wld wd) : Fn wd 9 "lpower" sp_lpower := (f_lpower C (k_swhole_power C) (k_ltrim C) (k_linverse C) (k_lpower0 C)).sub fun ds n r n' e => by
  unfold sp_lpower at e
  split at e
  · obtain ⟨p, rfl, e1⟩ := lauM_some e
    split at e1
    case isFalse => cases e1
    next hg => rw [u_lpower hg.1 hg.2.1 hg.2.2]; exact e1
  · cases e
theorem k_lcut (C : Wld wd) : Fn wd 3 "lcut" sp_lcut := (f_lcut C (k_ltrim C)).sub fun ds n r n' e => by
  unfold sp_lcut at e
  split at e
  · obtain ⟨p, rfl, e1⟩ := lauM_some e
    split at e1
    case isFalse => cases e1
    next hg => rw [u_lcut hg.1 hg.2.1 hg.2.2.1 hg.2.2.2.1 hg.2.2.2.2]; exact e1
  · cases e
end
end Lz
set_option linter.unusedSimpArgs false
namespace Lz
open PySem PySem.W PyProof.Rows

noncomputable def takeI (scr : List Int) (n many : Int) : Int := if n + 1 ≤ scr.length then ((scr.getD n.toNat 0).natAbs : Int).fmod many else (7 * (n + 1) + (n + 1).fdiv 4).fmod many
abbrev okTake (scr : List Int) (n many : Int) : Prop := 0 ≤ n ∧ n ≤ 100 ∧ 0 < many ∧ many ≤ 100 ∧ scr.length ≤ 100
noncomputable def sp_law_take (wd : Wd) : List PV → M PV
  | [.box, .int many] => fun n => if okTake wd.scr n many then some (.ok (.int (takeI wd.scr n many)), n + 1) else none
  | _ => stuck
noncomputable def coefI (v : Int) : Int := ([0, 1, -1, 2, 3] : List Int).getD v.toNat 0
noncomputable def drawI (scr : List Int) (n : Int) : Int × List Rt := (takeI scr n 6 - 3, (List.range (1 + takeI scr (n + 1) 4).toNat).map fun j => (coefI (takeI scr (n + 2 + (j : Nat)) 5), 1))
noncomputable def sp_law_drawn (wd : Wd) : List PV → M PV
  | [.box] => fun n => if 0 ≤ n ∧ n ≤ 50 ∧ wd.scr.length ≤ 100 then some (.ok (pvL (drawI wd.scr n)), n + 3 + takeI wd.scr (n + 1) 4) else none
  | _ => stuck
noncomputable def m_law_take (wd : Wd) : Sig → M (Fl × Sig) := (seqM (boxSet "box" (biM addV (box1 "box") (cM (.int 1)))) (seqM (ifS (tcM leV (box1 "box") (bltM lenV [(box0 wd "box")])) (seqM (rtM (biM modV (bltM absV [(biM atV (box0 wd "box") (biM subV (box1 "box") (cM (.int 1))))]) (nmM "many"))) nilM) nilM) (seqM (rtM (biM modV (biM addV (biM mulV (cM (.int 7)) (box1 "box")) (biM fdivV (box1 "box") (cM (.int 4)))) (nmM "many"))) nilM)))
set_option maxHeartbeats 4000000 in
theorem v_law_take {wd : Wd} (C : Wld wd) : Sv wd (sco 31) 1 (execs (bd 31)) (m_law_take wd) := (Sv.cons (Sv.boxSet (X.bin Ev.box1 X.int op_add)) (Sv.cons (S.iff (T.cmp Ev.box1 (X.blt C.len (.inl ⟨_, rfl⟩) opN_len (by rfl) (X.rc Ev.box0 X.rn)) op_le) (Sv.cons (S.rt (X.bin (X.blt C.abs (.inl ⟨_, rfl⟩) opN_abs (by rfl) (X.rc (X.at Ev.box0 (X.bin Ev.box1 X.int op_sub)) X.rn)) X.nm op_mod)) S.nil) S.nil) (Sv.cons (S.rt (X.bin (X.bin (X.bin X.int Ev.box1 op_mul) (X.bin Ev.box1 X.int op_fdiv) op_add) X.nm op_mod)) S.nil)))
theorem f_law_take {wd : Wd} (C : Wld wd) : Fn wd 2 "_law_take" (runF ["box", "many"] (m_law_take wd)) := Fn.mk C.at31 (v_law_take C) (fun _ _ _ => len2 fun a b => rfl) (by decide) (by decide)
noncomputable def m_law_drawn (wd : Wd) : Sig → M (Fl × Sig) := (seqM (asg (tupM [(biM subV (callM (sp_law_take wd) [(nmM "box"), (cM (.int 6))]) (cM (.int 3))), (biM addV (cM (.int 1)) (callM (sp_law_take wd) [(nmM "box"), (cM (.int 4))]))]) (unp 2 fun ds => putL [put "many", put "low"] ds.reverse)) (seqM (rtM (tupM [(nmM "low"), (listC "turn" ["box"] (irM [(nmM "many")]) (fun _ => ret true) (tupM [(biM atV (lstM [(cM (.int 0)), (cM (.int 1)), (unM negV (cM (.int 1))), (cM (.int 2)), (cM (.int 3))]) (callM (sp_law_take wd) [(nmM "box"), (cM (.int 5))])), (cM (.int 1))]))])) nilM))
set_option maxHeartbeats 4000000 in
theorem v_law_drawn {wd : Wd} (C : Wld wd) (h_law_take : Fn wd 2 "_law_take" (sp_law_take wd)) : Sv wd (sco 32) 2 (execs (bd 32)) (m_law_drawn wd) := (Sv.cons (S.swap (X.tup (X.rc (X.bin (X.call (h_law_take) (by decide) (by rfl) (X.rc X.nm (X.rc X.int X.rn))) X.int op_sub) (X.rc (X.bin X.int (X.call (h_law_take) (by decide) (by rfl) (X.rc X.nm (X.rc X.int X.rn))) op_add) X.rn))) (by rfl) (by rfl) (by intro env h; have hb : env.blockKind = .function := (by unfold Env.blockKind; rw [h]; rfl); unfold swappedStores Env.kindOf; rw [hb, h]; rfl)) (Sv.cons (S.rt (X.tup (X.rc X.nm (X.rc (Ev.listComp ["box"] (by constructor <;> decide) (I.rng C.range (by rfl) (X.rc X.nm X.rn)) TestsV.nil (X.tup (X.rc (X.at (X.lst (X.rc X.int (X.rc X.int (X.rc (X.un X.int op_neg) (X.rc X.int (X.rc X.int X.rn)))))) (X.call (h_law_take) (by decide) (by rfl) (X.rc X.nm (X.rc X.int X.rn)))) (X.rc X.int X.rn)))) X.rn)))) S.nil))
theorem f_law_drawn {wd : Wd} (C : Wld wd) (h_law_take : Fn wd 2 "_law_take" (sp_law_take wd)) : Fn wd 3 "_law_drawn" (runF ["box"] (m_law_drawn wd)) := Fn.mk C.at32 (v_law_drawn C h_law_take) (fun _ _ _ => len1 fun a => rfl) (by decide) (by decide)

noncomputable def getN : M PV := fun n => some (.ok (.int n), n)
noncomputable def setN (i : Int) : M Unit := fun _ => some (.ok (), i)
theorem bnd_getN {β : Type} {f : PV → M β} {n : Int} : bnd getN f n = f (.int n) n := rfl
theorem bnd_setN {β : Type} {f : Unit → M β} {i n : Int} : bnd (setN i) f n = f () i := rfl
theorem box1_ok {x : Str} {ρ : Rho} (h : ρ.lookup x = some .box) : box1 x ρ = getN := by unfold box1; rw [h]; rfl
theorem box0_ok {wd : Wd} {x : Str} {ρ : Rho} (h : ρ.lookup x = some .box) : box0 wd x ρ = ret (.lst (wd.scr.map .int)) := by unfold box0; rw [h]
noncomputable def boxK (x : Str) (σ : Sig) (d : PV) : M (Fl × Sig) := match d, σ.ρ.lookup x with
  | .int i, some .box => fun _ => some (.ok (.next, σ), i)
  | _, _ => stuck
theorem boxSet_eq {x : Str} {mv : Rho → M PV} {σ : Sig} : boxSet x mv σ = bnd (mv σ.all) (boxK x σ) := rfl
theorem boxK_ok {x : Str} {σ : Sig} {i : Int} (h : σ.ρ.lookup x = some .box) : boxK x σ (.int i) = bnd (setN i) fun _ => ret (.next, σ) := by unfold boxK; rw [h]; rfl
theorem ret_ap {α : Type} {a : α} {n : Int} : ret a n = some (.ok a, n) := rfl
theorem at_li {l : List Int} {i : Int} (h0 : 0 ≤ i) (h1 : i < l.length) (h2 : l.length ≤ 100) : atV (.lst (l.map .int)) (.int i) = some (.int (l.getD i.toNat 0)) := by
  unfold atV
  dsimp only
  rw [if_pos (by simp; omega)]
  have : i.toNat < l.length := by omega
  simp [List.getElem?_eq_getElem this, List.getD_eq_getElem?_getD]
theorem u_take {wd : Wd} {n many : Int} (h : okTake wd.scr n many) : runF ["box", "many"] (m_law_take wd) [.box, .int many] n = some (.ok (.int (takeI wd.scr n many)), n + 1) := by
  unfold okTake at h
  have hl : lenV [.lst (wd.scr.map .int)] = some (.int wd.scr.length) := by unfold lenV; dsimp only; rw [if_pos (by simp; omega)]; simp
  have hm : many ≠ 0 := by omega
  unfold takeI
  have e1 : ∀ mk, box1 "box" [("box", .box), ("many", mk)] = getN := fun mk => box1_ok rfl
  have e2 : ∀ mk i, boxK "box" ⟨[("box", .box), ("many", mk)], none⟩ (.int i) = bnd (setN i) fun _ => ret (.next, ⟨[("box", .box), ("many", mk)], none⟩) := fun mk i => boxK_ok rfl
  have e0 : ∀ mk, box0 wd "box" [("box", .box), ("many", mk)] = ret (.lst (wd.scr.map .int)) := fun mk => box0_ok rfl
  by_cases hc : n + 1 ≤ wd.scr.length
  · have hat := at_li (l := wd.scr) (i := n) h.1 (by omega) h.2.2.2.2
    simp (decide := true) only [m_law_take, boxSet_eq, e0, e1, e2, bnd_getN, bnd_setN, ret_ap, runF, seqM, asg, rtM, nilM, ifS, raS, stS, nmM, cM, unM, biM, tupM, lstM, callM, bltM, ifM, orM, getM, tcM, tvM, ntM, alM, anM, ivM, irM, rowM, allT, anyT, toB_b, unp_t, unp_r, unp_l, putL, List.reverse_cons, List.reverse_nil, List.nil_append, List.cons_append, List.zip_cons_cons, List.zip_nil_left, List.zip_nil_right, List.length_cons, List.length_nil, lk_hit, lk_miss, sr_nil, sr_hit, sr_miss, st_none, al_none, al_some, put_none, put_some, bnd_ret, bnd_fail, bnd_stuck, bnd_bnd, lift_some', lift_none', noErr_ret, few_ok, sub_c, sub_d, sub_n, if_true, ite_true, dite_true, Bool.false_eq_true, if_false, bnd_id, at_t0, at_t1, at_r0, at_r1, at_l0, at_l1, add_i, sub_i, neg_i, lt_i, le_i, gt_i, ge_i, eq_i, ne_i, eq_r, ne_r, eq_s, ne_s, eq_l, ne_l, abs_i, min_i, ite_false, pvR_mk, pvL_mk, setR_lookup, st_some, flat_r, mu_isNone, Option.isNone_none, Option.isNone_some, Bool.not_true, Bool.not_false, decide_true, decide_false, Bool.and_true, Bool.true_and, reduceCtorEq, hl, hc, mod_i hm, show n + 1 - 1 = n by omega, hat]
  · simp (decide := true) only [m_law_take, boxSet_eq, e0, e1, e2, bnd_getN, bnd_setN, ret_ap, runF, seqM, asg, rtM, nilM, ifS, raS, stS, nmM, cM, unM, biM, tupM, lstM, callM, bltM, ifM, orM, getM, tcM, tvM, ntM, alM, anM, ivM, irM, rowM, allT, anyT, toB_b, unp_t, unp_r, unp_l, putL, List.reverse_cons, List.reverse_nil, List.nil_append, List.cons_append, List.zip_cons_cons, List.zip_nil_left, List.zip_nil_right, List.length_cons, List.length_nil, lk_hit, lk_miss, sr_nil, sr_hit, sr_miss, st_none, al_none, al_some, put_none, put_some, bnd_ret, bnd_fail, bnd_stuck, bnd_bnd, lift_some', lift_none', noErr_ret, few_ok, sub_c, sub_d, sub_n, if_true, ite_true, dite_true, Bool.false_eq_true, if_false, bnd_id, at_t0, at_t1, at_r0, at_r1, at_l0, at_l1, add_i, sub_i, neg_i, lt_i, le_i, gt_i, ge_i, eq_i, ne_i, eq_r, ne_r, eq_s, ne_s, eq_l, ne_l, abs_i, min_i, ite_false, pvR_mk, pvL_mk, setR_lookup, st_some, flat_r, mu_isNone, Option.isNone_none, Option.isNone_some, Bool.not_true, Bool.not_false, decide_true, decide_false, Bool.and_true, Bool.true_and, reduceCtorEq, hl, hc, mod_i hm, mul_i (small_of (show -1000000 ≤ n + 1 by omega) (show n + 1 ≤ 1000000 by omega)), fdiv_i (show (4 : Int) ≠ 0 by decide) (show small 4 = true by decide)]
theorem take_lt {scr : List Int} {n many : Int} (h : 0 < many) : 0 ≤ takeI scr n many ∧ takeI scr n many < many := by
  unfold takeI
  split
  · rw [Int.fmod_eq_emod_of_nonneg _ (by omega)]
    exact ⟨Int.emod_nonneg _ (by omega), Int.emod_lt_of_pos _ h⟩
  · rw [Int.fmod_eq_emod_of_nonneg _ (by omega)]
    exact ⟨Int.emod_nonneg _ (by omega), Int.emod_lt_of_pos _ h⟩
theorem take_of {wd : Wd} {n many : Int} (h : okTake wd.scr n many) : sp_law_take wd [.box, .int many] n = some (.ok (.int (takeI wd.scr n many)), n + 1) := if_pos h
theorem coef_at {v : Int} (h0 : 0 ≤ v) (h1 : v < 5) : atV (.lst [.int 0, .int 1, .int (-1), .int 2, .int 3]) (.int v) = some (.int (coefI v)) := by
  have : v = 0 ∨ v = 1 ∨ v = 2 ∨ v = 3 ∨ v = 4 := by omega
  rcases this with rfl | rfl | rfl | rfl | rfl <;> rfl
noncomputable def elt_drawn (wd : Wd) : Rho → M PV := (tupM [(biM atV (lstM [(cM (.int 0)), (cM (.int 1)), (unM negV (cM (.int 1))), (cM (.int 2)), (cM (.int 3))]) (callM (sp_law_take wd) [(nmM "box"), (cM (.int 5))])), (cM (.int 1))])
theorem draw_comp {wd : Wd} (hs : wd.scr.length ≤ 100) : ∀ (m : Nat) (k : Int) (acc : List PV) (l : List PV), l.length = m → 0 ≤ k → k + m ≤ 90 → compF "turn" [("box", .box)] (fun _ => ret true) (fun ρ' acc => bnd (elt_drawn wd ρ') fun e => ret (acc ++ [e])) l acc k =
    some (.ok (acc ++ ((List.range m).map fun j => pvR (coefI (takeI wd.scr (k + (j : Nat)) 5), 1))), k + m)
  | 0, k, acc, l, hl, _, _ => by
    rw [List.length_eq_zero_iff.mp hl]
    simp [compF, ret]
  | m + 1, k, acc, l, hl, h0, h1 => by
    cases l with
    | nil => simp at hl
    | cons d l =>
      have ht := take_lt (scr := wd.scr) (n := k) (many := 5) (by decide)
      have e : elt_drawn wd (("turn", d) :: [("box", .box)]) k = some (.ok (pvR (coefI (takeI wd.scr k 5), 1)), k + 1) := by
        have hv := coef_at ht.1 ht.2
        simp (decide := true) only [elt_drawn, runF, seqM, asg, rtM, nilM, ifS, raS, stS, nmM, cM, unM, biM, tupM, lstM, callM, bltM, ifM, orM, getM, tcM, tvM, ntM, alM, anM, ivM, irM, rowM, allT, anyT, toB_b, unp_t, unp_r, unp_l, putL, List.reverse_cons, List.reverse_nil, List.nil_append, List.cons_append, List.zip_cons_cons, List.zip_nil_left, List.zip_nil_right, List.length_cons, List.length_nil, lk_hit, lk_miss, sr_nil, sr_hit, sr_miss, st_none, al_none, al_some, put_none, put_some, bnd_ret, bnd_fail, bnd_stuck, bnd_bnd, lift_some', lift_none', noErr_ret, few_ok, sub_c, sub_d, sub_n, if_true, ite_true, dite_true, Bool.false_eq_true, if_false, bnd_id, at_t0, at_t1, at_r0, at_r1, at_l0, at_l1, add_i, sub_i, neg_i, lt_i, le_i, gt_i, ge_i, eq_i, ne_i, eq_r, ne_r, eq_s, ne_s, eq_l, ne_l, abs_i, min_i, ite_false, pvR_mk, pvL_mk, setR_lookup, st_some, flat_r, mu_isNone, Option.isNone_none, Option.isNone_some, Bool.not_true, Bool.not_false, decide_true, decide_false, Bool.and_true, Bool.true_and, reduceCtorEq]
        rw [bnd_of (take_of ⟨h0, by omega, by decide, by decide, hs⟩)]
        simp (decide := true) only [runF, seqM, asg, rtM, nilM, ifS, raS, stS, nmM, cM, unM, biM, tupM, lstM, callM, bltM, ifM, orM, getM, tcM, tvM, ntM, alM, anM, ivM, irM, rowM, allT, anyT, toB_b, unp_t, unp_r, unp_l, putL, List.reverse_cons, List.reverse_nil, List.nil_append, List.cons_append, List.zip_cons_cons, List.zip_nil_left, List.zip_nil_right, List.length_cons, List.length_nil, lk_hit, lk_miss, sr_nil, sr_hit, sr_miss, st_none, al_none, al_some, put_none, put_some, bnd_ret, bnd_fail, bnd_stuck, bnd_bnd, lift_some', lift_none', noErr_ret, few_ok, sub_c, sub_d, sub_n, if_true, ite_true, dite_true, Bool.false_eq_true, if_false, bnd_id, at_t0, at_t1, at_r0, at_r1, at_l0, at_l1, add_i, sub_i, neg_i, lt_i, le_i, gt_i, ge_i, eq_i, ne_i, eq_r, ne_r, eq_s, ne_s, eq_l, ne_l, abs_i, min_i, ite_false, pvR_mk, pvL_mk, setR_lookup, st_some, flat_r, mu_isNone, Option.isNone_none, Option.isNone_some, Bool.not_true, Bool.not_false, decide_true, decide_false, Bool.and_true, Bool.true_and, reduceCtorEq, hv]
        rfl
      rw [compF]
      simp only [noErr_ret, bnd_ret, if_true]
      rw [bnd_of (noErr_of (by rw [bnd_of e]; rfl)), draw_comp hs m (k + 1) _ l (by simpa using hl) (by omega) (by omega)]
      rw [List.range_succ_eq_map]
      simp only [List.map_cons, List.map_map, List.append_assoc, List.cons_append, List.nil_append, Function.comp_def]
      have e2 : ∀ j : Nat, k + 1 + (j : Int) = k + ((j + 1 : Nat) : Int) := fun j => by omega
      have e3 : k + ((0 : Nat) : Int) = k := by omega
      simp only [e2, e3, Nat.succ_eq_add_one]
theorem u_drawn {wd : Wd} {n : Int} (h0 : 0 ≤ n) (h1 : n ≤ 50) (hs : wd.scr.length ≤ 100) : runF ["box"] (m_law_drawn wd) [.box] n = some (.ok (pvL (drawI wd.scr n)), n + 3 + takeI wd.scr (n + 1) 4) := by
  have ht := take_lt (scr := wd.scr) (n := n + 1) (many := 4) (by decide)
  simp (decide := true) only [m_law_drawn, runF, seqM, asg, rtM, nilM, ifS, raS, stS, nmM, cM, unM, biM, tupM, lstM, callM, bltM, ifM, orM, getM, tcM, tvM, ntM, alM, anM, ivM, irM, rowM, allT, anyT, toB_b, unp_t, unp_r, unp_l, putL, List.reverse_cons, List.reverse_nil, List.nil_append, List.cons_append, List.zip_cons_cons, List.zip_nil_left, List.zip_nil_right, List.length_cons, List.length_nil, lk_hit, lk_miss, sr_nil, sr_hit, sr_miss, st_none, al_none, al_some, put_none, put_some, bnd_ret, bnd_fail, bnd_stuck, bnd_bnd, lift_some', lift_none', noErr_ret, few_ok, sub_c, sub_d, sub_n, if_true, ite_true, dite_true, Bool.false_eq_true, if_false, bnd_id, at_t0, at_t1, at_r0, at_r1, at_l0, at_l1, add_i, sub_i, neg_i, lt_i, le_i, gt_i, ge_i, eq_i, ne_i, eq_r, ne_r, eq_s, ne_s, eq_l, ne_l, abs_i, min_i, ite_false, pvR_mk, pvL_mk, setR_lookup, st_some, flat_r, mu_isNone, Option.isNone_none, Option.isNone_some, Bool.not_true, Bool.not_false, decide_true, decide_false, Bool.and_true, Bool.true_and, reduceCtorEq]
  rw [bnd_of (take_of ⟨h0, by omega, by decide, by decide, hs⟩)]
  simp (decide := true) only [runF, seqM, asg, rtM, nilM, ifS, raS, stS, nmM, cM, unM, biM, tupM, lstM, callM, bltM, ifM, orM, getM, tcM, tvM, ntM, alM, anM, ivM, irM, rowM, allT, anyT, toB_b, unp_t, unp_r, unp_l, putL, List.reverse_cons, List.reverse_nil, List.nil_append, List.cons_append, List.zip_cons_cons, List.zip_nil_left, List.zip_nil_right, List.length_cons, List.length_nil, lk_hit, lk_miss, sr_nil, sr_hit, sr_miss, st_none, al_none, al_some, put_none, put_some, bnd_ret, bnd_fail, bnd_stuck, bnd_bnd, lift_some', lift_none', noErr_ret, few_ok, sub_c, sub_d, sub_n, if_true, ite_true, dite_true, Bool.false_eq_true, if_false, bnd_id, at_t0, at_t1, at_r0, at_r1, at_l0, at_l1, add_i, sub_i, neg_i, lt_i, le_i, gt_i, ge_i, eq_i, ne_i, eq_r, ne_r, eq_s, ne_s, eq_l, ne_l, abs_i, min_i, ite_false, pvR_mk, pvL_mk, setR_lookup, st_some, flat_r, mu_isNone, Option.isNone_none, Option.isNone_some, Bool.not_true, Bool.not_false, decide_true, decide_false, Bool.and_true, Bool.true_and, reduceCtorEq]
  rw [bnd_of (take_of ⟨by omega, by omega, by decide, by decide, hs⟩)]
  simp (decide := true) only [runF, seqM, asg, rtM, nilM, ifS, raS, stS, nmM, cM, unM, biM, tupM, lstM, callM, bltM, ifM, orM, getM, tcM, tvM, ntM, alM, anM, ivM, irM, rowM, allT, anyT, toB_b, unp_t, unp_r, unp_l, putL, List.reverse_cons, List.reverse_nil, List.nil_append, List.cons_append, List.zip_cons_cons, List.zip_nil_left, List.zip_nil_right, List.length_cons, List.length_nil, lk_hit, lk_miss, sr_nil, sr_hit, sr_miss, st_none, al_none, al_some, put_none, put_some, bnd_ret, bnd_fail, bnd_stuck, bnd_bnd, lift_some', lift_none', noErr_ret, few_ok, sub_c, sub_d, sub_n, if_true, ite_true, dite_true, Bool.false_eq_true, if_false, bnd_id, at_t0, at_t1, at_r0, at_r1, at_l0, at_l1, add_i, sub_i, neg_i, lt_i, le_i, gt_i, ge_i, eq_i, ne_i, eq_r, ne_r, eq_s, ne_s, eq_l, ne_l, abs_i, min_i, ite_false, pvR_mk, pvL_mk, setR_lookup, st_some, flat_r, mu_isNone, Option.isNone_none, Option.isNone_some, Bool.not_true, Bool.not_false, decide_true, decide_false, Bool.and_true, Bool.true_and, reduceCtorEq]
  have hlist : listC "turn" ["box"] (irM [(nmM "many")]) (fun _ => ret true) (elt_drawn wd) [("box", .box), ("many", .int (1 + takeI wd.scr (n + 1) 4)), ("low", .int (takeI wd.scr n 6 - 3))] (n + 1 + 1) =
      some (.ok (pvS ((List.range (1 + takeI wd.scr (n + 1) 4).toNat).map fun j => (coefI (takeI wd.scr (n + 2 + (j : Nat)) 5), 1))), n + 3 + takeI wd.scr (n + 1) 4) := by
    unfold listC
    simp (decide := true) only [runF, seqM, asg, rtM, nilM, ifS, raS, stS, nmM, cM, unM, biM, tupM, lstM, callM, bltM, ifM, orM, getM, tcM, tvM, ntM, alM, anM, ivM, irM, rowM, allT, anyT, toB_b, unp_t, unp_r, unp_l, putL, List.reverse_cons, List.reverse_nil, List.nil_append, List.cons_append, List.zip_cons_cons, List.zip_nil_left, List.zip_nil_right, List.length_cons, List.length_nil, lk_hit, lk_miss, sr_nil, sr_hit, sr_miss, st_none, al_none, al_some, put_none, put_some, bnd_ret, bnd_fail, bnd_stuck, bnd_bnd, lift_some', lift_none', noErr_ret, few_ok, sub_c, sub_d, sub_n, if_true, ite_true, dite_true, Bool.false_eq_true, if_false, bnd_id, at_t0, at_t1, at_r0, at_r1, at_l0, at_l1, add_i, sub_i, neg_i, lt_i, le_i, gt_i, ge_i, eq_i, ne_i, eq_r, ne_r, eq_s, ne_s, eq_l, ne_l, abs_i, min_i, ite_false, pvR_mk, pvL_mk, setR_lookup, st_some, flat_r, mu_isNone, Option.isNone_none, Option.isNone_some, Bool.not_true, Bool.not_false, decide_true, decide_false, Bool.and_true, Bool.true_and, reduceCtorEq]
    rw [range_1 (by omega) (by omega)]
    simp (decide := true) only [runF, seqM, asg, rtM, nilM, ifS, raS, stS, nmM, cM, unM, biM, tupM, lstM, callM, bltM, ifM, orM, getM, tcM, tvM, ntM, alM, anM, ivM, irM, rowM, allT, anyT, toB_b, unp_t, unp_r, unp_l, putL, List.reverse_cons, List.reverse_nil, List.nil_append, List.cons_append, List.zip_cons_cons, List.zip_nil_left, List.zip_nil_right, List.length_cons, List.length_nil, lk_hit, lk_miss, sr_nil, sr_hit, sr_miss, st_none, al_none, al_some, put_none, put_some, bnd_ret, bnd_fail, bnd_stuck, bnd_bnd, lift_some', lift_none', noErr_ret, few_ok, sub_c, sub_d, sub_n, if_true, ite_true, dite_true, Bool.false_eq_true, if_false, bnd_id, at_t0, at_t1, at_r0, at_r1, at_l0, at_l1, add_i, sub_i, neg_i, lt_i, le_i, gt_i, ge_i, eq_i, ne_i, eq_r, ne_r, eq_s, ne_s, eq_l, ne_l, abs_i, min_i, ite_false, pvR_mk, pvL_mk, setR_lookup, st_some, flat_r, mu_isNone, Option.isNone_none, Option.isNone_some, Bool.not_true, Bool.not_false, decide_true, decide_false, Bool.and_true, Bool.true_and, reduceCtorEq]
    rw [bnd_of (noErr_of (draw_comp hs (1 + takeI wd.scr (n + 1) 4).toNat (n + 1 + 1) [] _ (by simp) (by omega) (by omega)))]
    simp only [ret, List.nil_append]
    unfold pvS
    rw [List.map_map]
    have e2 : ∀ j : Nat, n + 1 + 1 + (j : Int) = n + 2 + (j : Int) := fun j => by omega
    have e3 : n + 2 + ((1 + takeI wd.scr (n + 1) 4).toNat : Int) = n + 3 + takeI wd.scr (n + 1) 4 := by omega
    simp only [Function.comp_def, e2, e3]
  unfold elt_drawn at hlist
  rw [bnd_of hlist]
  simp (decide := true) only [runF, seqM, asg, rtM, nilM, ifS, raS, stS, nmM, cM, unM, biM, tupM, lstM, callM, bltM, ifM, orM, getM, tcM, tvM, ntM, alM, anM, ivM, irM, rowM, allT, anyT, toB_b, unp_t, unp_r, unp_l, putL, List.reverse_cons, List.reverse_nil, List.nil_append, List.cons_append, List.zip_cons_cons, List.zip_nil_left, List.zip_nil_right, List.length_cons, List.length_nil, lk_hit, lk_miss, sr_nil, sr_hit, sr_miss, st_none, al_none, al_some, put_none, put_some, bnd_ret, bnd_fail, bnd_stuck, bnd_bnd, lift_some', lift_none', noErr_ret, few_ok, sub_c, sub_d, sub_n, if_true, ite_true, dite_true, Bool.false_eq_true, if_false, bnd_id, at_t0, at_t1, at_r0, at_r1, at_l0, at_l1, add_i, sub_i, neg_i, lt_i, le_i, gt_i, ge_i, eq_i, ne_i, eq_r, ne_r, eq_s, ne_s, eq_l, ne_l, abs_i, min_i, ite_false, pvR_mk, pvL_mk, setR_lookup, st_some, flat_r, mu_isNone, Option.isNone_none, Option.isNone_some, Bool.not_true, Bool.not_false, decide_true, decide_false, Bool.and_true, Bool.true_and, reduceCtorEq]
  rfl
section
variable {wd : Wd}
theorem k_law_take (C : Wld wd) : Fn wd 2 "_law_take" (sp_law_take wd) := (f_law_take C).sub fun ds n r n' e => by
  cases ds with
  | nil => exact no_none e
  | cons x l => cases x with
    | box => cases l with
      | nil => exact no_none e
      | cons y l => cases y with
        | int many => cases l with
          | nil =>
            replace e : (if okTake wd.scr n many then some (Except.ok (PV.int (takeI wd.scr n many)), n + 1) else none) = some (r, n') := e
            split at e
            · next h => rw [u_take h]; exact e
            · exact no_none e
          | cons _ _ => exact no_none e
        | _ => exact no_none e
    | _ => exact no_none e
theorem k_law_drawn (C : Wld wd) : Fn wd 3 "_law_drawn" (sp_law_drawn wd) := (f_law_drawn C (k_law_take C)).sub fun ds n r n' e => by
  unfold sp_law_drawn at e
  split at e
  · split at e
    · next h => rw [u_drawn h.1 h.2.1 h.2.2]; exact e
    · cases e
  · cases e
end
end Lz
set_option linter.unusedSimpArgs false
namespace Lz
open PySem PySem.W PyProof.Rows

noncomputable def encD (D : List (Int × Rt)) : List (Int × PV) := D.map fun e => (e.1, pvR e.2)
noncomputable def pvD (D : List (Int × Rt)) : PV := .dic (encD D)
noncomputable def getR (D : List (Int × Rt)) (i : Int) : Rt := match D.find? (fun e => e.1 = i) with
  | some e => e.2
  | none => (0, 1)
noncomputable def rowsFrom : Int → List Rt → List (Int × Rt)
  | _, [] => []
  | l, q :: r => (l, q) :: rowsFrom (l + 1) r
noncomputable def rowsR (p : Int × List Rt) : List (Int × Rt) := rowsFrom p.1 p.2
abbrev okP (p : Int × List Rt) : Prop := -100 ≤ p.1 ∧ p.1 ≤ 100 ∧ p.2.length ≤ 100
noncomputable def sp_law_rows : List PV → M PV
  | [x] => lauM x fun p => if okP p then ret (.tup [pvD (rowsR p), .int (p.1 + p.2.length)]) else stuck
  | _ => stuck

theorem dicV_d {D : List (Int × Rt)} : dicV (pvD D) = some (encD D) := rfl
theorem find_enc (D : List (Int × Rt)) (i : Int) : (encD D).find? (fun e => e.1 = i) = (D.find? fun e => e.1 = i).map fun e => (e.1, pvR e.2) := by
  unfold encD
  rw [List.find?_map]
  rfl
theorem get_d {D : List (Int × Rt)} {i : Int} : getV (encD D) (.int i) (pvR (0, 1)) = some (pvR (getR D i)) := by
  unfold getV getR
  dsimp only
  rw [find_enc]
  cases D.find? fun e => e.1 = i <;> rfl
theorem at_d {D : List (Int × Rt)} {i : Int} {e : Int × Rt} (h : D.find? (fun e => e.1 = i) = some e) : atV (pvD D) (.int i) = some (pvR e.2) := by
  unfold atV pvD
  dsimp only
  rw [find_enc, h]
  rfl
theorem list_d {D : List (Int × Rt)} (h : D.length ≤ 1000) : listV [pvD D] = some (.lst (D.map fun e => .int e.1)) := by
  unfold listV pvD encD
  dsimp only
  rw [if_pos (by simpa using h), List.map_map]
  rfl
theorem items_d {D : List (Int × Rt)} (h : D.length ≤ 1000) : itemsV (pvD D) = some (D.map fun e => .int e.1) := by
  unfold itemsV pvD encD
  dsimp only
  rw [if_pos (by simpa using h), List.map_map]
  rfl
theorem rowsFrom_len : ∀ (l : Int) (r : List Rt), (rowsFrom l r).length = r.length
  | _, [] => rfl
  | l, q :: r => by simp [rowsFrom, rowsFrom_len (l + 1) r]
theorem rowsFrom_key (l : Int) (r : List Rt) (e : Int × Rt) (h : e ∈ rowsFrom l r) : l ≤ e.1 ∧ e.1 < l + r.length := by
  induction r generalizing l with
  | nil => exact nomatch h
  | cons q r ih =>
    rw [List.length_cons]
    rcases List.mem_cons.mp h with rfl | h
    · dsimp only; omega
    · have := ih (l + 1) h
      omega
theorem rowsFrom_find (l : Int) (r : List Rt) (i : Nat) (q : Rt) (h : r[i]? = some q) : (rowsFrom l r).find? (fun e => e.1 = l + i) = some (l + i, q) := by
  induction r generalizing l i with
  | nil => exact nomatch h
  | cons q' r ih =>
    cases i with
    | zero =>
      simp at h
      subst h
      simp [rowsFrom]
    | succ i =>
      have hne : ¬ l = l + ((i + 1 : Nat) : Int) := by omega
      rw [rowsFrom, List.find?_cons]
      simp only [hne, decide_false]
      rw [show l + ((i + 1 : Nat) : Int) = l + 1 + (i : Int) by omega]
      exact ih (l + 1) i h
theorem find_none {D : List (Int × Rt)} {i : Int} (h : ∀ e ∈ D, e.1 ≠ i) : D.find? (fun e => e.1 = i) = none := by
  rw [List.find?_eq_none]
  intro e he
  simp [h e he]
theorem getR_none {D : List (Int × Rt)} {i : Int} (h : ∀ e ∈ D, e.1 ≠ i) : getR D i = (0, 1) := by unfold getR; rw [find_none h]
theorem getR_rows {l : Int} {r : List Rt} {i : Nat} {q : Rt} (h : r[i]? = some q) : getR (rowsFrom l r) (l + i) = q := by unfold getR; rw [rowsFrom_find l r i q h]
theorem storeD_new {D : List (Int × Rt)} {i : Int} {q : Rt} (h : ∀ e ∈ D, e.1 ≠ i) : storeD i (pvR q) (encD D) = encD (D ++ [(i, q)]) := by
  unfold storeD
  have : (encD D).any (fun p => decide (p.1 = i)) = false := by
    rw [List.any_eq_false]
    intro e he
    obtain ⟨e', h', rfl⟩ := List.mem_map.mp he
    simp [h e' h']
  rw [this]
  simp [encD]
noncomputable def m_law_rows : Sig → M (Fl × Sig) := (seqM (asg (nmM "told") (unp 2 (putL [(put "low"), (put "rest")]))) (seqM (rtM (tupM [(dictC "at" ["low", "rest"] (irM [(bltM lenV [(nmM "rest")])]) (fun _ => ret true) (biM addV (nmM "low") (nmM "at")) (biM atV (nmM "rest") (nmM "at"))), (biM addV (nmM "low") (bltM lenV [(nmM "rest")]))])) nilM))
set_option maxHeartbeats 4000000 in
theorem v_law_rows {wd : Wd} (C : Wld wd) : Sv wd (sco 33) 1 (execs (bd 33)) (m_law_rows) := (Sv.cons (Sv.assign X.nm (A.two (Av.name (by first | exact .inl rfl | exact .inr rfl)) (Av.name (by first | exact .inl rfl | exact .inr rfl)))) (Sv.cons (S.rt (X.tup (X.rc (Ev.dictComp ["low", "rest"] (by constructor <;> decide) (I.rng C.range (by rfl) (X.rc (X.blt C.len (.inl ⟨_, rfl⟩) opN_len (by rfl) (X.rc X.nm X.rn)) X.rn)) TestsV.nil (X.bin X.nm X.nm op_add) (X.at X.nm X.nm)) (X.rc (X.bin X.nm (X.blt C.len (.inl ⟨_, rfl⟩) opN_len (by rfl) (X.rc X.nm X.rn)) op_add) X.rn)))) S.nil))
theorem f_law_rows {wd : Wd} (C : Wld wd) : Fn wd 2 "_law_rows" (runF ["told"] (m_law_rows)) := Fn.mk C.at33 (v_law_rows C) (fun _ _ _ => len1 fun a => rfl) (by decide) (by decide)

theorem rows_comp {ρ : Rho} {mk mv : Rho → M PV} {low : Int} {rest : List Rt} (hmk : ∀ i : Nat, mk (("at", .int i) :: ρ) = ret (.int (low + i))) (hmv : ∀ (i : Nat) (q : Rt), rest[i]? = some q → mv (("at", .int i) :: ρ) = ret (pvR q)) :
    ∀ (m j : Nat) (D : List (Int × Rt)), j + m = rest.length → (∀ e ∈ D, e.1 < low + j) → compF "at" ρ (fun _ => ret true) (dstep mk mv) ((List.range' j m).map fun i => PV.int (i : Nat)) (encD D) = ret (encD (D ++ rowsFrom (low + j) (rest.drop j)))
  | 0, j, D, h, _ => by
    rw [List.drop_of_length_le (by omega)]
    simp [compF, rowsFrom]
  | m + 1, j, D, h, hD => by
    have hj : j < rest.length := by omega
    have hq : rest[j]? = some rest[j] := List.getElem?_eq_getElem hj
    rw [List.range'_succ, List.map_cons, compF]
    have e1 : dstep mk mv (("at", .int (j : Nat)) :: ρ) (encD D) = ret (encD (D ++ [(low + j, rest[j])])) := by
      unfold dstep
      rw [hmk]
      simp only [bnd_ret, hmv j _ hq]
      rw [storeD_new fun e he => Int.ne_of_lt (hD e he)]
    simp only [noErr_ret, bnd_ret, if_true, e1]
    rw [rows_comp hmk hmv m (j + 1) _ (by omega) (fun e he => ?_)]
    · rw [List.drop_eq_getElem_cons hj, rowsFrom, List.append_assoc]
      have : low + ((j + 1 : Nat) : Int) = low + (j : Int) + 1 := by omega
      rw [this]; rfl
    · rcases List.mem_append.mp he with h1 | h1
      · have := hD e h1; omega
      · rw [List.mem_singleton.mp h1]; simp; omega
theorem u_rows {p : Int × List Rt} (h : okP p) : runF ["told"] m_law_rows [pvL p] = ret (.tup [pvD (rowsR p), .int (p.1 + p.2.length)]) := by
  unfold okP at h
  have hlen := len_s (show p.2.length ≤ 1000 by omega)
  have e : dictC "at" ["low", "rest"] (irM [(bltM lenV [(nmM "rest")])]) (fun _ => ret true) (biM addV (nmM "low") (nmM "at")) (biM atV (nmM "rest") (nmM "at")) [("told", pvL p), ("low", .int p.1), ("rest", pvS p.2)] = ret (pvD (rowsR p)) := by
    unfold dictC
    simp (decide := true) only [runF, seqM, asg, rtM, nilM, ifS, raS, stS, nmM, cM, unM, biM, tupM, lstM, callM, bltM, ifM, orM, getM, tcM, tvM, ntM, alM, anM, ivM, irM, rowM, allT, anyT, toB_b, unp_t, unp_r, unp_l, putL, List.reverse_cons, List.reverse_nil, List.nil_append, List.cons_append, List.zip_cons_cons, List.zip_nil_left, List.zip_nil_right, List.length_cons, List.length_nil, lk_hit, lk_miss, sr_nil, sr_hit, sr_miss, st_none, al_none, al_some, put_none, put_some, bnd_ret, bnd_fail, bnd_stuck, bnd_bnd, lift_some', lift_none', noErr_ret, few_ok, sub_c, sub_d, sub_n, if_true, ite_true, dite_true, Bool.false_eq_true, if_false, bnd_id, at_t0, at_t1, at_r0, at_r1, at_l0, at_l1, add_i, sub_i, neg_i, lt_i, le_i, gt_i, ge_i, eq_i, ne_i, eq_r, ne_r, eq_s, ne_s, eq_l, ne_l, abs_i, min_i, ite_false, pvR_mk, pvL_mk, setR_lookup, st_some, flat_r, mu_isNone, Option.isNone_none, Option.isNone_some, Bool.not_true, Bool.not_false, decide_true, decide_false, Bool.and_true, Bool.true_and, reduceCtorEq, hlen]
    rw [range_1 (by omega) (by omega), Int.toNat_natCast, List.range_eq_range']
    simp (decide := true) only [runF, seqM, asg, rtM, nilM, ifS, raS, stS, nmM, cM, unM, biM, tupM, lstM, callM, bltM, ifM, orM, getM, tcM, tvM, ntM, alM, anM, ivM, irM, rowM, allT, anyT, toB_b, unp_t, unp_r, unp_l, putL, List.reverse_cons, List.reverse_nil, List.nil_append, List.cons_append, List.zip_cons_cons, List.zip_nil_left, List.zip_nil_right, List.length_cons, List.length_nil, lk_hit, lk_miss, sr_nil, sr_hit, sr_miss, st_none, al_none, al_some, put_none, put_some, bnd_ret, bnd_fail, bnd_stuck, bnd_bnd, lift_some', lift_none', noErr_ret, few_ok, sub_c, sub_d, sub_n, if_true, ite_true, dite_true, Bool.false_eq_true, if_false, bnd_id, at_t0, at_t1, at_r0, at_r1, at_l0, at_l1, add_i, sub_i, neg_i, lt_i, le_i, gt_i, ge_i, eq_i, ne_i, eq_r, ne_r, eq_s, ne_s, eq_l, ne_l, abs_i, min_i, ite_false, pvR_mk, pvL_mk, setR_lookup, st_some, flat_r, mu_isNone, Option.isNone_none, Option.isNone_some, Bool.not_true, Bool.not_false, decide_true, decide_false, Bool.and_true, Bool.true_and, reduceCtorEq]
    have := rows_comp (ρ := [("low", .int p.1), ("rest", pvS p.2)]) (mk := biM addV (nmM "low") (nmM "at")) (mv := biM atV (nmM "rest") (nmM "at")) (low := p.1) (rest := p.2)
      (fun i => by simp (decide := true) only [runF, seqM, asg, rtM, nilM, ifS, raS, stS, nmM, cM, unM, biM, tupM, lstM, callM, bltM, ifM, orM, getM, tcM, tvM, ntM, alM, anM, ivM, irM, rowM, allT, anyT, toB_b, unp_t, unp_r, unp_l, putL, List.reverse_cons, List.reverse_nil, List.nil_append, List.cons_append, List.zip_cons_cons, List.zip_nil_left, List.zip_nil_right, List.length_cons, List.length_nil, lk_hit, lk_miss, sr_nil, sr_hit, sr_miss, st_none, al_none, al_some, put_none, put_some, bnd_ret, bnd_fail, bnd_stuck, bnd_bnd, lift_some', lift_none', noErr_ret, few_ok, sub_c, sub_d, sub_n, if_true, ite_true, dite_true, Bool.false_eq_true, if_false, bnd_id, at_t0, at_t1, at_r0, at_r1, at_l0, at_l1, add_i, sub_i, neg_i, lt_i, le_i, gt_i, ge_i, eq_i, ne_i, eq_r, ne_r, eq_s, ne_s, eq_l, ne_l, abs_i, min_i, ite_false, pvR_mk, pvL_mk, setR_lookup, st_some, flat_r, mu_isNone, Option.isNone_none, Option.isNone_some, Bool.not_true, Bool.not_false, decide_true, decide_false, Bool.and_true, Bool.true_and, reduceCtorEq]) (fun i q hq => by
        have hi : i < p.2.length := (List.getElem?_eq_some_iff.mp hq).1
        simp (decide := true) only [runF, seqM, asg, rtM, nilM, ifS, raS, stS, nmM, cM, unM, biM, tupM, lstM, callM, bltM, ifM, orM, getM, tcM, tvM, ntM, alM, anM, ivM, irM, rowM, allT, anyT, toB_b, unp_t, unp_r, unp_l, putL, List.reverse_cons, List.reverse_nil, List.nil_append, List.cons_append, List.zip_cons_cons, List.zip_nil_left, List.zip_nil_right, List.length_cons, List.length_nil, lk_hit, lk_miss, sr_nil, sr_hit, sr_miss, st_none, al_none, al_some, put_none, put_some, bnd_ret, bnd_fail, bnd_stuck, bnd_bnd, lift_some', lift_none', noErr_ret, few_ok, sub_c, sub_d, sub_n, if_true, ite_true, dite_true, Bool.false_eq_true, if_false, bnd_id, at_t0, at_t1, at_r0, at_r1, at_l0, at_l1, add_i, sub_i, neg_i, lt_i, le_i, gt_i, ge_i, eq_i, ne_i, eq_r, ne_r, eq_s, ne_s, eq_l, ne_l, abs_i, min_i, ite_false, pvR_mk, pvL_mk, setR_lookup, st_some, flat_r, mu_isNone, Option.isNone_none, Option.isNone_some, Bool.not_true, Bool.not_false, decide_true, decide_false, Bool.and_true, Bool.true_and, reduceCtorEq, at_s (show i < 1000 by omega) hq]) p.2.length 0 [] (by omega) (fun e he => by cases he)
    rw [show encD [] = [] from rfl] at this
    rw [this]
    simp (decide := true) only [runF, seqM, asg, rtM, nilM, ifS, raS, stS, nmM, cM, unM, biM, tupM, lstM, callM, bltM, ifM, orM, getM, tcM, tvM, ntM, alM, anM, ivM, irM, rowM, allT, anyT, toB_b, unp_t, unp_r, unp_l, putL, List.reverse_cons, List.reverse_nil, List.nil_append, List.cons_append, List.zip_cons_cons, List.zip_nil_left, List.zip_nil_right, List.length_cons, List.length_nil, lk_hit, lk_miss, sr_nil, sr_hit, sr_miss, st_none, al_none, al_some, put_none, put_some, bnd_ret, bnd_fail, bnd_stuck, bnd_bnd, lift_some', lift_none', noErr_ret, few_ok, sub_c, sub_d, sub_n, if_true, ite_true, dite_true, Bool.false_eq_true, if_false, bnd_id, at_t0, at_t1, at_r0, at_r1, at_l0, at_l1, add_i, sub_i, neg_i, lt_i, le_i, gt_i, ge_i, eq_i, ne_i, eq_r, ne_r, eq_s, ne_s, eq_l, ne_l, abs_i, min_i, ite_false, pvR_mk, pvL_mk, setR_lookup, st_some, flat_r, mu_isNone, Option.isNone_none, Option.isNone_some, Bool.not_true, Bool.not_false, decide_true, decide_false, Bool.and_true, Bool.true_and, reduceCtorEq]
    simp only [Int.natCast_zero, Int.add_zero, List.drop_zero]
    rfl
  simp (decide := true) only [m_law_rows, runF, seqM, asg, rtM, nilM, ifS, raS, stS, nmM, cM, unM, biM, tupM, lstM, callM, bltM, ifM, orM, getM, tcM, tvM, ntM, alM, anM, ivM, irM, rowM, allT, anyT, toB_b, unp_t, unp_r, unp_l, putL, List.reverse_cons, List.reverse_nil, List.nil_append, List.cons_append, List.zip_cons_cons, List.zip_nil_left, List.zip_nil_right, List.length_cons, List.length_nil, lk_hit, lk_miss, sr_nil, sr_hit, sr_miss, st_none, al_none, al_some, put_none, put_some, bnd_ret, bnd_fail, bnd_stuck, bnd_bnd, lift_some', lift_none', noErr_ret, few_ok, sub_c, sub_d, sub_n, if_true, ite_true, dite_true, Bool.false_eq_true, if_false, bnd_id, at_t0, at_t1, at_r0, at_r1, at_l0, at_l1, add_i, sub_i, neg_i, lt_i, le_i, gt_i, ge_i, eq_i, ne_i, eq_r, ne_r, eq_s, ne_s, eq_l, ne_l, abs_i, min_i, ite_false, pvR_mk, pvL_mk, setR_lookup, st_some, flat_r, mu_isNone, Option.isNone_none, Option.isNone_some, Bool.not_true, Bool.not_false, decide_true, decide_false, Bool.and_true, Bool.true_and, reduceCtorEq, hlen, e]
theorem sp_rows_of {p : Int × List Rt} (h : okP p) : sp_law_rows [pvL p] = ret (.tup [pvD (rowsR p), .int (p.1 + p.2.length)]) := by
  unfold sp_law_rows; simp only [lauM_pv]; rw [if_pos h]
theorem k_law_rows {wd : Wd} (C : Wld wd) : Fn wd 2 "_law_rows" sp_law_rows := (f_law_rows C).sub fun ds n r n' e => by
  unfold sp_law_rows at e
  split at e
  · obtain ⟨p, rfl, e1⟩ := lauM_some e
    split at e1
    case isFalse => cases e1
    next hg => rw [u_rows hg]; exact e1
  · cases e
end Lz
set_option linter.unusedSimpArgs false
namespace Lz
open PySem PySem.W PyProof.Rows

noncomputable def decD : List (Int × PV) → Option (List (Int × Rt))
  | [] => some []
  | (i, d) :: r => match rt? d, decD r with
    | some q, some l => some ((i, q) :: l)
    | _, _ => none
theorem decD_some : ∀ {l : List (Int × PV)} {D : List (Int × Rt)}, decD l = some D → l = encD D
  | [], D, h => by cases h; rfl
  | (i, d) :: r, D, h => by
    unfold decD at h
    split at h
    · next q l h1 h2 => cases h; rw [decD_some h2, rt_some h1]; rfl
    · cases h
theorem decD_enc : ∀ D : List (Int × Rt), decD (encD D) = some D
  | [] => rfl
  | (i, q) :: D => by
    have ih := decD_enc D
    unfold encD at ih ⊢
    rw [List.map_cons]
    unfold decD
    rw [ih]; rfl
noncomputable def dicM (x : PV) (f : List (Int × Rt) → M PV) : M PV := match x with
  | .dic l => (match decD l with
    | some D => f D
    | none => stuck)
  | _ => stuck
theorem dicM_pv {D : List (Int × Rt)} {f : List (Int × Rt) → M PV} : dicM (pvD D) f = f D := by unfold dicM pvD; simp only [decD_enc]
theorem dicM_some {x : PV} {f : List (Int × Rt) → M PV} {n n' : Int} {r : Except Str PV} (h : dicM x f n = some (r, n')) : ∃ D, x = pvD D ∧ f D n = some (r, n') := by
  cases x with
  | dic l =>
    unfold dicM at h
    cases hx : decD l with
    | none => simp only [hx] at h; cases h
    | some D => simp only [hx] at h; exact ⟨D, by rw [decD_some hx]; rfl, h⟩
  | _ => cases h
noncomputable def okD (D : List (Int × Rt)) : Prop := D.length ≤ 400 ∧ ∀ e ∈ D, -400 ≤ e.1 ∧ e.1 ≤ 400
noncomputable def likeD (p : Int × List Rt) (D : List (Int × Rt)) (e : Int) : Prop := okP p ∧ okD D ∧ p.1 + p.2.length = e ∧ ∀ i : Int, i < e → getR (rowsR p) i = getR D i
open Classical in
noncomputable def sp_law_alike : List PV → M PV
  | [x, d, .int e] => lauM x fun p => dicM d fun D => if likeD p D e then ret (.bool true) else stuck
  | _ => stuck
noncomputable def storeR (i : Int) (q : Rt) (D : List (Int × Rt)) : List (Int × Rt) := if D.any (fun e => e.1 = i) then D.map (fun e => if e.1 = i then (e.1, q) else e) else D ++ [(i, q)]
theorem storeD_enc {i : Int} {q : Rt} {D : List (Int × Rt)} : storeD i (pvR q) (encD D) = encD (storeR i q D) := by
  unfold storeD storeR
  have h : (encD D).any (fun p => decide (p.1 = i)) = D.any (fun e => decide (e.1 = i)) := by unfold encD; rw [List.any_map]; rfl
  rw [h]
  split
  · unfold encD
    rw [List.map_map, List.map_map]
    congr 1
    funext e
    simp only [Function.comp_def]
    split <;> rfl
  · simp [encD]
theorem storeR_len {i : Int} {q : Rt} {D : List (Int × Rt)} : (storeR i q D).length ≤ D.length + 1 := by
  unfold storeR; split <;> simp
noncomputable def endI (p q : Int × List Rt) : Int := p.1 + q.1 + (if q.1 + q.2.length - q.1 < p.1 + p.2.length - p.1 then q.1 + q.2.length - q.1 else p.1 + p.2.length - p.1)
noncomputable def prodB (e : Int) (a : Int × Rt) (D : List (Int × Rt)) (b : Int × Rt) : List (Int × Rt) := if a.1 + b.1 < e then storeR (a.1 + b.1) ((getR D (a.1 + b.1)).1 + a.2.1 * b.2.1, 1) D else D
noncomputable def prodI (A B : List (Int × Rt)) (e : Int) : List (Int × Rt) := A.foldl (fun D a => B.foldl (prodB e a) D) []
open Classical in
noncomputable def sp_law_product : List PV → M PV
  | [x, y] => lauM x fun p => lauM y fun q => if okP p ∧ okP q ∧ p.2.length ≤ 20 ∧ q.2.length ≤ 20 ∧ (∀ b ∈ q.2, small b.1 = true) then ret (.tup [pvD (prodI (rowsR p) (rowsR q) (endI p q)), .int (endI p q)]) else stuck
  | _ => stuck
noncomputable def m_law_alike : Sig → M (Fl × Sig) := (seqM (asg (callM sp_law_rows [(nmM "told")]) (unp 2 (putL [(put "found"), (put "behind")]))) (seqM (ifS (tcM neV (nmM "behind") (nmM "end")) (seqM (rtM (cM (.bool false))) nilM) nilM) (seqM (asg (bltM minV [(biM addV (biM addV (bltM listV [(nmM "found")]) (bltM listV [(nmM "powers")])) (lstM [(nmM "end")]))]) (put "low")) (seqM (rtM (biM eqV (listC "at" ["found", "powers"] (irM [(nmM "low"), (nmM "end")]) (tcM neV (getM (nmM "found") (nmM "at") (tupM [(cM (.int 0)), (cM (.int 1))])) (getM (nmM "powers") (nmM "at") (tupM [(cM (.int 0)), (cM (.int 1))]))) (nmM "at")) (lstM []))) nilM))))
set_option maxHeartbeats 4000000 in
theorem v_law_alike {wd : Wd} (C : Wld wd) (h_law_rows : Fn wd 2 "_law_rows" sp_law_rows) : Sv wd (sco 34) 2 (execs (bd 34)) (m_law_alike) := (Sv.cons (Sv.assign (X.call (h_law_rows) (by decide) (by rfl) (X.rc X.nm X.rn)) (A.two (Av.name (by first | exact .inl rfl | exact .inr rfl)) (Av.name (by first | exact .inl rfl | exact .inr rfl)))) (Sv.cons (S.iff (T.cmp X.nm X.nm op_ne) (Sv.cons (S.rt X.bool) S.nil) S.nil) (Sv.cons (Sv.assign (X.blt C.min (.inl ⟨_, rfl⟩) opN_min (by rfl) (X.rc (X.bin (X.bin (X.blt C.list (.inr ⟨_, rfl⟩) opN_list (by rfl) (X.rc X.nm X.rn)) (X.blt C.list (.inr ⟨_, rfl⟩) opN_list (by rfl) (X.rc X.nm X.rn)) op_add) (X.lst (X.rc X.nm X.rn)) op_add) X.rn)) (Av.name (by first | exact .inl rfl | exact .inr rfl))) (Sv.cons (S.rt (X.cmp (Ev.listComp ["found", "powers"] (by constructor <;> decide) (I.rng C.range (by rfl) (X.rc X.nm (X.rc X.nm X.rn))) (TestsV.one (T.cmp (X.get X.nm X.nm (X.tup (X.rc X.int (X.rc X.int X.rn)))) (X.get X.nm X.nm (X.tup (X.rc X.int (X.rc X.int X.rn)))) op_ne)) X.nm) (X.lst X.rn) op_eq)) S.nil))))
theorem f_law_alike {wd : Wd} (C : Wld wd) (h_law_rows : Fn wd 2 "_law_rows" sp_law_rows) : Fn wd 3 "_law_alike" (runF ["told", "powers", "end"] (m_law_alike)) := Fn.mk C.at34 (v_law_alike C h_law_rows) (fun _ _ _ => len3 fun a b c => rfl) (by decide) (by decide)
noncomputable def b_law_product_1 : Sig → M (Fl × Sig) := (seqM (ifS (tcM ltV (biM addV (nmM "x") (nmM "y")) (nmM "end")) (seqM (setM "found" (biM addV (nmM "x") (nmM "y")) (tupM [(biM addV (biM atV (getM (nmM "found") (biM addV (nmM "x") (nmM "y")) (tupM [(cM (.int 0)), (cM (.int 1))])) (cM (.int 0))) (biM mulV (biM atV (biM atV (nmM "a") (nmM "x")) (cM (.int 0))) (biM atV (biM atV (nmM "b") (nmM "y")) (cM (.int 0))))), (cM (.int 1))])) nilM) nilM) nilM)
noncomputable def b_law_product_2 : Sig → M (Fl × Sig) := (seqM (foS "y" (ivM (nmM "b")) b_law_product_1) nilM)
noncomputable def m_law_product : Sig → M (Fl × Sig) := (seqM (asg (tupM [(callM sp_law_rows [(nmM "one")]), (callM sp_law_rows [(nmM "other")])]) (unp 2 (putL [(unp 2 (putL [(put "a"), (put "first")])), (unp 2 (putL [(put "b"), (put "second")]))]))) (seqM (asg (biM addV (biM addV (biM atV (nmM "one") (cM (.int 0))) (biM atV (nmM "other") (cM (.int 0)))) (bltM minV [(biM subV (nmM "first") (biM atV (nmM "one") (cM (.int 0)))), (biM subV (nmM "second") (biM atV (nmM "other") (cM (.int 0))))])) (put "end")) (seqM (own "found" (.dic [])) (seqM (foS "x" (ivM (nmM "a")) b_law_product_2) (seqM (rtM (tupM [(nmM "found"), (nmM "end")])) nilM)))))
set_option maxHeartbeats 4000000 in
theorem v_law_product {wd : Wd} (C : Wld wd) (h_law_rows : Fn wd 2 "_law_rows" sp_law_rows) : Sv wd (sco 35) 2 (execs (bd 35)) (m_law_product) := (Sv.cons (Sv.assign (X.tup (X.rc (X.call (h_law_rows) (by decide) (by rfl) (X.rc X.nm X.rn)) (X.rc (X.call (h_law_rows) (by decide) (by rfl) (X.rc X.nm X.rn)) X.rn))) (A.two (A.two (Av.name (by first | exact .inl rfl | exact .inr rfl)) (Av.name (by first | exact .inl rfl | exact .inr rfl))) (A.two (Av.name (by first | exact .inl rfl | exact .inr rfl)) (Av.name (by first | exact .inl rfl | exact .inr rfl)))) (hss := by intro env h; have hb : env.blockKind = .function := (by unfold Env.blockKind; rw [h]; rfl); unfold swappedStores Env.kindOf; rw [hb, h]; rfl)) (Sv.cons (Sv.assign (X.bin (X.bin (X.at X.nm X.int) (X.at X.nm X.int) op_add) (X.blt C.min (.inl ⟨_, rfl⟩) opN_min (by rfl) (X.rc (X.bin X.nm (X.at X.nm X.int) op_sub) (X.rc (X.bin X.nm (X.at X.nm X.int) op_sub) X.rn))) op_add) (Av.name (by first | exact .inl rfl | exact .inr rfl))) (Sv.cons (Sv.newDict (by first | exact .inl rfl | exact .inr rfl)) (Sv.cons (S.fo (I.val X.nm) (Sv.cons (S.fo (I.val X.nm) (Sv.cons (S.iff (T.cmp (X.bin X.nm X.nm op_add) X.nm op_lt) (Sv.cons (Sv.setItem (X.tup (X.rc (X.bin (X.at (X.get X.nm (X.bin X.nm X.nm op_add) (X.tup (X.rc X.int (X.rc X.int X.rn)))) X.int) (X.bin (X.at (X.at X.nm X.nm) X.int) (X.at (X.at X.nm X.nm) X.int) op_mul) op_add) (X.rc X.int X.rn))) (X.bin X.nm X.nm op_add)) S.nil) S.nil) S.nil) (by first | exact .inl rfl | exact .inr rfl)) S.nil) (by first | exact .inl rfl | exact .inr rfl)) (Sv.cons (S.rt (X.tup (X.rc X.nm (X.rc X.nm X.rn)))) S.nil)))))
theorem f_law_product {wd : Wd} (C : Wld wd) (h_law_rows : Fn wd 2 "_law_rows" sp_law_rows) : Fn wd 3 "_law_product" (runF ["one", "other"] (m_law_product)) := Fn.mk C.at35 (v_law_product C h_law_rows) (fun _ _ _ => len2 fun a b => rfl) (by decide) (by decide)

theorem add_l {a b : List PV} (h : a.length + b.length ≤ 1000) : addV (.lst a) (.lst b) = some (.lst (a ++ b)) := if_pos h
theorem ints_map : ∀ L : List Int, ints? (L.map .int) = some L
  | [] => rfl
  | i :: L => by rw [List.map_cons, ints?, ints_map L]; rfl
theorem min_l {a : Int} {L : List Int} : minV [.lst (.int a :: L.map .int)] = some (.int (minI a L)) := by
  unfold minV
  dsimp only
  rw [show PV.int a :: L.map .int = (a :: L).map .int from rfl, ints_map]
theorem min_of {L : List Int} {e : Int} (he : e ∈ L) (hb : ∀ x ∈ L, -400 ≤ x) : ∃ m, minV [.lst (L.map .int)] = some (.int m) ∧ m ≤ e ∧ -400 ≤ m := by
  cases L with
  | nil => cases he
  | cons a L =>
    refine ⟨minI a L, min_l, ?_, ?_⟩
    · obtain ⟨h1, h2, _⟩ := minI_le a L
      rcases List.mem_cons.mp he with q | q
      · rw [q]; exact h1
      · exact h2 e q
    · obtain ⟨_, _, h3⟩ := minI_le a L
      rcases h3 with q | q
      · rw [q]; exact hb a (.head _)
      · exact hb _ (.tail _ q)
theorem compF_none {α : Type} {x : Str} {ρ : Rho} {mt : Rho → M Bool} {step : Rho → α → M α} : ∀ {ds : List PV} {acc : α}, (∀ d ∈ ds, mt ((x, d) :: ρ) = ret false) → compF x ρ mt step ds acc = ret acc
  | [], _, _ => rfl
  | d :: ds, acc, h => by
    rw [compF, h d (.head _)]
    simp only [noErr_ret, bnd_ret, Bool.false_eq_true, if_false]
    exact compF_none fun d hd => h d (.tail _ hd)
theorem u_alike {p : Int × List Rt} {D : List (Int × Rt)} {e : Int} (h : likeD p D e) : runF ["told", "powers", "end"] m_law_alike [pvL p, pvD D, .int e] = ret (.bool true) := by
  obtain ⟨h1, h2, h3, h4⟩ := h
  have hrows := sp_rows_of h1
  obtain ⟨b1, b2, b3⟩ := h1
  obtain ⟨d1, d2⟩ := h2
  have hrl : (rowsR p).length = p.2.length := rowsFrom_len _ _
  obtain ⟨m, hm, hm1, hm2⟩ := min_of (L := (rowsR p).map (·.1) ++ D.map (·.1) ++ [e]) (e := e) (by simp) (fun x hx => by
    simp only [List.mem_append, List.mem_map, List.mem_singleton] at hx
    rcases hx with (⟨a, ha, rfl⟩ | ⟨a, ha, rfl⟩) | rfl
    · have := rowsFrom_key _ _ a ha; omega
    · exact (d2 a ha).1
    · omega)
  have hm' : minV [.lst (((rowsR p).map fun e => PV.int e.1) ++ (D.map fun e => PV.int e.1) ++ [.int e])] = some (.int m) := by
    rw [← hm]
    congr 2
    simp only [List.map_append, List.map_map, List.map_cons, List.map_nil, Function.comp_def]
  have hc : listC "at" ["found", "powers"] (irM [(nmM "low"), (nmM "end")]) (tcM neV (getM (nmM "found") (nmM "at") (tupM [(cM (.int 0)), (cM (.int 1))])) (getM (nmM "powers") (nmM "at") (tupM [(cM (.int 0)), (cM (.int 1))]))) (nmM "at")
      [("told", pvL p), ("powers", pvD D), ("end", .int e), ("found", pvD (rowsR p)), ("behind", .int (p.1 + p.2.length)), ("low", .int m)] = ret (.lst []) := by
    unfold listC
    simp (decide := true) only [runF, seqM, asg, rtM, nilM, ifS, raS, stS, nmM, cM, unM, biM, tupM, lstM, callM, bltM, ifM, orM, getM, tcM, tvM, ntM, alM, anM, ivM, irM, rowM, allT, anyT, toB_b, unp_t, unp_r, unp_l, putL, List.reverse_cons, List.reverse_nil, List.nil_append, List.cons_append, List.zip_cons_cons, List.zip_nil_left, List.zip_nil_right, List.length_cons, List.length_nil, lk_hit, lk_miss, sr_nil, sr_hit, sr_miss, st_none, al_none, al_some, put_none, put_some, bnd_ret, bnd_fail, bnd_stuck, bnd_bnd, lift_some', lift_none', noErr_ret, few_ok, sub_c, sub_d, sub_n, if_true, ite_true, dite_true, Bool.false_eq_true, if_false, bnd_id, at_t0, at_t1, at_r0, at_r1, at_l0, at_l1, add_i, sub_i, neg_i, lt_i, le_i, gt_i, ge_i, eq_i, ne_i, eq_r, ne_r, eq_s, ne_s, eq_l, ne_l, abs_i, min_i, ite_false, pvR_mk, pvL_mk, setR_lookup, st_some, flat_r, mu_isNone, Option.isNone_none, Option.isNone_some, Bool.not_true, Bool.not_false, decide_true, decide_false, Bool.and_true, Bool.true_and, reduceCtorEq]
    rw [range_2 (by omega) (by omega) (by omega) (by omega)]
    simp (decide := true) only [runF, seqM, asg, rtM, nilM, ifS, raS, stS, nmM, cM, unM, biM, tupM, lstM, callM, bltM, ifM, orM, getM, tcM, tvM, ntM, alM, anM, ivM, irM, rowM, allT, anyT, toB_b, unp_t, unp_r, unp_l, putL, List.reverse_cons, List.reverse_nil, List.nil_append, List.cons_append, List.zip_cons_cons, List.zip_nil_left, List.zip_nil_right, List.length_cons, List.length_nil, lk_hit, lk_miss, sr_nil, sr_hit, sr_miss, st_none, al_none, al_some, put_none, put_some, bnd_ret, bnd_fail, bnd_stuck, bnd_bnd, lift_some', lift_none', noErr_ret, few_ok, sub_c, sub_d, sub_n, if_true, ite_true, dite_true, Bool.false_eq_true, if_false, bnd_id, at_t0, at_t1, at_r0, at_r1, at_l0, at_l1, add_i, sub_i, neg_i, lt_i, le_i, gt_i, ge_i, eq_i, ne_i, eq_r, ne_r, eq_s, ne_s, eq_l, ne_l, abs_i, min_i, ite_false, pvR_mk, pvL_mk, setR_lookup, st_some, flat_r, mu_isNone, Option.isNone_none, Option.isNone_some, Bool.not_true, Bool.not_false, decide_true, decide_false, Bool.and_true, Bool.true_and, reduceCtorEq]
    rw [compF_none fun d hd => ?_]
    · simp only [noErr_ret, bnd_ret]
    · obtain ⟨i, hi, rfl⟩ := List.mem_map.mp hd
      have hi := List.mem_range.mp hi
      have := h4 (m + (i : Nat)) (by omega)
      simp (decide := true) only [runF, seqM, asg, rtM, nilM, ifS, raS, stS, nmM, cM, unM, biM, tupM, lstM, callM, bltM, ifM, orM, getM, tcM, tvM, ntM, alM, anM, ivM, irM, rowM, allT, anyT, toB_b, unp_t, unp_r, unp_l, putL, List.reverse_cons, List.reverse_nil, List.nil_append, List.cons_append, List.zip_cons_cons, List.zip_nil_left, List.zip_nil_right, List.length_cons, List.length_nil, lk_hit, lk_miss, sr_nil, sr_hit, sr_miss, st_none, al_none, al_some, put_none, put_some, bnd_ret, bnd_fail, bnd_stuck, bnd_bnd, lift_some', lift_none', noErr_ret, few_ok, sub_c, sub_d, sub_n, if_true, ite_true, dite_true, Bool.false_eq_true, if_false, bnd_id, at_t0, at_t1, at_r0, at_r1, at_l0, at_l1, add_i, sub_i, neg_i, lt_i, le_i, gt_i, ge_i, eq_i, ne_i, eq_r, ne_r, eq_s, ne_s, eq_l, ne_l, abs_i, min_i, ite_false, pvR_mk, pvL_mk, setR_lookup, st_some, flat_r, mu_isNone, Option.isNone_none, Option.isNone_some, Bool.not_true, Bool.not_false, decide_true, decide_false, Bool.and_true, Bool.true_and, reduceCtorEq, dicV_d, get_d, this]
  have hnil : eqV (.lst []) (.lst []) = some (.bool true) := rfl
  simp (decide := true) only [m_law_alike, runF, seqM, asg, rtM, nilM, ifS, raS, stS, nmM, cM, unM, biM, tupM, lstM, callM, bltM, ifM, orM, getM, tcM, tvM, ntM, alM, anM, ivM, irM, rowM, allT, anyT, toB_b, unp_t, unp_r, unp_l, putL, List.reverse_cons, List.reverse_nil, List.nil_append, List.cons_append, List.zip_cons_cons, List.zip_nil_left, List.zip_nil_right, List.length_cons, List.length_nil, lk_hit, lk_miss, sr_nil, sr_hit, sr_miss, st_none, al_none, al_some, put_none, put_some, bnd_ret, bnd_fail, bnd_stuck, bnd_bnd, lift_some', lift_none', noErr_ret, few_ok, sub_c, sub_d, sub_n, if_true, ite_true, dite_true, Bool.false_eq_true, if_false, bnd_id, at_t0, at_t1, at_r0, at_r1, at_l0, at_l1, add_i, sub_i, neg_i, lt_i, le_i, gt_i, ge_i, eq_i, ne_i, eq_r, ne_r, eq_s, ne_s, eq_l, ne_l, abs_i, min_i, ite_false, pvR_mk, pvL_mk, setR_lookup, st_some, flat_r, mu_isNone, Option.isNone_none, Option.isNone_some, Bool.not_true, Bool.not_false, decide_true, decide_false, Bool.and_true, Bool.true_and, reduceCtorEq, hrows, h3, list_d (show (rowsR p).length ≤ 1000 by omega), list_d (show D.length ≤ 1000 by omega)]
  rw [add_l (by simp; omega)]
  simp (decide := true) only [runF, seqM, asg, rtM, nilM, ifS, raS, stS, nmM, cM, unM, biM, tupM, lstM, callM, bltM, ifM, orM, getM, tcM, tvM, ntM, alM, anM, ivM, irM, rowM, allT, anyT, toB_b, unp_t, unp_r, unp_l, putL, List.reverse_cons, List.reverse_nil, List.nil_append, List.cons_append, List.zip_cons_cons, List.zip_nil_left, List.zip_nil_right, List.length_cons, List.length_nil, lk_hit, lk_miss, sr_nil, sr_hit, sr_miss, st_none, al_none, al_some, put_none, put_some, bnd_ret, bnd_fail, bnd_stuck, bnd_bnd, lift_some', lift_none', noErr_ret, few_ok, sub_c, sub_d, sub_n, if_true, ite_true, dite_true, Bool.false_eq_true, if_false, bnd_id, at_t0, at_t1, at_r0, at_r1, at_l0, at_l1, add_i, sub_i, neg_i, lt_i, le_i, gt_i, ge_i, eq_i, ne_i, eq_r, ne_r, eq_s, ne_s, eq_l, ne_l, abs_i, min_i, ite_false, pvR_mk, pvL_mk, setR_lookup, st_some, flat_r, mu_isNone, Option.isNone_none, Option.isNone_some, Bool.not_true, Bool.not_false, decide_true, decide_false, Bool.and_true, Bool.true_and, reduceCtorEq]
  rw [add_l (by simp; omega)]
  simp (decide := true) only [runF, seqM, asg, rtM, nilM, ifS, raS, stS, nmM, cM, unM, biM, tupM, lstM, callM, bltM, ifM, orM, getM, tcM, tvM, ntM, alM, anM, ivM, irM, rowM, allT, anyT, toB_b, unp_t, unp_r, unp_l, putL, List.reverse_cons, List.reverse_nil, List.nil_append, List.cons_append, List.zip_cons_cons, List.zip_nil_left, List.zip_nil_right, List.length_cons, List.length_nil, lk_hit, lk_miss, sr_nil, sr_hit, sr_miss, st_none, al_none, al_some, put_none, put_some, bnd_ret, bnd_fail, bnd_stuck, bnd_bnd, lift_some', lift_none', noErr_ret, few_ok, sub_c, sub_d, sub_n, if_true, ite_true, dite_true, Bool.false_eq_true, if_false, bnd_id, at_t0, at_t1, at_r0, at_r1, at_l0, at_l1, add_i, sub_i, neg_i, lt_i, le_i, gt_i, ge_i, eq_i, ne_i, eq_r, ne_r, eq_s, ne_s, eq_l, ne_l, abs_i, min_i, ite_false, pvR_mk, pvL_mk, setR_lookup, st_some, flat_r, mu_isNone, Option.isNone_none, Option.isNone_some, Bool.not_true, Bool.not_false, decide_true, decide_false, Bool.and_true, Bool.true_and, reduceCtorEq, hm']
  rw [h3] at hc
  simp (decide := true) only [runF, seqM, asg, rtM, nilM, ifS, raS, stS, nmM, cM, unM, biM, tupM, lstM, callM, bltM, ifM, orM, getM, tcM, tvM, ntM, alM, anM, ivM, irM, rowM, allT, anyT, toB_b, unp_t, unp_r, unp_l, putL, List.reverse_cons, List.reverse_nil, List.nil_append, List.cons_append, List.zip_cons_cons, List.zip_nil_left, List.zip_nil_right, List.length_cons, List.length_nil, lk_hit, lk_miss, sr_nil, sr_hit, sr_miss, st_none, al_none, al_some, put_none, put_some, bnd_ret, bnd_fail, bnd_stuck, bnd_bnd, lift_some', lift_none', noErr_ret, few_ok, sub_c, sub_d, sub_n, if_true, ite_true, dite_true, Bool.false_eq_true, if_false, bnd_id, at_t0, at_t1, at_r0, at_r1, at_l0, at_l1, add_i, sub_i, neg_i, lt_i, le_i, gt_i, ge_i, eq_i, ne_i, eq_r, ne_r, eq_s, ne_s, eq_l, ne_l, abs_i, min_i, ite_false, pvR_mk, pvL_mk, setR_lookup, st_some, flat_r, mu_isNone, Option.isNone_none, Option.isNone_some, Bool.not_true, Bool.not_false, decide_true, decide_false, Bool.and_true, Bool.true_and, reduceCtorEq, hc, hnil]

theorem rows_mem_find : ∀ (l : Int) (r : List Rt) (e : Int × Rt), e ∈ rowsFrom l r → (rowsFrom l r).find? (fun x => x.1 = e.1) = some e
  | l, q :: r, e, h => by
    rcases List.mem_cons.mp h with rfl | h
    · simp [rowsFrom]
    · have hk := rowsFrom_key _ _ e h
      have hne : ¬ l = e.1 := by omega
      rw [rowsFrom, List.find?_cons]
      simp only [hne, decide_false]
      exact rows_mem_find (l + 1) r e h
noncomputable def stepB (e : Int) (a : Int × Rt) (D : List (Int × Rt)) (b : Int × Rt) : Option (List (Int × Rt)) := if D.length ≤ 1000 then some (prodB e a D b) else none
theorem prodB_len {e : Int} {a b : Int × Rt} {D : List (Int × Rt)} : (prodB e a D b).length ≤ D.length + 1 := by
  unfold prodB; split
  · exact storeR_len
  · omega
theorem foldB : ∀ (B : List (Int × Rt)) (e : Int) (a : Int × Rt) (D : List (Int × Rt)), D.length + B.length ≤ 1000 → foldO (stepB e a) B D = some (B.foldl (prodB e a) D) ∧ (B.foldl (prodB e a) D).length ≤ D.length + B.length
  | [], _, _, D, _ => ⟨rfl, by simp⟩
  | b :: B, e, a, D, h => by
    have hl := prodB_len (e := e) (a := a) (b := b) (D := D)
    simp only [List.length_cons] at h ⊢
    obtain ⟨h1, h2⟩ := foldB B e a (prodB e a D b) (by omega)
    refine ⟨?_, by rw [List.foldl_cons]; omega⟩
    unfold foldO stepB
    rw [if_pos (by omega)]
    exact h1
noncomputable def stepA (B : List (Int × Rt)) (e : Int) (D : List (Int × Rt)) (a : Int × Rt) : Option (List (Int × Rt)) := foldO (stepB e a) B D
theorem foldA : ∀ (A B : List (Int × Rt)) (e : Int) (D : List (Int × Rt)), D.length + A.length * B.length ≤ 1000 → foldO (stepA B e) A D = some (A.foldl (fun D a => B.foldl (prodB e a) D) D)
  | [], _, _, _, _ => rfl
  | a :: A, B, e, D, h => by
    simp only [List.length_cons, Nat.add_mul, Nat.one_mul] at h
    obtain ⟨h1, h2⟩ := foldB B e a D (by omega)
    unfold foldO stepA
    rw [h1]
    exact foldA A B e _ (by omega)
theorem mem_rows_snd : ∀ (l : Int) (r : List Rt) (b : Int × Rt), b ∈ rowsFrom l r → b.2 ∈ r
  | l, q :: r, b, h => by
    rcases List.mem_cons.mp h with rfl | h
    · exact .head _
    · exact .tail _ (mem_rows_snd (l + 1) r b h)
theorem prod_inner {A B : List (Int × Rt)} {e : Int} {a : Int × Rt} {D D' : List (Int × Rt)} {ρ : Rho} (hB : B.length ≤ 1000) (haf : A.find? (fun x => x.1 = a.1) = some a) (hbf : ∀ b ∈ B, B.find? (fun x => x.1 = b.1) = some b) (hbs : ∀ b ∈ B, small b.2.1 = true)
    (r1 : ρ.lookup ("a" : Str) = some (pvD A)) (r2 : ρ.lookup ("b" : Str) = some (pvD B)) (r3 : ρ.lookup ("end" : Str) = some (.int e)) (r4 : ρ.lookup ("x" : Str) = some (.int a.1)) (r5 : ρ.lookup ("one" : Str) = ρ.lookup ("one" : Str)) (h : foldO (stepB e a) B D = some D') :
    ∃ ρ', b_law_product_2 ⟨ρ, some (("found" : Str), pvD D)⟩ = ret (.next, ⟨ρ', some (("found" : Str), pvD D')⟩) ∧ ρ'.lookup ("a" : Str) = some (pvD A) ∧ ρ'.lookup ("b" : Str) = some (pvD B) ∧ ρ'.lookup ("end" : Str) = some (.int e) := by
  have step : ∀ D (b : Int × Rt) D' (σ : Sig), b ∈ B → (σ.mu = some (("found" : Str), pvD D) ∧ σ.ρ.lookup ("a" : Str) = some (pvD A) ∧ σ.ρ.lookup ("b" : Str) = some (pvD B) ∧ σ.ρ.lookup ("end" : Str) = some (.int e) ∧ σ.ρ.lookup ("x" : Str) = some (.int a.1)) → stepB e a D b = some D' →
      ∃ σ₁ σ', put "y" (.int b.1) σ = some σ₁ ∧ b_law_product_1 σ₁ = ret (.next, σ') ∧
        (σ'.mu = some (("found" : Str), pvD D') ∧ σ'.ρ.lookup ("a" : Str) = some (pvD A) ∧ σ'.ρ.lookup ("b" : Str) = some (pvD B) ∧ σ'.ρ.lookup ("end" : Str) = some (.int e) ∧ σ'.ρ.lookup ("x" : Str) = some (.int a.1)) ∧ σ'.mu.isNone = σ.mu.isNone := by
    intro D b D' σ hb ⟨r0, r1, r2, r3, r4⟩ hs
    obtain ⟨ρ, mu⟩ := σ
    dsimp only at r0 r1 r2 r3 r4
    subst r0
    unfold stepB at hs
    split at hs
    case isFalse => cases hs
    next hl =>
    cases hs
    have ha := at_d haf
    have hbb := at_d (hbf b hb)
    have hle : (encD D).length ≤ 1000 := by unfold encD; simpa using hl
    refine ⟨⟨setR "y" (.int b.1) ρ, some (("found" : Str), pvD D)⟩, ⟨setR "y" (.int b.1) ρ, some (("found" : Str), pvD (prodB e a D b))⟩, put_some (by decide), ?_, ⟨rfl, ?_, ?_, ?_, ?_⟩, rfl⟩
    · unfold prodB
      by_cases hc : a.1 + b.1 < e
      · rw [if_pos hc]
        simp (decide := true) only [b_law_product_1, runF, seqM, asg, rtM, nilM, ifS, raS, stS, nmM, cM, unM, biM, tupM, lstM, callM, bltM, ifM, orM, getM, tcM, tvM, ntM, alM, anM, ivM, irM, rowM, allT, anyT, toB_b, unp_t, unp_r, unp_l, putL, List.reverse_cons, List.reverse_nil, List.nil_append, List.cons_append, List.zip_cons_cons, List.zip_nil_left, List.zip_nil_right, List.length_cons, List.length_nil, lk_hit, lk_miss, sr_nil, sr_hit, sr_miss, st_none, al_none, al_some, put_none, put_some, bnd_ret, bnd_fail, bnd_stuck, bnd_bnd, lift_some', lift_none', noErr_ret, few_ok, sub_c, sub_d, sub_n, if_true, ite_true, dite_true, Bool.false_eq_true, if_false, bnd_id, at_t0, at_t1, at_r0, at_r1, at_l0, at_l1, add_i, sub_i, neg_i, lt_i, le_i, gt_i, ge_i, eq_i, ne_i, eq_r, ne_r, eq_s, ne_s, eq_l, ne_l, abs_i, min_i, ite_false, pvR_mk, pvL_mk, setR_lookup, st_some, flat_r, mu_isNone, Option.isNone_none, Option.isNone_some, Bool.not_true, Bool.not_false, decide_true, decide_false, Bool.and_true, Bool.true_and, reduceCtorEq, r1, r2, r3, r4, hc]
        rw [show pvD D = .dic (encD D) from rfl]
        simp (decide := true) only [runF, seqM, asg, rtM, nilM, ifS, raS, stS, nmM, cM, unM, biM, tupM, lstM, callM, bltM, ifM, orM, getM, tcM, tvM, ntM, alM, anM, ivM, irM, rowM, allT, anyT, toB_b, unp_t, unp_r, unp_l, putL, List.reverse_cons, List.reverse_nil, List.nil_append, List.cons_append, List.zip_cons_cons, List.zip_nil_left, List.zip_nil_right, List.length_cons, List.length_nil, lk_hit, lk_miss, sr_nil, sr_hit, sr_miss, st_none, al_none, al_some, put_none, put_some, bnd_ret, bnd_fail, bnd_stuck, bnd_bnd, lift_some', lift_none', noErr_ret, few_ok, sub_c, sub_d, sub_n, if_true, ite_true, dite_true, Bool.false_eq_true, if_false, bnd_id, at_t0, at_t1, at_r0, at_r1, at_l0, at_l1, add_i, sub_i, neg_i, lt_i, le_i, gt_i, ge_i, eq_i, ne_i, eq_r, ne_r, eq_s, ne_s, eq_l, ne_l, abs_i, min_i, ite_false, pvR_mk, pvL_mk, setR_lookup, st_some, flat_r, mu_isNone, Option.isNone_none, Option.isNone_some, Bool.not_true, Bool.not_false, decide_true, decide_false, Bool.and_true, Bool.true_and, reduceCtorEq, setM, hle, r1, r2, r3, r4, show dicV (.dic (encD D)) = some (encD D) from rfl, get_d, ha, hbb, mul_i (hbs b hb), storeD_enc]
        rfl
      · rw [if_neg hc]
        simp (decide := true) only [b_law_product_1, runF, seqM, asg, rtM, nilM, ifS, raS, stS, nmM, cM, unM, biM, tupM, lstM, callM, bltM, ifM, orM, getM, tcM, tvM, ntM, alM, anM, ivM, irM, rowM, allT, anyT, toB_b, unp_t, unp_r, unp_l, putL, List.reverse_cons, List.reverse_nil, List.nil_append, List.cons_append, List.zip_cons_cons, List.zip_nil_left, List.zip_nil_right, List.length_cons, List.length_nil, lk_hit, lk_miss, sr_nil, sr_hit, sr_miss, st_none, al_none, al_some, put_none, put_some, bnd_ret, bnd_fail, bnd_stuck, bnd_bnd, lift_some', lift_none', noErr_ret, few_ok, sub_c, sub_d, sub_n, if_true, ite_true, dite_true, Bool.false_eq_true, if_false, bnd_id, at_t0, at_t1, at_r0, at_r1, at_l0, at_l1, add_i, sub_i, neg_i, lt_i, le_i, gt_i, ge_i, eq_i, ne_i, eq_r, ne_r, eq_s, ne_s, eq_l, ne_l, abs_i, min_i, ite_false, pvR_mk, pvL_mk, setR_lookup, st_some, flat_r, mu_isNone, Option.isNone_none, Option.isNone_some, Bool.not_true, Bool.not_false, decide_true, decide_false, Bool.and_true, Bool.true_and, reduceCtorEq, r1, r2, r3, r4, hc]
    all_goals simp (decide := true) only [runF, seqM, asg, rtM, nilM, ifS, raS, stS, nmM, cM, unM, biM, tupM, lstM, callM, bltM, ifM, orM, getM, tcM, tvM, ntM, alM, anM, ivM, irM, rowM, allT, anyT, toB_b, unp_t, unp_r, unp_l, putL, List.reverse_cons, List.reverse_nil, List.nil_append, List.cons_append, List.zip_cons_cons, List.zip_nil_left, List.zip_nil_right, List.length_cons, List.length_nil, lk_hit, lk_miss, sr_nil, sr_hit, sr_miss, st_none, al_none, al_some, put_none, put_some, bnd_ret, bnd_fail, bnd_stuck, bnd_bnd, lift_some', lift_none', noErr_ret, few_ok, sub_c, sub_d, sub_n, if_true, ite_true, dite_true, Bool.false_eq_true, if_false, bnd_id, at_t0, at_t1, at_r0, at_r1, at_l0, at_l1, add_i, sub_i, neg_i, lt_i, le_i, gt_i, ge_i, eq_i, ne_i, eq_r, ne_r, eq_s, ne_s, eq_l, ne_l, abs_i, min_i, ite_false, pvR_mk, pvL_mk, setR_lookup, st_some, flat_r, mu_isNone, Option.isNone_none, Option.isNone_some, Bool.not_true, Bool.not_false, decide_true, decide_false, Bool.and_true, Bool.true_and, reduceCtorEq, r1, r2, r3, r4]
  simp (decide := true) only [b_law_product_2, runF, seqM, asg, rtM, nilM, ifS, raS, stS, nmM, cM, unM, biM, tupM, lstM, callM, bltM, ifM, orM, getM, tcM, tvM, ntM, alM, anM, ivM, irM, rowM, allT, anyT, toB_b, unp_t, unp_r, unp_l, putL, List.reverse_cons, List.reverse_nil, List.nil_append, List.cons_append, List.zip_cons_cons, List.zip_nil_left, List.zip_nil_right, List.length_cons, List.length_nil, lk_hit, lk_miss, sr_nil, sr_hit, sr_miss, st_none, al_none, al_some, put_none, put_some, bnd_ret, bnd_fail, bnd_stuck, bnd_bnd, lift_some', lift_none', noErr_ret, few_ok, sub_c, sub_d, sub_n, if_true, ite_true, dite_true, Bool.false_eq_true, if_false, bnd_id, at_t0, at_t1, at_r0, at_r1, at_l0, at_l1, add_i, sub_i, neg_i, lt_i, le_i, gt_i, ge_i, eq_i, ne_i, eq_r, ne_r, eq_s, ne_s, eq_l, ne_l, abs_i, min_i, ite_false, pvR_mk, pvL_mk, setR_lookup, st_some, flat_r, mu_isNone, Option.isNone_none, Option.isNone_some, Bool.not_true, Bool.not_false, decide_true, decide_false, Bool.and_true, Bool.true_and, reduceCtorEq, foS, r2, items_d hB]
  obtain ⟨⟨ρ', mu'⟩, e1, e2, e3, e4, e5, e6⟩ := forM_rel (x := "y") (fun b : Int × Rt => PV.int b.1) (fun (D : List (Int × Rt)) (σ : Sig) => σ.mu = some (("found" : Str), pvD D) ∧ σ.ρ.lookup ("a" : Str) = some (pvD A) ∧ σ.ρ.lookup ("b" : Str) = some (pvD B) ∧ σ.ρ.lookup ("end" : Str) = some (.int e) ∧ σ.ρ.lookup ("x" : Str) = some (.int a.1))
    (stepB e a) B step D D' ⟨ρ, some (("found" : Str), pvD D)⟩ ⟨rfl, r1, r2, r3, r4⟩ h
  dsimp only at e2 e3 e4 e5 e6
  subst e2
  rw [e1]
  simp (decide := true) only [runF, seqM, asg, rtM, nilM, ifS, raS, stS, nmM, cM, unM, biM, tupM, lstM, callM, bltM, ifM, orM, getM, tcM, tvM, ntM, alM, anM, ivM, irM, rowM, allT, anyT, toB_b, unp_t, unp_r, unp_l, putL, List.reverse_cons, List.reverse_nil, List.nil_append, List.cons_append, List.zip_cons_cons, List.zip_nil_left, List.zip_nil_right, List.length_cons, List.length_nil, lk_hit, lk_miss, sr_nil, sr_hit, sr_miss, st_none, al_none, al_some, put_none, put_some, bnd_ret, bnd_fail, bnd_stuck, bnd_bnd, lift_some', lift_none', noErr_ret, few_ok, sub_c, sub_d, sub_n, if_true, ite_true, dite_true, Bool.false_eq_true, if_false, bnd_id, at_t0, at_t1, at_r0, at_r1, at_l0, at_l1, add_i, sub_i, neg_i, lt_i, le_i, gt_i, ge_i, eq_i, ne_i, eq_r, ne_r, eq_s, ne_s, eq_l, ne_l, abs_i, min_i, ite_false, pvR_mk, pvL_mk, setR_lookup, st_some, flat_r, mu_isNone, Option.isNone_none, Option.isNone_some, Bool.not_true, Bool.not_false, decide_true, decide_false, Bool.and_true, Bool.true_and, reduceCtorEq]
  exact ⟨ρ', rfl, e3, e4, e5⟩
theorem u_product {p q : Int × List Rt} (hp : okP p) (hq : okP q) (h1 : p.2.length ≤ 20) (h2 : q.2.length ≤ 20) (hs : ∀ b ∈ q.2, small b.1 = true) : runF ["one", "other"] m_law_product [pvL p, pvL q] = ret (.tup [pvD (prodI (rowsR p) (rowsR q) (endI p q)), .int (endI p q)]) := by
  have hA : (rowsR p).length = p.2.length := rowsFrom_len _ _
  have hB : (rowsR q).length = q.2.length := rowsFrom_len _ _
  have hrp := sp_rows_of hp
  have hrq := sp_rows_of hq
  generalize he : endI p q = e
  have he' := he
  unfold endI at he'
  have step : ∀ D (a : Int × Rt) D' (σ : Sig), a ∈ rowsR p → (σ.mu = some (("found" : Str), pvD D) ∧ σ.ρ.lookup ("a" : Str) = some (pvD (rowsR p)) ∧ σ.ρ.lookup ("b" : Str) = some (pvD (rowsR q)) ∧ σ.ρ.lookup ("end" : Str) = some (.int e)) → stepA (rowsR q) e D a = some D' →
      ∃ σ₁ σ', put "x" (.int a.1) σ = some σ₁ ∧ b_law_product_2 σ₁ = ret (.next, σ') ∧
        (σ'.mu = some (("found" : Str), pvD D') ∧ σ'.ρ.lookup ("a" : Str) = some (pvD (rowsR p)) ∧ σ'.ρ.lookup ("b" : Str) = some (pvD (rowsR q)) ∧ σ'.ρ.lookup ("end" : Str) = some (.int e)) ∧ σ'.mu.isNone = σ.mu.isNone := by
    intro D a D' σ ha ⟨r0, r1, r2, r3⟩ hst
    obtain ⟨ρ, mu⟩ := σ
    dsimp only at r0 r1 r2 r3
    subst r0
    obtain ⟨ρ', e1, e2, e3, e4⟩ := prod_inner (A := rowsR p) (B := rowsR q) (e := e) (a := a) (ρ := setR "x" (.int a.1) ρ) (by omega) (rows_mem_find _ _ a ha) (fun b hb => rows_mem_find _ _ b hb) (fun b hb => hs _ (mem_rows_snd _ _ b hb))
      (by simp (decide := true) only [runF, seqM, asg, rtM, nilM, ifS, raS, stS, nmM, cM, unM, biM, tupM, lstM, callM, bltM, ifM, orM, getM, tcM, tvM, ntM, alM, anM, ivM, irM, rowM, allT, anyT, toB_b, unp_t, unp_r, unp_l, putL, List.reverse_cons, List.reverse_nil, List.nil_append, List.cons_append, List.zip_cons_cons, List.zip_nil_left, List.zip_nil_right, List.length_cons, List.length_nil, lk_hit, lk_miss, sr_nil, sr_hit, sr_miss, st_none, al_none, al_some, put_none, put_some, bnd_ret, bnd_fail, bnd_stuck, bnd_bnd, lift_some', lift_none', noErr_ret, few_ok, sub_c, sub_d, sub_n, if_true, ite_true, dite_true, Bool.false_eq_true, if_false, bnd_id, at_t0, at_t1, at_r0, at_r1, at_l0, at_l1, add_i, sub_i, neg_i, lt_i, le_i, gt_i, ge_i, eq_i, ne_i, eq_r, ne_r, eq_s, ne_s, eq_l, ne_l, abs_i, min_i, ite_false, pvR_mk, pvL_mk, setR_lookup, st_some, flat_r, mu_isNone, Option.isNone_none, Option.isNone_some, Bool.not_true, Bool.not_false, decide_true, decide_false, Bool.and_true, Bool.true_and, reduceCtorEq, r1]) (by simp (decide := true) only [runF, seqM, asg, rtM, nilM, ifS, raS, stS, nmM, cM, unM, biM, tupM, lstM, callM, bltM, ifM, orM, getM, tcM, tvM, ntM, alM, anM, ivM, irM, rowM, allT, anyT, toB_b, unp_t, unp_r, unp_l, putL, List.reverse_cons, List.reverse_nil, List.nil_append, List.cons_append, List.zip_cons_cons, List.zip_nil_left, List.zip_nil_right, List.length_cons, List.length_nil, lk_hit, lk_miss, sr_nil, sr_hit, sr_miss, st_none, al_none, al_some, put_none, put_some, bnd_ret, bnd_fail, bnd_stuck, bnd_bnd, lift_some', lift_none', noErr_ret, few_ok, sub_c, sub_d, sub_n, if_true, ite_true, dite_true, Bool.false_eq_true, if_false, bnd_id, at_t0, at_t1, at_r0, at_r1, at_l0, at_l1, add_i, sub_i, neg_i, lt_i, le_i, gt_i, ge_i, eq_i, ne_i, eq_r, ne_r, eq_s, ne_s, eq_l, ne_l, abs_i, min_i, ite_false, pvR_mk, pvL_mk, setR_lookup, st_some, flat_r, mu_isNone, Option.isNone_none, Option.isNone_some, Bool.not_true, Bool.not_false, decide_true, decide_false, Bool.and_true, Bool.true_and, reduceCtorEq, r2]) (by simp (decide := true) only [runF, seqM, asg, rtM, nilM, ifS, raS, stS, nmM, cM, unM, biM, tupM, lstM, callM, bltM, ifM, orM, getM, tcM, tvM, ntM, alM, anM, ivM, irM, rowM, allT, anyT, toB_b, unp_t, unp_r, unp_l, putL, List.reverse_cons, List.reverse_nil, List.nil_append, List.cons_append, List.zip_cons_cons, List.zip_nil_left, List.zip_nil_right, List.length_cons, List.length_nil, lk_hit, lk_miss, sr_nil, sr_hit, sr_miss, st_none, al_none, al_some, put_none, put_some, bnd_ret, bnd_fail, bnd_stuck, bnd_bnd, lift_some', lift_none', noErr_ret, few_ok, sub_c, sub_d, sub_n, if_true, ite_true, dite_true, Bool.false_eq_true, if_false, bnd_id, at_t0, at_t1, at_r0, at_r1, at_l0, at_l1, add_i, sub_i, neg_i, lt_i, le_i, gt_i, ge_i, eq_i, ne_i, eq_r, ne_r, eq_s, ne_s, eq_l, ne_l, abs_i, min_i, ite_false, pvR_mk, pvL_mk, setR_lookup, st_some, flat_r, mu_isNone, Option.isNone_none, Option.isNone_some, Bool.not_true, Bool.not_false, decide_true, decide_false, Bool.and_true, Bool.true_and, reduceCtorEq, r3]) (by simp (decide := true) only [runF, seqM, asg, rtM, nilM, ifS, raS, stS, nmM, cM, unM, biM, tupM, lstM, callM, bltM, ifM, orM, getM, tcM, tvM, ntM, alM, anM, ivM, irM, rowM, allT, anyT, toB_b, unp_t, unp_r, unp_l, putL, List.reverse_cons, List.reverse_nil, List.nil_append, List.cons_append, List.zip_cons_cons, List.zip_nil_left, List.zip_nil_right, List.length_cons, List.length_nil, lk_hit, lk_miss, sr_nil, sr_hit, sr_miss, st_none, al_none, al_some, put_none, put_some, bnd_ret, bnd_fail, bnd_stuck, bnd_bnd, lift_some', lift_none', noErr_ret, few_ok, sub_c, sub_d, sub_n, if_true, ite_true, dite_true, Bool.false_eq_true, if_false, bnd_id, at_t0, at_t1, at_r0, at_r1, at_l0, at_l1, add_i, sub_i, neg_i, lt_i, le_i, gt_i, ge_i, eq_i, ne_i, eq_r, ne_r, eq_s, ne_s, eq_l, ne_l, abs_i, min_i, ite_false, pvR_mk, pvL_mk, setR_lookup, st_some, flat_r, mu_isNone, Option.isNone_none, Option.isNone_some, Bool.not_true, Bool.not_false, decide_true, decide_false, Bool.and_true, Bool.true_and, reduceCtorEq]) rfl hst
    exact ⟨⟨setR "x" (.int a.1) ρ, some (("found" : Str), pvD D)⟩, ⟨ρ', some (("found" : Str), pvD D')⟩, put_some (by decide), e1, ⟨rfl, e2, e3, e4⟩, rfl⟩
  have hf := foldA (rowsR p) (rowsR q) e [] (by rw [hA, hB]; have := Nat.mul_le_mul h1 h2; simp; omega)
  obtain ⟨⟨ρ', mu'⟩, e1, e2, e3, e4, e5⟩ := forM_rel (x := "x") (fun b : Int × Rt => PV.int b.1) (fun (D : List (Int × Rt)) (σ : Sig) => σ.mu = some (("found" : Str), pvD D) ∧ σ.ρ.lookup ("a" : Str) = some (pvD (rowsR p)) ∧ σ.ρ.lookup ("b" : Str) = some (pvD (rowsR q)) ∧ σ.ρ.lookup ("end" : Str) = some (.int e))
    (stepA (rowsR q) e) (rowsR p) step [] _ ⟨[("one", pvL p), ("other", pvL q), ("a", pvD (rowsR p)), ("first", .int (p.1 + p.2.length)), ("b", pvD (rowsR q)), ("second", .int (q.1 + q.2.length)), ("end", .int e)], some (("found" : Str), pvD [])⟩ ⟨rfl, rfl, rfl, rfl⟩ hf
  dsimp only at e2 e3 e4 e5
  subst e2
  simp (decide := true) only [m_law_product, runF, seqM, asg, rtM, nilM, ifS, raS, stS, nmM, cM, unM, biM, tupM, lstM, callM, bltM, ifM, orM, getM, tcM, tvM, ntM, alM, anM, ivM, irM, rowM, allT, anyT, toB_b, unp_t, unp_r, unp_l, putL, List.reverse_cons, List.reverse_nil, List.nil_append, List.cons_append, List.zip_cons_cons, List.zip_nil_left, List.zip_nil_right, List.length_cons, List.length_nil, lk_hit, lk_miss, sr_nil, sr_hit, sr_miss, st_none, al_none, al_some, put_none, put_some, bnd_ret, bnd_fail, bnd_stuck, bnd_bnd, lift_some', lift_none', noErr_ret, few_ok, sub_c, sub_d, sub_n, if_true, ite_true, dite_true, Bool.false_eq_true, if_false, bnd_id, at_t0, at_t1, at_r0, at_r1, at_l0, at_l1, add_i, sub_i, neg_i, lt_i, le_i, gt_i, ge_i, eq_i, ne_i, eq_r, ne_r, eq_s, ne_s, eq_l, ne_l, abs_i, min_i, ite_false, pvR_mk, pvL_mk, setR_lookup, st_some, flat_r, mu_isNone, Option.isNone_none, Option.isNone_some, Bool.not_true, Bool.not_false, decide_true, decide_false, Bool.and_true, Bool.true_and, reduceCtorEq, hrp, hrq, he']
  simp (decide := true) only [runF, seqM, asg, rtM, nilM, ifS, raS, stS, nmM, cM, unM, biM, tupM, lstM, callM, bltM, ifM, orM, getM, tcM, tvM, ntM, alM, anM, ivM, irM, rowM, allT, anyT, toB_b, unp_t, unp_r, unp_l, putL, List.reverse_cons, List.reverse_nil, List.nil_append, List.cons_append, List.zip_cons_cons, List.zip_nil_left, List.zip_nil_right, List.length_cons, List.length_nil, lk_hit, lk_miss, sr_nil, sr_hit, sr_miss, st_none, al_none, al_some, put_none, put_some, bnd_ret, bnd_fail, bnd_stuck, bnd_bnd, lift_some', lift_none', noErr_ret, few_ok, sub_c, sub_d, sub_n, if_true, ite_true, dite_true, Bool.false_eq_true, if_false, bnd_id, at_t0, at_t1, at_r0, at_r1, at_l0, at_l1, add_i, sub_i, neg_i, lt_i, le_i, gt_i, ge_i, eq_i, ne_i, eq_r, ne_r, eq_s, ne_s, eq_l, ne_l, abs_i, min_i, ite_false, pvR_mk, pvL_mk, setR_lookup, st_some, flat_r, mu_isNone, Option.isNone_none, Option.isNone_some, Bool.not_true, Bool.not_false, decide_true, decide_false, Bool.and_true, Bool.true_and, reduceCtorEq, own, foS, items_d (show (rowsR p).length ≤ 1000 by omega)]
  rw [show PV.dic [] = pvD [] from rfl, e1]
  simp (decide := true) only [runF, seqM, asg, rtM, nilM, ifS, raS, stS, nmM, cM, unM, biM, tupM, lstM, callM, bltM, ifM, orM, getM, tcM, tvM, ntM, alM, anM, ivM, irM, rowM, allT, anyT, toB_b, unp_t, unp_r, unp_l, putL, List.reverse_cons, List.reverse_nil, List.nil_append, List.cons_append, List.zip_cons_cons, List.zip_nil_left, List.zip_nil_right, List.length_cons, List.length_nil, lk_hit, lk_miss, sr_nil, sr_hit, sr_miss, st_none, al_none, al_some, put_none, put_some, bnd_ret, bnd_fail, bnd_stuck, bnd_bnd, lift_some', lift_none', noErr_ret, few_ok, sub_c, sub_d, sub_n, if_true, ite_true, dite_true, Bool.false_eq_true, if_false, bnd_id, at_t0, at_t1, at_r0, at_r1, at_l0, at_l1, add_i, sub_i, neg_i, lt_i, le_i, gt_i, ge_i, eq_i, ne_i, eq_r, ne_r, eq_s, ne_s, eq_l, ne_l, abs_i, min_i, ite_false, pvR_mk, pvL_mk, setR_lookup, st_some, flat_r, mu_isNone, Option.isNone_none, Option.isNone_some, Bool.not_true, Bool.not_false, decide_true, decide_false, Bool.and_true, Bool.true_and, reduceCtorEq, e5]
  rfl
theorem k_law_alike {wd : Wd} (C : Wld wd) : Fn wd 3 "_law_alike" sp_law_alike := (f_law_alike C (k_law_rows C)).sub fun ds n r n' e => by
  unfold sp_law_alike at e
  split at e
  · obtain ⟨p, rfl, e1⟩ := lauM_some e
    obtain ⟨D, rfl, e2⟩ := dicM_some e1
    split at e2
    case isFalse => cases e2
    next hg => rw [u_alike hg]; exact e2
  · cases e
theorem k_law_product {wd : Wd} (C : Wld wd) : Fn wd 3 "_law_product" sp_law_product := (f_law_product C (k_law_rows C)).sub fun ds n r n' e => by
  unfold sp_law_product at e
  split at e
  · obtain ⟨p, rfl, e1⟩ := lauM_some e
    obtain ⟨q, rfl, e2⟩ := lauM_some e1
    split at e2
    case isFalse => cases e2
    next hg => rw [u_product hg.1 hg.2.1 hg.2.2.1 hg.2.2.2.1 hg.2.2.2.2]; exact e2
  · cases e
end Lz
set_option linter.unusedSimpArgs false
namespace Lz
open PySem PySem.W PyProof.Rows

/-! sums and products where all bottoms are 1 -/
theorem gI_one (t : Int) : gI t 1 = 1 := by unfold gI; rw [if_pos (by decide)]; simp
theorem ratO_one (t : Int) : ratO t 1 = some (t, 1) := by
  rw [ratO_eq]
  unfold ratO0
  rw [if_neg (by decide), if_pos (by decide), gI_one, if_pos ⟨by decide, by decide⟩]
  simp
theorem radd_one {a b : Rt} (ha : a.2 = 1) (hb : b.2 = 1) : raddO a b = some (a.1 + b.1, 1) := by
  unfold raddO
  rw [ha, hb, if_pos (by decide)]
  simp only [Int.mul_one]
  exact ratO_one _
theorem rmul_one {a b : Rt} (ha : a.2 = 1) (hb : b.2 = 1) (hs : small b.1 = true) : rmulO a b = some (a.1 * b.1, 1) := by
  unfold rmulO
  rw [ha, hb, hs, if_pos (by decide)]
  simp only [Int.mul_one]
  exact ratO_one _
noncomputable def sumN (f : Nat → Int) : Nat → Int
  | 0 => 0
  | n + 1 => sumN f n + f n
theorem sumN_zero {f : Nat → Int} : ∀ n, (∀ i, i < n → f i = 0) → sumN f n = 0
  | 0, _ => rfl
  | n + 1, h => by rw [sumN, sumN_zero n fun i hi => h i (by omega), h n (by omega)]; rfl
theorem sumN_left {f : Nat → Int} : ∀ n, sumN f (n + 1) = f 0 + sumN (fun i => f (i + 1)) n
  | 0 => by simp [sumN]
  | n + 1 => by rw [sumN, sumN_left n, sumN]; omega
theorem sumN_cut {f : Nat → Int} (k : Nat) : ∀ n, k ≤ n → (∀ i, k ≤ i → i < n → f i = 0) → sumN f n = sumN f k
  | 0, h, _ => by rw [show k = 0 by omega]
  | n + 1, h, hf => by
    by_cases hk : k = n + 1
    · rw [hk]
    · rw [sumN, hf n (by omega) (by omega), sumN_cut k n (by omega) fun i h1 h2 => hf i h1 (by omega)]; omega
theorem sumN_congr {f g : Nat → Int} : ∀ n, (∀ i, i < n → f i = g i) → sumN f n = sumN g n
  | 0, _ => rfl
  | n + 1, h => by rw [sumN, sumN, sumN_congr n fun i hi => h i (by omega), h n (by omega)]
noncomputable def sumZ {α : Type} (f : α → Int) : List α → Int
  | [] => 0
  | a :: r => f a + sumZ f r
noncomputable def nu (a : List Rt) (i : Nat) : Int := (a.getD i (0, 1)).1
theorem sumZ_rows (g : Int → Int) : ∀ (l : Int) (r : List Rt), sumZ (fun e : Int × Rt => e.2.1 * g e.1) (rowsFrom l r) = sumN (fun i => nu r i * g (l + i)) r.length
  | _, [] => rfl
  | l, q :: r => by
    rw [rowsFrom, sumZ, List.length_cons, sumN_left, sumZ_rows g (l + 1) r]
    simp only [nu, Int.natCast_zero, Int.add_zero, List.getD_cons_zero, List.getD_cons_succ]
    congr 1
    refine sumN_congr _ fun i _ => ?_
    rw [show l + 1 + (i : Int) = l + ((i + 1 : Nat) : Int) by omega]
theorem sumZ_key (c : Int) : ∀ (l : Int) (r : List Rt) (t : Int), sumZ (fun b : Int × Rt => if b.1 = t then c * b.2.1 else 0) (rowsFrom l r) = c * (getR (rowsFrom l r) t).1
  | _, [], t => by simp [rowsFrom, sumZ, getR]
  | l, q :: r, t => by
    rw [rowsFrom, sumZ, sumZ_key c (l + 1) r t]
    by_cases h : l = t
    · subst h
      have : getR (rowsFrom (l + 1) r) l = (0, 1) := getR_none fun e he => by have := rowsFrom_key _ _ e he; omega
      rw [this]
      simp [getR]
    · simp [getR, h]
theorem getR_store {i t : Int} {q : Rt} : ∀ {D : List (Int × Rt)}, getR (storeR i q D) t = if t = i then q else getR D t := by
  intro D
  unfold storeR
  split
  · next h =>
    by_cases ht : t = i
    · subst ht
      rw [if_pos rfl]
      unfold getR
      induction D with
      | nil => simp at h
      | cons e D ih =>
        by_cases he : e.1 = t
        · simp [he]
        · simp only [List.map_cons, he, if_false, List.find?_cons, decide_false]
          exact ih (by simpa [he] using h)
    · rw [if_neg ht]
      unfold getR
      clear h
      induction D with
      | nil => rfl
      | cons e D ih =>
        by_cases he : e.1 = i
        · have h1 : ¬ i = t := fun z => ht z.symm
          have h2 : ¬ e.1 = t := by omega
          simp only [List.map_cons, he, if_true, List.find?_cons, h1, h2, decide_false]
          exact ih
        · simp only [List.map_cons, he, if_false, List.find?_cons]
          cases decide (e.1 = t) with
          | true => rfl
          | false => exact ih
  · next h =>
    by_cases ht : t = i
    · subst ht
      rw [if_pos rfl]
      unfold getR
      rw [List.find?_append, find_none fun e he z => h (by rw [List.any_eq_true]; exact ⟨e, he, by simp [z]⟩)]
      simp
    · rw [if_neg ht]
      unfold getR
      rw [List.find?_append]
      have h1 : ¬ i = t := fun z => ht z.symm
      cases D.find? fun e => decide (e.1 = t) <;> simp [h1]
noncomputable def one2 (D : List (Int × Rt)) (e : Int) : Prop := ∀ t, t < e → (getR D t).2 = 1
theorem one2_nil {e : Int} : one2 [] e := fun _ _ => rfl
theorem foldB_get {e : Int} {a : Int × Rt} : ∀ (B : List (Int × Rt)) (D : List (Int × Rt)), one2 D e → one2 (B.foldl (prodB e a) D) e ∧ ∀ t, t < e → (getR (B.foldl (prodB e a) D) t).1 = (getR D t).1 + sumZ (fun b : Int × Rt => if b.1 = t - a.1 then a.2.1 * b.2.1 else 0) B
  | [], D, h => ⟨h, fun t _ => by simp [sumZ]⟩
  | b :: B, D, h => by
    have h' : one2 (prodB e a D b) e := fun t ht => by
      unfold prodB
      split
      · rw [getR_store]; split
        · rfl
        · exact h t ht
      · exact h t ht
    obtain ⟨i1, i2⟩ := foldB_get B (prodB e a D b) h'
    refine ⟨i1, fun t ht => ?_⟩
    rw [List.foldl_cons, i2 t ht, sumZ]
    unfold prodB
    by_cases hc : b.1 = t - a.1
    · rw [if_pos (by omega), getR_store, if_pos (by omega), if_pos hc, show a.1 + b.1 = t by omega]
      simp only
      omega
    · rw [if_neg hc]
      split
      · rw [getR_store, if_neg (by omega)]; omega
      · omega
theorem foldA_get {e : Int} {B : List (Int × Rt)} : ∀ (A : List (Int × Rt)) (D : List (Int × Rt)), one2 D e → one2 (A.foldl (fun D a => B.foldl (prodB e a) D) D) e ∧
    ∀ t, t < e → (getR (A.foldl (fun D a => B.foldl (prodB e a) D) D) t).1 = (getR D t).1 + sumZ (fun a : Int × Rt => sumZ (fun b : Int × Rt => if b.1 = t - a.1 then a.2.1 * b.2.1 else 0) B) A
  | [], D, h => ⟨h, fun t _ => by simp [sumZ]⟩
  | a :: A, D, h => by
    obtain ⟨h1, h2⟩ := foldB_get (e := e) (a := a) B D h
    obtain ⟨i1, i2⟩ := foldA_get A _ h1
    refine ⟨i1, fun t ht => ?_⟩
    rw [List.foldl_cons, i2 t ht, h2 t ht, sumZ]
    omega
theorem sumZ_congr {α : Type} {f g : α → Int} : ∀ (l : List α), (∀ a ∈ l, f a = g a) → sumZ f l = sumZ g l
  | [], _ => rfl
  | a :: l, h => by rw [sumZ, sumZ, h a (.head _), sumZ_congr l fun a ha => h a (.tail _ ha)]
/-- what the product's rows hold -/
theorem prod_get {p q : Int × List Rt} {e t : Int} (ht : t < e) : getR (prodI (rowsR p) (rowsR q) e) t = (sumN (fun i => nu p.2 i * (getR (rowsR q) (t - (p.1 + i))).1) p.2.length, 1) := by
  obtain ⟨h1, h2⟩ := foldA_get (e := e) (B := rowsR q) (rowsR p) [] one2_nil
  have h3 := h2 t ht
  have h4 := h1 t ht
  unfold prodI
  refine Prod.ext ?_ h4
  rw [h3]
  have : (getR [] t).1 = 0 := rfl
  rw [this, Int.zero_add]
  refine (sumZ_congr (g := fun a : Int × Rt => a.2.1 * (getR (rowsR q) (t - a.1)).1) _ fun a _ => sumZ_key a.2.1 q.1 q.2 (t - a.1)).trans ?_
  exact sumZ_rows (fun x => (getR (rowsR q) (t - x)).1) p.1 p.2
theorem getR_rowsR {p : Int × List Rt} {i : Nat} (h : i < p.2.length) : getR (rowsR p) (p.1 + i) = p.2.getD i (0, 1) := by
  rw [show getR (rowsR p) (p.1 + i) = p.2[i] from getR_rows (List.getElem?_eq_getElem h)]
  simp [List.getD_eq_getElem?_getD, List.getElem?_eq_getElem h]
theorem getR_out {p : Int × List Rt} {t : Int} (h : t < p.1 ∨ p.1 + p.2.length ≤ t) : getR (rowsR p) t = (0, 1) := getR_none fun e he => by have := rowsFrom_key _ _ e he; omega
/-- the program's own sum -/
theorem mixed_one {a b : List Rt} {k : Nat} (ha : ∀ r ∈ a, r.2 = 1) (hb : ∀ r ∈ b, r.2 = 1 ∧ small r.1 = true) (hka : k < a.length) (hkb : k < b.length) : mixedO a b k = some (sumN (fun i => nu a i * nu b (k - i)) (k + 1), 1) := by
  have key : ∀ m j acc, j + m = k + 1 → foldO (mixStep a b k) (List.range' j m) (acc, 1) = some (acc + sumN (fun i => nu a (j + i) * nu b (k - (j + i))) m, 1) := by
    intro m
    induction m with
    | zero => intro j acc _; simp [foldO, sumN]
    | succ m ih =>
      intro j acc h
      have hj : j < a.length := by omega
      have hj' : k - j < b.length := by omega
      rw [List.range'_succ, foldO]
      have hax : a[j]? = some a[j] := List.getElem?_eq_getElem hj
      have hbx : b[k - j]? = some b[k - j] := List.getElem?_eq_getElem hj'
      have e1 : mixStep a b k (acc, 1) j = some (acc + nu a j * nu b (k - j), 1) := by
        have na : nu a j = a[j].1 := by simp [nu, List.getD_eq_getElem?_getD, hax]
        have nb : nu b (k - j) = b[k - j].1 := by simp [nu, List.getD_eq_getElem?_getD, hbx]
        have a2 := ha _ (List.getElem_mem hj)
        have b2 := hb _ (List.getElem_mem hj')
        unfold mixStep
        rw [hax, hbx, na, nb]
        dsimp only
        split
        · next hz => rw [hz]; simp
        · split
          · next hz => rw [hz]; simp
          · rw [rmul_one a2 b2.1 b2.2]
            exact radd_one rfl rfl
      rw [e1]
      simp only
      rw [ih (j + 1) _ (by omega), sumN_left]
      simp only [Nat.add_zero]
      congr 2
      rw [Int.add_assoc]
      congr 2
      exact sumN_congr _ fun i _ => by rw [show j + (i + 1) = j + 1 + i by omega]
  unfold mixedO
  rw [List.range_eq_range', key (k + 1) 0 0 (by omega)]
  simp
theorem mapO_get {α β : Type} {f : α → Option β} : ∀ {l : List α} {r : List β}, mapO f l = some r → ∀ (i : Nat) (x : α), l[i]? = some x → r[i]? = f x
  | [], _, _, i, x, hx => by simp at hx
  | a :: l, r, h, i, x, hx => by
    unfold mapO at h
    split at h
    · next b hb =>
      obtain ⟨r', h1, rfl⟩ := Option.map_eq_some_iff.mp h
      cases i with
      | zero => simp at hx; subst hx; simp [hb]
      | succ i => simp at hx ⊢; exact mapO_get h1 i x hx
    · cases h
theorem mapO_all {α β : Type} {f : α → Option β} : ∀ (l : List α), (∀ x ∈ l, ∃ y, f x = some y) → ∃ r, mapO f l = some r
  | [], _ => ⟨[], rfl⟩
  | a :: l, h => by
    obtain ⟨y, hy⟩ := h a (.head _)
    obtain ⟨r, hr⟩ := mapO_all l fun x hx => h x (.tail _ hx)
    exact ⟨y :: r, by simp [mapO, hy, hr]⟩
theorem storeR_keys {P : Int → Prop} {i : Int} {q : Rt} {D : List (Int × Rt)} (hi : P i) (hD : ∀ e ∈ D, P e.1) : ∀ e ∈ storeR i q D, P e.1 := by
  intro e he
  unfold storeR at he
  split at he
  · obtain ⟨e', h1, rfl⟩ := List.mem_map.mp he
    split
    · exact hD e' h1
    · exact hD e' h1
  · rcases List.mem_append.mp he with h | h
    · exact hD e h
    · rw [List.mem_singleton.mp h]; exact hi
theorem foldB_keys {P : Int → Prop} {e : Int} {a : Int × Rt} : ∀ (B : List (Int × Rt)) (D : List (Int × Rt)), (∀ b ∈ B, P (a.1 + b.1)) → (∀ x ∈ D, P x.1) → ∀ x ∈ B.foldl (prodB e a) D, P x.1
  | [], _, _, hD => hD
  | b :: B, D, hB, hD => foldB_keys B _ (fun x hx => hB x (.tail _ hx)) (by
    unfold prodB
    split
    · exact storeR_keys (hB b (.head _)) hD
    · exact hD)
theorem foldA_keys {P : Int → Prop} {e : Int} {B : List (Int × Rt)} : ∀ (A : List (Int × Rt)) (D : List (Int × Rt)), (∀ a ∈ A, ∀ b ∈ B, P (a.1 + b.1)) → (∀ x ∈ D, P x.1) → ∀ x ∈ A.foldl (fun D a => B.foldl (prodB e a) D) D, P x.1
  | [], _, _, hD => hD
  | a :: A, D, hA, hD => foldA_keys A _ (fun x hx => hA x (.tail _ hx)) (foldB_keys B D (hA a (.head _)) hD)
theorem foldA_len : ∀ (A B : List (Int × Rt)) (e : Int) (D : List (Int × Rt)), D.length + A.length * B.length ≤ 1000 → (A.foldl (fun D a => B.foldl (prodB e a) D) D).length ≤ D.length + A.length * B.length
  | [], _, _, _, _ => by simp
  | a :: A, B, e, D, h => by
    simp only [List.length_cons, Nat.add_mul, Nat.one_mul] at h ⊢
    obtain ⟨h1, h2⟩ := foldB B e a D (by omega)
    have := foldA_len A B e (B.foldl (prodB e a) D) (by omega)
    rw [List.foldl_cons]
    omega
noncomputable def okT (p : Int × List Rt) : Prop := -20 ≤ p.1 ∧ p.1 ≤ 20 ∧ p.2.length ≤ 10 ∧ ∀ r ∈ p.2, r.2 = 1 ∧ -10 ≤ r.1 ∧ r.1 ≤ 10
theorem okT.small {p : Int × List Rt} (h : okT p) : ∀ r ∈ p.2, r.2 = 1 ∧ small r.1 = true := fun r hr => ⟨(h.2.2.2 r hr).1, small_of (by have := (h.2.2.2 r hr).2; omega) (by have := (h.2.2.2 r hr).2; omega)⟩
theorem mul_like {p q : Int × List Rt} (hp : okT p) (hq : okT q) : ∃ s, lmulO p q = some s ∧ likeD s (prodI (rowsR p) (rowsR q) (endI p q)) (endI p q) := by
  obtain ⟨p1, p2, p3, p4⟩ := hp
  have hqs := hq.small
  obtain ⟨q1, q2, q3, q4⟩ := hq
  have he : endI p q = p.1 + q.1 + ((min p.2.length q.2.length : Nat) : Int) := by
    unfold endI; split <;> omega
  have hall : ∀ k, k < min p.2.length q.2.length → mixedO p.2 q.2 k = some (sumN (fun i => nu p.2 i * nu q.2 (k - i)) (k + 1), 1) := fun k hk => mixed_one (fun r hr => (p4 r hr).1) hqs (by omega) (by omega)
  obtain ⟨s, hs⟩ := mapO_all (f := mixedO p.2 q.2) (List.range (min p.2.length q.2.length)) fun k hk => ⟨_, hall k (List.mem_range.mp hk)⟩
  have hsl : s.length = min p.2.length q.2.length := by rw [mapO_len hs, List.length_range]
  refine ⟨(p.1 + q.1, s), by unfold lmulO smulO; rw [hs]; rfl, ⟨by omega, by omega, by simp only [hsl]; omega⟩, ?_, by simp only [hsl, he], fun t ht => ?_⟩
  · have hA : (rowsR p).length = p.2.length := rowsFrom_len _ _
    have hB : (rowsR q).length = q.2.length := rowsFrom_len _ _
    have hm : (rowsR p).length * (rowsR q).length ≤ 10 * 10 := by rw [hA, hB]; exact Nat.mul_le_mul p3 q3
    refine ⟨?_, foldA_keys (P := fun i => -400 ≤ i ∧ i ≤ 400) _ _ (fun a ha b hb => ?_) (fun x hx => by cases hx)⟩
    · have := foldA_len (rowsR p) (rowsR q) (endI p q) [] (by simp; omega)
      unfold prodI
      simp at this
      omega
    · have h1 := rowsFrom_key _ _ a ha
      have h2 := rowsFrom_key _ _ b hb
      omega
  · rw [prod_get ht]
    by_cases hlo : t < p.1 + q.1
    · rw [getR_out (.inl hlo), sumN_zero]
      intro i hi
      rw [getR_out (.inl (by omega))]; simp
    · obtain ⟨k, hk⟩ : ∃ k : Nat, t = p.1 + q.1 + k := ⟨(t - (p.1 + q.1)).toNat, by omega⟩
      have hkm : k < min p.2.length q.2.length := by omega
      subst hk
      rw [show getR (rowsR (p.1 + q.1, s)) (p.1 + q.1 + k) = (sumN (fun i => nu p.2 i * nu q.2 (k - i)) (k + 1), 1) from getR_rows (by rw [mapO_get hs k k (by simp [hkm]), hall k hkm])]
      congr 1
      rw [sumN_cut (k + 1) p.2.length (by omega) fun i h1 h2 => by rw [getR_out (.inl (by omega))]; simp]
      refine sumN_congr _ fun i hi => ?_
      have : p.1 + q.1 + (k : Int) - (p.1 + (i : Int)) = q.1 + ((k - i : Nat) : Int) := by omega
      rw [this, getR_rowsR (by omega)]
      rfl

/-! sums -/
noncomputable def totB (A B : List (Int × Rt)) (e : Int) (D : List (Int × Rt)) (i : Int) : List (Int × Rt) := if i < e then storeR i ((getR A i).1 + (getR B i).1, 1) D else D
noncomputable def totI (A B : List (Int × Rt)) (e : Int) : List (Int × Rt) := (A.map (·.1) ++ B.map (·.1)).foldl (totB A B e) []
theorem tot_keys {A B : List (Int × Rt)} {e : Int} {P : Int → Prop} : ∀ (l : List Int) (D : List (Int × Rt)), (∀ i ∈ l, P i) → (∀ x ∈ D, P x.1) → ∀ x ∈ l.foldl (totB A B e) D, P x.1
  | [], _, _, hD => hD
  | i :: l, D, hl, hD => tot_keys l _ (fun x hx => hl x (.tail _ hx)) (by
    unfold totB
    split
    · exact storeR_keys (hl i (.head _)) hD
    · exact hD)
theorem tot_len {A B : List (Int × Rt)} {e : Int} : ∀ (l : List Int) (D : List (Int × Rt)), (l.foldl (totB A B e) D).length ≤ D.length + l.length
  | [], _ => by simp
  | i :: l, D => by
    have h1 : (totB A B e D i).length ≤ D.length + 1 := by
      unfold totB; split
      · exact storeR_len
      · omega
    have := tot_len (A := A) (B := B) (e := e) l (totB A B e D i)
    rw [List.foldl_cons, List.length_cons]; omega
theorem tot_fold {A B : List (Int × Rt)} {e t : Int} (ht : t < e) : ∀ (l : List Int) (D : List (Int × Rt)), getR (l.foldl (totB A B e) D) t = if t ∈ l then ((getR A t).1 + (getR B t).1, 1) else getR D t
  | [], D => by simp
  | i :: l, D => by
    rw [List.foldl_cons, tot_fold ht l]
    by_cases h1 : t ∈ l
    · rw [if_pos h1, if_pos (.tail _ h1)]
    · rw [if_neg h1]
      by_cases h2 : t = i
      · subst h2
        rw [if_pos (.head _)]
        unfold totB
        rw [if_pos ht, getR_store, if_pos rfl]
      · rw [if_neg (fun h => by rcases List.mem_cons.mp h with q | q; exact h2 q; exact h1 q)]
        unfold totB
        split
        · rw [getR_store, if_neg h2]
        · rfl
theorem tot_get {A B : List (Int × Rt)} {e t : Int} (ht : t < e) : getR (totI A B e) t = ((getR A t).1 + (getR B t).1, 1) := by
  unfold totI
  rw [tot_fold ht]
  split
  · rfl
  · next h =>
    simp only [List.mem_append, List.mem_map, not_or, not_exists, not_and] at h
    rw [getR_none (D := A) fun e he => h.1 e he, getR_none (D := B) fun e he => h.2 e he]
    rfl
theorem mov_get {p : Int × List Rt} {low : Int} (hl : low ≤ p.1) {i : Nat} (h : i < (movI p low).length) : (movI p low)[i]? = some (getR (rowsR p) (low + i)) := by
  rw [mov_len] at h
  unfold movI
  by_cases h1 : i < (p.1 - low).toNat
  · rw [List.getElem?_append_left (by simpa using h1), List.getElem?_replicate, if_pos h1, getR_out (.inl (by omega))]
  · rw [List.getElem?_append_right (by simp; omega), List.length_replicate]
    have e : low + (i : Int) = p.1 + ((i - (p.1 - low).toNat : Nat) : Int) := by omega
    have hi : i - (p.1 - low).toNat < p.2.length := by omega
    rw [e, show getR (rowsR p) (p.1 + ((i - (p.1 - low).toNat : Nat) : Int)) = p.2[i - (p.1 - low).toNat] from getR_rows (List.getElem?_eq_getElem hi)]
    exact List.getElem?_eq_getElem hi
theorem bot_rows {p : Int × List Rt} (h : okT p) (t : Int) : (getR (rowsR p) t).2 = 1 := by
  by_cases ht : t < p.1 ∨ p.1 + p.2.length ≤ t
  · rw [getR_out ht]
  · obtain ⟨k, hk⟩ : ∃ k : Nat, t = p.1 + k := ⟨(t - p.1).toNat, by omega⟩
    subst hk
    have hi : k < p.2.length := by omega
    rw [show getR (rowsR p) (p.1 + k) = p.2[k] from getR_rows (List.getElem?_eq_getElem hi)]
    exact (h.2.2.2 _ (List.getElem_mem hi)).1
noncomputable def minE (p q : Int × List Rt) : Int := if q.1 + q.2.length < p.1 + p.2.length then q.1 + q.2.length else p.1 + p.2.length
theorem add_like {p q : Int × List Rt} (hp : okT p) (hq : okT q) : ∃ s, laddO p q = some s ∧ likeD s (totI (rowsR p) (rowsR q) (minE p q)) (minE p q) := by
  have bp := bot_rows hp
  have bq := bot_rows hq
  obtain ⟨p1, p2, p3, p4⟩ := hp
  obtain ⟨q1, q2, q3, q4⟩ := hq
  generalize hlow : (if q.1 < p.1 then q.1 else p.1) = low
  have hb : low ≤ p.1 ∧ low ≤ q.1 ∧ -20 ≤ low ∧ (low = p.1 ∨ low = q.1) := by rw [← hlow]; split <;> omega
  have lp := mov_len (p := p) (low := low)
  have lq := mov_len (p := q) (low := low)
  have hall : ∀ k, k < min (movI p low).length (movI q low).length → pairO raddO (movI p low) (movI q low) k = some ((getR (rowsR p) (low + k)).1 + (getR (rowsR q) (low + k)).1, 1) := fun k hk => by
    unfold pairO
    rw [mov_get hb.1 (by omega), mov_get hb.2.1 (by omega)]
    exact radd_one (bp _) (bq _)
  obtain ⟨s, hs⟩ := mapO_all (f := pairO raddO (movI p low) (movI q low)) (List.range (min (movI p low).length (movI q low).length)) fun k hk => ⟨_, hall k (List.mem_range.mp hk)⟩
  have hsl : s.length = min (movI p low).length (movI q low).length := by rw [mapO_len hs, List.length_range]
  have he : low + (s.length : Int) = minE p q := by unfold minE; split <;> omega
  refine ⟨(low, s), by unfold laddO saddO; rw [hlow, hs]; rfl, ⟨by show -100 ≤ low; omega, by show low ≤ 100; omega, by show s.length ≤ 100; omega⟩, ⟨?_, ?_⟩, he, fun t ht => ?_⟩
  · have := tot_len (A := rowsR p) (B := rowsR q) (e := minE p q) ((rowsR p).map (·.1) ++ (rowsR q).map (·.1)) []
    have hA : (rowsR p).length = p.2.length := rowsFrom_len _ _
    have hB : (rowsR q).length = q.2.length := rowsFrom_len _ _
    unfold totI
    simp only [List.length_append, List.length_map, List.length_nil] at this
    omega
  · refine tot_keys (P := fun i => -400 ≤ i ∧ i ≤ 400) _ _ (fun i hi => ?_) (fun x hx => by cases hx)
    rcases List.mem_append.mp hi with h | h
    · obtain ⟨a, ha, rfl⟩ := List.mem_map.mp h
      have := rowsFrom_key _ _ a ha; omega
    · obtain ⟨a, ha, rfl⟩ := List.mem_map.mp h
      have := rowsFrom_key _ _ a ha; omega
  · rw [tot_get ht]
    by_cases hlo : t < low
    · rw [getR_out (p := (low, s)) (.inl hlo), getR_out (p := p) (.inl (by omega)), getR_out (p := q) (.inl (by omega))]; rfl
    · obtain ⟨k, hk⟩ : ∃ k : Nat, t = low + k := ⟨(t - low).toNat, by omega⟩
      have hkm : k < min (movI p low).length (movI q low).length := by omega
      subst hk
      exact getR_rows (by show s[k]? = _; rw [mapO_get hs k k (List.getElem?_range hkm), hall k hkm])
theorem rows_neg : ∀ (l : Int) (r : List Rt), rowsFrom l (r.map negR) = (rowsFrom l r).map fun e => (e.1, negR e.2)
  | _, [] => rfl
  | l, q :: r => by rw [List.map_cons, rowsFrom, rowsFrom, List.map_cons, rows_neg (l + 1) r]
theorem neg_like {p : Int × List Rt} (hp : okT p) : likeD (p.1, p.2.map negR) ((rowsR p).map fun e => (e.1, (0 - e.2.1, 1))) (p.1 + p.2.length) := by
  have e : (rowsR p).map (fun e => (e.1, ((0 - e.2.1, 1) : Rt))) = rowsR (p.1, p.2.map negR) := by
    unfold rowsR
    rw [rows_neg]
    refine List.map_congr_left fun e he => ?_
    unfold negR
    rw [(hp.2.2.2 _ (mem_rows_snd _ _ e he)).1]
  obtain ⟨p1, p2, p3, p4⟩ := hp
  rw [e]
  refine ⟨⟨by show -100 ≤ p.1; omega, by show p.1 ≤ 100; omega, by simp; omega⟩, ⟨?_, fun x hx => ?_⟩, by simp, fun _ _ => rfl⟩
  · unfold rowsR
    rw [rowsFrom_len]; simp; omega
  · have := rowsFrom_key _ _ x hx
    simp at this
    omega
end Lz
set_option linter.unusedSimpArgs false
namespace Lz
open PySem PySem.W PyProof.Rows

open Classical in
noncomputable def sp_law_two_right : List PV → M PV
  | [x, y] => lauM x fun p => lauM y fun q => if okT p ∧ okT q then ret (.bool true) else stuck
  | _ => stuck
noncomputable def m_law_two_right : Sig → M (Fl × Sig) := (seqM (asg (tupM [(callM sp_law_rows [(nmM "one")]), (callM sp_law_rows [(nmM "other")])]) (unp 2 (putL [(unp 2 (putL [(put "a"), (put "first")])), (unp 2 (putL [(put "b"), (put "second")]))]))) (seqM (asg (bltM minV [(nmM "first"), (nmM "second")]) (put "end")) (seqM (adS "total" "at" ["a", "b", "end"] (ivM (biM addV (bltM listV [(nmM "a")]) (bltM listV [(nmM "b")]))) (tcM ltV (nmM "at") (nmM "end")) (nmM "at") (tupM [(biM addV (biM atV (getM (nmM "a") (nmM "at") (tupM [(cM (.int 0)), (cM (.int 1))])) (cM (.int 0))) (biM atV (getM (nmM "b") (nmM "at") (tupM [(cM (.int 0)), (cM (.int 1))])) (cM (.int 0)))), (cM (.int 1))])) (seqM (ifS (ntM (tvM (callM sp_law_alike [(callM sp_ladd [(nmM "one"), (nmM "other")]), (nmM "total"), (nmM "end")]))) (seqM (rtM (cM (.bool false))) nilM) nilM) (seqM (asg (callM sp_law_product [(nmM "one"), (nmM "other")]) (unp 2 (putL [(put "product"), (put "last")]))) (seqM (ifS (ntM (tvM (callM sp_law_alike [(callM sp_lmul [(nmM "one"), (nmM "other")]), (nmM "product"), (nmM "last")]))) (seqM (rtM (cM (.bool false))) nilM) nilM) (seqM (ifS (tcM neV (callM sp_lmoved [(nmM "one"), (biM subV (biM atV (nmM "one") (cM (.int 0))) (cM (.int 2)))]) (tupM [(biM subV (biM atV (nmM "one") (cM (.int 0))) (cM (.int 2))), (biM addV (biM mulV (lstM [(tupM [(cM (.int 0)), (cM (.int 1))])]) (cM (.int 2))) (biM atV (nmM "one") (cM (.int 1))))])) (seqM (rtM (cM (.bool false))) nilM) nilM) (seqM (rtM (callM sp_law_alike [(callM sp_lneg [(nmM "one")]), (dictC "at" ["a"] (ivM (nmM "a")) (fun _ => ret true) (nmM "at") (tupM [(biM subV (cM (.int 0)) (biM atV (biM atV (nmM "a") (nmM "at")) (cM (.int 0)))), (cM (.int 1))])), (nmM "first")])) nilM))))))))
set_option maxHeartbeats 4000000 in
theorem v_law_two_right {wd : Wd} (C : Wld wd) (h_lmoved : Fn wd 2 "lmoved" sp_lmoved) (h_ladd : Fn wd 6 "ladd" sp_ladd) (h_lneg : Fn wd 3 "lneg" sp_lneg) (h_lmul : Fn wd 7 "lmul" sp_lmul) (h_law_rows : Fn wd 2 "_law_rows" sp_law_rows) (h_law_alike : Fn wd 3 "_law_alike" sp_law_alike) (h_law_product : Fn wd 3 "_law_product" sp_law_product) : Sv wd (sco 37) 7 (execs (bd 37)) (m_law_two_right) := (Sv.cons (Sv.assign (X.tup (X.rc (X.call (h_law_rows) (by decide) (by rfl) (X.rc X.nm X.rn)) (X.rc (X.call (h_law_rows) (by decide) (by rfl) (X.rc X.nm X.rn)) X.rn))) (A.two (A.two (Av.name (by first | exact .inl rfl | exact .inr rfl)) (Av.name (by first | exact .inl rfl | exact .inr rfl))) (A.two (Av.name (by first | exact .inl rfl | exact .inr rfl)) (Av.name (by first | exact .inl rfl | exact .inr rfl)))) (hss := by intro env h; have hb : env.blockKind = .function := (by unfold Env.blockKind; rw [h]; rfl); unfold swappedStores Env.kindOf; rw [hb, h]; rfl)) (Sv.cons (Sv.assign (X.blt C.min (.inl ⟨_, rfl⟩) opN_min (by rfl) (X.rc X.nm (X.rc X.nm X.rn))) (Av.name (by first | exact .inl rfl | exact .inr rfl))) (Sv.cons (S.ad ["a", "b", "end"] (by constructor <;> decide) (I.val (X.bin (X.blt C.list (.inr ⟨_, rfl⟩) opN_list (by rfl) (X.rc X.nm X.rn)) (X.blt C.list (.inr ⟨_, rfl⟩) opN_list (by rfl) (X.rc X.nm X.rn)) op_add)) (TestsV.one (T.cmp X.nm X.nm op_lt)) X.nm (X.tup (X.rc (X.bin (X.at (X.get X.nm X.nm (X.tup (X.rc X.int (X.rc X.int X.rn)))) X.int) (X.at (X.get X.nm X.nm (X.tup (X.rc X.int (X.rc X.int X.rn)))) X.int) op_add) (X.rc X.int X.rn))) (by first | exact .inl rfl | exact .inr rfl) (by intro env h; have hb : env.blockKind = .function := (by unfold Env.blockKind; rw [h]; rfl); unfold swapsWith Env.kindOf; rw [hb, h]; rfl)) (Sv.cons (S.iff (T.not (T.val (X.call (h_law_alike) (by decide) (by rfl) (X.rc (X.call (h_ladd) (by decide) (by rfl) (X.rc X.nm (X.rc X.nm X.rn))) (X.rc X.nm (X.rc X.nm X.rn)))))) (Sv.cons (S.rt X.bool) S.nil) S.nil) (Sv.cons (Sv.assign (X.call (h_law_product) (by decide) (by rfl) (X.rc X.nm (X.rc X.nm X.rn))) (A.two (Av.name (by first | exact .inl rfl | exact .inr rfl)) (Av.name (by first | exact .inl rfl | exact .inr rfl)))) (Sv.cons (S.iff (T.not (T.val (X.call (h_law_alike) (by decide) (by rfl) (X.rc (X.call (h_lmul) (by decide) (by rfl) (X.rc X.nm (X.rc X.nm X.rn))) (X.rc X.nm (X.rc X.nm X.rn)))))) (Sv.cons (S.rt X.bool) S.nil) S.nil) (Sv.cons (S.iff (T.cmp (X.call (h_lmoved) (by decide) (by rfl) (X.rc X.nm (X.rc (X.bin (X.at X.nm X.int) X.int op_sub) X.rn))) (X.tup (X.rc (X.bin (X.at X.nm X.int) X.int op_sub) (X.rc (X.bin (X.bin (X.lst (X.rc (X.tup (X.rc X.int (X.rc X.int X.rn))) X.rn)) X.int op_mul) (X.at X.nm X.int) op_add) X.rn))) op_ne) (Sv.cons (S.rt X.bool) S.nil) S.nil) (Sv.cons (S.rt (X.call (h_law_alike) (by decide) (by rfl) (X.rc (X.call (h_lneg) (by decide) (by rfl) (X.rc X.nm X.rn)) (X.rc (Ev.dictComp ["a"] (by constructor <;> decide) (I.val X.nm) TestsV.nil X.nm (X.tup (X.rc (X.bin X.int (X.at (X.at X.nm X.nm) X.int) op_sub) (X.rc X.int X.rn)))) (X.rc X.nm X.rn))))) S.nil))))))))
theorem f_law_two_right {wd : Wd} (C : Wld wd) (h_lmoved : Fn wd 2 "lmoved" sp_lmoved) (h_ladd : Fn wd 6 "ladd" sp_ladd) (h_lneg : Fn wd 3 "lneg" sp_lneg) (h_lmul : Fn wd 7 "lmul" sp_lmul) (h_law_rows : Fn wd 2 "_law_rows" sp_law_rows) (h_law_alike : Fn wd 3 "_law_alike" sp_law_alike) (h_law_product : Fn wd 3 "_law_product" sp_law_product) : Fn wd 8 "_law_two_right" (runF ["one", "other"] (m_law_two_right)) := Fn.mk C.at37 (v_law_two_right C h_lmoved h_ladd h_lneg h_lmul h_law_rows h_law_alike h_law_product) (fun _ _ _ => len2 fun a b => rfl) (by decide) (by decide)

theorem alike_of {p : Int × List Rt} {D : List (Int × Rt)} {e : Int} (h : likeD p D e) : sp_law_alike [pvL p, pvD D, .int e] = ret (.bool true) := by
  unfold sp_law_alike; simp only [lauM_pv, dicM_pv]; rw [if_pos h]
theorem tot_comp {A B : List (Int × Rt)} {e : Int} : ∀ (l : List Int) (D : List (Int × Rt)), compF "at" [("a", pvD A), ("b", pvD B), ("end", .int e)] (tcM ltV (nmM "at") (nmM "end")) (dstep (nmM "at") (tupM [(biM addV (biM atV (getM (nmM "a") (nmM "at") (tupM [(cM (.int 0)), (cM (.int 1))])) (cM (.int 0))) (biM atV (getM (nmM "b") (nmM "at") (tupM [(cM (.int 0)), (cM (.int 1))])) (cM (.int 0)))), (cM (.int 1))])) (l.map .int) (encD D) =
    ret (encD (l.foldl (totB A B e) D))
  | [], D => rfl
  | i :: l, D => by
    rw [List.map_cons, compF, List.foldl_cons]
    have ih := tot_comp (A := A) (B := B) (e := e) l (totB A B e D i)
    unfold totB at ih ⊢
    by_cases h : i < e
    · rw [if_pos h] at ih ⊢
      rw [← ih]
      simp (decide := true) only [runF, seqM, asg, rtM, nilM, ifS, raS, stS, nmM, cM, unM, biM, tupM, lstM, callM, bltM, ifM, orM, getM, tcM, tvM, ntM, alM, anM, ivM, irM, rowM, allT, anyT, toB_b, unp_t, unp_r, unp_l, putL, List.reverse_cons, List.reverse_nil, List.nil_append, List.cons_append, List.zip_cons_cons, List.zip_nil_left, List.zip_nil_right, List.length_cons, List.length_nil, lk_hit, lk_miss, sr_nil, sr_hit, sr_miss, st_none, al_none, al_some, put_none, put_some, bnd_ret, bnd_fail, bnd_stuck, bnd_bnd, lift_some', lift_none', noErr_ret, few_ok, sub_c, sub_d, sub_n, if_true, ite_true, dite_true, Bool.false_eq_true, if_false, bnd_id, at_t0, at_t1, at_r0, at_r1, at_l0, at_l1, add_i, sub_i, neg_i, lt_i, le_i, gt_i, ge_i, eq_i, ne_i, eq_r, ne_r, eq_s, ne_s, eq_l, ne_l, abs_i, min_i, ite_false, pvR_mk, pvL_mk, setR_lookup, st_some, flat_r, mu_isNone, Option.isNone_none, Option.isNone_some, Bool.not_true, Bool.not_false, decide_true, decide_false, Bool.and_true, Bool.true_and, reduceCtorEq, dstep, h, dicV_d, get_d, storeD_enc]
    · rw [if_neg h] at ih ⊢
      rw [← ih]
      simp (decide := true) only [runF, seqM, asg, rtM, nilM, ifS, raS, stS, nmM, cM, unM, biM, tupM, lstM, callM, bltM, ifM, orM, getM, tcM, tvM, ntM, alM, anM, ivM, irM, rowM, allT, anyT, toB_b, unp_t, unp_r, unp_l, putL, List.reverse_cons, List.reverse_nil, List.nil_append, List.cons_append, List.zip_cons_cons, List.zip_nil_left, List.zip_nil_right, List.length_cons, List.length_nil, lk_hit, lk_miss, sr_nil, sr_hit, sr_miss, st_none, al_none, al_some, put_none, put_some, bnd_ret, bnd_fail, bnd_stuck, bnd_bnd, lift_some', lift_none', noErr_ret, few_ok, sub_c, sub_d, sub_n, if_true, ite_true, dite_true, Bool.false_eq_true, if_false, bnd_id, at_t0, at_t1, at_r0, at_r1, at_l0, at_l1, add_i, sub_i, neg_i, lt_i, le_i, gt_i, ge_i, eq_i, ne_i, eq_r, ne_r, eq_s, ne_s, eq_l, ne_l, abs_i, min_i, ite_false, pvR_mk, pvL_mk, setR_lookup, st_some, flat_r, mu_isNone, Option.isNone_none, Option.isNone_some, Bool.not_true, Bool.not_false, decide_true, decide_false, Bool.and_true, Bool.true_and, reduceCtorEq, h]
theorem neg_comp {A : List (Int × Rt)} (hA : ∀ a ∈ A, A.find? (fun x => x.1 = a.1) = some a) : ∀ (l : Int) (r : List Rt) (D : List (Int × Rt)), (∀ x ∈ rowsFrom l r, x ∈ A) → (∀ x ∈ D, x.1 < l) → compF "at" [("a", pvD A)] (fun _ => ret true) (dstep (nmM "at") (tupM [(biM subV (cM (.int 0)) (biM atV (biM atV (nmM "a") (nmM "at")) (cM (.int 0)))), (cM (.int 1))])) ((rowsFrom l r).map fun e => .int e.1) (encD D) =
    ret (encD (D ++ (rowsFrom l r).map fun e => (e.1, (0 - e.2.1, 1))))
  | _, [], D, _, _ => by simp [rowsFrom, compF]
  | l, q :: r, D, hm, hD => by
    rw [rowsFrom, List.map_cons, compF]
    have ih := neg_comp hA (l + 1) r (D ++ [(l, (0 - q.1, 1))]) (fun x hx => hm x (.tail _ hx)) (fun x hx => by
      rcases List.mem_append.mp hx with h | h
      · have := hD x h; omega
      · rw [List.mem_singleton.mp h]; simp; omega)
    have hat := at_d (hA (l, q) (hm _ (.head _)))
    rw [List.map_cons, show ∀ X : List (Int × Rt), D ++ (((l, q) : Int × Rt).1, ((0 - ((l, q) : Int × Rt).2.1, 1) : Rt)) :: X = D ++ [(l, (0 - q.1, 1))] ++ X from fun X => by simp, ← ih]
    simp (decide := true) only [runF, seqM, asg, rtM, nilM, ifS, raS, stS, nmM, cM, unM, biM, tupM, lstM, callM, bltM, ifM, orM, getM, tcM, tvM, ntM, alM, anM, ivM, irM, rowM, allT, anyT, toB_b, unp_t, unp_r, unp_l, putL, List.reverse_cons, List.reverse_nil, List.nil_append, List.cons_append, List.zip_cons_cons, List.zip_nil_left, List.zip_nil_right, List.length_cons, List.length_nil, lk_hit, lk_miss, sr_nil, sr_hit, sr_miss, st_none, al_none, al_some, put_none, put_some, bnd_ret, bnd_fail, bnd_stuck, bnd_bnd, lift_some', lift_none', noErr_ret, few_ok, sub_c, sub_d, sub_n, if_true, ite_true, dite_true, Bool.false_eq_true, if_false, bnd_id, at_t0, at_t1, at_r0, at_r1, at_l0, at_l1, add_i, sub_i, neg_i, lt_i, le_i, gt_i, ge_i, eq_i, ne_i, eq_r, ne_r, eq_s, ne_s, eq_l, ne_l, abs_i, min_i, ite_false, pvR_mk, pvL_mk, setR_lookup, st_some, flat_r, mu_isNone, Option.isNone_none, Option.isNone_some, Bool.not_true, Bool.not_false, decide_true, decide_false, Bool.and_true, Bool.true_and, reduceCtorEq, dstep, hat]
    rw [storeD_new fun x hx => Int.ne_of_lt (hD x hx)]
theorem u_two {p q : Int × List Rt} (hp : okT p) (hq : okT q) : runF ["one", "other"] m_law_two_right [pvL p, pvL q] = ret (.bool true) := by
  obtain ⟨s1, hs1, like1⟩ := add_like hp hq
  obtain ⟨s2, hs2, like2⟩ := mul_like hp hq
  have like3 := neg_like hp
  have hA : (rowsR p).length = p.2.length := rowsFrom_len _ _
  have hB : (rowsR q).length = q.2.length := rowsFrom_len _ _
  have hqs := hq.small
  obtain ⟨p1, p2, p3, p4⟩ := hp
  obtain ⟨q1, q2, q3, q4⟩ := hq
  have okp : okP p := ⟨by omega, by omega, by omega⟩
  have okq : okP q := ⟨by omega, by omega, by omega⟩
  have ok2 : okL2 p q := ⟨by omega, by omega, by omega, by omega, by omega, by omega⟩
  have hrp := sp_rows_of okp
  have hrq := sp_rows_of okq
  have hprod : sp_law_product [pvL p, pvL q] = ret (.tup [pvD (prodI (rowsR p) (rowsR q) (endI p q)), .int (endI p q)]) := by
    unfold sp_law_product; simp only [lauM_pv]; rw [if_pos ⟨okp, okq, by omega, by omega, fun b hb => (hqs b hb).2⟩]
  have hadd : sp_ladd [pvL p, pvL q] = ret (pvL s1) := by
    unfold sp_ladd spLL; simp only [lauM_pv]; rw [if_pos ok2, hs1]; rfl
  have hmul : sp_lmul [pvL p, pvL q] = ret (pvL s2) := by
    unfold sp_lmul spLL; simp only [lauM_pv]; rw [if_pos ok2, hs2]; rfl
  have hneg : sp_lneg [pvL p] = ret (pvL (p.1, p.2.map negR)) := by
    unfold sp_lneg spL; simp only [lauM_pv]; rw [if_pos (by omega)]
  have hmov := sp_lmoved_of (p := p) (low := p.1 - 2) (by omega) (by omega) (by omega)
  have hmv : movI p (p.1 - 2) = List.replicate 2 (0, 1) ++ p.2 := by unfold movI; rw [show (p.1 - (p.1 - 2)).toNat = 2 by omega]
  have htot : adS "total" "at" ["a", "b", "end"] (ivM (biM addV (bltM listV [(nmM "a")]) (bltM listV [(nmM "b")]))) (tcM ltV (nmM "at") (nmM "end")) (nmM "at") (tupM [(biM addV (biM atV (getM (nmM "a") (nmM "at") (tupM [(cM (.int 0)), (cM (.int 1))])) (cM (.int 0))) (biM atV (getM (nmM "b") (nmM "at") (tupM [(cM (.int 0)), (cM (.int 1))])) (cM (.int 0)))), (cM (.int 1))])
      ⟨[("one", pvL p), ("other", pvL q), ("a", pvD (rowsR p)), ("first", .int (p.1 + p.2.length)), ("b", pvD (rowsR q)), ("second", .int (q.1 + q.2.length)), ("end", .int (minE p q))], none⟩ =
      ret (.next, ⟨[("one", pvL p), ("other", pvL q), ("a", pvD (rowsR p)), ("first", .int (p.1 + p.2.length)), ("b", pvD (rowsR q)), ("second", .int (q.1 + q.2.length)), ("end", .int (minE p q)), ("total", pvD (totI (rowsR p) (rowsR q) (minE p q)))], none⟩) := by
    have hc := tot_comp (A := rowsR p) (B := rowsR q) (e := minE p q) ((rowsR p).map (·.1) ++ (rowsR q).map (·.1)) []
    have hmap : ((rowsR p).map fun e => PV.int e.1) ++ ((rowsR q).map fun e => PV.int e.1) = ((rowsR p).map (·.1) ++ (rowsR q).map (·.1)).map .int := by simp [List.map_append, Function.comp_def]
    unfold adS dictC
    simp (decide := true) only [runF, seqM, asg, rtM, nilM, ifS, raS, stS, nmM, cM, unM, biM, tupM, lstM, callM, bltM, ifM, orM, getM, tcM, tvM, ntM, alM, anM, ivM, irM, rowM, allT, anyT, toB_b, unp_t, unp_r, unp_l, putL, List.reverse_cons, List.reverse_nil, List.nil_append, List.cons_append, List.zip_cons_cons, List.zip_nil_left, List.zip_nil_right, List.length_cons, List.length_nil, lk_hit, lk_miss, sr_nil, sr_hit, sr_miss, st_none, al_none, al_some, put_none, put_some, bnd_ret, bnd_fail, bnd_stuck, bnd_bnd, lift_some', lift_none', noErr_ret, few_ok, sub_c, sub_d, sub_n, if_true, ite_true, dite_true, Bool.false_eq_true, if_false, bnd_id, at_t0, at_t1, at_r0, at_r1, at_l0, at_l1, add_i, sub_i, neg_i, lt_i, le_i, gt_i, ge_i, eq_i, ne_i, eq_r, ne_r, eq_s, ne_s, eq_l, ne_l, abs_i, min_i, ite_false, pvR_mk, pvL_mk, setR_lookup, st_some, flat_r, mu_isNone, Option.isNone_none, Option.isNone_some, Bool.not_true, Bool.not_false, decide_true, decide_false, Bool.and_true, Bool.true_and, reduceCtorEq, list_d (show (rowsR p).length ≤ 1000 by omega), list_d (show (rowsR q).length ≤ 1000 by omega)]
    rw [add_l (by simp; omega)]
    simp (decide := true) only [runF, seqM, asg, rtM, nilM, ifS, raS, stS, nmM, cM, unM, biM, tupM, lstM, callM, bltM, ifM, orM, getM, tcM, tvM, ntM, alM, anM, ivM, irM, rowM, allT, anyT, toB_b, unp_t, unp_r, unp_l, putL, List.reverse_cons, List.reverse_nil, List.nil_append, List.cons_append, List.zip_cons_cons, List.zip_nil_left, List.zip_nil_right, List.length_cons, List.length_nil, lk_hit, lk_miss, sr_nil, sr_hit, sr_miss, st_none, al_none, al_some, put_none, put_some, bnd_ret, bnd_fail, bnd_stuck, bnd_bnd, lift_some', lift_none', noErr_ret, few_ok, sub_c, sub_d, sub_n, if_true, ite_true, dite_true, Bool.false_eq_true, if_false, bnd_id, at_t0, at_t1, at_r0, at_r1, at_l0, at_l1, add_i, sub_i, neg_i, lt_i, le_i, gt_i, ge_i, eq_i, ne_i, eq_r, ne_r, eq_s, ne_s, eq_l, ne_l, abs_i, min_i, ite_false, pvR_mk, pvL_mk, setR_lookup, st_some, flat_r, mu_isNone, Option.isNone_none, Option.isNone_some, Bool.not_true, Bool.not_false, decide_true, decide_false, Bool.and_true, Bool.true_and, reduceCtorEq]
    rw [hmap, show itemsV (.lst (((rowsR p).map (·.1) ++ (rowsR q).map (·.1)).map .int)) = some (((rowsR p).map (·.1) ++ (rowsR q).map (·.1)).map .int) from by unfold itemsV; dsimp only; rw [if_pos (by simp; omega)]]
    simp (decide := true) only [noErr_ret, bnd_ret, lift_some']
    rw [show encD [] = [] from rfl] at hc
    rw [hc]
    simp (decide := true) only [runF, seqM, asg, rtM, nilM, ifS, raS, stS, nmM, cM, unM, biM, tupM, lstM, callM, bltM, ifM, orM, getM, tcM, tvM, ntM, alM, anM, ivM, irM, rowM, allT, anyT, toB_b, unp_t, unp_r, unp_l, putL, List.reverse_cons, List.reverse_nil, List.nil_append, List.cons_append, List.zip_cons_cons, List.zip_nil_left, List.zip_nil_right, List.length_cons, List.length_nil, lk_hit, lk_miss, sr_nil, sr_hit, sr_miss, st_none, al_none, al_some, put_none, put_some, bnd_ret, bnd_fail, bnd_stuck, bnd_bnd, lift_some', lift_none', noErr_ret, few_ok, sub_c, sub_d, sub_n, if_true, ite_true, dite_true, Bool.false_eq_true, if_false, bnd_id, at_t0, at_t1, at_r0, at_r1, at_l0, at_l1, add_i, sub_i, neg_i, lt_i, le_i, gt_i, ge_i, eq_i, ne_i, eq_r, ne_r, eq_s, ne_s, eq_l, ne_l, abs_i, min_i, ite_false, pvR_mk, pvL_mk, setR_lookup, st_some, flat_r, mu_isNone, Option.isNone_none, Option.isNone_some, Bool.not_true, Bool.not_false, decide_true, decide_false, Bool.and_true, Bool.true_and, reduceCtorEq]
    rfl
  have hng : dictC "at" ["a"] (ivM (nmM "a")) (fun _ => ret true) (nmM "at") (tupM [(biM subV (cM (.int 0)) (biM atV (biM atV (nmM "a") (nmM "at")) (cM (.int 0)))), (cM (.int 1))])
      [("one", pvL p), ("other", pvL q), ("a", pvD (rowsR p)), ("first", .int (p.1 + p.2.length)), ("b", pvD (rowsR q)), ("second", .int (q.1 + q.2.length)), ("end", .int (minE p q)), ("total", pvD (totI (rowsR p) (rowsR q) (minE p q))), ("product", pvD (prodI (rowsR p) (rowsR q) (endI p q))), ("last", .int (endI p q))] =
      ret (pvD ((rowsR p).map fun e => (e.1, (0 - e.2.1, 1)))) := by
    have hc := neg_comp (A := rowsR p) (fun a ha => rows_mem_find _ _ a ha) p.1 p.2 [] (fun x hx => hx) (fun x hx => by cases hx)
    unfold dictC
    simp (decide := true) only [runF, seqM, asg, rtM, nilM, ifS, raS, stS, nmM, cM, unM, biM, tupM, lstM, callM, bltM, ifM, orM, getM, tcM, tvM, ntM, alM, anM, ivM, irM, rowM, allT, anyT, toB_b, unp_t, unp_r, unp_l, putL, List.reverse_cons, List.reverse_nil, List.nil_append, List.cons_append, List.zip_cons_cons, List.zip_nil_left, List.zip_nil_right, List.length_cons, List.length_nil, lk_hit, lk_miss, sr_nil, sr_hit, sr_miss, st_none, al_none, al_some, put_none, put_some, bnd_ret, bnd_fail, bnd_stuck, bnd_bnd, lift_some', lift_none', noErr_ret, few_ok, sub_c, sub_d, sub_n, if_true, ite_true, dite_true, Bool.false_eq_true, if_false, bnd_id, at_t0, at_t1, at_r0, at_r1, at_l0, at_l1, add_i, sub_i, neg_i, lt_i, le_i, gt_i, ge_i, eq_i, ne_i, eq_r, ne_r, eq_s, ne_s, eq_l, ne_l, abs_i, min_i, ite_false, pvR_mk, pvL_mk, setR_lookup, st_some, flat_r, mu_isNone, Option.isNone_none, Option.isNone_some, Bool.not_true, Bool.not_false, decide_true, decide_false, Bool.and_true, Bool.true_and, reduceCtorEq, items_d (show (rowsR p).length ≤ 1000 by omega)]
    rw [show encD [] = [] from rfl] at hc
    rw [show rowsFrom p.1 p.2 = rowsR p from rfl] at hc
    rw [hc]
    simp (decide := true) only [runF, seqM, asg, rtM, nilM, ifS, raS, stS, nmM, cM, unM, biM, tupM, lstM, callM, bltM, ifM, orM, getM, tcM, tvM, ntM, alM, anM, ivM, irM, rowM, allT, anyT, toB_b, unp_t, unp_r, unp_l, putL, List.reverse_cons, List.reverse_nil, List.nil_append, List.cons_append, List.zip_cons_cons, List.zip_nil_left, List.zip_nil_right, List.length_cons, List.length_nil, lk_hit, lk_miss, sr_nil, sr_hit, sr_miss, st_none, al_none, al_some, put_none, put_some, bnd_ret, bnd_fail, bnd_stuck, bnd_bnd, lift_some', lift_none', noErr_ret, few_ok, sub_c, sub_d, sub_n, if_true, ite_true, dite_true, Bool.false_eq_true, if_false, bnd_id, at_t0, at_t1, at_r0, at_r1, at_l0, at_l1, add_i, sub_i, neg_i, lt_i, le_i, gt_i, ge_i, eq_i, ne_i, eq_r, ne_r, eq_s, ne_s, eq_l, ne_l, abs_i, min_i, ite_false, pvR_mk, pvL_mk, setR_lookup, st_some, flat_r, mu_isNone, Option.isNone_none, Option.isNone_some, Bool.not_true, Bool.not_false, decide_true, decide_false, Bool.and_true, Bool.true_and, reduceCtorEq]
    rfl
  simp (decide := true) only [m_law_two_right, runF, seqM, asg, rtM, nilM, ifS, raS, stS, nmM, cM, unM, biM, tupM, lstM, callM, bltM, ifM, orM, getM, tcM, tvM, ntM, alM, anM, ivM, irM, rowM, allT, anyT, toB_b, unp_t, unp_r, unp_l, putL, List.reverse_cons, List.reverse_nil, List.nil_append, List.cons_append, List.zip_cons_cons, List.zip_nil_left, List.zip_nil_right, List.length_cons, List.length_nil, lk_hit, lk_miss, sr_nil, sr_hit, sr_miss, st_none, al_none, al_some, put_none, put_some, bnd_ret, bnd_fail, bnd_stuck, bnd_bnd, lift_some', lift_none', noErr_ret, few_ok, sub_c, sub_d, sub_n, if_true, ite_true, dite_true, Bool.false_eq_true, if_false, bnd_id, at_t0, at_t1, at_r0, at_r1, at_l0, at_l1, add_i, sub_i, neg_i, lt_i, le_i, gt_i, ge_i, eq_i, ne_i, eq_r, ne_r, eq_s, ne_s, eq_l, ne_l, abs_i, min_i, ite_false, pvR_mk, pvL_mk, setR_lookup, st_some, flat_r, mu_isNone, Option.isNone_none, Option.isNone_some, Bool.not_true, Bool.not_false, decide_true, decide_false, Bool.and_true, Bool.true_and, reduceCtorEq, hrp, hrq]
  rw [show (if q.1 + (q.2.length : Int) < p.1 + (p.2.length : Int) then q.1 + (q.2.length : Int) else p.1 + (p.2.length : Int)) = minE p q from rfl]
  simp (decide := true) only [htot, runF, seqM, asg, rtM, nilM, ifS, raS, stS, nmM, cM, unM, biM, tupM, lstM, callM, bltM, ifM, orM, getM, tcM, tvM, ntM, alM, anM, ivM, irM, rowM, allT, anyT, toB_b, unp_t, unp_r, unp_l, putL, List.reverse_cons, List.reverse_nil, List.nil_append, List.cons_append, List.zip_cons_cons, List.zip_nil_left, List.zip_nil_right, List.length_cons, List.length_nil, lk_hit, lk_miss, sr_nil, sr_hit, sr_miss, st_none, al_none, al_some, put_none, put_some, bnd_ret, bnd_fail, bnd_stuck, bnd_bnd, lift_some', lift_none', noErr_ret, few_ok, sub_c, sub_d, sub_n, if_true, ite_true, dite_true, Bool.false_eq_true, if_false, bnd_id, at_t0, at_t1, at_r0, at_r1, at_l0, at_l1, add_i, sub_i, neg_i, lt_i, le_i, gt_i, ge_i, eq_i, ne_i, eq_r, ne_r, eq_s, ne_s, eq_l, ne_l, abs_i, min_i, ite_false, pvR_mk, pvL_mk, setR_lookup, st_some, flat_r, mu_isNone, Option.isNone_none, Option.isNone_some, Bool.not_true, Bool.not_false, decide_true, decide_false, Bool.and_true, Bool.true_and, reduceCtorEq, hadd, alike_of like1, hprod, hmul, alike_of like2, hmov, hmv, pvS_one, rep_s (show (2 : Int) ≤ 1000 by decide) (show (-1000 : Int) ≤ 2 by decide)]
  rw [add_s (by simp; omega)]
  simp (decide := true) only [runF, seqM, asg, rtM, nilM, ifS, raS, stS, nmM, cM, unM, biM, tupM, lstM, callM, bltM, ifM, orM, getM, tcM, tvM, ntM, alM, anM, ivM, irM, rowM, allT, anyT, toB_b, unp_t, unp_r, unp_l, putL, List.reverse_cons, List.reverse_nil, List.nil_append, List.cons_append, List.zip_cons_cons, List.zip_nil_left, List.zip_nil_right, List.length_cons, List.length_nil, lk_hit, lk_miss, sr_nil, sr_hit, sr_miss, st_none, al_none, al_some, put_none, put_some, bnd_ret, bnd_fail, bnd_stuck, bnd_bnd, lift_some', lift_none', noErr_ret, few_ok, sub_c, sub_d, sub_n, if_true, ite_true, dite_true, Bool.false_eq_true, if_false, bnd_id, at_t0, at_t1, at_r0, at_r1, at_l0, at_l1, add_i, sub_i, neg_i, lt_i, le_i, gt_i, ge_i, eq_i, ne_i, eq_r, ne_r, eq_s, ne_s, eq_l, ne_l, abs_i, min_i, ite_false, pvR_mk, pvL_mk, setR_lookup, st_some, flat_r, mu_isNone, Option.isNone_none, Option.isNone_some, Bool.not_true, Bool.not_false, decide_true, decide_false, Bool.and_true, Bool.true_and, reduceCtorEq, hneg, hng, alike_of like3, show Int.toNat 2 = 2 from rfl]
theorem k_law_two_right {wd : Wd} (C : Wld wd) : Fn wd 8 "_law_two_right" sp_law_two_right := (f_law_two_right C (k_lmoved C) (k_ladd C) (k_lneg C) (k_lmul C) (k_law_rows C) (k_law_alike C) (k_law_product C)).sub fun ds n r n' e => by
  unfold sp_law_two_right at e
  split at e
  · obtain ⟨p, rfl, e1⟩ := lauM_some e
    obtain ⟨q, rfl, e2⟩ := lauM_some e1
    split at e2
    case isFalse => cases e2
    next hg => rw [u_two hg.1 hg.2]; exact e2
  · cases e
end Lz
set_option linter.unusedSimpArgs false
namespace Lz
open PySem PySem.W PyProof.Rows

/-! what is found by going through all drawn series -/
noncomputable def serN : Nat → List (List Rt)
  | 0 => [[]]
  | n + 1 => (serN n).flatMap fun s => ([0, 1, -1, 2, 3] : List Int).map fun c => (c, 1) :: s
noncomputable def okC (a : List Rt) : Prop := ∀ r ∈ a, r.2 = 1 ∧ (r.1 = 0 ∨ r.1 = 1 ∨ r.1 = -1 ∨ r.1 = 2 ∨ r.1 = 3)
theorem mem_ser : ∀ (a : List Rt), okC a → a ∈ serN a.length
  | [], _ => List.mem_singleton.mpr rfl
  | r :: a, h => by
    have ih := mem_ser a fun x hx => h x (.tail _ hx)
    obtain ⟨h1, h2⟩ := h r (.head _)
    obtain ⟨c, b⟩ := r
    simp only at h1 h2
    subst h1
    rw [List.length_cons, serN]
    refine List.mem_flatMap.mpr ⟨a, ih, ?_⟩
    rcases h2 with rfl | rfl | rfl | rfl | rfl <;> simp
noncomputable def one1 (s : List Rt) : List Rt := cutI [(1, 1)] s.length
noncomputable def chkS (s : List Rt) : Bool := match smulO s s with
  | some s2 => (match smulO s2 s, smulO s2 s2 with
    | some s3, some _ => smulO (one1 s) s == some s && (smulO (one1 s) s2 == some s2 && smulO s s2 == some s3)
    | _, _ => false)
  | none => false
noncomputable def chkP (t : List Rt) : Bool := t[0]? == some (0, 1) || (chkS t && (match sinvO t with
  | some s => s[0]? != some (0, 1) && chkS s
  | none => false))
theorem all_P1 : (serN 1).all chkP = true := by decide +kernel
theorem all_P2 : (serN 2).all chkP = true := by decide +kernel
theorem all_P3 : (serN 3).all chkP = true := by decide +kernel
theorem P4_1 : (serN 3).all (fun s => chkP ((1, 1) :: s)) = true := by decide +kernel
theorem P4_m : (serN 3).all (fun s => chkP ((-1, 1) :: s)) = true := by decide +kernel
theorem P4_2 : (serN 3).all (fun s => chkP ((2, 1) :: s)) = true := by decide +kernel
theorem P4_3 : (serN 3).all (fun s => chkP ((3, 1) :: s)) = true := by decide +kernel
theorem all_P4 : (serN 4).all chkP = true := by
  rw [show serN 4 = (serN 3).flatMap fun s => ([0, 1, -1, 2, 3] : List Int).map fun c => (c, 1) :: s from rfl]
  refine List.all_eq_true.mpr fun t ht => ?_
  obtain ⟨s, hs, hc⟩ := List.mem_flatMap.mp ht
  simp only [List.map_cons, List.map_nil, List.mem_cons, List.not_mem_nil, or_false] at hc
  rcases hc with rfl | rfl | rfl | rfl | rfl
  · rfl
  · exact List.all_eq_true.mp P4_1 s hs
  · exact List.all_eq_true.mp P4_m s hs
  · exact List.all_eq_true.mp P4_2 s hs
  · exact List.all_eq_true.mp P4_3 s hs

noncomputable def lz : List Rt → Nat
  | [] => 0
  | x :: r => if x = (0, 1) then lz r + 1 else 0
theorem trim_lz : ∀ (low : Int) (rest : List Rt), trimI low rest = (low + lz rest, rest.drop (lz rest))
  | low, [] => by simp [trimI, lz]
  | low, x :: r => by
    unfold trimI lz
    split
    · rw [trim_lz (low + 1) r]
      refine Prod.ext ?_ ?_
      · show low + 1 + (lz r : Int) = low + ((lz r + 1 : Nat) : Int); omega
      · simp
    · simp
theorem lz_le : ∀ rest : List Rt, lz rest ≤ rest.length
  | [] => Nat.le_refl _
  | x :: r => by
    unfold lz
    have := lz_le r
    split <;> simp <;> omega
theorem lz_head : ∀ {rest : List Rt}, (rest.drop (lz rest))[0]? ≠ some (0, 1)
  | [] => by simp
  | x :: r => by
    unfold lz
    split
    · rw [List.drop_succ_cons]; exact lz_head
    · next h => simpa using h
noncomputable def chkI (rest : List Rt) : Bool := if lz rest = rest.length then true else match sinvO (rest.drop (lz rest)) with
  | some s => (match smulO s rest with
    | some u => if 2 * lz rest < rest.length then trimI (-(lz rest : Int)) u == (0, (1, 1) :: List.replicate (rest.length - 2 * lz rest - 1) (0, 1)) else true
    | none => false)
  | none => false
theorem all_I1 : (serN 1).all chkI = true := by decide +kernel
theorem all_I2 : (serN 2).all chkI = true := by decide +kernel
theorem all_I3 : (serN 3).all chkI = true := by decide +kernel
theorem all_I4 : (serN 4).all chkI = true := by decide +kernel
theorem okC_drop {a : List Rt} (h : okC a) (n : Nat) : okC (a.drop n) := fun r hr => h r (List.mem_of_mem_drop hr)
theorem chk_of {f : List Rt → Bool} (h1 : (serN 1).all f = true) (h2 : (serN 2).all f = true) (h3 : (serN 3).all f = true) (h4 : (serN 4).all f = true) {a : List Rt} (h : okC a) (ha : 1 ≤ a.length) (hb : a.length ≤ 4) : f a = true := by
  have hm := mem_ser a h
  have : a.length = 1 ∨ a.length = 2 ∨ a.length = 3 ∨ a.length = 4 := by omega
  rcases this with e | e | e | e <;> rw [e] at hm
  · exact List.all_eq_true.mp h1 _ hm
  · exact List.all_eq_true.mp h2 _ hm
  · exact List.all_eq_true.mp h3 _ hm
  · exact List.all_eq_true.mp h4 _ hm
structure Chain (s s2 s3 s4 : List Rt) : Prop where
  a : smulO s s = some s2
  b : smulO s2 s = some s3
  c : smulO s2 s2 = some s4
  d : smulO (one1 s) s = some s
  e : smulO (one1 s) s2 = some s2
  f : smulO s s2 = some s3
theorem chain_of {s : List Rt} (h : chkS s = true) : ∃ s2 s3 s4, Chain s s2 s3 s4 := by
  unfold chkS at h
  split at h
  · next s2 h1 =>
    split at h
    · next s3 s4 h2 h3 =>
      simp only [Bool.and_eq_true, beq_iff_eq] at h
      exact ⟨s2, s3, s4, h1, h2, h3, h.1, h.2.1, h.2.2⟩
    · cases h
  · cases h
noncomputable def chain3 (s s2 s3 : List Rt) (m : Nat) : List Rt := if m = 1 then s else if m = 2 then s2 else s3
theorem pow_chain {s s2 s3 s4 : List Rt} (hc : Chain s s2 s3 s4) (hl : s.length ≤ 300) {m : Nat} (h1 : 1 ≤ m) (h3 : m ≤ 3) : powO 2000 (one1 s) s m = some (chain3 s s2 s3 m) := by
  have l1 : (one1 s).length ≤ 400 := by unfold one1 cutI; simp; omega
  have l2 : s2.length ≤ 400 := by rw [smul_len hc.a]; omega
  have hm : m = 1 ∨ m = 2 ∨ m = 3 := by omega
  rcases hm with rfl | rfl | rfl
  · show powO (1998 + 1 + 1) _ _ _ = _
    rw [powO, if_neg (by decide), if_pos ⟨l1, by omega⟩, if_pos (by decide), hc.d]
    simp only [Option.bind_some, hc.a]
    rw [powO, if_pos (by decide)]
    rfl
  · show powO (1997 + 1 + 1 + 1) _ _ _ = _
    rw [powO, if_neg (by decide), if_pos ⟨l1, by omega⟩, if_neg (by decide)]
    simp only [Option.bind_some, hc.a]
    rw [powO, if_neg (by decide), if_pos ⟨l1, by omega⟩, if_pos (by decide), hc.e]
    simp only [Option.bind_some, hc.c]
    rw [powO, if_pos (by decide)]
    rfl
  · show powO (1997 + 1 + 1 + 1) _ _ _ = _
    rw [powO, if_neg (by decide), if_pos ⟨l1, by omega⟩, if_pos (by decide), hc.d]
    simp only [Option.bind_some, hc.a]
    rw [powO, if_neg (by decide), if_pos ⟨by omega, by omega⟩, if_pos (by decide), hc.f]
    simp only [Option.bind_some, hc.c]
    rw [powO, if_pos (by decide)]
    rfl
/-- a trimmed series, its inverse -/
structure Tr (t s : List Rt) : Prop where
  inv : sinvO t = some s
  head : s[0]? ≠ some (0, 1)
  ct : ∃ a b c, Chain t a b c
  cs : ∃ a b c, Chain s a b c
theorem tr_of {t : List Rt} (h : okC t) (ha : 1 ≤ t.length) (hb : t.length ≤ 4) (h0 : t[0]? ≠ some (0, 1)) : ∃ s, Tr t s := by
  have hc := chk_of all_P1 all_P2 all_P3 all_P4 h ha hb
  unfold chkP at hc
  simp only [Bool.or_eq_true, beq_iff_eq, Bool.and_eq_true] at hc
  rcases hc with hc | ⟨hc1, hc2⟩
  · exact absurd hc h0
  · split at hc2
    · next s hs =>
      simp only [Bool.and_eq_true, bne_iff_ne, ne_eq] at hc2
      exact ⟨s, hs, hc2.1, chain_of hc1, chain_of hc2.2⟩
    · cases hc2
theorem sinvM_of {a s : List Rt} (hl : a.length ≤ 400) (h0 : a[0]? ≠ some (0, 1)) (h : sinvO a = some s) : sinvM a = ret (pvS s) := by
  unfold sinvM; rw [if_pos hl, if_neg h0, h]; rfl
theorem sinvO_len {a s : List Rt} (h : sinvO a = some s) : s.length = a.length := by
  have := sinv_len h
  simpa using this
end Lz
set_option linter.unusedSimpArgs false
namespace Lz
open PySem PySem.W PyProof.Rows

noncomputable def okW (p : Int × List Rt) : Prop := -10 ≤ p.1 ∧ p.1 ≤ 10 ∧ okC p.2 ∧ 1 ≤ p.2.length ∧ p.2.length ≤ 4
open Classical in
noncomputable def sp_law_inverse_right : List PV → M PV
  | [x] => lauM x fun p => if okW p then ret (.bool true) else stuck
  | _ => stuck
open Classical in
noncomputable def sp_law_power_right : List PV → M PV
  | [x, .int many] => lauM x fun p => if okW p ∧ -3 ≤ many ∧ many ≤ 3 then ret (.bool true) else stuck
  | _ => stuck
open Classical in
noncomputable def sp_law_cut_right : List PV → M PV
  | [x, .int e] => lauM x fun p => if okW p ∧ 0 ≤ e ∧ e ≤ 10 then ret (.bool true) else stuck
  | _ => stuck
open Classical in
noncomputable def sp_law_plain_right : List PV → M PV
  | [x, .int many] => serM x fun a => if (okC a ∧ 1 ≤ a.length ∧ a.length ≤ 4) ∧ -3 ≤ many ∧ many ≤ 3 then ret (.bool true) else stuck
  | _ => stuck
noncomputable def b_law_inverse_right_1 : Sig → M (Fl × Sig) := (seqM (asg (biM addV (nmM "at") (cM (.int 1))) (put "at")) nilM)
noncomputable def t_law_inverse_right_2 : Rho → M Bool := (alM [(tcM ltV (nmM "at") (bltM lenV [(biM atV (nmM "told") (cM (.int 1)))])), (tcM eqV (biM atV (biM atV (nmM "told") (cM (.int 1))) (nmM "at")) (tupM [(cM (.int 0)), (cM (.int 1))]))])
noncomputable def m_law_inverse_right : Sig → M (Fl × Sig) := (seqM (asg (cM (.int 0)) (put "at")) (seqM (whS 2000 t_law_inverse_right_2 b_law_inverse_right_1) (seqM (ifS (tcM neV (callM sp_ltrim [(nmM "told")]) (tupM [(biM addV (biM atV (nmM "told") (cM (.int 0))) (nmM "at")), (biM fromV (biM atV (nmM "told") (cM (.int 1))) (nmM "at"))])) (seqM (rtM (cM (.bool false))) nilM) nilM) (seqM (ifS (tcM eqV (nmM "at") (bltM lenV [(biM atV (nmM "told") (cM (.int 1)))])) (seqM (rtM (biM eqV (kindM ["told"] (callM sp_linverse [(nmM "told")])) (cM (.str "limit")))) nilM) nilM) (seqM (asg (callM sp_lmul [(callM sp_linverse [(nmM "told")]), (nmM "told")]) (put "found")) (seqM (rtM (ifM (tcM ltV (biM mulV (nmM "at") (cM (.int 2))) (bltM lenV [(biM atV (nmM "told") (cM (.int 1)))])) (biM eqV (callM sp_ltrim [(nmM "found")]) (tupM [(cM (.int 0)), (biM addV (lstM [(tupM [(cM (.int 1)), (cM (.int 1))])]) (biM mulV (lstM [(tupM [(cM (.int 0)), (cM (.int 1))])]) (biM subV (biM subV (bltM lenV [(biM atV (nmM "told") (cM (.int 1)))]) (biM mulV (cM (.int 2)) (nmM "at"))) (cM (.int 1)))))])) (cM (.bool true)))) nilM))))))
set_option maxHeartbeats 4000000 in
theorem v_law_inverse_right {wd : Wd} (C : Wld wd) (h_lmul : Fn wd 7 "lmul" sp_lmul) (h_ltrim : Fn wd 2 "ltrim" sp_ltrim) (h_linverse : Fn wd 6 "linverse" sp_linverse) : Sv wd (sco 39) 9 (execs (bd 39)) (m_law_inverse_right) := (Sv.cons (Sv.assign X.int (Av.name (by first | exact .inl rfl | exact .inr rfl))) (Sv.cons (S.wh 2000 (T.and2 (T.cmp X.nm (X.blt C.len (.inl ⟨_, rfl⟩) opN_len (by rfl) (X.rc (X.at X.nm X.int) X.rn)) op_lt) (T.cmp (X.at (X.at X.nm X.int) X.nm) (X.tup (X.rc X.int (X.rc X.int X.rn))) op_eq)) (Sv.cons (Sv.assign (X.bin X.nm X.int op_add) (Av.name (by first | exact .inl rfl | exact .inr rfl))) S.nil)) (Sv.cons (S.iff (T.cmp (X.call (h_ltrim) (by decide) (by rfl) (X.rc X.nm X.rn)) (X.tup (X.rc (X.bin (X.at X.nm X.int) X.nm op_add) (X.rc (X.from (X.at X.nm X.int) X.nm) X.rn))) op_ne) (Sv.cons (S.rt X.bool) S.nil) S.nil) (Sv.cons (S.iff (T.cmp X.nm (X.blt C.len (.inl ⟨_, rfl⟩) opN_len (by rfl) (X.rc (X.at X.nm X.int) X.rn)) op_eq) (Sv.cons (S.rt (X.cmp (X.kind ["told"] C C.c39 (X.call (h_linverse) (by decide) (by rfl) (X.rc X.nm X.rn)) (by rfl) (by decide) (by intros; rfl) (by intros; rfl) (by decide) (by decide) (by decide) rfl rfl rfl) X.str op_eq)) S.nil) S.nil) (Sv.cons (Sv.assign (X.call (h_lmul) (by decide) (by rfl) (X.rc (X.call (h_linverse) (by decide) (by rfl) (X.rc X.nm X.rn)) (X.rc X.nm X.rn))) (Av.name (by first | exact .inl rfl | exact .inr rfl))) (Sv.cons (S.rt (X.ife (T.cmp (X.bin X.nm X.int op_mul) (X.blt C.len (.inl ⟨_, rfl⟩) opN_len (by rfl) (X.rc (X.at X.nm X.int) X.rn)) op_lt) (X.cmp (X.call (h_ltrim) (by decide) (by rfl) (X.rc X.nm X.rn)) (X.tup (X.rc X.int (X.rc (X.bin (X.lst (X.rc (X.tup (X.rc X.int (X.rc X.int X.rn))) X.rn)) (X.bin (X.lst (X.rc (X.tup (X.rc X.int (X.rc X.int X.rn))) X.rn)) (X.bin (X.bin (X.blt C.len (.inl ⟨_, rfl⟩) opN_len (by rfl) (X.rc (X.at X.nm X.int) X.rn)) (X.bin X.int X.nm op_mul) op_sub) X.int op_sub) op_mul) op_add) X.rn))) op_eq) X.bool)) S.nil))))))
theorem f_law_inverse_right {wd : Wd} (C : Wld wd) (h_lmul : Fn wd 7 "lmul" sp_lmul) (h_ltrim : Fn wd 2 "ltrim" sp_ltrim) (h_linverse : Fn wd 6 "linverse" sp_linverse) : Fn wd 10 "_law_inverse_right" (runF ["told"] (m_law_inverse_right)) := Fn.mk C.at39 (v_law_inverse_right C h_lmul h_ltrim h_linverse) (fun _ _ _ => len1 fun a => rfl) (by decide) (by decide)
noncomputable def m_law_cut_right : Sig → M (Fl × Sig) := (seqM (asg (callM sp_ltrim [(nmM "told")]) (unp 2 (putL [(put "low"), (put "rest")]))) (seqM (ifS (alM [(tcM neV (nmM "rest") (lstM [])), (tcM ltV (nmM "low") (cM (.int 0)))]) (seqM (rtM (biM eqV (kindM ["end", "told"] (callM sp_lcut [(nmM "told"), (nmM "end")])) (cM (.str "domain")))) nilM) nilM) (seqM (asg (callM sp_law_rows [(nmM "told")]) (unp 2 (putL [(put "found"), (put "behind")]))) (seqM (ifS (tcM ltV (nmM "behind") (nmM "end")) (seqM (rtM (biM isV (callM sp_lcut [(nmM "told"), (nmM "end")]) (cM .none))) nilM) nilM) (seqM (rtM (biM eqV (callM sp_lcut [(nmM "told"), (nmM "end")]) (listC "at" ["found"] (irM [(nmM "end")]) (fun _ => ret true) (getM (nmM "found") (nmM "at") (tupM [(cM (.int 0)), (cM (.int 1))]))))) nilM)))))
set_option maxHeartbeats 4000000 in
theorem v_law_cut_right {wd : Wd} (C : Wld wd) (h_ltrim : Fn wd 2 "ltrim" sp_ltrim) (h_lcut : Fn wd 3 "lcut" sp_lcut) (h_law_rows : Fn wd 2 "_law_rows" sp_law_rows) : Sv wd (sco 40) 5 (execs (bd 40)) (m_law_cut_right) := (Sv.cons (Sv.assign (X.call (h_ltrim) (by decide) (by rfl) (X.rc X.nm X.rn)) (A.two (Av.name (by first | exact .inl rfl | exact .inr rfl)) (Av.name (by first | exact .inl rfl | exact .inr rfl)))) (Sv.cons (S.iff (T.and2 (T.cmp X.nm (X.lst X.rn) op_ne) (T.cmp X.nm X.int op_lt)) (Sv.cons (S.rt (X.cmp (X.kind ["end", "told"] C C.c40 (X.call (h_lcut) (by decide) (by rfl) (X.rc X.nm (X.rc X.nm X.rn))) (by rfl) (by decide) (by intros; rfl) (by intros; rfl) (by decide) (by decide) (by decide) rfl rfl rfl) X.str op_eq)) S.nil) S.nil) (Sv.cons (Sv.assign (X.call (h_law_rows) (by decide) (by rfl) (X.rc X.nm X.rn)) (A.two (Av.name (by first | exact .inl rfl | exact .inr rfl)) (Av.name (by first | exact .inl rfl | exact .inr rfl)))) (Sv.cons (S.iff (T.cmp X.nm X.nm op_lt) (Sv.cons (S.rt (X.cmp (X.call (h_lcut) (by decide) (by rfl) (X.rc X.nm (X.rc X.nm X.rn))) X.none op_is)) S.nil) S.nil) (Sv.cons (S.rt (X.cmp (X.call (h_lcut) (by decide) (by rfl) (X.rc X.nm (X.rc X.nm X.rn))) (Ev.listComp ["found"] (by constructor <;> decide) (I.rng C.range (by rfl) (X.rc X.nm X.rn)) TestsV.nil (X.get X.nm X.nm (X.tup (X.rc X.int (X.rc X.int X.rn))))) op_eq)) S.nil)))))
theorem f_law_cut_right {wd : Wd} (C : Wld wd) (h_ltrim : Fn wd 2 "ltrim" sp_ltrim) (h_lcut : Fn wd 3 "lcut" sp_lcut) (h_law_rows : Fn wd 2 "_law_rows" sp_law_rows) : Fn wd 6 "_law_cut_right" (runF ["told", "end"] (m_law_cut_right)) := Fn.mk C.at40 (v_law_cut_right C h_ltrim h_lcut h_law_rows) (fun _ _ _ => len2 fun a b => rfl) (by decide) (by decide)

theorem kindM_fail {keep : List Str} {mE : Rho → M PV} {ρ : Rho} {k : Str} (h : mE (subR keep ρ) = fail k) : kindM keep mE ρ = ret (.str k) := by
  funext n; unfold kindM; rw [h]; rfl
theorem at_loop {p : Int × List Rt} (hl : p.2.length ≤ 400) : ∀ (N k : Nat), p.2.length - k < N → k ≤ p.2.length → whS N t_law_inverse_right_2 b_law_inverse_right_1 ⟨[("told", pvL p), ("at", .int k)], none⟩ =
    ret (.next, ⟨[("told", pvL p), ("at", .int ((k + lz (p.2.drop k) : Nat) : Int))], none⟩)
  | 0, _, h, _ => absurd h (Nat.not_lt_zero _)
  | N + 1, k, h, hk => by
    have hlen := len_s (show p.2.length ≤ 1000 by omega)
    unfold whS
    by_cases he : k = p.2.length
    · have hc : ¬ ((k : Int) < (p.2.length : Int)) := by omega
      rw [wh_false (by simp (decide := true) only [t_law_inverse_right_2, runF, seqM, asg, rtM, nilM, ifS, raS, stS, nmM, cM, unM, biM, tupM, lstM, callM, bltM, ifM, orM, getM, tcM, tvM, ntM, alM, anM, ivM, irM, rowM, allT, anyT, toB_b, unp_t, unp_r, unp_l, putL, List.reverse_cons, List.reverse_nil, List.nil_append, List.cons_append, List.zip_cons_cons, List.zip_nil_left, List.zip_nil_right, List.length_cons, List.length_nil, lk_hit, lk_miss, sr_nil, sr_hit, sr_miss, st_none, al_none, al_some, put_none, put_some, bnd_ret, bnd_fail, bnd_stuck, bnd_bnd, lift_some', lift_none', noErr_ret, few_ok, sub_c, sub_d, sub_n, if_true, ite_true, dite_true, Bool.false_eq_true, if_false, bnd_id, at_t0, at_t1, at_r0, at_r1, at_l0, at_l1, add_i, sub_i, neg_i, lt_i, le_i, gt_i, ge_i, eq_i, ne_i, eq_r, ne_r, eq_s, ne_s, eq_l, ne_l, abs_i, min_i, ite_false, pvR_mk, pvL_mk, setR_lookup, st_some, flat_r, mu_isNone, Option.isNone_none, Option.isNone_some, Bool.not_true, Bool.not_false, decide_true, decide_false, Bool.and_true, Bool.true_and, reduceCtorEq, hlen, hc])]
      rw [List.drop_of_length_le (by omega)]
      rfl
    · have hc : ((k : Int) < (p.2.length : Int)) := by omega
      have hk' : k < p.2.length := by omega
      have hat := at_s (a := p.2) (show k < 1000 by omega) (List.getElem?_eq_getElem hk')
      rw [List.drop_eq_getElem_cons hk', lz]
      by_cases hx : p.2[k] = (0, 1)
      · rw [if_pos hx]
        have ih := at_loop hl N (k + 1) (by omega) (by omega)
        unfold whS at ih
        rw [wh_true (σ' := ⟨[("told", pvL p), ("at", .int ((k + 1 : Nat) : Int))], none⟩) (by simp (decide := true) only [t_law_inverse_right_2, runF, seqM, asg, rtM, nilM, ifS, raS, stS, nmM, cM, unM, biM, tupM, lstM, callM, bltM, ifM, orM, getM, tcM, tvM, ntM, alM, anM, ivM, irM, rowM, allT, anyT, toB_b, unp_t, unp_r, unp_l, putL, List.reverse_cons, List.reverse_nil, List.nil_append, List.cons_append, List.zip_cons_cons, List.zip_nil_left, List.zip_nil_right, List.length_cons, List.length_nil, lk_hit, lk_miss, sr_nil, sr_hit, sr_miss, st_none, al_none, al_some, put_none, put_some, bnd_ret, bnd_fail, bnd_stuck, bnd_bnd, lift_some', lift_none', noErr_ret, few_ok, sub_c, sub_d, sub_n, if_true, ite_true, dite_true, Bool.false_eq_true, if_false, bnd_id, at_t0, at_t1, at_r0, at_r1, at_l0, at_l1, add_i, sub_i, neg_i, lt_i, le_i, gt_i, ge_i, eq_i, ne_i, eq_r, ne_r, eq_s, ne_s, eq_l, ne_l, abs_i, min_i, ite_false, pvR_mk, pvL_mk, setR_lookup, st_some, flat_r, mu_isNone, Option.isNone_none, Option.isNone_some, Bool.not_true, Bool.not_false, decide_true, decide_false, Bool.and_true, Bool.true_and, reduceCtorEq, hlen, hc, hat, hx])
          (by simp (decide := true) only [b_law_inverse_right_1, runF, seqM, asg, rtM, nilM, ifS, raS, stS, nmM, cM, unM, biM, tupM, lstM, callM, bltM, ifM, orM, getM, tcM, tvM, ntM, alM, anM, ivM, irM, rowM, allT, anyT, toB_b, unp_t, unp_r, unp_l, putL, List.reverse_cons, List.reverse_nil, List.nil_append, List.cons_append, List.zip_cons_cons, List.zip_nil_left, List.zip_nil_right, List.length_cons, List.length_nil, lk_hit, lk_miss, sr_nil, sr_hit, sr_miss, st_none, al_none, al_some, put_none, put_some, bnd_ret, bnd_fail, bnd_stuck, bnd_bnd, lift_some', lift_none', noErr_ret, few_ok, sub_c, sub_d, sub_n, if_true, ite_true, dite_true, Bool.false_eq_true, if_false, bnd_id, at_t0, at_t1, at_r0, at_r1, at_l0, at_l1, add_i, sub_i, neg_i, lt_i, le_i, gt_i, ge_i, eq_i, ne_i, eq_r, ne_r, eq_s, ne_s, eq_l, ne_l, abs_i, min_i, ite_false, pvR_mk, pvL_mk, setR_lookup, st_some, flat_r, mu_isNone, Option.isNone_none, Option.isNone_some, Bool.not_true, Bool.not_false, decide_true, decide_false, Bool.and_true, Bool.true_and, reduceCtorEq, Int.natCast_add, Int.natCast_one]), ih]
        rw [show k + 1 + lz (p.2.drop (k + 1)) = k + (lz (p.2.drop (k + 1)) + 1) by omega]
      · rw [if_neg hx]
        rw [wh_false (by simp (decide := true) only [t_law_inverse_right_2, runF, seqM, asg, rtM, nilM, ifS, raS, stS, nmM, cM, unM, biM, tupM, lstM, callM, bltM, ifM, orM, getM, tcM, tvM, ntM, alM, anM, ivM, irM, rowM, allT, anyT, toB_b, unp_t, unp_r, unp_l, putL, List.reverse_cons, List.reverse_nil, List.nil_append, List.cons_append, List.zip_cons_cons, List.zip_nil_left, List.zip_nil_right, List.length_cons, List.length_nil, lk_hit, lk_miss, sr_nil, sr_hit, sr_miss, st_none, al_none, al_some, put_none, put_some, bnd_ret, bnd_fail, bnd_stuck, bnd_bnd, lift_some', lift_none', noErr_ret, few_ok, sub_c, sub_d, sub_n, if_true, ite_true, dite_true, Bool.false_eq_true, if_false, bnd_id, at_t0, at_t1, at_r0, at_r1, at_l0, at_l1, add_i, sub_i, neg_i, lt_i, le_i, gt_i, ge_i, eq_i, ne_i, eq_r, ne_r, eq_s, ne_s, eq_l, ne_l, abs_i, min_i, ite_false, pvR_mk, pvL_mk, setR_lookup, st_some, flat_r, mu_isNone, Option.isNone_none, Option.isNone_some, Bool.not_true, Bool.not_false, decide_true, decide_false, Bool.and_true, Bool.true_and, reduceCtorEq, hlen, hc, hat, hx])]
        rfl
theorem linv_of {p : Int × List Rt} {s : List Rt} (hl : p.2.length ≤ 400) (hne : lz p.2 ≠ p.2.length) (ht : Tr (p.2.drop (lz p.2)) s) : linvM p = ret (pvL (0 - (p.1 + lz p.2), s)) := by
  unfold linvM
  rw [trim_lz]
  have hz := lz_le p.2
  rw [if_neg (by simp; omega), sinvM_of (by simp; omega) lz_head ht.inv]
  rfl
theorem linv_fail {p : Int × List Rt} (he : lz p.2 = p.2.length) : linvM p = fail "limit" := by
  unfold linvM
  rw [trim_lz, if_pos (by simp; omega)]
theorem str_eq {x : Str} (h : PyData.strOk x = true) : eqV (.str x) (.str x) = some (.bool true) := by
  unfold eqV
  rw [if_pos (by simp [okEq_tup, okEq_lst, okEq_int, okEq_str, h])]
  simp [toPy_int, toPy_str, toPy_tup, toPy_lst, PyData.eqv]
theorem str_eq1 : eqV (.str "limit") (.str "limit") = some (.bool true) := str_eq (by decide +kernel)
theorem str_eq2 : eqV (.str "domain") (.str "domain") = some (.bool true) := str_eq (by decide +kernel)
theorem tr_drop {p : Int × List Rt} (h : okW p) (hne : lz p.2 ≠ p.2.length) : ∃ s, Tr (p.2.drop (lz p.2)) s := by
  obtain ⟨_, _, hc, h1, h4⟩ := h
  have := lz_le p.2
  exact tr_of (okC_drop hc _) (by simp; omega) (by simp; omega) lz_head
theorem at_start {p : Int × List Rt} (h : p.2.length ≤ 400) : whS 2000 t_law_inverse_right_2 b_law_inverse_right_1 ⟨[("told", pvL p), ("at", .int 0)], none⟩ = ret (.next, ⟨[("told", pvL p), ("at", .int (lz p.2))], none⟩) := by
  have hloop := at_loop (p := p) h 2000 0 (by omega) (by omega)
  rw [List.drop_zero, Nat.zero_add] at hloop
  exact hloop
theorem u_inv_a {p : Int × List Rt} (h : okW p) (he : lz p.2 = p.2.length) : runF ["told"] m_law_inverse_right [pvL p] = ret (.bool true) := by
  have hw := h
  obtain ⟨p1, p2, hC, h1, h4⟩ := h
  have hz := lz_le p.2
  have hlen := len_s (show p.2.length ≤ 1000 by omega)
  have htr : sp_ltrim [pvL p] = ret (pvL (p.1 + lz p.2, p.2.drop (lz p.2))) := by rw [sp_ltrim_of (by omega), trim_lz]
  have hfrom := from_s (a := p.2) (i := (lz p.2 : Int)) (by omega) (by omega)
  rw [Int.toNat_natCast] at hfrom
  have hloop := at_start (p := p) (by omega)
  have hk : kindM ["told"] (callM sp_linverse [(nmM "told")]) [("told", pvL p), ("at", .int (lz p.2))] = ret (.str "limit") := by
    refine kindM_fail ?_
    simp (decide := true) only [runF, seqM, asg, rtM, nilM, ifS, raS, stS, nmM, cM, unM, biM, tupM, lstM, callM, bltM, ifM, orM, getM, tcM, tvM, ntM, alM, anM, ivM, irM, rowM, allT, anyT, toB_b, unp_t, unp_r, unp_l, putL, List.reverse_cons, List.reverse_nil, List.nil_append, List.cons_append, List.zip_cons_cons, List.zip_nil_left, List.zip_nil_right, List.length_cons, List.length_nil, lk_hit, lk_miss, sr_nil, sr_hit, sr_miss, st_none, al_none, al_some, put_none, put_some, bnd_ret, bnd_fail, bnd_stuck, bnd_bnd, lift_some', lift_none', noErr_ret, few_ok, sub_c, sub_d, sub_n, if_true, ite_true, dite_true, Bool.false_eq_true, if_false, bnd_id, at_t0, at_t1, at_r0, at_r1, at_l0, at_l1, add_i, sub_i, neg_i, lt_i, le_i, gt_i, ge_i, eq_i, ne_i, eq_r, ne_r, eq_s, ne_s, eq_l, ne_l, abs_i, min_i, ite_false, pvR_mk, pvL_mk, setR_lookup, st_some, flat_r, mu_isNone, Option.isNone_none, Option.isNone_some, Bool.not_true, Bool.not_false, decide_true, decide_false, Bool.and_true, Bool.true_and, reduceCtorEq, sp_linverse_of (show p.2.length ≤ 400 by omega), linv_fail he]
  have he' : decide ((lz p.2 : Int) = (p.2.length : Int)) = true := decide_eq_true (by omega)
  simp (decide := true) only [m_law_inverse_right, runF, seqM, asg, rtM, nilM, ifS, raS, stS, nmM, cM, unM, biM, tupM, lstM, callM, bltM, ifM, orM, getM, tcM, tvM, ntM, alM, anM, ivM, irM, rowM, allT, anyT, toB_b, unp_t, unp_r, unp_l, putL, List.reverse_cons, List.reverse_nil, List.nil_append, List.cons_append, List.zip_cons_cons, List.zip_nil_left, List.zip_nil_right, List.length_cons, List.length_nil, lk_hit, lk_miss, sr_nil, sr_hit, sr_miss, st_none, al_none, al_some, put_none, put_some, bnd_ret, bnd_fail, bnd_stuck, bnd_bnd, lift_some', lift_none', noErr_ret, few_ok, sub_c, sub_d, sub_n, if_true, ite_true, dite_true, Bool.false_eq_true, if_false, bnd_id, at_t0, at_t1, at_r0, at_r1, at_l0, at_l1, add_i, sub_i, neg_i, lt_i, le_i, gt_i, ge_i, eq_i, ne_i, eq_r, ne_r, eq_s, ne_s, eq_l, ne_l, abs_i, min_i, ite_false, pvR_mk, pvL_mk, setR_lookup, st_some, flat_r, mu_isNone, Option.isNone_none, Option.isNone_some, Bool.not_true, Bool.not_false, decide_true, decide_false, Bool.and_true, Bool.true_and, reduceCtorEq, hloop, htr, hfrom, hlen, he', hk, str_eq1]
theorem trim_getR (t : Int) : ∀ (low : Int) (rest : List Rt), getR (rowsFrom low rest) t = getR (rowsFrom (trimI low rest).1 (trimI low rest).2) t
  | low, [] => rfl
  | low, x :: r => by
    unfold trimI
    split
    · next h =>
      rw [← trim_getR t (low + 1) r, h, rowsFrom]
      by_cases hlt : low = t
      · subst hlt
        rw [getR_none (D := rowsFrom (low + 1) r) fun e he => by have := rowsFrom_key _ _ e he; omega]
        simp [getR]
      · simp [getR, hlt]
    · rfl
theorem u_cut_right {p : Int × List Rt} {e : Int} (h : okW p) (h0 : 0 ≤ e) (he : e ≤ 10) : runF ["told", "end"] m_law_cut_right [pvL p, .int e] = ret (.bool true) := by
  obtain ⟨p1, p2, hC, h1, h4⟩ := h
  have htr : sp_ltrim [pvL p] = ret (pvL (trimI p.1 p.2)) := sp_ltrim_of (by omega)
  have hl := trim_len p.1 p.2
  have hw := trim_low p.1 p.2
  have hg := fun t => trim_getR t p.1 p.2
  have hrows := sp_rows_of (p := p) ⟨by omega, by omega, by omega⟩
  have hcut : sp_lcut [pvL p, .int e] = lcutM p e := by
    unfold sp_lcut; simp only [lauM_pv]; rw [if_pos ⟨by omega, by omega, by omega, h0, by omega⟩]
  unfold lcutM at hcut
  generalize trimI p.1 p.2 = q at *
  have hne : ∀ a : List Rt, neV (pvS a) (.lst []) = some (.bool (!decide (a = []))) := fun a => ne_s a []
  by_cases g1 : q.2 ≠ [] ∧ q.1 < 0
  · rw [if_pos g1] at hcut
    have hk : kindM ["end", "told"] (callM sp_lcut [(nmM "told"), (nmM "end")]) [("told", pvL p), ("end", .int e), ("low", .int q.1), ("rest", pvS q.2)] = ret (.str "domain") := by
      refine kindM_fail ?_
      simp (decide := true) only [runF, seqM, asg, rtM, nilM, ifS, raS, stS, nmM, cM, unM, biM, tupM, lstM, callM, bltM, ifM, orM, getM, tcM, tvM, ntM, alM, anM, ivM, irM, rowM, allT, anyT, toB_b, unp_t, unp_r, unp_l, putL, List.reverse_cons, List.reverse_nil, List.nil_append, List.cons_append, List.zip_cons_cons, List.zip_nil_left, List.zip_nil_right, List.length_cons, List.length_nil, lk_hit, lk_miss, sr_nil, sr_hit, sr_miss, st_none, al_none, al_some, put_none, put_some, bnd_ret, bnd_fail, bnd_stuck, bnd_bnd, lift_some', lift_none', noErr_ret, few_ok, sub_c, sub_d, sub_n, if_true, ite_true, dite_true, Bool.false_eq_true, if_false, bnd_id, at_t0, at_t1, at_r0, at_r1, at_l0, at_l1, add_i, sub_i, neg_i, lt_i, le_i, gt_i, ge_i, eq_i, ne_i, eq_r, ne_r, eq_s, ne_s, eq_l, ne_l, abs_i, min_i, ite_false, pvR_mk, pvL_mk, setR_lookup, st_some, flat_r, mu_isNone, Option.isNone_none, Option.isNone_some, Bool.not_true, Bool.not_false, decide_true, decide_false, Bool.and_true, Bool.true_and, reduceCtorEq, hcut]
    simp (decide := true) only [m_law_cut_right, runF, seqM, asg, rtM, nilM, ifS, raS, stS, nmM, cM, unM, biM, tupM, lstM, callM, bltM, ifM, orM, getM, tcM, tvM, ntM, alM, anM, ivM, irM, rowM, allT, anyT, toB_b, unp_t, unp_r, unp_l, putL, List.reverse_cons, List.reverse_nil, List.nil_append, List.cons_append, List.zip_cons_cons, List.zip_nil_left, List.zip_nil_right, List.length_cons, List.length_nil, lk_hit, lk_miss, sr_nil, sr_hit, sr_miss, st_none, al_none, al_some, put_none, put_some, bnd_ret, bnd_fail, bnd_stuck, bnd_bnd, lift_some', lift_none', noErr_ret, few_ok, sub_c, sub_d, sub_n, if_true, ite_true, dite_true, Bool.false_eq_true, if_false, bnd_id, at_t0, at_t1, at_r0, at_r1, at_l0, at_l1, add_i, sub_i, neg_i, lt_i, le_i, gt_i, ge_i, eq_i, ne_i, eq_r, ne_r, eq_s, ne_s, eq_l, ne_l, abs_i, min_i, ite_false, pvR_mk, pvL_mk, setR_lookup, st_some, flat_r, mu_isNone, Option.isNone_none, Option.isNone_some, Bool.not_true, Bool.not_false, decide_true, decide_false, Bool.and_true, Bool.true_and, reduceCtorEq, htr, hne, g1.1, g1.2, hk, str_eq2]
  · rw [if_neg g1] at hcut
    have c1 : (alM [(tcM neV (nmM "rest") (lstM [])), (tcM ltV (nmM "low") (cM (.int 0)))]) [("told", pvL p), ("end", .int e), ("low", .int q.1), ("rest", pvS q.2)] = ret false := by
      by_cases g2 : q.2 = []
      · simp (decide := true) only [runF, seqM, asg, rtM, nilM, ifS, raS, stS, nmM, cM, unM, biM, tupM, lstM, callM, bltM, ifM, orM, getM, tcM, tvM, ntM, alM, anM, ivM, irM, rowM, allT, anyT, toB_b, unp_t, unp_r, unp_l, putL, List.reverse_cons, List.reverse_nil, List.nil_append, List.cons_append, List.zip_cons_cons, List.zip_nil_left, List.zip_nil_right, List.length_cons, List.length_nil, lk_hit, lk_miss, sr_nil, sr_hit, sr_miss, st_none, al_none, al_some, put_none, put_some, bnd_ret, bnd_fail, bnd_stuck, bnd_bnd, lift_some', lift_none', noErr_ret, few_ok, sub_c, sub_d, sub_n, if_true, ite_true, dite_true, Bool.false_eq_true, if_false, bnd_id, at_t0, at_t1, at_r0, at_r1, at_l0, at_l1, add_i, sub_i, neg_i, lt_i, le_i, gt_i, ge_i, eq_i, ne_i, eq_r, ne_r, eq_s, ne_s, eq_l, ne_l, abs_i, min_i, ite_false, pvR_mk, pvL_mk, setR_lookup, st_some, flat_r, mu_isNone, Option.isNone_none, Option.isNone_some, Bool.not_true, Bool.not_false, decide_true, decide_false, Bool.and_true, Bool.true_and, reduceCtorEq, hne, g2]
      · have g3 : ¬ q.1 < 0 := fun z => g1 ⟨g2, z⟩
        simp (decide := true) only [runF, seqM, asg, rtM, nilM, ifS, raS, stS, nmM, cM, unM, biM, tupM, lstM, callM, bltM, ifM, orM, getM, tcM, tvM, ntM, alM, anM, ivM, irM, rowM, allT, anyT, toB_b, unp_t, unp_r, unp_l, putL, List.reverse_cons, List.reverse_nil, List.nil_append, List.cons_append, List.zip_cons_cons, List.zip_nil_left, List.zip_nil_right, List.length_cons, List.length_nil, lk_hit, lk_miss, sr_nil, sr_hit, sr_miss, st_none, al_none, al_some, put_none, put_some, bnd_ret, bnd_fail, bnd_stuck, bnd_bnd, lift_some', lift_none', noErr_ret, few_ok, sub_c, sub_d, sub_n, if_true, ite_true, dite_true, Bool.false_eq_true, if_false, bnd_id, at_t0, at_t1, at_r0, at_r1, at_l0, at_l1, add_i, sub_i, neg_i, lt_i, le_i, gt_i, ge_i, eq_i, ne_i, eq_r, ne_r, eq_s, ne_s, eq_l, ne_l, abs_i, min_i, ite_false, pvR_mk, pvL_mk, setR_lookup, st_some, flat_r, mu_isNone, Option.isNone_none, Option.isNone_some, Bool.not_true, Bool.not_false, decide_true, decide_false, Bool.and_true, Bool.true_and, reduceCtorEq, hne, g2, g3]
    unfold m_law_cut_right
    simp (decide := true) only [runF, seqM, asg, callM, rowM, nmM, List.zip_cons_cons, List.zip_nil_left, List.zip_nil_right, List.length_cons, List.length_nil, lk_hit, lk_miss, al_none, if_true, lift_some', bnd_ret, bnd_bnd, htr, st_none, unp_l, putL, put_none, setR_lookup, sr_hit, sr_miss, sr_nil, ifS, c1]
    by_cases g3 : q.1 + q.2.length < e
    · rw [if_pos g3] at hcut
      have hb : p.1 + (p.2.length : Int) < e := by omega
      simp (decide := true) only [runF, seqM, asg, rtM, nilM, ifS, raS, stS, nmM, cM, unM, biM, tupM, lstM, callM, bltM, ifM, orM, getM, tcM, tvM, ntM, alM, anM, ivM, irM, rowM, allT, anyT, toB_b, unp_t, unp_r, unp_l, putL, List.reverse_cons, List.reverse_nil, List.nil_append, List.cons_append, List.zip_cons_cons, List.zip_nil_left, List.zip_nil_right, List.length_cons, List.length_nil, lk_hit, lk_miss, sr_nil, sr_hit, sr_miss, st_none, al_none, al_some, put_none, put_some, bnd_ret, bnd_fail, bnd_stuck, bnd_bnd, lift_some', lift_none', noErr_ret, few_ok, sub_c, sub_d, sub_n, if_true, ite_true, dite_true, Bool.false_eq_true, if_false, bnd_id, at_t0, at_t1, at_r0, at_r1, at_l0, at_l1, add_i, sub_i, neg_i, lt_i, le_i, gt_i, ge_i, eq_i, ne_i, eq_r, ne_r, eq_s, ne_s, eq_l, ne_l, abs_i, min_i, ite_false, pvR_mk, pvL_mk, setR_lookup, st_some, flat_r, mu_isNone, Option.isNone_none, Option.isNone_some, Bool.not_true, Bool.not_false, decide_true, decide_false, Bool.and_true, Bool.true_and, reduceCtorEq, hrows, hb, hcut]
      rfl
    · rw [if_neg g3] at hcut
      have hb : ¬ p.1 + (p.2.length : Int) < e := by omega
      have hlist : listC "at" ["found"] (irM [(nmM "end")]) (fun _ => ret true) (getM (nmM "found") (nmM "at") (tupM [(cM (.int 0)), (cM (.int 1))])) [("told", pvL p), ("end", .int e), ("low", .int q.1), ("rest", pvS q.2), ("found", pvD (rowsR p)), ("behind", .int (p.1 + p.2.length))] = ret (pvS ((List.range e.toNat).map fun i => getR (rowsR p) (i : Nat))) := by
        refine listC_map (fun i : Nat => PV.int i) (f := fun i => some (getR (rowsR p) (i : Nat))) (l := List.range e.toNat) ?_ (mapO_some _) fun i _ r hr => ?_
        · simp (decide := true) only [runF, seqM, asg, rtM, nilM, ifS, raS, stS, nmM, cM, unM, biM, tupM, lstM, callM, bltM, ifM, orM, getM, tcM, tvM, ntM, alM, anM, ivM, irM, rowM, allT, anyT, toB_b, unp_t, unp_r, unp_l, putL, List.reverse_cons, List.reverse_nil, List.nil_append, List.cons_append, List.zip_cons_cons, List.zip_nil_left, List.zip_nil_right, List.length_cons, List.length_nil, lk_hit, lk_miss, sr_nil, sr_hit, sr_miss, st_none, al_none, al_some, put_none, put_some, bnd_ret, bnd_fail, bnd_stuck, bnd_bnd, lift_some', lift_none', noErr_ret, few_ok, sub_c, sub_d, sub_n, if_true, ite_true, dite_true, Bool.false_eq_true, if_false, bnd_id, at_t0, at_t1, at_r0, at_r1, at_l0, at_l1, add_i, sub_i, neg_i, lt_i, le_i, gt_i, ge_i, eq_i, ne_i, eq_r, ne_r, eq_s, ne_s, eq_l, ne_l, abs_i, min_i, ite_false, pvR_mk, pvL_mk, setR_lookup, st_some, flat_r, mu_isNone, Option.isNone_none, Option.isNone_some, Bool.not_true, Bool.not_false, decide_true, decide_false, Bool.and_true, Bool.true_and, reduceCtorEq]
          rw [range_1 (by omega) (by omega)]
          rfl
        · cases hr
          simp (decide := true) only [runF, seqM, asg, rtM, nilM, ifS, raS, stS, nmM, cM, unM, biM, tupM, lstM, callM, bltM, ifM, orM, getM, tcM, tvM, ntM, alM, anM, ivM, irM, rowM, allT, anyT, toB_b, unp_t, unp_r, unp_l, putL, List.reverse_cons, List.reverse_nil, List.nil_append, List.cons_append, List.zip_cons_cons, List.zip_nil_left, List.zip_nil_right, List.length_cons, List.length_nil, lk_hit, lk_miss, sr_nil, sr_hit, sr_miss, st_none, al_none, al_some, put_none, put_some, bnd_ret, bnd_fail, bnd_stuck, bnd_bnd, lift_some', lift_none', noErr_ret, few_ok, sub_c, sub_d, sub_n, if_true, ite_true, dite_true, Bool.false_eq_true, if_false, bnd_id, at_t0, at_t1, at_r0, at_r1, at_l0, at_l1, add_i, sub_i, neg_i, lt_i, le_i, gt_i, ge_i, eq_i, ne_i, eq_r, ne_r, eq_s, ne_s, eq_l, ne_l, abs_i, min_i, ite_false, pvR_mk, pvL_mk, setR_lookup, st_some, flat_r, mu_isNone, Option.isNone_none, Option.isNone_some, Bool.not_true, Bool.not_false, decide_true, decide_false, Bool.and_true, Bool.true_and, reduceCtorEq, dicV_d, get_d]
      have heq : (if q.1 ≥ 0 then (List.replicate q.1.toNat ((0, 1) : Rt) ++ q.2).take e.toNat else List.replicate e.toNat (0, 1)) = (List.range e.toNat).map fun i => getR (rowsR p) (i : Nat) := by
        refine List.ext_getElem? fun i => ?_
        rw [List.getElem?_map]
        by_cases hi : i < e.toNat
        · rw [List.getElem?_range hi, Option.map_some]
          rw [show getR (rowsR p) (i : Nat) = getR (rowsFrom q.1 q.2) (i : Nat) from hg _]
          by_cases g4 : q.1 ≥ 0
          · rw [if_pos g4, List.getElem?_take, if_pos hi]
            by_cases g5 : i < q.1.toNat
            · rw [List.getElem?_append_left (by simpa using g5), List.getElem?_replicate, if_pos g5, getR_none fun x hx => by have := rowsFrom_key _ _ x hx; omega]
            · have hlt : i - q.1.toNat < q.2.length := by omega
              rw [List.getElem?_append_right (by simp; omega), List.length_replicate, show ((i : Nat) : Int) = q.1 + ((i - q.1.toNat : Nat) : Int) by omega, getR_rows (List.getElem?_eq_getElem hlt)]
              exact List.getElem?_eq_getElem hlt
          · have hq : q.2 = [] := Classical.byContradiction fun z => g1 ⟨z, by omega⟩
            rw [if_neg g4, List.getElem?_replicate, if_pos hi, hq]
            rfl
        · rw [show (List.range e.toNat)[i]? = none from List.getElem?_eq_none (by simp; omega)]
          by_cases g4 : q.1 ≥ 0
          · rw [if_pos g4]; exact List.getElem?_eq_none (by simp; omega)
          · rw [if_neg g4]; exact List.getElem?_eq_none (by simp; omega)
      rw [heq] at hcut
      simp (decide := true) only [runF, seqM, asg, rtM, nilM, ifS, raS, stS, nmM, cM, unM, biM, tupM, lstM, callM, bltM, ifM, orM, getM, tcM, tvM, ntM, alM, anM, ivM, irM, rowM, allT, anyT, toB_b, unp_t, unp_r, unp_l, putL, List.reverse_cons, List.reverse_nil, List.nil_append, List.cons_append, List.zip_cons_cons, List.zip_nil_left, List.zip_nil_right, List.length_cons, List.length_nil, lk_hit, lk_miss, sr_nil, sr_hit, sr_miss, st_none, al_none, al_some, put_none, put_some, bnd_ret, bnd_fail, bnd_stuck, bnd_bnd, lift_some', lift_none', noErr_ret, few_ok, sub_c, sub_d, sub_n, if_true, ite_true, dite_true, Bool.false_eq_true, if_false, bnd_id, at_t0, at_t1, at_r0, at_r1, at_l0, at_l1, add_i, sub_i, neg_i, lt_i, le_i, gt_i, ge_i, eq_i, ne_i, eq_r, ne_r, eq_s, ne_s, eq_l, ne_l, abs_i, min_i, ite_false, pvR_mk, pvL_mk, setR_lookup, st_some, flat_r, mu_isNone, Option.isNone_none, Option.isNone_some, Bool.not_true, Bool.not_false, decide_true, decide_false, Bool.and_true, Bool.true_and, reduceCtorEq, hrows, hb, hcut, hlist]
end Lz
set_option linter.unusedSimpArgs false
namespace Lz
open PySem PySem.W PyProof.Rows

theorem sp_lmul_of {p q r : Int × List Rt} (hg : okL2 p q) (h : lmulO p q = some r) : sp_lmul [pvL p, pvL q] = ret (pvL r) := by
  unfold sp_lmul spLL
  simp only [lauM_pv]
  rw [if_pos hg, h]
  rfl
structure InvF (p : Int × List Rt) (q r : Int × List Rt) : Prop where
  inv : sp_linverse [pvL p] = ret (pvL q)
  mul : sp_lmul [pvL q, pvL p] = ret (pvL r)
  trim : sp_ltrim [pvL r] = ret (pvL (trimI r.1 r.2))
  ans : 2 * lz p.2 < p.2.length → trimI r.1 r.2 = (0, (1, 1) :: List.replicate (p.2.length - 2 * lz p.2 - 1) (0, 1))
theorem inv_facts {p : Int × List Rt} (h : okW p) (hne : lz p.2 ≠ p.2.length) : ∃ q r, InvF p q r := by
  obtain ⟨t, ht⟩ := tr_drop h hne
  obtain ⟨p1, p2, hC, h1, h4⟩ := h
  have hz := lz_le p.2
  have hc := chk_of all_I1 all_I2 all_I3 all_I4 hC h1 h4
  unfold chkI at hc
  rw [if_neg hne, ht.inv] at hc
  dsimp only at hc
  have hl := sinvO_len ht.inv
  rw [List.length_drop] at hl
  split at hc
  case h_2 => cases hc
  next u hu =>
  have hul := smul_len hu
  have e1 : (0 - (p.1 + (lz p.2 : Int)) + p.1) = -(lz p.2 : Int) := by omega
  refine ⟨(0 - (p.1 + (lz p.2 : Int)), t), (-(lz p.2 : Int), u), ?_, ?_, ?_, ?_⟩
  · rw [sp_linverse_of (by omega), linv_of (by omega) hne ht]
  · refine sp_lmul_of ⟨?_, ?_, by omega, by omega, ?_, by omega⟩ ?_
    · dsimp only; omega
    · dsimp only; omega
    · dsimp only; omega
    · unfold lmulO
      dsimp only
      rw [hu, Option.map_some, e1]
  · exact sp_ltrim_of (by dsimp only; omega)
  · intro hlt
    rw [if_pos hlt] at hc
    exact eq_of_beq hc
noncomputable def e_inv : Rho → M PV := (ifM (tcM ltV (biM mulV (nmM "at") (cM (.int 2))) (bltM lenV [(biM atV (nmM "told") (cM (.int 1)))])) (biM eqV (callM sp_ltrim [(nmM "found")]) (tupM [(cM (.int 0)), (biM addV (lstM [(tupM [(cM (.int 1)), (cM (.int 1))])]) (biM mulV (lstM [(tupM [(cM (.int 0)), (cM (.int 1))])]) (biM subV (biM subV (bltM lenV [(biM atV (nmM "told") (cM (.int 1)))]) (biM mulV (cM (.int 2)) (nmM "at"))) (cM (.int 1)))))])) (cM (.bool true)))
theorem biM_of {g : PV → PV → Option PV} {ml mr : Rho → M PV} {ρ : Rho} {a b c : PV} (h1 : ml ρ = ret a) (h2 : mr ρ = ret b) (h3 : g a b = some c) : biM g ml mr ρ = ret c := by
  unfold biM; rw [h1, bnd_ret, h2, bnd_ret, h3]; rfl
theorem tcM_of {g : PV → PV → Option PV} {ml mr : Rho → M PV} {ρ : Rho} {a b : PV} {c : Bool} (h1 : ml ρ = ret a) (h2 : mr ρ = ret b) (h3 : g a b = some (.bool c)) : tcM g ml mr ρ = ret c := by
  unfold tcM; rw [h1, bnd_ret, h2, bnd_ret, h3]; rfl
theorem ifM_true {mt : Rho → M Bool} {mx my : Rho → M PV} {ρ : Rho} (h1 : mt ρ = ret true) : ifM mt mx my ρ = mx ρ := by unfold ifM; rw [h1]; rfl
theorem ifM_false {mt : Rho → M Bool} {mx my : Rho → M PV} {ρ : Rho} (h1 : mt ρ = ret false) : ifM mt mx my ρ = my ρ := by unfold ifM; rw [h1]; rfl
theorem tup2_of {m1 m2 : Rho → M PV} {ρ : Rho} {a b : PV} (h1 : m1 ρ = ret a) (h2 : m2 ρ = ret b) : tupM [m1, m2] ρ = ret (.tup [a, b]) := by
  unfold tupM; rw [rowM, h1, bnd_ret, rowM, h2, bnd_ret]; rfl
theorem nm_of {x : Str} {ρ : Rho} {a : PV} (h : ρ.lookup x = some a) : nmM x ρ = ret a := by unfold nmM; rw [h]; rfl
theorem ones_of {ρ : Rho} : lstM [(tupM [(cM (.int 1)), (cM (.int 1))])] ρ = ret (pvS [(1, 1)]) := rfl
theorem zeros_of {ρ : Rho} : lstM [(tupM [(cM (.int 0)), (cM (.int 1))])] ρ = ret (pvS [(0, 1)]) := rfl
theorem row_of {mb : Rho → M PV} {ρ : Rho} {b : Int} {n : Nat} (h : mb ρ = ret (.int b)) (hb : b.toNat = n) (h0 : -1000 ≤ b) (hn : b ≤ 900) :
    (biM addV (lstM [(tupM [(cM (.int 1)), (cM (.int 1))])]) (biM mulV (lstM [(tupM [(cM (.int 0)), (cM (.int 1))])]) mb)) ρ = ret (pvS ((1, 1) :: List.replicate n (0, 1))) := by
  refine biM_of ones_of (biM_of zeros_of h (rep_s (by omega) h0)) ?_
  rw [hb]
  exact add_s (by simp; omega)
theorem len_of {ρ : Rho} {p : Int × List Rt} (h : ρ.lookup ("told" : Str) = some (pvL p)) (hl : p.2.length ≤ 1000) : (bltM lenV [(biM atV (nmM "told") (cM (.int 1)))]) ρ = ret (.int p.2.length) := by
  unfold bltM
  rw [rowM, biM_of (nm_of h) (show cM (.int 1) ρ = ret (.int 1) from rfl) at_l1, bnd_ret, rowM]
  show bnd (ret [pvS p.2]) _ = _
  rw [bnd_ret, len_s hl]
  rfl
theorem inv_ret {p r : Int × List Rt} (h4 : p.2.length ≤ 4) (ht : sp_ltrim [pvL r] = ret (pvL (trimI r.1 r.2))) (ha : 2 * lz p.2 < p.2.length → trimI r.1 r.2 = (0, (1, 1) :: List.replicate (p.2.length - 2 * lz p.2 - 1) (0, 1))) :
    e_inv [("told", pvL p), ("at", .int (lz p.2)), ("found", pvL r)] = ret (.bool true) := by
  have hz := lz_le p.2
  have hlen : (bltM lenV [(biM atV (nmM "told") (cM (.int 1)))]) [("told", pvL p), ("at", .int (lz p.2)), ("found", pvL r)] = ret (.int p.2.length) := len_of rfl (by omega)
  have hat : nmM "at" [("told", pvL p), ("at", .int (lz p.2)), ("found", pvL r)] = ret (.int (lz p.2)) := nm_of rfl
  have hc : ∀ {d : PV}, cM d [("told", pvL p), ("at", .int (lz p.2)), ("found", pvL r)] = ret d := rfl
  have m1 : mulV (.int (lz p.2)) (.int 2) = some (.int ((lz p.2 : Int) * 2)) := mul_i (by decide)
  have m2 : mulV (.int 2) (.int (lz p.2)) = some (.int (2 * (lz p.2 : Int))) := mul_i (small_of (by omega) (by omega))
  have htest := tcM_of (biM_of hat hc m1) hlen lt_i
  unfold e_inv
  by_cases hlt : 2 * lz p.2 < p.2.length
  · rw [decide_eq_true (by omega)] at htest
    rw [ifM_true htest]
    have hf : callM sp_ltrim [(nmM "found")] [("told", pvL p), ("at", .int (lz p.2)), ("found", pvL r)] = ret (pvL (trimI r.1 r.2)) := by
      unfold callM
      rw [rowM, nm_of (a := pvL r) rfl, bnd_ret, rowM]
      show bnd (ret [pvL r]) _ = _
      rw [bnd_ret, ht]
    rw [ha hlt] at hf
    refine biM_of hf (tup2_of hc (row_of (n := p.2.length - 2 * lz p.2 - 1) (biM_of (biM_of hlen (biM_of hc hat m2) sub_i) hc sub_i) (by omega) (by omega) (by omega))) ?_
    rw [pvL_mk, eq_l, decide_eq_true rfl]
  · rw [decide_eq_false (by omega)] at htest
    rw [ifM_false htest]
    rfl
theorem u_inv_b {p : Int × List Rt} (h : okW p) (hne : lz p.2 ≠ p.2.length) : runF ["told"] m_law_inverse_right [pvL p] = ret (.bool true) := by
  obtain ⟨q, r, f1, f2, f3, f4⟩ := inv_facts h hne
  obtain ⟨p1, p2, hC, h1, h4⟩ := h
  have hr := inv_ret h4 f3 f4
  unfold e_inv at hr
  have hz := lz_le p.2
  have hlen := len_s (show p.2.length ≤ 1000 by omega)
  have htr : sp_ltrim [pvL p] = ret (pvL (p.1 + lz p.2, p.2.drop (lz p.2))) := by rw [sp_ltrim_of (by omega), trim_lz]
  have hfrom := from_s (a := p.2) (i := (lz p.2 : Int)) (by omega) (by omega)
  rw [Int.toNat_natCast] at hfrom
  have hloop := at_start (p := p) (by omega)
  have hv : decide ((lz p.2 : Int) = (p.2.length : Int)) = false := decide_eq_false (by omega)
  have b1 : (seqM (asg (callM sp_lmul [(callM sp_linverse [(nmM "told")]), (nmM "told")]) (put "found")) (seqM (rtM (ifM (tcM ltV (biM mulV (nmM "at") (cM (.int 2))) (bltM lenV [(biM atV (nmM "told") (cM (.int 1)))])) (biM eqV (callM sp_ltrim [(nmM "found")]) (tupM [(cM (.int 0)), (biM addV (lstM [(tupM [(cM (.int 1)), (cM (.int 1))])]) (biM mulV (lstM [(tupM [(cM (.int 0)), (cM (.int 1))])]) (biM subV (biM subV (bltM lenV [(biM atV (nmM "told") (cM (.int 1)))]) (biM mulV (cM (.int 2)) (nmM "at"))) (cM (.int 1)))))])) (cM (.bool true)))) nilM)) ⟨[("told", pvL p), ("at", .int (lz p.2))], none⟩ = ret (.ret (.bool true), ⟨[("told", pvL p), ("at", .int (lz p.2)), ("found", pvL r)], none⟩) := by
    rw [seqM, asg]
    simp only [Sig.all]
    rw [show callM sp_lmul [(callM sp_linverse [(nmM "told")]), (nmM "told")] [("told", pvL p), ("at", .int (lz p.2))] = ret (pvL r) by simp (decide := true) only [runF, seqM, asg, rtM, nilM, ifS, raS, stS, nmM, cM, unM, biM, tupM, lstM, callM, bltM, ifM, orM, getM, tcM, tvM, ntM, alM, anM, ivM, irM, rowM, allT, anyT, toB_b, unp_t, unp_r, unp_l, putL, List.reverse_cons, List.reverse_nil, List.nil_append, List.cons_append, List.zip_cons_cons, List.zip_nil_left, List.zip_nil_right, List.length_cons, List.length_nil, lk_hit, lk_miss, sr_nil, sr_hit, sr_miss, st_none, al_none, al_some, put_none, put_some, bnd_ret, bnd_fail, bnd_stuck, bnd_bnd, lift_some', lift_none', noErr_ret, few_ok, sub_c, sub_d, sub_n, if_true, ite_true, dite_true, Bool.false_eq_true, if_false, bnd_id, at_t0, at_t1, at_r0, at_r1, at_l0, at_l1, add_i, sub_i, neg_i, lt_i, le_i, gt_i, ge_i, eq_i, ne_i, eq_r, ne_r, eq_s, ne_s, eq_l, ne_l, abs_i, min_i, ite_false, pvR_mk, pvL_mk, setR_lookup, st_some, flat_r, mu_isNone, Option.isNone_none, Option.isNone_some, Bool.not_true, Bool.not_false, decide_true, decide_false, Bool.and_true, Bool.true_and, reduceCtorEq, f1, f2]]
    rw [bnd_ret, if_pos (show stor _ _ = true from rfl)]
    rw [show put "found" (pvL r) ⟨[("told", pvL p), ("at", .int (lz p.2))], none⟩ = some ⟨[("told", pvL p), ("at", .int (lz p.2)), ("found", pvL r)], none⟩ by simp (decide := true) only [runF, seqM, asg, rtM, nilM, ifS, raS, stS, nmM, cM, unM, biM, tupM, lstM, callM, bltM, ifM, orM, getM, tcM, tvM, ntM, alM, anM, ivM, irM, rowM, allT, anyT, toB_b, unp_t, unp_r, unp_l, putL, List.reverse_cons, List.reverse_nil, List.nil_append, List.cons_append, List.zip_cons_cons, List.zip_nil_left, List.zip_nil_right, List.length_cons, List.length_nil, lk_hit, lk_miss, sr_nil, sr_hit, sr_miss, st_none, al_none, al_some, put_none, put_some, bnd_ret, bnd_fail, bnd_stuck, bnd_bnd, lift_some', lift_none', noErr_ret, few_ok, sub_c, sub_d, sub_n, if_true, ite_true, dite_true, Bool.false_eq_true, if_false, bnd_id, at_t0, at_t1, at_r0, at_r1, at_l0, at_l1, add_i, sub_i, neg_i, lt_i, le_i, gt_i, ge_i, eq_i, ne_i, eq_r, ne_r, eq_s, ne_s, eq_l, ne_l, abs_i, min_i, ite_false, pvR_mk, pvL_mk, setR_lookup, st_some, flat_r, mu_isNone, Option.isNone_none, Option.isNone_some, Bool.not_true, Bool.not_false, decide_true, decide_false, Bool.and_true, Bool.true_and, reduceCtorEq]]
    simp only [lift_some', bnd_ret]
    rw [seqM, rtM]
    simp only [Sig.all]
    rw [hr]
    rfl
  unfold m_law_inverse_right
  generalize (seqM (asg (callM sp_lmul [(callM sp_linverse [(nmM "told")]), (nmM "told")]) (put "found")) _) = rest at *
  simp (decide := true) only [runF, seqM, asg, rtM, nilM, ifS, raS, stS, nmM, cM, unM, biM, tupM, lstM, callM, bltM, ifM, orM, getM, tcM, tvM, ntM, alM, anM, ivM, irM, rowM, allT, anyT, toB_b, unp_t, unp_r, unp_l, putL, List.reverse_cons, List.reverse_nil, List.nil_append, List.cons_append, List.zip_cons_cons, List.zip_nil_left, List.zip_nil_right, List.length_cons, List.length_nil, lk_hit, lk_miss, sr_nil, sr_hit, sr_miss, st_none, al_none, al_some, put_none, put_some, bnd_ret, bnd_fail, bnd_stuck, bnd_bnd, lift_some', lift_none', noErr_ret, few_ok, sub_c, sub_d, sub_n, if_true, ite_true, dite_true, Bool.false_eq_true, if_false, bnd_id, at_t0, at_t1, at_r0, at_r1, at_l0, at_l1, add_i, sub_i, neg_i, lt_i, le_i, gt_i, ge_i, eq_i, ne_i, eq_r, ne_r, eq_s, ne_s, eq_l, ne_l, abs_i, min_i, ite_false, pvR_mk, pvL_mk, setR_lookup, st_some, flat_r, mu_isNone, Option.isNone_none, Option.isNone_some, Bool.not_true, Bool.not_false, decide_true, decide_false, Bool.and_true, Bool.true_and, reduceCtorEq, hloop, htr, hfrom, hlen, hv, b1]
theorem u_inverse {p : Int × List Rt} (h : okW p) : runF ["told"] m_law_inverse_right [pvL p] = ret (.bool true) := by
  by_cases hz : lz p.2 = p.2.length
  · exact u_inv_a h hz
  · exact u_inv_b h hz
section
variable {wd : Wd}
theorem k_law_inverse_right (C : Wld wd) : Fn wd 10 "_law_inverse_right" sp_law_inverse_right := (f_law_inverse_right C (k_lmul C) (k_ltrim C) (k_linverse C)).sub fun ds n r n' e => by
  unfold sp_law_inverse_right at e
  split at e
  · obtain ⟨p, rfl, e1⟩ := lauM_some e
    split at e1
    case isFalse => cases e1
    next hg => rw [u_inverse hg]; exact e1
  · cases e
theorem k_law_cut_right (C : Wld wd) : Fn wd 6 "_law_cut_right" sp_law_cut_right := (f_law_cut_right C (k_ltrim C) (k_lcut C) (k_law_rows C)).sub fun ds n r n' e => by
  unfold sp_law_cut_right at e
  split at e
  · obtain ⟨p, rfl, e1⟩ := lauM_some e
    split at e1
    case isFalse => cases e1
    next hg => rw [u_cut_right hg.1 hg.2.1 hg.2.2]; exact e1
  · cases e
end
end Lz
set_option linter.unusedSimpArgs false
namespace Lz
open PySem PySem.W PyProof.Rows
noncomputable def b_law_power_right_1 : Sig → M (Fl × Sig) := (seqM (asg (callM sp_lmul [(nmM "due"), (nmM "base")]) (put "due")) nilM)
noncomputable def m_law_power_right : Sig → M (Fl × Sig) := (seqM (asg (biM eqV (listC "number" [] (ivM (biM atV (nmM "told") (cM (.int 1)))) (tcM neV (nmM "number") (tupM [(cM (.int 0)), (cM (.int 1))])) (nmM "number")) (lstM [])) (put "noughts")) (seqM (ifS (tcM eqV (nmM "many") (cM (.int 0))) (seqM (rtM (biM eqV (callM sp_lpower [(nmM "told"), (cM (.int 0))]) (tupM [(cM (.int 0)), (biM addV (lstM [(tupM [(cM (.int 1)), (cM (.int 1))])]) (biM mulV (lstM [(tupM [(cM (.int 0)), (cM (.int 1))])]) (biM subV (bltM lenV [(biM atV (nmM "told") (cM (.int 1)))]) (cM (.int 1)))))]))) nilM) nilM) (seqM (ifS (tvM (nmM "noughts")) (seqM (rtM (orM (biM gtV (nmM "many") (cM (.int 0))) (biM eqV (kindM ["many", "told"] (callM sp_lpower [(nmM "told"), (nmM "many")])) (cM (.str "limit"))))) nilM) nilM) (seqM (asg (ifM (tcM gtV (nmM "many") (cM (.int 0))) (callM sp_ltrim [(nmM "told")]) (callM sp_linverse [(nmM "told")])) (put "base")) (seqM (asg (tupM [(callM sp_lpower [(nmM "told"), (nmM "many")]), (nmM "base")]) (unp 2 fun ds => putL [put "due", put "found"] ds.reverse)) (seqM (foS "turn" (irM [(biM subV (bltM absV [(nmM "many")]) (cM (.int 1)))]) b_law_power_right_1) (seqM (rtM (biM eqV (nmM "found") (nmM "due"))) nilM)))))))
set_option maxHeartbeats 4000000 in
theorem v_law_power_right {wd : Wd} (C : Wld wd) (h_lmul : Fn wd 7 "lmul" sp_lmul) (h_ltrim : Fn wd 2 "ltrim" sp_ltrim) (h_linverse : Fn wd 6 "linverse" sp_linverse) (h_lpower : Fn wd 9 "lpower" sp_lpower) : Sv wd (sco 38) 11 (execs (bd 38)) (m_law_power_right) := (Sv.cons (Sv.assign (X.cmp (Ev.listComp [] (by constructor <;> decide) (I.val (X.at X.nm X.int)) (TestsV.one (T.cmp X.nm (X.tup (X.rc X.int (X.rc X.int X.rn))) op_ne)) X.nm) (X.lst X.rn) op_eq) (Av.name (by first | exact .inl rfl | exact .inr rfl))) (Sv.cons (S.iff (T.cmp X.nm X.int op_eq) (Sv.cons (S.rt (X.cmp (X.call (h_lpower) (by decide) (by rfl) (X.rc X.nm (X.rc X.int X.rn))) (X.tup (X.rc X.int (X.rc (X.bin (X.lst (X.rc (X.tup (X.rc X.int (X.rc X.int X.rn))) X.rn)) (X.bin (X.lst (X.rc (X.tup (X.rc X.int (X.rc X.int X.rn))) X.rn)) (X.bin (X.blt C.len (.inl ⟨_, rfl⟩) opN_len (by rfl) (X.rc (X.at X.nm X.int) X.rn)) X.int op_sub) op_mul) op_add) X.rn))) op_eq)) S.nil) S.nil) (Sv.cons (S.iff (T.val X.nm) (Sv.cons (S.rt (X.or (X.cmp X.nm X.int op_gt) (X.cmp (X.kind ["many", "told"] C C.c38 (X.call (h_lpower) (by decide) (by rfl) (X.rc X.nm (X.rc X.nm X.rn))) (by rfl) (by decide) (by intros; rfl) (by intros; rfl) (by decide) (by decide) (by decide) rfl rfl rfl) X.str op_eq))) S.nil) S.nil) (Sv.cons (Sv.assign (X.ife (T.cmp X.nm X.int op_gt) (X.call (h_ltrim) (by decide) (by rfl) (X.rc X.nm X.rn)) (X.call (h_linverse) (by decide) (by rfl) (X.rc X.nm X.rn))) (Av.name (by first | exact .inl rfl | exact .inr rfl))) (Sv.cons (S.swap (X.tup (X.rc (X.call (h_lpower) (by decide) (by rfl) (X.rc X.nm (X.rc X.nm X.rn))) (X.rc X.nm X.rn))) (by rfl) (by rfl) (by intro env h; have hb : env.blockKind = .function := (by unfold Env.blockKind; rw [h]; rfl); unfold swappedStores Env.kindOf; rw [hb, h]; rfl)) (Sv.cons (S.fo (I.rng C.range (by rfl) (X.rc (X.bin (X.blt C.abs (.inl ⟨_, rfl⟩) opN_abs (by rfl) (X.rc X.nm X.rn)) X.int op_sub) X.rn)) (Sv.cons (Sv.assign (X.call (h_lmul) (by decide) (by rfl) (X.rc X.nm (X.rc X.nm X.rn))) (Av.name (by first | exact .inl rfl | exact .inr rfl))) S.nil) (by first | exact .inl rfl | exact .inr rfl)) (Sv.cons (S.rt (X.cmp X.nm X.nm op_eq)) S.nil)))))))
theorem f_law_power_right {wd : Wd} (C : Wld wd) (h_lmul : Fn wd 7 "lmul" sp_lmul) (h_ltrim : Fn wd 2 "ltrim" sp_ltrim) (h_linverse : Fn wd 6 "linverse" sp_linverse) (h_lpower : Fn wd 9 "lpower" sp_lpower) : Fn wd 12 "_law_power_right" (runF ["told", "many"] (m_law_power_right)) := Fn.mk C.at38 (v_law_power_right C h_lmul h_ltrim h_linverse h_lpower) (fun _ _ _ => len2 fun a b => rfl) (by decide) (by decide)

noncomputable def b_law_plain_right_1 : Sig → M (Fl × Sig) := (seqM (asg (callM sp_smul [(nmM "found"), (nmM "base")]) (put "found")) nilM)
noncomputable def m_law_plain_right : Sig → M (Fl × Sig) := (seqM (ifS (anM [(tcM neV (callM sp_cut [(nmM "rest"), (cM (.int 3))]) (biM uptoV (biM addV (nmM "rest") (biM mulV (lstM [(tupM [(cM (.int 0)), (cM (.int 1))])]) (cM (.int 3)))) (cM (.int 3)))), (tcM neV (callM sp_lplain [(tupM [(cM (.int 5)), (cM (.int 2))]), (cM (.int 3))]) (tupM [(cM (.int 0)), (lstM [(tupM [(cM (.int 5)), (cM (.int 2))]), (tupM [(cM (.int 0)), (cM (.int 1))]), (tupM [(cM (.int 0)), (cM (.int 1))])])]))]) (seqM (rtM (cM (.bool false))) nilM) nilM) (seqM (ifS (tcM eqV (biM atV (nmM "rest") (cM (.int 0))) (tupM [(cM (.int 0)), (cM (.int 1))])) (seqM (asg (lstM [(kindM ["rest"] (callM sp_sinverse [(nmM "rest")])), (kindM ["rest"] (callM sp_swhole_power [(nmM "rest"), (unM negV (cM (.int 1)))]))]) (put "kinds")) (seqM (rtM (biM eqV (nmM "kinds") (biM mulV (lstM [(cM (.str "division by zero"))]) (cM (.int 2))))) nilM)) nilM) (seqM (asg (tupM [(callM sp_cut [(lstM [(tupM [(cM (.int 1)), (cM (.int 1))])]), (bltM lenV [(nmM "rest")])]), (ifM (tcM ltV (nmM "many") (cM (.int 0))) (callM sp_sinverse [(nmM "rest")]) (nmM "rest"))]) (unp 2 fun ds => putL [put "base", put "found"] ds.reverse)) (seqM (foS "turn" (irM [(bltM absV [(nmM "many")])]) b_law_plain_right_1) (seqM (rtM (biM eqV (callM sp_swhole_power [(nmM "rest"), (nmM "many")]) (nmM "found"))) nilM)))))
set_option maxHeartbeats 4000000 in
theorem v_law_plain_right {wd : Wd} (C : Wld wd) (h_cut : Fn wd 2 "cut" sp_cut) (h_smul : Fn wd 6 "smul" sp_smul) (h_sinverse : Fn wd 5 "sinverse" sp_sinverse) (h_swhole_power : Fn wd 7 "swhole_power" sp_swhole_power) (h_lplain : Fn wd 2 "lplain" sp_lplain) : Sv wd (sco 41) 9 (execs (bd 41)) (m_law_plain_right) := (Sv.cons (S.iff (T.or2 (T.cmp (X.call (h_cut) (by decide) (by rfl) (X.rc X.nm (X.rc X.int X.rn))) (X.upto (X.bin X.nm (X.bin (X.lst (X.rc (X.tup (X.rc X.int (X.rc X.int X.rn))) X.rn)) X.int op_mul) op_add) X.int) op_ne) (T.cmp (X.call (h_lplain) (by decide) (by rfl) (X.rc (X.tup (X.rc X.int (X.rc X.int X.rn))) (X.rc X.int X.rn))) (X.tup (X.rc X.int (X.rc (X.lst (X.rc (X.tup (X.rc X.int (X.rc X.int X.rn))) (X.rc (X.tup (X.rc X.int (X.rc X.int X.rn))) (X.rc (X.tup (X.rc X.int (X.rc X.int X.rn))) X.rn)))) X.rn))) op_ne)) (Sv.cons (S.rt X.bool) S.nil) S.nil) (Sv.cons (S.iff (T.cmp (X.at X.nm X.int) (X.tup (X.rc X.int (X.rc X.int X.rn))) op_eq) (Sv.cons (Sv.assign (X.lst (X.rc (X.kind ["rest"] C C.c41 (X.call (h_sinverse) (by decide) (by rfl) (X.rc X.nm X.rn)) (by rfl) (by decide) (by intros; rfl) (by intros; rfl) (by decide) (by decide) (by decide) rfl rfl rfl) (X.rc (X.kind ["rest"] C C.c41 (X.call (h_swhole_power) (by decide) (by rfl) (X.rc X.nm (X.rc (X.un X.int op_neg) X.rn))) (by rfl) (by decide) (by intros; rfl) (by intros; rfl) (by decide) (by decide) (by decide) rfl rfl rfl) X.rn))) (Av.name (by first | exact .inl rfl | exact .inr rfl))) (Sv.cons (S.rt (X.cmp X.nm (X.bin (X.lst (X.rc X.str X.rn)) X.int op_mul) op_eq)) S.nil)) S.nil) (Sv.cons (S.swap (X.tup (X.rc (X.call (h_cut) (by decide) (by rfl) (X.rc (X.lst (X.rc (X.tup (X.rc X.int (X.rc X.int X.rn))) X.rn)) (X.rc (X.blt C.len (.inl ⟨_, rfl⟩) opN_len (by rfl) (X.rc X.nm X.rn)) X.rn))) (X.rc (X.ife (T.cmp X.nm X.int op_lt) (X.call (h_sinverse) (by decide) (by rfl) (X.rc X.nm X.rn)) X.nm) X.rn))) (by rfl) (by rfl) (by intro env h; have hb : env.blockKind = .function := (by unfold Env.blockKind; rw [h]; rfl); unfold swappedStores Env.kindOf; rw [hb, h]; rfl)) (Sv.cons (S.fo (I.rng C.range (by rfl) (X.rc (X.blt C.abs (.inl ⟨_, rfl⟩) opN_abs (by rfl) (X.rc X.nm X.rn)) X.rn)) (Sv.cons (Sv.assign (X.call (h_smul) (by decide) (by rfl) (X.rc X.nm (X.rc X.nm X.rn))) (Av.name (by first | exact .inl rfl | exact .inr rfl))) S.nil) (by first | exact .inl rfl | exact .inr rfl)) (Sv.cons (S.rt (X.cmp (X.call (h_swhole_power) (by decide) (by rfl) (X.rc X.nm (X.rc X.nm X.rn))) X.nm op_eq)) S.nil)))))
theorem f_law_plain_right {wd : Wd} (C : Wld wd) (h_cut : Fn wd 2 "cut" sp_cut) (h_smul : Fn wd 6 "smul" sp_smul) (h_sinverse : Fn wd 5 "sinverse" sp_sinverse) (h_swhole_power : Fn wd 7 "swhole_power" sp_swhole_power) (h_lplain : Fn wd 2 "lplain" sp_lplain) : Fn wd 10 "_law_plain_right" (runF ["rest", "many"] (m_law_plain_right)) := Fn.mk C.at41 (v_law_plain_right C h_cut h_smul h_sinverse h_swhole_power h_lplain) (fun _ _ _ => len2 fun a b => rfl) (by decide) (by decide)

end Lz
set_option linter.unusedSimpArgs false
namespace Lz
open PySem PySem.W PyProof.Rows

section
variable {ρ : Rho} {a b d : PV}
theorem seq_next {m1 m2 : Sig → M (Fl × Sig)} {σ σ' : Sig} (h : m1 σ = ret (.next, σ')) : seqM m1 m2 σ = m2 σ' := by rw [seqM, h]; rfl
theorem seq_ret {m1 m2 : Sig → M (Fl × Sig)} {σ σ' : Sig} (h : m1 σ = ret (.ret d, σ')) : seqM m1 m2 σ = ret (.ret d, σ') := by rw [seqM, h]; rfl
theorem asg_nm {mv : Rho → M PV} {x : Str} (h : mv ρ = ret d) : asg mv (put x) ⟨ρ, none⟩ = ret (.next, ⟨setR x d ρ, none⟩) := by
  rw [asg]
  simp only [Sig.all]
  rw [h]
  rfl
theorem rt_of {mv : Rho → M PV} (h : mv ρ = ret d) : seqM (rtM mv) nilM ⟨ρ, none⟩ = ret (.ret d, ⟨ρ, none⟩) := by
  refine seq_ret ?_
  rw [rtM]
  simp only [Sig.all]
  rw [h]
  rfl
theorem if_skip {mt : Rho → M Bool} {mb rest : Sig → M (Fl × Sig)} (h : mt ρ = ret false) : seqM (ifS mt mb nilM) rest ⟨ρ, none⟩ = rest ⟨ρ, none⟩ := by
  refine seq_next ?_
  rw [ifS]
  simp only [Sig.all]
  rw [h]
  rfl
theorem if_take {mt : Rho → M Bool} {mb rest : Sig → M (Fl × Sig)} {σ' : Sig} (h : mt ρ = ret true) (hb : mb ⟨ρ, none⟩ = ret (.ret d, σ')) : seqM (ifS mt mb nilM) rest ⟨ρ, none⟩ = ret (.ret d, σ') := by
  refine seq_ret ?_
  rw [ifS]
  simp only [Sig.all]
  rw [h]
  exact hb
theorem run_of {m : Sig → M (Fl × Sig)} {names : List Str} {ds : List PV} {σ' : Sig} (hl : ds.length = names.length) (h : m ⟨names.zip ds, none⟩ = ret (.ret d, σ')) : runF names m ds = ret d := by
  unfold runF
  rw [if_pos hl, h]
  rfl
theorem asg_two {m1 m2 : Rho → M PV} {x y : Str} (h1 : m1 ρ = ret a) (h2 : m2 ρ = ret b) : asg (tupM [m1, m2]) (unp 2 fun ds => putL [put y, put x] ds.reverse) ⟨ρ, none⟩ = ret (.next, ⟨setR x a (setR y b ρ), none⟩) := by
  rw [asg]
  simp only [Sig.all]
  rw [tup2_of h1 h2]
  rfl
theorem fo_of {x : Str} {mi : Rho → M (List PV)} {mb : Sig → M (Fl × Sig)} {ds : List PV} {σ' : Sig} (h : mi ρ = ret ds) (h2 : forM x mb ds ⟨ρ, none⟩ = ret (.next, σ')) : foS x mi mb ⟨ρ, none⟩ = ret (.next, σ') := by
  rw [foS, h]
  exact h2
theorem for_step {x : Str} {mb : Sig → M (Fl × Sig)} {ds : List PV} {ρ' : Rho} (h : mb ⟨setR x d ρ, none⟩ = ret (.next, ⟨ρ', none⟩)) : forM x mb (d :: ds) ⟨ρ, none⟩ = forM x mb ds ⟨ρ', none⟩ := by
  rw [forM, show put x d ⟨ρ, none⟩ = some ⟨setR x d ρ, none⟩ from rfl]
  simp only
  rw [h]
  rfl
theorem call1_of {sp : List PV → M PV} {m1 : Rho → M PV} (h1 : m1 ρ = ret a) : callM sp [m1] ρ = sp [a] := by unfold callM; rw [rowM, h1, bnd_ret, rowM]; rfl
theorem call2_of {sp : List PV → M PV} {m1 m2 : Rho → M PV} (h1 : m1 ρ = ret a) (h2 : m2 ρ = ret b) : callM sp [m1, m2] ρ = sp [a, b] := by unfold callM; rw [rowM, h1, bnd_ret, rowM, h2, bnd_ret, rowM]; rfl
theorem blt1_of {g : List PV → Option PV} {m1 : Rho → M PV} (h1 : m1 ρ = ret a) (hg : g [a] = some d) : bltM g [m1] ρ = ret d := by unfold bltM; rw [rowM, h1, bnd_ret, rowM]; show lift (g [a]) = _; rw [hg]; rfl
theorem c_of : cM d ρ = ret d := rfl
theorem tv_of {m : Rho → M PV} {c : Bool} (h : m ρ = ret (.bool c)) : tvM m ρ = ret c := by unfold tvM; rw [h]; rfl
theorem or_true {mx my : Rho → M PV} (h : mx ρ = ret (.bool true)) : orM mx my ρ = ret (.bool true) := by unfold orM; rw [h]; rfl
theorem or_false {mx my : Rho → M PV} (h : mx ρ = ret (.bool false)) : orM mx my ρ = my ρ := by unfold orM; rw [h]; rfl
end

theorem nought_comp {ρ : Rho} : ∀ (a : List Rt) (acc : List PV), compF "number" ρ (tcM neV (nmM "number") (tupM [(cM (.int 0)), (cM (.int 1))])) (fun ρ' acc => bnd (nmM "number" ρ') fun e => ret (acc ++ [e])) (a.map pvR) acc = ret (acc ++ (a.filter fun q => !decide (q = (0, 1))).map pvR)
  | [], acc => by simp [compF]
  | q :: a, acc => by
    have ht : (tcM neV (nmM "number") (tupM [(cM (.int 0)), (cM (.int 1))])) (("number", pvR q) :: ρ) = ret (!decide (q = (0, 1))) := tcM_of (nm_of (a := pvR q) rfl) (tup2_of c_of c_of) (ne_r q (0, 1))
    have hv : nmM "number" (("number", pvR q) :: ρ) = ret (pvR q) := nm_of rfl
    rw [List.map_cons, compF, ht]
    simp only [noErr_ret, bnd_ret]
    cases hq : !decide (q = ((0, 1) : Rt)) with
    | true =>
      simp only [if_true, hv, noErr_ret, bnd_ret]
      rw [nought_comp a, List.filter_cons, hq]
      simp
    | false =>
      simp only [Bool.false_eq_true, if_false]
      rw [nought_comp a, List.filter_cons, hq]
      simp
theorem filt_lz : ∀ a : List Rt, (a.filter fun q => !decide (q = (0, 1))) = [] ↔ lz a = a.length
  | [] => by simp [lz]
  | q :: a => by
    have ih := filt_lz a
    unfold lz
    by_cases hq : q = (0, 1)
    · rw [if_pos hq, List.filter_cons]
      simp only [hq, decide_true, Bool.not_true, Bool.false_eq_true, if_false, List.length_cons, ih]
      omega
    · rw [if_neg hq, List.filter_cons]
      simp [hq]
theorem noughts_of {ρ : Rho} {p : Int × List Rt} (h : ρ.lookup ("told" : Str) = some (pvL p)) (hl : p.2.length ≤ 1000) :
    (biM eqV (listC "number" [] (ivM (biM atV (nmM "told") (cM (.int 1)))) (tcM neV (nmM "number") (tupM [(cM (.int 0)), (cM (.int 1))])) (nmM "number")) (lstM [])) ρ = ret (.bool (decide (lz p.2 = p.2.length))) := by
  refine biM_of (a := pvS (p.2.filter fun q => !decide (q = (0, 1)))) (b := pvS []) ?_ rfl ?_
  · unfold listC
    rw [show ivM (biM atV (nmM "told") (cM (.int 1))) ρ = ret (p.2.map pvR) by
      unfold ivM
      rw [biM_of (nm_of h) c_of at_l1, bnd_ret, items_s hl]
      rfl]
    simp only [noErr_ret, bnd_ret]
    rw [nought_comp]
    rfl
  · rw [eq_s]
    simp only [filt_lz]
theorem pow_body {ρ : Rho} {x y z : Int × List Rt} (h1 : ρ.lookup ("due" : Str) = some (pvL x)) (h2 : ρ.lookup ("base" : Str) = some (pvL y)) (h : sp_lmul [pvL x, pvL y] = ret (pvL z)) : b_law_power_right_1 ⟨ρ, none⟩ = ret (.next, ⟨setR "due" (pvL z) ρ, none⟩) :=
  seq_next (asg_nm ((call2_of (nm_of h1) (nm_of h2)).trans h))
theorem due_loop {ρ : Rho} {L : Int} {s s2 s3 s4 : List Rt} {m : Nat} (hc : Chain s s2 s3 s4) (hl : s.length ≤ 4) (hL : -20 ≤ L) (hL' : L ≤ 20) (h1 : ρ.lookup ("due" : Str) = some (pvL (L, s))) (h2 : ρ.lookup ("base" : Str) = some (pvL (L, s))) (hm1 : 1 ≤ m) (hm3 : m ≤ 3) :
    ∃ ρ', forM "turn" b_law_power_right_1 ((List.range (m - 1)).map fun i => PV.int (i : Nat)) ⟨ρ, none⟩ = ret (.next, ⟨ρ', none⟩) ∧ ρ'.lookup ("due" : Str) = some (pvL (L * m, chain3 s s2 s3 m)) ∧ ρ'.lookup ("found" : Str) = ρ.lookup ("found" : Str) := by
  have l2 := smul_len hc.a
  have n1 : (("due" : Str) = "turn") = False := by decide
  have n2 : (("base" : Str) = "turn") = False := by decide
  have n3 : (("base" : Str) = "due") = False := by decide
  have n4 : (("found" : Str) = "turn") = False := by decide
  have n5 : (("found" : Str) = "due") = False := by decide
  have hm : m = 1 ∨ m = 2 ∨ m = 3 := by omega
  have e1 : sp_lmul [pvL (L, s), pvL (L, s)] = ret (pvL (L + L, s2)) := sp_lmul_of ⟨by dsimp only; omega, by dsimp only; omega, by dsimp only; omega, by dsimp only; omega, by dsimp only; omega, by dsimp only; omega⟩ (by unfold lmulO; dsimp only; rw [hc.a]; rfl)
  have e2 : sp_lmul [pvL (L + L, s2), pvL (L, s)] = ret (pvL (L + L + L, s3)) := sp_lmul_of ⟨by dsimp only; omega, by dsimp only; omega, by dsimp only; omega, by dsimp only; omega, by dsimp only; omega, by dsimp only; omega⟩ (by unfold lmulO; dsimp only; rw [hc.b]; rfl)
  have b1 := pow_body (ρ := setR "turn" (.int (0 : Nat)) ρ) (by rw [setR_lookup]; simp only [n1, if_false]; exact h1) (by rw [setR_lookup]; simp only [n2, if_false]; exact h2) e1
  rcases hm with rfl | rfl | rfl
  · exact ⟨ρ, rfl, by rw [h1]; simp [chain3], rfl⟩
  · refine ⟨_, for_step b1, ?_, ?_⟩
    · rw [setR_lookup, if_pos rfl]
      simp only [chain3]
      rw [show L + L = L * (2 : Nat) by omega]
      rfl
    · rw [setR_lookup, setR_lookup]
      simp only [n4, n5, if_false]
  · have b2 := pow_body (ρ := setR "turn" (.int (1 : Nat)) (setR "due" (pvL (L + L, s2)) (setR "turn" (.int (0 : Nat)) ρ))) (by rw [setR_lookup, setR_lookup]; simp only [n1, if_false, if_true]) (by rw [setR_lookup, setR_lookup, setR_lookup]; simp only [n2, n3, if_false]; exact h2) e2
    refine ⟨_, (for_step b1).trans (for_step b2), ?_, ?_⟩
    · rw [setR_lookup, if_pos rfl]
      simp only [chain3]
      rw [show L + L + L = L * (3 : Nat) by omega]
      rfl
    · rw [setR_lookup, setR_lookup, setR_lookup, setR_lookup]
      simp only [n4, n5, if_false]
end Lz
set_option linter.unusedSimpArgs false
namespace Lz
open PySem PySem.W PyProof.Rows

theorem trim_head {L : Int} : ∀ {s : List Rt}, s[0]? ≠ some (0, 1) → trimI L s = (L, s)
  | [], _ => rfl
  | x :: r, h => by
    have : x ≠ (0, 1) := fun z => h (by rw [z]; rfl)
    unfold trimI
    rw [if_neg this]
theorem powM_pos {a s2 s3 s4 : List Rt} {many : Int} (hc : Chain a s2 s3 s4) (hl : a.length ≤ 300) (h1 : 1 ≤ many) (h3 : many ≤ 3) : powM a many = ret (pvS (chain3 a s2 s3 many.natAbs)) := by
  have hp := pow_chain hc hl (m := many.natAbs) (by omega) (by omega)
  unfold one1 at hp
  unfold powM
  rw [if_pos ⟨by omega, by omega, by omega⟩, if_neg (by omega), bnd_ret, serM_pv, hp]
  rfl
theorem lpow0_pos {p : Int × List Rt} {L many : Int} {s s2 s3 s4 : List Rt} (ht : trimI p.1 p.2 = (L, s)) (hc : Chain s s2 s3 s4) (hl : s.length ≤ 300) (h1 : 1 ≤ many) (h3 : many ≤ 3) : lpow0 p many = ret (pvL (L * many, chain3 s s2 s3 many.natAbs)) := by
  unfold lpow0
  rw [if_neg (by omega), ht]
  dsimp only
  rw [powM_pos hc hl h1 h3, bnd_ret, pvL_mk]
structure PowF (p : Int × List Rt) (many : Int) (L : Int) (s s2 s3 s4 : List Rt) : Prop where
  chain : Chain s s2 s3 s4
  len : s.length ≤ 4
  lo : -20 ≤ L
  hi : L ≤ 20
  base : (if many > 0 then sp_ltrim [pvL p] else sp_linverse [pvL p]) = ret (pvL (L, s))
  pow : sp_lpower [pvL p, .int many] = ret (pvL (L * many.natAbs, chain3 s s2 s3 many.natAbs))
theorem lpower_of {p : Int × List Rt} {many : Int} (h : p.2.length ≤ 400) (h0 : -400 ≤ many) (h1 : many ≤ 400) : sp_lpower [pvL p, .int many] = if many < 0 then bnd (linvM p) fun y => sp_lpower0 [y, .int (0 - many)] else lpow0 p many := by
  unfold sp_lpower
  simp only [lauM_pv]
  rw [if_pos ⟨h, h0, h1⟩]
theorem lpower0_of {p : Int × List Rt} {many : Int} (h : p.2.length ≤ 400) (h0 : 0 ≤ many) (h1 : many ≤ 400) : sp_lpower0 [pvL p, .int many] = lpow0 p many := by
  unfold sp_lpower0
  simp only [lauM_pv]
  rw [if_pos ⟨h, h0, h1⟩]
theorem pow_facts {p : Int × List Rt} {many : Int} (h : okW p) (hne : lz p.2 ≠ p.2.length) (hm : many ≠ 0) (hm1 : -3 ≤ many) (hm3 : many ≤ 3) : ∃ L s s2 s3 s4, PowF p many L s s2 s3 s4 := by
  obtain ⟨t, ht⟩ := tr_drop h hne
  obtain ⟨p1, p2, hC, h1, h4⟩ := h
  have hz := lz_le p.2
  have hl := sinvO_len ht.inv
  have hld : (p.2.drop (lz p.2)).length = p.2.length - lz p.2 := List.length_drop
  by_cases hpos : many > 0
  · obtain ⟨s2, s3, s4, hc⟩ := ht.ct
    refine ⟨p.1 + lz p.2, p.2.drop (lz p.2), s2, s3, s4, hc, by omega, by omega, by omega, ?_, ?_⟩
    · rw [if_pos hpos, sp_ltrim_of (by omega), trim_lz]
    · rw [lpower_of (by omega) (by omega) (by omega), if_neg (by omega), lpow0_pos (trim_lz _ _) hc (by omega) (by omega) hm3]
      rw [show ((many.natAbs : Nat) : Int) = many by omega]
  · obtain ⟨s2, s3, s4, hc⟩ := ht.cs
    refine ⟨0 - (p.1 + lz p.2), t, s2, s3, s4, hc, by omega, by omega, by omega, ?_, ?_⟩
    · rw [if_neg hpos, sp_linverse_of (by omega), linv_of (by omega) hne ht]
    · rw [lpower_of (by omega) (by omega) (by omega), if_pos (by omega), linv_of (by omega) hne ht, bnd_ret, lpower0_of (by dsimp only; omega) (by omega) (by omega), lpow0_pos (trim_head ht.head) hc (by dsimp only; omega) (by omega) (by omega)]
      rw [show (0 - many).natAbs = many.natAbs by omega, show ((many.natAbs : Nat) : Int) = 0 - many by omega]
theorem u_power {p : Int × List Rt} {many : Int} (h : okW p) (hm1 : -3 ≤ many) (hm3 : many ≤ 3) : runF ["told", "many"] m_law_power_right [pvL p, .int many] = ret (.bool true) := by
  have hw := h
  obtain ⟨p1, p2, hC, h1, h4⟩ := h
  have E0 : ("told" : Str) = "told" := rfl
  by_cases h0 : many = 0
  · refine run_of (σ' := ⟨[("told", pvL p), ("many", .int many), ("noughts", .bool (decide (lz p.2 = p.2.length)))], none⟩) rfl ?_
    unfold m_law_power_right
    refine (seq_next (asg_nm (noughts_of rfl (by omega)))).trans ?_
    refine if_take (tcM_of (nm_of (a := .int many) rfl) c_of (by rw [eq_i, decide_eq_true h0])) (rt_of ?_)
    refine biM_of ((call2_of (nm_of (a := pvL p) rfl) c_of).trans (by rw [lpower_of (by omega) (by omega) (by omega), if_neg (by omega)]; unfold lpow0; rw [if_pos rfl])) (tup2_of c_of (row_of (n := p.2.length - 1) (biM_of (len_of rfl (by omega)) c_of sub_i) (by omega) (by omega) (by omega))) ?_
    rw [pvL_mk, eq_l, decide_eq_true rfl]
  · by_cases hz : lz p.2 = p.2.length
    · refine run_of (σ' := ⟨[("told", pvL p), ("many", .int many), ("noughts", .bool true)], none⟩) rfl ?_
      unfold m_law_power_right
      refine (seq_next (asg_nm (noughts_of rfl (by omega)))).trans ?_
      rw [decide_eq_true hz]
      refine (if_skip (tcM_of (nm_of (a := .int many) rfl) c_of (by rw [eq_i, decide_eq_false h0]))).trans ?_
      refine if_take (tv_of (nm_of rfl)) (rt_of ?_)
      by_cases hpos : many > 0
      · exact or_true (biM_of (nm_of (a := .int many) rfl) c_of (by rw [gt_i, decide_eq_true hpos]))
      · rw [or_false (biM_of (nm_of (a := .int many) rfl) c_of (by rw [gt_i, decide_eq_false hpos]))]
        refine biM_of (kindM_fail (k := "limit") ?_) c_of str_eq1
        refine (call2_of (nm_of (a := pvL p) rfl) (nm_of (a := .int many) rfl)).trans ?_
        rw [lpower_of (by omega) (by omega) (by omega), if_pos (by omega), linv_fail hz]
        rfl
    · obtain ⟨L, s, s2, s3, s4, F⟩ := pow_facts hw hz h0 hm1 hm3
      obtain ⟨ρ', e1, e2, e3⟩ := due_loop (ρ := [("told", pvL p), ("many", .int many), ("noughts", .bool false), ("base", pvL (L, s)), ("due", pvL (L, s)), ("found", pvL (L * many.natAbs, chain3 s s2 s3 many.natAbs))]) (m := many.natAbs) F.chain F.len F.lo F.hi rfl rfl (by omega) (by omega)
      refine run_of (σ' := ⟨ρ', none⟩) rfl ?_
      unfold m_law_power_right
      refine (seq_next (asg_nm (noughts_of rfl (by omega)))).trans ?_
      rw [decide_eq_false hz]
      refine (if_skip (tcM_of (nm_of (a := .int many) rfl) c_of (by rw [eq_i, decide_eq_false h0]))).trans ?_
      refine (if_skip (tv_of (nm_of rfl))).trans ?_
      refine (seq_next (asg_nm (d := pvL (L, s)) ?_)).trans ?_
      · have hb := F.base
        by_cases hpos : many > 0
        · rw [if_pos hpos] at hb
          rw [ifM_true (tcM_of (nm_of (a := .int many) rfl) c_of (by rw [gt_i, decide_eq_true hpos]))]
          exact (call1_of (nm_of (a := pvL p) rfl)).trans hb
        · rw [if_neg hpos] at hb
          rw [ifM_false (tcM_of (nm_of (a := .int many) rfl) c_of (by rw [gt_i, decide_eq_false hpos]))]
          exact (call1_of (nm_of (a := pvL p) rfl)).trans hb
      refine (seq_next (asg_two ((call2_of (nm_of (a := pvL p) rfl) (nm_of (a := .int many) rfl)).trans F.pow) (nm_of (a := pvL (L, s)) rfl))).trans ?_
      refine (seq_next (fo_of ?_ e1)).trans (rt_of (biM_of (nm_of (e3.trans rfl)) (nm_of e2) ?_))
      · unfold irM
        rw [rowM, biM_of (blt1_of (nm_of (a := .int many) rfl) abs_i) c_of sub_i, bnd_ret, rowM]
        show lift (rangeV [.int ((many.natAbs : Int) - 1)]) = _
        rw [range_1 (by omega) (by omega), show ((many.natAbs : Int) - 1).toNat = many.natAbs - 1 by omega]
        rfl
      · rw [eq_l, decide_eq_true rfl]
section
variable {wd : Wd}
theorem k_law_power_right (C : Wld wd) : Fn wd 12 "_law_power_right" sp_law_power_right := (f_law_power_right C (k_lmul C) (k_ltrim C) (k_linverse C) (k_lpower C)).sub fun ds n r n' e => by
  unfold sp_law_power_right at e
  split at e
  · obtain ⟨p, rfl, e1⟩ := lauM_some e
    split at e1
    case isFalse => cases e1
    next hg => rw [u_power hg.1 hg.2.1 hg.2.2]; exact e1
  · cases e
end
end Lz
set_option linter.unusedSimpArgs false
namespace Lz
open PySem PySem.W PyProof.Rows

theorem any2_false {m1 m2 : Rho → M Bool} {ρ : Rho} (h1 : m1 ρ = ret false) (h2 : m2 ρ = ret false) : anM [m1, m2] ρ = ret false := by
  unfold anM; rw [anyT, h1]; simp only [bnd_ret]; rw [anyT, h2]; rfl
theorem cut3 (a : List Rt) : cutI a 3 = (a ++ List.replicate 3 (0, 1)).take 3 := by
  unfold cutI
  rw [List.take_append, List.take_replicate, show min (3 - a.length) 3 = 3 - a.length by omega]
theorem kinds_eq : eqV (.lst [.str "division by zero", .str "division by zero"]) (.lst [.str "division by zero", .str "division by zero"]) = some (.bool true) := by
  have : okEq 8 (.lst [.str "division by zero", .str "division by zero"]) = true := by decide +kernel
  unfold eqV
  rw [this]
  simp [toPy_int, toPy_str, toPy_tup, toPy_lst, toPys_nil, toPys_cons, PyData.eqv, PyData.eqvAll]
theorem kinds_mul : mulV (.lst [.str "division by zero"]) (.int 2) = some (.lst [.str "division by zero", .str "division by zero"]) := rfl
theorem plain_body {ρ : Rho} {x y z : List Rt} (h1 : ρ.lookup ("found" : Str) = some (pvS x)) (h2 : ρ.lookup ("base" : Str) = some (pvS y)) (h : sp_smul [pvS x, pvS y] = ret (pvS z)) : b_law_plain_right_1 ⟨ρ, none⟩ = ret (.next, ⟨setR "found" (pvS z) ρ, none⟩) :=
  seq_next (asg_nm ((call2_of (nm_of h1) (nm_of h2)).trans h))
noncomputable def chain0 (s s2 s3 : List Rt) (m : Nat) : List Rt := if m = 0 then one1 s else chain3 s s2 s3 m
theorem plain_loop {ρ : Rho} {s s2 s3 s4 : List Rt} {m : Nat} (hc : Chain s s2 s3 s4) (hl : s.length ≤ 4) (h1 : ρ.lookup ("found" : Str) = some (pvS (one1 s))) (h2 : ρ.lookup ("base" : Str) = some (pvS s)) (hm3 : m ≤ 3) :
    ∃ ρ', forM "turn" b_law_plain_right_1 ((List.range m).map fun i => PV.int (i : Nat)) ⟨ρ, none⟩ = ret (.next, ⟨ρ', none⟩) ∧ ρ'.lookup ("found" : Str) = some (pvS (chain0 s s2 s3 m)) ∧ ρ'.lookup ("rest" : Str) = ρ.lookup ("rest" : Str) ∧ ρ'.lookup ("many" : Str) = ρ.lookup ("many" : Str) := by
  have l2 := smul_len hc.a
  have l1 : (one1 s).length ≤ 5 := by unfold one1 cutI; simp; omega
  have n1 : (("found" : Str) = "turn") = False := by decide
  have n2 : (("base" : Str) = "turn") = False := by decide
  have n3 : (("base" : Str) = "found") = False := by decide
  have n4 : (("rest" : Str) = "turn") = False := by decide
  have n5 : (("rest" : Str) = "found") = False := by decide
  have n6 : (("many" : Str) = "turn") = False := by decide
  have n7 : (("many" : Str) = "found") = False := by decide
  have hm : m = 0 ∨ m = 1 ∨ m = 2 ∨ m = 3 := by omega
  have e1 : sp_smul [pvS (one1 s), pvS s] = ret (pvS s) := spSS_of (by omega) (by omega) hc.d
  have e2 : sp_smul [pvS s, pvS s] = ret (pvS s2) := spSS_of (by omega) (by omega) hc.a
  have e3 : sp_smul [pvS s2, pvS s] = ret (pvS s3) := spSS_of (by omega) (by omega) hc.b
  have b1 := plain_body (ρ := setR "turn" (.int (0 : Nat)) ρ) (by rw [setR_lookup]; simp only [n1, if_false]; exact h1) (by rw [setR_lookup]; simp only [n2, if_false]; exact h2) e1
  have b2 := plain_body (ρ := setR "turn" (.int (1 : Nat)) (setR "found" (pvS s) (setR "turn" (.int (0 : Nat)) ρ))) (by rw [setR_lookup, setR_lookup]; simp only [n1, if_false, if_true]) (by rw [setR_lookup, setR_lookup, setR_lookup]; simp only [n2, n3, if_false]; exact h2) e2
  have b3 := plain_body (ρ := setR "turn" (.int (2 : Nat)) (setR "found" (pvS s2) (setR "turn" (.int (1 : Nat)) (setR "found" (pvS s) (setR "turn" (.int (0 : Nat)) ρ))))) (by rw [setR_lookup, setR_lookup]; simp only [n1, if_false, if_true]) (by rw [setR_lookup, setR_lookup, setR_lookup, setR_lookup, setR_lookup]; simp only [n2, n3, if_false]; exact h2) e3
  rcases hm with rfl | rfl | rfl | rfl
  · exact ⟨ρ, rfl, h1, rfl, rfl⟩
  · refine ⟨_, for_step b1, ?_, ?_, ?_⟩
    · rw [setR_lookup, if_pos rfl]; rfl
    · rw [setR_lookup, setR_lookup]; simp only [n4, n5, if_false]
    · rw [setR_lookup, setR_lookup]; simp only [n6, n7, if_false]
  · refine ⟨_, (for_step b1).trans (for_step b2), ?_, ?_, ?_⟩
    · rw [setR_lookup, if_pos rfl]; rfl
    · simp only [setR_lookup, n4, n5, if_false]
    · simp only [setR_lookup, n6, n7, if_false]
  · refine ⟨_, (for_step b1).trans ((for_step b2).trans (for_step b3)), ?_, ?_, ?_⟩
    · rw [setR_lookup, if_pos rfl]; rfl
    · simp only [setR_lookup, n4, n5, if_false]
    · simp only [setR_lookup, n6, n7, if_false]
structure PlainF (a : List Rt) (many : Int) (s s2 s3 s4 : List Rt) : Prop where
  chain : Chain s s2 s3 s4
  len : s.length = a.length
  base : (if many < 0 then sp_sinverse [pvS a] else ret (pvS a)) = ret (pvS s)
  pow : sp_swhole_power [pvS a, .int many] = ret (pvS (chain0 s s2 s3 many.natAbs))
theorem plain_facts {a : List Rt} {many : Int} (h : okC a) (ha : 1 ≤ a.length) (hb : a.length ≤ 4) (h0 : a[0]? ≠ some (0, 1)) (hm1 : -3 ≤ many) (hm3 : many ≤ 3) : ∃ s s2 s3 s4, PlainF a many s s2 s3 s4 := by
  obtain ⟨t, ht⟩ := tr_of h ha hb h0
  have hl := sinvO_len ht.inv
  have hsp : sp_swhole_power [pvS a, .int many] = powM a many := by unfold sp_swhole_power; exact serM_pv
  by_cases hneg : many < 0
  · obtain ⟨s2, s3, s4, hc⟩ := ht.cs
    refine ⟨t, s2, s3, s4, hc, hl, ?_, ?_⟩
    · rw [if_pos hneg]
      exact serM_pv.trans (sinvM_of (by omega) h0 ht.inv)
    · have hp := pow_chain hc (by omega) (m := many.natAbs) (by omega) (by omega)
      unfold one1 at hp
      rw [hl] at hp
      rw [hsp]
      unfold powM
      rw [if_pos ⟨by omega, by omega, by omega⟩, if_pos hneg, sinvM_of (by omega) h0 ht.inv, bnd_ret, serM_pv, hp]
      unfold chain0
      rw [if_neg (by omega)]
      rfl
  · obtain ⟨s2, s3, s4, hc⟩ := ht.ct
    refine ⟨a, s2, s3, s4, hc, rfl, by rw [if_neg hneg], ?_⟩
    rw [hsp]
    by_cases hz : many = 0
    · subst hz
      unfold powM
      rw [if_pos ⟨by omega, by omega, by omega⟩, if_neg hneg, bnd_ret, serM_pv]
      rfl
    · rw [powM_pos hc (by omega) (by omega) hm3]
      unfold chain0
      rw [if_neg (by omega)]
theorem u_plain {a : List Rt} {many : Int} (h : okC a) (ha : 1 ≤ a.length) (hb : a.length ≤ 4) (hm1 : -3 ≤ many) (hm3 : many ≤ 3) : runF ["rest", "many"] m_law_plain_right [pvS a, .int many] = ret (.bool true) := by
  have hr : nmM "rest" [("rest", pvS a), ("many", .int many)] = ret (pvS a) := nm_of rfl
  have hmm : nmM "many" [("rest", pvS a), ("many", .int many)] = ret (.int many) := nm_of rfl
  have t1 : (tcM neV (callM sp_cut [(nmM "rest"), (cM (.int 3))]) (biM uptoV (biM addV (nmM "rest") (biM mulV (lstM [(tupM [(cM (.int 0)), (cM (.int 1))])]) (cM (.int 3)))) (cM (.int 3)))) [("rest", pvS a), ("many", .int many)] = ret false := by
    refine tcM_of (a := pvS (cutI a 3)) (b := pvS ((a ++ List.replicate 3 (0, 1)).take 3)) ?_ ?_ ?_
    · exact (call2_of hr c_of).trans (sp_cut_of (by omega) (by omega) (by omega))
    · exact biM_of (biM_of hr (biM_of zeros_of c_of (rep_s (by omega) (by omega))) (add_s (by simp; omega))) c_of (upto_s (by omega) (by simp; omega))
    · rw [ne_s, cut3, decide_eq_true rfl]; rfl
  have t2 : (tcM neV (callM sp_lplain [(tupM [(cM (.int 5)), (cM (.int 2))]), (cM (.int 3))]) (tupM [(cM (.int 0)), (lstM [(tupM [(cM (.int 5)), (cM (.int 2))]), (tupM [(cM (.int 0)), (cM (.int 1))]), (tupM [(cM (.int 0)), (cM (.int 1))])])])) [("rest", pvS a), ("many", .int many)] = ret false := by
    refine tcM_of (a := pvL (0, (5, 2) :: List.replicate 2 (0, 1))) (b := pvL (0, (5, 2) :: List.replicate 2 (0, 1))) ?_ ?_ ?_
    · exact (call2_of (a := pvR (5, 2)) rfl c_of).trans rfl
    · exact tup2_of c_of rfl
    · rw [ne_l, decide_eq_true rfl]; rfl
  obtain ⟨a0, ar, rfl⟩ : ∃ a0 ar, a = a0 :: ar := by
    cases a with
    | nil => simp at ha
    | cons a0 ar => exact ⟨a0, ar, rfl⟩
  have hat : (biM atV (nmM "rest") (cM (.int 0))) [("rest", pvS (a0 :: ar)), ("many", .int many)] = ret (pvR a0) := biM_of hr c_of (at_s (i := 0) (by omega) rfl)
  by_cases hz : a0 = (0, 1)
  · have hs0 : sinvM (a0 :: ar) = fail "division by zero" := by unfold sinvM; rw [if_pos (by omega), if_pos (by rw [hz]; rfl)]
    refine run_of (σ' := ⟨[("rest", pvS (a0 :: ar)), ("many", .int many), ("kinds", .lst [.str "division by zero", .str "division by zero"])], none⟩) rfl ?_
    unfold m_law_plain_right
    refine (if_skip (any2_false t1 t2)).trans ?_
    refine if_take (tcM_of hat (tup2_of c_of c_of) ((eq_r a0 (0, 1)).trans (by rw [decide_eq_true hz]))) ((seq_next (asg_nm (d := .lst [.str "division by zero", .str "division by zero"]) ?_)).trans (rt_of (biM_of (nm_of rfl) (biM_of rfl c_of kinds_mul) kinds_eq)))
    unfold lstM
    have k1 : kindM ["rest"] (callM sp_sinverse [(nmM "rest")]) [("rest", pvS (a0 :: ar)), ("many", .int many)] = ret (.str "division by zero") := by
      refine kindM_fail ((call1_of (nm_of (a := pvS (a0 :: ar)) rfl)).trans ?_)
      exact serM_pv.trans hs0
    have k2 : kindM ["rest"] (callM sp_swhole_power [(nmM "rest"), (unM negV (cM (.int 1)))]) [("rest", pvS (a0 :: ar)), ("many", .int many)] = ret (.str "division by zero") := by
      refine kindM_fail ((call2_of (nm_of (a := pvS (a0 :: ar)) rfl) (b := .int (-1)) rfl).trans ?_)
      refine serM_pv.trans ?_
      unfold powM
      rw [if_pos ⟨by omega, by omega, by omega⟩, if_pos (by omega), hs0]
      rfl
    rw [rowM, k1, bnd_ret, rowM, k2, bnd_ret, rowM]
    rfl
  · obtain ⟨s, s2, s3, s4, F⟩ := plain_facts (many := many) h ha hb (fun z => hz (by simpa using z)) hm1 hm3
    have hone : cutI [(1, 1)] (a0 :: ar).length = one1 s := by unfold one1; rw [F.len]
    have fl := F.len
    obtain ⟨ρ', e1, e2, e3, e4⟩ := plain_loop (ρ := [("rest", pvS (a0 :: ar)), ("many", .int many), ("base", pvS s), ("found", pvS (one1 s))]) (m := many.natAbs) F.chain (by omega) rfl rfl (by omega)
    refine run_of (σ' := ⟨ρ', none⟩) rfl ?_
    unfold m_law_plain_right
    refine (if_skip (any2_false t1 t2)).trans ?_
    refine (if_skip (tcM_of hat (tup2_of c_of c_of) ((eq_r a0 (0, 1)).trans (by rw [decide_eq_false hz])))).trans ?_
    refine (seq_next (asg_two (a := pvS (one1 s)) (b := pvS s) ?_ ?_)).trans ?_
    · refine (call2_of ones_of (blt1_of hr (len_s (by omega)))).trans ?_
      rw [sp_cut_of (by omega) (by omega) (by simp), Int.toNat_natCast, hone]
    · have hbase := F.base
      by_cases hneg : many < 0
      · rw [if_pos hneg] at hbase
        rw [ifM_true (tcM_of hmm c_of (by rw [lt_i, decide_eq_true hneg]))]
        exact (call1_of hr).trans hbase
      · rw [if_neg hneg] at hbase
        rw [ifM_false (tcM_of hmm c_of (by rw [lt_i, decide_eq_false hneg]))]
        exact hr.trans hbase
    · refine (seq_next (fo_of ?_ e1)).trans (rt_of (biM_of ((call2_of (nm_of (e3.trans rfl)) (nm_of (e4.trans rfl))).trans F.pow) (nm_of e2) ?_))
      · unfold irM
        rw [rowM, blt1_of (nm_of (a := .int many) rfl) abs_i, bnd_ret, rowM]
        show lift (rangeV [.int (many.natAbs : Int)]) = _
        rw [range_1 (by omega) (by omega), Int.toNat_natCast]
        rfl
      · rw [eq_s, decide_eq_true rfl]
section
variable {wd : Wd}
theorem k_law_plain_right (C : Wld wd) : Fn wd 10 "_law_plain_right" sp_law_plain_right := (f_law_plain_right C (k_cut C) (k_smul C) (k_sinverse C) (k_swhole_power C) (k_lplain C)).sub fun ds n r n' e => by
  unfold sp_law_plain_right at e
  split at e
  · obtain ⟨a, rfl, e1⟩ := serM_some e
    split at e1
    case isFalse => cases e1
    next hg => rw [u_plain hg.1.1 hg.1.2.1 hg.1.2.2 hg.2.1 hg.2.2]; exact e1
  · cases e
end
end Lz
set_option linter.unusedSimpArgs false
namespace Lz
open PySem PySem.W PyProof.Rows

noncomputable def m_rest (wd : Wd) : Sig → M (Fl × Sig) := (seqM (asg (tupM [(callM (sp_law_drawn wd) [(nmM "box")]), (callM (sp_law_drawn wd) [(nmM "box")])]) (unp 2 fun ds => putL [put "other", put "one"] ds.reverse)) (seqM (ifS (anM [(ntM (tvM (callM sp_law_two_right [(nmM "one"), (nmM "other")]))), (ntM (tvM (callM sp_law_inverse_right [(nmM "one")]))), (ntM (tvM (callM sp_law_inverse_right [(nmM "other")])))]) (seqM (rtM (cM (.bool false))) nilM) nilM) (seqM (asg (tupM [(biM subV (callM (sp_law_take wd) [(nmM "box"), (cM (.int 7))]) (cM (.int 3))), (callM (sp_law_take wd) [(nmM "box"), (cM (.int 6))])]) (unp 2 fun ds => putL [put "end", put "many"] ds.reverse)) (seqM (ifS (anM [(ntM (tvM (callM sp_law_power_right [(nmM "one"), (nmM "many")]))), (ntM (tvM (callM sp_law_cut_right [(nmM "one"), (nmM "end")]))), (ntM (tvM (callM sp_law_cut_right [(nmM "other"), (nmM "end")])))]) (seqM (rtM (cM (.bool false))) nilM) nilM) (seqM (rtM (callM sp_law_plain_right [(biM atV (nmM "other") (cM (.int 1))), (nmM "many")])) nilM)))))
set_option maxHeartbeats 4000000 in
theorem v_rest {wd : Wd} (C : Wld wd) (h_law_take : Fn wd 2 "_law_take" (sp_law_take wd)) (h_law_drawn : Fn wd 3 "_law_drawn" (sp_law_drawn wd)) (h_law_two_right : Fn wd 8 "_law_two_right" sp_law_two_right) (h_law_power_right : Fn wd 12 "_law_power_right" sp_law_power_right) (h_law_inverse_right : Fn wd 10 "_law_inverse_right" sp_law_inverse_right) (h_law_cut_right : Fn wd 6 "_law_cut_right" sp_law_cut_right) (h_law_plain_right : Fn wd 10 "_law_plain_right" sp_law_plain_right) : Sv wd (sco 42) 12 (execs (bd 42).tail) (m_rest wd) := (Sv.cons (S.swap (X.tup (X.rc (X.call (h_law_drawn) (by decide) (by rfl) (X.rc X.nm X.rn)) (X.rc (X.call (h_law_drawn) (by decide) (by rfl) (X.rc X.nm X.rn)) X.rn))) (by rfl) (by rfl) (by intro env h; have hb : env.blockKind = .function := (by unfold Env.blockKind; rw [h]; rfl); unfold swappedStores Env.kindOf; rw [hb, h]; rfl)) (Sv.cons (S.iff (T.or3 (T.not (T.val (X.call (h_law_two_right) (by decide) (by rfl) (X.rc X.nm (X.rc X.nm X.rn))))) (T.not (T.val (X.call (h_law_inverse_right) (by decide) (by rfl) (X.rc X.nm X.rn)))) (T.not (T.val (X.call (h_law_inverse_right) (by decide) (by rfl) (X.rc X.nm X.rn))))) (Sv.cons (S.rt X.bool) S.nil) S.nil) (Sv.cons (S.swap (X.tup (X.rc (X.bin (X.call (h_law_take) (by decide) (by rfl) (X.rc X.nm (X.rc X.int X.rn))) X.int op_sub) (X.rc (X.call (h_law_take) (by decide) (by rfl) (X.rc X.nm (X.rc X.int X.rn))) X.rn))) (by rfl) (by rfl) (by intro env h; have hb : env.blockKind = .function := (by unfold Env.blockKind; rw [h]; rfl); unfold swappedStores Env.kindOf; rw [hb, h]; rfl)) (Sv.cons (S.iff (T.or3 (T.not (T.val (X.call (h_law_power_right) (by decide) (by rfl) (X.rc X.nm (X.rc X.nm X.rn))))) (T.not (T.val (X.call (h_law_cut_right) (by decide) (by rfl) (X.rc X.nm (X.rc X.nm X.rn))))) (T.not (T.val (X.call (h_law_cut_right) (by decide) (by rfl) (X.rc X.nm (X.rc X.nm X.rn)))))) (Sv.cons (S.rt X.bool) S.nil) S.nil) (Sv.cons (S.rt (X.call (h_law_plain_right) (by decide) (by rfl) (X.rc (X.at X.nm X.int) (X.rc X.nm X.rn)))) S.nil)))))

theorem seqN {m1 m2 : Sig → M (Fl × Sig)} {σ σ' : Sig} {n n' : Int} (h : m1 σ n = some (.ok (.next, σ'), n')) : seqM m1 m2 σ n = m2 σ' n' := by rw [seqM, bnd_of h]
theorem asg_twoN {ρ : Rho} {a b : PV} {n n1 n2 : Int} {m1 m2 : Rho → M PV} {x y : Str} (h1 : m1 ρ n = some (.ok a, n1)) (h2 : m2 ρ n1 = some (.ok b, n2)) : asg (tupM [m1, m2]) (unp 2 fun ds => putL [put y, put x] ds.reverse) ⟨ρ, none⟩ n = some (.ok (.next, ⟨setR x a (setR y b ρ), none⟩), n2) := by
  have ht : tupM [m1, m2] ρ n = some (.ok (.tup [a, b]), n2) := by
    unfold tupM
    rw [bnd_of (a := [a, b]) (n' := n2) (by
      rw [rowM, bnd_of h1, bnd_of (a := [b]) (n' := n2) (by rw [rowM, bnd_of h2, rowM]; rfl)]
      rfl)]
    rfl
  rw [asg]
  simp only [Sig.all]
  rw [bnd_of ht]
  rfl
theorem callN {ρ : Rho} {a : PV} {sp : List PV → M PV} {m1 : Rho → M PV} {n : Int} (h1 : m1 ρ = ret a) : callM sp [m1] ρ n = sp [a] n := congrFun (call1_of h1) n
theorem any3_false {m1 m2 m3 : Rho → M Bool} {ρ : Rho} (h1 : m1 ρ = ret false) (h2 : m2 ρ = ret false) (h3 : m3 ρ = ret false) : anM [m1, m2, m3] ρ = ret false := by
  unfold anM; rw [anyT, h1]; simp only [bnd_ret]; rw [if_neg (by decide), anyT, h2]; simp only [bnd_ret]; rw [if_neg (by decide), anyT, h3]; rfl
theorem nt_of {m : Rho → M PV} {ρ : Rho} (h : m ρ = ret (.bool true)) : ntM (tvM m) ρ = ret false := by unfold ntM; rw [tv_of h]; rfl
theorem coef_ok (v : Int) : coefI v = 0 ∨ coefI v = 1 ∨ coefI v = -1 ∨ coefI v = 2 ∨ coefI v = 3 := by
  unfold coefI
  generalize v.toNat = k
  match k with
  | 0 => exact .inl rfl
  | 1 => exact .inr (.inl rfl)
  | 2 => exact .inr (.inr (.inl rfl))
  | 3 => exact .inr (.inr (.inr (.inl rfl)))
  | 4 => exact .inr (.inr (.inr (.inr rfl)))
  | k + 5 => exact .inl rfl
theorem draw_okW {scr : List Int} {n : Int} : okW (drawI scr n) := by
  have h1 := take_lt (scr := scr) (n := n) (many := 6) (by decide)
  have h2 := take_lt (scr := scr) (n := n + 1) (many := 4) (by decide)
  refine ⟨by dsimp only [drawI]; omega, by dsimp only [drawI]; omega, fun r hr => ?_, by dsimp only [drawI]; simp; omega, by dsimp only [drawI]; simp; omega⟩
  obtain ⟨j, _, rfl⟩ := List.mem_map.mp hr
  exact ⟨rfl, coef_ok _⟩
theorem okT_of {p : Int × List Rt} (h : okW p) : okT p := by
  obtain ⟨h1, h2, h3, h4, h5⟩ := h
  refine ⟨by omega, by omega, by omega, fun r hr => ?_⟩
  obtain ⟨q1, q2⟩ := h3 r hr
  exact ⟨q1, by omega, by omega⟩
theorem two_of {p q : Int × List Rt} (hp : okW p) (hq : okW q) : sp_law_two_right [pvL p, pvL q] = ret (.bool true) := by
  unfold sp_law_two_right
  simp only [lauM_pv]
  rw [if_pos ⟨okT_of hp, okT_of hq⟩]
theorem inverse_of {p : Int × List Rt} (hp : okW p) : sp_law_inverse_right [pvL p] = ret (.bool true) := by
  unfold sp_law_inverse_right
  simp only [lauM_pv]
  rw [if_pos hp]
theorem power_of {p : Int × List Rt} {many : Int} (hp : okW p) (h1 : -3 ≤ many) (h2 : many ≤ 3) : sp_law_power_right [pvL p, .int many] = ret (.bool true) := by
  unfold sp_law_power_right
  simp only [lauM_pv]
  rw [if_pos ⟨hp, h1, h2⟩]
theorem cutr_of {p : Int × List Rt} {e : Int} (hp : okW p) (h1 : 0 ≤ e) (h2 : e ≤ 10) : sp_law_cut_right [pvL p, .int e] = ret (.bool true) := by
  unfold sp_law_cut_right
  simp only [lauM_pv]
  rw [if_pos ⟨hp, h1, h2⟩]
theorem plainr_of {p : Int × List Rt} {many : Int} (hp : okW p) (h1 : -3 ≤ many) (h2 : many ≤ 3) : sp_law_plain_right [pvS p.2, .int many] = ret (.bool true) := by
  unfold sp_law_plain_right
  simp only [serM_pv]
  rw [if_pos ⟨⟨hp.2.2.1, hp.2.2.2.1, hp.2.2.2.2⟩, h1, h2⟩]
theorem u_rest {wd : Wd} (hs : wd.scr.length ≤ 100) : ∃ σ' n', m_rest wd ⟨[("box", .box)], none⟩ 0 = some (.ok (.ret (.bool true), σ'), n') := by
  have w1 := draw_okW (scr := wd.scr) (n := 0)
  have b1 := take_lt (scr := wd.scr) (n := 0 + 1) (many := 4) (by decide)
  have d1 : sp_law_drawn wd [.box] 0 = some (.ok (pvL (drawI wd.scr 0)), 0 + 3 + takeI wd.scr (0 + 1) 4) := by
    unfold sp_law_drawn
    dsimp only
    rw [if_pos ⟨by omega, by omega, hs⟩]
  generalize drawI wd.scr 0 = p at *
  generalize hn1 : 0 + 3 + takeI wd.scr (0 + 1) 4 = n1 at *
  have w2 := draw_okW (scr := wd.scr) (n := n1)
  have b2 := take_lt (scr := wd.scr) (n := n1 + 1) (many := 4) (by decide)
  have d2 : sp_law_drawn wd [.box] n1 = some (.ok (pvL (drawI wd.scr n1)), n1 + 3 + takeI wd.scr (n1 + 1) 4) := by
    unfold sp_law_drawn
    dsimp only
    rw [if_pos ⟨by omega, by omega, hs⟩]
  generalize drawI wd.scr n1 = q at *
  generalize hn2 : n1 + 3 + takeI wd.scr (n1 + 1) 4 = n2 at *
  have b3 := take_lt (scr := wd.scr) (n := n2) (many := 7) (by decide)
  have b4 := take_lt (scr := wd.scr) (n := n2 + 1) (many := 6) (by decide)
  have d3 : sp_law_take wd [.box, .int 7] n2 = _ := take_of ⟨by omega, by omega, by decide, by decide, hs⟩
  have d4 : sp_law_take wd [.box, .int 6] (n2 + 1) = _ := take_of ⟨by omega, by omega, by decide, by decide, hs⟩
  generalize takeI wd.scr n2 7 = t3 at *
  generalize takeI wd.scr (n2 + 1) 6 = t4 at *
  refine ⟨⟨[("box", .box), ("other", pvL q), ("one", pvL p), ("end", .int t4), ("many", .int (t3 - 3))], none⟩, n2 + 1 + 1, ?_⟩
  unfold m_rest
  refine (seqN (asg_twoN (a := pvL p) (b := pvL q) (n1 := n1) (n2 := n2) ((callN (nm_of (a := .box) rfl)).trans d1) ((callN (nm_of (a := .box) rfl)).trans d2))).trans ?_
  have one : ∀ {r : Rho}, nmM "one" ((("box" : Str), PV.box) :: ("other", pvL q) :: ("one", pvL p) :: r) = ret (pvL p) := nm_of rfl
  have other : ∀ {r : Rho}, nmM "other" ((("box" : Str), PV.box) :: ("other", pvL q) :: ("one", pvL p) :: r) = ret (pvL q) := nm_of rfl
  refine (congrFun (if_skip (any3_false (nt_of ((call2_of (one (r := [])) (other (r := []))).trans (two_of w1 w2))) (nt_of ((call1_of (one (r := []))).trans (inverse_of w1))) (nt_of ((call1_of (other (r := []))).trans (inverse_of w2))))) n2).trans ?_
  refine (seqN (asg_twoN (a := .int (t3 - 3)) (b := .int t4) (n1 := n2 + 1) (n2 := n2 + 1 + 1) ?_ ((congrFun (call2_of (nm_of (a := .box) rfl) (b := .int 6) rfl) _).trans d4))).trans ?_
  · rw [biM, bnd_of ((congrFun (call2_of (nm_of (a := .box) rfl) (b := .int 7) rfl) _).trans d3)]
    rfl
  have many : nmM "many" [("box", .box), ("other", pvL q), ("one", pvL p), ("end", .int t4), ("many", .int (t3 - 3))] = ret (.int (t3 - 3)) := nm_of rfl
  have endd : nmM "end" [("box", .box), ("other", pvL q), ("one", pvL p), ("end", .int t4), ("many", .int (t3 - 3))] = ret (.int t4) := nm_of rfl
  refine (congrFun (if_skip (any3_false (nt_of ((call2_of (one (r := [("end", .int t4), ("many", .int (t3 - 3))])) many).trans (power_of w1 (by omega) (by omega)))) (nt_of ((call2_of (one (r := [("end", .int t4), ("many", .int (t3 - 3))])) endd).trans (cutr_of w1 (by omega) (by omega))))
    (nt_of ((call2_of (other (r := [("end", .int t4), ("many", .int (t3 - 3))])) endd).trans (cutr_of w2 (by omega) (by omega)))))) _).trans ?_
  exact congrFun (rt_of ((call2_of (biM_of (other (r := [("end", .int t4), ("many", .int (t3 - 3))])) c_of at_l1) many).trans (plainr_of w2 (by omega) (by omega)))) _
section
variable {wd : Wd}
theorem k_rest (C : Wld wd) : Sv wd (sco 42) 12 (execs (bd 42).tail) (m_rest wd) := v_rest C (k_law_take C) (k_law_drawn C) (k_law_two_right C) (k_law_power_right C) (k_law_inverse_right C) (k_law_cut_right C) (k_law_plain_right C)
end
end Lz
namespace Lz
open PySem PySem.W PyProof.Rows

/-- what an exception class's own __init__ reads -/
noncomputable def initStmts (P : Nat → Pos) (k0 : Nat) : List Stmt :=
  [.Expr (.Call (.Attribute (.Name "Exception" (P 1)) "__init__" ⟨5, 8, 5, 26⟩) [.Name "self" (P 3), .BinOp (.BinOp (.Name "kind" (P 4)) .Add (.Constant (.str ": ") k0 (P 5)) (P 6)) .Add (.Name "text" (P 7)) (P 8)] [] ⟨5, 8, 5, 52⟩) (P 10),
   .Assign [.Attribute (.Name "self" (P 11)) "kind" (P 12)] (.Name "kind" (P 13)) (P 14),
   .Assign [.Attribute (.Name "self" (P 15)) "text" (P 16)] (.Name "text" (P 17)) (P 18)]
noncomputable def initScope : Scope := { kind := .function, names := [("self", .local), ("kind", .local), ("text", .local), ("Exception", .globalImplicit)], isGenerator := false, isCoroutine := false }
noncomputable def initDef (P : Nat → Pos) (body : List Stmt) (pm code : Value) : FuncData :=
  { name := "__init__", qualname := "CasFail.__init__", params := { posonlyargs := [], args := [⟨"self", Option.none, P 19⟩, ⟨"kind", Option.none, P 20⟩, ⟨"text", Option.none, P 21⟩], vararg := Option.none, kwonlyargs := [], kw_defaults := [], kwarg := Option.none, defaults := [] },
    body := .stmts body, scope := initScope, globals := mainGlobals, closure := [], defaults := .none, kwdefaults := .none, pyModule := pm, code := code }

theorem exc_init_cls : findCls [] (.type "Exception") (.type "type") "__init__" = some (.val (.builtin "Exception.__init__")) := by kernel_rfl
theorem exc_type : typeOf (.type "Exception") = pure (.type "type") := by first | rfl | kernel_rfl
theorem exc_stub : Manifest.isStub "Exception" = false := by decide +kernel
theorem exc_getm {prog : Program} {w : World} {A : Around} {E : Value → Shared → Prop} {s : Shared} {pl : Sem Bool} {Q : Value × List Value → Shared → Prop}
    (h : Q (.builtin "Exception.__init__", []) { s with toks := s.toks + 1 }) : wpAny (model prog w) A (getMethod (.type "Exception") "__init__" pl) Q E s := by
  have X : Frag.In [] s.heap := fun _ _ q => by cases q
  have hstub : opaqueClassAbove (.type "Exception") = pure Option.none := by unfold opaqueClassAbove; dsimp only; rw [exc_stub]; rfl
  have L0 : Looks (model prog w) s.heap (typeOf (.type "Exception")) (.type "type") := Looks.of_pure exc_type
  unfold getMethod specialOf
  refine wpAny_bind (wpAny_bind (L0.here ((looks_findIn X type_tga).here ?_)))
  dsimp only
  rw [if_pos canon_tga]
  refine wpAny_bind (wpAny_mono (Q := fun v => Q (v, [])) (E := E) ?_ (fun _ _ z => wpAny_pure z) fun _ _ z => z)
  have LO : Looks (model prog w) s.heap (opaqueClassAbove (.type "Exception")) Option.none := Looks.of_pure hstub
  exact cls_open X LO L0 type_tga (looks_hook X (r := Option.none) (by rfl)) (by show subIn [] _ _ = _; rfl) exc_init_cls
    (wpAny_pure (by show wpAny _ _ (handedOut _) _ _ _; rw [handedOut_of (by rfl)]; exact wpAny_pure h))

section
variable {prog : Program} {w : World} {A : Around} {E : Value → Shared → Prop} {s : Shared}
theorem exc_base {e t0 : Addr} {ob : Obj} {vs : Array Value} {v : Value} {Q : Fin → Shared → Prop} (he : s.heap.get? e = some ob) (hd : ob.data = .fields vs) (h0 : vs[0]? = some (.ref t0))
    (h : Q (.done (.ret .none)) { s with heap := (s.heap.push { cls := .type "tuple", data := .seq #[v] }).update e (Obj.mapFields (·.setIfInBounds 0 (.ref s.heap.objs.size))) }) :
    wpAny (model prog w) A (Builtin.«BaseException.__init__» ⟨[.ref e, v], []⟩) Q E s := by
  unfold Builtin.«BaseException.__init__»
  dsimp only
  rw [if_neg (by simp)]
  unfold newTuple Builtin.BaseException.bexcPut
  have hsz : 0 < vs.size := (Array.getElem?_eq_some_iff.mp h0).1
  have he₁ := Heap.get?_push_of_some (h := s.heap) { cls := .type "tuple", data := .seq #[v] } he
  refine wpAny_bind (wpAny_newObj_type (wpAny_bind (wpAny_bind (wpAny_field he₁ hd h0 (wpAny_bind (wpAny_setField he₁ hd hsz ?_))))) (by size_fits))
  exact wpAny_letGo (wpAny_pure h)

theorem addStr {x y : Str} {t u : Tok} {Q : Value → Shared → Prop} (hl : x.length + y.length ≤ 3000) (h : ∀ z v tk, z.length ≤ x.length + y.length → Q (.str z v) { s with toks := tk }) : wpAny (model prog w) A (binaryOp .Add (.str x t) (.str y u)) Q E s := by
  refine P.add_str ?_
  split
  · exact h _ _ s.toks (by omega)
  · split
    · exact h _ _ s.toks (by omega)
    · have e : (x ++ y).length = x.length + y.length := Str.length_append x y
      exact ⟨by rw [sizeLine_eq, e]; omega, h _ _ _ (by omega)⟩
end

section
open Builtin Builtin.ObjectAttr
variable {h : Heap} {g : Array GenState} {d : Drawn} {t : Nat} {os : OsState} {nm q : Str} {C N x : Addr} {bs bm : List Value} {sn : List Str} {sub : List Value} {ab : Bool} {col : Option Bool} {dd : Option Addr} {k0 k1 k2 k3 k5 : Option Value} {B newId sa owner : String}
  {mN : Str → Option Value} {name : Str} {v : Value}

/-- an exception gets its first field: its dict is new -/
theorem first_field {o : Obj} {vs : Array Value} {Q : Unit → Shared → Prop} (SF : StoreFacts B bm sa owner)
    (hC : h.get? C = some (excClassObj nm q C N bs bm true sn sub ab col dd k0 k1 k2 k3 k5 newId)) (hn : h.Ns N mN) (hns : mN "__setattr__" = Option.none) (hna : mN name = Option.none)
    (hB : typeLookup (.type B) name = pure Option.none) (hx : h.get? x = some o) (hc : o.cls = .ref C) (hdn : o.dict = Option.none) (hdat : o.data = .fields vs)
    (hq : ∀ h' tk' dx, h.get? dx = Option.none → dx ≠ x → h'.get? x = some { o with dict := some dx } → h'.Ns1 dx (fun y => if y = name then some v else Option.none) →
      (∀ b ob, b ≠ x → h.get? b = some ob → h'.get? b = some ob) → Q () ⟨h', g, d, tk', os⟩) :
    wpAny (model prog w) A (setAttr (.ref x) name v) Q E ⟨h, g, d, t, os⟩ := by
  have f3 := SF.slot.bind (.ref x)
  have hpass := SF.passes (.ref x)
  have hx₁ : (h.push { cls := .type "dict", data := .dict #[] }).get? x = some o := Heap.get?_push_of_some _ hx
  have hxs : x ≠ h.objs.size := Nat.ne_of_lt (Heap.lt_size hx)
  have inner : ∀ (A : Around) (tk : Tok), codeAny (model prog w) A (.call (.builtin sa) ⟨[.ref x, .str name tk, v], []⟩) (fun r s' => r = .ok (.ret .none) ∧ Q () s') ⟨h, g, d, t + 1, os⟩ := by
    intro A tk
    refine codeAny_call_builtin SF.slot.plain SF.entry (wpAny_check_sa SF hC hx hc ?_)
    unfold Builtin.«object.__setattr__»
    repeat (first | rw [refuse_eq] | (rw [refuseLoop_ref, hpass]) | (with_reducible refine wpAny_loadPart_at hx ?_; rw [hc]) | with_reducible refine wpAny_mroOf_exc hC ?_ | (with_reducible refine wpAny_typeLookup_exc hC hn SF.mro hB ?_; rw [hna]) | wp_step)
    rw [hdn, hdat, if_neg (by simp [typeHasDict])]
    refine wpAny_bind (wpAny_alloc' (wpAny_bind (wpAny_update' hx₁ (wpAny_pure ?_))))
    have hgd : ((h.push { cls := .type "dict", data := .dict #[] }).update x fun o => { cls := o.cls, dict := some h.objs.size, data := o.data, slots := o.slots }).get? h.objs.size
        = some { cls := .type "dict", data := .dict #[] } :=
      (Heap.get?_update_ne _ _ _ _ hxs.symm).trans (Heap.get?_push_at rfl rfl)
    have hnd : ((h.push { cls := .type "dict", data := .dict #[] }).update x fun o => { cls := o.cls, dict := some h.objs.size, data := o.data, slots := o.slots }).Ns h.objs.size (fun _ => Option.none) :=
      ⟨_, #[], _, hgd, rfl, fun e he => absurd he (by simp), fun _ => rfl⟩
    show wpAny _ _ (storeInDict h.objs.size (.str name tk) name v) _ _ _
    unfold storeInDict newKeyGuard
    refine wpAny_bind (wpAny_pure (wpAny_bind (wpAny_nsSet1 (Heap.Ns1.of_empty hnd) fun h' hn' hs => ?_)))
    obtain ⟨oD, esD, epD, hoD, hdD, hcD⟩ := hn'.count (Within.cons name v Within.nil)
    refine wpAny_bind (wpAny_lookBehind hoD (by rw [hdD]; exact pastItsLine_dict (Nat.le_trans hcD (by rw [List.length_cons, List.length_nil, sizeLine_eq]; omega))) ?_)
    wp_walk
    refine ⟨rfl, hq h' _ h.objs.size (Heap.get?_none_of_le (Nat.le_refl _)) hxs.symm ((hs.2 x hxs).trans (Heap.get?_update_self _ hx₁ ?_)) hn' fun b ob hb eb => ?_⟩
    · have hfr := (Heap.get?_some_iff.mp hx).2
      obtain ⟨oc, od, odt, osl⟩ := o
      cases odt <;> first | rfl | exact hfr
    · exact (hs.2 b (Nat.ne_of_lt (Heap.lt_size eb))).trans ((Heap.get?_update_ne _ _ _ _ hb).trans (Heap.get?_push_of_some _ eb))
  unfold setAttr callSpecial? specialOf
  repeat (any_goals (first | assumption | (with_reducible refine wpAny_loadPart_at hx ?_; rw [hc]) | (with_reducible refine wpAny_typeLookup_exc hC hn SF.mro SF.slot.lookup ?_; rw [hns]) | wp_step))
  refine codeAny_mono (inner _ _) fun r s' ⟨hr, hq⟩ => ?_
  subst hr
  repeat (any_goals (first | assumption | wp_step))
end

section
variable {wd : Wd} {nm q : Str} {N fI : Addr} {bs : List Value} {sn : List Str} {sub : List Value} {ab : Bool} {col : Option Bool} {dd : Option Addr} {k0 k1 k2 k3 k5 : Option Value} {mN : Str → Option Value} {oI : Obj}
theorem weight_type_ref (C : Addr) (rest : List Value) : (Code.builtin "type.__call__" ⟨.ref C :: rest, []⟩).weight = 1 := by kernel_rfl
abbrev excMro : List Value := [.type "Exception", .type "BaseException", .type "object"]

theorem exc_no_kind : typeLookup (.type "Exception") "kind" = pure Option.none := by rw [typeLookup_type, builtinLookup_eq_fast]; kernel_rfl
theorem exc_no_text : typeLookup (.type "Exception") "text" = pure Option.none := by rw [typeLookup_type, builtinLookup_eq_fast]; kernel_rfl

theorem make_ok {P : Nat → Pos} {kk : Nat} {pm code : Value} (ok : wd.Ok)
    (hC : wd.G.get? wd.clsRef = some (excClassObj nm q wd.clsRef N bs excMro true sn sub ab col dd k0 k1 k2 k3 k5 "Exception.__new__")) (hn : wd.G.Ns N mN)
    (hi : mN "__init__" = some (.ref fI)) (hns : mN "__setattr__" = Option.none) (hnk : mN "kind" = Option.none) (hnt : mN "text" = Option.none)
    (hf : wd.G.get? fI = some oI) (hfc : oI.cls = .type "function") (hfd : oI.data = .func (initDef P (initStmts P kk) pm code)) (hrec : wd.G.CodeRec code "CasFail.__init__")
    (hE : wd.mg "Exception" = Option.none ∧ wd.mb "Exception" = some (.type "Exception"))
    (A : Around) (s : Shared) (kd tx : Str) (t1 t2 : Tok) (Q : Value → Shared → Prop) (E : Value → Shared → Prop) (hG : ∀ b o, wd.G.get? b = some o → s.heap.get? b = some o) (R : Room 1 A) (hlen : kd.length ≤ 1000 ∧ tx.length ≤ 1000)
    (hQ : ∀ e h' tk, Made wd.clsRef kd s.heap h' e → Q (.ref e) { s with heap := h', toks := tk }) : wpAny (model wd.prog wd.w) A (call (.ref wd.clsRef) [.str kd t1, .str tx t2]) Q E s := by
  obtain ⟨hp, g, d, tk, os⟩ := s
  dsimp only at hG
  refine wpAny_call_exc_init F.excBase_Exception (hG _ _ hC) (hn.keeps hG) hi (hG _ _ hf) hfc fun h' e hm => ?_
  obtain ⟨t, het, htn, htt⟩ := hm.there
  have hG' : ∀ b o, wd.G.get? b = some o → h'.get? b = some o := fun b o eb => hm.keeps b o (hG b o eb)
  refine wpAny_call ?_
  refine codeAny_call_cells (binds := [("self", .ref e), ("kind", .str kd t1), ("text", .str tx t2)]) (by have := R.1; show A.depth + _ < 1000; rw [weight_type_ref]; omega) (hG' _ _ hf) hfd (let ⟨mc, hn, h0⟩ := ok.nolimit; ⟨mc, hn.keeps hG', h0⟩) (hrec.keeps hG') rfl rfl rfl ?_ (fun s₁ IC => ?_) rfl rfl rfl
  · intro x hx
    simp only [List.mem_cons] at hx
    rcases hx with rfl | rfl | rfl | hx
    · exact .inl rfl
    · exact .inl rfl
    · exact .inl rfl
    · cases hx
  have ICI := IC.toInCall
  clear IC
  have hkinds : ∀ env : Env, env.scope = initScope → env.kindOf "self" = some .local ∧ env.kindOf "kind" = some .local ∧ env.kindOf "text" = some .local ∧ env.kindOf "Exception" = some .globalImplicit := fun env h => by
    unfold Env.kindOf; rw [h]; exact ⟨rfl, rfl, rfl, rfl⟩
  generalize henv : callEnvC (initDef P (initStmts P kk) pm code) h'.objs.size fI = env at ICI ⊢
  have hscope : env.scope = initScope := by rw [← henv]; rfl
  have hL : env.locals = h'.objs.size := by rw [← henv]; rfl
  have hglob : env.globals = mainGlobals := by rw [← henv]; rfl
  have hblt : env.builtins = builtinsNs := by rw [← henv]; rfl
  have hkind : env.scope.kind = .function := by rw [hscope]; rfl
  clear henv
  obtain ⟨ks, kk', kt, kE⟩ := hkinds env hscope
  obtain ⟨h₁, tk₁, rfl⟩ := ICI.same
  have hn₁ := ICI.ns
  have keep₁ := ICI.keep
  have hG₁ : ∀ b o, wd.G.get? b = some o → h₁.get? b = some o := fun b o eb => keep₁ b o (hG' b o eb)
  dsimp only at hn₁ keep₁
  have vals : ∀ (h : Heap) (m : Str → Option Value), h.Ns env.locals m → m = (bindL env.kindOf [("self", Value.ref e), ("kind", .str kd t1), ("text", .str tx t2)] fun _ => Option.none) → m "self" = some (.ref e) ∧ m "kind" = some (.str kd t1) ∧ m "text" = some (.str tx t2) := by
    intro h m _ hm
    subst hm
    have nd : (([("self", Value.ref e), ("kind", .str kd t1), ("text", .str tx t2)] : List (Str × Value)).map (·.1)).Nodup := (by decide : ([("self" : Str), "kind", "text"] : List Str).Nodup)
    exact ⟨bindL_get nd ks rfl, bindL_get nd kk' rfl, bindL_get nd kt rfl⟩
  obtain ⟨vs1, vk1, vt1⟩ := vals _ _ hn₁ rfl
  generalize (bindL env.kindOf [("self", Value.ref e), ("kind", .str kd t1), ("text", .str tx t2)] fun _ => Option.none) = m₁ at hn₁ vs1 vk1 vt1
  suffices H : ∀ (A' : Around) (Q' : Flow → Shared → Prop) (E' : Value → Shared → Prop), (∀ h₄ tk₄, Made wd.clsRef kd hp h₄ e → Q' .next ⟨h₄, g, d, tk₄, os⟩) → wpAny (model wd.prog wd.w) A' (execs (initStmts P kk) env) Q' E' ⟨h₁, g, d, tk₁, os⟩ from H _ _ _ fun h₄ tk₄ hm => ⟨rfl, hQ e h₄ tk₄ hm⟩
  clear hQ ICI hkinds vals
  intro A' Q' E' hQ
  unfold initStmts
  -- Exception.__init__(self, kind + ': ' + text)
  refine wpAny_execs_cons (wpAny_Expr_any (methodCall_KW ?_) (interactive_no hkind) rfl)
  have hgG : h₁.Ns env.globals wd.mg := by rw [hglob]; exact ok.g.keeps hG₁
  have hgB : h₁.Ns env.builtins wd.mb := by rw [hblt]; exact ok.b.keeps hG₁
  refine Calls.Name_function_global hkind kE (Calls.loadGlobal_builtin hgG hE.1 hgB hE.2 ?_) (by decide)
  refine exc_getm ?_
  refine Calls.callWith_builtin rfl (evalArgs_of rfl ?_)
  refine wpAny_items_cons (wpAny_Name (wpAny_loadName_local hkind ks hn₁ vs1 ?_) (by decide)) rfl
  refine wpAny_items_cons (wpAny_BinOp ?_) rfl
  refine wpAny_BinOp ?_
  refine wpAny_Name (wpAny_loadName_local hkind kk' hn₁ vk1 ?_) (by decide)
  refine wpAny_Constant_str ?_
  refine addStr ?_ fun z1 v1 tk1 l1 => ?_
  · have h1 : (": " : Str).length ≤ 10 := by decide +kernel
    have := hlen.1; omega
  refine wpAny_Name (wpAny_loadName_local hkind kt hn₁ vt1 ?_) (by decide)
  refine addStr ?_ fun z2 v2 tk2 l2 => ?_
  · have h1 : (": " : Str).length ≤ 10 := by decide +kernel
    have := hlen.1; have := hlen.2; omega
  refine wpAny_items_nil ?_
  have he₁ := keep₁ _ _ het
  refine wpAny_call (codeAny_call_builtin F.excBase_Exception.init.plain F.excBase_Exception.initEntry (wpAny_check_init_sub F.excBase_Exception (hG₁ _ _ hC) he₁ rfl ?_))
  refine exc_base he₁ rfl rfl ?_
  have hLe : env.locals ≠ e := fun q => by
    obtain ⟨o', _, _, e', hd', _⟩ := hn₁
    (first | exact nn e' ((q) ▸ (he₁)) | (rw [q, he₁] at e'; cases e')); cases hd'
  have up₂ : ∀ b o, b ≠ e → h₁.get? b = some o → ((h₁.push { cls := .type "tuple", data := .seq #[.str z2 v2] }).update e (Obj.mapFields (·.setIfInBounds 0 (.ref h₁.objs.size)))).get? b = some o := fun b o hb eb =>
    (Heap.get?_update_other _ _ (Ne.symm hb)).trans (Heap.get?_push_of_some _ eb)
  have he₂ : ((h₁.push { cls := .type "tuple", data := .seq #[.str z2 v2] }).update e (Obj.mapFields (·.setIfInBounds 0 (.ref h₁.objs.size)))).get? e = some { cls := .ref wd.clsRef, data := .fields #[.ref h₁.objs.size, .none, .none, .none, .bool false, .none] } := by
    rw [Heap.get?_update_self _ (Heap.get?_push_of_some _ he₁) rfl]
    rfl
  dsimp only
  generalize ((h₁.push { cls := .type "tuple", data := .seq #[.str z2 v2] }).update e (Obj.mapFields (·.setIfInBounds 0 (.ref h₁.objs.size)))) = h₂ at up₂ he₂ ⊢
  have notE : ∀ b o, hp.get? b = some o → b ≠ e := fun b o eb q => by (first | exact nn eb ((q) ▸ (hm.new)) | (rw [q, hm.new] at eb; cases eb))
  have old₂ : ∀ b o, hp.get? b = some o → h₂.get? b = some o := fun b o eb => up₂ b o (notE b o eb) (keep₁ b o (hm.keeps b o eb))
  have hG₂ : ∀ b o, wd.G.get? b = some o → h₂.get? b = some o := fun b o eb => old₂ b o (hG b o eb)
  have hn₂ : h₂.Ns env.locals m₁ := by
    obtain ⟨o', es, ep, e', r⟩ := hn₁
    exact ⟨o', es, ep, up₂ _ _ hLe e', r⟩
  -- self.kind = kind
  refine wpAny_execs_cons (plainObj_wpAny_Assign_Attribute ?_)
  refine wpAny_Name (wpAny_loadName_local hkind kk' hn₂ vk1 ?_) (by decide)
  refine wpAny_Name (wpAny_loadName_local hkind ks hn₂ vs1 ?_) (by decide)
  refine first_field F.store_Exception (hG₂ _ _ hC) (hn.keeps hG₂) hns hnk exc_no_kind he₂ rfl rfl rfl fun h₃ tk₃ dx hdx hdxe he₃ hd₃ up₃ => ?_
  have old₃ : ∀ b o, hp.get? b = some o → h₃.get? b = some o := fun b o eb => up₃ b o (notE b o eb) (old₂ b o eb)
  have hG₃ : ∀ b o, wd.G.get? b = some o → h₃.get? b = some o := fun b o eb => old₃ b o (hG b o eb)
  have hn₃ : h₃.Ns env.locals m₁ := by
    obtain ⟨o', es, ep, e', r⟩ := hn₂
    exact ⟨o', es, ep, up₃ _ _ hLe e', r⟩
  have hLd : env.locals ≠ dx := fun q => by
    obtain ⟨o', _, _, e', _⟩ := hn₂
    (first | exact nn e' ((q) ▸ (hdx)) | (rw [q, hdx] at e'; cases e'))
  have hdo : ∀ b o, hp.get? b = some o → b ≠ dx := fun b o eb q => by
    have := old₂ b o eb
    (first | exact nn this ((q) ▸ (hdx)) | (rw [q, hdx] at this; cases this))
  -- self.text = text
  refine wpAny_execs_cons (plainObj_wpAny_Assign_Attribute ?_)
  refine wpAny_Name (wpAny_loadName_local hkind kt hn₃ vt1 ?_) (by decide)
  refine wpAny_Name (wpAny_loadName_local hkind ks hn₃ vs1 ?_) (by decide)
  have hxC : e ≠ wd.clsRef := fun q => notE _ _ (hG _ _ hC) q.symm
  refine store_attr (mA := fun y => if y = "kind" then some (.str kd t1) else Option.none) (ns := ["kind"]) F.store_Exception (hG₃ _ _ hC) (hn.keeps hG₃) hns hnt exc_no_text hxC ⟨_, he₃, rfl, (fun c q => by cases q), .inr ⟨dx, rfl, hdxe, hd₃⟩⟩ (fun h₄ tk₄ I₄ up₄ same₄ => ?_) (Within.cons _ _ Within.nil) (by decide)
  refine wpAny_execs_nil (hQ h₄ tk₄ ⟨fun b o eb => ?_, hm.new, ?_⟩)
  · refine up₄ b o (notE b o eb) (fun o₀ dx' e₀ hd₀ => ?_) (old₃ b o eb)
    (first | exact nn e₀ (he₃) | cases ss (he₃) e₀ | cases Eq.trans (Eq.symm (he₃)) e₀ | (rw [he₃] at e₀; cases e₀))
    cases hd₀
    exact hdo b o eb
  · obtain ⟨o₁, e1, c1, d1, s1, dd1⟩ := same₄ _ he₃
    obtain ⟨o₂, e2, c2, nc2, hd2⟩ := I₄
    (first | exact nn e2 (e1) | cases ss (e1) e2 | cases Eq.trans (Eq.symm (e1)) e2 | (rw [e1] at e2; cases e2))
    have hdd := dd1 dx rfl
    rcases hd2 with ⟨q, _⟩ | ⟨dx', q, hne, hns'⟩
    · (first | exact nn q (hdd) | cases ss (hdd) q | cases Eq.trans (Eq.symm (hdd)) q | (rw [hdd] at q; cases q))
    · (first | exact nn q (hdd) | cases ss (hdd) q | cases Eq.trans (Eq.symm (hdd)) q | (rw [hdd] at q; cases q))
      refine ⟨o₁, _, dx, _, t1, e1, c1, hdd, ?_, hdxe, hns'.ns, ?_, d1, rfl⟩
      · cases hg : hp.get? dx with
        | none => rfl
        | some o => exact absurd rfl (hdo dx o hg)
      · rw [if_neg (by decide), if_pos rfl]
end
end Lz
namespace Lz
open PySem PySem.W PyProof.Rows

section
open Builtin Builtin.ObjectAttr
variable {prog : Program} {w : World} {A : Around} {E : Value → Shared → Prop} {h : Heap} {g : Array GenState} {d : Drawn} {t : Nat} {os : OsState} {nm q : Str} {C N x : Addr} {bs : List Value} {sn : List Str} {sub : List Value} {ab : Bool} {col : Option Bool} {dd : Option Addr} {k0 k1 k2 k3 k5 : Option Value} {newId : String}
  {mN mA : Str → Option Value} {name : Str} {v : Value}

theorem exc_mro : mroOf (.type "Exception") = pure excMro := F.attrBase_Exception.mro

theorem exc_check_ga {o : Obj} {nameV : Value} {M : Model} {Q : Unit → Shared → Prop} (hC : h.get? C = some (excClassObj nm q C N bs excMro true sn sub ab col dd k0 k1 k2 k3 k5 newId))
    (hx : h.get? x = some o) (hc : o.cls = .ref C) (hq : Q () ⟨h, g, d, t, os⟩) : wpAny M A (checkBuiltinCall "BaseException.__getattribute__" ⟨[.ref x, nameV], []⟩) Q E ⟨h, g, d, t, os⟩ := by
  have hk : builtinKind "BaseException.__getattribute__" = some .slot := by decide +kernel
  have hsplit : splitId "BaseException.__getattribute__" = some ("BaseException", "__getattribute__") := by decide +kernel
  have hcB : (Value.ref C :: excMro).contains (.type "BaseException") = true := by rw [List.contains_cons]; rfl
  have ha := F.args_bexc_ga (.ref x) nameV
  simp only [checkBuiltinCall, hk, hsplit]
  refine wpAny_bind ?_
  unfold isInstance
  repeat (first | (with_reducible refine wpAny_loadPart_at hx ?_; rw [hc]) | (with_reducible refine wpAny_isSubtype_exc hC ?_; rw [hcB]) | wp_step)
  exact hq

theorem exc_ga_entry {o : Obj} {dx : Addr} {vs : Array Value} {tk : Tok} {Q : Fin → Shared → Prop} (hC : h.get? C = some (excClassObj nm q C N bs excMro true sn sub ab col dd k0 k1 k2 k3 k5 newId)) (hn : h.Ns N mN)
    (hna : mN name = Option.none) (hB : typeLookup (.type "Exception") name = pure Option.none) (hx : h.get? x = some o) (hc : o.cls = .ref C) (hd : o.dict = some dx) (hdat : o.data = .fields vs) (hA : h.Ns dx mA) (hv : mA name = some v)
    (hq : Q (.done (.ret v)) ⟨h, g, d, t, os⟩) : wpAny (model prog w) A (Builtin.«object.__getattribute__» ⟨[.ref x, .str name tk], []⟩) Q E ⟨h, g, d, t, os⟩ := by
  unfold Builtin.«object.__getattribute__»
  repeat (first | (with_reducible refine wpAny_loadPart_at hx ?_; rw [hc]) | (with_reducible refine wpAny_typeLookup_exc hC hn exc_mro hB ?_; rw [hna]) | wp_step)
  rw [hdat]
  unfold instanceDict
  repeat (first | (with_reducible refine wpAny_loadPart_at hx ?_; rw [hc]) | with_reducible refine wpAny_loadPart_at hC ?_ | wp_step)
  rw [hd]
  repeat (first | (with_reducible refine wpAny_nsGet hA ?_; rw [hv]) | wp_step)
  exact hq

theorem exc_get {o : Obj} {dx : Addr} {vs : Array Value} {expr : Bool} {Q : Value → Shared → Prop} (hC : h.get? C = some (excClassObj nm q C N bs excMro true sn sub ab col dd k0 k1 k2 k3 k5 newId)) (hn : h.Ns N mN)
    (hga : mN "__getattribute__" = Option.none) (hgt : mN "__getattr__" = Option.none) (hh : handedOut v = pure v)
    (hna : mN name = Option.none) (hB : typeLookup (.type "Exception") name = pure Option.none) (hx : h.get? x = some o) (hc : o.cls = .ref C) (hd : o.dict = some dx) (hdat : o.data = .fields vs) (hA : h.Ns dx mA) (hv : mA name = some v)
    (hq : ∀ tk, Q v ⟨h, g, d, tk, os⟩) : wpAny (model prog w) A (getAttr (.ref x) name expr) Q E ⟨h, g, d, t, os⟩ := by
  have FB := F.attrBase_Exception
  have f3 := FB.ga.bind (.ref x)
  have hx0 : (expr && onTheHeap (Value.builtin "BaseException.__getattribute__")) = false := by cases expr <;> rfl
  have hx2 : (Value.builtin "BaseException.__getattribute__" == Value.builtin "object.__getattribute__") = false := by decide +kernel
  have hx1 : (onTheHeap (Value.ref C) && Value.builtin "BaseException.__getattribute__" == Value.builtin "object.__getattribute__") = false := by rw [hx2]; rfl
  unfold getAttr
  repeat (any_goals (first | assumption | (with_reducible refine wpAny_loadPart_at hx ?_; rw [hc]) | (with_reducible refine wpAny_typeLookup_exc hC hn exc_mro FB.ga.lookup ?_; rw [hga]) | (with_reducible refine wpAny_typeLookup_exc hC hn exc_mro FB.noGetattr ?_; rw [hgt]) | wp_step))
  refine codeAny_call_builtin FB.ga.plain F.entry_bexc_ga (exc_check_ga hC hx hc (exc_ga_entry hC hn hna hB hx hc hd hdat hA hv ?_))
  repeat (any_goals (first | assumption | wp_step))
  exact hq _
end

/-- all that is read of the class -/
theorem excOk {wd : Wd} {nm q : Str} {N fI : Addr} {bs : List Value} {sn : List Str} {sub : List Value} {ab : Bool} {col : Option Bool} {dd : Option Addr} {k0 k1 k2 k3 k5 : Option Value} {mN : Str → Option Value} {oI : Obj}
    {P : Nat → Pos} {kk : Nat} {pm code : Value} (ok : wd.Ok) (hname : wd.mg "CasFail" = some (.ref wd.clsRef))
    (hC : wd.G.get? wd.clsRef = some (excClassObj nm q wd.clsRef N bs excMro true sn sub ab col dd k0 k1 k2 k3 k5 "Exception.__new__")) (hn : wd.G.Ns N mN)
    (hi : mN "__init__" = some (.ref fI)) (hns : mN "__setattr__" = Option.none) (hnk : mN "kind" = Option.none) (hnt : mN "text" = Option.none) (hga : mN "__getattribute__" = Option.none) (hgt : mN "__getattr__" = Option.none)
    (hf : wd.G.get? fI = some oI) (hfc : oI.cls = .type "function") (hfd : oI.data = .func (initDef P (initStmts P kk) pm code)) (hrec : wd.G.CodeRec code "CasFail.__init__")
    (hE : wd.mg "Exception" = Option.none ∧ wd.mb "Exception" = some (.type "Exception")) : ExcOk wd where
  name := hname
  cls := ⟨nm, q, N, bs, excMro, true, sn, sub, ab, col, dd, k0, k1, k2, k3, k5, "Exception.__new__", hC, rfl⟩
  make := make_ok ok hC hn hi hns hnk hnt hf hfc hfd hrec hE
  kind := fun A s e dx oe vs m kd t expr Q E hG he hcls hd hdat hm hk hq => by
    obtain ⟨hp, g, d, tk, os⟩ := s
    exact exc_get (hG _ _ hC) (hn.keeps hG) hga hgt rfl hnk exc_no_kind he hcls hd hdat hm hk hq
end Lz
namespace Lz
open PySem PySem.W PyProof.Rows

/-! what the top leaves: the objects that the law reads -/
noncomputable def en (P : Params) (k : Str) (t : Tok) (v : Value) : DictEntry := { hash := PyData.keyHash P k, key := .str k t, val := v }
noncomputable def fo (nm : Str) (i : Nat) (pm : Value) (c : Addr) : Obj := { cls := .type "function", data := .func (Calls.docDef nm (pr i) (bd i) (sco i) pm (.ref c) .none) }
noncomputable def hP (i : Nat) : Pos := [⟨0, 0, 0, 0⟩, ⟨5, 8, 5, 17⟩, ⟨5, 8, 5, 26⟩, ⟨5, 27, 5, 31⟩, ⟨5, 33, 5, 37⟩, ⟨5, 40, 5, 44⟩, ⟨5, 33, 5, 44⟩, ⟨5, 47, 5, 51⟩, ⟨5, 33, 5, 51⟩, ⟨5, 8, 5, 52⟩, ⟨5, 8, 5, 52⟩, ⟨6, 8, 6, 12⟩, ⟨6, 8, 6, 17⟩, ⟨6, 20, 6, 24⟩, ⟨6, 8, 6, 24⟩, ⟨7, 8, 7, 12⟩, ⟨7, 8, 7, 17⟩, ⟨7, 20, 7, 24⟩, ⟨7, 8, 7, 24⟩, ⟨4, 17, 4, 21⟩, ⟨4, 23, 4, 27⟩, ⟨4, 29, 4, 33⟩].getD i ⟨0, 0, 0, 0⟩
noncomputable def hK (P : Params) : Frag :=
  (nat_lit 3, { cls := .type "dict", data := .dict #[en P "__name__" 165 (.str "law_pf0035_01" 420), en P "__doc__" 166 (.none), en P "__package__" 167 (.none), en P "__loader__" 168 (.builtin "__main__.__loader__#opaque"), en P "__spec__" 169 (.none), en P "__annotations__" 170 (.ref 6), en P "__builtins__" 171 (.ref 4), en P "__file__" 173 (.str "/claim/cut.py" 172), en P "__cached__" 174 (.none), en P "CasFail" 219 (.ref 31), en P "gcd" 229 (.ref 41), en P "R0" 234 (.ref 42), en P "R1" 237 (.ref 43), en P "rat" 246 (.ref 50), en P "radd" 254 (.ref 57), en P "rsub" 262 (.ref 64), en P "rmul" 270 (.ref 71), en P "rdiv" 278 (.ref 78), en P "rneg" 285 (.ref 85), en P "cut" 295 (.ref 92), en P "sadd" 301 (.ref 97), en P "mixed" 312 (.ref 104), en P "smul" 318 (.ref 109), en P "sinverse" 329 (.ref 116), en P "swhole_power" 340 (.ref 123), en P "lplain" 350 (.ref 130), en P "lmoved" 358 (.ref 137), en P "ladd" 367 (.ref 144), en P "lneg" 373 (.ref 149), en P "lmul" 381 (.ref 156), en P "ltrim" 390 (.ref 163), en P "linverse" 399 (.ref 170), en P "lpower" 409 (.ref 177), en P "lcut" 419 (.ref 184), en P "_law_take" 429 (.ref 191), en P "_law_drawn" 435 (.ref 196), en P "_law_rows" 441 (.ref 201), en P "_law_alike" 447 (.ref 206), en P "_law_product" 463 (.ref 213), en P "_law_kind" 471 (.ref 220), en P "_law_two_right" 477 (.ref 225), en P "_law_power_right" 483 (.ref 230), en P "_law_inverse_right" 493 (.ref 237), en P "_law_cut_right" 499 (.ref 242), en P "_law_plain_right" 512 (.ref 249), en P "law" 524 (.ref 256)] 46 }) ::
  (nat_lit 27, { cls := .type "code", data := .fields #[.str "__init__" 201, .str "CasFail.__init__" 202, .str "/claim/cut.py" 203, .int 4 0, .int 3 0, .int 0 0, .int 0 0, .int 3 0, .ref 22, .bool true, .int 181 0, .ref 23, .none, .ref 24, .ref 25, .ref 26, .int 207 0, .int 4 0, .str "/claim/cut.py" 208] }) ::
  (nat_lit 28, { cls := .type "function", data := .func (initDef hP (initStmts hP 0) (.str "cas.errors" 187) (.ref 27)) }) ::
  (nat_lit 30, { cls := .type "dict", data := .dict #[en P "__module__" 196 (.str "cas.errors" 187), en P "__firstlineno__" 200 (.int 2 199), en P "__init__" 209 (.ref 28), en P "__static_attributes__" 212 (.ref 29), en P "__weakref__" 214 (.ref 32), en P "__doc__" 215 (.none)] 3 }) ::
  (nat_lit 31, { cls := .type "type", data := .cls { name := "CasFail", bases := [.type "Exception"], mro := [.ref 31, .type "Exception", .type "BaseException", .type "object"], ns := 30, qualname := "CasFail" }, slots := #[some (.ref 15), none, some (.str "CasFail" 189), some (.str "CasFail" 197), some (.builtin "Exception.__new__"), some (.bool true)] }) ::
  (nat_lit 40, { cls := .type "code", data := .fields #[.str "gcd" 222, .str "gcd" 223, .str "/claim/cut.py" 224, .int 9 0, .int 2 0, .int 0 0, .int 0 0, .int 3 0, .ref 35, .bool true, .int 181 0, .ref 36, .none, .ref 37, .ref 38, .ref 39, .int 227 0, .int 9 0, .str "/claim/cut.py" 228] }) ::
  (nat_lit 41, fo "gcd" 3 (.str "cas.ints" 220) 40) ::
  (nat_lit 49, { cls := .type "code", data := .fields #[.str "rat" 238, .str "rat" 239, .str "/claim/cut.py" 240, .int 17 0, .int 2 0, .int 0 0, .int 0 0, .int 3 0, .ref 44, .bool true, .int 181 0, .ref 45, .none, .ref 46, .ref 47, .ref 48, .int 244 0, .int 17 0, .str "/claim/cut.py" 245] }) ::
  (nat_lit 50, fo "rat" 7 (.str "cas.rats" 230) 49) ::
  (nat_lit 56, { cls := .type "code", data := .fields #[.str "radd" 247, .str "radd" 248, .str "/claim/cut.py" 249, .int 22 0, .int 2 0, .int 0 0, .int 0 0, .int 3 0, .ref 51, .bool true, .int 181 0, .ref 52, .none, .ref 53, .ref 54, .ref 55, .int 252 0, .int 22 0, .str "/claim/cut.py" 253] }) ::
  (nat_lit 57, fo "radd" 8 (.str "cas.rats" 230) 56) ::
  (nat_lit 63, { cls := .type "code", data := .fields #[.str "rsub" 255, .str "rsub" 256, .str "/claim/cut.py" 257, .int 24 0, .int 2 0, .int 0 0, .int 0 0, .int 3 0, .ref 58, .bool true, .int 181 0, .ref 59, .none, .ref 60, .ref 61, .ref 62, .int 260 0, .int 24 0, .str "/claim/cut.py" 261] }) ::
  (nat_lit 64, fo "rsub" 9 (.str "cas.rats" 230) 63) ::
  (nat_lit 70, { cls := .type "code", data := .fields #[.str "rmul" 263, .str "rmul" 264, .str "/claim/cut.py" 265, .int 26 0, .int 2 0, .int 0 0, .int 0 0, .int 3 0, .ref 65, .bool true, .int 181 0, .ref 66, .none, .ref 67, .ref 68, .ref 69, .int 268 0, .int 26 0, .str "/claim/cut.py" 269] }) ::
  (nat_lit 71, fo "rmul" 10 (.str "cas.rats" 230) 70) ::
  (nat_lit 77, { cls := .type "code", data := .fields #[.str "rdiv" 271, .str "rdiv" 272, .str "/claim/cut.py" 273, .int 28 0, .int 2 0, .int 0 0, .int 0 0, .int 3 0, .ref 72, .bool true, .int 181 0, .ref 73, .none, .ref 74, .ref 75, .ref 76, .int 276 0, .int 28 0, .str "/claim/cut.py" 277] }) ::
  (nat_lit 78, fo "rdiv" 11 (.str "cas.rats" 230) 77) ::
  (nat_lit 84, { cls := .type "code", data := .fields #[.str "rneg" 279, .str "rneg" 280, .str "/claim/cut.py" 281, .int 30 0, .int 1 0, .int 0 0, .int 0 0, .int 3 0, .ref 79, .bool true, .int 181 0, .ref 80, .none, .ref 81, .ref 82, .ref 83, .int 283 0, .int 30 0, .str "/claim/cut.py" 284] }) ::
  (nat_lit 85, fo "rneg" 12 (.str "cas.rats" 230) 84) ::
  (nat_lit 91, { cls := .type "code", data := .fields #[.str "cut" 288, .str "cut" 289, .str "/claim/cut.py" 290, .int 33 0, .int 2 0, .int 0 0, .int 0 0, .int 3 0, .ref 86, .bool true, .int 181 0, .ref 87, .none, .ref 88, .ref 89, .ref 90, .int 293 0, .int 33 0, .str "/claim/cut.py" 294] }) ::
  (nat_lit 92, fo "cut" 14 (.str "cas.series" 286) 91) ::
  (nat_lit 96, { cls := .type "code", data := .fields #[.str "sadd" 296, .str "sadd" 297, .str "/claim/cut.py" 298, .int 35 0, .int 2 0, .int 0 0, .int 0 0, .int 3 0, .ref 93, .bool true, .int 181 0, .ref 94, .none, .none, .none, .ref 95, .int 299 0, .int 35 0, .str "/claim/cut.py" 300] }) ::
  (nat_lit 97, fo "sadd" 15 (.str "cas.series" 286) 96) ::
  (nat_lit 103, { cls := .type "code", data := .fields #[.str "mixed" 302, .str "mixed" 303, .str "/claim/cut.py" 304, .int 37 0, .int 3 0, .int 0 0, .int 0 0, .int 3 0, .ref 98, .bool true, .int 181 0, .ref 99, .none, .ref 100, .ref 101, .ref 102, .int 310 0, .int 37 0, .str "/claim/cut.py" 311] }) ::
  (nat_lit 104, fo "mixed" 16 (.str "cas.series" 286) 103) ::
  (nat_lit 108, { cls := .type "code", data := .fields #[.str "smul" 313, .str "smul" 314, .str "/claim/cut.py" 315, .int 43 0, .int 2 0, .int 0 0, .int 0 0, .int 3 0, .ref 105, .bool true, .int 181 0, .ref 106, .none, .none, .none, .ref 107, .int 316 0, .int 43 0, .str "/claim/cut.py" 317] }) ::
  (nat_lit 109, fo "smul" 17 (.str "cas.series" 286) 108) ::
  (nat_lit 115, { cls := .type "code", data := .fields #[.str "sinverse" 319, .str "sinverse" 320, .str "/claim/cut.py" 321, .int 45 0, .int 1 0, .int 0 0, .int 0 0, .int 3 0, .ref 110, .bool true, .int 181 0, .ref 111, .none, .ref 112, .ref 113, .ref 114, .int 327 0, .int 45 0, .str "/claim/cut.py" 328] }) ::
  (nat_lit 116, fo "sinverse" 18 (.str "cas.series" 286) 115) ::
  (nat_lit 122, { cls := .type "code", data := .fields #[.str "swhole_power" 330, .str "swhole_power" 331, .str "/claim/cut.py" 332, .int 55 0, .int 2 0, .int 0 0, .int 0 0, .int 3 0, .ref 117, .bool true, .int 181 0, .ref 118, .none, .ref 119, .ref 120, .ref 121, .int 338 0, .int 55 0, .str "/claim/cut.py" 339] }) ::
  (nat_lit 123, fo "swhole_power" 19 (.str "cas.series" 286) 122) ::
  (nat_lit 129, { cls := .type "code", data := .fields #[.str "lplain" 343, .str "lplain" 344, .str "/claim/cut.py" 345, .int 65 0, .int 2 0, .int 0 0, .int 0 0, .int 3 0, .ref 124, .bool true, .int 181 0, .ref 125, .none, .ref 126, .ref 127, .ref 128, .int 348 0, .int 65 0, .str "/claim/cut.py" 349] }) ::
  (nat_lit 130, fo "lplain" 21 (.str "cas.laurent" 341) 129) ::
  (nat_lit 136, { cls := .type "code", data := .fields #[.str "lmoved" 351, .str "lmoved" 352, .str "/claim/cut.py" 353, .int 67 0, .int 2 0, .int 0 0, .int 0 0, .int 3 0, .ref 131, .bool true, .int 181 0, .ref 132, .none, .ref 133, .ref 134, .ref 135, .int 356 0, .int 67 0, .str "/claim/cut.py" 357] }) ::
  (nat_lit 137, fo "lmoved" 22 (.str "cas.laurent" 341) 136) ::
  (nat_lit 143, { cls := .type "code", data := .fields #[.str "ladd" 359, .str "ladd" 360, .str "/claim/cut.py" 361, .int 69 0, .int 2 0, .int 0 0, .int 0 0, .int 3 0, .ref 138, .bool true, .int 181 0, .ref 139, .none, .ref 140, .ref 141, .ref 142, .int 365 0, .int 69 0, .str "/claim/cut.py" 366] }) ::
  (nat_lit 144, fo "ladd" 23 (.str "cas.laurent" 341) 143) ::
  (nat_lit 148, { cls := .type "code", data := .fields #[.str "lneg" 368, .str "lneg" 369, .str "/claim/cut.py" 370, .int 72 0, .int 1 0, .int 0 0, .int 0 0, .int 3 0, .ref 145, .bool true, .int 181 0, .ref 146, .none, .none, .none, .ref 147, .int 371 0, .int 72 0, .str "/claim/cut.py" 372] }) ::
  (nat_lit 149, fo "lneg" 24 (.str "cas.laurent" 341) 148) ::
  (nat_lit 155, { cls := .type "code", data := .fields #[.str "lmul" 374, .str "lmul" 375, .str "/claim/cut.py" 376, .int 74 0, .int 2 0, .int 0 0, .int 0 0, .int 3 0, .ref 150, .bool true, .int 181 0, .ref 151, .none, .ref 152, .ref 153, .ref 154, .int 379 0, .int 74 0, .str "/claim/cut.py" 380] }) ::
  (nat_lit 156, fo "lmul" 25 (.str "cas.laurent" 341) 155) ::
  (nat_lit 162, { cls := .type "code", data := .fields #[.str "ltrim" 382, .str "ltrim" 383, .str "/claim/cut.py" 384, .int 76 0, .int 1 0, .int 0 0, .int 0 0, .int 3 0, .ref 157, .bool true, .int 181 0, .ref 158, .none, .ref 159, .ref 160, .ref 161, .int 388 0, .int 76 0, .str "/claim/cut.py" 389] }) ::
  (nat_lit 163, fo "ltrim" 26 (.str "cas.laurent" 341) 162) ::
  (nat_lit 169, { cls := .type "code", data := .fields #[.str "linverse" 391, .str "linverse" 392, .str "/claim/cut.py" 393, .int 81 0, .int 1 0, .int 0 0, .int 0 0, .int 3 0, .ref 164, .bool true, .int 181 0, .ref 165, .none, .ref 166, .ref 167, .ref 168, .int 397 0, .int 81 0, .str "/claim/cut.py" 398] }) ::
  (nat_lit 170, fo "linverse" 27 (.str "cas.laurent" 341) 169) ::
  (nat_lit 176, { cls := .type "code", data := .fields #[.str "lpower" 400, .str "lpower" 401, .str "/claim/cut.py" 402, .int 86 0, .int 2 0, .int 0 0, .int 0 0, .int 3 0, .ref 171, .bool true, .int 181 0, .ref 172, .none, .ref 173, .ref 174, .ref 175, .int 407 0, .int 86 0, .str "/claim/cut.py" 408] }) ::
  (nat_lit 177, fo "lpower" 28 (.str "cas.laurent" 341) 176) ::
  (nat_lit 183, { cls := .type "code", data := .fields #[.str "lcut" 410, .str "lcut" 411, .str "/claim/cut.py" 412, .int 93 0, .int 2 0, .int 0 0, .int 0 0, .int 3 0, .ref 178, .bool true, .int 181 0, .ref 179, .none, .ref 180, .ref 181, .ref 182, .int 417 0, .int 93 0, .str "/claim/cut.py" 418] }) ::
  (nat_lit 184, fo "lcut" 29 (.str "cas.laurent" 341) 183) ::
  (nat_lit 190, { cls := .type "code", data := .fields #[.str "_law_take" 422, .str "_law_take" 423, .str "/claim/cut.py" 424, .int 101 0, .int 2 0, .int 0 0, .int 0 0, .int 3 0, .ref 185, .bool true, .int 181 0, .ref 186, .none, .ref 187, .ref 188, .ref 189, .int 427 0, .int 101 0, .str "/claim/cut.py" 428] }) ::
  (nat_lit 191, fo "_law_take" 31 (.str "law_pf0035_01" 420) 190) ::
  (nat_lit 195, { cls := .type "code", data := .fields #[.str "_law_drawn" 430, .str "_law_drawn" 431, .str "/claim/cut.py" 432, .int 106 0, .int 1 0, .int 0 0, .int 0 0, .int 3 0, .ref 192, .bool true, .int 181 0, .ref 193, .none, .none, .none, .ref 194, .int 433 0, .int 106 0, .str "/claim/cut.py" 434] }) ::
  (nat_lit 196, fo "_law_drawn" 32 (.str "law_pf0035_01" 420) 195) ::
  (nat_lit 200, { cls := .type "code", data := .fields #[.str "_law_rows" 436, .str "_law_rows" 437, .str "/claim/cut.py" 438, .int 109 0, .int 1 0, .int 0 0, .int 0 0, .int 3 0, .ref 197, .bool true, .int 181 0, .ref 198, .none, .none, .none, .ref 199, .int 439 0, .int 109 0, .str "/claim/cut.py" 440] }) ::
  (nat_lit 201, fo "_law_rows" 33 (.str "law_pf0035_01" 420) 200) ::
  (nat_lit 205, { cls := .type "code", data := .fields #[.str "_law_alike" 442, .str "_law_alike" 443, .str "/claim/cut.py" 444, .int 112 0, .int 3 0, .int 0 0, .int 0 0, .int 3 0, .ref 202, .bool true, .int 181 0, .ref 203, .none, .none, .none, .ref 204, .int 445 0, .int 112 0, .str "/claim/cut.py" 446] }) ::
  (nat_lit 206, fo "_law_alike" 34 (.str "law_pf0035_01" 420) 205) ::
  (nat_lit 212, { cls := .type "code", data := .fields #[.str "_law_product" 448, .str "_law_product" 449, .str "/claim/cut.py" 450, .int 118 0, .int 2 0, .int 0 0, .int 0 0, .int 3 0, .ref 207, .bool true, .int 181 0, .ref 208, .none, .ref 209, .ref 210, .ref 211, .int 461 0, .int 118 0, .str "/claim/cut.py" 462] }) ::
  (nat_lit 213, fo "_law_product" 35 (.str "law_pf0035_01" 420) 212) ::
  (nat_lit 219, { cls := .type "code", data := .fields #[.str "_law_kind" 464, .str "_law_kind" 465, .str "/claim/cut.py" 466, .int 127 0, .int 1 0, .int 0 0, .int 0 0, .int 3 0, .ref 214, .bool true, .int 181 0, .ref 215, .none, .ref 216, .ref 217, .ref 218, .int 469 0, .int 127 0, .str "/claim/cut.py" 470] }) ::
  (nat_lit 220, fo "_law_kind" 36 (.str "law_pf0035_01" 420) 219) ::
  (nat_lit 224, { cls := .type "code", data := .fields #[.str "_law_two_right" 472, .str "_law_two_right" 473, .str "/claim/cut.py" 474, .int 133 0, .int 2 0, .int 0 0, .int 0 0, .int 3 0, .ref 221, .bool true, .int 181 0, .ref 222, .none, .none, .none, .ref 223, .int 475 0, .int 133 0, .str "/claim/cut.py" 476] }) ::
  (nat_lit 225, fo "_law_two_right" 37 (.str "law_pf0035_01" 420) 224) ::
  (nat_lit 229, { cls := .type "code", data := .fields #[.str "_law_power_right" 478, .str "_law_power_right" 479, .str "/claim/cut.py" 480, .int 145 0, .int 2 0, .int 0 0, .int 0 0, .int 3 0, .ref 226, .bool true, .int 181 0, .ref 227, .none, .none, .none, .ref 228, .int 481 0, .int 145 0, .str "/claim/cut.py" 482] }) ::
  (nat_lit 230, fo "_law_power_right" 38 (.str "law_pf0035_01" 420) 229) ::
  (nat_lit 236, { cls := .type "code", data := .fields #[.str "_law_inverse_right" 484, .str "_law_inverse_right" 485, .str "/claim/cut.py" 486, .int 156 0, .int 1 0, .int 0 0, .int 0 0, .int 3 0, .ref 231, .bool true, .int 181 0, .ref 232, .none, .ref 233, .ref 234, .ref 235, .int 491 0, .int 156 0, .str "/claim/cut.py" 492] }) ::
  (nat_lit 237, fo "_law_inverse_right" 39 (.str "law_pf0035_01" 420) 236) ::
  (nat_lit 241, { cls := .type "code", data := .fields #[.str "_law_cut_right" 494, .str "_law_cut_right" 495, .str "/claim/cut.py" 496, .int 166 0, .int 2 0, .int 0 0, .int 0 0, .int 3 0, .ref 238, .bool true, .int 181 0, .ref 239, .none, .none, .none, .ref 240, .int 497 0, .int 166 0, .str "/claim/cut.py" 498] }) ::
  (nat_lit 242, fo "_law_cut_right" 40 (.str "law_pf0035_01" 420) 241) ::
  (nat_lit 248, { cls := .type "code", data := .fields #[.str "_law_plain_right" 500, .str "_law_plain_right" 501, .str "/claim/cut.py" 502, .int 174 0, .int 2 0, .int 0 0, .int 0 0, .int 3 0, .ref 243, .bool true, .int 181 0, .ref 244, .none, .ref 245, .ref 246, .ref 247, .int 510 0, .int 174 0, .str "/claim/cut.py" 511] }) ::
  (nat_lit 249, fo "_law_plain_right" 41 (.str "law_pf0035_01" 420) 248) ::
  (nat_lit 255, { cls := .type "code", data := .fields #[.str "law" 513, .str "law" 514, .str "/claim/cut.py" 515, .int 186 0, .int 1 0, .int 0 0, .int 0 0, .int 3 0, .ref 250, .bool true, .int 181 0, .ref 251, .none, .ref 252, .ref 253, .ref 254, .int 522 0, .int 186 0, .str "/claim/cut.py" 523] }) ::
  (nat_lit 256, fo "law" 42 (.str "law_pf0035_01" 420) 255) ::
  (nat_lit 42, { cls := .type "tuple", data := .seq #[.int 0 232, .int 1 233] }) ::
  (nat_lit 43, { cls := .type "tuple", data := .seq #[.int 1 235, .int 1 236] }) :: []
noncomputable def hA : List Addr := [3, 27, 28, 30, 31, 40, 41, 49, 50, 56, 57, 63, 64, 70, 71, 77, 78, 84, 85, 91, 92, 96, 97, 103, 104, 108, 109, 115, 116, 122, 123, 129, 130, 136, 137, 143, 144, 148, 149, 155, 156, 162, 163, 169, 170, 176, 177, 183, 184, 190, 191, 195, 196, 200, 201, 205, 206, 212, 213, 219, 220, 224, 225, 229, 230, 236, 237, 241, 242, 248, 249, 255, 256, 42, 43]
noncomputable def hQ : Program := { PySem.Challenge.pw_pf0035_01 with main := { PySem.Challenge.pw_pf0035_01.main with body := [nth 42] } }
noncomputable def hL : List Str := (["CasFail", "gcd", "R0", "R1", "rat", "radd", "rsub", "rmul", "rdiv", "rneg", "cut", "sadd", "mixed", "smul", "sinverse", "swhole_power", "lplain", "lmoved", "ladd", "lneg", "lmul", "ltrim", "linverse", "lpower", "lcut", "_law_take", "_law_drawn", "_law_rows", "_law_alike", "_law_product", "_law_kind", "_law_two_right", "_law_power_right", "_law_inverse_right", "_law_cut_right", "_law_plain_right"] : List String).map Str.ofString
theorem hA_eq (P : Params) : hA = (hK P).map (·.1) := by rfl

theorem left : LeftO PySem.Challenge.pw_pf0035_01 hQ hL (fun s => xlAt hQ [] s && recOk [] s) (Hook.obs (kmHook hK hA hA_eq [227, 232, 239, 244])) (Hook.val (kmHook hK hA hA_eq [227, 232, 239, 244])) 2780 := fun w => by kernel_rfl
end Lz
namespace Lz
open PySem PySem.W PyProof.Rows

noncomputable def wdOf (w : World) (G : Heap) (mg mb : Str → Option Value) (B Lf : Addr) (scr : List Int) : Wd where
  prog := PySem.Challenge.rw_pf0035_01.row.prog
  w := w
  G := G
  mg := mg
  mb := mb
  B := B
  Lf := Lf
  scr := scr
  tabs := [(227, "_law_power_right.<locals>.<lambda>"), (232, "_law_inverse_right.<locals>.<lambda>"), (239, "_law_cut_right.<locals>.<lambda>"), (244, "_law_plain_right.<locals>.<lambda>")]
  clsRef := 31
  codes := [(sco 38, 229, 227, "_law_power_right.<locals>.<lambda>"), (sco 39, 236, 232, "_law_inverse_right.<locals>.<lambda>"), (sco 40, 241, 239, "_law_cut_right.<locals>.<lambda>"), (sco 41, 248, 244, "_law_plain_right.<locals>.<lambda>")]

theorem fnat {wd : Wd} {K : Frag} {name : Str} {params : Arguments} {body : List Stmt} {scope : Scope} {a c : Addr} {o oc : Obj} {pm doc : Value} {vs : Array Value} {t : Tok} (X : K.In wd.G) (N : wd.G.Ns mainGlobals wd.mg)
    (h1 : nsIn K mainGlobals name = some (some (.ref a))) (h2 : K.lookup a = some o) (h3 : o.data = .func (Calls.docDef name params body scope pm (.ref c) doc)) (h4 : K.lookup c = some oc) (h5 : oc.data = .fields vs) (h6 : vs[1]? = some (.str name t))
    (h7 : ∀ p ∈ wd.codes, scope = p.1 → c = p.2.1 ∧ (name ++ ".<locals>.") ++ "<lambda>" = p.2.2.2) : FnAtG wd name params body scope :=
  ⟨a, o, pm, .ref c, doc, mg_of X N h1, X _ _ h2, h3, ⟨c, oc, vs, t, rfl, X _ _ h4, h5, h6⟩, fun p hp hs => ⟨by rw [(h7 p hp hs).1], (h7 p hp hs).2⟩⟩

theorem sco_ne {s t : Scope} (h : (s.names.map (·.1) == t.names.map (·.1)) = false) : s ≠ t := fun q => by
  subst q
  simp at h
theorem codes4 {s : Scope} {a1 a2 a3 a4 b1 b2 b3 b4 c : Addr} {q1 q2 q3 q4 n : Str} {s1 s2 s3 s4 : Scope} (h1 : s ≠ s1 ∨ (c = a1 ∧ n = q1)) (h2 : s ≠ s2 ∨ (c = a2 ∧ n = q2)) (h3 : s ≠ s3 ∨ (c = a3 ∧ n = q3)) (h4 : s ≠ s4 ∨ (c = a4 ∧ n = q4)) :
    ∀ p ∈ [(s1, a1, b1, q1), (s2, a2, b2, q2), (s3, a3, b3, q3), (s4, a4, b4, q4)], s = p.1 → c = p.2.1 ∧ n = p.2.2.2 := by
  intro p hp hs
  simp only [List.mem_cons] at hp
  rcases hp with rfl | rfl | rfl | rfl | hp
  · exact h1.elim (fun z => absurd hs z) id
  · exact h2.elim (fun z => absurd hs z) id
  · exact h3.elim (fun z => absurd hs z) id
  · exact h4.elim (fun z => absurd hs z) id
  · cases hp
section
variable {w : World} {G : Heap} {mg mb : Str → Option Value} {B Lf : Addr} {scr : List Int}
theorem at3 (X : (hK w.params).In G) (N : G.Ns mainGlobals mg) : FnAtG (wdOf w G mg mb B Lf scr) "gcd" (pr 3) (bd 3) (sco 3) :=
  fnat (wd := wdOf w G mg mb B Lf scr) (a := 41) (c := 40) X N (by rfl) (by rfl) (by rfl) (by rfl) (by rfl) (by rfl) (codes4 (.inl (sco_ne (by decide +kernel))) (.inl (sco_ne (by decide +kernel))) (.inl (sco_ne (by decide +kernel))) (.inl (sco_ne (by decide +kernel))))
theorem at7 (X : (hK w.params).In G) (N : G.Ns mainGlobals mg) : FnAtG (wdOf w G mg mb B Lf scr) "rat" (pr 7) (bd 7) (sco 7) :=
  fnat (wd := wdOf w G mg mb B Lf scr) (a := 50) (c := 49) X N (by rfl) (by rfl) (by rfl) (by rfl) (by rfl) (by rfl) (codes4 (.inl (sco_ne (by decide +kernel))) (.inl (sco_ne (by decide +kernel))) (.inl (sco_ne (by decide +kernel))) (.inl (sco_ne (by decide +kernel))))
theorem at8 (X : (hK w.params).In G) (N : G.Ns mainGlobals mg) : FnAtG (wdOf w G mg mb B Lf scr) "radd" (pr 8) (bd 8) (sco 8) :=
  fnat (wd := wdOf w G mg mb B Lf scr) (a := 57) (c := 56) X N (by rfl) (by rfl) (by rfl) (by rfl) (by rfl) (by rfl) (codes4 (.inl (sco_ne (by decide +kernel))) (.inl (sco_ne (by decide +kernel))) (.inl (sco_ne (by decide +kernel))) (.inl (sco_ne (by decide +kernel))))
theorem at9 (X : (hK w.params).In G) (N : G.Ns mainGlobals mg) : FnAtG (wdOf w G mg mb B Lf scr) "rsub" (pr 9) (bd 9) (sco 9) :=
  fnat (wd := wdOf w G mg mb B Lf scr) (a := 64) (c := 63) X N (by rfl) (by rfl) (by rfl) (by rfl) (by rfl) (by rfl) (codes4 (.inl (sco_ne (by decide +kernel))) (.inl (sco_ne (by decide +kernel))) (.inl (sco_ne (by decide +kernel))) (.inl (sco_ne (by decide +kernel))))
theorem at10 (X : (hK w.params).In G) (N : G.Ns mainGlobals mg) : FnAtG (wdOf w G mg mb B Lf scr) "rmul" (pr 10) (bd 10) (sco 10) :=
  fnat (wd := wdOf w G mg mb B Lf scr) (a := 71) (c := 70) X N (by rfl) (by rfl) (by rfl) (by rfl) (by rfl) (by rfl) (codes4 (.inl (sco_ne (by decide +kernel))) (.inl (sco_ne (by decide +kernel))) (.inl (sco_ne (by decide +kernel))) (.inl (sco_ne (by decide +kernel))))
theorem at11 (X : (hK w.params).In G) (N : G.Ns mainGlobals mg) : FnAtG (wdOf w G mg mb B Lf scr) "rdiv" (pr 11) (bd 11) (sco 11) :=
  fnat (wd := wdOf w G mg mb B Lf scr) (a := 78) (c := 77) X N (by rfl) (by rfl) (by rfl) (by rfl) (by rfl) (by rfl) (codes4 (.inl (sco_ne (by decide +kernel))) (.inl (sco_ne (by decide +kernel))) (.inl (sco_ne (by decide +kernel))) (.inl (sco_ne (by decide +kernel))))
theorem at12 (X : (hK w.params).In G) (N : G.Ns mainGlobals mg) : FnAtG (wdOf w G mg mb B Lf scr) "rneg" (pr 12) (bd 12) (sco 12) :=
  fnat (wd := wdOf w G mg mb B Lf scr) (a := 85) (c := 84) X N (by rfl) (by rfl) (by rfl) (by rfl) (by rfl) (by rfl) (codes4 (.inl (sco_ne (by decide +kernel))) (.inl (sco_ne (by decide +kernel))) (.inl (sco_ne (by decide +kernel))) (.inl (sco_ne (by decide +kernel))))
theorem at14 (X : (hK w.params).In G) (N : G.Ns mainGlobals mg) : FnAtG (wdOf w G mg mb B Lf scr) "cut" (pr 14) (bd 14) (sco 14) :=
  fnat (wd := wdOf w G mg mb B Lf scr) (a := 92) (c := 91) X N (by rfl) (by rfl) (by rfl) (by rfl) (by rfl) (by rfl) (codes4 (.inl (sco_ne (by decide +kernel))) (.inl (sco_ne (by decide +kernel))) (.inl (sco_ne (by decide +kernel))) (.inl (sco_ne (by decide +kernel))))
theorem at15 (X : (hK w.params).In G) (N : G.Ns mainGlobals mg) : FnAtG (wdOf w G mg mb B Lf scr) "sadd" (pr 15) (bd 15) (sco 15) :=
  fnat (wd := wdOf w G mg mb B Lf scr) (a := 97) (c := 96) X N (by rfl) (by rfl) (by rfl) (by rfl) (by rfl) (by rfl) (codes4 (.inl (sco_ne (by decide +kernel))) (.inl (sco_ne (by decide +kernel))) (.inl (sco_ne (by decide +kernel))) (.inl (sco_ne (by decide +kernel))))
theorem at16 (X : (hK w.params).In G) (N : G.Ns mainGlobals mg) : FnAtG (wdOf w G mg mb B Lf scr) "mixed" (pr 16) (bd 16) (sco 16) :=
  fnat (wd := wdOf w G mg mb B Lf scr) (a := 104) (c := 103) X N (by rfl) (by rfl) (by rfl) (by rfl) (by rfl) (by rfl) (codes4 (.inl (sco_ne (by decide +kernel))) (.inl (sco_ne (by decide +kernel))) (.inl (sco_ne (by decide +kernel))) (.inl (sco_ne (by decide +kernel))))
theorem at17 (X : (hK w.params).In G) (N : G.Ns mainGlobals mg) : FnAtG (wdOf w G mg mb B Lf scr) "smul" (pr 17) (bd 17) (sco 17) :=
  fnat (wd := wdOf w G mg mb B Lf scr) (a := 109) (c := 108) X N (by rfl) (by rfl) (by rfl) (by rfl) (by rfl) (by rfl) (codes4 (.inl (sco_ne (by decide +kernel))) (.inl (sco_ne (by decide +kernel))) (.inl (sco_ne (by decide +kernel))) (.inl (sco_ne (by decide +kernel))))
theorem at18 (X : (hK w.params).In G) (N : G.Ns mainGlobals mg) : FnAtG (wdOf w G mg mb B Lf scr) "sinverse" (pr 18) (bd 18) (sco 18) :=
  fnat (wd := wdOf w G mg mb B Lf scr) (a := 116) (c := 115) X N (by rfl) (by rfl) (by rfl) (by rfl) (by rfl) (by rfl) (codes4 (.inl (sco_ne (by decide +kernel))) (.inl (sco_ne (by decide +kernel))) (.inl (sco_ne (by decide +kernel))) (.inl (sco_ne (by decide +kernel))))
theorem at19 (X : (hK w.params).In G) (N : G.Ns mainGlobals mg) : FnAtG (wdOf w G mg mb B Lf scr) "swhole_power" (pr 19) (bd 19) (sco 19) :=
  fnat (wd := wdOf w G mg mb B Lf scr) (a := 123) (c := 122) X N (by rfl) (by rfl) (by rfl) (by rfl) (by rfl) (by rfl) (codes4 (.inl (sco_ne (by decide +kernel))) (.inl (sco_ne (by decide +kernel))) (.inl (sco_ne (by decide +kernel))) (.inl (sco_ne (by decide +kernel))))
theorem at21 (X : (hK w.params).In G) (N : G.Ns mainGlobals mg) : FnAtG (wdOf w G mg mb B Lf scr) "lplain" (pr 21) (bd 21) (sco 21) :=
  fnat (wd := wdOf w G mg mb B Lf scr) (a := 130) (c := 129) X N (by rfl) (by rfl) (by rfl) (by rfl) (by rfl) (by rfl) (codes4 (.inl (sco_ne (by decide +kernel))) (.inl (sco_ne (by decide +kernel))) (.inl (sco_ne (by decide +kernel))) (.inl (sco_ne (by decide +kernel))))
theorem at22 (X : (hK w.params).In G) (N : G.Ns mainGlobals mg) : FnAtG (wdOf w G mg mb B Lf scr) "lmoved" (pr 22) (bd 22) (sco 22) :=
  fnat (wd := wdOf w G mg mb B Lf scr) (a := 137) (c := 136) X N (by rfl) (by rfl) (by rfl) (by rfl) (by rfl) (by rfl) (codes4 (.inl (sco_ne (by decide +kernel))) (.inl (sco_ne (by decide +kernel))) (.inl (sco_ne (by decide +kernel))) (.inl (sco_ne (by decide +kernel))))
theorem at23 (X : (hK w.params).In G) (N : G.Ns mainGlobals mg) : FnAtG (wdOf w G mg mb B Lf scr) "ladd" (pr 23) (bd 23) (sco 23) :=
  fnat (wd := wdOf w G mg mb B Lf scr) (a := 144) (c := 143) X N (by rfl) (by rfl) (by rfl) (by rfl) (by rfl) (by rfl) (codes4 (.inl (sco_ne (by decide +kernel))) (.inl (sco_ne (by decide +kernel))) (.inl (sco_ne (by decide +kernel))) (.inl (sco_ne (by decide +kernel))))
theorem at24 (X : (hK w.params).In G) (N : G.Ns mainGlobals mg) : FnAtG (wdOf w G mg mb B Lf scr) "lneg" (pr 24) (bd 24) (sco 24) :=
  fnat (wd := wdOf w G mg mb B Lf scr) (a := 149) (c := 148) X N (by rfl) (by rfl) (by rfl) (by rfl) (by rfl) (by rfl) (codes4 (.inl (sco_ne (by decide +kernel))) (.inl (sco_ne (by decide +kernel))) (.inl (sco_ne (by decide +kernel))) (.inl (sco_ne (by decide +kernel))))
theorem at25 (X : (hK w.params).In G) (N : G.Ns mainGlobals mg) : FnAtG (wdOf w G mg mb B Lf scr) "lmul" (pr 25) (bd 25) (sco 25) :=
  fnat (wd := wdOf w G mg mb B Lf scr) (a := 156) (c := 155) X N (by rfl) (by rfl) (by rfl) (by rfl) (by rfl) (by rfl) (codes4 (.inl (sco_ne (by decide +kernel))) (.inl (sco_ne (by decide +kernel))) (.inl (sco_ne (by decide +kernel))) (.inl (sco_ne (by decide +kernel))))
theorem at26 (X : (hK w.params).In G) (N : G.Ns mainGlobals mg) : FnAtG (wdOf w G mg mb B Lf scr) "ltrim" (pr 26) (bd 26) (sco 26) :=
  fnat (wd := wdOf w G mg mb B Lf scr) (a := 163) (c := 162) X N (by rfl) (by rfl) (by rfl) (by rfl) (by rfl) (by rfl) (codes4 (.inl (sco_ne (by decide +kernel))) (.inl (sco_ne (by decide +kernel))) (.inl (sco_ne (by decide +kernel))) (.inl (sco_ne (by decide +kernel))))
theorem at27 (X : (hK w.params).In G) (N : G.Ns mainGlobals mg) : FnAtG (wdOf w G mg mb B Lf scr) "linverse" (pr 27) (bd 27) (sco 27) :=
  fnat (wd := wdOf w G mg mb B Lf scr) (a := 170) (c := 169) X N (by rfl) (by rfl) (by rfl) (by rfl) (by rfl) (by rfl) (codes4 (.inl (sco_ne (by decide +kernel))) (.inl (sco_ne (by decide +kernel))) (.inl (sco_ne (by decide +kernel))) (.inl (sco_ne (by decide +kernel))))
theorem at28 (X : (hK w.params).In G) (N : G.Ns mainGlobals mg) : FnAtG (wdOf w G mg mb B Lf scr) "lpower" (pr 28) (bd 28) (sco 28) :=
  fnat (wd := wdOf w G mg mb B Lf scr) (a := 177) (c := 176) X N (by rfl) (by rfl) (by rfl) (by rfl) (by rfl) (by rfl) (codes4 (.inl (sco_ne (by decide +kernel))) (.inl (sco_ne (by decide +kernel))) (.inl (sco_ne (by decide +kernel))) (.inl (sco_ne (by decide +kernel))))
theorem at29 (X : (hK w.params).In G) (N : G.Ns mainGlobals mg) : FnAtG (wdOf w G mg mb B Lf scr) "lcut" (pr 29) (bd 29) (sco 29) :=
  fnat (wd := wdOf w G mg mb B Lf scr) (a := 184) (c := 183) X N (by rfl) (by rfl) (by rfl) (by rfl) (by rfl) (by rfl) (codes4 (.inl (sco_ne (by decide +kernel))) (.inl (sco_ne (by decide +kernel))) (.inl (sco_ne (by decide +kernel))) (.inl (sco_ne (by decide +kernel))))
theorem at31 (X : (hK w.params).In G) (N : G.Ns mainGlobals mg) : FnAtG (wdOf w G mg mb B Lf scr) "_law_take" (pr 31) (bd 31) (sco 31) :=
  fnat (wd := wdOf w G mg mb B Lf scr) (a := 191) (c := 190) X N (by rfl) (by rfl) (by rfl) (by rfl) (by rfl) (by rfl) (codes4 (.inl (sco_ne (by decide +kernel))) (.inl (sco_ne (by decide +kernel))) (.inl (sco_ne (by decide +kernel))) (.inl (sco_ne (by decide +kernel))))
theorem at32 (X : (hK w.params).In G) (N : G.Ns mainGlobals mg) : FnAtG (wdOf w G mg mb B Lf scr) "_law_drawn" (pr 32) (bd 32) (sco 32) :=
  fnat (wd := wdOf w G mg mb B Lf scr) (a := 196) (c := 195) X N (by rfl) (by rfl) (by rfl) (by rfl) (by rfl) (by rfl) (codes4 (.inl (sco_ne (by decide +kernel))) (.inl (sco_ne (by decide +kernel))) (.inl (sco_ne (by decide +kernel))) (.inl (sco_ne (by decide +kernel))))
theorem at33 (X : (hK w.params).In G) (N : G.Ns mainGlobals mg) : FnAtG (wdOf w G mg mb B Lf scr) "_law_rows" (pr 33) (bd 33) (sco 33) :=
  fnat (wd := wdOf w G mg mb B Lf scr) (a := 201) (c := 200) X N (by rfl) (by rfl) (by rfl) (by rfl) (by rfl) (by rfl) (codes4 (.inl (sco_ne (by decide +kernel))) (.inl (sco_ne (by decide +kernel))) (.inl (sco_ne (by decide +kernel))) (.inl (sco_ne (by decide +kernel))))
theorem at34 (X : (hK w.params).In G) (N : G.Ns mainGlobals mg) : FnAtG (wdOf w G mg mb B Lf scr) "_law_alike" (pr 34) (bd 34) (sco 34) :=
  fnat (wd := wdOf w G mg mb B Lf scr) (a := 206) (c := 205) X N (by rfl) (by rfl) (by rfl) (by rfl) (by rfl) (by rfl) (codes4 (.inl (sco_ne (by decide +kernel))) (.inl (sco_ne (by decide +kernel))) (.inl (sco_ne (by decide +kernel))) (.inl (sco_ne (by decide +kernel))))
theorem at35 (X : (hK w.params).In G) (N : G.Ns mainGlobals mg) : FnAtG (wdOf w G mg mb B Lf scr) "_law_product" (pr 35) (bd 35) (sco 35) :=
  fnat (wd := wdOf w G mg mb B Lf scr) (a := 213) (c := 212) X N (by rfl) (by rfl) (by rfl) (by rfl) (by rfl) (by rfl) (codes4 (.inl (sco_ne (by decide +kernel))) (.inl (sco_ne (by decide +kernel))) (.inl (sco_ne (by decide +kernel))) (.inl (sco_ne (by decide +kernel))))
theorem at37 (X : (hK w.params).In G) (N : G.Ns mainGlobals mg) : FnAtG (wdOf w G mg mb B Lf scr) "_law_two_right" (pr 37) (bd 37) (sco 37) :=
  fnat (wd := wdOf w G mg mb B Lf scr) (a := 225) (c := 224) X N (by rfl) (by rfl) (by rfl) (by rfl) (by rfl) (by rfl) (codes4 (.inl (sco_ne (by decide +kernel))) (.inl (sco_ne (by decide +kernel))) (.inl (sco_ne (by decide +kernel))) (.inl (sco_ne (by decide +kernel))))
theorem at38 (X : (hK w.params).In G) (N : G.Ns mainGlobals mg) : FnAtG (wdOf w G mg mb B Lf scr) "_law_power_right" (pr 38) (bd 38) (sco 38) :=
  fnat (wd := wdOf w G mg mb B Lf scr) (a := 230) (c := 229) X N (by rfl) (by rfl) (by rfl) (by rfl) (by rfl) (by rfl) (codes4 (.inr ⟨rfl, by decide +kernel⟩) (.inl (sco_ne (by decide +kernel))) (.inl (sco_ne (by decide +kernel))) (.inl (sco_ne (by decide +kernel))))
theorem at39 (X : (hK w.params).In G) (N : G.Ns mainGlobals mg) : FnAtG (wdOf w G mg mb B Lf scr) "_law_inverse_right" (pr 39) (bd 39) (sco 39) :=
  fnat (wd := wdOf w G mg mb B Lf scr) (a := 237) (c := 236) X N (by rfl) (by rfl) (by rfl) (by rfl) (by rfl) (by rfl) (codes4 (.inl (sco_ne (by decide +kernel))) (.inr ⟨rfl, by decide +kernel⟩) (.inl (sco_ne (by decide +kernel))) (.inl (sco_ne (by decide +kernel))))
theorem at40 (X : (hK w.params).In G) (N : G.Ns mainGlobals mg) : FnAtG (wdOf w G mg mb B Lf scr) "_law_cut_right" (pr 40) (bd 40) (sco 40) :=
  fnat (wd := wdOf w G mg mb B Lf scr) (a := 242) (c := 241) X N (by rfl) (by rfl) (by rfl) (by rfl) (by rfl) (by rfl) (codes4 (.inl (sco_ne (by decide +kernel))) (.inl (sco_ne (by decide +kernel))) (.inr ⟨rfl, by decide +kernel⟩) (.inl (sco_ne (by decide +kernel))))
theorem at41 (X : (hK w.params).In G) (N : G.Ns mainGlobals mg) : FnAtG (wdOf w G mg mb B Lf scr) "_law_plain_right" (pr 41) (bd 41) (sco 41) :=
  fnat (wd := wdOf w G mg mb B Lf scr) (a := 249) (c := 248) X N (by rfl) (by rfl) (by rfl) (by rfl) (by rfl) (by rfl) (codes4 (.inl (sco_ne (by decide +kernel))) (.inl (sco_ne (by decide +kernel))) (.inl (sco_ne (by decide +kernel))) (.inr ⟨rfl, by decide +kernel⟩))

theorem boot_of {x : Str} {v : Value} (hb : ∀ x : Str, x ≠ "__name__" → mb x = bootBuiltins x) (hx : x ≠ "__name__") (h : bootBuiltins x = some v) : mb x = some v := (hb x hx).trans h

theorem excOk_of (ok : (wdOf w G mg mb B Lf scr).Ok) (X : (hK w.params).In G) (N : G.Ns mainGlobals mg) (hb : ∀ x : Str, x ≠ "__name__" → mb x = bootBuiltins x) : ExcOk (wdOf w G mg mb B Lf scr) := by
  have h30 := X 30 _ rfl
  refine excOk (mN := fun y => nsFind _ y) ok (mg_of X N (by rfl)) (X 31 _ rfl) (N := 30) ⟨_, _, _, h30, rfl, ?_, fun _ => rfl⟩ (by rfl) (by rfl) (by rfl) (by rfl) (by rfl) (by rfl) (X 28 _ rfl) rfl rfl ⟨27, _, _, _, rfl, X 27 _ rfl, rfl, rfl⟩ ⟨mg_none_of X N (by rfl), boot_of hb (by decide) (by kernel_rfl)⟩
  intro e he
  simp only [List.mem_toArray, List.mem_cons] at he
  rcases he with rfl | rfl | rfl | rfl | rfl | rfl | he
  · exact ⟨_, _, rfl⟩
  · exact ⟨_, _, rfl⟩
  · exact ⟨_, _, rfl⟩
  · exact ⟨_, _, rfl⟩
  · exact ⟨_, _, rfl⟩
  · exact ⟨_, _, rfl⟩
  · cases he

theorem kindOk_of (X : (hK w.params).In G) (N : G.Ns mainGlobals mg) : KindOk (wdOf w G mg mb B Lf scr) := by
  refine ⟨pr 36, sco 36, _, _, _, _, _, _, _, _, _, _, _, _, fnat (wd := wdOf w G mg mb B Lf scr) (a := 220) (c := 219) X N (by rfl) (by rfl) (by rfl) (by rfl) (by rfl) (by rfl) (codes4 (.inl (sco_ne (by decide +kernel))) (.inl (sco_ne (by decide +kernel))) (.inl (sco_ne (by decide +kernel))) (.inl (sco_ne (by decide +kernel)))), ?_, rfl, rfl, rfl, ?_, rfl, rfl, rfl⟩
  · exact fun _ _ _ => len1 fun a => rfl
  · intro x hx
    have : (sco 36).names.all (fun x => x.2 != .cell) = true := by decide +kernel
    exact fun q => by simpa [q] using List.all_eq_true.mp this x hx

theorem const_of {a : Addr} {i j : Int} {t u : Tok} {k : Nat} {wd : Wd} (ho : wd.G.get? a = some { cls := .type "tuple", dict := Option.none, data := .seq #[.int i t, .int j u] k, slots := #[] }) :
    ∀ X : Addr → Prop, (∀ b o, wd.G.get? b = some o → ¬ X b) → Rep wd X wd.G (.ref a) (.tup [.int i, .int j]) := fun X hX =>
  .tup (hX _ _ ho) ho (.cons (.int _ _) (.cons (.int _ _) .nil))

theorem wld_of (ok : (wdOf w G mg mb B Lf scr).Ok) (X : (hK w.params).In G) (N : G.Ns mainGlobals mg) (hb : ∀ x : Str, x ≠ "__name__" → mb x = bootBuiltins x) : Wld (wdOf w G mg mb B Lf scr) where
  at3 := at3 X N
  at7 := at7 X N
  at8 := at8 X N
  at9 := at9 X N
  at10 := at10 X N
  at11 := at11 X N
  at12 := at12 X N
  at14 := at14 X N
  at15 := at15 X N
  at16 := at16 X N
  at17 := at17 X N
  at18 := at18 X N
  at19 := at19 X N
  at21 := at21 X N
  at22 := at22 X N
  at23 := at23 X N
  at24 := at24 X N
  at25 := at25 X N
  at26 := at26 X N
  at27 := at27 X N
  at28 := at28 X N
  at29 := at29 X N
  at31 := at31 X N
  at32 := at32 X N
  at33 := at33 X N
  at34 := at34 X N
  at35 := at35 X N
  at37 := at37 X N
  at38 := at38 X N
  at39 := at39 X N
  at40 := at40 X N
  at41 := at41 X N
  abs := ⟨mg_none_of X N (by rfl), boot_of hb (by decide) (by kernel_rfl)⟩
  len := ⟨mg_none_of X N (by rfl), boot_of hb (by decide) (by kernel_rfl)⟩
  min := ⟨mg_none_of X N (by rfl), boot_of hb (by decide) (by kernel_rfl)⟩
  list := ⟨mg_none_of X N (by rfl), boot_of hb (by decide) (by kernel_rfl)⟩
  str := ⟨mg_none_of X N (by rfl), boot_of hb (by decide) (by kernel_rfl)⟩
  range := ⟨mg_none_of X N (by rfl), boot_of hb (by decide) (by kernel_rfl)⟩
  g0 := ⟨.ref 42, mg_of X N (by rfl), const_of (X 42 _ rfl)⟩
  g1 := ⟨.ref 43, mg_of X N (by rfl), const_of (X 43 _ rfl)⟩
  exc := excOk_of ok X N hb
  knd := kindOk_of X N
  c38 := ⟨_, _, _, .head _⟩
  c39 := ⟨_, _, _, .tail _ (.head _)⟩
  c40 := ⟨_, _, _, .tail _ (.tail _ (.head _))⟩
  c41 := ⟨_, _, _, .tail _ (.tail _ (.tail _ (.head _)))⟩
  cOnly := fun p hp => by
    simp only [wdOf, List.mem_cons] at hp
    rcases hp with rfl | rfl | rfl | rfl | hp
    · exact .inl rfl
    · exact .inr (.inl rfl)
    · exact .inr (.inr (.inl rfl))
    · exact .inr (.inr (.inr rfl))
    · cases hp

theorem ok_of {p : Program} {loose : List Str} {mean : ExcName → Option Value} (T : Top p loose mean mg mb G) (hB : G.get? B = Option.none) (h1 : G.get? 227 = Option.none) (h2 : G.get? 232 = Option.none) (h3 : G.get? 239 = Option.none) (h4 : G.get? 244 = Option.none)
    (c1 : CodeHd G 229 227) (c2 : CodeHd G 236 232) (c3 : CodeHd G 241 239) (c4 : CodeHd G 248 244) : (wdOf w G mg mb B Lf scr).Ok where
  g := T.g
  b := T.b
  nolimit := T.nolimit
  nodigits := T.nodigits
  wg := fun b hb => by
    rcases hb with rfl | ⟨q, hq⟩
    · exact hB
    · simp only [wdOf, List.mem_cons, Prod.mk.injEq] at hq
      rcases hq with ⟨rfl, _⟩ | ⟨rfl, _⟩ | ⟨rfl, _⟩ | ⟨rfl, _⟩ | hq
      · exact h1
      · exact h2
      · exact h3
      · exact h4
      · cases hq
  uniq := fun P q q' hq hq' => by
    simp only [wdOf, List.mem_cons, Prod.mk.injEq] at hq hq'
    rcases hq with ⟨rfl, rfl⟩ | ⟨rfl, rfl⟩ | ⟨rfl, rfl⟩ | ⟨rfl, rfl⟩ | hq
    all_goals first
      | cases hq; done
      | (rcases hq' with ⟨h, rfl⟩ | ⟨h, rfl⟩ | ⟨h, rfl⟩ | ⟨h, rfl⟩ | hq' <;> first | rfl | (cases hq'; done) | (cases h; done))
  dot := fun p hp => by
    simp only [wdOf, List.mem_cons] at hp
    rcases hp with rfl | rfl | rfl | rfl | hp
    · rfl
    · rfl
    · rfl
    · rfl
    · cases hp
  hd := fun p hp => by
    simp only [wdOf, List.mem_cons] at hp
    rcases hp with rfl | rfl | rfl | rfl | hp
    · exact ⟨c1, .head _⟩
    · exact ⟨c2, .tail _ (.head _)⟩
    · exact ⟨c3, .tail _ (.tail _ (.head _))⟩
    · exact ⟨c4, .tail _ (.tail _ (.tail _ (.head _)))⟩
    · cases hp
  bmain := by
    obtain ⟨bm, ob, e1, e2, e3, e4, e5, e6⟩ := T.bmain
    refine ⟨bm, ob, e1, e2, fun q => ?_, e3, e4, e5, e6⟩
    obtain ⟨o, _, _, e, hd, _⟩ := T.g
    (first | exact nn e ((q) ▸ (e3)) | (rw [← q, e3] at e; cases e))
    (first | exact nn hd (e6) | cases ss (e6) hd | cases Eq.trans (Eq.symm (e6)) hd | (rw [e6] at hd; cases hd))
end
end Lz
namespace Lz
open PySem PySem.W PyProof.Rows

section
variable {w : World} {G h₁ : Heap} {mg mb : Str → Option Value} {p : Program} {loose : List Str} {mean : ExcName → Option Value} {L fa la : Addr} {cd : Value} {xs : List Int} {vs : List Value} {g : Array GenState} {d : Drawn} {tk : Nat} {os : OsState} {m : Str → Option Value}

theorem intsAre_of : ∀ {vs : List Value} {xs : List Int}, IntsAre vs xs → ∃ l : List (Int × Tok), vs = l.map (fun p => Value.int p.1 p.2) ∧ l.map (·.1) = xs
  | _, _, .nil => ⟨[], rfl, rfl⟩
  | _, _, .cons n t r => let ⟨l, h1, h2⟩ := intsAre_of r; ⟨(n, t) :: l, by rw [h1]; rfl, by rw [← h2]; rfl⟩

/-- the law's first statement: the box -/
theorem law_box {A : Around} {env : Env} {Q : Flow → Shared → Prop} {E : Value → Shared → Prop} (hkind : env.scope.kind = .function) (kOf : ∀ y, env.kindOf y = (sco 42).names.lookup y) (hgG : h₁.Ns env.globals mg) (hgB : h₁.Ns env.builtins mb) (hno : mg "list" = Option.none) (hyes : mb "list" = some (.type "list"))
    (hn : h₁.Ns env.locals m) (hm : m "script" = some (.ref la)) (hl₁ : h₁.IsList la vs.toArray) (hlen : vs.length ≤ 63)
    (hQ : ∀ h₅ k₃ Lf B m₅ tk', h₁.objs.size ≤ Lf → Lf < B → h₅.get? B = some { cls := .type "list", dict := Option.none, data := .seq #[.ref Lf, .int 0 (tk + 1)] 0, slots := #[] } → h₅.get? Lf = some { cls := .type "list", dict := Option.none, data := .seq (vs.take 24).toArray k₃, slots := #[] } →
      h₅.Ns env.locals m₅ → m₅ "box" = some (.ref B) → (∀ b o, b ≠ env.locals → h₁.get? b = some o → h₅.get? b = some o) → wpAny (model PySem.Challenge.rw_pf0035_01.row.prog w) A (execs (bd 42).tail env) Q E ⟨h₅, g, d, tk', os⟩) :
    wpAny (model PySem.Challenge.rw_pf0035_01.row.prog w) A (execs (bd 42) env) Q E ⟨h₁, g, d, tk, os⟩ := by
  show wpAny _ _ (execs (_ :: (bd 42).tail) env) _ _ _
  refine wpAny_execs_cons (wpAny_Assign_Name (wpAny_List ?_) rfl)
  refine wpAny_items_cons ?_ rfl
  refine Call_Name rfl (Calls.Name_function_global hkind ((kOf _).trans rfl) (Calls.loadGlobal_builtin hgG hno hgB hyes ?_) (by decide))
  refine PyProof.Rows.callWith_type rfl (evalArgs_of rfl (wpAny_items_cons ?_ rfl))
  refine Subscript_ ?_
  refine wpAny_Name (wpAny_loadName_local hkind ((kOf _).trans rfl) hn hm ?_) (by decide)
  refine wpAny_Slice ?_
  rw [evalPart_none]
  refine wpAny_pure ?_
  rw [evalPart_some]
  refine wpAny_Constant_int ?_
  refine wpAny_pure ?_
  obtain ⟨ol, eol, ocl, kl, odl⟩ := id hl₁
  have old : ∀ (o' : Obj) {h : Heap} b o, h.get? b = some o → (h.push o').get? b = some o := fun _ _ b o x => Heap.get?_push_of_some _ x
  refine tail_of (wd := wdOf w h₁ mg mb 0 0 []) (T := "list") ⟨_, old _ _ _ eol, ocl⟩ list_getitem_lookup (wpAny_getItem_list_slice (lo := Option.none) (hi := some 24) ⟨_, old _ _ _ eol, ocl, _, odl⟩ (Heap.IsSliceOf.new ..) .none (.int 24 _) .none (by simp) ?_ (by rw [List.size_toArray]; exact Nat.le_trans hlen (by decide))) (.inr rfl)
  refine wpAny_items_nil ?_
  dsimp only
  have hpick : slicePick vs.toArray Option.none (some 24) Option.none = (vs.take 24).toArray := by
    rw [show (some (24 : Int)) = some ((24 : Nat) : Int) from rfl, slicePick_upto']
  rw [hpick]
  have e2 := Heap.get?_push_size (h := h₁.push { cls := .type "slice", data := .fields #[.none, .int 24 tk, .none] }) (o := { cls := .type "list", data := .seq (vs.take 24).toArray }) rfl
  refine call_list_seq _ (.inl rfl) e2 rfl rfl (fun h₃ k₃ hk hD => ?_) (by rw [List.size_toArray, List.length_take]; exact Nat.le_trans (Nat.min_le_left _ _) (by decide))
  have up₃ : ∀ b o, h₁.get? b = some o → h₃.get? b = some o := fun b o eb => hk _ _ (old _ _ _ (old _ _ _ eb))
  generalize hLf : ((h₁.push { cls := .type "slice", data := .fields #[.none, .int 24 tk, .none] }).push { cls := .type "list", data := .seq (vs.take 24).toArray }).objs.size = Lf at hD
  have hLf1 : h₁.objs.size ≤ Lf := by rw [← hLf, Heap.size_push, Heap.size_push]; omega
  refine wpAny_items_cons (wpAny_Constant_int (wpAny_items_nil ⟨by show 2 ≤ sizeLine; rw [sizeLine_eq]; omega, ?_⟩)) rfl
  dsimp only
  generalize hB : h₃.objs.size = B
  have hLfB : Lf < B := by rw [← hB]; exact Heap.lt_size hD
  have hp : (env.scope.kind == .class || (env.scope.kind == .module && env.locals != env.globals)) = false := by rw [hkind]; rfl
  have up₄ : ∀ b o, h₁.get? b = some o → (h₃.push { cls := .type "list", data := .seq #[.ref Lf, .int 0 (tk + 1)] }).get? b = some o := fun b o eb => old _ _ _ (up₃ b o eb)
  have hn₄ : (h₃.push { cls := .type "list", data := .seq #[.ref Lf, .int 0 (tk + 1)] }).Ns env.locals m := hn.keeps up₄
  refine wpAny_storeName_local ((kOf _).trans rfl) hn₄ (fun h₅ hn₅ hs₅ => ?_) hp
  dsimp only at hs₅ ⊢
  have hLlt : env.locals < h₁.objs.size := hn.lt
  have hBl : B ≠ env.locals := Nat.ne_of_gt (Nat.lt_of_lt_of_le hLlt (Nat.le_trans hLf1 (Nat.le_of_lt hLfB)))
  have hLfl : Lf ≠ env.locals := Nat.ne_of_gt (Nat.lt_of_lt_of_le hLlt hLf1)
  exact hQ h₅ k₃ Lf B _ _ hLf1 hLfB ((hs₅.2 B hBl).trans (by rw [← hB]; exact Heap.get?_push_size _ rfl)) ((hs₅.2 Lf hLfl).trans (old _ _ _ hD)) hn₅ (if_pos rfl) fun b o hb eb => (hs₅.2 b hb).trans (up₄ b o eb)

theorem law_run {Q : Flow → Shared → Prop} {E : Value → Shared → Prop} (X : (hK w.params).In G) (T : Top p loose mean mg mb G) (F : Fr G L h₁ m) (hm : m "script" = some (.ref la)) (hl : G.IsList la vs.toArray) (hI : IntsAre vs xs)
    (hlen : xs.length ≤ 63) (c1 : CodeHd G 229 227) (c2 : CodeHd G 236 232) (c3 : CodeHd G 241 239) (c4 : CodeHd G 248 244)
    (N : News G L h₁ [(244, tabObj #[]), (239, tabObj #[]), (232, tabObj #[]), (227, tabObj #[])])
    (hQ : ∀ h' tk', (∀ b o, G.get? b = some o → h'.get? b = some o) → GrownAt 227 h' → GrownAt 232 h' → GrownAt 239 h' → GrownAt 244 h' → Q (.ret (.bool true)) ⟨h', g, d, tk', os⟩) :
    wpAny (model PySem.Challenge.rw_pf0035_01.row.prog w) (callerA.deeper (envOf "law" (sco 42) L fa cd)) (execs (bd 42) (envOf "law" (sco 42) L fa cd)) Q E ⟨h₁, g, d, tk, os⟩ := by
  generalize henv : envOf "law" (sco 42) L fa cd = env
  have hscope : env.scope = sco 42 := by rw [← henv]; rfl
  have hL : env.locals = L := by rw [← henv]; rfl
  have hglob : env.globals = mainGlobals := by rw [← henv]; rfl
  have hblt : env.builtins = builtinsNs := by rw [← henv]; rfl
  have hframe : env.frame = some env.locals := by rw [← henv]; rfl
  have hcells : env.cells = [] := by rw [← henv]; rfl
  have hkind : env.scope.kind = .function := by rw [hscope]; rfl
  have kOf : ∀ y, env.kindOf y = (sco 42).names.lookup y := fun y => by unfold Env.kindOf; rw [hscope]
  clear henv
  subst hL
  have hn := F.ns
  have keep := F.keep
  have hgG : h₁.Ns env.globals mg := by rw [hglob]; exact T.g.keeps keep
  have hgB : h₁.Ns env.builtins mb := by rw [hblt]; exact T.b.keeps keep
  have hl₁ : h₁.IsList la vs.toArray := let ⟨o, e, r⟩ := hl; ⟨o, keep _ _ e, r⟩
  have hvl : vs.length = xs.length := hI.length
  obtain ⟨ls, els, elx⟩ := intsAre_of hI
  refine law_box hkind kOf hgG hgB (mg_none_of X T.g (by rfl)) (boot_of T.builtins (by decide) (by kernel_rfl)) hn hm hl₁ (hvl ▸ hlen) fun h₅ k₃ Lf B m₅ tk' hLf1 hLfB eB eL hn₅ hbox up₅ => ?_
  have hLlt : env.locals < h₁.objs.size := hn.lt
  have hGL : ∀ b, h₁.objs.size ≤ b → G.get? b = Option.none := fun b hb => by
    cases q : G.get? b with
    | none => rfl
    | some o => exact absurd (Heap.lt_size (keep _ _ q)) (Nat.not_lt.mpr hb)
  have hGl : G.get? env.locals = Option.none := by
    cases q : G.get? env.locals with
    | none => rfl
    | some o => exact absurd (Heap.lt_size q) (Nat.not_lt.mpr F.above)
  have hG₅ : ∀ b o, G.get? b = some o → h₅.get? b = some o := fun b o eb => up₅ b o (fun q => by (first | exact nn eb ((q) ▸ (hGl)) | (rw [q, hGl] at eb; cases eb))) (keep b o eb)
  have hBl : B ≠ env.locals := Nat.ne_of_gt (Nat.lt_of_lt_of_le hLlt (Nat.le_trans hLf1 (Nat.le_of_lt hLfB)))
  have hLfl : Lf ≠ env.locals := Nat.ne_of_gt (Nat.lt_of_lt_of_le hLlt hLf1)
  have tabAt : ∀ P, (P, tabObj #[]) ∈ [((244 : Addr), tabObj #[]), (239, tabObj #[]), (232, tabObj #[]), (227, tabObj #[])] → h₅.get? P = some (tabObj #[]) ∧ P < h₁.objs.size ∧ P ≠ env.locals ∧ G.get? P = Option.none := fun P hP =>
    let ⟨a, b, c⟩ := N _ hP; ⟨up₅ _ _ b a, Heap.lt_size a, b, c⟩
  have t1 := tabAt 227 (.tail _ (.tail _ (.tail _ (.head _))))
  have t2 := tabAt 232 (.tail _ (.tail _ (.head _)))
  have t3 := tabAt 239 (.tail _ (.head _))
  have t4 := tabAt 244 (.head _)
  let wd := wdOf w G mg mb B Lf (xs.take 24)
  have OK : wd.Ok := ok_of T (hGL B (Nat.le_trans hLf1 (Nat.le_of_lt hLfB))) t1.2.2.2 t2.2.2.2 t3.2.2.2 t4.2.2.2 c1 c2 c3 c4
  have C : Wld wd := wld_of OK X T.g T.builtins
  have tabs : ∀ P q, (P, q) ∈ wd.tabs → h₅.get? P = some (tabObj #[]) ∧ P < h₁.objs.size ∧ P ≠ env.locals := fun P q hq => by
    simp only [wd, wdOf, List.mem_cons, Prod.mk.injEq] at hq
    rcases hq with ⟨rfl, _⟩ | ⟨rfl, _⟩ | ⟨rfl, _⟩ | ⟨rfl, _⟩ | hq
    · exact ⟨t1.1, t1.2.1, t1.2.2.1⟩
    · exact ⟨t2.1, t2.2.1, t2.2.2.1⟩
    · exact ⟨t3.1, t3.2.1, t3.2.2.1⟩
    · exact ⟨t4.1, t4.2.1, t4.2.2.1⟩
    · cases hq
  have noCell : ∀ y, env.kindOf y ≠ some .cell := fun y q => by
    have hall : (sco 42).names.all (fun x => x.2 != .cell) = true := by decide +kernel
    rw [kOf] at q
    simpa using List.all_eq_true.mp hall _ (mem_of_lookup q)
  have nW : ¬ wd.W env.locals := fun q => by
    rcases q with q | ⟨r, q⟩
    · exact hBl q.symm
    · exact (tabs _ _ q).2.2 rfl
  let cx : Cx := { A := callerA.deeper env, env := env, l := [env], X := fun b => b = env.locals ∨ wd.W b }
  have S : St wd cx := by
    refine ⟨OK, rfl, rfl, hkind, hglob, hblt, fun e he => ?_, fun b hb => .inr hb, fun q => ?_, fun b o eb q => ?_, fun y hy => absurd hy (noCell y), fun p hp hq => ?_⟩
    · rw [List.mem_singleton.mp he]
      exact ⟨by rw [hkind]; decide, env.locals, hframe, hGl, nW, .inl rfl⟩
    · rcases q with q | q | ⟨r, q⟩
      · exact hLfl q
      · exact Nat.ne_of_lt hLfB q
      · have this : Lf < h₁.objs.size := (tabs _ _ q).2.1
        exact absurd hLf1 (Nat.not_le.mpr this)
    · rcases q with q | q
      · rw [q, show wd.G = G from rfl, hGl] at eb; cases eb
      · (first | exact nn eb (OK.wg b q) | cases ss (OK.wg b q) eb | cases Eq.trans (Eq.symm (OK.wg b q)) eb | (rw [OK.wg b q] at eb; cases eb))
    · refine absurd (hscope.symm.trans hq) ?_
      simp only [wd, wdOf, List.mem_cons] at hp
      rcases hp with rfl | rfl | rfl | rfl | hp
      · exact sco_ne (by decide +kernel)
      · exact sco_ne (by decide +kernel)
      · exact sco_ne (by decide +kernel)
      · exact sco_ne (by decide +kernel)
      · cases hp
  have SF' : SF wd cx := ⟨S, ⟨[], rfl⟩, hframe, fun y c hc => (by rw [show cx.env.cells = [] from hcells] at hc; cases hc), fun y hy => absurd hy (noCell y), fun y z c hc => (by rw [show cx.env.cells = [] from hcells] at hc; cases hc)⟩
  have inv : Inv wd 0 h₅ := by
    refine ⟨hG₅, ⟨tk + 1, _, eB, rfl, 0, rfl⟩, ⟨_, k₃, eL, ls.take 24, ?_, ?_⟩, fun P q hq => ⟨#[], (tabs P q hq).1, ?_, fun pos cv hc => ?_⟩⟩
    · rw [els, List.map_take]
    · rw [List.map_take, elx]; rfl
    · exact trivial
    · cases hc
  have dy : Dy wd cx 0 h₅ := by
    refine ⟨inv, fun e he => ?_, fun b hb => ?_, fun P q ps pos c hq e hc => ?_⟩
    · rw [List.mem_singleton.mp he]
      exact ⟨_, _, hframe, hn₅⟩
    · rcases hb with rfl | rfl | ⟨r, q⟩
      · obtain ⟨o, _, _, e, _⟩ := hn₅; exact ⟨o, e⟩
      · exact ⟨_, eB⟩
      · exact ⟨_, (tabs _ _ q).1⟩
    · rw [(tabs P q hq).1] at e
      have ep : (#[] : Array Value) = ps := by simpa [tabObj] using e
      subst ep
      cases hc
  have K : SOk wd cx Option.none ⟨[("box", .box)], Option.none⟩ 0 h₅ := by
    refine ⟨dy, ⟨_, hn₅⟩, fun y c hc => (by rw [show cx.env.cells = [] from hcells] at hc; cases hc), fun x dd hx => ?_, rfl⟩
    rw [List.lookup_cons] at hx
    cases hb : x == ("box" : Str) with
    | false => (first | exact nn hx (hb) | cases ss (hb) hx | cases Eq.trans (Eq.symm (hb)) hx | (rw [hb] at hx; cases hx))
    | true =>
      (first | exact nn hx (hb) | cases ss (hb) hx | cases Eq.trans (Eq.symm (hb)) hx | (rw [hb] at hx; cases hx))
      rw [eq_of_beq hb]
      exact ⟨.ref B, .inl ⟨(kOf _).trans rfl, nW, _, hn₅, hbox⟩, .box⟩
  obtain ⟨σ', n', hu⟩ := u_rest (wd := wd) (by show (xs.take 24).length ≤ 100; rw [List.length_take]; exact Nat.le_trans (Nat.min_le_left _ _) (by decide))
  refine (k_rest C) cx SF' hscope ⟨by show 1 + claimMargin + 1 + 2 * 12 ≤ 900; decide, by show 4 + 3 + 20 * 12 ≤ 9000; decide⟩ Option.none _ ⟨h₅, g, d, tk', os⟩ 0 _ _ hu K Q E (fun f σ₂ am' fv s' hf st K' hr => ?_) fun kd ev s' hr => by cases hr
  cases hf
  obtain ⟨h', tk', rfl⟩ := st.same
  obtain ⟨v, rfl, hr⟩ := hr.ret_inv
  cases hr
  have tb := fun P q hq => K'.dy.inv.tab P q hq
  have gr : ∀ P q, (P, q) ∈ wd.tabs → GrownAt P h' := fun P q hq => let ⟨ps, e, _, _⟩ := tb P q hq; ⟨ps, e⟩
  exact hQ h' tk' K'.dy.inv.stay (gr _ _ (.head _)) (gr _ _ (.tail _ (.head _))) (gr _ _ (.tail _ (.tail _ (.head _)))) (gr _ _ (.tail _ (.tail _ (.tail _ (.head _)))))
end
/-- the statement's word of the answer -/
theorem post_ok (args ds : List WData) : PySem.Challenge.rw_pf0035_01.row.claim.post args (.bool true) ds = true := by
  show (WShape.has [] (.bool true) .bool && (WTm.eq .res (.lit (.bool true))).holds [] { args := args, res := some (.bool true), after := ds }) = true
  have h1 : WShape.has [] (.bool true) .bool = true := by simp [WShape.has, WShape.arms]
  have h2 : same (.bool true) (.bool true) = true := by simp [same]
  rw [h1, Bool.true_and]
  simp only [WTm.holds, WTm.value, h2]
end Lz
open PySem PySem.W PyProof.Rows in
set_option maxHeartbeats 8000000 in
theorem PySem.Challenge.cw_pf0035_01_holds : PySem.Challenge.rw_pf0035_01.Holds := by
  w_on
  refine holds_law (by decide +kernel) fun said => ?_
  refine holds_open (q := Lz.hQ) (loose := Lz.hL) (Xt := fun s => xlAt Lz.hQ [] s && recOk [] s) (XP := XL Lz.hQ []) (Yf := Hook.obs (kmHook Lz.hK Lz.hA Lz.hA_eq [227, 232, 239, 244])) (Ya := Hook.val (kmHook Lz.hK Lz.hA Lz.hA_eq [227, 232, 239, 244])) (YP := Hook.says (kmHook Lz.hK Lz.hA Lz.hA_eq [227, 232, 239, 244])) (N := 2780) Lz.left (Hook.of (kmHook Lz.hK Lz.hA Lz.hA_eq [227, 232, 239, 244])) (Hook.keeps (kmHook Lz.hK Lz.hA Lz.hA_eq [227, 232, 239, 244]))
    (fun s e => xl_of s (Bool.and_eq_true_iff.mp e).1) XL.keeps (by rfl) (by rfl) (by rfl) (fun s e => recFacts_of (Bool.and_eq_true_iff.mp e).2) (by rfl) said (by decide +kernel) ⟨rfl, rfl, rfl, rfl, rfl, by decide +kernel⟩ (by w_witness2) ?_
  k_go0
  rename IntsAre _ _ => hI
  rename Top topProg _ _ _ _ _ => T'
  rename Fr _ _ _ _ => F'
  rename News _ _ _ _ => N'
  rename Frag.In _ _ => X'
  rename ¬ _ => hc
  refine Lz.law_run X' T' F' rfl (by assumption) hI (by omega) (by assumption) (by assumption) (by assumption) (by assumption) N' fun h' tk' keep g1 g2 g3 g4 => ⟨⟨.inl ⟨_, .bool true, [], rfl, fun _ => rfl, .bool true, ?_, fun _ => ⟨List.nodup_nil, fun _ q => by cases q⟩⟩, keep, rfl, by assumption⟩, g4, g3, g2, g1, trivial⟩
  exact Lz.post_ok _ _
