import PyProof.Rows.All
import Wide.All
import OpenK.AllK
import Wide.FinOn
import PySem.Challenge.RW_xm0405_01
set_option Elab.async false
set_option maxRecDepth 100000
set_option linter.unusedVariables false
set_option genSizeOfSpec false
set_option genInjectivity false
namespace Mine
noncomputable section
open PySem PySem.W PyProof.Rows PySem.Calls PySem.Spec

noncomputable abbrev Led := List (Addr × Obj)

inductive D where
  | int (i : Int)
  | bool (b : Bool)
  | non
  | list (ds : List D)
  | tup (ds : List D)
  | fn (x : Str)
  | bi (v : Value)

inductive Sl where
  | val (d : D)
  | own (ds : List D)

noncomputable def Sl.d (s : Sl) : D := @Sl.rec (fun _ => D) (fun d => d) (fun ds => .list ds) s

inductive Sto where
  | loc | cel | glo | hidl | hidc | hidg | fix
  deriving DecidableEq

noncomputable abbrev Rho := List (Option Sl)
noncomputable abbrev Gam := List (Str × Sto)

structure Wd where
  prog : Program
  w : World
  p : Program
  loose : List Str
  mean : ExcName → Option Value
  mg : Str → Option Value
  mb : Str → Option Value

noncomputable abbrev lobj (us : List Value) (n : Nat) : Obj := { cls := .type "list", data := .seq us.toArray n }
noncomputable abbrev tobj (us : List Value) (n : Nat) : Obj := { cls := .type "tuple", data := .seq us.toArray n }

mutual
inductive R (W : Wd) (I : Led) : Value → D → Prop
  | int {i t} : R W I (.int i t) (.int i)
  | bool {b} : R W I (.bool b) (.bool b)
  | non : R W I .none .non
  | list {a us n ds} : (a, lobj us n) ∈ I → Rs W I us ds → R W I (.ref a) (.list ds)
  | tup {a us n ds} : (a, tobj us n) ∈ I → Rs W I us ds → R W I (.ref a) (.tup ds)
  | fn {d f} : d ∈ recsOf W.p → W.mg d.name = some (.ref f) → R W I (.ref f) (.fn d.name)
  | bi {v} : R W I v (.bi v)
inductive Rs (W : Wd) (I : Led) : List Value → List D → Prop
  | nil : Rs W I [] []
  | cons {v d vs ds} : R W I v d → Rs W I vs ds → Rs W I (v :: vs) (d :: ds)
end

noncomputable abbrev Sub (I I' : Led) : Prop := ∀ p ∈ I, p ∈ I'

section
variable {W : Wd} {I I' : Led}
theorem R.mono {v d} (h : R W I v d) (s : Sub I I') : R W I' v d :=
  @R.rec W I (fun v d _ => R W I' v d) (fun v d _ => Rs W I' v d) .int .bool .non (fun m _ r => .list (s _ m) r) (fun m _ r => .tup (s _ m) r) (fun a b => .fn a b) .bi .nil (fun _ _ a b => .cons a b) v d h
theorem Rs.mono {v d} (h : Rs W I v d) (s : Sub I I') : Rs W I' v d :=
  @Rs.rec W I (fun v d _ => R W I' v d) (fun v d _ => Rs W I' v d) .int .bool .non (fun m _ r => .list (s _ m) r) (fun m _ r => .tup (s _ m) r) (fun a b => .fn a b) .bi .nil (fun _ _ a b => .cons a b) v d h

theorem Rs.length {ds} : ∀ {vs}, Rs W I vs ds → vs.length = ds.length := by
  induction ds with
  | nil => intro vs h; cases h; exact rfl
  | cons d r ih => intro vs h; cases h with | cons a b => exact congrArg Nat.succ (ih b)
theorem Rs.get {ds} : ∀ {vs}, Rs W I vs ds → ∀ {k : Nat} {d : D}, ds[k]? = some d → ∃ v, vs[k]? = some v ∧ R W I v d := by
  induction ds with
  | nil => intro vs h k d hd; cases hd
  | cons x r ih =>
    intro vs h k d hd
    cases h with
    | cons a b =>
      cases k with
      | zero => exact Option.some.inj hd ▸ ⟨_, rfl, a⟩
      | succ k => exact ih b hd
theorem Rs.append {ds} : ∀ {vs}, Rs W I vs ds → ∀ {ws es}, Rs W I ws es → Rs W I (vs ++ ws) (ds ++ es) := by
  induction ds with
  | nil => intro vs h _ _ h'; cases h; exact h'
  | cons x r ih => intro vs h _ _ h'; cases h with | cons a b => exact .cons a (ih b h')
theorem Rs.take {ds} : ∀ {vs}, Rs W I vs ds → ∀ (k : Nat), Rs W I (vs.take k) (ds.take k) := by
  induction ds with
  | nil => intro vs h k; cases h; cases k <;> exact .nil
  | cons x r ih =>
    intro vs h k
    cases h with
    | cons a b => cases k with
      | zero => exact .nil
      | succ k => exact .cons a (ih b k)
theorem Rs.drop {ds} : ∀ {vs}, Rs W I vs ds → ∀ (k : Nat), Rs W I (vs.drop k) (ds.drop k) := by
  induction ds with
  | nil => intro vs h k; cases h; cases k <;> exact .nil
  | cons x r ih =>
    intro vs h k
    cases h with
    | cons a b => cases k with
      | zero => exact .cons a b
      | succ k => exact ih b k
theorem Rs.set {ds} : ∀ {vs}, Rs W I vs ds → ∀ (k : Nat) {v d}, R W I v d → Rs W I (vs.set k v) (ds.set k d) := by
  induction ds with
  | nil => intro vs h k _ _ _; cases h; exact .nil
  | cons x r ih =>
    intro vs h k v d hv
    cases h with
    | cons a b => cases k with
      | zero => exact .cons hv b
      | succ k => exact .cons a (ih b k hv)
theorem Rs.rep {vs ds} (h : Rs W I vs ds) (k : Nat) : Rs W I ((List.replicate k vs).flatten) ((List.replicate k ds).flatten) := by
  induction k with
  | zero => exact .nil
  | succ k ih => exact h.append ih
theorem Rs.ints {ns : List Int} : ∀ {vs}, Rs W I vs (ns.map .int) → IntsAre vs ns := by
  induction ns with
  | nil => intro vs h; cases h; exact .nil
  | cons n r ih => intro vs h; cases h with | cons a b => cases a; exact .cons _ _ (ih b)
theorem Rs.ofInts {vs} {ns : List Int} (h : IntsAre vs ns) : Rs W I vs (ns.map .int) := by
  induction h with
  | nil => exact .nil
  | cons _ _ _ ih => exact .cons .int ih
end

inductive SlR (W : Wd) (I : Led) : Value → Sl → Led → Prop
  | val {v d} : R W I v d → SlR W I v (.val d) []
  | own {a us n ds} : Rs W I us ds → SlR W I (.ref a) (.own ds) [(a, lobj us n)]
theorem SlR.mono {W : Wd} {I I' : Led} {v sl O} (h : SlR W I v sl O) (hs : Sub I I') : SlR W I' v sl O := by
  cases h with
  | val a => exact .val (a.mono hs)
  | own a => exact .own (a.mono hs)
theorem SlR.notDict {W : Wd} {I : Led} {v : Value} {sl : Sl} {Ov : Led} (h : SlR W I v sl Ov) : ∀ p ∈ Ov, ∀ es ep, p.2.data ≠ .dict es ep := by
  cases h with
  | val _ => exact fun p hp => nomatch hp
  | own _ => intro p hp es ep e; cases List.mem_singleton.mp hp; cases e

inductive OslR (W : Wd) (I : Led) : Option Value → Option Sl → Led → Prop
  | none {ov} : OslR W I ov none []
  | some {v sl O} : SlR W I v sl O → OslR W I (some v) (some sl) O
theorem OslR.mono {W : Wd} {I I' : Led} {v sl O} (h : OslR W I v sl O) (hs : Sub I I') : OslR W I' v sl O := by
  cases h with
  | none => exact .none
  | some a => exact .some (a.mono hs)

structure Cfg where
  env : Env
  fenv : Env
  A : Around
  A₀ : Around
  base : Heap
  h₀ : Heap
  outer : List Env
  L : Addr

noncomputable def GloV (W : Wd) (x : Str) (v : Value) : Prop := W.mg x = some v ∨ (W.mg x = none ∧ bootBuiltins x = some v ∧ x ≠ "__name__")

/-- what the layer needs of the world's top -/
structure MTop (p : Program) (mg mb : Str → Option Value) (h : Heap) : Prop where
  g : h.Ns mainGlobals mg
  b : h.Ns builtinsNs mb
  nolimit : h.NoLimit
  fn : ∀ d ∈ recsOf p, ∃ a o pm code doc, mg d.name = some (.ref a) ∧ h.get? a = some o ∧ o.data = .func (docDef d.name d.params d.body d.scope pm code doc) ∧ h.CodeRec code d.name
  builtins : ∀ x : Str, x ≠ "__name__" → mb x = bootBuiltins x
theorem MTop.of {p : Program} {loose : List Str} {mean : ExcName → Option Value} {mg mb : Str → Option Value} {h : Heap} (T : Top p loose mean mg mb h) : MTop p mg mb h := ⟨T.g, T.b, T.nolimit, T.fn, T.builtins⟩
theorem MTop.keeps {p : Program} {mg mb : Str → Option Value} {h h' : Heap} (T : MTop p mg mb h) (hk : ∀ b o, h.get? b = some o → h'.get? b = some o) : MTop p mg mb h' where
  g := T.g.keeps hk
  b := T.b.keeps hk
  nolimit := T.nolimit.keeps hk
  fn := fun d hd => let ⟨a, o, pm, code, doc, h1, h2, h3, h4⟩ := T.fn d hd; ⟨a, o, pm, code, doc, h1, hk _ _ h2, h3, h4.keeps hk⟩
  builtins := T.builtins
/-- a list apart, all else kept -/
theorem MTop.keepsBut {p : Program} {mg mb : Str → Option Value} {h h' : Heap} {l : Addr} {ol : Obj} {vs : Array Value} {nn : Nat} (T : MTop p mg mb h) (hl : h.get? l = some ol) (hd : ol.data = .seq vs nn) (hk : ∀ b o, b ≠ l → h.get? b = some o → h'.get? b = some o) : MTop p mg mb h' := by
  have ns : ∀ {a m}, h.Ns a m → h'.Ns a m := fun {a m} hn => let ⟨o, es, ep, e, d, r⟩ := hn; ⟨o, es, ep, hk _ _ (by rintro rfl; rw [hl] at e; cases e; rw [hd] at d; cases d) e, d, r⟩
  exact ⟨ns T.g, ns T.b, let ⟨mc, h1, h2⟩ := T.nolimit; ⟨mc, ns h1, h2⟩,
    fun d hr => let ⟨a, o, pm, code, doc, h1, h2, h3, h4⟩ := T.fn d hr; ⟨a, o, pm, code, doc, h1, hk _ _ (by rintro rfl; rw [hl] at h2; cases h2; rw [hd] at h3; cases h3) h2, h3, h4.keepsBut hk hl (fun vs e => by rw [hd] at e; cases e)⟩, T.builtins⟩

structure CfgOk (W : Wd) (c : Cfg) (k : Nat) : Prop where
  B : Below c.A₀ c.base c.outer c.h₀
  T : MTop W.p W.mg W.mb c.h₀
  hh : c.A.handled = none
  hA : c.A.frames = some (c.fenv :: c.outer)
  hf : c.fenv.frame = some c.L
  hfl : c.fenv.locals = c.L
  hk : c.fenv.scope.kind = .function
  hke : c.env.scope.kind = .function
  hg : c.env.globals = mainGlobals
  hb : c.env.builtins = builtinsNs
  hfr : c.env.frame = c.fenv.frame
  hd : c.A.depth + k < recursionLimit
  hu : c.A.units + 8 * k < cLine

inductive StoR (W : Wd) (c : Cfg) (m lm : Str → Option Value) : Str → Sto → Option Value → Led → Prop
  | loc {x} : c.env.kindOf x = some .local → StoR W c m lm x .loc (lm x) []
  | cel {x ca o ov} : c.env.kindOf x = some .cell → c.env.cells.lookup x = some ca → o.data = .cell ov → StoR W c m lm x .cel ov [(ca, o)]
  | glo {x ov} : c.env.kindOf x = some .globalImplicit → (∀ v, ov = some v → GloV W x v) → StoR W c m lm x .glo ov []
  | hidl {x} : c.fenv.kindOf x = some .local → StoR W c m lm x .hidl (m x) []
  | hidc {x ca o ov} : c.fenv.kindOf x = some .cell → c.fenv.cells.lookup x = some ca → o.data = .cell ov → StoR W c m lm x .hidc ov [(ca, o)]
  | hidg {x ov} : c.fenv.kindOf x = some .globalImplicit → (∀ v, ov = some v → GloV W x v) → StoR W c m lm x .hidg ov []
  | fix {x} : c.env.kindOf x = some .local → StoR W c m lm x .fix (lm x) []

inductive EnvR (W : Wd) (c : Cfg) (m lm : Str → Option Value) (I : Led) : Gam → Rho → Led → Prop
  | nil : EnvR W c m lm I [] [] []
  | cons {x st osl Γ ρ ov O1 O2 O3} : StoR W c m lm x st ov O1 → OslR W I ov osl O2 → EnvR W c m lm I Γ ρ O3 → EnvR W c m lm I ((x, st) :: Γ) (osl :: ρ) (O1 ++ (O2 ++ O3))

theorem EnvR.mono {W : Wd} {c m lm} {I I' : Led} {Γ ρ O} (h : EnvR W c m lm I Γ ρ O) (hs : Sub I I') : EnvR W c m lm I' Γ ρ O := by
  induction h with
  | nil => exact .nil
  | cons a b _ ih => exact .cons a (b.mono hs) ih

structure StE (W : Wd) (c : Cfg) (m lm : Str → Option Value) (I : Led) (Γ : Gam) (ρ : Rho) (O X : Led) (h : Heap) : Prop where
  F : Fr c.h₀ c.L h m
  N : News c.h₀ c.L h (I ++ (O ++ X))
  ap : ∀ p ∈ I, ∀ q ∈ O ++ X, p.1 ≠ q.1
  nd : ((O ++ X).map (·.1)).Nodup
  E : EnvR W c m lm I Γ ρ O
  lr : (c.env.locals = c.L ∧ lm = m) ∨ ∃ oC, (c.env.locals, oC) ∈ X ∧ LCg.NsObj oC lm

section
variable {W : Wd} {c : Cfg} {m lm : Str → Option Value} {I I' O X : Led} {Γ : Gam} {ρ : Rho} {h h' : Heap} {a : Addr} {o : Obj}
theorem StE.lns (S : StE W c m lm I Γ ρ O X h) : h.Ns c.env.locals lm := by
  rcases S.lr with ⟨e, rfl⟩ | ⟨oC, hm, hN⟩
  · exact e ▸ S.F.ns
  · exact hN.ns (S.N _ (List.mem_append_right _ (List.mem_append_right _ hm))).1
theorem StE.keeps (S : StE W c m lm I Γ ρ O X h) (hk : ∀ b o, h.get? b = some o → h'.get? b = some o) : StE W c m lm I Γ ρ O X h' :=
  ⟨S.F.keeps hk, S.N.grown hk, S.ap, S.nd, S.E, S.lr⟩
/-- permuting the ledger -/
theorem StE.perm {O' X' : Led} {ρ' : Rho} (S : StE W c m lm I Γ ρ O X h) (hp : (O ++ X).Perm (O' ++ X')) (E : EnvR W c m lm I Γ ρ' O') (hX : ∀ p ∈ X, (∃ es ep, p.2.data = .dict es ep) → p ∈ X') :
    StE W c m lm I Γ ρ' O' X' h :=
  ⟨S.F, fun p hp' => S.N p ((List.mem_append.mp hp').elim (List.mem_append_left _) fun q => List.mem_append_right _ (hp.mem_iff.mpr q)), fun p hp' q hq => S.ap p hp' q (hp.mem_iff.mpr hq),
    (hp.map _).nodup_iff.mp S.nd, E, S.lr.imp id fun ⟨oC, hm, hN⟩ => ⟨oC, hX _ hm (let ⟨es, ep, hd, _⟩ := hN; ⟨es, ep, hd⟩), hN⟩⟩
theorem perm_mid {α : Type} {a b : List α} {x : α} : (a ++ x :: b).Perm (x :: (a ++ b)) := List.perm_middle
/-- from the pending ones to the facts -/
theorem StE.toI (S : StE W c m lm I Γ ρ O ((a, o) :: X) h) (ho : ∀ es ep, o.data ≠ .dict es ep) : StE W c m lm ((a, o) :: I) Γ ρ O X h := by
  have P : (O ++ (a, o) :: X).Perm ((a, o) :: (O ++ X)) := perm_mid
  have nd := (P.map (·.1)).nodup_iff.mp S.nd
  have nd' := List.nodup_cons.mp nd
  refine ⟨S.F, fun p hp => S.N p ?_, fun p hp q hq => ?_, nd'.2, S.E.mono fun p hp => .tail _ hp, ?_⟩
  · rcases List.mem_append.mp hp with hp | hp
    · rcases List.mem_cons.mp hp with rfl | hp
      · exact List.mem_append_right _ (P.mem_iff.mpr (.head _))
      · exact List.mem_append_left _ hp
    · exact List.mem_append_right _ (P.mem_iff.mpr (.tail _ hp))
  · rcases List.mem_cons.mp hp with rfl | hp
    · exact fun e => nd'.1 (List.mem_map.mpr ⟨q, hq, e.symm⟩)
    · exact S.ap p hp q (P.mem_iff.mpr (.tail _ hq))
  · refine S.lr.imp id fun ⟨oC, hm, hN⟩ => ⟨oC, ?_, hN⟩
    rcases List.mem_cons.mp hm with e | hm
    · obtain ⟨es, ep, hd, _⟩ := hN
      cases e
      exact absurd hd (ho es ep)
    · exact hm
theorem StE.subI (S : StE W c m lm I Γ ρ O X h) (E : EnvR W c m lm I' Γ ρ O) (hs : Sub I' I) : StE W c m lm I' Γ ρ O X h :=
  ⟨S.F, fun p hp => S.N p ((List.mem_append.mp hp).elim (fun q => List.mem_append_left _ (hs p q)) (List.mem_append_right _)), fun p hp => S.ap p (hs p hp), S.nd, E, S.lr⟩
theorem StE.dropX (S : StE W c m lm I Γ ρ O ((a, o) :: X) h) (ho : ∀ es ep, o.data ≠ .dict es ep) : StE W c m lm I Γ ρ O X h :=
  (S.toI ho).subI S.E fun _ => .tail _
theorem StE.froz {v : Value} {sl : Sl} {Ov : Led} (S : StE W c m lm I Γ ρ O (Ov ++ X) h) (hv : SlR W I v sl Ov) : ∃ I', Sub I I' ∧ StE W c m lm I' Γ ρ O X h ∧ R W I' v sl.d := by
  cases hv with
  | val a => exact ⟨I, fun _ h => h, S, a⟩
  | own r => exact ⟨_ :: I, fun _ h => .tail _ h, S.toI (fun _ _ e => nomatch e), .list (.head _) (r.mono fun _ h => .tail _ h)⟩
/-- a new object, pending -/
theorem StE.ofNew {ad : Addr} (S : StE W c m lm I Γ ρ O X h) (ha : ad = h.objs.size) (F' : Fr c.h₀ c.L h' m) (N' : News c.h₀ c.L h' ((ad, o) :: (I ++ (O ++ X)))) : StE W c m lm I Γ ρ O ((ad, o) :: X) h' := by
  subst ha
  have hlt : ∀ p ∈ I ++ (O ++ X), p.1 ≠ h.objs.size := fun p hp => Nat.ne_of_lt (Heap.lt_size (S.N p hp).1)
  have P : (O ++ (h.objs.size, o) :: X).Perm ((h.objs.size, o) :: (O ++ X)) := perm_mid
  refine ⟨F', fun p hp => N' p ?_, fun p hp q hq => ?_, (P.map (·.1)).nodup_iff.mpr (List.nodup_cons.mpr ⟨fun hm => ?_, S.nd⟩), S.E, S.lr.imp id fun ⟨oC, hm, hN⟩ => ⟨oC, .tail _ hm, hN⟩⟩
  · rcases List.mem_append.mp hp with hp | hp
    · exact .tail _ (List.mem_append_left _ hp)
    · rcases List.mem_cons.mp (P.mem_iff.mp hp) with rfl | hp
      · exact .head _
      · exact .tail _ (List.mem_append_right _ hp)
  · rcases List.mem_cons.mp (P.mem_iff.mp hq) with rfl | hq
    · exact hlt p (List.mem_append_left _ hp)
    · exact S.ap p hp q hq
  · obtain ⟨q, hq, e⟩ := List.mem_map.mp hm
    exact hlt q (List.mem_append_right _ hq) e
theorem StE.pushX (S : StE W c m lm I Γ ρ O X h) (hf : o.isFreed = false) : StE W c m lm I Γ ρ O ((h.objs.size, o) :: X) (h.push o) :=
  S.ofNew rfl (S.F.push o) (News.push S.F S.N o hf)
end

/-! what a tree gives: related to a datum of any kind -/
noncomputable def Post {α β : Type} (W : Wd) (c : Cfg) (Γ : Gam) (Rel : Led → α → β → Led → Prop) (m lm : Str → Option Value) (I X : Led) (s : Shared) (Φ : β → Rho → Prop) (v : α) (s' : Shared) : Prop :=
  ∃ h' tk I' O' Ov b ρ', s' = { s with heap := h', toks := tk } ∧ Sub I I' ∧ StE W c m lm I' Γ ρ' O' (Ov ++ X) h' ∧ Rel I' v b Ov ∧ Φ b ρ'
noncomputable abbrev NoE : Value → Shared → Prop := fun _ _ => False
noncomputable def Ok {α β : Type} (W : Wd) (c : Cfg) (Γ : Gam) (Rel : Led → α → β → Led → Prop) (ρ : Rho) (t : Sem α) (Φ : β → Rho → Prop) : Prop :=
  ∀ m lm I O X s, StE W c m lm I Γ ρ O X s.heap → wpAny (model W.prog W.w) c.A t (Post W c Γ Rel m lm I X s Φ) NoE s

noncomputable def RelD (W : Wd) (I : Led) (v : Value) (d : D) (O : Led) : Prop := O = [] ∧ R W I v d
noncomputable def RelDs (W : Wd) (I : Led) (vs : List Value) (ds : List D) (O : Led) : Prop := O = [] ∧ Rs W I vs ds
noncomputable def RelB (_ : Led) (v b : Bool) (O : Led) : Prop := O = [] ∧ v = b

section
variable {W : Wd} {c : Cfg} {m lm : Str → Option Value} {I I₁ O X : Led} {Γ : Gam} {ρ : Rho} {s : Shared} {α β : Type} {Rel : Led → α → β → Led → Prop}
theorem Post.up {Φ : β → Rho → Prop} {v s'} {h₁ : Heap} {tk₁ : Nat} (hI : Sub I I₁) (h : Post W c Γ Rel m lm I₁ X { s with heap := h₁, toks := tk₁ } Φ v s') : Post W c Γ Rel m lm I X s Φ v s' :=
  let ⟨h', tk, I', O', Ov, b, ρ', e, hI', r⟩ := h
  ⟨h', tk, I', O', Ov, b, ρ', e, fun p hp => hI' p (hI p hp), r⟩
theorem Post.froz {Φ : D → Rho → Prop} {v s'} (h : Post W c Γ (SlR W) m lm I X s (fun sl => Φ sl.d) v s') : Post W c Γ (RelD W) m lm I X s Φ v s' := by
  obtain ⟨h', tk, I', O', Ov, sl, ρ', e, hI, S, hv, hΦ⟩ := h
  obtain ⟨I'', hI', S', hr⟩ := S.froz hv
  exact ⟨h', tk, I'', O', [], sl.d, ρ', e, fun p hp => hI' p (hI p hp), S', ⟨rfl, hr⟩, hΦ⟩
/-- the first tree, then the rest from where it ends; its value's own objects are pending -/
theorem Ok.seq {t : Sem α} {Φ : β → Rho → Prop} {Q : α → Shared → Prop} (H : Ok W c Γ Rel ρ t Φ) (S : StE W c m lm I Γ ρ O X s.heap)
    (k : ∀ v h' tk I' O' Ov b ρ', Sub I I' → StE W c m lm I' Γ ρ' O' (Ov ++ X) h' → Rel I' v b Ov → Φ b ρ' → Q v { s with heap := h', toks := tk }) : wpAny (model W.prog W.w) c.A t Q NoE s :=
  wpAny_mono (H m lm I O X s S) (fun v s' ⟨h', tk, I', O', Ov, b, ρ', e, hI, S', hv, hΦ⟩ => e ▸ k v h' tk I' O' Ov b ρ' hI S' hv hΦ) fun _ _ x => x
theorem Ok.froz {t : Sem Value} {Φ : D → Rho → Prop} (H : Ok W c Γ (SlR W) ρ t (fun sl => Φ sl.d)) : Ok W c Γ (RelD W) ρ t Φ :=
  fun m lm I O X s S => wpAny_mono (H m lm I O X s S) (fun _ _ p => p.froz) fun _ _ x => x
/-- the value by value -/
theorem Ok.seqD {t : Sem Value} {Φ : D → Rho → Prop} {Q : Value → Shared → Prop} (H : Ok W c Γ (SlR W) ρ t (fun sl => Φ sl.d)) (S : StE W c m lm I Γ ρ O X s.heap)
    (k : ∀ v h' tk I' O' d ρ', Sub I I' → StE W c m lm I' Γ ρ' O' X h' → R W I' v d → Φ d ρ' → Q v { s with heap := h', toks := tk }) : wpAny (model W.prog W.w) c.A t Q NoE s :=
  H.froz.seq S fun v h' tk I' O' Ov d ρ' hI S' ⟨e, hv⟩ hΦ => k v h' tk I' O' d ρ' hI (by subst e; exact S') hv hΦ
theorem Post.val {Φ : Sl → Rho → Prop} {v : Value} {d : D} {h₁ : Heap} {tk : Nat} (hI : Sub I I₁) (S : StE W c m lm I₁ Γ ρ O X h₁) (hv : R W I₁ v d) (h : Φ (.val d) ρ) :
    Post W c Γ (SlR W) m lm I X s Φ v { s with heap := h₁, toks := tk } := ⟨h₁, tk, I₁, O, [], .val d, ρ, rfl, hI, S, .val hv, h⟩
theorem Post.new {Φ : Sl → Rho → Prop} {us : List Value} {n : Nat} {a : Addr} {ds : List D} {h₁ : Heap} {tk : Nat} (hI : Sub I I₁) (S : StE W c m lm I₁ Γ ρ O ((a, lobj us n) :: X) h₁) (hu : Rs W I₁ us ds) (h : Φ (.own ds) ρ) :
    Post W c Γ (SlR W) m lm I X s Φ (.ref a) { s with heap := h₁, toks := tk } := ⟨h₁, tk, I₁, O, [(a, lobj us n)], .own ds, ρ, rfl, hI, S, .own hu, h⟩
end
end
noncomputable section
open PySem PySem.W PyProof.Rows PySem.Calls PySem.Spec

/-- the small text -/
inductive T where
  | bad
  | nil
  | cons (e es : T)
  | int (i : Int)
  | bool (b : Bool)
  | var (j : Nat)
  | un (op : UnaryOp) (e : T)
  | bin (op : Operator) (l r : T)
  | and2 (x y : T)
  | or2 (x y : T)
  | ife (t x y : T)
  | cmp (op : CmpOp) (l r : T)
  | tup (es : T)
  | list (es : T)
  | sub (o i : T)
  | subv (j : Nat) (i : T)
  | slice (lo hi : T)
  | bitl (o : T)
  | call (f es : T)
  | calll (f : T) (j : Nat)
  | callo (f : T) (j : Nat) (es : T)
  | callc (f : T) (j : Nat) (i : Int)
  | comp (elt it ifs : T) (gl : List (Option Sl))
  | asg (j : Nat) (v : T)
  | asgs (js : List Nat) (es : T)
  | unp (js : List Nat) (v : T)
  | sto (j : Nat) (i v : T)
  | aug (j : Nat) (op : Operator) (v : T)
  | app (j : Nat) (v : T)
  | ex (e : T)
  | iff (t b o : T)
  | whl (t b : T)
  | for1 (j : Nat) (it b : T)
  | for2 (i j : Nat) (it b : T)
  | ret (e : T)
  | brk

inductive Fl where
  | next | brk | cont
  | ret (d : D)

/-! operations by value -/
noncomputable def unP (op : UnaryOp) (a : D) (Φ : D → Prop) : Prop := match op with
  | .USub => (match a with | .int i => Φ (.int (-i)) | _ => False)
  | .Not => (match a with | .bool b => Φ (.bool (!b)) | _ => False)
  | _ => False
noncomputable def smallInt (a : Int) : Prop := a.natAbs < 2 ^ 64
noncomputable def onI (a : D) (Φ : Int → Prop) : Prop := match a with | .int i => Φ i | _ => False
noncomputable def onL (a : D) (Φ : List D → Prop) : Prop := match a with | .list i => Φ i | _ => False
noncomputable def onB (a : D) (Φ : Bool → Prop) : Prop := match a with | .bool i => Φ i | _ => False
noncomputable def onT (a : D) (Φ : List D → Prop) : Prop := match a with | .tup i => Φ i | _ => False
noncomputable def binI (op : Operator) (a b : Int) (Φ : Int → Prop) : Prop := match op with
  | .Add => Φ (a + b)
  | .Sub => Φ (a - b)
  | .Mult => smallInt a ∧ Φ (a * b)
  | .FloorDiv => (0 < b ∧ b < 2 ^ 30) ∧ Φ (a / b)
  | .Mod => 0 < b ∧ Φ (a % b)
  | .LShift => (0 ≤ b ∧ b ≤ 1000000 ∧ smallInt a) ∧ Φ (a * 2 ^ b.toNat)
  | .RShift => 0 ≤ b ∧ Φ (a / 2 ^ b.toNat)
  | .BitAnd => Φ (Builtin.bitAnd a b)
  | .BitOr => Φ (Builtin.bitOr a b)
  | .Pow => (0 ≤ b ∧ b ≤ 1000000 ∧ smallInt a) ∧ Φ (a ^ b.toNat)
  | _ => False
noncomputable def binL (op : Operator) (a : List D) (b : D) (Φ : List D → Prop) : Prop := match op with
  | .Add => onL b fun b => a.length + b.length ≤ sizeLine ∧ Φ (a ++ b)
  | .Mult => onI b fun k => (a.length * k.toNat ≤ 2 ^ 24 ∧ -(2 ^ 62) ≤ k ∧ k < 2 ^ 62) ∧ Φ ((List.replicate k.toNat a).flatten)
  | _ => False
noncomputable def binP (op : Operator) (a b : D) (Φ : Sl → Prop) : Prop := match a with
  | .int a => onI b fun b => binI op a b fun i => Φ (.val (.int i))
  | .list a => binL op a b fun ds => Φ (.own ds)
  | _ => False
noncomputable def cmpI (op : CmpOp) (a b : Int) (Φ : Bool → Prop) : Prop := match op with
  | .Lt => Φ (decide (a < b))
  | .LtE => Φ (decide (a ≤ b))
  | .Gt => Φ (decide (b < a))
  | .GtE => Φ (decide (b ≤ a))
  | .Eq => Φ (decide (a = b))
  | .NotEq => Φ (!decide (a = b))
  | _ => False
noncomputable def cmpB (op : CmpOp) (a b : Bool) (Φ : Bool → Prop) : Prop := match op with
  | .Eq => Φ (decide (a = b))
  | .NotEq => Φ (!decide (a = b))
  | _ => False
/-- two lists, the second empty -/
noncomputable def cmpL (op : CmpOp) (a b : List D) (Φ : Bool → Prop) : Prop := match op with
  | .Eq => b = [] ∧ Φ (decide (a.length = 0))
  | .NotEq => b = [] ∧ Φ (!decide (a.length = 0))
  | _ => False
noncomputable def cmpN (op : CmpOp) (a : Int) (b : List D) (Φ : Bool → Prop) : Prop := match op with
  | .In => ∃ ns : List Int, b = ns.map .int ∧ Φ (decide (a ∈ ns))
  | _ => False
noncomputable def cmpP (op : CmpOp) (a b : D) (Φ : Bool → Prop) : Prop := match a with
  | .int a => (match b with | .int b => cmpI op a b Φ | .list b => cmpN op a b Φ | _ => False)
  | .bool a => onB b fun b => cmpB op a b Φ
  | .list a => onL b fun b => cmpL op a b Φ
  | _ => False
noncomputable def idxP (ds : List D) (i : Int) (Φ : D → Prop) : Prop :=
  (0 ≤ i ∧ ∃ d, ds[i.toNat]? = some d ∧ Φ d) ∨ (i < 0 ∧ 0 ≤ i + ds.length ∧ ∃ d, ds[(i + ds.length).toNat]? = some d ∧ Φ d)
noncomputable def tupP (ds : List D) (i : Int) (Φ : D → Prop) : Prop := (0 ≤ i ∧ i < 2 ^ 62) ∧ ∃ d, ds[i.toNat]? = some d ∧ Φ d
noncomputable def clampI (len : Nat) (i : Int) : Nat := if i < 0 then (i + len).toNat else min i.toNat len
noncomputable def loOf (len : Nat) (lo : Option Int) : Nat := match lo with | none => 0 | some i => clampI len i
noncomputable def hiOf (len : Nat) (hi : Option Int) : Nat := match hi with | none => len | some i => clampI len i
noncomputable def sliceL {α : Type} (ds : List α) (lo hi : Option Int) : List α := (ds.drop (loOf ds.length lo)).take (hiOf ds.length hi - loOf ds.length lo)
noncomputable def rangeL (a b : Int) : List Int := (List.range (b - a).toNat).map fun (k : Nat) => a + (k : Int)
noncomputable def downL (a b : Int) : List Int := (List.range (a - b).toNat).map fun (k : Nat) => a - (k : Int)
noncomputable def big : Int := 2 ^ 24
noncomputable def rangeP (vs : List D) (Φ : Nat → List D → Prop) : Prop := match vs with
  | [b] => onI b fun b => (-big ≤ b ∧ b ≤ big) ∧ Φ 0 ((rangeL 0 b).map .int)
  | [a, b] => onI a fun a => onI b fun b => (-big ≤ a ∧ a ≤ big ∧ -big ≤ b ∧ b ≤ big) ∧ Φ 0 ((rangeL a b).map .int)
  | [a, b, s] => onI a fun a => onI b fun b => onI s fun s => (s = -1 ∧ -big ≤ a ∧ a ≤ big ∧ -big ≤ b ∧ b ≤ big) ∧ Φ 1 ((downL a b).map .int)
  | _ => False
noncomputable def enumL (ds : List D) : List D := ds.zipIdx.map fun p => .tup [.int (p.2 : Int), p.1]
noncomputable def bi1 (id : String) (a : D) (Φ : D → Prop) : Prop := match a with
  | .int a => id = "abs" ∧ Φ (.int (if a < 0 then -a else a))
  | .list ds => (id = "len" ∧ ds.length < 2 ^ 62 ∧ Φ (.int ds.length)) ∨ (id = "sorted" ∧ ∃ a b : Int, ds = [.int a, .int b] ∧ Φ (.list (if b < a then [.int b, .int a] else [.int a, .int b])))
  | _ => False
noncomputable def biP (id : String) (vs : List D) (Φ : D → Prop) : Prop := match vs with
  | [a] => bi1 id a Φ
  | [a, b] => id = "min" ∧ onI a fun a => onI b fun b => Φ (.int (if b < a then b else a))
  | _ => False
noncomputable def tyP (id : String) (vs : List D) (Φ : D → Prop) : Prop := match vs with
  | [a] => id = "int" ∧ onI a fun a => Φ (.int a)
  | _ => False

/-- lists of slots related -/
inductive SlsR (W : Wd) (I : Led) : List Value → List Sl → Led → Prop
  | nil : SlsR W I [] [] []
  | cons {v sl vs sls O1 O2} : SlR W I v sl O1 → SlsR W I vs sls O2 → SlsR W I (v :: vs) (sl :: sls) (O1 ++ O2)

noncomputable def CallOk (W : Wd) (k : Nat) (x : Str) (args : List Sl) (r : D) (args' : List Sl) : Prop :=
  ∀ (c : Cfg) (m : Str → Option Value) (I O X : Led) (s : Shared) (vs : List Value) (f : Addr),
    CfgOk W c k → Fr c.h₀ c.L s.heap m → News c.h₀ c.L s.heap (I ++ (O ++ X)) → (∀ p ∈ I, ∀ q ∈ O ++ X, p.1 ≠ q.1) → ((O ++ X).map (·.1)).Nodup →
    SlsR W I vs args O → W.mg x = some (.ref f) →
    wpAny (model W.prog W.w) c.A (call (.ref f) vs) (fun v s' => ∃ h' tk I' O', s' = { s with heap := h', toks := tk } ∧ Sub I I' ∧ Fr c.h₀ c.L h' m ∧
      News c.h₀ c.L h' (I' ++ (O' ++ X)) ∧ (∀ p ∈ I', ∀ q ∈ O' ++ X, p.1 ≠ q.1) ∧ ((O' ++ X).map (·.1)).Nodup ∧ SlsR W I' vs args' O' ∧ R W I' v r) NoE s

noncomputable def vals (ds : List D) : List Sl := ds.map .val

/-! the frame by place -/
noncomputable def nth (ρ : Rho) (j : Nat) : Option Sl := (ρ[j]?).join
noncomputable def put (j : Nat) (v : Option Sl) (ρ : Rho) : Rho := ρ.set j v
noncomputable def puts : List Nat → List Sl → Rho → Option Rho
  | [], [], ρ => some ρ
  | j :: js, v :: vs, ρ => puts js vs (put j (some v) ρ)
  | _, _, _ => none

/-! loops by value -/
noncomputable def wpLoop (step : D → Rho → (Fl → Rho → Prop) → Prop) (Φ : Fl → Rho → Prop) : List D → Rho → Prop
  | [], ρ => Φ .next ρ
  | d :: ds, ρ => step d ρ fun f ρ => match f with
    | .next => wpLoop step Φ ds ρ
    | .cont => wpLoop step Φ ds ρ
    | .brk => Φ .next ρ
    | .ret r => Φ (.ret r) ρ
noncomputable def wpWhile (test : Rho → (Bool → Rho → Prop) → Prop) (body : Rho → (Fl → Rho → Prop) → Prop) (Φ : Fl → Rho → Prop) : Nat → Rho → Prop
  | 0, _ => False
  | n + 1, ρ => test ρ fun b ρ => (b = true → body ρ fun f ρ => match f with
    | .next => wpWhile test body Φ n ρ
    | .cont => wpWhile test body Φ n ρ
    | .brk => Φ .next ρ
    | .ret r => Φ (.ret r) ρ) ∧ (b = false → Φ .next ρ)
/-- a comprehension's turns: the items, what is built so far -/
noncomputable def wpComp (elt : D → Rho → (D → Rho → Prop) → Prop) (test : D → Rho → (Bool → Rho → Prop) → Prop) (Φ : List D → Rho → Prop) : List D → List D → Rho → Prop
  | [], acc, ρ => Φ acc ρ
  | d :: ds, acc, ρ => test d ρ fun b ρ => (b = true → elt d ρ fun r ρ => wpComp elt test Φ ds (acc ++ [r]) ρ) ∧ (b = false → wpComp elt test Φ ds acc ρ)

noncomputable abbrev Ix := List D → (Sl → Prop) → Prop
noncomputable def IdxF (i : Int) : Ix := fun ds Φ => (-(2 ^ 62) ≤ i ∧ i < 2 ^ 62) ∧ idxP ds i fun d => Φ (.val d)
noncomputable def SliF (l h : Option Int) : Ix := fun ds Φ => ds.length ≤ sizeLine ∧ Φ (.own (sliceL ds l h))

/-- what a small text means, as each kind of text -/
structure P where
  e : Rho → (Sl → Rho → Prop) → Prop
  es : Rho → (List D → Rho → Prop) → Prop
  sls : Rho → (List Sl → Rho → Prop) → Prop
  t : Rho → (Bool → Rho → Prop) → Prop
  i : Rho → (Ix → Rho → Prop) → Prop
  o : Rho → (Option Int → Rho → Prop) → Prop
  it : Rho → (Nat × List D → Rho → Prop) → Prop
  s : Rho → (Fl → Rho → Prop) → Prop
noncomputable def P.none : P := ⟨fun _ _ => False, fun _ _ => False, fun _ _ => False, fun _ _ => False, fun _ _ => False, fun _ _ => False, fun _ _ => False, fun _ _ => False⟩
/-- an expression's other readings: a test, an index, a bound, what a loop goes over -/
noncomputable def P.ofE (f : Rho → (Sl → Rho → Prop) → Prop) : P :=
  { P.none with
    e := f
    t := fun ρ Ψ => f ρ fun v ρ => onB v.d fun b => Ψ b ρ
    i := fun ρ Ψ => f ρ fun v ρ => onI v.d fun i => Ψ (IdxF i) ρ
    o := fun ρ Ψ => f ρ fun v ρ => onI v.d fun i => Ψ (some i) ρ
    it := fun ρ Ψ => f ρ fun v ρ => onL v.d fun ds => Ψ (0, ds) ρ }
noncomputable def P.ofS (f : Rho → (Fl → Rho → Prop) → Prop) : P := { P.none with s := f }

section
variable (W : Wd) (k : Nat)
noncomputable def subD (i : P) (Φ : Sl → Rho → Prop) (v : D) (ρ : Rho) : Prop := match v with
  | .list ds => i.i ρ fun iv ρ => iv ds fun sl => Φ sl ρ
  | .tup ds => i.e ρ fun iv ρ => onI iv.d fun i => tupP ds i fun d => Φ (.val d) ρ
  | _ => False
noncomputable def callD (es : P) (Φ : Sl → Rho → Prop) (fv : D) (ρ : Rho) : Prop := match fv with
  | .bi (.builtin id) => es.es ρ fun vs ρ => biP id vs fun d => Φ (.val d) ρ
  | .bi (.type id) => es.es ρ fun vs ρ => tyP id vs fun d => Φ (.val d) ρ
  | .fn g => es.es ρ fun vs ρ => vs ≠ [] ∧ ∃ r, CallOk W k g (vals vs) r (vals vs) ∧ Φ (.val r) ρ
  | _ => False
noncomputable def onFn (a : D) (Φ : Str → Prop) : Prop := match a with | .fn i => Φ i | _ => False
noncomputable def onOwn (a : Option Sl) (Φ : List D → Prop) : Prop := match a with | some (.own i) => Φ i | _ => False
noncomputable def onVal (a : Option Sl) (Φ : D → Prop) : Prop := match a with | some (.val i) => Φ i | _ => False
noncomputable def itD (es : P) (Ψ : Nat × List D → Rho → Prop) (fv : D) (ρ : Rho) : Prop := match fv with
  | .bi (.type id) => es.es ρ fun vs ρ => (id = "range" ∧ rangeP vs fun f ds => Ψ (f, ds) ρ) ∨ (id = "enumerate" ∧ ∃ ds, vs = [.list ds] ∧ ds.length ≤ sizeLine ∧ Ψ (2, enumL ds) ρ)
  | _ => False
/-- within a comprehension: its own name, its globals, the function's frame -/
noncomputable def inC (gl : Rho) (d : D) (ρ : Rho) : Rho := some (.val d) :: (gl ++ ρ)
noncomputable def outC (gl : Rho) (ρ : Rho) : Rho := ρ.drop (gl.length + 1)
noncomputable def rdV (j : Nat) (ρ : Rho) (Φ : Sl → Rho → Prop) (v : Option Sl) : Prop := match v with
  | some (.val d) => Φ (.val d) ρ
  | some (.own ds) => Φ (.val (.list ds)) (put j (some (.val (.list ds))) ρ)
  | none => False
noncomputable def rdS (j : Nat) (i : P) (ρ : Rho) (Φ : Sl → Rho → Prop) (v : Option Sl) : Prop := match v with
  | some (.val d) => subD i Φ d ρ
  | some (.own ds) => i.i (put j none ρ) fun iv ρ => iv ds fun sl => Φ sl (put j (some (.own ds)) ρ)
  | none => False

noncomputable def sem : T → P
  | .bad => P.none
  | .nil => { P.none with es := fun ρ Ψ => Ψ [] ρ, sls := fun ρ Ψ => Ψ [] ρ, o := fun ρ Ψ => Ψ none ρ, s := fun ρ Φ => Φ .next ρ }
  | .cons e es => { P.none with
      es := fun ρ Ψ => (sem e).e ρ fun v ρ => (sem es).es ρ fun vs ρ => Ψ (v.d :: vs) ρ
      sls := fun ρ Ψ => (sem e).e ρ fun v ρ => (sem es).sls ρ fun vs ρ => Ψ (v :: vs) ρ
      s := fun ρ Φ => (sem e).s ρ fun f ρ => match f with
        | .next => (sem es).s ρ Φ
        | .brk => Φ .brk ρ
        | .cont => Φ .cont ρ
        | .ret d => Φ (.ret d) ρ }
  | .int i => P.ofE fun ρ Φ => Φ (.val (.int i)) ρ
  | .bool b => P.ofE fun ρ Φ => Φ (.val (.bool b)) ρ
  | .var j => P.ofE fun ρ Φ => rdV j ρ Φ (nth ρ j)
  | .un op e => { P.ofE fun ρ Φ => (sem e).e ρ fun a ρ => unP op a.d fun d => Φ (.val d) ρ with t := fun _ _ => False }
  | .bin op l r => P.ofE fun ρ Φ => (sem l).e ρ fun a ρ => (sem r).e ρ fun b ρ => binP op a.d b.d fun sl => Φ sl ρ
  | .and2 x y => { P.ofE fun ρ Φ => (sem x).e ρ fun a ρ => onB a.d fun b => (b = true → (sem y).e ρ Φ) ∧ (b = false → Φ (.val (.bool false)) ρ) with
      t := fun ρ Ψ => (sem x).t ρ fun b ρ => (b = true → (sem y).t ρ Ψ) ∧ (b = false → Ψ false ρ) }
  | .or2 x y => { P.none with t := fun ρ Ψ => (sem x).t ρ fun b ρ => (b = true → Ψ true ρ) ∧ (b = false → (sem y).t ρ Ψ) }
  | .ife t x y => { P.ofE fun ρ Φ => (sem t).t ρ fun b ρ => (b = true → (sem x).e ρ Φ) ∧ (b = false → (sem y).e ρ Φ) with t := fun _ _ => False }
  | .cmp op l r => { P.ofE fun ρ Φ => (sem l).e ρ fun a ρ => (sem r).e ρ fun b ρ => cmpP op a.d b.d fun b => Φ (.val (.bool b)) ρ with
      t := fun ρ Ψ => (sem l).e ρ fun a ρ => (sem r).e ρ fun b ρ => cmpP op a.d b.d fun b => Ψ b ρ }
  | .tup es => P.ofE fun ρ Φ => (sem es).es ρ fun ds ρ => ds.length ≤ sizeLine ∧ Φ (.val (.tup ds)) ρ
  | .list es => P.ofE fun ρ Φ => (sem es).es ρ fun ds ρ => ds.length ≤ sizeLine ∧ Φ (.own ds) ρ
  | .sub o i => P.ofE fun ρ Φ => (sem o).e ρ fun ov ρ => subD (sem i) Φ ov.d ρ
  | .subv j i => P.ofE fun ρ Φ => rdS j (sem i) ρ Φ (nth ρ j)
  | .slice lo hi => { P.none with i := fun ρ Ψ => (sem lo).o ρ fun a ρ => (sem hi).o ρ fun b ρ => Ψ (SliF a b) ρ }
  | .bitl o => P.ofE fun ρ Φ => (sem o).e ρ fun a ρ => onI a.d fun i => Φ (.val (.int (Builtin.Int.intBits i))) ρ
  | .call f es => { P.ofE fun ρ Φ => (sem f).e ρ fun fv ρ => callD W k (sem es) Φ fv.d ρ with
      it := fun ρ Ψ => (sem f).e ρ fun fv ρ => itD (sem es) Ψ fv.d ρ }
  | .calll f j => P.ofE fun ρ Φ => (sem f).e ρ fun fv ρ => fv.d = .bi (.builtin "len") ∧ match nth ρ j with
      | some v => onL v.d fun ds => ds.length < 2 ^ 62 ∧ Φ (.val (.int ds.length)) ρ
      | none => False
  | .callo f j es => P.ofE fun ρ Φ => (sem f).e ρ fun fv ρ => onFn fv.d fun g => onOwn (nth ρ j) fun ds => (sem es).es (put j none ρ) fun vs ρ =>
      ∃ r ds', CallOk W k g (.own ds :: vals vs) r (.own ds' :: vals vs) ∧ Φ (.val r) (put j (some (.own ds')) ρ)
  | .callc f j i => P.ofE fun ρ Φ => (sem f).e ρ fun fv ρ => onFn fv.d fun g => onOwn (nth ρ j) fun ds =>
      ∃ r ds', CallOk W k g [.own ds, .val (.int i)] r [.own ds', .val (.int i)] ∧ Φ (.val r) (put j (some (.own ds')) ρ)
  | .comp elt it ifs gl => P.ofE fun ρ Φ => (sem it).it ρ fun ds ρ => (ds.1 = 0 ∧ ds.2.length ≤ sizeLine) ∧
      wpComp (fun d ρ Ψ => (sem elt).e (inC gl d ρ) fun r ρ => Ψ r.d (outC gl ρ)) (fun d ρ Ψ => (sem ifs).t (inC gl d ρ) fun b ρ => Ψ b (outC gl ρ)) (fun acc ρ => Φ (.own acc) ρ) ds.2 [] ρ
  | .asg j v => P.ofS fun ρ Φ => (sem v).e ρ fun sl ρ => Φ .next (put j (some sl) ρ)
  | .asgs js es => P.ofS fun ρ Φ => (sem es).sls ρ fun vs ρ => vs.length ≤ sizeLine ∧ ∃ ρ', puts js vs ρ = some ρ' ∧ Φ .next ρ'
  | .unp js v => P.ofS fun ρ Φ => (sem v).e ρ fun sl ρ => onT sl.d fun ds => ∃ ρ', puts js (vals ds) ρ = some ρ' ∧ Φ .next ρ'
  | .sto j i v => P.ofS fun ρ Φ => (sem v).e ρ fun a ρ => onOwn (nth ρ j) fun ds => (sem i).e (put j none ρ) fun iv ρ => onI iv.d fun i =>
      (0 ≤ i ∧ i < ds.length ∧ ds.length < 2 ^ 62) ∧ Φ .next (put j (some (.own (ds.set i.toNat a.d))) ρ)
  | .aug j op v => P.ofS fun ρ Φ => onVal (nth ρ j) fun a => onI a fun a => (sem v).e ρ fun b ρ => onI b.d fun b => binI op a b fun i => Φ .next (put j (some (.val (.int i))) ρ)
  | .app j v => P.ofS fun ρ Φ => onOwn (nth ρ j) fun ds => (sem v).e (put j none ρ) fun v ρ => ds.length < sizeLine ∧ Φ .next (put j (some (.own (ds ++ [v.d]))) ρ)
  | .ex e => P.ofS fun ρ Φ => (sem e).e ρ fun _ ρ => Φ .next ρ
  | .iff t b o => P.ofS fun ρ Φ => (sem t).t ρ fun c ρ => (c = true → (sem b).s ρ Φ) ∧ (c = false → (sem o).s ρ Φ)
  | .whl t b => P.ofS fun ρ Φ => ∃ n, wpWhile (sem t).t (sem b).s Φ n ρ
  | .for1 j it b => P.ofS fun ρ Φ => (sem it).it ρ fun ds ρ => ds.1 ≤ 1 ∧ wpLoop (fun d ρ Ψ => (sem b).s (put j (some (.val d)) ρ) Ψ) Φ ds.2 ρ
  | .for2 i j it b => P.ofS fun ρ Φ => (sem it).it ρ fun ds ρ => ds.1 = 2 ∧ wpLoop (fun d ρ Ψ => ∃ x y, d = .tup [x, y] ∧ (sem b).s (put j (some (.val y)) (put i (some (.val x)) ρ)) Ψ) Φ ds.2 ρ
  | .ret e => P.ofS fun ρ Φ => (sem e).e ρ fun v ρ => Φ (.ret v.d) ρ
  | .brk => P.ofS fun ρ Φ => Φ .brk ρ
end

/-! from the text's trees to small ones -/
inductive Cd where
  | ex (e : Expr)
  | exs (es : List Expr)
  | op (e : Option Expr)
  | st (s : Stmt)
  | sts (ss : List Stmt)

/-- the first visible entry of a name -/
noncomputable def fnd (x : Str) : Gam → Option (Nat × Sto)
  | [] => none
  | (y, st) :: r => match st with
    | .loc => if x = y then some (0, .loc) else (fnd x r).map fun p => (p.1 + 1, p.2)
    | .cel => if x = y then some (0, .cel) else (fnd x r).map fun p => (p.1 + 1, p.2)
    | .glo => if x = y then some (0, .glo) else (fnd x r).map fun p => (p.1 + 1, p.2)
    | .fix => if x = y then some (0, .fix) else (fnd x r).map fun p => (p.1 + 1, p.2)
    | _ => (fnd x r).map fun p => (p.1 + 1, p.2)
/-- one that may be bound -/
noncomputable def tgt (Γ : Gam) (x : Str) : Option Nat := match fnd x Γ with
  | some (j, .loc) => some j
  | some (j, .cel) => some j
  | _ => none
noncomputable def tgtL (Γ : Gam) (x : Str) : Option Nat := match fnd x Γ with
  | some (j, .loc) => some j
  | some (j, .fix) => some j
  | _ => none
noncomputable def nameOf : Expr → Option Str
  | .Name x _ => some x
  | _ => none
noncomputable def tgts (Γ : Gam) : List Expr → Option (List Nat)
  | [] => some []
  | e :: r => match (nameOf e).bind (tgt Γ) with
    | some j => (tgts Γ r).map (j :: ·)
    | none => none
noncomputable def lk {α : Type} (x : Str) : List (String × α) → Option α
  | [] => none
  | (y, a) :: r => if x = Str.ofString y then some a else lk x r
noncomputable def biTable : List (String × D) := [
  ("len", .bi (.builtin "len")),
  ("range", .bi (.type "range")),
  ("enumerate", .bi (.type "enumerate")),
  ("min", .bi (.builtin "min")),
  ("abs", .bi (.builtin "abs")),
  ("int", .bi (.type "int")),
  ("sorted", .bi (.builtin "sorted"))]
noncomputable def fnTable : List String := ["normal", "compare", "add", "sub", "divrem_limb", "shift_left", "shift_right", "bits", "signed", "s_neg", "s_sign", "s_add", "s_mul", "common", "cut_signed", "signed_of", "r_neg", "r_add", "r_sub", "r_mul", "r_inverse", "r_div", "mul_school", "divrem_small", "guessed_limb", "take_away", "put_back", "divide_rows", "divrem_school", "_law_fathomed", "_law_limbs", "_law_whole", "_law_polynomial", "_law_divided", "_law_value", "_law_changes"]
noncomputable def gloD (x : Str) : Option Sl := match lk x biTable with
  | some d => some (.val d)
  | none => if fnTable.any (fun y => decide (x = Str.ofString y)) then some (.val (.fn x)) else none
noncomputable def compGlo : List (Str × NameKind) → List (Str × Option Sl)
  | [] => []
  | (y, k) :: r => match k with
    | .globalImplicit => (y, gloD y) :: compGlo r
    | _ => compGlo r
noncomputable def hide (names : List (Str × NameKind)) (p : Str × Sto) : Str × Sto := (p.1, match p.2 with
  | .loc => .hidl
  | .fix => .hidl
  | .cel => if names.lookup p.1 = some .free then .cel else .hidc
  | .glo => .hidg
  | s => s)
noncomputable def inG (names : List (Str × NameKind)) (x : Str) (Γ : Gam) : Gam := (x, .loc) :: ((compGlo names).map (fun p => (p.1, Sto.glo)) ++ Γ.map (hide names))
noncomputable def inoutNames : List String := ["take_away", "put_back", "divide_rows", "_law_fathomed"]
noncomputable def isIO (f : Expr) : Bool := match nameOf f with
  | some x => inoutNames.any fun y => decide (x = Str.ofString y)
  | none => false
noncomputable def isAttr : Expr → Bool
  | .Attribute .. => true
  | _ => false
noncomputable def nodupK : List (Str × NameKind) → Bool
  | [] => true
  | (y, _) :: r => !(r.any fun p => decide (y = p.1)) && nodupK r
noncomputable def nameOk (Γ : Gam) (p : Str × NameKind) : Bool := match p.2 with
  | .local => true
  | .globalImplicit => true
  | .free => (match fnd p.1 Γ with
    | some (_, .cel) => true
    | _ => false)
  | _ => false
noncomputable def isVis : Sto → Bool
  | .loc => true
  | .cel => true
  | .glo => true
  | .fix => true
  | _ => false
noncomputable def compOk (Γ : Gam) (x : Str) (sc : Scope) : Bool :=
  decide (sc.kind = .function) && (nodupK sc.names && (decide (sc.names.lookup x = some .local) && (sc.names.all (nameOk Γ) && (Γ.all (fun p => isVis p.2) && Γ.any fun p => decide (p.2 = .loc)))))
noncomputable def notSet : Expr → Bool
  | .Set .. => false
  | _ => true
noncomputable def isSubs : Expr → Bool
  | .Subscript .. => true
  | _ => false
noncomputable def isStar : Expr → Bool
  | .Starred .. => true
  | _ => false
noncomputable def locB (Γ : Gam) (x : Str) : Bool := match fnd x Γ with
  | some (_, .loc) => true
  | _ => false
noncomputable def nodupN : List Nat → Bool
  | [] => true
  | j :: r => !(r.any fun i => decide (j = i)) && nodupN r
/-- a block's list put at once under a local name -/
noncomputable def swapOk (Γ : Gam) (x : Str) (px : Pos) : Expr → Bool
  | .ListComp _ _ sc p => !locB Γ x || (decide (px.line = p.line) && !(sc.names.any fun q => q.1 == x && (q.2 == .local || q.2 == .cell)))
  | _ => true
noncomputable def tname (Γ : Gam) (line : Nat) : Expr → Option Str
  | .Name id pos => if (locB Γ id && pos.line == line) = true then some id else none
  | _ => none
/-- the order of a tuple's stores -/
noncomputable def swapN (Γ : Gam) (ts vs : List Expr) : Option (Option (List Str)) :=
  if (!(ts.length == 2 || ts.length == 3) || vs.length != ts.length) = true then some none
  else if (vs.any isStar) = true then some none
  else
    let names := ts.filterMap (tname Γ ((ts.head?.map (·.pos.line)).getD 0))
    if (names.length != ts.length || names.eraseDups.length != names.length) = true then some none
    else if vs.all (foldedForSure 8) = true then some none
    else if vs.all (constantsAlone 8) = true then none
    else some (some names)
noncomputable def int1 : List Expr → Option Int
  | [.Constant (.int i) _ _] => some i
  | _ => none

noncomputable def subT (Γ : Gam) (o : Expr) (to ti : T) : T := match (nameOf o).bind (tgtL Γ) with
  | some j => if nameOf o = some (Str.ofString "__debug__") then .bad else .subv j ti
  | none => .sub to ti
noncomputable def callT (Γ : Gam) (f a : Expr) (r : List Expr) (tf tr tas : T) : T := if (a :: r).any isStar = true then .bad else match (nameOf a).bind (tgtL Γ) with
  | some j => if nameOf a = some (Str.ofString "__debug__") then .bad else if isIO f = true then .callo tf j tr else if nameOf f = some (Str.ofString "len") ∧ r.length = 0 then .calll tf j else .call tf tas
  | none => if isIO f = true then (match (nameOf a).bind (tgt Γ) with
      | some j => (match int1 r with
        | some i => if nameOf a = some (Str.ofString "__debug__") then .bad else .callc tf j i
        | none => .bad)
      | none => .bad) else .call tf tas
noncomputable def asgNT (Γ : Gam) (x : Str) (px : Pos) (v : Expr) (tv : T) : T := match tgt Γ x with
  | some j => if swapOk Γ x px v = true then .asg j tv else .bad
  | none => .bad
noncomputable def tupOf : Expr → Option (List Expr)
  | .Tuple es _ _ => some es
  | _ => none
noncomputable def asgTT (Γ : Gam) (xs : List Expr) (v : Expr) (tes tv : T) : T := match tgts Γ xs with
  | some js => (match tupOf v with
    | some es => if nodupN js = true ∧ (swapN Γ xs es).isSome = true then .asgs js tes else .bad
    | none => .unp js tv)
  | none => .bad
noncomputable def stoT (Γ : Gam) (o : Expr) (ti tv : T) : T := match (nameOf o).bind (tgtL Γ) with
  | some j => if nameOf o = some (Str.ofString "__debug__") then .bad else .sto j ti tv
  | none => .bad
noncomputable def augT (Γ : Gam) (t : Expr) (op : Operator) (tv : T) : T := match (nameOf t).bind (tgt Γ) with
  | some j => .aug j op tv
  | none => .bad
noncomputable def appT (Γ : Gam) (o a : Expr) (nm : Str) (ap p : Pos) (ks : List Keyword) (ta : T) : T := match (nameOf o).bind (tgtL Γ) with
  | some j => if (isStar a = false ∧ nm = Str.ofString "append") ∧ (ap.endLine = p.line ∧ (ks.length = 0 ∧ nameOf o ≠ some (Str.ofString "__debug__"))) then .app j ta else .bad
  | none => .bad
noncomputable def for1T (Γ : Gam) (x : Str) (ti tb : T) : T := match tgt Γ x with
  | some j => .for1 j ti tb
  | none => .bad
noncomputable def for2T (Γ : Gam) (xs : List Expr) (ti tb : T) : T := match tgts Γ xs with
  | some [i, j] => .for2 i j ti tb
  | _ => .bad
noncomputable def varT (Γ : Gam) (x : Str) : T := if x = Str.ofString "__debug__" then .bad else match fnd x Γ with
  | some (j, _) => .var j
  | none => .bad

noncomputable def co : Nat → Gam → Cd → T
  | 0, _, _ => .bad
  | n + 1, Γ, .exs es => match es with
    | [] => .nil
    | e :: r => if isStar e = true then .bad else .cons (co n Γ (.ex e)) (co n Γ (.exs r))
  | n + 1, Γ, .sts ss => match ss with
    | [] => .nil
    | s :: r => .cons (co n Γ (.st s)) (co n Γ (.sts r))
  | n + 1, Γ, .op e => match e with
    | none => .nil
    | some e => co n Γ (.ex e)
  | n + 1, Γ, .ex e => match e with
    | .Constant c _ _ => (match c with
      | .int i => .int i
      | .bool b => .bool b
      | _ => .bad)
    | .Name x _ => varT Γ x
    | .UnaryOp op e _ => .un op (co n Γ (.ex e))
    | .BinOp l op r _ => .bin op (co n Γ (.ex l)) (co n Γ (.ex r))
    | .BoolOp op es _ => (match es with
      | [x, y] => (match op with
        | .And => .and2 (co n Γ (.ex x)) (co n Γ (.ex y))
        | .Or => .or2 (co n Γ (.ex x)) (co n Γ (.ex y)))
      | _ => .bad)
    | .IfExp t x y _ => .ife (co n Γ (.ex t)) (co n Γ (.ex x)) (co n Γ (.ex y))
    | .Compare l ops rs _ => (match ops with
      | [op] => (match rs with
        | [r] => if notSet r = true then .cmp op (co n Γ (.ex l)) (co n Γ (.ex r)) else .bad
        | _ => .bad)
      | _ => .bad)
    | .Tuple es _ _ => .tup (co n Γ (.exs es))
    | .List es _ => .list (co n Γ (.exs es))
    | .Slice lo hi st _ => (match st with
      | none => .slice (co n Γ (.op lo)) (co n Γ (.op hi))
      | some _ => .bad)
    | .Subscript o i _ => subT Γ o (co n Γ (.ex o)) (co n Γ (.ex i))
    | .Call f as ks p => (match ks with
      | [] => (match f with
        | .Attribute o nm ap => (match as with
          | [] => if (nm = Str.ofString "bit_length" ∧ ap.endLine = p.line) ∧ isSubs o = true then .bitl (co n Γ (.ex o)) else .bad
          | _ => .bad)
        | f => (match as with
          | [] => .bad
          | a :: r => callT Γ f a r (co n Γ (.ex f)) (co n Γ (.exs r)) (co n Γ (.exs (a :: r)))))
      | _ => .bad)
    | .ListComp elt gens sc _ => (match gens with
      | [⟨.Name x _, it, ifs, a⟩] => if a = 0 ∧ (compOk Γ x sc = true ∧ notSet it = true) then (match ifs with
          | [] => .comp (co n (inG sc.names x Γ) (.ex elt)) (co n Γ (.ex it)) (.bool true) ((compGlo sc.names).map (·.2))
          | [t] => .comp (co n (inG sc.names x Γ) (.ex elt)) (co n Γ (.ex it)) (co n (inG sc.names x Γ) (.ex t)) ((compGlo sc.names).map (·.2))
          | _ => .bad) else .bad
      | _ => .bad)
    | _ => .bad
  | n + 1, Γ, .st s => match s with
    | .Assign ts v _ => (match ts with
      | [t] => (match t with
        | .Name x px => asgNT Γ x px v (co n Γ (.ex v))
        | .Tuple xs _ _ => asgTT Γ xs v (co n Γ (.exs ((tupOf v).getD []))) (co n Γ (.ex v))
        | .Subscript o i _ => stoT Γ o (co n Γ (.ex i)) (co n Γ (.ex v))
        | _ => .bad)
      | _ => .bad)
    | .AugAssign t op v _ => augT Γ t op (co n Γ (.ex v))
    | .Expr e _ => (match e with
      | .Call f as ks p => (match f with
        | .Attribute o nm ap => (match as with
          | [a] => appT Γ o a nm ap p ks (co n Γ (.ex a))
          | _ => .bad)
        | f => .ex (co n Γ (.ex (.Call f as ks p))))
      | _ => .bad)
    | .If t b o _ => .iff (co n Γ (.ex t)) (co n Γ (.sts b)) (co n Γ (.sts o))
    | .While t b o _ => (match o with
      | [] => .whl (co n Γ (.ex t)) (co n Γ (.sts b))
      | _ => .bad)
    | .For tg it b o _ => (match o with
      | [] => if notSet it = false then .bad else (match tg with
        | .Name x _ => for1T Γ x (co n Γ (.ex it)) (co n Γ (.sts b))
        | .Tuple xs _ _ => for2T Γ xs (co n Γ (.ex it)) (co n Γ (.sts b))
        | _ => .bad)
      | _ => .bad)
    | .Return v _ => (match v with
      | some e => .ret (co n Γ (.ex e))
      | none => .bad)
    | .Break _ => .brk
    | _ => .bad

/-! the frame of a def -/
noncomputable def initG (fx : List Str) : List (Str × NameKind) → Gam
  | [] => []
  | (n, k) :: r => match k with
    | .local => (n, if fx.any (fun y => decide (y = n)) = true then .fix else .loc) :: initG fx r
    | .cell => (n, .cel) :: initG fx r
    | .globalImplicit => (n, .glo) :: initG fx r
    | _ => initG fx r
noncomputable def lkS (x : Str) : List (Str × Sl) → Option Sl
  | [] => none
  | (y, a) :: r => if x = y then some a else lkS x r
noncomputable def initR (args : List (Str × Sl)) : List (Str × NameKind) → Rho
  | [] => []
  | (n, k) :: r => match k with
    | .local => lkS n args :: initR args r
    | .cell => lkS n args :: initR args r
    | .globalImplicit => gloD n :: initR args r
    | _ => initR args r
end
open PySem PySem.W PyProof.Rows PySem.Calls PySem.Spec

section
variable {W : Wd} {c : Cfg} {k : Nat} {m lm : Str → Option Value} {I I' O X : Led} {Γ : Gam} {ρ : Rho} {h h' : Heap} {s : Shared} {x : Str} {j : Nat} {st : Sto}

noncomputable def Vis (st : Sto) : Prop := @Sto.rec (fun _ => Prop) True True True False False False True st
theorem fnd_vis : ∀ {Γ : Gam} {j}, fnd x Γ = some (j, st) → Vis st
  | [], _, h => nomatch h
  | (y, s) :: r, j, h => by
    have rest : ∀ {o : Option (Nat × Sto)}, o.map (fun p => (p.1 + 1, p.2)) = some (j, st) → ∃ i, o = some (i, st) := fun e => by
      obtain ⟨⟨i, s'⟩, e1, e2⟩ := Option.map_eq_some_iff.mp e
      cases e2; exact ⟨i, e1⟩
    cases s
    case loc => by_cases e : x = y; (rw [fnd, if_pos e] at h; cases h; trivial); (rw [fnd, if_neg e] at h; exact fnd_vis (rest h).choose_spec)
    case cel => by_cases e : x = y; (rw [fnd, if_pos e] at h; cases h; trivial); (rw [fnd, if_neg e] at h; exact fnd_vis (rest h).choose_spec)
    case glo => by_cases e : x = y; (rw [fnd, if_pos e] at h; cases h; trivial); (rw [fnd, if_neg e] at h; exact fnd_vis (rest h).choose_spec)
    case fix => by_cases e : x = y; (rw [fnd, if_pos e] at h; cases h; trivial); (rw [fnd, if_neg e] at h; exact fnd_vis (rest h).choose_spec)
    all_goals exact fnd_vis (rest h).choose_spec

theorem fnd_mem : ∀ {Γ : Gam} {j}, fnd x Γ = some (j, st) → x ∈ Γ.map (·.1)
  | [], _, h => nomatch h
  | (y, s) :: r, j, h => by
    have rest : ∀ {o : Option (Nat × Sto)}, o.map (fun p => (p.1 + 1, p.2)) = some (j, st) → ∃ i, o = some (i, st) := fun e => by
      obtain ⟨⟨i, s'⟩, e1, e2⟩ := Option.map_eq_some_iff.mp e
      cases e2; exact ⟨i, e1⟩
    by_cases e : x = y
    · exact e ▸ .head _
    · refine .tail _ (fnd_mem (rest (o := fnd x r) ?_).choose_spec)
      cases s
      case loc => rwa [fnd, if_neg e] at h
      case cel => rwa [fnd, if_neg e] at h
      case glo => rwa [fnd, if_neg e] at h
      case fix => rwa [fnd, if_neg e] at h
      all_goals exact h
structure At (W : Wd) (c : Cfg) (m lm : Str → Option Value) (I : Led) (Γ : Gam) (ρ : Rho) (O : Led) (x : Str) (st : Sto) (j : Nat) (Oa Ob O1 O2 : Led) (ov : Option Value) : Prop where
  eq : O = Oa ++ (O1 ++ (O2 ++ Ob))
  sto : StoR W c m lm x st ov O1
  sl : OslR W I ov (nth ρ j) O2
  put : ∀ I' O1' O2' ov' osl', Sub I I' → StoR W c m lm x st ov' O1' → OslR W I' ov' osl' O2' → EnvR W c m lm I' Γ (put j osl' ρ) (Oa ++ (O1' ++ (O2' ++ Ob)))

theorem envAt (E : EnvR W c m lm I Γ ρ O) : ∀ {j}, fnd x Γ = some (j, st) → ∃ Oa Ob O1 O2 ov, At W c m lm I Γ ρ O x st j Oa Ob O1 O2 ov := by
  induction E with
  | nil => exact fun h => nomatch h
  | @cons y st' osl Γ ρ ov O1 O2 O3 a b E ih =>
    intro j hf
    have here : (x = y ∧ j = 0 ∧ st = st') ∨ ∃ i, fnd x Γ = some (i, st) ∧ j = i + 1 := by
      have rest : (fnd x Γ).map (fun p => (p.1 + 1, p.2)) = some (j, st) → ∃ i, fnd x Γ = some (i, st) ∧ j = i + 1 := fun e => by
        obtain ⟨⟨i, s'⟩, e1, e2⟩ := Option.map_eq_some_iff.mp e
        cases e2; exact ⟨i, e1, rfl⟩
      cases st'
      case loc => by_cases e : x = y; (rw [fnd, if_pos e] at hf; cases hf; exact .inl ⟨e, rfl, rfl⟩); (rw [fnd, if_neg e] at hf; exact .inr (rest hf))
      case cel => by_cases e : x = y; (rw [fnd, if_pos e] at hf; cases hf; exact .inl ⟨e, rfl, rfl⟩); (rw [fnd, if_neg e] at hf; exact .inr (rest hf))
      case glo => by_cases e : x = y; (rw [fnd, if_pos e] at hf; cases hf; exact .inl ⟨e, rfl, rfl⟩); (rw [fnd, if_neg e] at hf; exact .inr (rest hf))
      case fix => by_cases e : x = y; (rw [fnd, if_pos e] at hf; cases hf; exact .inl ⟨e, rfl, rfl⟩); (rw [fnd, if_neg e] at hf; exact .inr (rest hf))
      all_goals exact .inr (rest hf)
    rcases here with ⟨rfl, rfl, rfl⟩ | ⟨i, hi, rfl⟩
    · exact ⟨[], O3, O1, O2, ov, rfl, a, b, fun I' O1' O2' ov' osl' hI a' b' => (EnvR.cons a' b' (E.mono hI) : EnvR W c m lm I' _ _ (O1' ++ (O2' ++ O3)))⟩
    · obtain ⟨Oa, Ob, Q1, Q2, ov2, rfl, sto, sl, put⟩ := ih hi
      refine ⟨O1 ++ (O2 ++ Oa), Ob, Q1, Q2, ov2, by simp only [List.append_assoc], sto, sl, fun I' O1' O2' ov' osl' hI a' b' => ?_⟩
      have := EnvR.cons a (b.mono hI) (put I' O1' O2' ov' osl' hI a' b')
      rwa [← List.append_assoc O2, ← List.append_assoc O1] at this

theorem perm_swap (Oa O1 O2 Ob X : Led) : ((Oa ++ (O1 ++ (O2 ++ Ob))) ++ X).Perm ((Oa ++ (O1 ++ Ob)) ++ (O2 ++ X)) := by
  simp only [List.append_assoc]
  refine List.Perm.append_left _ (List.Perm.append_left _ ?_)
  rw [← List.append_assoc, ← List.append_assoc]
  exact List.Perm.append_right _ List.perm_append_comm

theorem load_ok (hc : CfgOk W c k) (S : StE W c m lm I Γ ρ O X s.heap) {v : Value} {O1 : Led} (vis : Vis st) (sto : StoR W c m lm x st (some v) O1) (hsub : Sub O1 O) {Q E : Value → Shared → Prop} (hQ : Q v s) :
    wpAny (model W.prog W.w) c.A (loadName c.env x) Q E s := by
  generalize hov : some v = ov at sto
  cases sto with
  | loc hk => exact wpAny_loadName_local hc.hke hk S.lns hov.symm hQ
  | fix hk => exact wpAny_loadName_local hc.hke hk S.lns hov.symm hQ
  | cel hk hl hd => exact wpAny_loadName_cell hc.hke hk hl ⟨_, (S.N _ (List.mem_append_right _ (List.mem_append_left _ (hsub _ (.head _))))).1, hov ▸ hd⟩ hQ
  | glo hk hg =>
    unfold loadName
    rw [Env.blockKind, hc.hke, hk]
    rcases hg v hov.symm with e | ⟨e1, e2, e3⟩
    · exact loadGlobal_global (hc.hg ▸ hc.T.g.keeps S.F.keep) e hQ
    · exact loadGlobal_builtin (hc.hg ▸ hc.T.g.keeps S.F.keep) e1 (hc.hb ▸ hc.T.b.keeps S.F.keep) ((hc.T.builtins x e3).trans e2) hQ
  | hidl _ => exact vis.elim
  | hidc _ _ _ => exact vis.elim
  | hidg _ _ => exact vis.elim

/-- a name's value, its slot taken -/
theorem name_ok (hc : CfgOk W c k) (S : StE W c m lm I Γ ρ O X s.heap) (hf : fnd x Γ = some (j, st)) {sl : Sl} (hg : nth ρ j = some sl) :
    ∃ v O1 Ov O', StoR W c m lm x st (some v) O1 ∧ SlR W I v sl Ov ∧ StE W c m lm I Γ (put j none ρ) O' (Ov ++ X) s.heap ∧
      (∀ I' sl' Ov' h', StE W c m lm I' Γ (put j none ρ) O' (Ov' ++ X) h' → Sub I I' → SlR W I' v sl' Ov' → ∃ O'', StE W c m lm I' Γ (put j (some sl') ρ) O'' X h') ∧
      ∀ (Q E : Value → Shared → Prop), Q v s → wpAny (model W.prog W.w) c.A (loadName c.env x) Q E s := by
  obtain ⟨Oa, Ob, O1, O2, ov, rfl, sto, hsl, put⟩ := envAt S.E hf
  rw [hg] at hsl
  cases hsl with
  | some hsl =>
    refine ⟨_, O1, O2, Oa ++ (O1 ++ Ob), sto, hsl, S.perm (perm_swap Oa O1 O2 Ob X) (put I O1 [] (some _) none (fun _ h => h) sto .none) fun p hp _ => List.mem_append_right _ hp, fun I' sl' Ov' h' S' hI hs => ?_,
      fun Q E hQ => load_ok hc S (fnd_vis hf) sto (fun p hp => List.mem_append_right _ (List.mem_append_left _ hp)) hQ⟩
    refine ⟨Oa ++ (O1 ++ (Ov' ++ Ob)), S'.perm (perm_swap Oa O1 Ov' Ob X).symm (put I' O1 Ov' (some _) (some sl') hI sto (.some hs)) fun p hp ⟨es, ep, hd⟩ => ?_⟩
    exact (List.mem_append.mp hp).elim (fun q => absurd hd (hs.notDict p q es ep)) id

theorem put_put {a b : Option Sl} : put j a (put j b ρ) = put j a ρ := by unfold put; exact List.set_set ..
theorem nth_put {a : Option Sl} {sl : Sl} (h : nth ρ j = some sl) : nth (put j a ρ) j = a := by
  unfold nth put at *
  have hl : j < ρ.length := by
    cases e : ρ[j]? with
    | none => rw [e] at h; cases h
    | some _ => exact (List.getElem?_eq_some_iff.mp e).1
  rw [List.getElem?_set_self hl]; rfl

theorem OslR.notDict {ov osl} {Ov : Led} (h : OslR W I ov osl Ov) : ∀ p ∈ Ov, ∀ es ep, p.2.data ≠ .dict es ep := by
  cases h with
  | none => exact fun p hp => nomatch hp
  | some hh => exact hh.notDict
theorem StE.dropL {Od : Led} (hd : ∀ p ∈ Od, ∀ es ep, p.2.data ≠ Data.dict es ep) (S : StE W c m lm I Γ ρ O (Od ++ X) h) : StE W c m lm I Γ ρ O X h := by
  induction Od with
  | nil => exact S
  | cons p r ih => exact ih (fun p hp => hd p (.tail _ hp)) (StE.dropX (a := p.1) (o := p.2) (X := r ++ X) S (hd _ (.head _)))
theorem perm_exch (Oa O1 Od Ov Ob X : Led) : ((Oa ++ (O1 ++ (Od ++ Ob))) ++ (Ov ++ X)).Perm ((Oa ++ (O1 ++ (Ov ++ Ob))) ++ (Od ++ X)) := by
  refine (perm_swap Oa O1 Od Ob _).trans ?_
  refine List.Perm.trans ?_ (perm_swap Oa O1 Ov Ob _).symm
  refine List.Perm.append_left _ ?_
  rw [← List.append_assoc, ← List.append_assoc]
  exact List.Perm.append_right _ List.perm_append_comm

/-- a slot put under a local name that holds its value -/
theorem put_loc {Ov : Led} {v : Value} {sl : Sl} (S : StE W c m lm I Γ ρ O (Ov ++ X) h) (hf : fnd x Γ = some (j, st)) (hst : st = .loc ∨ st = .fix) (hl : lm x = some v) (hs : SlR W I v sl Ov) : ∃ O', StE W c m lm I Γ (put j (some sl) ρ) O' X h := by
  obtain ⟨Oa, Ob, O1, Od, ov, rfl, sto, hod, put⟩ := envAt S.E hf
  have e : ov = some v := by
    rcases hst with rfl | rfl
    · cases sto with | loc _ => exact hl
    · cases sto with | fix _ => exact hl
  refine ⟨Oa ++ (O1 ++ (Ov ++ Ob)), StE.dropL hod.notDict (S.perm (perm_exch Oa O1 Od Ov Ob X) (put I O1 Ov ov (some sl) (fun _ h => h) sto (e ▸ .some hs)) fun p hp ⟨es, ep, hd⟩ => ?_)⟩
  exact (List.mem_append.mp hp).elim (fun q => absurd hd (hs.notDict p q es ep)) (List.mem_append_right _)

theorem StE.upd {Γ' : Gam} {ad : Addr} {o o' : Obj} {Z O' X' : Led} {ρ' : Rho} (S : StE W c m lm I Γ ρ O X h) (P : (O ++ X).Perm ((ad, o) :: Z)) (P' : (O' ++ X').Perm ((ad, o') :: Z)) (hs : Heap.SameBut ad h h') (ho : h'.get? ad = some o')
    (E : EnvR W c m lm I Γ' ρ' O') (hX : ∀ p ∈ X, (∃ es ep, p.2.data = .dict es ep) → p ∈ X') : StE W c m lm I Γ' ρ' O' X' h' := by
  have hm := S.N (ad, o) (List.mem_append_right _ (P.mem_iff.mpr (.head _)))
  have nd := List.nodup_cons.mp ((P.map (·.1)).nodup_iff.mp S.nd)
  refine ⟨S.F.change hs hm.2.1 hm.2.2, fun p hp => ?_, fun p hp q hq => ?_, (P'.map (·.1)).nodup_iff.mpr (List.nodup_cons.mpr nd), E, S.lr.imp id fun ⟨oC, hm, hN⟩ => ⟨oC, hX _ hm (let ⟨es, ep, hd, _⟩ := hN; ⟨es, ep, hd⟩), hN⟩⟩
  · rcases List.mem_append.mp hp with hp | hp
    · have z := S.N p (List.mem_append_left _ hp)
      exact ⟨(hs.2 _ (S.ap p hp _ (P.mem_iff.mpr (.head _)))).trans z.1, z.2⟩
    · rcases List.mem_cons.mp (P'.mem_iff.mp hp) with rfl | hp
      · exact ⟨ho, hm.2⟩
      · have z := S.N p (List.mem_append_right _ (P.mem_iff.mpr (.tail _ hp)))
        exact ⟨(hs.2 _ fun e => nd.1 (List.mem_map.mpr ⟨p, hp, e⟩)).trans z.1, z.2⟩
  · rcases List.mem_cons.mp (P'.mem_iff.mp hq) with rfl | hq
    · exact S.ap p hp (ad, o) (P.mem_iff.mpr (.head _))
    · exact S.ap p hp q (P.mem_iff.mpr (.tail _ hq))

theorem EnvR.other {v : Value} (E : EnvR W c m m I Γ ρ O) (hx : x ∉ Γ.map (·.1)) : EnvR W c (fun y => if y = x then some v else m y) (fun y => if y = x then some v else m y) I Γ ρ O := by
  induction E with
  | nil => exact .nil
  | @cons y st osl Γ ρ ov O1 O2 O3 a b E ih =>
    refine .cons ?_ b (ih fun h => hx (.tail _ h))
    have hy : y ≠ x := fun e => hx (e ▸ .head _)
    cases a with
    | loc hk => exact (if_neg hy : (if y = x then some v else m y) = m y) ▸ StoR.loc (lm := fun y => if y = x then some v else m y) hk
    | fix hk => exact (if_neg hy : (if y = x then some v else m y) = m y) ▸ StoR.fix (lm := fun y => if y = x then some v else m y) hk
    | hidl hk => exact (if_neg hy : (if y = x then some v else m y) = m y) ▸ StoR.hidl (m := fun y => if y = x then some v else m y) hk
    | cel a b d => exact .cel a b d
    | glo a b => exact .glo a b
    | hidc a b d => exact .hidc a b d
    | hidg a b => exact .hidg a b

theorem bindL {v : Value} {sl : Sl} {Ov : Led} (E : EnvR W c m m I Γ ρ O) (nd : (Γ.map (·.1)).Nodup) (hs : SlR W I v sl Ov) : ∀ {j}, fnd x Γ = some (j, .loc) →
    ∃ Oa Ob Od, O = Oa ++ ([] ++ (Od ++ Ob)) ∧ (∀ p ∈ Od, ∀ es ep, p.2.data ≠ Data.dict es ep) ∧ EnvR W c (fun y => if y = x then some v else m y) (fun y => if y = x then some v else m y) I Γ (put j (some sl) ρ) (Oa ++ ([] ++ (Ov ++ Ob))) := by
  induction E with
  | nil => exact fun h => nomatch h
  | @cons y st' osl Γ ρ ov O1 O2 O3 a b E ih =>
    intro j hf
    have nd' := List.nodup_cons.mp nd
    have rest : (fnd x Γ).map (fun p => (p.1 + 1, p.2)) = some (j, Sto.loc) → x ≠ y → ∃ Oa Ob Od, (O1 ++ (O2 ++ O3)) = Oa ++ ([] ++ (Od ++ Ob)) ∧ (∀ p ∈ Od, ∀ es ep, p.2.data ≠ Data.dict es ep) ∧
        EnvR W c (fun y => if y = x then some v else m y) (fun y => if y = x then some v else m y) I ((y, st') :: Γ) (put j (some sl) (osl :: ρ)) (Oa ++ ([] ++ (Ov ++ Ob))) := fun e hxy => by
      obtain ⟨⟨i, s'⟩, e1, e2⟩ := Option.map_eq_some_iff.mp e
      cases e2
      obtain ⟨Oa, Ob, Od, rfl, hd, E'⟩ := ih nd'.2 e1
      refine ⟨O1 ++ (O2 ++ Oa), Ob, Od, by simp only [List.append_assoc], hd, ?_⟩
      have hy : y ≠ x := Ne.symm hxy
      have a' : StoR W c (fun y => if y = x then some v else m y) (fun y => if y = x then some v else m y) y st' ov O1 := by
        cases a with
        | loc hk => exact (if_neg hy : (if y = x then some v else m y) = m y) ▸ StoR.loc (lm := fun y => if y = x then some v else m y) hk
        | fix hk => exact (if_neg hy : (if y = x then some v else m y) = m y) ▸ StoR.fix (lm := fun y => if y = x then some v else m y) hk
        | hidl hk => exact (if_neg hy : (if y = x then some v else m y) = m y) ▸ StoR.hidl (m := fun y => if y = x then some v else m y) hk
        | cel a b d => exact .cel a b d
        | glo a b => exact .glo a b
        | hidc a b d => exact .hidc a b d
        | hidg a b => exact .hidg a b
      have := EnvR.cons (osl := osl) a' b E'
      rwa [← List.append_assoc O2, ← List.append_assoc O1] at this
    by_cases e : x = y
    · cases st'
      case loc =>
        rw [fnd, if_pos e] at hf
        cases hf
        subst e
        cases a with
        | loc hk =>
          refine ⟨[], O3, O2, rfl, b.notDict, ?_⟩
          show EnvR W c _ _ I ((x, .loc) :: Γ) (some sl :: ρ) ([] ++ (Ov ++ O3))
          refine EnvR.cons (ov := if x = x then some v else m x) (StoR.loc (lm := fun y => if y = x then some v else m y) hk) ?_ (E.other nd'.1)
          rw [if_pos rfl]
          exact .some hs
      case cel => rw [fnd, if_pos e] at hf; cases hf
      case glo => rw [fnd, if_pos e] at hf; cases hf
      case fix => rw [fnd, if_pos e] at hf; cases hf
      all_goals
        obtain ⟨⟨i, s'⟩, e1, e2⟩ := Option.map_eq_some_iff.mp (show (fnd x Γ).map (fun p => (p.1 + 1, p.2)) = some (j, Sto.loc) from hf)
        exact absurd (e ▸ (fnd_mem e1)) nd'.1
    · refine rest ?_ e
      cases st'
      case loc => rwa [fnd, if_neg e] at hf
      case cel => rwa [fnd, if_neg e] at hf
      case glo => rwa [fnd, if_neg e] at hf
      case fix => rwa [fnd, if_neg e] at hf
      all_goals exact hf
end
open PySem PySem.W PyProof.Rows PySem.Calls PySem.Spec

theorem fdiv_pos {a b : Int} (hb : 0 < b) : a.fdiv b = a / b := Int.fdiv_eq_ediv_of_nonneg _ (Int.le_of_lt hb)
theorem fmod_pos {a b : Int} (hb : 0 < b) : a.fmod b = a % b := Int.fmod_eq_emod_of_nonneg _ (Int.le_of_lt hb)
theorem small_mul {a b : Int} (ha : smallInt a) : IntMulOk a b := by
  refine IntMulOk.of_left ?_
  unfold smallInt at ha
  unfold Builtin.Int.intBits
  by_cases h0 : a.natAbs = 0
  · simp_all
  · have := (Nat.log2_lt h0).mpr ha
    split <;> omega

theorem foldl_rep (us : List Value) (k : Nat) : (List.foldl (fun x1 x2 => x1 ++ x2) (#[] : Array Value) (List.replicate (if us.toArray.isEmpty = true then 0 else k) us.toArray)) = ((List.replicate k us).flatten).toArray := by
  have gen : ∀ (k : Nat) (acc : Array Value), List.foldl (fun x1 x2 => x1 ++ x2) acc (List.replicate k us.toArray) = acc ++ ((List.replicate k us).flatten).toArray := by
    intro k
    induction k with
    | zero => intro acc; simp
    | succ k ih => intro acc; simp only [List.replicate_succ, List.foldl_cons, List.flatten_cons, ih]; simp
  cases us with
  | nil =>
    have : (List.replicate k ([] : List Value)).flatten = [] := by
      induction k with
      | zero => rfl
      | succ k ih => simp [List.replicate_succ, ih]
    rw [this]; simp
  | cons u us =>
    have hne : (u :: us).toArray.isEmpty = false := by simp
    rw [hne]
    simp only [Bool.false_eq_true, if_false]
    rw [gen]; simp

theorem subscripted_ops (slice : Expr) (o i : Value) : ∃ ops, subscripted slice false o i = operate ops (getItem o i) := by
  unfold subscripted
  split
  · exact ⟨_, rfl⟩
  · rename_i h; cases h
  · exact ⟨_, rfl⟩

section
variable {prog : Program} {w : World} {A : Around} {E : Value → Shared → Prop} {s : Shared}
theorem tail_ok {value slice : Expr} {o i : Value} {T id : String} {Q : Value → Shared → Prop} (hT : s.TypeIs o T)
    (hl : typeLookup (.type T) "__getitem__" = pure (some (.builtin id))) (h : wpAny (model prog w) A (getItem o i) Q E s) : wpAny (model prog w) A (subscriptTail value slice o i) Q E s := by
  obtain ⟨ops, hs⟩ := subscripted_ops slice o i
  have fin : wpAny (model prog w) A (subscripted slice false o i) (fun r s₃ => wpAny (model prog w) A (letTemporaryGo value o r >>= fun _ => pure r) Q E s₃) E s := by
    rw [hs]
    exact wpAny_operating (wpAny_mono h (fun r s₃ h₃ => wpAny_bind (wpAny_letTemporaryGo (wpAny_pure h₃))) fun _ _ x => x)
  unfold subscriptTail
  refine wpAny_bind ?_
  rw [getitemInPython_of_ne hT.not_modules]
  refine wpAny_bind (wpAny_specialOf hT hl ?_)
  first
    | exact wpAny_pure (wpAny_bind fin)
    | exact wpAny_bind (wpAny_pure (wpAny_bind fin))
    | exact wpAny_bind fin
end

theorem pick_eq (us : List Value) (lo hi : Option Int) : slicePick us.toArray lo hi none = (sliceL us lo hi).toArray := by
  have cl : ∀ i : Int, (max 0 (min (if i < 0 then i + us.length else i) (us.length : Int))) = ((clampI us.length i : Nat) : Int) := by
    intro i; unfold clampI; split <;> omega
  have e : ∀ a b : Nat, ((sliceRange (a : Int) (b : Int) 1).filterMap (us.toArray[·]?)).toArray = ((us.drop a).take (b - a)).toArray := by
    intro a b
    rw [sliceRange_one, pick_run]
  have key : sliceBounds lo hi none us.toArray.size = ((loOf us.length lo : Int), (hiOf us.length hi : Int), 1) := by
    unfold sliceBounds
    simp only [Option.getD_none, show (1 : Int) > 0 by decide, if_true, List.size_toArray]
    cases lo <;> cases hi <;> simp only [cl] <;> rfl
  unfold slicePick
  rw [key]
  exact e _ _

noncomputable abbrev slobj (vl vu : Value) : Obj := { cls := .type "slice", data := .fields #[vl, vu, .none] }
inductive IxR (W : Wd) (I : Led) : Value → Ix → Led → Prop
  | int {i t} : IxR W I (.int i t) (IdxF i) []
  | sli {a vl vu l h} : (a, slobj vl vu) ∈ I → IsPart vl l → IsPart vu h → IxR W I (.ref a) (SliF l h) []
noncomputable def RelPart (_ : Led) (v : Value) (o : Option Int) (O : Led) : Prop := O = [] ∧ IsPart v o

section
variable {W : Wd} {c : Cfg} {k : Nat} {m lm : Str → Option Value} {I I' O X : Led} {Γ : Gam} {ρ : Rho} {h h' : Heap} {s : Shared}

theorem same {I : Led} : Sub I I := fun _ h => h
theorem StE.listI (S : StE W c m lm I Γ ρ O X h) {a : Addr} {us : List Value} {n : Nat} (hm : (a, lobj us n) ∈ I) : h.IsList a us.toArray := ⟨_, (S.N _ (List.mem_append_left _ hm)).1, rfl, n, rfl⟩
theorem StE.tupI (S : StE W c m lm I Γ ρ O X h) {a : Addr} {us : List Value} {n : Nat} (hm : (a, tobj us n) ∈ I) : h.IsTuple a us.toArray := ⟨_, (S.N _ (List.mem_append_left _ hm)).1, rfl, n, rfl⟩

theorem un_ok {Φ : Sl → Rho → Prop} (S : StE W c m lm I Γ ρ O X s.heap) {op : UnaryOp} {av : Value} {a : D} (ha : R W I av a) (hK : unP op a fun d => Φ (.val d) ρ) :
    wpAny (model W.prog W.w) c.A (unaryOp op av) (Post W c Γ (SlR W) m lm I X s Φ) NoE s := by
  cases op
  case USub => cases ha <;> first | exact hK.elim | exact PyProof.Rows.neg_int (Post.val same S .int hK)
  case Not => cases ha <;> first | exact hK.elim | exact not_of (wpAny_truthy_bool (Post.val same S .bool hK))
  all_goals exact hK.elim

theorem bin_ok {Φ : Sl → Rho → Prop} (S : StE W c m lm I Γ ρ O X s.heap) {op : Operator} {av bv : Value} {a b : D} (ha : R W I av a) (hb : R W I bv b) (hK : binP op a b fun sl => Φ sl ρ) :
    wpAny (model W.prog W.w) c.A (binaryOp op av bv) (Post W c Γ (SlR W) m lm I X s Φ) NoE s := by
  cases ha with
  | int =>
    cases hb with
    | int =>
      cases op
      case Add => exact PyProof.Rows.add_int (Post.val same S .int hK)
      case Sub => exact PyProof.Rows.sub_int' (Post.val same S .int hK)
      case Mult => exact PyProof.Rows.mul_int (Post.val same S .int hK.2) (small_mul hK.1)
      case FloorDiv => exact PyProof.Rows.floordiv_int (by have := hK.1; omega) (Post.val same S (by rw [fdiv_pos hK.1.1]; exact .int) hK.2) (.inl (PyProof.noPylong_small (by have := hK.1; omega)))
      case Mod => exact PyProof.Rows.mod_int' (by have := hK.1; omega) (Post.val same S (by rw [fmod_pos hK.1]; exact .int) hK.2)
      case LShift => exact PyProof.Rows.lshift_int_small hK.1.1 hK.1.2.1 hK.1.2.2 (Post.val same S .int hK.2)
      case RShift => exact PyProof.Rows.rshift_int hK.1 (Post.val same S (by rw [fdiv_pos (Int.pow_pos (by decide))]; exact .int) hK.2)
      case BitAnd => exact PyProof.Rows.and_int (Post.val same S .int hK)
      case BitOr => exact PyProof.Rows.or_int (Post.val same S .int hK)
      case Pow => exact PyProof.Rows.pow_int_small hK.1.1 hK.1.2.1 hK.1.2.2 (Post.val same S .int hK.2)
      all_goals exact hK.elim
    | _ => exact hK.elim
  | list ma ra =>
    cases op
    case Add =>
      cases hb with
      | list mb rb =>
        exact add_lists S.F S.N (S.listI ma) (S.listI mb) (fun h' F' N' => Post.new same (S.ofNew rfl F' N') (ra.append rb) hK.2) (by rw [ra.length, rb.length]; exact hK.1)
      | _ => exact hK.elim
    case Mult =>
      cases hb with
      | int =>
        have hk := hK.1
        have hl := (S.N _ (List.mem_append_left _ ma)).1
        refine PyProof.Rows.mul_list S.F S.N hl (by omega) (by omega) ?_ (fun h' F' N' => ?_)
        · rw [List.size_toArray, ra.length]; exact hk.1
        · rw [foldl_rep] at N'
          exact Post.new same (S.ofNew rfl F' N') (ra.rep _) hK.2
      | _ => exact hK.elim
    all_goals exact hK.elim
  | _ => exact hK.elim

theorem inp_ok {Φ : Sl → Rho → Prop} (S : StE W c m lm I Γ ρ O X s.heap) {op : Operator} {av bv : Value} {a b : Int} (ha : R W I av (.int a)) (hb : R W I bv (.int b)) (hK : binI op a b fun i => Φ (.val (.int i)) ρ) :
    wpAny (model W.prog W.w) c.A (inplaceOp op av bv) (Post W c Γ (SlR W) m lm I X s Φ) NoE s := by
  cases ha; cases hb
  cases op
  case Add => exact PyProof.Rows.iadd_int (Post.val same S .int hK)
  case Sub => exact PyProof.Rows.isub_int (Post.val same S .int hK)
  case Mult => exact PyProof.Rows.imul_int (Post.val same S .int hK.2) (small_mul hK.1)
  case FloorDiv => exact PyProof.Rows.ifloordiv_int (by have := hK.1; omega) (Post.val same S (by rw [fdiv_pos hK.1.1]; exact .int) hK.2) (.inl (PyProof.noPylong_small (by have := hK.1; omega)))
  case Mod => exact PyProof.Rows.imod_int (by have := hK.1; omega) (Post.val same S (by rw [fmod_pos hK.1]; exact .int) hK.2)
  case LShift => exact PyProof.Rows.ilshift_int_small hK.1.1 hK.1.2.1 hK.1.2.2 (Post.val same S .int hK.2)
  case RShift => exact PyProof.Rows.irshift_int hK.1 (Post.val same S (by rw [fdiv_pos (Int.pow_pos (by decide))]; exact .int) hK.2)
  case BitAnd => exact PyProof.Rows.iand_int (Post.val same S .int hK)
  case BitOr => exact PyProof.Rows.ior_int (Post.val same S .int hK)
  case Pow => exact PyProof.Rows.ipow_int_small hK.1.1 hK.1.2.1 hK.1.2.2 (Post.val same S .int hK.2)
  all_goals exact hK.elim

theorem any_mem (a : Int) (ns : List Int) : (ns.any fun x => x == a) = decide (a ∈ ns) := by
  induction ns with
  | nil => simp
  | cons n r ih => simp only [List.any_cons, ih, List.mem_cons]; by_cases h : n = a <;> simp [h, Ne.symm, eq_comm (a := a)]

theorem cmp_ok (hc : CfgOk W c k) (S : StE W c m lm I Γ ρ O X s.heap) {op : CmpOp} {av bv : Value} {a b : D} (ha : R W I av a) (hb : R W I bv b) {K : Bool → Prop} (hK : cmpP op a b K) {Q : Value → Shared → Prop}
    (hQ : ∀ b, K b → Q (.bool b) s) : wpAny (model W.prog W.w) c.A (compareOp op av bv) Q NoE s := by
  have hu : c.A.units < cLine := Nat.lt_of_le_of_lt (Nat.le_add_right _ _) hc.hu
  cases ha with
  | int =>
    cases hb with
    | int =>
      cases op
      case Lt => exact PySem.P.lt_int (hQ _ hK)
      case LtE => exact PySem.P.le_int (hQ _ hK)
      case Gt => exact PySem.P.gt_int (hQ _ hK)
      case GtE => exact PySem.P.ge_int (hQ _ hK)
      case Eq => exact PySem.P.eq_int (hQ _ hK)
      case NotEq => exact PySem.P.ne_int (hQ _ hK)
      all_goals exact hK.elim
    | list mb rb =>
      cases op
      case In =>
        obtain ⟨ns, rfl, hK⟩ := hK
        exact PyProof.Rows.in_list_ints (S.listI mb) rb.ints (hQ _ (by rw [any_mem]; exact hK))
      all_goals exact hK.elim
    | _ => exact hK.elim
  | bool =>
    cases hb with
    | bool =>
      cases op
      case Eq => exact PyProof.Rows.eq_bool (hQ _ hK)
      case NotEq => exact PyProof.Rows.ne_bool (hQ _ hK)
      all_goals exact hK.elim
    | _ => exact hK.elim
  | @list _ us _ ds ma ra =>
    cases hb with
    | list mb rb =>
      cases op
      case Eq =>
        obtain ⟨rfl, hK⟩ := hK
        cases rb
        by_cases h0 : ds.length = 0
        · have hz : us = [] := List.eq_nil_of_length_eq_zero (ra.length.trans h0)
          subst hz
          rw [decide_eq_true h0] at hK
          exact PySem.SeqAt.eq_listAt (e := fun _ => true) (S.listI ma) (S.listI mb) rfl hu (fun j h1 => absurd h1 (by simp)) (hQ _ hK)
        · rw [decide_eq_false h0] at hK
          refine PySem.SeqAt.eq_list_lengthsAt (S.listI ma) (S.listI mb) ?_ hu (hQ _ hK)
          simp only [List.size_toArray, List.length_nil, bne_iff_ne, ne_eq, ra.length]; exact h0
      case NotEq =>
        obtain ⟨rfl, hK⟩ := hK
        cases rb
        show wpAny _ _ (richCompare .NotEq _ _) _ _ _
        by_cases h0 : ds.length = 0
        · have hz : us = [] := List.eq_nil_of_length_eq_zero (ra.length.trans h0)
          subst hz
          rw [decide_eq_true h0] at hK
          exact PySem.SeqAt.RcNeAt.lists (e := fun _ => true) (S.listI ma) (S.listI mb) rfl hu (fun j h1 => absurd h1 (by simp)) _ _ _ _ (hQ _ hK)
        · rw [decide_eq_false h0] at hK
          refine PySem.SeqAt.RcNeAt.lists_lengths (S.listI ma) (S.listI mb) ?_ hu _ _ _ _ (hQ _ hK)
          simp only [List.size_toArray, List.length_nil, bne_iff_ne, ne_eq, ra.length]; exact h0
      all_goals exact hK.elim
    | _ => exact hK.elim
  | _ => exact hK.elim

theorem sub_list_ok {Φ : Sl → Rho → Prop} (S : StE W c m lm I Γ ρ O X s.heap) {l : Addr} {us : List Value} {ds : List D} {iv : Value} {F : Ix} {Oi : Led} {value slice : Expr}
    (hl : s.heap.IsList l us.toArray) (hr : Rs W I us ds) (hi : IxR W I iv F Oi) (hF : F ds fun sl => Φ sl ρ) :
    wpAny (model W.prog W.w) c.A (subscriptTail value slice (.ref l) iv) (Post W c Γ (SlR W) m lm I X s Φ) NoE s := by
  refine tail_ok hl.typeIs list_getitem_lookup ?_
  cases hi with
  | @int i t =>
    obtain ⟨⟨b1, b2⟩, hx⟩ := hF
    rcases hx with ⟨h0, d, hd, hK⟩ | ⟨h0, h1, d, hd, hK⟩
    · obtain ⟨v, hv, hR⟩ := hr.get hd
      exact wpAny_getItem_list hl h0 (by omega) (by simpa using hv) (Post.val same S hR hK)
    · obtain ⟨v, hv, hR⟩ := hr.get hd
      have hlen := hr.length
      exact wpAny_getItem_list_neg hl h0 (by simp only [List.size_toArray]; omega) (by omega) (by simp only [List.size_toArray, hlen]; simpa using hv) (Post.val same S hR hK)
  | @sli a vl vu lo hi hm pl pu =>
    obtain ⟨hsz, hK⟩ := hF
    refine wpAny_getItem_list_slice (st := none) hl ⟨_, (S.N _ (List.mem_append_left _ hm)).1, rfl, rfl⟩ pl pu .none (by simp) ?_ (by rw [List.size_toArray, hr.length]; exact hsz)
    rw [pick_eq]
    refine Post.new (n := 0) same (S.pushX rfl) ?_ hK
    unfold sliceL
    rw [hr.length]
    exact (hr.drop _).take _

theorem sub_tup_ok {Φ : Sl → Rho → Prop} (S : StE W c m lm I Γ ρ O X s.heap) {ov : Value} {ds : List D} {iv : Value} {i : Int} {value slice : Expr}
    (ho : R W I ov (.tup ds)) (hi : R W I iv (.int i)) (hF : tupP ds i fun d => Φ (.val d) ρ) :
    wpAny (model W.prog W.w) c.A (subscriptTail value slice ov iv) (Post W c Γ (SlR W) m lm I X s Φ) NoE s := by
  cases ho with
  | tup mo ro =>
    cases hi
    obtain ⟨⟨h0, h1⟩, d, hd, hK⟩ := hF
    obtain ⟨v, hv, hR⟩ := ro.get hd
    have ht : IsTup s.heap _ _ := S.tupI mo
    have hlt : i.toNat < _ := (List.getElem?_eq_some_iff.mp hv).1
    refine tail_ok ht.typeIs slot_tuple_getitem.lookup (PyProof.Rows.getItem_tuple ht (by omega) (by omega) (j := i.toNat) ?_ (by simpa using hv) (Post.val same S hR hK))
    unfold seqIndex?
    have e1 : ¬ (i < 0) := Int.not_lt.mpr h0
    simp only [if_neg e1]
    rw [if_pos]
    simp only [List.size_toArray, Bool.and_eq_true, decide_eq_true_eq]
    omega
end
open PySem PySem.W PyProof.Rows PySem.Calls PySem.Spec

noncomputable abbrev robj (a b c : Int) (t u v : Tok) : Obj := { cls := .type "range", data := .fields #[.int a t, .int b u, .int c v] }
noncomputable def inBig (a : Int) : Prop := -big ≤ a ∧ a ≤ big
inductive ItR (W : Wd) (I : Led) : Value → Nat × List D → Led → Prop
  | list {a us n ds} : (a, lobj us n) ∈ I → Rs W I us ds → ItR W I (.ref a) (0, ds) []
  | range {r a b t u v} : (r, robj a b 1 t u v) ∈ I → inBig a → inBig b → ItR W I (.ref r) (0, (rangeL a b).map .int) []
  | down {r a b t u v} : (r, robj a b (-1) t u v) ∈ I → inBig a → inBig b → ItR W I (.ref r) (1, (downL a b).map .int) []
  | enum {e it l us n ds oe oi} : (l, lobj us n) ∈ I → Rs W I us ds → ds.length ≤ sizeLine → oe = ({ cls := .type "enumerate", data := .fields #[.none, .bool false, .ref it, rawInt 0, .none, .none] } : Obj) → oi.cls = .type "list_iterator" → oi.data = .fields #[.ref l, .int 0 0] → ItR W I (.ref e) (2, enumL ds) [(e, oe), (it, oi)]

structure SE (W : Wd) (c : Cfg) (Γ : Gam) (x : Expr) (p : P) : Prop where
  e : ∀ {ρ Φ}, p.e ρ Φ → Ok W c Γ (SlR W) ρ (eval x c.env) Φ
  t : ∀ {ρ Ψ}, p.t ρ Ψ → Ok W c Γ RelB ρ (PySem.isTrue x c.env (eval x c.env)) Ψ
  i : ∀ {ρ Ψ}, p.i ρ Ψ → Ok W c Γ (IxR W) ρ (eval x c.env) Ψ
  o : ∀ {ρ Ψ}, p.o ρ Ψ → Ok W c Γ RelPart ρ (evalPart (some x) c.env) Ψ
  it : ∀ {ρ Ψ}, p.it ρ Ψ → Ok W c Γ (ItR W) ρ (eval x c.env) Ψ
structure SEs (W : Wd) (c : Cfg) (Γ : Gam) (xs : List Expr) (p : P) : Prop where
  es : ∀ {ρ Ψ} (pos : Pos), p.es ρ Ψ → Ok W c Γ (RelDs W) ρ (spliced (backTo pos (starEach xs c.env))) Ψ
  sls : ∀ {ρ Ψ} (pos : Pos), p.sls ρ Ψ → Ok W c Γ (SlsR W) ρ (spliced (backTo pos (starEach xs c.env))) Ψ

noncomputable def VTest (e : Expr) : Prop := ∀ env (whole : Sem Value), PySem.isTrue e env whole = (do let v ← whole; standAt e.pos; holding [v] (truthy v))
theorem SE.bad {W c Γ e} : SE W c Γ e P.none := ⟨fun h => h.elim, fun h => h.elim, fun h => h.elim, fun h => h.elim, fun h => h.elim⟩

section
variable {W : Wd} {c : Cfg} {k : Nat} {m lm : Str → Option Value} {I I' O X : Led} {Γ : Gam} {ρ : Rho} {h h' : Heap} {s : Shared} {x : Str} {j : Nat} {st : Sto}

theorem onI_eq {d : D} {Φ} (h : onI d Φ) : ∃ i, d = .int i ∧ Φ i := by cases d <;> first | exact h.elim | exact ⟨_, rfl, h⟩
theorem onL_eq {d : D} {Φ} (h : onL d Φ) : ∃ i, d = .list i ∧ Φ i := by cases d <;> first | exact h.elim | exact ⟨_, rfl, h⟩
theorem onB_eq {d : D} {Φ} (h : onB d Φ) : ∃ i, d = .bool i ∧ Φ i := by cases d <;> first | exact h.elim | exact ⟨_, rfl, h⟩
theorem onT_eq {d : D} {Φ} (h : onT d Φ) : ∃ i, d = .tup i ∧ Φ i := by cases d <;> first | exact h.elim | exact ⟨_, rfl, h⟩
theorem onFn_eq {d : D} {Φ} (h : onFn d Φ) : ∃ i, d = .fn i ∧ Φ i := by cases d <;> first | exact h.elim | exact ⟨_, rfl, h⟩
theorem onOwn_eq {o : Option Sl} {Φ} (h : onOwn o Φ) : ∃ ds, o = some (.own ds) ∧ Φ ds := by
  cases o with
  | none => exact h.elim
  | some s => cases s <;> first | exact h.elim | exact ⟨_, rfl, h⟩
theorem onVal_eq {o : Option Sl} {Φ} (h : onVal o Φ) : ∃ d, o = some (.val d) ∧ Φ d := by
  cases o with
  | none => exact h.elim
  | some s => cases s <;> first | exact h.elim | exact ⟨_, rfl, h⟩

theorem seqK {t : Sem Value} {f : Rho → (Sl → Rho → Prop) → Prop} (he : ∀ {ρ Φ}, f ρ Φ → Ok W c Γ (SlR W) ρ t Φ) (K : D → Rho → Prop) (H : f ρ fun v ρ => K v.d ρ) (S : StE W c m lm I Γ ρ O X s.heap) {Q : Value → Shared → Prop}
    (k : ∀ v h' tk I' O' d ρ', Sub I I' → StE W c m lm I' Γ ρ' O' X h' → R W I' v d → K d ρ' → Q v { s with heap := h', toks := tk }) : wpAny (model W.prog W.w) c.A t Q NoE s :=
  Ok.seqD (Φ := K) (he H) S k

theorem test_ok {e : Expr} {f : Rho → (Sl → Rho → Prop) → Prop} (he : ∀ {ρ Φ}, f ρ Φ → Ok W c Γ (SlR W) ρ (eval e c.env) Φ) (ht : VTest e) {Ψ : Bool → Rho → Prop} (H : f ρ fun v ρ => onB v.d fun b => Ψ b ρ) : Ok W c Γ RelB ρ (PySem.isTrue e c.env (eval e c.env)) Ψ := by
  intro m lm I O X s S
  refine wpAny_isTrue_value ?_ (ht _ _)
  refine seqK he (fun d ρ => onB d fun b => Ψ b ρ) H S fun v h' tk I' O' d ρ' hI S' hv hΦ => ?_
  obtain ⟨b, rfl, hΨ⟩ := onB_eq hΦ
  cases hv
  exact wpAny_truthy_bool ⟨h', tk, I', O', [], b, ρ', rfl, hI, S', ⟨rfl, rfl⟩, hΨ⟩

theorem SE.mk' {e : Expr} {f : Rho → (Sl → Rho → Prop) → Prop} {T : Rho → (Bool → Rho → Prop) → Prop} (he : ∀ {ρ Φ}, f ρ Φ → Ok W c Γ (SlR W) ρ (eval e c.env) Φ)
    (ht : ∀ {ρ Ψ}, T ρ Ψ → Ok W c Γ RelB ρ (PySem.isTrue e c.env (eval e c.env)) Ψ) : SE W c Γ e { P.ofE f with t := T } where
  e := he
  t := ht
  i := fun {ρ Ψ} H m lm I O X s S => seqK he (fun d ρ => onI d fun i => Ψ (IdxF i) ρ) H S fun v h' tk I' O' d ρ' hI S' hv hΦ => by
    obtain ⟨b, rfl, hΨ⟩ := onI_eq hΦ
    cases hv
    exact ⟨h', tk, I', O', [], _, ρ', rfl, hI, S', .int, hΨ⟩
  o := fun {ρ Ψ} H m lm I O X s S => wpAny_evalPart_some (seqK he (fun d ρ => onI d fun i => Ψ (some i) ρ) H S fun v h' tk I' O' d ρ' hI S' hv hΦ => by
    obtain ⟨b, rfl, hΨ⟩ := onI_eq hΦ
    cases hv
    exact ⟨h', tk, I', O', [], _, ρ', rfl, hI, S', ⟨rfl, .int _ _⟩, hΨ⟩)
  it := fun {ρ Ψ} H m lm I O X s S => seqK he (fun d ρ => onL d fun i => Ψ (0, i) ρ) H S fun v h' tk I' O' d ρ' hI S' hv hΦ => by
    obtain ⟨b, rfl, hΨ⟩ := onL_eq hΦ
    cases hv with
    | list hm hr => exact ⟨h', tk, I', O', [], _, ρ', rfl, hI, S', .list hm hr, hΨ⟩
theorem SE.ofE {e : Expr} {f : Rho → (Sl → Rho → Prop) → Prop} (he : ∀ {ρ Φ}, f ρ Φ → Ok W c Γ (SlR W) ρ (eval e c.env) Φ) (ht : VTest e) : SE W c Γ e (P.ofE f) := SE.mk' he (test_ok he ht)

theorem put_self {sl : Sl} (h : nth ρ j = some sl) : put j (some sl) ρ = ρ := by
  unfold nth at h
  unfold put
  have e : ρ[j]? = some (some sl) := by
    cases e : ρ[j]? with
    | none => rw [e] at h; cases h
    | some o => rw [e] at h; exact congrArg some h
  obtain ⟨hl, e⟩ := List.getElem?_eq_some_iff.mp e
  rw [← e]; exact List.set_getElem_self hl

theorem name_val (hc : CfgOk W c k) {p : Pos} {Φ : Sl → Rho → Prop} (hf : fnd x Γ = some (j, st)) (hx : x ≠ Str.ofString "__debug__") (H : rdV j ρ Φ (nth ρ j)) : Ok W c Γ (SlR W) ρ (eval (.Name x p) c.env) Φ := by
  intro m lm I O X s S
  cases hg : nth ρ j with
  | none => rw [hg] at H; exact H.elim
  | some sl =>
    rw [hg] at H
    obtain ⟨v, O1, Ov, O', sto, hsl, S1, back, load⟩ := name_ok hc S hf hg
    refine wpAny_Name (load _ _ ?_) (beq_eq_false_iff_ne.mpr hx)
    cases sl with
    | val d =>
      cases hsl with
      | val hv => exact Post.val (tk := s.toks) same S hv H
    | own ds =>
      obtain ⟨I', hI, S2, hv⟩ := S1.froz hsl
      obtain ⟨O'', S3⟩ := back I' (.val (.list ds)) [] s.heap S2 hI (.val hv)
      exact Post.val (tk := s.toks) hI S3 hv H

theorem isInt {d : D} {v : Value} (h : R W I v d) {i : Int} (e : d = .int i) : ∃ t, v = .int i t := by subst e; cases h; exact ⟨_, rfl⟩

/-- the evaluation of one, then of another, by value -/
theorem two_ok {t1 t2 : Sem Value} {f1 f2 : Rho → (Sl → Rho → Prop) → Prop} (h1 : ∀ {ρ Φ}, f1 ρ Φ → Ok W c Γ (SlR W) ρ t1 Φ) (h2 : ∀ {ρ Φ}, f2 ρ Φ → Ok W c Γ (SlR W) ρ t2 Φ) {K : D → D → Rho → Prop} (S : StE W c m lm I Γ ρ O X s.heap)
    (H : f1 ρ fun a ρ => f2 ρ fun b ρ => K a.d b.d ρ) {Q : Value → Value → Shared → Prop}
    (hQ : ∀ v u h' tk I' O' a b ρ', Sub I I' → StE W c m lm I' Γ ρ' O' X h' → R W I' v a → R W I' u b → K a b ρ' → Q v u { s with heap := h', toks := tk }) :
    wpAny (model W.prog W.w) c.A t1 (fun v s₁ => wpAny (model W.prog W.w) c.A t2 (Q v) NoE s₁) NoE s :=
  seqK h1 (fun d ρ => f2 ρ fun b ρ => K d b.d ρ) H S fun v h' tk I' O' a ρ' hI S' hv hΦ =>
    seqK (s := { s with heap := h', toks := tk }) h2 (fun d ρ => K a d ρ) hΦ S' fun u h'' tk' I'' O'' b ρ'' hI' S'' hu hK =>
      hQ v u h'' tk' I'' O'' a b ρ'' (fun p hp => hI' p (hI p hp)) S'' (hv.mono hI') hu hK

theorem SE.int {i : Int} {kk p} : SE W c Γ (.Constant (.int i) kk p) (P.ofE fun ρ Φ => Φ (.val (.int i)) ρ) :=
  .ofE (fun H m lm I O X s S => wpAny_Constant_int (Post.val same S .int H)) fun _ _ => rfl
theorem SE.bool {b : Bool} {kk p} : SE W c Γ (.Constant (.bool b) kk p) (P.ofE fun ρ Φ => Φ (.val (.bool b)) ρ) :=
  .ofE (fun H m lm I O X s S => wpAny_Constant_bool (Post.val (tk := s.toks) same S .bool H)) fun _ _ => rfl
theorem SE.var (hc : CfgOk W c k) {p : Pos} (hf : fnd x Γ = some (j, st)) (hx : x ≠ Str.ofString "__debug__") : SE W c Γ (.Name x p) (P.ofE fun ρ Φ => rdV j ρ Φ (nth ρ j)) :=
  .ofE (fun H => name_val hc hf hx H) fun _ _ => rfl

theorem SE.un {op e p} {q : P} (H : SE W c Γ e q) : SE W c Γ (.UnaryOp op e p) { P.ofE fun ρ Φ => q.e ρ fun a ρ => unP op a.d fun d => Φ (.val d) ρ with t := fun _ _ => False } :=
  .mk' (fun {ρ Φ} K m lm I O X s S =>
    wpAny_UnaryOp (seqK H.e (fun d ρ => unP op d fun d => Φ (.val d) ρ) K S fun v h' tk I' O' d ρ' hI S' hv hΦ =>
      wpAny_mono (un_ok (s := { s with heap := h', toks := tk }) S' hv hΦ) (fun _ _ x => Post.up hI x) fun _ _ x => x)) fun h => h.elim

theorem SE.bin {op l r p} {q1 q2 : P} (H1 : SE W c Γ l q1) (H2 : SE W c Γ r q2) : SE W c Γ (.BinOp l op r p) (P.ofE fun ρ Φ => q1.e ρ fun a ρ => q2.e ρ fun b ρ => binP op a.d b.d fun sl => Φ sl ρ) :=
  .ofE (fun {ρ Φ} K m lm I O X s S => wpAny_BinOp (two_ok H1.e H2.e (K := fun a b ρ => binP op a b fun sl => Φ sl ρ) S K fun v u h' tk I' O' a b ρ' hI S' hv hu hK =>
    wpAny_mono (bin_ok (s := { s with heap := h', toks := tk }) S' hv hu hK) (fun _ _ x => Post.up hI x) fun _ _ x => x)) fun _ _ => rfl

theorem SE.cmp (hc : CfgOk W c k) {op l r p} {q1 q2 : P} (hm : behindInMarks op r = false) (H1 : SE W c Γ l q1) (H2 : SE W c Γ r q2) : SE W c Γ (.Compare l [op] [r] p)
    { P.ofE fun ρ Φ => q1.e ρ fun a ρ => q2.e ρ fun b ρ => cmpP op a.d b.d fun b => Φ (.val (.bool b)) ρ with t := fun ρ Ψ => q1.e ρ fun a ρ => q2.e ρ fun b ρ => cmpP op a.d b.d fun b => Ψ b ρ } :=
  .mk' (fun {ρ Φ} K m lm I O X s S =>
    wpAny_Compare1 (two_ok H1.e H2.e (K := fun a b ρ => cmpP op a b fun b => Φ (.val (.bool b)) ρ) S K fun v u h' tk I' O' a b ρ' hI S' hv hu hK =>
      cmp_ok (s := { s with heap := h', toks := tk }) hc S' hv hu hK fun b hb => Post.val hI S' .bool hb) hm)
    fun {ρ Ψ} K m lm I O X s S => wpAny_isTrue_Compare1 (two_ok H1.e H2.e (K := fun a b ρ => cmpP op a b fun b => Ψ b ρ) S K fun v u h' tk I' O' a b ρ' hI S' hv hu hK =>
      cmp_ok (s := { s with heap := h', toks := tk }) hc S' hv hu hK fun b hb => wpAny_truthy_bool ⟨h', tk, I', O', [], b, ρ', rfl, hI, S', ⟨rfl, rfl⟩, hb⟩) hm

/-- a test, then one of two -/
theorem branch_ok {α β : Type} {Rel : Led → α → β → Led → Prop} {T : Sem Bool} {t : Rho → (Bool → Rho → Prop) → Prop} {tx ty : Sem α} {fx fy : Rho → (β → Rho → Prop) → Prop} {Φ : β → Rho → Prop} (ht : ∀ {ρ Ψ}, t ρ Ψ → Ok W c Γ RelB ρ T Ψ)
    (hx : ∀ {ρ}, fx ρ Φ → Ok W c Γ Rel ρ tx Φ) (hy : ∀ {ρ}, fy ρ Φ → Ok W c Γ Rel ρ ty Φ) (S : StE W c m lm I Γ ρ O X s.heap) (K : t ρ fun b ρ => (b = true → fx ρ Φ) ∧ (b = false → fy ρ Φ)) :
    wpAny (model W.prog W.w) c.A T (fun b s₁ => if b then wpAny (model W.prog W.w) c.A tx (Post W c Γ Rel m lm I X s Φ) NoE s₁ else wpAny (model W.prog W.w) c.A ty (Post W c Γ Rel m lm I X s Φ) NoE s₁) NoE s := by
  refine (ht K).seq S fun v h' tk I' O' Ov b ρ' hI S' ⟨hO, e⟩ hK => ?_
  subst hO e
  cases v with
  | true => exact wpAny_mono (hx (hK.1 rfl) m lm I' O' X { s with heap := h', toks := tk } S') (fun _ _ x => Post.up hI x) fun _ _ x => x
  | false => exact wpAny_mono (hy (hK.2 rfl) m lm I' O' X { s with heap := h', toks := tk } S') (fun _ _ x => Post.up hI x) fun _ _ x => x

theorem SE.and2 {x y : Expr} {p} {q1 q2 : P} (H1 : SE W c Γ x q1) (H2 : SE W c Γ y q2) : SE W c Γ (.BoolOp .And [x, y] p)
    { P.ofE fun ρ Φ => q1.e ρ fun a ρ => onB a.d fun b => (b = true → q2.e ρ Φ) ∧ (b = false → Φ (.val (.bool false)) ρ) with t := fun ρ Ψ => q1.t ρ fun b ρ => (b = true → q2.t ρ Ψ) ∧ (b = false → Ψ false ρ) } :=
  .mk' (fun {ρ Φ} K m lm I O X s S => wpAny_And2 (seqK H1.e (fun d ρ => onB d fun b => (b = true → q2.e ρ Φ) ∧ (b = false → Φ (.val (.bool false)) ρ)) K S fun v h' tk I' O' d ρ' hI S' hv hΦ => by
      obtain ⟨b, rfl, hΨ⟩ := onB_eq hΦ
      cases hv
      refine wpAny_truthy_bool ?_
      cases b with
      | true => exact wpAny_mono (H2.e (hΨ.1 rfl) m lm I' O' X { s with heap := h', toks := tk } S') (fun _ _ x => Post.up hI x) fun _ _ x => x
      | false => exact Post.val hI S' .bool (hΨ.2 rfl)))
    fun {ρ Ψ} K m lm I O X s S => wpAny_isTrue_BoolOp (wpAny_allTrue_And_cons ((H1.t K).seq S fun v h' tk I' O' Ov b ρ' hI S' hb hK => by
      obtain ⟨rfl, rfl⟩ := hb
      cases v with
      | false => exact ⟨h', tk, I', O', [], false, ρ', rfl, hI, S', ⟨rfl, rfl⟩, hK.2 rfl⟩
      | true =>
        refine wpAny_allTrue_And_cons ((H2.t (hK.1 rfl)).seq (s := { s with heap := h', toks := tk }) S' fun v h'' tk' I'' O'' Ov b ρ'' hI' S'' hb hK => ?_)
        obtain ⟨rfl, rfl⟩ := hb
        have z : Post W c Γ RelB m lm I X s Ψ v { s with heap := h'', toks := tk' } := ⟨h'', tk', I'', O'', [], v, ρ'', rfl, fun p hp => hI' p (hI p hp), S'', ⟨rfl, rfl⟩, hK⟩
        cases v with
        | true => exact wpAny_allTrue_And_nil z
        | false => exact z))

theorem SE.or2 {x y : Expr} {p} {q1 q2 : P} (H1 : SE W c Γ x q1) (H2 : SE W c Γ y q2) : SE W c Γ (.BoolOp .Or [x, y] p)
    { P.none with t := fun ρ Ψ => q1.t ρ fun b ρ => (b = true → Ψ true ρ) ∧ (b = false → q2.t ρ Ψ) } where
  e := fun h => h.elim
  i := fun h => h.elim
  o := fun h => h.elim
  it := fun h => h.elim
  t := fun {ρ Ψ} K m lm I O X s S => wpAny_isTrue_BoolOp (wpAny_allTrue_Or_cons ((H1.t K).seq S fun v h' tk I' O' Ov b ρ' hI S' hb hK => by
      obtain ⟨rfl, rfl⟩ := hb
      cases v with
      | true => exact ⟨h', tk, I', O', [], true, ρ', rfl, hI, S', ⟨rfl, rfl⟩, hK.1 rfl⟩
      | false =>
        refine wpAny_allTrue_Or_cons ((H2.t (hK.2 rfl)).seq (s := { s with heap := h', toks := tk }) S' fun v h'' tk' I'' O'' Ov b ρ'' hI' S'' hb hK => ?_)
        obtain ⟨rfl, rfl⟩ := hb
        have z : Post W c Γ RelB m lm I X s Ψ v { s with heap := h'', toks := tk' } := ⟨h'', tk', I'', O'', [], v, ρ'', rfl, fun p hp => hI' p (hI p hp), S'', ⟨rfl, rfl⟩, hK⟩
        cases v with
        | true => exact z
        | false => exact wpAny_allTrue_Or_nil z))

theorem SE.ife {t x y : Expr} {p} {q q1 q2 : P} (H : SE W c Γ t q) (H1 : SE W c Γ x q1) (H2 : SE W c Γ y q2) : SE W c Γ (.IfExp t x y p)
    { P.ofE fun ρ Φ => q.t ρ fun b ρ => (b = true → q1.e ρ Φ) ∧ (b = false → q2.e ρ Φ) with t := fun _ _ => False } :=
  .mk' (fun {ρ Φ} K m lm I O X s S => wpAny_IfExp (branch_ok (fx := q1.e) (fy := q2.e) H.t H1.e H2.e S K)) fun h => h.elim

theorem SEs.nil : SEs W c Γ [] { P.none with es := fun ρ Ψ => Ψ [] ρ, sls := fun ρ Ψ => Ψ [] ρ, o := fun ρ Ψ => Ψ none ρ, s := fun ρ Φ => Φ .next ρ } where
  es := fun _ K m lm I O X s S => args_nil ⟨s.heap, s.toks, I, O, [], [], _, rfl, same, S, ⟨rfl, .nil⟩, K⟩
  sls := fun _ K m lm I O X s S => args_nil ⟨s.heap, s.toks, I, O, [], [], _, rfl, same, S, .nil, K⟩

theorem Rs.one {v d vs ds} (a : R W I v d) (b : Rs W I vs ds) : Rs W I (v :: vs) (d :: ds) := .cons a b
theorem SlsR.mono {I I' : Led} {vs sls O} (h : SlsR W I vs sls O) (hs : Sub I I') : SlsR W I' vs sls O := by
  induction h with
  | nil => exact .nil
  | cons a _ ih => exact .cons (a.mono hs) ih

theorem perm3 {a b x : Led} {O : Led} : (O ++ (b ++ (a ++ x))).Perm (O ++ ((a ++ b) ++ x)) := by
  refine List.Perm.append_left _ ?_
  rw [← List.append_assoc]
  exact List.Perm.append_right _ List.perm_append_comm

theorem SEs.cons {x : Expr} {xs : List Expr} {q1 q2 : P} {z : P} (hx : ∀ env, starEach (x :: xs) env = (false, eval x env) :: starEach xs env) (H1 : SE W c Γ x q1) (H2 : SEs W c Γ xs q2)
    (he : z.es = fun ρ Ψ => q1.e ρ fun v ρ => q2.es ρ fun vs ρ => Ψ (v.d :: vs) ρ) (hs : z.sls = fun ρ Ψ => q1.e ρ fun v ρ => q2.sls ρ fun vs ρ => Ψ (v :: vs) ρ) : SEs W c Γ (x :: xs) z where
  es := fun {ρ Ψ} pos K m lm I O X s S => by
    rw [he] at K
    refine args_cons (seqK H1.e (fun d ρ => q2.es ρ fun vs ρ => Ψ (d :: vs) ρ) K S fun v h' tk I' O' d ρ' hI S' hv hΦ => ?_) (hx _)
    refine (H2.es pos hΦ).seq (s := { s with heap := h', toks := tk }) S' fun vs h'' tk' I'' O'' Ov ds ρ'' hI' S'' ⟨e, hvs⟩ hΨ => ?_
    subst e
    exact ⟨h'', tk', I'', O'', [], _, ρ'', rfl, fun p hp => hI' p (hI p hp), S'', ⟨rfl, .cons (hv.mono hI') hvs⟩, hΨ⟩
  sls := fun {ρ Ψ} pos K m lm I O X s S => by
    rw [hs] at K
    refine args_cons ((H1.e K).seq S fun v h' tk I' O' Ov sl ρ' hI S' hv hΦ => ?_) (hx _)
    refine (H2.sls pos hΦ).seq (s := { s with heap := h', toks := tk }) S' fun vs h'' tk' I'' O'' Ov' sls ρ'' hI' S'' hvs hΨ => ?_
    refine ⟨h'', tk', I'', O'', Ov ++ Ov', _, ρ'', rfl, fun p hp => hI' p (hI p hp), S''.perm perm3 S''.E fun p hp _ => (List.append_assoc Ov Ov' X ▸ (perm3 (O := []) (a := Ov) (b := Ov') (x := X)).mem_iff.mp hp), .cons (hv.mono hI') hvs, hΨ⟩

theorem SE.tup {es : List Expr} {kk p} {q : P} (H : SEs W c Γ es q) : SE W c Γ (.Tuple es kk p) (P.ofE fun ρ Φ => q.es ρ fun ds ρ => ds.length ≤ sizeLine ∧ Φ (.val (.tup ds)) ρ) :=
  .ofE (fun {ρ Φ} K m lm I O X s S => Tuple_ ((H.es p K).seq S fun vs h' tk I' O' Ov ds ρ' hI S' ⟨e, hv⟩ hΦ => by
    subst e
    refine newTuple_N (s := { s with heap := h', toks := tk }) S'.F S'.N (fun h'' F' N' => ?_) (by rw [hv.length]; exact hΦ.1)
    have S2 := (S'.ofNew rfl F' N').toI (fun _ _ e => nomatch e)
    exact Post.val (fun p hp => .tail _ (hI p hp)) S2 (.tup (.head _) (hv.mono fun p hp => .tail _ hp)) hΦ.2)) fun _ _ => rfl
theorem SE.list {es : List Expr} {p} {q : P} (H : SEs W c Γ es q) : SE W c Γ (.List es p) (P.ofE fun ρ Φ => q.es ρ fun ds ρ => ds.length ≤ sizeLine ∧ Φ (.own ds) ρ) :=
  .ofE (fun {ρ Φ} K m lm I O X s S => List_ ((H.es p K).seq S fun vs h' tk I' O' Ov ds ρ' hI S' ⟨e, hv⟩ hΦ => by
    subst e
    refine newList_N (s := { s with heap := h', toks := tk }) S'.F S'.N (fun h'' F' N' => ?_) (by rw [hv.length]; exact hΦ.1)
    exact Post.new hI (S'.ofNew rfl F' N') hv hΦ.2)) fun _ _ => rfl
end
open PySem PySem.W PyProof.Rows PySem.Calls PySem.Spec

theorem perm_in {O a b X : Led} : (O ++ (a ++ (b ++ X))).Perm (O ++ (b ++ (a ++ X))) := by
  refine List.Perm.append_left _ ?_
  rw [← List.append_assoc, ← List.append_assoc]
  exact List.Perm.append_right _ List.perm_append_comm

section
variable {W : Wd} {c : Cfg} {k : Nat} {m lm : Str → Option Value} {I I' O X : Led} {Γ : Gam} {ρ : Rho} {h h' : Heap} {s : Shared} {x : Str} {j : Nat} {st : Sto}

theorem IxR.nil {v F Oi} (h : IxR W I v F Oi) : Oi = [] := by cases h <;> rfl

theorem subD_ok {i : Expr} {q : P} (Hi : SE W c Γ i q) {Φ : Sl → Rho → Prop} {v : Value} {d : D} {value : Expr} (S : StE W c m lm I Γ ρ O X s.heap) (hv : R W I v d) (H : subD q Φ d ρ) :
    wpAny (model W.prog W.w) c.A (eval i c.env) (fun iv s₂ => wpAny (model W.prog W.w) c.A (subscriptTail value i v iv) (Post W c Γ (SlR W) m lm I X s Φ) NoE s₂) NoE s := by
  cases d with
  | list ds =>
    cases hv with
    | list hm hr =>
      refine (Hi.i H).seq S fun iv h' tk I' O' Ov F ρ' hI S' hi hF => ?_
      have e := hi.nil
      subst e
      exact wpAny_mono (sub_list_ok (s := { s with heap := h', toks := tk }) S' (S'.listI (hI _ hm)) (hr.mono hI) hi hF) (fun _ _ x => Post.up hI x) fun _ _ x => x
  | tup ds =>
    refine seqK Hi.e (fun d ρ => onI d fun i => tupP ds i fun d => Φ (.val d) ρ) H S fun iv h' tk I' O' d ρ' hI S' hi hF => ?_
    obtain ⟨b, rfl, hF⟩ := onI_eq hF
    exact wpAny_mono (sub_tup_ok (s := { s with heap := h', toks := tk }) S' (hv.mono hI) hi hF) (fun _ _ x => Post.up hI x) fun _ _ x => x
  | _ => exact H.elim

theorem SE.sub {o i : Expr} {p} {q1 q2 : P} (H1 : SE W c Γ o q1) (H2 : SE W c Γ i q2) : SE W c Γ (.Subscript o i p) (P.ofE fun ρ Φ => q1.e ρ fun ov ρ => subD q2 Φ ov.d ρ) :=
  .ofE (fun {ρ Φ} K m lm I O X s S => Subscript_ (seqK H1.e (fun d ρ => subD q2 Φ d ρ) K S fun v h' tk I' O' d ρ' hI S' hv hΦ =>
    wpAny_mono (subD_ok (s := { s with heap := h', toks := tk }) H2 S' hv hΦ) (fun _ _ h => wpAny_mono h (fun _ _ x => Post.up hI x) fun _ _ x => x) fun _ _ x => x)) fun _ _ => rfl

theorem StoR.loc_inv {ov : Option Value} {O1 : Led} (hst : st = .loc ∨ st = .fix) (h : StoR W c m lm x st ov O1) : lm x = ov := by
  rcases hst with rfl | rfl
  · cases h with | loc _ => rfl
  · cases h with | fix _ => rfl

theorem SE.subv (hc : CfgOk W c k) {i : Expr} {p px} {q : P} (hf : fnd x Γ = some (j, st)) (hst : st = .loc ∨ st = .fix) (hx : x ≠ Str.ofString "__debug__") (Hi : SE W c Γ i q) : SE W c Γ (.Subscript (.Name x px) i p) (P.ofE fun ρ Φ => rdS j q ρ Φ (nth ρ j)) :=
  .ofE (fun {ρ Φ} K m lm I O X s S => by
    cases hg : nth ρ j with
    | none => rw [hg] at K; exact K.elim
    | some sl =>
      rw [hg] at K
      obtain ⟨v, O1, Ov, O', sto, hsl, S1, back, load⟩ := name_ok hc S hf hg
      refine Subscript_ (wpAny_Name (load _ _ ?_) (beq_eq_false_iff_ne.mpr hx))
      cases sl with
      | val d =>
        cases hsl with
        | val hv => exact subD_ok Hi S hv K
      | own ds =>
        cases hsl with
        | @own a us n _ hr =>
          refine (Hi.i K).seq S1 fun iv h' tk I' O'' Oi F ρ' hI S' hi hF => ?_
          have e := hi.nil
          subst e
          have hl : h'.IsList a us.toArray := ⟨_, (S'.N _ (List.mem_append_right _ (List.mem_append_right _ (.head _)))).1, rfl, n, rfl⟩
          refine wpAny_mono (sub_list_ok (Φ := fun sl ρ => Φ sl (put j (some (.own ds)) ρ)) (s := { s with heap := h', toks := tk }) S' hl (hr.mono hI) hi hF) (fun r s' hp => ?_) fun _ _ x => x
          obtain ⟨h'', tk', I'', Oz, Or, sl', ρ'', e, hI', S'', hr', hρ⟩ := hp
          -- the list is put back
          have S3 := S''.perm (perm_in (O := Oz) (a := Or) (b := [(a, lobj us n)]) (X := X)) S''.E fun p hp _ => (perm_in (O := []) (a := Or) (b := [(a, lobj us n)]) (X := X)).mem_iff.mp hp
          obtain ⟨O4, S4⟩ := put_loc S3 hf hst (sto.loc_inv hst) (.own (hr.mono fun p hp => hI' p (hI p hp)))
          exact ⟨h'', tk', I'', O4, Or, sl', _, e, fun p hp => hI' p (hI p hp), S4, hr', hρ⟩) fun _ _ => rfl

/-- a bound of a slice -/
noncomputable def SO (W : Wd) (c : Cfg) (Γ : Gam) (x : Option Expr) (p : P) : Prop := ∀ {ρ Ψ}, p.o ρ Ψ → Ok W c Γ RelPart ρ (evalPart x c.env) Ψ
theorem SO.nil : SO W c Γ Option.none { P.none with es := fun ρ Ψ => Ψ [] ρ, sls := fun ρ Ψ => Ψ [] ρ, o := fun ρ Ψ => Ψ none ρ, s := fun ρ Φ => Φ .next ρ } :=
  fun {ρ Ψ} K m lm I O X s S => wpAny_evalPart_none ⟨s.heap, s.toks, I, O, [], _, ρ, rfl, same, S, ⟨rfl, .none⟩, K⟩
theorem SE.slice {lo hi : Option Expr} {p} {q1 q2 : P} (H1 : SO W c Γ lo q1) (H2 : SO W c Γ hi q2) : SE W c Γ (.Slice lo hi Option.none p) { P.none with i := fun ρ Ψ => q1.o ρ fun a ρ => q2.o ρ fun b ρ => Ψ (SliF a b) ρ } where
  e := fun h => h.elim
  t := fun h => h.elim
  o := fun h => h.elim
  it := fun h => h.elim
  i := fun {ρ Ψ} K m lm I O X s S => wpAny_Slice ((H1 K).seq S fun l h' tk I' O' Ov a ρ' hI S' ⟨e, hl⟩ hK => by
    subst e
    refine (H2 hK).seq (s := { s with heap := h', toks := tk }) S' fun u h'' tk' I'' O'' Ov b ρ'' hI' S'' ⟨e, hu⟩ hK => ?_
    subst e
    refine wpAny_evalPart_none ?_
    exact ⟨_, tk', _, O'', [], _, ρ'', rfl, fun p hp => .tail _ (hI' p (hI p hp)), (S''.pushX (o := slobj l u) rfl).toI (fun _ _ e => nomatch e), .sli (.head _) hl hu, hK⟩)

theorem base_subs {o : Expr} (h : isSubs o = true) {a env} {t : Sem Value} : attributeBase o a env t = t := by cases o <;> first | rfl | cases h
theorem SE.bitl {o : Expr} {p ap : Pos} {q : P} (hs : isSubs o = true) (hl : ap.endLine = p.line) (H : SE W c Γ o q) : SE W c Γ (.Call (.Attribute o (Str.ofString "bit_length") ap) [] [] p) (P.ofE fun ρ Φ => q.e ρ fun a ρ => onI a.d fun i => Φ (.val (.int (Builtin.Int.intBits i))) ρ) :=
  .ofE (fun {ρ Φ} K m lm I O X s S => Call_method0 (base_subs hs) (beq_iff_eq.mpr hl) (seqK H.e (fun d ρ => onI d fun i => Φ (.val (.int (Builtin.Int.intBits i))) ρ) K S fun v h' tk I' O' d ρ' hI S' hv hΦ => by
    obtain ⟨b, rfl, hΦ⟩ := onI_eq hΦ
    cases hv
    refine ⟨"int", "int.bit_length", F.plainAttrs_int, slot_int_bit_length, type_int_bit_length, typeIs_int _ _ _, (fun _ e => nomatch e), ?_⟩
    exact Calls.callWith_builtin rfl (PyProof.Rows.evalArgs_none (call_int_bit_length (Post.val hI S' .int hΦ))))) fun _ _ => rfl

/-! calls -/
theorem star_cons {e : Expr} {r : List Expr} (h : isStar e = false) (env : Env) : starEach (e :: r) env = (false, eval e env) :: starEach r env := by cases e <;> first | rfl | cases h
theorem star_plain {r : List Expr} (h : r.any isStar = false) (env : Env) (pos : Pos) : (backTo pos (starEach r env)).any (·.1) = false := by
  induction r with
  | nil => rfl
  | cons e r ih =>
    have h' := Bool.or_eq_false_iff.mp h
    rw [star_cons h'.1]
    exact ih h'.2

theorem bi_ok {id : String} {vs : List Value} {ds : List D} {Φ : Sl → Rho → Prop} (hc : CfgOk W c k) (S : StE W c m lm I Γ ρ O X s.heap) (hv : Rs W I vs ds) (H : biP id ds fun d => Φ (.val d) ρ) :
    wpAny (model W.prog W.w) c.A (call (.builtin id) vs) (Post W c Γ (SlR W) m lm I X s Φ) NoE s := by
  cases hv with
  | nil => exact H.elim
  | cons a hv =>
    cases hv with
    | nil =>
      cases a with
      | int => obtain ⟨rfl, H⟩ := H; exact PyProof.Rows.call_abs_int fun u tk => Post.val same S .int H
      | list hm hr =>
        rcases H with ⟨rfl, hf, H⟩ | ⟨rfl, a, b, rfl, H⟩
        · refine PyProof.Rows.len_list (S.listI hm) (by rw [List.size_toArray, hr.length]; omega) ?_
          rw [List.size_toArray, hr.length]
          exact Post.val same S .int H
        · refine PyProof.Rows.sorted_N (ns := [a, b]) S.F S.N (S.listI hm) (Rs.ints (ns := [a, b]) hr) (by rw [hr.length]; exact Nat.le_of_ble_eq_true rfl) fun h' vs' ns' e F' N' hI' hp hs => ?_
          have hns : ns' = if b < a then [b, a] else [a, b] := by
            have hl := hp.length_eq
            match ns', hl with
            | [x, y], _ =>
              have hxy : x ≤ y := by simpa using hs
              have hm1 : a = x ∨ a = y := by simpa using (hp.mem_iff.mpr (by simp) : a ∈ [x, y])
              have two : (a = x ∧ y = b) ∨ (a = y ∧ x = b) := by
                rcases hm1 with rfl | rfl
                · exact .inl ⟨rfl, by simpa using (List.perm_cons _).mp hp⟩
                · exact .inr ⟨rfl, by simpa using (List.perm_cons _).mp ((List.Perm.swap _ _ _).trans hp)⟩
              split
              · have : x = b ∧ y = a := by omega
                rw [this.1, this.2]
              · have : x = a ∧ y = b := by omega
                rw [this.1, this.2]
          have hr' : Rs W ((s.heap.objs.size + 1, lobj vs' e) :: I) vs' (ns'.map .int) := Rs.ofInts hI'
          have hlt : ∀ p ∈ I ++ (O ++ X), p.1 ≠ s.heap.objs.size + 1 := fun p hp => Nat.ne_of_lt (Nat.lt_succ_of_lt (Heap.lt_size (S.N p hp).1))
          have S2 : StE W c m lm ((s.heap.objs.size + 1, lobj vs' e) :: I) Γ ρ O X h' := by
            refine ⟨F', N', fun p hp q hq => ?_, S.nd, S.E.mono fun p hp => .tail _ hp, S.lr⟩
            rcases List.mem_cons.mp hp with rfl | hp
            · exact (hlt q (List.mem_append_right _ hq)).symm
            · exact S.ap p hp q hq
          have H' : Φ (.val (.list (ns'.map .int))) ρ := by
            rw [hns]
            by_cases hb : b < a
            · rw [if_pos hb] at H ⊢; exact H
            · rw [if_neg hb] at H ⊢; exact H
          exact Post.val (tk := s.toks) (fun p hp => .tail _ hp) S2 (.list (.head _) hr') H'
      | _ => exact H.elim
    | cons b hv =>
      cases hv with
      | nil =>
        obtain ⟨rfl, H⟩ := H
        obtain ⟨i, rfl, H1⟩ := onI_eq H
        obtain ⟨j, rfl, H2⟩ := onI_eq (show onI _ (fun b => Φ (.val (.int (if b < i then b else i))) ρ) from H1)
        cases a; cases b
        refine min_two_ints hc.hh fun h' tk hk => ?_
        have S' := S.keeps hk
        by_cases hb : j < i
        · rw [if_pos hb] at H2 ⊢; exact Post.val same S' .int H2
        · rw [if_neg hb] at H2 ⊢; exact Post.val same S' .int H2
      | cons _ _ => exact H.elim

end
open PySem PySem.W PyProof.Rows PySem.Calls PySem.Spec

theorem call_arm {f : Expr} (h : isAttr f = false) {args : List Expr} {p : Pos} {env : Env} : eval (.Call f args [] p) env = (do callWith p (← eval f env) [] (backTo p (starEach args env)) (backToKw p (keywordEach [] env))) := by
  cases f <;> first | rfl | cases h

section
variable {W : Wd} {c : Cfg} {k : Nat} {m lm : Str → Option Value} {I I' O X : Led} {Γ : Gam} {ρ : Rho} {h h' : Heap} {s : Shared} {x : Str} {j : Nat} {st : Sto}

theorem StE.add (S : StE W c m lm I Γ ρ O X h) (hk : ∀ b o, h.get? b = some o → h'.get? b = some o) (Z : Led) (hz : ∀ p ∈ Z, h'.get? p.1 = some p.2 ∧ h.objs.size ≤ p.1) (nd : (Z.map (·.1)).Nodup) : StE W c m lm I Γ ρ O (Z ++ X) h' := by
  have S' := S.keeps hk
  have hlt : ∀ p ∈ I ++ (O ++ X), p.1 < h.objs.size := fun p hp => Heap.lt_size (S.N p hp).1
  have hZ : ∀ p ∈ Z, h'.get? p.1 = some p.2 ∧ p.1 ≠ c.L ∧ c.h₀.get? p.1 = none := fun p hp => by
    obtain ⟨a, b⟩ := hz p hp
    refine ⟨a, fun e => absurd (e ▸ S.F.ns.lt) (Nat.not_lt.mpr b), ?_⟩
    cases e : c.h₀.get? p.1 with
    | none => rfl
    | some o => exact absurd (Heap.lt_size (S.F.keep _ _ e)) (Nat.not_lt.mpr b)
  have P : (O ++ (Z ++ X)).Perm (Z ++ (O ++ X)) := perm_in (O := []) (a := O) (b := Z) (X := X)
  refine ⟨S'.F, fun p hp => ?_, fun p hp q hq => ?_, ?_, S'.E, S.lr.imp id fun ⟨oC, hm, hN⟩ => ⟨oC, List.mem_append_right _ hm, hN⟩⟩
  · rcases List.mem_append.mp hp with hp | hp
    · exact S'.N p (List.mem_append_left _ hp)
    · rcases List.mem_append.mp (P.mem_iff.mp hp) with hp | hp
      · exact hZ p hp
      · exact S'.N p (List.mem_append_right _ hp)
  · rcases List.mem_append.mp (P.mem_iff.mp hq) with hq | hq
    · exact Nat.ne_of_lt (Nat.lt_of_lt_of_le (hlt p (List.mem_append_left _ hp)) (hz q hq).2)
    · exact S'.ap p hp q hq
  · refine ((P.map (·.1)).nodup_iff).mpr ?_
    rw [List.map_append]
    refine List.nodup_append.mpr ⟨nd, S.nd, fun a ha b hb => ?_⟩
    obtain ⟨p, hp, rfl⟩ := List.mem_map.mp ha
    obtain ⟨q, hq, rfl⟩ := List.mem_map.mp hb
    exact (Nat.ne_of_lt (Nat.lt_of_lt_of_le (hlt q (List.mem_append_right _ hq)) (hz p hp).2)).symm

theorem SlsR.vals : ∀ {vs ds}, Rs W I vs ds → SlsR W I vs (vals ds) []
  | _, [], h => by cases h; exact .nil
  | _, _ :: _, h => by cases h with | cons a b => exact .cons (.val a) (SlsR.vals b)
theorem SlsR.vals_inv : ∀ {vs ds Oz}, SlsR W I vs (Mine.vals ds) Oz → Oz = []
  | _, [], _, h => by cases h; rfl
  | _, _ :: _, _, h => by
    cases h with
    | cons a b =>
      cases a
      exact SlsR.vals_inv b

/-- a call of a def whose contract is known -/
theorem callOk_ok {g : Str} {args args' : List Sl} {r : D} {vs : List Value} {f : Addr} {Oa : Led} (hc : CfgOk W c k) (S : StE W c m lm I Γ ρ O (Oa ++ X) s.heap) (C : CallOk W k g args r args') (hv : SlsR W I vs args Oa) (hf : W.mg g = some (.ref f))
    {Q : Value → Shared → Prop} (hQ : ∀ v h' tk I' Oa', Sub I I' → StE W c m lm I' Γ ρ O (Oa' ++ X) h' → SlsR W I' vs args' Oa' → R W I' v r → Q v { s with heap := h', toks := tk }) :
    wpAny (model W.prog W.w) c.A (call (.ref f) vs) Q NoE s := by
  have P : ∀ {Z : Led}, (O ++ (Z ++ X)).Perm (Z ++ (O ++ X)) := fun {Z} => perm_in (O := []) (a := O) (b := Z) (X := X)
  refine wpAny_mono (C c m I Oa (O ++ X) s vs f hc S.F (fun p hp => S.N p ?_) (fun p hp q hq => S.ap p hp q (P.mem_iff.mpr hq)) ((P.map (·.1)).nodup_iff.mp S.nd) hv hf) (fun v s' H => ?_) fun _ _ x => x
  · exact (List.mem_append.mp hp).elim (List.mem_append_left _) fun q => List.mem_append_right _ (P.mem_iff.mpr q)
  · obtain ⟨h', tk, I', Oa', rfl, hI, F', N', ap', nd', hv', hr⟩ := H
    refine hQ v h' tk I' Oa' hI ⟨F', fun p hp => N' p ((List.mem_append.mp hp).elim (List.mem_append_left _) fun q => List.mem_append_right _ (P.mem_iff.mp q)), fun p hp q hq => ap' p hp q (P.mem_iff.mp hq), (P.map (·.1)).nodup_iff.mpr nd', S.E.mono hI, ?_⟩ hv' hr
    refine S.lr.imp id fun ⟨oC, hm, hN⟩ => ⟨oC, ?_, hN⟩
    rcases List.mem_append.mp hm with hm | hm
    · exfalso
      obtain ⟨es, ep, hd, _⟩ := hN
      have nodict : ∀ {vs args Oa}, SlsR W I vs args Oa → ∀ p ∈ Oa, ∀ es ep, p.2.data ≠ Data.dict es ep := fun h => by
        induction h with
        | nil => exact fun p hp => nomatch hp
        | cons a _ ih => exact fun p hp => (List.mem_append.mp hp).elim (a.notDict p) (ih p)
      exact nodict hv _ hm es ep hd
    · exact List.mem_append_right _ hm

theorem fn_inv {v : Value} {dd : D} (h : R W I v dd) : ∀ g, dd = .fn g → ∃ d f, d ∈ recsOf W.p ∧ W.mg g = some (.ref f) ∧ d.name = g ∧ v = .ref f := by
  cases h with
  | fn hd hm => intro g e; cases e; exact ⟨_, _, hd, hm, rfl, rfl⟩
  | _ => intro g e; cases e
theorem fn_obj (hc : CfgOk W c k) {g : Str} {v : Value} (hv : R W I v (.fn g)) : ∃ f o fd, v = .ref f ∧ W.mg g = some (.ref f) ∧ c.h₀.get? f = some o ∧ o.data = .func fd := by
  obtain ⟨d, f, hd, hm, rfl, rfl⟩ := fn_inv hv _ rfl
  obtain ⟨a, o, pm, code, doc, h1, h2, h3, h4⟩ := hc.T.fn _ hd
  have e : f = a := by have := hm.symm.trans h1; cases this; rfl
  subst e
  exact ⟨_, o, _, rfl, hm, h2, h3⟩

theorem callWith_ok {fv : D} {v : Value} {a : Expr} {r : List Expr} {p : Pos} {q : P} {Φ : Sl → Rho → Prop} (hc : CfgOk W c k) (hs : (a :: r).any isStar = false) (H2 : SEs W c Γ (a :: r) q) (S : StE W c m lm I Γ ρ O X s.heap) (hv : R W I v fv) (K : callD W k q Φ fv ρ) :
    wpAny (model W.prog W.w) c.A (callWith p v [] (backTo p (starEach (a :: r) c.env)) []) (Post W c Γ (SlR W) m lm I X s Φ) NoE s := by
  have h' := Bool.or_eq_false_iff.mp hs
  cases fv with
  | bi b =>
    cases hv
    cases v with
    | builtin id =>
      refine callWith_builtin1 ((H2.es p K).seq S fun vs h' tk I' O' Ov ds ρ' hI S' ⟨e, hvs⟩ hK => ?_) (star_cons h'.1 _) (star_plain h'.2 _ _)
      subst e
      exact wpAny_mono (bi_ok (s := { s with heap := h', toks := tk }) hc S' hvs hK) (fun _ _ x => Post.up hI x) fun _ _ x => x
    | type id =>
      refine PyProof.Rows.callWith_type1 ((H2.es p K).seq S fun vs h' tk I' O' Ov ds ρ' hI S' ⟨e, hvs⟩ hK => ?_) (star_cons h'.1 _) (star_plain h'.2 _ _)
      subst e
      cases hvs with
      | nil => exact hK.elim
      | cons ha hr =>
        cases hr with
        | cons _ _ => exact hK.elim
        | nil =>
          obtain ⟨rfl, hK⟩ := hK
          obtain ⟨i, rfl, hK⟩ := onI_eq hK
          cases ha
          exact call_int_int (Post.val hI S' .int hK)
    | _ => exact K.elim
  | fn g =>
    obtain ⟨f, o, fd, rfl, hm, ho, hd⟩ := fn_obj hc hv
    refine callWith_def hd ((H2.es p K).seq S fun vs h' tk I' O' Ov ds ρ' hI S' ⟨e, hvs⟩ hK => ?_) (star_cons h'.1 _)
    subst e
    obtain ⟨hne, r, C, hK⟩ := hK
    have ho' : h'.get? f = some o := S'.F.keep _ _ ho
    refine ⟨ho', callOk_ok (Oa := []) (s := { s with heap := h', toks := tk }) hc S' C (SlsR.vals hvs) hm fun v h'' tk' I'' Oa' hI' S'' hv' hr => ?_⟩
    have e := SlsR.vals_inv hv'
    subst e
    exact Post.val (fun p hp => hI' p (hI p hp)) S'' hr hK
  | _ => exact K.elim

theorem small_down {a b : Int} (ha : inBig a) (hb : inBig b) : Builtin.Range.small a b (-1) = true := by
  have ha' : -16777216 ≤ a ∧ a ≤ 16777216 := ha
  have hb' : -16777216 ≤ b ∧ b ≤ 16777216 := hb
  have hs : Builtin.Range.rangeSize a b (-1) = if a > b then a - b else 0 := by
    unfold Builtin.Range.rangeSize
    simp only [show ¬ ((-1 : Int) > 0) by decide, if_false, show (- -1 : Int) = 1 by decide, Int.ediv_one]
    split <;> omega
  unfold Builtin.Range.small
  rw [hs]
  simp only [Builtin.Range.rangeFitsLong, Bool.and_eq_true, Bool.or_eq_true, decide_eq_true_eq, beq_iff_eq, show ¬ ((-1 : Int) > 0) by decide, if_false]
  split <;> omega

theorem itD_ok {fv : D} {v : Value} {a : Expr} {r : List Expr} {p : Pos} {q : P} {Ψ : Nat × List D → Rho → Prop} (hc : CfgOk W c k) (hs : (a :: r).any isStar = false) (H2 : SEs W c Γ (a :: r) q) (S : StE W c m lm I Γ ρ O X s.heap) (hv : R W I v fv) (K : itD q Ψ fv ρ) :
    wpAny (model W.prog W.w) c.A (callWith p v [] (backTo p (starEach (a :: r) c.env)) []) (Post W c Γ (ItR W) m lm I X s Ψ) NoE s := by
  have h' := Bool.or_eq_false_iff.mp hs
  cases fv with
  | bi b =>
    cases hv
    cases v with
    | type id =>
      refine PyProof.Rows.callWith_type1 ((H2.es p K).seq S fun vs h' tk I' O' Ov ds ρ' hI S' ⟨e, hvs⟩ hK => ?_) (star_cons h'.1 _) (star_plain h'.2 _ _)
      subst e
      rcases hK with ⟨rfl, hK⟩ | ⟨rfl, es, rfl, hsz, hK⟩
      · cases hvs with
        | nil => exact hK.elim
        | cons h1 hvs =>
          cases hvs with
          | nil =>
            obtain ⟨b, rfl, hb, hK⟩ := onI_eq hK
            cases h1
            exact call_range_1 ⟨_, _, _, O', [], _, ρ', rfl, fun p hp => .tail _ (hI p hp), (S'.pushX (o := robj 0 b 1 _ _ _) rfl).toI (fun _ _ e => nomatch e), .range (.head _) (by unfold inBig big; decide) hb, hK⟩
          | cons h2 hvs =>
            cases hvs with
            | nil =>
              obtain ⟨a, rfl, hK⟩ := onI_eq hK
              obtain ⟨b, rfl, hb, hK⟩ := onI_eq hK
              cases h1; cases h2
              exact call_range_2 ⟨_, _, _, O', [], _, ρ', rfl, fun p hp => .tail _ (hI p hp), (S'.pushX (o := robj a b 1 _ _ _) rfl).toI (fun _ _ e => nomatch e), .range (.head _) ⟨hb.1, hb.2.1⟩ ⟨hb.2.2.1, hb.2.2.2⟩, hK⟩
            | cons h3 hvs =>
              cases hvs with
              | nil =>
                obtain ⟨a, rfl, hK1⟩ := onI_eq hK
                obtain ⟨b, rfl, hK2⟩ := onI_eq hK1
                obtain ⟨z, rfl, ⟨rfl, hb⟩, hK3⟩ := onI_eq hK2
                cases h1; cases h2; cases h3
                exact call_range_3 (by decide) ⟨_, _, _, O', [], _, ρ', rfl, fun p hp => .tail _ (hI p hp), (S'.pushX (o := robj a b (-1) _ _ _) rfl).toI (fun _ _ e => nomatch e), .down (.head _) ⟨hb.1, hb.2.1⟩ ⟨hb.2.2.1, hb.2.2.2⟩, hK3⟩ (.inl (PyProof.noPylong_small (by decide)))
              | cons _ _ => exact hK.elim
      · cases hvs with
        | cons h1 hvs =>
          cases hvs
          cases h1 with
          | list hm hr =>
            refine call_enumerate_list (S'.listI hm) fun h'' he hit hsz' hk => ?_
            obtain ⟨oi, hoi, hcl, hda⟩ := hit
            refine ⟨h'', tk, I', O', [(h'.objs.size + 1, _), (h'.objs.size, oi)], _, ρ', rfl, hI, S'.add hk [(h'.objs.size + 1, _), (h'.objs.size, oi)] (fun p hp => ?_) (by simp), .enum hm hr hsz rfl hcl hda, hK⟩
            rcases List.mem_cons.mp hp with rfl | hp
            · exact ⟨he, Nat.le_succ _⟩
            · rw [List.mem_singleton.mp hp]; exact ⟨hoi, Nat.le_refl _⟩
    | _ => exact K.elim
  | _ => exact K.elim

theorem SE.call (hc : CfgOk W c k) {f a : Expr} {r : List Expr} {p} {q1 q2 : P} (hf : isAttr f = false) (hs : (a :: r).any isStar = false) (H1 : SE W c Γ f q1) (H2 : SEs W c Γ (a :: r) q2) : SE W c Γ (.Call f (a :: r) [] p)
    { P.ofE fun ρ Φ => q1.e ρ fun fv ρ => callD W k q2 Φ fv.d ρ with it := fun ρ Ψ => q1.e ρ fun fv ρ => itD q2 Ψ fv.d ρ } :=
  have B : SE W c Γ (.Call f (a :: r) [] p) (P.ofE fun ρ Φ => q1.e ρ fun fv ρ => callD W k q2 Φ fv.d ρ) := .ofE (fun {ρ Φ} K m lm I O X s S => Call_ (seqK H1.e (fun d ρ => callD W k q2 Φ d ρ) K S fun v h' tk I' O' d ρ' hI S' hv hK =>
    wpAny_mono (callWith_ok (s := { s with heap := h', toks := tk }) hc hs H2 S' hv hK) (fun _ _ x => Post.up hI x) fun _ _ x => x) (call_arm hf)) fun _ _ => rfl
  ⟨B.e, B.t, B.i, B.o, fun {ρ Ψ} K m lm I O X s S => Call_ (seqK H1.e (fun d ρ => itD q2 Ψ d ρ) K S fun v h' tk I' O' d ρ' hI S' hv hK =>
    wpAny_mono (itD_ok (s := { s with heap := h', toks := tk }) hc hs H2 S' hv hK) (fun _ _ x => Post.up hI x) fun _ _ x => x) (call_arm hf)⟩

/-- the length of a list that nobody else holds -/
theorem SE.calll (hc : CfgOk W c k) {f : Expr} {p px} {q : P} (hf : isAttr f = false) (hx : fnd x Γ = some (j, st)) (hd : x ≠ Str.ofString "__debug__") (H : SE W c Γ f q) : SE W c Γ (.Call f [.Name x px] [] p)
    (P.ofE fun ρ Φ => q.e ρ fun fv ρ => fv.d = .bi (.builtin "len") ∧ match nth ρ j with | some v => onL v.d fun ds => ds.length < 2 ^ 62 ∧ Φ (.val (.int ds.length)) ρ | none => False) :=
  .ofE (fun {ρ Φ} K m lm I O X s S => Call_ (seqK H.e (fun d ρ => d = .bi (.builtin "len") ∧ match nth ρ j with | some v => onL v.d fun ds => ds.length < 2 ^ 62 ∧ Φ (.val (.int ds.length)) ρ | none => False) K S fun v h' tk I' O' d ρ' hI S' hv hK => by
    obtain ⟨rfl, hK⟩ := hK
    cases hv
    refine callWith_builtin1 (args_cons ?_ rfl) rfl rfl
    cases hg : nth ρ' j with
    | none => rw [hg] at hK; exact hK.elim
    | some sl =>
      rw [hg] at hK
      obtain ⟨v, O1, Ov, O2, sto, hsl, S1, back, load⟩ := name_ok (s := { s with heap := h', toks := tk }) hc S' hx hg
      refine wpAny_Name (load _ _ (args_nil ?_)) (beq_eq_false_iff_ne.mpr hd)
      cases sl with
      | val d =>
        cases hsl with
        | val hv =>
          obtain ⟨ds, rfl, hl, hK⟩ := onL_eq hK
          cases hv with
          | list hm hr =>
            refine PyProof.Rows.len_list (S'.listI hm) (by rw [List.size_toArray, hr.length]; omega) ?_
            rw [List.size_toArray, hr.length]
            exact Post.val hI S' .int hK
      | own ds =>
        cases hsl with
        | @own a us n _ hr =>
          obtain ⟨hl, hK⟩ := hK
          refine PyProof.Rows.len_list (items := us.toArray) ⟨_, (S1.N _ (List.mem_append_right _ (List.mem_append_right _ (.head _)))).1, rfl, n, rfl⟩ (by rw [List.size_toArray, hr.length]; omega) ?_
          rw [List.size_toArray, hr.length]
          exact Post.val hI S' .int hK) (call_arm hf)) fun _ _ => rfl

/-- a call that writes into its first argument -/
theorem SE.callo (hc : CfgOk W c k) {f : Expr} {r : List Expr} {p px} {q q2 : P} (hf : isAttr f = false) (hx : fnd x Γ = some (j, st)) (hst : st = .loc ∨ st = .fix) (hd : x ≠ Str.ofString "__debug__") (H : SE W c Γ f q) (H2 : SEs W c Γ r q2) : SE W c Γ (.Call f (.Name x px :: r) [] p)
    (P.ofE fun ρ Φ => q.e ρ fun fv ρ => onFn fv.d fun g => onOwn (nth ρ j) fun ds => q2.es (put j none ρ) fun vs ρ => ∃ r ds', CallOk W k g (.own ds :: vals vs) r (.own ds' :: vals vs) ∧ Φ (.val r) (put j (some (.own ds')) ρ)) :=
  .ofE (fun {ρ Φ} K m lm I O X s S => Call_ (seqK H.e (fun d ρ => onFn d fun g => onOwn (nth ρ j) fun ds => q2.es (put j none ρ) fun vs ρ => ∃ r ds', CallOk W k g (.own ds :: vals vs) r (.own ds' :: vals vs) ∧ Φ (.val r) (put j (some (.own ds')) ρ)) K S fun v h' tk I' O' d ρ' hI S' hv hK => by
    obtain ⟨g, rfl, hK⟩ := onFn_eq hK
    obtain ⟨ds, hg, hK⟩ := onOwn_eq hK
    obtain ⟨f, o, fd, rfl, hm, ho, hdat⟩ := fn_obj hc hv
    refine callWith_def hdat (args_cons ?_ rfl) rfl
    obtain ⟨v, O1, Ov, O2, sto, hsl, S1, back, load⟩ := name_ok (s := { s with heap := h', toks := tk }) hc S' hx hg
    refine wpAny_Name (load _ _ ?_) (beq_eq_false_iff_ne.mpr hd)
    refine (H2.es p hK).seq (s := { s with heap := h', toks := tk }) S1 fun vs h'' tk' I'' O'' Oz ds ρ'' hI' S'' ⟨e, hvs⟩ hK => ?_
    subst e
    obtain ⟨r, ds', C, hK⟩ := hK
    refine ⟨S''.F.keep _ _ ho, callOk_ok (Oa := Ov) (s := { s with heap := h'', toks := tk' }) hc S'' C (List.append_nil Ov ▸ SlsR.cons (hsl.mono hI') (SlsR.vals hvs)) hm fun v' h3 tk3 I3 Oa' hI3 S3 hv3 hr => ?_⟩
    cases hv3 with
    | cons hsl' hvs' =>
      have e := SlsR.vals_inv hvs'
      subst e
      rw [List.append_nil] at S3
      obtain ⟨O4, S4⟩ := put_loc S3 hx hst (sto.loc_inv hst) hsl'
      exact Post.val (fun p hp => hI3 p (hI' p (hI p hp))) S4 hr hK) (call_arm hf)) fun _ _ => rfl
theorem SE.callc (hc : CfgOk W c k) {f : Expr} {p px pi kk} {i : Int} {q : P} (hf : isAttr f = false) (hx : fnd x Γ = some (j, st)) (hd : x ≠ Str.ofString "__debug__") (H : SE W c Γ f q) : SE W c Γ (.Call f [.Name x px, .Constant (.int i) kk pi] [] p)
    (P.ofE fun ρ Φ => q.e ρ fun fv ρ => onFn fv.d fun g => onOwn (nth ρ j) fun ds => ∃ r ds', CallOk W k g [.own ds, .val (.int i)] r [.own ds', .val (.int i)] ∧ Φ (.val r) (put j (some (.own ds')) ρ)) :=
  .ofE (fun {ρ Φ} K m lm I O X s S => Call_ (seqK H.e (fun d ρ => onFn d fun g => onOwn (nth ρ j) fun ds => ∃ r ds', CallOk W k g [.own ds, .val (.int i)] r [.own ds', .val (.int i)] ∧ Φ (.val r) (put j (some (.own ds')) ρ)) K S fun v h' tk I' O' d ρ' hI S' hv hK => by
    obtain ⟨g, rfl, hK⟩ := onFn_eq hK
    obtain ⟨ds, hg, hK⟩ := onOwn_eq hK
    obtain ⟨f, o, fd, rfl, hm, ho, hdat⟩ := fn_obj hc hv
    refine callWith_def hdat (args_cons ?_ rfl) rfl
    obtain ⟨v, O1, Ov, O2, sto, hsl, S1, back, load⟩ := name_ok (s := { s with heap := h', toks := tk }) hc S' hx hg
    refine wpAny_Name (load _ _ ?_) (beq_eq_false_iff_ne.mpr hd)
    refine args_cons (wpAny_Constant_int (args_nil ?_)) rfl
    obtain ⟨r, ds', C, hK⟩ := hK
    refine ⟨S1.F.keep _ _ ho, callOk_ok (Oa := Ov) (s := { s with heap := h', toks := tk + 1 }) hc S1 C (List.append_nil Ov ▸ SlsR.cons hsl (SlsR.cons (.val .int) .nil)) hm fun v' h3 tk3 I3 Oa' hI3 S3 hv3 hr => ?_⟩
    cases hv3 with
    | cons hsl' hvs' =>
      cases hvs' with
      | cons z1 z2 =>
        cases z1; cases z2
        rw [List.append_nil, List.append_nil] at S3
        obtain ⟨O4, S4⟩ := back _ _ _ _ S3 hI3 hsl'
        exact Post.val (fun p hp => hI3 p (hI p hp)) S4 hr hK) (call_arm hf)) fun _ _ => rfl
end
open PySem PySem.W PyProof.Rows PySem.Calls PySem.Spec

noncomputable abbrev cc (c : Cfg) (scope : Scope) (cl : List (Str × Addr)) (C : Addr) : Cfg := { c with env := compEnvC scope cl C c.env }

theorem nodupK_lookup {k : NameKind} {y : Str} : ∀ {l : List (Str × NameKind)}, nodupK l = true → (y, k) ∈ l → l.lookup y = some k
  | [], _, h => nomatch h
  | (z, k') :: r, hn, h => by
    have h' := Bool.and_eq_true_iff.mp hn
    rcases List.mem_cons.mp h with e | h
    · cases e; simp [List.lookup_cons]
    · have hz : z ≠ y := fun e => by
        have := h'.1
        simp only [Bool.not_eq_true', List.any_eq_false, decide_eq_true_eq] at this
        exact this _ h e
      simp only [List.lookup_cons, beq_eq_false_iff_ne.mpr hz.symm]
      exact nodupK_lookup h'.2 h
theorem lookup_mem {k : NameKind} {y : Str} : ∀ {l : List (Str × NameKind)}, l.lookup y = some k → (y, k) ∈ l
  | [], h => nomatch h
  | (z, k') :: r, h => by
    cases e : y == z with
    | true => rw [List.lookup_cons, e] at h; cases h; rw [beq_iff_eq.mp e]; exact .head _
    | false => rw [List.lookup_cons, e] at h; exact .tail _ (lookup_mem h)

theorem lookup_relabel {env : Env} {k : NameKind} : ∀ {names : List (Str × NameKind)} {x : Str}, names.lookup x = some k →
    (names.map fun (n, k) => if (k == NameKind.free && env.scope.kind == .function && env.kindOf n == some .cell) then (n, NameKind.cell) else (n, k)).lookup x =
      some (if (k == NameKind.free && env.scope.kind == .function && env.kindOf x == some .cell) then .cell else k)
  | [], _, h => nomatch h
  | (n, k') :: r, x, h => by
    have ih := @lookup_relabel env k r x
    show List.lookup x ((if (k' == NameKind.free && env.scope.kind == .function && env.kindOf n == some .cell) = true then (n, NameKind.cell) else (n, k')) :: _) = _
    cases hx : x == n with
    | true =>
      simp only [List.lookup_cons, hx] at h
      cases h
      have e := beq_iff_eq.mp hx
      subst e
      by_cases hc : (k == NameKind.free && env.scope.kind == .function && env.kindOf x == some .cell) = true
      · rw [if_pos hc, if_pos hc]; simp only [List.lookup_cons, hx]
      · rw [if_neg hc, if_neg hc]; simp only [List.lookup_cons, hx]
    | false =>
      simp only [List.lookup_cons, hx] at h
      by_cases hc : (k' == NameKind.free && env.scope.kind == .function && env.kindOf n == some .cell) = true
      · rw [if_pos hc]; simp only [List.lookup_cons, hx]; exact ih h
      · rw [if_neg hc]; simp only [List.lookup_cons, hx]; exact ih h

/-- the cells a block closes over -/
theorem clos_ok {scope : Scope} {env : Env} (h : ∀ p ∈ scope.names, p.2 = .free → ∃ ca, env.cells.lookup p.1 = some ca) :
    ∃ cl, closureFor scope env = pure cl ∧ ∀ y ca, (y, NameKind.free) ∈ scope.names → env.cells.lookup y = some ca → cl.lookup y = some ca := by
  have gen : ∀ (l : List (Str × NameKind)) (acc : List (Str × Addr)), (∀ p ∈ l, p.2 = .free → ∃ ca, env.cells.lookup p.1 = some ca) → (∀ p ∈ acc, env.cells.lookup p.1 = some p.2) →
      ∃ cl, (forIn l acc fun (x : Str × NameKind) (cs : List (Str × Addr)) => (do if (x.2 == .free) = true then do let a ← cellOf env x.1; pure (ForInStep.yield ((x.1, a) :: cs)) else pure (ForInStep.yield cs) : Sem (ForInStep (List (Str × Addr))))) = pure cl ∧
        (∀ p ∈ cl, env.cells.lookup p.1 = some p.2) ∧ (∀ p ∈ acc, p ∈ cl) ∧ ∀ y, (y, NameKind.free) ∈ l → ∃ a, (y, a) ∈ cl := by
    intro l
    induction l with
    | nil => exact fun acc _ ha => ⟨acc, rfl, ha, fun p hp => hp, fun y hy => nomatch hy⟩
    | cons p l ih =>
      intro acc hl ha
      rw [List.forIn_cons]
      by_cases hp : p.2 = .free
      · obtain ⟨ca, hca⟩ := hl p (.head _) hp
        obtain ⟨cl, h1, h2, h3, h4⟩ := ih ((p.1, ca) :: acc) (fun q hq => hl q (.tail _ hq)) fun q hq => by
          rcases List.mem_cons.mp hq with rfl | hq
          · exact hca
          · exact ha q hq
        refine ⟨cl, ?_, h2, fun q hq => h3 q (.tail _ hq), fun y hy => ?_⟩
        · rw [if_pos (by rw [hp]; rfl), show cellOf env p.1 = pure ca by unfold cellOf; rw [hca]]
          exact h1
        · rcases List.mem_cons.mp hy with e | hy
          · subst e; exact ⟨ca, h3 _ (.head _)⟩
          · exact h4 y hy
      · obtain ⟨cl, h1, h2, h3, h4⟩ := ih acc (fun q hq => hl q (.tail _ hq)) ha
        refine ⟨cl, ?_, h2, h3, fun y hy => ?_⟩
        · rw [if_neg (fun e => hp (eq_of_beq e))]
          exact h1
        · rcases List.mem_cons.mp hy with e | hy
          · subst e; exact absurd rfl hp
          · exact h4 y hy
  obtain ⟨cl, h1, h2, _, h4⟩ := gen scope.names [] h (fun p hp => nomatch hp)
  refine ⟨cl, ?_, fun y ca hy hca => ?_⟩
  · unfold closureFor
    show (forIn scope.names ([] : List (Str × Addr)) _ >>= fun cs => pure cs) = _
    rw [bind_pure]
    exact h1
  · obtain ⟨a, ha⟩ := h4 y hy
    have : ∀ (l : List (Str × Addr)), (∀ p ∈ l, env.cells.lookup p.1 = some p.2) → (y, a) ∈ l → l.lookup y = some ca := by
      intro l
      induction l with
      | nil => exact fun _ h => nomatch h
      | cons p l ih =>
        intro hl hm
        cases e : y == p.1 with
        | true =>
          rw [List.lookup_cons, e]
          have e' := beq_iff_eq.mp e
          have := hl p (.head _)
          rw [← e', hca] at this
          exact this.symm
        | false =>
          rw [List.lookup_cons, e]
          refine ih (fun q hq => hl q (.tail _ hq)) ?_
          rcases List.mem_cons.mp hm with e2 | hm
          · subst e2; simp at e
          · exact hm
    exact this cl h2 ha

section
variable {W : Wd} {c : Cfg} {k : Nat} {m lm : Str → Option Value} {I I' O X : Led} {Γ : Gam} {ρ : Rho} {h h' : Heap} {s : Shared} {x : Str} {j : Nat} {st : Sto} {scope : Scope} {cl : List (Str × Addr)} {C : Addr}

theorem fnd_cel_env (E : EnvR W c m lm I Γ ρ O) {y : Str} {j : Nat} (h : fnd y Γ = some (j, .cel)) : c.env.kindOf y = some .cell ∧ ∃ ca, c.env.cells.lookup y = some ca := by
  obtain ⟨Oa, Ob, O1, O2, ov, _, sto, _, _⟩ := envAt E h
  cases sto with
  | cel a b _ => exact ⟨a, _, b⟩

theorem hide_ok (hk : c.env.scope.kind = .function) (hE : c.env = c.fenv) (hn : ∀ y, scope.names.lookup y = some .free → ∀ ca, c.env.cells.lookup y = some ca → cl.lookup y = some ca) (E : EnvR W c m m I Γ ρ O) :
    EnvR W (cc c scope cl C) m lm I (Γ.map (hide scope.names)) ρ O := by
  induction E with
  | nil => exact .nil
  | @cons y st osl Γ ρ ov O1 O2 O3 a b E ih =>
    refine .cons ?_ b ih
    cases a with
    | loc a => exact .hidl (c := cc c scope cl C) (hE ▸ a)
    | fix a => exact .hidl (c := cc c scope cl C) (hE ▸ a)
    | glo a b => exact .hidg (c := cc c scope cl C) (hE ▸ a) b
    | hidl a => exact .hidl (c := cc c scope cl C) a
    | hidc a b d => exact .hidc (c := cc c scope cl C) a b d
    | hidg a b => exact .hidg (c := cc c scope cl C) a b
    | cel a b d =>
      show StoR W (cc c scope cl C) m lm y (if scope.names.lookup y = some .free then .cel else .hidc) ov _
      by_cases hf : scope.names.lookup y = some .free
      · rw [if_pos hf]
        refine .cel (c := cc c scope cl C) ((lookup_relabel hf).trans ?_) (hn y hf _ b) d
        rw [hk, a]; rfl
      · rw [if_neg hf]
        exact .hidc (c := cc c scope cl C) (hE ▸ a) (hE ▸ b) d

theorem unhide_ok {m₂ : Str → Option Value} {I₂ : Led} (hE : c.env = c.fenv) (hn : ∀ y, scope.names.lookup y = some .free → ∀ ca, c.env.cells.lookup y = some ca → cl.lookup y = some ca) (E : EnvR W c m m I Γ ρ O) :
    ∀ {ρ₂ O₂}, EnvR W (cc c scope cl C) m m₂ I₂ (Γ.map (hide scope.names)) ρ₂ O₂ → EnvR W c m m I₂ Γ ρ₂ O₂ := by
  induction E with
  | nil => intro ρ₂ O₂ h; cases h; exact .nil
  | @cons y st osl Γ ρ ov O1 O2 O3 a b E ih =>
    intro ρ₂ O₂ h
    generalize hG : ((y, st) :: Γ).map (hide scope.names) = G at h
    cases h with
    | nil => cases hG
    | @cons y' st' osl' Γ' ρ' ov' O1' O2' O3' a' b' E' =>
      have hG' := List.cons.inj hG
      obtain ⟨e1, e2⟩ := hG'
      subst e2
      refine .cons ?_ b' (ih E')
      have ey : y = y' := congrArg Prod.fst e1
      have es : (hide scope.names (y, st)).2 = st' := congrArg Prod.snd e1
      subst ey
      cases a with
      | loc a0 =>
        have es : Sto.hidl = st' := es
        subst es
        cases a' with
        | hidl z => exact StoR.loc a0
      | fix a0 =>
        have es : Sto.hidl = st' := es
        subst es
        cases a' with
        | hidl z => exact StoR.fix a0
      | glo a0 b0 =>
        have es : Sto.hidg = st' := es
        subst es
        cases a' with
        | hidg z z' => exact .glo a0 z'
      | hidl a0 =>
        have es : Sto.hidl = st' := es
        subst es
        cases a' with
        | hidl z => exact StoR.hidl (lm := m) a0
      | hidc a0 b0 d0 =>
        have es : Sto.hidc = st' := es
        subst es
        cases a' with
        | hidc z1 z2 z3 => exact .hidc z1 z2 z3
      | hidg a0 b0 =>
        have es : Sto.hidg = st' := es
        subst es
        cases a' with
        | hidg z z' => exact .hidg a0 z'
      | cel a0 b0 d0 =>
        have es : (if scope.names.lookup y = some .free then Sto.cel else Sto.hidc) = st' := es
        by_cases hf : scope.names.lookup y = some .free
        · rw [if_pos hf] at es
          subst es
          cases a' with
          | cel z1 z2 z3 =>
            have := (hn y hf _ b0).symm.trans z2
            cases this
            exact .cel a0 b0 z3
        · rw [if_neg hf] at es
          subst es
          cases a' with
          | hidc z1 z2 z3 => exact .cel a0 (hE ▸ z2) z3

theorem StoR.notDict {ov st O1} (h : StoR W c m lm x st ov O1) : ∀ p ∈ O1, ∀ es ep, p.2.data ≠ Data.dict es ep := by
  cases h with
  | cel _ _ d => intro p hp es ep e; rw [List.mem_singleton.mp hp] at e; rw [d] at e; cases e
  | hidc _ _ d => intro p hp es ep e; rw [List.mem_singleton.mp hp] at e; rw [d] at e; cases e
  | _ => exact fun p hp => nomatch hp
theorem env_split {Γ₂ : Gam} : ∀ {Γ₁ : Gam} {ρ O}, EnvR W c m lm I (Γ₁ ++ Γ₂) ρ O → ∃ Oa Ob, O = Oa ++ Ob ∧ (∀ p ∈ Oa, ∀ es ep, p.2.data ≠ Data.dict es ep) ∧ EnvR W c m lm I Γ₂ (ρ.drop Γ₁.length) Ob
  | [], ρ, O, h => ⟨[], O, rfl, (fun p hp => nomatch hp), h⟩
  | (y, st) :: Γ₁, ρ, O, h => by
    generalize hG : ((y, st) :: Γ₁) ++ Γ₂ = G at h
    cases h with
    | nil => cases hG
    | @cons y' st' osl' Γ' ρ' ov' O1' O2' O3' a' b' E' =>
      obtain ⟨e1, e2⟩ := List.cons.inj hG
      subst e2
      obtain ⟨Oa, Ob, rfl, hd, E⟩ := env_split E'
      exact ⟨O1' ++ (O2' ++ Oa), Ob, by simp only [List.append_assoc], fun p hp => (List.mem_append.mp hp).elim (a'.notDict p) fun hp => (List.mem_append.mp hp).elim (b'.notDict p) (hd p), E⟩

/-- the world's globals, by value -/
noncomputable def GloOk (W : Wd) : Prop := ∀ y sl, gloD y = some sl → ∃ v d, sl = .val d ∧ GloV W y v ∧ ∀ I, R W I v d
theorem glo_ok (hW : GloOk W) : ∀ {l : List (Str × NameKind)}, (∀ y, (y, NameKind.globalImplicit) ∈ l → c.env.kindOf y = some .globalImplicit) → EnvR W c m lm I Γ ρ O →
    EnvR W c m lm I ((compGlo l).map (fun p => (p.1, Sto.glo)) ++ Γ) ((compGlo l).map (·.2) ++ ρ) O
  | [], _, E => E
  | (y, kd) :: r, hk, E => by
    have ih := glo_ok hW (l := r) (fun z hz => hk z (.tail _ hz)) E
    cases kd
    case globalImplicit =>
      have hky := hk y (.head _)
      show EnvR W c m lm I ((y, Sto.glo) :: _) (gloD y :: _) O
      cases hg : gloD y with
      | none => exact EnvR.cons (O1 := []) (O2 := []) (StoR.glo (ov := none) hky fun v e => nomatch e) .none ih
      | some sl =>
        obtain ⟨v, d, rfl, hv, hR⟩ := hW y sl hg
        exact EnvR.cons (O1 := []) (O2 := []) (StoR.glo (ov := some v) hky fun v' e => by cases e; exact hv) (.some (.val (hR I))) ih
    all_goals exact ih
end
open PySem PySem.W PyProof.Rows PySem.Calls PySem.Spec

structure Base (W : Wd) (c : Cfg) (m : Str → Option Value) (I : Led) (Γ : Gam) (ρ : Rho) (O X : Led) : Prop where
  ap : ∀ p ∈ I, ∀ q ∈ O ++ X, p.1 ≠ q.1
  nd : ((O ++ X).map (·.1)).Nodup
  E : EnvR W c m m I Γ ρ O

section
variable {W : Wd} {c : Cfg} {k : Nat} {m lm : Str → Option Value} {I I' O X : Led} {Γ : Gam} {ρ : Rho} {h h' : Heap} {s : Shared} {x : Str} {j : Nat} {st : Sto} {scope : Scope} {cl : List (Str × Addr)} {C It Da : Addr}

theorem cc_ok (hc : CfgOk W c k) (hk : scope.kind = .function) : CfgOk W (cc c scope cl C) k := { hc with hke := hk }

/-- one turn within a block: from the function's frame into the block's, and back -/
theorem turn_ok {α β : Type} {Rel : Led → α → β → Led → Prop} {t : Sem α} {Ψ : β → Rho → Prop} {d : D} {v : Value} {oI oC oD : Obj} {m₂ : Str → Option Value} {Q : α → Shared → Prop} (hc : CfgOk W c k) (hW : GloOk W) (hE : c.env = c.fenv) (hL : c.env.locals = c.L)
    (hkind : scope.kind = .function) (hnd : nodupK scope.names = true) (hx : scope.names.lookup x = some .local) (hn : ∀ y, scope.names.lookup y = some .free → ∀ ca, c.env.cells.lookup y = some ca → cl.lookup y = some ca)
    (hRel : ∀ {I v b O}, Rel I v b O → O = [])
    (H : Ok W (cc c scope cl C) (inG scope.names x Γ) Rel (inC ((compGlo scope.names).map (·.2)) d ρ) t fun b ρ => Ψ b (outC ((compGlo scope.names).map (·.2)) ρ))
    (B : Base W c m I Γ ρ O X) (hv : R W I v d) (F : Fr c.h₀ c.L s.heap m) (N : News c.h₀ c.L s.heap ((It, oI) :: (C, oC) :: (Da, oD) :: (I ++ (O ++ X)))) (off : LCg.Off3 It C Da (I ++ (O ++ X))) (ne : (@Ne Nat It C) ∧ (@Ne Nat It Da) ∧ (@Ne Nat C Da))
    (hoC : LCg.NsObj oC m₂) (hm₂ : m₂ x = some v)
    (hQ : ∀ y h' tk I' ρ' O' b, Sub I I' → Base W c m I' Γ ρ' O' X → Fr c.h₀ c.L h' m → News c.h₀ c.L h' ((It, oI) :: (C, oC) :: (Da, oD) :: (I' ++ (O' ++ X))) → LCg.Off3 It C Da (I' ++ (O' ++ X)) → Rel I' y b [] → Ψ b ρ' → Q y { s with heap := h', toks := tk }) :
    wpAny (model W.prog W.w) c.A t Q NoE s := by
  have off3 := off.mem
  have X' : Led := (It, oI) :: (C, oC) :: (Da, oD) :: X
  have hP : (O ++ (It, oI) :: (C, oC) :: (Da, oD) :: X).Perm ((It, oI) :: (C, oC) :: (Da, oD) :: (O ++ X)) := perm_in (O := []) (a := O) (b := [(It, oI), (C, oC), (Da, oD)]) (X := X)
  have E1 := hide_ok (lm := m₂) (C := C) (scope := scope) hc.hke hE hn B.E
  have E2 := glo_ok hW (fun y hy => by
    have := lookup_relabel (env := c.env) (nodupK_lookup hnd hy)
    exact this) E1
  have E3 : EnvR W (cc c scope cl C) m m₂ I (inG scope.names x Γ) (inC ((compGlo scope.names).map (·.2)) d ρ) O :=
    EnvR.cons (O1 := []) (O2 := []) (ov := some v) (hm₂ ▸ StoR.loc (c := cc c scope cl C) (lookup_relabel_local hx)) (.some (.val hv)) E2
  have S : StE W (cc c scope cl C) m m₂ I (inG scope.names x Γ) (inC ((compGlo scope.names).map (·.2)) d ρ) O ((It, oI) :: (C, oC) :: (Da, oD) :: X) s.heap := by
    refine ⟨F, fun p hp => ?_, fun p hp q hq => ?_, ?_, E3, .inr ⟨oC, .tail _ (.head _), hoC⟩⟩
    · refine N p ?_
      rcases List.mem_append.mp hp with hp | hp
      · exact .tail _ (.tail _ (.tail _ (List.mem_append_left _ hp)))
      · rcases List.mem_cons.mp (hP.mem_iff.mp hp) with rfl | hp
        · exact .head _
        · rcases List.mem_cons.mp hp with rfl | hp
          · exact .tail _ (.head _)
          · rcases List.mem_cons.mp hp with rfl | hp
            · exact .tail _ (.tail _ (.head _))
            · exact .tail _ (.tail _ (.tail _ (List.mem_append_right _ hp)))
    · have o := off3 p (List.mem_append_left _ hp)
      rcases List.mem_cons.mp (hP.mem_iff.mp hq) with rfl | hq
      · exact o.1
      · rcases List.mem_cons.mp hq with rfl | hq
        · exact o.2.1
        · rcases List.mem_cons.mp hq with rfl | hq
          · exact o.2.2
          · exact B.ap p hp q hq
    · refine ((hP.map (·.1)).nodup_iff).mpr ?_
      have nm : ∀ a, (∀ p ∈ O ++ X, p.1 ≠ a) → a ∉ (O ++ X).map (·.1) := fun a ha hm => by
        obtain ⟨q, hq, e⟩ := List.mem_map.mp hm
        exact ha q hq e
      refine List.nodup_cons.mpr ⟨fun hm => ?_, List.nodup_cons.mpr ⟨fun hm => ?_, List.nodup_cons.mpr ⟨fun hm => ?_, B.nd⟩⟩⟩
      · rcases List.mem_cons.mp hm with e | hm
        · exact ne.1 e
        · rcases List.mem_cons.mp hm with e | hm
          · exact ne.2.1 e
          · exact nm It (fun p hp => (off3 p (List.mem_append_right _ hp)).1) hm
      · rcases List.mem_cons.mp hm with e | hm
        · exact ne.2.2 e
        · exact nm C (fun p hp => (off3 p (List.mem_append_right _ hp)).2.1) hm
      · exact nm Da (fun p hp => (off3 p (List.mem_append_right _ hp)).2.2) hm
  refine Ok.seq (c := cc c scope cl C) H S fun y h' tk I' O' Ov b ρ' hI S' hr hΨ => ?_
  have e := hRel hr
  subst e
  -- back into the function's frame
  generalize hρ : ρ' = ρq at hΨ
  have S'E := S'.E
  generalize hG : inG scope.names x Γ = G at S'E
  have hspl := env_split (Γ₁ := (x, .loc) :: (compGlo scope.names).map (fun p => (p.1, Sto.glo))) (Γ₂ := Γ.map (hide scope.names)) (hG ▸ S'E)
  obtain ⟨Oa, Ob, rfl, hd, E4⟩ := hspl
  subst hρ
  have hlen : ((x, Sto.loc) :: (compGlo scope.names).map (fun p => (p.1, Sto.glo))).length = ((compGlo scope.names).map (·.2)).length + 1 := by simp
  rw [hlen] at E4
  have E5 : EnvR W c m m I' Γ (outC ((compGlo scope.names).map (·.2)) ρ') Ob := unhide_ok hE hn B.E E4
  have P2 : ((Oa ++ Ob) ++ (It, oI) :: (C, oC) :: (Da, oD) :: X).Perm ((It, oI) :: (C, oC) :: (Da, oD) :: ((Oa ++ Ob) ++ X)) := perm_in (O := []) (a := Oa ++ Ob) (b := [(It, oI), (C, oC), (Da, oD)]) (X := X)
  have sub : ∀ p ∈ Ob ++ X, p ∈ (Oa ++ Ob) ++ X := fun p hp => by
    rw [List.append_assoc]; exact List.mem_append_right _ hp
  have nd2 := ((P2.map (·.1)).nodup_iff).mp S'.nd
  have n1 := List.nodup_cons.mp nd2
  have n2 := List.nodup_cons.mp n1.2
  have n3 := List.nodup_cons.mp n2.2
  have nm : ∀ {a : Addr}, a ∉ ((Oa ++ Ob) ++ X).map (·.1) → ∀ p ∈ Ob ++ X, p.1 ≠ a := fun ha p hp e => ha (List.mem_map.mpr ⟨p, sub p hp, e⟩)
  refine hQ y h' tk I' _ Ob b hI ⟨fun p hp q hq => S'.ap p hp q (P2.mem_iff.mpr (.tail _ (.tail _ (.tail _ (sub q hq))))), ?_, E5⟩ S'.F (fun p hp => ?_) (LCg.Off3.of fun p hp => ?_) hr hΨ
  · have := n3.2
    rw [List.append_assoc, List.map_append] at this
    exact (List.nodup_append.mp this).2.1
  · refine S'.N p ?_
    rcases List.mem_cons.mp hp with rfl | hp
    · exact List.mem_append_right _ (P2.mem_iff.mpr (.head _))
    · rcases List.mem_cons.mp hp with rfl | hp
      · exact List.mem_append_right _ (P2.mem_iff.mpr (.tail _ (.head _)))
      · rcases List.mem_cons.mp hp with rfl | hp
        · exact List.mem_append_right _ (P2.mem_iff.mpr (.tail _ (.tail _ (.head _))))
        · rcases List.mem_append.mp hp with hp | hp
          · exact List.mem_append_left _ hp
          · exact List.mem_append_right _ (P2.mem_iff.mpr (.tail _ (.tail _ (.tail _ (sub p hp)))))
  · rcases List.mem_append.mp hp with hp | hp
    · exact ⟨S'.ap p hp (It, oI) (P2.mem_iff.mpr (.head _)), S'.ap p hp (C, oC) (P2.mem_iff.mpr (.tail _ (.head _))), S'.ap p hp (Da, oD) (P2.mem_iff.mpr (.tail _ (.tail _ (.head _))))⟩
    · exact ⟨nm (fun hm => n1.1 (.tail _ (.tail _ hm))) p hp, nm (fun hm => n2.1 (.tail _ hm)) p hp, nm n3.1 p hp⟩
end
open PySem PySem.W PyProof.Rows PySem.Calls PySem.Spec

theorem folded_ok {it : Expr} (h : notSet it = true) (env : Env) (x : Value) : foldedSetIterable it env x = pure x := by
  cases it <;> first | rfl | cases h

section
variable {W : Wd} {c : Cfg} {k : Nat} {m lm : Str → Option Value} {I I' O X : Led} {Γ : Gam} {ρ : Rho} {h h' : Heap} {s : Shared} {x : Str} {j : Nat} {st : Sto} {scope : Scope} {cl : List (Str × Addr)} {C It Da : Addr}

theorem compOk_inv (h : compOk Γ x scope = true) : scope.kind = .function ∧ nodupK scope.names = true ∧ scope.names.lookup x = some .local ∧ ∀ p ∈ scope.names, nameOk Γ p = true := by
  obtain ⟨a, h⟩ := Bool.and_eq_true_iff.mp h
  obtain ⟨b, h⟩ := Bool.and_eq_true_iff.mp h
  obtain ⟨d, h⟩ := Bool.and_eq_true_iff.mp h
  obtain ⟨e, h⟩ := Bool.and_eq_true_iff.mp h
  exact ⟨of_decide_eq_true a, b, of_decide_eq_true d, fun p hp => List.all_eq_true.mp e p hp⟩
theorem nameOk_cell {p : Str × NameKind} (h : nameOk Γ p = true) : p.2 ≠ .cell := fun e => by
  obtain ⟨a, b⟩ := p
  cases e
  cases h
theorem nameOk_free {y : Str} (h : nameOk Γ (y, .free) = true) : ∃ j, fnd y Γ = some (j, .cel) := by
  unfold nameOk at h
  dsimp only at h
  split at h
  · exact ⟨_, by assumption⟩
  · cases h

theorem outC_inC {gl : Rho} {d : D} : outC gl (inC gl d ρ) = ρ := by
  show List.drop gl.length (gl ++ ρ) = ρ
  exact List.drop_left ..

noncomputable abbrev glOf (scope : Scope) : Rho := (compGlo scope.names).map (·.2)

theorem rest_ok {elt : Expr} {q : P} {S : Led → Prop} {Pi : Nat → Value → Prop} {Fin : List Value → Led → Prop} {Φ : List D → Rho → Prop} {test : D → Rho → (Bool → Rho → Prop) → Prop} {all : List D} (hc : CfgOk W c k) (hW : GloOk W) (hE : c.env = c.fenv) (hL : c.env.locals = c.L)
    (hkind : scope.kind = .function) (hnd : nodupK scope.names = true) (hx : scope.names.lookup x = some .local) (hn : ∀ y, scope.names.lookup y = some .free → ∀ ca, c.env.cells.lookup y = some ca → cl.lookup y = some ca)
    (He : ∀ C, SE W (cc c scope cl C) (inG scope.names x Γ) elt q) (ht : ∀ {d ρ Ψ}, test d ρ Ψ → Ψ true ρ)
    (hP : ∀ {i v d I'}, Pi i v → all[i]? = some d → Sub I I' → R W I' v d) (hS : ∀ {I' O'}, Sub I I' → S (I' ++ (O' ++ X)))
    (hF : ∀ {ys acc I' ρ' O'}, Sub I I' → Base W c m I' Γ ρ' O' X → Rs W I' ys acc → Φ acc ρ' → Fin ys (I' ++ (O' ++ X))) :
    ∀ (ds : List D) (i : Nat) (ys : List Value) (acc : List D) (I' : Led) (ρ : Rho) (O' : Led), all.drop i = ds → Sub I I' → Base W c m I' Γ ρ O' X → Rs W I' ys acc →
      wpComp (fun d ρ Ψ => q.e (inC (glOf scope) d ρ) fun r ρ => Ψ r.d (outC (glOf scope) ρ)) test Φ ds acc ρ →
      LCg.CompRest W.prog W.w c.A c.h₀ c.L m c.env elt x scope cl s S Pi Fin ds.length i ys (I' ++ (O' ++ X)) := by
  intro ds
  induction ds with
  | nil => exact fun i ys acc I' ρ O' _ hI B hr K => LCg.CompRest.zero (hF hI B hr K)
  | cons d ds ih =>
    intro i ys acc I' ρ O' hall hI B hr K
    have hd : all[i]? = some d := by
      have := congrArg List.head? hall
      rw [List.head?_drop] at this
      exact this
    refine LCg.CompRest.succ fun v It oI C oC Da m₂ h tk E' hv hoC hm₂ F N off ne => ?_
    have K1 := (ht K).1 rfl
    refine wpAny_mono (Q := fun y s' => LCg.CompEnd c.h₀ c.L m { s with heap := h, toks := tk } It oI C oC Da (LCg.lst ys) S (fun y news' => LCg.CompRest W.prog W.w c.A c.h₀ c.L m c.env elt x scope cl s S Pi Fin ds.length (i + 1) (ys ++ [y]) news') y s') ?_ (fun _ _ x => x) (fun _ _ x => False.elim x)
    refine turn_ok (s := { s with heap := h, toks := tk }) (d := d) (Ψ := fun r ρ => wpComp (fun d ρ Ψ => q.e (inC (glOf scope) d ρ) fun r ρ => Ψ r.d (outC (glOf scope) ρ)) test Φ ds (acc ++ [r]) ρ) (Rel := RelD W) hc hW hE hL hkind hnd hx hn (fun h => h.1) (Ok.froz ((He C).e K1)) B (hP hv hd hI) F N off ne hoC hm₂ ?_
    intro y h' tk' I'' ρ' O'' b hI' B' F' N' off' hb hK
    exact ⟨h', tk', _, rfl, F', N', off', hS fun p hp => hI' p (hI p hp), ih (i + 1) (ys ++ [y]) (acc ++ [b]) I'' ρ' O'' (by rw [← List.drop_drop, hall]; rfl) (fun p hp => hI' p (hI p hp)) B' ((hr.mono hI').append (.cons hb.2 .nil)) hK⟩

theorem restT_ok {ct elt : Expr} {q qt : P} {S : Led → Prop} {Pi : Nat → Value → Prop} {Fin : List Value → Led → Prop} {Φ : List D → Rho → Prop} {all : List D} (hc : CfgOk W c k) (hW : GloOk W) (hE : c.env = c.fenv) (hL : c.env.locals = c.L)
    (hkind : scope.kind = .function) (hnd : nodupK scope.names = true) (hx : scope.names.lookup x = some .local) (hn : ∀ y, scope.names.lookup y = some .free → ∀ ca, c.env.cells.lookup y = some ca → cl.lookup y = some ca)
    (He : ∀ C, SE W (cc c scope cl C) (inG scope.names x Γ) elt q) (Ht : ∀ C, SE W (cc c scope cl C) (inG scope.names x Γ) ct qt)
    (hP : ∀ {i v d I'}, Pi i v → all[i]? = some d → Sub I I' → R W I' v d) (hS : ∀ {I' O'}, Sub I I' → S (I' ++ (O' ++ X)))
    (hF : ∀ {ys acc I' ρ' O'}, Sub I I' → Base W c m I' Γ ρ' O' X → Rs W I' ys acc → Φ acc ρ' → Fin ys (I' ++ (O' ++ X))) :
    ∀ (ds : List D) (i : Nat) (ys : List Value) (acc : List D) (I' : Led) (ρ : Rho) (O' : Led), all.drop i = ds → Sub I I' → Base W c m I' Γ ρ O' X → Rs W I' ys acc →
      wpComp (fun d ρ Ψ => q.e (inC (glOf scope) d ρ) fun r ρ => Ψ r.d (outC (glOf scope) ρ)) (fun d ρ Ψ => qt.t (inC (glOf scope) d ρ) fun b ρ => Ψ b (outC (glOf scope) ρ)) Φ ds acc ρ →
      LCt.CompRestT W.prog W.w c.A c.h₀ c.L m c.env ct elt x scope cl s S Pi Fin ds.length i ys (I' ++ (O' ++ X)) := by
  intro ds
  induction ds with
  | nil => exact fun i ys acc I' ρ O' _ hI B hr K => LCt.CompRestT.zero (hF hI B hr K)
  | cons d ds ih =>
    intro i ys acc I' ρ O' hall hI B hr K
    have hd : all[i]? = some d := by
      have := congrArg List.head? hall
      rw [List.head?_drop] at this
      exact this
    refine LCt.CompRestT.succ fun v It oI C oC Da m₂ h tk E' hv hoC hm₂ F N off ne => ?_
    have noE : ∀ {α : Type} {t : Sem α} {Q : α → Shared → Prop} {s : Shared}, wpAny (model W.prog W.w) c.A t Q NoE s → wpAny (model W.prog W.w) c.A t Q E' s := fun h => wpAny_mono h (fun _ _ x => x) fun _ _ x => x.elim
    refine noE (turn_ok (s := { s with heap := h, toks := tk }) (d := d) (Ψ := fun b ρ => (b = true → q.e (inC (glOf scope) d ρ) fun r ρ => wpComp (fun d ρ Ψ => q.e (inC (glOf scope) d ρ) fun r ρ => Ψ r.d (outC (glOf scope) ρ)) (fun d ρ Ψ => qt.t (inC (glOf scope) d ρ) fun b ρ => Ψ b (outC (glOf scope) ρ)) Φ ds (acc ++ [r.d]) (outC (glOf scope) ρ)) ∧ (b = false → wpComp (fun d ρ Ψ => q.e (inC (glOf scope) d ρ) fun r ρ => Ψ r.d (outC (glOf scope) ρ)) (fun d ρ Ψ => qt.t (inC (glOf scope) d ρ) fun b ρ => Ψ b (outC (glOf scope) ρ)) Φ ds acc ρ)) (Rel := RelB) hc hW hE hL hkind hnd hx hn (fun h => h.1) ((Ht C).t K) B (hP hv hd hI) F N off ne hoC hm₂ ?_)
    intro b h' tk' I'' ρ' O'' b' hI' B' F' N' off' hb hK
    have e := hb.2
    subst e
    cases b with
    | true =>
      show wpAny _ _ _ _ _ _
      refine noE (turn_ok (s := { s with heap := h', toks := tk' }) (d := d) (Ψ := fun r ρ => wpComp (fun d ρ Ψ => q.e (inC (glOf scope) d ρ) fun r ρ => Ψ r.d (outC (glOf scope) ρ)) (fun d ρ Ψ => qt.t (inC (glOf scope) d ρ) fun b ρ => Ψ b (outC (glOf scope) ρ)) Φ ds (acc ++ [r]) ρ) (Rel := RelD W) hc hW hE hL hkind hnd hx hn (fun h => h.1) (Ok.froz ((He C).e (hK.1 rfl))) B' (hP hv hd fun p hp => hI' p (hI p hp)) F' N' off' ne hoC hm₂ ?_)
      intro y h3 tk3 I3 ρ3 O3 b hI3 B3 F3 N3 off3 hb hK
      exact ⟨h3, tk3, _, rfl, F3, N3, off3, hS fun p hp => hI3 p (hI' p (hI p hp)), ih (i + 1) (ys ++ [y]) (acc ++ [b]) I3 ρ3 O3 (by rw [← List.drop_drop, hall]; rfl) (fun p hp => hI3 p (hI' p (hI p hp))) B3 (((hr.mono hI').mono hI3).append (.cons hb.2 .nil)) hK⟩
    | false =>
      exact ⟨h', tk', _, rfl, F', N', off', hS fun p hp => hI' p (hI p hp), ih (i + 1) ys acc I'' ρ' O'' (by rw [← List.drop_drop, hall]; rfl) (fun p hp => hI' p (hI p hp)) B' (hr.mono hI') (hK.2 rfl)⟩

theorem rangeL_get {a b : Int} {i : Nat} {d : D} (h : ((rangeL a b).map D.int)[i]? = some d) : d = .int (a + (i : Int)) := by
  rw [List.getElem?_map] at h
  obtain ⟨y, hy, rfl⟩ := Option.map_eq_some_iff.mp h
  unfold rangeL at hy
  rw [List.getElem?_map] at hy
  obtain ⟨z, hz, rfl⟩ := Option.map_eq_some_iff.mp hy
  obtain ⟨hl, rfl⟩ := List.getElem?_eq_some_iff.mp hz
  rw [List.getElem_range]
theorem rangeL_len {a b : Int} : ((rangeL a b).map D.int).length = (b - a).toNat := by unfold rangeL; simp
theorem range_size {a b : Int} : Builtin.Range.rangeSize a b 1 = ((((rangeL a b).map D.int).length : Nat) : Int) := by
  rw [rangeL_len, rangeSize_one]
  split <;> omega
theorem small_big {a b : Int} (ha : inBig a) (hb : inBig b) : Builtin.Range.small a b 1 = true := by
  have ha' : -16777216 ≤ a ∧ a ≤ 16777216 := ha
  have hb' : -16777216 ≤ b ∧ b ≤ 16777216 := hb
  exact small_one (by omega) (by omega) (by omega) (by omega)
theorem lst_eq (ys : List Value) : LCg.lst ys = lobj ys ys.length := rfl
theorem Base.ste (B : Base W c m I Γ ρ O X) (hL : c.env.locals = c.L) (F : Fr c.h₀ c.L h m) (N : News c.h₀ c.L h (I ++ (O ++ X))) : StE W c m m I Γ ρ O X h := ⟨F, N, B.ap, B.nd, B.E, .inl ⟨hL, rfl⟩⟩
theorem StE.base (S : StE W c m m I Γ ρ O X h) : Base W c m I Γ ρ O X := ⟨S.ap, S.nd, S.E⟩
/-- a fresh list behind a block -/
theorem Base.fin {D' : Addr} {ys : List Value} (B : Base W c m I Γ ρ O X) (hL : c.env.locals = c.L) (F : Fr c.h₀ c.L h m) (N : News c.h₀ c.L h ((D', LCg.lst ys) :: (I ++ (O ++ X)))) (off : LCg.Off1 D' (I ++ (O ++ X))) :
    StE W c m m I Γ ρ O ((D', lobj ys ys.length) :: X) h := by
  have off' : ∀ p ∈ I ++ (O ++ X), p.1 ≠ D' := by
    generalize I ++ (O ++ X) = l at off
    induction l with
    | nil => exact fun p hp => nomatch hp
    | cons q r ih => exact fun p hp => (List.mem_cons.mp hp).elim (fun e => e ▸ off.1) (ih off.2 p)
  have P : (O ++ (D', lobj ys ys.length) :: X).Perm ((D', lobj ys ys.length) :: (O ++ X)) := perm_mid
  refine ⟨F, fun p hp => N p ?_, fun p hp q hq => ?_, ((P.map (·.1)).nodup_iff).mpr (List.nodup_cons.mpr ⟨fun hm => ?_, B.nd⟩), B.E, .inl ⟨hL, rfl⟩⟩
  · rcases List.mem_append.mp hp with hp | hp
    · exact .tail _ (List.mem_append_left _ hp)
    · rcases List.mem_cons.mp (P.mem_iff.mp hp) with rfl | hp
      · exact .head _
      · exact .tail _ (List.mem_append_right _ hp)
  · rcases List.mem_cons.mp (P.mem_iff.mp hq) with rfl | hq
    · exact off' p (List.mem_append_left _ hp)
    · exact B.ap p hp q hq
  · obtain ⟨q, hq, e⟩ := List.mem_map.mp hm
    exact off' q (List.mem_append_right _ hq) e
end
open PySem PySem.W PyProof.Rows PySem.Calls PySem.Spec

section
variable {W : Wd} {c : Cfg} {k : Nat} {m lm : Str → Option Value} {I I' O X : Led} {Γ : Gam} {ρ : Rho} {h h' : Heap} {s : Shared} {x y : Str} {j : Nat} {st : Sto} {scope : Scope} {cl : List (Str × Addr)} {C It Da : Addr}

theorem StE.top (S : StE W c m lm I Γ ρ O X h) (hL : c.env.locals = c.L) : lm = m := by
  rcases S.lr with e | ⟨oC, hm, _⟩
  · exact e.2
  · exact absurd hL (S.N _ (List.mem_append_right _ (List.mem_append_right _ hm))).2.1

theorem clos_at (E : EnvR W c m lm I Γ ρ O) (hn : ∀ p ∈ scope.names, nameOk Γ p = true) :
    ∃ cl, closureFor scope c.env = pure cl ∧ ∀ y, scope.names.lookup y = some .free → ∀ ca, c.env.cells.lookup y = some ca → cl.lookup y = some ca := by
  obtain ⟨cl, h1, h2⟩ := clos_ok (env := c.env) (scope := scope) fun p hp hf => by
    obtain ⟨y, kd⟩ := p
    have hf : kd = .free := hf
    subst hf
    obtain ⟨j, hj⟩ := nameOk_free (hn _ hp)
    exact (fnd_cel_env E hj).2
  exact ⟨cl, h1, fun y hy ca hca => h2 y ca (lookup_mem hy) hca⟩

noncomputable abbrev eltP (scope : Scope) (q : P) : D → Rho → (D → Rho → Prop) → Prop := fun d ρ Ψ => q.e (inC (glOf scope) d ρ) fun r ρ => Ψ r.d (outC (glOf scope) ρ)
noncomputable abbrev tstP (scope : Scope) (q : P) : D → Rho → (Bool → Rho → Prop) → Prop := fun d ρ Ψ => q.t (inC (glOf scope) d ρ) fun b ρ => Ψ b (outC (glOf scope) ρ)
noncomputable abbrev compE (scope : Scope) (q qi qt : P) : Rho → (List D → Rho → Prop) → Prop := fun ρ Φ => qi.it ρ fun ds ρ => (ds.1 = 0 ∧ ds.2.length ≤ sizeLine) ∧ wpComp (eltP scope q) (tstP scope qt) Φ ds.2 [] ρ

/-- what a block goes over -/
theorem src_ok {elt : Expr} {q qt : P} {xv : Value} {ds : Nat × List D} {Ov : Led} {Fin : Shared → List Value → Led → Prop} {Φ : List D → Rho → Prop} (hc : CfgOk W c k) (hW : GloOk W) (hE : c.env = c.fenv) (hL : c.env.locals = c.L)
    (hok : compOk Γ x scope = true) (hn : ∀ y, scope.names.lookup y = some .free → ∀ ca, c.env.cells.lookup y = some ca → cl.lookup y = some ca)
    (He : ∀ cl C, SE W (cc c scope cl C) (inG scope.names x Γ) elt q) (ht : ∀ {d ρ Ψ}, tstP scope qt d ρ Ψ → Ψ true ρ)
    (S : StE W c m m I Γ ρ O (Ov ++ X) s.heap) (hit : ItR W I xv ds Ov) (K : (ds.1 = 0 ∧ ds.2.length ≤ sizeLine) ∧ wpComp (eltP scope q) (tstP scope qt) Φ ds.2 [] ρ)
    (hF : ∀ {g ys acc I' ρ' O'}, Sub I I' → Base W c m I' Γ ρ' O' X → Rs W I' ys acc → Φ acc ρ' → Fin { s with heap := g } ys (I' ++ (O' ++ X))) :
    LCg.CompSrc W.prog W.w c.A c.h₀ c.L m c.env elt x scope cl Fin xv s := by
  obtain ⟨hkind, hnd, hx, hnm⟩ := compOk_inv hok
  cases hit with
  | @list a us n ds hm hr =>
    have e : us.toArray.size = ds.length := by rw [List.size_toArray, hr.length]
    refine LCg.CompSrc.ledger hc.hh S.F S.N (List.mem_append_left _ hm) (e ▸ K.1.2) fun g => ?_
    rw [e]
    exact rest_ok (all := ds) hc hW hE hL hkind hnd hx hn (He cl) ht (fun {i v d I'} hv hd hI => by
      obtain ⟨v', hv', hR⟩ := hr.get hd
      have : some v = some v' := hv.symm.trans (by simpa using hv')
      cases this
      exact hR.mono hI) (fun {I' O'} hI => .inr ⟨_, List.mem_append_left _ (hI _ hm), rfl, _, rfl⟩) hF ds 0 [] [] I ρ O rfl same S.base .nil K.2
  | @range r a b t u v hm ha hb =>
    refine LCg.CompSrc.range hc.hh S.F S.N (S.N _ (List.mem_append_left _ hm)).1 (small_big ha hb) range_size K.1.2 fun g => ?_
    exact rest_ok (all := (rangeL a b).map .int) hc hW hE hL hkind hnd hx hn (He cl) ht (fun {i v d I'} hv hd hI => by
      obtain ⟨t, rfl⟩ := hv
      rw [rangeL_get hd]
      exact .int) (fun {I' O'} hI => trivial) hF _ 0 [] [] I ρ O rfl same S.base .nil K.2
  | down _ _ _ => cases K.1.1
  | enum _ _ _ _ _ _ => cases K.1.1
theorem srcT_ok {ct elt : Expr} {q qt : P} {xv : Value} {ds : Nat × List D} {Ov : Led} {Fin : Shared → List Value → Led → Prop} {Φ : List D → Rho → Prop} (hc : CfgOk W c k) (hW : GloOk W) (hE : c.env = c.fenv) (hL : c.env.locals = c.L)
    (hok : compOk Γ x scope = true) (hn : ∀ y, scope.names.lookup y = some .free → ∀ ca, c.env.cells.lookup y = some ca → cl.lookup y = some ca)
    (He : ∀ cl C, SE W (cc c scope cl C) (inG scope.names x Γ) elt q) (Ht : ∀ cl C, SE W (cc c scope cl C) (inG scope.names x Γ) ct qt)
    (S : StE W c m m I Γ ρ O (Ov ++ X) s.heap) (hit : ItR W I xv ds Ov) (K : (ds.1 = 0 ∧ ds.2.length ≤ sizeLine) ∧ wpComp (eltP scope q) (tstP scope qt) Φ ds.2 [] ρ)
    (hF : ∀ {g ys acc I' ρ' O'}, Sub I I' → Base W c m I' Γ ρ' O' X → Rs W I' ys acc → Φ acc ρ' → Fin { s with heap := g } ys (I' ++ (O' ++ X))) :
    LCt.CompSrcT W.prog W.w c.A c.h₀ c.L m c.env ct elt x scope cl Fin xv s := by
  obtain ⟨hkind, hnd, hx, hnm⟩ := compOk_inv hok
  cases hit with
  | @list a us n ds hm hr =>
    have e : us.toArray.size = ds.length := by rw [List.size_toArray, hr.length]
    refine LCt.CompSrcT.ledger hc.hh S.F S.N (List.mem_append_left _ hm) (e ▸ K.1.2) fun g => ?_
    rw [e]
    exact restT_ok (all := ds) hc hW hE hL hkind hnd hx hn (He cl) (Ht cl) (fun {i v d I'} hv hd hI => by
      obtain ⟨v', hv', hR⟩ := hr.get hd
      have : some v = some v' := hv.symm.trans (by simpa using hv')
      cases this
      exact hR.mono hI) (fun {I' O'} hI => .inr ⟨_, List.mem_append_left _ (hI _ hm), rfl, _, rfl⟩) hF ds 0 [] [] I ρ O rfl same S.base .nil K.2
  | @range r a b t u v hm ha hb =>
    refine LCt.CompSrcT.range hc.hh S.F S.N (S.N _ (List.mem_append_left _ hm)).1 (small_big ha hb) range_size K.1.2 fun g => ?_
    exact restT_ok (all := (rangeL a b).map .int) hc hW hE hL hkind hnd hx hn (He cl) (Ht cl) (fun {i v d I'} hv hd hI => by
      obtain ⟨t, rfl⟩ := hv
      rw [rangeL_get hd]
      exact .int) (fun {I' O'} hI => trivial) hF _ 0 [] [] I ρ O rfl same S.base .nil K.2
  | down _ _ _ => cases K.1.1
  | enum _ _ _ _ _ _ => cases K.1.1

theorem tst_true {d : D} {Ψ : Bool → Rho → Prop} (h : tstP scope (P.ofE fun ρ Φ => Φ (.val (.bool true)) ρ) d ρ Ψ) : Ψ true ρ := by
  have : Ψ true (outC (glOf scope) (inC (glOf scope) d ρ)) := h
  rwa [outC_inC] at this

theorem SE.comp0 {elt it : Expr} {px p : Pos} {q qi : P} (hc : CfgOk W c k) (hW : GloOk W) (hE : c.env = c.fenv) (hL : c.env.locals = c.L) (hok : compOk Γ x scope = true) (hset : notSet it = true)
    (He : ∀ cl C, SE W (cc c scope cl C) (inG scope.names x Γ) elt q) (Hi : SE W c Γ it qi) :
    SE W c Γ (.ListComp elt [⟨.Name x px, it, [], 0⟩] scope p) (P.ofE fun ρ Φ => compE scope q qi (P.ofE fun ρ Φ => Φ (.val (.bool true)) ρ) ρ fun acc ρ => Φ (.own acc) ρ) :=
  .ofE (fun {ρ Φ} K m lm I O X s S => by
    have e := S.top hL
    subst e
    obtain ⟨hkind, hnd, hx, hnm⟩ := compOk_inv hok
    obtain ⟨cl, hclos, hcl⟩ := clos_at S.E hnm
    refine LCg.ListComp_U (h₀ := c.h₀) (L := c.L) (m := lm) (cl := cl) S.F hclos (fun y hy => nameOk_cell (hnm y hy)) hkind (fun y hy e => nodupK_lookup hnd (by obtain ⟨a, b⟩ := y; exact e ▸ hy)) hx ?_ (folded_ok hset _)
    refine (Hi.it K).seq S fun xv h' tk I' O' Ov ds ρ' hI S' hit hK => ?_
    refine src_ok (s := { s with heap := h', toks := tk }) hc hW hE hL hok hcl He tst_true S' hit hK fun {g ys acc I'' ρ'' O''} hI' B hr hΦ => ?_
    exact fun D' h3 tk3 F3 N3 off3 => Post.new (fun p hp => hI' p (hI p hp)) (B.fin hL F3 N3 off3) hr hΦ) fun _ _ => rfl
theorem SE.compT {ct elt it : Expr} {px p : Pos} {q qi qt : P} (hc : CfgOk W c k) (hW : GloOk W) (hE : c.env = c.fenv) (hL : c.env.locals = c.L) (hok : compOk Γ x scope = true) (hset : notSet it = true)
    (He : ∀ cl C, SE W (cc c scope cl C) (inG scope.names x Γ) elt q) (Ht : ∀ cl C, SE W (cc c scope cl C) (inG scope.names x Γ) ct qt) (Hi : SE W c Γ it qi) :
    SE W c Γ (.ListComp elt [⟨.Name x px, it, [ct], 0⟩] scope p) (P.ofE fun ρ Φ => compE scope q qi qt ρ fun acc ρ => Φ (.own acc) ρ) :=
  .ofE (fun {ρ Φ} K m lm I O X s S => by
    have e := S.top hL
    subst e
    obtain ⟨hkind, hnd, hx, hnm⟩ := compOk_inv hok
    obtain ⟨cl, hclos, hcl⟩ := clos_at S.E hnm
    refine LCt.ListComp_T (h₀ := c.h₀) (L := c.L) (m := lm) (cl := cl) S.F hclos (fun y hy => nameOk_cell (hnm y hy)) hkind (fun y hy e => nodupK_lookup hnd (by obtain ⟨a, b⟩ := y; exact e ▸ hy)) hx ?_ (folded_ok hset _)
    refine (Hi.it K).seq S fun xv h' tk I' O' Ov ds ρ' hI S' hit hK => ?_
    refine srcT_ok (s := { s with heap := h', toks := tk }) hc hW hE hL hok hcl He Ht S' hit hK fun {g ys acc I'' ρ'' O''} hI' B hr hΦ => ?_
    exact fun D' h3 tk3 F3 N3 off3 => Post.new (fun p hp => hI' p (hI p hp)) (B.fin hL F3 N3 off3) hr hΦ) fun _ _ => rfl
end
open PySem PySem.W PyProof.Rows PySem.Calls PySem.Spec

inductive FlR (W : Wd) (I : Led) : Flow → Fl → Prop
  | next : FlR W I .next .next
  | brk : FlR W I .brk .brk
  | cont : FlR W I .cont .cont
  | ret {v d} : R W I v d → FlR W I (.ret v) (.ret d)
theorem FlR.mono {W : Wd} {I I' : Led} {f fl} (h : FlR W I f fl) (hs : Sub I I') : FlR W I' f fl := by
  cases h with
  | ret a => exact .ret (a.mono hs)
  | next => exact .next
  | brk => exact .brk
  | cont => exact .cont

/-- the names never bound anew hold what they held -/
noncomputable def Kp (Γ : Gam) (m m' : Str → Option Value) : Prop := ∀ y j, fnd y Γ = some (j, .fix) → m' y = m y
noncomputable def PostS (W : Wd) (c : Cfg) (Γ : Gam) (m : Str → Option Value) (I X : Led) (s : Shared) (Φ : Fl → Rho → Prop) (f : Flow) (s' : Shared) : Prop :=
  ∃ m' h' tk I' O' fl ρ', s' = { s with heap := h', toks := tk } ∧ (Sub I I' ∧ Kp Γ m m') ∧ StE W c m' m' I' Γ ρ' O' X h' ∧ FlR W I' f fl ∧ Φ fl ρ'
noncomputable def OkS (W : Wd) (c : Cfg) (Γ : Gam) (ρ : Rho) (t : Sem Flow) (Φ : Fl → Rho → Prop) : Prop :=
  ∀ m I O X s, StE W c m m I Γ ρ O X s.heap → wpAny (model W.prog W.w) c.A t (PostS W c Γ m I X s Φ) NoE s

/-- the frame of a def itself -/
structure Fun (c : Cfg) (Γ : Gam) : Prop where
  hE : c.env = c.fenv
  hL : c.env.locals = c.L
  nd : (Γ.map (·.1)).Nodup

section
variable {W : Wd} {c : Cfg} {k : Nat} {m lm : Str → Option Value} {I I₁ I' O X : Led} {Γ : Gam} {ρ : Rho} {h h' : Heap} {s : Shared} {x y : Str} {j : Nat} {st : Sto} {scope : Scope} {cl : List (Str × Addr)} {C It Da : Addr}

theorem Kp.rfl {Γ m} : Kp Γ m m := fun _ _ _ => Eq.refl _
theorem Kp.trans {Γ} {m m₁ m₂ : Str → Option Value} (a : Kp Γ m m₁) (b : Kp Γ m₁ m₂) : Kp Γ m m₂ := fun y j h => (b y j h).trans (a y j h)
theorem PostS.up {Φ : Fl → Rho → Prop} {v s'} {h₁ : Heap} {tk₁ : Nat} {m₁ : Str → Option Value} (hI : Sub I I₁ ∧ Kp Γ m m₁) (h : PostS W c Γ m₁ I₁ X { s with heap := h₁, toks := tk₁ } Φ v s') : PostS W c Γ m I X s Φ v s' :=
  let ⟨m', h', tk, I', O', b, ρ', e, hI', r⟩ := h
  ⟨m', h', tk, I', O', b, ρ', e, ⟨fun p hp => hI'.1 p (hI.1 p hp), hI.2.trans hI'.2⟩, r⟩

theorem noCls (hc : CfgOk W c k) : (c.env.scope.kind == .class || (c.env.scope.kind == .module && c.env.locals != c.env.globals)) = false := by rw [hc.hke]; rfl

theorem store_ok {v : Value} {sl : Sl} {Ov : Led} (hc : CfgOk W c k) (hf : Fun c Γ) (S : StE W c m m I Γ ρ O (Ov ++ X) s.heap) (hs : SlR W I v sl Ov) (ht : tgt Γ x = some j) {Q : Unit → Shared → Prop}
    (hQ : ∀ m' h' tk O', Kp Γ m m' → StE W c m' m' I Γ (put j (some sl) ρ) O' X h' → Q () { s with heap := h', toks := tk }) : wpAny (model W.prog W.w) c.A (storeName c.env x v) Q NoE s := by
  unfold tgt at ht
  split at ht
  · rename_i j' hfnd
    cases ht
    obtain ⟨Oa, Ob, Od, rfl, hd, E⟩ := bindL S.E hf.nd hs hfnd
    have hk : c.env.kindOf x = some .local := by
      obtain ⟨_, _, _, _, _, _, sto, _, _⟩ := envAt S.E hfnd
      cases sto with | loc a => exact a
    refine wpAny_storeName_local hk (hf.hL ▸ S.F.ns) (fun h' hn hsb => ?_) (noCls hc)
    have P := perm_exch Oa [] Od Ov Ob X
    refine hQ _ h' _ _ (fun y i hy => if_neg fun e => by subst e; rw [hfnd] at hy; cases hy) (StE.dropL (Od := Od) hd ⟨S.F.set (hf.hL ▸ hn) (hf.hL ▸ hsb), fun p hp => ?_, fun p hp q hq => S.ap p hp q (P.mem_iff.mpr hq), (P.map (·.1)).nodup_iff.mp S.nd, E, .inl ⟨hf.hL, rfl⟩⟩)
    exact (S.N.set (hf.hL ▸ hsb)) p ((List.mem_append.mp hp).elim (List.mem_append_left _) fun q => List.mem_append_right _ (P.mem_iff.mpr q))
  · rename_i j' hfnd
    cases ht
    obtain ⟨Oa, Ob, O1, Od, ov, rfl, sto, hod, put⟩ := envAt S.E hfnd
    cases sto with
    | @cel ca o _ hk hl hd =>
      have hmem : (ca, o) ∈ I ++ ((Oa ++ ([(ca, o)] ++ (Od ++ Ob))) ++ (Ov ++ X)) := List.mem_append_right _ (List.mem_append_left _ (List.mem_append_right _ (.head _)))
      refine wpAny_storeName_cell (hf.hE ▸ hc.hk) hk hl ⟨o, (S.N _ hmem).1, hd⟩ fun h' hcell hsb => ?_
      obtain ⟨o', ho', hd'⟩ := hcell
      have P : ((Oa ++ ([(ca, o)] ++ (Od ++ Ob))) ++ (Ov ++ X)).Perm ((ca, o) :: ((Oa ++ (Od ++ Ob)) ++ (Ov ++ X))) := by
        have := perm_in (O := []) (a := Oa) (b := [(ca, o)]) (X := (Od ++ Ob) ++ (Ov ++ X))
        simpa only [List.append_assoc, List.nil_append, List.singleton_append, List.cons_append] using this
      have P' : ((Oa ++ ([(ca, o')] ++ (Ov ++ Ob))) ++ (Od ++ X)).Perm ((ca, o') :: ((Oa ++ (Od ++ Ob)) ++ (Ov ++ X))) := by
        have h1 := perm_in (O := []) (a := Oa) (b := [(ca, o')]) (X := (Ov ++ Ob) ++ (Od ++ X))
        have h2 := (perm_exch Oa [] Ov Od Ob X).cons (ca, o')
        simp only [List.append_assoc, List.nil_append, List.singleton_append, List.cons_append] at h1 h2 ⊢
        exact h1.trans h2
      have S2 := S.upd (X' := Od ++ X) P P' hsb ho' (put I [(ca, o')] Ov (some v) (some sl) (fun _ h => h) (.cel hk hl hd') (.some hs)) fun p hp ⟨es, ep, hdd⟩ => (List.mem_append.mp hp).elim (fun q => absurd hdd (hs.notDict p q es ep)) (List.mem_append_right _)
      exact hQ _ h' s.toks _ Kp.rfl (StE.dropL hod.notDict S2)
  · cases ht

noncomputable def StoreOf (W : Wd) (c : Cfg) (f : Value → Sem Unit) (x : Str) : Prop := ∀ v (Q : Unit → Shared → Prop) s, wpAny (model W.prog W.w) c.A (storeName c.env x v) Q NoE s → wpAny (model W.prog W.w) c.A (f v) Q NoE s
theorem stores_ok (hc : CfgOk W c k) (hf : Fun c Γ) : ∀ {fs : List (Value → Sem Unit)} {xs : List Str} {js : List Nat} {vs : List Value} {sls : List Sl} {Ov : Led} {m ρ ρ' O s} {Q : Unit → Shared → Prop},
    fs.length = xs.length → (∀ p ∈ fs.zip xs, StoreOf W c p.1 p.2) → xs.mapM (tgt Γ) = some js → StE W c m m I Γ ρ O (Ov ++ X) s.heap → SlsR W I vs sls Ov → puts js sls ρ = some ρ' →
    (∀ m' h' tk O', Kp Γ m m' → StE W c m' m' I Γ ρ' O' X h' → Q () { s with heap := h', toks := tk }) → wpAny (model W.prog W.w) c.A (assignInOrder fs vs) Q NoE s := by
  intro fs
  induction fs with
  | nil =>
    intro xs js vs sls Ov m ρ ρ' O s Q hl hs hx S hv hp hQ
    cases xs with
    | cons _ _ => cases hl
    | nil =>
      cases hx
      cases hv with
      | nil => cases hp; exact wpAny_pure (hQ m s.heap s.toks O Kp.rfl S)
      | cons _ _ => cases hp
  | cons f fs ih =>
    intro xs js vs sls Ov m ρ ρ' O s Q hl hs hx S hv hp hQ
    cases xs with
    | nil => cases hl
    | cons x xs =>
      rw [List.mapM_cons] at hx
      cases htx : tgt Γ x with
      | none => rw [htx] at hx; cases hx
      | some j =>
        rw [htx] at hx
        cases htr : xs.mapM (tgt Γ) with
        | none => rw [htr] at hx; cases hx
        | some js' =>
          rw [htr] at hx
          cases hx
          cases hv with
          | nil => cases hp
          | @cons v sl vs sls O1 O2 ha hr =>
            show wpAny _ _ (do holding vs (f v); assignInOrder fs vs) _ _ _
            refine wpAny_bind (wpAny_holding (hs (f, x) (.head _) v _ s ?_))
            rw [List.append_assoc] at S
            refine store_ok (X := O2 ++ X) hc hf S ha htx fun m' h' tk O' hK S' => ?_
            exact ih (s := { s with heap := h', toks := tk }) (Nat.succ.inj hl) (fun p hp => hs p (.tail _ hp)) htr S' hr hp fun m2 h2 tk2 O2 hK2 S2 => hQ m2 h2 tk2 O2 (hK.trans hK2) S2

theorem storeBind (x : Str) : StoreOf W c (fun v => bindName c.env x v) x := fun v Q s h => wpAny_bindName h
theorem storeAssign (x : Str) (p : Pos) : StoreOf W c (assign (.Name x p) c.env) x := fun v Q s h => wpAny_assign_Name h
end
open PySem PySem.W PyProof.Rows PySem.Calls PySem.Spec

structure SSt (W : Wd) (c : Cfg) (Γ : Gam) (x : Stmt) (p : P) : Prop where
  s : ∀ {ρ Φ}, p.s ρ Φ → OkS W c Γ ρ (exec x c.env) Φ
structure SSs (W : Wd) (c : Cfg) (Γ : Gam) (xs : List Stmt) (p : P) : Prop where
  s : ∀ {ρ Φ}, p.s ρ Φ → OkS W c Γ ρ (execs xs c.env) Φ
theorem SSt.bad {W c Γ x} : SSt W c Γ x P.none := ⟨fun h => h.elim⟩
theorem SSs.bad {W c Γ x} : SSs W c Γ x P.none := ⟨fun h => h.elim⟩

section
variable {W : Wd} {c : Cfg} {k : Nat} {m lm : Str → Option Value} {I I₁ I' O X : Led} {Γ : Gam} {ρ : Rho} {h h' : Heap} {s : Shared} {x y : Str} {j : Nat} {st : Sto} {scope : Scope} {cl : List (Str × Addr)} {C It Da : Addr}

theorem SSs.nil {z : P} (hz : z.s = fun ρ Φ => Φ .next ρ) : SSs W c Γ [] z := ⟨fun {ρ Φ} K m I O X s S => by
  rw [hz] at K
  exact wpAny_execs_nil ⟨m, s.heap, s.toks, I, O, .next, ρ, rfl, ⟨same, Kp.rfl⟩, S, .next, K⟩⟩
noncomputable def seqS (q : Rho → (Fl → Rho → Prop) → Prop) (Φ : Fl → Rho → Prop) : Fl → Rho → Prop := fun f ρ => match f with
  | .next => q ρ Φ
  | .brk => Φ .brk ρ
  | .cont => Φ .cont ρ
  | .ret d => Φ (.ret d) ρ
theorem SSs.cons {a : Stmt} {r : List Stmt} {q1 q2 z : P} (H1 : SSt W c Γ a q1) (H2 : SSs W c Γ r q2) (hz : z.s = fun ρ Φ => q1.s ρ (seqS q2.s Φ)) : SSs W c Γ (a :: r) z := ⟨fun {ρ Φ} K m I O X s S => by
  rw [hz] at K
  refine wpAny_execs_cons (wpAny_mono (H1.s K m I O X s S) (fun f s' hp => ?_) fun _ _ x => x)
  obtain ⟨m', h', tk, I', O', fl, ρ', rfl, hI, S', hf, hΦ⟩ := hp
  cases hf with
  | next => exact wpAny_mono (H2.s hΦ m' I' O' X { s with heap := h', toks := tk } S') (fun _ _ x => PostS.up hI x) fun _ _ x => x
  | brk => exact ⟨m', h', tk, I', O', _, ρ', rfl, hI, S', .brk, hΦ⟩
  | cont => exact ⟨m', h', tk, I', O', _, ρ', rfl, hI, S', .cont, hΦ⟩
  | ret hr => exact ⟨m', h', tk, I', O', _, ρ', rfl, hI, S', .ret hr, hΦ⟩⟩

theorem SSt.ret {e : Expr} {p} {q : P} (H : SE W c Γ e q) : SSt W c Γ (.Return (some e) p) (P.ofS fun ρ Φ => q.e ρ fun v ρ => Φ (.ret v.d) ρ) := ⟨fun {ρ Φ} K m I O X s S =>
  wpAny_Return_some (seqK H.e (fun d ρ => Φ (.ret d) ρ) K S fun v h' tk I' O' d ρ' hI S' hv hK => ⟨m, h', tk, I', O', _, ρ', rfl, ⟨hI, Kp.rfl⟩, S', .ret hv, hK⟩)⟩
theorem SSt.brk {p} : SSt W c Γ (.Break p) (P.ofS fun ρ Φ => Φ .brk ρ) := ⟨fun {ρ Φ} K m I O X s S => wpAny_Break ⟨m, s.heap, s.toks, I, O, _, ρ, rfl, ⟨same, Kp.rfl⟩, S, .brk, K⟩⟩
theorem SSt.iff {t : Expr} {b o : List Stmt} {p} {q q1 q2 : P} (H : SE W c Γ t q) (H1 : SSs W c Γ b q1) (H2 : SSs W c Γ o q2) : SSt W c Γ (.If t b o p) (P.ofS fun ρ Φ => q.t ρ fun c ρ => (c = true → q1.s ρ Φ) ∧ (c = false → q2.s ρ Φ)) := ⟨fun {ρ Φ} K m I O X s S =>
  wpAny_If ((H.t K).seq S fun v h' tk I' O' Ov b ρ' hI S' hb hK => by
    obtain ⟨rfl, rfl⟩ := hb
    cases v with
    | true => exact wpAny_mono (H1.s (hK.1 rfl) m I' O' X { s with heap := h', toks := tk } S') (fun _ _ x => PostS.up ⟨hI, Kp.rfl⟩ x) fun _ _ x => x
    | false => exact wpAny_mono (H2.s (hK.2 rfl) m I' O' X { s with heap := h', toks := tk } S') (fun _ _ x => PostS.up ⟨hI, Kp.rfl⟩ x) fun _ _ x => x)⟩

theorem SSt.asg {v : Expr} {px p} {q : P} (hc : CfgOk W c k) (hf : Fun c Γ) (ht : tgt Γ x = some j) (hsw : swapsWith v (some (.Name x px)) p.line c.env = pure false) (H : SE W c Γ v q) :
    SSt W c Γ (.Assign [.Name x px] v p) (P.ofS fun ρ Φ => q.e ρ fun sl ρ => Φ .next (put j (some sl) ρ)) := ⟨fun {ρ Φ} K m I O X s S =>
  wpAny_Assign_Name ((H.e K).seq S fun v h' tk I' O' Ov sl ρ' hI S' hs hK =>
    store_ok (s := { s with heap := h', toks := tk }) hc hf S' hs ht fun m' h'' tk' O'' hk S'' => ⟨m', h'', tk', I', O'', _, _, rfl, ⟨hI, hk⟩, S'', .next, hK⟩) hsw⟩

theorem fin_led {D' : Addr} {ys : List Value} (B : Base W c m I Γ ρ O X) (N : News c.h₀ c.L h ((D', LCg.lst ys) :: (I ++ (O ++ X)))) (off : LCg.Off1 D' (I ++ (O ++ X))) :
    News c.h₀ c.L h (I ++ (O ++ (D', lobj ys ys.length) :: X)) ∧ (∀ p ∈ I, ∀ q ∈ O ++ (D', lobj ys ys.length) :: X, p.1 ≠ q.1) ∧ ((O ++ (D', lobj ys ys.length) :: X).map (·.1)).Nodup := by
  have off' : ∀ p ∈ I ++ (O ++ X), p.1 ≠ D' := by
    generalize I ++ (O ++ X) = l at off
    induction l with
    | nil => exact fun p hp => nomatch hp
    | cons q r ih => exact fun p hp => (List.mem_cons.mp hp).elim (fun e => e ▸ off.1) (ih off.2 p)
  have P : (O ++ (D', lobj ys ys.length) :: X).Perm ((D', lobj ys ys.length) :: (O ++ X)) := perm_mid
  refine ⟨fun p hp => N p ?_, fun p hp q hq => ?_, ((P.map (·.1)).nodup_iff).mpr (List.nodup_cons.mpr ⟨fun hm => ?_, B.nd⟩)⟩
  · rcases List.mem_append.mp hp with hp | hp
    · exact .tail _ (List.mem_append_left _ hp)
    · rcases List.mem_cons.mp (P.mem_iff.mp hp) with rfl | hp
      · exact .head _
      · exact .tail _ (List.mem_append_right _ hp)
  · rcases List.mem_cons.mp (P.mem_iff.mp hq) with rfl | hq
    · exact off' p (List.mem_append_left _ hp)
    · exact B.ap p hp q hq
  · obtain ⟨q, hq, e⟩ := List.mem_map.mp hm
    exact off' q (List.mem_append_right _ hq) e

/-- a block's list, put at once under a local name -/
theorem finA_ok {D' : Addr} {ys : List Value} {acc : List D} (hf : Fun c Γ) (hx : fnd y Γ = some (j, .loc)) (B : Base W c m I Γ ρ O X) (hr : Rs W I ys acc) (F : Fr c.h₀ c.L h (fun z => if z = y then some (.ref D') else m z))
    (N : News c.h₀ c.L h ((D', LCg.lst ys) :: (I ++ (O ++ X)))) (off : LCg.Off1 D' (I ++ (O ++ X))) :
    ∃ O', StE W c (fun z => if z = y then some (.ref D') else m z) (fun z => if z = y then some (.ref D') else m z) I Γ (put j (some (.own acc)) ρ) O' X h := by
  obtain ⟨N', ap', nd'⟩ := fin_led B N off
  obtain ⟨Oa, Ob, Od, rfl, hd, E⟩ := bindL (v := .ref D') B.E hf.nd (.own (n := ys.length) hr) hx
  have P := perm_exch Oa [] Od [(D', lobj ys ys.length)] Ob X
  refine ⟨_, StE.dropL (Od := Od) hd ⟨F, fun p hp => ?_, fun p hp q hq => ap' p hp q (P.mem_iff.mpr hq), (P.map (·.1)).nodup_iff.mp nd', E, .inl ⟨hf.hL, rfl⟩⟩⟩
  exact N' p ((List.mem_append.mp hp).elim (List.mem_append_left _) fun q => List.mem_append_right _ (P.mem_iff.mpr q))

theorem SSt.asg0 {elt it : Expr} {px py p sp : Pos} {q qi : P} (hc : CfgOk W c k) (hW : GloOk W) (hf : Fun c Γ) (hok : compOk Γ x scope = true) (hset : notSet it = true) (hy : fnd y Γ = some (j, .loc))
    (hsw : swapsWith (.ListComp elt [⟨.Name x px, it, [], 0⟩] scope p) (some (.Name y py)) sp.line c.env = pure true)
    (He : ∀ cl C, SE W (cc c scope cl C) (inG scope.names x Γ) elt q) (Hi : SE W c Γ it qi) :
    SSt W c Γ (.Assign [.Name y py] (.ListComp elt [⟨.Name x px, it, [], 0⟩] scope p) sp) (P.ofS fun ρ Φ => compE scope q qi (P.ofE fun ρ Φ => Φ (.val (.bool true)) ρ) ρ fun acc ρ => Φ .next (put j (some (.own acc)) ρ)) := ⟨fun {ρ Φ} K m I O X s S => by
  obtain ⟨hkind, hnd, hx, hnm⟩ := compOk_inv hok
  obtain ⟨cl, hclos, hcl⟩ := clos_at S.E hnm
  have hky : c.env.kindOf y = some .local := by
    obtain ⟨_, _, _, _, _, _, sto, _, _⟩ := envAt S.E hy
    cases sto with | loc a => exact a
  refine LCg.Assign_ListComp_U (h₀ := c.h₀) (L := c.L) (m := m) (cl := cl) S.F hf.hL hsw hclos (fun y hy => nameOk_cell (hnm y hy)) hkind (fun y hy e => nodupK_lookup hnd (by obtain ⟨a, b⟩ := y; exact e ▸ hy)) hx hky (noCls hc) ?_ (folded_ok hset _)
  refine (Hi.it K).seq S fun xv h' tk I' O' Ov ds ρ' hI S' hit hK => ?_
  refine src_ok (s := { s with heap := h', toks := tk }) hc hW hf.hE hf.hL hok hcl He tst_true S' hit hK fun {g ys acc I'' ρ'' O''} hI' B hr hΦ => ?_
  intro D' h3 tk3 F3 N3 off3
  obtain ⟨O4, S4⟩ := finA_ok hf hy B hr F3 N3 off3
  exact ⟨_, h3, tk3, I'', O4, _, _, rfl, ⟨fun p hp => hI' p (hI p hp), fun z i hz => if_neg fun e => by subst e; rw [hy] at hz; cases hz⟩, S4, .next, hΦ⟩⟩
theorem SSt.asgT {ct elt it : Expr} {px py p sp : Pos} {q qi qt : P} (hc : CfgOk W c k) (hW : GloOk W) (hf : Fun c Γ) (hok : compOk Γ x scope = true) (hset : notSet it = true) (hy : fnd y Γ = some (j, .loc))
    (hsw : swapsWith (.ListComp elt [⟨.Name x px, it, [ct], 0⟩] scope p) (some (.Name y py)) sp.line c.env = pure true)
    (He : ∀ cl C, SE W (cc c scope cl C) (inG scope.names x Γ) elt q) (Ht : ∀ cl C, SE W (cc c scope cl C) (inG scope.names x Γ) ct qt) (Hi : SE W c Γ it qi) :
    SSt W c Γ (.Assign [.Name y py] (.ListComp elt [⟨.Name x px, it, [ct], 0⟩] scope p) sp) (P.ofS fun ρ Φ => compE scope q qi qt ρ fun acc ρ => Φ .next (put j (some (.own acc)) ρ)) := ⟨fun {ρ Φ} K m I O X s S => by
  obtain ⟨hkind, hnd, hx, hnm⟩ := compOk_inv hok
  obtain ⟨cl, hclos, hcl⟩ := clos_at S.E hnm
  have hky : c.env.kindOf y = some .local := by
    obtain ⟨_, _, _, _, _, _, sto, _, _⟩ := envAt S.E hy
    cases sto with | loc a => exact a
  refine LCt.Assign_ListComp_T (h₀ := c.h₀) (L := c.L) (m := m) (cl := cl) S.F hf.hL hsw hclos (fun y hy => nameOk_cell (hnm y hy)) hkind (fun y hy e => nodupK_lookup hnd (by obtain ⟨a, b⟩ := y; exact e ▸ hy)) hx hky (noCls hc) ?_ (folded_ok hset _)
  refine (Hi.it K).seq S fun xv h' tk I' O' Ov ds ρ' hI S' hit hK => ?_
  refine srcT_ok (s := { s with heap := h', toks := tk }) hc hW hf.hE hf.hL hok hcl He Ht S' hit hK fun {g ys acc I'' ρ'' O''} hI' B hr hΦ => ?_
  intro D' h3 tk3 F3 N3 off3
  obtain ⟨O4, S4⟩ := finA_ok hf hy B hr F3 N3 off3
  exact ⟨_, h3, tk3, I'', O4, _, _, rfl, ⟨fun p hp => hI' p (hI p hp), fun z i hz => if_neg fun e => by subst e; rw [hy] at hz; cases hz⟩, S4, .next, hΦ⟩⟩

theorem SSt.whl {t : Expr} {b : List Stmt} {p} {q q1 : P} (H : SE W c Γ t q) (H1 : SSs W c Γ b q1) : SSt W c Γ (.While t b [] p) (P.ofS fun ρ Φ => ∃ n, wpWhile q.t q1.s Φ n ρ) := ⟨fun {ρ Φ} K m I O X s S => by
  obtain ⟨n, K⟩ := K
  refine wpAny_While (codeAny_whileLoop (fun k s' => ∃ m' h' tk I' O' ρ', s' = { s with heap := h', toks := tk } ∧ (Sub I I' ∧ Kp Γ m m') ∧ StE W c m' m' I' Γ ρ' O' X h' ∧ wpWhile q.t q1.s Φ k ρ') ?_ n ⟨m, s.heap, s.toks, I, O, ρ, rfl, ⟨same, Kp.rfl⟩, S, K⟩)
  rintro n s' ⟨m', h', tk, I', O', ρ', rfl, hI, S', K'⟩
  cases n with
  | zero => exact K'.elim
  | succ n =>
    refine wpAny_mono ((H.t K').seq (s := { s with heap := h', toks := tk }) S' fun v h'' tk' I'' O'' Ov b ρ'' hI' S'' hb hK => ?_) (fun _ _ x => x) fun _ _ x => x.elim
    obtain ⟨rfl, rfl⟩ := hb
    cases v with
    | false => exact wpAny_execs_nil ⟨m', h'', tk', I'', O'', _, ρ'', rfl, ⟨fun p hp => hI' p (hI.1 p hp), hI.2⟩, S'', .next, hK.2 rfl⟩
    | true =>
      refine wpAny_mono (H1.s (hK.1 rfl) m' I'' O'' X { s with heap := h'', toks := tk' } S'') (fun f s' hp => ?_) fun _ _ x => x.elim
      obtain ⟨m3, h3, tk3, I3, O3, fl, ρ3, rfl, hI3, S3, hf, hΦ⟩ := hp
      have hI4 : Sub I I3 ∧ Kp Γ m m3 := ⟨fun p hp => hI3.1 p (hI' p (hI.1 p hp)), hI.2.trans hI3.2⟩
      cases hf with
      | next => exact ⟨n, Nat.lt_succ_self _, m3, h3, tk3, I3, O3, ρ3, rfl, hI4, S3, hΦ⟩
      | cont => exact ⟨n, Nat.lt_succ_self _, m3, h3, tk3, I3, O3, ρ3, rfl, hI4, S3, hΦ⟩
      | brk => exact ⟨m3, h3, tk3, I3, O3, _, ρ3, rfl, hI4, S3, .next, hΦ⟩
      | ret hr => exact ⟨m3, h3, tk3, I3, O3, _, ρ3, rfl, hI4, S3, .ret hr, hΦ⟩⟩
end
open PySem PySem.W PyProof.Rows PySem.Calls PySem.Spec

noncomputable def loopK (step : D → Rho → (Fl → Rho → Prop) → Prop) (Φ : Fl → Rho → Prop) (ds : List D) : Fl → Rho → Prop := fun f ρ => match f with
  | .next => wpLoop step Φ ds ρ
  | .cont => wpLoop step Φ ds ρ
  | .brk => Φ .next ρ
  | .ret r => Φ (.ret r) ρ

section
variable {W : Wd} {c : Cfg} {k : Nat} {m lm : Str → Option Value} {I I₁ I' O X : Led} {Γ : Gam} {ρ : Rho} {h h' : Heap} {s : Shared} {x y : Str} {j : Nat} {st : Sto} {scope : Scope} {cl : List (Str × Addr)} {C It Da : Addr}

/-- the state kept but for the iterator's own objects -/
theorem StE.but {wr : List Addr} (S : StE W c m m I Γ ρ O X h) (hL : c.env.locals = c.L) (hk : ∀ b o, b ∉ wr → h.get? b = some o → h'.get? b = some o) (hwn : ∀ b ∈ wr, c.h₀.get? b = none ∧ b ≠ c.L) (hoff : ∀ p ∈ I ++ (O ++ X), p.1 ∉ wr) : StE W c m m I Γ ρ O X h' :=
  ⟨⟨S.F.ns.at' fun o e => hk _ o (fun hm => (hwn _ hm).2 rfl) e, fun b o e => hk b o (fun hm => by rw [(hwn b hm).1] at e; cases e) (S.F.keep b o e), S.F.above⟩,
    fun p hp => ⟨hk _ _ (hoff p hp) (S.N p hp).1, (S.N p hp).2⟩, S.ap, S.nd, S.E, .inl ⟨hL, rfl⟩⟩

theorem wo_ex {h : Heap} {Pd : Obj → Prop} : ∀ {wr : List Addr}, (∀ b ∈ wr, ∃ o, h.get? b = some o ∧ Pd o) → ∃ wo : Led, wo.map (·.1) = wr ∧ ∀ p ∈ wo, h.get? p.1 = some p.2 ∧ Pd p.2
  | [], _ => ⟨[], rfl, fun p hp => nomatch hp⟩
  | b :: r, hx => by
    obtain ⟨o, ho, hd⟩ := hx b (.head _)
    obtain ⟨wo, e, hw⟩ := wo_ex (wr := r) fun b hb => hx b (.tail _ hb)
    exact ⟨(b, o) :: wo, by rw [List.map_cons, e], fun p hp => (List.mem_cons.mp hp).elim (fun e => e ▸ ⟨ho, hd⟩) (hw p)⟩

theorem loop_ok {target : Expr} {body : List Stmt} {fp wr : List Addr} {n : Nat} {Pi Md : Nat → Value → Heap → Prop} {St : Nat → Heap → Prop} {step : D → Rho → (Fl → Rho → Prop) → Prop} {Φ : Fl → Rho → Prop} {all : List D}
    (K : KTurns W.prog W.w c.A target It fp wr n Pi Md St) (hf : Fun c Γ) (hn : all.length = n) (S : StE W c m m I Γ ρ O X s.heap) (hst : St 0 s.heap) (hwd : wr.Nodup) (hwn : ∀ b ∈ wr, c.h₀.get? b = none ∧ b ≠ c.L) (hoff : ∀ p ∈ I ++ (O ++ X), p.1 ∉ wr)
    (hfp : ∀ b ∈ fp, b ∈ wr ∨ ∃ o, (b, o) ∈ I) (hex : ∀ i h, St i h → ∀ b ∈ wr, ∃ o, h.get? b = some o ∧ ∀ es ep, o.data ≠ Data.dict es ep)
    (hbody : ∀ i v d m' h' tk I' ρ' O' X' Ψ, all[i]? = some d → Pi i v h' → Sub I I' → StE W c m' m' I' Γ ρ' O' X' h' → step d ρ' Ψ →
      wpAny (model W.prog W.w) c.A (assign target c.env v) (fun _ s₂ => wpAny (model W.prog W.w) c.A (execs body c.env) (PostS W c Γ m' I' X' { s with heap := h', toks := tk } Ψ) NoE s₂) NoE { s with heap := h', toks := tk })
    (H : wpLoop step Φ all ρ) {E : Value → Shared → Prop} :
    codeAny (model W.prog W.w) c.A (.forLoop target (.ref It) body [] c.env) (fun r s' => match r with | .ok f => PostS W c Γ m I X s Φ f s' | .error e => E e s') s := by
  refine codeAny_forLoop_any
    (fun k s' => ∃ m' h' tk I' O' ρ' i, s' = { s with heap := h', toks := tk } ∧ (Sub I I' ∧ Kp Γ m m') ∧ StE W c m' m' I' Γ ρ' O' X h' ∧ St i h' ∧ (∀ p ∈ I' ++ (O' ++ X), p.1 ∉ wr) ∧ wpLoop step Φ (all.drop i) ρ' ∧ i ≤ n ∧ k = n + 1 - i) ?_ (n + 1)
    ⟨m, s.heap, s.toks, I, O, ρ, 0, rfl, ⟨same, Kp.rfl⟩, S, hst, hoff, H, Nat.zero_le _, rfl⟩
  rintro kk s' ⟨m', h', tk, I', O', ρ', i, rfl, hI, S', hst', hoff', H', hi, rfl⟩
  have noE : ∀ {α : Type} {t : Sem α} {Q : α → Shared → Prop} {E' : Value → Shared → Prop} {s : Shared}, wpAny (model W.prog W.w) c.A t Q NoE s → wpAny (model W.prog W.w) c.A t Q E' s := fun h => wpAny_mono h (fun _ _ x => x) fun _ _ x => x.elim
  by_cases hlt : i < n
  · obtain ⟨d, hd⟩ : ∃ d, all[i]? = some d := ⟨_, List.getElem?_eq_getElem (hn ▸ hlt)⟩
    have hdrop : all.drop i = d :: all.drop (i + 1) := by
      obtain ⟨hl, e⟩ := List.getElem?_eq_some_iff.mp hd
      rw [← e]; exact List.drop_eq_getElem_cons hl
    rw [hdrop] at H'
    refine K.item i _ _ _ hlt hst' fun v h₁ tk₁ hMd hk₁ => ?_
    refine K.go i v _ _ _ hMd fun h₂ hP hst₂ hk₂ => ?_
    have S₂ : StE W c m' m' I' Γ ρ' O' X h₂ := S'.but hf.hL (fun b o hb e => hk₂ b o hb (hk₁ b o hb e)) hwn hoff'
    obtain ⟨wo, hwo, hw⟩ := wo_ex (hex _ _ hst₂)
    have hwm : ∀ p ∈ wo, p.1 ∈ wr := fun p hp => hwo ▸ List.mem_map.mpr ⟨p, hp, rfl⟩
    have P : (O' ++ (wo ++ X)).Perm (wo ++ (O' ++ X)) := perm_in (O := []) (a := O') (b := wo) (X := X)
    have S₃ : StE W c m' m' I' Γ ρ' O' (wo ++ X) h₂ := by
      refine ⟨S₂.F, fun p hp => ?_, fun p hp q hq => ?_, (P.map (·.1)).nodup_iff.mpr ?_, S₂.E, .inl ⟨hf.hL, rfl⟩⟩
      · rcases List.mem_append.mp hp with hp | hp
        · exact S₂.N p (List.mem_append_left _ hp)
        · rcases List.mem_append.mp (P.mem_iff.mp hp) with hp | hp
          · exact ⟨(hw p hp).1, (hwn _ (hwm p hp)).2, (hwn _ (hwm p hp)).1⟩
          · exact S₂.N p (List.mem_append_right _ hp)
      · rcases List.mem_append.mp (P.mem_iff.mp hq) with hq | hq
        · exact fun e => hoff' p (List.mem_append_left _ hp) (e ▸ hwm q hq)
        · exact S₂.ap p hp q hq
      · rw [List.map_append, hwo]
        refine List.nodup_append.mpr ⟨hwd, S₂.nd, fun a ha b hb e => ?_⟩
        obtain ⟨q, hq, rfl⟩ := List.mem_map.mp hb
        exact hoff' q (List.mem_append_right _ hq) (e ▸ ha)
    refine noE (wpAny_mono (hbody i v d m' h₂ tk₁ I' ρ' O' (wo ++ X) (loopK step Φ (all.drop (i + 1))) hd hP hI.1 S₃ H') (fun _ s₂ hq => noE (wpAny_mono hq (fun f s₃ hp => ?_) fun _ _ x => x)) fun _ _ x => x)
    obtain ⟨m3, h3, tk3, I3, O3, fl, ρ3, rfl, hI3, S4, hfl, hΦ⟩ := hp
    have hI4 : Sub I I3 ∧ Kp Γ m m3 := ⟨fun p hp => hI3.1 p (hI.1 p hp), hI.2.trans hI3.2⟩
    have S5 : StE W c m3 m3 I3 Γ ρ3 O3 X h3 := StE.dropL (fun p hp => (hw p hp).2) S4
    have P3 : (O3 ++ (wo ++ X)).Perm (wo ++ (O3 ++ X)) := perm_in (O := []) (a := O3) (b := wo) (X := X)
    have nxt : wpLoop step Φ (all.drop (i + 1)) ρ3 → ∃ m_1, m_1 < n + 1 - i ∧ ∃ m' h' tk I' O' ρ' i, ({ s with heap := h3, toks := tk3 } : Shared) = { s with heap := h', toks := tk } ∧ (Sub I I' ∧ Kp Γ m m') ∧ StE W c m' m' I' Γ ρ' O' X h' ∧ St i h' ∧ (∀ p ∈ I' ++ (O' ++ X), p.1 ∉ wr) ∧ wpLoop step Φ (all.drop i) ρ' ∧ i ≤ n ∧ m_1 = n + 1 - i := fun hH => by
      refine ⟨n + 1 - (i + 1), by omega, m3, h3, tk3, I3, O3, ρ3, i + 1, rfl, hI4, S5, ?_, ?_, hH, hlt, rfl⟩
      · refine K.frame _ _ _ hst₂ fun b hb o e => ?_
        rcases hfp b hb with hb | ⟨o', ho'⟩
        · obtain ⟨p, hp, rfl⟩ := List.mem_map.mp (hwo.symm ▸ hb : b ∈ wo.map (·.1))
          have := (hw p hp).1
          rw [e] at this
          cases this
          exact (S4.N p (List.mem_append_right _ (List.mem_append_right _ (List.mem_append_left _ hp)))).1
        · have h1 := (S₂.N (b, o') (List.mem_append_left _ (hI.1 _ ho'))).1
          have h2 := (S4.N (b, o') (List.mem_append_left _ (hI4.1 _ ho'))).1
          have h1' : h₂.get? b = some o' := h1
          rw [e] at h1'
          cases h1'
          exact h2
      · intro p hp hm
        obtain ⟨q, hq, e⟩ := List.mem_map.mp (hwo.symm ▸ hm : p.1 ∈ wo.map (·.1))
        rcases List.mem_append.mp hp with hp | hp
        · exact S4.ap p hp q (P3.mem_iff.mpr (List.mem_append_left _ hq)) e.symm
        · have nd := (P3.map (·.1)).nodup_iff.mp S4.nd
          rw [List.map_append] at nd
          exact (List.nodup_append.mp nd).2.2 q.1 (List.mem_map.mpr ⟨q, hq, rfl⟩) p.1 (List.mem_map.mpr ⟨p, hp, rfl⟩) e
    cases hfl with
    | next => exact nxt hΦ
    | cont => exact nxt hΦ
    | brk => exact ⟨m3, h3, tk3, I3, O3, _, ρ3, rfl, hI4, S5, .next, hΦ⟩
    | ret hr => exact ⟨m3, h3, tk3, I3, O3, _, ρ3, rfl, hI4, S5, .ret hr, hΦ⟩
  · have e : i = n := Nat.le_antisymm hi (Nat.not_lt.mp hlt)
    subst e
    rw [List.drop_eq_nil_of_le (Nat.le_of_eq hn)] at H'
    refine K.done _ _ _ hst' fun h₁ tk₁ hk₁ => wpAny_execs_nil ?_
    exact ⟨m', h₁, tk₁, I', O', _, ρ', rfl, hI, S'.but hf.hL hk₁ hwn hoff', .next, H'⟩

theorem new_addr (S : StE W c m lm I Γ ρ O X h) {a : Addr} (ha : h.objs.size ≤ a) : (c.h₀.get? a = none ∧ a ≠ c.L) ∧ ∀ p ∈ I ++ (O ++ X), p.1 ≠ a := by
  refine ⟨⟨?_, fun e => absurd (e ▸ S.F.ns.lt) (Nat.not_lt.mpr ha)⟩, fun p hp e => absurd (e ▸ Heap.lt_size (S.N p hp).1) (Nat.not_lt.mpr ha)⟩
  cases e : c.h₀.get? a with
  | none => rfl
  | some o => exact absurd (Heap.lt_size (S.F.keep _ _ e)) (Nat.not_lt.mpr ha)
end
open PySem PySem.W PyProof.Rows PySem.Calls PySem.Spec

section
variable {W : Wd} {c : Cfg} {k : Nat} {m lm : Str → Option Value} {I I₁ I' O X : Led} {Γ : Gam} {ρ : Rho} {h h' : Heap} {s : Shared} {x y : Str} {j : Nat} {st : Sto} {scope : Scope} {cl : List (Str × Addr)} {C It Da : Addr}

theorem tgts_ok : ∀ {es : List Expr} {js : List Nat}, tgts Γ es = some js → ∃ xs : List Str, xs.mapM (tgt Γ) = some js ∧ es.length = xs.length ∧ ((assignEach es c.env).map (·.2)).length = xs.length ∧ (∀ p ∈ ((assignEach es c.env).map (·.2)).zip xs, StoreOf W c p.1 p.2) ∧ (assignEach es c.env).findIdx? (·.1) = none
  | [], js, h => by cases h; exact ⟨[], rfl, rfl, rfl, (fun p hp => nomatch hp), rfl⟩
  | e :: r, js, h => by
    unfold tgts at h
    split at h
    · rename_i j hj
      obtain ⟨js', hjs, rfl⟩ := Option.map_eq_some_iff.mp h
      obtain ⟨xs, h1, h2, h3, h4, h5⟩ := tgts_ok hjs
      cases e
      case Name x p =>
        refine ⟨x :: xs, ?_, congrArg (· + 1) h2, congrArg (· + 1) h3, fun q hq => ?_, ?_⟩
        · rw [List.mapM_cons, show tgt Γ x = some j from hj, h1]; rfl
        · rcases List.mem_cons.mp hq with rfl | hq
          · exact storeAssign x p
          · exact h4 q hq
        · show List.findIdx? _ ((false, _) :: _) = none
          rw [List.findIdx?_cons, if_neg (by simp), h5]; rfl
      all_goals cases hj
    · cases h

theorem for_seq {target iter : Expr} {body : List Stmt} {p : Pos} {qi : P} {Φ : Fl → Rho → Prop} {step : D → Rho → (Fl → Rho → Prop) → Prop} {Kc : Nat → Prop} (hset : notSet iter = true) (Hi : SE W c Γ iter qi) (S : StE W c m m I Γ ρ O X s.heap)
    (K : qi.it ρ fun ds ρ => Kc ds.1 ∧ wpLoop step Φ ds.2 ρ)
    (hQ : ∀ xv h' tk I' O' Ov ds ρ', Sub I I' → StE W c m m I' Γ ρ' O' (Ov ++ X) h' → ItR W I' xv ds Ov → Kc ds.1 → wpLoop step Φ ds.2 ρ' → wpAny (model W.prog W.w) c.A (pyIter xv) (fun it s₂ => codeAny (model W.prog W.w) c.A (.forLoop target it body [] c.env)
      (fun r s' => match r with | .ok f => PostS W c Γ m I' X { s with heap := h', toks := tk } Φ f s' | .error e => cameBackBy (model W.prog W.w) c.A c.env NoE e s') s₂) NoE { s with heap := h', toks := tk }) :
    wpAny (model W.prog W.w) c.A (exec (.For target iter body [] p) c.env) (PostS W c Γ m I X s Φ) NoE s :=
  wpAny_For ((Hi.it K).seq S fun xv h' tk I' O' Ov ds ρ' hI S' hit hK => wpAny_mono (hQ xv h' tk I' O' Ov ds ρ' hI S' hit hK.1 hK.2) (fun it s₂ hc => codeAny_mono hc fun r s' hr => by
    cases r with
    | ok f => exact PostS.up ⟨hI, Kp.rfl⟩ hr
    | error e => exact hr) fun _ _ x => x) (folded_ok hset _)

theorem downL_get {a b : Int} {i : Nat} {d : D} (h : ((downL a b).map D.int)[i]? = some d) : d = .int (a - (i : Int)) := by
  rw [List.getElem?_map] at h
  obtain ⟨y, hy, rfl⟩ := Option.map_eq_some_iff.mp h
  unfold downL at hy
  rw [List.getElem?_map] at hy
  obtain ⟨z, hz, rfl⟩ := Option.map_eq_some_iff.mp hy
  obtain ⟨hl, rfl⟩ := List.getElem?_eq_some_iff.mp hz
  rw [List.getElem_range]
theorem downL_len {a b : Int} : ((downL a b).map D.int).length = (a - b).toNat := by unfold downL; simp
theorem down_size {a b : Int} : Builtin.Range.rangeSize a b (-1) = ((((downL a b).map D.int).length : Nat) : Int) := by
  rw [downL_len]
  unfold Builtin.Range.rangeSize
  simp only [show ¬ ((-1 : Int) > 0) by decide, if_false, show (- -1 : Int) = 1 by decide, Int.ediv_one]
  split <;> omega
theorem enumL_get {ds : List D} {i : Nat} {d : D} (h : (enumL ds)[i]? = some d) : ∃ x, ds[i]? = some x ∧ d = .tup [.int (i : Int), x] := by
  unfold enumL at h
  rw [List.getElem?_map] at h
  obtain ⟨y, hy, rfl⟩ := Option.map_eq_some_iff.mp h
  rw [List.getElem?_zipIdx] at hy
  obtain ⟨z, hz, rfl⟩ := Option.map_eq_some_iff.mp hy
  exact ⟨z, hz, by simp⟩
theorem enumL_len {ds : List D} : (enumL ds).length = ds.length := by unfold enumL; simp

/-- going over a range object -/
theorem range_loop {a b cc' : Int} {t u v : Tok} {r : Addr} {n : Nat} {px : Pos} {body : List Stmt} {q : P} {Φ : Fl → Rho → Prop} {all : List D} (hc : CfgOk W c k) (hf : Fun c Γ) (ht : tgt Γ x = some j) (H1 : SSs W c Γ body q)
    (S : StE W c m m I Γ ρ O X s.heap) (hr : IsRange s.heap r a b cc' t u v) (hsm : Builtin.Range.small a b cc' = true) (hsz : Builtin.Range.rangeSize a b cc' = (n : Int)) (hn : all.length = n) (hall : ∀ (i : Nat) (d : D), all[i]? = some d → d = D.int (a + (i : Int) * cc'))
    (K : wpLoop (fun d ρ Ψ => q.s (put j (some (.val d)) ρ) Ψ) Φ all ρ) {E : Value → Shared → Prop} :
    wpAny (model W.prog W.w) c.A (pyIter (.ref r)) (fun it s₂ => codeAny (model W.prog W.w) c.A (.forLoop (.Name x px) it body [] c.env) (fun r s' => match r with | .ok f => PostS W c Γ m I X s Φ f s' | .error e => E e s') s₂) NoE s := by
  refine wpAny_pyIter_range hr hsm ?_
  obtain ⟨hw, hoff⟩ := new_addr S (Nat.le_refl _)
  have S1 : StE W c m m I Γ ρ O X (s.heap.push { cls := .type "range_iterator", data := .fields #[rawInt a, rawInt (Builtin.Range.rangeSize a b cc'), rawInt cc'] }) := S.keeps fun _ _ e => Heap.get?_push_of_some _ e
  refine loop_ok (s := { s with heap := s.heap.push _ }) (fp := [s.heap.objs.size]) (wr := [s.heap.objs.size]) (KTurns.ofWalks (Walks.range hc.hh s.heap.objs.size a cc' n) fun i v s Q E st q => wpAny_pure q) hf hn S1 ?_ (by simp) (fun b hb => by rw [List.mem_singleton.mp hb]; exact hw) (fun p hp hm => hoff p hp (List.mem_singleton.mp hm)) (fun b hb => .inl hb) (fun i h st b hb => ?_) ?_ K
  · rw [hsz]
    have := Heap.get?_push_size s.heap (o := { cls := .type "range_iterator", data := .fields #[rawInt a, rawInt (n : Int), rawInt cc'] }) rfl
    show IsRangeIter _ _ (a + (0 : Nat) * cc') ((n : Int) - (0 : Nat)) cc'
    simpa using this
  · rw [List.mem_singleton.mp hb]
    exact ⟨_, st, fun es ep e => nomatch e⟩
  · intro i v d m' h' tk I' ρ' O' X' Ψ hd hP hI S' hK
    have hd' := hall i d hd
    subst hd'
    have hv : ∃ t, v = .int (a + (i : Int) * cc') t := hP
    obtain ⟨t, rfl⟩ := hv
    refine wpAny_assign_Name (store_ok (Ov := []) (s := { s with heap := h', toks := tk }) hc hf S' (.val .int) ht fun m2 h2 tk2 O2 hk S2 => ?_)
    exact wpAny_mono (H1.s hK m2 I' O2 X' { s with heap := h2, toks := tk2 } S2) (fun _ _ x => PostS.up ⟨same, hk⟩ x) fun _ _ x => x

theorem SSt.for1 {iter : Expr} {b : List Stmt} {px p} {qi q : P} (hc : CfgOk W c k) (hf : Fun c Γ) (ht : tgt Γ x = some j) (hset : notSet iter = true) (Hi : SE W c Γ iter qi) (H1 : SSs W c Γ b q) :
    SSt W c Γ (.For (.Name x px) iter b [] p) (P.ofS fun ρ Φ => qi.it ρ fun ds ρ => ds.1 ≤ 1 ∧ wpLoop (fun d ρ Ψ => q.s (put j (some (.val d)) ρ) Ψ) Φ ds.2 ρ) := ⟨fun {ρ Φ} K m I O X s S => by
  refine for_seq (Kc := (· ≤ 1)) hset Hi S K fun xv h' tk I' O' Ov ds ρ' hI S' hit hkc hK => ?_
  cases hit with
  | @list a us n ds hm hr =>
    have hl := S'.listI hm
    have hlt : a < h'.objs.size := by obtain ⟨_, e, _⟩ := hl; exact Heap.lt_size e
    refine wpAny_pyIter_list (s := { s with heap := h', toks := tk }) hl ?_
    obtain ⟨hw, hoff⟩ := new_addr S' (Nat.le_refl _)
    have S1 : StE W c m m I' Γ ρ' O' X (h'.push { cls := .type "list_iterator", data := .fields #[.ref a, .int 0 0] }) := S'.keeps fun _ _ e => Heap.get?_push_of_some _ e
    refine loop_ok (s := { s with heap := h'.push _, toks := tk }) (fp := [h'.objs.size, a]) (wr := [h'.objs.size]) (KTurns.ofWalks (Walks.list hc.hh h'.objs.size a (Nat.ne_of_lt hlt) us.toArray) fun i v s Q E st q => wpAny_pure q) hf (by rw [List.size_toArray, hr.length]) S1
      ⟨⟨_, Heap.get?_push_size _ rfl, rfl, rfl⟩, hl.push _⟩ (by simp) (fun b hb => by rw [List.mem_singleton.mp hb]; exact hw) (fun p hp hm => hoff p hp (List.mem_singleton.mp hm)) (fun b hb => ?_) (fun i h st b hb => ?_) ?_ hK
    · rcases List.mem_cons.mp hb with rfl | hb
      · exact .inl (.head _)
      · rw [List.mem_singleton.mp hb]; exact .inr ⟨_, hm⟩
    · rw [List.mem_singleton.mp hb]
      obtain ⟨o, ho, _, hd⟩ := st.1
      exact ⟨o, ho, fun es ep e => by rw [hd] at e; cases e⟩
    · intro i v d m' h2 tk2 I2 ρ2 O2 X' Ψ hd hP hI2 S2 hK
      obtain ⟨v', hv', hR⟩ := hr.get hd
      have : some v = some v' := Eq.trans (Eq.symm (show us.toArray[i]? = some v from hP)) (by simpa using hv')
      cases this
      refine wpAny_assign_Name (store_ok (Ov := []) (s := { s with heap := h2, toks := tk2 }) hc hf S2 (.val (hR.mono hI2)) ht fun m3 h3 tk3 O3 hk S3 => ?_)
      exact wpAny_mono (H1.s hK m3 I2 O3 X' { s with heap := h3, toks := tk3 } S3) (fun _ _ x => PostS.up ⟨same, hk⟩ x) fun _ _ x => x
  | @range r a b t u v hm ha hb =>
    exact range_loop (s := { s with heap := h', toks := tk }) hc hf ht H1 S' (S'.N _ (List.mem_append_left _ hm)).1 (small_big ha hb) range_size rfl (fun i d hd => by rw [rangeL_get hd, Int.mul_one]) hK
  | @down r a b t u v hm ha hb =>
    exact range_loop (s := { s with heap := h', toks := tk }) hc hf ht H1 S' (S'.N _ (List.mem_append_left _ hm)).1 (small_down ha hb) down_size rfl (fun i d hd => by rw [downL_get hd]; congr 1; omega) hK
  | enum _ _ _ _ _ _ => exact absurd (show (2 : Nat) ≤ 1 from hkc) (by decide)⟩

theorem SSt.for2 {iter : Expr} {b : List Stmt} {xs : List Expr} {kk px p} {i0 j0 : Nat} {qi q : P} (hc : CfgOk W c k) (hf : Fun c Γ) (ht : tgts Γ xs = some [i0, j0]) (hset : notSet iter = true) (Hi : SE W c Γ iter qi) (H1 : SSs W c Γ b q) :
    SSt W c Γ (.For (.Tuple xs kk px) iter b [] p) (P.ofS fun ρ Φ => qi.it ρ fun ds ρ => ds.1 = 2 ∧ wpLoop (fun d ρ Ψ => ∃ x y, d = .tup [x, y] ∧ q.s (put j0 (some (.val y)) (put i0 (some (.val x)) ρ)) Ψ) Φ ds.2 ρ) := ⟨fun {ρ Φ} K m I O X s S => by
  refine for_seq (Kc := (· = 2)) hset Hi S K fun xv h' tk I' O' Ov ds ρ' hI S' hit hkc hK => ?_
  cases hit with
  | list _ _ => exact absurd (show (0 : Nat) = 2 from hkc) (by decide)
  | range _ _ _ => exact absurd (show (0 : Nat) = 2 from hkc) (by decide)
  | down _ _ _ => exact absurd (show (1 : Nat) = 2 from hkc) (by decide)
  | @enum e it l us n ds oe oi hm hr hsz hoe hcl hda =>
    have P : (O' ++ ([(e, oe), (it, oi)] ++ X)).Perm ([(e, oe), (it, oi)] ++ (O' ++ X)) := perm_in (O := []) (a := O') (b := [(e, oe), (it, oi)]) (X := X)
    have ndP := (P.map (·.1)).nodup_iff.mp S'.nd
    have n1 := List.nodup_cons.mp ndP
    have n2 := List.nodup_cons.mp n1.2
    have hei : e ≠ it := fun q => n1.1 (q ▸ .head _)
    have me : (e, oe) ∈ O' ++ ([(e, oe), (it, oi)] ++ X) := P.mem_iff.mpr (.head _)
    have mi : (it, oi) ∈ O' ++ ([(e, oe), (it, oi)] ++ X) := P.mem_iff.mpr (.tail _ (.head _))
    have hle : l ≠ e := S'.ap (l, _) hm (e, oe) me
    have hli : l ≠ it := S'.ap (l, _) hm (it, oi) mi
    have Ne := S'.N _ (List.mem_append_right _ me)
    have Ni := S'.N _ (List.mem_append_right _ mi)
    have he : IsEnum h' e it 0 .none := by have := Ne.1; rw [hoe] at this; exact this
    have S0 : StE W c m m I' Γ ρ' O' X h' := StE.dropL (Od := [(e, oe), (it, oi)]) (fun p hp es ep q => by
      rcases List.mem_cons.mp hp with rfl | hp
      · rw [hoe] at q; cases q
      · rw [List.mem_singleton.mp hp] at q; rw [hda] at q; cases q) S'
    refine wpAny_pyIter_enum (s := { s with heap := h', toks := tk }) he ?_
    refine loop_ok (s := { s with heap := h', toks := tk }) (fp := [e, it, l]) (wr := [e, it]) (KTurns.ofWalksU (WalksT.enumerate hc.hh e it l hei hle hli us.toArray).toU) hf (by rw [enumL_len, List.size_toArray, hr.length]) S0
      ⟨⟨_, he⟩, ⟨oi, Ni.1, hcl, hda⟩, S'.listI hm⟩ (by simp [hei]) (fun b hb => ?_) (fun p hp hm' => ?_) (fun b hb => ?_) (fun i h st b hb => ?_) ?_ hK
    · rcases List.mem_cons.mp hb with rfl | hb
      · exact ⟨Ne.2.2, Ne.2.1⟩
      · rw [List.mem_singleton.mp hb]; exact ⟨Ni.2.2, Ni.2.1⟩
    · rcases List.mem_append.mp hp with hp | hp
      · rcases List.mem_cons.mp hm' with q | hm'
        · exact S'.ap p hp (e, oe) me q
        · exact S'.ap p hp (it, oi) mi (List.mem_singleton.mp hm')
      · rcases List.mem_cons.mp hm' with q | hm'
        · exact n1.1 (.tail _ (List.mem_map.mpr ⟨p, hp, q⟩))
        · exact n2.1 (List.mem_map.mpr ⟨p, hp, List.mem_singleton.mp hm'⟩)
    · rcases List.mem_cons.mp hb with rfl | hb
      · exact .inl (.head _)
      · rcases List.mem_cons.mp hb with rfl | hb
        · exact .inl (.tail _ (.head _))
        · rw [List.mem_singleton.mp hb]; exact .inr ⟨_, hm⟩
    · obtain ⟨⟨old, h1⟩, ⟨o, ho, _, hd⟩, _⟩ := st
      rcases List.mem_cons.mp hb with rfl | hb
      · exact ⟨_, h1, fun es ep e => nomatch e⟩
      · rw [List.mem_singleton.mp hb]
        exact ⟨o, ho, fun es ep e => by rw [hd] at e; cases e⟩
    · intro i v d m' h2 tk2 I2 ρ2 O2 X' Ψ hd hP hI2 S2 hK
      obtain ⟨T, vals, rfl, ⟨t, xx, hx, rfl⟩, hT⟩ := hP
      obtain ⟨d1, hd1, rfl⟩ := enumL_get hd
      obtain ⟨a1, a2, e12, hK⟩ := hK
      cases e12
      obtain ⟨v', hv', hR⟩ := hr.get hd1
      have : some xx = some v' := hx.symm.trans (by simpa using hv')
      cases this
      obtain ⟨names, t1, t2, t3, t4, t5⟩ := tgts_ok (W := W) (c := c) ht
      refine unpackN_ (s := { s with heap := h2, toks := tk2 }) S2.F S2.N hT hc.hh ?_ t5 fun h3 F3 N3 => ?_
      · rw [← List.length_map (f := (·.2)), t3]
        have := congrArg Option.isSome t1
        have hl : names.length = 2 := by
          match names, t1 with
          | [], t1 => cases t1
          | [a], t1 => simp [List.mapM_cons] at t1; cases h : tgt Γ a <;> simp [h] at t1
          | [a, b], _ => rfl
          | a :: b :: c :: r, t1 =>
            rw [List.mapM_cons, List.mapM_cons, List.mapM_cons] at t1
            cases h1 : tgt Γ a with
            | none => rw [h1] at t1; cases t1
            | some _ => cases h2 : tgt Γ b with
              | none => rw [h1, h2] at t1; cases t1
              | some _ => cases h3 : tgt Γ c with
                | none => rw [h1, h2, h3] at t1; cases t1
                | some _ => cases h4 : r.mapM (tgt Γ) with
                  | none => rw [h1, h2, h3, h4] at t1; cases t1
                  | some _ => rw [h1, h2, h3, h4] at t1; cases t1
        rw [hl]; rfl
      · have S3 : StE W c m' m' I2 Γ ρ2 O2 ([] ++ X') h3 := ⟨F3, N3, S2.ap, S2.nd, S2.E, .inl ⟨hf.hL, rfl⟩⟩
        refine stores_ok (s := { s with heap := h3, toks := tk2 }) (Ov := []) (sls := [.val (.int i), .val d1]) hc hf t3 t4 t1 S3 (.cons (.val .int) (.cons (.val (hR.mono hI2)) .nil)) rfl fun m4 h4 tk4 O4 hk S4 => ?_
        exact wpAny_mono (H1.s hK m4 I2 O4 X' { s with heap := h4, toks := tk4 } S4) (fun _ _ x => PostS.up ⟨same, hk⟩ x) fun _ _ x => x⟩

theorem SSt.unp {xs : List Expr} {v : Expr} {kk px p} {js : List Nat} {q : P} (hc : CfgOk W c k) (hf : Fun c Γ) (ht : tgts Γ xs = some js) (hs : ∀ env, swapsWith v (some (.Tuple xs kk px)) p.line env = pure false) (hw : ∀ env, swappedStores [.Tuple xs kk px] v env = pure none) (H : SE W c Γ v q) :
    SSt W c Γ (.Assign [.Tuple xs kk px] v p) (P.ofS fun ρ Φ => q.e ρ fun sl ρ => onT sl.d fun ds => ∃ ρ', puts js (vals ds) ρ = some ρ' ∧ Φ .next ρ') := ⟨fun {ρ Φ} K m I O X s S =>
  Assign_Tuple (seqK H.e (fun d ρ => onT d fun ds => ∃ ρ', puts js (vals ds) ρ = some ρ' ∧ Φ .next ρ') K S fun v h' tk I' O' d ρ' hI S' hv hK => by
    obtain ⟨ds, rfl, ρ2, hp, hK⟩ := onT_eq hK
    cases hv with
    | @tup a us n _ hm hr =>
      obtain ⟨names, t1, t2, t3, t4, t5⟩ := tgts_ok (W := W) (c := c) ht
      have hlen : ∀ {js : List Nat} {sls : List Sl} {ρ ρ' : Rho}, puts js sls ρ = some ρ' → js.length = sls.length := fun {js} => by
        induction js with
        | nil => intro sls ρ ρ' h; cases sls <;> first | rfl | cases h
        | cons j js ih => intro sls ρ ρ' h; cases sls with
          | nil => cases h
          | cons s r => exact congrArg (· + 1) (ih h)
      have hml : ∀ {xs : List Str} {js : List Nat}, xs.mapM (tgt Γ) = some js → xs.length = js.length := fun {xs} => by
        induction xs with
        | nil => intro js h; cases h; rfl
        | cons x r ih =>
          intro js h
          rw [List.mapM_cons] at h
          cases h1 : tgt Γ x with
          | none => rw [h1] at h; cases h
          | some _ => cases h2 : r.mapM (tgt Γ) with
            | none => rw [h1, h2] at h; cases h
            | some _ => rw [h1, h2] at h; cases h; exact congrArg (· + 1) (ih h2)
      refine unpackN_ (s := { s with heap := h', toks := tk }) S'.F S'.N (S'.tupI hm) hc.hh ?_ t5 fun h3 F3 N3 => ?_
      · rw [← List.length_map (f := (·.2)), t3, hml t1, hlen hp, List.size_toArray, hr.length]
        exact List.length_map ..
      · have S3 : StE W c m m I' Γ ρ' O' ([] ++ X) h3 := ⟨F3, N3, S'.ap, S'.nd, S'.E, .inl ⟨hf.hL, rfl⟩⟩
        exact stores_ok (s := { s with heap := h3, toks := tk }) (Ov := []) hc hf t3 t4 t1 S3 (SlsR.vals hr) hp fun m4 h4 tk4 O4 hk S4 => ⟨m4, h4, tk4, I', O4, _, _, rfl, ⟨hI, hk⟩, S4, .next, hK⟩) (hs c.env) (hw c.env)⟩

theorem SSt.aug {v : Expr} {op px p} {q : P} (hc : CfgOk W c k) (hf : Fun c Γ) (ht : tgt Γ x = some j) (H : SE W c Γ v q) :
    SSt W c Γ (.AugAssign (.Name x px) op v p) (P.ofS fun ρ Φ => onVal (nth ρ j) fun a => onI a fun a => q.e ρ fun b ρ => onI b.d fun b => binI op a b fun i => Φ .next (put j (some (.val (.int i))) ρ)) := ⟨fun {ρ Φ} K m I O X s S => by
  obtain ⟨d, hg, K⟩ := onVal_eq K
  obtain ⟨a, rfl, K⟩ := onI_eq K
  have hfnd : ∃ st, fnd x Γ = some (j, st) := by
    unfold tgt at ht
    split at ht
    · rename_i h; cases ht; exact ⟨_, h⟩
    · rename_i h; cases ht; exact ⟨_, h⟩
    · cases ht
  obtain ⟨st, hfnd⟩ := hfnd
  obtain ⟨v0, O1, Ov, O', sto, hsl, S1, back, load⟩ := name_ok hc S hfnd hg
  cases hsl with
  | val hv0 =>
    refine wpAny_AugAssign_Name (load _ _ (seqK H.e (fun d ρ => onI d fun b => binI op a b fun i => Φ .next (put j (some (.val (.int i))) ρ)) K S fun u h' tk I' O' d ρ' hI S' hu hK => ?_))
    obtain ⟨b, rfl, hK⟩ := onI_eq hK
    refine wpAny_mono (inp_ok (s := { s with heap := h', toks := tk }) (Φ := fun sl ρ => Φ .next (put j (some sl) ρ)) S' (hv0.mono hI) hu hK) (fun r s' hp => ?_) fun _ _ x => x
    obtain ⟨h2, tk2, I2, O2, Or, sl, ρ2, rfl, hI2, S2, hr, hΦ⟩ := hp
    exact store_ok (s := { s with heap := h2, toks := tk2 }) hc hf S2 hr ht fun m3 h3 tk3 O3 hk S3 => ⟨m3, h3, tk3, I2, O3, _, _, rfl, ⟨fun p hp => hI2 p (hI p hp), hk⟩, S3, .next, hΦ⟩⟩

theorem SSt.ex {e : Expr} {p} {q : P} (he : ∀ env, ∀ {Q : Flow → Shared → Prop} {s}, wpAny (model W.prog W.w) c.A (eval e env) (fun _ => Q .next) NoE s → wpAny (model W.prog W.w) c.A (exec (.Expr e p) env) Q NoE s) (H : SE W c Γ e q) :
    SSt W c Γ (.Expr e p) (P.ofS fun ρ Φ => q.e ρ fun _ ρ => Φ .next ρ) := ⟨fun {ρ Φ} K m I O X s S => he _ (seqK H.e (fun d ρ => Φ .next ρ) K S fun v h' tk I' O' d ρ' hI S' hv hK => ⟨m, h', tk, I', O', _, ρ', rfl, ⟨hI, Kp.rfl⟩, S', .next, hK⟩)⟩
end
open PySem PySem.W PyProof.Rows PySem.Calls PySem.Spec

section
variable {W : Wd} {c : Cfg} {k : Nat} {m lm : Str → Option Value} {I I₁ I' O X : Led} {Γ : Gam} {ρ : Rho} {h h' : Heap} {s : Shared} {x y : Str} {j : Nat} {st : Sto} {scope : Scope} {cl : List (Str × Addr)} {C It Da : Addr}

theorem updX {a : Addr} {o o' : Obj} (S : StE W c m lm I Γ ρ O ((a, o) :: X) h) (hs : Heap.SameBut a h h') (ho : h'.get? a = some o') (hd : ∀ es ep, o.data ≠ .dict es ep) : StE W c m lm I Γ ρ O ((a, o') :: X) h' := by
  refine S.upd (X' := (a, o') :: X) perm_mid perm_mid hs ho S.E fun p hp ⟨es, ep, hdd⟩ => ?_
  rcases List.mem_cons.mp hp with rfl | hp
  · exact absurd hdd (hd es ep)
  · exact .tail _ hp

theorem set_obj (us : List Value) (n i : Nat) (v : Value) : Obj.mapSeq (·.setIfInBounds i v) (lobj us n) = lobj (us.set i v) n := by
  show ({ cls := .type "list", data := .seq (us.toArray.setIfInBounds i v) (if (us.toArray.setIfInBounds i v).size == us.toArray.size then n else n + 1) } : Obj) = _
  rw [if_pos (by simp)]
  simp

theorem tgtL_fnd (h : tgtL Γ x = some j) : ∃ st, fnd x Γ = some (j, st) ∧ (st = .loc ∨ st = .fix) := by
  unfold tgtL at h
  split at h
  · rename_i h'; cases h; exact ⟨_, h', .inl rfl⟩
  · rename_i h'; cases h; exact ⟨_, h', .inr rfl⟩
  · cases h

theorem SSt.sto {v i : Expr} {px pp p} {q q2 : P} (hc : CfgOk W c k) (hf : Fun c Γ) (hx : fnd x Γ = some (j, st)) (hst : st = .loc ∨ st = .fix) (hd : x ≠ Str.ofString "__debug__") (hsw : swapsWith v (some (.Subscript (.Name x px) i pp)) p.line c.env = pure false) (H : SE W c Γ v q) (H2 : SE W c Γ i q2) :
    SSt W c Γ (.Assign [.Subscript (.Name x px) i pp] v p) (P.ofS fun ρ Φ => q.e ρ fun a ρ => onOwn (nth ρ j) fun ds => q2.e (put j none ρ) fun iv ρ => onI iv.d fun i =>
      (0 ≤ i ∧ i < ds.length ∧ ds.length < 2 ^ 62) ∧ Φ .next (put j (some (.own (ds.set i.toNat a.d))) ρ)) := ⟨fun {ρ Φ} K m I O X s S =>
  wpAny_Assign_Subscript (seqK H.e (fun d ρ => onOwn (nth ρ j) fun ds => q2.e (put j none ρ) fun iv ρ => onI iv.d fun i =>
      (0 ≤ i ∧ i < ds.length ∧ ds.length < 2 ^ 62) ∧ Φ .next (put j (some (.own (ds.set i.toNat d))) ρ)) K S fun v h' tk I' O' d ρ' hI S' hv hK => by
    obtain ⟨ds, hg, hK⟩ := onOwn_eq hK
    obtain ⟨v0, O1, Ov, O2, sto, hsl, S1, back, load⟩ := name_ok (s := { s with heap := h', toks := tk }) hc S' hx hg
    refine wpAny_Name (load _ _ ?_) (beq_eq_false_iff_ne.mpr hd)
    cases hsl with
    | @own a us n _ hr =>
      refine seqK (s := { s with heap := h', toks := tk }) H2.e (fun iv ρ => onI iv fun i => (0 ≤ i ∧ i < ds.length ∧ ds.length < 2 ^ 62) ∧ Φ .next (put j (some (.own (ds.set i.toNat d))) ρ)) hK S1 fun iv h2 tk2 I2 O3 di ρ2 hI2 S2 hi hK => ?_
      obtain ⟨i, rfl, ⟨h0, h1, h3⟩, hK⟩ := onI_eq hK
      cases hi
      have hm : h2.get? a = some (lobj us n) := (S2.N _ (List.mem_append_right _ (List.mem_append_right _ (.head _)))).1
      refine ki_setAt (s := { s with heap := h2, toks := tk2 }) hm h0 (by omega) (by rw [List.size_toArray, hr.length]; exact h1) ?_
      have hm4 : (h2.update a (Obj.mapSeq (·.setIfInBounds i.toNat v))).get? a = some (lobj (us.set i.toNat v) n) := by
        rw [Heap.get?_update_self _ hm (by rw [set_obj]; rfl), set_obj]
      have S4 := updX (o' := lobj (us.set i.toNat v) n) S2 (Heap.SameBut.update ..) hm4 (fun _ _ e => nomatch e)
      obtain ⟨O5, S5⟩ := put_loc (Ov := [(a, lobj (us.set i.toNat v) n)]) S4 hx hst (sto.loc_inv hst) (.own ((hr.mono hI2).set _ (hv.mono hI2)))
      exact ⟨m, _, _, I2, O5, _, _, rfl, ⟨fun p hp => hI2 p (hI p hp), Kp.rfl⟩, S5, .next, hK⟩) hsw⟩

theorem SSt.app {a : Expr} {px ap p p2} {q : P} (hc : CfgOk W c k) (hf : Fun c Γ) (hx : fnd x Γ = some (j, st)) (hst : st = .loc ∨ st = .fix) (hd : x ≠ Str.ofString "__debug__") (hs : isStar a = false) (hl : ap.endLine = p.line) (H : SE W c Γ a q) :
    SSt W c Γ (.Expr (.Call (.Attribute (.Name x px) (Str.ofString "append") ap) [a] [] p) p2) (P.ofS fun ρ Φ => onOwn (nth ρ j) fun ds => q.e (put j none ρ) fun v ρ => ds.length < sizeLine ∧ Φ .next (put j (some (.own (ds ++ [v.d]))) ρ)) := ⟨fun {ρ Φ} K m I O X s S => by
  obtain ⟨ds, hg, hK⟩ := onOwn_eq K
  have hint : interactive c.env = false := by unfold interactive; rw [hc.hke]; rfl
  refine wpAny_Expr_any (wpAny_Call_append rfl (by rw [star_cons hs]; rfl) (beq_iff_eq.mpr hl) (by rw [star_cons hs]; rfl) ?_) hint rfl
  obtain ⟨v0, O1, Ov, O2, sto, hsl, S1, back, load⟩ := name_ok hc S hx hg
  refine wpAny_Name (load _ _ ?_) (beq_eq_false_iff_ne.mpr hd)
  cases hsl with
  | @own l us n _ hr =>
    refine ⟨l, us.toArray, rfl, ⟨_, n, (S1.N _ (List.mem_append_right _ (List.mem_append_right _ (.head _)))).1, rfl, rfl, rfl⟩, ?_⟩
    refine seqK H.e (fun d ρ => ds.length < sizeLine ∧ Φ .next (put j (some (.own (ds ++ [d]))) ρ)) hK S1 fun v h2 tk2 I2 O3 d ρ2 hI2 S2 hv hK => ?_
    have hm : h2.get? l = some (lobj us n) := (S2.N _ (List.mem_append_right _ (List.mem_append_right _ (.head _)))).1
    refine append_at (s := { s with heap := h2, toks := tk2 }) hm (fun h4 hs4 hm4 => ?_) (by rw [List.size_toArray, hr.length]; exact Nat.le_of_lt hK.1)
    have S4 := updX (o' := lobj (us ++ [v]) (n + 1)) S2 hs4 (by rw [hm4, List.push_toArray]) (fun _ _ e => nomatch e)
    obtain ⟨O5, S5⟩ := put_loc (Ov := [(l, lobj (us ++ [v]) (n + 1))]) S4 hx hst (sto.loc_inv hst) (.own ((hr.mono hI2).append (.cons hv .nil)))
    exact ⟨m, h4, _, I2, O5, _, _, rfl, ⟨hI2, Kp.rfl⟩, S5, .next, hK.2⟩⟩
end
open PySem PySem.W PyProof.Rows PySem.Calls PySem.Spec

theorem SlsR.perm {W : Wd} {I : Led} {vs sls O} (h : SlsR W I vs sls O) : ∀ {vs2 sls2 O2}, SlsR W I vs2 sls2 O2 → ∃ O3, O3.Perm (O ++ O2) ∧ SlsR W I (vs.reverse ++ vs2) (sls.reverse ++ sls2) O3 := by
  induction h with
  | nil => exact fun h => ⟨_, List.Perm.refl _, h⟩
  | @cons v sl vs sls O1 O2 a b ih =>
    intro vs2 sls2 O4 h
    obtain ⟨O3, hp, h3⟩ := ih (SlsR.cons a h)
    refine ⟨O3, hp.trans ?_, by simpa using h3⟩
    rw [List.append_assoc, ← List.append_assoc O2]
    refine (List.Perm.append_right O4 (List.perm_append_comm (l₁ := O2) (l₂ := O1))).trans ?_
    rw [List.append_assoc]
theorem SlsR.rev {W : Wd} {I : Led} {vs sls O} (h : SlsR W I vs sls O) : ∃ O3, O3.Perm O ∧ SlsR W I vs.reverse sls.reverse O3 := by
  obtain ⟨O3, hp, h3⟩ := h.perm .nil
  exact ⟨O3, by simpa using hp, by simpa using h3⟩
theorem puts_rev : ∀ {js : List Nat} {sls : List Sl} {ρ ρ' : Rho}, nodupN js = true → (js.length = 2 ∨ js.length = 3) → puts js sls ρ = some ρ' → puts js.reverse sls.reverse ρ = some ρ'
  | [a, b], sls, ρ, ρ', hn, _, h => by
    match sls, h with
    | [x, y], h =>
      have hab : a ≠ b := by simp [nodupN] at hn; exact hn
      cases h
      exact congrArg some (List.set_comm _ _ hab.symm)
  | [a, b, c], sls, ρ, ρ', hn, _, h => by
    match sls, h with
    | [x, y, z], h =>
      have hh : (a ≠ b ∧ a ≠ c) ∧ b ≠ c := by simp [nodupN] at hn; exact hn
      cases h
      refine congrArg some ?_
      show put a _ (put b _ (put c _ ρ)) = put c _ (put b _ (put a _ ρ))
      unfold put
      rw [List.set_comm _ _ hh.2, List.set_comm _ _ hh.1.2, List.set_comm _ _ hh.1.1]
  | [], _, _, _, _, h, _ => by simp at h
  | [a], _, _, _, _, h, _ => by simp at h
  | _ :: _ :: _ :: _ :: _, _, _, _, _, h, _ => by simp at h

section
variable {W : Wd} {c : Cfg} {k : Nat} {m lm : Str → Option Value} {I I₁ I' O X : Led} {Γ : Gam} {ρ : Rho} {h h' : Heap} {s : Shared} {x y : Str} {j : Nat} {st : Sto} {scope : Scope} {cl : List (Str × Addr)} {C It Da : Addr}

theorem locB_env (E : EnvR W c m lm I Γ ρ O) (ht : tgt Γ x = some j) : (c.env.kindOf x == some .local) = locB Γ x := by
  unfold tgt at ht
  unfold locB
  split at ht
  · rename_i j' hf
    obtain ⟨_, _, _, _, _, _, sto, _, _⟩ := envAt E hf
    cases sto with | loc a => rw [a, hf]; rfl
  · rename_i j' hf
    obtain ⟨_, _, _, _, _, _, sto, _, _⟩ := envAt E hf
    cases sto with | cel a _ _ => rw [a, hf]; rfl
  · cases ht
theorem fm_congr {α β : Type} {f g : α → Option β} : ∀ {l : List α}, (∀ x ∈ l, f x = g x) → l.filterMap f = l.filterMap g
  | [], _ => rfl
  | x :: r, h => by rw [List.filterMap_cons, List.filterMap_cons, h x (.head _), fm_congr fun y hy => h y (.tail _ hy)]
theorem tgts_len : ∀ {ts : List Expr} {js : List Nat}, tgts Γ ts = some js → ts.length = js.length
  | [], _, h => by cases h; rfl
  | e :: r, js, h => by
    unfold tgts at h
    split at h
    · obtain ⟨js', hjs, rfl⟩ := Option.map_eq_some_iff.mp h
      exact congrArg (· + 1) (tgts_len hjs)
    · cases h
theorem tgts_mem : ∀ {ts : List Expr} {js : List Nat}, tgts Γ ts = some js → ∀ t ∈ ts, ∃ x p j, t = .Name x p ∧ tgt Γ x = some j
  | [], _, _, t, ht => nomatch ht
  | e :: r, js, h, t, ht => by
    unfold tgts at h
    split at h
    · rename_i j hj
      obtain ⟨js', hjs, rfl⟩ := Option.map_eq_some_iff.mp h
      rcases List.mem_cons.mp ht with rfl | ht
      · cases t
        case Name x p => exact ⟨x, p, j, rfl, hj⟩
        all_goals cases hj
      · exact tgts_mem hjs t ht
    · cases h
theorem swap_ok (hc : CfgOk W c k) (E : EnvR W c m lm I Γ ρ O) {ts vs : List Expr} {js : List Nat} {k1 k2 p1 p2 r} (ht : tgts Γ ts = some js) (hs : swapN Γ ts vs = some r) : swappedStores [.Tuple ts k1 p1] (.Tuple vs k2 p2) c.env = pure r := by
  have hb : (c.env.blockKind != .function) = false := by unfold Env.blockKind; rw [hc.hke]; rfl
  unfold swappedStores
  unfold swapN at hs
  dsimp only at hs ⊢
  rw [hb, Bool.or_false]
  by_cases c1 : (!(ts.length == 2 || ts.length == 3) || vs.length != ts.length) = true
  · rw [if_pos c1] at hs ⊢; cases hs; rfl
  · rw [if_neg c1] at hs ⊢
    by_cases c2 : (vs.any isStar) = true
    · rw [if_pos c2] at hs; cases hs; exact if_pos c2
    · rw [if_neg c2] at hs
      refine (if_neg c2).trans ?_
      have hn : ∀ f : Expr → Option Str, (∀ x p, f (.Name x p) = if (c.env.kindOf x == some .local && p.line == ((ts.head?.map (·.pos.line)).getD 0)) = true then some x else none) → ts.filterMap f = ts.filterMap (tname Γ ((ts.head?.map (·.pos.line)).getD 0)) := by
        intro f hff
        refine fm_congr fun t hm => ?_
        obtain ⟨x, p, j, rfl, htx⟩ := tgts_mem ht t hm
        have := locB_env E htx
        rw [hff, this]; rfl
      rw [hn _ (fun _ _ => rfl)]
      by_cases c3 : ((ts.filterMap (tname Γ ((ts.head?.map (·.pos.line)).getD 0))).length != ts.length || (ts.filterMap (tname Γ ((ts.head?.map (·.pos.line)).getD 0))).eraseDups.length != (ts.filterMap (tname Γ ((ts.head?.map (·.pos.line)).getD 0))).length) = true
      · rw [if_pos c3] at hs; cases hs; exact if_pos c3
      · rw [if_neg c3] at hs
        refine (if_neg c3).trans ?_
        by_cases c4 : vs.all (foldedForSure 8) = true
        · rw [if_pos c4] at hs; cases hs; exact if_pos c4
        · rw [if_neg c4] at hs
          refine (if_neg c4).trans ?_
          by_cases c5 : vs.all (constantsAlone 8) = true
          · rw [if_pos c5] at hs; cases hs
          · rw [if_neg c5] at hs; cases hs; exact if_neg c5

theorem swap_names {ts vs : List Expr} {js : List Nat} {names : List Str} (ht : tgts Γ ts = some js) (hs : swapN Γ ts vs = some (some names)) : names.mapM (tgt Γ) = some js ∧ (js.length = 2 ∨ js.length = 3) := by
  unfold swapN at hs
  dsimp only at hs
  split at hs
  · cases hs
  · rename_i c1
    split at hs
    · cases hs
    · split at hs
      · cases hs
      · rename_i c3
        split at hs
        · cases hs
        · split at hs
          · cases hs
          · cases hs
            refine ⟨?_, ?_⟩
            · have c3' : (ts.filterMap (tname Γ ((ts.head?.map (·.pos.line)).getD 0))).length = ts.length := by
                simp only [Bool.or_eq_true, bne_iff_ne, ne_eq, not_or, Decidable.not_not] at c3
                exact c3.1
              generalize ((ts.head?.map (·.pos.line)).getD 0) = line at c3'
              clear c1 c3
              induction ts generalizing js with
              | nil => cases ht; rfl
              | cons t r ih =>
                unfold tgts at ht
                split at ht
                · rename_i j hj
                  obtain ⟨js', hjs, rfl⟩ := Option.map_eq_some_iff.mp ht
                  cases t
                  case Name x p =>
                    rw [List.filterMap_cons] at c3' ⊢
                    cases hb : tname Γ line (.Name x p) with
                    | none =>
                      rw [hb] at c3'
                      exact absurd c3' (Nat.ne_of_lt (Nat.lt_succ_of_le (List.length_filterMap_le ..)))
                    | some id =>
                      have e : id = x := by
                        unfold tname at hb
                        dsimp only at hb
                        split at hb
                        · cases hb; rfl
                        · cases hb
                      subst e
                      rw [hb] at c3'
                      show (id :: _).mapM (tgt Γ) = _
                      rw [List.mapM_cons, show tgt Γ id = some j from hj, ih hjs (Nat.succ.inj c3')]
                      rfl
                  all_goals cases hj
                · cases ht
            · have : ts.length = 2 ∨ ts.length = 3 := by
                simp only [Bool.or_eq_true, Bool.not_eq_true', Bool.or_eq_false_iff, beq_eq_false_iff_ne, ne_eq, bne_iff_ne, not_or, not_and, Decidable.not_not] at c1
                omega
              rw [← tgts_len ht]; exact this

theorem SSt.asgs {xs es : List Expr} {k1 k2 p1 p2 p} {js : List Nat} {q : P} (hc : CfgOk W c k) (hf : Fun c Γ) (ht : tgts Γ xs = some js) (hn : nodupN js = true) (hs : (swapN Γ xs es).isSome = true) (H : SEs W c Γ es q) :
    SSt W c Γ (.Assign [.Tuple xs k1 p1] (.Tuple es k2 p2) p) (P.ofS fun ρ Φ => q.sls ρ fun vs ρ => vs.length ≤ sizeLine ∧ ∃ ρ', puts js vs ρ = some ρ' ∧ Φ .next ρ') := ⟨fun {ρ Φ} K m I O X s S => by
  obtain ⟨r, hr⟩ := Option.isSome_iff_exists.mp hs
  have hw := swap_ok (k1 := k1) (k2 := k2) (p1 := p1) (p2 := p2) hc S.E ht hr
  have slen : ∀ {vs : List Value} {sls : List Sl} {O : Led} {I : Led}, SlsR W I vs sls O → vs.length = sls.length := fun h => by
    induction h with
    | nil => rfl
    | cons _ _ ih => exact congrArg (· + 1) ih
  have plen : ∀ {js : List Nat} {sls : List Sl} {ρ ρ' : Rho}, puts js sls ρ = some ρ' → js.length = sls.length := fun {js} => by
    induction js with
    | nil => intro sls ρ ρ' h; cases sls <;> first | rfl | cases h
    | cons j js ih => intro sls ρ ρ' h; cases sls with
      | nil => cases h
      | cons s r => exact congrArg (· + 1) (ih h)
  obtain ⟨names, t1, t2, t3, t4, t5⟩ := tgts_ok (W := W) (c := c) ht
  have nlen : ∀ {xs : List Str} {js : List Nat}, xs.mapM (tgt Γ) = some js → xs.length = js.length := fun {xs} => by
    induction xs with
    | nil => intro js h; cases h; rfl
    | cons x r ih =>
      intro js h
      rw [List.mapM_cons] at h
      cases h1 : tgt Γ x with
      | none => rw [h1] at h; cases h
      | some _ => cases h2 : r.mapM (tgt Γ) with
        | none => rw [h1, h2] at h; cases h
        | some _ => rw [h1, h2] at h; cases h; exact congrArg (· + 1) (ih h2)
  cases r with
  | none =>
    refine Assign_Tuple (Tuple_ ((H.sls p2 K).seq S fun vs h' tk I' O' Ov sls ρ' hI S' hv ⟨hsz, ρ2, hp, hK⟩ => ?_)) rfl hw
    refine newTuple_N (s := { s with heap := h', toks := tk }) S'.F S'.N (fun h'' F' N' => ?_) (by rw [slen hv]; exact hsz)
    have S2 := S'.ofNew rfl F' N'
    have hT : IsTup h'' h'.objs.size vs.toArray := ⟨_, (S2.N _ (List.mem_append_right _ (List.mem_append_right _ (.head _)))).1, rfl, 0, rfl⟩
    have S3 : StE W c m m I' Γ ρ' O' (Ov ++ X) h'' := S2.dropX (fun _ _ e => nomatch e)
    refine unpackN_ (s := { s with heap := h'', toks := tk }) S3.F S3.N hT hc.hh ?_ t5 fun h3 F3 N3 => ?_
    · rw [← List.length_map (f := (·.2)), t3, nlen t1, plen hp, List.size_toArray, slen hv]
    · have S4 : StE W c m m I' Γ ρ' O' (Ov ++ X) h3 := ⟨F3, N3, S3.ap, S3.nd, S3.E, .inl ⟨hf.hL, rfl⟩⟩
      exact stores_ok (s := { s with heap := h3, toks := tk }) hc hf t3 t4 t1 S4 hv hp fun m4 h4 tk4 O4 hk S5 => ⟨m4, h4, tk4, I', O4, _, _, rfl, ⟨hI, hk⟩, S5, .next, hK⟩
  | some ns =>
    obtain ⟨hns, hlen⟩ := swap_names ht hr
    refine Assign_Tuple_swapped (Tuple_ ((H.sls p2 K).seq S fun vs h' tk I' O' Ov sls ρ' hI S' hv ⟨hsz, ρ2, hp, hK⟩ => ?_)) rfl hw
    refine newTuple_N (s := { s with heap := h', toks := tk }) S'.F S'.N (fun h'' F' N' => ?_) (by rw [slen hv]; exact hsz)
    have S2 := S'.ofNew rfl F' N'
    have hT : IsTup h'' h'.objs.size vs.toArray := ⟨_, (S2.N _ (List.mem_append_right _ (List.mem_append_right _ (.head _)))).1, rfl, 0, rfl⟩
    have S3 : StE W c m m I' Γ ρ' O' (Ov ++ X) h'' := S2.dropX (fun _ _ e => nomatch e)
    refine unpackItemsN_ (s := { s with heap := h'', toks := tk }) S3.F S3.N hT hc.hh (by rw [nlen hns, plen hp, List.size_toArray, slen hv]) fun h3 F3 N3 => ?_
    obtain ⟨O6, hO6, hv6⟩ := hv.rev
    have S4 : StE W c m m I' Γ ρ' O' (O6 ++ X) h3 := (⟨F3, N3, S3.ap, S3.nd, S3.E, .inl ⟨hf.hL, rfl⟩⟩ : StE W c m m I' Γ ρ' O' (Ov ++ X) h3).perm (List.Perm.append_left _ (List.Perm.append_right _ hO6.symm)) S3.E fun p hp _ => (List.mem_append.mp hp).elim (fun q => List.mem_append_left _ (hO6.mem_iff.mpr q)) (List.mem_append_right _)
    have mrev : ∀ {xs : List Str} {js : List Nat}, xs.mapM (tgt Γ) = some js → xs.reverse.mapM (tgt Γ) = some js.reverse := fun {xs} => by
      induction xs with
      | nil => intro js h; cases h; rfl
      | cons x r ih =>
        intro js h
        rw [List.mapM_cons] at h
        cases h1 : tgt Γ x with
        | none => rw [h1] at h; cases h
        | some a => cases h2 : r.mapM (tgt Γ) with
          | none => rw [h1, h2] at h; cases h
          | some b =>
            rw [h1, h2] at h; cases h
            rw [List.reverse_cons, List.mapM_append, ih h2, List.reverse_cons, List.mapM_cons, h1]; rfl
    exact stores_ok (s := { s with heap := h3, toks := tk }) (sls := sls.reverse) hc hf (by simp) (fun q hq => by
      have : ∀ (l : List Str), ∀ q ∈ (l.map fun n => bindName c.env n).zip l, StoreOf W c q.1 q.2 := fun l => by
        induction l with
        | nil => exact fun q hq => nomatch hq
        | cons a r ih => exact fun q hq => (List.mem_cons.mp hq).elim (fun e => e ▸ storeBind a) (ih q)
      exact this _ q hq) (mrev hns) S4 hv6 (puts_rev hn hlen hp) fun m4 h4 tk4 O4 hk S5 => ⟨m4, h4, tk4, I', O4, _, _, rfl, ⟨hI, hk⟩, S5, .next, hK⟩⟩
end
open PySem PySem.W PyProof.Rows PySem.Calls PySem.Spec

noncomputable def flat (Γ : Gam) : Prop := Γ.all (fun p => isVis p.2) = true
noncomputable def Snd (W : Wd) (k : Nat) (c : Cfg) (Γ : Gam) (n : Nat) : Cd → Prop
  | .ex e => SE W c Γ e (sem W k (co n Γ (.ex e)))
  | .exs es => SEs W c Γ es (sem W k (co n Γ (.exs es)))
  | .op e => SO W c Γ e (sem W k (co n Γ (.op e)))
  | .st s => Fun c Γ → SSt W c Γ s (sem W k (co n Γ (.st s)))
  | .sts ss => Fun c Γ → SSs W c Γ ss (sem W k (co n Γ (.sts ss)))

section
variable {W : Wd} {c : Cfg} {k : Nat} {Γ : Gam} {x : Str} {j : Nat}

theorem SEs.bad {xs} : SEs W c Γ xs P.none := ⟨fun _ h => h.elim, fun _ h => h.elim⟩
theorem SO.bad {e} : SO W c Γ e P.none := fun h => h.elim
theorem SO.ofSE {e : Expr} {q : P} (H : SE W c Γ e q) : SO W c Γ (some e) q := fun h => H.o h
theorem nameOf_some {e : Expr} {x : Str} (h : nameOf e = some x) : ∃ p, e = .Name x p := by
  cases e
  case Name y p => cases h; exact ⟨p, rfl⟩
  all_goals cases h
theorem bind_name {α : Type} {e : Expr} {f : Str → Option α} {j : α} (h : (nameOf e).bind f = some j) : ∃ x p, e = .Name x p ∧ f x = some j := by
  cases hn : nameOf e with
  | none => rw [hn] at h; cases h
  | some x =>
    rw [hn] at h
    obtain ⟨p, rfl⟩ := nameOf_some hn
    exact ⟨x, p, rfl, h⟩
theorem tgt_fnd (h : tgt Γ x = some j) : ∃ st, fnd x Γ = some (j, st) := by
  unfold tgt at h
  split at h
  · rename_i h'; cases h; exact ⟨_, h'⟩
  · rename_i h'; cases h; exact ⟨_, h'⟩
  · cases h

theorem var_snd (hc : CfgOk W c k) {p : Pos} : SE W c Γ (.Name x p) (sem W k (varT Γ x)) := by
  unfold varT
  split
  · exact SE.bad
  · split
    · exact SE.var hc (by assumption) (by assumption)
    · exact SE.bad
theorem sub_snd (hc : CfgOk W c k) {o i : Expr} {p : Pos} {to ti : T} (H1 : SE W c Γ o (sem W k to)) (H2 : SE W c Γ i (sem W k ti)) : SE W c Γ (.Subscript o i p) (sem W k (subT Γ o to ti)) := by
  unfold subT
  split
  · rename_i j hj
    obtain ⟨x, px, rfl, ht⟩ := bind_name hj
    split
    · exact SE.bad
    · rename_i hd
      obtain ⟨st, hf, hst⟩ := tgtL_fnd ht
      exact SE.subv hc hf hst (fun e => hd (congrArg some e)) H2
  · exact SE.sub H1 H2
theorem int1_eq {r : List Expr} {i : Int} (h : int1 r = some i) : ∃ kk p, r = [.Constant (.int i) kk p] := by
  unfold int1 at h
  split at h
  · cases h; exact ⟨_, _, rfl⟩
  · cases h
theorem call_snd (hc : CfgOk W c k) {f a : Expr} {r : List Expr} {p : Pos} {tf tr tas : T} (hf : isAttr f = false) (H1 : SE W c Γ f (sem W k tf)) (H2 : SEs W c Γ r (sem W k tr)) (H3 : SEs W c Γ (a :: r) (sem W k tas)) :
    SE W c Γ (.Call f (a :: r) [] p) (sem W k (callT Γ f a r tf tr tas)) := by
  unfold callT
  split
  · exact SE.bad
  · rename_i hs
    have hs' : (a :: r).any isStar = false := by simpa using hs
    split
    · rename_i j hj
      obtain ⟨x, px, rfl, ht⟩ := bind_name hj
      split
      · exact SE.bad
      · rename_i hd
        split
        · obtain ⟨st, hfn, hst⟩ := tgtL_fnd ht
          exact SE.callo hc hf hfn hst (fun e => hd (congrArg some e)) H1 H2
        · split
          · rename_i hl
            obtain ⟨_, hr⟩ := hl
            have hr := List.eq_nil_of_length_eq_zero hr
            subst hr
            obtain ⟨st, hfn, hst⟩ := tgtL_fnd ht
            exact SE.calll hc hf hfn (fun e => hd (congrArg some e)) H1
          · exact SE.call hc hf hs' H1 H3
    · split
      · split
        · rename_i j hj
          obtain ⟨x, px, rfl, ht⟩ := bind_name hj
          obtain ⟨st, hfnd⟩ := tgt_fnd ht
          split
          · rename_i i hi
            obtain ⟨kk, pi, rfl⟩ := int1_eq hi
            split
            · exact SE.bad
            · rename_i hd
              exact SE.callc hc hf hfnd (fun e => hd (congrArg some e)) H1
          · exact SE.bad
        · exact SE.bad
      · exact SE.call hc hf hs' H1 H3

theorem swaps_false {v : Expr} (h : ∀ a b d e, v ≠ .ListComp a b d e) (hq : sem W k (co 1 Γ (.ex v)) = P.none → False) : True := trivial
theorem swaps_sub {v : Expr} {o i : Expr} {pp : Pos} {l : Nat} {env : Env} : swapsWith v (some (.Subscript o i pp)) l env = pure false := by cases v <;> rfl
theorem swaps_tup {v : Expr} {xs kk pp} {l : Nat} {env : Env} : swapsWith v (some (.Tuple xs kk pp)) l env = pure false := by cases v <;> rfl
theorem swapped_none {v : Expr} (h : tupOf v = none) {xs kk pp} {env : Env} : swappedStores [.Tuple xs kk pp] v env = pure none := by cases v <;> first | rfl | cases h

theorem sto_snd (hc : CfgOk W c k) (hF : Fun c Γ) {o i v : Expr} {pp p : Pos} {ti tv : T} (H1 : SE W c Γ i (sem W k ti)) (H2 : SE W c Γ v (sem W k tv)) : SSt W c Γ (.Assign [.Subscript o i pp] v p) (sem W k (stoT Γ o ti tv)) := by
  unfold stoT
  split
  · rename_i j hj
    obtain ⟨x, px, rfl, ht⟩ := bind_name hj
    split
    · exact SSt.bad
    · rename_i hd
      obtain ⟨st, hf, hst⟩ := tgtL_fnd ht
      exact SSt.sto hc hF hf hst (fun e => hd (congrArg some e)) swaps_sub H2 H1
  · exact SSt.bad
theorem aug_snd (hc : CfgOk W c k) (hF : Fun c Γ) {t v : Expr} {op : Operator} {p : Pos} {tv : T} (H2 : SE W c Γ v (sem W k tv)) : SSt W c Γ (.AugAssign t op v p) (sem W k (augT Γ t op tv)) := by
  unfold augT
  split
  · rename_i j hj
    obtain ⟨x, px, rfl, ht⟩ := bind_name hj
    exact SSt.aug hc hF ht H2
  · exact SSt.bad
theorem app_snd (hc : CfgOk W c k) (hF : Fun c Γ) {o a : Expr} {nm : Str} {ap p p2 : Pos} {ks : List Keyword} {ta : T} (H : SE W c Γ a (sem W k ta)) : SSt W c Γ (.Expr (.Call (.Attribute o nm ap) [a] ks p) p2) (sem W k (appT Γ o a nm ap p ks ta)) := by
  unfold appT
  split
  · rename_i j hj
    obtain ⟨x, px, rfl, ht⟩ := bind_name hj
    split
    · rename_i h
      obtain ⟨⟨hs, rfl⟩, hl, hk, hd⟩ := h
      have hk := List.eq_nil_of_length_eq_zero hk
      subst hk
      obtain ⟨st, hf, hst⟩ := tgtL_fnd ht
      exact SSt.app hc hF hf hst (fun e => hd (congrArg some e)) hs hl H
    · exact SSt.bad
  · exact SSt.bad
theorem asgT_snd (hc : CfgOk W c k) (hF : Fun c Γ) {xs : List Expr} {v : Expr} {kk pp p} {tes tv : T} (H1 : SEs W c Γ ((tupOf v).getD []) (sem W k tes)) (H2 : SE W c Γ v (sem W k tv)) : SSt W c Γ (.Assign [.Tuple xs kk pp] v p) (sem W k (asgTT Γ xs v tes tv)) := by
  unfold asgTT
  split
  · rename_i js hj
    split
    · rename_i es he
      split
      · rename_i h
        have : ∃ k2 p2, v = .Tuple es k2 p2 := by
          cases v
          case Tuple a b d => cases he; exact ⟨b, d, rfl⟩
          all_goals cases he
        obtain ⟨k2, p2, rfl⟩ := this
        exact SSt.asgs hc hF hj h.1 h.2 H1
      · exact SSt.bad
    · rename_i he
      exact SSt.unp hc hF hj (fun _ => swaps_tup) (fun _ => swapped_none he) H2
  · exact SSt.bad
theorem for1_snd (hc : CfgOk W c k) (hF : Fun c Γ) {iter : Expr} {b : List Stmt} {px p} {ti tb : T} (hset : notSet iter = true) (H1 : SE W c Γ iter (sem W k ti)) (H2 : SSs W c Γ b (sem W k tb)) : SSt W c Γ (.For (.Name x px) iter b [] p) (sem W k (for1T Γ x ti tb)) := by
  unfold for1T
  split
  · exact SSt.for1 hc hF (by assumption) hset H1 H2
  · exact SSt.bad
theorem for2_snd (hc : CfgOk W c k) (hF : Fun c Γ) {xs : List Expr} {iter : Expr} {b : List Stmt} {kk px p} {ti tb : T} (hset : notSet iter = true) (H1 : SE W c Γ iter (sem W k ti)) (H2 : SSs W c Γ b (sem W k tb)) : SSt W c Γ (.For (.Tuple xs kk px) iter b [] p) (sem W k (for2T Γ xs ti tb)) := by
  unfold for2T
  split
  · exact SSt.for2 hc hF (by assumption) hset H1 H2
  · exact SSt.bad
end
end Mine

set_option maxHeartbeats 1000000
namespace Mine
open PySem PySem.W PyProof.Rows PySem.Calls PySem.Spec

noncomputable def isComp : Expr → Bool
  | .ListComp .. => true
  | _ => false
noncomputable def Cmp (W : Wd) (k : Nat) (c : Cfg) (Γ : Gam) (n : Nat) (e : Expr) : Prop := isComp e = true → ∀ y py sp j, Fun c Γ → fnd y Γ = some (j, .loc) → swapsWith e (some (.Name y py)) sp.line c.env = pure true →
  SSt W c Γ (.Assign [.Name y py] e sp) (P.ofS fun ρ Φ => (sem W k (co n Γ (.ex e))).e ρ fun sl ρ => Φ .next (put j (some sl) ρ))
noncomputable def All (W : Wd) (k : Nat) (n : Nat) : Prop := ∀ c Γ, CfgOk W c k → (flat Γ → Fun c Γ) → (∀ code, Snd W k c Γ n code) ∧ ∀ e, Cmp W k c Γ n e

section
variable {W : Wd} {c : Cfg} {k : Nat} {Γ : Gam} {x : Str} {j n : Nat}

theorem inG_flat {sc : Scope} (h : compOk Γ x sc = true) : ¬ flat (inG sc.names x Γ) := by
  intro hf
  unfold compOk at h
  simp only [Bool.and_eq_true] at h
  obtain ⟨p, hp, hl⟩ := List.any_eq_true.mp h.2.2.2.2.2
  have hl : p.2 = .loc := of_decide_eq_true hl
  have hm : hide sc.names p ∈ inG sc.names x Γ := .tail _ (List.mem_append_right _ (List.mem_map.mpr ⟨p, hp, rfl⟩))
  have := List.all_eq_true.mp hf _ hm
  unfold hide at this
  rw [hl] at this
  cases this
theorem flat_of {sc : Scope} (h : compOk Γ x sc = true) : flat Γ := by
  unfold compOk at h
  simp only [Bool.and_eq_true] at h
  exact h.2.2.2.2.1

theorem comp_snd (ih : All W k n) (hW : GloOk W) (hc : CfgOk W c k) (hM : flat Γ → Fun c Γ) {elt it : Expr} {ifs : List Expr} {sc : Scope} {px p : Pos} (h : compOk Γ x sc = true ∧ notSet it = true) :
    let t : T := (match ifs with
          | [] => .comp (co n (inG sc.names x Γ) (.ex elt)) (co n Γ (.ex it)) (.bool true) ((compGlo sc.names).map (·.2))
          | [t] => .comp (co n (inG sc.names x Γ) (.ex elt)) (co n Γ (.ex it)) (co n (inG sc.names x Γ) (.ex t)) ((compGlo sc.names).map (·.2))
          | _ => .bad)
    SE W c Γ (.ListComp elt [⟨.Name x px, it, ifs, 0⟩] sc p) (sem W k t) ∧
    ∀ y py sp j, Fun c Γ → fnd y Γ = some (j, .loc) → swapsWith (.ListComp elt [⟨.Name x px, it, ifs, 0⟩] sc p) (some (.Name y py)) sp.line c.env = pure true →
      SSt W c Γ (.Assign [.Name y py] (.ListComp elt [⟨.Name x px, it, ifs, 0⟩] sc p) sp) (P.ofS fun ρ Φ => (sem W k t).e ρ fun sl ρ => Φ .next (put j (some sl) ρ)) := by
  have hF := hM (flat_of h.1)
  have hin : ∀ cl C, (∀ code, Snd W k (cc c sc cl C) (inG sc.names x Γ) n code) := fun cl C => (ih (cc c sc cl C) _ (cc_ok hc (compOk_inv h.1).1) fun hf => absurd hf (inG_flat h.1)).1
  have hit := (ih c Γ hc hM).1 (.ex it)
  cases ifs with
  | nil => exact ⟨SE.comp0 hc hW hF.hE hF.hL h.1 h.2 (fun cl C => hin cl C (.ex elt)) hit, fun y py sp j hf hy hsw => SSt.asg0 hc hW hf h.1 h.2 hy hsw (fun cl C => hin cl C (.ex elt)) hit⟩
  | cons ct r =>
    cases r with
    | nil => exact ⟨SE.compT hc hW hF.hE hF.hL h.1 h.2 (fun cl C => hin cl C (.ex elt)) (fun cl C => hin cl C (.ex ct)) hit, fun y py sp j hf hy hsw => SSt.asgT hc hW hf h.1 h.2 hy hsw (fun cl C => hin cl C (.ex elt)) (fun cl C => hin cl C (.ex ct)) hit⟩
    | cons _ _ => exact ⟨SE.bad, fun y py sp j hf hy hsw => SSt.bad⟩

theorem asgN_snd (hc : CfgOk W c k) (hF : Fun c Γ) {v : Expr} {px p : Pos} (H : SE W c Γ v (sem W k (co n Γ (.ex v)))) (HC : Cmp W k c Γ n v) : SSt W c Γ (.Assign [.Name x px] v p) (sem W k (asgNT Γ x px v (co n Γ (.ex v)))) := by
  unfold asgNT
  split
  · rename_i j hj
    split
    · rename_i hsw
      by_cases hcomp : isComp v = true
      · cases v
        case ListComp elt gens sc q =>
          by_cases hl : locB Γ x = true
          · have hfnd : fnd x Γ = some (j, .loc) := by
              unfold locB at hl
              split at hl
              · rename_i j' h'
                unfold tgt at hj
                rw [h'] at hj
                cases hj
                exact h'
              · cases hl
            refine ⟨fun {ρ Φ} K m I O X s S => ?_⟩
            refine (HC rfl x px p j hF hfnd ?_).s K m I O X s S
            have hk : (c.env.kindOf x == some .local) = true := (locB_env S.E hj).trans hl
            have hb : (c.env.blockKind == .function) = true := by unfold Env.blockKind; rw [hc.hke]; rfl
            have hs := hsw
            unfold swapOk at hs
            rw [hl] at hs
            have hs := Bool.and_eq_true_iff.mp hs
            have h1 : (px.line == q.line) = true := beq_iff_eq.mpr (of_decide_eq_true hs.1)
            show (pure (c.env.blockKind == .function && c.env.kindOf x == some .local && px.line == q.line && !(sc.names.any fun (n, k) => n == x && (k == .local || k == .cell))) : Sem Bool) = pure true
            rw [hb, hk, h1]
            exact congrArg pure hs.2
          · have hl := Bool.eq_false_iff.mpr hl
            refine ⟨fun {ρ Φ} K m I O X s S => ?_⟩
            refine (SSt.asg hc hF hj ?_ H).s K m I O X s S
            show (pure (c.env.blockKind == .function && c.env.kindOf x == some .local && px.line == q.line && !(sc.names.any fun (n, k) => n == x && (k == .local || k == .cell))) : Sem Bool) = pure false
            rw [locB_env S.E hj, hl, Bool.and_false, Bool.false_and, Bool.false_and]
        all_goals cases hcomp
      · cases v
        case ListComp => exact absurd rfl hcomp
        case SetComp a b d e =>
          refine ⟨fun {ρ Φ} K m I O X s S => ?_⟩
          have : co n Γ (.ex (.SetComp a b d e)) = .bad := by cases n <;> rfl
          rw [this] at K
          exact K.elim
        case DictComp a b d e f =>
          refine ⟨fun {ρ Φ} K m I O X s S => ?_⟩
          have : co n Γ (.ex (.DictComp a b d e f)) = .bad := by cases n <;> rfl
          rw [this] at K
          exact K.elim
        all_goals exact SSt.asg hc hF hj rfl H
    · exact SSt.bad
  · exact SSt.bad

theorem star_ne {e : Expr} (h : ¬ isStar e = true) (env : Env) (r : List Expr) : starEach (e :: r) env = (false, eval e env) :: starEach r env := star_cons (Bool.eq_false_iff.mpr h) env

theorem snd_ex (ih : All W k n) (hW : GloOk W) (hc : CfgOk W c k) (hM : flat Γ → Fun c Γ) (e : Expr) : SE W c Γ e (sem W k (co (n + 1) Γ (.ex e))) := by
  have IH := (ih c Γ hc hM).1
  cases e
  case Constant cst kk p =>
    cases cst
    case int => exact SE.int
    case bool => exact SE.bool
    all_goals exact SE.bad
  case Name y p => exact var_snd hc
  case UnaryOp op e p => exact SE.un (IH (.ex e))
  case BinOp l op r p => exact SE.bin (IH (.ex l)) (IH (.ex r))
  case BoolOp op es p =>
    match es, op with
    | [], _ => exact SE.bad
    | [_], _ => exact SE.bad
    | [x, y], .And => exact SE.and2 (IH (.ex x)) (IH (.ex y))
    | [x, y], .Or => exact SE.or2 (IH (.ex x)) (IH (.ex y))
    | _ :: _ :: _ :: _, _ => exact SE.bad
  case IfExp t x y p => exact SE.ife (IH (.ex t)) (IH (.ex x)) (IH (.ex y))
  case Compare l ops rs p =>
    match ops, rs with
    | [], _ => exact SE.bad
    | [op], [] => exact SE.bad
    | [op], [r] =>
      by_cases hb : notSet r = true
      · have e : co (n + 1) Γ (.ex (.Compare l [op] [r] p)) = .cmp op (co n Γ (.ex l)) (co n Γ (.ex r)) := if_pos hb
        rw [e]
        exact SE.cmp hc (by cases r <;> first | rfl | cases hb) (IH (.ex l)) (IH (.ex r))
      · have e : co (n + 1) Γ (.ex (.Compare l [op] [r] p)) = .bad := if_neg hb
        rw [e]
        exact SE.bad
    | [op], _ :: _ :: _ => exact SE.bad
    | _ :: _ :: _, _ => exact SE.bad
  case Tuple es kk p => exact SE.tup (IH (.exs es))
  case List es p => exact SE.list (IH (.exs es))
  case Slice lo hi st p =>
    cases st with
    | none => exact SE.slice (IH (.op lo)) (IH (.op hi))
    | some _ => exact SE.bad
  case Subscript o i p => exact sub_snd hc (IH (.ex o)) (IH (.ex i))
  case Call f as ks p =>
    cases ks with
    | cons _ _ => exact SE.bad
    | nil =>
      cases f
      case Attribute o nm ap =>
        cases as with
        | cons _ _ => exact SE.bad
        | nil =>
          by_cases h : (nm = Str.ofString "bit_length" ∧ ap.endLine = p.line) ∧ isSubs o = true
          · obtain ⟨⟨rfl, hl⟩, hs⟩ := h
            have e : co (n + 1) Γ (.ex (.Call (.Attribute o (Str.ofString "bit_length") ap) [] [] p)) = .bitl (co n Γ (.ex o)) := if_pos ⟨⟨rfl, hl⟩, hs⟩
            rw [e]
            exact SE.bitl hs hl (IH (.ex o))
          · have e : co (n + 1) Γ (.ex (.Call (.Attribute o nm ap) [] [] p)) = .bad := if_neg h
            rw [e]
            exact SE.bad
      all_goals
        cases as with
        | nil => exact SE.bad
        | cons a r => exact call_snd hc rfl (IH (.ex _)) (IH (.exs r)) (IH (.exs (a :: r)))
  case ListComp elt gens sc p =>
    match gens with
    | [] => exact SE.bad
    | ⟨t, _, _, _⟩ :: _ :: _ => cases t <;> exact SE.bad
    | [⟨t, it, ifs, a⟩] =>
      cases t
      case Name y py =>
        by_cases h : a = 0 ∧ (compOk Γ y sc = true ∧ notSet it = true)
        · obtain ⟨rfl, h⟩ := h
          have e : co (n + 1) Γ (.ex (.ListComp elt [⟨.Name y py, it, ifs, 0⟩] sc p)) = _ := if_pos ⟨rfl, h⟩
          rw [e]
          exact (comp_snd ih hW hc hM h).1
        · have e : co (n + 1) Γ (.ex (.ListComp elt [⟨.Name y py, it, ifs, a⟩] sc p)) = .bad := if_neg h
          rw [e]
          exact SE.bad
      all_goals exact SE.bad
  all_goals exact SE.bad
end
end Mine

set_option maxHeartbeats 1000000
namespace Mine
open PySem PySem.W PyProof.Rows PySem.Calls PySem.Spec

section
variable {W : Wd} {c : Cfg} {k : Nat} {Γ : Gam} {x : Str} {j n : Nat}

theorem ex_snd (hc : CfgOk W c k) {f : Expr} {as : List Expr} {ks : List Keyword} {q p : Pos} {t : T} (H : SE W c Γ (.Call f as ks q) (sem W k t)) : SSt W c Γ (.Expr (.Call f as ks q) p) (sem W k (.ex t)) := ⟨fun {ρ Φ} K m I O X s S =>
  wpAny_Expr_any (seqK H.e (fun d ρ => Φ .next ρ) K S fun v h' tk I' O' d ρ' hI S' hv hK => ⟨m, h', tk, I', O', _, ρ', rfl, ⟨hI, Kp.rfl⟩, S', .next, hK⟩) (by unfold interactive; rw [hc.hke]; rfl) rfl⟩

theorem snd_st (ih : All W k n) (hW : GloOk W) (hc : CfgOk W c k) (hM : flat Γ → Fun c Γ) (st : Stmt) (hF : Fun c Γ) : SSt W c Γ st (sem W k (co (n + 1) Γ (.st st))) := by
  have IH := (ih c Γ hc hM).1
  have IC := (ih c Γ hc hM).2
  cases st
  case Assign ts v p =>
    match ts with
    | [] => exact SSt.bad
    | t :: _ :: _ => cases t <;> exact SSt.bad
    | [t] =>
      cases t
      case Name y py => exact asgN_snd hc hF (IH (.ex v)) (IC v)
      case Tuple xs kk pp => exact asgT_snd hc hF (IH (.exs _)) (IH (.ex v))
      case Subscript o i pp => exact sto_snd hc hF (IH (.ex i)) (IH (.ex v))
      all_goals exact SSt.bad
  case AugAssign t op v p => exact aug_snd hc hF (IH (.ex v))
  case Expr e p =>
    cases e
    case Call f as ks q =>
      cases f
      case Attribute o nm ap =>
        match as with
        | [] => exact SSt.bad
        | [a] => exact app_snd hc hF (IH (.ex a))
        | _ :: _ :: _ => exact SSt.bad
      all_goals exact ex_snd (t := co n Γ (.ex _)) hc (IH (.ex _))
    all_goals exact SSt.bad
  case If t b o p => exact SSt.iff (IH (.ex t)) (IH (.sts b) hF) (IH (.sts o) hF)
  case While t b o p =>
    cases o with
    | nil => exact SSt.whl (IH (.ex t)) (IH (.sts b) hF)
    | cons _ _ => exact SSt.bad
  case For tg it b o p =>
    cases o with
    | cons _ _ => exact SSt.bad
    | nil =>
      by_cases hs : notSet it = false
      · have e : co (n + 1) Γ (.st (.For tg it b [] p)) = .bad := if_pos hs
        rw [e]
        exact SSt.bad
      · have hs' : notSet it = true := by simpa using hs
        cases tg
        case Name y py =>
          have e : co (n + 1) Γ (.st (.For (.Name y py) it b [] p)) = for1T Γ y (co n Γ (.ex it)) (co n Γ (.sts b)) := if_neg hs
          rw [e]
          exact for1_snd hc hF hs' (IH (.ex it)) (IH (.sts b) hF)
        case Tuple xs kk pp =>
          have e : co (n + 1) Γ (.st (.For (.Tuple xs kk pp) it b [] p)) = for2T Γ xs (co n Γ (.ex it)) (co n Γ (.sts b)) := if_neg hs
          rw [e]
          exact for2_snd hc hF hs' (IH (.ex it)) (IH (.sts b) hF)
        all_goals
          refine ⟨fun {ρ Φ} K m I O X s S => ?_⟩
          have K' : (sem W k (if notSet it = false then T.bad else T.bad)).s ρ Φ := K
          rw [if_neg hs] at K'
          exact K'.elim
  case Return v p =>
    cases v with
    | none => exact SSt.bad
    | some e => exact SSt.ret (IH (.ex e))
  case Break p => exact SSt.brk
  all_goals exact SSt.bad

theorem snd_all (hW : GloOk W) : ∀ n, All W k n
  | 0 => fun c Γ hc hM => ⟨fun code => by
      cases code with
      | ex e => exact SE.bad
      | exs es => exact SEs.bad
      | op e => exact SO.bad
      | st s => exact fun _ => SSt.bad
      | sts ss => exact fun _ => SSs.bad, fun e hcomp y py sp j hF hy hsw => SSt.bad⟩
  | n + 1 => fun c Γ hc hM => by
    have ih := snd_all hW n
    have IH := (ih c Γ hc hM).1
    refine ⟨fun code => ?_, fun e => ?_⟩
    · cases code with
      | ex e => exact snd_ex ih hW hc hM e
      | exs es =>
        cases es with
        | nil => exact SEs.nil
        | cons e r =>
          by_cases h : isStar e = true
          · have q : co (n + 1) Γ (.exs (e :: r)) = .bad := if_pos h
            show SEs W c Γ (e :: r) (sem W k (co (n + 1) Γ (.exs (e :: r))))
            rw [q]
            exact SEs.bad
          · have q : co (n + 1) Γ (.exs (e :: r)) = .cons (co n Γ (.ex e)) (co n Γ (.exs r)) := if_neg h
            show SEs W c Γ (e :: r) (sem W k (co (n + 1) Γ (.exs (e :: r))))
            rw [q]
            exact SEs.cons (fun env => star_ne h env r) (IH (.ex e)) (IH (.exs r)) rfl rfl
      | op e =>
        cases e with
        | none => exact SO.nil
        | some e => exact SO.ofSE (IH (.ex e))
      | st s => exact snd_st ih hW hc hM s
      | sts ss =>
        intro hF
        cases ss with
        | nil => exact SSs.nil rfl
        | cons a r => exact SSs.cons (IH (.st a) hF) (IH (.sts r) hF) rfl
    · intro hcomp y py sp j hF hy hsw
      cases e
      case ListComp elt gens sc p =>
        match gens, hsw with
        | [], _ => exact SSt.bad
        | ⟨t, _, _, _⟩ :: _ :: _, _ => cases t <;> exact SSt.bad
        | [⟨t, it, ifs, a⟩], hsw =>
          cases t
          case Name z pz =>
            by_cases h : a = 0 ∧ (compOk Γ z sc = true ∧ notSet it = true)
            · obtain ⟨rfl, h⟩ := h
              have q : co (n + 1) Γ (.ex (.ListComp elt [⟨.Name z pz, it, ifs, 0⟩] sc p)) = _ := if_pos ⟨rfl, h⟩
              rw [q]
              exact (comp_snd ih hW hc hM h).2 y py sp j hF hy hsw
            · have q : co (n + 1) Γ (.ex (.ListComp elt [⟨.Name z pz, it, ifs, a⟩] sc p)) = .bad := if_neg h
              rw [q]
              exact SSt.bad
          all_goals exact SSt.bad
      all_goals cases hcomp
end
open PySem PySem.W PyProof.Rows PySem.Calls PySem.Spec

theorem CallOk.up {W : Wd} {k k' : Nat} {x args r args'} (h : CallOk W k x args r args') (hk : k ≤ k') : CallOk W k' x args r args' :=
  fun c m I O X s vs f hc => h c m I O X s vs f { hc with hd := Nat.lt_of_le_of_lt (Nat.add_le_add_left hk _) hc.hd, hu := Nat.lt_of_le_of_lt (Nat.add_le_add_left (Nat.mul_le_mul_left 8 hk) _) hc.hu }

noncomputable def envF (d : DefRec) (L a : Addr) (cd : Value) (cells : List (Str × Addr)) : Env := envX d.name d.scope L a cd cells
noncomputable abbrev cfgF (c : Cfg) (g : Heap) (L a : Addr) (e : Env) : Cfg := { env := e, fenv := e, A := c.A.deeper e, A₀ := c.A, base := c.base, h₀ := g, outer := c.fenv :: c.outer, L := L }

theorem cfgF_ok {W : Wd} {k : Nat} {c : Cfg} (hc : CfgOk W c (k + 1)) {g : Heap} {L a : Addr} {d : DefRec} {cd : Value} {cells : List (Str × Addr)} (hk : d.scope.kind = .function) (B : Below c.A c.base (c.fenv :: c.outer) g) (hg : ∀ b o, c.h₀.get? b = some o → g.get? b = some o) :
    CfgOk W (cfgF c g L a (envX d.name d.scope L a cd cells)) k where
  B := B
  T := hc.T.keeps hg
  hh := hc.hh
  hA := Around.frames_deeper hc.hA
  hf := rfl
  hfl := rfl
  hk := hk
  hke := hk
  hg := rfl
  hb := rfl
  hfr := rfl
  hd := by
    have := hc.hd
    show c.A.depth + 1 + k < recursionLimit
    omega
  hu := by
    have := hc.hu
    show (c.A.deeper _).units + 8 * k < cLine
    have e : (c.A.deeper (envX d.name d.scope L a cd cells)).units ≤ c.A.units + 8 := by
      exact Nat.add_le_add_left (by decide) _
    omega

noncomputable def noCell (l : List (Str × NameKind)) : Bool := l.all fun p => match p.2 with | .local => true | .globalImplicit => true | _ => false

section
variable {W : Wd} {c : Cfg} {k : Nat} {m : Str → Option Value} {I O X : Led} {h : Heap} {s : Shared} {p : Str} {Op : Led} {args : List (Str × Sl)} {fx : List Str}

theorem entry_env (hW : GloOk W) : ∀ {l : List (Str × NameKind)}, nodupK l = true → noCell l = true → (∀ n kd, (n, kd) ∈ l → c.env.kindOf n = some kd) → (∀ n, OslR W I (m n) (lkS n args) (if n = p then Op else [])) →
    ((p, NameKind.local) ∈ l → EnvR W c m m I (initG fx l) (initR args l) Op) ∧ ((∀ kd, (p, kd) ∉ l) → EnvR W c m m I (initG fx l) (initR args l) [])
  | [], _, _, _, _ => ⟨fun h => (nomatch h), fun _ => .nil⟩
  | (n, kd) :: r, hn, hc, hk, hr => by
    have hn' := Bool.and_eq_true_iff.mp hn
    have hc' := Bool.and_eq_true_iff.mp hc
    obtain ⟨ih1, ih2⟩ := entry_env hW hn'.2 hc'.2 (fun n kd h => hk n kd (.tail _ h)) hr
    have hfresh : ∀ kd', (n, kd') ∉ r := fun kd' hm => by
      have := hn'.1
      simp only [Bool.not_eq_true', List.any_eq_false, decide_eq_true_eq] at this
      exact this _ hm rfl
    cases kd
    case «local» =>
      have hkn := hk n _ (.head _)
      have sto : StoR W c m m n (if fx.any (fun y => decide (y = n)) = true then .fix else .loc) (m n) [] := by
        split
        · exact .fix hkn
        · exact .loc hkn
      have hrn := hr n
      refine ⟨fun hp => ?_, fun hp => ?_⟩
      · by_cases e : n = p
        · subst e
          rw [if_pos rfl] at hrn
          have := EnvR.cons sto hrn (ih2 hfresh)
          rw [List.nil_append, List.append_nil] at this
          exact this
        · rw [if_neg e] at hrn
          refine EnvR.cons sto hrn (ih1 ?_)
          rcases List.mem_cons.mp hp with q | q
          · cases q; exact absurd rfl e
          · exact q
      · have e : n ≠ p := fun e => by subst e; exact hp _ (List.Mem.head _)
        rw [if_neg e] at hrn
        exact EnvR.cons sto hrn (ih2 fun kd' hm => hp kd' (.tail _ hm))
    case globalImplicit =>
      have hkn := hk n _ (.head _)
      have one : ∀ {O}, EnvR W c m m I (initG fx r) (initR args r) O → EnvR W c m m I (initG fx ((n, .globalImplicit) :: r)) (initR args ((n, .globalImplicit) :: r)) O := fun {O} E => by
        show EnvR W c m m I ((n, Sto.glo) :: _) (gloD n :: _) O
        cases hg : gloD n with
        | none => exact EnvR.cons (O1 := []) (O2 := []) (StoR.glo (ov := none) hkn fun v e => nomatch e) .none E
        | some sl =>
          obtain ⟨v, d, rfl, hv, hR⟩ := hW n sl hg
          exact EnvR.cons (O1 := []) (O2 := []) (StoR.glo (ov := some v) hkn fun v' e => by cases e; exact hv) (.some (.val (hR I))) E
      refine ⟨fun hp => one (ih1 ?_), fun hp => one (ih2 fun kd' hm => hp kd' (.tail _ hm))⟩
      rcases List.mem_cons.mp hp with q | q
      · cases q
      · exact q
    all_goals cases hc'.1

theorem initG_names : ∀ {l : List (Str × NameKind)}, (initG fx l).map (·.1) = (l.filterMap fun q => match q.2 with | .local => some q.1 | .cell => some q.1 | .globalImplicit => some q.1 | _ => none)
  | [] => rfl
  | (n, kd) :: r => by
    have ih := initG_names (l := r)
    cases kd
    case «local» => exact congrArg (n :: ·) ih
    case cell => exact congrArg (n :: ·) ih
    case globalImplicit => exact congrArg (n :: ·) ih
    all_goals exact ih
theorem initG_sub : ∀ {l : List (Str × NameKind)} {n : Str}, n ∈ (initG fx l).map (·.1) → ∃ kd, (n, kd) ∈ l
  | [], n, h => nomatch h
  | (a, kd) :: r, n, h => by
    cases kd
    case «local» => exact (List.mem_cons.mp h).elim (fun e => e ▸ ⟨_, .head _⟩) fun h => (initG_sub h).imp fun _ h => .tail _ h
    case cell => exact (List.mem_cons.mp h).elim (fun e => e ▸ ⟨_, .head _⟩) fun h => (initG_sub h).imp fun _ h => .tail _ h
    case globalImplicit => exact (List.mem_cons.mp h).elim (fun e => e ▸ ⟨_, .head _⟩) fun h => (initG_sub h).imp fun _ h => .tail _ h
    all_goals exact (initG_sub (l := r) h).imp fun _ h => .tail _ h
theorem initG_nodup : ∀ {l : List (Str × NameKind)}, nodupK l = true → ((initG fx l).map (·.1)).Nodup
  | [], _ => List.nodup_nil
  | (a, kd) :: r, hn => by
    have hn' := Bool.and_eq_true_iff.mp hn
    have ih := initG_nodup hn'.2
    have fresh : a ∉ (initG fx r).map (·.1) := fun hm => by
      obtain ⟨kd', hm⟩ := initG_sub hm
      have := hn'.1
      simp only [Bool.not_eq_true', List.any_eq_false, decide_eq_true_eq] at this
      exact this _ hm rfl
    cases kd
    case «local» => exact List.nodup_cons.mpr ⟨fresh, ih⟩
    case cell => exact List.nodup_cons.mpr ⟨fresh, ih⟩
    case globalImplicit => exact List.nodup_cons.mpr ⟨fresh, ih⟩
    all_goals exact ih
end
open PySem PySem.W PyProof.Rows PySem.Calls PySem.Spec

theorem lookup_of_mem {α : Type} {n : Str} {v : α} : ∀ {l : List (Str × α)}, (l.map (·.1)).Nodup → (n, v) ∈ l → l.lookup n = some v
  | [], _, h => nomatch h
  | (a, w) :: r, hn, h => by
    have hn' := List.nodup_cons.mp hn
    rcases List.mem_cons.mp h with e | h
    · cases e; simp
    · have : n ≠ a := fun e => hn'.1 (e ▸ List.mem_map.mpr ⟨_, h, rfl⟩)
      rw [List.lookup_cons, beq_eq_false_iff_ne.mpr this]
      exact lookup_of_mem hn'.2 h
theorem mem_of_lookup {α : Type} {n : Str} {v : α} : ∀ {l : List (Str × α)}, l.lookup n = some v → (n, v) ∈ l
  | [], h => nomatch h
  | (a, w) :: r, h => by
    cases e : n == a with
    | true => rw [List.lookup_cons, e] at h; cases h; rw [beq_iff_eq.mp e]; exact .head _
    | false => rw [List.lookup_cons, e] at h; exact .tail _ (mem_of_lookup h)
theorem lookup_rev {α : Type} {n : Str} {l : List (Str × α)} (hn : (l.map (·.1)).Nodup) : l.reverse.lookup n = l.lookup n := by
  have hr : (l.reverse.map (·.1)).Nodup := by rw [List.map_reverse]; exact (List.reverse_perm _).nodup_iff.mpr hn
  cases e : l.lookup n with
  | some v => exact lookup_of_mem hr (List.mem_reverse.mpr (mem_of_lookup e))
  | none =>
    cases e' : l.reverse.lookup n with
    | none => rfl
    | some v => rw [lookup_of_mem hn (List.mem_reverse.mp (mem_of_lookup e'))] at e; cases e

section
variable {W : Wd} {c : Cfg} {k : Nat} {m : Str → Option Value} {I O X : Led} {h : Heap} {s : Shared} {p : Str} {Op : Led} {fx : List Str}

theorem vals_rel : ∀ {as : List Str} {vs : List Value} {ds : List D}, Rs W I vs ds → ∀ n, OslR W I ((as.zip vs).lookup n) (lkS n (as.zip (vals ds))) []
  | [], _, _, _, _ => .none
  | a :: as, [], [], _, _ => .none
  | a :: as, v :: vs, d :: ds, h, n => by
    cases h with
    | cons h1 h2 =>
      show OslR W I (((a, v) :: as.zip vs).lookup n) (if n = a then some (.val d) else lkS n (as.zip (vals ds))) []
      by_cases e : n = a
      · subst e
        rw [if_pos rfl, List.lookup_cons, beq_self_eq_true]
        exact .some (.val h1)
      · rw [if_neg e, List.lookup_cons, beq_eq_false_iff_ne.mpr e]
        exact vals_rel h2 n
theorem lk_none {as : List Str} {vs : List Value} {n : Str} (h : n ∉ as) : (as.zip vs).lookup n = none := by
  cases e : (as.zip vs).lookup n with
  | none => rfl
  | some v => exact absurd (List.of_mem_zip (mem_of_lookup e)).1 h

theorem SlsR.vals_rs : ∀ {vs ds Oz}, SlsR W I vs (Mine.vals ds) Oz → Rs W I vs ds
  | _, [], _, h => by cases h; exact .nil
  | _, _ :: _, _, h => by
    cases h with
    | cons a b =>
      cases a with
      | val a => exact .cons a (SlsR.vals_rs b)

/-- what is left of the first argument -/
noncomputable def FinP (G : Gam) (p : Str) (a0 a0' : Sl) (ρ : Rho) : Prop := (∃ d, a0 = .val d ∧ a0' = a0) ∨ ∃ l' j, fnd p G = some (j, .fix) ∧ a0' = .own l' ∧ nth ρ j = some (.own l')

structure FnOk (d : DefRec) (as : List Str) : Prop where
  bind : ∀ s pm code doc vs, vs.length = as.length → BindsTo s (docDef d.name d.params d.body d.scope pm code doc) ⟨vs, []⟩ (as.zip vs)
  loc : ∀ y ∈ as, d.scope.names.lookup y = some .local
  nd : nodupK d.scope.names = true
  and : as.Nodup
  nc : noCell d.scope.names = true
  kind : d.scope.kind = .function
  co : d.scope.isCoroutine = false
  gen : d.scope.isGenerator = false

theorem call_fn' {d : DefRec} {as : List Str} {a0 a0' : Sl} {ds : List D} {r : D} {n : Nat} {Q : Fl → Prop} (hQ : ∀ fl, Q fl → fl = .ret r ∨ (fl = .next ∧ r = .non)) (hW : GloOk W) (hd : d ∈ recsOf W.p) (hf : FnOk d (p :: as)) (hlen : as.length = ds.length)
    (hH : (sem W k (co n (initG fx d.scope.names) (.sts d.body))).s (initR ((p :: as).zip (a0 :: vals ds)) d.scope.names) (fun fl ρ => Q fl ∧ FinP (initG fx d.scope.names) p a0 a0' ρ)) :
    CallOk W (k + 1) d.name (a0 :: vals ds) r (a0' :: vals ds) := by
  intro c m I O X s vs f hc F N ap nd hv hm
  cases hv with
  | @cons v0 _ vs' _ O1 O2 h0 hr =>
    have e := SlsR.vals_inv hr
    subst e
    rw [List.append_nil] at *
    have hrs := SlsR.vals_rs hr
    obtain ⟨a, o, pm, code, doc, h1, h2, h3, h4⟩ := hc.T.fn d hd
    have e : f = a := by have := hm.symm.trans h1; cases this; rfl
    subst e
    have hvl : (v0 :: vs').length = (p :: as).length := by rw [List.length_cons, List.length_cons, hrs.length, hlen]
    have hzk : (((p :: as).zip (v0 :: vs')).map (·.1)) = p :: as := List.map_fst_zip (Nat.le_of_eq hvl.symm)
    refine wpAny_call (callX_plain hc.B F N hc.T.nolimit hc.hA (hc.hf) hc.hk (F.keep _ _ h2) h3 (h4.keeps F.keep) (Nat.lt_of_le_of_lt (Nat.le_add_right _ _) hc.hd) (hf.bind s pm code doc _ hvl) (fun y hy => hf.loc _ (List.of_mem_zip hy).1)
      (fun g L' h₁ FG F' N' B' st hlt => ?_) (fun x hx => ?_) hf.co hf.gen hf.kind)
    · have hc' : CfgOk W (cfgF c g L' f (envX d.name d.scope L' f code [])) k := cfgF_ok hc hf.kind B' FG.keep
      have hrel : ∀ n, OslR W I (((p :: as).zip (v0 :: vs')).reverse.lookup n) (lkS n ((p :: as).zip (a0 :: vals ds))) (if n = p then O1 else []) := fun n => by
        rw [lookup_rev (by rw [hzk]; exact hf.and)]
        show OslR W I (((p, v0) :: as.zip vs').lookup n) (if n = p then some a0 else lkS n (as.zip (vals ds))) _
        by_cases e : n = p
        · subst e
          rw [if_pos rfl, if_pos rfl, List.lookup_cons, beq_self_eq_true]
          exact .some h0
        · rw [if_neg e, if_neg e, List.lookup_cons, beq_eq_false_iff_ne.mpr e]
          exact vals_rel hrs n
      have E := (entry_env (c := cfgF c g L' f (envX d.name d.scope L' f code [])) (fx := fx) hW hf.nd hf.nc (fun n kd hm => nodupK_lookup hf.nd hm) hrel).1 (lookup_mem (hf.loc p (.head _)))
      have S : StE W (cfgF c g L' f (envX d.name d.scope L' f code [])) _ _ I (initG fx d.scope.names) (initR ((p :: as).zip (a0 :: vals ds)) d.scope.names) O1 X h₁ := ⟨F', N', ap, nd, E, .inl ⟨rfl, rfl⟩⟩
      have hFun : Fun (cfgF c g L' f (envX d.name d.scope L' f code [])) (initG fx d.scope.names) := ⟨rfl, rfl, initG_nodup hf.nd⟩
      have B := ((snd_all (k := k) hW n (cfgF c g L' f (envX d.name d.scope L' f code [])) (initG fx d.scope.names) hc' fun _ => hFun).1 (.sts d.body) hFun)
      refine wpAny_mono (B.s hH _ I O1 X { s with heap := h₁, toks := s.toks + ((p :: as).zip (v0 :: vs')).length } S) (fun fl s' hp => ?_) fun _ _ x => x.elim
      obtain ⟨m'', h', tk, I', O'', fl', ρ', rfl, ⟨hI, hKp⟩, S'', hfl, hq, hFin⟩ := hp
      have hv' : R W I' ((fun f : Flow => match f with | .ret v => v | _ => Value.none) fl) r := by
        rcases hQ _ hq with rfl | ⟨rfl, rfl⟩
        · cases hfl with
          | ret h => exact h
        · cases hfl; exact .non
      · skip
        have sub : ∀ {Oa : Led}, (∀ q ∈ Oa, q ∈ O'') → News g L' h' (I' ++ (Oa ++ X)) := fun {Oa} hs q hq => S''.N q ((List.mem_append.mp hq).elim (List.mem_append_left _) fun q => List.mem_append_right _ ((List.mem_append.mp q).elim (fun q => List.mem_append_left _ (hs _ q)) (List.mem_append_right _)))
        have apsub : ∀ {Oa : Led}, (∀ q ∈ Oa, q ∈ O'') → ∀ p ∈ I', ∀ q ∈ Oa ++ X, p.1 ≠ q.1 := fun {Oa} hs p hp q hq => S''.ap p hp q ((List.mem_append.mp hq).elim (fun q => List.mem_append_left _ (hs _ q)) (List.mem_append_right _))
        rcases hFin with ⟨d0, e1, rfl⟩ | ⟨l', j, hfnd, rfl, hnth⟩
        · subst e1
          cases h0 with
          | val h0 =>
            refine leaveK_ (F' := S''.F) (N' := sub (Oa := []) (fun q hq => nomatch hq)) fun F3 N3 => ⟨h', tk, I', [], rfl, hI, F3, N3, apsub (fun q hq => nomatch hq), ?_, .cons (.val (h0.mono hI)) (SlsR.vals (hrs.mono hI)), hv'⟩
            have := S''.nd
            rw [List.map_append] at this
            exact (List.nodup_append.mp this).2.1
        · obtain ⟨Oa, Ob, Q1, Q2, ov, rfl, sto, hsl, _⟩ := envAt S''.E hfnd
          rw [hnth] at hsl
          have hov : ov = some v0 := by
            have e1 : ov = m'' p := by cases sto with | fix _ => rfl
            rw [e1, hKp p j hfnd]
            show ((p :: as).zip (v0 :: vs')).reverse.lookup p = some v0
            rw [lookup_rev (by rw [hzk]; exact hf.and)]
            show ((p, v0) :: as.zip vs').lookup p = some v0
            rw [List.lookup_cons, beq_self_eq_true]
          cases hsl with
          | some hsl =>
            cases hov
            have hs : ∀ q ∈ Q2, q ∈ Oa ++ (Q1 ++ (Q2 ++ Ob)) := fun q hq => List.mem_append_right _ (List.mem_append_right _ (List.mem_append_left _ hq))
            refine leaveK_ (F' := S''.F) (N' := sub hs) fun F3 N3 => ⟨h', tk, I', Q2, rfl, hI, F3, N3, apsub hs, ?_, ?_, hv'⟩
            · have P := (perm_swap Oa Q1 Q2 Ob X)
              have := ((P.map (·.1)).nodup_iff.mp S''.nd)
              rw [List.map_append] at this
              exact (List.nodup_append.mp this).2.1
            · have := SlsR.cons hsl (SlsR.vals (hrs.mono hI))
              rwa [List.append_nil] at this
    · have := List.all_eq_true.mp hf.nc x hx
      intro e
      rw [e] at this
      cases this
theorem call_fn {d : DefRec} {as : List Str} {a0 a0' : Sl} {ds : List D} {r : D} {n : Nat} (hW : GloOk W) (hd : d ∈ recsOf W.p) (hf : FnOk d (p :: as)) (hlen : as.length = ds.length)
    (hH : (sem W k (co n (initG fx d.scope.names) (.sts d.body))).s (initR ((p :: as).zip (a0 :: vals ds)) d.scope.names) (fun fl ρ => fl = .ret r ∧ FinP (initG fx d.scope.names) p a0 a0' ρ)) :
    CallOk W (k + 1) d.name (a0 :: vals ds) r (a0' :: vals ds) := call_fn' (Q := fun fl => fl = .ret r) (fun _ h => .inl h) hW hd hf hlen hH
end
open PySem PySem.W PyProof.Rows PySem.Calls PySem.Spec

theorem cf_mem {b : Nat} : ∀ (l : List (Str × NameKind)) (n : Nat) (acc : List (Str × Addr)), b ≤ n → (∀ p ∈ acc, b ≤ p.2 ∧ p.2 < n) → (acc.map (·.2)).Nodup → (∀ p ∈ cellsFrom n l acc, b ≤ p.2) ∧ ((cellsFrom n l acc).map (·.2)).Nodup
  | [], n, acc, hb, h, hn => ⟨fun p hp => (h p hp).1, hn⟩
  | (x, k) :: r, n, acc, hb, h, hn => by
    unfold cellsFrom
    split
    · refine cf_mem r (n + 1) _ (Nat.le_succ_of_le hb) (fun p hp => ?_) (List.nodup_cons.mpr ⟨fun hm => ?_, hn⟩)
      · rcases List.mem_cons.mp hp with rfl | hp
        · exact ⟨hb, Nat.lt_succ_self _⟩
        · exact ⟨(h p hp).1, Nat.lt_succ_of_lt (h p hp).2⟩
      · obtain ⟨q, hq, e⟩ := List.mem_map.mp hm
        exact absurd (h q hq).2 (by rw [show q.2 = n from e]; exact Nat.lt_irrefl n)
    · exact cf_mem r n acc hb h hn
theorem nodup_snd {cs : List (Str × Addr)} (h : (cs.map (·.2)).Nodup) : ∀ {x y : Str} {a : Addr}, (x, a) ∈ cs → (y, a) ∈ cs → x = y := by
  induction cs with
  | nil => exact fun h => nomatch h
  | cons p r ih =>
    have hn := List.nodup_cons.mp h
    intro x y a h1 h2
    rcases List.mem_cons.mp h1 with e1 | h1 <;> rcases List.mem_cons.mp h2 with e2 | h2
    · rw [← e1] at e2; cases e2; rfl
    · exact absurd (List.mem_map.mpr ⟨_, h2, by rw [← e1]⟩) hn.1
    · exact absurd (List.mem_map.mpr ⟨_, h1, by rw [← e2]⟩) hn.1
    · exact ih hn.2 h1 h2
theorem cells_mem {cm : Str → Option Value} {cs : List (Str × Addr)} {cells : List (Addr × Obj)} (X : CellsAre cm cs cells) : ∀ {x a}, (x, a) ∈ cs → ∃ o, (a, o) ∈ cells ∧ o.data = .cell (cm x) := by
  induction X with
  | nil => exact fun h => nomatch h
  | cons hd _ ih =>
    intro x a hm
    rcases List.mem_cons.mp hm with e | hm
    · cases e; exact ⟨_, .head _, hd⟩
    · obtain ⟨o, h1, h2⟩ := ih hm; exact ⟨o, .tail _ h1, h2⟩

noncomputable def okKinds (l : List (Str × NameKind)) : Bool := l.all fun p => match p.2 with | .local => true | .cell => true | .globalImplicit => true | _ => false

section
variable {W : Wd} {c : Cfg} {k : Nat} {m lm cm : Str → Option Value} {I X : Led} {args : List (Str × Sl)} {cells : Led}
theorem entry_cells (hW : GloOk W) (hap : ∀ {x y : Str} {a : Addr}, c.env.cells.lookup x = some a → c.env.cells.lookup y = some a → x = y) :
    ∀ {l : List (Str × NameKind)}, nodupK l = true → okKinds l = true → (∀ n kd, (n, kd) ∈ l → c.env.kindOf n = some kd) → (∀ n, (n, NameKind.local) ∈ l → OslR W I (m n) (lkS n args) []) →
      (∀ n, (n, NameKind.cell) ∈ l → OslR W I (cm n) (lkS n args) [] ∧ ∃ a o, c.env.cells.lookup n = some a ∧ (a, o) ∈ cells ∧ o.data = .cell (cm n)) →
      ∃ O, EnvR W c m m I (initG [] l) (initR args l) O ∧ (∀ p ∈ O, p ∈ cells ∧ ∃ n, (n, NameKind.cell) ∈ l ∧ c.env.cells.lookup n = some p.1) ∧ (O.map (·.1)).Nodup
  | [], _, _, _, _, _ => ⟨[], .nil, (fun p hp => nomatch hp), List.nodup_nil⟩
  | (n, kd) :: r, hn, hc, hk, hl, hce => by
    have hn' := Bool.and_eq_true_iff.mp hn
    have hc' := Bool.and_eq_true_iff.mp hc
    obtain ⟨O, E, hO, hnd⟩ := entry_cells hW hap hn'.2 hc'.2 (fun n kd h => hk n kd (.tail _ h)) (fun n h => hl n (.tail _ h)) (fun n h => hce n (.tail _ h))
    have hfresh : ∀ kd', (n, kd') ∉ r := fun kd' hm => by
      have := hn'.1
      simp only [Bool.not_eq_true', List.any_eq_false, decide_eq_true_eq] at this
      exact this _ hm rfl
    have up : ∀ p ∈ O, p ∈ cells ∧ ∃ n', (n', NameKind.cell) ∈ (n, kd) :: r ∧ c.env.cells.lookup n' = some p.1 := fun p hp => ⟨(hO p hp).1, (hO p hp).2.imp fun _ h => ⟨.tail _ h.1, h.2⟩⟩
    cases kd
    case «local» => exact ⟨O, EnvR.cons (O1 := []) (O2 := []) (.loc (hk n _ (.head _))) (hl n (.head _)) E, up, hnd⟩
    case cell =>
      obtain ⟨h1, a, o, h2, h3, h4⟩ := hce n (.head _)
      refine ⟨(a, o) :: O, EnvR.cons (O1 := [(a, o)]) (O2 := []) (.cel (hk n _ (.head _)) h2 h4) h1 E, fun p hp => ?_, List.nodup_cons.mpr ⟨fun hm => ?_, hnd⟩⟩
      · rcases List.mem_cons.mp hp with rfl | hp
        · exact ⟨h3, n, .head _, h2⟩
        · exact up p hp
      · obtain ⟨q, hq, e⟩ := List.mem_map.mp hm
        obtain ⟨_, n', hm', hl'⟩ := hO q hq
        exact hfresh _ (hap (e ▸ hl') h2 ▸ hm')
    case globalImplicit =>
      refine ⟨O, ?_, up, hnd⟩
      have hkn := hk n _ (.head _)
      show EnvR W c m m I ((n, Sto.glo) :: _) (gloD n :: _) O
      cases hg : gloD n with
      | none => exact EnvR.cons (O1 := []) (O2 := []) (StoR.glo (ov := none) hkn fun v e => nomatch e) .none E
      | some sl =>
        obtain ⟨v, d, rfl, hv, hR⟩ := hW n sl hg
        exact EnvR.cons (O1 := []) (O2 := []) (StoR.glo (ov := some v) hkn fun v' e => by cases e; exact hv) (.some (.val (hR I))) E
    all_goals cases hc'.1
end
theorem bindL_eq {kf : Str → Option NameKind} {n : Str} (h : kf n = some .local) : ∀ {bs : List (Str × Value)} {m : Str → Option Value}, (bs.map (·.1)).Nodup → PySem.bindL kf bs m n = match bs.lookup n with | some v => some v | none => m n
  | [], _, _ => rfl
  | (x, v) :: r, m, hn => by
    have hn' := List.nodup_cons.mp hn
    show PySem.bindL kf r (if kf x = some .local then fun y => if y = x then some v else m y else m) n = _
    rw [bindL_eq h hn'.2, List.lookup_cons]
    by_cases e : n = x
    · subst e
      have : r.lookup n = none := by
        cases q : r.lookup n with
        | none => rfl
        | some v => exact absurd (List.mem_map.mpr ⟨_, mem_of_lookup q, rfl⟩) hn'.1
      rw [this, beq_self_eq_true, if_pos h]
      exact if_pos rfl
    · rw [beq_eq_false_iff_ne.mpr e]
      dsimp only
      cases r.lookup n with
      | some v => rfl
      | none =>
        dsimp only
        split
        · exact if_neg e
        · rfl
theorem bindC_eq {kf : Str → Option NameKind} {n : Str} (h : ¬ kf n = some .local) : ∀ {bs : List (Str × Value)} {m : Str → Option Value}, (bs.map (·.1)).Nodup → PySem.bindC kf bs m n = match bs.lookup n with | some v => some v | none => m n
  | [], _, _ => rfl
  | (x, v) :: r, m, hn => by
    have hn' := List.nodup_cons.mp hn
    show PySem.bindC kf r (if kf x = some .local then m else fun y => if y = x then some v else m y) n = _
    rw [bindC_eq h hn'.2, List.lookup_cons]
    by_cases e : n = x
    · subst e
      have : r.lookup n = none := by
        cases q : r.lookup n with
        | none => rfl
        | some v => exact absurd (List.mem_map.mpr ⟨_, mem_of_lookup q, rfl⟩) hn'.1
      rw [this, beq_self_eq_true, if_neg h]
      exact if_pos rfl
    · rw [beq_eq_false_iff_ne.mpr e]
      dsimp only
      cases r.lookup n with
      | some v => rfl
      | none =>
        dsimp only
        split
        · rfl
        · exact if_neg e

/-- the entry state of a def with cells -/
theorem entryC {W : Wd} {d : DefRec} {as : List Str} {vs : List Value} {ds : List D} {g h₁ : Heap} {L f : Addr} {code : Value} {I X cells : Led} {c : Cfg} (hW : GloOk W) (hE : c.env = envOfC d.name d.scope L f code) (hh : c.h₀ = g) (hL : c.L = L)
    (hnd : nodupK d.scope.names = true) (hok : okKinds d.scope.names = true) (hcn : ((cellsFrom 0 d.scope.names []).map (·.1)).Nodup) (hand : as.Nodup) (hrs : Rs W I vs ds) (hlen : as.length = vs.length)
    (F' : Fr g L h₁ (PySem.bindL (envOfC d.name d.scope L f code).kindOf (as.zip vs) fun _ => none)) (N' : News g L h₁ (cells ++ (I ++ X)))
    (Y : CellsAre (PySem.bindC (envOfC d.name d.scope L f code).kindOf (as.zip vs) fun _ => none) (cellsFrom (L + 1) d.scope.names []) cells) (hlt : ∀ p ∈ I ++ X, p.1 < L) (ap : ∀ p ∈ I, ∀ q ∈ X, p.1 ≠ q.1) (nd : (X.map (·.1)).Nodup) :
    ∃ O, StE W c (PySem.bindL (envOfC d.name d.scope L f code).kindOf (as.zip vs) fun _ => none) (PySem.bindL (envOfC d.name d.scope L f code).kindOf (as.zip vs) fun _ => none) I (initG [] d.scope.names) (initR (as.zip (vals ds)) d.scope.names) O X h₁ := by
  have hcn' : ((cellsFrom (L + 1) d.scope.names []).map (·.1)).Nodup := cellsFrom_names d.scope.names 0 (L + 1) [] [] rfl ▸ hcn
  have CF := cf_mem (b := L + 1) d.scope.names (L + 1) [] (Nat.le_refl _) (fun p hp => nomatch hp) List.nodup_nil
  have hcl : c.env.cells = cellsFrom (L + 1) d.scope.names [] := by rw [hE]; rfl
  have hkind : c.env.kindOf = (envOfC d.name d.scope L f code).kindOf := by rw [hE]
  have hzk : ((as.zip vs).map (·.1)).Nodup := by rw [List.map_fst_zip (Nat.le_of_eq hlen)]; exact hand
  have lkz : ∀ n : Str, (match (as.zip vs).lookup n with | some v => some v | none => none) = (as.zip vs).lookup n := fun n => by cases (as.zip vs).lookup n <;> rfl
  have ap' : ∀ {x y : Str} {a : Addr}, c.env.cells.lookup x = some a → c.env.cells.lookup y = some a → x = y := fun h1 h2 => by
    rw [hcl] at h1 h2
    exact nodup_snd CF.2 (mem_of_lookup h1) (mem_of_lookup h2)
  obtain ⟨O, E, hO, hOn⟩ := entry_cells (m := PySem.bindL (envOfC d.name d.scope L f code).kindOf (as.zip vs) fun _ => none) (cm := PySem.bindC (envOfC d.name d.scope L f code).kindOf (as.zip vs) fun _ => none) (I := I) (args := as.zip (vals ds)) (cells := cells) hW ap' hnd hok
    (fun n kd hm => by rw [hkind]; exact nodupK_lookup hnd hm)
    (fun n hm => by
      rw [bindL_eq (nodupK_lookup hnd hm) hzk, lkz]
      exact vals_rel hrs n)
    (fun n hm => by
      have hk : (envOfC d.name d.scope L f code).kindOf n = some .cell := nodupK_lookup hnd hm
      refine ⟨?_, ?_⟩
      · rw [bindC_eq (by rw [hk]; exact fun h => nomatch h) hzk, lkz]
        exact vals_rel hrs n
      · obtain ⟨a, ha⟩ := Option.isSome_iff_exists.mp (cellsFrom_some d.scope.names (L + 1) [] (.inl hk))
        obtain ⟨o, ho, hd⟩ := cells_mem Y (mem_of_lookup ha)
        exact ⟨a, o, by rw [hcl]; exact ha, ho, hd⟩)
  have hOL : ∀ q ∈ O, L < q.1 := fun q hq => by
    obtain ⟨_, n, _, hl⟩ := hO q hq
    rw [hcl] at hl
    exact CF.1 _ (mem_of_lookup hl)
  refine ⟨O, by rw [hh, hL]; exact F', ?_, ?_, ?_, E, .inl ⟨by rw [hE, hL]; rfl, rfl⟩⟩
  · rw [hh, hL]
    intro p hp
    rcases List.mem_append.mp hp with hp | hp
    · exact N' p (List.mem_append_right _ (List.mem_append_left _ hp))
    · rcases List.mem_append.mp hp with hp | hp
      · exact N' p (List.mem_append_left _ (hO p hp).1)
      · exact N' p (List.mem_append_right _ (List.mem_append_right _ hp))
  · intro p hp q hq
    rcases List.mem_append.mp hq with hq | hq
    · exact Nat.ne_of_lt (Nat.lt_trans (hlt p (List.mem_append_left _ hp)) (hOL q hq))
    · exact ap p hp q hq
  · rw [List.map_append]
    refine List.nodup_append.mpr ⟨hOn, nd, fun a ha b hb e => ?_⟩
    obtain ⟨q, hq, rfl⟩ := List.mem_map.mp ha
    obtain ⟨p, hp, rfl⟩ := List.mem_map.mp hb
    have h1 := hOL q hq
    have h2 := hlt p (List.mem_append_right _ hp)
    rw [← e] at h2
    exact Nat.lt_irrefl _ (Nat.lt_trans h1 h2)

structure FnOkC (d : DefRec) (as : List Str) : Prop where
  bind : ∀ s pm code doc vs, vs.length = as.length → BindsTo s (docDef d.name d.params d.body d.scope pm code doc) ⟨vs, []⟩ (as.zip vs)
  loc : ∀ y ∈ as, d.scope.names.lookup y = some .local ∨ d.scope.names.lookup y = some .cell
  nd : nodupK d.scope.names = true
  and : as.Nodup
  nc : okKinds d.scope.names = true
  cn : ((cellsFrom 0 d.scope.names []).map (·.1)).Nodup
  kind : d.scope.kind = .function
  co : d.scope.isCoroutine = false
  gen : d.scope.isGenerator = false

theorem call_fnC {W : Wd} {k : Nat} {d : DefRec} {as : List Str} {ds : List D} {r : D} {n : Nat} (hW : GloOk W) (hd : d ∈ recsOf W.p) (hf : FnOkC d as) (hlen : as.length = ds.length)
    (hH : (sem W k (co n (initG [] d.scope.names) (.sts d.body))).s (initR (as.zip (vals ds)) d.scope.names) (fun fl ρ => fl = .ret r)) :
    CallOk W (k + 1) d.name (vals ds) r (vals ds) := by
  intro c m I O X s vs f hc F N ap nd hv hm
  have e := SlsR.vals_inv hv
  subst e
  rw [List.nil_append] at *
  have hrs := SlsR.vals_rs hv
  obtain ⟨a, o, pm, code, doc, h1, h2, h3, h4⟩ := hc.T.fn d hd
  have e : f = a := by have := hm.symm.trans h1; cases this; rfl
  subst e
  have hvl : vs.length = as.length := by rw [hrs.length, hlen]
  refine wpAny_call (callX_cells hc.B F N hc.T.nolimit hc.hA (hc.hf) hc.hk (F.keep _ _ h2) h3 (h4.keeps F.keep) (Nat.lt_of_le_of_lt (Nat.le_add_right _ _) hc.hd) (hf.bind s pm code doc _ hvl)
    (fun n x hx => (hf.loc _ (List.of_mem_zip hx).1).imp id fun h => ⟨h, cellsFrom_some _ _ _ (.inl h)⟩) hf.cn (fun g L' h₁ tk cells FG F' N' Y B' st hlt => ?_) hf.co hf.gen hf.kind)
  have hc' : CfgOk W (cfgF c g L' f (envX d.name d.scope L' f code (cellsFrom (L' + 1) d.scope.names []))) k := cfgF_ok hc hf.kind B' FG.keep
  obtain ⟨O, S⟩ := entryC (c := cfgF c g L' f (envX d.name d.scope L' f code (cellsFrom (L' + 1) d.scope.names []))) hW rfl rfl rfl hf.nd hf.nc hf.cn hf.and hrs hvl.symm F' N' Y hlt ap nd
  have hFun : Fun (cfgF c g L' f (envX d.name d.scope L' f code (cellsFrom (L' + 1) d.scope.names []))) (initG [] d.scope.names) := ⟨rfl, rfl, initG_nodup hf.nd⟩
  have B := ((snd_all (k := k) hW n (cfgF c g L' f (envX d.name d.scope L' f code (cellsFrom (L' + 1) d.scope.names []))) (initG [] d.scope.names) hc' fun _ => hFun).1 (.sts d.body) hFun)
  refine wpAny_mono (B.s hH _ I O X { s with heap := h₁, toks := tk } S) (fun fl s' hp => ?_) fun _ _ x => x.elim
  obtain ⟨m'', h', tk, I', O'', fl', ρ', rfl, ⟨hI, hKp⟩, S'', hfl, rfl⟩ := hp
  cases hfl with
  | @ret v _ hv' =>
    have sub : ∀ q ∈ I' ++ ([] ++ X), q ∈ I' ++ (O'' ++ X) := fun q hq => (List.mem_append.mp hq).elim (List.mem_append_left _) fun q => List.mem_append_right _ (List.mem_append_right _ q)
    refine leaveK_ (F' := S''.F) (N' := fun q hq => S''.N q (sub q hq)) fun F3 N3 => ⟨h', tk, I', [], rfl, hI, F3, N3, fun p hp q hq => S''.ap p hp q (List.mem_append_right _ hq), nd, SlsR.vals (hrs.mono hI), hv'⟩
end Mine

open PySem PySem.W PyProof.Rows
set_option maxHeartbeats 8000000
namespace Mine
open PySem.Challenge
noncomputable def vw : Program := view pw_xm0405_01 [1, 2, 3, 4, 5, 6, 7, 8, 9, 10, 11, 13, 14, 15, 16, 17, 19, 20, 21, 22, 23, 24, 25, 26, 27, 29, 30, 31, 32, 33, 34, 35, 37, 38, 39, 40, 41, 42, 43, 44]
theorem l0 : chainsOk vw = true := by k_qdec
theorem left0 (w : World) : (W.openEnds Fast.tw14364793385576792824 Fast.tw7999214542978605696 w 3842).map (fun s => (Fast.tw4187177175401517315 Fast.tw4797623924254395695 [] (Fast.tw5923862056798008813 Fast.tw7999214542978605696.main.body) (fun s => xlAt Fast.tw4797623924254395695 [] s && recOk [] s) true s, Hook.none.obs s)) = some (openGood Fast.tw4797623924254395695 [], Hook.none.val w) := by kernel_rfl
theorem left : LeftO pw_xm0405_01 vw [] (fun s => xlAt vw [] s && recOk rw_xm0405_01.row.records s) Hook.none.obs Hook.none.val 3842 := by
  intro w
  rw [Fast.te7999214542978605696, Fast.te4797623924254395695, Fast.te14364793385576792824, Fast.te4187177175401517315, Fast.te5923862056798008813]
  exact left0 w
#print axioms left
open PySem PySem.W PyProof.Rows PySem.Calls PySem.Spec PySem.Challenge

noncomputable def freeB (x : Str) : Bool := !(startupNames.contains x) && (!((looseW vw []).contains x) && (!(((recsOf vw).map (·.name)).contains x) && (!(((litsOf vw).map (·.1)).contains x) && !(((clssOf vw (looseW vw [])).map (·.name)).contains x))))
noncomputable def hasB (x : Str) : Bool := ((recsOf vw).map (·.name)).contains x
noncomputable def biB (p : String × Value) : Bool := bootBuiltins (Str.ofString p.1) == some p.2
theorem free_ok : ((["len", "range", "enumerate", "min", "abs", "int", "sorted"].all fun x => freeB (Str.ofString x)) = true) := by k_qdec
theorem has_ok : ((fnTable.all fun x => hasB (Str.ofString x)) = true) := by k_qdec
theorem bi_all : ([("len", Value.builtin "len"), ("range", .type "range"), ("enumerate", .type "enumerate"), ("min", .builtin "min"), ("abs", .builtin "abs"), ("int", .type "int"), ("sorted", .builtin "sorted")].all biB) = true := by decide +kernel

theorem contains_false {x : Str} {l : List Str} (h : (!(l.contains x)) = true) : x ∉ l := fun hm => by
  have : l.contains x = true := List.contains_iff_mem.mpr hm
  rw [this] at h; cases h
section
variable {prog : Program} {w : World} {mean : ExcName → Option Value} {mg mb : Str → Option Value} {h : Heap}
theorem free_none (T : Top vw (looseW vw []) mean mg mb h) {x : Str} (hx : freeB x = true) : mg x = none := by
  obtain ⟨a, hx⟩ := Bool.and_eq_true_iff.mp hx
  obtain ⟨b, hx⟩ := Bool.and_eq_true_iff.mp hx
  obtain ⟨c, hx⟩ := Bool.and_eq_true_iff.mp hx
  obtain ⟨d, e⟩ := Bool.and_eq_true_iff.mp hx
  exact T.free x (contains_false a) (contains_false b) (contains_false c) (contains_false d) (contains_false e)

theorem lk_mem {α : Type} {x : Str} {a : α} : ∀ {l : List (String × α)}, lk x l = some a → ∃ y, (y, a) ∈ l ∧ x = Str.ofString y
  | [], h => nomatch h
  | (y, b) :: r, h => by
    unfold lk at h
    split at h
    · rename_i e; cases h; exact ⟨y, .head _, e⟩
    · exact (lk_mem h).imp fun _ h => ⟨.tail _ h.1, h.2⟩

theorem glo_vw (T : Top vw (looseW vw []) mean mg mb h) : GloOk ⟨prog, w, vw, looseW vw [], mean, mg, mb⟩ := by
  intro y sl hy
  unfold gloD at hy
  split at hy
  · rename_i d hd
    cases hy
    obtain ⟨z, hz, rfl⟩ := lk_mem hd
    have key : ∀ v : Value, d = .bi v → (z, v) ∈ [("len", Value.builtin "len"), ("range", .type "range"), ("enumerate", .type "enumerate"), ("min", .builtin "min"), ("abs", .builtin "abs"), ("int", .type "int"), ("sorted", .builtin "sorted")] → z ∈ ["len", "range", "enumerate", "min", "abs", "int", "sorted"] → ∃ v' d', Sl.val d = .val d' ∧ GloV ⟨prog, w, vw, looseW vw [], mean, mg, mb⟩ (Str.ofString z) v' ∧ ∀ I, R ⟨prog, w, vw, looseW vw [], mean, mg, mb⟩ I v' d' := fun v e hm hm2 => by
      subst e
      have h1 := List.all_eq_true.mp bi_all _ hm
      have h2 := free_none T (List.all_eq_true.mp free_ok _ hm2)
      refine ⟨v, _, rfl, .inr ⟨h2, eq_of_beq h1, fun e => ?_⟩, fun I => .bi⟩
      have h3 := List.all_eq_true.mp free_ok _ hm2
      have h4 := contains_false (Bool.and_eq_true_iff.mp h3).1
      have h5 : Str.ofString "__name__" ∈ startupNames := by decide +kernel
      exact h4 (e ▸ h5)
    unfold biTable at hz
    simp only [List.mem_cons, Prod.mk.injEq, List.not_mem_nil, or_false] at hz
    rcases hz with ⟨rfl, rfl⟩ | ⟨rfl, rfl⟩ | ⟨rfl, rfl⟩ | ⟨rfl, rfl⟩ | ⟨rfl, rfl⟩ | ⟨rfl, rfl⟩ | ⟨rfl, rfl⟩ <;> exact key _ rfl (by simp) (by simp)
  · split at hy
    · rename_i hf
      cases hy
      obtain ⟨z, hz, e⟩ := List.any_eq_true.mp hf
      have e := of_decide_eq_true e
      subst e
      have h1 := List.all_eq_true.mp has_ok z hz
      have h1 : Str.ofString z ∈ (recsOf vw).map (·.name) := List.contains_iff_mem.mp h1
      obtain ⟨d, hd, e⟩ := List.mem_map.mp h1
      obtain ⟨a, o, pm, code, doc, h2, _⟩ := T.fn d hd
      rw [← e]
      exact ⟨.ref a, _, rfl, .inl h2, fun I => .fn hd h2⟩
    · cases hy
end
open PySem PySem.W PyProof.Rows PySem.Calls PySem.Spec PySem.Challenge
noncomputable def dflt : DefRec := ⟨Str.ofString "", { posonlyargs := [], args := [], vararg := none, kwonlyargs := [], kw_defaults := [], kwarg := none, defaults := [] }, [], { kind := .function, names := [], isGenerator := false, isCoroutine := false }, { line := 0, col := 0, endLine := 0, endCol := 0 }⟩
noncomputable def defAt (i : Nat) : DefRec := match pw_xm0405_01.main.body[i]? with
  | some (.FunctionDef n a b _ _ _ sc _ _ p) => ⟨n, a, b, sc, p⟩
  | _ => dflt
theorem m4 : (recsOf vw)[0]? = some (defAt 4) := by kernel_rfl
open PySem PySem.W PyProof.Rows PySem.Calls PySem.Spec PySem.Challenge
theorem recs_eq : recsOf vw = [4, 5, 6, 7, 8, 9, 10, 11, 13, 14, 15, 16, 17, 19, 20, 21, 22, 23, 24, 25, 26, 27, 29, 30, 31, 32, 33, 34, 35, 37, 38, 39, 40, 41, 42, 43, 44].map defAt := by kernel_rfl
noncomputable def tx (fx : List Str) (i : Nat) : T := co 60 (initG fx (defAt i).scope.names) (.sts (defAt i).body)
noncomputable section
open PySem PySem.W PyProof.Rows PySem.Calls PySem.Spec

section
variable (W : Wd) (k : Nat)
noncomputable def kVal (Φ : Sl → Rho → Prop) (ρ : Rho) (d : D) : Prop := Φ (.val d) ρ
noncomputable def kAt (Φ : Sl → Rho → Prop) (ρ : Rho) (sl : Sl) : Prop := Φ sl ρ
noncomputable def kInt (Φ : Sl → Rho → Prop) (ρ : Rho) (i : Int) : Prop := Φ (.val (.int i)) ρ
noncomputable def kBo (Φ : Sl → Rho → Prop) (ρ : Rho) (b : Bool) : Prop := Φ (.val (.bool b)) ρ
noncomputable def kT (Ψ : Bool → Rho → Prop) (ρ : Rho) (b : Bool) : Prop := Ψ b ρ
noncomputable def kUn (op : UnaryOp) (Φ : Sl → Rho → Prop) (a : Sl) (ρ : Rho) : Prop := unP op a.d (kVal Φ ρ)
noncomputable def kBin2 (op : Operator) (a : Sl) (Φ : Sl → Rho → Prop) (b : Sl) (ρ : Rho) : Prop := binP op a.d b.d (kAt Φ ρ)
noncomputable def kBin1 (op : Operator) (r : T) (Φ : Sl → Rho → Prop) (a : Sl) (ρ : Rho) : Prop := (sem W k r).e ρ (kBin2 op a Φ)
noncomputable def kCmp2 (op : CmpOp) (a : Sl) (Φ : Sl → Rho → Prop) (b : Sl) (ρ : Rho) : Prop := cmpP op a.d b.d (kBo Φ ρ)
noncomputable def kCmp1 (op : CmpOp) (r : T) (Φ : Sl → Rho → Prop) (a : Sl) (ρ : Rho) : Prop := (sem W k r).e ρ (kCmp2 op a Φ)
noncomputable def kCmpT2 (op : CmpOp) (a : Sl) (Φ : Bool → Rho → Prop) (b : Sl) (ρ : Rho) : Prop := cmpP op a.d b.d (kT Φ ρ)
noncomputable def kCmpT1 (op : CmpOp) (r : T) (Φ : Bool → Rho → Prop) (a : Sl) (ρ : Rho) : Prop := (sem W k r).e ρ (kCmpT2 op a Φ)
noncomputable def kAnd (y : T) (Φ : Sl → Rho → Prop) (a : Sl) (ρ : Rho) : Prop := onB a.d fun b => (b = true → (sem W k y).e ρ Φ) ∧ (b = false → Φ (.val (.bool false)) ρ)
noncomputable def kAndT (y : T) (Ψ : Bool → Rho → Prop) (b : Bool) (ρ : Rho) : Prop := (b = true → (sem W k y).t ρ Ψ) ∧ (b = false → Ψ false ρ)
noncomputable def kOrT (y : T) (Ψ : Bool → Rho → Prop) (b : Bool) (ρ : Rho) : Prop := (b = true → Ψ true ρ) ∧ (b = false → (sem W k y).t ρ Ψ)
noncomputable def kIfe (x y : T) (Φ : Sl → Rho → Prop) (b : Bool) (ρ : Rho) : Prop := (b = true → (sem W k x).e ρ Φ) ∧ (b = false → (sem W k y).e ρ Φ)
noncomputable def kOnB (Ψ : Bool → Rho → Prop) (v : Sl) (ρ : Rho) : Prop := onB v.d (kT Ψ ρ)
noncomputable def kSeq (b : T) (Φ : Fl → Rho → Prop) (f : Fl) (ρ : Rho) : Prop := match f with
  | .next => (sem W k b).s ρ Φ
  | .brk => Φ .brk ρ
  | .cont => Φ .cont ρ
  | .ret d => Φ (.ret d) ρ
noncomputable def kAsg (j : Nat) (Φ : Fl → Rho → Prop) (sl : Sl) (ρ : Rho) : Prop := Φ .next (put j (some sl) ρ)
noncomputable def kRet (Φ : Fl → Rho → Prop) (v : Sl) (ρ : Rho) : Prop := Φ (.ret v.d) ρ
noncomputable def kEx (Φ : Fl → Rho → Prop) (v : Sl) (ρ : Rho) : Prop := Φ .next ρ
noncomputable def kIff (b o : T) (Φ : Fl → Rho → Prop) (c : Bool) (ρ : Rho) : Prop := (c = true → (sem W k b).s ρ Φ) ∧ (c = false → (sem W k o).s ρ Φ)

theorem zaa {a b ρ Φ} : (sem W k (.cons a b)).s ρ Φ = (sem W k a).s ρ (kSeq W k b Φ) := rfl
theorem zab {ρ Φ} : (sem W k .nil).s ρ Φ = Φ .next ρ := rfl
theorem zac {b Φ ρ} : kSeq W k b Φ .next ρ = (sem W k b).s ρ Φ := rfl
theorem zad {b Φ ρ d} : kSeq W k b Φ (.ret d) ρ = Φ (.ret d) ρ := rfl
theorem zae {b Φ ρ} : kSeq W k b Φ .brk ρ = Φ .brk ρ := rfl
theorem zaf {j v ρ Φ} : (sem W k (.asg j v)).s ρ Φ = (sem W k v).e ρ (kAsg j Φ) := rfl
theorem zag {e ρ Φ} : (sem W k (.ret e)).s ρ Φ = (sem W k e).e ρ (kRet Φ) := rfl
theorem zah {e ρ Φ} : (sem W k (.ex e)).s ρ Φ = (sem W k e).e ρ (kEx Φ) := rfl
theorem zai {ρ Φ} : (sem W k .brk).s ρ Φ = Φ .brk ρ := rfl
theorem zaj {t b o ρ Φ} : (sem W k (.iff t b o)).s ρ Φ = (sem W k t).t ρ (kIff W k b o Φ) := rfl
theorem zak {t b ρ Φ} : (sem W k (.whl t b)).s ρ Φ = ∃ n, wpWhile (sem W k t).t (sem W k b).s Φ n ρ := rfl
theorem zal {j Φ sl ρ} : kAsg j Φ sl ρ = Φ .next (put j (some sl) ρ) := rfl
theorem zam {Φ v ρ} : kRet Φ v ρ = Φ (.ret v.d) ρ := rfl
theorem zan {Φ v ρ} : kEx Φ v ρ = Φ .next ρ := rfl
theorem zao {i ρ Φ} : (sem W k (.int i)).e ρ Φ = Φ (.val (.int i)) ρ := rfl
theorem zap {i ρ Φ} : (sem W k (.bool i)).e ρ Φ = Φ (.val (.bool i)) ρ := rfl
theorem zaq {j ρ Φ} : (sem W k (.var j)).e ρ Φ = rdV j ρ Φ (nth ρ j) := rfl
theorem zar {op e ρ Φ} : (sem W k (.un op e)).e ρ Φ = (sem W k e).e ρ (kUn op Φ) := rfl
theorem zas {op l r ρ Φ} : (sem W k (.bin op l r)).e ρ Φ = (sem W k l).e ρ (kBin1 W k op r Φ) := rfl
theorem zat {op l r ρ Φ} : (sem W k (.cmp op l r)).e ρ Φ = (sem W k l).e ρ (kCmp1 W k op r Φ) := rfl
theorem zau {op l r ρ Φ} : (sem W k (.cmp op l r)).t ρ Φ = (sem W k l).e ρ (kCmpT1 W k op r Φ) := rfl
theorem zav {x y ρ Φ} : (sem W k (.and2 x y)).e ρ Φ = (sem W k x).e ρ (kAnd W k y Φ) := rfl
theorem zaw {x y ρ Φ} : (sem W k (.and2 x y)).t ρ Φ = (sem W k x).t ρ (kAndT W k y Φ) := rfl
theorem zax {x y ρ Φ} : (sem W k (.or2 x y)).t ρ Φ = (sem W k x).t ρ (kOrT W k y Φ) := rfl
theorem zay {t x y ρ Φ} : (sem W k (.ife t x y)).e ρ Φ = (sem W k t).t ρ (kIfe W k x y Φ) := rfl

/-! places -/
theorem zaz {a ρ} : nth (a :: ρ) 0 = a := rfl
theorem zba {a ρ j} : nth (a :: ρ) (j + 1) = nth ρ j := rfl
theorem zbb {v a ρ} : put 0 v (a :: ρ) = v :: ρ := rfl
theorem zbc {v a ρ j} : put (j + 1) v (a :: ρ) = a :: put j v ρ := rfl
theorem zbd {j ρ Φ d} : rdV j ρ Φ (some (.val d)) = Φ (.val d) ρ := rfl
theorem zbe {j ρ Φ ds} : rdV j ρ Φ (some (.own ds)) = Φ (.val (.list ds)) (put j (some (.val (.list ds))) ρ) := rfl
theorem zbf {d} : (Sl.val d).d = d := rfl
theorem zbg {ds} : (Sl.own ds).d = .list ds := rfl

/-! operations -/
theorem zbh {op r Φ a ρ} : kBin1 W k op r Φ a ρ = (sem W k r).e ρ (kBin2 op a Φ) := rfl
theorem zbi {op i j Φ ρ} : kBin2 op (.val (.int i)) Φ (.val (.int j)) ρ = binI op i j (kInt Φ ρ) := rfl
theorem zbj {op a b Φ ρ} : kBin2 op a Φ b ρ = binP op a.d b.d (kAt Φ ρ) := rfl
noncomputable def kOwn (F : Sl → Prop) (ds : List D) : Prop := F (.own ds)
theorem zbk {F ds} : kOwn F ds = F (.own ds) := rfl
theorem zbl {op i j F} : binP op (.int i) (.int j) F = binI op i j (fun i => F (.val (.int i))) := rfl
theorem zbm {a b F} : binP .Add (.list a) (.list b) F = (a.length + b.length ≤ sizeLine ∧ F (.own (a ++ b))) := rfl
theorem zbn {a i F} : binP .Mult (.list a) (.int i) F = ((a.length * i.toNat ≤ 2 ^ 24 ∧ -(2 ^ 62) ≤ i ∧ i < 2 ^ 62) ∧ F (.own ((List.replicate i.toNat a).flatten))) := rfl
theorem zbo {Φ ρ i} : kInt Φ ρ i = Φ (.val (.int i)) ρ := rfl
theorem zbp {Φ ρ sl} : kAt Φ ρ sl = Φ sl ρ := rfl
theorem zbq {Φ ρ d} : kVal Φ ρ d = Φ (.val d) ρ := rfl
theorem zbr {Φ ρ b} : kBo Φ ρ b = Φ (.val (.bool b)) ρ := rfl
theorem zbs {Φ ρ b} : kT Φ ρ b = Φ b ρ := rfl
theorem zbt {a b F} : binI .Add a b F = F (a + b) := rfl
theorem zbu {a b F} : binI .Sub a b F = F (a - b) := rfl
theorem zbv {a b F} : binI .Mult a b F = (smallInt a ∧ F (a * b)) := rfl
theorem zbw {a b F} : binI .FloorDiv a b F = ((0 < b ∧ b < 2 ^ 30) ∧ F (a / b)) := rfl
theorem zbx {a b F} : binI .Mod a b F = (0 < b ∧ F (a % b)) := rfl
theorem zby {a b F} : binI .LShift a b F = ((0 ≤ b ∧ b ≤ 1000000 ∧ smallInt a) ∧ F (a * 2 ^ b.toNat)) := rfl
theorem zbz {a b F} : binI .RShift a b F = (0 ≤ b ∧ F (a / 2 ^ b.toNat)) := rfl
theorem zca {a b F} : binI .BitAnd a b F = F (Builtin.bitAnd a b) := rfl
theorem zcb {a b F} : binI .BitOr a b F = F (Builtin.bitOr a b) := rfl
theorem zcc {a b F} : binI .Pow a b F = ((0 ≤ b ∧ b ≤ 1000000 ∧ smallInt a) ∧ F (a ^ b.toNat)) := rfl
theorem zcd {i Φ ρ} : kUn .USub Φ (.val (.int i)) ρ = Φ (.val (.int (-i))) ρ := rfl
theorem zce {b Φ ρ} : kUn .Not Φ (.val (.bool b)) ρ = Φ (.val (.bool (!b))) ρ := rfl
theorem zcf {op r Φ a ρ} : kCmp1 W k op r Φ a ρ = (sem W k r).e ρ (kCmp2 op a Φ) := rfl
theorem zcg {op r Φ a ρ} : kCmpT1 W k op r Φ a ρ = (sem W k r).e ρ (kCmpT2 op a Φ) := rfl
theorem zch {op i j Φ ρ} : kCmp2 op (.val (.int i)) Φ (.val (.int j)) ρ = cmpI op i j (kBo Φ ρ) := rfl
theorem zci {op i j Φ ρ} : kCmpT2 op (.val (.int i)) Φ (.val (.int j)) ρ = cmpI op i j (kT Φ ρ) := rfl
theorem zcj {op a b Φ ρ} : kCmpT2 op a Φ b ρ = cmpP op a.d b.d (kT Φ ρ) := rfl
theorem zck {op a b Φ ρ} : kCmp2 op a Φ b ρ = cmpP op a.d b.d (kBo Φ ρ) := rfl
theorem zcl {a b F} : cmpI .Lt a b F = F (decide (a < b)) := rfl
theorem zcm {a b F} : cmpI .LtE a b F = F (decide (a ≤ b)) := rfl
theorem zcn {a b F} : cmpI .Gt a b F = F (decide (b < a)) := rfl
theorem zco {a b F} : cmpI .GtE a b F = F (decide (b ≤ a)) := rfl
theorem zcp {a b F} : cmpI .Eq a b F = F (decide (a = b)) := rfl
theorem zcq {a b F} : cmpI .NotEq a b F = F (!decide (a = b)) := rfl
theorem zcr {y b Φ ρ} : kAnd W k y Φ (.val (.bool b)) ρ = ((b = true → (sem W k y).e ρ Φ) ∧ (b = false → Φ (.val (.bool false)) ρ)) := rfl
theorem zcs {y b Φ ρ} : kAndT W k y Φ b ρ = ((b = true → (sem W k y).t ρ Φ) ∧ (b = false → Φ false ρ)) := rfl
theorem zct {y b Φ ρ} : kOrT W k y Φ b ρ = ((b = true → Φ true ρ) ∧ (b = false → (sem W k y).t ρ Φ)) := rfl
theorem zcu {x y b Φ ρ} : kIfe W k x y Φ b ρ = ((b = true → (sem W k x).e ρ Φ) ∧ (b = false → (sem W k y).e ρ Φ)) := rfl
theorem zcv {x y b Φ ρ} : kIff W k x y Φ b ρ = ((b = true → (sem W k x).s ρ Φ) ∧ (b = false → (sem W k y).s ρ Φ)) := rfl

/-! items and slices -/
noncomputable def kSubL (ds : List D) (Φ : Sl → Rho → Prop) (iv : Ix) (ρ : Rho) : Prop := iv ds (kAt Φ ρ)
noncomputable def kSubT (ds : List D) (Φ : Sl → Rho → Prop) (iv : Sl) (ρ : Rho) : Prop := onI iv.d fun i => tupP ds i (kVal Φ ρ)
noncomputable def kPutO (j : Nat) (ds : List D) (Φ : Sl → Rho → Prop) (ρ : Rho) (sl : Sl) : Prop := Φ sl (put j (some (.own ds)) ρ)
noncomputable def kSubO (j : Nat) (ds : List D) (Φ : Sl → Rho → Prop) (iv : Ix) (ρ : Rho) : Prop := iv ds (kPutO j ds Φ ρ)
noncomputable def kIdx (Ψ : Ix → Rho → Prop) (v : Sl) (ρ : Rho) : Prop := onI v.d fun i => Ψ (IdxF i) ρ
noncomputable def kSub (i : T) (Φ : Sl → Rho → Prop) (v : Sl) (ρ : Rho) : Prop := subD (sem W k i) Φ v.d ρ
noncomputable def kSl2 (a : Option Int) (Ψ : Ix → Rho → Prop) (b : Option Int) (ρ : Rho) : Prop := Ψ (SliF a b) ρ
noncomputable def kSl1 (hi : T) (Ψ : Ix → Rho → Prop) (a : Option Int) (ρ : Rho) : Prop := (sem W k hi).o ρ (kSl2 a Ψ)
noncomputable def kSome (Ψ : Option Int → Rho → Prop) (v : Sl) (ρ : Rho) : Prop := onI v.d fun i => Ψ (some i) ρ
theorem zcw {o i ρ Φ} : (sem W k (.sub o i)).e ρ Φ = (sem W k o).e ρ (kSub W k i Φ) := rfl
theorem zcx {j i ρ Φ} : (sem W k (.subv j i)).e ρ Φ = rdS j (sem W k i) ρ Φ (nth ρ j) := rfl
theorem zcy {j i ρ Φ} : (sem W k (.subv j i)).t ρ Φ = rdS j (sem W k i) ρ (kOnB Φ) (nth ρ j) := rfl
theorem zcz {Φ b ρ} : kOnB Φ (.val (.bool b)) ρ = Φ b ρ := rfl
theorem zda {i Φ ds ρ} : kSub W k i Φ (.val (.list ds)) ρ = (sem W k i).i ρ (kSubL ds Φ) := rfl
theorem zdb {i Φ ds ρ} : kSub W k i Φ (.own ds) ρ = (sem W k i).i ρ (kSubL ds Φ) := rfl
theorem zdc {i Φ ds ρ} : kSub W k i Φ (.val (.tup ds)) ρ = (sem W k i).e ρ (kSubT ds Φ) := rfl
theorem zdd {j i ρ Φ ds} : rdS j (sem W k i) ρ Φ (some (.val (.list ds))) = (sem W k i).i ρ (kSubL ds Φ) := rfl
theorem zde {j i ρ Φ ds} : rdS j (sem W k i) ρ Φ (some (.val (.tup ds))) = (sem W k i).e ρ (kSubT ds Φ) := rfl
theorem zdf {j i ρ Φ ds} : rdS j (sem W k i) ρ Φ (some (.own ds)) = (sem W k i).i (put j none ρ) (kSubO j ds Φ) := rfl
theorem zdg {i ρ Ψ} : (sem W k (.int i)).i ρ Ψ = Ψ (IdxF i) ρ := rfl
theorem zdh {j ρ Ψ} : (sem W k (.var j)).i ρ Ψ = rdV j ρ (kIdx Ψ) (nth ρ j) := rfl
theorem zdi {op l r ρ Ψ} : (sem W k (.bin op l r)).i ρ Ψ = (sem W k l).e ρ (kBin1 W k op r (kIdx Ψ)) := rfl
theorem zdj {op e ρ Ψ} : (sem W k (.un op e)).i ρ Ψ = (sem W k e).e ρ (kUn op (kIdx Ψ)) := rfl
theorem zdk {a b ρ Ψ} : (sem W k (.slice a b)).i ρ Ψ = (sem W k a).o ρ (kSl1 W k b Ψ) := rfl
theorem zdl {ρ Ψ} : (sem W k .nil).o ρ Ψ = Ψ none ρ := rfl
theorem zdm {i ρ Ψ} : (sem W k (.int i)).o ρ Ψ = Ψ (some i) ρ := rfl
theorem zdn {j ρ Ψ} : (sem W k (.var j)).o ρ Ψ = rdV j ρ (kSome Ψ) (nth ρ j) := rfl
theorem zdo {op l r ρ Ψ} : (sem W k (.bin op l r)).o ρ Ψ = (sem W k l).e ρ (kBin1 W k op r (kSome Ψ)) := rfl
theorem zdp {b Ψ a ρ} : kSl1 W k b Ψ a ρ = (sem W k b).o ρ (kSl2 a Ψ) := rfl
theorem zdq {a Ψ b ρ} : kSl2 a Ψ b ρ = Ψ (SliF a b) ρ := rfl
theorem zdr {Ψ i ρ} : kSome Ψ (.val (.int i)) ρ = Ψ (some i) ρ := rfl
theorem zds {Ψ i ρ} : kIdx Ψ (.val (.int i)) ρ = Ψ (IdxF i) ρ := rfl
theorem zdt {ds Φ iv ρ} : kSubL ds Φ iv ρ = iv ds (kAt Φ ρ) := rfl
theorem zdu {j ds Φ iv ρ} : kSubO j ds Φ iv ρ = iv ds (kPutO j ds Φ ρ) := rfl
theorem zdv {ds Φ i ρ} : kSubT ds Φ (.val (.int i)) ρ = tupP ds i (kVal Φ ρ) := rfl
theorem zdw {j ds Φ ρ sl} : kPutO j ds Φ ρ sl = Φ sl (put j (some (.own ds)) ρ) := rfl
noncomputable def kDV (F : Sl → Prop) (d : D) : Prop := F (.val d)
theorem zdx {F d} : kDV F d = F (.val d) := rfl
theorem zdy {i ds F} : IdxF i ds F = ((-(2 ^ 62) ≤ i ∧ i < 2 ^ 62) ∧ idxP ds i (kDV F)) := rfl
theorem zdz {a b ds F} : SliF a b ds F = (ds.length ≤ sizeLine ∧ F (.own (sliceL ds a b))) := rfl

/-! lists, tuples, calls -/
noncomputable def kCons (v : Sl) (Ψ : List D → Rho → Prop) (vs : List D) (ρ : Rho) : Prop := Ψ (v.d :: vs) ρ
noncomputable def kEs (es : T) (Ψ : List D → Rho → Prop) (v : Sl) (ρ : Rho) : Prop := (sem W k es).es ρ (kCons v Ψ)
noncomputable def kConsS (v : Sl) (Ψ : List Sl → Rho → Prop) (vs : List Sl) (ρ : Rho) : Prop := Ψ (v :: vs) ρ
noncomputable def kEsS (es : T) (Ψ : List Sl → Rho → Prop) (v : Sl) (ρ : Rho) : Prop := (sem W k es).sls ρ (kConsS v Ψ)
noncomputable def kTup (Φ : Sl → Rho → Prop) (ds : List D) (ρ : Rho) : Prop := ds.length ≤ sizeLine ∧ Φ (.val (.tup ds)) ρ
noncomputable def kLst (Φ : Sl → Rho → Prop) (ds : List D) (ρ : Rho) : Prop := ds.length ≤ sizeLine ∧ Φ (.own ds) ρ
noncomputable def kBi (id : String) (Φ : Sl → Rho → Prop) (vs : List D) (ρ : Rho) : Prop := biP id vs (kVal Φ ρ)
noncomputable def kTy (id : String) (Φ : Sl → Rho → Prop) (vs : List D) (ρ : Rho) : Prop := tyP id vs (kVal Φ ρ)
noncomputable def kFn (g : Str) (Φ : Sl → Rho → Prop) (vs : List D) (ρ : Rho) : Prop := vs ≠ [] ∧ ∃ r, CallOk W k g (vals vs) r (vals vs) ∧ Φ (.val r) ρ
noncomputable def kCall (es : T) (Φ : Sl → Rho → Prop) (fv : Sl) (ρ : Rho) : Prop := callD W k (sem W k es) Φ fv.d ρ
noncomputable def kLen (j : Nat) (Φ : Sl → Rho → Prop) (fv : Sl) (ρ : Rho) : Prop := fv.d = .bi (.builtin "len") ∧ match nth ρ j with
      | some v => onL v.d fun ds => ds.length < 2 ^ 62 ∧ Φ (.val (.int ds.length)) ρ
      | none => False
noncomputable def kBit (Φ : Sl → Rho → Prop) (a : Sl) (ρ : Rho) : Prop := onI a.d fun i => Φ (.val (.int (Builtin.Int.intBits i))) ρ
noncomputable def kFnO2 (g : Str) (j : Nat) (ds : List D) (Φ : Sl → Rho → Prop) (vs : List D) (ρ : Rho) : Prop := ∃ r ds', CallOk W k g (.own ds :: vals vs) r (.own ds' :: vals vs) ∧ Φ (.val r) (put j (some (.own ds')) ρ)
noncomputable def kFnO (j : Nat) (es : T) (Φ : Sl → Rho → Prop) (fv : Sl) (ρ : Rho) : Prop := onFn fv.d fun g => onOwn (nth ρ j) fun ds => (sem W k es).es (put j none ρ) (kFnO2 W k g j ds Φ)
noncomputable def kFnC (j : Nat) (i : Int) (Φ : Sl → Rho → Prop) (fv : Sl) (ρ : Rho) : Prop := onFn fv.d fun g => onOwn (nth ρ j) fun ds =>
      ∃ r ds', CallOk W k g [.own ds, .val (.int i)] r [.own ds', .val (.int i)] ∧ Φ (.val r) (put j (some (.own ds')) ρ)
theorem zea {ρ Ψ} : (sem W k .nil).es ρ Ψ = Ψ [] ρ := rfl
theorem zeb {e es ρ Ψ} : (sem W k (.cons e es)).es ρ Ψ = (sem W k e).e ρ (kEs W k es Ψ) := rfl
theorem zec {ρ Ψ} : (sem W k .nil).sls ρ Ψ = Ψ [] ρ := rfl
theorem zed {e es ρ Ψ} : (sem W k (.cons e es)).sls ρ Ψ = (sem W k e).e ρ (kEsS W k es Ψ) := rfl
theorem zee {es Ψ v ρ} : kEs W k es Ψ v ρ = (sem W k es).es ρ (kCons v Ψ) := rfl
theorem zef {v Ψ vs ρ} : kCons v Ψ vs ρ = Ψ (v.d :: vs) ρ := rfl
theorem zeg {es Ψ v ρ} : kEsS W k es Ψ v ρ = (sem W k es).sls ρ (kConsS v Ψ) := rfl
theorem zeh {v Ψ vs ρ} : kConsS v Ψ vs ρ = Ψ (v :: vs) ρ := rfl
theorem zei {es ρ Φ} : (sem W k (.tup es)).e ρ Φ = (sem W k es).es ρ (kTup Φ) := rfl
theorem zej {es ρ Φ} : (sem W k (.list es)).e ρ Φ = (sem W k es).es ρ (kLst Φ) := rfl
theorem zek {Φ ds ρ} : kTup Φ ds ρ = (ds.length ≤ sizeLine ∧ Φ (.val (.tup ds)) ρ) := rfl
theorem zel {Φ ds ρ} : kLst Φ ds ρ = (ds.length ≤ sizeLine ∧ Φ (.own ds) ρ) := rfl
theorem zem {f es ρ Φ} : (sem W k (.call f es)).e ρ Φ = (sem W k f).e ρ (kCall W k es Φ) := rfl
theorem zen {es Φ id ρ} : kCall W k es Φ (.val (.bi (.builtin id))) ρ = (sem W k es).es ρ (kBi id Φ) := rfl
theorem zeo {es Φ id ρ} : kCall W k es Φ (.val (.bi (.type id))) ρ = (sem W k es).es ρ (kTy id Φ) := rfl
theorem zep {es Φ g ρ} : kCall W k es Φ (.val (.fn g)) ρ = (sem W k es).es ρ (kFn W k g Φ) := rfl
theorem zeq {id Φ vs ρ} : kBi id Φ vs ρ = biP id vs (kVal Φ ρ) := rfl
theorem zer {id Φ vs ρ} : kTy id Φ vs ρ = tyP id vs (kVal Φ ρ) := rfl
theorem zes {g Φ vs ρ} : kFn W k g Φ vs ρ = (vs ≠ [] ∧ ∃ r, CallOk W k g (vals vs) r (vals vs) ∧ Φ (.val r) ρ) := rfl
theorem zet {f j ρ Φ} : (sem W k (.calll f j)).e ρ Φ = (sem W k f).e ρ (kLen j Φ) := rfl
theorem zeu {j Φ v ρ} : kLen j Φ v ρ = (v.d = .bi (.builtin "len") ∧ match nth ρ j with
      | some v => onL v.d fun ds => ds.length < 2 ^ 62 ∧ Φ (.val (.int ds.length)) ρ
      | none => False) := rfl
theorem zev {ds F} : onL (.list ds) F = F ds := rfl
theorem zew {i F} : onI (.int i) F = F i := rfl
theorem zex {i F} : onB (.bool i) F = F i := rfl
theorem zey {i F} : onT (.tup i) F = F i := rfl
theorem zez {i F} : onFn (.fn i) F = F i := rfl
theorem zfa {ds F} : onOwn (some (.own ds)) F = F ds := rfl
theorem zfb {d F} : onVal (some (.val d)) F = F d := rfl
theorem zfc {o ρ Φ} : (sem W k (.bitl o)).e ρ Φ = (sem W k o).e ρ (kBit Φ) := rfl
theorem zfd {Φ i ρ} : kBit Φ (.val (.int i)) ρ = Φ (.val (.int (Builtin.Int.intBits i))) ρ := rfl
theorem zfe {f j es ρ Φ} : (sem W k (.callo f j es)).e ρ Φ = (sem W k f).e ρ (kFnO W k j es Φ) := rfl
theorem zff {j es Φ g ρ} : kFnO W k j es Φ (.val (.fn g)) ρ = onOwn (nth ρ j) fun ds => (sem W k es).es (put j none ρ) (kFnO2 W k g j ds Φ) := rfl
theorem zfg {f j i ρ Φ} : (sem W k (.callc f j i)).e ρ Φ = (sem W k f).e ρ (kFnC W k j i Φ) := rfl
theorem zfh {j i Φ g ρ} : kFnC W k j i Φ (.val (.fn g)) ρ = onOwn (nth ρ j) fun ds => ∃ r ds', CallOk W k g [.own ds, .val (.int i)] r [.own ds', .val (.int i)] ∧ Φ (.val r) (put j (some (.own ds')) ρ) := rfl
/-! the other statements -/
noncomputable def kAsgs (js : List Nat) (Φ : Fl → Rho → Prop) (vs : List Sl) (ρ : Rho) : Prop := vs.length ≤ sizeLine ∧ ∃ ρ', puts js vs ρ = some ρ' ∧ Φ .next ρ'
noncomputable def kUnp (js : List Nat) (Φ : Fl → Rho → Prop) (sl : Sl) (ρ : Rho) : Prop := onT sl.d fun ds => ∃ ρ', puts js (vals ds) ρ = some ρ' ∧ Φ .next ρ'
noncomputable def kSto2 (j : Nat) (a : Sl) (ds : List D) (Φ : Fl → Rho → Prop) (iv : Sl) (ρ : Rho) : Prop := onI iv.d fun i => (0 ≤ i ∧ i < ds.length ∧ ds.length < 2 ^ 62) ∧ Φ .next (put j (some (.own (ds.set i.toNat a.d))) ρ)
noncomputable def kSto (j : Nat) (i : T) (Φ : Fl → Rho → Prop) (a : Sl) (ρ : Rho) : Prop := onOwn (nth ρ j) fun ds => (sem W k i).e (put j none ρ) (kSto2 j a ds Φ)
noncomputable def kSetI (j : Nat) (Φ : Fl → Rho → Prop) (ρ : Rho) (i : Int) : Prop := Φ .next (put j (some (.val (.int i))) ρ)
noncomputable def kAug (j : Nat) (op : Operator) (a : Int) (Φ : Fl → Rho → Prop) (b : Sl) (ρ : Rho) : Prop := onI b.d fun b => binI op a b (kSetI j Φ ρ)
noncomputable def kApp (j : Nat) (ds : List D) (Φ : Fl → Rho → Prop) (v : Sl) (ρ : Rho) : Prop := ds.length < sizeLine ∧ Φ .next (put j (some (.own (ds ++ [v.d]))) ρ)
noncomputable def kFor1 (j : Nat) (b : T) (Φ : Fl → Rho → Prop) (ds : Nat × List D) (ρ : Rho) : Prop := ds.1 ≤ 1 ∧ wpLoop (fun d ρ Ψ => (sem W k b).s (put j (some (.val d)) ρ) Ψ) Φ ds.2 ρ
noncomputable def kFor2 (i j : Nat) (b : T) (Φ : Fl → Rho → Prop) (ds : Nat × List D) (ρ : Rho) : Prop := ds.1 = 2 ∧ wpLoop (fun d ρ Ψ => ∃ x y, d = .tup [x, y] ∧ (sem W k b).s (put j (some (.val y)) (put i (some (.val x)) ρ)) Ψ) Φ ds.2 ρ
noncomputable def kIt (es : T) (Ψ : Nat × List D → Rho → Prop) (fv : Sl) (ρ : Rho) : Prop := itD (sem W k es) Ψ fv.d ρ
noncomputable def kItV (Ψ : Nat × List D → Rho → Prop) (v : Sl) (ρ : Rho) : Prop := onL v.d fun ds => Ψ (0, ds) ρ
noncomputable def kItC (id : String) (Ψ : Nat × List D → Rho → Prop) (vs : List D) (ρ : Rho) : Prop := (id = "range" ∧ rangeP vs fun f ds => Ψ (f, ds) ρ) ∨ (id = "enumerate" ∧ ∃ ds, vs = [.list ds] ∧ ds.length ≤ sizeLine ∧ Ψ (2, enumL ds) ρ)
theorem zfi {js es ρ Φ} : (sem W k (.asgs js es)).s ρ Φ = (sem W k es).sls ρ (kAsgs js Φ) := rfl
theorem zfj {js Φ vs ρ} : kAsgs js Φ vs ρ = (vs.length ≤ sizeLine ∧ ∃ ρ', puts js vs ρ = some ρ' ∧ Φ .next ρ') := rfl
theorem zfk {js v ρ Φ} : (sem W k (.unp js v)).s ρ Φ = (sem W k v).e ρ (kUnp js Φ) := rfl
theorem zfl {js Φ ds ρ} : kUnp js Φ (.val (.tup ds)) ρ = ∃ ρ', puts js (vals ds) ρ = some ρ' ∧ Φ .next ρ' := rfl
theorem zfm {j i v ρ Φ} : (sem W k (.sto j i v)).s ρ Φ = (sem W k v).e ρ (kSto W k j i Φ) := rfl
theorem zfn {j i Φ a ρ} : kSto W k j i Φ a ρ = onOwn (nth ρ j) fun ds => (sem W k i).e (put j none ρ) (kSto2 j a ds Φ) := rfl
theorem zfo {j a ds Φ i ρ} : kSto2 j a ds Φ (.val (.int i)) ρ = ((0 ≤ i ∧ i < ds.length ∧ ds.length < 2 ^ 62) ∧ Φ .next (put j (some (.own (ds.set i.toNat a.d))) ρ)) := rfl
theorem zfp {j op v ρ Φ} : (sem W k (.aug j op v)).s ρ Φ = onVal (nth ρ j) fun a => onI a fun a => (sem W k v).e ρ (kAug j op a Φ) := rfl
theorem zfq {j op a Φ b ρ} : kAug j op a Φ (.val (.int b)) ρ = binI op a b (kSetI j Φ ρ) := rfl
theorem zfr {j Φ ρ i} : kSetI j Φ ρ i = Φ .next (put j (some (.val (.int i))) ρ) := rfl
theorem zfs {j v ρ Φ} : (sem W k (.app j v)).s ρ Φ = onOwn (nth ρ j) fun ds => (sem W k v).e (put j none ρ) (kApp j ds Φ) := rfl
theorem zft {j ds Φ v ρ} : kApp j ds Φ v ρ = (ds.length < sizeLine ∧ Φ .next (put j (some (.own (ds ++ [v.d]))) ρ)) := rfl
theorem zfu {j it b ρ Φ} : (sem W k (.for1 j it b)).s ρ Φ = (sem W k it).it ρ (kFor1 W k j b Φ) := rfl
theorem zfv {i j it b ρ Φ} : (sem W k (.for2 i j it b)).s ρ Φ = (sem W k it).it ρ (kFor2 W k i j b Φ) := rfl
theorem zfw {f es ρ Ψ} : (sem W k (.call f es)).it ρ Ψ = (sem W k f).e ρ (kIt W k es Ψ) := rfl
theorem zfx {j ρ Ψ} : (sem W k (.var j)).it ρ Ψ = rdV j ρ (kItV Ψ) (nth ρ j) := rfl
theorem zfy {es Ψ id ρ} : kIt W k es Ψ (.val (.bi (.type id))) ρ = (sem W k es).es ρ (kItC id Ψ) := rfl
theorem zfz {Ψ ds ρ} : kItV Ψ (.val (.list ds)) ρ = Ψ (0, ds) ρ := rfl

/-! loops -/
noncomputable def kWB (t : Rho → (Bool → Rho → Prop) → Prop) (b : Rho → (Fl → Rho → Prop) → Prop) (Φ : Fl → Rho → Prop) (n : Nat) (f : Fl) (ρ : Rho) : Prop := match f with
  | .next => wpWhile t b Φ n ρ
  | .cont => wpWhile t b Φ n ρ
  | .brk => Φ .next ρ
  | .ret r => Φ (.ret r) ρ
noncomputable def kW (t : Rho → (Bool → Rho → Prop) → Prop) (b : Rho → (Fl → Rho → Prop) → Prop) (Φ : Fl → Rho → Prop) (n : Nat) (c : Bool) (ρ : Rho) : Prop := (c = true → b ρ (kWB t b Φ n)) ∧ (c = false → Φ .next ρ)
noncomputable def kLp (step : D → Rho → (Fl → Rho → Prop) → Prop) (Φ : Fl → Rho → Prop) (ds : List D) (f : Fl) (ρ : Rho) : Prop := match f with
  | .next => wpLoop step Φ ds ρ
  | .cont => wpLoop step Φ ds ρ
  | .brk => Φ .next ρ
  | .ret r => Φ (.ret r) ρ
theorem zga {t b Φ n ρ} : wpWhile t b Φ (n + 1) ρ = t ρ (kW t b Φ n) := rfl
theorem zgb {t b Φ n c ρ} : kW t b Φ n c ρ = ((c = true → b ρ (kWB t b Φ n)) ∧ (c = false → Φ .next ρ)) := rfl
theorem zgc {t b Φ n ρ} : kWB t b Φ n .next ρ = wpWhile t b Φ n ρ := rfl
theorem zgd {t b Φ n ρ} : kWB t b Φ n .brk ρ = Φ .next ρ := rfl
theorem zge {t b Φ n r ρ} : kWB t b Φ n (.ret r) ρ = Φ (.ret r) ρ := rfl
theorem zgf {step Φ ρ} : wpLoop step Φ [] ρ = Φ .next ρ := rfl
theorem zgg {step Φ d ds ρ} : wpLoop step Φ (d :: ds) ρ = step d ρ (kLp step Φ ds) := rfl
theorem zgh {step Φ ds ρ} : kLp step Φ ds .next ρ = wpLoop step Φ ds ρ := rfl
theorem zgi {step Φ ds ρ} : kLp step Φ ds .brk ρ = Φ .next ρ := rfl
theorem zgj {step Φ ds ρ r} : kLp step Φ ds (.ret r) ρ = Φ (.ret r) ρ := rfl
end
end
end Mine

set_option maxHeartbeats 4000000
namespace Mine
open PySem PySem.W PyProof.Rows PySem.Calls PySem.Spec PySem.Challenge
noncomputable abbrev nl (xs : List Nat) : List D := xs.map fun (x : Nat) => D.int (x : Int)
noncomputable def norm : List Nat → List Nat := fun xs => (xs.reverse.dropWhile (· == 0)).reverse

/-- the def at a place, found in the world -/
noncomputable def Wv (W : Wd) : Prop := W.p = vw ∧ GloOk W
theorem rec_mem (i : Nat) (h : i ∈ [4, 5, 6, 7, 8, 9, 10, 11, 13, 14, 15, 16, 17, 19, 20, 21, 22, 23, 24, 25, 26, 27, 29, 30, 31, 32, 33, 34, 35, 37, 38, 39, 40, 41, 42, 43, 44]) {W : Wd} (hW : Wv W) : defAt i ∈ recsOf W.p := by
  rw [hW.1, recs_eq]; exact List.mem_map.mpr ⟨i, h, rfl⟩

theorem fn4 : FnOk (defAt 4) [Str.ofString "a"] where
  bind := fun s pm code doc vs h => match vs, h with | [_], _ => BindsTo.of_eq rfl
  loc := by decide +kernel
  nd := by decide +kernel
  and := by decide +kernel
  nc := by decide +kernel
  kind := rfl
  co := rfl
  gen := rfl
theorem idx_at {ds : List D} {j : Int} {i : Nat} {d : D} {F : D → Prop} (hj : j = (i : Int)) (hd : ds[i]? = some d) (hF : F d) : idxP ds j F := by
  subst hj
  exact .inl ⟨Int.natCast_nonneg _, d, by rw [Int.toNat_natCast]; exact hd, hF⟩
theorem nl_get {xs : List Nat} {i : Nat} (h : i < xs.length) : (nl xs)[i]? = some (.int ((xs[i] : Nat) : Int)) := by
  rw [List.getElem?_map, List.getElem?_eq_getElem h]; rfl
theorem norm_snoc0 (ys : List Nat) : norm (ys ++ [0]) = norm ys := by unfold norm; simp
theorem norm_snoc {ys : List Nat} {y : Nat} (h : y ≠ 0) : norm (ys ++ [y]) = ys ++ [y] := by unfold norm; simp [h]
theorem take_succ' {xs : List Nat} {e : Nat} (h : e < xs.length) : xs.take (e + 1) = xs.take e ++ [xs[e]] := by simp
theorem nl_slice (xs : List Nat) (e : Nat) (h : e ≤ xs.length) : sliceL (nl xs) none (some (e : Int)) = nl (xs.take e) := by
  show List.take ((if (e : Int) < 0 then ((e : Int) + (nl xs).length).toNat else min (e : Int).toNat (nl xs).length) - 0) (List.drop 0 (nl xs)) = _
  rw [if_neg (by omega)]
  simp [nl, List.map_take, Nat.min_eq_left h]

theorem normal_ok {W : Wd} {k : Nat} (hW : Wv W) {xs : List Nat} (hl : xs.length < 2 ^ 20) : CallOk W (k + 1) (Str.ofString "normal") [.val (.list (nl xs))] (.list (nl (norm xs))) [.val (.list (nl xs))] := by
  refine call_fn (d := defAt 4) (as := []) (p := Str.ofString "a") (ds := []) (n := 60) (fx := []) hW.2 (rec_mem 4 (by decide) hW) fn4 rfl ?_
  conv in (co _ _ _) => reduce
  conv in (initR _ _) => reduce
  dsimp only [zaa, zab, zac, zad, zae, zaf, zag, zah, zai, zaj, zak, zal, zam, zan, zao, zap, zaq, zar, zas, zat, zau, zav, zaw, zax, zay, zaz, zba, zbb, zbc, zbd, zbe, zbf, zbg, zbh, zbi, zbk, zbl, zbm, zbn, zbo, zbp, zbq, zbr, zbs, zbt, zbu, zbv, zbw, zbx, zby, zbz, zca, zcb, zcc, zcd, zce, zcf, zcg, zch, zci, zcl, zcm, zcn, zco, zcp, zcq, zcr, zcs, zct, zcu, zcv, zcw, zcx, zcy, zcz, zda, zdb, zdc, zdd, zde, zdf, zdg, zdh, zdi, zdj, zdk, zdl, zdm, zdn, zdo, zdp, zdq, zdr, zds, zdt, zdu, zdv, zdw, zdx, zdy, zdz, zea, zeb, zec, zed, zee, zef, zeg, zeh, zei, zej, zek, zel, zem, zen, zeo, zep, zeq, zer, zes, zet, zeu, zev, zew, zex, zey, zez, zfa, zfb, zfc, zfd, zfe, zff, zfg, zfh, zfi, zfj, zfk, zfl, zfm, zfn, zfo, zfp, zfq, zfr, zfs, zft, zfu, zfv, zfw, zfx, zfy, zfz, zga, zgb, zgc, zgd, zge, zgf, zgg, zgh, zgi, zgj]
  refine ⟨rfl, ?_, ?_⟩
  · simp; omega
  refine ⟨xs.length + 1, ?_⟩
  have fin : ∀ e : Nat, e ≤ xs.length → xs.take e = norm xs → (List.map (fun x => D.int (Int.ofNat x)) xs).length ≤ sizeLine ∧
      Fl.ret (D.list (sliceL (List.map (fun x => D.int (Int.ofNat x)) xs) none (some (e : Int)))) = Fl.ret (D.list (nl (norm xs))) ∧
      FinP (initG [] (defAt 4).scope.names) (Str.ofString "a") (Sl.val (D.list (nl xs))) (Sl.val (D.list (nl xs))) [some (Sl.val (D.list (List.map (fun x => D.int (Int.ofNat x)) xs))), some (Sl.val (D.int (e : Int))), some (Sl.val (D.bi (Value.builtin "len")))] := fun e h1 h3 =>
    ⟨by rw [List.length_map]; exact Nat.le_trans (Nat.le_of_lt hl) (by decide +kernel), by rw [← h3]; exact congrArg (fun x => Fl.ret (D.list x)) (nl_slice xs e h1), .inl ⟨_, rfl, rfl⟩⟩
  generalize hn : xs.length + 1 = n
  rw [show (List.map (fun x => D.int (Int.ofNat x)) xs).length = xs.length by simp]
  generalize hE : xs.length = e
  have h1 : e ≤ xs.length := by omega
  have h2 : e < n := by omega
  have h3 : norm (xs.take e) = norm xs := by rw [← hE]; simp
  clear hE hn
  induction n generalizing e with
  | zero => omega
  | succ n ih =>
    dsimp only [zaa, zab, zac, zad, zae, zaf, zag, zah, zai, zaj, zak, zal, zam, zan, zao, zap, zaq, zar, zas, zat, zau, zav, zaw, zax, zay, zaz, zba, zbb, zbc, zbd, zbe, zbf, zbg, zbh, zbi, zbk, zbl, zbm, zbn, zbo, zbp, zbq, zbr, zbs, zbt, zbu, zbv, zbw, zbx, zby, zbz, zca, zcb, zcc, zcd, zce, zcf, zcg, zch, zci, zcl, zcm, zcn, zco, zcp, zcq, zcr, zcs, zct, zcu, zcv, zcw, zcx, zcy, zcz, zda, zdb, zdc, zdd, zde, zdf, zdg, zdh, zdi, zdj, zdk, zdl, zdm, zdn, zdo, zdp, zdq, zdr, zds, zdt, zdu, zdv, zdw, zdx, zdy, zdz, zea, zeb, zec, zed, zee, zef, zeg, zeh, zei, zej, zek, zel, zem, zen, zeo, zep, zeq, zer, zes, zet, zeu, zev, zew, zex, zey, zez, zfa, zfb, zfc, zfd, zfe, zff, zfg, zfh, zfi, zfj, zfk, zfl, zfm, zfn, zfo, zfp, zfq, zfr, zfs, zft, zfu, zfv, zfw, zfx, zfy, zfz, zga, zgb, zgc, zgd, zge, zgf, zgg, zgh, zgi, zgj]
    refine ⟨fun he => ?_, fun he => ⟨(fun h => nomatch h), fun _ => ?_⟩⟩
    · obtain ⟨e, rfl⟩ : ∃ e', e = e' + 1 := ⟨e - 1, by have := of_decide_eq_true he; simp at this; omega⟩
      refine ⟨by simp; omega, ?_⟩
      refine idx_at (i := e) (by simp) (nl_get (by omega)) ?_
      dsimp only [zaa, zab, zac, zad, zae, zaf, zag, zah, zai, zaj, zak, zal, zam, zan, zao, zap, zaq, zar, zas, zat, zau, zav, zaw, zax, zay, zaz, zba, zbb, zbc, zbd, zbe, zbf, zbg, zbh, zbi, zbk, zbl, zbm, zbn, zbo, zbp, zbq, zbr, zbs, zbt, zbu, zbv, zbw, zbx, zby, zbz, zca, zcb, zcc, zcd, zce, zcf, zcg, zch, zci, zcl, zcm, zcn, zco, zcp, zcq, zcr, zcs, zct, zcu, zcv, zcw, zcx, zcy, zcz, zda, zdb, zdc, zdd, zde, zdf, zdg, zdh, zdi, zdj, zdk, zdl, zdm, zdn, zdo, zdp, zdq, zdr, zds, zdt, zdu, zdv, zdw, zdx, zdy, zdz, zea, zeb, zec, zed, zee, zef, zeg, zeh, zei, zej, zek, zel, zem, zen, zeo, zep, zeq, zer, zes, zet, zeu, zev, zew, zex, zey, zez, zfa, zfb, zfc, zfd, zfe, zff, zfg, zfh, zfi, zfj, zfk, zfl, zfm, zfn, zfo, zfp, zfq, zfr, zfs, zft, zfu, zfv, zfw, zfx, zfy, zfz, zga, zgb, zgc, zgd, zge, zgf, zgg, zgh, zgi, zgj]
      refine ⟨fun h0 => ?_, fun h0 => ?_⟩
      · have h0 : xs[e] = 0 := by have := of_decide_eq_true h0; simpa using this
        rw [take_succ' (by omega), h0, norm_snoc0] at h3
        have := ih e (by omega) (by omega) h3
        rw [show ((e + 1 : Nat) : Int) - Int.ofNat 1 = (e : Int) by simp]
        exact this
      · have h0 : xs[e] ≠ 0 := by have := of_decide_eq_false h0; simpa using this
        rw [take_succ' (by omega), norm_snoc h0, ← take_succ' (by omega)] at h3
        exact fin (e + 1) h1 h3
    · have he : e = 0 := by have := of_decide_eq_false he; simp at this; omega
      subst he
      exact fin 0 h1 h3
open PySem PySem.W PyProof.Rows PySem.Calls PySem.Spec PySem.Challenge
theorem len1 {vs : List Value} (h : vs.length = 1) : ∃ a, vs = [a] := List.length_eq_one_iff.mp h
theorem len2 {vs : List Value} (h : vs.length = 2) : ∃ a b, vs = [a, b] := by
  cases vs with | nil => cases h | cons a r => obtain ⟨b, rfl⟩ := len1 (Nat.succ.inj h); exact ⟨a, b, rfl⟩
theorem len3 {vs : List Value} (h : vs.length = 3) : ∃ a b c, vs = [a, b, c] := by
  cases vs with | nil => cases h | cons a r => obtain ⟨b, c, rfl⟩ := len2 (Nat.succ.inj h); exact ⟨a, b, c, rfl⟩
theorem len4 {vs : List Value} (h : vs.length = 4) : ∃ a b c d, vs = [a, b, c, d] := by
  cases vs with | nil => cases h | cons a r => obtain ⟨b, c, d, rfl⟩ := len3 (Nat.succ.inj h); exact ⟨a, b, c, d, rfl⟩
theorem len5 {vs : List Value} (h : vs.length = 5) : ∃ a b c d e, vs = [a, b, c, d, e] := by
  cases vs with | nil => cases h | cons a r => obtain ⟨b, c, d, e, rfl⟩ := len4 (Nat.succ.inj h); exact ⟨a, b, c, d, e, rfl⟩

theorem fn5 : FnOk (defAt 5) [Str.ofString "a", Str.ofString "b"] where
  bind := fun s pm code doc vs h => by obtain ⟨_, _, rfl⟩ := len2 h; exact BindsTo.of_eq rfl
  loc := by decide +kernel
  nd := by decide +kernel
  and := by decide +kernel
  nc := by decide +kernel
  kind := rfl
  co := rfl
  gen := rfl
theorem fn6 : FnOk (defAt 6) [Str.ofString "a", Str.ofString "b", Str.ofString "w"] where
  bind := fun s pm code doc vs h => by obtain ⟨_, _, _, rfl⟩ := len3 h; exact BindsTo.of_eq rfl
  loc := by decide +kernel
  nd := by decide +kernel
  and := by decide +kernel
  nc := by decide +kernel
  kind := rfl
  co := rfl
  gen := rfl
theorem fn7 : FnOk (defAt 7) [Str.ofString "a", Str.ofString "b", Str.ofString "w"] where
  bind := fun s pm code doc vs h => by obtain ⟨_, _, _, rfl⟩ := len3 h; exact BindsTo.of_eq rfl
  loc := by decide +kernel
  nd := by decide +kernel
  and := by decide +kernel
  nc := by decide +kernel
  kind := rfl
  co := rfl
  gen := rfl
theorem fn8 : FnOk (defAt 8) [Str.ofString "a", Str.ofString "limb", Str.ofString "w"] where
  bind := fun s pm code doc vs h => by obtain ⟨_, _, _, rfl⟩ := len3 h; exact BindsTo.of_eq rfl
  loc := by decide +kernel
  nd := by decide +kernel
  and := by decide +kernel
  nc := by decide +kernel
  kind := rfl
  co := rfl
  gen := rfl
theorem fn9 : FnOk (defAt 9) [Str.ofString "a", Str.ofString "n", Str.ofString "w"] where
  bind := fun s pm code doc vs h => by obtain ⟨_, _, _, rfl⟩ := len3 h; exact BindsTo.of_eq rfl
  loc := by decide +kernel
  nd := by decide +kernel
  and := by decide +kernel
  nc := by decide +kernel
  kind := rfl
  co := rfl
  gen := rfl
theorem fn10 : FnOk (defAt 10) [Str.ofString "a", Str.ofString "n", Str.ofString "w"] where
  bind := fun s pm code doc vs h => by obtain ⟨_, _, _, rfl⟩ := len3 h; exact BindsTo.of_eq rfl
  loc := by decide +kernel
  nd := by decide +kernel
  and := by decide +kernel
  nc := by decide +kernel
  kind := rfl
  co := rfl
  gen := rfl
theorem fn11 : FnOk (defAt 11) [Str.ofString "a", Str.ofString "w"] where
  bind := fun s pm code doc vs h => by obtain ⟨_, _, rfl⟩ := len2 h; exact BindsTo.of_eq rfl
  loc := by decide +kernel
  nd := by decide +kernel
  and := by decide +kernel
  nc := by decide +kernel
  kind := rfl
  co := rfl
  gen := rfl
theorem fn13 : FnOk (defAt 13) [Str.ofString "is_below", Str.ofString "nat"] where
  bind := fun s pm code doc vs h => by obtain ⟨_, _, rfl⟩ := len2 h; exact BindsTo.of_eq rfl
  loc := by decide +kernel
  nd := by decide +kernel
  and := by decide +kernel
  nc := by decide +kernel
  kind := rfl
  co := rfl
  gen := rfl
theorem fn14 : FnOk (defAt 14) [Str.ofString "x"] where
  bind := fun s pm code doc vs h => by obtain ⟨_, rfl⟩ := len1 h; exact BindsTo.of_eq rfl
  loc := by decide +kernel
  nd := by decide +kernel
  and := by decide +kernel
  nc := by decide +kernel
  kind := rfl
  co := rfl
  gen := rfl
theorem fn15 : FnOk (defAt 15) [Str.ofString "x"] where
  bind := fun s pm code doc vs h => by obtain ⟨_, rfl⟩ := len1 h; exact BindsTo.of_eq rfl
  loc := by decide +kernel
  nd := by decide +kernel
  and := by decide +kernel
  nc := by decide +kernel
  kind := rfl
  co := rfl
  gen := rfl
theorem fn16 : FnOk (defAt 16) [Str.ofString "x", Str.ofString "y", Str.ofString "w"] where
  bind := fun s pm code doc vs h => by obtain ⟨_, _, _, rfl⟩ := len3 h; exact BindsTo.of_eq rfl
  loc := by decide +kernel
  nd := by decide +kernel
  and := by decide +kernel
  nc := by decide +kernel
  kind := rfl
  co := rfl
  gen := rfl
theorem fn17 : FnOk (defAt 17) [Str.ofString "x", Str.ofString "y", Str.ofString "w", Str.ofString "mul"] where
  bind := fun s pm code doc vs h => by obtain ⟨_, _, _, _, rfl⟩ := len4 h; exact BindsTo.of_eq rfl
  loc := by decide +kernel
  nd := by decide +kernel
  and := by decide +kernel
  nc := by decide +kernel
  kind := rfl
  co := rfl
  gen := rfl
theorem fn19 : FnOk (defAt 19) [Str.ofString "a", Str.ofString "b", Str.ofString "w", Str.ofString "divrem"] where
  bind := fun s pm code doc vs h => by obtain ⟨_, _, _, _, rfl⟩ := len4 h; exact BindsTo.of_eq rfl
  loc := by decide +kernel
  nd := by decide +kernel
  and := by decide +kernel
  nc := by decide +kernel
  kind := rfl
  co := rfl
  gen := rfl
theorem fn20 : FnOk (defAt 20) [Str.ofString "x", Str.ofString "d", Str.ofString "w", Str.ofString "divrem"] where
  bind := fun s pm code doc vs h => by obtain ⟨_, _, _, _, rfl⟩ := len4 h; exact BindsTo.of_eq rfl
  loc := by decide +kernel
  nd := by decide +kernel
  and := by decide +kernel
  nc := by decide +kernel
  kind := rfl
  co := rfl
  gen := rfl
theorem fn21 : FnOk (defAt 21) [Str.ofString "nat"] where
  bind := fun s pm code doc vs h => by obtain ⟨_, rfl⟩ := len1 h; exact BindsTo.of_eq rfl
  loc := by decide +kernel
  nd := by decide +kernel
  and := by decide +kernel
  nc := by decide +kernel
  kind := rfl
  co := rfl
  gen := rfl
theorem fn22 : FnOk (defAt 22) [Str.ofString "x"] where
  bind := fun s pm code doc vs h => by obtain ⟨_, rfl⟩ := len1 h; exact BindsTo.of_eq rfl
  loc := by decide +kernel
  nd := by decide +kernel
  and := by decide +kernel
  nc := by decide +kernel
  kind := rfl
  co := rfl
  gen := rfl
theorem fn23 : FnOk (defAt 23) [Str.ofString "x", Str.ofString "y", Str.ofString "w", Str.ofString "mul", Str.ofString "divrem"] where
  bind := fun s pm code doc vs h => by obtain ⟨_, _, _, _, _, rfl⟩ := len5 h; exact BindsTo.of_eq rfl
  loc := by decide +kernel
  nd := by decide +kernel
  and := by decide +kernel
  nc := by decide +kernel
  kind := rfl
  co := rfl
  gen := rfl
theorem fn24 : FnOk (defAt 24) [Str.ofString "x", Str.ofString "y", Str.ofString "w", Str.ofString "mul", Str.ofString "divrem"] where
  bind := fun s pm code doc vs h => by obtain ⟨_, _, _, _, _, rfl⟩ := len5 h; exact BindsTo.of_eq rfl
  loc := by decide +kernel
  nd := by decide +kernel
  and := by decide +kernel
  nc := by decide +kernel
  kind := rfl
  co := rfl
  gen := rfl
theorem fn25 : FnOk (defAt 25) [Str.ofString "x", Str.ofString "y", Str.ofString "w", Str.ofString "mul", Str.ofString "divrem"] where
  bind := fun s pm code doc vs h => by obtain ⟨_, _, _, _, _, rfl⟩ := len5 h; exact BindsTo.of_eq rfl
  loc := by decide +kernel
  nd := by decide +kernel
  and := by decide +kernel
  nc := by decide +kernel
  kind := rfl
  co := rfl
  gen := rfl
theorem fn26 : FnOk (defAt 26) [Str.ofString "x"] where
  bind := fun s pm code doc vs h => by obtain ⟨_, rfl⟩ := len1 h; exact BindsTo.of_eq rfl
  loc := by decide +kernel
  nd := by decide +kernel
  and := by decide +kernel
  nc := by decide +kernel
  kind := rfl
  co := rfl
  gen := rfl
theorem fn27 : FnOk (defAt 27) [Str.ofString "x", Str.ofString "y", Str.ofString "w", Str.ofString "mul", Str.ofString "divrem"] where
  bind := fun s pm code doc vs h => by obtain ⟨_, _, _, _, _, rfl⟩ := len5 h; exact BindsTo.of_eq rfl
  loc := by decide +kernel
  nd := by decide +kernel
  and := by decide +kernel
  nc := by decide +kernel
  kind := rfl
  co := rfl
  gen := rfl
theorem fn29 : FnOk (defAt 29) [Str.ofString "a", Str.ofString "b", Str.ofString "w"] where
  bind := fun s pm code doc vs h => by obtain ⟨_, _, _, rfl⟩ := len3 h; exact BindsTo.of_eq rfl
  loc := by decide +kernel
  nd := by decide +kernel
  and := by decide +kernel
  nc := by decide +kernel
  kind := rfl
  co := rfl
  gen := rfl
theorem fn30 : FnOk (defAt 30) [Str.ofString "a", Str.ofString "b", Str.ofString "w"] where
  bind := fun s pm code doc vs h => by obtain ⟨_, _, _, rfl⟩ := len3 h; exact BindsTo.of_eq rfl
  loc := by decide +kernel
  nd := by decide +kernel
  and := by decide +kernel
  nc := by decide +kernel
  kind := rfl
  co := rfl
  gen := rfl
theorem fn31 : FnOk (defAt 31) [Str.ofString "top", Str.ofString "first", Str.ofString "second", Str.ofString "w"] where
  bind := fun s pm code doc vs h => by obtain ⟨_, _, _, _, rfl⟩ := len4 h; exact BindsTo.of_eq rfl
  loc := by decide +kernel
  nd := by decide +kernel
  and := by decide +kernel
  nc := by decide +kernel
  kind := rfl
  co := rfl
  gen := rfl
theorem fn32 : FnOk (defAt 32) [Str.ofString "rest", Str.ofString "b", Str.ofString "limb", Str.ofString "at", Str.ofString "w"] where
  bind := fun s pm code doc vs h => by obtain ⟨_, _, _, _, _, rfl⟩ := len5 h; exact BindsTo.of_eq rfl
  loc := by decide +kernel
  nd := by decide +kernel
  and := by decide +kernel
  nc := by decide +kernel
  kind := rfl
  co := rfl
  gen := rfl
theorem fn33 : FnOk (defAt 33) [Str.ofString "rest", Str.ofString "b", Str.ofString "at", Str.ofString "w"] where
  bind := fun s pm code doc vs h => by obtain ⟨_, _, _, _, rfl⟩ := len4 h; exact BindsTo.of_eq rfl
  loc := by decide +kernel
  nd := by decide +kernel
  and := by decide +kernel
  nc := by decide +kernel
  kind := rfl
  co := rfl
  gen := rfl
theorem fn34 : FnOk (defAt 34) [Str.ofString "rest", Str.ofString "b", Str.ofString "w"] where
  bind := fun s pm code doc vs h => by obtain ⟨_, _, _, rfl⟩ := len3 h; exact BindsTo.of_eq rfl
  loc := by decide +kernel
  nd := by decide +kernel
  and := by decide +kernel
  nc := by decide +kernel
  kind := rfl
  co := rfl
  gen := rfl
theorem fn35 : FnOk (defAt 35) [Str.ofString "a", Str.ofString "b", Str.ofString "w"] where
  bind := fun s pm code doc vs h => by obtain ⟨_, _, _, rfl⟩ := len3 h; exact BindsTo.of_eq rfl
  loc := by decide +kernel
  nd := by decide +kernel
  and := by decide +kernel
  nc := by decide +kernel
  kind := rfl
  co := rfl
  gen := rfl
theorem fn37 : FnOk (defAt 37) [Str.ofString "line", Str.ofString "many"] where
  bind := fun s pm code doc vs h => by obtain ⟨_, _, rfl⟩ := len2 h; exact BindsTo.of_eq rfl
  loc := by decide +kernel
  nd := by decide +kernel
  and := by decide +kernel
  nc := by decide +kernel
  kind := rfl
  co := rfl
  gen := rfl
theorem fn38 : FnOk (defAt 38) [Str.ofString "number", Str.ofString "w"] where
  bind := fun s pm code doc vs h => by obtain ⟨_, _, rfl⟩ := len2 h; exact BindsTo.of_eq rfl
  loc := by decide +kernel
  nd := by decide +kernel
  and := by decide +kernel
  nc := by decide +kernel
  kind := rfl
  co := rfl
  gen := rfl
theorem fn39 : FnOk (defAt 39) [Str.ofString "number", Str.ofString "w"] where
  bind := fun s pm code doc vs h => by obtain ⟨_, _, rfl⟩ := len2 h; exact BindsTo.of_eq rfl
  loc := by decide +kernel
  nd := by decide +kernel
  and := by decide +kernel
  nc := by decide +kernel
  kind := rfl
  co := rfl
  gen := rfl
theorem fn42 : FnOk (defAt 42) [Str.ofString "numbers", Str.ofString "place", Str.ofString "w"] where
  bind := fun s pm code doc vs h => by obtain ⟨_, _, _, rfl⟩ := len3 h; exact BindsTo.of_eq rfl
  loc := by decide +kernel
  nd := by decide +kernel
  and := by decide +kernel
  nc := by decide +kernel
  kind := rfl
  co := rfl
  gen := rfl
end Mine

set_option maxHeartbeats 4000000
namespace Mine
open PySem PySem.W PyProof.Rows PySem.Calls PySem.Spec PySem.Challenge

noncomputable def cmpGo (xs ys : List Nat) : Nat → Int
  | 0 => 0
  | e + 1 => if xs.getD e 0 = ys.getD e 0 then cmpGo xs ys e else if xs.getD e 0 < ys.getD e 0 then -1 else 1
noncomputable def ordL (xs ys : List Nat) : Int := if xs.length = ys.length then cmpGo xs ys xs.length else if xs.length < ys.length then -1 else 1

theorem downL_s (e : Nat) : (downL (e : Int) (-1)) = (e : Int) :: downL ((e : Int) - 1) (-1) := by
  unfold downL
  rw [show ((e : Int) - -1).toNat = e + 1 by omega, show ((e : Int) - 1 - -1).toNat = e by omega, List.range_succ_eq_map]
  simp [List.map_map, Function.comp_def]
  intro a ha; omega

theorem compare_ok {W : Wd} {k : Nat} (hW : Wv W) {xs ys : List Nat} (hl : xs.length < 2 ^ 20) (hl' : ys.length < 2 ^ 20) : CallOk W (k + 1) (Str.ofString "compare") [.val (.list (nl xs)), .val (.list (nl ys))] (.int (ordL xs ys)) [.val (.list (nl xs)), .val (.list (nl ys))] := by
  refine call_fn (d := defAt 5) (as := [Str.ofString "b"]) (p := Str.ofString "a") (ds := [.list (nl ys)]) (n := 60) (fx := []) hW.2 (rec_mem 5 (by decide) hW) fn5 rfl ?_
  have lx : (nl xs).length = xs.length := List.length_map ..
  have ly : (nl ys).length = ys.length := List.length_map ..
  have gx : ∀ i, i < xs.length → (nl xs)[i]? = some (.int ((xs.getD i 0 : Nat) : Int)) := fun i h => by rw [nl_get h]; simp [List.getD, h]
  have gy : ∀ i, i < ys.length → (nl ys)[i]? = some (.int ((ys.getD i 0 : Nat) : Int)) := fun i h => by rw [nl_get h]; simp [List.getD, h]
  generalize nl xs = dx at *
  generalize nl ys = dy at *
  conv in (co _ _ _) => reduce
  conv in (initR _ _) => reduce
  dsimp only [zaa, zab, zac, zad, zae, zaf, zag, zah, zai, zaj, zak, zal, zam, zan, zao, zap, zaq, zar, zas, zat, zau, zav, zaw, zax, zay, zaz, zba, zbb, zbc, zbd, zbe, zbf, zbg, zbh, zbi, zbk, zbl, zbm, zbn, zbo, zbp, zbq, zbr, zbs, zbt, zbu, zbv, zbw, zbx, zby, zbz, zca, zcb, zcc, zcd, zce, zcf, zcg, zch, zci, zcl, zcm, zcn, zco, zcp, zcq, zcr, zcs, zct, zcu, zcv, zcw, zcx, zcy, zcz, zda, zdb, zdc, zdd, zde, zdf, zdg, zdh, zdi, zdj, zdk, zdl, zdm, zdn, zdo, zdp, zdq, zdr, zds, zdt, zdu, zdv, zdw, zdx, zdy, zdz, zea, zeb, zec, zed, zee, zef, zeg, zeh, zei, zej, zek, zel, zem, zen, zeo, zep, zeq, zer, zes, zet, zeu, zev, zew, zex, zey, zez, zfa, zfb, zfc, zfd, zfe, zff, zfg, zfh, zfi, zfj, zfk, zfl, zfm, zfn, zfo, zfp, zfq, zfr, zfs, zft, zfu, zfv, zfw, zfx, zfy, zfz, zga, zgb, zgc, zgd, zge, zgf, zgg, zgh, zgi, zgj]
  rw [lx, ly]
  refine ⟨rfl, by omega, rfl, by omega, fun h => ⟨rfl, by omega, rfl, by omega, fun h2 => ⟨?_, .inl ⟨_, rfl, rfl⟩⟩, fun h2 => ⟨?_, .inl ⟨_, rfl, rfl⟩⟩⟩, fun h => ⟨rfl, by omega, .inl ⟨rfl, ⟨rfl, ?_, ?_⟩, ?_⟩⟩⟩
  · unfold ordL
    rw [if_neg (by simp at h; omega), if_pos (by simp at h2; omega)]; rfl
  · unfold ordL
    rw [if_neg (by simp at h; omega), if_neg (by simp at h2; omega)]; rfl
  · unfold big; simp; omega
  · refine ⟨?_, ?_, ?_⟩ <;> unfold big <;> simp <;> omega
  have hlen : xs.length = ys.length := by simp at h; omega
  have hr : ordL xs ys = cmpGo xs ys xs.length := by unfold ordL; rw [if_pos hlen]
  rw [hr]
  refine ⟨Nat.le_refl 1, ?_⟩
  rw [show ((xs.length : Int) - Int.ofNat 1) = (xs.length : Int) - 1 from rfl, show (-Int.ofNat 1) = (-1 : Int) from rfl]
  generalize (none : Option Sl) = v0
  generalize hR : cmpGo xs ys xs.length = R
  show wpLoop _ _ (List.map D.int (downL (xs.length - 1) (-1))) _
  obtain ⟨e, hE⟩ : ∃ e, e = xs.length := ⟨_, rfl⟩
  rw [← hE] at hR ⊢
  have h1 : e ≤ xs.length := Nat.le_of_eq hE
  clear hE hr
  induction e generalizing v0 with
  | zero =>
    dsimp only [zaa, zab, zac, zad, zae, zaf, zag, zah, zai, zaj, zak, zal, zam, zan, zao, zap, zaq, zar, zas, zat, zau, zav, zaw, zax, zay, zaz, zba, zbb, zbc, zbd, zbe, zbf, zbg, zbh, zbi, zbk, zbl, zbm, zbn, zbo, zbp, zbq, zbr, zbs, zbt, zbu, zbv, zbw, zbx, zby, zbz, zca, zcb, zcc, zcd, zce, zcf, zcg, zch, zci, zcl, zcm, zcn, zco, zcp, zcq, zcr, zcs, zct, zcu, zcv, zcw, zcx, zcy, zcz, zda, zdb, zdc, zdd, zde, zdf, zdg, zdh, zdi, zdj, zdk, zdl, zdm, zdn, zdo, zdp, zdq, zdr, zds, zdt, zdu, zdv, zdw, zdx, zdy, zdz, zea, zeb, zec, zed, zee, zef, zeg, zeh, zei, zej, zek, zel, zem, zen, zeo, zep, zeq, zer, zes, zet, zeu, zev, zew, zex, zey, zez, zfa, zfb, zfc, zfd, zfe, zff, zfg, zfh, zfi, zfj, zfk, zfl, zfm, zfn, zfo, zfp, zfq, zfr, zfs, zft, zfu, zfv, zfw, zfx, zfy, zfz, zga, zgb, zgc, zgd, zge, zgf, zgg, zgh, zgi, zgj]
    exact ⟨by rw [← hR]; rfl, .inl ⟨_, rfl, rfl⟩⟩
  | succ e ih =>
    rw [show (((e + 1 : Nat) : Int) - 1) = (e : Int) by omega, downL_s, List.map_cons]
    dsimp only [zaa, zab, zac, zad, zae, zaf, zag, zah, zai, zaj, zak, zal, zam, zan, zao, zap, zaq, zar, zas, zat, zau, zav, zaw, zax, zay, zaz, zba, zbb, zbc, zbd, zbe, zbf, zbg, zbh, zbi, zbk, zbl, zbm, zbn, zbo, zbp, zbq, zbr, zbs, zbt, zbu, zbv, zbw, zbx, zby, zbz, zca, zcb, zcc, zcd, zce, zcf, zcg, zch, zci, zcl, zcm, zcn, zco, zcp, zcq, zcr, zcs, zct, zcu, zcv, zcw, zcx, zcy, zcz, zda, zdb, zdc, zdd, zde, zdf, zdg, zdh, zdi, zdj, zdk, zdl, zdm, zdn, zdo, zdp, zdq, zdr, zds, zdt, zdu, zdv, zdw, zdx, zdy, zdz, zea, zeb, zec, zed, zee, zef, zeg, zeh, zei, zej, zek, zel, zem, zen, zeo, zep, zeq, zer, zes, zet, zeu, zev, zew, zex, zey, zez, zfa, zfb, zfc, zfd, zfe, zff, zfg, zfh, zfi, zfj, zfk, zfl, zfm, zfn, zfo, zfp, zfq, zfr, zfs, zft, zfu, zfv, zfw, zfx, zfy, zfz, zga, zgb, zgc, zgd, zge, zgf, zgg, zgh, zgi, zgj]
    refine ⟨by omega, idx_at rfl (gx e (by omega)) ?_⟩
    dsimp only [zaa, zab, zac, zad, zae, zaf, zag, zah, zai, zaj, zak, zal, zam, zan, zao, zap, zaq, zar, zas, zat, zau, zav, zaw, zax, zay, zaz, zba, zbb, zbc, zbd, zbe, zbf, zbg, zbh, zbi, zbk, zbl, zbm, zbn, zbo, zbp, zbq, zbr, zbs, zbt, zbu, zbv, zbw, zbx, zby, zbz, zca, zcb, zcc, zcd, zce, zcf, zcg, zch, zci, zcl, zcm, zcn, zco, zcp, zcq, zcr, zcs, zct, zcu, zcv, zcw, zcx, zcy, zcz, zda, zdb, zdc, zdd, zde, zdf, zdg, zdh, zdi, zdj, zdk, zdl, zdm, zdn, zdo, zdp, zdq, zdr, zds, zdt, zdu, zdv, zdw, zdx, zdy, zdz, zea, zeb, zec, zed, zee, zef, zeg, zeh, zei, zej, zek, zel, zem, zen, zeo, zep, zeq, zer, zes, zet, zeu, zev, zew, zex, zey, zez, zfa, zfb, zfc, zfd, zfe, zff, zfg, zfh, zfi, zfj, zfk, zfl, zfm, zfn, zfo, zfp, zfq, zfr, zfs, zft, zfu, zfv, zfw, zfx, zfy, zfz, zga, zgb, zgc, zgd, zge, zgf, zgg, zgh, zgi, zgj]
    refine ⟨by omega, idx_at rfl (gy e (by omega)) ?_⟩
    dsimp only [zaa, zab, zac, zad, zae, zaf, zag, zah, zai, zaj, zak, zal, zam, zan, zao, zap, zaq, zar, zas, zat, zau, zav, zaw, zax, zay, zaz, zba, zbb, zbc, zbd, zbe, zbf, zbg, zbh, zbi, zbk, zbl, zbm, zbn, zbo, zbp, zbq, zbr, zbs, zbt, zbu, zbv, zbw, zbx, zby, zbz, zca, zcb, zcc, zcd, zce, zcf, zcg, zch, zci, zcl, zcm, zcn, zco, zcp, zcq, zcr, zcs, zct, zcu, zcv, zcw, zcx, zcy, zcz, zda, zdb, zdc, zdd, zde, zdf, zdg, zdh, zdi, zdj, zdk, zdl, zdm, zdn, zdo, zdp, zdq, zdr, zds, zdt, zdu, zdv, zdw, zdx, zdy, zdz, zea, zeb, zec, zed, zee, zef, zeg, zeh, zei, zej, zek, zel, zem, zen, zeo, zep, zeq, zer, zes, zet, zeu, zev, zew, zex, zey, zez, zfa, zfb, zfc, zfd, zfe, zff, zfg, zfh, zfi, zfj, zfk, zfl, zfm, zfn, zfo, zfp, zfq, zfr, zfs, zft, zfu, zfv, zfw, zfx, zfy, zfz, zga, zgb, zgc, zgd, zge, zgf, zgg, zgh, zgi, zgj]
    have hc : cmpGo xs ys (e + 1) = if xs.getD e 0 = ys.getD e 0 then cmpGo xs ys e else if xs.getD e 0 < ys.getD e 0 then -1 else 1 := rfl
    rw [hc] at hR
    refine ⟨fun hq => ⟨by omega, idx_at rfl (gx e (by omega)) ?_⟩, fun hq => ?_⟩
    · dsimp only [zaa, zab, zac, zad, zae, zaf, zag, zah, zai, zaj, zak, zal, zam, zan, zao, zap, zaq, zar, zas, zat, zau, zav, zaw, zax, zay, zaz, zba, zbb, zbc, zbd, zbe, zbf, zbg, zbh, zbi, zbk, zbl, zbm, zbn, zbo, zbp, zbq, zbr, zbs, zbt, zbu, zbv, zbw, zbx, zby, zbz, zca, zcb, zcc, zcd, zce, zcf, zcg, zch, zci, zcl, zcm, zcn, zco, zcp, zcq, zcr, zcs, zct, zcu, zcv, zcw, zcx, zcy, zcz, zda, zdb, zdc, zdd, zde, zdf, zdg, zdh, zdi, zdj, zdk, zdl, zdm, zdn, zdo, zdp, zdq, zdr, zds, zdt, zdu, zdv, zdw, zdx, zdy, zdz, zea, zeb, zec, zed, zee, zef, zeg, zeh, zei, zej, zek, zel, zem, zen, zeo, zep, zeq, zer, zes, zet, zeu, zev, zew, zex, zey, zez, zfa, zfb, zfc, zfd, zfe, zff, zfg, zfh, zfi, zfj, zfk, zfl, zfm, zfn, zfo, zfp, zfq, zfr, zfs, zft, zfu, zfv, zfw, zfx, zfy, zfz, zga, zgb, zgc, zgd, zge, zgf, zgg, zgh, zgi, zgj]
      have hq : xs.getD e 0 ≠ ys.getD e 0 := by simp only [Bool.not_eq_eq_eq_not, Bool.not_true, Bool.not_false, decide_eq_true_eq, decide_eq_false_iff_not] at hq; omega
      rw [if_neg hq] at hR
      refine ⟨by omega, idx_at rfl (gy e (by omega)) ?_⟩
      dsimp only [zaa, zab, zac, zad, zae, zaf, zag, zah, zai, zaj, zak, zal, zam, zan, zao, zap, zaq, zar, zas, zat, zau, zav, zaw, zax, zay, zaz, zba, zbb, zbc, zbd, zbe, zbf, zbg, zbh, zbi, zbk, zbl, zbm, zbn, zbo, zbp, zbq, zbr, zbs, zbt, zbu, zbv, zbw, zbx, zby, zbz, zca, zcb, zcc, zcd, zce, zcf, zcg, zch, zci, zcl, zcm, zcn, zco, zcp, zcq, zcr, zcs, zct, zcu, zcv, zcw, zcx, zcy, zcz, zda, zdb, zdc, zdd, zde, zdf, zdg, zdh, zdi, zdj, zdk, zdl, zdm, zdn, zdo, zdp, zdq, zdr, zds, zdt, zdu, zdv, zdw, zdx, zdy, zdz, zea, zeb, zec, zed, zee, zef, zeg, zeh, zei, zej, zek, zel, zem, zen, zeo, zep, zeq, zer, zes, zet, zeu, zev, zew, zex, zey, zez, zfa, zfb, zfc, zfd, zfe, zff, zfg, zfh, zfi, zfj, zfk, zfl, zfm, zfn, zfo, zfp, zfq, zfr, zfs, zft, zfu, zfv, zfw, zfx, zfy, zfz, zga, zgb, zgc, zgd, zge, zgf, zgg, zgh, zgi, zgj]
      refine ⟨fun hq2 => ⟨?_, .inl ⟨_, rfl, rfl⟩⟩, fun hq2 => ⟨?_, .inl ⟨_, rfl, rfl⟩⟩⟩
      · rw [← hR, if_pos (by simp only [Bool.not_eq_eq_eq_not, Bool.not_true, Bool.not_false, decide_eq_true_eq, decide_eq_false_iff_not] at hq2; omega)]; rfl
      · rw [← hR, if_neg (by simp only [Bool.not_eq_eq_eq_not, Bool.not_true, Bool.not_false, decide_eq_true_eq, decide_eq_false_iff_not] at hq2; omega)]; rfl
    · have hq : xs.getD e 0 = ys.getD e 0 := by simp only [Bool.not_eq_eq_eq_not, Bool.not_true, Bool.not_false, decide_eq_true_eq, decide_eq_false_iff_not] at hq; omega
      rw [if_pos hq] at hR
      exact ih _ hR (by omega)
open PySem PySem.W PyProof.Rows PySem.Calls PySem.Spec PySem.Challenge

noncomputable def vl (w : Nat) : List Nat → Nat
  | [] => 0
  | x :: xs => x + 2 ^ w * vl w xs
noncomputable def limF (w : Nat) : Nat → Nat → List Nat
  | 0, _ => []
  | f + 1, n => if n = 0 then [] else n % 2 ^ w :: limF w f (n / 2 ^ w)
noncomputable def lim (w n : Nat) : List Nat := limF w n n
noncomputable abbrev Dg (w : Nat) (xs : List Nat) : Prop := ∀ x ∈ xs, x < 2 ^ w

theorem pw_pos (w : Nat) : 0 < 2 ^ w := Nat.two_pow_pos w
theorem pw_two {w : Nat} (h : w ≠ 0) : 2 ≤ 2 ^ w := by
  obtain ⟨v, rfl⟩ := Nat.exists_eq_succ_of_ne_zero h
  have := pw_pos v
  rw [Nat.pow_succ]; omega
theorem div_lt {w n : Nat} (h : w ≠ 0) (hn : n ≠ 0) : n / 2 ^ w < n := Nat.div_lt_self (Nat.pos_of_ne_zero hn) (pw_two h)
theorem limF_eq {w : Nat} (h : w ≠ 0) : ∀ f g n, n ≤ f → n ≤ g → limF w f n = limF w g n
  | 0, 0, n, _, _ => rfl
  | 0, g + 1, n, h1, _ => by
    have : n = 0 := Nat.le_zero.mp h1
    subst this; rfl
  | f + 1, 0, n, _, h1 => by
    have : n = 0 := Nat.le_zero.mp h1
    subst this; rfl
  | f + 1, g + 1, n, h1, h2 => by
    show (if n = 0 then [] else _) = if n = 0 then [] else _
    by_cases e : n = 0
    · rw [if_pos e, if_pos e]
    · have := div_lt h e
      rw [if_neg e, if_neg e, limF_eq h f g _ (by omega) (by omega)]
theorem lim_zero {w : Nat} : lim w 0 = [] := rfl
theorem lim_pos {w n : Nat} (h : w ≠ 0) (hn : n ≠ 0) : lim w n = n % 2 ^ w :: lim w (n / 2 ^ w) := by
  have hd := div_lt h hn
  obtain ⟨m, rfl⟩ := Nat.exists_eq_succ_of_ne_zero hn
  show (if m.succ = 0 then [] else m.succ % 2 ^ w :: limF w m (m.succ / 2 ^ w)) = _
  rw [if_neg hn, limF_eq h m (m.succ / 2 ^ w) _ (Nat.le_of_lt_succ hd) (Nat.le_refl _)]; rfl

theorem vl_app (w : Nat) : ∀ xs ys, vl w (xs ++ ys) = vl w xs + 2 ^ (w * xs.length) * vl w ys
  | [], ys => by show vl w ys = 0 + 2 ^ (w * 0) * vl w ys; rw [Nat.mul_zero, Nat.pow_zero, Nat.one_mul, Nat.zero_add]
  | x :: xs, ys => by
    show x + 2 ^ w * vl w (xs ++ ys) = x + 2 ^ w * vl w xs + 2 ^ (w * (xs.length + 1)) * vl w ys
    rw [vl_app w xs ys, Nat.mul_add, Nat.mul_succ, Nat.pow_add, Nat.mul_comm (2 ^ (w * xs.length)) (2 ^ w), Nat.mul_assoc, Nat.add_assoc]
theorem vl_one (w x : Nat) : vl w [x] = x := by show x + 2 ^ w * 0 = x; rw [Nat.mul_zero, Nat.add_zero]
theorem vl_snoc (w : Nat) (xs : List Nat) (y : Nat) : vl w (xs ++ [y]) = vl w xs + 2 ^ (w * xs.length) * y := by rw [vl_app, vl_one]
theorem dg_nil (w : Nat) : Dg w [] := fun _ h => nomatch h
theorem dg_cons {w x : Nat} {xs : List Nat} (h : x < 2 ^ w) (hs : Dg w xs) : Dg w (x :: xs) := fun y hy => by
  rcases List.mem_cons.mp hy with rfl | hy
  · exact h
  · exact hs y hy
theorem dg_app {w : Nat} {xs ys : List Nat} (h : Dg w xs) (hs : Dg w ys) : Dg w (xs ++ ys) := fun y hy => (List.mem_append.mp hy).elim (h y) (hs y)
theorem dg_snoc {w y : Nat} {xs : List Nat} (h : Dg w xs) (hy : y < 2 ^ w) : Dg w (xs ++ [y]) := dg_app h (dg_cons hy (dg_nil w))
theorem vl_lt {w : Nat} : ∀ {xs : List Nat}, Dg w xs → vl w xs < 2 ^ (w * xs.length)
  | [], _ => by show 0 < _; exact pw_pos _
  | x :: xs, h => by
    have h1 := h x (.head _)
    have h2 := vl_lt (w := w) (xs := xs) fun y hy => h y (.tail _ hy)
    show x + 2 ^ w * vl w xs < 2 ^ (w * (xs.length + 1))
    rw [Nat.mul_succ, Nat.pow_add, Nat.mul_comm (2 ^ (w * xs.length))]
    have := Nat.mul_le_mul_left (2 ^ w) (Nat.succ_le_of_lt h2)
    rw [Nat.mul_succ] at this
    omega
theorem vl_lim {w : Nat} (h : w ≠ 0) (n : Nat) : vl w (lim w n) = n := by
  induction n using Nat.strongRecOn with
  | _ n ih =>
    by_cases e : n = 0
    · subst e; rfl
    · rw [lim_pos h e]
      show n % 2 ^ w + 2 ^ w * vl w (lim w (n / 2 ^ w)) = n
      rw [ih _ (div_lt h e)]; exact Nat.mod_add_div n _
theorem dg_lim {w : Nat} (h : w ≠ 0) (n : Nat) : Dg w (lim w n) := by
  induction n using Nat.strongRecOn with
  | _ n ih =>
    by_cases e : n = 0
    · subst e; exact dg_nil w
    · rw [lim_pos h e]
      exact dg_cons (Nat.mod_lt _ (pw_pos w)) (ih _ (div_lt h e))
/-- a list of limbs without a last nought is the limbs of its value -/
theorem lim_vl {w : Nat} (h : w ≠ 0) : ∀ {xs : List Nat}, Dg w xs → xs.getLast? ≠ some 0 → lim w (vl w xs) = xs
  | [], _, _ => rfl
  | [x], hd, hl => by
    have hx : x ≠ 0 := fun e => hl (by rw [e]; rfl)
    have := hd x (.head _)
    rw [vl_one, lim_pos h hx, Nat.mod_eq_of_lt this, Nat.div_eq_of_lt this]; rfl
  | x :: y :: xs, hd, hl => by
    have h1 := hd x (.head _)
    have ih := lim_vl h (xs := y :: xs) (fun z hz => hd z (.tail _ hz)) (by rwa [List.getLast?_cons_cons] at hl)
    have hv : vl w (y :: xs) ≠ 0 := fun e => by rw [e] at ih; exact nomatch ih
    have hB := pw_pos w
    show lim w (x + 2 ^ w * vl w (y :: xs)) = _
    rw [lim_pos h (fun e => hv (by rcases Nat.mul_eq_zero.mp (Nat.eq_zero_of_add_eq_zero_left e) with e | e; exact absurd e (Nat.ne_of_gt hB); exact e))]
    rw [Nat.add_mul_mod_self_left, Nat.mod_eq_of_lt h1, Nat.add_mul_div_left _ _ hB, Nat.div_eq_of_lt h1, Nat.zero_add, ih]
theorem lim_last {w : Nat} (h : w ≠ 0) (n : Nat) : (lim w n).getLast? ≠ some 0 := by
  induction n using Nat.strongRecOn with
  | _ n ih =>
    by_cases e : n = 0
    · subst e; exact fun h => nomatch h
    · rw [lim_pos h e]
      by_cases e2 : n / 2 ^ w = 0
      · rw [e2, lim_zero]
        intro h3
        have h3 : n % 2 ^ w = 0 := Option.some.inj h3
        have := Nat.mod_add_div n (2 ^ w)
        rw [h3, e2, Nat.mul_zero] at this
        exact e this.symm
      · have := ih _ (div_lt h e)
        rw [lim_pos h e2] at this ⊢
        rwa [List.getLast?_cons_cons]
theorem norm_dg {w : Nat} (h : w ≠ 0) {xs : List Nat} (hd : Dg w xs) : norm xs = lim w (vl w xs) := by
  obtain ⟨n, hn⟩ : ∃ n, n = xs.length := ⟨_, rfl⟩
  induction n generalizing xs with
  | zero => rw [List.eq_nil_of_length_eq_zero hn.symm]; rfl
  | succ n ih =>
    have hne : xs ≠ [] := fun e => by subst e; exact nomatch hn
    have hx := (List.dropLast_concat_getLast hne).symm
    generalize xs.getLast hne = y at hx
    generalize xs.dropLast = ys at hx
    subst hx
    by_cases e : y = 0
    · subst e
      rw [norm_snoc0, vl_snoc, Nat.mul_zero, Nat.add_zero]
      exact ih (fun z hz => hd z (List.mem_append_left _ hz)) (by rw [List.length_append] at hn; exact Nat.succ.inj hn)
    · rw [norm_snoc e]
      exact (lim_vl h hd (by rw [List.getLast?_append]; exact fun h => e (Option.some.inj h))).symm
theorem lim_len {w : Nat} (h : w ≠ 0) : ∀ (L n : Nat), n < 2 ^ (w * L) → (lim w n).length ≤ L
  | 0, n, hn => by
    have : n = 0 := by rw [Nat.mul_zero, Nat.pow_zero] at hn; omega
    subst this; exact Nat.le_refl _
  | L + 1, n, hn => by
    by_cases e : n = 0
    · subst e; exact Nat.zero_le _
    · rw [lim_pos h e]
      refine Nat.succ_le_succ (lim_len h L _ ?_)
      rw [Nat.mul_succ, Nat.pow_add] at hn
      exact Nat.div_lt_of_lt_mul (Nat.mul_comm _ _ ▸ hn)
theorem lim_K {w : Nat} (h : w ≠ 0) {K n : Nat} (hn : n < 2 ^ K) : (lim w n).length ≤ K :=
  lim_len h K n (Nat.lt_of_lt_of_le hn (Nat.pow_le_pow_right (by decide) (Nat.le_mul_of_pos_left _ (Nat.pos_of_ne_zero h))))
theorem lim_lo {w : Nat} (h : w ≠ 0) {n L : Nat} (hn : L + 1 ≤ (lim w n).length) : 2 ^ (w * L) ≤ n := by
  by_cases e : n < 2 ^ (w * L)
  · have := lim_len h L n e; omega
  · omega
theorem lim_hi {w : Nat} (h : w ≠ 0) (n : Nat) : n < 2 ^ (w * (lim w n).length) := by
  have := vl_lt (dg_lim h n); rwa [vl_lim h] at this
theorem lim_nil {w : Nat} (h : w ≠ 0) {n : Nat} : (lim w n).length = 0 ↔ n = 0 :=
  ⟨fun e => by have := lim_hi h n; rw [e, Nat.mul_zero, Nat.pow_zero] at this; omega, fun e => by subst e; rfl⟩
theorem vl_take {w : Nat} {xs : List Nat} {e : Nat} (h : e < xs.length) : vl w (xs.take (e + 1)) = vl w (xs.take e) + 2 ^ (w * e) * xs.getD e 0 := by
  rw [take_succ' h, vl_snoc, List.length_take, Nat.min_eq_left (Nat.le_of_lt h)]
  simp [List.getD, h]
theorem dg_take {w : Nat} {xs : List Nat} (hd : Dg w xs) (e : Nat) : Dg w (xs.take e) := fun y hy => hd y (List.mem_of_mem_take hy)
theorem dg_getD {w : Nat} {xs : List Nat} (hd : Dg w xs) (e : Nat) : xs.getD e 0 < 2 ^ w := by
  rw [List.getD_eq_getElem?_getD]
  by_cases h : e < xs.length
  · rw [List.getElem?_eq_getElem h]; exact hd _ (List.getElem_mem h)
  · rw [List.getElem?_eq_none (by omega)]; exact pw_pos w
theorem cmpGo_vl {w : Nat} {xs ys : List Nat} (hx : Dg w xs) (hy : Dg w ys) : ∀ e, e ≤ xs.length → e ≤ ys.length →
    cmpGo xs ys e = if vl w (xs.take e) = vl w (ys.take e) then 0 else if vl w (xs.take e) < vl w (ys.take e) then -1 else 1
  | 0, _, _ => rfl
  | e + 1, h1, h2 => by
    have ih := cmpGo_vl hx hy e (by omega) (by omega)
    have b1 := vl_lt (dg_take hx e)
    have b2 := vl_lt (dg_take hy e)
    rw [List.length_take, Nat.min_eq_left (by omega)] at b1 b2
    rw [vl_take (by omega), vl_take (by omega)]
    show (if xs.getD e 0 = ys.getD e 0 then cmpGo xs ys e else if xs.getD e 0 < ys.getD e 0 then -1 else 1) = _
    rw [ih]
    generalize xs.getD e 0 = a
    generalize ys.getD e 0 = b
    generalize vl w (xs.take e) = u at *
    generalize vl w (ys.take e) = v at *
    generalize 2 ^ (w * e) = P at *
    by_cases c : a = b
    · subst c; rw [if_pos rfl]; simp only [Nat.add_right_cancel_iff, Nat.add_lt_add_iff_right]
    · rw [if_neg c]
      by_cases d : a < b
      · have := Nat.mul_le_mul_left P (Nat.succ_le_of_lt d)
        rw [Nat.mul_succ] at this
        rw [if_pos d, if_neg (by omega), if_pos (by omega)]
      · have := Nat.mul_le_mul_left P (show b + 1 ≤ a by omega)
        rw [Nat.mul_succ] at this
        rw [if_neg d, if_neg (by omega), if_neg (by omega)]
theorem ordL_lim {w : Nat} (h : w ≠ 0) (a b : Nat) : ordL (lim w a) (lim w b) = if a = b then 0 else if a < b then -1 else 1 := by
  unfold ordL
  by_cases e : (lim w a).length = (lim w b).length
  · rw [if_pos e, cmpGo_vl (dg_lim h a) (dg_lim h b) _ (Nat.le_refl _) (Nat.le_of_eq e), List.take_length, e, List.take_length, vl_lim h, vl_lim h]
  · rw [if_neg e]
    by_cases d : (lim w a).length < (lim w b).length
    · have := lim_lo h (n := b) (L := (lim w a).length) d
      have := lim_hi h a
      rw [if_pos d, if_neg (by omega), if_pos (by omega)]
    · have := lim_lo h (n := a) (L := (lim w b).length) (by omega)
      have := lim_hi h b
      rw [if_neg d, if_neg (by omega), if_neg (by omega)]

theorem mask (w c : Nat) : Builtin.bitAnd (c : Int) (Int.ofNat 1 * 2 ^ w - Int.ofNat 1) = ((c % 2 ^ w : Nat) : Int) := by
  have e : (Int.ofNat 1 * 2 ^ w - Int.ofNat 1 : Int) = ((2 ^ w - 1 : Nat) : Int) := by
    have := pw_pos w
    rw [Int.natCast_sub this, Int.natCast_pow]
    show 1 * _ - 1 = _
    rw [Int.one_mul]; rfl
  rw [e, bitAnd_pp (Int.natCast_nonneg _) (Int.natCast_nonneg _), Int.toNat_natCast, Int.toNat_natCast, Nat.and_two_pow_sub_one_eq_mod]
theorem bor (w a b : Nat) (h : b < 2 ^ w) : Builtin.bitOr ((a : Int) * 2 ^ w) (b : Int) = ((a * 2 ^ w + b : Nat) : Int) := by
  have e : ((a : Int) * 2 ^ w) = ((a * 2 ^ w : Nat) : Int) := by rw [Int.natCast_mul, Int.natCast_pow]; rfl
  have z : a * 2 ^ w &&& b = 0 := by
    apply Nat.eq_of_testBit_eq
    intro i
    rw [Nat.testBit_and, Nat.zero_testBit, Nat.testBit_mul_two_pow]
    by_cases hi : w ≤ i
    · rw [Nat.testBit_lt_two_pow (Nat.lt_of_lt_of_le h (Nat.pow_le_pow_right (by decide) hi)), Bool.and_false]
    · simp [hi]
  rw [e, bitOr_and, bitAnd_pp (Int.natCast_nonneg _) (Int.natCast_nonneg _), Int.toNat_natCast, Int.toNat_natCast, z, Int.natCast_add]
  exact Int.sub_zero _
theorem shr (c w : Nat) : (c : Int) / 2 ^ w = ((c / 2 ^ w : Nat) : Int) := by
  rw [Int.natCast_ediv, Int.natCast_pow]; rfl
noncomputable section
open PySem PySem.W PyProof.Rows PySem.Calls PySem.Spec
theorem zgk {n : Nat} : Int.ofNat n = (n : Int) := rfl
theorem zgl {n : Nat} : (n : Int).toNat = n := rfl
theorem zgm {ρ} : puts [] [] ρ = some ρ := rfl
theorem zgn {j js v vs ρ} : puts (j :: js) (v :: vs) ρ = puts js vs (put j (some v) ρ) := rfl
theorem zgo {d ds} : vals (d :: ds) = .val d :: vals ds := rfl
theorem zgp : vals [] = [] := rfl
noncomputable def kC (C : Rho → Prop) (Φ : Fl → Rho → Prop) (f : Fl) (ρ : Rho) : Prop := match f with
  | .next => C ρ
  | .cont => C ρ
  | .brk => Φ .next ρ
  | .ret r => Φ (.ret r) ρ
noncomputable def kWC (b : Rho → (Fl → Rho → Prop) → Prop) (C : Rho → Prop) (Φ : Fl → Rho → Prop) (c : Bool) (ρ : Rho) : Prop := (c = true → b ρ (kC C Φ)) ∧ (c = false → Φ .next ρ)
theorem zgq {C Φ ρ} : kC C Φ .next ρ = C ρ := rfl
theorem zgr {C Φ ρ} : kC C Φ .brk ρ = Φ .next ρ := rfl
theorem zgs {C Φ ρ r} : kC C Φ (.ret r) ρ = Φ (.ret r) ρ := rfl
theorem zgt {b C Φ c ρ} : kWC b C Φ c ρ = ((c = true → b ρ (kC C Φ)) ∧ (c = false → Φ .next ρ)) := rfl
theorem zgu {a i Φ ρ} : kBin2 .Mult (.own a) Φ (.val (.int i)) ρ = ((a.length * i.toNat ≤ 2 ^ 24 ∧ -(2 ^ 62) ≤ i ∧ i < 2 ^ 62) ∧ Φ (.own ((List.replicate i.toNat a).flatten)) ρ) := rfl
theorem zgv {a b Φ ρ} : kBin2 .Add (.own a) Φ (.own b) ρ = (a.length + b.length ≤ sizeLine ∧ Φ (.own (a ++ b)) ρ) := rfl
theorem zgw {a b Φ ρ} : kBin2 .Add (.own a) Φ (.val (.list b)) ρ = (a.length + b.length ≤ sizeLine ∧ Φ (.own (a ++ b)) ρ) := rfl
theorem zgx {a b Φ ρ} : kBin2 .Add (.val (.list a)) Φ (.own b) ρ = (a.length + b.length ≤ sizeLine ∧ Φ (.own (a ++ b)) ρ) := rfl
theorem zgy {a b Φ ρ} : kBin2 .Add (.val (.list a)) Φ (.val (.list b)) ρ = (a.length + b.length ≤ sizeLine ∧ Φ (.own (a ++ b)) ρ) := rfl
theorem zgz {op a b Φ ρ} : kCmpT2 op (.val (.bool a)) Φ (.val (.bool b)) ρ = cmpB op a b (kT Φ ρ) := rfl
theorem zha {op a b Φ ρ} : kCmp2 op (.val (.bool a)) Φ (.val (.bool b)) ρ = cmpB op a b (kBo Φ ρ) := rfl
theorem zhb {a b F} : cmpB .Eq a b F = F (decide (a = b)) := rfl
theorem zhc {a b F} : cmpB .NotEq a b F = F (!decide (a = b)) := rfl
theorem zhd {op a b Φ ρ} : kCmpT2 op (.val (.list a)) Φ (.own b) ρ = cmpL op a b (kT Φ ρ) := rfl
theorem zhe {a b F} : cmpL .Eq a b F = (b = [] ∧ F (decide (a.length = 0))) := rfl
theorem zhf {a b F} : cmpL .NotEq a b F = (b = [] ∧ F (!decide (a.length = 0))) := rfl
theorem zhg {a b F} : biP "min" [.int a, .int b] F = ("min" = "min" ∧ F (.int (if b < a then b else a))) := rfl
theorem zhh {a F} : biP "abs" [.int a] F = ("abs" = "abs" ∧ F (.int (if a < 0 then -a else a))) := rfl
theorem zhi {a F} : tyP "int" [.int a] F = ("int" = "int" ∧ F (.int a)) := rfl

/-- a while loop with an invariant that falls -/
theorem while_inv {t : Rho → (Bool → Rho → Prop) → Prop} {b : Rho → (Fl → Rho → Prop) → Prop} {Φ : Fl → Rho → Prop} (Inv : Nat → Rho → Prop)
    (hs : ∀ n ρ, Inv n ρ → ∀ C : Rho → Prop, (∀ m ρ', m < n → Inv m ρ' → C ρ') → t ρ (kWC b C Φ)) {n : Nat} {ρ : Rho} (h : Inv n ρ) : ∃ f, wpWhile t b Φ f ρ := by
  refine ⟨n + 1, ?_⟩
  suffices key : ∀ f n ρ, n < f → Inv n ρ → wpWhile t b Φ f ρ from key _ _ _ (Nat.lt_succ_self n) h
  intro f
  induction f with
  | zero => exact fun n ρ h => absurd h (Nat.not_lt_zero _)
  | succ f ih => exact fun n ρ hn hi => hs n ρ hi (fun ρ => wpWhile t b Φ f ρ) fun m ρ' hm hi' => ih m ρ' (Nat.lt_of_lt_of_le hm (Nat.le_of_lt_succ hn)) hi'

/-- a loop over a list with an invariant -/
theorem loop_inv {step : D → Rho → (Fl → Rho → Prop) → Prop} {Φ : Fl → Rho → Prop} {n : Nat} {F : Nat → D} (Inv : Nat → Rho → Prop)
    (hs : ∀ i ρ, i < n → Inv i ρ → ∀ C : Rho → Prop, (∀ ρ', Inv (i + 1) ρ' → C ρ') → step (F i) ρ (kC C Φ)) {ρ : Rho} (h : Inv 0 ρ) (he : ∀ ρ, Inv n ρ → Φ .next ρ) :
    wpLoop step Φ ((List.range n).map F) ρ := by
  suffices key : ∀ m i ρ, i + m = n → Inv i ρ → wpLoop step Φ ((List.range' i m).map F) ρ by
    rw [List.range_eq_range']; exact key n 0 ρ (Nat.zero_add _) h
  intro m
  induction m with
  | zero => intro i ρ hi h; rw [Nat.add_zero] at hi; subst hi; exact he ρ h
  | succ m ih =>
    intro i ρ hi h
    rw [List.range'_succ, List.map_cons]
    exact hs i ρ (by omega) h (fun ρ => wpLoop step Φ ((List.range' (i + 1) m).map F) ρ) fun ρ' h' => ih (i + 1) ρ' (by omega) h'

theorem rangeL_map (a b : Int) : (rangeL a b).map D.int = (List.range (b - a).toNat).map fun (k : Nat) => D.int (a + (k : Int)) := List.map_map ..
theorem downL_map (a b : Int) : (downL a b).map D.int = (List.range (a - b).toNat).map fun (k : Nat) => D.int (a - (k : Int)) := List.map_map ..
theorem nl_map (xs : List Nat) : nl xs = (List.range xs.length).map fun (k : Nat) => D.int ((xs.getD k 0 : Nat) : Int) := by
  apply List.ext_getElem
  · simp
  · intro i h1 h2; simp at h1; simp [List.getD, h1]
theorem enumL_map (xs : List Nat) : enumL (nl xs) = (List.range xs.length).map fun (k : Nat) => D.tup [.int (k : Int), .int ((xs.getD k 0 : Nat) : Int)] := by
  unfold enumL
  apply List.ext_getElem
  · simp
  · intro i h1 h2; simp at h1; simp [List.getD, h1]
theorem loop_range {step : D → Rho → (Fl → Rho → Prop) → Prop} {Φ : Fl → Rho → Prop} {a b : Int} (n : Nat) (Inv : Nat → Rho → Prop) {ρ : Rho} (hn : (b - a).toNat = n) (h : Inv 0 ρ)
    (hs : ∀ i ρ, i < n → Inv i ρ → ∀ C : Rho → Prop, (∀ ρ', Inv (i + 1) ρ' → C ρ') → step (.int (a + (i : Int))) ρ (kC C Φ)) (he : ∀ ρ, Inv n ρ → Φ .next ρ) :
    wpLoop step Φ ((rangeL a b).map .int) ρ := by
  subst hn
  rw [rangeL_map]; exact loop_inv Inv hs h he
theorem loop_down {step : D → Rho → (Fl → Rho → Prop) → Prop} {Φ : Fl → Rho → Prop} {a b : Int} (n : Nat) (Inv : Nat → Rho → Prop) {ρ : Rho} (hn : (a - b).toNat = n) (h : Inv 0 ρ)
    (hs : ∀ i ρ, i < n → Inv i ρ → ∀ C : Rho → Prop, (∀ ρ', Inv (i + 1) ρ' → C ρ') → step (.int (a - (i : Int))) ρ (kC C Φ)) (he : ∀ ρ, Inv n ρ → Φ .next ρ) :
    wpLoop step Φ ((downL a b).map .int) ρ := by
  subst hn
  rw [downL_map]; exact loop_inv Inv hs h he
theorem loop_enum {step : D → Rho → (Fl → Rho → Prop) → Prop} {Φ : Fl → Rho → Prop} {xs : List Nat} {dx : List D} (hx : nl xs = dx) (Inv : Nat → Rho → Prop) {ρ : Rho} (h : Inv 0 ρ)
    (hs : ∀ i ρ, i < xs.length → Inv i ρ → ∀ C : Rho → Prop, (∀ ρ', Inv (i + 1) ρ' → C ρ') → step (.tup [.int (i : Int), .int ((xs.getD i 0 : Nat) : Int)]) ρ (kC C Φ)) (he : ∀ ρ, Inv xs.length ρ → Φ .next ρ) :
    wpLoop step Φ (enumL dx) ρ := by
  subst hx
  rw [enumL_map]; exact loop_inv Inv hs h he
theorem loop_each {step : D → Rho → (Fl → Rho → Prop) → Prop} {Φ : Fl → Rho → Prop} {xs : List Nat} {dx : List D} (hx : nl xs = dx) (Inv : Nat → Rho → Prop) {ρ : Rho} (h : Inv 0 ρ)
    (hs : ∀ i ρ, i < xs.length → Inv i ρ → ∀ C : Rho → Prop, (∀ ρ', Inv (i + 1) ρ' → C ρ') → step (.int ((xs.getD i 0 : Nat) : Int)) ρ (kC C Φ)) (he : ∀ ρ, Inv xs.length ρ → Φ .next ρ) :
    wpLoop step Φ dx ρ := by
  subst hx
  rw [nl_map]; exact loop_inv Inv hs h he

theorem nl_len (xs : List Nat) : (nl xs).length = xs.length := List.length_map ..
theorem sz_lt {n : Nat} (h : n < 2 ^ 22) : n < sizeLine := Nat.lt_of_lt_of_le h (by decide +kernel)
theorem sz_le {n : Nat} (h : n < 2 ^ 22) : n ≤ sizeLine := Nat.le_of_lt (sz_lt h)
theorem sz0 {α : Type} : ([] : List α).length ≤ sizeLine := Nat.zero_le _
theorem sz1 {α : Type} {a : α} : [a].length ≤ sizeLine := sz_le (show 1 < 2 ^ 22 by decide)
theorem sz2 {α : Type} {a b : α} : [a, b].length ≤ sizeLine := sz_le (show 2 < 2 ^ 22 by decide)
theorem sz3 {α : Type} {a b c : α} : [a, b, c].length ≤ sizeLine := sz_le (show 3 < 2 ^ 22 by decide)
theorem ix {ds : List D} {j : Int} {i : Nat} {d : D} {F : D → Prop} (hj : j = (i : Int)) (hl : i < 2 ^ 22) (hd : ds[i]? = some d) (hF : F d) : (-(2 ^ 62) ≤ j ∧ j < 2 ^ 62) ∧ idxP ds j F :=
  ⟨by omega, idx_at hj hd hF⟩
theorem l62 {α : Type} {ds : List α} {n : Nat} (h : ds.length = n) (hn : n < 2 ^ 22) : ds.length < 2 ^ 62 := h ▸ Nat.lt_trans hn (by decide)
theorem bigN {α : Type} {ds : List α} {n : Nat} (h : ds.length = n) (hn : n < 2 ^ 22) : -big ≤ (ds.length : Int) ∧ (ds.length : Int) ≤ big := by subst h; unfold big; omega
theorem big1 {α : Type} {ds : List α} {n : Nat} (h : ds.length = n) (hn : n < 2 ^ 22) : -big ≤ (ds.length : Int) - ((1 : Nat) : Int) ∧ (ds.length : Int) - ((1 : Nat) : Int) ≤ big := by subst h; unfold big; omega
theorem bigNN {α : Type} {ds es : List α} {n m : Nat} (h : ds.length = n) (h' : es.length = m) (hn : n < 2 ^ 22) (hm : m < 2 ^ 22) : -big ≤ (ds.length : Int) ∧ (ds.length : Int) ≤ big ∧ -big ≤ (es.length : Int) ∧ (es.length : Int) ≤ big :=
  ⟨(bigN h hn).1, (bigN h hn).2, bigN h' hm⟩
theorem ix0 {ds : List D} {n i : Nat} {d : D} {F : D → Prop} (hi : i < n) (hn : n < 2 ^ 22) (hd : ds[i]? = some d) (hF : F d) : (-(2 ^ 62) ≤ (0 : Int) + (i : Int) ∧ (0 : Int) + (i : Int) < 2 ^ 62) ∧ idxP ds ((0 : Int) + (i : Int)) F :=
  ix (Int.zero_add _) (Nat.lt_trans hi hn) hd hF
theorem ixn {ds : List D} {n i : Nat} {d : D} {F : D → Prop} (hi : i < n) (hn : n < 2 ^ 22) (hd : ds[i]? = some d) (hF : F d) : (-(2 ^ 62) ≤ (i : Int) ∧ (i : Int) < 2 ^ 62) ∧ idxP ds (i : Int) F :=
  ix rfl (Nat.lt_trans hi hn) hd hF
theorem snl {xs : List Nat} {n : Nat} (h : xs.length = n) (hn : n < 2 ^ 22) : (nl xs).length < sizeLine := sz_lt ((nl_len xs).trans h ▸ hn)
theorem snl_le {xs : List Nat} {n : Nat} (h : xs.length = n) (hn : n < 2 ^ 22) : (nl xs).length ≤ sizeLine := Nat.le_of_lt (snl h hn)
theorem rn0 {n : Nat} : ((n : Int) - 0).toNat = n := by rw [Int.sub_zero]; rfl
theorem rnl {α : Type} {ds : List α} {n : Nat} (h : ds.length = n) : ((ds.length : Int) - 0).toNat = n := by rw [Int.sub_zero]; exact h
theorem snoc_len {xs : List Nat} {y n : Nat} (h : xs.length = n) : (xs ++ [y]).length = n + 1 := by rw [List.length_append, h]; rfl
theorem zhx {a b : Nat} : (a : Int) + (b : Int) = ((a + b : Nat) : Int) := rfl
theorem zhy {a b : Nat} : (a : Int) * (b : Int) = ((a * b : Nat) : Int) := rfl
theorem repN {α : Type} {a : α} {n : Nat} (h : n < 2 ^ 22) : [a].length * n ≤ 2 ^ 24 ∧ -(2 ^ 62) ≤ (n : Int) ∧ (n : Int) < 2 ^ 62 := by
  show 1 * n ≤ _ ∧ _
  omega
theorem ixm1 {ds : List D} {n : Nat} {d : D} {F : D → Prop} (hl : ds.length = n + 1) (hd : ds[n]? = some d) (hF : F d) : (-(2 ^ 62) ≤ -((1 : Nat) : Int) ∧ -((1 : Nat) : Int) < 2 ^ 62) ∧ idxP ds (-((1 : Nat) : Int)) F :=
  ⟨by decide, .inr ⟨by decide, by omega, d, by rw [hl, show (-((1 : Nat) : Int) + ((n + 1 : Nat) : Int)).toNat = n by omega]; exact hd, hF⟩⟩
theorem big_le {i : Int} (h : -(2 ^ 22) ≤ i ∧ i ≤ 2 ^ 22) : -big ≤ i ∧ i ≤ big := by unfold big; omega
theorem small_n {n : Nat} (h : n < 2 ^ 64) : smallInt (n : Int) := h
theorem wsh {w : Nat} (hw : w ≤ 8) : (0 : Int) ≤ (w : Int) ∧ (w : Int) ≤ 1000000 ∧ smallInt ((1 : Nat) : Int) := ⟨Int.natCast_nonneg _, by omega, small_n (by decide)⟩
theorem decT {p : Prop} [Decidable p] (h : decide p = true) : p := of_decide_eq_true h
theorem decF {p : Prop} [Decidable p] (h : decide p = false) : ¬ p := of_decide_eq_false h
theorem maskN (w c : Nat) : Builtin.bitAnd (c : Int) (((1 : Nat) : Int) * 2 ^ w - ((1 : Nat) : Int)) = ((c % 2 ^ w : Nat) : Int) := mask w c
theorem nl_getD (xs : List Nat) : ∀ i, i < xs.length → (nl xs)[i]? = some (.int ((xs.getD i 0 : Nat) : Int)) := fun i h => by rw [nl_get h]; simp [List.getD, h]
theorem nl_snoc (xs : List Nat) (y : Nat) : nl xs ++ [D.int (y : Int)] = nl (xs ++ [y]) := by simp [nl]
end
end Mine

set_option maxHeartbeats 4000000
namespace Mine
open PySem PySem.W PyProof.Rows PySem.Calls PySem.Spec PySem.Challenge

theorem step_sum {w i c u V : Nat} {fs : List Nat} (hl : fs.length = i) (h : vl w fs + 2 ^ (w * i) * c = V) :
    vl w (fs ++ [(c + u) % 2 ^ w]) + 2 ^ (w * (i + 1)) * ((c + u) / 2 ^ w) = V + 2 ^ (w * i) * u := by
  rw [vl_snoc, hl, Nat.mul_succ, Nat.pow_add, Nat.mul_assoc, Nat.add_assoc, ← Nat.mul_add, Nat.mod_add_div, Nat.mul_add, ← Nat.add_assoc, h]
theorem dg_step {w : Nat} {fs : List Nat} (h : Dg w fs) (t : Nat) : Dg w (fs ++ [t % 2 ^ w]) := dg_snoc h (Nat.mod_lt _ (pw_pos w))
theorem lim_mono {w a b : Nat} (h : w ≠ 0) (hab : a ≤ b) : (lim w a).length ≤ (lim w b).length := lim_len h _ _ (Nat.lt_of_le_of_lt hab (lim_hi h b))
theorem lim_of_len {w : Nat} {fs : List Nat} (h : w ≠ 0) (hd : Dg w fs) (hl : fs.length ≤ (lim w (vl w fs)).length) : lim w (vl w fs) = fs := by
  refine lim_vl h hd fun e => ?_
  obtain ⟨ys, rfl⟩ := List.getLast?_eq_some_iff.mp e
  rw [vl_snoc, Nat.mul_zero, Nat.add_zero, List.length_append] at hl
  have := lim_len h _ _ (vl_lt (xs := ys) fun z hz => hd z (List.mem_append_left _ hz))
  exact Nat.not_succ_le_self _ (Nat.le_trans hl this)
theorem carry1 {w c x y : Nat} (hc : c ≤ 1) (hx : x < 2 ^ w) (hy : y < 2 ^ w) : (c + (x + y)) / 2 ^ w ≤ 1 := by
  refine Nat.le_of_lt_succ ((Nat.div_lt_iff_lt_mul (pw_pos w)).mpr ?_)
  omega
/-- limbs and a last carry -/
theorem carry_fin {w N c : Nat} {fs : List Nat} (hw : w ≠ 0) (hd : Dg w fs) (hl : fs.length ≤ (lim w N).length) (hs : vl w fs + 2 ^ (w * fs.length) * c = N) (hc : c < 2 ^ w) :
    lim w N = if 0 < c then fs ++ [c] else fs := by
  by_cases h : 0 < c
  · rw [if_pos h, ← hs, ← vl_snoc, lim_vl hw (dg_snoc hd hc) (by rw [List.getLast?_append]; exact fun e => Nat.ne_of_gt h (Option.some.inj e))]
  · have : c = 0 := Nat.eq_zero_of_not_pos h
    subst this
    rw [Nat.mul_zero, Nat.add_zero] at hs
    subst hs
    rw [if_neg h, lim_of_len hw hd hl]
theorem decP {n : Nat} (h : decide (((0 : Nat) : Int) < (n : Int)) = true) : 0 < n := Int.ofNat_lt.mp (decT h)
theorem decN {n : Nat} (h : decide (((0 : Nat) : Int) < (n : Int)) = false) : ¬ 0 < n := fun e => decF h (Int.ofNat_lt.mpr e)

theorem add_ok {W : Wd} {k : Nat} (hW : Wv W) {w a b : Nat} (hw : w ≠ 0) (hw8 : w ≤ 8) (hla : (lim w a).length < 2 ^ 20) (hlb : (lim w b).length < 2 ^ 20) : CallOk W (k + 1) (Str.ofString "add") [.val (.list (nl (lim w a))), .val (.list (nl (lim w b))), .val (.int (w : Int))] (.list (nl (lim w (a + b)))) [.val (.list (nl (lim w a))), .val (.list (nl (lim w b))), .val (.int (w : Int))] := by
  refine call_fn (d := defAt 6) (as := [Str.ofString "b", Str.ofString "w"]) (p := Str.ofString "a") (ds := [.list (nl (lim w b)), .int (w : Int)]) (n := 60) (fx := []) hW.2 (rec_mem 6 (by decide) hW) fn6 rfl ?_
  generalize hdx : nl (lim w a) = dx
  generalize hdy : nl (lim w b) = dy
  conv in (co _ _ _) => reduce
  conv in (initR _ _) => reduce
  rw [zaa]
  generalize hQ : kSeq W k _ _ = Q
  have key : ∀ (p q : Nat) (dp dq : List D), nl (lim w p) = dp → nl (lim w q) = dq → (lim w p).length < 2 ^ 20 → (lim w q).length ≤ (lim w p).length → p + q = a + b →
      Q .next [some (.val (.list dp)), some (.val (.list dq)), some (.val (.int w)), none, none, none, none, some (.val (.bi (.builtin "len"))), some (.val (.bi (.type "range")))] := by
    intro p q dp dq ep eq hlp hle hs0
    have lp : dp.length = (lim w p).length := ep ▸ nl_len _
    have lq : dq.length = (lim w q).length := eq ▸ nl_len _
    have gp := ep ▸ nl_getD (lim w p)
    have gq := eq ▸ nl_getD (lim w q)
    have dgp := dg_lim hw p
    have dgq := dg_lim hw q
    have vp := vl_lim hw p
    have vq := vl_lim hw q
    have mp := hs0 ▸ lim_mono hw (Nat.le_add_right p q)
    clear ep eq
    generalize lim w p = xs at *
    generalize lim w q = ys at *
    have hlp : xs.length < 2 ^ 22 := Nat.lt_trans hlp (by decide)
    have hlq : ys.length < 2 ^ 22 := Nat.lt_of_le_of_lt hle hlp
    subst hQ
    dsimp only [zaa, zab, zac, zad, zae, zaf, zag, zah, zai, zaj, zak, zal, zam, zan, zao, zap, zaq, zar, zas, zat, zau, zav, zaw, zax, zay, zaz, zba, zbb, zbc, zbd, zbe, zbf, zbg, zbh, zbi, zbk, zbl, zbm, zbn, zbo, zbp, zbq, zbr, zbs, zbt, zbu, zbv, zbw, zbx, zby, zbz, zca, zcb, zcc, zcd, zce, zcf, zcg, zch, zci, zcl, zcm, zcn, zco, zcp, zcq, zcr, zcs, zct, zcu, zcv, zcw, zcx, zcy, zcz, zda, zdb, zdc, zdd, zde, zdf, zdg, zdh, zdi, zdj, zdk, zdl, zdm, zdn, zdo, zdp, zdq, zdr, zds, zdt, zdu, zdv, zdw, zdx, zdy, zdz, zea, zeb, zec, zed, zee, zef, zeg, zeh, zei, zej, zek, zel, zem, zen, zeo, zep, zeq, zer, zes, zet, zeu, zev, zew, zex, zey, zez, zfa, zfb, zfc, zfd, zfe, zff, zfg, zfh, zfi, zfj, zfk, zfl, zfm, zfn, zfo, zfp, zfq, zfr, zfs, zft, zfu, zfv, zfw, zfx, zfy, zfz, zga, zgb, zgc, zgd, zge, zgf, zgg, zgh, zgi, zgj, zgk, zgl, zgm, zgn, zgo, zgp, zgq, zgr, zgs, zgt, zgu, zgv, zgw, zgx, zgy, zgz, zha, zhb, zhc, zhd, zhe, zhf, zhg, zhh, zhi]
    refine ⟨sz0, wsh hw8, sz3, _, rfl, ?_⟩
    dsimp only [zaa, zab, zac, zad, zae, zaf, zag, zah, zai, zaj, zak, zal, zam, zan, zao, zap, zaq, zar, zas, zat, zau, zav, zaw, zax, zay, zaz, zba, zbb, zbc, zbd, zbe, zbf, zbg, zbh, zbi, zbk, zbl, zbm, zbn, zbo, zbp, zbq, zbr, zbs, zbt, zbu, zbv, zbw, zbx, zby, zbz, zca, zcb, zcc, zcd, zce, zcf, zcg, zch, zci, zcl, zcm, zcn, zco, zcp, zcq, zcr, zcs, zct, zcu, zcv, zcw, zcx, zcy, zcz, zda, zdb, zdc, zdd, zde, zdf, zdg, zdh, zdi, zdj, zdk, zdl, zdm, zdn, zdo, zdp, zdq, zdr, zds, zdt, zdu, zdv, zdw, zdx, zdy, zdz, zea, zeb, zec, zed, zee, zef, zeg, zeh, zei, zej, zek, zel, zem, zen, zeo, zep, zeq, zer, zes, zet, zeu, zev, zew, zex, zey, zez, zfa, zfb, zfc, zfd, zfe, zff, zfg, zfh, zfi, zfj, zfk, zfl, zfm, zfn, zfo, zfp, zfq, zfr, zfs, zft, zfu, zfv, zfw, zfx, zfy, zfz, zga, zgb, zgc, zgd, zge, zgf, zgg, zgh, zgi, zgj, zgk, zgl, zgm, zgn, zgo, zgp, zgq, zgr, zgs, zgt, zgu, zgv, zgw, zgx, zgy, zgz, zha, zhb, zhc, zhd, zhe, zhf, zhg, zhh, zhi]
    refine ⟨rfl, l62 lq hlq, .inl ⟨rfl, bigN lq hlq, Nat.zero_le 1, ?_⟩⟩
    refine loop_range ys.length (fun i ρ => ∃ fs c v, ρ = [some (.val (.list dp)), some (.val (.list dq)), some (.val (.int w)), some (.own (nl fs)), some (.val (.int (c : Nat))), some (.val (.int ((1 : Nat) * 2 ^ w - (1 : Nat)))), v, some (.val (.bi (.builtin "len"))), some (.val (.bi (.type "range")))] ∧
      Dg w fs ∧ fs.length = i ∧ c ≤ 1 ∧ vl w fs + 2 ^ (w * i) * c = vl w (xs.take i) + vl w (ys.take i)) (rnl lq) ⟨[], 0, none, rfl, dg_nil w, rfl, Nat.zero_le 1, rfl⟩ ?_ ?_
    · rintro i ρ hi ⟨fs, c, v, rfl, hd, hl, hc, hs⟩ C hC
      have hi' := Nat.lt_of_lt_of_le hi hle
      dsimp only [zaa, zab, zac, zad, zae, zaf, zag, zah, zai, zaj, zak, zal, zam, zan, zao, zap, zaq, zar, zas, zat, zau, zav, zaw, zax, zay, zaz, zba, zbb, zbc, zbd, zbe, zbf, zbg, zbh, zbi, zbk, zbl, zbm, zbn, zbo, zbp, zbq, zbr, zbs, zbt, zbu, zbv, zbw, zbx, zby, zbz, zca, zcb, zcc, zcd, zce, zcf, zcg, zch, zci, zcl, zcm, zcn, zco, zcp, zcq, zcr, zcs, zct, zcu, zcv, zcw, zcx, zcy, zcz, zda, zdb, zdc, zdd, zde, zdf, zdg, zdh, zdi, zdj, zdk, zdl, zdm, zdn, zdo, zdp, zdq, zdr, zds, zdt, zdu, zdv, zdw, zdx, zdy, zdz, zea, zeb, zec, zed, zee, zef, zeg, zeh, zei, zej, zek, zel, zem, zen, zeo, zep, zeq, zer, zes, zet, zeu, zev, zew, zex, zey, zez, zfa, zfb, zfc, zfd, zfe, zff, zfg, zfh, zfi, zfj, zfk, zfl, zfm, zfn, zfo, zfp, zfq, zfr, zfs, zft, zfu, zfv, zfw, zfx, zfy, zfz, zga, zgb, zgc, zgd, zge, zgf, zgg, zgh, zgi, zgj, zgk, zgl, zgm, zgn, zgo, zgp, zgq, zgr, zgs, zgt, zgu, zgv, zgw, zgx, zgy, zgz, zha, zhb, zhc, zhd, zhe, zhf, zhg, zhh, zhi]
      refine ix0 hi' hlp (gp i hi') ?_
      dsimp only [zaa, zab, zac, zad, zae, zaf, zag, zah, zai, zaj, zak, zal, zam, zan, zao, zap, zaq, zar, zas, zat, zau, zav, zaw, zax, zay, zaz, zba, zbb, zbc, zbd, zbe, zbf, zbg, zbh, zbi, zbk, zbl, zbm, zbn, zbo, zbp, zbq, zbr, zbs, zbt, zbu, zbv, zbw, zbx, zby, zbz, zca, zcb, zcc, zcd, zce, zcf, zcg, zch, zci, zcl, zcm, zcn, zco, zcp, zcq, zcr, zcs, zct, zcu, zcv, zcw, zcx, zcy, zcz, zda, zdb, zdc, zdd, zde, zdf, zdg, zdh, zdi, zdj, zdk, zdl, zdm, zdn, zdo, zdp, zdq, zdr, zds, zdt, zdu, zdv, zdw, zdx, zdy, zdz, zea, zeb, zec, zed, zee, zef, zeg, zeh, zei, zej, zek, zel, zem, zen, zeo, zep, zeq, zer, zes, zet, zeu, zev, zew, zex, zey, zez, zfa, zfb, zfc, zfd, zfe, zff, zfg, zfh, zfi, zfj, zfk, zfl, zfm, zfn, zfo, zfp, zfq, zfr, zfs, zft, zfu, zfv, zfw, zfx, zfy, zfz, zga, zgb, zgc, zgd, zge, zgf, zgg, zgh, zgi, zgj, zgk, zgl, zgm, zgn, zgo, zgp, zgq, zgr, zgs, zgt, zgu, zgv, zgw, zgx, zgy, zgz, zha, zhb, zhc, zhd, zhe, zhf, zhg, zhh, zhi]
      refine ix0 hi hlq (gq i hi) ?_
      dsimp only [zaa, zab, zac, zad, zae, zaf, zag, zah, zai, zaj, zak, zal, zam, zan, zao, zap, zaq, zar, zas, zat, zau, zav, zaw, zax, zay, zaz, zba, zbb, zbc, zbd, zbe, zbf, zbg, zbh, zbi, zbk, zbl, zbm, zbn, zbo, zbp, zbq, zbr, zbs, zbt, zbu, zbv, zbw, zbx, zby, zbz, zca, zcb, zcc, zcd, zce, zcf, zcg, zch, zci, zcl, zcm, zcn, zco, zcp, zcq, zcr, zcs, zct, zcu, zcv, zcw, zcx, zcy, zcz, zda, zdb, zdc, zdd, zde, zdf, zdg, zdh, zdi, zdj, zdk, zdl, zdm, zdn, zdo, zdp, zdq, zdr, zds, zdt, zdu, zdv, zdw, zdx, zdy, zdz, zea, zeb, zec, zed, zee, zef, zeg, zeh, zei, zej, zek, zel, zem, zen, zeo, zep, zeq, zer, zes, zet, zeu, zev, zew, zex, zey, zez, zfa, zfb, zfc, zfd, zfe, zff, zfg, zfh, zfi, zfj, zfk, zfl, zfm, zfn, zfo, zfp, zfq, zfr, zfs, zft, zfu, zfv, zfw, zfx, zfy, zfz, zga, zgb, zgc, zgd, zge, zgf, zgg, zgh, zgi, zgj, zgk, zgl, zgm, zgn, zgo, zgp, zgq, zgr, zgs, zgt, zgu, zgv, zgw, zgx, zgy, zgz, zha, zhb, zhc, zhd, zhe, zhf, zhg, zhh, zhi]
      rw [zhx, zhx, maskN, shr, nl_snoc]
      exact ⟨snl hl (Nat.lt_trans hi hlq), Int.natCast_nonneg _, hC _ ⟨_, _, _, rfl, dg_step hd _, snoc_len hl, carry1 hc (dg_getD dgp i) (dg_getD dgq i),
        by rw [step_sum hl hs, vl_take hi', vl_take hi, Nat.mul_add]; exact Nat.add_add_add_comm ..⟩⟩
    · rintro ρ ⟨fs, c, v, rfl, hd, hl, hc, hs⟩
      dsimp only [zaa, zab, zac, zad, zae, zaf, zag, zah, zai, zaj, zak, zal, zam, zan, zao, zap, zaq, zar, zas, zat, zau, zav, zaw, zax, zay, zaz, zba, zbb, zbc, zbd, zbe, zbf, zbg, zbh, zbi, zbk, zbl, zbm, zbn, zbo, zbp, zbq, zbr, zbs, zbt, zbu, zbv, zbw, zbx, zby, zbz, zca, zcb, zcc, zcd, zce, zcf, zcg, zch, zci, zcl, zcm, zcn, zco, zcp, zcq, zcr, zcs, zct, zcu, zcv, zcw, zcx, zcy, zcz, zda, zdb, zdc, zdd, zde, zdf, zdg, zdh, zdi, zdj, zdk, zdl, zdm, zdn, zdo, zdp, zdq, zdr, zds, zdt, zdu, zdv, zdw, zdx, zdy, zdz, zea, zeb, zec, zed, zee, zef, zeg, zeh, zei, zej, zek, zel, zem, zen, zeo, zep, zeq, zer, zes, zet, zeu, zev, zew, zex, zey, zez, zfa, zfb, zfc, zfd, zfe, zff, zfg, zfh, zfi, zfj, zfk, zfl, zfm, zfn, zfo, zfp, zfq, zfr, zfs, zft, zfu, zfv, zfw, zfx, zfy, zfz, zga, zgb, zgc, zgd, zge, zgf, zgg, zgh, zgi, zgj, zgk, zgl, zgm, zgn, zgo, zgp, zgq, zgr, zgs, zgt, zgu, zgv, zgw, zgx, zgy, zgz, zha, zhb, zhc, zhd, zhe, zhf, zhg, zhh, zhi]
      refine ⟨rfl, l62 lq hlq, rfl, l62 lp hlp, .inl ⟨rfl, bigNN lq lp hlq hlp, Nat.zero_le 1, ?_⟩⟩
      rw [List.take_length] at hs
      obtain ⟨e, he⟩ := Nat.exists_eq_add_of_le hle
      refine loop_range e (fun i ρ => ∃ fs c v, ρ = [some (.val (.list dp)), some (.val (.list dq)), some (.val (.int w)), some (.own (nl fs)), some (.val (.int (c : Nat))), some (.val (.int ((1 : Nat) * 2 ^ w - (1 : Nat)))), v, some (.val (.bi (.builtin "len"))), some (.val (.bi (.type "range")))] ∧
        Dg w fs ∧ fs.length = ys.length + i ∧ c ≤ 1 ∧ vl w fs + 2 ^ (w * (ys.length + i)) * c = vl w (xs.take (ys.length + i)) + vl w ys) (by rw [lp, lq, he]; omega) ⟨fs, c, v, rfl, hd, hl, hc, hs⟩ ?_ ?_
      · rintro i ρ hi ⟨fs, c, v, rfl, hd, hl, hc, hs⟩ C hC
        have hi' : ys.length + i < xs.length := he ▸ Nat.add_lt_add_left hi _
        dsimp only [zaa, zab, zac, zad, zae, zaf, zag, zah, zai, zaj, zak, zal, zam, zan, zao, zap, zaq, zar, zas, zat, zau, zav, zaw, zax, zay, zaz, zba, zbb, zbc, zbd, zbe, zbf, zbg, zbh, zbi, zbk, zbl, zbm, zbn, zbo, zbp, zbq, zbr, zbs, zbt, zbu, zbv, zbw, zbx, zby, zbz, zca, zcb, zcc, zcd, zce, zcf, zcg, zch, zci, zcl, zcm, zcn, zco, zcp, zcq, zcr, zcs, zct, zcu, zcv, zcw, zcx, zcy, zcz, zda, zdb, zdc, zdd, zde, zdf, zdg, zdh, zdi, zdj, zdk, zdl, zdm, zdn, zdo, zdp, zdq, zdr, zds, zdt, zdu, zdv, zdw, zdx, zdy, zdz, zea, zeb, zec, zed, zee, zef, zeg, zeh, zei, zej, zek, zel, zem, zen, zeo, zep, zeq, zer, zes, zet, zeu, zev, zew, zex, zey, zez, zfa, zfb, zfc, zfd, zfe, zff, zfg, zfh, zfi, zfj, zfk, zfl, zfm, zfn, zfo, zfp, zfq, zfr, zfs, zft, zfu, zfv, zfw, zfx, zfy, zfz, zga, zgb, zgc, zgd, zge, zgf, zgg, zgh, zgi, zgj, zgk, zgl, zgm, zgn, zgo, zgp, zgq, zgr, zgs, zgt, zgu, zgv, zgw, zgx, zgy, zgz, zha, zhb, zhc, zhd, zhe, zhf, zhg, zhh, zhi]
        rw [lq, zhx]
        refine ixn hi' hlp (gp _ hi') ?_
        dsimp only [zaa, zab, zac, zad, zae, zaf, zag, zah, zai, zaj, zak, zal, zam, zan, zao, zap, zaq, zar, zas, zat, zau, zav, zaw, zax, zay, zaz, zba, zbb, zbc, zbd, zbe, zbf, zbg, zbh, zbi, zbk, zbl, zbm, zbn, zbo, zbp, zbq, zbr, zbs, zbt, zbu, zbv, zbw, zbx, zby, zbz, zca, zcb, zcc, zcd, zce, zcf, zcg, zch, zci, zcl, zcm, zcn, zco, zcp, zcq, zcr, zcs, zct, zcu, zcv, zcw, zcx, zcy, zcz, zda, zdb, zdc, zdd, zde, zdf, zdg, zdh, zdi, zdj, zdk, zdl, zdm, zdn, zdo, zdp, zdq, zdr, zds, zdt, zdu, zdv, zdw, zdx, zdy, zdz, zea, zeb, zec, zed, zee, zef, zeg, zeh, zei, zej, zek, zel, zem, zen, zeo, zep, zeq, zer, zes, zet, zeu, zev, zew, zex, zey, zez, zfa, zfb, zfc, zfd, zfe, zff, zfg, zfh, zfi, zfj, zfk, zfl, zfm, zfn, zfo, zfp, zfq, zfr, zfs, zft, zfu, zfv, zfw, zfx, zfy, zfz, zga, zgb, zgc, zgd, zge, zgf, zgg, zgh, zgi, zgj, zgk, zgl, zgm, zgn, zgo, zgp, zgq, zgr, zgs, zgt, zgu, zgv, zgw, zgx, zgy, zgz, zha, zhb, zhc, zhd, zhe, zhf, zhg, zhh, zhi]
        rw [zhx, maskN, shr, nl_snoc]
        exact ⟨snl hl (Nat.lt_trans hi' hlp), Int.natCast_nonneg _, hC _ ⟨_, _, _, rfl, dg_step hd _, snoc_len hl, carry1 (y := 0) hc (dg_getD dgp _) (pw_pos w),
          by rw [← Nat.add_assoc, step_sum hl hs, vl_take hi']; exact Nat.add_right_comm ..⟩⟩
      · rintro ρ ⟨fs, c, v, rfl, hd, hl, hc, hs⟩
        dsimp only [zaa, zab, zac, zad, zae, zaf, zag, zah, zai, zaj, zak, zal, zam, zan, zao, zap, zaq, zar, zas, zat, zau, zav, zaw, zax, zay, zaz, zba, zbb, zbc, zbd, zbe, zbf, zbg, zbh, zbi, zbk, zbl, zbm, zbn, zbo, zbp, zbq, zbr, zbs, zbt, zbu, zbv, zbw, zbx, zby, zbz, zca, zcb, zcc, zcd, zce, zcf, zcg, zch, zci, zcl, zcm, zcn, zco, zcp, zcq, zcr, zcs, zct, zcu, zcv, zcw, zcx, zcy, zcz, zda, zdb, zdc, zdd, zde, zdf, zdg, zdh, zdi, zdj, zdk, zdl, zdm, zdn, zdo, zdp, zdq, zdr, zds, zdt, zdu, zdv, zdw, zdx, zdy, zdz, zea, zeb, zec, zed, zee, zef, zeg, zeh, zei, zej, zek, zel, zem, zen, zeo, zep, zeq, zer, zes, zet, zeu, zev, zew, zex, zey, zez, zfa, zfb, zfc, zfd, zfe, zff, zfg, zfh, zfi, zfj, zfk, zfl, zfm, zfn, zfo, zfp, zfq, zfr, zfs, zft, zfu, zfv, zfw, zfx, zfy, zfz, zga, zgb, zgc, zgd, zge, zgf, zgg, zgh, zgi, zgj, zgk, zgl, zgm, zgn, zgo, zgp, zgq, zgr, zgs, zgt, zgu, zgv, zgw, zgx, zgy, zgz, zha, zhb, zhc, zhd, zhe, zhf, zhg, zhh, zhi]
        rw [← he] at hs hl
        rw [List.take_length, vp, vq, hs0, ← hl] at hs
        have F := carry_fin hw hd (hl ▸ mp) hs (Nat.lt_of_le_of_lt hc (pw_two hw))
        refine ⟨fun h => ⟨snl hl hlp, ?_, .inl ⟨_, rfl, rfl⟩⟩, fun h => ⟨?_, .inl ⟨_, rfl, rfl⟩⟩⟩
        · rw [nl_snoc, F, if_pos (decP h)]
        · rw [F, if_neg (decN h)]
  have lx : dx.length = (lim w a).length := hdx ▸ nl_len _
  have ly : dy.length = (lim w b).length := hdy ▸ nl_len _
  have la := Nat.lt_trans hla (show 2 ^ 20 < 2 ^ 22 by decide)
  have lb := Nat.lt_trans hlb (show 2 ^ 20 < 2 ^ 22 by decide)
  dsimp only [zaa, zab, zac, zad, zae, zaf, zag, zah, zai, zaj, zak, zal, zam, zan, zao, zap, zaq, zar, zas, zat, zau, zav, zaw, zax, zay, zaz, zba, zbb, zbc, zbd, zbe, zbf, zbg, zbh, zbi, zbk, zbl, zbm, zbn, zbo, zbp, zbq, zbr, zbs, zbt, zbu, zbv, zbw, zbx, zby, zbz, zca, zcb, zcc, zcd, zce, zcf, zcg, zch, zci, zcl, zcm, zcn, zco, zcp, zcq, zcr, zcs, zct, zcu, zcv, zcw, zcx, zcy, zcz, zda, zdb, zdc, zdd, zde, zdf, zdg, zdh, zdi, zdj, zdk, zdl, zdm, zdn, zdo, zdp, zdq, zdr, zds, zdt, zdu, zdv, zdw, zdx, zdy, zdz, zea, zeb, zec, zed, zee, zef, zeg, zeh, zei, zej, zek, zel, zem, zen, zeo, zep, zeq, zer, zes, zet, zeu, zev, zew, zex, zey, zez, zfa, zfb, zfc, zfd, zfe, zff, zfg, zfh, zfi, zfj, zfk, zfl, zfm, zfn, zfo, zfp, zfq, zfr, zfs, zft, zfu, zfv, zfw, zfx, zfy, zfz, zga, zgb, zgc, zgd, zge, zgf, zgg, zgh, zgi, zgj, zgk, zgl, zgm, zgn, zgo, zgp, zgq, zgr, zgs, zgt, zgu, zgv, zgw, zgx, zgy, zgz, zha, zhb, zhc, zhd, zhe, zhf, zhg, zhh, zhi]
  refine ⟨rfl, l62 lx la, rfl, l62 ly lb, fun h => ⟨sz2, _, rfl, key b a dy dx hdy hdx hlb ?_ (Nat.add_comm ..)⟩, fun h => key a b dx dy hdx hdy hla ?_ rfl⟩
  · rw [← lx, ← ly]; exact Nat.le_of_lt (Int.ofNat_lt.mp (decT h))
  · rw [← lx, ← ly]; exact Int.ofNat_le.mp (Int.not_lt.mp (decF h))
end Mine

set_option maxHeartbeats 4000000
namespace Mine
open PySem PySem.W PyProof.Rows PySem.Calls PySem.Spec PySem.Challenge

theorem ordL_neg {w : Nat} (hw : w ≠ 0) (a b : Nat) : ordL (lim w a) (lim w b) < 0 ↔ a < b := by
  rw [ordL_lim hw]
  by_cases h : a = b
  · subst h; rw [if_pos rfl]; exact ⟨fun h => absurd h (Int.lt_irrefl _), fun h => absurd h (Nat.lt_irrefl _)⟩
  · rw [if_neg h]
    by_cases h2 : a < b
    · rw [if_pos h2]; exact ⟨fun _ => h2, fun _ => by decide⟩
    · rw [if_neg h2]; exact ⟨fun h => absurd h (by decide), fun h => absurd h h2⟩
theorem getD_out {xs : List Nat} {i : Nat} (h : xs.length ≤ i) : xs.getD i 0 = 0 := by rw [List.getD_eq_getElem?_getD, List.getElem?_eq_none h]; rfl
theorem vl_take' (w : Nat) (xs : List Nat) (i : Nat) : vl w (xs.take (i + 1)) = vl w (xs.take i) + 2 ^ (w * i) * xs.getD i 0 := by
  by_cases h : i < xs.length
  · exact vl_take h
  · have h := Nat.not_lt.mp h
    rw [getD_out h, List.take_of_length_le h, List.take_of_length_le (Nat.le_succ_of_le h), Nat.mul_zero, Nat.add_zero]
theorem sub_dig {w x y br : Nat} (hx : x < 2 ^ w) (hy : y < 2 ^ w) (hb : br ≤ 1) :
    ((x : Int) - br - y < ((0 : Nat) : Int) → ∃ f : Nat, (x : Int) - br - y + ((1 : Nat) : Int) * 2 ^ w = (f : Int) ∧ f < 2 ^ w ∧ f + y + br = x + 2 ^ w) ∧
    (¬ (x : Int) - br - y < ((0 : Nat) : Int) → ∃ f : Nat, (x : Int) - br - y = (f : Int) ∧ f < 2 ^ w ∧ f + y + br = x) := by
  have e : ((2 : Int) ^ w) = ((2 ^ w : Nat) : Int) := (Int.natCast_pow 2 w).symm
  rw [e]
  generalize 2 ^ w = B at *
  exact ⟨fun h => ⟨x + B - br - y, by omega, by omega, by omega⟩, fun h => ⟨x - br - y, by omega, by omega, by omega⟩⟩
theorem sub_sum {w i f b' br : Nat} {fs xs ys : List Nat} (hl : fs.length = i) (hs : vl w fs + vl w (ys.take i) = vl w (xs.take i) + 2 ^ (w * i) * br) (hf : f + ys.getD i 0 + br = xs.getD i 0 + 2 ^ w * b') :
    vl w (fs ++ [f]) + vl w (ys.take (i + 1)) = vl w (xs.take (i + 1)) + 2 ^ (w * (i + 1)) * b' := by
  rw [vl_snoc, hl, vl_take', vl_take', Nat.add_add_add_comm, hs, Nat.mul_succ, Nat.pow_add, Nat.mul_assoc, Nat.add_assoc (vl w (xs.take i)), Nat.add_assoc (vl w (xs.take i)), ← Nat.mul_add, ← Nat.mul_add, ← Nat.mul_add, ← hf, Nat.add_comm br]
theorem sub_ok {W : Wd} {k : Nat} (hW : Wv W) {w a b : Nat} (hw : w ≠ 0) (hw8 : w ≤ 8) (hla : (lim w a).length < 2 ^ 20) (hab : b ≤ a) : CallOk W (k + 2) (Str.ofString "sub") [.val (.list (nl (lim w a))), .val (.list (nl (lim w b))), .val (.int (w : Int))] (.list (nl (lim w (a - b)))) [.val (.list (nl (lim w a))), .val (.list (nl (lim w b))), .val (.int (w : Int))] := by
  refine call_fn (d := defAt 7) (as := [Str.ofString "b", Str.ofString "w"]) (p := Str.ofString "a") (ds := [.list (nl (lim w b)), .int (w : Int)]) (n := 60) (fx := []) hW.2 (rec_mem 7 (by decide) hW) fn7 rfl ?_
  have hlb := Nat.lt_of_le_of_lt (lim_mono hw hab) hla
  have hle := lim_mono hw hab
  have hc := compare_ok (k := k) hW hla hlb
  have ho : ¬ ordL (lim w a) (lim w b) < 0 := fun h => absurd ((ordL_neg hw a b).mp h) (Nat.not_lt.mpr hab)
  have hlp : (lim w a).length < 2 ^ 22 := Nat.lt_trans hla (by decide)
  have hlq : (lim w b).length < 2 ^ 22 := Nat.lt_trans hlb (by decide)
  have lp := nl_len (lim w a)
  have lq := nl_len (lim w b)
  have gp := nl_getD (lim w a)
  have gq := nl_getD (lim w b)
  have dgp := dg_lim hw a
  have dgq := dg_lim hw b
  have vp := vl_lim hw a
  have vq := vl_lim hw b
  generalize nl (lim w a) = dp at *
  generalize nl (lim w b) = dq at *
  generalize ordL (lim w a) (lim w b) = o at *
  generalize lim w a = xs at *
  generalize lim w b = ys at *
  conv in (co _ _ _) => reduce
  conv in (initR _ _) => reduce
  dsimp only [zaa, zab, zac, zad, zae, zaf, zag, zah, zai, zaj, zak, zal, zam, zan, zao, zap, zaq, zar, zas, zat, zau, zav, zaw, zax, zay, zaz, zba, zbb, zbc, zbd, zbe, zbf, zbg, zbh, zbi, zbk, zbl, zbm, zbn, zbo, zbp, zbq, zbr, zbs, zbt, zbu, zbv, zbw, zbx, zby, zbz, zca, zcb, zcc, zcd, zce, zcf, zcg, zch, zci, zcl, zcm, zcn, zco, zcp, zcq, zcr, zcs, zct, zcu, zcv, zcw, zcx, zcy, zcz, zda, zdb, zdc, zdd, zde, zdf, zdg, zdh, zdi, zdj, zdk, zdl, zdm, zdn, zdo, zdp, zdq, zdr, zds, zdt, zdu, zdv, zdw, zdx, zdy, zdz, zea, zeb, zec, zed, zee, zef, zeg, zeh, zei, zej, zek, zel, zem, zen, zeo, zep, zeq, zer, zes, zet, zeu, zev, zew, zex, zey, zez, zfa, zfb, zfc, zfd, zfe, zff, zfg, zfh, zfi, zfj, zfk, zfl, zfm, zfn, zfo, zfp, zfq, zfr, zfs, zft, zfu, zfv, zfw, zfx, zfy, zfz, zga, zgb, zgc, zgd, zge, zgf, zgg, zgh, zgi, zgj, zgk, zgl, zgm, zgn, zgo, zgp, zgq, zgr, zgs, zgt, zgu, zgv, zgw, zgx, zgy, zgz, zha, zhb, zhc, zhd, zhe, zhf, zhg, zhh, zhi]
  refine ⟨List.cons_ne_nil _ _, _, hc, ?_⟩
  dsimp only [zaa, zab, zac, zad, zae, zaf, zag, zah, zai, zaj, zak, zal, zam, zan, zao, zap, zaq, zar, zas, zat, zau, zav, zaw, zax, zay, zaz, zba, zbb, zbc, zbd, zbe, zbf, zbg, zbh, zbi, zbk, zbl, zbm, zbn, zbo, zbp, zbq, zbr, zbs, zbt, zbu, zbv, zbw, zbx, zby, zbz, zca, zcb, zcc, zcd, zce, zcf, zcg, zch, zci, zcl, zcm, zcn, zco, zcp, zcq, zcr, zcs, zct, zcu, zcv, zcw, zcx, zcy, zcz, zda, zdb, zdc, zdd, zde, zdf, zdg, zdh, zdi, zdj, zdk, zdl, zdm, zdn, zdo, zdp, zdq, zdr, zds, zdt, zdu, zdv, zdw, zdx, zdy, zdz, zea, zeb, zec, zed, zee, zef, zeg, zeh, zei, zej, zek, zel, zem, zen, zeo, zep, zeq, zer, zes, zet, zeu, zev, zew, zex, zey, zez, zfa, zfb, zfc, zfd, zfe, zff, zfg, zfh, zfi, zfj, zfk, zfl, zfm, zfn, zfo, zfp, zfq, zfr, zfs, zft, zfu, zfv, zfw, zfx, zfy, zfz, zga, zgb, zgc, zgd, zge, zgf, zgg, zgh, zgi, zgj, zgk, zgl, zgm, zgn, zgo, zgp, zgq, zgr, zgs, zgt, zgu, zgv, zgw, zgx, zgy, zgz, zha, zhb, zhc, zhd, zhe, zhf, zhg, zhh, zhi]
  refine ⟨fun h => absurd (decT h) ho, fun h => ⟨sz0, wsh hw8, sz3, _, rfl, ?_⟩⟩
  dsimp only [zaa, zab, zac, zad, zae, zaf, zag, zah, zai, zaj, zak, zal, zam, zan, zao, zap, zaq, zar, zas, zat, zau, zav, zaw, zax, zay, zaz, zba, zbb, zbc, zbd, zbe, zbf, zbg, zbh, zbi, zbk, zbl, zbm, zbn, zbo, zbp, zbq, zbr, zbs, zbt, zbu, zbv, zbw, zbx, zby, zbz, zca, zcb, zcc, zcd, zce, zcf, zcg, zch, zci, zcl, zcm, zcn, zco, zcp, zcq, zcr, zcs, zct, zcu, zcv, zcw, zcx, zcy, zcz, zda, zdb, zdc, zdd, zde, zdf, zdg, zdh, zdi, zdj, zdk, zdl, zdm, zdn, zdo, zdp, zdq, zdr, zds, zdt, zdu, zdv, zdw, zdx, zdy, zdz, zea, zeb, zec, zed, zee, zef, zeg, zeh, zei, zej, zek, zel, zem, zen, zeo, zep, zeq, zer, zes, zet, zeu, zev, zew, zex, zey, zez, zfa, zfb, zfc, zfd, zfe, zff, zfg, zfh, zfi, zfj, zfk, zfl, zfm, zfn, zfo, zfp, zfq, zfr, zfs, zft, zfu, zfv, zfw, zfx, zfy, zfz, zga, zgb, zgc, zgd, zge, zgf, zgg, zgh, zgi, zgj, zgk, zgl, zgm, zgn, zgo, zgp, zgq, zgr, zgs, zgt, zgu, zgv, zgw, zgx, zgy, zgz, zha, zhb, zhc, zhd, zhe, zhf, zhg, zhh, zhi]
  refine ⟨rfl, l62 lp hlp, .inl ⟨rfl, bigN lp hlp, Nat.zero_le 1, ?_⟩⟩
  refine loop_range xs.length (fun i ρ => ∃ fs br v z, ρ = [some (.val (.list dp)), some (.val (.list dq)), some (.val (.int w)), some (.own (nl fs)), some (.val (.int (br : Nat))), some (.val (.int ((1 : Nat) * 2 ^ w))), v, z, some (.val (.fn (Str.ofString "compare"))), none, some (.val (.bi (.type "range"))), some (.val (.bi (.builtin "len"))), some (.val (.fn (Str.ofString "normal")))] ∧
    Dg w fs ∧ fs.length = i ∧ br ≤ 1 ∧ vl w fs + vl w (ys.take i) = vl w (xs.take i) + 2 ^ (w * i) * br) (rnl lp) ⟨[], 0, none, none, rfl, dg_nil w, rfl, Nat.zero_le 1, rfl⟩ ?_ ?_
  · rintro i ρ hi ⟨fs, br, v, z, rfl, hd, hl, hbr, hs⟩ C hC
    dsimp only [zaa, zab, zac, zad, zae, zaf, zag, zah, zai, zaj, zak, zal, zam, zan, zao, zap, zaq, zar, zas, zat, zau, zav, zaw, zax, zay, zaz, zba, zbb, zbc, zbd, zbe, zbf, zbg, zbh, zbi, zbk, zbl, zbm, zbn, zbo, zbp, zbq, zbr, zbs, zbt, zbu, zbv, zbw, zbx, zby, zbz, zca, zcb, zcc, zcd, zce, zcf, zcg, zch, zci, zcl, zcm, zcn, zco, zcp, zcq, zcr, zcs, zct, zcw, zcx, zcy, zcz, zda, zdb, zdc, zdd, zde, zdf, zdg, zdh, zdi, zdj, zdk, zdl, zdm, zdn, zdo, zdp, zdq, zdr, zds, zdt, zdu, zdv, zdw, zdx, zdy, zdz, zea, zeb, zec, zed, zee, zef, zeg, zeh, zei, zej, zek, zel, zem, zen, zeo, zep, zeq, zer, zes, zet, zeu, zev, zew, zex, zey, zez, zfa, zfb, zfc, zfd, zfe, zff, zfg, zfh, zfi, zfj, zfk, zfl, zfm, zfn, zfo, zfp, zfq, zfr, zfs, zft, zfu, zfv, zfw, zfx, zfy, zfz, zga, zgb, zgc, zgd, zge, zgf, zgg, zgh, zgi, zgj, zgk, zgl, zgm, zgn, zgo, zgp, zgq, zgr, zgs, zgt, zgu, zgv, zgw, zgx, zgy, zgz, zha, zhb, zhc, zhd, zhe, zhf, zhg, zhh, zhi]
    refine ix0 hi hlp (gp i hi) ?_
    dsimp only [zaa, zab, zac, zad, zae, zaf, zag, zah, zai, zaj, zak, zal, zam, zan, zao, zap, zaq, zar, zas, zat, zau, zav, zaw, zax, zay, zaz, zba, zbb, zbc, zbd, zbe, zbf, zbg, zbh, zbi, zbk, zbl, zbm, zbn, zbo, zbp, zbq, zbr, zbs, zbt, zbu, zbv, zbw, zbx, zby, zbz, zca, zcb, zcc, zcd, zce, zcf, zcg, zch, zci, zcl, zcm, zcn, zco, zcp, zcq, zcr, zcs, zct, zcw, zcx, zcy, zcz, zda, zdb, zdc, zdd, zde, zdf, zdg, zdh, zdi, zdj, zdk, zdl, zdm, zdn, zdo, zdp, zdq, zdr, zds, zdt, zdu, zdv, zdw, zdx, zdy, zdz, zea, zeb, zec, zed, zee, zef, zeg, zeh, zei, zej, zek, zel, zem, zen, zeo, zep, zeq, zer, zes, zet, zeu, zev, zew, zex, zey, zez, zfa, zfb, zfc, zfd, zfe, zff, zfg, zfh, zfi, zfj, zfk, zfl, zfm, zfn, zfo, zfp, zfq, zfr, zfs, zft, zfu, zfv, zfw, zfx, zfy, zfz, zga, zgb, zgc, zgd, zge, zgf, zgg, zgh, zgi, zgj, zgk, zgl, zgm, zgn, zgo, zgp, zgq, zgr, zgs, zgt, zgu, zgv, zgw, zgx, zgy, zgz, zha, zhb, zhc, zhd, zhe, zhf, zhg, zhh, zhi]
    generalize hQ : kBin2 _ _ _ = Q
    have key : Q (.val (.int (ys.getD i 0 : Nat))) [some (.val (.list dp)), some (.val (.list dq)), some (.val (.int w)), some (.own (nl fs)), some (.val (.int (br : Nat))), some (.val (.int ((1 : Nat) * 2 ^ w))), some (.val (.int (0 + (i : Int)))), z, some (.val (.fn (Str.ofString "compare"))), none, some (.val (.bi (.type "range"))), some (.val (.bi (.builtin "len"))), some (.val (.fn (Str.ofString "normal")))] := by
      subst hQ
      dsimp only [zaa, zab, zac, zad, zae, zaf, zag, zah, zai, zaj, zak, zal, zam, zan, zao, zap, zaq, zar, zas, zat, zau, zav, zaw, zax, zay, zaz, zba, zbb, zbc, zbd, zbe, zbf, zbg, zbh, zbi, zbk, zbl, zbm, zbn, zbo, zbp, zbq, zbr, zbs, zbt, zbu, zbv, zbw, zbx, zby, zbz, zca, zcb, zcc, zcd, zce, zcf, zcg, zch, zci, zcl, zcm, zcn, zco, zcp, zcq, zcr, zcs, zct, zcu, zcv, zcw, zcx, zcy, zcz, zda, zdb, zdc, zdd, zde, zdf, zdg, zdh, zdi, zdj, zdk, zdl, zdm, zdn, zdo, zdp, zdq, zdr, zds, zdt, zdu, zdv, zdw, zdx, zdy, zdz, zea, zeb, zec, zed, zee, zef, zeg, zeh, zei, zej, zek, zel, zem, zen, zeo, zep, zeq, zer, zes, zet, zeu, zev, zew, zex, zey, zez, zfa, zfb, zfc, zfd, zfe, zff, zfg, zfh, zfi, zfj, zfk, zfl, zfm, zfn, zfo, zfp, zfq, zfr, zfs, zft, zfu, zfv, zfw, zfx, zfy, zfz, zga, zgb, zgc, zgd, zge, zgf, zgg, zgh, zgi, zgj, zgk, zgl, zgm, zgn, zgo, zgp, zgq, zgr, zgs, zgt, zgu, zgv, zgw, zgx, zgy, zgz, zha, zhb, zhc, zhd, zhe, zhf, zhg, zhh, zhi]
      have S := sub_dig (dg_getD dgp i) (dg_getD dgq i) hbr
      have hsz := snl hl (Nat.lt_trans hi hlp)
      refine ⟨fun h => ⟨fun _ => ⟨hsz, ?_⟩, fun h' => absurd (decT h) (decF h')⟩, fun h => ⟨fun h' => absurd (decT h') (decF h), fun _ => ⟨hsz, ?_⟩⟩⟩
      · obtain ⟨f, e1, e2, e3⟩ := S.1 (decT h)
        rw [e1, nl_snoc]
        exact hC _ ⟨_, _, _, _, rfl, dg_snoc hd e2, snoc_len hl, Nat.le_refl 1, sub_sum (b' := 1) hl hs (by rw [e3, Nat.mul_one])⟩
      · obtain ⟨f, e1, e2, e3⟩ := S.2 (decF h)
        rw [e1, nl_snoc]
        exact hC _ ⟨_, _, _, _, rfl, dg_snoc hd e2, snoc_len hl, Nat.zero_le 1, sub_sum (b' := 0) hl hs (by rw [e3, Nat.mul_zero]; rfl)⟩
    dsimp only [zaa, zab, zac, zad, zae, zaf, zag, zah, zai, zaj, zak, zal, zam, zan, zao, zap, zaq, zar, zas, zat, zau, zav, zaw, zax, zay, zaz, zba, zbb, zbc, zbd, zbe, zbf, zbg, zbh, zbi, zbk, zbl, zbm, zbn, zbo, zbp, zbq, zbr, zbs, zbt, zbu, zbv, zbw, zbx, zby, zbz, zca, zcb, zcc, zcd, zce, zcf, zcg, zch, zci, zcl, zcm, zcn, zco, zcp, zcq, zcr, zcs, zct, zcu, zcv, zcw, zcx, zcy, zcz, zda, zdb, zdc, zdd, zde, zdf, zdg, zdh, zdi, zdj, zdk, zdl, zdm, zdn, zdo, zdp, zdq, zdr, zds, zdt, zdu, zdv, zdw, zdx, zdy, zdz, zea, zeb, zec, zed, zee, zef, zeg, zeh, zei, zej, zek, zel, zem, zen, zeo, zep, zeq, zer, zes, zet, zeu, zev, zew, zex, zey, zez, zfa, zfb, zfc, zfd, zfe, zff, zfg, zfh, zfi, zfj, zfk, zfl, zfm, zfn, zfo, zfp, zfq, zfr, zfs, zft, zfu, zfv, zfw, zfx, zfy, zfz, zga, zgb, zgc, zgd, zge, zgf, zgg, zgh, zgi, zgj, zgk, zgl, zgm, zgn, zgo, zgp, zgq, zgr, zgs, zgt, zgu, zgv, zgw, zgx, zgy, zgz, zha, zhb, zhc, zhd, zhe, zhf, zhg, zhh, zhi]
    refine ⟨rfl, l62 lq hlq, fun h => ?_, fun h => ?_⟩
    · have hi' : i < ys.length := by have := decT h; omega
      exact ix0 hi' hlq (gq i hi') key
    · have hi' : ys.length ≤ i := by have := decF h; omega
      rw [getD_out hi'] at key
      exact key
  · rintro ρ ⟨fs, br, v, z, rfl, hd, hl, hbr, hs⟩
    dsimp only [zaa, zab, zac, zad, zae, zaf, zag, zah, zai, zaj, zak, zal, zam, zan, zao, zap, zaq, zar, zas, zat, zau, zav, zaw, zax, zay, zaz, zba, zbb, zbc, zbd, zbe, zbf, zbg, zbh, zbi, zbk, zbl, zbm, zbn, zbo, zbp, zbq, zbr, zbs, zbt, zbu, zbv, zbw, zbx, zby, zbz, zca, zcb, zcc, zcd, zce, zcf, zcg, zch, zci, zcl, zcm, zcn, zco, zcp, zcq, zcr, zcs, zct, zcu, zcv, zcw, zcx, zcy, zcz, zda, zdb, zdc, zdd, zde, zdf, zdg, zdh, zdi, zdj, zdk, zdl, zdm, zdn, zdo, zdp, zdq, zdr, zds, zdt, zdu, zdv, zdw, zdx, zdy, zdz, zea, zeb, zec, zed, zee, zef, zeg, zeh, zei, zej, zek, zel, zem, zen, zeo, zep, zeq, zer, zes, zet, zeu, zev, zew, zex, zey, zez, zfa, zfb, zfc, zfd, zfe, zff, zfg, zfh, zfi, zfj, zfk, zfl, zfm, zfn, zfo, zfp, zfq, zfr, zfs, zft, zfu, zfv, zfw, zfx, zfy, zfz, zga, zgb, zgc, zgd, zge, zgf, zgg, zgh, zgi, zgj, zgk, zgl, zgm, zgn, zgo, zgp, zgq, zgr, zgs, zgt, zgu, zgv, zgw, zgx, zgy, zgz, zha, zhb, zhc, zhd, zhe, zhf, zhg, zhh, zhi]
    refine ⟨List.cons_ne_nil _ _, _, normal_ok hW (hl ▸ hla), ?_, .inl ⟨_, rfl, rfl⟩⟩
    rw [norm_dg hw hd]
    have := vl_lt hd
    rw [hl] at this
    rw [List.take_length, List.take_of_length_le hle, vp, vq] at hs
    have e : vl w fs = a - b := by
      rcases Nat.le_one_iff_eq_zero_or_eq_one.mp hbr with rfl | rfl
      · rw [Nat.mul_zero] at hs; exact Nat.eq_sub_of_add_eq hs
      · rw [Nat.mul_one] at hs; omega
    rw [e]
end Mine

set_option maxHeartbeats 4000000
namespace Mine
open PySem PySem.W PyProof.Rows PySem.Calls PySem.Spec PySem.Challenge
theorem rep_nl (n x : Nat) : (List.replicate n [D.int (x : Int)]).flatten = nl (List.replicate n x) := by
  induction n with
  | zero => rfl
  | succ n ih => rw [List.replicate_succ, List.flatten_cons, ih]; rfl
theorem nl_set (xs : List Nat) (i y : Nat) : (nl xs).set i (.int (y : Int)) = nl (xs.set i y) := (List.map_set ..).symm
theorem zhz {a b : Nat} : (a : Int) / (b : Int) = ((a / b : Nat) : Int) := rfl
theorem zia {a b : Nat} : (a : Int) % (b : Int) = ((a % b : Nat) : Int) := rfl
theorem set_rep (m q : Nat) (qs : List Nat) : (List.replicate (m + 1) 0 ++ qs).set m q = List.replicate m 0 ++ q :: qs := by
  rw [List.replicate_succ', List.append_assoc, List.set_append_right _ _ (Nat.le_of_eq List.length_replicate), List.length_replicate, Nat.sub_self]; rfl
theorem drop_cons {xs : List Nat} {m : Nat} (h : m < xs.length) : xs.drop m = xs.getD m 0 :: xs.drop (m + 1) := by
  rw [List.drop_eq_getElem_cons h]; congr 1; simp [List.getD, h]
theorem dm_dig {w l r x : Nat} (hr : r < l) (hx : x < 2 ^ w) : (r * 2 ^ w + x) / l < 2 ^ w := by
  refine (Nat.div_lt_iff_lt_mul (Nat.zero_lt_of_lt hr)).mpr ?_
  have := Nat.mul_le_mul_right (2 ^ w) (Nat.succ_le_of_lt hr)
  rw [Nat.succ_mul, Nat.mul_comm l] at this
  omega
theorem dm_sum {w l r x Q V : Nat} (h : V = l * Q + r) : x + 2 ^ w * V = l * ((r * 2 ^ w + x) / l + 2 ^ w * Q) + (r * 2 ^ w + x) % l := by
  have := Nat.div_add_mod (r * 2 ^ w + x) l
  rw [Nat.mul_add, Nat.add_right_comm, this, h, Nat.mul_add, Nat.mul_left_comm, Nat.mul_comm r]; omega
theorem sm8 {w x : Nat} (h8 : w ≤ 8) (h : x < 2 ^ w) : x < 256 := Nat.lt_of_lt_of_le h (Nat.pow_le_pow_right (by decide) h8)
theorem smN {n : Nat} (h : n < 256) : smallInt (n : Int) := small_n (Nat.lt_trans h (by decide))
theorem divB {n : Nat} (h0 : 0 < n) (h : n < 256) : (0 : Int) < (n : Int) ∧ (n : Int) < 2 ^ 30 := ⟨Int.natCast_pos.mpr h0, by omega⟩
theorem wsh' {w n : Nat} (hw : w ≤ 8) (h : n < 256) : (0 : Int) ≤ (w : Int) ∧ (w : Int) ≤ 1000000 ∧ smallInt (n : Int) := ⟨Int.natCast_nonneg _, by omega, smN h⟩

theorem divrem_limb_ok {W : Wd} {k : Nat} (hW : Wv W) {w a l : Nat} (hw : w ≠ 0) (hw8 : w ≤ 8) (hla : (lim w a).length < 2 ^ 20) (hl0 : l ≠ 0) (hl : l < 2 ^ w) : CallOk W (k + 2) (Str.ofString "divrem_limb") [.val (.list (nl (lim w a))), .val (.int (l : Int)), .val (.int (w : Int))] (.tup [.list (nl (lim w (a / l))), .int ((a % l : Nat) : Int)]) [.val (.list (nl (lim w a))), .val (.int (l : Int)), .val (.int (w : Int))] := by
  refine call_fn (d := defAt 8) (as := [Str.ofString "limb", Str.ofString "w"]) (p := Str.ofString "a") (ds := [.int (l : Int), .int (w : Int)]) (n := 60) (fx := []) hW.2 (rec_mem 8 (by decide) hW) fn8 rfl ?_
  have hlp : (lim w a).length < 2 ^ 22 := Nat.lt_trans hla (by decide)
  have lp := nl_len (lim w a)
  have gp := nl_getD (lim w a)
  have dgp := dg_lim hw a
  have vp := vl_lim hw a
  generalize nl (lim w a) = dp at *
  generalize lim w a = xs at *
  conv in (co _ _ _) => reduce
  conv in (initR _ _) => reduce
  dsimp only [zaa, zab, zac, zad, zae, zaf, zag, zah, zai, zaj, zak, zal, zam, zan, zao, zap, zaq, zar, zas, zat, zau, zav, zaw, zax, zay, zaz, zba, zbb, zbc, zbd, zbe, zbf, zbg, zbh, zbi, zbk, zbl, zbm, zbn, zbo, zbp, zbq, zbr, zbs, zbt, zbu, zbv, zbw, zbx, zby, zbz, zca, zcb, zcc, zcd, zce, zcf, zcg, zch, zci, zcl, zcm, zcn, zco, zcp, zcq, zcr, zcs, zct, zcu, zcv, zcw, zcx, zcy, zcz, zda, zdb, zdc, zdd, zde, zdf, zdg, zdh, zdi, zdj, zdk, zdl, zdm, zdn, zdo, zdp, zdq, zdr, zds, zdt, zdu, zdv, zdw, zdx, zdy, zdz, zea, zeb, zec, zed, zee, zef, zeg, zeh, zei, zej, zek, zel, zem, zen, zeo, zep, zeq, zer, zes, zet, zeu, zev, zew, zex, zey, zez, zfa, zfb, zfc, zfd, zfe, zff, zfg, zfh, zfi, zfj, zfk, zfl, zfm, zfn, zfo, zfp, zfq, zfr, zfs, zft, zfu, zfv, zfw, zfx, zfy, zfz, zga, zgb, zgc, zgd, zge, zgf, zgg, zgh, zgi, zgj, zgk, zgl, zgm, zgn, zgo, zgp, zgq, zgr, zgs, zgt, zgu, zgv, zgw, zgx, zgy, zgz, zha, zhb, zhc, zhd, zhe, zhf, zhg, zhh, zhi]
  refine ⟨fun h => absurd (Int.ofNat.inj (decT h)) hl0, fun h => ⟨sz1, rfl, l62 lp hlp, repN (lp ▸ hlp), sz2, _, rfl, ?_⟩⟩
  dsimp only [zaa, zab, zac, zad, zae, zaf, zag, zah, zai, zaj, zak, zal, zam, zan, zao, zap, zaq, zar, zas, zat, zau, zav, zaw, zax, zay, zaz, zba, zbb, zbc, zbd, zbe, zbf, zbg, zbh, zbi, zbk, zbl, zbm, zbn, zbo, zbp, zbq, zbr, zbs, zbt, zbu, zbv, zbw, zbx, zby, zbz, zca, zcb, zcc, zcd, zce, zcf, zcg, zch, zci, zcl, zcm, zcn, zco, zcp, zcq, zcr, zcs, zct, zcu, zcv, zcw, zcx, zcy, zcz, zda, zdb, zdc, zdd, zde, zdf, zdg, zdh, zdi, zdj, zdk, zdl, zdm, zdn, zdo, zdp, zdq, zdr, zds, zdt, zdu, zdv, zdw, zdx, zdy, zdz, zea, zeb, zec, zed, zee, zef, zeg, zeh, zei, zej, zek, zel, zem, zen, zeo, zep, zeq, zer, zes, zet, zeu, zev, zew, zex, zey, zez, zfa, zfb, zfc, zfd, zfe, zff, zfg, zfh, zfi, zfj, zfk, zfl, zfm, zfn, zfo, zfp, zfq, zfr, zfs, zft, zfu, zfv, zfw, zfx, zfy, zfz, zga, zgb, zgc, zgd, zge, zgf, zgg, zgh, zgi, zgj, zgk, zgl, zgm, zgn, zgo, zgp, zgq, zgr, zgs, zgt, zgu, zgv, zgw, zgx, zgy, zgz, zha, zhb, zhc, zhd, zhe, zhf, zhg, zhh, zhi]
  rw [rep_nl]
  refine ⟨rfl, l62 lp hlp, .inl ⟨rfl, ⟨rfl, (big1 lp hlp).1, (big1 lp hlp).2, big_le (by omega)⟩, Nat.le_refl 1, ?_⟩⟩
  refine loop_down xs.length (fun i ρ => ∃ m r qs v, ρ = [some (.val (.list dp)), some (.val (.int l)), some (.val (.int w)), some (.own (nl (List.replicate m 0 ++ qs))), some (.val (.int (r : Nat))), v, none, some (.val (.bi (.builtin "len"))), some (.val (.bi (.type "range"))), some (.val (.fn (Str.ofString "normal")))] ∧
    m + i = xs.length ∧ qs.length = i ∧ Dg w qs ∧ r < l ∧ vl w (xs.drop m) = l * vl w qs + r) (by rw [lp]; omega) ⟨xs.length, 0, [], none, by rw [List.append_nil, lp]; rfl, rfl, rfl, dg_nil w, Nat.pos_of_ne_zero hl0, by rw [List.drop_length]; rfl⟩ ?_ ?_
  · rintro i ρ hi ⟨m, r, qs, v, rfl, hm, hq, hd, hr, hs⟩ C hC
    obtain ⟨m, rfl⟩ : ∃ m', m = m' + 1 := ⟨m - 1, by omega⟩
    have hm' : m < xs.length := by omega
    have hx := dg_getD dgp m
    have hB := sm8 hw8 (Nat.lt_trans hr hl)
    dsimp only [zaa, zab, zac, zad, zae, zaf, zag, zah, zai, zaj, zak, zal, zam, zan, zao, zap, zaq, zar, zas, zat, zau, zav, zaw, zax, zay, zaz, zba, zbb, zbc, zbd, zbe, zbf, zbg, zbh, zbi, zbk, zbl, zbm, zbn, zbo, zbp, zbq, zbr, zbs, zbt, zbu, zbv, zbw, zbx, zby, zbz, zca, zcb, zcc, zcd, zce, zcf, zcg, zch, zci, zcl, zcm, zcn, zco, zcp, zcq, zcr, zcs, zct, zcu, zcv, zcw, zcx, zcy, zcz, zda, zdb, zdc, zdd, zde, zdf, zdg, zdh, zdi, zdj, zdk, zdl, zdm, zdn, zdo, zdp, zdq, zdr, zds, zdt, zdu, zdv, zdw, zdx, zdy, zdz, zea, zeb, zec, zed, zee, zef, zeg, zeh, zei, zej, zek, zel, zem, zen, zeo, zep, zeq, zer, zes, zet, zeu, zev, zew, zex, zey, zez, zfa, zfb, zfc, zfd, zfe, zff, zfg, zfh, zfi, zfj, zfk, zfl, zfm, zfn, zfo, zfp, zfq, zfr, zfs, zft, zfu, zfv, zfw, zfx, zfy, zfz, zga, zgb, zgc, zgd, zge, zgf, zgg, zgh, zgi, zgj, zgk, zgl, zgm, zgn, zgo, zgp, zgq, zgr, zgs, zgt, zgu, zgv, zgw, zgx, zgy, zgz, zha, zhb, zhc, zhd, zhe, zhf, zhg, zhh, zhi]
    rw [lp, show ((xs.length : Int) - ((1 : Nat) : Int) - (i : Int)) = (m : Int) by omega]
    refine ⟨wsh' hw8 hB, ixn hm' hlp (gp m hm') ?_⟩
    dsimp only [zaa, zab, zac, zad, zae, zaf, zag, zah, zai, zaj, zak, zal, zam, zan, zao, zap, zaq, zar, zas, zat, zau, zav, zaw, zax, zay, zaz, zba, zbb, zbc, zbd, zbe, zbf, zbg, zbh, zbi, zbk, zbl, zbm, zbn, zbo, zbp, zbq, zbr, zbs, zbt, zbu, zbv, zbw, zbx, zby, zbz, zca, zcb, zcc, zcd, zce, zcf, zcg, zch, zci, zcl, zcm, zcn, zco, zcp, zcq, zcr, zcs, zct, zcu, zcv, zcw, zcx, zcy, zcz, zda, zdb, zdc, zdd, zde, zdf, zdg, zdh, zdi, zdj, zdk, zdl, zdm, zdn, zdo, zdp, zdq, zdr, zds, zdt, zdu, zdv, zdw, zdx, zdy, zdz, zea, zeb, zec, zed, zee, zef, zeg, zeh, zei, zej, zek, zel, zem, zen, zeo, zep, zeq, zer, zes, zet, zeu, zev, zew, zex, zey, zez, zfa, zfb, zfc, zfd, zfe, zff, zfg, zfh, zfi, zfj, zfk, zfl, zfm, zfn, zfo, zfp, zfq, zfr, zfs, zft, zfu, zfv, zfw, zfx, zfy, zfz, zga, zgb, zgc, zgd, zge, zgf, zgg, zgh, zgi, zgj, zgk, zgl, zgm, zgn, zgo, zgp, zgq, zgr, zgs, zgt, zgu, zgv, zgw, zgx, zgy, zgz, zha, zhb, zhc, zhd, zhe, zhf, zhg, zhh, zhi]
    rw [bor _ _ _ hx, zhz, zia, nl_set, set_rep]
    refine ⟨divB (Nat.pos_of_ne_zero hl0) (sm8 hw8 hl), ⟨Int.natCast_nonneg _, ?_, ?_⟩, Int.natCast_pos.mpr (Nat.pos_of_ne_zero hl0), hC _ ⟨m, _, _ :: qs, _, rfl, by omega, by rw [List.length_cons, hq], dg_cons (dm_dig hr hx) hd, Nat.mod_lt _ (Nat.pos_of_ne_zero hl0), ?_⟩⟩
    · rw [nl_len, List.length_append, List.length_replicate]; omega
    · rw [nl_len, List.length_append, List.length_replicate]; omega
    · rw [drop_cons hm']; exact dm_sum hs
  · rintro ρ ⟨m, r, qs, v, rfl, hm, hq, hd, hr, hs⟩
    obtain rfl : m = 0 := by omega
    dsimp only [zaa, zab, zac, zad, zae, zaf, zag, zah, zai, zaj, zak, zal, zam, zan, zao, zap, zaq, zar, zas, zat, zau, zav, zaw, zax, zay, zaz, zba, zbb, zbc, zbd, zbe, zbf, zbg, zbh, zbi, zbk, zbl, zbm, zbn, zbo, zbp, zbq, zbr, zbs, zbt, zbu, zbv, zbw, zbx, zby, zbz, zca, zcb, zcc, zcd, zce, zcf, zcg, zch, zci, zcl, zcm, zcn, zco, zcp, zcq, zcr, zcs, zct, zcu, zcv, zcw, zcx, zcy, zcz, zda, zdb, zdc, zdd, zde, zdf, zdg, zdh, zdi, zdj, zdk, zdl, zdm, zdn, zdo, zdp, zdq, zdr, zds, zdt, zdu, zdv, zdw, zdx, zdy, zdz, zea, zeb, zec, zed, zee, zef, zeg, zeh, zei, zej, zek, zel, zem, zen, zeo, zep, zeq, zer, zes, zet, zeu, zev, zew, zex, zey, zez, zfa, zfb, zfc, zfd, zfe, zff, zfg, zfh, zfi, zfj, zfk, zfl, zfm, zfn, zfo, zfp, zfq, zfr, zfs, zft, zfu, zfv, zfw, zfx, zfy, zfz, zga, zgb, zgc, zgd, zge, zgf, zgg, zgh, zgi, zgj, zgk, zgl, zgm, zgn, zgo, zgp, zgq, zgr, zgs, zgt, zgu, zgv, zgw, zgx, zgy, zgz, zha, zhb, zhc, zhd, zhe, zhf, zhg, zhh, zhi]
    rw [List.drop_zero, vp] at hs
    refine ⟨List.cons_ne_nil _ _, _, normal_ok hW (xs := qs) (hq ▸ hla), sz2, ?_, .inl ⟨_, rfl, rfl⟩⟩
    have hl1 := Nat.pos_of_ne_zero hl0
    rw [norm_dg hw hd, hs, Nat.mul_add_div hl1, Nat.div_eq_of_lt hr, Nat.add_zero, Nat.mul_add_mod, Nat.mod_eq_of_lt hr]
end Mine

set_option maxHeartbeats 4000000
namespace Mine
open PySem PySem.W PyProof.Rows PySem.Calls PySem.Spec PySem.Challenge
theorem bitOr_comm (x y : Int) : Builtin.bitOr x y = Builtin.bitOr y x := by rw [bitOr_and, bitOr_and, bitAnd_comm, Int.add_comm]
theorem bor' (n x c : Nat) (h : c < 2 ^ n) : Builtin.bitOr (c : Int) ((x : Int) * 2 ^ n) = ((c + x * 2 ^ n : Nat) : Int) := by
  rw [bitOr_comm, bor _ _ _ h, Nat.add_comm]
theorem sl_carry {w n c x : Nat} (hc : c < 2 ^ n) (hx : x < 2 ^ w) : (c + x * 2 ^ n) / 2 ^ w < 2 ^ n := by
  refine (Nat.div_lt_iff_lt_mul (pw_pos w)).mpr ?_
  have := Nat.mul_le_mul_right (2 ^ n) (Nat.succ_le_of_lt hx)
  rw [Nat.succ_mul, Nat.mul_comm (2 ^ w)] at this
  omega
theorem fdiv0 {n w : Nat} (h : n < w) : (n : Int) / (w : Int) = ((0 : Nat) : Int) := by rw [zhz, Nat.div_eq_of_lt h]
theorem fmod0 {n w : Nat} (h : n < w) : (n : Int) % (w : Int) = (n : Int) := by rw [zia, Nat.mod_eq_of_lt h]
theorem divW {w : Nat} (h : w ≠ 0) (h8 : w ≤ 8) : (0 : Int) < (w : Int) ∧ (w : Int) < 2 ^ 30 := by omega

theorem shift_left_ok {W : Wd} {k : Nat} (hW : Wv W) {w a n : Nat} (hw : w ≠ 0) (hw8 : w ≤ 8) (hla : (lim w a).length < 2 ^ 20) (hn : n < w) : CallOk W (k + 1) (Str.ofString "shift_left") [.val (.list (nl (lim w a))), .val (.int (n : Int)), .val (.int (w : Int))] (.list (nl (lim w (a * 2 ^ n)))) [.val (.list (nl (lim w a))), .val (.int (n : Int)), .val (.int (w : Int))] := by
  refine call_fn (d := defAt 9) (as := [Str.ofString "n", Str.ofString "w"]) (p := Str.ofString "a") (ds := [.int (n : Int), .int (w : Int)]) (n := 60) (fx := []) hW.2 (rec_mem 9 (by decide) hW) fn9 rfl ?_
  have hlp : (lim w a).length < 2 ^ 22 := Nat.lt_trans hla (by decide)
  have lp := nl_len (lim w a)
  have dgp := dg_lim hw a
  have vp := vl_lim hw a
  have mp := lim_mono hw (Nat.le_mul_of_pos_right a (pw_pos n))
  have h0 := lim_nil hw (n := a)
  generalize hdp : nl (lim w a) = dp at *
  generalize lim w a = xs at *
  conv in (co _ _ _) => reduce
  conv in (initR _ _) => reduce
  dsimp only [zaa, zab, zac, zad, zae, zaf, zag, zah, zai, zaj, zak, zal, zam, zan, zao, zap, zaq, zar, zas, zat, zau, zav, zaw, zax, zay, zaz, zba, zbb, zbc, zbd, zbe, zbf, zbg, zbh, zbi, zbk, zbl, zbm, zbn, zbo, zbp, zbq, zbr, zbs, zbt, zbu, zbv, zbw, zbx, zby, zbz, zca, zcb, zcc, zcd, zce, zcf, zcg, zch, zci, zcl, zcm, zcn, zco, zcp, zcq, zcr, zcs, zct, zcu, zcv, zcw, zcx, zcy, zcz, zda, zdb, zdc, zdd, zde, zdf, zdg, zdh, zdi, zdj, zdk, zdl, zdm, zdn, zdo, zdp, zdq, zdr, zds, zdt, zdu, zdv, zdw, zdx, zdy, zdz, zea, zeb, zec, zed, zee, zef, zeg, zeh, zei, zej, zek, zel, zem, zen, zeo, zep, zeq, zer, zes, zet, zeu, zev, zew, zex, zey, zez, zfa, zfb, zfc, zfd, zfe, zff, zfg, zfh, zfi, zfj, zfk, zfl, zfm, zfn, zfo, zfp, zfq, zfr, zfs, zft, zfu, zfv, zfw, zfx, zfy, zfz, zga, zgb, zgc, zgd, zge, zgf, zgg, zgh, zgi, zgj, zgk, zgl, zgm, zgn, zgo, zgp, zgq, zgr, zgs, zgt, zgu, zgv, zgw, zgx, zgy, zgz, zha, zhb, zhc, zhd, zhe, zhf, zhg, zhh, zhi]
  refine ⟨rfl, l62 lp hlp, fun h => ⟨sz0, ?_, .inl ⟨_, rfl, rfl⟩⟩, fun h => ⟨divW hw hw8, Int.natCast_pos.mpr (Nat.pos_of_ne_zero hw), sz2, _, rfl, ?_⟩⟩
  · rw [h0.mp (lp ▸ Int.ofNat.inj (decT h)), Nat.zero_mul]; rfl
  rw [fdiv0 hn, fmod0 hn]
  dsimp only [zaa, zab, zac, zad, zae, zaf, zag, zah, zai, zaj, zak, zal, zam, zan, zao, zap, zaq, zar, zas, zat, zau, zav, zaw, zax, zay, zaz, zba, zbb, zbc, zbd, zbe, zbf, zbg, zbh, zbi, zbk, zbl, zbm, zbn, zbo, zbp, zbq, zbr, zbs, zbt, zbu, zbv, zbw, zbx, zby, zbz, zca, zcb, zcc, zcd, zce, zcf, zcg, zch, zci, zcl, zcm, zcn, zco, zcp, zcq, zcr, zcs, zct, zcu, zcv, zcw, zcx, zcy, zcz, zda, zdb, zdc, zdd, zde, zdf, zdg, zdh, zdi, zdj, zdk, zdl, zdm, zdn, zdo, zdp, zdq, zdr, zds, zdt, zdu, zdv, zdw, zdx, zdy, zdz, zea, zeb, zec, zed, zee, zef, zeg, zeh, zei, zej, zek, zel, zem, zen, zeo, zep, zeq, zer, zes, zet, zeu, zev, zew, zex, zey, zez, zfa, zfb, zfc, zfd, zfe, zff, zfg, zfh, zfi, zfj, zfk, zfl, zfm, zfn, zfo, zfp, zfq, zfr, zfs, zft, zfu, zfv, zfw, zfx, zfy, zfz, zga, zgb, zgc, zgd, zge, zgf, zgg, zgh, zgi, zgj, zgk, zgl, zgm, zgn, zgo, zgp, zgq, zgr, zgs, zgt, zgu, zgv, zgw, zgx, zgy, zgz, zha, zhb, zhc, zhd, zhe, zhf, zhg, zhh, zhi]
  refine ⟨sz1, repN (n := 0) (by decide), wsh hw8, sz3, _, rfl, ?_⟩
  dsimp only [zaa, zab, zac, zad, zae, zaf, zag, zah, zai, zaj, zak, zal, zam, zan, zao, zap, zaq, zar, zas, zat, zau, zav, zaw, zax, zay, zaz, zba, zbb, zbc, zbd, zbe, zbf, zbg, zbh, zbi, zbk, zbl, zbm, zbn, zbo, zbp, zbq, zbr, zbs, zbt, zbu, zbv, zbw, zbx, zby, zbz, zca, zcb, zcc, zcd, zce, zcf, zcg, zch, zci, zcl, zcm, zcn, zco, zcp, zcq, zcr, zcs, zct, zcu, zcv, zcw, zcx, zcy, zcz, zda, zdb, zdc, zdd, zde, zdf, zdg, zdh, zdi, zdj, zdk, zdl, zdm, zdn, zdo, zdp, zdq, zdr, zds, zdt, zdu, zdv, zdw, zdx, zdy, zdz, zea, zeb, zec, zed, zee, zef, zeg, zeh, zei, zej, zek, zel, zem, zen, zeo, zep, zeq, zer, zes, zet, zeu, zev, zew, zex, zey, zez, zfa, zfb, zfc, zfd, zfe, zff, zfg, zfh, zfi, zfj, zfk, zfl, zfm, zfn, zfo, zfp, zfq, zfr, zfs, zft, zfu, zfv, zfw, zfx, zfy, zfz, zga, zgb, zgc, zgd, zge, zgf, zgg, zgh, zgi, zgj, zgk, zgl, zgm, zgn, zgo, zgp, zgq, zgr, zgs, zgt, zgu, zgv, zgw, zgx, zgy, zgz, zha, zhb, zhc, zhd, zhe, zhf, zhg, zhh, zhi]
  refine ⟨Nat.zero_le 1, ?_⟩
  refine loop_each hdp (fun i ρ => ∃ fs c v, ρ = [some (.val (.list dp)), some (.val (.int n)), some (.val (.int w)), some (.val (.int (0 : Nat))), some (.val (.int n)), some (.own (nl fs)), some (.val (.int (c : Nat))), some (.val (.int ((1 : Nat) * 2 ^ w - (1 : Nat)))), v, some (.val (.bi (.builtin "len")))] ∧
    Dg w fs ∧ fs.length = i ∧ c < 2 ^ n ∧ vl w fs + 2 ^ (w * i) * c = vl w (xs.take i) * 2 ^ n) ⟨[], 0, none, rfl, dg_nil w, rfl, pw_pos n, by rw [Nat.mul_zero]; exact (Nat.zero_mul _).symm⟩ ?_ ?_
  · rintro i ρ hi ⟨fs, c, v, rfl, hd, hl, hc, hs⟩ C hC
    have hx := dg_getD dgp i
    dsimp only [zaa, zab, zac, zad, zae, zaf, zag, zah, zai, zaj, zak, zal, zam, zan, zao, zap, zaq, zar, zas, zat, zau, zav, zaw, zax, zay, zaz, zba, zbb, zbc, zbd, zbe, zbf, zbg, zbh, zbi, zbk, zbl, zbm, zbn, zbo, zbp, zbq, zbr, zbs, zbt, zbu, zbv, zbw, zbx, zby, zbz, zca, zcb, zcc, zcd, zce, zcf, zcg, zch, zci, zcl, zcm, zcn, zco, zcp, zcq, zcr, zcs, zct, zcu, zcv, zcw, zcx, zcy, zcz, zda, zdb, zdc, zdd, zde, zdf, zdg, zdh, zdi, zdj, zdk, zdl, zdm, zdn, zdo, zdp, zdq, zdr, zds, zdt, zdu, zdv, zdw, zdx, zdy, zdz, zea, zeb, zec, zed, zee, zef, zeg, zeh, zei, zej, zek, zel, zem, zen, zeo, zep, zeq, zer, zes, zet, zeu, zev, zew, zex, zey, zez, zfa, zfb, zfc, zfd, zfe, zff, zfg, zfh, zfi, zfj, zfk, zfl, zfm, zfn, zfo, zfp, zfq, zfr, zfs, zft, zfu, zfv, zfw, zfx, zfy, zfz, zga, zgb, zgc, zgd, zge, zgf, zgg, zgh, zgi, zgj, zgk, zgl, zgm, zgn, zgo, zgp, zgq, zgr, zgs, zgt, zgu, zgv, zgw, zgx, zgy, zgz, zha, zhb, zhc, zhd, zhe, zhf, zhg, zhh, zhi]
    rw [bor' _ _ _ hc, maskN, shr, nl_snoc]
    exact ⟨wsh' (Nat.le_trans (Nat.le_of_lt hn) hw8) (sm8 hw8 hx), snl hl (Nat.lt_trans hi hlp), Int.natCast_nonneg _, hC _ ⟨_, _, _, rfl, dg_step hd _, snoc_len hl, sl_carry hc hx,
      by rw [step_sum hl hs, vl_take hi, Nat.add_mul, Nat.mul_assoc]⟩⟩
  · rintro ρ ⟨fs, c, v, rfl, hd, hl, hc, hs⟩
    dsimp only [zaa, zab, zac, zad, zae, zaf, zag, zah, zai, zaj, zak, zal, zam, zan, zao, zap, zaq, zar, zas, zat, zau, zav, zaw, zax, zay, zaz, zba, zbb, zbc, zbd, zbe, zbf, zbg, zbh, zbi, zbk, zbl, zbm, zbn, zbo, zbp, zbq, zbr, zbs, zbt, zbu, zbv, zbw, zbx, zby, zbz, zca, zcb, zcc, zcd, zce, zcf, zcg, zch, zci, zcl, zcm, zcn, zco, zcp, zcq, zcr, zcs, zct, zcu, zcv, zcw, zcx, zcy, zcz, zda, zdb, zdc, zdd, zde, zdf, zdg, zdh, zdi, zdj, zdk, zdl, zdm, zdn, zdo, zdp, zdq, zdr, zds, zdt, zdu, zdv, zdw, zdx, zdy, zdz, zea, zeb, zec, zed, zee, zef, zeg, zeh, zei, zej, zek, zel, zem, zen, zeo, zep, zeq, zer, zes, zet, zeu, zev, zew, zex, zey, zez, zfa, zfb, zfc, zfd, zfe, zff, zfg, zfh, zfi, zfj, zfk, zfl, zfm, zfn, zfo, zfp, zfq, zfr, zfs, zft, zfu, zfv, zfw, zfx, zfy, zfz, zga, zgb, zgc, zgd, zge, zgf, zgg, zgh, zgi, zgj, zgk, zgl, zgm, zgn, zgo, zgp, zgq, zgr, zgs, zgt, zgu, zgv, zgw, zgx, zgy, zgz, zha, zhb, zhc, zhd, zhe, zhf, zhg, zhh, zhi]
    rw [List.take_length, vp, ← hl] at hs
    have F := carry_fin hw hd (hl ▸ mp) hs (Nat.lt_of_lt_of_le hc (Nat.pow_le_pow_right (by decide) (Nat.le_of_lt hn)))
    refine ⟨fun h => ⟨snl hl hlp, ?_, .inl ⟨_, rfl, rfl⟩⟩, fun h => ⟨?_, .inl ⟨_, rfl, rfl⟩⟩⟩
    · rw [nl_snoc, F, if_pos (decP h)]
    · rw [F, if_neg (decN h)]
end Mine

set_option maxHeartbeats 4000000
namespace Mine
open PySem PySem.W PyProof.Rows PySem.Calls PySem.Spec PySem.Challenge
theorem vl_drop {w : Nat} (xs : List Nat) (hd : Dg w xs) (i : Nat) : vl w xs / 2 ^ (w * i) = vl w (xs.drop i) := by
  by_cases h : i ≤ xs.length
  · have e := vl_app w (xs.take i) (xs.drop i)
    rw [List.take_append_drop, List.length_take, Nat.min_eq_left h] at e
    have := vl_lt (dg_take hd i)
    rw [List.length_take, Nat.min_eq_left h] at this
    rw [e, Nat.add_mul_div_left _ _ (pw_pos _), Nat.div_eq_of_lt this, Nat.zero_add]
  · have h := Nat.le_of_lt (Nat.not_le.mp h)
    rw [List.drop_eq_nil_of_le h, Nat.div_eq_of_lt (Nat.lt_of_lt_of_le (vl_lt hd) (Nat.pow_le_pow_right (by decide) (Nat.mul_le_mul_left _ h)))]; rfl
theorem vl_drop1 (w : Nat) (xs : List Nat) (m : Nat) : vl w (xs.drop m) = xs.getD m 0 + 2 ^ w * vl w (xs.drop (m + 1)) := by
  by_cases h : m < xs.length
  · rw [drop_cons h]; rfl
  · have h := Nat.not_lt.mp h
    rw [getD_out h, List.drop_eq_nil_of_le h, List.drop_eq_nil_of_le (Nat.le_succ_of_le h), Nat.zero_add]; rfl
theorem sr_dig {w n : Nat} {xs : List Nat} (hd : Dg w xs) (hn : n ≤ w) (i : Nat) :
    vl w xs / 2 ^ n % 2 ^ (w * (i + 1)) = vl w xs / 2 ^ n % 2 ^ (w * i) + 2 ^ (w * i) * ((xs.getD (i + 1) 0 * 2 ^ (w - n) + xs.getD i 0 / 2 ^ n) % 2 ^ w) := by
  rw [Nat.mul_succ, Nat.pow_add, Nat.mod_mul]
  congr 2
  rw [Nat.div_div_eq_div_mul, Nat.mul_comm, ← Nat.div_div_eq_div_mul, vl_drop xs hd, vl_drop1, vl_drop1]
  have e : 2 ^ w = 2 ^ n * 2 ^ (w - n) := by rw [← Nat.pow_add, Nat.add_sub_cancel' hn]
  generalize vl w (xs.drop (i + 1 + 1)) = R
  generalize xs.getD (i + 1) 0 = y
  generalize xs.getD i 0 = x
  have e2 : x + 2 ^ w * (y + 2 ^ w * R) = x + 2 ^ n * (y * 2 ^ (w - n) + 2 ^ w * (2 ^ (w - n) * R)) := by
    rw [Nat.mul_add, Nat.mul_add (2 ^ n), Nat.mul_comm y, ← Nat.mul_assoc (2 ^ n), ← e, Nat.mul_left_comm (2 ^ n), ← Nat.mul_assoc (2 ^ n), ← e]
  rw [e2, Nat.add_mul_div_left _ _ (pw_pos n), ← Nat.add_assoc, Nat.add_mul_mod_self_left, Nat.add_comm]
theorem sr_or {w n x y : Nat} (hn : n < w) (hx : x < 2 ^ w) : Builtin.bitOr ((x : Int) / 2 ^ n) ((y : Int) * 2 ^ (w - n)) = ((y * 2 ^ (w - n) + x / 2 ^ n : Nat) : Int) := by
  rw [shr, bitOr_comm, bor]
  refine (Nat.div_lt_iff_lt_mul (pw_pos n)).mpr ?_
  rwa [← Nat.pow_add, Nat.sub_add_cancel (Nat.le_of_lt hn)]

theorem shift_right_ok {W : Wd} {k : Nat} (hW : Wv W) {w a n : Nat} (hw : w ≠ 0) (hw8 : w ≤ 8) (hla : (lim w a).length < 2 ^ 20) (hn : n < w) : CallOk W (k + 2) (Str.ofString "shift_right") [.val (.list (nl (lim w a))), .val (.int (n : Int)), .val (.int (w : Int))] (.list (nl (lim w (a / 2 ^ n)))) [.val (.list (nl (lim w a))), .val (.int (n : Int)), .val (.int (w : Int))] := by
  refine call_fn (d := defAt 10) (as := [Str.ofString "n", Str.ofString "w"]) (p := Str.ofString "a") (ds := [.int (n : Int), .int (w : Int)]) (n := 60) (fx := []) hW.2 (rec_mem 10 (by decide) hW) fn10 rfl ?_
  have hlp : (lim w a).length < 2 ^ 22 := Nat.lt_trans hla (by decide)
  have lp := nl_len (lim w a)
  have gp := nl_getD (lim w a)
  have dgp := dg_lim hw a
  have vp := vl_lim hw a
  generalize nl (lim w a) = dp at *
  generalize lim w a = xs at *
  conv in (co _ _ _) => reduce
  conv in (initR _ _) => reduce
  dsimp only [zaa, zab, zac, zad, zae, zaf, zag, zah, zai, zaj, zak, zal, zam, zan, zao, zap, zaq, zar, zas, zat, zau, zav, zaw, zax, zay, zaz, zba, zbb, zbc, zbd, zbe, zbf, zbg, zbh, zbi, zbk, zbl, zbm, zbn, zbo, zbp, zbq, zbr, zbs, zbt, zbu, zbv, zbw, zbx, zby, zbz, zca, zcb, zcc, zcd, zce, zcf, zcg, zch, zci, zcl, zcm, zcn, zco, zcp, zcq, zcr, zcs, zct, zcu, zcv, zcw, zcx, zcy, zcz, zda, zdb, zdc, zdd, zde, zdf, zdg, zdh, zdi, zdj, zdk, zdl, zdm, zdn, zdo, zdp, zdq, zdr, zds, zdt, zdu, zdv, zdw, zdx, zdy, zdz, zea, zeb, zec, zed, zee, zef, zeg, zeh, zei, zej, zek, zel, zem, zen, zeo, zep, zeq, zer, zes, zet, zeu, zev, zew, zex, zey, zez, zfa, zfb, zfc, zfd, zfe, zff, zfg, zfh, zfi, zfj, zfk, zfl, zfm, zfn, zfo, zfp, zfq, zfr, zfs, zft, zfu, zfv, zfw, zfx, zfy, zfz, zga, zgb, zgc, zgd, zge, zgf, zgg, zgh, zgi, zgj, zgk, zgl, zgm, zgn, zgo, zgp, zgq, zgr, zgs, zgt, zgu, zgv, zgw, zgx, zgy, zgz, zha, zhb, zhc, zhd, zhe, zhf, zhg, zhh, zhi]
  refine ⟨divW hw hw8, Int.natCast_pos.mpr (Nat.pos_of_ne_zero hw), sz2, _, rfl, ?_⟩
  rw [fdiv0 hn, fmod0 hn]
  dsimp only [zaa, zab, zac, zad, zae, zaf, zag, zah, zai, zaj, zak, zal, zam, zan, zao, zap, zaq, zar, zas, zat, zau, zav, zaw, zax, zay, zaz, zba, zbb, zbc, zbd, zbe, zbf, zbg, zbh, zbi, zbk, zbl, zbm, zbn, zbo, zbp, zbq, zbr, zbs, zbt, zbu, zbv, zbw, zbx, zby, zbz, zca, zcb, zcc, zcd, zce, zcf, zcg, zch, zci, zcl, zcm, zcn, zco, zcp, zcq, zcr, zcs, zct, zcu, zcv, zcw, zcx, zcy, zcz, zda, zdb, zdc, zdd, zde, zdf, zdg, zdh, zdi, zdj, zdk, zdl, zdm, zdn, zdo, zdp, zdq, zdr, zds, zdt, zdu, zdv, zdw, zdx, zdy, zdz, zea, zeb, zec, zed, zee, zef, zeg, zeh, zei, zej, zek, zel, zem, zen, zeo, zep, zeq, zer, zes, zet, zeu, zev, zew, zex, zey, zez, zfa, zfb, zfc, zfd, zfe, zff, zfg, zfh, zfi, zfj, zfk, zfl, zfm, zfn, zfo, zfp, zfq, zfr, zfs, zft, zfu, zfv, zfw, zfx, zfy, zfz, zga, zgb, zgc, zgd, zge, zgf, zgg, zgh, zgi, zgj, zgk, zgl, zgm, zgn, zgo, zgp, zgq, zgr, zgs, zgt, zgu, zgv, zgw, zgx, zgy, zgz, zha, zhb, zhc, zhd, zhe, zhf, zhg, zhh, zhi]
  refine ⟨sz0, wsh hw8, sz2, _, rfl, ?_⟩
  dsimp only [zaa, zab, zac, zad, zae, zaf, zag, zah, zai, zaj, zak, zal, zam, zan, zao, zap, zaq, zar, zas, zat, zau, zav, zaw, zax, zay, zaz, zba, zbb, zbc, zbd, zbe, zbf, zbg, zbh, zbi, zbk, zbl, zbm, zbn, zbo, zbp, zbq, zbr, zbs, zbt, zbu, zbv, zbw, zbx, zby, zbz, zca, zcb, zcc, zcd, zce, zcf, zcg, zch, zci, zcl, zcm, zcn, zco, zcp, zcq, zcr, zcs, zct, zcu, zcv, zcw, zcx, zcy, zcz, zda, zdb, zdc, zdd, zde, zdf, zdg, zdh, zdi, zdj, zdk, zdl, zdm, zdn, zdo, zdp, zdq, zdr, zds, zdt, zdu, zdv, zdw, zdx, zdy, zdz, zea, zeb, zec, zed, zee, zef, zeg, zeh, zei, zej, zek, zel, zem, zen, zeo, zep, zeq, zer, zes, zet, zeu, zev, zew, zex, zey, zez, zfa, zfb, zfc, zfd, zfe, zff, zfg, zfh, zfi, zfj, zfk, zfl, zfm, zfn, zfo, zfp, zfq, zfr, zfs, zft, zfu, zfv, zfw, zfx, zfy, zfz, zga, zgb, zgc, zgd, zge, zgf, zgg, zgh, zgi, zgj, zgk, zgl, zgm, zgn, zgo, zgp, zgq, zgr, zgs, zgt, zgu, zgv, zgw, zgx, zgy, zgz, zha, zhb, zhc, zhd, zhe, zhf, zhg, zhh, zhi]
  refine ⟨rfl, l62 lp hlp, .inl ⟨rfl, ⟨(big_le (by omega)).1, (big_le (by omega)).2, bigN lp hlp⟩, Nat.zero_le 1, ?_⟩⟩
  refine loop_range xs.length (fun i ρ => ∃ fs v z, ρ = [some (.val (.list dp)), some (.val (.int n)), some (.val (.int w)), some (.val (.int (0 : Nat))), some (.val (.int n)), some (.own (nl fs)), some (.val (.int ((1 : Nat) * 2 ^ w - (1 : Nat)))), v, z, some (.val (.bi (.type "range"))), some (.val (.bi (.builtin "len"))), some (.val (.fn (Str.ofString "normal")))] ∧
    Dg w fs ∧ fs.length = i ∧ vl w fs = vl w xs / 2 ^ n % 2 ^ (w * i)) (rnl lp) ⟨[], none, none, rfl, dg_nil w, rfl, by rw [Nat.mul_zero, Nat.pow_zero, Nat.mod_one]; rfl⟩ ?_ ?_
  · rintro i ρ hi ⟨fs, v, z, rfl, hd, hl, hs⟩ C hC
    dsimp only [zaa, zab, zac, zad, zae, zaf, zag, zah, zai, zaj, zak, zal, zam, zan, zao, zap, zaq, zar, zas, zat, zau, zav, zaw, zax, zay, zaz, zba, zbb, zbc, zbd, zbe, zbf, zbg, zbh, zbi, zbk, zbl, zbm, zbn, zbo, zbp, zbq, zbr, zbs, zbt, zbu, zbv, zbw, zbx, zby, zbz, zca, zcb, zcc, zcd, zce, zcf, zcg, zch, zci, zcl, zcm, zcn, zco, zcp, zcq, zcr, zcs, zct, zcw, zcx, zcy, zcz, zda, zdb, zdc, zdd, zde, zdf, zdg, zdh, zdi, zdj, zdk, zdl, zdm, zdn, zdo, zdp, zdq, zdr, zds, zdt, zdu, zdv, zdw, zdx, zdy, zdz, zea, zeb, zec, zed, zee, zef, zeg, zeh, zei, zej, zek, zel, zem, zen, zeo, zep, zeq, zer, zes, zet, zeu, zev, zew, zex, zey, zez, zfa, zfb, zfc, zfd, zfe, zff, zfg, zfh, zfi, zfj, zfk, zfl, zfm, zfn, zfo, zfp, zfq, zfr, zfs, zft, zfu, zfv, zfw, zfx, zfy, zfz, zga, zgb, zgc, zgd, zge, zgf, zgg, zgh, zgi, zgj, zgk, zgl, zgm, zgn, zgo, zgp, zgq, zgr, zgs, zgt, zgu, zgv, zgw, zgx, zgy, zgz, zha, zhb, zhc, zhd, zhe, zhf, zhg, zhh, zhi]
    generalize hQ : kAsg _ _ = Q
    have key : Q (.val (.int (xs.getD (i + 1) 0 : Nat))) [some (.val (.list dp)), some (.val (.int n)), some (.val (.int w)), some (.val (.int (0 : Nat))), some (.val (.int n)), some (.own (nl fs)), some (.val (.int ((1 : Nat) * 2 ^ w - (1 : Nat)))), some (.val (.int ((0 : Nat) + (i : Int)))), z, some (.val (.bi (.type "range"))), some (.val (.bi (.builtin "len"))), some (.val (.fn (Str.ofString "normal")))] := by
      subst hQ
      dsimp only [zaa, zab, zac, zad, zae, zaf, zag, zah, zai, zaj, zak, zal, zam, zan, zao, zap, zaq, zar, zas, zat, zau, zav, zaw, zax, zay, zaz, zba, zbb, zbc, zbd, zbe, zbf, zbg, zbh, zbi, zbk, zbl, zbm, zbn, zbo, zbp, zbq, zbr, zbs, zbt, zbu, zbv, zbw, zbx, zby, zbz, zca, zcb, zcc, zcd, zce, zcf, zcg, zch, zci, zcl, zcm, zcn, zco, zcp, zcq, zcr, zcs, zct, zcu, zcv, zcw, zcx, zcy, zcz, zda, zdb, zdc, zdd, zde, zdf, zdg, zdh, zdi, zdj, zdk, zdl, zdm, zdn, zdo, zdp, zdq, zdr, zds, zdt, zdu, zdv, zdw, zdx, zdy, zdz, zea, zeb, zec, zed, zee, zef, zeg, zeh, zei, zej, zek, zel, zem, zen, zeo, zep, zeq, zer, zes, zet, zeu, zev, zew, zex, zey, zez, zfa, zfb, zfc, zfd, zfe, zff, zfg, zfh, zfi, zfj, zfk, zfl, zfm, zfn, zfo, zfp, zfq, zfr, zfs, zft, zfu, zfv, zfw, zfx, zfy, zfz, zga, zgb, zgc, zgd, zge, zgf, zgg, zgh, zgi, zgj, zgk, zgl, zgm, zgn, zgo, zgp, zgq, zgr, zgs, zgt, zgu, zgv, zgw, zgx, zgy, zgz, zha, zhb, zhc, zhd, zhe, zhf, zhg, zhh, zhi]
      refine ix0 hi hlp (gp i hi) ?_
      dsimp only [zaa, zab, zac, zad, zae, zaf, zag, zah, zai, zaj, zak, zal, zam, zan, zao, zap, zaq, zar, zas, zat, zau, zav, zaw, zax, zay, zaz, zba, zbb, zbc, zbd, zbe, zbf, zbg, zbh, zbi, zbk, zbl, zbm, zbn, zbo, zbp, zbq, zbr, zbs, zbt, zbu, zbv, zbw, zbx, zby, zbz, zca, zcb, zcc, zcd, zce, zcf, zcg, zch, zci, zcl, zcm, zcn, zco, zcp, zcq, zcr, zcs, zct, zcu, zcv, zcw, zcx, zcy, zcz, zda, zdb, zdc, zdd, zde, zdf, zdg, zdh, zdi, zdj, zdk, zdl, zdm, zdn, zdo, zdp, zdq, zdr, zds, zdt, zdu, zdv, zdw, zdx, zdy, zdz, zea, zeb, zec, zed, zee, zef, zeg, zeh, zei, zej, zek, zel, zem, zen, zeo, zep, zeq, zer, zes, zet, zeu, zev, zew, zex, zey, zez, zfa, zfb, zfc, zfd, zfe, zff, zfg, zfh, zfi, zfj, zfk, zfl, zfm, zfn, zfo, zfp, zfq, zfr, zfs, zft, zfu, zfv, zfw, zfx, zfy, zfz, zga, zgb, zgc, zgd, zge, zgf, zgg, zgh, zgi, zgj, zgk, zgl, zgm, zgn, zgo, zgp, zgq, zgr, zgs, zgt, zgu, zgv, zgw, zgx, zgy, zgz, zha, zhb, zhc, zhd, zhe, zhf, zhg, zhh, zhi]
      rw [show (w : Int) - (n : Int) = ((w - n : Nat) : Int) from (Int.ofNat_sub (Nat.le_of_lt hn)).symm]
      dsimp only [zaa, zab, zac, zad, zae, zaf, zag, zah, zai, zaj, zak, zal, zam, zan, zao, zap, zaq, zar, zas, zat, zau, zav, zaw, zax, zay, zaz, zba, zbb, zbc, zbd, zbe, zbf, zbg, zbh, zbi, zbk, zbl, zbm, zbn, zbo, zbp, zbq, zbr, zbs, zbt, zbu, zbv, zbw, zbx, zby, zbz, zca, zcb, zcc, zcd, zce, zcf, zcg, zch, zci, zcl, zcm, zcn, zco, zcp, zcq, zcr, zcs, zct, zcu, zcv, zcw, zcx, zcy, zcz, zda, zdb, zdc, zdd, zde, zdf, zdg, zdh, zdi, zdj, zdk, zdl, zdm, zdn, zdo, zdp, zdq, zdr, zds, zdt, zdu, zdv, zdw, zdx, zdy, zdz, zea, zeb, zec, zed, zee, zef, zeg, zeh, zei, zej, zek, zel, zem, zen, zeo, zep, zeq, zer, zes, zet, zeu, zev, zew, zex, zey, zez, zfa, zfb, zfc, zfd, zfe, zff, zfg, zfh, zfi, zfj, zfk, zfl, zfm, zfn, zfo, zfp, zfq, zfr, zfs, zft, zfu, zfv, zfw, zfx, zfy, zfz, zga, zgb, zgc, zgd, zge, zgf, zgg, zgh, zgi, zgj, zgk, zgl, zgm, zgn, zgo, zgp, zgq, zgr, zgs, zgt, zgu, zgv, zgw, zgx, zgy, zgz, zha, zhb, zhc, zhd, zhe, zhf, zhg, zhh, zhi]
      rw [sr_or hn (dg_getD dgp i), maskN, nl_snoc]
      exact ⟨Int.natCast_nonneg _, wsh' (Nat.le_trans (Nat.sub_le ..) hw8) (sm8 hw8 (dg_getD dgp _)), snl hl (Nat.lt_trans hi hlp), hC _ ⟨_, _, _, rfl, dg_step hd _, snoc_len hl, by rw [vl_snoc, hl, hs, sr_dig dgp (Nat.le_of_lt hn)]⟩⟩
    dsimp only [zaa, zab, zac, zad, zae, zaf, zag, zah, zai, zaj, zak, zal, zam, zan, zao, zap, zaq, zar, zas, zat, zau, zav, zaw, zax, zay, zaz, zba, zbb, zbc, zbd, zbe, zbf, zbg, zbh, zbi, zbk, zbl, zbm, zbn, zbo, zbp, zbq, zbr, zbs, zbt, zbu, zbv, zbw, zbx, zby, zbz, zca, zcb, zcc, zcd, zce, zcf, zcg, zch, zci, zcl, zcm, zcn, zco, zcp, zcq, zcr, zcs, zct, zcu, zcv, zcw, zcx, zcy, zcz, zda, zdb, zdc, zdd, zde, zdf, zdg, zdh, zdi, zdj, zdk, zdl, zdm, zdn, zdo, zdp, zdq, zdr, zds, zdt, zdu, zdv, zdw, zdx, zdy, zdz, zea, zeb, zec, zed, zee, zef, zeg, zeh, zei, zej, zek, zel, zem, zen, zeo, zep, zeq, zer, zes, zet, zeu, zev, zew, zex, zey, zez, zfa, zfb, zfc, zfd, zfe, zff, zfg, zfh, zfi, zfj, zfk, zfl, zfm, zfn, zfo, zfp, zfq, zfr, zfs, zft, zfu, zfv, zfw, zfx, zfy, zfz, zga, zgb, zgc, zgd, zge, zgf, zgg, zgh, zgi, zgj, zgk, zgl, zgm, zgn, zgo, zgp, zgq, zgr, zgs, zgt, zgu, zgv, zgw, zgx, zgy, zgz, zha, zhb, zhc, zhd, zhe, zhf, zhg, zhh, zhi]
    refine ⟨rfl, l62 lp hlp, fun h => ?_, fun h => ?_⟩
    · have hi' : i + 1 < xs.length := by have := decT h; omega
      exact ix (by omega) (Nat.lt_trans hi' hlp) (gp _ hi') key
    · have hi' : xs.length ≤ i + 1 := by have := decF h; omega
      rw [getD_out hi'] at key
      exact key
  · rintro ρ ⟨fs, v, z, rfl, hd, hl, hs⟩
    dsimp only [zaa, zab, zac, zad, zae, zaf, zag, zah, zai, zaj, zak, zal, zam, zan, zao, zap, zaq, zar, zas, zat, zau, zav, zaw, zax, zay, zaz, zba, zbb, zbc, zbd, zbe, zbf, zbg, zbh, zbi, zbk, zbl, zbm, zbn, zbo, zbp, zbq, zbr, zbs, zbt, zbu, zbv, zbw, zbx, zby, zbz, zca, zcb, zcc, zcd, zce, zcf, zcg, zch, zci, zcl, zcm, zcn, zco, zcp, zcq, zcr, zcs, zct, zcu, zcv, zcw, zcx, zcy, zcz, zda, zdb, zdc, zdd, zde, zdf, zdg, zdh, zdi, zdj, zdk, zdl, zdm, zdn, zdo, zdp, zdq, zdr, zds, zdt, zdu, zdv, zdw, zdx, zdy, zdz, zea, zeb, zec, zed, zee, zef, zeg, zeh, zei, zej, zek, zel, zem, zen, zeo, zep, zeq, zer, zes, zet, zeu, zev, zew, zex, zey, zez, zfa, zfb, zfc, zfd, zfe, zff, zfg, zfh, zfi, zfj, zfk, zfl, zfm, zfn, zfo, zfp, zfq, zfr, zfs, zft, zfu, zfv, zfw, zfx, zfy, zfz, zga, zgb, zgc, zgd, zge, zgf, zgg, zgh, zgi, zgj, zgk, zgl, zgm, zgn, zgo, zgp, zgq, zgr, zgs, zgt, zgu, zgv, zgw, zgx, zgy, zgz, zha, zhb, zhc, zhd, zhe, zhf, zhg, zhh, zhi]
    refine ⟨List.cons_ne_nil _ _, _, normal_ok hW (hl ▸ hla), ?_, .inl ⟨_, rfl, rfl⟩⟩
    rw [norm_dg hw hd, hs, Nat.mod_eq_of_lt (Nat.lt_of_le_of_lt (Nat.div_le_self ..) (vl_lt dgp)), vp]

theorem lim_one {w x : Nat} (hw : w ≠ 0) (h0 : x ≠ 0) (hx : x < 2 ^ w) : lim w x = [x] := by
  rw [lim_pos hw h0, Nat.mod_eq_of_lt hx, Nat.div_eq_of_lt hx]; rfl
theorem bits_ok {W : Wd} {k : Nat} (hW : Wv W) {w x : Nat} : CallOk W (k + 1) (Str.ofString "bits") [.val (.list (nl [x])), .val (.int (w : Int))] (.int ((Builtin.Int.intBits (x : Int) : Nat) : Int)) [.val (.list (nl [x])), .val (.int (w : Int))] := by
  refine call_fn (d := defAt 11) (as := [Str.ofString "w"]) (p := Str.ofString "a") (ds := [.int (w : Int)]) (n := 60) (fx := []) hW.2 (rec_mem 11 (by decide) hW) fn11 rfl ?_
  have lp : (nl [x]).length = 1 := rfl
  have gp : (nl [x])[0]? = some (.int (x : Int)) := rfl
  generalize nl [x] = dp at *
  conv in (co _ _ _) => reduce
  conv in (initR _ _) => reduce
  dsimp only [zaa, zab, zac, zad, zae, zaf, zag, zah, zai, zaj, zak, zal, zam, zan, zao, zap, zaq, zar, zas, zat, zau, zav, zaw, zax, zay, zaz, zba, zbb, zbc, zbd, zbe, zbf, zbg, zbh, zbi, zbk, zbl, zbm, zbn, zbo, zbp, zbq, zbr, zbs, zbt, zbu, zbv, zbw, zbx, zby, zbz, zca, zcb, zcc, zcd, zce, zcf, zcg, zch, zci, zcl, zcm, zcn, zco, zcp, zcq, zcr, zcs, zct, zcu, zcv, zcw, zcx, zcy, zcz, zda, zdb, zdc, zdd, zde, zdf, zdg, zdh, zdi, zdj, zdk, zdl, zdm, zdn, zdo, zdp, zdq, zdr, zds, zdt, zdu, zdv, zdw, zdx, zdy, zdz, zea, zeb, zec, zed, zee, zef, zeg, zeh, zei, zej, zek, zel, zem, zen, zeo, zep, zeq, zer, zes, zet, zeu, zev, zew, zex, zey, zez, zfa, zfb, zfc, zfd, zfe, zff, zfg, zfh, zfi, zfj, zfk, zfl, zfm, zfn, zfo, zfp, zfq, zfr, zfs, zft, zfu, zfv, zfw, zfx, zfy, zfz, zga, zgb, zgc, zgd, zge, zgf, zgg, zgh, zgi, zgj, zgk, zgl, zgm, zgn, zgo, zgp, zgq, zgr, zgs, zgt, zgu, zgv, zgw, zgx, zgy, zgz, zha, zhb, zhc, zhd, zhe, zhf, zhg, zhh, zhi]
  refine ⟨rfl, l62 lp (by decide), fun h => ⟨rfl, l62 lp (by decide), ?_, ixm1 lp gp ?_⟩, fun h => absurd (decF h) (by rw [lp]; decide)⟩
  · rw [lp]; exact smN (n := 0) (by decide)
  · dsimp only [zaa, zab, zac, zad, zae, zaf, zag, zah, zai, zaj, zak, zal, zam, zan, zao, zap, zaq, zar, zas, zat, zau, zav, zaw, zax, zay, zaz, zba, zbb, zbc, zbd, zbe, zbf, zbg, zbh, zbi, zbk, zbl, zbm, zbn, zbo, zbp, zbq, zbr, zbs, zbt, zbu, zbv, zbw, zbx, zby, zbz, zca, zcb, zcc, zcd, zce, zcf, zcg, zch, zci, zcl, zcm, zcn, zco, zcp, zcq, zcr, zcs, zct, zcu, zcv, zcw, zcx, zcy, zcz, zda, zdb, zdc, zdd, zde, zdf, zdg, zdh, zdi, zdj, zdk, zdl, zdm, zdn, zdo, zdp, zdq, zdr, zds, zdt, zdu, zdv, zdw, zdx, zdy, zdz, zea, zeb, zec, zed, zee, zef, zeg, zeh, zei, zej, zek, zel, zem, zen, zeo, zep, zeq, zer, zes, zet, zeu, zev, zew, zex, zey, zez, zfa, zfb, zfc, zfd, zfe, zff, zfg, zfh, zfi, zfj, zfk, zfl, zfm, zfn, zfo, zfp, zfq, zfr, zfs, zft, zfu, zfv, zfw, zfx, zfy, zfz, zga, zgb, zgc, zgd, zge, zgf, zgg, zgh, zgi, zgj, zgk, zgl, zgm, zgn, zgo, zgp, zgq, zgr, zgs, zgt, zgu, zgv, zgw, zgx, zgy, zgz, zha, zhb, zhc, zhd, zhe, zhf, zhg, zhh, zhi]
    refine ⟨?_, .inl ⟨_, rfl, rfl⟩⟩
    rw [lp, show (((1 : Nat) : Int) - ((1 : Nat) : Int)) = 0 from rfl, Int.zero_mul, Int.zero_add]
end Mine

set_option maxHeartbeats 4000000
namespace Mine
open PySem PySem.W PyProof.Rows PySem.Calls PySem.Spec PySem.Challenge
theorem set_vl (w y : Nat) : ∀ (fs : List Nat) (i : Nat), i < fs.length → vl w (fs.set i y) + 2 ^ (w * i) * fs.getD i 0 = vl w fs + 2 ^ (w * i) * y
  | x :: fs, 0, _ => by
    show y + 2 ^ w * vl w fs + 2 ^ (w * 0) * x = x + 2 ^ w * vl w fs + 2 ^ (w * 0) * y
    rw [Nat.mul_zero, Nat.pow_zero, Nat.one_mul, Nat.one_mul]; omega
  | x :: fs, i + 1, h => by
    have ih := set_vl w y fs i (Nat.lt_of_succ_lt_succ h)
    show x + 2 ^ w * vl w (fs.set i y) + 2 ^ (w * (i + 1)) * fs.getD i 0 = x + 2 ^ w * vl w fs + 2 ^ (w * (i + 1)) * y
    rw [Nat.mul_succ, Nat.pow_add, Nat.mul_comm (2 ^ (w * i)) (2 ^ w), Nat.mul_assoc, Nat.mul_assoc, Nat.add_assoc, Nat.add_assoc, ← Nat.mul_add, ← Nat.mul_add, ih]
theorem dg_set {w y : Nat} {fs : List Nat} (hd : Dg w fs) (hy : y < 2 ^ w) (i : Nat) : Dg w (fs.set i y) := fun z hz => by
  rcases List.mem_or_eq_of_mem_set hz with h | h
  · exact hd z h
  · exact h ▸ hy
theorem getD_set_ne {fs : List Nat} {i j y : Nat} (h : i ≠ j) : (fs.set i y).getD j 0 = fs.getD j 0 := by
  rw [List.getD_eq_getElem?_getD, List.getD_eq_getElem?_getD, List.getElem?_set_ne h]
theorem getD_small {w : Nat} {fs : List Nat} {i : Nat} (h : vl w fs < 2 ^ (w * i)) : fs.getD i 0 = 0 := by
  by_cases hi : i < fs.length
  · have := set_vl w 0 fs i hi
    rcases Nat.eq_zero_or_pos (fs.getD i 0) with e | e
    · exact e
    · have := Nat.le_mul_of_pos_right (2 ^ (w * i)) e
      omega
  · exact getD_out (Nat.not_lt.mp hi)
theorem mul_carry {w c o x y : Nat} (hc : c < 2 ^ w) (ho : o < 2 ^ w) (hx : x < 2 ^ w) (hy : y < 2 ^ w) : (c + (o + x * y)) / 2 ^ w < 2 ^ w := by
  refine (Nat.div_lt_iff_lt_mul (pw_pos w)).mpr ?_
  generalize 2 ^ w = B at *
  obtain ⟨b, rfl⟩ : ∃ b, B = b + 1 := ⟨B - 1, by omega⟩
  have := Nat.mul_le_mul (Nat.le_of_lt_succ hx) (Nat.le_of_lt_succ hy)
  rw [Nat.add_one_mul, Nat.mul_add_one]
  omega
theorem mul_sum {w i c o u V : Nat} {gs : List Nat} (hi : i < gs.length) (ho : gs.getD i 0 = o) (hs : vl w gs + 2 ^ (w * i) * c = V) :
    vl w (gs.set i ((c + (o + u)) % 2 ^ w)) + 2 ^ (w * (i + 1)) * ((c + (o + u)) / 2 ^ w) = V + 2 ^ (w * i) * u := by
  have e := set_vl w ((c + (o + u)) % 2 ^ w) gs i hi
  have m := Nat.mod_add_div (c + (o + u)) (2 ^ w)
  rw [ho] at e
  have n : 2 ^ (w * i) * ((c + (o + u)) % 2 ^ w) + 2 ^ (w * (i + 1)) * ((c + (o + u)) / 2 ^ w) = 2 ^ (w * i) * c + (2 ^ (w * i) * o + 2 ^ (w * i) * u) := by
    rw [Nat.mul_succ, Nat.pow_add, Nat.mul_assoc, ← Nat.mul_add, m, Nat.mul_add, Nat.mul_add]
  omega
theorem sumN {n : Nat} {α : Type} {ds : List α} (h : ds.length = n) (hn : n < 2 ^ 22) : -(2 ^ 62) ≤ (ds.length : Int) ∧ (ds.length : Int) < 2 ^ 62 := by omega

theorem mul_school_ok {W : Wd} {k : Nat} (hW : Wv W) {w a b : Nat} (hw : w ≠ 0) (hw8 : w ≤ 8) (hla : (lim w a).length < 2 ^ 19) (hlb : (lim w b).length < 2 ^ 19) : CallOk W (k + 2) (Str.ofString "mul_school") [.val (.list (nl (lim w a))), .val (.list (nl (lim w b))), .val (.int (w : Int))] (.list (nl (lim w (a * b)))) [.val (.list (nl (lim w a))), .val (.list (nl (lim w b))), .val (.int (w : Int))] := by
  refine call_fn (d := defAt 29) (as := [Str.ofString "b", Str.ofString "w"]) (p := Str.ofString "a") (ds := [.list (nl (lim w b)), .int (w : Int)]) (n := 60) (fx := []) hW.2 (rec_mem 29 (by decide) hW) fn29 rfl ?_
  have hl20 : (lim w a).length + (lim w b).length < 2 ^ 20 := by omega
  have lp := nl_len (lim w a)
  have lq := nl_len (lim w b)
  have dgp := dg_lim hw a
  have dgq := dg_lim hw b
  have vp := vl_lim hw a
  have vq := vl_lim hw b
  generalize hdp : nl (lim w a) = dp at *
  generalize hdq : nl (lim w b) = dq at *
  generalize lim w a = xs at *
  generalize lim w b = ys at *
  have hlp : xs.length < 2 ^ 22 := Nat.lt_trans hla (by decide)
  have hlq : ys.length < 2 ^ 22 := Nat.lt_trans hlb (by decide)
  have hl22 : xs.length + ys.length < 2 ^ 22 := Nat.lt_trans hl20 (by decide)
  conv in (co _ _ _) => reduce
  conv in (initR _ _) => reduce
  dsimp only [zaa, zab, zac, zad, zae, zaf, zag, zah, zai, zaj, zak, zal, zam, zan, zao, zap, zaq, zar, zas, zat, zau, zav, zaw, zax, zay, zaz, zba, zbb, zbc, zbd, zbe, zbf, zbg, zbh, zbi, zbk, zbl, zbm, zbn, zbo, zbp, zbq, zbr, zbs, zbt, zbu, zbv, zbw, zbx, zby, zbz, zca, zcb, zcc, zcd, zce, zcf, zcg, zch, zci, zcl, zcm, zcn, zco, zcp, zcq, zcr, zcs, zct, zcu, zcv, zcw, zcx, zcy, zcz, zda, zdb, zdc, zdd, zde, zdf, zdg, zdh, zdi, zdj, zdk, zdl, zdm, zdn, zdo, zdp, zdq, zdr, zds, zdt, zdu, zdv, zdw, zdx, zdy, zdz, zea, zeb, zec, zed, zee, zef, zeg, zeh, zei, zej, zek, zel, zem, zen, zeo, zep, zeq, zer, zes, zet, zeu, zev, zew, zex, zey, zez, zfa, zfb, zfc, zfd, zfe, zff, zfg, zfh, zfi, zfj, zfk, zfl, zfm, zfn, zfo, zfp, zfq, zfr, zfs, zft, zfu, zfv, zfw, zfx, zfy, zfz, zga, zgb, zgc, zgd, zge, zgf, zgg, zgh, zgi, zgj, zgk, zgl, zgm, zgn, zgo, zgp, zgq, zgr, zgs, zgt, zgu, zgv, zgw, zgx, zgy, zgz, zha, zhb, zhc, zhd, zhe, zhf, zhg, zhh, zhi, zhx, zhy, zhz, zia]
  rw [lp, lq]
  refine ⟨sz1, rfl, l62 rfl hlp, rfl, l62 rfl hlq, repN hl22, wsh hw8, sz2, _, rfl, ?_⟩
  dsimp only [zaa, zab, zac, zad, zae, zaf, zag, zah, zai, zaj, zak, zal, zam, zan, zao, zap, zaq, zar, zas, zat, zau, zav, zaw, zax, zay, zaz, zba, zbb, zbc, zbd, zbe, zbf, zbg, zbh, zbi, zbk, zbl, zbm, zbn, zbo, zbp, zbq, zbr, zbs, zbt, zbu, zbv, zbw, zbx, zby, zbz, zca, zcb, zcc, zcd, zce, zcf, zcg, zch, zci, zcl, zcm, zcn, zco, zcp, zcq, zcr, zcs, zct, zcu, zcv, zcw, zcx, zcy, zcz, zda, zdb, zdc, zdd, zde, zdf, zdg, zdh, zdi, zdj, zdk, zdl, zdm, zdn, zdo, zdp, zdq, zdr, zds, zdt, zdu, zdv, zdw, zdx, zdy, zdz, zea, zeb, zec, zed, zee, zef, zeg, zeh, zei, zej, zek, zel, zem, zen, zeo, zep, zeq, zer, zes, zet, zeu, zev, zew, zex, zey, zez, zfa, zfb, zfc, zfd, zfe, zff, zfg, zfh, zfi, zfj, zfk, zfl, zfm, zfn, zfo, zfp, zfq, zfr, zfs, zft, zfu, zfv, zfw, zfx, zfy, zfz, zga, zgb, zgc, zgd, zge, zgf, zgg, zgh, zgi, zgj, zgk, zgl, zgm, zgn, zgo, zgp, zgq, zgr, zgs, zgt, zgu, zgv, zgw, zgx, zgy, zgz, zha, zhb, zhc, zhd, zhe, zhf, zhg, zhh, zhi]
  rw [rep_nl]
  have hlp' := Nat.lt_of_le_of_lt (Nat.le_of_eq lp) hlp
  have hlq' := Nat.lt_of_le_of_lt (Nat.le_of_eq lq) hlq
  refine .inr ⟨rfl, dp, rfl, sz_le hlp', rfl, ?_⟩
  refine loop_enum hdp (fun i ρ => ∃ fs v1 v2 v3 v4 v5, ρ = [some (.val (.list dp)), some (.val (.list dq)), some (.val (.int w)), some (.own (nl fs)), some (.val (.int ((1 : Nat) * 2 ^ w - (1 : Nat)))), v1, v2, v3, v4, v5, some (.val (.bi (.builtin "len"))), some (.val (.bi (.type "enumerate"))), some (.val (.fn (Str.ofString "normal")))] ∧
    Dg w fs ∧ fs.length = xs.length + ys.length ∧ vl w fs = vl w (xs.take i) * b) ⟨_, none, none, none, none, none, rfl, fun x hx => (List.eq_of_mem_replicate hx) ▸ pw_pos w, List.length_replicate, ?_⟩ ?_ ?_
  · rw [List.take_zero, show vl w [] = 0 from rfl, Nat.zero_mul]
    generalize xs.length + ys.length = n
    induction n with
    | zero => rfl
    | succ n ih => rw [List.replicate_succ]; show 0 + 2 ^ w * vl w _ = 0; rw [ih]; rfl
  · rintro i ρ hi ⟨fs, v1, v2, v3, v4, v5, rfl, hd, hl, hs⟩ C hC
    have hx := dg_getD dgp i
    have hz : fs.getD (i + ys.length) 0 = 0 := by
      refine getD_small (w := w) ?_
      rw [hs, Nat.mul_add, Nat.pow_add]
      have h1 := vl_lt (dg_take dgp i)
      rw [List.length_take, Nat.min_eq_left (Nat.le_of_lt hi)] at h1
      have h2 := vl_lt dgq
      rw [vq] at h2
      exact Nat.mul_lt_mul_of_lt_of_le h1 (Nat.le_of_lt h2) (pw_pos _)
    refine ⟨_, _, rfl, ?_⟩
    dsimp only [zaa, zab, zac, zad, zae, zaf, zag, zah, zai, zaj, zak, zal, zam, zan, zao, zap, zaq, zar, zas, zat, zau, zav, zaw, zax, zay, zaz, zba, zbb, zbc, zbd, zbe, zbf, zbg, zbh, zbi, zbk, zbl, zbm, zbn, zbo, zbp, zbq, zbr, zbs, zbt, zbu, zbv, zbw, zbx, zby, zbz, zca, zcb, zcc, zcd, zce, zcf, zcg, zch, zci, zcl, zcm, zcn, zco, zcp, zcq, zcr, zcs, zct, zcu, zcv, zcw, zcx, zcy, zcz, zda, zdb, zdc, zdd, zde, zdf, zdg, zdh, zdi, zdj, zdk, zdl, zdm, zdn, zdo, zdp, zdq, zdr, zds, zdt, zdu, zdv, zdw, zdx, zdy, zdz, zea, zeb, zec, zed, zee, zef, zeg, zeh, zei, zej, zek, zel, zem, zen, zeo, zep, zeq, zer, zes, zet, zeu, zev, zew, zex, zey, zez, zfa, zfb, zfc, zfd, zfe, zff, zfg, zfh, zfi, zfj, zfk, zfl, zfm, zfn, zfo, zfp, zfq, zfr, zfs, zft, zfu, zfv, zfw, zfx, zfy, zfz, zga, zgb, zgc, zgd, zge, zgf, zgg, zgh, zgi, zgj, zgk, zgl, zgm, zgn, zgo, zgp, zgq, zgr, zgs, zgt, zgu, zgv, zgw, zgx, zgy, zgz, zha, zhb, zhc, zhd, zhe, zhf, zhg, zhh, zhi]
    refine .inr ⟨rfl, dq, rfl, sz_le hlq', rfl, ?_⟩
    refine loop_enum hdq (fun j ρ => ∃ gs c v4 v5, ρ = [some (.val (.list dp)), some (.val (.list dq)), some (.val (.int w)), some (.own (nl gs)), some (.val (.int ((1 : Nat) * 2 ^ w - (1 : Nat)))), some (.val (.int i)), some (.val (.int (xs.getD i 0 : Nat))), some (.val (.int (c : Nat))), v4, v5, some (.val (.bi (.builtin "len"))), some (.val (.bi (.type "enumerate"))), some (.val (.fn (Str.ofString "normal")))] ∧
      Dg w gs ∧ gs.length = xs.length + ys.length ∧ c < 2 ^ w ∧ gs.getD (i + ys.length) 0 = 0 ∧ vl w gs + 2 ^ (w * (i + j)) * c = vl w fs + 2 ^ (w * i) * (xs.getD i 0 * vl w (ys.take j))) ⟨fs, 0, _, _, rfl, hd, hl, pw_pos w, hz, rfl⟩ ?_ ?_
    · rintro j ρ hj ⟨gs, c, v4, v5, rfl, hd, hl, hc, hz, hs⟩ C hC
      have hij : i + j < gs.length := hl ▸ Nat.add_lt_add hi hj
      have hy := dg_getD dgq j
      refine ⟨_, _, rfl, ?_⟩
      dsimp only [zaa, zab, zac, zad, zae, zaf, zag, zah, zai, zaj, zak, zal, zam, zan, zao, zap, zaq, zar, zas, zat, zau, zav, zaw, zax, zay, zaz, zba, zbb, zbc, zbd, zbe, zbf, zbg, zbh, zbi, zbk, zbl, zbm, zbn, zbo, zbp, zbq, zbr, zbs, zbt, zbu, zbv, zbw, zbx, zby, zbz, zca, zcb, zcc, zcd, zce, zcf, zcg, zch, zci, zcl, zcm, zcn, zco, zcp, zcq, zcr, zcs, zct, zcu, zcv, zcw, zcx, zcy, zcz, zda, zdb, zdc, zdd, zde, zdf, zdg, zdh, zdi, zdj, zdk, zdl, zdm, zdn, zdo, zdp, zdq, zdr, zds, zdt, zdu, zdv, zdw, zdx, zdy, zdz, zea, zeb, zec, zed, zee, zef, zeg, zeh, zei, zej, zek, zel, zem, zen, zeo, zep, zeq, zer, zes, zet, zeu, zev, zew, zex, zey, zez, zfa, zfb, zfc, zfd, zfe, zff, zfg, zfh, zfi, zfj, zfk, zfl, zfm, zfn, zfo, zfp, zfq, zfr, zfs, zft, zfu, zfv, zfw, zfx, zfy, zfz, zga, zgb, zgc, zgd, zge, zgf, zgg, zgh, zgi, zgj, zgk, zgl, zgm, zgn, zgo, zgp, zgq, zgr, zgs, zgt, zgu, zgv, zgw, zgx, zgy, zgz, zha, zhb, zhc, zhd, zhe, zhf, zhg, zhh, zhi, zhx, zhy, zhz, zia]
      refine ixn hij (hl ▸ hl22) (nl_getD gs _ hij) ?_
      dsimp only [zaa, zab, zac, zad, zae, zaf, zag, zah, zai, zaj, zak, zal, zam, zan, zao, zap, zaq, zar, zas, zat, zau, zav, zaw, zax, zay, zaz, zba, zbb, zbc, zbd, zbe, zbf, zbg, zbh, zbi, zbk, zbl, zbm, zbn, zbo, zbp, zbq, zbr, zbs, zbt, zbu, zbv, zbw, zbx, zby, zbz, zca, zcb, zcc, zcd, zce, zcf, zcg, zch, zci, zcl, zcm, zcn, zco, zcp, zcq, zcr, zcs, zct, zcu, zcv, zcw, zcx, zcy, zcz, zda, zdb, zdc, zdd, zde, zdf, zdg, zdh, zdi, zdj, zdk, zdl, zdm, zdn, zdo, zdp, zdq, zdr, zds, zdt, zdu, zdv, zdw, zdx, zdy, zdz, zea, zeb, zec, zed, zee, zef, zeg, zeh, zei, zej, zek, zel, zem, zen, zeo, zep, zeq, zer, zes, zet, zeu, zev, zew, zex, zey, zez, zfa, zfb, zfc, zfd, zfe, zff, zfg, zfh, zfi, zfj, zfk, zfl, zfm, zfn, zfo, zfp, zfq, zfr, zfs, zft, zfu, zfv, zfw, zfx, zfy, zfz, zga, zgb, zgc, zgd, zge, zgf, zgg, zgh, zgi, zgj, zgk, zgl, zgm, zgn, zgo, zgp, zgq, zgr, zgs, zgt, zgu, zgv, zgw, zgx, zgy, zgz, zha, zhb, zhc, zhd, zhe, zhf, zhg, zhh, zhi, zhx, zhy, zhz, zia]
      rw [maskN, shr, nl_set]
      refine ⟨smN (sm8 hw8 hx), ⟨Int.natCast_nonneg _, Int.ofNat_lt.mpr (by rw [nl_len]; exact hij), l62 ((nl_len gs).trans hl) hl22⟩, Int.natCast_nonneg _, hC _ ⟨_, _, _, _, rfl, dg_set hd (Nat.mod_lt _ (pw_pos w)) _, by rw [List.length_set, hl], mul_carry hc (dg_getD hd _) hx hy, ?_, ?_⟩⟩
      · rw [getD_set_ne (by omega), hz]
      · rw [← Nat.add_assoc i j 1, mul_sum hij rfl hs, vl_take hj, Nat.mul_add w, Nat.pow_add, Nat.mul_assoc, Nat.add_assoc, ← Nat.mul_add (2 ^ (w * i)), Nat.mul_left_comm (2 ^ (w * j)), ← Nat.mul_add (xs.getD i 0)]
    · rintro ρ ⟨gs, c, v4, v5, rfl, hd, hl, hc, hz, hs⟩
      have hij : i + ys.length < gs.length := hl ▸ Nat.add_lt_add_right hi _
      dsimp only [zaa, zab, zac, zad, zae, zaf, zag, zah, zai, zaj, zak, zal, zam, zan, zao, zap, zaq, zar, zas, zat, zau, zav, zaw, zax, zay, zaz, zba, zbb, zbc, zbd, zbe, zbf, zbg, zbh, zbi, zbk, zbl, zbm, zbn, zbo, zbp, zbq, zbr, zbs, zbt, zbu, zbv, zbw, zbx, zby, zbz, zca, zcb, zcc, zcd, zce, zcf, zcg, zch, zci, zcl, zcm, zcn, zco, zcp, zcq, zcr, zcs, zct, zcu, zcv, zcw, zcx, zcy, zcz, zda, zdb, zdc, zdd, zde, zdf, zdg, zdh, zdi, zdj, zdk, zdl, zdm, zdn, zdo, zdp, zdq, zdr, zds, zdt, zdu, zdv, zdw, zdx, zdy, zdz, zea, zeb, zec, zed, zee, zef, zeg, zeh, zei, zej, zek, zel, zem, zen, zeo, zep, zeq, zer, zes, zet, zeu, zev, zew, zex, zey, zez, zfa, zfb, zfc, zfd, zfe, zff, zfg, zfh, zfi, zfj, zfk, zfl, zfm, zfn, zfo, zfp, zfq, zfr, zfs, zft, zfu, zfv, zfw, zfx, zfy, zfz, zga, zgb, zgc, zgd, zge, zgf, zgg, zgh, zgi, zgj, zgk, zgl, zgm, zgn, zgo, zgp, zgq, zgr, zgs, zgt, zgu, zgv, zgw, zgx, zgy, zgz, zha, zhb, zhc, zhd, zhe, zhf, zhg, zhh, zhi, zhx, zhy, zhz, zia]
      rw [lq, nl_set]
      refine ⟨rfl, l62 rfl hlq, ⟨Int.natCast_nonneg _, Int.ofNat_lt.mpr (by rw [nl_len]; exact hij), l62 ((nl_len gs).trans hl) hl22⟩, hC _ ⟨_, _, _, _, _, _, rfl, dg_set hd hc _, by rw [List.length_set, hl], ?_⟩⟩
      have e := set_vl w c gs _ hij
      rw [hz, Nat.mul_zero, Nat.add_zero, hs, List.take_length, vq] at e
      rw [e, vl_take hi, Nat.add_mul, Nat.mul_assoc]
      congr 1
  · rintro ρ ⟨fs, v1, v2, v3, v4, v5, rfl, hd, hl, hs⟩
    dsimp only [zaa, zab, zac, zad, zae, zaf, zag, zah, zai, zaj, zak, zal, zam, zan, zao, zap, zaq, zar, zas, zat, zau, zav, zaw, zax, zay, zaz, zba, zbb, zbc, zbd, zbe, zbf, zbg, zbh, zbi, zbk, zbl, zbm, zbn, zbo, zbp, zbq, zbr, zbs, zbt, zbu, zbv, zbw, zbx, zby, zbz, zca, zcb, zcc, zcd, zce, zcf, zcg, zch, zci, zcl, zcm, zcn, zco, zcp, zcq, zcr, zcs, zct, zcu, zcv, zcw, zcx, zcy, zcz, zda, zdb, zdc, zdd, zde, zdf, zdg, zdh, zdi, zdj, zdk, zdl, zdm, zdn, zdo, zdp, zdq, zdr, zds, zdt, zdu, zdv, zdw, zdx, zdy, zdz, zea, zeb, zec, zed, zee, zef, zeg, zeh, zei, zej, zek, zel, zem, zen, zeo, zep, zeq, zer, zes, zet, zeu, zev, zew, zex, zey, zez, zfa, zfb, zfc, zfd, zfe, zff, zfg, zfh, zfi, zfj, zfk, zfl, zfm, zfn, zfo, zfp, zfq, zfr, zfs, zft, zfu, zfv, zfw, zfx, zfy, zfz, zga, zgb, zgc, zgd, zge, zgf, zgg, zgh, zgi, zgj, zgk, zgl, zgm, zgn, zgo, zgp, zgq, zgr, zgs, zgt, zgu, zgv, zgw, zgx, zgy, zgz, zha, zhb, zhc, zhd, zhe, zhf, zhg, zhh, zhi]
    refine ⟨List.cons_ne_nil _ _, _, normal_ok hW (hl ▸ hl20), ?_, .inl ⟨_, rfl, rfl⟩⟩
    rw [norm_dg hw hd, hs, List.take_length, vp]
end Mine

set_option maxHeartbeats 4000000
namespace Mine
open PySem PySem.W PyProof.Rows PySem.Calls PySem.Spec PySem.Challenge
theorem divrem_small_ok {W : Wd} {k : Nat} (hW : Wv W) {w a l : Nat} (hw : w ≠ 0) (hw8 : w ≤ 8) (hla : (lim w a).length < 2 ^ 20) (hl0 : l ≠ 0) (hl : l < 2 ^ w) : CallOk W (k + 3) (Str.ofString "divrem_small") [.val (.list (nl (lim w a))), .val (.list (nl (lim w l))), .val (.int (w : Int))] (.tup [.list (nl (lim w (a / l))), .list (nl (lim w (a % l)))]) [.val (.list (nl (lim w a))), .val (.list (nl (lim w l))), .val (.int (w : Int))] := by
  refine call_fn (d := defAt 30) (as := [Str.ofString "b", Str.ofString "w"]) (p := Str.ofString "a") (ds := [.list (nl (lim w l)), .int (w : Int)]) (n := 60) (fx := []) hW.2 (rec_mem 30 (by decide) hW) fn30 rfl ?_
  have hc := divrem_limb_ok (k := k) hW hw hw8 hla hl0 hl
  have g0 : (nl (lim w l))[0]? = some (.int (l : Int)) := by rw [lim_one hw hl0 hl]; rfl
  have hr : a % l < 2 ^ w := Nat.lt_trans (Nat.mod_lt _ (Nat.pos_of_ne_zero hl0)) hl
  generalize nl (lim w a) = dp at *
  generalize nl (lim w l) = dq at *
  generalize hr' : a % l = r at *
  conv in (co _ _ _) => reduce
  conv in (initR _ _) => reduce
  dsimp only [zaa, zab, zac, zad, zae, zaf, zag, zah, zai, zaj, zak, zal, zam, zan, zao, zap, zaq, zar, zas, zat, zau, zav, zaw, zax, zay, zaz, zba, zbb, zbc, zbd, zbe, zbf, zbg, zbh, zbi, zbk, zbl, zbm, zbn, zbo, zbp, zbq, zbr, zbs, zbt, zbu, zbv, zbw, zbx, zby, zbz, zca, zcb, zcc, zcd, zce, zcf, zcg, zch, zci, zcl, zcm, zcn, zco, zcp, zcq, zcr, zcs, zct, zcu, zcv, zcw, zcx, zcy, zcz, zda, zdb, zdc, zdd, zde, zdf, zdg, zdh, zdi, zdj, zdk, zdl, zdm, zdn, zdo, zdp, zdq, zdr, zds, zdt, zdu, zdv, zdw, zdx, zdy, zdz, zea, zeb, zec, zed, zee, zef, zeg, zeh, zei, zej, zek, zel, zem, zen, zeo, zep, zeq, zer, zes, zet, zeu, zev, zew, zex, zey, zez, zfa, zfb, zfc, zfd, zfe, zff, zfg, zfh, zfi, zfj, zfk, zfl, zfm, zfn, zfo, zfp, zfq, zfr, zfs, zft, zfu, zfv, zfw, zfx, zfy, zfz, zga, zgb, zgc, zgd, zge, zgf, zgg, zgh, zgi, zgj, zgk, zgl, zgm, zgn, zgo, zgp, zgq, zgr, zgs, zgt, zgu, zgv, zgw, zgx, zgy, zgz, zha, zhb, zhc, zhd, zhe, zhf, zhg, zhh, zhi]
  refine ixn (i := 0) (n := 1) (by decide) (by decide) g0 ?_
  dsimp only [zaa, zab, zac, zad, zae, zaf, zag, zah, zai, zaj, zak, zal, zam, zan, zao, zap, zaq, zar, zas, zat, zau, zav, zaw, zax, zay, zaz, zba, zbb, zbc, zbd, zbe, zbf, zbg, zbh, zbi, zbk, zbl, zbm, zbn, zbo, zbp, zbq, zbr, zbs, zbt, zbu, zbv, zbw, zbx, zby, zbz, zca, zcb, zcc, zcd, zce, zcf, zcg, zch, zci, zcl, zcm, zcn, zco, zcp, zcq, zcr, zcs, zct, zcu, zcv, zcw, zcx, zcy, zcz, zda, zdb, zdc, zdd, zde, zdf, zdg, zdh, zdi, zdj, zdk, zdl, zdm, zdn, zdo, zdp, zdq, zdr, zds, zdt, zdu, zdv, zdw, zdx, zdy, zdz, zea, zeb, zec, zed, zee, zef, zeg, zeh, zei, zej, zek, zel, zem, zen, zeo, zep, zeq, zer, zes, zet, zeu, zev, zew, zex, zey, zez, zfa, zfb, zfc, zfd, zfe, zff, zfg, zfh, zfi, zfj, zfk, zfl, zfm, zfn, zfo, zfp, zfq, zfr, zfs, zft, zfu, zfv, zfw, zfx, zfy, zfz, zga, zgb, zgc, zgd, zge, zgf, zgg, zgh, zgi, zgj, zgk, zgl, zgm, zgn, zgo, zgp, zgq, zgr, zgs, zgt, zgu, zgv, zgw, zgx, zgy, zgz, zha, zhb, zhc, zhd, zhe, zhf, zhg, zhh, zhi]
  refine ⟨List.cons_ne_nil _ _, _, hc, ?_⟩
  dsimp only [zaa, zab, zac, zad, zae, zaf, zag, zah, zai, zaj, zak, zal, zam, zan, zao, zap, zaq, zar, zas, zat, zau, zav, zaw, zax, zay, zaz, zba, zbb, zbc, zbd, zbe, zbf, zbg, zbh, zbi, zbk, zbl, zbm, zbn, zbo, zbp, zbq, zbr, zbs, zbt, zbu, zbv, zbw, zbx, zby, zbz, zca, zcb, zcc, zcd, zce, zcf, zcg, zch, zci, zcl, zcm, zcn, zco, zcp, zcq, zcr, zcs, zct, zcu, zcv, zcw, zcx, zcy, zcz, zda, zdb, zdc, zdd, zde, zdf, zdg, zdh, zdi, zdj, zdk, zdl, zdm, zdn, zdo, zdp, zdq, zdr, zds, zdt, zdu, zdv, zdw, zdx, zdy, zdz, zea, zeb, zec, zed, zee, zef, zeg, zeh, zei, zej, zek, zel, zem, zen, zeo, zep, zeq, zer, zes, zet, zeu, zev, zew, zex, zey, zez, zfa, zfb, zfc, zfd, zfe, zff, zfg, zfh, zfi, zfj, zfk, zfl, zfm, zfn, zfo, zfp, zfq, zfr, zfs, zft, zfu, zfv, zfw, zfx, zfy, zfz, zga, zgb, zgc, zgd, zge, zgf, zgg, zgh, zgi, zgj, zgk, zgl, zgm, zgn, zgo, zgp, zgq, zgr, zgs, zgt, zgu, zgv, zgw, zgx, zgy, zgz, zha, zhb, zhc, zhd, zhe, zhf, zhg, zhh, zhi]
  refine ⟨_, rfl, ?_⟩
  dsimp only [zaa, zab, zac, zad, zae, zaf, zag, zah, zai, zaj, zak, zal, zam, zan, zao, zap, zaq, zar, zas, zat, zau, zav, zaw, zax, zay, zaz, zba, zbb, zbc, zbd, zbe, zbf, zbg, zbh, zbi, zbk, zbl, zbm, zbn, zbo, zbp, zbq, zbr, zbs, zbt, zbu, zbv, zbw, zbx, zby, zbz, zca, zcb, zcc, zcd, zce, zcf, zcg, zch, zci, zcl, zcm, zcn, zco, zcp, zcq, zcr, zcs, zct, zcu, zcv, zcw, zcx, zcy, zcz, zda, zdb, zdc, zdd, zde, zdf, zdg, zdh, zdi, zdj, zdk, zdl, zdm, zdn, zdo, zdp, zdq, zdr, zds, zdt, zdu, zdv, zdw, zdx, zdy, zdz, zea, zeb, zec, zed, zee, zef, zeg, zeh, zei, zej, zek, zel, zem, zen, zeo, zep, zeq, zer, zes, zet, zeu, zev, zew, zex, zey, zez, zfa, zfb, zfc, zfd, zfe, zff, zfg, zfh, zfi, zfj, zfk, zfl, zfm, zfn, zfo, zfp, zfq, zfr, zfs, zft, zfu, zfv, zfw, zfx, zfy, zfz, zga, zgb, zgc, zgd, zge, zgf, zgg, zgh, zgi, zgj, zgk, zgl, zgm, zgn, zgo, zgp, zgq, zgr, zgs, zgt, zgu, zgv, zgw, zgx, zgy, zgz, zha, zhb, zhc, zhd, zhe, zhf, zhg, zhh, zhi]
  refine ⟨fun h => ⟨sz1, sz2, ?_, .inl ⟨_, rfl, rfl⟩⟩, fun h => ⟨sz0, sz2, ?_, .inl ⟨_, rfl, rfl⟩⟩⟩
  · rw [lim_one hw (Nat.ne_of_gt (decP h)) hr]; rfl
  · rw [Nat.eq_zero_of_not_pos (decN h)]; rfl
/-- the greatest limb that the two first limbs of the divisor allow -/
noncomputable def gl (B T V : Nat) : Nat := min (T / V) (B - 1)
theorem gl_up {B T V q : Nat} (hV : 0 < V) (hq : gl B T V ≤ q) (h : T < q * V) : gl B T V ≤ q - 1 := by
  have := (Nat.div_lt_iff_lt_mul hV).mpr h
  exact Nat.le_trans (Nat.min_le_left _ _) (Nat.le_sub_one_of_lt this)
theorem gl_eq {B T V q : Nat} (hV : 0 < V) (hq : gl B T V ≤ q) (hB : q ≤ B - 1) (h : q * V ≤ T) : q = gl B T V :=
  Nat.le_antisymm (Nat.le_min.mpr ⟨(Nat.le_div_iff_mul_le hV).mpr h, hB⟩) hq
theorem gl_0 {B h t f s : Nat} (hf : 0 < f) (ht : t < B) : gl B (h * B + t) (f * B + s) ≤ min (h / f) (B - 1) := by
  refine Nat.le_min.mpr ⟨?_, Nat.min_le_right _ _⟩
  refine (Nat.le_div_iff_mul_le hf).mpr (Nat.le_of_lt_succ ?_)
  have h1 : gl B (h * B + t) (f * B + s) * (f * B + s) ≤ h * B + t := Nat.le_trans (Nat.mul_le_mul_right _ (Nat.min_le_left _ _)) (Nat.div_mul_le_self _ _)
  have h2 : gl B (h * B + t) (f * B + s) * f * B ≤ h * B + t := by
    rw [Nat.mul_assoc]; exact Nat.le_trans (Nat.mul_le_mul_left _ (Nat.le_add_right _ _)) h1
  exact Nat.lt_of_mul_lt_mul_right (a := B) (Nat.lt_of_le_of_lt h2 (by rw [Nat.succ_mul]; exact Nat.add_lt_add_left ht _))
theorem min_nat (w h f : Nat) : (if ((1 : Nat) : Int) * 2 ^ w - ((1 : Nat) : Int) < (h : Int) / (f : Int) then ((1 : Nat) : Int) * 2 ^ w - ((1 : Nat) : Int) else (h : Int) / (f : Int)) = ((min (h / f) (2 ^ w - 1) : Nat) : Int) := by
  have e : ((1 : Nat) : Int) * 2 ^ w - ((1 : Nat) : Int) = ((2 ^ w - 1 : Nat) : Int) := by
    rw [Int.ofNat_sub (pw_pos w), Int.natCast_pow]
    show 1 * _ - 1 = _
    rw [Int.one_mul]; rfl
  rw [e, zhz]
  generalize h / f = a
  generalize 2 ^ w - 1 = b
  by_cases c : (b : Int) < (a : Int)
  · rw [if_pos c, Nat.min_eq_right (Nat.le_of_lt (Int.ofNat_lt.mp c))]
  · rw [if_neg c, Nat.min_eq_left (Int.ofNat_le.mp (Int.not_lt.mp c))]
theorem ltB {w r : Nat} : ((r : Int) < ((1 : Nat) : Int) * 2 ^ w) ↔ r < 2 ^ w := by
  rw [show (((1 : Nat) : Int) * 2 ^ w) = ((2 ^ w : Nat) : Int) by rw [Int.natCast_pow]; exact Int.one_mul _]
  exact Int.ofNat_lt
theorem gl_sum {B r q f s h t : Nat} (e : r + q * f = h) : (r * B + t < q * s ↔ h * B + t < q * (f * B + s)) := by
  subst e
  rw [Nat.mul_add, Nat.add_mul, ← Nat.mul_assoc]; omega
theorem guessed_limb_ok {W : Wd} {k : Nat} (hW : Wv W) {w t0 t1 t2 f s : Nat} (hw8 : w ≤ 8) (h2 : t2 < 2 ^ w) (h1 : t1 < 2 ^ w) (h0 : t0 < 2 ^ w) (hf0 : f ≠ 0) (hf : f < 2 ^ w) (hs : s < 2 ^ w) :
    CallOk W (k + 1) (Str.ofString "guessed_limb") [.val (.list (nl [t0, t1, t2])), .val (.int (f : Int)), .val (.int (s : Int)), .val (.int (w : Int))] (.int ((gl (2 ^ w) ((t2 * 2 ^ w + t1) * 2 ^ w + t0) (f * 2 ^ w + s) : Nat) : Int)) [.val (.list (nl [t0, t1, t2])), .val (.int (f : Int)), .val (.int (s : Int)), .val (.int (w : Int))] := by
  refine call_fn (d := defAt 31) (as := [Str.ofString "first", Str.ofString "second", Str.ofString "w"]) (p := Str.ofString "top") (ds := [.int (f : Int), .int (s : Int), .int (w : Int)]) (n := 60) (fx := []) hW.2 (rec_mem 31 (by decide) hW) fn31 rfl ?_
  have g0 : (nl [t0, t1, t2])[0]? = some (.int (t0 : Int)) := rfl
  have g1 : (nl [t0, t1, t2])[1]? = some (.int (t1 : Int)) := rfl
  have g2 : (nl [t0, t1, t2])[2]? = some (.int (t2 : Int)) := rfl
  generalize nl [t0, t1, t2] = dp at *
  conv in (co _ _ _) => reduce
  conv in (initR _ _) => reduce
  dsimp only [zaa, zab, zac, zad, zae, zaf, zag, zah, zai, zaj, zak, zal, zam, zan, zao, zap, zaq, zar, zas, zat, zau, zav, zaw, zax, zay, zaz, zba, zbb, zbc, zbd, zbe, zbf, zbg, zbh, zbi, zbk, zbl, zbm, zbn, zbo, zbp, zbq, zbr, zbs, zbt, zbu, zbv, zbw, zbx, zby, zbz, zca, zcb, zcc, zcd, zce, zcf, zcg, zch, zci, zcl, zcm, zcn, zco, zcp, zcq, zcr, zcs, zct, zcu, zcv, zcw, zcx, zcy, zcz, zda, zdb, zdc, zdd, zde, zdf, zdg, zdh, zdi, zdj, zdk, zdl, zdm, zdn, zdo, zdp, zdq, zdr, zds, zdt, zdu, zdv, zdw, zdx, zdy, zdz, zea, zeb, zec, zed, zee, zef, zeg, zeh, zei, zej, zek, zel, zem, zen, zeo, zep, zeq, zer, zes, zet, zeu, zev, zew, zex, zey, zez, zfa, zfb, zfc, zfd, zfe, zff, zfg, zfh, zfi, zfj, zfk, zfl, zfm, zfn, zfo, zfp, zfq, zfr, zfs, zft, zfu, zfv, zfw, zfx, zfy, zfz, zga, zgb, zgc, zgd, zge, zgf, zgg, zgh, zgi, zgj, zgk, zgl, zgm, zgn, zgo, zgp, zgq, zgr, zgs, zgt, zgu, zgv, zgw, zgx, zgy, zgz, zha, zhb, zhc, zhd, zhe, zhf, zhg, zhh, zhi]
  refine ixn (i := 2) (n := 3) (by decide) (by decide) g2 ?_
  dsimp only [zaa, zab, zac, zad, zae, zaf, zag, zah, zai, zaj, zak, zal, zam, zan, zao, zap, zaq, zar, zas, zat, zau, zav, zaw, zax, zay, zaz, zba, zbb, zbc, zbd, zbe, zbf, zbg, zbh, zbi, zbk, zbl, zbm, zbn, zbo, zbp, zbq, zbr, zbs, zbt, zbu, zbv, zbw, zbx, zby, zbz, zca, zcb, zcc, zcd, zce, zcf, zcg, zch, zci, zcl, zcm, zcn, zco, zcp, zcq, zcr, zcs, zct, zcu, zcv, zcw, zcx, zcy, zcz, zda, zdb, zdc, zdd, zde, zdf, zdg, zdh, zdi, zdj, zdk, zdl, zdm, zdn, zdo, zdp, zdq, zdr, zds, zdt, zdu, zdv, zdw, zdx, zdy, zdz, zea, zeb, zec, zed, zee, zef, zeg, zeh, zei, zej, zek, zel, zem, zen, zeo, zep, zeq, zer, zes, zet, zeu, zev, zew, zex, zey, zez, zfa, zfb, zfc, zfd, zfe, zff, zfg, zfh, zfi, zfj, zfk, zfl, zfm, zfn, zfo, zfp, zfq, zfr, zfs, zft, zfu, zfv, zfw, zfx, zfy, zfz, zga, zgb, zgc, zgd, zge, zgf, zgg, zgh, zgi, zgj, zgk, zgl, zgm, zgn, zgo, zgp, zgq, zgr, zgs, zgt, zgu, zgv, zgw, zgx, zgy, zgz, zha, zhb, zhc, zhd, zhe, zhf, zhg, zhh, zhi]
  refine ⟨wsh' hw8 (sm8 hw8 h2), ixn (i := 1) (n := 3) (by decide) (by decide) g1 ?_⟩
  dsimp only [zaa, zab, zac, zad, zae, zaf, zag, zah, zai, zaj, zak, zal, zam, zan, zao, zap, zaq, zar, zas, zat, zau, zav, zaw, zax, zay, zaz, zba, zbb, zbc, zbd, zbe, zbf, zbg, zbh, zbi, zbk, zbl, zbm, zbn, zbo, zbp, zbq, zbr, zbs, zbt, zbu, zbv, zbw, zbx, zby, zbz, zca, zcb, zcc, zcd, zce, zcf, zcg, zch, zci, zcl, zcm, zcn, zco, zcp, zcq, zcr, zcs, zct, zcu, zcv, zcw, zcx, zcy, zcz, zda, zdb, zdc, zdd, zde, zdf, zdg, zdh, zdi, zdj, zdk, zdl, zdm, zdn, zdo, zdp, zdq, zdr, zds, zdt, zdu, zdv, zdw, zdx, zdy, zdz, zea, zeb, zec, zed, zee, zef, zeg, zeh, zei, zej, zek, zel, zem, zen, zeo, zep, zeq, zer, zes, zet, zeu, zev, zew, zex, zey, zez, zfa, zfb, zfc, zfd, zfe, zff, zfg, zfh, zfi, zfj, zfk, zfl, zfm, zfn, zfo, zfp, zfq, zfr, zfs, zft, zfu, zfv, zfw, zfx, zfy, zfz, zga, zgb, zgc, zgd, zge, zgf, zgg, zgh, zgi, zgj, zgk, zgl, zgm, zgn, zgo, zgp, zgq, zgr, zgs, zgt, zgu, zgv, zgw, zgx, zgy, zgz, zha, zhb, zhc, zhd, zhe, zhf, zhg, zhh, zhi]
  rw [bor _ _ _ h1]
  refine ⟨wsh hw8, sz2, _, rfl, ?_⟩
  dsimp only [zaa, zab, zac, zad, zae, zaf, zag, zah, zai, zaj, zak, zal, zam, zan, zao, zap, zaq, zar, zas, zat, zau, zav, zaw, zax, zay, zaz, zba, zbb, zbc, zbd, zbe, zbf, zbg, zbh, zbi, zbk, zbl, zbm, zbn, zbo, zbp, zbq, zbr, zbs, zbt, zbu, zbv, zbw, zbx, zby, zbz, zca, zcb, zcc, zcd, zce, zcf, zcg, zch, zci, zcl, zcm, zcn, zco, zcp, zcq, zcr, zcs, zct, zcu, zcv, zcw, zcx, zcy, zcz, zda, zdb, zdc, zdd, zde, zdf, zdg, zdh, zdi, zdj, zdk, zdl, zdm, zdn, zdo, zdp, zdq, zdr, zds, zdt, zdu, zdv, zdw, zdx, zdy, zdz, zea, zeb, zec, zed, zee, zef, zeg, zeh, zei, zej, zek, zel, zem, zen, zeo, zep, zeq, zer, zes, zet, zeu, zev, zew, zex, zey, zez, zfa, zfb, zfc, zfd, zfe, zff, zfg, zfh, zfi, zfj, zfk, zfl, zfm, zfn, zfo, zfp, zfq, zfr, zfs, zft, zfu, zfv, zfw, zfx, zfy, zfz, zga, zgb, zgc, zgd, zge, zgf, zgg, zgh, zgi, zgj, zgk, zgl, zgm, zgn, zgo, zgp, zgq, zgr, zgs, zgt, zgu, zgv, zgw, zgx, zgy, zgz, zha, zhb, zhc, zhd, zhe, zhf, zhg, zhh, zhi]
  rw [min_nat]
  have hf1 := Nat.pos_of_ne_zero hf0
  have hV : 0 < f * 2 ^ w + s := Nat.lt_of_lt_of_le (Nat.mul_pos hf1 (pw_pos w)) (Nat.le_add_right _ _)
  have hq0 := gl_0 (h := t2 * 2 ^ w + t1) (s := s) hf1 h0
  have hq1 := Nat.min_le_right ((t2 * 2 ^ w + t1) / f) (2 ^ w - 1)
  have hq2 : min ((t2 * 2 ^ w + t1) / f) (2 ^ w - 1) * f ≤ t2 * 2 ^ w + t1 := Nat.le_trans (Nat.mul_le_mul_right _ (Nat.min_le_left _ _)) (Nat.div_mul_le_self _ _)
  generalize min ((t2 * 2 ^ w + t1) / f) (2 ^ w - 1) = q at *
  generalize t2 * 2 ^ w + t1 = h at *
  generalize hG : gl (2 ^ w) (h * 2 ^ w + t0) (f * 2 ^ w + s) = G at *
  have ge : ∀ q : Nat, G ≤ q → q ≤ 2 ^ w - 1 → q * (f * 2 ^ w + s) ≤ h * 2 ^ w + t0 → q = G := fun q a b c => hG ▸ gl_eq hV (hG ▸ a) b c
  have sq : ∀ {q : Nat}, q ≤ 2 ^ w - 1 → smallInt (q : Int) := fun hq => smN (sm8 hw8 (Nat.lt_of_le_of_lt hq (Nat.sub_lt (pw_pos w) Nat.one_pos)))
  refine ⟨divB hf1 (sm8 hw8 hf), rfl, sq hq1, while_inv (fun n ρ => ∃ q r, n = q ∧ ρ = [some (.val (.list dp)), some (.val (.int f)), some (.val (.int s)), some (.val (.int w)), some (.val (.int h)), some (.val (.int ((1 : Nat) * 2 ^ w))), some (.val (.int (q : Nat))), some (.val (.int (r : Nat))), some (.val (.bi (.builtin "min")))] ∧
    G ≤ q ∧ q ≤ 2 ^ w - 1 ∧ r + q * f = h) ?_ ⟨q, h - q * f, rfl, ?_, hq0, hq1, Nat.sub_add_cancel hq2⟩⟩
  · rintro n ρ ⟨q, r, rfl, rfl, hq0, hq1, hr⟩ C hC
    dsimp only [zaa, zab, zac, zad, zae, zaf, zag, zah, zai, zaj, zak, zal, zam, zan, zao, zap, zaq, zar, zas, zat, zau, zav, zaw, zax, zay, zaz, zba, zbb, zbc, zbd, zbe, zbf, zbg, zbh, zbi, zbk, zbl, zbm, zbn, zbo, zbp, zbq, zbr, zbs, zbt, zbu, zbv, zbw, zbx, zby, zbz, zca, zcb, zcc, zcd, zce, zcf, zcg, zch, zci, zcl, zcm, zcn, zco, zcp, zcq, zcr, zcs, zct, zcu, zcv, zcw, zcx, zcy, zcz, zda, zdb, zdc, zdd, zde, zdf, zdg, zdh, zdi, zdj, zdk, zdl, zdm, zdn, zdo, zdp, zdq, zdr, zds, zdt, zdu, zdv, zdw, zdx, zdy, zdz, zea, zeb, zec, zed, zee, zef, zeg, zeh, zei, zej, zek, zel, zem, zen, zeo, zep, zeq, zer, zes, zet, zeu, zev, zew, zex, zey, zez, zfa, zfb, zfc, zfd, zfe, zff, zfg, zfh, zfi, zfj, zfk, zfl, zfm, zfn, zfo, zfp, zfq, zfr, zfs, zft, zfu, zfv, zfw, zfx, zfy, zfz, zga, zgb, zgc, zgd, zge, zgf, zgg, zgh, zgi, zgj, zgk, zgl, zgm, zgn, zgo, zgp, zgq, zgr, zgs, zgt, zgu, zgv, zgw, zgx, zgy, zgz, zha, zhb, zhc, zhd, zhe, zhf, zhg, zhh, zhi]
    refine ⟨fun h => ⟨sq hq1, wsh' hw8 (sm8 hw8 (ltB.mp (decT h))), ixn (i := 0) (n := 1) (by decide) (by decide) g0 ?_⟩, fun h => ⟨(fun h => nomatch h), fun _ => ⟨?_, .inl ⟨_, rfl, rfl⟩⟩⟩⟩
    · dsimp only [zaa, zab, zac, zad, zae, zaf, zag, zah, zai, zaj, zak, zal, zam, zan, zao, zap, zaq, zar, zas, zat, zau, zav, zaw, zax, zay, zaz, zba, zbb, zbc, zbd, zbe, zbf, zbg, zbh, zbi, zbk, zbl, zbm, zbn, zbo, zbp, zbq, zbr, zbs, zbt, zbu, zbv, zbw, zbx, zby, zbz, zca, zcb, zcc, zcd, zce, zcf, zcg, zch, zci, zcl, zcm, zcn, zco, zcp, zcq, zcr, zcs, zct, zcu, zcv, zcw, zcx, zcy, zcz, zda, zdb, zdc, zdd, zde, zdf, zdg, zdh, zdi, zdj, zdk, zdl, zdm, zdn, zdo, zdp, zdq, zdr, zds, zdt, zdu, zdv, zdw, zdx, zdy, zdz, zea, zeb, zec, zed, zee, zef, zeg, zeh, zei, zej, zek, zel, zem, zen, zeo, zep, zeq, zer, zes, zet, zeu, zev, zew, zex, zey, zez, zfa, zfb, zfc, zfd, zfe, zff, zfg, zfh, zfi, zfj, zfk, zfl, zfm, zfn, zfo, zfp, zfq, zfr, zfs, zft, zfu, zfv, zfw, zfx, zfy, zfz, zga, zgb, zgc, zgd, zge, zgf, zgg, zgh, zgi, zgj, zgk, zgl, zgm, zgn, zgo, zgp, zgq, zgr, zgs, zgt, zgu, zgv, zgw, zgx, zgy, zgz, zha, zhb, zhc, zhd, zhe, zhf, zhg, zhh, zhi, zhx, zhy, zhz, zia]
      rw [bor _ _ _ h0]
      refine ⟨fun h => ?_, fun h => ⟨?_, .inl ⟨_, rfl, rfl⟩⟩⟩
      · have hh := Int.ofNat_lt.mp (decT h)
        have hq3 : 1 ≤ n := Nat.pos_of_ne_zero fun e => by subst e; rw [Nat.zero_mul] at hh; exact Nat.not_lt_zero _ hh
        have hh := hG ▸ gl_up hV (hG ▸ hq0) ((gl_sum hr).mp hh)
        refine hC (n - 1) _ (Nat.sub_lt hq3 Nat.one_pos) ⟨n - 1, r + f, rfl, ?_, hh, Nat.le_trans (Nat.sub_le ..) hq1, ?_⟩
        · rw [Int.ofNat_sub hq3]
        · rw [← hr, Nat.sub_mul, Nat.one_mul, Nat.add_assoc, Nat.add_sub_cancel' (Nat.le_mul_of_pos_left f hq3)]
      · have hh := Nat.not_lt.mp fun e => decF h (Int.ofNat_lt.mpr e)
        rw [ge n hq0 hq1 (Nat.not_lt.mp fun e => Nat.not_lt.mpr hh ((gl_sum hr).mpr e))]
    · have hh := Nat.not_lt.mp fun e => decF h (ltB.mpr e)
      have h3 : n * s ≤ r * 2 ^ w + t0 := Nat.le_trans (Nat.mul_le_mul (Nat.le_trans hq1 (Nat.le_trans (Nat.sub_le ..) hh)) (Nat.le_of_lt hs)) (Nat.le_add_right _ _)
      rw [ge n hq0 hq1 (Nat.not_lt.mp fun e => Nat.not_lt.mpr h3 ((gl_sum hr).mpr e))]
  · rw [Int.ofNat_sub hq2]; rfl
end Mine

set_option maxHeartbeats 4000000
namespace Mine
open PySem PySem.W PyProof.Rows PySem.Calls PySem.Spec PySem.Challenge
theorem mod_split {P a b c d : Nat} (ha : a < P) (hb : b < P) (h : a + P * c = b + P * d) : a = b ∧ c = d := by
  have hP := Nat.zero_lt_of_lt ha
  have e1 := congrArg (· % P) h
  have e2 := congrArg (· / P) h
  simp only [Nat.add_mul_mod_self_left, Nat.mod_eq_of_lt ha, Nat.mod_eq_of_lt hb] at e1
  simp only [Nat.add_mul_div_left _ _ hP, Nat.div_eq_of_lt ha, Nat.div_eq_of_lt hb, Nat.zero_add] at e2
  exact ⟨e1, e2⟩
theorem vl_inj {w : Nat} : ∀ {xs ys : List Nat}, Dg w xs → Dg w ys → xs.length = ys.length → vl w xs = vl w ys → xs = ys
  | [], [], _, _, _, _ => rfl
  | x :: xs, y :: ys, hx, hy, hl, h => by
    have := mod_split (hx x (.head _)) (hy y (.head _)) h
    rw [this.1, vl_inj (fun z hz => hx z (.tail _ hz)) (fun z hz => hy z (.tail _ hz)) (Nat.succ.inj hl) this.2]
theorem fin_split {w c1 c2 : Nat} {ds ws : List Nat} (hd : Dg w ds) (hw : Dg w ws) (hl : ws.length = ds.length + 1) (h : vl w ws + 2 ^ (w * ds.length) * c1 = vl w ds + 2 ^ (w * ds.length) * c2) :
    ∃ t, ws = ds ++ [t] ∧ t + c1 = c2 ∧ t < 2 ^ w := by
  have hne : ws ≠ [] := fun e => by subst e; exact nomatch hl
  have hx := (List.dropLast_concat_getLast hne).symm
  generalize ws.getLast hne = t at hx
  generalize ws.dropLast = es at hx
  subst hx
  rw [List.length_append] at hl
  have hl : es.length = ds.length := Nat.succ.inj hl
  have he : Dg w es := fun z hz => hw z (List.mem_append_left _ hz)
  rw [vl_snoc, hl, Nat.add_assoc, ← Nat.mul_add] at h
  have := mod_split (hl ▸ vl_lt he) (vl_lt hd) h
  exact ⟨t, by rw [vl_inj he hd hl this.1], this.2, hw t (List.mem_append_right _ (.head _))⟩
theorem win_get (pre ds r : List Nat) (x : Nat) : (nl (pre ++ (ds ++ x :: r)))[pre.length + ds.length]? = some (.int (x : Int)) := by
  unfold nl
  rw [List.getElem?_map, List.getElem?_append_right (Nat.le_add_right _ _), Nat.add_sub_cancel_left, List.getElem?_append_right (Nat.le_refl _), Nat.sub_self]; rfl
theorem win_set (pre ds r : List Nat) (x y : Nat) : (nl (pre ++ (ds ++ x :: r))).set (pre.length + ds.length) (.int (y : Int)) = nl (pre ++ ((ds ++ [y]) ++ r)) := by
  rw [nl_set, List.set_append_right _ _ (Nat.le_add_right _ _), Nat.add_sub_cancel_left, List.set_append_right _ _ (Nat.le_refl _), Nat.sub_self, List.append_assoc]; rfl
theorem win_len (pre ds r : List Nat) (x : Nat) : pre.length + ds.length < (nl (pre ++ (ds ++ x :: r))).length := by
  rw [nl_len, List.length_append, List.length_append]
  exact Nat.add_lt_add_left (Nat.lt_add_of_pos_right (Nat.succ_pos _)) _
theorem ta_dig {w x u : Nat} (hx : x < 2 ^ w) (hu : u < 2 ^ w) :
    ((x : Int) - u < ((0 : Nat) : Int) → ∃ f : Nat, (x : Int) - u + ((2 ^ w : Nat) : Int) = (f : Int) ∧ f < 2 ^ w ∧ f + u = x + 2 ^ w * 1) ∧
    (¬ (x : Int) - u < ((0 : Nat) : Int) → ∃ f : Nat, (x : Int) - u = (f : Int) ∧ f < 2 ^ w ∧ f + u = x + 2 ^ w * 0) := by
  generalize 2 ^ w = B at *
  exact ⟨fun h => ⟨x + B - u, by omega, by omega, by omega⟩, fun h => ⟨x - u, by omega, by omega, by omega⟩⟩
theorem ta_sum {w i q c f br : Nat} {ds ws ys : List Nat} (hl : ds.length = i) (hi : i < ys.length) (hs : vl w ds + q * vl w (ys.take i) = vl w (ws.take i) + 2 ^ (w * i) * c)
    (hf : f + (q * ys.getD i 0 + c) % 2 ^ w = ws.getD i 0 + 2 ^ w * br) : vl w (ds ++ [f]) + q * vl w (ys.take (i + 1)) = vl w (ws.take (i + 1)) + 2 ^ (w * (i + 1)) * ((q * ys.getD i 0 + c) / 2 ^ w + br) := by
  rw [vl_snoc, hl, vl_take', vl_take', Nat.mul_succ, Nat.pow_add]
  have m := Nat.mod_add_div (q * ys.getD i 0 + c) (2 ^ w)
  generalize (q * ys.getD i 0 + c) % 2 ^ w = u at *
  generalize (q * ys.getD i 0 + c) / 2 ^ w = d at *
  generalize 2 ^ w = B at *
  generalize 2 ^ (w * i) = P at *
  generalize ys.getD i 0 = y at *
  generalize ws.getD i 0 = x at *
  have e : P * f + P * (q * y + c) = P * x + P * (B * (d + br)) := by
    rw [← m, ← Nat.mul_add, ← Nat.mul_add, ← Nat.add_assoc, hf, Nat.mul_add B]; congr 1; omega
  rw [Nat.mul_add q, Nat.mul_left_comm q P, Nat.mul_assoc P]
  rw [Nat.mul_add P (q * y)] at e
  omega
theorem baseN (w : Nat) : ((1 : Nat) : Int) * 2 ^ w = ((2 ^ w : Nat) : Int) := by rw [Int.natCast_pow]; exact Int.one_mul _
theorem base30 {w : Nat} (h : w ≤ 8) : (0 : Int) < ((2 ^ w : Nat) : Int) ∧ ((2 ^ w : Nat) : Int) < 2 ^ 30 :=
  ⟨Int.ofNat_lt.mpr (pw_pos w), Int.ofNat_lt.mpr (Nat.lt_of_le_of_lt (Nat.pow_le_pow_right (by decide) h) (by decide : 2 ^ 8 < 2 ^ 30))⟩
theorem ta_end {w x c t br : Nat} (h : t + c = x + 2 ^ w * br) (ht : t < 2 ^ w) (hb : br ≤ 1) :
    ((x : Int) - c < ((0 : Nat) : Int) → br = 1 ∧ (x : Int) - c + ((2 ^ w : Nat) : Int) = (t : Int)) ∧ (¬ (x : Int) - c < ((0 : Nat) : Int) → br = 0 ∧ (x : Int) - c = (t : Int)) := by
  generalize 2 ^ w = B at *
  rcases Nat.le_one_iff_eq_zero_or_eq_one.mp hb with rfl | rfl
  · exact ⟨fun h => absurd h (by omega), fun _ => ⟨rfl, by omega⟩⟩
  · exact ⟨fun _ => ⟨rfl, by omega⟩, fun h => absurd h (by omega)⟩
theorem take_away_ok {W : Wd} {k : Nat} (hW : Wv W) {w q br : Nat} {pre win post ys win' : List Nat} (hw8 : w ≤ 8) (hdw : Dg w win) (hdy : Dg w ys) (hq : q < 2 ^ w) (hdw' : Dg w win') (hlw : win.length = ys.length + 1) (hlw' : win'.length = ys.length + 1)
    (hsz : (pre ++ (win ++ post)).length < 2 ^ 22) (hb : br ≤ 1) (hv : vl w win' + q * vl w ys = vl w win + 2 ^ (w * (ys.length + 1)) * br) :
    CallOk W (k + 1) (Str.ofString "take_away") [.own (nl (pre ++ (win ++ post))), .val (.list (nl ys)), .val (.int (q : Int)), .val (.int (pre.length : Int)), .val (.int (w : Int))] (.int (br : Int))
      [.own (nl (pre ++ (win' ++ post))), .val (.list (nl ys)), .val (.int (q : Int)), .val (.int (pre.length : Int)), .val (.int (w : Int))] := by
  refine call_fn (d := defAt 32) (as := [Str.ofString "b", Str.ofString "limb", Str.ofString "at", Str.ofString "w"]) (p := Str.ofString "rest") (ds := [.list (nl ys), .int (q : Int), .int (pre.length : Int), .int (w : Int)]) (n := 60) (fx := [Str.ofString "rest"]) hW.2 (rec_mem 32 (by decide) hW) fn32 rfl ?_
  have lq := nl_len ys
  generalize hdq : nl ys = dq at *
  generalize hfs : nl (pre ++ (win ++ post)) = fs at *
  generalize hfs' : nl (pre ++ (win' ++ post)) = fs' at *
  generalize hat : pre.length = at' at *
  conv in (co _ _ _) => reduce
  conv in (initR _ _) => reduce
  dsimp only [zaa, zab, zac, zad, zae, zaf, zag, zah, zai, zaj, zak, zal, zam, zan, zao, zap, zaq, zar, zas, zat, zau, zav, zaw, zax, zay, zaz, zba, zbb, zbc, zbd, zbe, zbf, zbg, zbh, zbi, zbk, zbl, zbm, zbn, zbo, zbp, zbq, zbr, zbs, zbt, zbu, zbv, zbw, zbx, zby, zbz, zca, zcb, zcc, zcd, zce, zcf, zcg, zch, zci, zcl, zcm, zcn, zco, zcp, zcq, zcr, zcs, zct, zcu, zcv, zcw, zcx, zcy, zcz, zda, zdb, zdc, zdd, zde, zdf, zdg, zdh, zdi, zdj, zdk, zdl, zdm, zdn, zdo, zdp, zdq, zdr, zds, zdt, zdu, zdv, zdw, zdx, zdy, zdz, zea, zeb, zec, zed, zee, zef, zeg, zeh, zei, zej, zek, zel, zem, zen, zeo, zep, zeq, zer, zes, zet, zeu, zev, zew, zex, zey, zez, zfa, zfb, zfc, zfd, zfe, zff, zfg, zfh, zfi, zfj, zfk, zfl, zfm, zfn, zfo, zfp, zfq, zfr, zfs, zft, zfu, zfv, zfw, zfx, zfy, zfz, zga, zgb, zgc, zgd, zge, zgf, zgg, zgh, zgi, zgj, zgk, zgl, zgm, zgn, zgo, zgp, zgq, zgr, zgs, zgt, zgu, zgv, zgw, zgx, zgy, zgz, zha, zhb, zhc, zhd, zhe, zhf, zhg, zhh, zhi]
  rw [baseN]
  refine ⟨wsh hw8, sz2, _, rfl, ?_⟩
  dsimp only [zaa, zab, zac, zad, zae, zaf, zag, zah, zai, zaj, zak, zal, zam, zan, zao, zap, zaq, zar, zas, zat, zau, zav, zaw, zax, zay, zaz, zba, zbb, zbc, zbd, zbe, zbf, zbg, zbh, zbi, zbk, zbl, zbm, zbn, zbo, zbp, zbq, zbr, zbs, zbt, zbu, zbv, zbw, zbx, zby, zbz, zca, zcb, zcc, zcd, zce, zcf, zcg, zch, zci, zcl, zcm, zcn, zco, zcp, zcq, zcr, zcs, zct, zcu, zcv, zcw, zcx, zcy, zcz, zda, zdb, zdc, zdd, zde, zdf, zdg, zdh, zdi, zdj, zdk, zdl, zdm, zdn, zdo, zdp, zdq, zdr, zds, zdt, zdu, zdv, zdw, zdx, zdy, zdz, zea, zeb, zec, zed, zee, zef, zeg, zeh, zei, zej, zek, zel, zem, zen, zeo, zep, zeq, zer, zes, zet, zeu, zev, zew, zex, zey, zez, zfa, zfb, zfc, zfd, zfe, zff, zfg, zfh, zfi, zfj, zfk, zfl, zfm, zfn, zfo, zfp, zfq, zfr, zfs, zft, zfu, zfv, zfw, zfx, zfy, zfz, zga, zgb, zgc, zgd, zge, zgf, zgg, zgh, zgi, zgj, zgk, zgl, zgm, zgn, zgo, zgp, zgq, zgr, zgs, zgt, zgu, zgv, zgw, zgx, zgy, zgz, zha, zhb, zhc, zhd, zhe, zhf, zhg, zhh, zhi]
  have hlq : ys.length < 2 ^ 22 := by
    rw [List.length_append, List.length_append, hlw] at hsz; omega
  refine .inr ⟨rfl, dq, rfl, sz_le (lq ▸ hlq), rfl, ?_⟩
  refine loop_enum hdq (fun j ρ => ∃ ds c v1 v2 v3, ρ = [some (.own (nl (pre ++ (ds ++ (win.drop j ++ post))))), some (.val (.list dq)), some (.val (.int q)), some (.val (.int at')), some (.val (.int w)), some (.val (.int (c : Nat))), some (.val (.int (2 ^ w : Nat))), v1, v2, v3, some (.val (.bi (.type "enumerate"))), some (.val (.bi (.builtin "len")))] ∧
    Dg w ds ∧ ds.length = j ∧ vl w ds + q * vl w (ys.take j) = vl w (win.take j) + 2 ^ (w * j) * c) ⟨[], 0, none, none, none, by rw [← hfs]; rfl, dg_nil w, rfl, rfl⟩ ?_ ?_
  · rintro j ρ hj ⟨ds, c, v1, v2, v3, rfl, hd, hl, hs⟩ C hC
    have hjw : j < win.length := hlw ▸ Nat.lt_succ_of_lt hj
    rw [drop_cons hjw, List.cons_append]
    refine ⟨_, _, rfl, ?_⟩
    have G := win_get pre ds (win.drop (j + 1) ++ post) (win.getD j 0)
    have L := win_len pre ds (win.drop (j + 1) ++ post) (win.getD j 0)
    have S := fun y => win_set pre ds (win.drop (j + 1) ++ post) (win.getD j 0) y
    have L2 : (nl (pre ++ (ds ++ win.getD j 0 :: (win.drop (j + 1) ++ post)))).length < 2 ^ 22 := by
      rw [nl_len, List.length_append, List.length_append, hl, List.length_cons, List.length_append, List.length_drop]
      rw [List.length_append, List.length_append] at hsz; omega
    rw [hat, hl] at G L S
    generalize hF : nl (pre ++ (ds ++ win.getD j 0 :: (win.drop (j + 1) ++ post))) = F at *
    dsimp only [zaa, zab, zac, zad, zae, zaf, zag, zah, zai, zaj, zak, zal, zam, zan, zao, zap, zaq, zar, zas, zat, zau, zav, zaw, zax, zay, zaz, zba, zbb, zbc, zbd, zbe, zbf, zbg, zbh, zbi, zbk, zbl, zbm, zbn, zbo, zbp, zbq, zbr, zbs, zbt, zbu, zbv, zbw, zbx, zby, zbz, zca, zcb, zcc, zcd, zce, zcf, zcg, zch, zci, zcl, zcm, zcn, zco, zcp, zcq, zcr, zcs, zct, zcu, zcv, zcw, zcx, zcy, zcz, zda, zdb, zdc, zdd, zde, zdf, zdg, zdh, zdi, zdj, zdk, zdl, zdm, zdn, zdo, zdp, zdq, zdr, zds, zdt, zdu, zdv, zdw, zdx, zdy, zdz, zea, zeb, zec, zed, zee, zef, zeg, zeh, zei, zej, zek, zel, zem, zen, zeo, zep, zeq, zer, zes, zet, zeu, zev, zew, zex, zey, zez, zfa, zfb, zfc, zfd, zfe, zff, zfg, zfh, zfi, zfj, zfk, zfl, zfm, zfn, zfo, zfp, zfq, zfr, zfs, zft, zfu, zfv, zfw, zfx, zfy, zfz, zga, zgb, zgc, zgd, zge, zgf, zgg, zgh, zgi, zgj, zgk, zgl, zgm, zgn, zgo, zgp, zgq, zgr, zgs, zgt, zgu, zgv, zgw, zgx, zgy, zgz, zha, zhb, zhc, zhd, zhe, zhf, zhg, zhh, zhi, zhx, zhy, zhz, zia]
    refine ixn L L2 G ?_
    dsimp only [zaa, zab, zac, zad, zae, zaf, zag, zah, zai, zaj, zak, zal, zam, zan, zao, zap, zaq, zar, zas, zat, zau, zav, zaw, zax, zay, zaz, zba, zbb, zbc, zbd, zbe, zbf, zbg, zbh, zbi, zbk, zbl, zbm, zbn, zbo, zbp, zbq, zbr, zbs, zbt, zbu, zbv, zbw, zbx, zby, zbz, zca, zcb, zcc, zcd, zce, zcf, zcg, zch, zci, zcl, zcm, zcn, zco, zcp, zcq, zcr, zcs, zct, zcu, zcv, zcw, zcx, zcy, zcz, zda, zdb, zdc, zdd, zde, zdf, zdg, zdh, zdi, zdj, zdk, zdl, zdm, zdn, zdo, zdp, zdq, zdr, zds, zdt, zdu, zdv, zdw, zdx, zdy, zdz, zea, zeb, zec, zed, zee, zef, zeg, zeh, zei, zej, zek, zel, zem, zen, zeo, zep, zeq, zer, zes, zet, zeu, zev, zew, zex, zey, zez, zfa, zfb, zfc, zfd, zfe, zff, zfg, zfh, zfi, zfj, zfk, zfl, zfm, zfn, zfo, zfp, zfq, zfr, zfs, zft, zfu, zfv, zfw, zfx, zfy, zfz, zga, zgb, zgc, zgd, zge, zgf, zgg, zgh, zgi, zgj, zgk, zgl, zgm, zgn, zgo, zgp, zgq, zgr, zgs, zgt, zgu, zgv, zgw, zgx, zgy, zgz, zha, zhb, zhc, zhd, zhe, zhf, zhg, zhh, zhi, zhx, zhy, zhz, zia]
    have D := ta_dig (dg_getD hdw j) (Nat.mod_lt (q * ys.getD j 0 + c) (pw_pos w))
    have sq := smN (sm8 hw8 hq)
    have hB := base30 hw8
    have fin : ∀ f br, f < 2 ^ w → f + (q * ys.getD j 0 + c) % 2 ^ w = win.getD j 0 + 2 ^ w * br → ∀ z, C [some (.own (F.set (at' + j) (.int (f : Nat)))), some (.val (.list dq)), some (.val (.int q)), some (.val (.int at')), some (.val (.int w)), some (.val (.int (((q * ys.getD j 0 + c) / 2 ^ w + br : Nat) : Int))), some (.val (.int (2 ^ w : Nat))), some (.val (.int j)), some (.val (.int (ys.getD j 0 : Nat))), z, some (.val (.bi (.type "enumerate"))), some (.val (.bi (.builtin "len")))] := fun f br h1 h2 z => by
      rw [S]
      exact hC _ ⟨_, _, _, _, _, rfl, dg_snoc hd h1, snoc_len hl, ta_sum hl hj hs h2⟩
    have il : (0 : Int) ≤ ((at' + j : Nat) : Int) ∧ ((at' + j : Nat) : Int) < (F.length : Int) ∧ F.length < 2 ^ 62 := ⟨Int.natCast_nonneg _, Int.ofNat_lt.mpr L, l62 rfl L2⟩
    refine ⟨sq, hB.1, sq, hB, fun h => ⟨fun h' => ⟨il, ?_⟩, fun h' => absurd (decT h) (decF h')⟩, fun h => ⟨fun h' => absurd (decT h') (decF h), fun h' => ⟨il, ?_⟩⟩⟩
    · obtain ⟨f, e1, e2, e3⟩ := D.1 (decT h)
      rw [e1]; exact fin f 1 e2 e3 _
    · obtain ⟨f, e1, e2, e3⟩ := D.2 (decF h)
      rw [e1]; exact fin f 0 e2 e3 _
  · rintro ρ ⟨ds, c, v1, v2, v3, rfl, hd, hl, hs⟩
    have hjw : ys.length < win.length := hlw ▸ Nat.lt_succ_self _
    have hdr : win.drop ys.length = [win.getD ys.length 0] := by rw [drop_cons hjw, List.drop_eq_nil_of_le (Nat.le_of_eq hlw)]
    have hwt : vl w win = vl w (win.take ys.length) + 2 ^ (w * ys.length) * win.getD ys.length 0 := by
      rw [← vl_take', List.take_of_length_le (Nat.le_of_eq hlw)]
    rw [List.take_length] at hs
    obtain ⟨t, e1, e2, e3⟩ := fin_split (c1 := c) (c2 := win.getD ys.length 0 + 2 ^ w * br) hd hdw' (hlw'.trans (by rw [hl])) (by
      rw [hl, Nat.mul_add]
      rw [hwt, Nat.mul_succ, Nat.pow_add] at hv
      rw [Nat.mul_assoc] at hv
      omega)
    rw [hdr, List.singleton_append]
    have G := win_get pre ds post (win.getD ys.length 0)
    have L := win_len pre ds post (win.getD ys.length 0)
    have S := fun y => win_set pre ds post (win.getD ys.length 0) y
    have L2 : (nl (pre ++ (ds ++ win.getD ys.length 0 :: post))).length < 2 ^ 22 := by
      rw [nl_len, List.length_append, List.length_append, hl, List.length_cons]
      rw [List.length_append, List.length_append, hlw] at hsz; omega
    rw [hat, hl] at G L S
    generalize hF : nl (pre ++ (ds ++ win.getD ys.length 0 :: post)) = F at *
    have il : (0 : Int) ≤ ((at' + ys.length : Nat) : Int) ∧ ((at' + ys.length : Nat) : Int) < (F.length : Int) ∧ F.length < 2 ^ 62 := ⟨Int.natCast_nonneg _, Int.ofNat_lt.mpr L, l62 rfl L2⟩
    dsimp only [zaa, zab, zac, zad, zae, zaf, zag, zah, zai, zaj, zak, zal, zam, zan, zao, zap, zaq, zar, zas, zat, zau, zav, zaw, zax, zay, zaz, zba, zbb, zbc, zbd, zbe, zbf, zbg, zbh, zbi, zbk, zbl, zbm, zbn, zbo, zbp, zbq, zbr, zbs, zbt, zbu, zbv, zbw, zbx, zby, zbz, zca, zcb, zcc, zcd, zce, zcf, zcg, zch, zci, zcl, zcm, zcn, zco, zcp, zcq, zcr, zcs, zct, zcu, zcv, zcw, zcx, zcy, zcz, zda, zdb, zdc, zdd, zde, zdf, zdg, zdh, zdi, zdj, zdk, zdl, zdm, zdn, zdo, zdp, zdq, zdr, zds, zdt, zdu, zdv, zdw, zdx, zdy, zdz, zea, zeb, zec, zed, zee, zef, zeg, zeh, zei, zej, zek, zel, zem, zen, zeo, zep, zeq, zer, zes, zet, zeu, zev, zew, zex, zey, zez, zfa, zfb, zfc, zfd, zfe, zff, zfg, zfh, zfi, zfj, zfk, zfl, zfm, zfn, zfo, zfp, zfq, zfr, zfs, zft, zfu, zfv, zfw, zfx, zfy, zfz, zga, zgb, zgc, zgd, zge, zgf, zgg, zgh, zgi, zgj, zgk, zgl, zgm, zgn, zgo, zgp, zgq, zgr, zgs, zgt, zgu, zgv, zgw, zgx, zgy, zgz, zha, zhb, zhc, zhd, zhe, zhf, zhg, zhh, zhi, zhx, zhy, zhz, zia]
    rw [lq]
    refine ⟨rfl, l62 rfl hlq, ixn L L2 G ?_⟩
    dsimp only [zaa, zab, zac, zad, zae, zaf, zag, zah, zai, zaj, zak, zal, zam, zan, zao, zap, zaq, zar, zas, zat, zau, zav, zaw, zax, zay, zaz, zba, zbb, zbc, zbd, zbe, zbf, zbg, zbh, zbi, zbk, zbl, zbm, zbn, zbo, zbp, zbq, zbr, zbs, zbt, zbu, zbv, zbw, zbx, zby, zbz, zca, zcb, zcc, zcd, zce, zcf, zcg, zch, zci, zcl, zcm, zcn, zco, zcp, zcq, zcr, zcs, zct, zcu, zcv, zcw, zcx, zcy, zcz, zda, zdb, zdc, zdd, zde, zdf, zdg, zdh, zdi, zdj, zdk, zdl, zdm, zdn, zdo, zdp, zdq, zdr, zds, zdt, zdu, zdv, zdw, zdx, zdy, zdz, zea, zeb, zec, zed, zee, zef, zeg, zeh, zei, zej, zek, zel, zem, zen, zeo, zep, zeq, zer, zes, zet, zeu, zev, zew, zex, zey, zez, zfa, zfb, zfc, zfd, zfe, zff, zfg, zfh, zfi, zfj, zfk, zfl, zfm, zfn, zfo, zfp, zfq, zfr, zfs, zft, zfu, zfv, zfw, zfx, zfy, zfz, zga, zgb, zgc, zgd, zge, zgf, zgg, zgh, zgi, zgj, zgk, zgl, zgm, zgn, zgo, zgp, zgq, zgr, zgs, zgt, zgu, zgv, zgw, zgx, zgy, zgz, zha, zhb, zhc, zhd, zhe, zhf, zhg, zhh, zhi, zhx, zhy, zhz, zia]
    rw [lq]
    have E := ta_end e2 e3 hb
    have fin : F.set (at' + ys.length) (.int (t : Nat)) = fs' := by rw [S, ← e1, hfs']
    refine ⟨fun h => ⟨rfl, l62 rfl hlq, il, fun _ => ⟨?_, .inr ⟨fs', 0, rfl, rfl, ?_⟩⟩, fun h' => absurd (decT h) (decF h')⟩, fun h => ⟨rfl, l62 rfl hlq, il, fun h' => absurd (decT h') (decF h), fun _ => ⟨?_, .inr ⟨fs', 0, rfl, rfl, ?_⟩⟩⟩⟩
    · rw [(E.1 (decT h)).1]
    · rw [(E.1 (decT h)).2, fin]; rfl
    · rw [(E.2 (decF h)).1]
    · rw [(E.2 (decF h)).2, fin]; rfl
end Mine

set_option maxHeartbeats 4000000
namespace Mine
open PySem PySem.W PyProof.Rows PySem.Calls PySem.Spec PySem.Challenge
theorem pb_sum {w j c : Nat} {ds ws ys : List Nat} (hl : ds.length = j) (hs : vl w ds + 2 ^ (w * j) * c = vl w (ws.take j) + vl w (ys.take j)) :
    vl w (ds ++ [(c + (ws.getD j 0 + ys.getD j 0)) % 2 ^ w]) + 2 ^ (w * (j + 1)) * ((c + (ws.getD j 0 + ys.getD j 0)) / 2 ^ w) = vl w (ws.take (j + 1)) + vl w (ys.take (j + 1)) := by
  rw [step_sum hl hs, vl_take', vl_take', Nat.mul_add]; exact Nat.add_add_add_comm ..
theorem put_back_ok {W : Wd} {k : Nat} (hW : Wv W) {w c' : Nat} {pre win post ys win' : List Nat} (hw8 : w ≤ 8) (hw : w ≠ 0) (hdw : Dg w win) (hdy : Dg w ys) (hdw' : Dg w win') (hlw : win.length = ys.length + 1) (hlw' : win'.length = ys.length + 1)
    (hsz : (pre ++ (win ++ post)).length < 2 ^ 22) (hv : vl w win' + 2 ^ (w * (ys.length + 1)) * c' = vl w win + vl w ys) :
    CallOk W (k + 1) (Str.ofString "put_back") [.own (nl (pre ++ (win ++ post))), .val (.list (nl ys)), .val (.int (pre.length : Int)), .val (.int (w : Int))] .non
      [.own (nl (pre ++ (win' ++ post))), .val (.list (nl ys)), .val (.int (pre.length : Int)), .val (.int (w : Int))] := by
  refine call_fn' (Q := fun fl => fl = .next) (fun _ h => .inr ⟨h, rfl⟩) (d := defAt 33) (as := [Str.ofString "b", Str.ofString "at", Str.ofString "w"]) (p := Str.ofString "rest") (ds := [.list (nl ys), .int (pre.length : Int), .int (w : Int)]) (n := 60) (fx := [Str.ofString "rest"]) hW.2 (rec_mem 33 (by decide) hW) fn33 rfl ?_
  have lq := nl_len ys
  generalize hdq : nl ys = dq at *
  generalize hfs : nl (pre ++ (win ++ post)) = fs at *
  generalize hfs' : nl (pre ++ (win' ++ post)) = fs' at *
  generalize hat : pre.length = at' at *
  have hlq : ys.length < 2 ^ 22 := by
    rw [List.length_append, List.length_append, hlw] at hsz; omega
  conv in (co _ _ _) => reduce
  conv in (initR _ _) => reduce
  dsimp only [zaa, zab, zac, zad, zae, zaf, zag, zah, zai, zaj, zak, zal, zam, zan, zao, zap, zaq, zar, zas, zat, zau, zav, zaw, zax, zay, zaz, zba, zbb, zbc, zbd, zbe, zbf, zbg, zbh, zbi, zbk, zbl, zbm, zbn, zbo, zbp, zbq, zbr, zbs, zbt, zbu, zbv, zbw, zbx, zby, zbz, zca, zcb, zcc, zcd, zce, zcf, zcg, zch, zci, zcl, zcm, zcn, zco, zcp, zcq, zcr, zcs, zct, zcu, zcv, zcw, zcx, zcy, zcz, zda, zdb, zdc, zdd, zde, zdf, zdg, zdh, zdi, zdj, zdk, zdl, zdm, zdn, zdo, zdp, zdq, zdr, zds, zdt, zdu, zdv, zdw, zdx, zdy, zdz, zea, zeb, zec, zed, zee, zef, zeg, zeh, zei, zej, zek, zel, zem, zen, zeo, zep, zeq, zer, zes, zet, zeu, zev, zew, zex, zey, zez, zfa, zfb, zfc, zfd, zfe, zff, zfg, zfh, zfi, zfj, zfk, zfl, zfm, zfn, zfo, zfp, zfq, zfr, zfs, zft, zfu, zfv, zfw, zfx, zfy, zfz, zga, zgb, zgc, zgd, zge, zgf, zgg, zgh, zgi, zgj, zgk, zgl, zgm, zgn, zgo, zgp, zgq, zgr, zgs, zgt, zgu, zgv, zgw, zgx, zgy, zgz, zha, zhb, zhc, zhd, zhe, zhf, zhg, zhh, zhi]
  refine ⟨wsh hw8, sz2, _, rfl, ?_⟩
  dsimp only [zaa, zab, zac, zad, zae, zaf, zag, zah, zai, zaj, zak, zal, zam, zan, zao, zap, zaq, zar, zas, zat, zau, zav, zaw, zax, zay, zaz, zba, zbb, zbc, zbd, zbe, zbf, zbg, zbh, zbi, zbk, zbl, zbm, zbn, zbo, zbp, zbq, zbr, zbs, zbt, zbu, zbv, zbw, zbx, zby, zbz, zca, zcb, zcc, zcd, zce, zcf, zcg, zch, zci, zcl, zcm, zcn, zco, zcp, zcq, zcr, zcs, zct, zcu, zcv, zcw, zcx, zcy, zcz, zda, zdb, zdc, zdd, zde, zdf, zdg, zdh, zdi, zdj, zdk, zdl, zdm, zdn, zdo, zdp, zdq, zdr, zds, zdt, zdu, zdv, zdw, zdx, zdy, zdz, zea, zeb, zec, zed, zee, zef, zeg, zeh, zei, zej, zek, zel, zem, zen, zeo, zep, zeq, zer, zes, zet, zeu, zev, zew, zex, zey, zez, zfa, zfb, zfc, zfd, zfe, zff, zfg, zfh, zfi, zfj, zfk, zfl, zfm, zfn, zfo, zfp, zfq, zfr, zfs, zft, zfu, zfv, zfw, zfx, zfy, zfz, zga, zgb, zgc, zgd, zge, zgf, zgg, zgh, zgi, zgj, zgk, zgl, zgm, zgn, zgo, zgp, zgq, zgr, zgs, zgt, zgu, zgv, zgw, zgx, zgy, zgz, zha, zhb, zhc, zhd, zhe, zhf, zhg, zhh, zhi]
  refine .inr ⟨rfl, dq, rfl, sz_le (lq ▸ hlq), rfl, ?_⟩
  refine loop_enum hdq (fun j ρ => ∃ ds c v1 v2, ρ = [some (.own (nl (pre ++ (ds ++ (win.drop j ++ post))))), some (.val (.list dq)), some (.val (.int at')), some (.val (.int w)), some (.val (.int (c : Nat))), some (.val (.int ((1 : Nat) * 2 ^ w - (1 : Nat)))), v1, v2, some (.val (.bi (.type "enumerate"))), some (.val (.bi (.builtin "len")))] ∧
    Dg w ds ∧ ds.length = j ∧ c ≤ 1 ∧ vl w ds + 2 ^ (w * j) * c = vl w (win.take j) + vl w (ys.take j)) ⟨[], 0, none, none, by rw [← hfs]; rfl, dg_nil w, rfl, Nat.zero_le 1, rfl⟩ ?_ ?_
  · rintro j ρ hj ⟨ds, c, v1, v2, rfl, hd, hl, hc, hs⟩ C hC
    have hjw : j < win.length := hlw ▸ Nat.lt_succ_of_lt hj
    rw [drop_cons hjw, List.cons_append]
    refine ⟨_, _, rfl, ?_⟩
    have G := win_get pre ds (win.drop (j + 1) ++ post) (win.getD j 0)
    have L := win_len pre ds (win.drop (j + 1) ++ post) (win.getD j 0)
    have S := fun y => win_set pre ds (win.drop (j + 1) ++ post) (win.getD j 0) y
    have L2 : (nl (pre ++ (ds ++ win.getD j 0 :: (win.drop (j + 1) ++ post)))).length < 2 ^ 22 := by
      rw [nl_len, List.length_append, List.length_append, hl, List.length_cons, List.length_append, List.length_drop]
      rw [List.length_append, List.length_append] at hsz; omega
    rw [hat, hl] at G L S
    generalize hF : nl (pre ++ (ds ++ win.getD j 0 :: (win.drop (j + 1) ++ post))) = F at *
    dsimp only [zaa, zab, zac, zad, zae, zaf, zag, zah, zai, zaj, zak, zal, zam, zan, zao, zap, zaq, zar, zas, zat, zau, zav, zaw, zax, zay, zaz, zba, zbb, zbc, zbd, zbe, zbf, zbg, zbh, zbi, zbk, zbl, zbm, zbn, zbo, zbp, zbq, zbr, zbs, zbt, zbu, zbv, zbw, zbx, zby, zbz, zca, zcb, zcc, zcd, zce, zcf, zcg, zch, zci, zcl, zcm, zcn, zco, zcp, zcq, zcr, zcs, zct, zcu, zcv, zcw, zcx, zcy, zcz, zda, zdb, zdc, zdd, zde, zdf, zdg, zdh, zdi, zdj, zdk, zdl, zdm, zdn, zdo, zdp, zdq, zdr, zds, zdt, zdu, zdv, zdw, zdx, zdy, zdz, zea, zeb, zec, zed, zee, zef, zeg, zeh, zei, zej, zek, zel, zem, zen, zeo, zep, zeq, zer, zes, zet, zeu, zev, zew, zex, zey, zez, zfa, zfb, zfc, zfd, zfe, zff, zfg, zfh, zfi, zfj, zfk, zfl, zfm, zfn, zfo, zfp, zfq, zfr, zfs, zft, zfu, zfv, zfw, zfx, zfy, zfz, zga, zgb, zgc, zgd, zge, zgf, zgg, zgh, zgi, zgj, zgk, zgl, zgm, zgn, zgo, zgp, zgq, zgr, zgs, zgt, zgu, zgv, zgw, zgx, zgy, zgz, zha, zhb, zhc, zhd, zhe, zhf, zhg, zhh, zhi, zhx, zhy, zhz, zia]
    refine ixn L L2 G ?_
    dsimp only [zaa, zab, zac, zad, zae, zaf, zag, zah, zai, zaj, zak, zal, zam, zan, zao, zap, zaq, zar, zas, zat, zau, zav, zaw, zax, zay, zaz, zba, zbb, zbc, zbd, zbe, zbf, zbg, zbh, zbi, zbk, zbl, zbm, zbn, zbo, zbp, zbq, zbr, zbs, zbt, zbu, zbv, zbw, zbx, zby, zbz, zca, zcb, zcc, zcd, zce, zcf, zcg, zch, zci, zcl, zcm, zcn, zco, zcp, zcq, zcr, zcs, zct, zcu, zcv, zcw, zcx, zcy, zcz, zda, zdb, zdc, zdd, zde, zdf, zdg, zdh, zdi, zdj, zdk, zdl, zdm, zdn, zdo, zdp, zdq, zdr, zds, zdt, zdu, zdv, zdw, zdx, zdy, zdz, zea, zeb, zec, zed, zee, zef, zeg, zeh, zei, zej, zek, zel, zem, zen, zeo, zep, zeq, zer, zes, zet, zeu, zev, zew, zex, zey, zez, zfa, zfb, zfc, zfd, zfe, zff, zfg, zfh, zfi, zfj, zfk, zfl, zfm, zfn, zfo, zfp, zfq, zfr, zfs, zft, zfu, zfv, zfw, zfx, zfy, zfz, zga, zgb, zgc, zgd, zge, zgf, zgg, zgh, zgi, zgj, zgk, zgl, zgm, zgn, zgo, zgp, zgq, zgr, zgs, zgt, zgu, zgv, zgw, zgx, zgy, zgz, zha, zhb, zhc, zhd, zhe, zhf, zhg, zhh, zhi, zhx, zhy, zhz, zia]
    rw [maskN, shr, S]
    exact ⟨⟨Int.natCast_nonneg _, Int.ofNat_lt.mpr L, l62 rfl L2⟩, Int.natCast_nonneg _, hC _ ⟨_, _, _, _, rfl, dg_step hd _, snoc_len hl, carry1 hc (dg_getD hdw j) (dg_getD hdy j), pb_sum hl hs⟩⟩
  · rintro ρ ⟨ds, c, v1, v2, rfl, hd, hl, hc, hs⟩
    have hjw : ys.length < win.length := hlw ▸ Nat.lt_succ_self _
    have hdr : win.drop ys.length = [win.getD ys.length 0] := by rw [drop_cons hjw, List.drop_eq_nil_of_le (Nat.le_of_eq hlw)]
    have hwt : vl w win = vl w (win.take ys.length) + 2 ^ (w * ys.length) * win.getD ys.length 0 := by
      rw [← vl_take', List.take_of_length_le (Nat.le_of_eq hlw)]
    rw [List.take_length] at hs
    obtain ⟨t, e1, e2, e3⟩ := fin_split (c1 := 2 ^ w * c') (c2 := win.getD ys.length 0 + c) hd hdw' (hlw'.trans (by rw [hl])) (by
      rw [hl, Nat.mul_add]
      rw [hwt, Nat.mul_succ, Nat.pow_add] at hv
      rw [Nat.mul_assoc] at hv
      omega)
    rw [hdr, List.singleton_append]
    have G := win_get pre ds post (win.getD ys.length 0)
    have L := win_len pre ds post (win.getD ys.length 0)
    have S := fun y => win_set pre ds post (win.getD ys.length 0) y
    have L2 : (nl (pre ++ (ds ++ win.getD ys.length 0 :: post))).length < 2 ^ 22 := by
      rw [nl_len, List.length_append, List.length_append, hl, List.length_cons]
      rw [List.length_append, List.length_append, hlw] at hsz; omega
    rw [hat, hl] at G L S
    generalize hF : nl (pre ++ (ds ++ win.getD ys.length 0 :: post)) = F at *
    dsimp only [zaa, zab, zac, zad, zae, zaf, zag, zah, zai, zaj, zak, zal, zam, zan, zao, zap, zaq, zar, zas, zat, zau, zav, zaw, zax, zay, zaz, zba, zbb, zbc, zbd, zbe, zbf, zbg, zbh, zbi, zbk, zbl, zbm, zbn, zbo, zbp, zbq, zbr, zbs, zbt, zbu, zbv, zbw, zbx, zby, zbz, zca, zcb, zcc, zcd, zce, zcf, zcg, zch, zci, zcl, zcm, zcn, zco, zcp, zcq, zcr, zcs, zct, zcu, zcv, zcw, zcx, zcy, zcz, zda, zdb, zdc, zdd, zde, zdf, zdg, zdh, zdi, zdj, zdk, zdl, zdm, zdn, zdo, zdp, zdq, zdr, zds, zdt, zdu, zdv, zdw, zdx, zdy, zdz, zea, zeb, zec, zed, zee, zef, zeg, zeh, zei, zej, zek, zel, zem, zen, zeo, zep, zeq, zer, zes, zet, zeu, zev, zew, zex, zey, zez, zfa, zfb, zfc, zfd, zfe, zff, zfg, zfh, zfi, zfj, zfk, zfl, zfm, zfn, zfo, zfp, zfq, zfr, zfs, zft, zfu, zfv, zfw, zfx, zfy, zfz, zga, zgb, zgc, zgd, zge, zgf, zgg, zgh, zgi, zgj, zgk, zgl, zgm, zgn, zgo, zgp, zgq, zgr, zgs, zgt, zgu, zgv, zgw, zgx, zgy, zgz, zha, zhb, zhc, zhd, zhe, zhf, zhg, zhh, zhi, zhx, zhy, zhz, zia]
    rw [lq]
    refine ⟨rfl, l62 rfl hlq, ixn L L2 G ?_⟩
    dsimp only [zaa, zab, zac, zad, zae, zaf, zag, zah, zai, zaj, zak, zal, zam, zan, zao, zap, zaq, zar, zas, zat, zau, zav, zaw, zax, zay, zaz, zba, zbb, zbc, zbd, zbe, zbf, zbg, zbh, zbi, zbk, zbl, zbm, zbn, zbo, zbp, zbq, zbr, zbs, zbt, zbu, zbv, zbw, zbx, zby, zbz, zca, zcb, zcc, zcd, zce, zcf, zcg, zch, zci, zcl, zcm, zcn, zco, zcp, zcq, zcr, zcs, zct, zcu, zcv, zcw, zcx, zcy, zcz, zda, zdb, zdc, zdd, zde, zdf, zdg, zdh, zdi, zdj, zdk, zdl, zdm, zdn, zdo, zdp, zdq, zdr, zds, zdt, zdu, zdv, zdw, zdx, zdy, zdz, zea, zeb, zec, zed, zee, zef, zeg, zeh, zei, zej, zek, zel, zem, zen, zeo, zep, zeq, zer, zes, zet, zeu, zev, zew, zex, zey, zez, zfa, zfb, zfc, zfd, zfe, zff, zfg, zfh, zfi, zfj, zfk, zfl, zfm, zfn, zfo, zfp, zfq, zfr, zfs, zft, zfu, zfv, zfw, zfx, zfy, zfz, zga, zgb, zgc, zgd, zge, zgf, zgg, zgh, zgi, zgj, zgk, zgl, zgm, zgn, zgo, zgp, zgq, zgr, zgs, zgt, zgu, zgv, zgw, zgx, zgy, zgz, zha, zhb, zhc, zhd, zhe, zhf, zhg, zhh, zhi, zhx, zhy, zhz, zia]
    rw [lq, maskN, S, ← e2, Nat.add_mul_mod_self_left, Nat.mod_eq_of_lt e3, ← e1, hfs']
    exact ⟨rfl, l62 rfl hlq, ⟨Int.natCast_nonneg _, Int.ofNat_lt.mpr L, l62 rfl L2⟩, rfl, .inr ⟨fs', 0, rfl, rfl, rfl⟩⟩
end Mine

set_option maxHeartbeats 4000000
namespace Mine
open PySem PySem.W PyProof.Rows PySem.Calls PySem.Spec PySem.Challenge
noncomputable def dgs (w : Nat) : Nat → Nat → List Nat
  | 0, _ => []
  | n + 1, V => V % 2 ^ w :: dgs w n (V / 2 ^ w)
theorem dgs_len (w : Nat) : ∀ n V, (dgs w n V).length = n
  | 0, _ => rfl
  | n + 1, V => congrArg Nat.succ (dgs_len w n _)
theorem dgs_dg (w : Nat) : ∀ n V, Dg w (dgs w n V)
  | 0, _ => dg_nil w
  | n + 1, V => dg_cons (Nat.mod_lt _ (pw_pos w)) (dgs_dg w n _)
theorem dgs_vl (w : Nat) : ∀ n V, V < 2 ^ (w * n) → vl w (dgs w n V) = V
  | 0, V, h => by rw [Nat.mul_zero, Nat.pow_zero] at h; exact (Nat.lt_one_iff.mp h).symm
  | n + 1, V, h => by
    rw [Nat.mul_succ, Nat.pow_add, Nat.mul_comm] at h
    show V % 2 ^ w + 2 ^ w * vl w (dgs w n (V / 2 ^ w)) = V
    rw [dgs_vl w n _ (Nat.div_lt_of_lt_mul h)]; exact Nat.mod_add_div V _
theorem gl_knuth {B U v D : Nat} (hD : 0 < D) (hV : B ≤ v / D) (hB : 0 < B) (hU : U < B * v) : gl B (U / D) (v / D) = U / v ∨ gl B (U / D) (v / D) = U / v + 1 := by
  have hvD : v / D * D ≤ v := Nat.div_mul_le_self _ _
  have hv : 0 < v := Nat.lt_of_lt_of_le (Nat.mul_pos (Nat.lt_of_lt_of_le hB hV) hD) hvD
  have hV0 : 0 < v / D := Nat.lt_of_lt_of_le hB hV
  have h1 : U / v ≤ gl B (U / D) (v / D) := by
    refine Nat.le_min.mpr ⟨(Nat.le_div_iff_mul_le hV0).mpr ((Nat.le_div_iff_mul_le hD).mpr ?_), Nat.le_sub_one_of_lt ((Nat.div_lt_iff_lt_mul hv).mpr hU)⟩
    rw [Nat.mul_assoc]
    exact Nat.le_trans (Nat.mul_le_mul_left _ hvD) (Nat.div_mul_le_self _ _)
  have h2 : gl B (U / D) (v / D) ≤ U / v + 1 := by
    refine Nat.le_of_not_lt fun h => ?_
    have a1 : gl B (U / D) (v / D) * (v / D) ≤ U / D := Nat.le_trans (Nat.mul_le_mul_right _ (Nat.min_le_left _ _)) (Nat.div_mul_le_self _ _)
    have a2 : (U / v + 1 + 1) * (v / D) * D ≤ U := Nat.le_trans (Nat.mul_le_mul_right _ (Nat.le_trans (Nat.mul_le_mul_right _ h) a1)) (Nat.div_mul_le_self _ _)
    have a3 : U < (U / v + 1) * v := by rw [Nat.mul_comm]; exact Nat.lt_mul_div_succ U hv
    have a4 : v ≤ (v / D + 1) * D := by rw [Nat.mul_comm]; exact Nat.le_of_lt (Nat.lt_mul_div_succ v hD)
    have a5 : (U / v + 1 + 1) * (v / D) * D < (U / v + 1) * (v / D + 1) * D := Nat.lt_of_le_of_lt a2 (Nat.lt_of_lt_of_le a3 (by rw [Nat.mul_assoc]; exact Nat.mul_le_mul_left _ a4))
    have a6 := Nat.lt_of_mul_lt_mul_right a5
    have a7 : U / v < B := (Nat.div_lt_iff_lt_mul hv).mpr hU
    rw [Nat.add_mul (U / v + 1) 1, Nat.mul_add (U / v + 1)] at a6
    omega
  omega
theorem sl_mid (A B C : List Nat) {i j : Int} (hi : i = (A.length : Int)) (hj : j = ((A.length + B.length : Nat) : Int)) : sliceL (nl (A ++ (B ++ C))) (some i) (some j) = nl B := by
  subst hi hj
  show List.take (min (A.length + B.length) (nl (A ++ (B ++ C))).length - min A.length (nl (A ++ (B ++ C))).length) (List.drop (min A.length (nl (A ++ (B ++ C))).length) _) = _
  rw [nl_len, List.length_append, List.length_append, Nat.min_eq_left (Nat.le_add_right _ _), Nat.min_eq_left (Nat.add_le_add_left (Nat.le_add_right _ _) _), Nat.add_sub_cancel_left]
  unfold nl
  rw [← List.map_drop, ← List.map_take, List.drop_left, List.take_left]
theorem split2 {l : Nat} {xs : List Nat} (h : xs.length = l + 2) : ∃ ws a b, xs = ws ++ [a, b] ∧ ws.length = l := by
  refine ⟨xs.take l, xs.getD l 0, xs.getD (l + 1) 0, ?_, by rw [List.length_take, h]; omega⟩
  have e := (List.take_append_drop l xs).symm
  rwa [drop_cons (by omega), drop_cons (by omega), List.drop_eq_nil_of_le (Nat.le_of_eq h)] at e
theorem split3 {l : Nat} {xs : List Nat} (h : xs.length = l + 3) : ∃ ws a b c, xs = ws ++ [a, b, c] ∧ ws.length = l := by
  refine ⟨xs.take l, xs.getD l 0, xs.getD (l + 1) 0, xs.getD (l + 2) 0, ?_, by rw [List.length_take, h]; omega⟩
  have e := (List.take_append_drop l xs).symm
  rwa [drop_cons (by omega), drop_cons (by omega), drop_cons (by omega), List.drop_eq_nil_of_le (Nat.le_of_eq h)] at e

theorem kn_dm {x B V v r : Nat} (hv : 0 < v) (h : V % v = r) : (x + B * V) % v = (x + B * r) % v ∧ (x + B * V) / v = (x + B * r) / v + B * (V / v) := by
  have e : x + B * V = x + B * r + v * (B * (V / v)) := by
    rw [Nat.mul_left_comm v, Nat.add_assoc, ← Nat.mul_add, ← h, Nat.mod_add_div]
  rw [e, Nat.add_mul_mod_self_left, Nat.add_mul_div_left _ _ hv]
  exact ⟨rfl, rfl⟩
theorem divide_rows_ok {W : Wd} {k : Nat} (hW : Wv W) {w n l v : Nat} {fs ys : List Nat} (hw8 : w ≤ 8) (hw : w ≠ 0) (hdf : Dg w fs) (hdy : Dg w ys) (hly : ys.length = l + 2) (hlf : fs.length = n + ys.length) (hsz : fs.length < 2 ^ 20)
    (hv : vl w ys = v) (hv1 : 2 ^ (w * (l + 1)) ≤ v) (h0 : vl w (fs.drop n) < v) :
    CallOk W (k + 2) (Str.ofString "divide_rows") [.own (nl fs), .val (.list (nl ys)), .val (.int (w : Int))] (.list (nl (dgs w n (vl w fs / v))))
      [.own (nl (dgs w (l + 2) (vl w fs % v) ++ List.replicate n 0)), .val (.list (nl ys)), .val (.int (w : Int))] := by
  refine call_fn (d := defAt 34) (as := [Str.ofString "b", Str.ofString "w"]) (p := Str.ofString "rest") (ds := [.list (nl ys), .int (w : Int)]) (n := 60) (fx := [Str.ofString "rest"]) hW.2 (rec_mem 34 (by decide) hW) fn34 rfl ?_
  have lq := nl_len ys
  have lf := nl_len fs
  have gq := nl_getD ys
  have hlq : ys.length < 2 ^ 22 := by omega
  have hlf22 : fs.length < 2 ^ 22 := Nat.lt_trans hsz (by decide)
  generalize hdq : nl ys = dq at *
  generalize hfs : nl fs = df at *
  generalize hR : nl (dgs w n (vl w fs / v)) = R
  generalize hR' : nl (dgs w (l + 2) (vl w fs % v) ++ List.replicate n 0) = R'
  conv in (co _ _ _) => reduce
  conv in (initR _ _) => reduce
  dsimp only [zaa, zab, zac, zad, zae, zaf, zag, zah, zai, zaj, zak, zal, zam, zan, zao, zap, zaq, zar, zas, zat, zau, zav, zaw, zax, zay, zaz, zba, zbb, zbc, zbd, zbe, zbf, zbg, zbh, zbi, zbk, zbl, zbm, zbn, zbo, zbp, zbq, zbr, zbs, zbt, zbu, zbv, zbw, zbx, zby, zbz, zca, zcb, zcc, zcd, zce, zcf, zcg, zch, zci, zcl, zcm, zcn, zco, zcp, zcq, zcr, zcs, zct, zcu, zcv, zcw, zcx, zcy, zcz, zda, zdb, zdc, zdd, zde, zdf, zdg, zdh, zdi, zdj, zdk, zdl, zdm, zdn, zdo, zdp, zdq, zdr, zds, zdt, zdu, zdv, zdw, zdx, zdy, zdz, zea, zeb, zec, zed, zee, zef, zeg, zeh, zei, zej, zek, zel, zem, zen, zeo, zep, zeq, zer, zes, zet, zeu, zev, zew, zex, zey, zez, zfa, zfb, zfc, zfd, zfe, zff, zfg, zfh, zfi, zfj, zfk, zfl, zfm, zfn, zfo, zfp, zfq, zfr, zfs, zft, zfu, zfv, zfw, zfx, zfy, zfz, zga, zgb, zgc, zgd, zge, zgf, zgg, zgh, zgi, zgj, zgk, zgl, zgm, zgn, zgo, zgp, zgq, zgr, zgs, zgt, zgu, zgv, zgw, zgx, zgy, zgz, zha, zhb, zhc, zhd, zhe, zhf, zhg, zhh, zhi]
  rw [lf, lq, show (fs.length : Int) - (ys.length : Int) = (n : Int) by rw [hlf]; omega]
  rw [show ((n : Int)).toNat = n from rfl, rep_nl]
  have hn : n < 2 ^ 20 := by omega
  have hn22 : n < 2 ^ 22 := Nat.lt_trans hn (by decide)
  refine ⟨rfl, l62 rfl hlq, sz1, rfl, l62 rfl hlf22, repN hn22, rfl, l62 rfl hlf22, .inl ⟨rfl, ⟨rfl, (big_le (by omega)).1, (big_le (by omega)).2, big_le (by omega)⟩, Nat.le_refl 1, ?_⟩⟩
  have h1v : 2 ^ w ≤ v / 2 ^ (w * l) := by
    refine (Nat.le_div_iff_mul_le (pw_pos _)).mpr ?_
    rwa [← Nat.pow_add, Nat.add_comm, ← Nat.mul_succ]
  have hv0 : 0 < v := Nat.lt_of_lt_of_le (pw_pos _) hv1
  have hvP : v < 2 ^ (w * (l + 2)) := by rw [← hly, ← hv]; exact vl_lt hdy
  obtain ⟨yl, b0, b1, hys, hyl⟩ := split2 hly
  have hV2 : b1 * 2 ^ w + b0 = v / 2 ^ (w * l) := by
    rw [← hv, vl_drop ys hdy, hys, ← hyl, List.drop_left]
    show _ = b0 + 2 ^ w * (b1 + 2 ^ w * 0)
    rw [Nat.mul_zero, Nat.add_zero, Nat.mul_comm, Nat.add_comm]
  have hb0 : b0 < 2 ^ w := hdy b0 (by rw [hys]; exact List.mem_append_right _ (.head _))
  have hb1 : b1 < 2 ^ w := hdy b1 (by rw [hys]; exact List.mem_append_right _ (.tail _ (.head _)))
  have hb10 : b1 ≠ 0 := fun e => by rw [← hV2, e, Nat.zero_mul, Nat.zero_add] at h1v; exact Nat.not_lt.mpr h1v hb0
  have gb0 : dq[l]? = some (.int (b0 : Int)) := by rw [← hdq, hys, ← hyl]; unfold nl; rw [List.getElem?_map, List.getElem?_append_right (Nat.le_refl _), Nat.sub_self]; rfl
  have gb1 : dq[l + 1]? = some (.int (b1 : Int)) := by rw [← hdq, hys, ← hyl]; unfold nl; rw [List.getElem?_map, List.getElem?_append_right (Nat.le_add_right yl.length 1), Nat.add_sub_cancel_left]; rfl
  clear hys
  refine loop_down n (fun i ρ => ∃ m qs v1 v2, ρ = [some (.own (nl (fs.take m ++ (dgs w (l + 2) (vl w (fs.drop m) % v) ++ List.replicate i 0)))), some (.val (.list dq)), some (.val (.int w)), some (.val (.int ys.length)), some (.own (nl (List.replicate m 0 ++ qs))), v1, v2, some (.val (.bi (.builtin "len"))), some (.val (.bi (.type "range"))), some (.val (.fn (Str.ofString "guessed_limb"))), some (.val (.fn (Str.ofString "take_away"))), some (.val (.fn (Str.ofString "put_back")))] ∧
    m + i = n ∧ qs.length = i ∧ Dg w qs ∧ vl w qs = vl w (fs.drop m) / v) (by omega) ⟨n, [], none, none, ?_, rfl, rfl, dg_nil w, (Nat.div_eq_of_lt h0).symm⟩ ?_ ?_
  · have e : dgs w (l + 2) (vl w (fs.drop n) % v) = fs.drop n := by
      rw [Nat.mod_eq_of_lt h0]
      exact vl_inj (dgs_dg _ _ _) (fun z hz => hdf z (List.mem_of_mem_drop hz)) (by rw [dgs_len, List.length_drop, hlf, hly, Nat.add_sub_cancel_left]) (dgs_vl _ _ _ (Nat.lt_trans h0 hvP))
    rw [e, List.append_nil, List.replicate_zero, List.append_nil, List.take_append_drop, ← hfs]; rfl
  · rintro i ρ hi ⟨m, qs, v1, v2, rfl, hm, hq, hd, hs⟩ C hC
    obtain ⟨m, rfl⟩ : ∃ m', m = m' + 1 := ⟨m - 1, by omega⟩
    have hmf : m < fs.length := by omega
    have hdr := vl_drop1 w fs m
    have hx : fs.getD m 0 < 2 ^ w := dg_getD hdf m
    have hpl : (fs.take m).length = m := by rw [List.length_take, Nat.min_eq_left (Nat.le_of_lt hmf)]
    have htk : fs.take (m + 1) = fs.take m ++ [fs.getD m 0] := by rw [take_succ' hmf]; simp [List.getD, hmf]
    rw [htk, List.append_assoc, List.singleton_append]
    generalize fs.getD m 0 = x at *
    generalize vl w (fs.drop (m + 1)) = V at *
    generalize hpre : fs.take m = pre at *
    generalize hRR : V % v = r at *
    have hr : r < v := hRR ▸ Nat.mod_lt _ hv0
    have hU : x + 2 ^ w * r < 2 ^ w * v := by
      have := Nat.mul_le_mul_left (2 ^ w) (Nat.succ_le_of_lt hr)
      rw [Nat.mul_succ] at this; omega
    have hwv : vl w (x :: dgs w (l + 2) r) = x + 2 ^ w * r := congrArg (fun z => x + 2 ^ w * z) (dgs_vl w _ _ (Nat.lt_trans hr hvP))
    have hwd : Dg w (x :: dgs w (l + 2) r) := dg_cons hx (dgs_dg _ _ _)
    have hwl : (x :: dgs w (l + 2) r).length = l + 3 := by rw [List.length_cons, dgs_len]
    rw [← List.cons_append]
    generalize x :: dgs w (l + 2) r = win at *
    obtain ⟨wl, t0, t1, t2, hws, hwll⟩ := split3 hwl
    have hwD := vl_drop win hwd l
    rw [hwv] at hwD
    have hT : (t2 * 2 ^ w + t1) * 2 ^ w + t0 = (x + 2 ^ w * r) / 2 ^ (w * l) := by
      rw [hwD, hws, ← hwll, List.drop_left]
      show _ = t0 + 2 ^ w * (t1 + 2 ^ w * (t2 + 2 ^ w * 0))
      rw [Nat.mul_zero, Nat.add_zero, Nat.mul_comm (2 ^ w) t2, Nat.mul_comm (2 ^ w), Nat.add_comm t0, Nat.add_comm t1]
    have ht0 : t0 < 2 ^ w := hwd t0 (by rw [hws]; exact List.mem_append_right _ (.head _))
    have ht1 : t1 < 2 ^ w := hwd t1 (by rw [hws]; exact List.mem_append_right _ (.tail _ (.head _)))
    have ht2 : t2 < 2 ^ w := hwd t2 (by rw [hws]; exact List.mem_append_right _ (.tail _ (.tail _ (.head _))))
    have hlen : (pre ++ (win ++ List.replicate i 0)).length = fs.length := by
      rw [List.length_append, List.length_append, List.length_replicate, hpl, hwl]; omega
    have hsl : ∀ a b : Int, a = ((m + l : Nat) : Int) → b = ((m + l + 3 : Nat) : Int) → sliceL (nl (pre ++ (win ++ List.replicate i 0))) (some a) (some b) = nl [t0, t1, t2] := fun a b ha hb => by
      rw [hws, List.append_assoc, ← List.append_assoc pre]
      exact sl_mid _ [t0, t1, t2] _ (by rw [ha, List.length_append, hpl, hwll]) (by rw [hb, List.length_append, hpl, hwll]; rfl)
    have hG := guessed_limb_ok (W := W) (k := k) hW hw8 ht2 ht1 ht0 hb10 hb1 hb0
    rw [hT, hV2] at hG
    have hK := gl_knuth (pw_pos (w * l)) h1v (pw_pos w) hU
    have hgl : gl (2 ^ w) ((x + 2 ^ w * r) / 2 ^ (w * l)) (v / 2 ^ (w * l)) < 2 ^ w := Nat.lt_of_le_of_lt (Nat.min_le_right _ _) (Nat.sub_lt (pw_pos w) Nat.one_pos)
    generalize gl (2 ^ w) ((x + 2 ^ w * r) / 2 ^ (w * l)) (v / 2 ^ (w * l)) = g at *
    dsimp only [zaa, zab, zac, zad, zae, zaf, zag, zah, zai, zaj, zak, zal, zam, zan, zao, zap, zaq, zar, zas, zat, zau, zav, zaw, zax, zay, zaz, zba, zbb, zbc, zbd, zbe, zbf, zbg, zbh, zbi, zbk, zbl, zbm, zbn, zbo, zbp, zbq, zbr, zbs, zbt, zbu, zbv, zbw, zbx, zby, zbz, zca, zcb, zcc, zcd, zce, zcf, zcg, zch, zci, zcl, zcm, zcn, zco, zcp, zcq, zcr, zcs, zct, zcu, zcv, zcw, zcx, zcy, zcz, zda, zdb, zdc, zdd, zde, zdf, zdg, zdh, zdi, zdj, zdk, zdl, zdm, zdn, zdo, zdp, zdq, zdr, zds, zdt, zdu, zdv, zdw, zdx, zdy, zdz, zea, zeb, zec, zed, zee, zef, zeg, zeh, zei, zej, zek, zel, zem, zen, zeo, zep, zeq, zer, zes, zet, zeu, zev, zew, zex, zey, zez, zfa, zfb, zfc, zfd, zfe, zff, zfg, zfh, zfi, zfj, zfk, zfl, zfm, zfn, zfo, zfp, zfq, zfr, zfs, zft, zfu, zfv, zfw, zfx, zfy, zfz, zga, zgb, zgc, zgd, zge, zgf, zgg, zgh, zgi, zgj, zgk, zgl, zgm, zgn, zgo, zgp, zgq, zgr, zgs, zgt, zgu, zgv, zgw, zgx, zgy, zgz, zha, zhb, zhc, zhd, zhe, zhf, zhg, zhh, zhi, zhx, zhy, zhz, zia]
    rw [show ((n : Int) - ((1 : Nat) : Int) - (i : Int)) = (m : Int) by omega]
    dsimp only [zaa, zab, zac, zad, zae, zaf, zag, zah, zai, zaj, zak, zal, zam, zan, zao, zap, zaq, zar, zas, zat, zau, zav, zaw, zax, zay, zaz, zba, zbb, zbc, zbd, zbe, zbf, zbg, zbh, zbi, zbk, zbl, zbm, zbn, zbo, zbp, zbq, zbr, zbs, zbt, zbu, zbv, zbw, zbx, zby, zbz, zca, zcb, zcc, zcd, zce, zcf, zcg, zch, zci, zcl, zcm, zcn, zco, zcp, zcq, zcr, zcs, zct, zcu, zcv, zcw, zcx, zcy, zcz, zda, zdb, zdc, zdd, zde, zdf, zdg, zdh, zdi, zdj, zdk, zdl, zdm, zdn, zdo, zdp, zdq, zdr, zds, zdt, zdu, zdv, zdw, zdx, zdy, zdz, zea, zeb, zec, zed, zee, zef, zeg, zeh, zei, zej, zek, zel, zem, zen, zeo, zep, zeq, zer, zes, zet, zeu, zev, zew, zex, zey, zez, zfa, zfb, zfc, zfd, zfe, zff, zfg, zfh, zfi, zfj, zfk, zfl, zfm, zfn, zfo, zfp, zfq, zfr, zfs, zft, zfu, zfv, zfw, zfx, zfy, zfz, zga, zgb, zgc, zgd, zge, zgf, zgg, zgh, zgi, zgj, zgk, zgl, zgm, zgn, zgo, zgp, zgq, zgr, zgs, zgt, zgu, zgv, zgw, zgx, zgy, zgz, zha, zhb, zhc, zhd, zhe, zhf, zhg, zhh, zhi, zhx, zhy, zhz, zia]
    rw [hsl _ _ (by omega) (by omega), show ((ys.length : Int) - ((1 : Nat) : Int)) = ((l + 1 : Nat) : Int) by omega]
    refine ⟨snl_le hlen hlf22, ixn (n := ys.length) (by omega) hlq gb1 ?_⟩
    dsimp only [zaa, zab, zac, zad, zae, zaf, zag, zah, zai, zaj, zak, zal, zam, zan, zao, zap, zaq, zar, zas, zat, zau, zav, zaw, zax, zay, zaz, zba, zbb, zbc, zbd, zbe, zbf, zbg, zbh, zbi, zbk, zbl, zbm, zbn, zbo, zbp, zbq, zbr, zbs, zbt, zbu, zbv, zbw, zbx, zby, zbz, zca, zcb, zcc, zcd, zce, zcf, zcg, zch, zci, zcl, zcm, zcn, zco, zcp, zcq, zcr, zcs, zct, zcu, zcv, zcw, zcx, zcy, zcz, zda, zdb, zdc, zdd, zde, zdf, zdg, zdh, zdi, zdj, zdk, zdl, zdm, zdn, zdo, zdp, zdq, zdr, zds, zdt, zdu, zdv, zdw, zdx, zdy, zdz, zea, zeb, zec, zed, zee, zef, zeg, zeh, zei, zej, zek, zel, zem, zen, zeo, zep, zeq, zer, zes, zet, zeu, zev, zew, zex, zey, zez, zfa, zfb, zfc, zfd, zfe, zff, zfg, zfh, zfi, zfj, zfk, zfl, zfm, zfn, zfo, zfp, zfq, zfr, zfs, zft, zfu, zfv, zfw, zfx, zfy, zfz, zga, zgb, zgc, zgd, zge, zgf, zgg, zgh, zgi, zgj, zgk, zgl, zgm, zgn, zgo, zgp, zgq, zgr, zgs, zgt, zgu, zgv, zgw, zgx, zgy, zgz, zha, zhb, zhc, zhd, zhe, zhf, zhg, zhh, zhi, zhx, zhy, zhz, zia]
    rw [show ((ys.length : Int) - ((2 : Nat) : Int)) = (l : Int) by omega]
    refine ixn (n := ys.length) (by omega) hlq gb0 ?_
    dsimp only [zaa, zab, zac, zad, zae, zaf, zag, zah, zai, zaj, zak, zal, zam, zan, zao, zap, zaq, zar, zas, zat, zau, zav, zaw, zax, zay, zaz, zba, zbb, zbc, zbd, zbe, zbf, zbg, zbh, zbi, zbk, zbl, zbm, zbn, zbo, zbp, zbq, zbr, zbs, zbt, zbu, zbv, zbw, zbx, zby, zbz, zca, zcb, zcc, zcd, zce, zcf, zcg, zch, zci, zcl, zcm, zcn, zco, zcp, zcq, zcr, zcs, zct, zcu, zcv, zcw, zcx, zcy, zcz, zda, zdb, zdc, zdd, zde, zdf, zdg, zdh, zdi, zdj, zdk, zdl, zdm, zdn, zdo, zdp, zdq, zdr, zds, zdt, zdu, zdv, zdw, zdx, zdy, zdz, zea, zeb, zec, zed, zee, zef, zeg, zeh, zei, zej, zek, zel, zem, zen, zeo, zep, zeq, zer, zes, zet, zeu, zev, zew, zex, zey, zez, zfa, zfb, zfc, zfd, zfe, zff, zfg, zfh, zfi, zfj, zfk, zfl, zfm, zfn, zfo, zfp, zfq, zfr, zfs, zft, zfu, zfv, zfw, zfx, zfy, zfz, zga, zgb, zgc, zgd, zge, zgf, zgg, zgh, zgi, zgj, zgk, zgl, zgm, zgn, zgo, zgp, zgq, zgr, zgs, zgt, zgu, zgv, zgw, zgx, zgy, zgz, zha, zhb, zhc, zhd, zhe, zhf, zhg, zhh, zhi, zhx, zhy, zhz, zia]
    refine ⟨List.cons_ne_nil _ _, _, hG, ?_⟩
    clear hG hsl hws hT hwD hb0 hb1 hb10 gb0 gb1 hV2 hwll ht0 ht1 ht2
    have hUr : (x + 2 ^ w * r) % v < 2 ^ (w * (l + 2)) := Nat.lt_trans (Nat.mod_lt _ hv0) hvP
    have DM := kn_dm (x := x) (B := 2 ^ w) hv0 hRR
    rw [← hdr] at DM
    have hUdm := Nat.mod_add_div' (x + 2 ^ w * r) v
    have hUd : (x + 2 ^ w * r) / v < 2 ^ w := (Nat.div_lt_iff_lt_mul hv0).mpr hU
    generalize hU' : x + 2 ^ w * r = U at *
    have hw' : vl w (dgs w (l + 2) (U % v) ++ [0]) = U % v := by rw [vl_snoc, Nat.mul_zero, Nat.add_zero, dgs_vl _ _ _ hUr]
    have hl' : (dgs w (l + 2) (U % v) ++ [0]).length = ys.length + 1 := by rw [List.length_append, dgs_len, hly]; rfl
    have hd' : Dg w (dgs w (l + 2) (U % v) ++ [0]) := dg_snoc (dgs_dg _ _ _) (pw_pos w)
    have hwl' : win.length = ys.length + 1 := by rw [hwl, hly]
    have hsz' : (pre ++ (win ++ List.replicate i 0)).length < 2 ^ 22 := hlen ▸ hlf22
    generalize hQ : kSeq W (k + 1) _ (kC C _) = Q
    have key : Q .next [some (.own (nl (pre ++ ((dgs w (l + 2) (U % v) ++ [0]) ++ List.replicate i 0)))), some (.val (.list dq)), some (.val (.int w)), some (.val (.int ys.length)), some (.own (nl (List.replicate (m + 1) 0 ++ qs))), some (.val (.int m)), some (.val (.int (U / v : Nat))), some (.val (.bi (.builtin "len"))), some (.val (.bi (.type "range"))), some (.val (.fn (Str.ofString "guessed_limb"))), some (.val (.fn (Str.ofString "take_away"))), some (.val (.fn (Str.ofString "put_back")))] := by
      subst hQ
      dsimp only [zaa, zab, zac, zad, zae, zaf, zag, zah, zai, zaj, zak, zal, zam, zan, zao, zap, zaq, zar, zas, zat, zau, zav, zaw, zax, zay, zaz, zba, zbb, zbc, zbd, zbe, zbf, zbg, zbh, zbi, zbk, zbl, zbm, zbn, zbo, zbp, zbq, zbr, zbs, zbt, zbu, zbv, zbw, zbx, zby, zbz, zca, zcb, zcc, zcd, zce, zcf, zcg, zch, zci, zcl, zcm, zcn, zco, zcp, zcq, zcr, zcs, zct, zcu, zcv, zcw, zcx, zcy, zcz, zda, zdb, zdc, zdd, zde, zdf, zdg, zdh, zdi, zdj, zdk, zdl, zdm, zdn, zdo, zdp, zdq, zdr, zds, zdt, zdu, zdv, zdw, zdx, zdy, zdz, zea, zeb, zec, zed, zee, zef, zeg, zeh, zei, zej, zek, zel, zem, zen, zeo, zep, zeq, zer, zes, zet, zeu, zev, zew, zex, zey, zez, zfa, zfb, zfc, zfd, zfe, zff, zfg, zfh, zfi, zfj, zfk, zfl, zfm, zfn, zfo, zfp, zfq, zfr, zfs, zft, zfu, zfv, zfw, zfx, zfy, zfz, zga, zgb, zgc, zgd, zge, zgf, zgg, zgh, zgi, zgj, zgk, zgl, zgm, zgn, zgo, zgp, zgq, zgr, zgs, zgt, zgu, zgv, zgw, zgx, zgy, zgz, zha, zhb, zhc, zhd, zhe, zhf, zhg, zhh, zhi, zhx, zhy, zhz, zia]
      rw [nl_set, set_rep]
      refine ⟨⟨Int.natCast_nonneg _, ?_, ?_⟩, hC _ ⟨m, _ :: qs, _, _, by rw [hpre, DM.1, List.append_assoc (dgs w (l + 2) (U % v)), List.singleton_append, ← List.replicate_succ], by omega, by rw [List.length_cons, hq], dg_cons hUd hd, ?_⟩⟩
      · rw [nl_len, List.length_append, List.length_replicate]; omega
      · rw [nl_len, List.length_append, List.length_replicate]; omega
      · show U / v + 2 ^ w * vl w qs = _
        rw [DM.2, hs]
    rcases hK with e | e
    · rw [← e] at key hUdm
      refine ⟨_, _, hdq ▸ hpl ▸ take_away_ok (br := 0) hW hw8 hwd hdy hgl hd' hwl' hl' hsz' (Nat.zero_le 1) (by rw [hw', hwv, hv, Nat.mul_zero, Nat.add_zero]; exact hUdm), ?_⟩
      dsimp only [zaa, zab, zac, zad, zae, zaf, zag, zah, zai, zaj, zak, zal, zam, zan, zao, zap, zaq, zar, zas, zat, zau, zav, zaw, zax, zay, zaz, zba, zbb, zbc, zbd, zbe, zbf, zbg, zbh, zbi, zbk, zbl, zbm, zbn, zbo, zbp, zbq, zbr, zbs, zbt, zbu, zbv, zbw, zbx, zby, zbz, zca, zcb, zcc, zcd, zce, zcf, zcg, zch, zci, zcl, zcm, zcn, zco, zcp, zcq, zcr, zcs, zct, zcu, zcv, zcw, zcx, zcy, zcz, zda, zdb, zdc, zdd, zde, zdf, zdg, zdh, zdi, zdj, zdk, zdl, zdm, zdn, zdo, zdp, zdq, zdr, zds, zdt, zdu, zdv, zdw, zdx, zdy, zdz, zea, zeb, zec, zed, zee, zef, zeg, zeh, zei, zej, zek, zel, zem, zen, zeo, zep, zeq, zer, zes, zet, zeu, zev, zew, zex, zey, zez, zfa, zfb, zfc, zfd, zfe, zff, zfg, zfh, zfi, zfj, zfk, zfl, zfm, zfn, zfo, zfp, zfq, zfr, zfs, zft, zfu, zfv, zfw, zfx, zfy, zfz, zga, zgb, zgc, zgd, zge, zgf, zgg, zgh, zgi, zgj, zgk, zgl, zgm, zgn, zgo, zgp, zgq, zgr, zgs, zgt, zgu, zgv, zgw, zgx, zgy, zgz, zha, zhb, zhc, zhd, zhe, zhf, zhg, zhh, zhi]
      exact ⟨fun h => absurd (decT h) (by decide), fun _ => key⟩
    · have hP : 2 ^ (w * (l + 2)) ≤ 2 ^ (w * (l + 3)) := Nat.pow_le_pow_right (by decide) (Nat.mul_le_mul_left _ (Nat.le_succ _))
      have hm1 := Nat.mod_lt U hv0
      have hyl3 : ys.length + 1 = l + 3 := by rw [hly]
      have h1 : vl w (dgs w (l + 3) (U % v + 2 ^ (w * (l + 3)) - v)) = U % v + 2 ^ (w * (l + 3)) - v := dgs_vl _ _ _ (by omega)
      have hl1 : (dgs w (l + 3) (U % v + 2 ^ (w * (l + 3)) - v)).length = ys.length + 1 := by rw [dgs_len, hly]
      have hd1 := dgs_dg w (l + 3) (U % v + 2 ^ (w * (l + 3)) - v)
      have hl2 : (pre ++ (dgs w (l + 3) (U % v + 2 ^ (w * (l + 3)) - v) ++ List.replicate i 0)).length < 2 ^ 22 := by
        rw [List.length_append, List.length_append, hl1, ← hwl', ← List.length_append, ← List.length_append]; exact hsz'
      generalize dgs w (l + 3) (U % v + 2 ^ (w * (l + 3)) - v) = win1 at *
      have hvl1 : vl w ys = v := hv
      have q1 : vl w win1 + g * vl w ys = vl w win + 2 ^ (w * (ys.length + 1)) * 1 := by
        rw [h1, hwv, hvl1, hyl3, e, Nat.add_mul, Nat.mul_one, Nat.one_mul]; omega
      have q2 : vl w (dgs w (l + 2) (U % v) ++ [0]) + 2 ^ (w * (ys.length + 1)) * 1 = vl w win1 + vl w ys := by
        rw [h1, hw', hvl1, hyl3, Nat.mul_one]; omega
      refine ⟨_, _, hdq ▸ hpl ▸ take_away_ok (br := 1) (win' := win1) hW hw8 hwd hdy hgl hd1 hwl' hl1 hsz' (Nat.le_refl 1) q1, ?_⟩
      dsimp only [zaa, zab, zac, zad, zae, zaf, zag, zah, zai, zaj, zak, zal, zam, zan, zao, zap, zaq, zar, zas, zat, zau, zav, zaw, zax, zay, zaz, zba, zbb, zbc, zbd, zbe, zbf, zbg, zbh, zbi, zbk, zbl, zbm, zbn, zbo, zbp, zbq, zbr, zbs, zbt, zbu, zbv, zbw, zbx, zby, zbz, zca, zcb, zcc, zcd, zce, zcf, zcg, zch, zci, zcl, zcm, zcn, zco, zcp, zcq, zcr, zcs, zct, zcu, zcv, zcw, zcx, zcy, zcz, zda, zdb, zdc, zdd, zde, zdf, zdg, zdh, zdi, zdj, zdk, zdl, zdm, zdn, zdo, zdp, zdq, zdr, zds, zdt, zdu, zdv, zdw, zdx, zdy, zdz, zea, zeb, zec, zed, zee, zef, zeg, zeh, zei, zej, zek, zel, zem, zen, zeo, zep, zeq, zer, zes, zet, zeu, zev, zew, zex, zey, zez, zfa, zfb, zfc, zfd, zfe, zff, zfg, zfh, zfi, zfj, zfk, zfl, zfm, zfn, zfo, zfp, zfq, zfr, zfs, zft, zfu, zfv, zfw, zfx, zfy, zfz, zga, zgb, zgc, zgd, zge, zgf, zgg, zgh, zgi, zgj, zgk, zgl, zgm, zgn, zgo, zgp, zgq, zgr, zgs, zgt, zgu, zgv, zgw, zgx, zgy, zgz, zha, zhb, zhc, zhd, zhe, zhf, zhg, zhh, zhi]
      refine ⟨fun _ => ?_, fun h => absurd rfl (decF h)⟩
      rw [e, show (((U / v + 1 : Nat) : Int) - ((1 : Nat) : Int)) = ((U / v : Nat) : Int) by omega]
      refine ⟨_, _, hdq ▸ hpl ▸ put_back_ok (c' := 1) (win' := dgs w (l + 2) (U % v) ++ [0]) hW hw8 hw hd1 hdy hd' hl1 hl' hl2 q2, key⟩
  · rintro ρ ⟨m, qs, v1, v2, rfl, hm, hq, hd, hs⟩
    obtain rfl : m = 0 := by omega
    dsimp only [zaa, zab, zac, zad, zae, zaf, zag, zah, zai, zaj, zak, zal, zam, zan, zao, zap, zaq, zar, zas, zat, zau, zav, zaw, zax, zay, zaz, zba, zbb, zbc, zbd, zbe, zbf, zbg, zbh, zbi, zbk, zbl, zbm, zbn, zbo, zbp, zbq, zbr, zbs, zbt, zbu, zbv, zbw, zbx, zby, zbz, zca, zcb, zcc, zcd, zce, zcf, zcg, zch, zci, zcl, zcm, zcn, zco, zcp, zcq, zcr, zcs, zct, zcu, zcv, zcw, zcx, zcy, zcz, zda, zdb, zdc, zdd, zde, zdf, zdg, zdh, zdi, zdj, zdk, zdl, zdm, zdn, zdo, zdp, zdq, zdr, zds, zdt, zdu, zdv, zdw, zdx, zdy, zdz, zea, zeb, zec, zed, zee, zef, zeg, zeh, zei, zej, zek, zel, zem, zen, zeo, zep, zeq, zer, zes, zet, zeu, zev, zew, zex, zey, zez, zfa, zfb, zfc, zfd, zfe, zff, zfg, zfh, zfi, zfj, zfk, zfl, zfm, zfn, zfo, zfp, zfq, zfr, zfs, zft, zfu, zfv, zfw, zfx, zfy, zfz, zga, zgb, zgc, zgd, zge, zgf, zgg, zgh, zgi, zgj, zgk, zgl, zgm, zgn, zgo, zgp, zgq, zgr, zgs, zgt, zgu, zgv, zgw, zgx, zgy, zgz, zha, zhb, zhc, zhd, zhe, zhf, zhg, zhh, zhi]
    refine ⟨?_, .inr ⟨R', 0, rfl, rfl, ?_⟩⟩
    · rw [← hR, List.replicate_zero, List.nil_append]
      rw [List.drop_zero] at hs
      rw [← hs]
      exact congrArg (fun x => Fl.ret (D.list (nl x))) (vl_inj hd (dgs_dg _ _ _) (by rw [dgs_len, hq]) (dgs_vl _ _ _ (by rw [← hq]; exact vl_lt hd)).symm)
    · rw [← hR']; rfl
end Mine

set_option maxHeartbeats 4000000
namespace Mine
open PySem PySem.W PyProof.Rows PySem.Calls PySem.Spec PySem.Challenge
theorem bits_lem {w x : Nat} (h0 : x ≠ 0) (hx : x < 2 ^ w) : ∃ s, s < w ∧ Builtin.Int.intBits (x : Int) = w - s ∧ s ≤ w ∧ (x + 1) * 2 ^ s ≤ 2 ^ w := by
  have e : Builtin.Int.intBits (x : Int) = x.log2 + 1 := by
    unfold Builtin.Int.intBits
    rw [if_neg (by simpa using h0)]; rfl
  have h1 : x.log2 + 1 ≤ w := (Nat.log2_lt h0).mpr hx
  refine ⟨w - (x.log2 + 1), by omega, by omega, Nat.sub_le .., ?_⟩
  have : x + 1 ≤ 2 ^ (x.log2 + 1) := Nat.lt_log2_self
  refine Nat.le_trans (Nat.mul_le_mul_right _ this) ?_
  rw [← Nat.pow_add, Nat.add_sub_cancel' h1]; exact Nat.le_refl _
theorem vl_reps (w : Nat) (xs : List Nat) (n : Nat) : vl w (xs ++ List.replicate n 0) = vl w xs := by
  have : vl w (List.replicate n 0) = 0 := by
    induction n with
    | zero => rfl
    | succ n ih => rw [List.replicate_succ]; show 0 + 2 ^ w * vl w _ = 0; rw [ih]; rfl
  rw [vl_app, this, Nat.mul_zero, Nat.add_zero]
theorem dg_reps {w : Nat} {xs : List Nat} (h : Dg w xs) (n : Nat) : Dg w (xs ++ List.replicate n 0) := dg_app h fun x hx => (List.eq_of_mem_replicate hx) ▸ pw_pos w
theorem nl_app (a b : List Nat) : nl a ++ nl b = nl (a ++ b) := (List.map_append ..).symm
theorem sl_all (ds : List D) : sliceL ds none none = ds := by
  show List.take (ds.length - 0) (List.drop 0 ds) = ds
  rw [Nat.sub_zero, List.drop_zero, List.take_length]
/-- what the long division needs of its two lists -/
theorem ds_lem {w a b l : Nat} (hw : w ≠ 0) (hab : b ≤ a) (hl : (lim w b).length = l + 2) :
    ∃ x s n e, (nl (lim w b))[l + 1]? = some (.int (x : Nat)) ∧ s < w ∧ Builtin.Int.intBits (x : Int) = w - s ∧ (lim w (b * 2 ^ s)).length = l + 2 ∧ (lim w (a * 2 ^ s)).length + e = (lim w a).length + 1 ∧
      (lim w a).length + 1 = n + (l + 2) ∧ 2 ^ (w * (l + 1)) ≤ b * 2 ^ s ∧ b * 2 ^ s < 2 ^ (w * (l + 2)) ∧ vl w ((lim w (a * 2 ^ s) ++ List.replicate e 0).drop n) < b * 2 ^ s ∧ a / b < 2 ^ (w * n) := by
  have hdb := dg_lim hw b
  have hx0 := lim_last hw b
  have hlo := lim_lo hw (n := b) (L := l + 1) (Nat.le_of_eq hl.symm)
  have hb := vl_lim hw b
  have hmo := lim_mono hw hab
  obtain ⟨ws, x, hL⟩ : ∃ ws x, lim w b = ws ++ [x] := by
    have hne : lim w b ≠ [] := fun e => by rw [e] at hl; exact nomatch hl
    exact ⟨_, _, (List.dropLast_concat_getLast hne).symm⟩
  have hwl : ws.length = l + 1 := by rw [hL, List.length_append] at hl; exact Nat.succ.inj hl
  rw [hL] at hdb hx0 hb
  have hx : x < 2 ^ w := hdb x (List.mem_append_right _ (.head _))
  have hx1 : x ≠ 0 := fun e => hx0 (by rw [List.getLast?_append, e]; rfl)
  have hwv := vl_lt (xs := ws) fun z hz => hdb z (List.mem_append_left _ hz)
  rw [vl_snoc, hwl] at hb
  rw [hwl] at hwv
  obtain ⟨s, hs, hbits, -, hle⟩ := bits_lem hx1 hx
  have hbs : b * 2 ^ s < 2 ^ (w * (l + 2)) := by
    have h1 : b < 2 ^ (w * (l + 1)) * (x + 1) := by rw [← hb, Nat.mul_succ, Nat.add_comm]; exact Nat.add_lt_add_left hwv _
    have h2 := Nat.mul_lt_mul_of_pos_right h1 (pw_pos s)
    rw [Nat.mul_assoc] at h2
    refine Nat.lt_of_lt_of_le h2 ?_
    rw [Nat.mul_succ w (l + 1), Nat.pow_add]
    exact Nat.mul_le_mul_left _ hle
  have hbl := Nat.le_antisymm (lim_len hw _ _ hbs) (hl ▸ lim_mono hw (Nat.le_mul_of_pos_right b (pw_pos s)))
  have hal := lim_hi hw a
  generalize (lim w a).length = la at *
  have has : (lim w (a * 2 ^ s)).length ≤ la + 1 := by
    refine lim_len hw _ _ ?_
    rw [Nat.mul_succ, Nat.pow_add]
    exact Nat.mul_lt_mul_of_lt_of_le hal (Nat.pow_le_pow_right (by decide) (Nat.le_of_lt hs)) (pw_pos _)
  rw [hl] at hmo
  obtain ⟨n, rfl⟩ : ∃ n, la = n + (l + 1) := ⟨la - (l + 1), (Nat.sub_add_cancel (Nat.le_of_succ_le hmo)).symm⟩
  obtain ⟨e, he⟩ := Nat.exists_eq_add_of_le has
  have key : a < b * 2 ^ (w * n) := by
    rw [Nat.mul_add, Nat.pow_add, Nat.mul_comm] at hal
    exact Nat.lt_of_lt_of_le hal (Nat.mul_le_mul_right _ hlo)
  refine ⟨x, s, n, e, ?_, hs, hbits, hbl, he.symm, rfl, Nat.le_trans hlo (Nat.le_mul_of_pos_right b (pw_pos s)), hbs, ?_, ?_⟩
  · rw [hL]; unfold nl; rw [List.getElem?_map, ← hwl, List.getElem?_append_right (Nat.le_refl _), Nat.sub_self]; rfl
  · rw [← vl_drop _ (dg_reps (dg_lim hw _) _), vl_reps, vl_lim hw]
    refine (Nat.div_lt_iff_lt_mul (pw_pos _)).mpr ?_
    rw [Nat.mul_right_comm]
    exact Nat.mul_lt_mul_of_pos_right key (pw_pos s)
  · refine (Nat.div_lt_iff_lt_mul (Nat.lt_of_lt_of_le (pw_pos _) hlo)).mpr ?_
    rwa [Nat.mul_comm]

theorem divrem_school_ok {W : Wd} {k : Nat} (hW : Wv W) {w a b : Nat} (hw : w ≠ 0) (hw8 : w ≤ 8) (hla : (lim w a).length < 2 ^ 19) (hlb : (lim w b).length < 2 ^ 19) (hb : b ≠ 0) : CallOk W (k + 4) (Str.ofString "divrem_school") [.val (.list (nl (lim w a))), .val (.list (nl (lim w b))), .val (.int (w : Int))] (.tup [.list (nl (lim w (a / b))), .list (nl (lim w (a % b)))]) [.val (.list (nl (lim w a))), .val (.list (nl (lim w b))), .val (.int (w : Int))] := by
  refine call_fn (d := defAt 35) (as := [Str.ofString "b", Str.ofString "w"]) (p := Str.ofString "a") (ds := [.list (nl (lim w b)), .int (w : Int)]) (n := 60) (fx := []) hW.2 (rec_mem 35 (by decide) hW) fn35 rfl ?_
  have la20 := Nat.lt_trans hla (show 2 ^ 19 < 2 ^ 20 by decide)
  have lb20 := Nat.lt_trans hlb (show 2 ^ 19 < 2 ^ 20 by decide)
  have la22 := Nat.lt_trans la20 (show 2 ^ 20 < 2 ^ 22 by decide)
  have lb22 := Nat.lt_trans lb20 (show 2 ^ 20 < 2 ^ 22 by decide)
  have hcmp := compare_ok (k := k + 2) hW la20 lb20
  have hneg := ordL_neg hw a b
  have lp := nl_len (lim w a)
  have lq := nl_len (lim w b)
  have hb0 : (lim w b).length ≠ 0 := fun e => hb ((lim_nil hw).mp e)
  generalize hdp : nl (lim w a) = dp at *
  generalize hdq : nl (lim w b) = dq at *
  generalize ordL (lim w a) (lim w b) = o at *
  conv in (co _ _ _) => reduce
  conv in (initR _ _) => reduce
  dsimp only [zaa, zab, zac, zad, zae, zaf, zag, zah, zai, zaj, zak, zal, zam, zan, zao, zap, zaq, zar, zas, zat, zau, zav, zaw, zax, zay, zaz, zba, zbb, zbc, zbd, zbe, zbf, zbg, zbh, zbi, zbk, zbl, zbm, zbn, zbo, zbp, zbq, zbr, zbs, zbt, zbu, zbv, zbw, zbx, zby, zbz, zca, zcb, zcc, zcd, zce, zcf, zcg, zch, zci, zcl, zcm, zcn, zco, zcp, zcq, zcr, zcs, zct, zcu, zcv, zcw, zcx, zcy, zcz, zda, zdb, zdc, zdd, zde, zdf, zdg, zdh, zdi, zdj, zdk, zdl, zdm, zdn, zdo, zdp, zdq, zdr, zds, zdt, zdu, zdv, zdw, zdx, zdy, zdz, zea, zeb, zec, zed, zee, zef, zeg, zeh, zei, zej, zek, zel, zem, zen, zeo, zep, zeq, zer, zes, zet, zeu, zev, zew, zex, zey, zez, zfa, zfb, zfc, zfd, zfe, zff, zfg, zfh, zfi, zfj, zfk, zfl, zfm, zfn, zfo, zfp, zfq, zfr, zfs, zft, zfu, zfv, zfw, zfx, zfy, zfz, zga, zgb, zgc, zgd, zge, zgf, zgg, zgh, zgi, zgj, zgk, zgl, zgm, zgn, zgo, zgp, zgq, zgr, zgs, zgt, zgu, zgv, zgw, zgx, zgy, zgz, zha, zhb, zhc, zhd, zhe, zhf, zhg, zhh, zhi, zhx, zhy, zhz, zia]
  refine ⟨rfl, l62 lq lb22, fun h => absurd (lq ▸ Int.ofNat.inj (decT h)) hb0, fun _ => ⟨List.cons_ne_nil _ _, _, hcmp, ?_⟩⟩
  dsimp only [zaa, zab, zac, zad, zae, zaf, zag, zah, zai, zaj, zak, zal, zam, zan, zao, zap, zaq, zar, zas, zat, zau, zav, zaw, zax, zay, zaz, zba, zbb, zbc, zbd, zbe, zbf, zbg, zbh, zbi, zbk, zbl, zbm, zbn, zbo, zbp, zbq, zbr, zbs, zbt, zbu, zbv, zbw, zbx, zby, zbz, zca, zcb, zcc, zcd, zce, zcf, zcg, zch, zci, zcl, zcm, zcn, zco, zcp, zcq, zcr, zcs, zct, zcu, zcv, zcw, zcx, zcy, zcz, zda, zdb, zdc, zdd, zde, zdf, zdg, zdh, zdi, zdj, zdk, zdl, zdm, zdn, zdo, zdp, zdq, zdr, zds, zdt, zdu, zdv, zdw, zdx, zdy, zdz, zea, zeb, zec, zed, zee, zef, zeg, zeh, zei, zej, zek, zel, zem, zen, zeo, zep, zeq, zer, zes, zet, zeu, zev, zew, zex, zey, zez, zfa, zfb, zfc, zfd, zfe, zff, zfg, zfh, zfi, zfj, zfk, zfl, zfm, zfn, zfo, zfp, zfq, zfr, zfs, zft, zfu, zfv, zfw, zfx, zfy, zfz, zga, zgb, zgc, zgd, zge, zgf, zgg, zgh, zgi, zgj, zgk, zgl, zgm, zgn, zgo, zgp, zgq, zgr, zgs, zgt, zgu, zgv, zgw, zgx, zgy, zgz, zha, zhb, zhc, zhd, zhe, zhf, zhg, zhh, zhi, zhx, zhy, zhz, zia]
  refine ⟨fun h => ⟨sz0, sz_le (lp ▸ la22), sz2, ?_, .inl ⟨_, rfl, rfl⟩⟩, fun h => ⟨rfl, l62 lq lb22, fun h1 => ⟨List.cons_ne_nil _ _, _, ?_, rfl, .inl ⟨_, rfl, rfl⟩⟩, fun h1 => ?_⟩⟩
  · have hh := hneg.mp (decT h)
    rw [Nat.div_eq_of_lt hh, Nat.mod_eq_of_lt hh, sl_all, hdp]; rfl
  · have hbw := lim_hi hw b
    rw [← lq, Int.ofNat.inj (decT h1), Nat.mul_one] at hbw
    exact hdp ▸ hdq ▸ divrem_small_ok (k := k) hW hw hw8 la20 hb hbw
  have hab : b ≤ a := Nat.not_lt.mp fun e => decF h (hneg.mpr e)
  obtain ⟨l, hl⟩ : ∃ l, (lim w b).length = l + 2 := by
    have : (lim w b).length ≠ 1 := fun e => decF h1 (by rw [lq, e])
    exact ⟨(lim w b).length - 2, by omega⟩
  obtain ⟨x, s, n, e, hxb, hs, hbits, hl', he, hn, hlo, hhi, h0, hdiv⟩ := ds_lem hw hab hl
  clear h h1 hneg hcmp
  rw [hdq] at hxb
  refine ixm1 (lq.trans hl) hxb ?_
  dsimp only [zaa, zab, zac, zad, zae, zaf, zag, zah, zai, zaj, zak, zal, zam, zan, zao, zap, zaq, zar, zas, zat, zau, zav, zaw, zax, zay, zaz, zba, zbb, zbc, zbd, zbe, zbf, zbg, zbh, zbi, zbk, zbl, zbm, zbn, zbo, zbp, zbq, zbr, zbs, zbt, zbu, zbv, zbw, zbx, zby, zbz, zca, zcb, zcc, zcd, zce, zcf, zcg, zch, zci, zcl, zcm, zcn, zco, zcp, zcq, zcr, zcs, zct, zcu, zcv, zcw, zcx, zcy, zcz, zda, zdb, zdc, zdd, zde, zdf, zdg, zdh, zdi, zdj, zdk, zdl, zdm, zdn, zdo, zdp, zdq, zdr, zds, zdt, zdu, zdv, zdw, zdx, zdy, zdz, zea, zeb, zec, zed, zee, zef, zeg, zeh, zei, zej, zek, zel, zem, zen, zeo, zep, zeq, zer, zes, zet, zeu, zev, zew, zex, zey, zez, zfa, zfb, zfc, zfd, zfe, zff, zfg, zfh, zfi, zfj, zfk, zfl, zfm, zfn, zfo, zfp, zfq, zfr, zfs, zft, zfu, zfv, zfw, zfx, zfy, zfz, zga, zgb, zgc, zgd, zge, zgf, zgg, zgh, zgi, zgj, zgk, zgl, zgm, zgn, zgo, zgp, zgq, zgr, zgs, zgt, zgu, zgv, zgw, zgx, zgy, zgz, zha, zhb, zhc, zhd, zhe, zhf, zhg, zhh, zhi, zhx, zhy, zhz, zia]
  refine ⟨sz1, List.cons_ne_nil _ _, _, bits_ok (x := x) hW, ?_⟩
  rw [hbits]
  dsimp only [zaa, zab, zac, zad, zae, zaf, zag, zah, zai, zaj, zak, zal, zam, zan, zao, zap, zaq, zar, zas, zat, zau, zav, zaw, zax, zay, zaz, zba, zbb, zbc, zbd, zbe, zbf, zbg, zbh, zbi, zbk, zbl, zbm, zbn, zbo, zbp, zbq, zbr, zbs, zbt, zbu, zbv, zbw, zbx, zby, zbz, zca, zcb, zcc, zcd, zce, zcf, zcg, zch, zci, zcl, zcm, zcn, zco, zcp, zcq, zcr, zcs, zct, zcu, zcv, zcw, zcx, zcy, zcz, zda, zdb, zdc, zdd, zde, zdf, zdg, zdh, zdi, zdj, zdk, zdl, zdm, zdn, zdo, zdp, zdq, zdr, zds, zdt, zdu, zdv, zdw, zdx, zdy, zdz, zea, zeb, zec, zed, zee, zef, zeg, zeh, zei, zej, zek, zel, zem, zen, zeo, zep, zeq, zer, zes, zet, zeu, zev, zew, zex, zey, zez, zfa, zfb, zfc, zfd, zfe, zff, zfg, zfh, zfi, zfj, zfk, zfl, zfm, zfn, zfo, zfp, zfq, zfr, zfs, zft, zfu, zfv, zfw, zfx, zfy, zfz, zga, zgb, zgc, zgd, zge, zgf, zgg, zgh, zgi, zgj, zgk, zgl, zgm, zgn, zgo, zgp, zgq, zgr, zgs, zgt, zgu, zgv, zgw, zgx, zgy, zgz, zha, zhb, zhc, zhd, zhe, zhf, zhg, zhh, zhi, zhx, zhy, zhz, zia]
  rw [show ((w : Int) - ((w - s : Nat) : Int)) = (s : Int) by omega]
  refine ⟨List.cons_ne_nil _ _, _, hdq ▸ shift_left_ok hW hw hw8 lb20 hs, ?_⟩
  refine ⟨List.cons_ne_nil _ _, _, hdp ▸ shift_left_ok hW hw hw8 la20 hs, ?_⟩
  dsimp only [zaa, zab, zac, zad, zae, zaf, zag, zah, zai, zaj, zak, zal, zam, zan, zao, zap, zaq, zar, zas, zat, zau, zav, zaw, zax, zay, zaz, zba, zbb, zbc, zbd, zbe, zbf, zbg, zbh, zbi, zbk, zbl, zbm, zbn, zbo, zbp, zbq, zbr, zbs, zbt, zbu, zbv, zbw, zbx, zby, zbz, zca, zcb, zcc, zcd, zce, zcf, zcg, zch, zci, zcl, zcm, zcn, zco, zcp, zcq, zcr, zcs, zct, zcu, zcv, zcw, zcx, zcy, zcz, zda, zdb, zdc, zdd, zde, zdf, zdg, zdh, zdi, zdj, zdk, zdl, zdm, zdn, zdo, zdp, zdq, zdr, zds, zdt, zdu, zdv, zdw, zdx, zdy, zdz, zea, zeb, zec, zed, zee, zef, zeg, zeh, zei, zej, zek, zel, zem, zen, zeo, zep, zeq, zer, zes, zet, zeu, zev, zew, zex, zey, zez, zfa, zfb, zfc, zfd, zfe, zff, zfg, zfh, zfi, zfj, zfk, zfl, zfm, zfn, zfo, zfp, zfq, zfr, zfs, zft, zfu, zfv, zfw, zfx, zfy, zfz, zga, zgb, zgc, zgd, zge, zgf, zgg, zgh, zgi, zgj, zgk, zgl, zgm, zgn, zgo, zgp, zgq, zgr, zgs, zgt, zgu, zgv, zgw, zgx, zgy, zgz, zha, zhb, zhc, zhd, zhe, zhf, zhg, zhh, zhi, zhx, zhy, zhz, zia]
  rw [lp, nl_len, show (((lim w a).length + 1 : Nat) : Int) - (((lim w (a * 2 ^ s)).length : Nat) : Int) = (e : Int) by omega, show ((e : Int)).toNat = e from rfl, rep_nl, nl_len, List.length_replicate, nl_app]
  have la1 : (lim w a).length + 1 < 2 ^ 20 := Nat.lt_of_le_of_lt hla (by decide)
  have hfl : (lim w (a * 2 ^ s) ++ List.replicate e 0).length = (lim w a).length + 1 := by rw [List.length_append, List.length_replicate, he]
  have hfv : vl w (lim w (a * 2 ^ s) ++ List.replicate e 0) = a * 2 ^ s := by rw [vl_reps, vl_lim hw]
  have e22 : (lim w a).length + 1 < 2 ^ 22 := Nat.lt_trans la1 (by decide)
  have DR := divide_rows_ok (k := k + 1) hW hw8 hw (dg_reps (dg_lim hw (a * 2 ^ s)) e) (dg_lim hw (b * 2 ^ s)) hl' (by rw [hfl, hl', hn]) (by rw [hfl]; exact la1) (vl_lim hw _) hlo h0
  have hrl : (dgs w (l + 2) (a * 2 ^ s % (b * 2 ^ s)) ++ List.replicate n 0).length < 2 ^ 20 := by
    rw [List.length_append, dgs_len, List.length_replicate, Nat.add_comm, ← hn]; exact la1
  have hnl : n < 2 ^ 20 := Nat.lt_of_le_of_lt (Nat.le_add_right n (l + 2)) (hn ▸ la1)
  have hps := pw_pos s
  rw [hfv] at DR
  have hmod : vl w (dgs w (l + 2) (a * 2 ^ s % (b * 2 ^ s)) ++ List.replicate n 0) = a % b * 2 ^ s := by
    rw [vl_reps, dgs_vl _ _ _ (Nat.lt_trans (Nat.mod_lt _ (Nat.lt_of_lt_of_le (pw_pos _) hlo)) hhi), Nat.mul_mod_mul_right]
  have N2 := normal_ok (k := k + 1) hW hrl
  rw [norm_dg hw (dg_reps (dgs_dg _ _ _) _), hmod] at N2
  have N1 := normal_ok (k := k + 2) hW (xs := dgs w n (a * 2 ^ s / (b * 2 ^ s))) (by rw [dgs_len]; exact hnl)
  rw [norm_dg hw (dgs_dg _ _ _), Nat.mul_div_mul_right _ _ hps, dgs_vl _ _ _ hdiv] at N1
  rw [Nat.mul_div_mul_right _ _ hps] at DR
  refine ⟨sz1, rfl, l62 rfl la22, rfl, l62 rfl (Nat.lt_of_le_of_lt (he ▸ Nat.le_add_right _ _) e22), repN (Nat.lt_of_le_of_lt (he ▸ Nat.le_add_left _ _) e22), sz_le (he ▸ e22), _, _, DR, ?_⟩
  (try dsimp only [zaa, zab, zac, zad, zae, zaf, zag, zah, zai, zaj, zak, zal, zam, zan, zao, zap, zaq, zar, zas, zat, zau, zav, zaw, zax, zay, zaz, zba, zbb, zbc, zbd, zbe, zbf, zbg, zbh, zbi, zbk, zbl, zbm, zbn, zbo, zbp, zbq, zbr, zbs, zbt, zbu, zbv, zbw, zbx, zby, zbz, zca, zcb, zcc, zcd, zce, zcf, zcg, zch, zci, zcl, zcm, zcn, zco, zcp, zcq, zcr, zcs, zct, zcu, zcv, zcw, zcx, zcy, zcz, zda, zdb, zdc, zdd, zde, zdf, zdg, zdh, zdi, zdj, zdk, zdl, zdm, zdn, zdo, zdp, zdq, zdr, zds, zdt, zdu, zdv, zdw, zdx, zdy, zdz, zea, zeb, zec, zed, zee, zef, zeg, zeh, zei, zej, zek, zel, zem, zen, zeo, zep, zeq, zer, zes, zet, zeu, zev, zew, zex, zey, zez, zfa, zfb, zfc, zfd, zfe, zff, zfg, zfh, zfi, zfj, zfk, zfl, zfm, zfn, zfo, zfp, zfq, zfr, zfs, zft, zfu, zfv, zfw, zfx, zfy, zfz, zga, zgb, zgc, zgd, zge, zgf, zgg, zgh, zgi, zgj, zgk, zgl, zgm, zgn, zgo, zgp, zgq, zgr, zgs, zgt, zgu, zgv, zgw, zgx, zgy, zgz, zha, zhb, zhc, zhd, zhe, zhf, zhg, zhh, zhi, zhx, zhy, zhz, zia])
  refine ⟨List.cons_ne_nil _ _, _, N1.up (Nat.le_refl _), ?_⟩
  (try dsimp only [zaa, zab, zac, zad, zae, zaf, zag, zah, zai, zaj, zak, zal, zam, zan, zao, zap, zaq, zar, zas, zat, zau, zav, zaw, zax, zay, zaz, zba, zbb, zbc, zbd, zbe, zbf, zbg, zbh, zbi, zbk, zbl, zbm, zbn, zbo, zbp, zbq, zbr, zbs, zbt, zbu, zbv, zbw, zbx, zby, zbz, zca, zcb, zcc, zcd, zce, zcf, zcg, zch, zci, zcl, zcm, zcn, zco, zcp, zcq, zcr, zcs, zct, zcu, zcv, zcw, zcx, zcy, zcz, zda, zdb, zdc, zdd, zde, zdf, zdg, zdh, zdi, zdj, zdk, zdl, zdm, zdn, zdo, zdp, zdq, zdr, zds, zdt, zdu, zdv, zdw, zdx, zdy, zdz, zea, zeb, zec, zed, zee, zef, zeg, zeh, zei, zej, zek, zel, zem, zen, zeo, zep, zeq, zer, zes, zet, zeu, zev, zew, zex, zey, zez, zfa, zfb, zfc, zfd, zfe, zff, zfg, zfh, zfi, zfj, zfk, zfl, zfm, zfn, zfo, zfp, zfq, zfr, zfs, zft, zfu, zfv, zfw, zfx, zfy, zfz, zga, zgb, zgc, zgd, zge, zgf, zgg, zgh, zgi, zgj, zgk, zgl, zgm, zgn, zgo, zgp, zgq, zgr, zgs, zgt, zgu, zgv, zgw, zgx, zgy, zgz, zha, zhb, zhc, zhd, zhe, zhf, zhg, zhh, zhi, zhx, zhy, zhz, zia])
  refine ⟨List.cons_ne_nil _ _, _, N2.up (Nat.le_succ _), ?_⟩
  (try dsimp only [zaa, zab, zac, zad, zae, zaf, zag, zah, zai, zaj, zak, zal, zam, zan, zao, zap, zaq, zar, zas, zat, zau, zav, zaw, zax, zay, zaz, zba, zbb, zbc, zbd, zbe, zbf, zbg, zbh, zbi, zbk, zbl, zbm, zbn, zbo, zbp, zbq, zbr, zbs, zbt, zbu, zbv, zbw, zbx, zby, zbz, zca, zcb, zcc, zcd, zce, zcf, zcg, zch, zci, zcl, zcm, zcn, zco, zcp, zcq, zcr, zcs, zct, zcu, zcv, zcw, zcx, zcy, zcz, zda, zdb, zdc, zdd, zde, zdf, zdg, zdh, zdi, zdj, zdk, zdl, zdm, zdn, zdo, zdp, zdq, zdr, zds, zdt, zdu, zdv, zdw, zdx, zdy, zdz, zea, zeb, zec, zed, zee, zef, zeg, zeh, zei, zej, zek, zel, zem, zen, zeo, zep, zeq, zer, zes, zet, zeu, zev, zew, zex, zey, zez, zfa, zfb, zfc, zfd, zfe, zff, zfg, zfh, zfi, zfj, zfk, zfl, zfm, zfn, zfo, zfp, zfq, zfr, zfs, zft, zfu, zfv, zfw, zfx, zfy, zfz, zga, zgb, zgc, zgd, zge, zgf, zgg, zgh, zgi, zgj, zgk, zgl, zgm, zgn, zgo, zgp, zgq, zgr, zgs, zgt, zgu, zgv, zgw, zgx, zgy, zgz, zha, zhb, zhc, zhd, zhe, zhf, zhg, zhh, zhi, zhx, zhy, zhz, zia])
  have hl2 : (lim w (a % b * 2 ^ s)).length < 2 ^ 20 := by
    refine Nat.lt_of_le_of_lt (lim_len hw (l + 2) _ (Nat.lt_of_le_of_lt (Nat.le_of_lt ?_) hhi)) (hl ▸ lb20)
    exact Nat.mul_lt_mul_of_pos_right (Nat.mod_lt _ (Nat.pos_of_ne_zero hb)) hps
  refine ⟨List.cons_ne_nil _ _, _, (shift_right_ok (k := k + 1) hW hw hw8 hl2 hs), ?_⟩
  rw [Nat.mul_div_cancel _ hps]
  exact ⟨sz2, rfl, .inl ⟨_, rfl, rfl⟩⟩
end Mine

set_option maxHeartbeats 4000000
namespace Mine
open PySem PySem.W PyProof.Rows PySem.Calls PySem.Spec PySem.Challenge
noncomputable abbrev ln (w n : Nat) : Nat := (lim w n).length
noncomputable def dL (w n : Nat) : D := .list (nl (lim w n))
noncomputable def dS (w : Nat) (z : Int) : D := .tup [.bool (decide (z < 0)), dL w z.natAbs]
noncomputable def dR (w : Nat) (q : Int × Nat) : D := .tup [dS w q.1, dL w q.2]
noncomputable def sg (b : Bool) (n : Nat) : Int := if b = true then -(n : Int) else (n : Int)
theorem sg_abs (b : Bool) (n : Nat) : (sg b n).natAbs = n := by cases b; exact rfl; exact Int.natAbs_neg n
theorem sg_neg (b : Bool) (n : Nat) : decide (sg b n < 0) = (b && decide (0 < n)) := by
  cases b
  · exact decide_eq_false (Int.not_lt.mpr (Int.natCast_nonneg n))
  · show decide (-(n : Int) < 0) = decide (0 < n)
    exact decide_eq_decide.mpr (by omega)
theorem sg_self (z : Int) : sg (decide (z < 0)) z.natAbs = z := by
  by_cases h : z < 0
  · rw [decide_eq_true h]; show -(z.natAbs : Int) = z; omega
  · rw [decide_eq_false h]; show (z.natAbs : Int) = z; omega
theorem dS_sg (w : Nat) (b : Bool) (n : Nat) : dS w (sg b n) = .tup [.bool (b && decide (0 < n)), dL w n] := by
  unfold dS; rw [sg_neg, sg_abs]

theorem t0 {a : D} {r : List D} {F : D → Prop} (h : F a) : tupP (a :: r) ((0 : Nat) : Int) F := ⟨⟨by decide, by decide⟩, a, rfl, h⟩
theorem t1 {a b : D} {r : List D} {F : D → Prop} (h : F b) : tupP (a :: b :: r) ((1 : Nat) : Int) F := ⟨⟨by decide, by decide⟩, b, rfl, h⟩
theorem len_ok {ds : List D} {F : D → Prop} (h : ds.length < 2 ^ 62) (hF : F (.int (ds.length : Int))) : biP "len" [.list ds] F := .inl ⟨rfl, h, hF⟩
theorem vn {α : Type} {a : α} {l : List α} : a :: l ≠ [] := List.cons_ne_nil _ _
theorem signed_ok {W : Wd} {k : Nat} (hW : Wv W) {w n : Nat} {b : Bool} (hw : w ≠ 0) (hn : ln w n < 2 ^ 22) : CallOk W (k + 1) (Str.ofString "signed") [.val (.bool b), .val (dL w n)] (dS w (sg b n)) [.val (.bool b), .val (dL w n)] := by
  refine call_fn (d := defAt 13) (as := [Str.ofString "nat"]) (p := Str.ofString "is_below") (ds := [dL w n]) (n := 60) (fx := []) hW.2 (rec_mem 13 (by decide) hW) fn13 rfl ?_
  rw [dS_sg]
  unfold dL
  have lp := nl_len (lim w n)
  have h0 := lim_nil hw (n := n)
  generalize nl (lim w n) = dp at *
  conv in (co _ _ _) => reduce
  conv in (initR _ _) => reduce
  dsimp only [zaa, zab, zac, zad, zae, zaf, zag, zah, zai, zaj, zak, zal, zam, zan, zao, zap, zaq, zar, zas, zat, zau, zav, zaw, zax, zay, zaz, zba, zbb, zbc, zbd, zbe, zbf, zbg, zbh, zbi, zbk, zbl, zbm, zbn, zbo, zbp, zbq, zbr, zbs, zbt, zbu, zbv, zbw, zbx, zby, zbz, zca, zcb, zcc, zcd, zce, zcf, zcg, zch, zci, zcl, zcm, zcn, zco, zcp, zcq, zcr, zcs, zct, zcu, zcv, zcw, zcx, zcy, zcz, zda, zdb, zdc, zdd, zde, zdf, zdg, zdh, zdi, zdj, zdk, zdl, zdm, zdn, zdo, zdp, zdq, zdr, zds, zdt, zdu, zdv, zdw, zdx, zdy, zdz, zea, zeb, zec, zed, zee, zef, zeg, zeh, zei, zej, zek, zel, zem, zen, zeo, zep, zeq, zer, zes, zet, zeu, zev, zew, zex, zey, zez, zfa, zfb, zfc, zfd, zfe, zff, zfg, zfh, zfi, zfj, zfk, zfl, zfm, zfn, zfo, zfp, zfq, zfr, zfs, zft, zfu, zfv, zfw, zfx, zfy, zfz, zga, zgb, zgc, zgd, zge, zgf, zgg, zgh, zgi, zgj, zgk, zgl, zgm, zgn, zgo, zgp, zgq, zgr, zgs, zgt, zgu, zgv, zgw, zgx, zgy, zgz, zha, zhb, zhc, zhd, zhe, zhf, zhg, zhh, zhi]
  have e : decide (0 < n) = decide (((0 : Nat) : Int) < (dp.length : Int)) := decide_eq_decide.mpr (by rw [lp]; exact ⟨fun h => Int.ofNat_lt.mpr (Nat.pos_of_ne_zero fun e => Nat.ne_of_gt h (h0.mp e)), fun h => Nat.pos_of_ne_zero fun e => absurd (Int.ofNat_lt.mp h) (by rw [h0.mpr e]; exact Nat.lt_irrefl _)⟩)
  refine ⟨fun h => ⟨rfl, l62 lp hn, sz2, ?_, .inl ⟨_, rfl, rfl⟩⟩, fun h => ⟨sz2, ?_, .inl ⟨_, rfl, rfl⟩⟩⟩
  · rw [h, e]; rfl
  · rw [h]; rfl
theorem s_neg_ok {W : Wd} {k : Nat} (hW : Wv W) {w : Nat} {z : Int} (hw : w ≠ 0) (hn : ln w z.natAbs < 2 ^ 22) : CallOk W (k + 2) (Str.ofString "s_neg") [.val (dS w z)] (dS w (-z)) [.val (dS w z)] := by
  refine call_fn (d := defAt 14) (as := []) (p := Str.ofString "x") (ds := []) (n := 60) (fx := []) hW.2 (rec_mem 14 (by decide) hW) fn14 rfl ?_
  have h := signed_ok (k := k) (b := !decide (z < 0)) hW hw hn
  have e : sg (!decide (z < 0)) z.natAbs = -z := by
    have := sg_self z
    revert this
    cases decide (z < 0) <;> (show _ = z → _ = -z; intro h)
    · show -(z.natAbs : Int) = -z; rw [show (z.natAbs : Int) = z from h]
    · show (z.natAbs : Int) = -z; rw [← show -(z.natAbs : Int) = z from h, Int.neg_neg, Int.natAbs_neg]; rfl
  rw [e] at h
  unfold dS at *
  generalize dL w z.natAbs = dp at *
  generalize decide (z < 0) = b at *
  conv in (co _ _ _) => reduce
  conv in (initR _ _) => reduce
  (repeat first | dsimp only [zaa, zab, zac, zad, zae, zaf, zag, zah, zai, zaj, zak, zal, zam, zan, zao, zap, zaq, zar, zas, zat, zau, zav, zaw, zax, zay, zaz, zba, zbb, zbc, zbd, zbe, zbf, zbg, zbh, zbi, zbk, zbl, zbm, zbn, zbo, zbp, zbq, zbr, zbs, zbt, zbu, zbv, zbw, zbx, zby, zbz, zca, zcb, zcc, zcd, zce, zcf, zcg, zch, zci, zcl, zcm, zcn, zco, zcp, zcq, zcr, zcs, zct, zcu, zcv, zcw, zcx, zcy, zcz, zda, zdb, zdc, zdd, zde, zdf, zdg, zdh, zdi, zdj, zdk, zdl, zdm, zdn, zdo, zdp, zdq, zdr, zds, zdt, zdu, zdv, zdw, zdx, zdy, zdz, zea, zeb, zec, zed, zee, zef, zeg, zeh, zei, zej, zek, zel, zem, zen, zeo, zep, zeq, zer, zes, zet, zeu, zev, zew, zex, zey, zez, zfa, zfb, zfc, zfd, zfe, zff, zfg, zfh, zfi, zfj, zfk, zfl, zfm, zfn, zfo, zfp, zfq, zfr, zfs, zft, zfu, zfv, zfw, zfx, zfy, zfz, zga, zgb, zgc, zgd, zge, zgf, zgg, zgh, zgi, zgj, zgk, zgl, zgm, zgn, zgo, zgp, zgq, zgr, zgs, zgt, zgu, zgv, zgw, zgx, zgy, zgz, zha, zhb, zhc, zhd, zhe, zhf, zhg, zhh, zhi] | refine t0 ?_ | refine t1 ?_)
  exact ⟨vn, _, h, rfl, .inl ⟨_, rfl, rfl⟩⟩
theorem sg_add1 {x y : Int} (h : decide (x < 0) = decide (y < 0)) : sg (decide (x < 0)) (x.natAbs + y.natAbs) = x + y := by
  have := decide_eq_decide.mp h
  by_cases c : x < 0
  · rw [decide_eq_true c]; show -((x.natAbs + y.natAbs : Nat) : Int) = _; omega
  · rw [decide_eq_false c]; show ((x.natAbs + y.natAbs : Nat) : Int) = _; omega
theorem sg_add2 {x y : Int} (h : ¬ decide (x < 0) = decide (y < 0)) (hl : y.natAbs ≤ x.natAbs) : sg (decide (x < 0)) (x.natAbs - y.natAbs) = x + y := by
  have hn : ¬ (x < 0 ↔ y < 0) := fun e => h (decide_eq_decide.mpr e)
  by_cases c : x < 0
  · rw [decide_eq_true c]; show -((x.natAbs - y.natAbs : Nat) : Int) = _; rw [Int.ofNat_sub hl]; omega
  · rw [decide_eq_false c]; show ((x.natAbs - y.natAbs : Nat) : Int) = _; rw [Int.ofNat_sub hl]; omega
theorem sg_mul (x y : Int) : sg (!decide (decide (x < 0) = decide (y < 0))) (x.natAbs * y.natAbs) = x * y := by
  have e : x * y = sg (decide (x < 0)) x.natAbs * sg (decide (y < 0)) y.natAbs := by rw [sg_self, sg_self]
  rw [e]
  cases decide (x < 0) <;> cases decide (y < 0)
  · exact Int.natCast_mul ..
  · show -((x.natAbs * y.natAbs : Nat) : Int) = (x.natAbs : Int) * -(y.natAbs : Int); rw [Int.natCast_mul, Int.mul_neg]
  · show -((x.natAbs * y.natAbs : Nat) : Int) = -(x.natAbs : Int) * (y.natAbs : Int); rw [Int.natCast_mul, Int.neg_mul]
  · show ((x.natAbs * y.natAbs : Nat) : Int) = -(x.natAbs : Int) * -(y.natAbs : Int); rw [Int.natCast_mul, Int.neg_mul_neg]
theorem ln_mul {w : Nat} (hw : w ≠ 0) (a b : Nat) : ln w (a * b) ≤ ln w a + ln w b := by
  refine lim_len hw _ _ ?_
  rw [Nat.mul_add, Nat.pow_add]
  exact Nat.mul_lt_mul_of_lt_of_le (lim_hi hw a) (Nat.le_of_lt (lim_hi hw b)) (pw_pos _)
theorem ln_add {w : Nat} (hw : w ≠ 0) (a b : Nat) : ln w (a + b) ≤ ln w a + ln w b := by
  refine lim_len hw _ _ ?_
  rw [Nat.mul_add, Nat.pow_add]
  have h := Nat.mul_le_mul (Nat.succ_le_of_lt (lim_hi hw a)) (Nat.succ_le_of_lt (lim_hi hw b))
  rw [Nat.succ_mul, Nat.mul_succ] at h
  refine Nat.lt_of_lt_of_le ?_ h
  rw [Nat.add_assoc, Nat.add_succ, Nat.add_comm a]
  exact Nat.lt_of_lt_of_le (Nat.lt_succ_self _) (Nat.le_add_left _ _)
theorem add_D {W : Wd} {k : Nat} (hW : Wv W) {w a b : Nat} (hw : w ≠ 0) (hw8 : w ≤ 8) (hla : ln w a < 2 ^ 20) (hlb : ln w b < 2 ^ 20) : CallOk W (k + 1) (Str.ofString "add") [.val (dL w a), .val (dL w b), .val (.int (w : Int))] (dL w (a + b)) [.val (dL w a), .val (dL w b), .val (.int (w : Int))] := add_ok hW hw hw8 hla hlb
theorem sub_D {W : Wd} {k : Nat} (hW : Wv W) {w a b : Nat} (hw : w ≠ 0) (hw8 : w ≤ 8) (hla : ln w a < 2 ^ 20) (hab : b ≤ a) : CallOk W (k + 2) (Str.ofString "sub") [.val (dL w a), .val (dL w b), .val (.int (w : Int))] (dL w (a - b)) [.val (dL w a), .val (dL w b), .val (.int (w : Int))] := sub_ok hW hw hw8 hla hab
theorem cmp_D {W : Wd} {k : Nat} (hW : Wv W) {w a b : Nat} (hw : w ≠ 0) (hla : ln w a < 2 ^ 20) (hlb : ln w b < 2 ^ 20) : CallOk W (k + 1) (Str.ofString "compare") [.val (dL w a), .val (dL w b)] (.int (ordL (lim w a) (lim w b))) [.val (dL w a), .val (dL w b)] := compare_ok hW hla hlb
theorem mul_D {W : Wd} {k : Nat} (hW : Wv W) {w a b : Nat} (hw : w ≠ 0) (hw8 : w ≤ 8) (hla : ln w a < 2 ^ 19) (hlb : ln w b < 2 ^ 19) : CallOk W (k + 2) (Str.ofString "mul_school") [.val (dL w a), .val (dL w b), .val (.int (w : Int))] (dL w (a * b)) [.val (dL w a), .val (dL w b), .val (.int (w : Int))] := mul_school_ok hW hw hw8 hla hlb
theorem div_D {W : Wd} {k : Nat} (hW : Wv W) {w a b : Nat} (hw : w ≠ 0) (hw8 : w ≤ 8) (hla : ln w a < 2 ^ 19) (hlb : ln w b < 2 ^ 19) (hb : b ≠ 0) : CallOk W (k + 4) (Str.ofString "divrem_school") [.val (dL w a), .val (dL w b), .val (.int (w : Int))] (.tup [dL w (a / b), dL w (a % b)]) [.val (dL w a), .val (dL w b), .val (.int (w : Int))] := divrem_school_ok hW hw hw8 hla hlb hb
theorem s_sign_ok {W : Wd} {k : Nat} (hW : Wv W) {w : Nat} {z : Int} (hw : w ≠ 0) (hn : ln w z.natAbs < 2 ^ 22) : CallOk W (k + 1) (Str.ofString "s_sign") [.val (dS w z)] (.int z.sign) [.val (dS w z)] := by
  refine call_fn (d := defAt 15) (as := []) (p := Str.ofString "x") (ds := []) (n := 60) (fx := []) hW.2 (rec_mem 15 (by decide) hW) fn15 rfl ?_
  have lp := nl_len (lim w z.natAbs)
  have h0 := lim_nil hw (n := z.natAbs)
  unfold dS dL
  generalize nl (lim w z.natAbs) = dp at *
  generalize hb : decide (z < 0) = b at *
  conv in (co _ _ _) => reduce
  conv in (initR _ _) => reduce
  (repeat first | dsimp only [zaa, zab, zac, zad, zae, zaf, zag, zah, zai, zaj, zak, zal, zam, zan, zao, zap, zaq, zar, zas, zat, zau, zav, zaw, zax, zay, zaz, zba, zbb, zbc, zbd, zbe, zbf, zbg, zbh, zbi, zbk, zbl, zbm, zbn, zbo, zbp, zbq, zbr, zbs, zbt, zbu, zbv, zbw, zbx, zby, zbz, zca, zcb, zcc, zcd, zce, zcf, zcg, zch, zci, zcl, zcm, zcn, zco, zcp, zcq, zcr, zcs, zct, zcu, zcv, zcw, zcx, zcy, zcz, zda, zdb, zdc, zdd, zde, zdf, zdg, zdh, zdi, zdj, zdk, zdl, zdm, zdn, zdo, zdp, zdq, zdr, zds, zdt, zdu, zdv, zdw, zdx, zdy, zdz, zea, zeb, zec, zed, zee, zef, zeg, zeh, zei, zej, zek, zel, zem, zen, zeo, zep, zeq, zer, zes, zet, zeu, zev, zew, zex, zey, zez, zfa, zfb, zfc, zfd, zfe, zff, zfg, zfh, zfi, zfj, zfk, zfl, zfm, zfn, zfo, zfp, zfq, zfr, zfs, zft, zfu, zfv, zfw, zfx, zfy, zfz, zga, zgb, zgc, zgd, zge, zgf, zgg, zgh, zgi, zgj, zgk, zgl, zgm, zgn, zgo, zgp, zgq, zgr, zgs, zgt, zgu, zgv, zgw, zgx, zgy, zgz, zha, zhb, zhc, zhd, zhe, zhf, zhg, zhh, zhi] | refine t0 ?_ | refine t1 ?_)
  refine len_ok (l62 lp hn) ?_
  (repeat first | dsimp only [zaa, zab, zac, zad, zae, zaf, zag, zah, zai, zaj, zak, zal, zam, zan, zao, zap, zaq, zar, zas, zat, zau, zav, zaw, zax, zay, zaz, zba, zbb, zbc, zbd, zbe, zbf, zbg, zbh, zbi, zbk, zbl, zbm, zbn, zbo, zbp, zbq, zbr, zbs, zbt, zbu, zbv, zbw, zbx, zby, zbz, zca, zcb, zcc, zcd, zce, zcf, zcg, zch, zci, zcl, zcm, zcn, zco, zcp, zcq, zcr, zcs, zct, zcu, zcv, zcw, zcx, zcy, zcz, zda, zdb, zdc, zdd, zde, zdf, zdg, zdh, zdi, zdj, zdk, zdl, zdm, zdn, zdo, zdp, zdq, zdr, zds, zdt, zdu, zdv, zdw, zdx, zdy, zdz, zea, zeb, zec, zed, zee, zef, zeg, zeh, zei, zej, zek, zel, zem, zen, zeo, zep, zeq, zer, zes, zet, zeu, zev, zew, zex, zey, zez, zfa, zfb, zfc, zfd, zfe, zff, zfg, zfh, zfi, zfj, zfk, zfl, zfm, zfn, zfo, zfp, zfq, zfr, zfs, zft, zfu, zfv, zfw, zfx, zfy, zfz, zga, zgb, zgc, zgd, zge, zgf, zgg, zgh, zgi, zgj, zgk, zgl, zgm, zgn, zgo, zgp, zgq, zgr, zgs, zgt, zgu, zgv, zgw, zgx, zgy, zgz, zha, zhb, zhc, zhd, zhe, zhf, zhg, zhh, zhi] | refine t0 ?_ | refine t1 ?_)
  refine ⟨fun h => ⟨?_, .inl ⟨_, rfl, rfl⟩⟩, fun h => t0 ?_⟩
  · rw [Int.natAbs_eq_zero.mp (h0.mp (lp ▸ Int.ofNat.inj (decT h)))]; rfl
  (repeat first | dsimp only [zaa, zab, zac, zad, zae, zaf, zag, zah, zai, zaj, zak, zal, zam, zan, zao, zap, zaq, zar, zas, zat, zau, zav, zaw, zax, zay, zaz, zba, zbb, zbc, zbd, zbe, zbf, zbg, zbh, zbi, zbk, zbl, zbm, zbn, zbo, zbp, zbq, zbr, zbs, zbt, zbu, zbv, zbw, zbx, zby, zbz, zca, zcb, zcc, zcd, zce, zcf, zcg, zch, zci, zcl, zcm, zcn, zco, zcp, zcq, zcr, zcs, zct, zcu, zcv, zcw, zcx, zcy, zcz, zda, zdb, zdc, zdd, zde, zdf, zdg, zdh, zdi, zdj, zdk, zdl, zdm, zdn, zdo, zdp, zdq, zdr, zds, zdt, zdu, zdv, zdw, zdx, zdy, zdz, zea, zeb, zec, zed, zee, zef, zeg, zeh, zei, zej, zek, zel, zem, zen, zeo, zep, zeq, zer, zes, zet, zeu, zev, zew, zex, zey, zez, zfa, zfb, zfc, zfd, zfe, zff, zfg, zfh, zfi, zfj, zfk, zfl, zfm, zfn, zfo, zfp, zfq, zfr, zfs, zft, zfu, zfv, zfw, zfx, zfy, zfz, zga, zgb, zgc, zgd, zge, zgf, zgg, zgh, zgi, zgj, zgk, zgl, zgm, zgn, zgo, zgp, zgq, zgr, zgs, zgt, zgu, zgv, zgw, zgx, zgy, zgz, zha, zhb, zhc, zhd, zhe, zhf, zhg, zhh, zhi] | refine t0 ?_ | refine t1 ?_)
  refine ⟨fun h => ⟨?_, .inl ⟨_, rfl, rfl⟩⟩, fun h' => ⟨?_, .inl ⟨_, rfl, rfl⟩⟩⟩
  · rw [h] at hb; rw [Int.sign_eq_neg_one_of_neg (decT hb)]; rfl
  · rw [h'] at hb
    rw [Int.sign_eq_one_of_pos (Int.lt_iff_le_and_ne.mpr ⟨Int.not_lt.mp (decF hb), fun e => decF h (by rw [lp, h0.mpr (by rw [← e]; rfl)])⟩)]; rfl
theorem s_add_ok {W : Wd} {k : Nat} (hW : Wv W) {w : Nat} {x y : Int} (hw : w ≠ 0) (hw8 : w ≤ 8) (hx : ln w x.natAbs < 2 ^ 18) (hy : ln w y.natAbs < 2 ^ 18) : CallOk W (k + 3) (Str.ofString "s_add") [.val (dS w x), .val (dS w y), .val (.int (w : Int))] (dS w (x + y)) [.val (dS w x), .val (dS w y), .val (.int (w : Int))] := by
  refine call_fn (d := defAt 16) (as := [Str.ofString "y", Str.ofString "w"]) (p := Str.ofString "x") (ds := [dS w y, .int (w : Int)]) (n := 60) (fx := []) hW.2 (rec_mem 16 (by decide) hW) fn16 rfl ?_
  have lx := Nat.lt_trans hx (show 2 ^ 18 < 2 ^ 20 by decide)
  have ly := Nat.lt_trans hy (show 2 ^ 18 < 2 ^ 20 by decide)
  have A := add_D (k := k + 1) hW hw hw8 lx ly
  have SA := signed_ok (k := k + 1) (b := decide (x < 0)) hW hw (Nat.lt_of_le_of_lt (ln_add hw x.natAbs y.natAbs) (by omega))
  have CM := cmp_D (k := k + 1) hW hw lx ly
  have ng := ordL_neg hw x.natAbs y.natAbs
  have S1 := fun h => sub_D (k := k) hW hw hw8 lx (b := y.natAbs) h
  have S2 := fun h => sub_D (k := k) hW hw hw8 ly (b := x.natAbs) h
  have D1 := signed_ok (k := k + 1) (b := decide (x < 0)) hW hw (Nat.lt_of_le_of_lt (lim_mono hw (Nat.sub_le x.natAbs y.natAbs)) (Nat.lt_trans lx (by decide)))
  have D2 := signed_ok (k := k + 1) (b := decide (y < 0)) hW hw (Nat.lt_of_le_of_lt (lim_mono hw (Nat.sub_le y.natAbs x.natAbs)) (Nat.lt_trans ly (by decide)))
  have q1 := sg_add1 (x := x) (y := y)
  have q2 := sg_add2 (x := x) (y := y)
  have q3 := sg_add2 (x := y) (y := x)
  unfold dS
  generalize dL w x.natAbs = dx at *
  generalize dL w y.natAbs = dy at *
  generalize decide (x < 0) = bx at *
  generalize decide (y < 0) = by' at *
  conv in (co _ _ _) => reduce
  conv in (initR _ _) => reduce
  (repeat first | dsimp only [zaa, zab, zac, zad, zae, zaf, zag, zah, zai, zaj, zak, zal, zam, zan, zao, zap, zaq, zar, zas, zat, zau, zav, zaw, zax, zay, zaz, zba, zbb, zbc, zbd, zbe, zbf, zbg, zbh, zbi, zbk, zbl, zbm, zbn, zbo, zbp, zbq, zbr, zbs, zbt, zbu, zbv, zbw, zbx, zby, zbz, zca, zcb, zcc, zcd, zce, zcf, zcg, zch, zci, zcl, zcm, zcn, zco, zcp, zcq, zcr, zcs, zct, zcu, zcv, zcw, zcx, zcy, zcz, zda, zdb, zdc, zdd, zde, zdf, zdg, zdh, zdi, zdj, zdk, zdl, zdm, zdn, zdo, zdp, zdq, zdr, zds, zdt, zdu, zdv, zdw, zdx, zdy, zdz, zea, zeb, zec, zed, zee, zef, zeg, zeh, zei, zej, zek, zel, zem, zen, zeo, zep, zeq, zer, zes, zet, zeu, zev, zew, zex, zey, zez, zfa, zfb, zfc, zfd, zfe, zff, zfg, zfh, zfi, zfj, zfk, zfl, zfm, zfn, zfo, zfp, zfq, zfr, zfs, zft, zfu, zfv, zfw, zfx, zfy, zfz, zga, zgb, zgc, zgd, zge, zgf, zgg, zgh, zgi, zgj, zgk, zgl, zgm, zgn, zgo, zgp, zgq, zgr, zgs, zgt, zgu, zgv, zgw, zgx, zgy, zgz, zha, zhb, zhc, zhd, zhe, zhf, zhg, zhh, zhi] | refine t0 ?_ | refine t1 ?_)
  refine ⟨fun h => t0 ?_, fun h => t1 ?_⟩
  · (repeat first | dsimp only [zaa, zab, zac, zad, zae, zaf, zag, zah, zai, zaj, zak, zal, zam, zan, zao, zap, zaq, zar, zas, zat, zau, zav, zaw, zax, zay, zaz, zba, zbb, zbc, zbd, zbe, zbf, zbg, zbh, zbi, zbk, zbl, zbm, zbn, zbo, zbp, zbq, zbr, zbs, zbt, zbu, zbv, zbw, zbx, zby, zbz, zca, zcb, zcc, zcd, zce, zcf, zcg, zch, zci, zcl, zcm, zcn, zco, zcp, zcq, zcr, zcs, zct, zcu, zcv, zcw, zcx, zcy, zcz, zda, zdb, zdc, zdd, zde, zdf, zdg, zdh, zdi, zdj, zdk, zdl, zdm, zdn, zdo, zdp, zdq, zdr, zds, zdt, zdu, zdv, zdw, zdx, zdy, zdz, zea, zeb, zec, zed, zee, zef, zeg, zeh, zei, zej, zek, zel, zem, zen, zeo, zep, zeq, zer, zes, zet, zeu, zev, zew, zex, zey, zez, zfa, zfb, zfc, zfd, zfe, zff, zfg, zfh, zfi, zfj, zfk, zfl, zfm, zfn, zfo, zfp, zfq, zfr, zfs, zft, zfu, zfv, zfw, zfx, zfy, zfz, zga, zgb, zgc, zgd, zge, zgf, zgg, zgh, zgi, zgj, zgk, zgl, zgm, zgn, zgo, zgp, zgq, zgr, zgs, zgt, zgu, zgv, zgw, zgx, zgy, zgz, zha, zhb, zhc, zhd, zhe, zhf, zhg, zhh, zhi] | refine t0 ?_ | refine t1 ?_)
    refine ⟨vn, _, A, vn, _, SA, ?_, .inl ⟨_, rfl, rfl⟩⟩
    rw [q1 (decT h)]; rfl
  (repeat first | dsimp only [zaa, zab, zac, zad, zae, zaf, zag, zah, zai, zaj, zak, zal, zam, zan, zao, zap, zaq, zar, zas, zat, zau, zav, zaw, zax, zay, zaz, zba, zbb, zbc, zbd, zbe, zbf, zbg, zbh, zbi, zbk, zbl, zbm, zbn, zbo, zbp, zbq, zbr, zbs, zbt, zbu, zbv, zbw, zbx, zby, zbz, zca, zcb, zcc, zcd, zce, zcf, zcg, zch, zci, zcl, zcm, zcn, zco, zcp, zcq, zcr, zcs, zct, zcu, zcv, zcw, zcx, zcy, zcz, zda, zdb, zdc, zdd, zde, zdf, zdg, zdh, zdi, zdj, zdk, zdl, zdm, zdn, zdo, zdp, zdq, zdr, zds, zdt, zdu, zdv, zdw, zdx, zdy, zdz, zea, zeb, zec, zed, zee, zef, zeg, zeh, zei, zej, zek, zel, zem, zen, zeo, zep, zeq, zer, zes, zet, zeu, zev, zew, zex, zey, zez, zfa, zfb, zfc, zfd, zfe, zff, zfg, zfh, zfi, zfj, zfk, zfl, zfm, zfn, zfo, zfp, zfq, zfr, zfs, zft, zfu, zfv, zfw, zfx, zfy, zfz, zga, zgb, zgc, zgd, zge, zgf, zgg, zgh, zgi, zgj, zgk, zgl, zgm, zgn, zgo, zgp, zgq, zgr, zgs, zgt, zgu, zgv, zgw, zgx, zgy, zgz, zha, zhb, zhc, zhd, zhe, zhf, zhg, zhh, zhi] | refine t0 ?_ | refine t1 ?_)
  refine ⟨vn, _, CM, ?_⟩
  (repeat first | dsimp only [zaa, zab, zac, zad, zae, zaf, zag, zah, zai, zaj, zak, zal, zam, zan, zao, zap, zaq, zar, zas, zat, zau, zav, zaw, zax, zay, zaz, zba, zbb, zbc, zbd, zbe, zbf, zbg, zbh, zbi, zbk, zbl, zbm, zbn, zbo, zbp, zbq, zbr, zbs, zbt, zbu, zbv, zbw, zbx, zby, zbz, zca, zcb, zcc, zcd, zce, zcf, zcg, zch, zci, zcl, zcm, zcn, zco, zcp, zcq, zcr, zcs, zct, zcu, zcv, zcw, zcx, zcy, zcz, zda, zdb, zdc, zdd, zde, zdf, zdg, zdh, zdi, zdj, zdk, zdl, zdm, zdn, zdo, zdp, zdq, zdr, zds, zdt, zdu, zdv, zdw, zdx, zdy, zdz, zea, zeb, zec, zed, zee, zef, zeg, zeh, zei, zej, zek, zel, zem, zen, zeo, zep, zeq, zer, zes, zet, zeu, zev, zew, zex, zey, zez, zfa, zfb, zfc, zfd, zfe, zff, zfg, zfh, zfi, zfj, zfk, zfl, zfm, zfn, zfo, zfp, zfq, zfr, zfs, zft, zfu, zfv, zfw, zfx, zfy, zfz, zga, zgb, zgc, zgd, zge, zgf, zgg, zgh, zgi, zgj, zgk, zgl, zgm, zgn, zgo, zgp, zgq, zgr, zgs, zgt, zgu, zgv, zgw, zgx, zgy, zgz, zha, zhb, zhc, zhd, zhe, zhf, zhg, zhh, zhi] | refine t0 ?_ | refine t1 ?_)
  refine ⟨fun h1 => t0 ?_, fun h1 => t0 ?_⟩
  · have hh := ng.mp (decT h1)
    (repeat first | dsimp only [zaa, zab, zac, zad, zae, zaf, zag, zah, zai, zaj, zak, zal, zam, zan, zao, zap, zaq, zar, zas, zat, zau, zav, zaw, zax, zay, zaz, zba, zbb, zbc, zbd, zbe, zbf, zbg, zbh, zbi, zbk, zbl, zbm, zbn, zbo, zbp, zbq, zbr, zbs, zbt, zbu, zbv, zbw, zbx, zby, zbz, zca, zcb, zcc, zcd, zce, zcf, zcg, zch, zci, zcl, zcm, zcn, zco, zcp, zcq, zcr, zcs, zct, zcu, zcv, zcw, zcx, zcy, zcz, zda, zdb, zdc, zdd, zde, zdf, zdg, zdh, zdi, zdj, zdk, zdl, zdm, zdn, zdo, zdp, zdq, zdr, zds, zdt, zdu, zdv, zdw, zdx, zdy, zdz, zea, zeb, zec, zed, zee, zef, zeg, zeh, zei, zej, zek, zel, zem, zen, zeo, zep, zeq, zer, zes, zet, zeu, zev, zew, zex, zey, zez, zfa, zfb, zfc, zfd, zfe, zff, zfg, zfh, zfi, zfj, zfk, zfl, zfm, zfn, zfo, zfp, zfq, zfr, zfs, zft, zfu, zfv, zfw, zfx, zfy, zfz, zga, zgb, zgc, zgd, zge, zgf, zgg, zgh, zgi, zgj, zgk, zgl, zgm, zgn, zgo, zgp, zgq, zgr, zgs, zgt, zgu, zgv, zgw, zgx, zgy, zgz, zha, zhb, zhc, zhd, zhe, zhf, zhg, zhh, zhi] | refine t0 ?_ | refine t1 ?_)
    refine ⟨vn, _, S2 (Nat.le_of_lt hh), vn, _, D2, ?_, .inl ⟨_, rfl, rfl⟩⟩
    rw [q3 (fun e => decF h e.symm) (Nat.le_of_lt hh), Int.add_comm]; rfl
  · have hh := Nat.not_lt.mp fun e => decF h1 (ng.mpr e)
    (repeat first | dsimp only [zaa, zab, zac, zad, zae, zaf, zag, zah, zai, zaj, zak, zal, zam, zan, zao, zap, zaq, zar, zas, zat, zau, zav, zaw, zax, zay, zaz, zba, zbb, zbc, zbd, zbe, zbf, zbg, zbh, zbi, zbk, zbl, zbm, zbn, zbo, zbp, zbq, zbr, zbs, zbt, zbu, zbv, zbw, zbx, zby, zbz, zca, zcb, zcc, zcd, zce, zcf, zcg, zch, zci, zcl, zcm, zcn, zco, zcp, zcq, zcr, zcs, zct, zcu, zcv, zcw, zcx, zcy, zcz, zda, zdb, zdc, zdd, zde, zdf, zdg, zdh, zdi, zdj, zdk, zdl, zdm, zdn, zdo, zdp, zdq, zdr, zds, zdt, zdu, zdv, zdw, zdx, zdy, zdz, zea, zeb, zec, zed, zee, zef, zeg, zeh, zei, zej, zek, zel, zem, zen, zeo, zep, zeq, zer, zes, zet, zeu, zev, zew, zex, zey, zez, zfa, zfb, zfc, zfd, zfe, zff, zfg, zfh, zfi, zfj, zfk, zfl, zfm, zfn, zfo, zfp, zfq, zfr, zfs, zft, zfu, zfv, zfw, zfx, zfy, zfz, zga, zgb, zgc, zgd, zge, zgf, zgg, zgh, zgi, zgj, zgk, zgl, zgm, zgn, zgo, zgp, zgq, zgr, zgs, zgt, zgu, zgv, zgw, zgx, zgy, zgz, zha, zhb, zhc, zhd, zhe, zhf, zhg, zhh, zhi] | refine t0 ?_ | refine t1 ?_)
    refine ⟨vn, _, S1 hh, vn, _, D1, ?_, .inl ⟨_, rfl, rfl⟩⟩
    rw [q2 (decF h) hh]; rfl
theorem s_mul_ok {W : Wd} {k : Nat} (hW : Wv W) {w : Nat} {x y : Int} (hw : w ≠ 0) (hw8 : w ≤ 8) (hx : ln w x.natAbs < 2 ^ 18) (hy : ln w y.natAbs < 2 ^ 18) : CallOk W (k + 3) (Str.ofString "s_mul") [.val (dS w x), .val (dS w y), .val (.int (w : Int)), .val (.fn (Str.ofString "mul_school"))] (dS w (x * y)) [.val (dS w x), .val (dS w y), .val (.int (w : Int)), .val (.fn (Str.ofString "mul_school"))] := by
  refine call_fn (d := defAt 17) (as := [Str.ofString "y", Str.ofString "w", Str.ofString "mul"]) (p := Str.ofString "x") (ds := [dS w y, .int (w : Int), .fn (Str.ofString "mul_school")]) (n := 60) (fx := []) hW.2 (rec_mem 17 (by decide) hW) fn17 rfl ?_
  have A := mul_D (k := k) hW hw hw8 (Nat.lt_trans hx (show 2 ^ 18 < 2 ^ 19 by decide)) (Nat.lt_trans hy (show 2 ^ 18 < 2 ^ 19 by decide))
  have SA := signed_ok (k := k + 1) (b := !decide (decide (x < 0) = decide (y < 0))) hW hw (Nat.lt_of_le_of_lt (ln_mul hw x.natAbs y.natAbs) (by omega))
  have q := sg_mul x y
  unfold dS
  generalize dL w x.natAbs = dx at *
  generalize dL w y.natAbs = dy at *
  generalize decide (x < 0) = bx at *
  generalize decide (y < 0) = by' at *
  conv in (co _ _ _) => reduce
  conv in (initR _ _) => reduce
  (repeat first | dsimp only [zaa, zab, zac, zad, zae, zaf, zag, zah, zai, zaj, zak, zal, zam, zan, zao, zap, zaq, zar, zas, zat, zau, zav, zaw, zax, zay, zaz, zba, zbb, zbc, zbd, zbe, zbf, zbg, zbh, zbi, zbk, zbl, zbm, zbn, zbo, zbp, zbq, zbr, zbs, zbt, zbu, zbv, zbw, zbx, zby, zbz, zca, zcb, zcc, zcd, zce, zcf, zcg, zch, zci, zcl, zcm, zcn, zco, zcp, zcq, zcr, zcs, zct, zcu, zcv, zcw, zcx, zcy, zcz, zda, zdb, zdc, zdd, zde, zdf, zdg, zdh, zdi, zdj, zdk, zdl, zdm, zdn, zdo, zdp, zdq, zdr, zds, zdt, zdu, zdv, zdw, zdx, zdy, zdz, zea, zeb, zec, zed, zee, zef, zeg, zeh, zei, zej, zek, zel, zem, zen, zeo, zep, zeq, zer, zes, zet, zeu, zev, zew, zex, zey, zez, zfa, zfb, zfc, zfd, zfe, zff, zfg, zfh, zfi, zfj, zfk, zfl, zfm, zfn, zfo, zfp, zfq, zfr, zfs, zft, zfu, zfv, zfw, zfx, zfy, zfz, zga, zgb, zgc, zgd, zge, zgf, zgg, zgh, zgi, zgj, zgk, zgl, zgm, zgn, zgo, zgp, zgq, zgr, zgs, zgt, zgu, zgv, zgw, zgx, zgy, zgz, zha, zhb, zhc, zhd, zhe, zhf, zhg, zhh, zhi] | refine t0 ?_ | refine t1 ?_)
  refine ⟨vn, _, A, vn, _, SA, ?_, .inl ⟨_, rfl, rfl⟩⟩
  rw [q]; rfl
end Mine

set_option maxHeartbeats 4000000
namespace Mine
open PySem PySem.W PyProof.Rows PySem.Calls PySem.Spec PySem.Challenge
theorem gcd_step {p q : Nat} : Nat.gcd q (p % q) = Nat.gcd p q := by rw [Nat.gcd_comm q, ← Nat.gcd_rec, Nat.gcd_comm]
theorem norm_lim {w : Nat} (hw : w ≠ 0) (n : Nat) : norm (lim w n) = lim w n := by rw [norm_dg hw (dg_lim hw n), vl_lim hw]
noncomputable abbrev fD : D := .fn (Str.ofString "divrem_school")
noncomputable abbrev fM : D := .fn (Str.ofString "mul_school")
theorem common_ok {W : Wd} {k : Nat} (hW : Wv W) {w a b : Nat} (hw : w ≠ 0) (hw8 : w ≤ 8) (hla : ln w a < 2 ^ 19) (hlb : ln w b < 2 ^ 19) : CallOk W (k + 5) (Str.ofString "common") [.val (dL w a), .val (dL w b), .val (.int (w : Int)), .val fD] (dL w (Nat.gcd a b)) [.val (dL w a), .val (dL w b), .val (.int (w : Int)), .val fD] := by
  refine call_fn (d := defAt 19) (as := [Str.ofString "b", Str.ofString "w", Str.ofString "divrem"]) (p := Str.ofString "a") (ds := [dL w b, .int (w : Int), fD]) (n := 60) (fx := []) hW.2 (rec_mem 19 (by decide) hW) fn19 rfl ?_
  have D := fun p q h1 h2 h3 => div_D (k := k) (a := p) (b := q) hW hw hw8 h1 h2 h3
  unfold dL at *
  generalize hda : nl (lim w a) = da
  generalize hdb : nl (lim w b) = db
  conv in (co _ _ _) => reduce
  conv in (initR _ _) => reduce
  dsimp only [zaa, zab, zac, zad, zae, zaf, zag, zah, zai, zaj, zak, zal, zam, zan, zao, zap, zaq, zar, zas, zat, zau, zav, zaw, zax, zay, zaz, zba, zbb, zbc, zbd, zbe, zbf, zbg, zbh, zbi, zbk, zbl, zbm, zbn, zbo, zbp, zbq, zbr, zbs, zbt, zbu, zbv, zbw, zbx, zby, zbz, zca, zcb, zcc, zcd, zce, zcf, zcg, zch, zci, zcl, zcm, zcn, zco, zcp, zcq, zcr, zcs, zct, zcu, zcv, zcw, zcx, zcy, zcz, zda, zdb, zdc, zdd, zde, zdf, zdg, zdh, zdi, zdj, zdk, zdl, zdm, zdn, zdo, zdp, zdq, zdr, zds, zdt, zdu, zdv, zdw, zdx, zdy, zdz, zea, zeb, zec, zed, zee, zef, zeg, zeh, zei, zej, zek, zel, zem, zen, zeo, zep, zeq, zer, zes, zet, zeu, zev, zew, zex, zey, zez, zfa, zfb, zfc, zfd, zfe, zff, zfg, zfh, zfi, zfj, zfk, zfl, zfm, zfn, zfo, zfp, zfq, zfr, zfs, zft, zfu, zfv, zfw, zfx, zfy, zfz, zga, zgb, zgc, zgd, zge, zgf, zgg, zgh, zgi, zgj, zgk, zgl, zgm, zgn, zgo, zgp, zgq, zgr, zgs, zgt, zgu, zgv, zgw, zgx, zgy, zgz, zha, zhb, zhc, zhd, zhe, zhf, zhg, zhh, zhi]
  refine while_inv (fun n ρ => ∃ p q, n = q ∧ ρ = [some (.val (.list (nl (lim w p)))), some (.val (.list (nl (lim w q)))), some (.val (.int w)), some (.val fD), some (.val (.bi (.builtin "len"))), some (.val (.fn (Str.ofString "normal")))] ∧
    Nat.gcd p q = Nat.gcd a b ∧ ln w p < 2 ^ 19 ∧ ln w q < 2 ^ 19) ?_ ⟨a, b, rfl, by rw [hda, hdb]; rfl, rfl, hla, hlb⟩
  rintro n ρ ⟨p, q, rfl, rfl, hg, hp, hq⟩ C hC
  have lq := nl_len (lim w n)
  have h0 := lim_nil hw (n := n)
  have hN := normal_ok (k := k + 3) hW (Nat.lt_trans hp (show 2 ^ 19 < 2 ^ 20 by decide))
  rw [norm_lim hw] at hN
  have D' := D p n hp hq
  dsimp only [zaa, zab, zac, zad, zae, zaf, zag, zah, zai, zaj, zak, zal, zam, zan, zao, zap, zaq, zar, zas, zat, zau, zav, zaw, zax, zay, zaz, zba, zbb, zbc, zbd, zbe, zbf, zbg, zbh, zbi, zbk, zbl, zbm, zbn, zbo, zbp, zbq, zbr, zbs, zbt, zbu, zbv, zbw, zbx, zby, zbz, zca, zcb, zcc, zcd, zce, zcf, zcg, zch, zci, zcl, zcm, zcn, zco, zcp, zcq, zcr, zcs, zct, zcu, zcv, zcw, zcx, zcy, zcz, zda, zdb, zdc, zdd, zde, zdf, zdg, zdh, zdi, zdj, zdk, zdl, zdm, zdn, zdo, zdp, zdq, zdr, zds, zdt, zdu, zdv, zdw, zdx, zdy, zdz, zea, zeb, zec, zed, zee, zef, zeg, zeh, zei, zej, zek, zel, zem, zen, zeo, zep, zeq, zer, zes, zet, zeu, zev, zew, zex, zey, zez, zfa, zfb, zfc, zfd, zfe, zff, zfg, zfh, zfi, zfj, zfk, zfl, zfm, zfn, zfo, zfp, zfq, zfr, zfs, zft, zfu, zfv, zfw, zfx, zfy, zfz, zga, zgb, zgc, zgd, zge, zgf, zgg, zgh, zgi, zgj, zgk, zgl, zgm, zgn, zgo, zgp, zgq, zgr, zgs, zgt, zgu, zgv, zgw, zgx, zgy, zgz, zha, zhb, zhc, zhd, zhe, zhf, zhg, zhh, zhi]
  refine ⟨rfl, l62 lq (Nat.lt_trans hq (by decide)), fun h => ?_, fun h => ?_⟩
  · have hn : n ≠ 0 := fun e => by have := decP (lq ▸ h); rw [h0.mpr e] at this; exact absurd this (Nat.lt_irrefl _)
    refine ⟨vn, _, D' hn, t1 ?_⟩
    dsimp only [zaa, zab, zac, zad, zae, zaf, zag, zah, zai, zaj, zak, zal, zam, zan, zao, zap, zaq, zar, zas, zat, zau, zav, zaw, zax, zay, zaz, zba, zbb, zbc, zbd, zbe, zbf, zbg, zbh, zbi, zbk, zbl, zbm, zbn, zbo, zbp, zbq, zbr, zbs, zbt, zbu, zbv, zbw, zbx, zby, zbz, zca, zcb, zcc, zcd, zce, zcf, zcg, zch, zci, zcl, zcm, zcn, zco, zcp, zcq, zcr, zcs, zct, zcu, zcv, zcw, zcx, zcy, zcz, zda, zdb, zdc, zdd, zde, zdf, zdg, zdh, zdi, zdj, zdk, zdl, zdm, zdn, zdo, zdp, zdq, zdr, zds, zdt, zdu, zdv, zdw, zdx, zdy, zdz, zea, zeb, zec, zed, zee, zef, zeg, zeh, zei, zej, zek, zel, zem, zen, zeo, zep, zeq, zer, zes, zet, zeu, zev, zew, zex, zey, zez, zfa, zfb, zfc, zfd, zfe, zff, zfg, zfh, zfi, zfj, zfk, zfl, zfm, zfn, zfo, zfp, zfq, zfr, zfs, zft, zfu, zfv, zfw, zfx, zfy, zfz, zga, zgb, zgc, zgd, zge, zgf, zgg, zgh, zgi, zgj, zgk, zgl, zgm, zgn, zgo, zgp, zgq, zgr, zgs, zgt, zgu, zgv, zgw, zgx, zgy, zgz, zha, zhb, zhc, zhd, zhe, zhf, zhg, zhh, zhi]
    refine ⟨sz2, _, rfl, hC _ _ (Nat.mod_lt _ (Nat.pos_of_ne_zero hn)) ⟨n, p % n, rfl, rfl, gcd_step.trans hg, hq, Nat.lt_of_le_of_lt (lim_mono hw (Nat.le_of_lt (Nat.mod_lt _ (Nat.pos_of_ne_zero hn)))) hq⟩⟩
  · have hn : n = 0 := h0.mp (Nat.eq_zero_of_not_pos (decN (lq ▸ h)))
    rw [hn, Nat.gcd_zero_right] at hg
    subst hg
    exact ⟨vn, _, hN, rfl, .inl ⟨_, rfl, rfl⟩⟩
noncomputable def cutI (z : Int) (d : Nat) : Int := sg (decide (z < 0)) (z.natAbs / d)
noncomputable def radd (x y : Int × Nat) : Int × Nat :=
  if x.1 * ((y.2 / Nat.gcd x.2 y.2 : Nat) : Int) + y.1 * ((x.2 / Nat.gcd x.2 y.2 : Nat) : Int) = 0 then (0, 1)
  else (cutI (x.1 * ((y.2 / Nat.gcd x.2 y.2 : Nat) : Int) + y.1 * ((x.2 / Nat.gcd x.2 y.2 : Nat) : Int)) (Nat.gcd (x.1 * ((y.2 / Nat.gcd x.2 y.2 : Nat) : Int) + y.1 * ((x.2 / Nat.gcd x.2 y.2 : Nat) : Int)).natAbs (Nat.gcd x.2 y.2)),
    x.2 / Nat.gcd x.2 y.2 * (y.2 / Nat.gcd (x.1 * ((y.2 / Nat.gcd x.2 y.2 : Nat) : Int) + y.1 * ((x.2 / Nat.gcd x.2 y.2 : Nat) : Int)).natAbs (Nat.gcd x.2 y.2)))
theorem cut_dS {w d : Nat} {z : Int} (hd : d ∣ z.natAbs) : dS w (cutI z d) = .tup [.bool (decide (z < 0)), dL w (z.natAbs / d)] := by
  unfold cutI
  rw [dS_sg]
  congr 3
  cases h : decide (z < 0)
  · rfl
  · have hz : z.natAbs ≠ 0 := fun e => by rw [Int.natAbs_eq_zero.mp e] at h; exact absurd h (by decide)
    rw [Bool.true_and, decide_eq_true (Nat.pos_of_ne_zero fun e => hz (by rw [← Nat.div_mul_cancel hd, e, Nat.zero_mul]))]
theorem cut_ok {W : Wd} {k : Nat} (hW : Wv W) {w d : Nat} {z : Int} (hw : w ≠ 0) (hw8 : w ≤ 8) (hz : ln w z.natAbs < 2 ^ 19) (hl : ln w d < 2 ^ 19) (h0 : d ≠ 0) (hd : d ∣ z.natAbs) : CallOk W (k + 5) (Str.ofString "cut_signed") [.val (dS w z), .val (dL w d), .val (.int (w : Int)), .val fD] (dS w (cutI z d)) [.val (dS w z), .val (dL w d), .val (.int (w : Int)), .val fD] := by
  refine call_fn (d := defAt 20) (as := [Str.ofString "d", Str.ofString "w", Str.ofString "divrem"]) (p := Str.ofString "x") (ds := [dL w d, .int (w : Int), fD]) (n := 60) (fx := []) hW.2 (rec_mem 20 (by decide) hW) fn20 rfl ?_
  have D := div_D (k := k) hW hw hw8 hz hl h0
  rw [cut_dS hd]
  unfold dS
  generalize dL w d = dd at *
  generalize dL w z.natAbs = dz at *
  generalize decide (z < 0) = b at *
  conv in (co _ _ _) => reduce
  conv in (initR _ _) => reduce
  (repeat first | dsimp only [zaa, zab, zac, zad, zae, zaf, zag, zah, zai, zaj, zak, zal, zam, zan, zao, zap, zaq, zar, zas, zat, zau, zav, zaw, zax, zay, zaz, zba, zbb, zbc, zbd, zbe, zbf, zbg, zbh, zbi, zbk, zbl, zbm, zbn, zbo, zbp, zbq, zbr, zbs, zbt, zbu, zbv, zbw, zbx, zby, zbz, zca, zcb, zcc, zcd, zce, zcf, zcg, zch, zci, zcl, zcm, zcn, zco, zcp, zcq, zcr, zcs, zct, zcu, zcv, zcw, zcx, zcy, zcz, zda, zdb, zdc, zdd, zde, zdf, zdg, zdh, zdi, zdj, zdk, zdl, zdm, zdn, zdo, zdp, zdq, zdr, zds, zdt, zdu, zdv, zdw, zdx, zdy, zdz, zea, zeb, zec, zed, zee, zef, zeg, zeh, zei, zej, zek, zel, zem, zen, zeo, zep, zeq, zer, zes, zet, zeu, zev, zew, zex, zey, zez, zfa, zfb, zfc, zfd, zfe, zff, zfg, zfh, zfi, zfj, zfk, zfl, zfm, zfn, zfo, zfp, zfq, zfr, zfs, zft, zfu, zfv, zfw, zfx, zfy, zfz, zga, zgb, zgc, zgd, zge, zgf, zgg, zgh, zgi, zgj, zgk, zgl, zgm, zgn, zgo, zgp, zgq, zgr, zgs, zgt, zgu, zgv, zgw, zgx, zgy, zgz, zha, zhb, zhc, zhd, zhe, zhf, zhg, zhh, zhi] | refine t0 ?_ | refine t1 ?_)
  refine ⟨vn, _, D, ?_⟩
  (repeat first | dsimp only [zaa, zab, zac, zad, zae, zaf, zag, zah, zai, zaj, zak, zal, zam, zan, zao, zap, zaq, zar, zas, zat, zau, zav, zaw, zax, zay, zaz, zba, zbb, zbc, zbd, zbe, zbf, zbg, zbh, zbi, zbk, zbl, zbm, zbn, zbo, zbp, zbq, zbr, zbs, zbt, zbu, zbv, zbw, zbx, zby, zbz, zca, zcb, zcc, zcd, zce, zcf, zcg, zch, zci, zcl, zcm, zcn, zco, zcp, zcq, zcr, zcs, zct, zcu, zcv, zcw, zcx, zcy, zcz, zda, zdb, zdc, zdd, zde, zdf, zdg, zdh, zdi, zdj, zdk, zdl, zdm, zdn, zdo, zdp, zdq, zdr, zds, zdt, zdu, zdv, zdw, zdx, zdy, zdz, zea, zeb, zec, zed, zee, zef, zeg, zeh, zei, zej, zek, zel, zem, zen, zeo, zep, zeq, zer, zes, zet, zeu, zev, zew, zex, zey, zez, zfa, zfb, zfc, zfd, zfe, zff, zfg, zfh, zfi, zfj, zfk, zfl, zfm, zfn, zfo, zfp, zfq, zfr, zfs, zft, zfu, zfv, zfw, zfx, zfy, zfz, zga, zgb, zgc, zgd, zge, zgf, zgg, zgh, zgi, zgj, zgk, zgl, zgm, zgn, zgo, zgp, zgq, zgr, zgs, zgt, zgu, zgv, zgw, zgx, zgy, zgz, zha, zhb, zhc, zhd, zhe, zhf, zhg, zhh, zhi] | refine t0 ?_ | refine t1 ?_)
  exact ⟨sz2, rfl, .inl ⟨_, rfl, rfl⟩⟩
theorem signed_of_ok {W : Wd} {k : Nat} (hW : Wv W) {w n : Nat} : CallOk W (k + 1) (Str.ofString "signed_of") [.val (dL w n)] (dS w (n : Int)) [.val (dL w n)] := by
  refine call_fn (d := defAt 21) (as := []) (p := Str.ofString "nat") (ds := []) (n := 60) (fx := []) hW.2 (rec_mem 21 (by decide) hW) fn21 rfl ?_
  have e : dS w (n : Int) = .tup [.bool false, dL w n] := dS_sg w false n
  rw [e]
  generalize dL w n = dn
  conv in (co _ _ _) => reduce
  conv in (initR _ _) => reduce
  dsimp only [zaa, zab, zac, zad, zae, zaf, zag, zah, zai, zaj, zak, zal, zam, zan, zao, zap, zaq, zar, zas, zat, zau, zav, zaw, zax, zay, zaz, zba, zbb, zbc, zbd, zbe, zbf, zbg, zbh, zbi, zbk, zbl, zbm, zbn, zbo, zbp, zbq, zbr, zbs, zbt, zbu, zbv, zbw, zbx, zby, zbz, zca, zcb, zcc, zcd, zce, zcf, zcg, zch, zci, zcl, zcm, zcn, zco, zcp, zcq, zcr, zcs, zct, zcu, zcv, zcw, zcx, zcy, zcz, zda, zdb, zdc, zdd, zde, zdf, zdg, zdh, zdi, zdj, zdk, zdl, zdm, zdn, zdo, zdp, zdq, zdr, zds, zdt, zdu, zdv, zdw, zdx, zdy, zdz, zea, zeb, zec, zed, zee, zef, zeg, zeh, zei, zej, zek, zel, zem, zen, zeo, zep, zeq, zer, zes, zet, zeu, zev, zew, zex, zey, zez, zfa, zfb, zfc, zfd, zfe, zff, zfg, zfh, zfi, zfj, zfk, zfl, zfm, zfn, zfo, zfp, zfq, zfr, zfs, zft, zfu, zfv, zfw, zfx, zfy, zfz, zga, zgb, zgc, zgd, zge, zgf, zgg, zgh, zgi, zgj, zgk, zgl, zgm, zgn, zgo, zgp, zgq, zgr, zgs, zgt, zgu, zgv, zgw, zgx, zgy, zgz, zha, zhb, zhc, zhd, zhe, zhf, zhg, zhh, zhi]
  exact ⟨sz2, rfl, .inl ⟨_, rfl, rfl⟩⟩
theorem r_neg_ok {W : Wd} {k : Nat} (hW : Wv W) {w : Nat} {x : Int × Nat} (hw : w ≠ 0) (hn : ln w x.1.natAbs < 2 ^ 22) : CallOk W (k + 3) (Str.ofString "r_neg") [.val (dR w x)] (dR w (-x.1, x.2)) [.val (dR w x)] := by
  refine call_fn (d := defAt 22) (as := []) (p := Str.ofString "x") (ds := []) (n := 60) (fx := []) hW.2 (rec_mem 22 (by decide) hW) fn22 rfl ?_
  have h := s_neg_ok (k := k) hW hw hn
  unfold dR
  generalize dS w x.1 = sx at *
  generalize dL w x.2 = dx at *
  conv in (co _ _ _) => reduce
  conv in (initR _ _) => reduce
  (repeat first | dsimp only [zaa, zab, zac, zad, zae, zaf, zag, zah, zai, zaj, zak, zal, zam, zan, zao, zap, zaq, zar, zas, zat, zau, zav, zaw, zax, zay, zaz, zba, zbb, zbc, zbd, zbe, zbf, zbg, zbh, zbi, zbk, zbl, zbm, zbn, zbo, zbp, zbq, zbr, zbs, zbt, zbu, zbv, zbw, zbx, zby, zbz, zca, zcb, zcc, zcd, zce, zcf, zcg, zch, zci, zcl, zcm, zcn, zco, zcp, zcq, zcr, zcs, zct, zcu, zcv, zcw, zcx, zcy, zcz, zda, zdb, zdc, zdd, zde, zdf, zdg, zdh, zdi, zdj, zdk, zdl, zdm, zdn, zdo, zdp, zdq, zdr, zds, zdt, zdu, zdv, zdw, zdx, zdy, zdz, zea, zeb, zec, zed, zee, zef, zeg, zeh, zei, zej, zek, zel, zem, zen, zeo, zep, zeq, zer, zes, zet, zeu, zev, zew, zex, zey, zez, zfa, zfb, zfc, zfd, zfe, zff, zfg, zfh, zfi, zfj, zfk, zfl, zfm, zfn, zfo, zfp, zfq, zfr, zfs, zft, zfu, zfv, zfw, zfx, zfy, zfz, zga, zgb, zgc, zgd, zge, zgf, zgg, zgh, zgi, zgj, zgk, zgl, zgm, zgn, zgo, zgp, zgq, zgr, zgs, zgt, zgu, zgv, zgw, zgx, zgy, zgz, zha, zhb, zhc, zhd, zhe, zhf, zhg, zhh, zhi] | refine t0 ?_ | refine t1 ?_)
  refine ⟨vn, _, h, ?_⟩
  (repeat first | dsimp only [zaa, zab, zac, zad, zae, zaf, zag, zah, zai, zaj, zak, zal, zam, zan, zao, zap, zaq, zar, zas, zat, zau, zav, zaw, zax, zay, zaz, zba, zbb, zbc, zbd, zbe, zbf, zbg, zbh, zbi, zbk, zbl, zbm, zbn, zbo, zbp, zbq, zbr, zbs, zbt, zbu, zbv, zbw, zbx, zby, zbz, zca, zcb, zcc, zcd, zce, zcf, zcg, zch, zci, zcl, zcm, zcn, zco, zcp, zcq, zcr, zcs, zct, zcu, zcv, zcw, zcx, zcy, zcz, zda, zdb, zdc, zdd, zde, zdf, zdg, zdh, zdi, zdj, zdk, zdl, zdm, zdn, zdo, zdp, zdq, zdr, zds, zdt, zdu, zdv, zdw, zdx, zdy, zdz, zea, zeb, zec, zed, zee, zef, zeg, zeh, zei, zej, zek, zel, zem, zen, zeo, zep, zeq, zer, zes, zet, zeu, zev, zew, zex, zey, zez, zfa, zfb, zfc, zfd, zfe, zff, zfg, zfh, zfi, zfj, zfk, zfl, zfm, zfn, zfo, zfp, zfq, zfr, zfs, zft, zfu, zfv, zfw, zfx, zfy, zfz, zga, zgb, zgc, zgd, zge, zgf, zgg, zgh, zgi, zgj, zgk, zgl, zgm, zgn, zgo, zgp, zgq, zgr, zgs, zgt, zgu, zgv, zgw, zgx, zgy, zgz, zha, zhb, zhc, zhd, zhe, zhf, zhg, zhh, zhi] | refine t0 ?_ | refine t1 ?_)
  exact ⟨sz2, rfl, .inl ⟨_, rfl, rfl⟩⟩
noncomputable def Sm (w : Nat) (x : Int × Nat) : Prop := ln w x.1.natAbs < 2 ^ 16 ∧ ln w x.2 < 2 ^ 16 ∧ x.2 ≠ 0
theorem dR0 {w : Nat} (hw : w ≠ 0) : dR w (0, 1) = .tup [.tup [.bool false, .list []], .list [.int ((1 : Nat) : Int)]] := by
  unfold dR dL
  rw [lim_one hw Nat.one_ne_zero (pw_two hw)]; rfl
theorem r_add_ok {W : Wd} {k : Nat} (hW : Wv W) {w : Nat} {x y : Int × Nat} (hw : w ≠ 0) (hw8 : w ≤ 8) (hx : Sm w x) (hy : Sm w y) : CallOk W (k + 6) (Str.ofString "r_add") [.val (dR w x), .val (dR w y), .val (.int (w : Int)), .val fM, .val fD] (dR w (radd x y)) [.val (dR w x), .val (dR w y), .val (.int (w : Int)), .val fM, .val fD] := by
  refine call_fn (d := defAt 23) (as := [Str.ofString "y", Str.ofString "w", Str.ofString "mul", Str.ofString "divrem"]) (p := Str.ofString "x") (ds := [dR w y, .int (w : Int), fM, fD]) (n := 60) (fx := []) hW.2 (rec_mem 23 (by decide) hW) fn23 rfl ?_
  obtain ⟨hx1, hx2, hx0⟩ := hx
  obtain ⟨hy1, hy2, hy0⟩ := hy
  obtain ⟨n1, d1⟩ := x
  obtain ⟨n2, d2⟩ := y
  dsimp only at hx1 hx2 hx0 hy1 hy2 hy0
  unfold radd
  dsimp only
  have L : ∀ {n m}, n ≤ m → ln w m < 2 ^ 16 → ln w n < 2 ^ 16 := fun h h' => Nat.lt_of_le_of_lt (lim_mono hw h) h'
  have h16 : ∀ {n j}, n < 2 ^ 16 → 2 ^ 16 ≤ j → n < j := fun h h' => Nat.lt_of_lt_of_le h h'
  have C1 := common_ok (k := k) hW hw hw8 (h16 hx2 (by decide)) (h16 hy2 (by decide))
  have hg0 : Nat.gcd d1 d2 ≠ 0 := fun e => hx0 (Nat.gcd_eq_zero_iff.mp e).1
  have hgl := L (Nat.gcd_le_left d2 (Nat.pos_of_ne_zero hx0)) hx2
  generalize Nat.gcd d1 d2 = t at *
  have C2 := div_D (k := k + 1) hW hw hw8 (h16 hx2 (by decide)) (h16 hgl (by decide)) hg0
  have C3 := div_D (k := k + 1) hW hw hw8 (h16 hy2 (by decide)) (h16 hgl (by decide)) hg0
  have hhe := L (Nat.div_le_self d1 t) hx2
  have hth := L (Nat.div_le_self d2 t) hy2
  generalize d1 / t = he at *
  generalize d2 / t = th at *
  have C4 := signed_of_ok (k := k + 4) hW (w := w) (n := th)
  have C5 := s_mul_ok (k := k + 2) (x := n1) (y := th) hW hw hw8 (h16 hx1 (by decide)) (h16 (by rwa [Int.natAbs_natCast]) (by decide))
  have C6 := signed_of_ok (k := k + 4) hW (w := w) (n := he)
  have C7 := s_mul_ok (k := k + 2) (x := n2) (y := he) hW hw hw8 (h16 hy1 (by decide)) (h16 (by rwa [Int.natAbs_natCast]) (by decide))
  have m1 : ln w (n1 * (th : Int)).natAbs < 2 ^ 17 := by
    rw [Int.natAbs_mul, Int.natAbs_natCast]
    exact Nat.lt_of_le_of_lt (ln_mul hw _ _) (Nat.add_lt_add hx1 hth)
  have m2 : ln w (n2 * (he : Int)).natAbs < 2 ^ 17 := by
    rw [Int.natAbs_mul, Int.natAbs_natCast]
    exact Nat.lt_of_le_of_lt (ln_mul hw _ _) (Nat.add_lt_add hy1 hhe)
  have C8 := s_add_ok (k := k + 2) hW hw hw8 (Nat.lt_trans m1 (by decide)) (Nat.lt_trans m2 (by decide))
  have m3 : ln w (n1 * (th : Int) + n2 * (he : Int)).natAbs < 2 ^ 18 :=
    Nat.lt_of_le_of_lt (Nat.le_trans (lim_mono hw (Int.natAbs_add_le _ _)) (ln_add hw _ _)) (Nat.add_lt_add m1 m2)
  generalize n1 * (th : Int) = u at *
  generalize n2 * (he : Int) = v at *
  generalize u + v = z at *
  have C9 := common_ok (k := k) hW hw hw8 (Nat.lt_trans m3 (show 2 ^ 18 < 2 ^ 19 by decide)) (h16 hgl (show 2 ^ 16 ≤ 2 ^ 19 by decide))
  have ho0 : Nat.gcd z.natAbs t ≠ 0 := fun e => hg0 (Nat.gcd_eq_zero_iff.mp e).2
  have hol := L (Nat.gcd_le_right z.natAbs (Nat.pos_of_ne_zero hg0)) hgl
  have hod := Nat.gcd_dvd_left z.natAbs t
  generalize Nat.gcd z.natAbs t = o at *
  have C10 := cut_ok (k := k) hW hw hw8 (Nat.lt_trans m3 (show 2 ^ 18 < 2 ^ 19 by decide)) (h16 hol (show 2 ^ 16 ≤ 2 ^ 19 by decide)) ho0 hod
  have C11 := div_D (k := k + 1) hW hw hw8 (h16 hy2 (by decide)) (h16 hol (by decide)) ho0
  have C12 := mul_D (k := k + 3) hW hw hw8 (h16 hhe (show 2 ^ 16 ≤ 2 ^ 19 by decide)) (h16 (L (Nat.div_le_self d2 o) hy2) (show 2 ^ 16 ≤ 2 ^ 19 by decide))
  have hz0 := lim_nil hw (n := z.natAbs)
  have hzl := nl_len (lim w z.natAbs)
  rw [show dS w z = .tup [.bool (decide (z < 0)), dL w z.natAbs] from rfl] at C8 C10
  generalize hR : (if z = 0 then ((0, 1) : Int × Nat) else (cutI z o, he * (d2 / o))) = R
  generalize hDR : dR w R = DR
  unfold dR
  generalize hdz : nl (lim w z.natAbs) = dz at *
  have hdz' : dL w z.natAbs = .list dz := congrArg D.list hdz
  rw [hdz'] at C8 C9 C10
  generalize dL w d1 = e1 at *
  generalize dL w d2 = e2 at *
  generalize dS w n1 = s1 at *
  generalize dS w n2 = s2 at *
  conv in (co _ _ _) => reduce
  conv in (initR _ _) => reduce
  (repeat first | dsimp only [zaa, zab, zac, zad, zae, zaf, zag, zah, zai, zaj, zak, zal, zam, zan, zao, zap, zaq, zar, zas, zat, zau, zav, zaw, zax, zay, zaz, zba, zbb, zbc, zbd, zbe, zbf, zbg, zbh, zbi, zbk, zbl, zbm, zbn, zbo, zbp, zbq, zbr, zbs, zbt, zbu, zbv, zbw, zbx, zby, zbz, zca, zcb, zcc, zcd, zce, zcf, zcg, zch, zci, zcl, zcm, zcn, zco, zcp, zcq, zcr, zcs, zct, zcu, zcv, zcw, zcx, zcy, zcz, zda, zdb, zdc, zdd, zde, zdf, zdg, zdh, zdi, zdj, zdk, zdl, zdm, zdn, zdo, zdp, zdq, zdr, zds, zdt, zdu, zdv, zdw, zdx, zdy, zdz, zea, zeb, zec, zed, zee, zef, zeg, zeh, zei, zej, zek, zel, zem, zen, zeo, zep, zeq, zer, zes, zet, zeu, zev, zew, zex, zey, zez, zfa, zfb, zfc, zfd, zfe, zff, zfg, zfh, zfi, zfj, zfk, zfl, zfm, zfn, zfo, zfp, zfq, zfr, zfs, zft, zfu, zfv, zfw, zfx, zfy, zfz, zga, zgb, zgc, zgd, zge, zgf, zgg, zgh, zgi, zgj, zgk, zgl, zgm, zgn, zgo, zgp, zgq, zgr, zgs, zgt, zgu, zgv, zgw, zgx, zgy, zgz, zha, zhb, zhc, zhd, zhe, zhf, zhg, zhh, zhi] | refine t0 ?_ | refine t1 ?_)
  refine ⟨vn, _, C1, ?_⟩
  (repeat first | dsimp only [zaa, zab, zac, zad, zae, zaf, zag, zah, zai, zaj, zak, zal, zam, zan, zao, zap, zaq, zar, zas, zat, zau, zav, zaw, zax, zay, zaz, zba, zbb, zbc, zbd, zbe, zbf, zbg, zbh, zbi, zbk, zbl, zbm, zbn, zbo, zbp, zbq, zbr, zbs, zbt, zbu, zbv, zbw, zbx, zby, zbz, zca, zcb, zcc, zcd, zce, zcf, zcg, zch, zci, zcl, zcm, zcn, zco, zcp, zcq, zcr, zcs, zct, zcu, zcv, zcw, zcx, zcy, zcz, zda, zdb, zdc, zdd, zde, zdf, zdg, zdh, zdi, zdj, zdk, zdl, zdm, zdn, zdo, zdp, zdq, zdr, zds, zdt, zdu, zdv, zdw, zdx, zdy, zdz, zea, zeb, zec, zed, zee, zef, zeg, zeh, zei, zej, zek, zel, zem, zen, zeo, zep, zeq, zer, zes, zet, zeu, zev, zew, zex, zey, zez, zfa, zfb, zfc, zfd, zfe, zff, zfg, zfh, zfi, zfj, zfk, zfl, zfm, zfn, zfo, zfp, zfq, zfr, zfs, zft, zfu, zfv, zfw, zfx, zfy, zfz, zga, zgb, zgc, zgd, zge, zgf, zgg, zgh, zgi, zgj, zgk, zgl, zgm, zgn, zgo, zgp, zgq, zgr, zgs, zgt, zgu, zgv, zgw, zgx, zgy, zgz, zha, zhb, zhc, zhd, zhe, zhf, zhg, zhh, zhi] | refine t0 ?_ | refine t1 ?_)
  refine ⟨vn, _, C2, ?_⟩
  (repeat first | dsimp only [zaa, zab, zac, zad, zae, zaf, zag, zah, zai, zaj, zak, zal, zam, zan, zao, zap, zaq, zar, zas, zat, zau, zav, zaw, zax, zay, zaz, zba, zbb, zbc, zbd, zbe, zbf, zbg, zbh, zbi, zbk, zbl, zbm, zbn, zbo, zbp, zbq, zbr, zbs, zbt, zbu, zbv, zbw, zbx, zby, zbz, zca, zcb, zcc, zcd, zce, zcf, zcg, zch, zci, zcl, zcm, zcn, zco, zcp, zcq, zcr, zcs, zct, zcu, zcv, zcw, zcx, zcy, zcz, zda, zdb, zdc, zdd, zde, zdf, zdg, zdh, zdi, zdj, zdk, zdl, zdm, zdn, zdo, zdp, zdq, zdr, zds, zdt, zdu, zdv, zdw, zdx, zdy, zdz, zea, zeb, zec, zed, zee, zef, zeg, zeh, zei, zej, zek, zel, zem, zen, zeo, zep, zeq, zer, zes, zet, zeu, zev, zew, zex, zey, zez, zfa, zfb, zfc, zfd, zfe, zff, zfg, zfh, zfi, zfj, zfk, zfl, zfm, zfn, zfo, zfp, zfq, zfr, zfs, zft, zfu, zfv, zfw, zfx, zfy, zfz, zga, zgb, zgc, zgd, zge, zgf, zgg, zgh, zgi, zgj, zgk, zgl, zgm, zgn, zgo, zgp, zgq, zgr, zgs, zgt, zgu, zgv, zgw, zgx, zgy, zgz, zha, zhb, zhc, zhd, zhe, zhf, zhg, zhh, zhi] | refine t0 ?_ | refine t1 ?_)
  refine ⟨vn, _, C3, ?_⟩
  (repeat first | dsimp only [zaa, zab, zac, zad, zae, zaf, zag, zah, zai, zaj, zak, zal, zam, zan, zao, zap, zaq, zar, zas, zat, zau, zav, zaw, zax, zay, zaz, zba, zbb, zbc, zbd, zbe, zbf, zbg, zbh, zbi, zbk, zbl, zbm, zbn, zbo, zbp, zbq, zbr, zbs, zbt, zbu, zbv, zbw, zbx, zby, zbz, zca, zcb, zcc, zcd, zce, zcf, zcg, zch, zci, zcl, zcm, zcn, zco, zcp, zcq, zcr, zcs, zct, zcu, zcv, zcw, zcx, zcy, zcz, zda, zdb, zdc, zdd, zde, zdf, zdg, zdh, zdi, zdj, zdk, zdl, zdm, zdn, zdo, zdp, zdq, zdr, zds, zdt, zdu, zdv, zdw, zdx, zdy, zdz, zea, zeb, zec, zed, zee, zef, zeg, zeh, zei, zej, zek, zel, zem, zen, zeo, zep, zeq, zer, zes, zet, zeu, zev, zew, zex, zey, zez, zfa, zfb, zfc, zfd, zfe, zff, zfg, zfh, zfi, zfj, zfk, zfl, zfm, zfn, zfo, zfp, zfq, zfr, zfs, zft, zfu, zfv, zfw, zfx, zfy, zfz, zga, zgb, zgc, zgd, zge, zgf, zgg, zgh, zgi, zgj, zgk, zgl, zgm, zgn, zgo, zgp, zgq, zgr, zgs, zgt, zgu, zgv, zgw, zgx, zgy, zgz, zha, zhb, zhc, zhd, zhe, zhf, zhg, zhh, zhi] | refine t0 ?_ | refine t1 ?_)
  refine ⟨sz2, _, rfl, ?_⟩
  (repeat first | dsimp only [zaa, zab, zac, zad, zae, zaf, zag, zah, zai, zaj, zak, zal, zam, zan, zao, zap, zaq, zar, zas, zat, zau, zav, zaw, zax, zay, zaz, zba, zbb, zbc, zbd, zbe, zbf, zbg, zbh, zbi, zbk, zbl, zbm, zbn, zbo, zbp, zbq, zbr, zbs, zbt, zbu, zbv, zbw, zbx, zby, zbz, zca, zcb, zcc, zcd, zce, zcf, zcg, zch, zci, zcl, zcm, zcn, zco, zcp, zcq, zcr, zcs, zct, zcu, zcv, zcw, zcx, zcy, zcz, zda, zdb, zdc, zdd, zde, zdf, zdg, zdh, zdi, zdj, zdk, zdl, zdm, zdn, zdo, zdp, zdq, zdr, zds, zdt, zdu, zdv, zdw, zdx, zdy, zdz, zea, zeb, zec, zed, zee, zef, zeg, zeh, zei, zej, zek, zel, zem, zen, zeo, zep, zeq, zer, zes, zet, zeu, zev, zew, zex, zey, zez, zfa, zfb, zfc, zfd, zfe, zff, zfg, zfh, zfi, zfj, zfk, zfl, zfm, zfn, zfo, zfp, zfq, zfr, zfs, zft, zfu, zfv, zfw, zfx, zfy, zfz, zga, zgb, zgc, zgd, zge, zgf, zgg, zgh, zgi, zgj, zgk, zgl, zgm, zgn, zgo, zgp, zgq, zgr, zgs, zgt, zgu, zgv, zgw, zgx, zgy, zgz, zha, zhb, zhc, zhd, zhe, zhf, zhg, zhh, zhi] | refine t0 ?_ | refine t1 ?_)
  refine ⟨vn, _, C4, ?_⟩
  (repeat first | dsimp only [zaa, zab, zac, zad, zae, zaf, zag, zah, zai, zaj, zak, zal, zam, zan, zao, zap, zaq, zar, zas, zat, zau, zav, zaw, zax, zay, zaz, zba, zbb, zbc, zbd, zbe, zbf, zbg, zbh, zbi, zbk, zbl, zbm, zbn, zbo, zbp, zbq, zbr, zbs, zbt, zbu, zbv, zbw, zbx, zby, zbz, zca, zcb, zcc, zcd, zce, zcf, zcg, zch, zci, zcl, zcm, zcn, zco, zcp, zcq, zcr, zcs, zct, zcu, zcv, zcw, zcx, zcy, zcz, zda, zdb, zdc, zdd, zde, zdf, zdg, zdh, zdi, zdj, zdk, zdl, zdm, zdn, zdo, zdp, zdq, zdr, zds, zdt, zdu, zdv, zdw, zdx, zdy, zdz, zea, zeb, zec, zed, zee, zef, zeg, zeh, zei, zej, zek, zel, zem, zen, zeo, zep, zeq, zer, zes, zet, zeu, zev, zew, zex, zey, zez, zfa, zfb, zfc, zfd, zfe, zff, zfg, zfh, zfi, zfj, zfk, zfl, zfm, zfn, zfo, zfp, zfq, zfr, zfs, zft, zfu, zfv, zfw, zfx, zfy, zfz, zga, zgb, zgc, zgd, zge, zgf, zgg, zgh, zgi, zgj, zgk, zgl, zgm, zgn, zgo, zgp, zgq, zgr, zgs, zgt, zgu, zgv, zgw, zgx, zgy, zgz, zha, zhb, zhc, zhd, zhe, zhf, zhg, zhh, zhi] | refine t0 ?_ | refine t1 ?_)
  refine ⟨vn, _, C5, ?_⟩
  (repeat first | dsimp only [zaa, zab, zac, zad, zae, zaf, zag, zah, zai, zaj, zak, zal, zam, zan, zao, zap, zaq, zar, zas, zat, zau, zav, zaw, zax, zay, zaz, zba, zbb, zbc, zbd, zbe, zbf, zbg, zbh, zbi, zbk, zbl, zbm, zbn, zbo, zbp, zbq, zbr, zbs, zbt, zbu, zbv, zbw, zbx, zby, zbz, zca, zcb, zcc, zcd, zce, zcf, zcg, zch, zci, zcl, zcm, zcn, zco, zcp, zcq, zcr, zcs, zct, zcu, zcv, zcw, zcx, zcy, zcz, zda, zdb, zdc, zdd, zde, zdf, zdg, zdh, zdi, zdj, zdk, zdl, zdm, zdn, zdo, zdp, zdq, zdr, zds, zdt, zdu, zdv, zdw, zdx, zdy, zdz, zea, zeb, zec, zed, zee, zef, zeg, zeh, zei, zej, zek, zel, zem, zen, zeo, zep, zeq, zer, zes, zet, zeu, zev, zew, zex, zey, zez, zfa, zfb, zfc, zfd, zfe, zff, zfg, zfh, zfi, zfj, zfk, zfl, zfm, zfn, zfo, zfp, zfq, zfr, zfs, zft, zfu, zfv, zfw, zfx, zfy, zfz, zga, zgb, zgc, zgd, zge, zgf, zgg, zgh, zgi, zgj, zgk, zgl, zgm, zgn, zgo, zgp, zgq, zgr, zgs, zgt, zgu, zgv, zgw, zgx, zgy, zgz, zha, zhb, zhc, zhd, zhe, zhf, zhg, zhh, zhi] | refine t0 ?_ | refine t1 ?_)
  refine ⟨vn, _, C6, ?_⟩
  (repeat first | dsimp only [zaa, zab, zac, zad, zae, zaf, zag, zah, zai, zaj, zak, zal, zam, zan, zao, zap, zaq, zar, zas, zat, zau, zav, zaw, zax, zay, zaz, zba, zbb, zbc, zbd, zbe, zbf, zbg, zbh, zbi, zbk, zbl, zbm, zbn, zbo, zbp, zbq, zbr, zbs, zbt, zbu, zbv, zbw, zbx, zby, zbz, zca, zcb, zcc, zcd, zce, zcf, zcg, zch, zci, zcl, zcm, zcn, zco, zcp, zcq, zcr, zcs, zct, zcu, zcv, zcw, zcx, zcy, zcz, zda, zdb, zdc, zdd, zde, zdf, zdg, zdh, zdi, zdj, zdk, zdl, zdm, zdn, zdo, zdp, zdq, zdr, zds, zdt, zdu, zdv, zdw, zdx, zdy, zdz, zea, zeb, zec, zed, zee, zef, zeg, zeh, zei, zej, zek, zel, zem, zen, zeo, zep, zeq, zer, zes, zet, zeu, zev, zew, zex, zey, zez, zfa, zfb, zfc, zfd, zfe, zff, zfg, zfh, zfi, zfj, zfk, zfl, zfm, zfn, zfo, zfp, zfq, zfr, zfs, zft, zfu, zfv, zfw, zfx, zfy, zfz, zga, zgb, zgc, zgd, zge, zgf, zgg, zgh, zgi, zgj, zgk, zgl, zgm, zgn, zgo, zgp, zgq, zgr, zgs, zgt, zgu, zgv, zgw, zgx, zgy, zgz, zha, zhb, zhc, zhd, zhe, zhf, zhg, zhh, zhi] | refine t0 ?_ | refine t1 ?_)
  refine ⟨vn, _, C7, ?_⟩
  (repeat first | dsimp only [zaa, zab, zac, zad, zae, zaf, zag, zah, zai, zaj, zak, zal, zam, zan, zao, zap, zaq, zar, zas, zat, zau, zav, zaw, zax, zay, zaz, zba, zbb, zbc, zbd, zbe, zbf, zbg, zbh, zbi, zbk, zbl, zbm, zbn, zbo, zbp, zbq, zbr, zbs, zbt, zbu, zbv, zbw, zbx, zby, zbz, zca, zcb, zcc, zcd, zce, zcf, zcg, zch, zci, zcl, zcm, zcn, zco, zcp, zcq, zcr, zcs, zct, zcu, zcv, zcw, zcx, zcy, zcz, zda, zdb, zdc, zdd, zde, zdf, zdg, zdh, zdi, zdj, zdk, zdl, zdm, zdn, zdo, zdp, zdq, zdr, zds, zdt, zdu, zdv, zdw, zdx, zdy, zdz, zea, zeb, zec, zed, zee, zef, zeg, zeh, zei, zej, zek, zel, zem, zen, zeo, zep, zeq, zer, zes, zet, zeu, zev, zew, zex, zey, zez, zfa, zfb, zfc, zfd, zfe, zff, zfg, zfh, zfi, zfj, zfk, zfl, zfm, zfn, zfo, zfp, zfq, zfr, zfs, zft, zfu, zfv, zfw, zfx, zfy, zfz, zga, zgb, zgc, zgd, zge, zgf, zgg, zgh, zgi, zgj, zgk, zgl, zgm, zgn, zgo, zgp, zgq, zgr, zgs, zgt, zgu, zgv, zgw, zgx, zgy, zgz, zha, zhb, zhc, zhd, zhe, zhf, zhg, zhh, zhi] | refine t0 ?_ | refine t1 ?_)
  refine ⟨vn, _, C8, ?_⟩
  (repeat first | dsimp only [zaa, zab, zac, zad, zae, zaf, zag, zah, zai, zaj, zak, zal, zam, zan, zao, zap, zaq, zar, zas, zat, zau, zav, zaw, zax, zay, zaz, zba, zbb, zbc, zbd, zbe, zbf, zbg, zbh, zbi, zbk, zbl, zbm, zbn, zbo, zbp, zbq, zbr, zbs, zbt, zbu, zbv, zbw, zbx, zby, zbz, zca, zcb, zcc, zcd, zce, zcf, zcg, zch, zci, zcl, zcm, zcn, zco, zcp, zcq, zcr, zcs, zct, zcu, zcv, zcw, zcx, zcy, zcz, zda, zdb, zdc, zdd, zde, zdf, zdg, zdh, zdi, zdj, zdk, zdl, zdm, zdn, zdo, zdp, zdq, zdr, zds, zdt, zdu, zdv, zdw, zdx, zdy, zdz, zea, zeb, zec, zed, zee, zef, zeg, zeh, zei, zej, zek, zel, zem, zen, zeo, zep, zeq, zer, zes, zet, zeu, zev, zew, zex, zey, zez, zfa, zfb, zfc, zfd, zfe, zff, zfg, zfh, zfi, zfj, zfk, zfl, zfm, zfn, zfo, zfp, zfq, zfr, zfs, zft, zfu, zfv, zfw, zfx, zfy, zfz, zga, zgb, zgc, zgd, zge, zgf, zgg, zgh, zgi, zgj, zgk, zgl, zgm, zgn, zgo, zgp, zgq, zgr, zgs, zgt, zgu, zgv, zgw, zgx, zgy, zgz, zha, zhb, zhc, zhd, zhe, zhf, zhg, zhh, zhi] | refine t0 ?_ | refine t1 ?_)
  refine len_ok (l62 hzl (Nat.lt_trans m3 (by decide))) ?_
  (repeat first | dsimp only [zaa, zab, zac, zad, zae, zaf, zag, zah, zai, zaj, zak, zal, zam, zan, zao, zap, zaq, zar, zas, zat, zau, zav, zaw, zax, zay, zaz, zba, zbb, zbc, zbd, zbe, zbf, zbg, zbh, zbi, zbk, zbl, zbm, zbn, zbo, zbp, zbq, zbr, zbs, zbt, zbu, zbv, zbw, zbx, zby, zbz, zca, zcb, zcc, zcd, zce, zcf, zcg, zch, zci, zcl, zcm, zcn, zco, zcp, zcq, zcr, zcs, zct, zcu, zcv, zcw, zcx, zcy, zcz, zda, zdb, zdc, zdd, zde, zdf, zdg, zdh, zdi, zdj, zdk, zdl, zdm, zdn, zdo, zdp, zdq, zdr, zds, zdt, zdu, zdv, zdw, zdx, zdy, zdz, zea, zeb, zec, zed, zee, zef, zeg, zeh, zei, zej, zek, zel, zem, zen, zeo, zep, zeq, zer, zes, zet, zeu, zev, zew, zex, zey, zez, zfa, zfb, zfc, zfd, zfe, zff, zfg, zfh, zfi, zfj, zfk, zfl, zfm, zfn, zfo, zfp, zfq, zfr, zfs, zft, zfu, zfv, zfw, zfx, zfy, zfz, zga, zgb, zgc, zgd, zge, zgf, zgg, zgh, zgi, zgj, zgk, zgl, zgm, zgn, zgo, zgp, zgq, zgr, zgs, zgt, zgu, zgv, zgw, zgx, zgy, zgz, zha, zhb, zhc, zhd, zhe, zhf, zhg, zhh, zhi] | refine t0 ?_ | refine t1 ?_)
  refine ⟨fun h => ?_, fun h => ?_⟩
  · have hz : z = 0 := Int.natAbs_eq_zero.mp (hz0.mp (hzl ▸ Int.ofNat.inj (decT h)))
    refine ⟨sz1, sz2, ?_, .inl ⟨_, rfl, rfl⟩⟩
    rw [← hDR, ← hR, if_pos hz, dR0 hw, ← hdz, hz]; rfl
  · have hz : z ≠ 0 := fun e => decF h (by rw [hzl, hz0.mpr (by rw [e]; rfl)])
    (repeat first | dsimp only [zaa, zab, zac, zad, zae, zaf, zag, zah, zai, zaj, zak, zal, zam, zan, zao, zap, zaq, zar, zas, zat, zau, zav, zaw, zax, zay, zaz, zba, zbb, zbc, zbd, zbe, zbf, zbg, zbh, zbi, zbk, zbl, zbm, zbn, zbo, zbp, zbq, zbr, zbs, zbt, zbu, zbv, zbw, zbx, zby, zbz, zca, zcb, zcc, zcd, zce, zcf, zcg, zch, zci, zcl, zcm, zcn, zco, zcp, zcq, zcr, zcs, zct, zcu, zcv, zcw, zcx, zcy, zcz, zda, zdb, zdc, zdd, zde, zdf, zdg, zdh, zdi, zdj, zdk, zdl, zdm, zdn, zdo, zdp, zdq, zdr, zds, zdt, zdu, zdv, zdw, zdx, zdy, zdz, zea, zeb, zec, zed, zee, zef, zeg, zeh, zei, zej, zek, zel, zem, zen, zeo, zep, zeq, zer, zes, zet, zeu, zev, zew, zex, zey, zez, zfa, zfb, zfc, zfd, zfe, zff, zfg, zfh, zfi, zfj, zfk, zfl, zfm, zfn, zfo, zfp, zfq, zfr, zfs, zft, zfu, zfv, zfw, zfx, zfy, zfz, zga, zgb, zgc, zgd, zge, zgf, zgg, zgh, zgi, zgj, zgk, zgl, zgm, zgn, zgo, zgp, zgq, zgr, zgs, zgt, zgu, zgv, zgw, zgx, zgy, zgz, zha, zhb, zhc, zhd, zhe, zhf, zhg, zhh, zhi] | refine t0 ?_ | refine t1 ?_)
    refine ⟨vn, _, C9, vn, _, C10, ?_⟩
    (repeat first | dsimp only [zaa, zab, zac, zad, zae, zaf, zag, zah, zai, zaj, zak, zal, zam, zan, zao, zap, zaq, zar, zas, zat, zau, zav, zaw, zax, zay, zaz, zba, zbb, zbc, zbd, zbe, zbf, zbg, zbh, zbi, zbk, zbl, zbm, zbn, zbo, zbp, zbq, zbr, zbs, zbt, zbu, zbv, zbw, zbx, zby, zbz, zca, zcb, zcc, zcd, zce, zcf, zcg, zch, zci, zcl, zcm, zcn, zco, zcp, zcq, zcr, zcs, zct, zcu, zcv, zcw, zcx, zcy, zcz, zda, zdb, zdc, zdd, zde, zdf, zdg, zdh, zdi, zdj, zdk, zdl, zdm, zdn, zdo, zdp, zdq, zdr, zds, zdt, zdu, zdv, zdw, zdx, zdy, zdz, zea, zeb, zec, zed, zee, zef, zeg, zeh, zei, zej, zek, zel, zem, zen, zeo, zep, zeq, zer, zes, zet, zeu, zev, zew, zex, zey, zez, zfa, zfb, zfc, zfd, zfe, zff, zfg, zfh, zfi, zfj, zfk, zfl, zfm, zfn, zfo, zfp, zfq, zfr, zfs, zft, zfu, zfv, zfw, zfx, zfy, zfz, zga, zgb, zgc, zgd, zge, zgf, zgg, zgh, zgi, zgj, zgk, zgl, zgm, zgn, zgo, zgp, zgq, zgr, zgs, zgt, zgu, zgv, zgw, zgx, zgy, zgz, zha, zhb, zhc, zhd, zhe, zhf, zhg, zhh, zhi] | refine t0 ?_ | refine t1 ?_)
    refine ⟨vn, _, C11, ?_⟩
    (repeat first | dsimp only [zaa, zab, zac, zad, zae, zaf, zag, zah, zai, zaj, zak, zal, zam, zan, zao, zap, zaq, zar, zas, zat, zau, zav, zaw, zax, zay, zaz, zba, zbb, zbc, zbd, zbe, zbf, zbg, zbh, zbi, zbk, zbl, zbm, zbn, zbo, zbp, zbq, zbr, zbs, zbt, zbu, zbv, zbw, zbx, zby, zbz, zca, zcb, zcc, zcd, zce, zcf, zcg, zch, zci, zcl, zcm, zcn, zco, zcp, zcq, zcr, zcs, zct, zcu, zcv, zcw, zcx, zcy, zcz, zda, zdb, zdc, zdd, zde, zdf, zdg, zdh, zdi, zdj, zdk, zdl, zdm, zdn, zdo, zdp, zdq, zdr, zds, zdt, zdu, zdv, zdw, zdx, zdy, zdz, zea, zeb, zec, zed, zee, zef, zeg, zeh, zei, zej, zek, zel, zem, zen, zeo, zep, zeq, zer, zes, zet, zeu, zev, zew, zex, zey, zez, zfa, zfb, zfc, zfd, zfe, zff, zfg, zfh, zfi, zfj, zfk, zfl, zfm, zfn, zfo, zfp, zfq, zfr, zfs, zft, zfu, zfv, zfw, zfx, zfy, zfz, zga, zgb, zgc, zgd, zge, zgf, zgg, zgh, zgi, zgj, zgk, zgl, zgm, zgn, zgo, zgp, zgq, zgr, zgs, zgt, zgu, zgv, zgw, zgx, zgy, zgz, zha, zhb, zhc, zhd, zhe, zhf, zhg, zhh, zhi] | refine t0 ?_ | refine t1 ?_)
    refine ⟨vn, _, C12, sz2, ?_, .inl ⟨_, rfl, rfl⟩⟩
    rw [← hDR, ← hR, if_neg hz]; rfl
noncomputable def rneg (x : Int × Nat) : Int × Nat := (-x.1, x.2)
noncomputable def rsub (x y : Int × Nat) : Int × Nat := radd x (rneg y)
theorem Sm.neg {w : Nat} {x : Int × Nat} (h : Sm w x) : Sm w (rneg x) := ⟨(Int.natAbs_neg x.1).symm ▸ h.1, h.2⟩
theorem r_sub_ok {W : Wd} {k : Nat} (hW : Wv W) {w : Nat} {x y : Int × Nat} (hw : w ≠ 0) (hw8 : w ≤ 8) (hx : Sm w x) (hy : Sm w y) : CallOk W (k + 7) (Str.ofString "r_sub") [.val (dR w x), .val (dR w y), .val (.int (w : Int)), .val fM, .val fD] (dR w (rsub x y)) [.val (dR w x), .val (dR w y), .val (.int (w : Int)), .val fM, .val fD] := by
  refine call_fn (d := defAt 24) (as := [Str.ofString "y", Str.ofString "w", Str.ofString "mul", Str.ofString "divrem"]) (p := Str.ofString "x") (ds := [dR w y, .int (w : Int), fM, fD]) (n := 60) (fx := []) hW.2 (rec_mem 24 (by decide) hW) fn24 rfl ?_
  have C1 := r_neg_ok (k := k + 3) hW hw (Nat.lt_trans hy.1 (show 2 ^ 16 < 2 ^ 22 by decide))
  have C2 := r_add_ok (k := k) hW hw hw8 hx hy.neg
  unfold rsub
  unfold rneg at *
  generalize dR w x = dx at *
  generalize dR w y = dy at *
  generalize dR w (-y.1, y.2) = dz at *
  conv in (co _ _ _) => reduce
  conv in (initR _ _) => reduce
  (repeat first | dsimp only [zaa, zab, zac, zad, zae, zaf, zag, zah, zai, zaj, zak, zal, zam, zan, zao, zap, zaq, zar, zas, zat, zau, zav, zaw, zax, zay, zaz, zba, zbb, zbc, zbd, zbe, zbf, zbg, zbh, zbi, zbk, zbl, zbm, zbn, zbo, zbp, zbq, zbr, zbs, zbt, zbu, zbv, zbw, zbx, zby, zbz, zca, zcb, zcc, zcd, zce, zcf, zcg, zch, zci, zcl, zcm, zcn, zco, zcp, zcq, zcr, zcs, zct, zcu, zcv, zcw, zcx, zcy, zcz, zda, zdb, zdc, zdd, zde, zdf, zdg, zdh, zdi, zdj, zdk, zdl, zdm, zdn, zdo, zdp, zdq, zdr, zds, zdt, zdu, zdv, zdw, zdx, zdy, zdz, zea, zeb, zec, zed, zee, zef, zeg, zeh, zei, zej, zek, zel, zem, zen, zeo, zep, zeq, zer, zes, zet, zeu, zev, zew, zex, zey, zez, zfa, zfb, zfc, zfd, zfe, zff, zfg, zfh, zfi, zfj, zfk, zfl, zfm, zfn, zfo, zfp, zfq, zfr, zfs, zft, zfu, zfv, zfw, zfx, zfy, zfz, zga, zgb, zgc, zgd, zge, zgf, zgg, zgh, zgi, zgj, zgk, zgl, zgm, zgn, zgo, zgp, zgq, zgr, zgs, zgt, zgu, zgv, zgw, zgx, zgy, zgz, zha, zhb, zhc, zhd, zhe, zhf, zhg, zhh, zhi] | refine t0 ?_ | refine t1 ?_)
  exact ⟨vn, _, C1, vn, _, C2, rfl, .inl ⟨_, rfl, rfl⟩⟩
noncomputable def rmul (x y : Int × Nat) : Int × Nat :=
  if x.1 = 0 ∨ y.1 = 0 then (0, 1)
  else (cutI x.1 (Nat.gcd x.1.natAbs y.2) * cutI y.1 (Nat.gcd y.1.natAbs x.2), x.2 / Nat.gcd y.1.natAbs x.2 * (y.2 / Nat.gcd x.1.natAbs y.2))
theorem r_mul_ok {W : Wd} {k : Nat} (hW : Wv W) {w : Nat} {x y : Int × Nat} (hw : w ≠ 0) (hw8 : w ≤ 8) (hx : Sm w x) (hy : Sm w y) : CallOk W (k + 6) (Str.ofString "r_mul") [.val (dR w x), .val (dR w y), .val (.int (w : Int)), .val fM, .val fD] (dR w (rmul x y)) [.val (dR w x), .val (dR w y), .val (.int (w : Int)), .val fM, .val fD] := by
  refine call_fn (d := defAt 25) (as := [Str.ofString "y", Str.ofString "w", Str.ofString "mul", Str.ofString "divrem"]) (p := Str.ofString "x") (ds := [dR w y, .int (w : Int), fM, fD]) (n := 60) (fx := []) hW.2 (rec_mem 25 (by decide) hW) fn25 rfl ?_
  obtain ⟨hx1, hx2, hx0⟩ := hx
  obtain ⟨hy1, hy2, hy0⟩ := hy
  obtain ⟨n1, d1⟩ := x
  obtain ⟨n2, d2⟩ := y
  dsimp only at hx1 hx2 hx0 hy1 hy2 hy0
  unfold rmul
  dsimp only
  have L : ∀ {n m}, n ≤ m → ln w m < 2 ^ 16 → ln w n < 2 ^ 16 := fun h h' => Nat.lt_of_le_of_lt (lim_mono hw h) h'
  have h19 : ∀ {n}, n < 2 ^ 16 → n < 2 ^ 19 := fun h => Nat.lt_trans h (by decide)
  have C1 := common_ok (k := k) (a := n1.natAbs) hW hw hw8 (h19 hx1) (h19 hy2)
  have C2 := common_ok (k := k) (a := n2.natAbs) hW hw hw8 (h19 hy1) (h19 hx2)
  have g1 : Nat.gcd n1.natAbs d2 ≠ 0 := fun e => hy0 (Nat.gcd_eq_zero_iff.mp e).2
  have g2 : Nat.gcd n2.natAbs d1 ≠ 0 := fun e => hx0 (Nat.gcd_eq_zero_iff.mp e).2
  have l1 := L (Nat.gcd_le_right n1.natAbs (Nat.pos_of_ne_zero hy0)) hy2
  have l2 := L (Nat.gcd_le_right n2.natAbs (Nat.pos_of_ne_zero hx0)) hx2
  have v1 := Nat.gcd_dvd_left n1.natAbs d2
  have v2 := Nat.gcd_dvd_left n2.natAbs d1
  generalize Nat.gcd n1.natAbs d2 = one at *
  generalize Nat.gcd n2.natAbs d1 = oth at *
  have C3 := cut_ok (k := k) hW hw hw8 (h19 hx1) (h19 l1) g1 v1
  have C4 := cut_ok (k := k) hW hw hw8 (h19 hy1) (h19 l2) g2 v2
  have a1 : ln w (cutI n1 one).natAbs < 2 ^ 16 := by unfold cutI; rw [sg_abs]; exact L (Nat.div_le_self _ _) hx1
  have a2 : ln w (cutI n2 oth).natAbs < 2 ^ 16 := by unfold cutI; rw [sg_abs]; exact L (Nat.div_le_self _ _) hy1
  have C5 := s_mul_ok (k := k + 2) hW hw hw8 (Nat.lt_trans a1 (by decide)) (Nat.lt_trans a2 (by decide))
  have C6 := div_D (k := k + 1) hW hw hw8 (h19 hx2) (h19 l2) g2
  have C7 := div_D (k := k + 1) hW hw hw8 (h19 hy2) (h19 l1) g1
  have C8 := mul_D (k := k + 3) hW hw hw8 (h19 (L (Nat.div_le_self d1 oth) hx2)) (h19 (L (Nat.div_le_self d2 one) hy2))
  have z1 := lim_nil hw (n := n1.natAbs)
  have z2 := lim_nil hw (n := n2.natAbs)
  have zl1 := nl_len (lim w n1.natAbs)
  have zl2 := nl_len (lim w n2.natAbs)
  have i1 : (lim w n1.natAbs).length < 2 ^ 22 := Nat.lt_trans hx1 (by decide)
  have i2 : (lim w n2.natAbs).length < 2 ^ 22 := Nat.lt_trans hy1 (by decide)
  generalize hR : (if n1 = 0 ∨ n2 = 0 then ((0, 1) : Int × Nat) else (cutI n1 one * cutI n2 oth, d1 / oth * (d2 / one))) = R
  generalize hDR : dR w R = DR
  unfold dR
  have u1 : dS w n1 = .tup [.bool (decide (n1 < 0)), .list (nl (lim w n1.natAbs))] := rfl
  have u2 : dS w n2 = .tup [.bool (decide (n2 < 0)), .list (nl (lim w n2.natAbs))] := rfl
  have u3 : dL w n1.natAbs = .list (nl (lim w n1.natAbs)) := rfl
  have u4 : dL w n2.natAbs = .list (nl (lim w n2.natAbs)) := rfl
  rw [u1] at C3 ⊢
  rw [u2] at C4 ⊢
  rw [u3] at C1
  rw [u4] at C2
  clear u1 u2 u3 u4
  generalize decide (n1 < 0) = b1 at *
  generalize decide (n2 < 0) = b2 at *
  generalize nl (lim w n1.natAbs) = m1 at *
  generalize nl (lim w n2.natAbs) = m2 at *
  generalize dL w d1 = e1 at *
  generalize dL w d2 = e2 at *
  conv in (co _ _ _) => reduce
  conv in (initR _ _) => reduce
  (repeat first | dsimp only [zaa, zab, zac, zad, zae, zaf, zag, zah, zai, zaj, zak, zal, zam, zan, zao, zap, zaq, zar, zas, zat, zau, zav, zaw, zax, zay, zaz, zba, zbb, zbc, zbd, zbe, zbf, zbg, zbh, zbi, zbk, zbl, zbm, zbn, zbo, zbp, zbq, zbr, zbs, zbt, zbu, zbv, zbw, zbx, zby, zbz, zca, zcb, zcc, zcd, zce, zcf, zcg, zch, zci, zcl, zcm, zcn, zco, zcp, zcq, zcr, zcs, zct, zcu, zcv, zcw, zcx, zcy, zcz, zda, zdb, zdc, zdd, zde, zdf, zdg, zdh, zdi, zdj, zdk, zdl, zdm, zdn, zdo, zdp, zdq, zdr, zds, zdt, zdu, zdv, zdw, zdx, zdy, zdz, zea, zeb, zec, zed, zee, zef, zeg, zeh, zei, zej, zek, zel, zem, zen, zeo, zep, zeq, zer, zes, zet, zeu, zev, zew, zex, zey, zez, zfa, zfb, zfc, zfd, zfe, zff, zfg, zfh, zfi, zfj, zfk, zfl, zfm, zfn, zfo, zfp, zfq, zfr, zfs, zft, zfu, zfv, zfw, zfx, zfy, zfz, zga, zgb, zgc, zgd, zge, zgf, zgg, zgh, zgi, zgj, zgk, zgl, zgm, zgn, zgo, zgp, zgq, zgr, zgs, zgt, zgu, zgv, zgw, zgx, zgy, zgz, zha, zhb, zhc, zhd, zhe, zhf, zhg, zhh, zhi] | refine t0 ?_ | refine t1 ?_)
  refine len_ok (l62 zl1 i1) ?_
  have fin0 : (n1 = 0 ∨ n2 = 0) → Fl.ret (.tup [.tup [.bool false, .list []], .list [.int ((1 : Nat) : Int)]]) = Fl.ret DR := fun h => by rw [← hDR, ← hR, if_pos h, dR0 hw]
  (repeat first | dsimp only [zaa, zab, zac, zad, zae, zaf, zag, zah, zai, zaj, zak, zal, zam, zan, zao, zap, zaq, zar, zas, zat, zau, zav, zaw, zax, zay, zaz, zba, zbb, zbc, zbd, zbe, zbf, zbg, zbh, zbi, zbk, zbl, zbm, zbn, zbo, zbp, zbq, zbr, zbs, zbt, zbu, zbv, zbw, zbx, zby, zbz, zca, zcb, zcc, zcd, zce, zcf, zcg, zch, zci, zcl, zcm, zcn, zco, zcp, zcq, zcr, zcs, zct, zcu, zcv, zcw, zcx, zcy, zcz, zda, zdb, zdc, zdd, zde, zdf, zdg, zdh, zdi, zdj, zdk, zdl, zdm, zdn, zdo, zdp, zdq, zdr, zds, zdt, zdu, zdv, zdw, zdx, zdy, zdz, zea, zeb, zec, zed, zee, zef, zeg, zeh, zei, zej, zek, zel, zem, zen, zeo, zep, zeq, zer, zes, zet, zeu, zev, zew, zex, zey, zez, zfa, zfb, zfc, zfd, zfe, zff, zfg, zfh, zfi, zfj, zfk, zfl, zfm, zfn, zfo, zfp, zfq, zfr, zfs, zft, zfu, zfv, zfw, zfx, zfy, zfz, zga, zgb, zgc, zgd, zge, zgf, zgg, zgh, zgi, zgj, zgk, zgl, zgm, zgn, zgo, zgp, zgq, zgr, zgs, zgt, zgu, zgv, zgw, zgx, zgy, zgz, zha, zhb, zhc, zhd, zhe, zhf, zhg, zhh, zhi] | refine t0 ?_ | refine t1 ?_)
  refine ⟨fun h => ⟨fun _ => ⟨sz0, sz2, sz1, sz2, fin0 (.inl (Int.natAbs_eq_zero.mp (z1.mp (zl1 ▸ Int.ofNat.inj (decT h))))), .inl ⟨_, rfl, rfl⟩⟩, (fun h => nomatch h)⟩, fun h => ?_⟩
  have hz1 : n1 ≠ 0 := fun e => decF h (by rw [zl1, z1.mpr (by rw [e]; rfl)])
  (repeat first | dsimp only [zaa, zab, zac, zad, zae, zaf, zag, zah, zai, zaj, zak, zal, zam, zan, zao, zap, zaq, zar, zas, zat, zau, zav, zaw, zax, zay, zaz, zba, zbb, zbc, zbd, zbe, zbf, zbg, zbh, zbi, zbk, zbl, zbm, zbn, zbo, zbp, zbq, zbr, zbs, zbt, zbu, zbv, zbw, zbx, zby, zbz, zca, zcb, zcc, zcd, zce, zcf, zcg, zch, zci, zcl, zcm, zcn, zco, zcp, zcq, zcr, zcs, zct, zcu, zcv, zcw, zcx, zcy, zcz, zda, zdb, zdc, zdd, zde, zdf, zdg, zdh, zdi, zdj, zdk, zdl, zdm, zdn, zdo, zdp, zdq, zdr, zds, zdt, zdu, zdv, zdw, zdx, zdy, zdz, zea, zeb, zec, zed, zee, zef, zeg, zeh, zei, zej, zek, zel, zem, zen, zeo, zep, zeq, zer, zes, zet, zeu, zev, zew, zex, zey, zez, zfa, zfb, zfc, zfd, zfe, zff, zfg, zfh, zfi, zfj, zfk, zfl, zfm, zfn, zfo, zfp, zfq, zfr, zfs, zft, zfu, zfv, zfw, zfx, zfy, zfz, zga, zgb, zgc, zgd, zge, zgf, zgg, zgh, zgi, zgj, zgk, zgl, zgm, zgn, zgo, zgp, zgq, zgr, zgs, zgt, zgu, zgv, zgw, zgx, zgy, zgz, zha, zhb, zhc, zhd, zhe, zhf, zhg, zhh, zhi] | refine t0 ?_ | refine t1 ?_)
  refine len_ok (l62 zl2 i2) ?_
  (repeat first | dsimp only [zaa, zab, zac, zad, zae, zaf, zag, zah, zai, zaj, zak, zal, zam, zan, zao, zap, zaq, zar, zas, zat, zau, zav, zaw, zax, zay, zaz, zba, zbb, zbc, zbd, zbe, zbf, zbg, zbh, zbi, zbk, zbl, zbm, zbn, zbo, zbp, zbq, zbr, zbs, zbt, zbu, zbv, zbw, zbx, zby, zbz, zca, zcb, zcc, zcd, zce, zcf, zcg, zch, zci, zcl, zcm, zcn, zco, zcp, zcq, zcr, zcs, zct, zcu, zcv, zcw, zcx, zcy, zcz, zda, zdb, zdc, zdd, zde, zdf, zdg, zdh, zdi, zdj, zdk, zdl, zdm, zdn, zdo, zdp, zdq, zdr, zds, zdt, zdu, zdv, zdw, zdx, zdy, zdz, zea, zeb, zec, zed, zee, zef, zeg, zeh, zei, zej, zek, zel, zem, zen, zeo, zep, zeq, zer, zes, zet, zeu, zev, zew, zex, zey, zez, zfa, zfb, zfc, zfd, zfe, zff, zfg, zfh, zfi, zfj, zfk, zfl, zfm, zfn, zfo, zfp, zfq, zfr, zfs, zft, zfu, zfv, zfw, zfx, zfy, zfz, zga, zgb, zgc, zgd, zge, zgf, zgg, zgh, zgi, zgj, zgk, zgl, zgm, zgn, zgo, zgp, zgq, zgr, zgs, zgt, zgu, zgv, zgw, zgx, zgy, zgz, zha, zhb, zhc, zhd, zhe, zhf, zhg, zhh, zhi] | refine t0 ?_ | refine t1 ?_)
  refine ⟨fun h => ⟨sz0, sz2, sz1, sz2, fin0 (.inr (Int.natAbs_eq_zero.mp (z2.mp (zl2 ▸ Int.ofNat.inj (decT h))))), .inl ⟨_, rfl, rfl⟩⟩, fun h => ?_⟩
  have hz2 : n2 ≠ 0 := fun e => decF h (by rw [zl2, z2.mpr (by rw [e]; rfl)])
  (repeat first | dsimp only [zaa, zab, zac, zad, zae, zaf, zag, zah, zai, zaj, zak, zal, zam, zan, zao, zap, zaq, zar, zas, zat, zau, zav, zaw, zax, zay, zaz, zba, zbb, zbc, zbd, zbe, zbf, zbg, zbh, zbi, zbk, zbl, zbm, zbn, zbo, zbp, zbq, zbr, zbs, zbt, zbu, zbv, zbw, zbx, zby, zbz, zca, zcb, zcc, zcd, zce, zcf, zcg, zch, zci, zcl, zcm, zcn, zco, zcp, zcq, zcr, zcs, zct, zcu, zcv, zcw, zcx, zcy, zcz, zda, zdb, zdc, zdd, zde, zdf, zdg, zdh, zdi, zdj, zdk, zdl, zdm, zdn, zdo, zdp, zdq, zdr, zds, zdt, zdu, zdv, zdw, zdx, zdy, zdz, zea, zeb, zec, zed, zee, zef, zeg, zeh, zei, zej, zek, zel, zem, zen, zeo, zep, zeq, zer, zes, zet, zeu, zev, zew, zex, zey, zez, zfa, zfb, zfc, zfd, zfe, zff, zfg, zfh, zfi, zfj, zfk, zfl, zfm, zfn, zfo, zfp, zfq, zfr, zfs, zft, zfu, zfv, zfw, zfx, zfy, zfz, zga, zgb, zgc, zgd, zge, zgf, zgg, zgh, zgi, zgj, zgk, zgl, zgm, zgn, zgo, zgp, zgq, zgr, zgs, zgt, zgu, zgv, zgw, zgx, zgy, zgz, zha, zhb, zhc, zhd, zhe, zhf, zhg, zhh, zhi] | refine t0 ?_ | refine t1 ?_)
  refine ⟨vn, _, C1, ?_⟩
  (repeat first | dsimp only [zaa, zab, zac, zad, zae, zaf, zag, zah, zai, zaj, zak, zal, zam, zan, zao, zap, zaq, zar, zas, zat, zau, zav, zaw, zax, zay, zaz, zba, zbb, zbc, zbd, zbe, zbf, zbg, zbh, zbi, zbk, zbl, zbm, zbn, zbo, zbp, zbq, zbr, zbs, zbt, zbu, zbv, zbw, zbx, zby, zbz, zca, zcb, zcc, zcd, zce, zcf, zcg, zch, zci, zcl, zcm, zcn, zco, zcp, zcq, zcr, zcs, zct, zcu, zcv, zcw, zcx, zcy, zcz, zda, zdb, zdc, zdd, zde, zdf, zdg, zdh, zdi, zdj, zdk, zdl, zdm, zdn, zdo, zdp, zdq, zdr, zds, zdt, zdu, zdv, zdw, zdx, zdy, zdz, zea, zeb, zec, zed, zee, zef, zeg, zeh, zei, zej, zek, zel, zem, zen, zeo, zep, zeq, zer, zes, zet, zeu, zev, zew, zex, zey, zez, zfa, zfb, zfc, zfd, zfe, zff, zfg, zfh, zfi, zfj, zfk, zfl, zfm, zfn, zfo, zfp, zfq, zfr, zfs, zft, zfu, zfv, zfw, zfx, zfy, zfz, zga, zgb, zgc, zgd, zge, zgf, zgg, zgh, zgi, zgj, zgk, zgl, zgm, zgn, zgo, zgp, zgq, zgr, zgs, zgt, zgu, zgv, zgw, zgx, zgy, zgz, zha, zhb, zhc, zhd, zhe, zhf, zhg, zhh, zhi] | refine t0 ?_ | refine t1 ?_)
  refine ⟨vn, _, C2, ?_⟩
  (repeat first | dsimp only [zaa, zab, zac, zad, zae, zaf, zag, zah, zai, zaj, zak, zal, zam, zan, zao, zap, zaq, zar, zas, zat, zau, zav, zaw, zax, zay, zaz, zba, zbb, zbc, zbd, zbe, zbf, zbg, zbh, zbi, zbk, zbl, zbm, zbn, zbo, zbp, zbq, zbr, zbs, zbt, zbu, zbv, zbw, zbx, zby, zbz, zca, zcb, zcc, zcd, zce, zcf, zcg, zch, zci, zcl, zcm, zcn, zco, zcp, zcq, zcr, zcs, zct, zcu, zcv, zcw, zcx, zcy, zcz, zda, zdb, zdc, zdd, zde, zdf, zdg, zdh, zdi, zdj, zdk, zdl, zdm, zdn, zdo, zdp, zdq, zdr, zds, zdt, zdu, zdv, zdw, zdx, zdy, zdz, zea, zeb, zec, zed, zee, zef, zeg, zeh, zei, zej, zek, zel, zem, zen, zeo, zep, zeq, zer, zes, zet, zeu, zev, zew, zex, zey, zez, zfa, zfb, zfc, zfd, zfe, zff, zfg, zfh, zfi, zfj, zfk, zfl, zfm, zfn, zfo, zfp, zfq, zfr, zfs, zft, zfu, zfv, zfw, zfx, zfy, zfz, zga, zgb, zgc, zgd, zge, zgf, zgg, zgh, zgi, zgj, zgk, zgl, zgm, zgn, zgo, zgp, zgq, zgr, zgs, zgt, zgu, zgv, zgw, zgx, zgy, zgz, zha, zhb, zhc, zhd, zhe, zhf, zhg, zhh, zhi] | refine t0 ?_ | refine t1 ?_)
  refine ⟨sz2, _, rfl, ?_⟩
  (repeat first | dsimp only [zaa, zab, zac, zad, zae, zaf, zag, zah, zai, zaj, zak, zal, zam, zan, zao, zap, zaq, zar, zas, zat, zau, zav, zaw, zax, zay, zaz, zba, zbb, zbc, zbd, zbe, zbf, zbg, zbh, zbi, zbk, zbl, zbm, zbn, zbo, zbp, zbq, zbr, zbs, zbt, zbu, zbv, zbw, zbx, zby, zbz, zca, zcb, zcc, zcd, zce, zcf, zcg, zch, zci, zcl, zcm, zcn, zco, zcp, zcq, zcr, zcs, zct, zcu, zcv, zcw, zcx, zcy, zcz, zda, zdb, zdc, zdd, zde, zdf, zdg, zdh, zdi, zdj, zdk, zdl, zdm, zdn, zdo, zdp, zdq, zdr, zds, zdt, zdu, zdv, zdw, zdx, zdy, zdz, zea, zeb, zec, zed, zee, zef, zeg, zeh, zei, zej, zek, zel, zem, zen, zeo, zep, zeq, zer, zes, zet, zeu, zev, zew, zex, zey, zez, zfa, zfb, zfc, zfd, zfe, zff, zfg, zfh, zfi, zfj, zfk, zfl, zfm, zfn, zfo, zfp, zfq, zfr, zfs, zft, zfu, zfv, zfw, zfx, zfy, zfz, zga, zgb, zgc, zgd, zge, zgf, zgg, zgh, zgi, zgj, zgk, zgl, zgm, zgn, zgo, zgp, zgq, zgr, zgs, zgt, zgu, zgv, zgw, zgx, zgy, zgz, zha, zhb, zhc, zhd, zhe, zhf, zhg, zhh, zhi] | refine t0 ?_ | refine t1 ?_)
  refine ⟨vn, _, C3, ?_⟩
  (repeat first | dsimp only [zaa, zab, zac, zad, zae, zaf, zag, zah, zai, zaj, zak, zal, zam, zan, zao, zap, zaq, zar, zas, zat, zau, zav, zaw, zax, zay, zaz, zba, zbb, zbc, zbd, zbe, zbf, zbg, zbh, zbi, zbk, zbl, zbm, zbn, zbo, zbp, zbq, zbr, zbs, zbt, zbu, zbv, zbw, zbx, zby, zbz, zca, zcb, zcc, zcd, zce, zcf, zcg, zch, zci, zcl, zcm, zcn, zco, zcp, zcq, zcr, zcs, zct, zcu, zcv, zcw, zcx, zcy, zcz, zda, zdb, zdc, zdd, zde, zdf, zdg, zdh, zdi, zdj, zdk, zdl, zdm, zdn, zdo, zdp, zdq, zdr, zds, zdt, zdu, zdv, zdw, zdx, zdy, zdz, zea, zeb, zec, zed, zee, zef, zeg, zeh, zei, zej, zek, zel, zem, zen, zeo, zep, zeq, zer, zes, zet, zeu, zev, zew, zex, zey, zez, zfa, zfb, zfc, zfd, zfe, zff, zfg, zfh, zfi, zfj, zfk, zfl, zfm, zfn, zfo, zfp, zfq, zfr, zfs, zft, zfu, zfv, zfw, zfx, zfy, zfz, zga, zgb, zgc, zgd, zge, zgf, zgg, zgh, zgi, zgj, zgk, zgl, zgm, zgn, zgo, zgp, zgq, zgr, zgs, zgt, zgu, zgv, zgw, zgx, zgy, zgz, zha, zhb, zhc, zhd, zhe, zhf, zhg, zhh, zhi] | refine t0 ?_ | refine t1 ?_)
  refine ⟨vn, _, C4, ?_⟩
  (repeat first | dsimp only [zaa, zab, zac, zad, zae, zaf, zag, zah, zai, zaj, zak, zal, zam, zan, zao, zap, zaq, zar, zas, zat, zau, zav, zaw, zax, zay, zaz, zba, zbb, zbc, zbd, zbe, zbf, zbg, zbh, zbi, zbk, zbl, zbm, zbn, zbo, zbp, zbq, zbr, zbs, zbt, zbu, zbv, zbw, zbx, zby, zbz, zca, zcb, zcc, zcd, zce, zcf, zcg, zch, zci, zcl, zcm, zcn, zco, zcp, zcq, zcr, zcs, zct, zcu, zcv, zcw, zcx, zcy, zcz, zda, zdb, zdc, zdd, zde, zdf, zdg, zdh, zdi, zdj, zdk, zdl, zdm, zdn, zdo, zdp, zdq, zdr, zds, zdt, zdu, zdv, zdw, zdx, zdy, zdz, zea, zeb, zec, zed, zee, zef, zeg, zeh, zei, zej, zek, zel, zem, zen, zeo, zep, zeq, zer, zes, zet, zeu, zev, zew, zex, zey, zez, zfa, zfb, zfc, zfd, zfe, zff, zfg, zfh, zfi, zfj, zfk, zfl, zfm, zfn, zfo, zfp, zfq, zfr, zfs, zft, zfu, zfv, zfw, zfx, zfy, zfz, zga, zgb, zgc, zgd, zge, zgf, zgg, zgh, zgi, zgj, zgk, zgl, zgm, zgn, zgo, zgp, zgq, zgr, zgs, zgt, zgu, zgv, zgw, zgx, zgy, zgz, zha, zhb, zhc, zhd, zhe, zhf, zhg, zhh, zhi] | refine t0 ?_ | refine t1 ?_)
  refine ⟨vn, _, C5, ?_⟩
  (repeat first | dsimp only [zaa, zab, zac, zad, zae, zaf, zag, zah, zai, zaj, zak, zal, zam, zan, zao, zap, zaq, zar, zas, zat, zau, zav, zaw, zax, zay, zaz, zba, zbb, zbc, zbd, zbe, zbf, zbg, zbh, zbi, zbk, zbl, zbm, zbn, zbo, zbp, zbq, zbr, zbs, zbt, zbu, zbv, zbw, zbx, zby, zbz, zca, zcb, zcc, zcd, zce, zcf, zcg, zch, zci, zcl, zcm, zcn, zco, zcp, zcq, zcr, zcs, zct, zcu, zcv, zcw, zcx, zcy, zcz, zda, zdb, zdc, zdd, zde, zdf, zdg, zdh, zdi, zdj, zdk, zdl, zdm, zdn, zdo, zdp, zdq, zdr, zds, zdt, zdu, zdv, zdw, zdx, zdy, zdz, zea, zeb, zec, zed, zee, zef, zeg, zeh, zei, zej, zek, zel, zem, zen, zeo, zep, zeq, zer, zes, zet, zeu, zev, zew, zex, zey, zez, zfa, zfb, zfc, zfd, zfe, zff, zfg, zfh, zfi, zfj, zfk, zfl, zfm, zfn, zfo, zfp, zfq, zfr, zfs, zft, zfu, zfv, zfw, zfx, zfy, zfz, zga, zgb, zgc, zgd, zge, zgf, zgg, zgh, zgi, zgj, zgk, zgl, zgm, zgn, zgo, zgp, zgq, zgr, zgs, zgt, zgu, zgv, zgw, zgx, zgy, zgz, zha, zhb, zhc, zhd, zhe, zhf, zhg, zhh, zhi] | refine t0 ?_ | refine t1 ?_)
  refine ⟨vn, _, C6, ?_⟩
  (repeat first | dsimp only [zaa, zab, zac, zad, zae, zaf, zag, zah, zai, zaj, zak, zal, zam, zan, zao, zap, zaq, zar, zas, zat, zau, zav, zaw, zax, zay, zaz, zba, zbb, zbc, zbd, zbe, zbf, zbg, zbh, zbi, zbk, zbl, zbm, zbn, zbo, zbp, zbq, zbr, zbs, zbt, zbu, zbv, zbw, zbx, zby, zbz, zca, zcb, zcc, zcd, zce, zcf, zcg, zch, zci, zcl, zcm, zcn, zco, zcp, zcq, zcr, zcs, zct, zcu, zcv, zcw, zcx, zcy, zcz, zda, zdb, zdc, zdd, zde, zdf, zdg, zdh, zdi, zdj, zdk, zdl, zdm, zdn, zdo, zdp, zdq, zdr, zds, zdt, zdu, zdv, zdw, zdx, zdy, zdz, zea, zeb, zec, zed, zee, zef, zeg, zeh, zei, zej, zek, zel, zem, zen, zeo, zep, zeq, zer, zes, zet, zeu, zev, zew, zex, zey, zez, zfa, zfb, zfc, zfd, zfe, zff, zfg, zfh, zfi, zfj, zfk, zfl, zfm, zfn, zfo, zfp, zfq, zfr, zfs, zft, zfu, zfv, zfw, zfx, zfy, zfz, zga, zgb, zgc, zgd, zge, zgf, zgg, zgh, zgi, zgj, zgk, zgl, zgm, zgn, zgo, zgp, zgq, zgr, zgs, zgt, zgu, zgv, zgw, zgx, zgy, zgz, zha, zhb, zhc, zhd, zhe, zhf, zhg, zhh, zhi] | refine t0 ?_ | refine t1 ?_)
  refine ⟨vn, _, C7, ?_⟩
  (repeat first | dsimp only [zaa, zab, zac, zad, zae, zaf, zag, zah, zai, zaj, zak, zal, zam, zan, zao, zap, zaq, zar, zas, zat, zau, zav, zaw, zax, zay, zaz, zba, zbb, zbc, zbd, zbe, zbf, zbg, zbh, zbi, zbk, zbl, zbm, zbn, zbo, zbp, zbq, zbr, zbs, zbt, zbu, zbv, zbw, zbx, zby, zbz, zca, zcb, zcc, zcd, zce, zcf, zcg, zch, zci, zcl, zcm, zcn, zco, zcp, zcq, zcr, zcs, zct, zcu, zcv, zcw, zcx, zcy, zcz, zda, zdb, zdc, zdd, zde, zdf, zdg, zdh, zdi, zdj, zdk, zdl, zdm, zdn, zdo, zdp, zdq, zdr, zds, zdt, zdu, zdv, zdw, zdx, zdy, zdz, zea, zeb, zec, zed, zee, zef, zeg, zeh, zei, zej, zek, zel, zem, zen, zeo, zep, zeq, zer, zes, zet, zeu, zev, zew, zex, zey, zez, zfa, zfb, zfc, zfd, zfe, zff, zfg, zfh, zfi, zfj, zfk, zfl, zfm, zfn, zfo, zfp, zfq, zfr, zfs, zft, zfu, zfv, zfw, zfx, zfy, zfz, zga, zgb, zgc, zgd, zge, zgf, zgg, zgh, zgi, zgj, zgk, zgl, zgm, zgn, zgo, zgp, zgq, zgr, zgs, zgt, zgu, zgv, zgw, zgx, zgy, zgz, zha, zhb, zhc, zhd, zhe, zhf, zhg, zhh, zhi] | refine t0 ?_ | refine t1 ?_)
  refine ⟨vn, _, C8, sz2, ?_, .inl ⟨_, rfl, rfl⟩⟩
  rw [← hDR, ← hR, if_neg (fun h => h.elim hz1 hz2)]; rfl
noncomputable def rinv (x : Int × Nat) : Int × Nat := (sg (decide (x.1 < 0)) x.2, x.1.natAbs)
theorem r_inverse_ok {W : Wd} {k : Nat} (hW : Wv W) {w : Nat} {x : Int × Nat} (hw : w ≠ 0) (hx : Sm w x) (h0 : x.1 ≠ 0) : CallOk W (k + 1) (Str.ofString "r_inverse") [.val (dR w x)] (dR w (rinv x)) [.val (dR w x)] := by
  refine call_fn (d := defAt 26) (as := []) (p := Str.ofString "x") (ds := []) (n := 60) (fx := []) hW.2 (rec_mem 26 (by decide) hW) fn26 rfl ?_
  obtain ⟨n1, d1⟩ := x
  obtain ⟨hx1, hx2, hx0⟩ := hx
  dsimp only at hx1 hx2 hx0 h0
  have e : dR w (rinv (n1, d1)) = .tup [.tup [.bool (decide (n1 < 0)), dL w d1], .list (nl (lim w n1.natAbs))] := by
    unfold dR rinv
    rw [dS_sg, decide_eq_true (Nat.pos_of_ne_zero hx0), Bool.and_true]; rfl
  have u1 : dR w (n1, d1) = .tup [.tup [.bool (decide (n1 < 0)), .list (nl (lim w n1.natAbs))], dL w d1] := rfl
  rw [e, u1]
  have zl1 := nl_len (lim w n1.natAbs)
  have z1 : (lim w n1.natAbs).length ≠ 0 := fun e => h0 (Int.natAbs_eq_zero.mp ((lim_nil hw).mp e))
  generalize nl (lim w n1.natAbs) = m1 at *
  generalize dL w d1 = e1 at *
  generalize decide (n1 < 0) = b at *
  conv in (co _ _ _) => reduce
  conv in (initR _ _) => reduce
  (repeat first | dsimp only [zaa, zab, zac, zad, zae, zaf, zag, zah, zai, zaj, zak, zal, zam, zan, zao, zap, zaq, zar, zas, zat, zau, zav, zaw, zax, zay, zaz, zba, zbb, zbc, zbd, zbe, zbf, zbg, zbh, zbi, zbk, zbl, zbm, zbn, zbo, zbp, zbq, zbr, zbs, zbt, zbu, zbv, zbw, zbx, zby, zbz, zca, zcb, zcc, zcd, zce, zcf, zcg, zch, zci, zcl, zcm, zcn, zco, zcp, zcq, zcr, zcs, zct, zcu, zcv, zcw, zcx, zcy, zcz, zda, zdb, zdc, zdd, zde, zdf, zdg, zdh, zdi, zdj, zdk, zdl, zdm, zdn, zdo, zdp, zdq, zdr, zds, zdt, zdu, zdv, zdw, zdx, zdy, zdz, zea, zeb, zec, zed, zee, zef, zeg, zeh, zei, zej, zek, zel, zem, zen, zeo, zep, zeq, zer, zes, zet, zeu, zev, zew, zex, zey, zez, zfa, zfb, zfc, zfd, zfe, zff, zfg, zfh, zfi, zfj, zfk, zfl, zfm, zfn, zfo, zfp, zfq, zfr, zfs, zft, zfu, zfv, zfw, zfx, zfy, zfz, zga, zgb, zgc, zgd, zge, zgf, zgg, zgh, zgi, zgj, zgk, zgl, zgm, zgn, zgo, zgp, zgq, zgr, zgs, zgt, zgu, zgv, zgw, zgx, zgy, zgz, zha, zhb, zhc, zhd, zhe, zhf, zhg, zhh, zhi] | refine t0 ?_ | refine t1 ?_)
  refine len_ok (l62 zl1 (Nat.lt_trans hx1 (by decide))) ?_
  (repeat first | dsimp only [zaa, zab, zac, zad, zae, zaf, zag, zah, zai, zaj, zak, zal, zam, zan, zao, zap, zaq, zar, zas, zat, zau, zav, zaw, zax, zay, zaz, zba, zbb, zbc, zbd, zbe, zbf, zbg, zbh, zbi, zbk, zbl, zbm, zbn, zbo, zbp, zbq, zbr, zbs, zbt, zbu, zbv, zbw, zbx, zby, zbz, zca, zcb, zcc, zcd, zce, zcf, zcg, zch, zci, zcl, zcm, zcn, zco, zcp, zcq, zcr, zcs, zct, zcu, zcv, zcw, zcx, zcy, zcz, zda, zdb, zdc, zdd, zde, zdf, zdg, zdh, zdi, zdj, zdk, zdl, zdm, zdn, zdo, zdp, zdq, zdr, zds, zdt, zdu, zdv, zdw, zdx, zdy, zdz, zea, zeb, zec, zed, zee, zef, zeg, zeh, zei, zej, zek, zel, zem, zen, zeo, zep, zeq, zer, zes, zet, zeu, zev, zew, zex, zey, zez, zfa, zfb, zfc, zfd, zfe, zff, zfg, zfh, zfi, zfj, zfk, zfl, zfm, zfn, zfo, zfp, zfq, zfr, zfs, zft, zfu, zfv, zfw, zfx, zfy, zfz, zga, zgb, zgc, zgd, zge, zgf, zgg, zgh, zgi, zgj, zgk, zgl, zgm, zgn, zgo, zgp, zgq, zgr, zgs, zgt, zgu, zgv, zgw, zgx, zgy, zgz, zha, zhb, zhc, zhd, zhe, zhf, zhg, zhh, zhi] | refine t0 ?_ | refine t1 ?_)
  refine ⟨fun h => absurd (zl1 ▸ Int.ofNat.inj (decT h)) z1, fun h => ?_⟩
  (repeat first | dsimp only [zaa, zab, zac, zad, zae, zaf, zag, zah, zai, zaj, zak, zal, zam, zan, zao, zap, zaq, zar, zas, zat, zau, zav, zaw, zax, zay, zaz, zba, zbb, zbc, zbd, zbe, zbf, zbg, zbh, zbi, zbk, zbl, zbm, zbn, zbo, zbp, zbq, zbr, zbs, zbt, zbu, zbv, zbw, zbx, zby, zbz, zca, zcb, zcc, zcd, zce, zcf, zcg, zch, zci, zcl, zcm, zcn, zco, zcp, zcq, zcr, zcs, zct, zcu, zcv, zcw, zcx, zcy, zcz, zda, zdb, zdc, zdd, zde, zdf, zdg, zdh, zdi, zdj, zdk, zdl, zdm, zdn, zdo, zdp, zdq, zdr, zds, zdt, zdu, zdv, zdw, zdx, zdy, zdz, zea, zeb, zec, zed, zee, zef, zeg, zeh, zei, zej, zek, zel, zem, zen, zeo, zep, zeq, zer, zes, zet, zeu, zev, zew, zex, zey, zez, zfa, zfb, zfc, zfd, zfe, zff, zfg, zfh, zfi, zfj, zfk, zfl, zfm, zfn, zfo, zfp, zfq, zfr, zfs, zft, zfu, zfv, zfw, zfx, zfy, zfz, zga, zgb, zgc, zgd, zge, zgf, zgg, zgh, zgi, zgj, zgk, zgl, zgm, zgn, zgo, zgp, zgq, zgr, zgs, zgt, zgu, zgv, zgw, zgx, zgy, zgz, zha, zhb, zhc, zhd, zhe, zhf, zhg, zhh, zhi] | refine t0 ?_ | refine t1 ?_)
  refine ⟨sz2, ?_⟩
  (repeat first | dsimp only [zaa, zab, zac, zad, zae, zaf, zag, zah, zai, zaj, zak, zal, zam, zan, zao, zap, zaq, zar, zas, zat, zau, zav, zaw, zax, zay, zaz, zba, zbb, zbc, zbd, zbe, zbf, zbg, zbh, zbi, zbk, zbl, zbm, zbn, zbo, zbp, zbq, zbr, zbs, zbt, zbu, zbv, zbw, zbx, zby, zbz, zca, zcb, zcc, zcd, zce, zcf, zcg, zch, zci, zcl, zcm, zcn, zco, zcp, zcq, zcr, zcs, zct, zcu, zcv, zcw, zcx, zcy, zcz, zda, zdb, zdc, zdd, zde, zdf, zdg, zdh, zdi, zdj, zdk, zdl, zdm, zdn, zdo, zdp, zdq, zdr, zds, zdt, zdu, zdv, zdw, zdx, zdy, zdz, zea, zeb, zec, zed, zee, zef, zeg, zeh, zei, zej, zek, zel, zem, zen, zeo, zep, zeq, zer, zes, zet, zeu, zev, zew, zex, zey, zez, zfa, zfb, zfc, zfd, zfe, zff, zfg, zfh, zfi, zfj, zfk, zfl, zfm, zfn, zfo, zfp, zfq, zfr, zfs, zft, zfu, zfv, zfw, zfx, zfy, zfz, zga, zgb, zgc, zgd, zge, zgf, zgg, zgh, zgi, zgj, zgk, zgl, zgm, zgn, zgo, zgp, zgq, zgr, zgs, zgt, zgu, zgv, zgw, zgx, zgy, zgz, zha, zhb, zhc, zhd, zhe, zhf, zhg, zhh, zhi] | refine t0 ?_ | refine t1 ?_)
  exact ⟨sz2, rfl, .inl ⟨_, rfl, rfl⟩⟩
noncomputable def rdiv (x y : Int × Nat) : Int × Nat := rmul x (rinv y)
theorem Sm.inv {w : Nat} {x : Int × Nat} (h : Sm w x) (h0 : x.1 ≠ 0) : Sm w (rinv x) := ⟨by unfold rinv; dsimp only; rw [sg_abs]; exact h.2.1, h.1, fun e => h0 (Int.natAbs_eq_zero.mp e)⟩
theorem r_div_ok {W : Wd} {k : Nat} (hW : Wv W) {w : Nat} {x y : Int × Nat} (hw : w ≠ 0) (hw8 : w ≤ 8) (hx : Sm w x) (hy : Sm w y) (h0 : y.1 ≠ 0) : CallOk W (k + 7) (Str.ofString "r_div") [.val (dR w x), .val (dR w y), .val (.int (w : Int)), .val fM, .val fD] (dR w (rdiv x y)) [.val (dR w x), .val (dR w y), .val (.int (w : Int)), .val fM, .val fD] := by
  refine call_fn (d := defAt 27) (as := [Str.ofString "y", Str.ofString "w", Str.ofString "mul", Str.ofString "divrem"]) (p := Str.ofString "x") (ds := [dR w y, .int (w : Int), fM, fD]) (n := 60) (fx := []) hW.2 (rec_mem 27 (by decide) hW) fn27 rfl ?_
  have C1 := r_inverse_ok (k := k + 5) hW hw hy h0
  have C2 := r_mul_ok (k := k) hW hw hw8 hx (hy.inv h0)
  unfold rdiv
  generalize dR w x = dx at *
  generalize dR w y = dy at *
  generalize dR w (rinv y) = dz at *
  conv in (co _ _ _) => reduce
  conv in (initR _ _) => reduce
  (repeat first | dsimp only [zaa, zab, zac, zad, zae, zaf, zag, zah, zai, zaj, zak, zal, zam, zan, zao, zap, zaq, zar, zas, zat, zau, zav, zaw, zax, zay, zaz, zba, zbb, zbc, zbd, zbe, zbf, zbg, zbh, zbi, zbk, zbl, zbm, zbn, zbo, zbp, zbq, zbr, zbs, zbt, zbu, zbv, zbw, zbx, zby, zbz, zca, zcb, zcc, zcd, zce, zcf, zcg, zch, zci, zcl, zcm, zcn, zco, zcp, zcq, zcr, zcs, zct, zcu, zcv, zcw, zcx, zcy, zcz, zda, zdb, zdc, zdd, zde, zdf, zdg, zdh, zdi, zdj, zdk, zdl, zdm, zdn, zdo, zdp, zdq, zdr, zds, zdt, zdu, zdv, zdw, zdx, zdy, zdz, zea, zeb, zec, zed, zee, zef, zeg, zeh, zei, zej, zek, zel, zem, zen, zeo, zep, zeq, zer, zes, zet, zeu, zev, zew, zex, zey, zez, zfa, zfb, zfc, zfd, zfe, zff, zfg, zfh, zfi, zfj, zfk, zfl, zfm, zfn, zfo, zfp, zfq, zfr, zfs, zft, zfu, zfv, zfw, zfx, zfy, zfz, zga, zgb, zgc, zgd, zge, zgf, zgg, zgh, zgi, zgj, zgk, zgl, zgm, zgn, zgo, zgp, zgq, zgr, zgs, zgt, zgu, zgv, zgw, zgx, zgy, zgz, zha, zhb, zhc, zhd, zhe, zhf, zhg, zhh, zhi] | refine t0 ?_ | refine t1 ?_)
  exact ⟨vn, _, C1, vn, _, C2, rfl, .inl ⟨_, rfl, rfl⟩⟩
end Mine

set_option maxHeartbeats 4000000
namespace Mine
open PySem PySem.W PyProof.Rows PySem.Calls PySem.Spec PySem.Challenge
/-- the next draw -/
noncomputable def draw (ks : List Nat) (i m : Nat) : Nat := if i < ks.length then ks.getD i 0 % m else (5 * (i + 1) + (i + 1) / 2 + 7) % m
theorem fathomed_ok {W : Wd} {k : Nat} (hW : Wv W) {ks : List Nat} {i m : Nat} (hk : ks.length < 100) (hi : i < 1000) (hm : 0 < m) : CallOk W (k + 1) (Str.ofString "_law_fathomed") [.own [.int (i : Int), .list (nl ks)], .val (.int (m : Int))] (.int (draw ks i m : Nat)) [.own [.int ((i + 1 : Nat) : Int), .list (nl ks)], .val (.int (m : Int))] := by
  refine call_fn (d := defAt 37) (as := [Str.ofString "many"]) (p := Str.ofString "line") (ds := [.int (m : Int)]) (n := 60) (fx := [Str.ofString "line"]) hW.2 (rec_mem 37 (by decide) hW) fn37 rfl ?_
  have lp := nl_len ks
  have gp := nl_getD ks
  generalize nl ks = dk at *
  conv in (co _ _ _) => reduce
  conv in (initR _ _) => reduce
  dsimp only [zaa, zab, zac, zad, zae, zaf, zag, zah, zai, zaj, zak, zal, zam, zan, zao, zap, zaq, zar, zas, zat, zau, zav, zaw, zax, zay, zaz, zba, zbb, zbc, zbd, zbe, zbf, zbg, zbh, zbi, zbk, zbl, zbm, zbn, zbo, zbp, zbq, zbr, zbs, zbt, zbu, zbv, zbw, zbx, zby, zbz, zca, zcb, zcc, zcd, zce, zcf, zcg, zch, zci, zcl, zcm, zcn, zco, zcp, zcq, zcr, zcs, zct, zcu, zcv, zcw, zcx, zcy, zcz, zda, zdb, zdc, zdd, zde, zdf, zdg, zdh, zdi, zdj, zdk, zdl, zdm, zdn, zdo, zdp, zdq, zdr, zds, zdt, zdu, zdv, zdw, zdx, zdy, zdz, zea, zeb, zec, zed, zee, zef, zeg, zeh, zei, zej, zek, zel, zem, zen, zeo, zep, zeq, zer, zes, zet, zeu, zev, zew, zex, zey, zez, zfa, zfb, zfc, zfd, zfe, zff, zfg, zfh, zfi, zfj, zfk, zfl, zfm, zfn, zfo, zfp, zfq, zfr, zfs, zft, zfu, zfv, zfw, zfx, zfy, zfz, zga, zgb, zgc, zgd, zge, zgf, zgg, zgh, zgi, zgj, zgk, zgl, zgm, zgn, zgo, zgp, zgq, zgr, zgs, zgt, zgu, zgv, zgw, zgx, zgy, zgz, zha, zhb, zhc, zhd, zhe, zhf, zhg, zhh, zhi, zhx, zhy, zhz, zia]
  refine ixn (i := 0) (n := 1) (by decide) (by decide) rfl ?_
  dsimp only [zaa, zab, zac, zad, zae, zaf, zag, zah, zai, zaj, zak, zal, zam, zan, zao, zap, zaq, zar, zas, zat, zau, zav, zaw, zax, zay, zaz, zba, zbb, zbc, zbd, zbe, zbf, zbg, zbh, zbi, zbk, zbl, zbm, zbn, zbo, zbp, zbq, zbr, zbs, zbt, zbu, zbv, zbw, zbx, zby, zbz, zca, zcb, zcc, zcd, zce, zcf, zcg, zch, zci, zcl, zcm, zcn, zco, zcp, zcq, zcr, zcs, zct, zcu, zcv, zcw, zcx, zcy, zcz, zda, zdb, zdc, zdd, zde, zdf, zdg, zdh, zdi, zdj, zdk, zdl, zdm, zdn, zdo, zdp, zdq, zdr, zds, zdt, zdu, zdv, zdw, zdx, zdy, zdz, zea, zeb, zec, zed, zee, zef, zeg, zeh, zei, zej, zek, zel, zem, zen, zeo, zep, zeq, zer, zes, zet, zeu, zev, zew, zex, zey, zez, zfa, zfb, zfc, zfd, zfe, zff, zfg, zfh, zfi, zfj, zfk, zfl, zfm, zfn, zfo, zfp, zfq, zfr, zfs, zft, zfu, zfv, zfw, zfx, zfy, zfz, zga, zgb, zgc, zgd, zge, zgf, zgg, zgh, zgi, zgj, zgk, zgl, zgm, zgn, zgo, zgp, zgq, zgr, zgs, zgt, zgu, zgv, zgw, zgx, zgy, zgz, zha, zhb, zhc, zhd, zhe, zhf, zhg, zhh, zhi, zhx, zhy, zhz, zia]
  rw [show [D.int (i : Int), D.list dk].set 0 (D.int ((i + 1 : Nat) : Int)) = [D.int ((i + 1 : Nat) : Int), D.list dk] from rfl]
  refine ⟨⟨Int.le_refl _, Int.ofNat_lt.mpr (Nat.succ_pos _), l62 (n := 2) rfl (by decide)⟩, ?_⟩
  refine ixn (i := 0) (n := 1) (by decide) (by decide) rfl ?_
  dsimp only [zaa, zab, zac, zad, zae, zaf, zag, zah, zai, zaj, zak, zal, zam, zan, zao, zap, zaq, zar, zas, zat, zau, zav, zaw, zax, zay, zaz, zba, zbb, zbc, zbd, zbe, zbf, zbg, zbh, zbi, zbk, zbl, zbm, zbn, zbo, zbp, zbq, zbr, zbs, zbt, zbu, zbv, zbw, zbx, zby, zbz, zca, zcb, zcc, zcd, zce, zcf, zcg, zch, zci, zcl, zcm, zcn, zco, zcp, zcq, zcr, zcs, zct, zcu, zcv, zcw, zcx, zcy, zcz, zda, zdb, zdc, zdd, zde, zdf, zdg, zdh, zdi, zdj, zdk, zdl, zdm, zdn, zdo, zdp, zdq, zdr, zds, zdt, zdu, zdv, zdw, zdx, zdy, zdz, zea, zeb, zec, zed, zee, zef, zeg, zeh, zei, zej, zek, zel, zem, zen, zeo, zep, zeq, zer, zes, zet, zeu, zev, zew, zex, zey, zez, zfa, zfb, zfc, zfd, zfe, zff, zfg, zfh, zfi, zfj, zfk, zfl, zfm, zfn, zfo, zfp, zfq, zfr, zfs, zft, zfu, zfv, zfw, zfx, zfy, zfz, zga, zgb, zgc, zgd, zge, zgf, zgg, zgh, zgi, zgj, zgk, zgl, zgm, zgn, zgo, zgp, zgq, zgr, zgs, zgt, zgu, zgv, zgw, zgx, zgy, zgz, zha, zhb, zhc, zhd, zhe, zhf, zhg, zhh, zhi, zhx, zhy, zhz, zia]
  refine ixn (i := 1) (n := 2) (by decide) (by decide) rfl ?_
  dsimp only [zaa, zab, zac, zad, zae, zaf, zag, zah, zai, zaj, zak, zal, zam, zan, zao, zap, zaq, zar, zas, zat, zau, zav, zaw, zax, zay, zaz, zba, zbb, zbc, zbd, zbe, zbf, zbg, zbh, zbi, zbk, zbl, zbm, zbn, zbo, zbp, zbq, zbr, zbs, zbt, zbu, zbv, zbw, zbx, zby, zbz, zca, zcb, zcc, zcd, zce, zcf, zcg, zch, zci, zcl, zcm, zcn, zco, zcp, zcq, zcr, zcs, zct, zcu, zcv, zcw, zcx, zcy, zcz, zda, zdb, zdc, zdd, zde, zdf, zdg, zdh, zdi, zdj, zdk, zdl, zdm, zdn, zdo, zdp, zdq, zdr, zds, zdt, zdu, zdv, zdw, zdx, zdy, zdz, zea, zeb, zec, zed, zee, zef, zeg, zeh, zei, zej, zek, zel, zem, zen, zeo, zep, zeq, zer, zes, zet, zeu, zev, zew, zex, zey, zez, zfa, zfb, zfc, zfd, zfe, zff, zfg, zfh, zfi, zfj, zfk, zfl, zfm, zfn, zfo, zfp, zfq, zfr, zfs, zft, zfu, zfv, zfw, zfx, zfy, zfz, zga, zgb, zgc, zgd, zge, zgf, zgg, zgh, zgi, zgj, zgk, zgl, zgm, zgn, zgo, zgp, zgq, zgr, zgs, zgt, zgu, zgv, zgw, zgx, zgy, zgz, zha, zhb, zhc, zhd, zhe, zhf, zhg, zhh, zhi, zhx, zhy, zhz, zia]
  refine len_ok (l62 lp (Nat.lt_trans hk (by decide))) ?_
  dsimp only [zaa, zab, zac, zad, zae, zaf, zag, zah, zai, zaj, zak, zal, zam, zan, zao, zap, zaq, zar, zas, zat, zau, zav, zaw, zax, zay, zaz, zba, zbb, zbc, zbd, zbe, zbf, zbg, zbh, zbi, zbk, zbl, zbm, zbn, zbo, zbp, zbq, zbr, zbs, zbt, zbu, zbv, zbw, zbx, zby, zbz, zca, zcb, zcc, zcd, zce, zcf, zcg, zch, zci, zcl, zcm, zcn, zco, zcp, zcq, zcr, zcs, zct, zcu, zcv, zcw, zcx, zcy, zcz, zda, zdb, zdc, zdd, zde, zdf, zdg, zdh, zdi, zdj, zdk, zdl, zdm, zdn, zdo, zdp, zdq, zdr, zds, zdt, zdu, zdv, zdw, zdx, zdy, zdz, zea, zeb, zec, zed, zee, zef, zeg, zeh, zei, zej, zek, zel, zem, zen, zeo, zep, zeq, zer, zes, zet, zeu, zev, zew, zex, zey, zez, zfa, zfb, zfc, zfd, zfe, zff, zfg, zfh, zfi, zfj, zfk, zfl, zfm, zfn, zfo, zfp, zfq, zfr, zfs, zft, zfu, zfv, zfw, zfx, zfy, zfz, zga, zgb, zgc, zgd, zge, zgf, zgg, zgh, zgi, zgj, zgk, zgl, zgm, zgn, zgo, zgp, zgq, zgr, zgs, zgt, zgu, zgv, zgw, zgx, zgy, zgz, zha, zhb, zhc, zhd, zhe, zhf, zhg, zhh, zhi, zhx, zhy, zhz, zia]
  rw [lp]
  unfold draw
  have hi1 : i + 1 < 256 * 4 := by omega
  have s1 : smallInt ((5 : Nat) : Int) := smN (by decide)
  have hm' : (0 : Int) < (m : Int) := Int.natCast_pos.mpr hm
  refine ⟨fun h => ?_, fun h => ?_⟩
  · have hh : i < ks.length := Int.ofNat_le.mp (decT h)
    refine ixn (i := 1) (n := 2) (by decide) (by decide) rfl ?_
    dsimp only [zaa, zab, zac, zad, zae, zaf, zag, zah, zai, zaj, zak, zal, zam, zan, zao, zap, zaq, zar, zas, zat, zau, zav, zaw, zax, zay, zaz, zba, zbb, zbc, zbd, zbe, zbf, zbg, zbh, zbi, zbk, zbl, zbm, zbn, zbo, zbp, zbq, zbr, zbs, zbt, zbu, zbv, zbw, zbx, zby, zbz, zca, zcb, zcc, zcd, zce, zcf, zcg, zch, zci, zcl, zcm, zcn, zco, zcp, zcq, zcr, zcs, zct, zcu, zcv, zcw, zcx, zcy, zcz, zda, zdb, zdc, zdd, zde, zdf, zdg, zdh, zdi, zdj, zdk, zdl, zdm, zdn, zdo, zdp, zdq, zdr, zds, zdt, zdu, zdv, zdw, zdx, zdy, zdz, zea, zeb, zec, zed, zee, zef, zeg, zeh, zei, zej, zek, zel, zem, zen, zeo, zep, zeq, zer, zes, zet, zeu, zev, zew, zex, zey, zez, zfa, zfb, zfc, zfd, zfe, zff, zfg, zfh, zfi, zfj, zfk, zfl, zfm, zfn, zfo, zfp, zfq, zfr, zfs, zft, zfu, zfv, zfw, zfx, zfy, zfz, zga, zgb, zgc, zgd, zge, zgf, zgg, zgh, zgi, zgj, zgk, zgl, zgm, zgn, zgo, zgp, zgq, zgr, zgs, zgt, zgu, zgv, zgw, zgx, zgy, zgz, zha, zhb, zhc, zhd, zhe, zhf, zhg, zhh, zhi, zhx, zhy, zhz, zia]
    refine ixn (i := 0) (n := 1) (by decide) (by decide) rfl ?_
    dsimp only [zaa, zab, zac, zad, zae, zaf, zag, zah, zai, zaj, zak, zal, zam, zan, zao, zap, zaq, zar, zas, zat, zau, zav, zaw, zax, zay, zaz, zba, zbb, zbc, zbd, zbe, zbf, zbg, zbh, zbi, zbk, zbl, zbm, zbn, zbo, zbp, zbq, zbr, zbs, zbt, zbu, zbv, zbw, zbx, zby, zbz, zca, zcb, zcc, zcd, zce, zcf, zcg, zch, zci, zcl, zcm, zcn, zco, zcp, zcq, zcr, zcs, zct, zcu, zcv, zcw, zcx, zcy, zcz, zda, zdb, zdc, zdd, zde, zdf, zdg, zdh, zdi, zdj, zdk, zdl, zdm, zdn, zdo, zdp, zdq, zdr, zds, zdt, zdu, zdv, zdw, zdx, zdy, zdz, zea, zeb, zec, zed, zee, zef, zeg, zeh, zei, zej, zek, zel, zem, zen, zeo, zep, zeq, zer, zes, zet, zeu, zev, zew, zex, zey, zez, zfa, zfb, zfc, zfd, zfe, zff, zfg, zfh, zfi, zfj, zfk, zfl, zfm, zfn, zfo, zfp, zfq, zfr, zfs, zft, zfu, zfv, zfw, zfx, zfy, zfz, zga, zgb, zgc, zgd, zge, zgf, zgg, zgh, zgi, zgj, zgk, zgl, zgm, zgn, zgo, zgp, zgq, zgr, zgs, zgt, zgu, zgv, zgw, zgx, zgy, zgz, zha, zhb, zhc, zhd, zhe, zhf, zhg, zhh, zhi, zhx, zhy, zhz, zia]
    rw [show ((i + 1 : Nat) : Int) - ((1 : Nat) : Int) = (i : Int) by omega]
    refine ixn hh (Nat.lt_trans hk (by decide)) (gp i hh) ?_
    dsimp only [zaa, zab, zac, zad, zae, zaf, zag, zah, zai, zaj, zak, zal, zam, zan, zao, zap, zaq, zar, zas, zat, zau, zav, zaw, zax, zay, zaz, zba, zbb, zbc, zbd, zbe, zbf, zbg, zbh, zbi, zbk, zbl, zbm, zbn, zbo, zbp, zbq, zbr, zbs, zbt, zbu, zbv, zbw, zbx, zby, zbz, zca, zcb, zcc, zcd, zce, zcf, zcg, zch, zci, zcl, zcm, zcn, zco, zcp, zcq, zcr, zcs, zct, zcu, zcv, zcw, zcx, zcy, zcz, zda, zdb, zdc, zdd, zde, zdf, zdg, zdh, zdi, zdj, zdk, zdl, zdm, zdn, zdo, zdp, zdq, zdr, zds, zdt, zdu, zdv, zdw, zdx, zdy, zdz, zea, zeb, zec, zed, zee, zef, zeg, zeh, zei, zej, zek, zel, zem, zen, zeo, zep, zeq, zer, zes, zet, zeu, zev, zew, zex, zey, zez, zfa, zfb, zfc, zfd, zfe, zff, zfg, zfh, zfi, zfj, zfk, zfl, zfm, zfn, zfo, zfp, zfq, zfr, zfs, zft, zfu, zfv, zfw, zfx, zfy, zfz, zga, zgb, zgc, zgd, zge, zgf, zgg, zgh, zgi, zgj, zgk, zgl, zgm, zgn, zgo, zgp, zgq, zgr, zgs, zgt, zgu, zgv, zgw, zgx, zgy, zgz, zha, zhb, zhc, zhd, zhe, zhf, zhg, zhh, zhi, zhx, zhy, zhz, zia]
    rw [if_pos hh]
    exact ⟨hm', rfl, .inr ⟨_, 0, rfl, rfl, rfl⟩⟩
  · have hh : ¬ i < ks.length := fun e => decF h (Int.ofNat_le.mpr e)
    refine ixn (i := 0) (n := 1) (by decide) (by decide) rfl ?_
    dsimp only [zaa, zab, zac, zad, zae, zaf, zag, zah, zai, zaj, zak, zal, zam, zan, zao, zap, zaq, zar, zas, zat, zau, zav, zaw, zax, zay, zaz, zba, zbb, zbc, zbd, zbe, zbf, zbg, zbh, zbi, zbk, zbl, zbm, zbn, zbo, zbp, zbq, zbr, zbs, zbt, zbu, zbv, zbw, zbx, zby, zbz, zca, zcb, zcc, zcd, zce, zcf, zcg, zch, zci, zcl, zcm, zcn, zco, zcp, zcq, zcr, zcs, zct, zcu, zcv, zcw, zcx, zcy, zcz, zda, zdb, zdc, zdd, zde, zdf, zdg, zdh, zdi, zdj, zdk, zdl, zdm, zdn, zdo, zdp, zdq, zdr, zds, zdt, zdu, zdv, zdw, zdx, zdy, zdz, zea, zeb, zec, zed, zee, zef, zeg, zeh, zei, zej, zek, zel, zem, zen, zeo, zep, zeq, zer, zes, zet, zeu, zev, zew, zex, zey, zez, zfa, zfb, zfc, zfd, zfe, zff, zfg, zfh, zfi, zfj, zfk, zfl, zfm, zfn, zfo, zfp, zfq, zfr, zfs, zft, zfu, zfv, zfw, zfx, zfy, zfz, zga, zgb, zgc, zgd, zge, zgf, zgg, zgh, zgi, zgj, zgk, zgl, zgm, zgn, zgo, zgp, zgq, zgr, zgs, zgt, zgu, zgv, zgw, zgx, zgy, zgz, zha, zhb, zhc, zhd, zhe, zhf, zhg, zhh, zhi, zhx, zhy, zhz, zia]
    refine ⟨s1, ?_⟩
    refine ixn (i := 0) (n := 1) (by decide) (by decide) rfl ?_
    dsimp only [zaa, zab, zac, zad, zae, zaf, zag, zah, zai, zaj, zak, zal, zam, zan, zao, zap, zaq, zar, zas, zat, zau, zav, zaw, zax, zay, zaz, zba, zbb, zbc, zbd, zbe, zbf, zbg, zbh, zbi, zbk, zbl, zbm, zbn, zbo, zbp, zbq, zbr, zbs, zbt, zbu, zbv, zbw, zbx, zby, zbz, zca, zcb, zcc, zcd, zce, zcf, zcg, zch, zci, zcl, zcm, zcn, zco, zcp, zcq, zcr, zcs, zct, zcu, zcv, zcw, zcx, zcy, zcz, zda, zdb, zdc, zdd, zde, zdf, zdg, zdh, zdi, zdj, zdk, zdl, zdm, zdn, zdo, zdp, zdq, zdr, zds, zdt, zdu, zdv, zdw, zdx, zdy, zdz, zea, zeb, zec, zed, zee, zef, zeg, zeh, zei, zej, zek, zel, zem, zen, zeo, zep, zeq, zer, zes, zet, zeu, zev, zew, zex, zey, zez, zfa, zfb, zfc, zfd, zfe, zff, zfg, zfh, zfi, zfj, zfk, zfl, zfm, zfn, zfo, zfp, zfq, zfr, zfs, zft, zfu, zfv, zfw, zfx, zfy, zfz, zga, zgb, zgc, zgd, zge, zgf, zgg, zgh, zgi, zgj, zgk, zgl, zgm, zgn, zgo, zgp, zgq, zgr, zgs, zgt, zgu, zgv, zgw, zgx, zgy, zgz, zha, zhb, zhc, zhd, zhe, zhf, zhg, zhh, zhi, zhx, zhy, zhz, zia]
    rw [if_neg hh]
    exact ⟨⟨by decide, by decide⟩, hm', rfl, .inr ⟨_, 0, rfl, rfl, rfl⟩⟩
theorem p2 (w : Nat) : ((2 : Nat) : Int) ^ w = ((2 ^ w : Nat) : Int) := (Int.natCast_pow 2 w).symm
theorem limbs_ok {W : Wd} {k : Nat} (hW : Wv W) {w n : Nat} (hw : w ≠ 0) (hw8 : w ≤ 8) (hn : ln w n < 2 ^ 20) : CallOk W (k + 1) (Str.ofString "_law_limbs") [.val (.int (n : Int)), .val (.int (w : Int))] (dL w n) [.val (.int (n : Int)), .val (.int (w : Int))] := by
  refine call_fn (d := defAt 38) (as := [Str.ofString "w"]) (p := Str.ofString "number") (ds := [.int (w : Int)]) (n := 60) (fx := []) hW.2 (rec_mem 38 (by decide) hW) fn38 rfl ?_
  unfold dL
  conv in (co _ _ _) => reduce
  conv in (initR _ _) => reduce
  dsimp only [zaa, zab, zac, zad, zae, zaf, zag, zah, zai, zaj, zak, zal, zam, zan, zao, zap, zaq, zar, zas, zat, zau, zav, zaw, zax, zay, zaz, zba, zbb, zbc, zbd, zbe, zbf, zbg, zbh, zbi, zbk, zbl, zbm, zbn, zbo, zbp, zbq, zbr, zbs, zbt, zbu, zbv, zbw, zbx, zby, zbz, zca, zcb, zcc, zcd, zce, zcf, zcg, zch, zci, zcl, zcm, zcn, zco, zcp, zcq, zcr, zcs, zct, zcu, zcv, zcw, zcx, zcy, zcz, zda, zdb, zdc, zdd, zde, zdf, zdg, zdh, zdi, zdj, zdk, zdl, zdm, zdn, zdo, zdp, zdq, zdr, zds, zdt, zdu, zdv, zdw, zdx, zdy, zdz, zea, zeb, zec, zed, zee, zef, zeg, zeh, zei, zej, zek, zel, zem, zen, zeo, zep, zeq, zer, zes, zet, zeu, zev, zew, zex, zey, zez, zfa, zfb, zfc, zfd, zfe, zff, zfg, zfh, zfi, zfj, zfk, zfl, zfm, zfn, zfo, zfp, zfq, zfr, zfs, zft, zfu, zfv, zfw, zfx, zfy, zfz, zga, zgb, zgc, zgd, zge, zgf, zgg, zgh, zgi, zgj, zgk, zgl, zgm, zgn, zgo, zgp, zgq, zgr, zgs, zgt, zgu, zgv, zgw, zgx, zgy, zgz, zha, zhb, zhc, zhd, zhe, zhf, zhg, zhh, zhi, zhx, zhy, zhz, zia]
  refine ⟨sz0, ?_⟩
  refine while_inv (fun q ρ => ∃ fs, ρ = [some (.val (.int (q : Nat))), some (.val (.int w)), some (.own (nl fs))] ∧ fs ++ lim w q = lim w n) ?_ ⟨[], rfl, rfl⟩
  rintro q ρ ⟨fs, rfl, hs⟩ C hC
  dsimp only [zaa, zab, zac, zad, zae, zaf, zag, zah, zai, zaj, zak, zal, zam, zan, zao, zap, zaq, zar, zas, zat, zau, zav, zaw, zax, zay, zaz, zba, zbb, zbc, zbd, zbe, zbf, zbg, zbh, zbi, zbk, zbl, zbm, zbn, zbo, zbp, zbq, zbr, zbs, zbt, zbu, zbv, zbw, zbx, zby, zbz, zca, zcb, zcc, zcd, zce, zcf, zcg, zch, zci, zcl, zcm, zcn, zco, zcp, zcq, zcr, zcs, zct, zcu, zcv, zcw, zcx, zcy, zcz, zda, zdb, zdc, zdd, zde, zdf, zdg, zdh, zdi, zdj, zdk, zdl, zdm, zdn, zdo, zdp, zdq, zdr, zds, zdt, zdu, zdv, zdw, zdx, zdy, zdz, zea, zeb, zec, zed, zee, zef, zeg, zeh, zei, zej, zek, zel, zem, zen, zeo, zep, zeq, zer, zes, zet, zeu, zev, zew, zex, zey, zez, zfa, zfb, zfc, zfd, zfe, zff, zfg, zfh, zfi, zfj, zfk, zfl, zfm, zfn, zfo, zfp, zfq, zfr, zfs, zft, zfu, zfv, zfw, zfx, zfy, zfz, zga, zgb, zgc, zgd, zge, zgf, zgg, zgh, zgi, zgj, zgk, zgl, zgm, zgn, zgo, zgp, zgq, zgr, zgs, zgt, zgu, zgv, zgw, zgx, zgy, zgz, zha, zhb, zhc, zhd, zhe, zhf, zhg, zhh, zhi, zhx, zhy, zhz, zia]
  rw [p2, zhz, zia, nl_snoc]
  refine ⟨fun h => ?_, fun h => ⟨?_, .inl ⟨_, rfl, rfl⟩⟩⟩
  · have hq := decP h
    have hb := base30 hw8
    have hl : fs.length < 2 ^ 22 := Nat.lt_of_le_of_lt (show fs.length ≤ (lim w n).length from by rw [← hs, List.length_append]; exact Nat.le_add_right _ _) (Nat.lt_trans hn (by decide))
    rw [lim_pos hw (Nat.ne_of_gt hq)] at hs
    exact ⟨wsh' hw8 (by decide), hb.1, snl rfl hl, wsh' hw8 (by decide), hb, hC _ _ (div_lt hw (Nat.ne_of_gt hq)) ⟨fs ++ [q % 2 ^ w], rfl, by rw [List.append_assoc]; exact hs⟩⟩
  · rw [Nat.eq_zero_of_not_pos (decN h), lim_zero, List.append_nil] at hs
    rw [hs]
theorem whole_ok {W : Wd} {k : Nat} (hW : Wv W) {w : Nat} {z : Int} (hw : w ≠ 0) (hw8 : w ≤ 8) (hn : ln w z.natAbs < 2 ^ 20) : CallOk W (k + 2) (Str.ofString "_law_whole") [.val (.int z), .val (.int (w : Int))] (dR w (z, 1)) [.val (.int z), .val (.int (w : Int))] := by
  refine call_fn (d := defAt 39) (as := [Str.ofString "w"]) (p := Str.ofString "number") (ds := [.int (w : Int)]) (n := 60) (fx := []) hW.2 (rec_mem 39 (by decide) hW) fn39 rfl ?_
  have C1 := limbs_ok (k := k) hW hw hw8 hn
  have e : dR w (z, 1) = .tup [.tup [.bool (decide (z < 0)), dL w z.natAbs], .list [.int ((1 : Nat) : Int)]] := by
    unfold dR dS
    rw [show dL w 1 = .list [.int ((1 : Nat) : Int)] by unfold dL; rw [lim_one hw Nat.one_ne_zero (pw_two hw)]; rfl]
  have ez : (if z < 0 then -z else z) = (z.natAbs : Int) := by split <;> omega
  rw [e]
  generalize dL w z.natAbs = dz at *
  conv in (co _ _ _) => reduce
  conv in (initR _ _) => reduce
  (repeat first | dsimp only [zaa, zab, zac, zad, zae, zaf, zag, zah, zai, zaj, zak, zal, zam, zan, zao, zap, zaq, zar, zas, zat, zau, zav, zaw, zax, zay, zaz, zba, zbb, zbc, zbd, zbe, zbf, zbg, zbh, zbi, zbk, zbl, zbm, zbn, zbo, zbp, zbq, zbr, zbs, zbt, zbu, zbv, zbw, zbx, zby, zbz, zca, zcb, zcc, zcd, zce, zcf, zcg, zch, zci, zcl, zcm, zcn, zco, zcp, zcq, zcr, zcs, zct, zcu, zcv, zcw, zcx, zcy, zcz, zda, zdb, zdc, zdd, zde, zdf, zdg, zdh, zdi, zdj, zdk, zdl, zdm, zdn, zdo, zdp, zdq, zdr, zds, zdt, zdu, zdv, zdw, zdx, zdy, zdz, zea, zeb, zec, zed, zee, zef, zeg, zeh, zei, zej, zek, zel, zem, zen, zeo, zep, zeq, zer, zes, zet, zeu, zev, zew, zex, zey, zez, zfa, zfb, zfc, zfd, zfe, zff, zfg, zfh, zfi, zfj, zfk, zfl, zfm, zfn, zfo, zfp, zfq, zfr, zfs, zft, zfu, zfv, zfw, zfx, zfy, zfz, zga, zgb, zgc, zgd, zge, zgf, zgg, zgh, zgi, zgj, zgk, zgl, zgm, zgn, zgo, zgp, zgq, zgr, zgs, zgt, zgu, zgv, zgw, zgx, zgy, zgz, zha, zhb, zhc, zhd, zhe, zhf, zhg, zhh, zhi] | refine t0 ?_ | refine t1 ?_)
  rw [ez]
  exact ⟨rfl, vn, _, C1, sz2, sz1, sz2, rfl, .inl ⟨_, rfl, rfl⟩⟩
/-- a loop over a list's items -/
theorem loop_list {α : Type} {g : α → D} {step : D → Rho → (Fl → Rho → Prop) → Prop} {Φ : Fl → Rho → Prop} (Inv : List α → Rho → Prop)
    (hs : ∀ x xs ρ, Inv (x :: xs) ρ → ∀ C : Rho → Prop, (∀ ρ', Inv xs ρ' → C ρ') → step (g x) ρ (kC C Φ)) (he : ∀ ρ, Inv [] ρ → Φ .next ρ) : ∀ {xs : List α} {ρ : Rho}, Inv xs ρ → wpLoop step Φ (xs.map g) ρ
  | [], ρ, h => he ρ h
  | x :: xs, ρ, h => hs x xs ρ h (fun ρ => wpLoop step Φ (xs.map g) ρ) fun ρ' h' => loop_list Inv hs he h'
noncomputable def vstep (p f x : Int × Nat) : Int × Nat := radd (rmul f p) x
noncomputable def pval (xs : List (Int × Nat)) (p : Int × Nat) : Int × Nat := xs.foldl (vstep p) (0, 1)
/-- all is small on the way -/
noncomputable def VSm (w : Nat) (p : Int × Nat) : List (Int × Nat) → Int × Nat → Prop
  | [], f => True
  | x :: xs, f => Sm w f ∧ Sm w (rmul f p) ∧ Sm w x ∧ VSm w p xs (vstep p f x)
theorem value_ok {W : Wd} {k : Nat} (hW : Wv W) {w : Nat} {xs : List (Int × Nat)} {p : Int × Nat} (hw : w ≠ 0) (hw8 : w ≤ 8) (hp : Sm w p) (hx : VSm w p xs (0, 1)) (hxs : xs.length < 2 ^ 20) : CallOk W (k + 7) (Str.ofString "_law_value") [.val (.list (xs.map (dR w))), .val (dR w p), .val (.int (w : Int))] (dR w (pval xs p)) [.val (.list (xs.map (dR w))), .val (dR w p), .val (.int (w : Int))] := by
  refine call_fn (d := defAt 42) (as := [Str.ofString "place", Str.ofString "w"]) (p := Str.ofString "numbers") (ds := [dR w p, .int (w : Int)]) (n := 60) (fx := []) hW.2 (rec_mem 42 (by decide) hW) fn42 rfl ?_
  have M := fun f hf => r_mul_ok (k := k) (x := f) hW hw hw8 hf hp
  have A := fun f x hf hx => r_add_ok (k := k) (x := f) (y := x) hW hw hw8 hf hx
  have hl : (xs.map (dR w)).length < 2 ^ 22 := by rw [List.length_map]; exact Nat.lt_trans hxs (by decide)
  generalize dR w p = dp at *
  generalize hdx : xs.map (dR w) = dx at *
  generalize hr : dR w (pval xs p) = r
  have h0 := dR0 (w := w) hw
  conv in (co _ _ _) => reduce
  conv in (initR _ _) => reduce
  (repeat first | dsimp only [zaa, zab, zac, zad, zae, zaf, zag, zah, zai, zaj, zak, zal, zam, zan, zao, zap, zaq, zar, zas, zat, zau, zav, zaw, zax, zay, zaz, zba, zbb, zbc, zbd, zbe, zbf, zbg, zbh, zbi, zbk, zbl, zbm, zbn, zbo, zbp, zbq, zbr, zbs, zbt, zbu, zbv, zbw, zbx, zby, zbz, zca, zcb, zcc, zcd, zce, zcf, zcg, zch, zci, zcl, zcm, zcn, zco, zcp, zcq, zcr, zcs, zct, zcu, zcv, zcw, zcx, zcy, zcz, zda, zdb, zdc, zdd, zde, zdf, zdg, zdh, zdi, zdj, zdk, zdl, zdm, zdn, zdo, zdp, zdq, zdr, zds, zdt, zdu, zdv, zdw, zdx, zdy, zdz, zea, zeb, zec, zed, zee, zef, zeg, zeh, zei, zej, zek, zel, zem, zen, zeo, zep, zeq, zer, zes, zet, zeu, zev, zew, zex, zey, zez, zfa, zfb, zfc, zfd, zfe, zff, zfg, zfh, zfi, zfj, zfk, zfl, zfm, zfn, zfo, zfp, zfq, zfr, zfs, zft, zfu, zfv, zfw, zfx, zfy, zfz, zga, zgb, zgc, zgd, zge, zgf, zgg, zgh, zgi, zgj, zgk, zgl, zgm, zgn, zgo, zgp, zgq, zgr, zgs, zgt, zgu, zgv, zgw, zgx, zgy, zgz, zha, zhb, zhc, zhd, zhe, zhf, zhg, zhh, zhi] | refine t0 ?_ | refine t1 ?_)
  refine ⟨sz0, sz2, sz1, sz2, Nat.zero_le 1, ?_⟩
  rw [← hdx, ← h0]
  refine loop_list (fun ys ρ => ∃ f v, ρ = [some (.val (.list (xs.map (dR w)))), some (.val dp), some (.val (.int w)), some (.val (dR w f)), v, some (.val (.fn (Str.ofString "r_add"))), some (.val (.fn (Str.ofString "r_mul"))), some (.val fM), some (.val fD)] ∧ VSm w p ys f ∧ ys.foldl (vstep p) f = pval xs p) ?_ ?_ ⟨(0, 1), none, rfl, hx, rfl⟩
  · rintro x ys ρ ⟨f, v, rfl, ⟨h1, h2, h3, h4⟩, hf⟩ C hC
    dsimp only [zaa, zab, zac, zad, zae, zaf, zag, zah, zai, zaj, zak, zal, zam, zan, zao, zap, zaq, zar, zas, zat, zau, zav, zaw, zax, zay, zaz, zba, zbb, zbc, zbd, zbe, zbf, zbg, zbh, zbi, zbk, zbl, zbm, zbn, zbo, zbp, zbq, zbr, zbs, zbt, zbu, zbv, zbw, zbx, zby, zbz, zca, zcb, zcc, zcd, zce, zcf, zcg, zch, zci, zcl, zcm, zcn, zco, zcp, zcq, zcr, zcs, zct, zcu, zcv, zcw, zcx, zcy, zcz, zda, zdb, zdc, zdd, zde, zdf, zdg, zdh, zdi, zdj, zdk, zdl, zdm, zdn, zdo, zdp, zdq, zdr, zds, zdt, zdu, zdv, zdw, zdx, zdy, zdz, zea, zeb, zec, zed, zee, zef, zeg, zeh, zei, zej, zek, zel, zem, zen, zeo, zep, zeq, zer, zes, zet, zeu, zev, zew, zex, zey, zez, zfa, zfb, zfc, zfd, zfe, zff, zfg, zfh, zfi, zfj, zfk, zfl, zfm, zfn, zfo, zfp, zfq, zfr, zfs, zft, zfu, zfv, zfw, zfx, zfy, zfz, zga, zgb, zgc, zgd, zge, zgf, zgg, zgh, zgi, zgj, zgk, zgl, zgm, zgn, zgo, zgp, zgq, zgr, zgs, zgt, zgu, zgv, zgw, zgx, zgy, zgz, zha, zhb, zhc, zhd, zhe, zhf, zhg, zhh, zhi]
    refine ⟨vn, _, M f h1, ?_⟩
    exact ⟨vn, _, A _ x h2 h3, hC _ ⟨vstep p f x, _, rfl, h4, hf⟩⟩
  · rintro ρ ⟨f, v, rfl, _, hf⟩
    dsimp only [zaa, zab, zac, zad, zae, zaf, zag, zah, zai, zaj, zak, zal, zam, zan, zao, zap, zaq, zar, zas, zat, zau, zav, zaw, zax, zay, zaz, zba, zbb, zbc, zbd, zbe, zbf, zbg, zbh, zbi, zbk, zbl, zbm, zbn, zbo, zbp, zbq, zbr, zbs, zbt, zbu, zbv, zbw, zbx, zby, zbz, zca, zcb, zcc, zcd, zce, zcf, zcg, zch, zci, zcl, zcm, zcn, zco, zcp, zcq, zcr, zcs, zct, zcu, zcv, zcw, zcx, zcy, zcz, zda, zdb, zdc, zdd, zde, zdf, zdg, zdh, zdi, zdj, zdk, zdl, zdm, zdn, zdo, zdp, zdq, zdr, zds, zdt, zdu, zdv, zdw, zdx, zdy, zdz, zea, zeb, zec, zed, zee, zef, zeg, zeh, zei, zej, zek, zel, zem, zen, zeo, zep, zeq, zer, zes, zet, zeu, zev, zew, zex, zey, zez, zfa, zfb, zfc, zfd, zfe, zff, zfg, zfh, zfi, zfj, zfk, zfl, zfm, zfn, zfo, zfp, zfq, zfr, zfs, zft, zfu, zfv, zfw, zfx, zfy, zfz, zga, zgb, zgc, zgd, zge, zgf, zgg, zgh, zgi, zgj, zgk, zgl, zgm, zgn, zgo, zgp, zgq, zgr, zgs, zgt, zgu, zgv, zgw, zgx, zgy, zgz, zha, zhb, zhc, zhd, zhe, zhf, zhg, zhh, zhi]
    refine ⟨?_, .inl ⟨_, rfl, rfl⟩⟩
    rw [← hr, ← hf]; rfl
noncomputable section
open PySem PySem.W PyProof.Rows PySem.Calls PySem.Spec
section
variable (W : Wd) (k : Nat)
noncomputable def kOut (gl : Rho) (Ψ : D → Rho → Prop) (r : Sl) (ρ : Rho) : Prop := Ψ r.d (outC gl ρ)
noncomputable def kOutB (gl : Rho) (Ψ : Bool → Rho → Prop) (b : Bool) (ρ : Rho) : Prop := Ψ b (outC gl ρ)
noncomputable def kCE (acc : List D) (C : List D → Rho → Prop) (r : D) (ρ : Rho) : Prop := C (acc ++ [r]) ρ
noncomputable def kCT (elt : T) (gl : Rho) (d : D) (acc : List D) (C : List D → Rho → Prop) (b : Bool) (ρ : Rho) : Prop := (b = true → (sem W k elt).e (inC gl d ρ) (kOut gl (kCE acc C))) ∧ (b = false → C acc ρ)
noncomputable def kLC (elt ifs : T) (gl : Rho) (Φ : Sl → Rho → Prop) (ds acc : List D) (ρ : Rho) : Prop := wpComp (fun d ρ Ψ => (sem W k elt).e (inC gl d ρ) fun r ρ => Ψ r.d (outC gl ρ)) (fun d ρ Ψ => (sem W k ifs).t (inC gl d ρ) fun b ρ => Ψ b (outC gl ρ)) (fun acc ρ => Φ (.own acc) ρ) ds acc ρ
noncomputable def kCm (elt ifs : T) (gl : Rho) (Φ : Sl → Rho → Prop) (ds : Nat × List D) (ρ : Rho) : Prop := (ds.1 = 0 ∧ ds.2.length ≤ sizeLine) ∧
      wpComp (fun d ρ Ψ => (sem W k elt).e (inC gl d ρ) fun r ρ => Ψ r.d (outC gl ρ)) (fun d ρ Ψ => (sem W k ifs).t (inC gl d ρ) fun b ρ => Ψ b (outC gl ρ)) (fun acc ρ => Φ (.own acc) ρ) ds.2 [] ρ
theorem zhj {elt it ifs gl ρ Φ} : (sem W k (.comp elt it ifs gl)).e ρ Φ = (sem W k it).it ρ (kCm W k elt ifs gl Φ) := rfl
theorem zhk {elt ifs gl Φ ds ρ} : kCm W k elt ifs gl Φ ds ρ = ((ds.1 = 0 ∧ ds.2.length ≤ sizeLine) ∧
      kLC W k elt ifs gl Φ ds.2 [] ρ) := rfl
theorem zhl {gl Ψ r ρ} : kOut gl Ψ r ρ = Ψ r.d (outC gl ρ) := rfl
theorem zhm {gl Ψ b ρ} : kOutB gl Ψ b ρ = Ψ b (outC gl ρ) := rfl
theorem zhn {acc C r ρ} : kCE acc C r ρ = C (acc ++ [r]) ρ := rfl
theorem zho {elt gl d acc C b ρ} : kCT W k elt gl d acc C b ρ = ((b = true → (sem W k elt).e (inC gl d ρ) (kOut gl (kCE acc C))) ∧ (b = false → C acc ρ)) := rfl
theorem zhp {gl d ρ} : inC gl d ρ = some (.val d) :: (gl ++ ρ) := rfl
theorem zhq {ρ : Rho} : [] ++ ρ = ρ := rfl
theorem zhr {a} {gl ρ : Rho} : (a :: gl) ++ ρ = a :: (gl ++ ρ) := rfl
theorem zhs {a ρ} : outC [] (a :: ρ) = ρ := rfl
theorem zht {g gl a ρ} : outC (g :: gl) (a :: ρ) = outC gl ρ := rfl
theorem zhu {j i ρ Ψ} : (sem W k (.subv j i)).it ρ Ψ = rdS j (sem W k i) ρ (kItV Ψ) (nth ρ j) := rfl
theorem zhv {Ψ ds ρ} : kItV Ψ (.own ds) ρ = Ψ (0, ds) ρ := rfl
theorem zhw {b ρ Ψ} : (sem W k (.bool b)).t ρ Ψ = Ψ b ρ := rfl
end
/-- a block with an invariant: the items left, what is built, the frame -/
theorem comp_inv {W : Wd} {k : Nat} {α : Type} {g : α → D} {elt ifs : T} {gl : Rho} {Φ : Sl → Rho → Prop} (Inv : List α → List D → Rho → Prop)
    (hs : ∀ x xs acc ρ, Inv (x :: xs) acc ρ → ∀ C : List D → Rho → Prop, (∀ acc' ρ', Inv xs acc' ρ' → C acc' ρ') → (sem W k ifs).t (inC gl (g x) ρ) (kOutB gl (kCT W k elt gl (g x) acc C))) (he : ∀ acc ρ, Inv [] acc ρ → Φ (.own acc) ρ) :
    ∀ {xs : List α} {acc : List D} {ρ : Rho}, Inv xs acc ρ →
      kLC W k elt ifs gl Φ (xs.map g) acc ρ
  | [], acc, ρ, h => he acc ρ h
  | x :: xs, acc, ρ, h => hs x xs acc ρ h (kLC W k elt ifs gl Φ (xs.map g)) fun acc' ρ' h' => comp_inv Inv hs he h'
/-- each item gives one item, the frame stays -/
theorem comp_all {W : Wd} {k : Nat} {α : Type} {g : α → D} {r : α → D} {elt : T} {gl : Rho} {Φ : Sl → Rho → Prop} {ρ : Rho} (hρ : ∀ d, outC gl (inC gl d ρ) = ρ) {all : List α}
    (hs : ∀ x ∈ all, ∀ C : D → Rho → Prop, C (r x) ρ → (sem W k elt).e (inC gl (g x) ρ) (kOut gl C)) (he : Φ (.own (all.map r)) ρ) :
    kLC W k elt (.bool true) gl Φ (all.map g) [] ρ := by
  refine comp_inv (fun xs acc ρ' => ρ' = ρ ∧ ∃ p, acc = p ∧ (∀ x ∈ xs, x ∈ all) ∧ p ++ xs.map r = all.map r) ?_ ?_ ⟨rfl, [], rfl, fun _ h => h, rfl⟩
  · rintro x xs acc ρ' ⟨rfl, p, rfl, hm, h⟩ C hC
    show kOutB gl (kCT W k elt gl (g x) acc C) true (inC gl (g x) ρ')
    refine ⟨fun _ => ?_, (fun h => nomatch h)⟩
    rw [hρ]
    exact hs x (hm x (.head _)) (kCE acc C) (hC _ _ ⟨rfl, _, rfl, fun y hy => hm y (.tail _ hy), by rw [List.append_assoc]; exact h⟩)
  · rintro acc ρ' ⟨rfl, p, rfl, _, h⟩
    rw [List.map_nil, List.append_nil] at h
    rw [h]; exact he
end
end Mine

set_option maxHeartbeats 4000000
namespace Mine
open PySem PySem.W PyProof.Rows PySem.Calls PySem.Spec PySem.Challenge
theorem fn40 : FnOkC (defAt 40) [Str.ofString "roots"] where
  bind := fun s pm code doc vs h => by obtain ⟨_, rfl⟩ := len1 h; exact BindsTo.of_eq rfl
  loc := by decide +kernel
  nd := by decide +kernel
  and := by decide +kernel
  nc := by decide +kernel
  cn := by decide +kernel
  kind := rfl
  co := rfl
  gen := rfl
noncomputable abbrev il (zs : List Int) : List D := zs.map .int
theorem il_get {f : List Int} {i : Nat} (h : i < f.length) : (il f)[i]? = some (.int (f.getD i 0)) := by
  rw [List.getElem?_map, List.getElem?_eq_getElem h]; simp [List.getD, h]
noncomputable def pstep (f : List Int) (r : Int) : List Int := (List.range (f.length + 1)).map fun i => (f ++ [0]).getD i 0 - r * (0 :: f).getD i 0
noncomputable def poly (rs : List Int) : List Int := rs.foldl pstep [1]
theorem polynomial_ok {W : Wd} {k : Nat} (hW : Wv W) {rs : List Int} (hl : rs.length < 2 ^ 19) (hr : ∀ r ∈ rs, r.natAbs < 100) : CallOk W (k + 1) (Str.ofString "_law_polynomial") [.val (.list (il rs))] (.list (il (poly rs))) [.val (.list (il rs))] := by
  refine call_fnC (d := defAt 40) (as := [Str.ofString "roots"]) (ds := [.list (il rs)]) (n := 60) hW.2 (rec_mem 40 (by decide) hW) fn40 rfl ?_
  generalize hd : il rs = dr
  conv in (co _ _ _) => reduce
  conv in (initR _ _) => reduce
  dsimp only [zaa, zab, zac, zad, zae, zaf, zag, zah, zai, zaj, zak, zal, zam, zan, zao, zap, zaq, zar, zas, zat, zau, zav, zaw, zax, zay, zaz, zba, zbb, zbc, zbd, zbe, zbf, zbg, zbh, zbi, zbk, zbl, zbm, zbn, zbo, zbp, zbq, zbr, zbs, zbt, zbu, zbv, zbw, zbx, zby, zbz, zca, zcb, zcc, zcd, zce, zcf, zcg, zch, zci, zcl, zcm, zcn, zco, zcp, zcq, zcr, zcs, zct, zcu, zcv, zcw, zcx, zcy, zcz, zda, zdb, zdc, zdd, zde, zdf, zdg, zdh, zdi, zdj, zdk, zdl, zdm, zdn, zdo, zdp, zdq, zdr, zds, zdt, zdu, zdv, zdw, zdx, zdy, zdz, zea, zeb, zec, zed, zee, zef, zeg, zeh, zei, zej, zek, zel, zem, zen, zeo, zep, zeq, zer, zes, zet, zeu, zev, zew, zex, zey, zez, zfa, zfb, zfc, zfd, zfe, zff, zfg, zfh, zfi, zfj, zfk, zfl, zfm, zfn, zfo, zfp, zfq, zfr, zfs, zft, zfu, zfv, zfw, zfx, zfy, zfz, zga, zgb, zgc, zgd, zge, zgf, zgg, zgh, zgi, zgj, zgk, zgl, zgm, zgn, zgo, zgp, zgq, zgr, zgs, zgt, zgu, zgv, zgw, zgx, zgy, zgz, zha, zhb, zhc, zhd, zhe, zhf, zhg, zhh, zhi, zhx, zhy, zhz, zia, zhj, zhk, zhl, zhm, zhn, zho, zhp, zhq, zhr, zhs, zht, zhu, zhv, zhw]
  refine ⟨sz1, Nat.zero_le 1, ?_⟩
  rw [← hd]
  refine loop_list (fun ys ρ => ∃ f v2 v3 v4, ρ = [some (.val (.list (il rs))), some (.own (il f)), v2, v3, v4, some (.val (.bi (.type "range"))), some (.val (.bi (.builtin "len")))] ∧
    (∀ y ∈ ys, y.natAbs < 100) ∧ f.length + ys.length = rs.length + 1 ∧ ys.foldl pstep f = poly rs) ?_ ?_ ⟨[1], none, none, none, rfl, hr, Nat.add_comm .., rfl⟩
  · rintro y ys ρ ⟨f, v2, v3, v4, rfl, hy, hlen, hf⟩ C hC
    have hs0 : smallInt y := Nat.lt_trans (hy y (.head _)) (by decide)
    have hfl : f.length + 1 < 2 ^ 20 := by rw [List.length_cons] at hlen; omega
    have hfl2 : f.length + 1 < 2 ^ 22 := Nat.lt_trans hfl (by decide)
    have e1 : il f ++ [D.int ((0 : Nat) : Int)] = il (f ++ [0]) := by simp
    have e2 : [D.int ((0 : Nat) : Int)] ++ il f = il (0 :: f) := rfl
    have l1 : (il (f ++ [0])).length = f.length + 1 := by simp
    have l0 : (il f).length = f.length := List.length_map ..
    have ha : ∀ i, i < f.length + 1 → (il (f ++ [0]))[i]? = some (.int (((f ++ [0] : List Int)).getD i 0)) := fun i h => il_get (by simpa using h)
    have hb : ∀ i, i < f.length + 1 → (il (0 :: f))[i]? = some (.int ((0 :: f).getD i 0)) := fun i h => il_get (by simpa using h)
    dsimp only [zaa, zab, zac, zad, zae, zaf, zag, zah, zai, zaj, zak, zal, zam, zan, zao, zap, zaq, zar, zas, zat, zau, zav, zaw, zax, zay, zaz, zba, zbb, zbc, zbd, zbe, zbf, zbg, zbh, zbi, zbk, zbl, zbm, zbn, zbo, zbp, zbq, zbr, zbs, zbt, zbu, zbv, zbw, zbx, zby, zbz, zca, zcb, zcc, zcd, zce, zcf, zcg, zch, zci, zcl, zcm, zcn, zco, zcp, zcq, zcr, zcs, zct, zcu, zcv, zcw, zcx, zcy, zcz, zda, zdb, zdc, zdd, zde, zdf, zdg, zdh, zdi, zdj, zdk, zdl, zdm, zdn, zdo, zdp, zdq, zdr, zds, zdt, zdu, zdv, zdw, zdx, zdy, zdz, zea, zeb, zec, zed, zee, zef, zeg, zeh, zei, zej, zek, zel, zem, zen, zeo, zep, zeq, zer, zes, zet, zeu, zev, zew, zex, zey, zez, zfa, zfb, zfc, zfd, zfe, zff, zfg, zfh, zfi, zfj, zfk, zfl, zfm, zfn, zfo, zfp, zfq, zfr, zfs, zft, zfu, zfv, zfw, zfx, zfy, zfz, zga, zgb, zgc, zgd, zge, zgf, zgg, zgh, zgi, zgj, zgk, zgl, zgm, zgn, zgo, zgp, zgq, zgr, zgs, zgt, zgu, zgv, zgw, zgx, zgy, zgz, zha, zhb, zhc, zhd, zhe, zhf, zhg, zhh, zhi, zhx, zhy, zhz, zia, zhj, zhk, zhl, zhm, zhn, zho, zhp, zhq, zhr, zhs, zht, zhu, zhv, zhw]
    rw [e1, e2, l0]
    refine ⟨sz1, sz_le hfl2, sz1, sz_le (by rw [Nat.add_comm]; exact hfl2), sz2, _, rfl, ?_⟩
    dsimp only [zaa, zab, zac, zad, zae, zaf, zag, zah, zai, zaj, zak, zal, zam, zan, zao, zap, zaq, zar, zas, zat, zau, zav, zaw, zax, zay, zaz, zba, zbb, zbc, zbd, zbe, zbf, zbg, zbh, zbi, zbk, zbl, zbm, zbn, zbo, zbp, zbq, zbr, zbs, zbt, zbu, zbv, zbw, zbx, zby, zbz, zca, zcb, zcc, zcd, zce, zcf, zcg, zch, zci, zcl, zcm, zcn, zco, zcp, zcq, zcr, zcs, zct, zcu, zcv, zcw, zcx, zcy, zcz, zda, zdb, zdc, zdd, zde, zdf, zdg, zdh, zdi, zdj, zdk, zdl, zdm, zdn, zdo, zdp, zdq, zdr, zds, zdt, zdu, zdv, zdw, zdx, zdy, zdz, zea, zeb, zec, zed, zee, zef, zeg, zeh, zei, zej, zek, zel, zem, zen, zeo, zep, zeq, zer, zes, zet, zeu, zev, zew, zex, zey, zez, zfa, zfb, zfc, zfd, zfe, zff, zfg, zfh, zfi, zfj, zfk, zfl, zfm, zfn, zfo, zfp, zfq, zfr, zfs, zft, zfu, zfv, zfw, zfx, zfy, zfz, zga, zgb, zgc, zgd, zge, zgf, zgg, zgh, zgi, zgj, zgk, zgl, zgm, zgn, zgo, zgp, zgq, zgr, zgs, zgt, zgu, zgv, zgw, zgx, zgy, zgz, zha, zhb, zhc, zhd, zhe, zhf, zhg, zhh, zhi, zhx, zhy, zhz, zia, zhj, zhk, zhl, zhm, zhn, zho, zhp, zhq, zhr, zhs, zht, zhu, zhv, zhw]
    refine len_ok (l62 l1 hfl2) ?_
    dsimp only [zaa, zab, zac, zad, zae, zaf, zag, zah, zai, zaj, zak, zal, zam, zan, zao, zap, zaq, zar, zas, zat, zau, zav, zaw, zax, zay, zaz, zba, zbb, zbc, zbd, zbe, zbf, zbg, zbh, zbi, zbk, zbl, zbm, zbn, zbo, zbp, zbq, zbr, zbs, zbt, zbu, zbv, zbw, zbx, zby, zbz, zca, zcb, zcc, zcd, zce, zcf, zcg, zch, zci, zcl, zcm, zcn, zco, zcp, zcq, zcr, zcs, zct, zcu, zcv, zcw, zcx, zcy, zcz, zda, zdb, zdc, zdd, zde, zdf, zdg, zdh, zdi, zdj, zdk, zdl, zdm, zdn, zdo, zdp, zdq, zdr, zds, zdt, zdu, zdv, zdw, zdx, zdy, zdz, zea, zeb, zec, zed, zee, zef, zeg, zeh, zei, zej, zek, zel, zem, zen, zeo, zep, zeq, zer, zes, zet, zeu, zev, zew, zex, zey, zez, zfa, zfb, zfc, zfd, zfe, zff, zfg, zfh, zfi, zfj, zfk, zfl, zfm, zfn, zfo, zfp, zfq, zfr, zfs, zft, zfu, zfv, zfw, zfx, zfy, zfz, zga, zgb, zgc, zgd, zge, zgf, zgg, zgh, zgi, zgj, zgk, zgl, zgm, zgn, zgo, zgp, zgq, zgr, zgs, zgt, zgu, zgv, zgw, zgx, zgy, zgz, zha, zhb, zhc, zhd, zhe, zhf, zhg, zhh, zhi, zhx, zhy, zhz, zia, zhj, zhk, zhl, zhm, zhn, zho, zhp, zhq, zhr, zhs, zht, zhu, zhv, zhw]
    refine .inl ⟨rfl, bigN l1 hfl2, ⟨rfl, ?_⟩, ?_⟩
    · rw [rangeL_map, List.length_map, List.length_range, rnl l1]; exact sz_le hfl2
    rw [rangeL_map, rnl l1]
    generalize hA : il (f ++ [0]) = A at *
    generalize hB : il (0 :: f) = B at *
    refine comp_inv (fun xs acc ρ => ∃ sl, ρ = [some (.val (.list (il rs))), some (.val (.list (il f))), some (.val (.int y)), some (.val (.list A)), some sl, some (.val (.bi (.type "range"))), some (.val (.bi (.builtin "len")))] ∧ (sl = .own B ∨ sl = .val (.list B)) ∧
      (∀ i ∈ xs, i < f.length + 1) ∧ acc ++ xs.map (fun i => D.int (((f ++ [0] : List Int)).getD i 0 - y * (0 :: f).getD i 0)) = il (pstep f y)) ?_ ?_ ⟨_, rfl, .inl rfl, fun i hi => List.mem_range.mp hi, (List.map_map ..).symm⟩
    · rintro i is acc ρ ⟨sl, rfl, hsl, hi, hacc⟩ C' hC'
      have hi' := hi i (.head _)
      have fin := fun hh => hC' (acc ++ [D.int (((f ++ [0] : List Int)).getD i 0 - y * (0 :: f).getD i 0)]) _ ⟨.val (.list B), rfl, .inr rfl, fun j hj => hi j (.tail _ hj), hh⟩
      rw [List.append_assoc] at fin
      have fin := fin hacc
      rcases hsl with rfl | rfl
      · dsimp only [zaa, zab, zac, zad, zae, zaf, zag, zah, zai, zaj, zak, zal, zam, zan, zao, zap, zaq, zar, zas, zat, zau, zav, zaw, zax, zay, zaz, zba, zbb, zbc, zbd, zbe, zbf, zbg, zbh, zbi, zbk, zbl, zbm, zbn, zbo, zbp, zbq, zbr, zbs, zbt, zbu, zbv, zbw, zbx, zby, zbz, zca, zcb, zcc, zcd, zce, zcf, zcg, zch, zci, zcl, zcm, zcn, zco, zcp, zcq, zcr, zcs, zct, zcu, zcv, zcw, zcx, zcy, zcz, zda, zdb, zdc, zdd, zde, zdf, zdg, zdh, zdi, zdj, zdk, zdl, zdm, zdn, zdo, zdp, zdq, zdr, zds, zdt, zdu, zdv, zdw, zdx, zdy, zdz, zea, zeb, zec, zed, zee, zef, zeg, zeh, zei, zej, zek, zel, zem, zen, zeo, zep, zeq, zer, zes, zet, zeu, zev, zew, zex, zey, zez, zfa, zfb, zfc, zfd, zfe, zff, zfg, zfh, zfi, zfj, zfk, zfl, zfm, zfn, zfo, zfp, zfq, zfr, zfs, zft, zfu, zfv, zfw, zfx, zfy, zfz, zga, zgb, zgc, zgd, zge, zgf, zgg, zgh, zgi, zgj, zgk, zgl, zgm, zgn, zgo, zgp, zgq, zgr, zgs, zgt, zgu, zgv, zgw, zgx, zgy, zgz, zha, zhb, zhc, zhd, zhe, zhf, zhg, zhh, zhi, zhx, zhy, zhz, zia, zhj, zhk, zhl, zhm, zhn, zho, zhp, zhq, zhr, zhs, zht, zhu, zhv, zhw]
        refine ⟨fun _ => ?_, (fun h => nomatch h)⟩
        rw [Int.zero_add]
        refine ixn hi' hfl2 (ha i hi') ?_
        dsimp only [zaa, zab, zac, zad, zae, zaf, zag, zah, zai, zaj, zak, zal, zam, zan, zao, zap, zaq, zar, zas, zat, zau, zav, zaw, zax, zay, zaz, zba, zbb, zbc, zbd, zbe, zbf, zbg, zbh, zbi, zbk, zbl, zbm, zbn, zbo, zbp, zbq, zbr, zbs, zbt, zbu, zbv, zbw, zbx, zby, zbz, zca, zcb, zcc, zcd, zce, zcf, zcg, zch, zci, zcl, zcm, zcn, zco, zcp, zcq, zcr, zcs, zct, zcu, zcv, zcw, zcx, zcy, zcz, zda, zdb, zdc, zdd, zde, zdf, zdg, zdh, zdi, zdj, zdk, zdl, zdm, zdn, zdo, zdp, zdq, zdr, zds, zdt, zdu, zdv, zdw, zdx, zdy, zdz, zea, zeb, zec, zed, zee, zef, zeg, zeh, zei, zej, zek, zel, zem, zen, zeo, zep, zeq, zer, zes, zet, zeu, zev, zew, zex, zey, zez, zfa, zfb, zfc, zfd, zfe, zff, zfg, zfh, zfi, zfj, zfk, zfl, zfm, zfn, zfo, zfp, zfq, zfr, zfs, zft, zfu, zfv, zfw, zfx, zfy, zfz, zga, zgb, zgc, zgd, zge, zgf, zgg, zgh, zgi, zgj, zgk, zgl, zgm, zgn, zgo, zgp, zgq, zgr, zgs, zgt, zgu, zgv, zgw, zgx, zgy, zgz, zha, zhb, zhc, zhd, zhe, zhf, zhg, zhh, zhi, zhx, zhy, zhz, zia, zhj, zhk, zhl, zhm, zhn, zho, zhp, zhq, zhr, zhs, zht, zhu, zhv, zhw]
        refine ixn hi' hfl2 (hb i hi') ?_
        dsimp only [zaa, zab, zac, zad, zae, zaf, zag, zah, zai, zaj, zak, zal, zam, zan, zao, zap, zaq, zar, zas, zat, zau, zav, zaw, zax, zay, zaz, zba, zbb, zbc, zbd, zbe, zbf, zbg, zbh, zbi, zbk, zbl, zbm, zbn, zbo, zbp, zbq, zbr, zbs, zbt, zbu, zbv, zbw, zbx, zby, zbz, zca, zcb, zcc, zcd, zce, zcf, zcg, zch, zci, zcl, zcm, zcn, zco, zcp, zcq, zcr, zcs, zct, zcu, zcv, zcw, zcx, zcy, zcz, zda, zdb, zdc, zdd, zde, zdf, zdg, zdh, zdi, zdj, zdk, zdl, zdm, zdn, zdo, zdp, zdq, zdr, zds, zdt, zdu, zdv, zdw, zdx, zdy, zdz, zea, zeb, zec, zed, zee, zef, zeg, zeh, zei, zej, zek, zel, zem, zen, zeo, zep, zeq, zer, zes, zet, zeu, zev, zew, zex, zey, zez, zfa, zfb, zfc, zfd, zfe, zff, zfg, zfh, zfi, zfj, zfk, zfl, zfm, zfn, zfo, zfp, zfq, zfr, zfs, zft, zfu, zfv, zfw, zfx, zfy, zfz, zga, zgb, zgc, zgd, zge, zgf, zgg, zgh, zgi, zgj, zgk, zgl, zgm, zgn, zgo, zgp, zgq, zgr, zgs, zgt, zgu, zgv, zgw, zgx, zgy, zgz, zha, zhb, zhc, zhd, zhe, zhf, zhg, zhh, zhi, zhx, zhy, zhz, zia, zhj, zhk, zhl, zhm, zhn, zho, zhp, zhq, zhr, zhs, zht, zhu, zhv, zhw]
        exact ⟨hs0, fin⟩
      · dsimp only [zaa, zab, zac, zad, zae, zaf, zag, zah, zai, zaj, zak, zal, zam, zan, zao, zap, zaq, zar, zas, zat, zau, zav, zaw, zax, zay, zaz, zba, zbb, zbc, zbd, zbe, zbf, zbg, zbh, zbi, zbk, zbl, zbm, zbn, zbo, zbp, zbq, zbr, zbs, zbt, zbu, zbv, zbw, zbx, zby, zbz, zca, zcb, zcc, zcd, zce, zcf, zcg, zch, zci, zcl, zcm, zcn, zco, zcp, zcq, zcr, zcs, zct, zcu, zcv, zcw, zcx, zcy, zcz, zda, zdb, zdc, zdd, zde, zdf, zdg, zdh, zdi, zdj, zdk, zdl, zdm, zdn, zdo, zdp, zdq, zdr, zds, zdt, zdu, zdv, zdw, zdx, zdy, zdz, zea, zeb, zec, zed, zee, zef, zeg, zeh, zei, zej, zek, zel, zem, zen, zeo, zep, zeq, zer, zes, zet, zeu, zev, zew, zex, zey, zez, zfa, zfb, zfc, zfd, zfe, zff, zfg, zfh, zfi, zfj, zfk, zfl, zfm, zfn, zfo, zfp, zfq, zfr, zfs, zft, zfu, zfv, zfw, zfx, zfy, zfz, zga, zgb, zgc, zgd, zge, zgf, zgg, zgh, zgi, zgj, zgk, zgl, zgm, zgn, zgo, zgp, zgq, zgr, zgs, zgt, zgu, zgv, zgw, zgx, zgy, zgz, zha, zhb, zhc, zhd, zhe, zhf, zhg, zhh, zhi, zhx, zhy, zhz, zia, zhj, zhk, zhl, zhm, zhn, zho, zhp, zhq, zhr, zhs, zht, zhu, zhv, zhw]
        refine ⟨fun _ => ?_, (fun h => nomatch h)⟩
        rw [Int.zero_add]
        refine ixn hi' hfl2 (ha i hi') ?_
        dsimp only [zaa, zab, zac, zad, zae, zaf, zag, zah, zai, zaj, zak, zal, zam, zan, zao, zap, zaq, zar, zas, zat, zau, zav, zaw, zax, zay, zaz, zba, zbb, zbc, zbd, zbe, zbf, zbg, zbh, zbi, zbk, zbl, zbm, zbn, zbo, zbp, zbq, zbr, zbs, zbt, zbu, zbv, zbw, zbx, zby, zbz, zca, zcb, zcc, zcd, zce, zcf, zcg, zch, zci, zcl, zcm, zcn, zco, zcp, zcq, zcr, zcs, zct, zcu, zcv, zcw, zcx, zcy, zcz, zda, zdb, zdc, zdd, zde, zdf, zdg, zdh, zdi, zdj, zdk, zdl, zdm, zdn, zdo, zdp, zdq, zdr, zds, zdt, zdu, zdv, zdw, zdx, zdy, zdz, zea, zeb, zec, zed, zee, zef, zeg, zeh, zei, zej, zek, zel, zem, zen, zeo, zep, zeq, zer, zes, zet, zeu, zev, zew, zex, zey, zez, zfa, zfb, zfc, zfd, zfe, zff, zfg, zfh, zfi, zfj, zfk, zfl, zfm, zfn, zfo, zfp, zfq, zfr, zfs, zft, zfu, zfv, zfw, zfx, zfy, zfz, zga, zgb, zgc, zgd, zge, zgf, zgg, zgh, zgi, zgj, zgk, zgl, zgm, zgn, zgo, zgp, zgq, zgr, zgs, zgt, zgu, zgv, zgw, zgx, zgy, zgz, zha, zhb, zhc, zhd, zhe, zhf, zhg, zhh, zhi, zhx, zhy, zhz, zia, zhj, zhk, zhl, zhm, zhn, zho, zhp, zhq, zhr, zhs, zht, zhu, zhv, zhw]
        refine ixn hi' hfl2 (hb i hi') ?_
        dsimp only [zaa, zab, zac, zad, zae, zaf, zag, zah, zai, zaj, zak, zal, zam, zan, zao, zap, zaq, zar, zas, zat, zau, zav, zaw, zax, zay, zaz, zba, zbb, zbc, zbd, zbe, zbf, zbg, zbh, zbi, zbk, zbl, zbm, zbn, zbo, zbp, zbq, zbr, zbs, zbt, zbu, zbv, zbw, zbx, zby, zbz, zca, zcb, zcc, zcd, zce, zcf, zcg, zch, zci, zcl, zcm, zcn, zco, zcp, zcq, zcr, zcs, zct, zcu, zcv, zcw, zcx, zcy, zcz, zda, zdb, zdc, zdd, zde, zdf, zdg, zdh, zdi, zdj, zdk, zdl, zdm, zdn, zdo, zdp, zdq, zdr, zds, zdt, zdu, zdv, zdw, zdx, zdy, zdz, zea, zeb, zec, zed, zee, zef, zeg, zeh, zei, zej, zek, zel, zem, zen, zeo, zep, zeq, zer, zes, zet, zeu, zev, zew, zex, zey, zez, zfa, zfb, zfc, zfd, zfe, zff, zfg, zfh, zfi, zfj, zfk, zfl, zfm, zfn, zfo, zfp, zfq, zfr, zfs, zft, zfu, zfv, zfw, zfx, zfy, zfz, zga, zgb, zgc, zgd, zge, zgf, zgg, zgh, zgi, zgj, zgk, zgl, zgm, zgn, zgo, zgp, zgq, zgr, zgs, zgt, zgu, zgv, zgw, zgx, zgy, zgz, zha, zhb, zhc, zhd, zhe, zhf, zhg, zhh, zhi, zhx, zhy, zhz, zia, zhj, zhk, zhl, zhm, zhn, zho, zhp, zhq, zhr, zhs, zht, zhu, zhv, zhw]
        exact ⟨hs0, fin⟩
    · rintro acc ρ ⟨sl, rfl, hsl, hi, hacc⟩
      rw [List.map_nil, List.append_nil] at hacc
      rw [hacc]
      have hpl : (pstep f y).length = f.length + 1 := by unfold pstep; simp
      exact hC _ ⟨pstep f y, _, _, _, rfl, fun z hz => hy z (.tail _ hz), by rw [hpl, Nat.add_assoc, Nat.add_comm 1]; exact hlen, hf⟩
  · rintro ρ ⟨f, v2, v3, v4, rfl, _, _, hf⟩
    dsimp only [zaa, zab, zac, zad, zae, zaf, zag, zah, zai, zaj, zak, zal, zam, zan, zao, zap, zaq, zar, zas, zat, zau, zav, zaw, zax, zay, zaz, zba, zbb, zbc, zbd, zbe, zbf, zbg, zbh, zbi, zbk, zbl, zbm, zbn, zbo, zbp, zbq, zbr, zbs, zbt, zbu, zbv, zbw, zbx, zby, zbz, zca, zcb, zcc, zcd, zce, zcf, zcg, zch, zci, zcl, zcm, zcn, zco, zcp, zcq, zcr, zcs, zct, zcu, zcv, zcw, zcx, zcy, zcz, zda, zdb, zdc, zdd, zde, zdf, zdg, zdh, zdi, zdj, zdk, zdl, zdm, zdn, zdo, zdp, zdq, zdr, zds, zdt, zdu, zdv, zdw, zdx, zdy, zdz, zea, zeb, zec, zed, zee, zef, zeg, zeh, zei, zej, zek, zel, zem, zen, zeo, zep, zeq, zer, zes, zet, zeu, zev, zew, zex, zey, zez, zfa, zfb, zfc, zfd, zfe, zff, zfg, zfh, zfi, zfj, zfk, zfl, zfm, zfn, zfo, zfp, zfq, zfr, zfs, zft, zfu, zfv, zfw, zfx, zfy, zfz, zga, zgb, zgc, zgd, zge, zgf, zgg, zgh, zgi, zgj, zgk, zgl, zgm, zgn, zgo, zgp, zgq, zgr, zgs, zgt, zgu, zgv, zgw, zgx, zgy, zgz, zha, zhb, zhc, zhd, zhe, zhf, zhg, zhh, zhi, zhx, zhy, zhz, zia, zhj, zhk, zhl, zhm, zhn, zho, zhp, zhq, zhr, zhs, zht, zhu, zhv, zhw]
    rw [← hf]; rfl
end Mine

set_option maxHeartbeats 4000000
namespace Mine
open PySem PySem.W PyProof.Rows PySem.Calls PySem.Spec PySem.Challenge
theorem fn41 : FnOkC (defAt 41) [Str.ofString "one", Str.ofString "other", Str.ofString "w"] where
  bind := fun s pm code doc vs h => by obtain ⟨_, _, _, rfl⟩ := len3 h; exact BindsTo.of_eq rfl
  loc := by decide +kernel
  nd := by decide +kernel
  and := by decide +kernel
  nc := by decide +kernel
  cn := by decide +kernel
  kind := rfl
  co := rfl
  gen := rfl
noncomputable abbrev Q2 := Int × Nat
noncomputable abbrev rl (w : Nat) (xs : List Q2) : List D := xs.map (dR w)
noncomputable def dT (l o : List Q2) : Q2 := rdiv (l.getD 0 (0, 1)) (o.getD 0 (0, 1))
noncomputable def dB (l o : List Q2) : List Q2 := (o.drop 1).map (rmul (dT l o)) ++ List.replicate (l.length - o.length) (0, 1)
noncomputable def dN (l o : List Q2) : List Q2 := (List.range (dB l o).length).map fun i => rsub (l.getD (i + 1) (0, 1)) ((dB l o).getD i (0, 1))
noncomputable def dloop : Nat → List Q2 → List Q2 → List Q2 → List Q2 × List Q2
  | 0, l, o, m => (m, l)
  | n + 1, l, o, m => if o.length ≤ l.length then dloop n (dN l o) o (m ++ [dT l o]) else (m, l)
noncomputable def dstrip : List Q2 → List Q2
  | [] => []
  | x :: xs => if x.1 = 0 then dstrip xs else x :: xs
noncomputable def divided (l o : List Q2) : List Q2 × List Q2 := ((dloop l.length l o []).1, dstrip (dloop l.length l o []).2)
/-- all is small on the way -/
noncomputable def DSm (w : Nat) : Nat → List Q2 → List Q2 → Prop
  | 0, l, o => ∀ x ∈ l, Sm w x
  | n + 1, l, o => (∀ x ∈ l, Sm w x) ∧ (o.length ≤ l.length → Sm w (dT l o) ∧ (∀ x ∈ dB l o, Sm w x) ∧ DSm w n (dN l o) o)
theorem DSm.all {w : Nat} : ∀ {n : Nat} {l o : List Q2}, DSm w n l o → ∀ x ∈ l, Sm w x
  | 0, _, _, h => h
  | _ + 1, _, _, h => h.1
theorem rl_get {w : Nat} {xs : List Q2} {i : Nat} (h : i < xs.length) : (rl w xs)[i]? = some (dR w (xs.getD i (0, 1))) := by
  rw [List.getElem?_map, List.getElem?_eq_getElem h]; simp [List.getD, h]
theorem getD_mem {xs : List Q2} {i : Nat} (h : i < xs.length) : xs.getD i (0, 1) ∈ xs := by
  have : xs.getD i (0, 1) = xs[i] := by simp [List.getD, h]
  rw [this]; exact List.getElem_mem h
theorem sl_from1 (ds : List D) (h : 1 ≤ ds.length) : sliceL ds (some ((1 : Nat) : Int)) none = ds.drop 1 := by
  show List.take (ds.length - min 1 ds.length) (List.drop (min 1 ds.length) ds) = _
  rw [Nat.min_eq_left h, ← List.length_drop, List.take_length]
theorem dB_len {l o : List Q2} (ho : 1 ≤ o.length) (h : o.length ≤ l.length) : (dB l o).length + 1 = l.length := by
  unfold dB
  rw [List.length_append, List.length_map, List.length_drop, List.length_replicate]; omega
theorem dN_len {l o : List Q2} (ho : 1 ≤ o.length) (h : o.length ≤ l.length) : (dN l o).length + 1 = l.length := by
  unfold dN
  rw [List.length_map, List.length_range]; exact dB_len ho h
theorem rep_D (n : Nat) (d : D) : (List.replicate n [d]).flatten = List.replicate n d := by
  induction n with
  | zero => rfl
  | succ n ih => rw [List.replicate_succ, List.flatten_cons, ih]; rfl

theorem divided_ok {W : Wd} {k : Nat} (hW : Wv W) {w : Nat} {l o : List Q2} (hw : w ≠ 0) (hw8 : w ≤ 8) (hl : l.length < 2 ^ 18) (ho : 1 ≤ o.length) (hol : o.length < 2 ^ 18) (ho0 : (o.getD 0 (0, 1)).1 ≠ 0) (hos : ∀ x ∈ o, Sm w x) (hd : DSm w l.length l o) :
    CallOk W (k + 8) (Str.ofString "_law_divided") [.val (.list (rl w l)), .val (.list (rl w o)), .val (.int (w : Int))] (.tup [.list (rl w (divided l o).1), .list (rl w (divided l o).2)]) [.val (.list (rl w l)), .val (.list (rl w o)), .val (.int (w : Int))] := by
  refine call_fnC (d := defAt 41) (as := [Str.ofString "one", Str.ofString "other", Str.ofString "w"]) (ds := [.list (rl w l), .list (rl w o), .int (w : Int)]) (n := 60) hW.2 (rec_mem 41 (by decide) hW) fn41 rfl ?_
  generalize hR : D.tup [.list (rl w (divided l o).1), .list (rl w (divided l o).2)] = R
  generalize hdl : rl w l = dl
  generalize hdo : rl w o = do'
  conv in (co _ _ _) => reduce
  conv in (initR _ _) => reduce
  dsimp only [zaa, zab, zac, zad, zae, zaf, zag, zah, zai, zaj, zak, zal, zam, zan, zao, zap, zaq, zar, zas, zat, zau, zav, zaw, zax, zay, zaz, zba, zbb, zbc, zbd, zbe, zbf, zbg, zbh, zbi, zbk, zbl, zbm, zbn, zbo, zbp, zbq, zbr, zbs, zbt, zbu, zbv, zbw, zbx, zby, zbz, zca, zcb, zcc, zcd, zce, zcf, zcg, zch, zci, zcl, zcm, zcn, zco, zcp, zcq, zcr, zcs, zct, zcu, zcv, zcw, zcx, zcy, zcz, zda, zdb, zdc, zdd, zde, zdf, zdg, zdh, zdi, zdj, zdk, zdl, zdm, zdn, zdo, zdp, zdq, zdr, zds, zdt, zdu, zdv, zdw, zdx, zdy, zdz, zea, zeb, zec, zed, zee, zef, zeg, zeh, zei, zej, zek, zel, zem, zen, zeo, zep, zeq, zer, zes, zet, zeu, zev, zew, zex, zey, zez, zfa, zfb, zfc, zfd, zfe, zff, zfg, zfh, zfi, zfj, zfk, zfl, zfm, zfn, zfo, zfp, zfq, zfr, zfs, zft, zfu, zfv, zfw, zfx, zfy, zfz, zga, zgb, zgc, zgd, zge, zgf, zgg, zgh, zgi, zgj, zgk, zgl, zgm, zgn, zgo, zgp, zgq, zgr, zgs, zgt, zgu, zgv, zgw, zgx, zgy, zgz, zha, zhb, zhc, zhd, zhe, zhf, zhg, zhh, zhi, zhx, zhy, zhz, zia, zhj, zhk, zhl, zhm, zhn, zho, zhp, zhq, zhr, zhs, zht, zhu, zhv, zhw]
  refine ⟨sz0, sz2, _, rfl, ?_⟩
  have lo : do'.length = o.length := hdo ▸ List.length_map ..
  have o22 : o.length < 2 ^ 22 := Nat.lt_trans hol (by decide)
  have hog : do'[0]? = some (dR w (o.getD 0 (0, 1))) := hdo ▸ rl_get ho
  have ho1 : Sm w (o.getD 0 (0, 1)) := hos _ (getD_mem ho)
  generalize hD : dloop l.length l o [] = DD at *
  refine while_inv (fun n ρ => ∃ l' m sl v5 v6, ρ = [some (.val (.list dl)), some (.val (.list do')), some (.val (.int w)), some sl, some (.own (rl w m)), v5, v6, some (.val (.bi (.builtin "len"))), some (.val (.fn (Str.ofString "r_div"))), some (.val fM), some (.val fD), some (.val (.bi (.type "range"))), some (.val (.fn (Str.ofString "s_sign")))] ∧
    (sl = .val (.list (rl w l')) ∨ sl = .own (rl w l')) ∧ n = l'.length ∧ DSm w n l' o ∧ dloop n l' o m = DD ∧ m.length + l'.length ≤ l.length) ?_ ⟨l, [], _, none, none, rfl, .inl (by rw [hdl]), rfl, hd, hD, Nat.le_of_eq (Nat.zero_add _)⟩
  rintro n ρ ⟨l', m, sl, v5, v6, rfl, hsl, rfl, hds, hdl', hm⟩ C hC
  have ll : (rl w l').length = l'.length := List.length_map ..
  have l22 : l'.length < 2 ^ 22 := by omega
  generalize hK : kWC _ _ _ = K
  have key : (sem W (k + 7) (T.cmp CmpOp.GtE ((T.var 7).call ((T.var 3).cons T.nil)) ((T.var 7).calll 1))).t
      [some (.val (.list dl)), some (.val (.list do')), some (.val (.int w)), some (.val (.list (rl w l'))), some (.own (rl w m)), v5, v6, some (.val (.bi (.builtin "len"))), some (.val (.fn (Str.ofString "r_div"))), some (.val fM), some (.val fD), some (.val (.bi (.type "range"))), some (.val (.fn (Str.ofString "s_sign")))] K := by
    subst hK
    dsimp only [zaa, zab, zac, zad, zae, zaf, zag, zah, zai, zaj, zak, zal, zam, zan, zao, zap, zaq, zar, zas, zat, zau, zav, zaw, zax, zay, zaz, zba, zbb, zbc, zbd, zbe, zbf, zbg, zbh, zbi, zbk, zbl, zbm, zbn, zbo, zbp, zbq, zbr, zbs, zbt, zbu, zbv, zbw, zbx, zby, zbz, zca, zcb, zcc, zcd, zce, zcf, zcg, zch, zci, zcl, zcm, zcn, zco, zcp, zcq, zcr, zcs, zct, zcu, zcv, zcw, zcx, zcy, zcz, zda, zdb, zdc, zdd, zde, zdf, zdg, zdh, zdi, zdj, zdk, zdl, zdm, zdn, zdo, zdp, zdq, zdr, zds, zdt, zdu, zdv, zdw, zdx, zdy, zdz, zea, zeb, zec, zed, zee, zef, zeg, zeh, zei, zej, zek, zel, zem, zen, zeo, zep, zeq, zer, zes, zet, zeu, zev, zew, zex, zey, zez, zfa, zfb, zfc, zfd, zfe, zff, zfg, zfh, zfi, zfj, zfk, zfl, zfm, zfn, zfo, zfp, zfq, zfr, zfs, zft, zfu, zfv, zfw, zfx, zfy, zfz, zga, zgb, zgc, zgd, zge, zgf, zgg, zgh, zgi, zgj, zgk, zgl, zgm, zgn, zgo, zgp, zgq, zgr, zgs, zgt, zgu, zgv, zgw, zgx, zgy, zgz, zha, zhb, zhc, zhd, zhe, zhf, zhg, zhh, zhi, zhx, zhy, zhz, zia, zhj, zhk, zhl, zhm, zhn, zho, zhp, zhq, zhr, zhs, zht, zhu, zhv, zhw]
    refine len_ok (l62 ll l22) ?_
    dsimp only [zaa, zab, zac, zad, zae, zaf, zag, zah, zai, zaj, zak, zal, zam, zan, zao, zap, zaq, zar, zas, zat, zau, zav, zaw, zax, zay, zaz, zba, zbb, zbc, zbd, zbe, zbf, zbg, zbh, zbi, zbk, zbl, zbm, zbn, zbo, zbp, zbq, zbr, zbs, zbt, zbu, zbv, zbw, zbx, zby, zbz, zca, zcb, zcc, zcd, zce, zcf, zcg, zch, zci, zcl, zcm, zcn, zco, zcp, zcq, zcr, zcs, zct, zcu, zcv, zcw, zcx, zcy, zcz, zda, zdb, zdc, zdd, zde, zdf, zdg, zdh, zdi, zdj, zdk, zdl, zdm, zdn, zdo, zdp, zdq, zdr, zds, zdt, zdu, zdv, zdw, zdx, zdy, zdz, zea, zeb, zec, zed, zee, zef, zeg, zeh, zei, zej, zek, zel, zem, zen, zeo, zep, zeq, zer, zes, zet, zeu, zev, zew, zex, zey, zez, zfa, zfb, zfc, zfd, zfe, zff, zfg, zfh, zfi, zfj, zfk, zfl, zfm, zfn, zfo, zfp, zfq, zfr, zfs, zft, zfu, zfv, zfw, zfx, zfy, zfz, zga, zgb, zgc, zgd, zge, zgf, zgg, zgh, zgi, zgj, zgk, zgl, zgm, zgn, zgo, zgp, zgq, zgr, zgs, zgt, zgu, zgv, zgw, zgx, zgy, zgz, zha, zhb, zhc, zhd, zhe, zhf, zhg, zhh, zhi, zhx, zhy, zhz, zia, zhj, zhk, zhl, zhm, zhn, zho, zhp, zhq, zhr, zhs, zht, zhu, zhv, zhw]
    rw [ll, lo]
    refine ⟨rfl, l62 rfl o22, fun h => ?_, fun h => ?_⟩
    · have hle : o.length ≤ l'.length := Int.ofNat_le.mp (decT h)
      have hl1 : 1 ≤ l'.length := Nat.le_trans ho hle
      have nl' := dN_len ho hle
      have bl' := dB_len ho hle
      have hlm : m.length + 1 ≤ l.length := Nat.le_trans (Nat.add_le_add_left hl1 _) hm
      rw [← nl'] at hds
      have hdl' : dloop ((dN l' o).length + 1) l' o m = DD := by rw [nl']; exact hdl'
      have hlp : dloop (dN l' o).length (dN l' o) o (m ++ [dT l' o]) = DD := by
        rw [← hdl']; exact (if_pos hle).symm
      obtain ⟨hds1, hds2⟩ := hds
      obtain ⟨hT, hBs, hdn⟩ := hds2 hle
      have hsl1 : sliceL do' (some ((1 : Nat) : Int)) none = (o.drop 1).map (dR w) := by rw [sl_from1 _ (by rw [lo]; exact ho), ← hdo, List.map_drop]
      have hB : rl w (dB l' o) = (o.drop 1).map (fun x => dR w (rmul (dT l' o) x)) ++ List.replicate (l'.length - o.length) (dR w (0, 1)) := by
        unfold dB rl; rw [List.map_append, List.map_map, List.map_replicate]; rfl
      have hN : rl w (dN l' o) = (List.range (dB l' o).length).map fun i => dR w (rsub (l'.getD (i + 1) (0, 1)) ((dB l' o).getD i (0, 1))) := by
        unfold dN rl; rw [List.map_map]; rfl
      refine ixn hl1 l22 (rl_get hl1) ?_
      dsimp only [zaa, zab, zac, zad, zae, zaf, zag, zah, zai, zaj, zak, zal, zam, zan, zao, zap, zaq, zar, zas, zat, zau, zav, zaw, zax, zay, zaz, zba, zbb, zbc, zbd, zbe, zbf, zbg, zbh, zbi, zbk, zbl, zbm, zbn, zbo, zbp, zbq, zbr, zbs, zbt, zbu, zbv, zbw, zbx, zby, zbz, zca, zcb, zcc, zcd, zce, zcf, zcg, zch, zci, zcl, zcm, zcn, zco, zcp, zcq, zcr, zcs, zct, zcu, zcv, zcw, zcx, zcy, zcz, zda, zdb, zdc, zdd, zde, zdf, zdg, zdh, zdi, zdj, zdk, zdl, zdm, zdn, zdo, zdp, zdq, zdr, zds, zdt, zdu, zdv, zdw, zdx, zdy, zdz, zea, zeb, zec, zed, zee, zef, zeg, zeh, zei, zej, zek, zel, zem, zen, zeo, zep, zeq, zer, zes, zet, zeu, zev, zew, zex, zey, zez, zfa, zfb, zfc, zfd, zfe, zff, zfg, zfh, zfi, zfj, zfk, zfl, zfm, zfn, zfo, zfp, zfq, zfr, zfs, zft, zfu, zfv, zfw, zfx, zfy, zfz, zga, zgb, zgc, zgd, zge, zgf, zgg, zgh, zgi, zgj, zgk, zgl, zgm, zgn, zgo, zgp, zgq, zgr, zgs, zgt, zgu, zgv, zgw, zgx, zgy, zgz, zha, zhb, zhc, zhd, zhe, zhf, zhg, zhh, zhi, zhx, zhy, zhz, zia, zhj, zhk, zhl, zhm, zhn, zho, zhp, zhq, zhr, zhs, zht, zhu, zhv, zhw]
      refine ixn ho o22 hog ?_
      dsimp only [zaa, zab, zac, zad, zae, zaf, zag, zah, zai, zaj, zak, zal, zam, zan, zao, zap, zaq, zar, zas, zat, zau, zav, zaw, zax, zay, zaz, zba, zbb, zbc, zbd, zbe, zbf, zbg, zbh, zbi, zbk, zbl, zbm, zbn, zbo, zbp, zbq, zbr, zbs, zbt, zbu, zbv, zbw, zbx, zby, zbz, zca, zcb, zcc, zcd, zce, zcf, zcg, zch, zci, zcl, zcm, zcn, zco, zcp, zcq, zcr, zcs, zct, zcu, zcv, zcw, zcx, zcy, zcz, zda, zdb, zdc, zdd, zde, zdf, zdg, zdh, zdi, zdj, zdk, zdl, zdm, zdn, zdo, zdp, zdq, zdr, zds, zdt, zdu, zdv, zdw, zdx, zdy, zdz, zea, zeb, zec, zed, zee, zef, zeg, zeh, zei, zej, zek, zel, zem, zen, zeo, zep, zeq, zer, zes, zet, zeu, zev, zew, zex, zey, zez, zfa, zfb, zfc, zfd, zfe, zff, zfg, zfh, zfi, zfj, zfk, zfl, zfm, zfn, zfo, zfp, zfq, zfr, zfs, zft, zfu, zfv, zfw, zfx, zfy, zfz, zga, zgb, zgc, zgd, zge, zgf, zgg, zgh, zgi, zgj, zgk, zgl, zgm, zgn, zgo, zgp, zgq, zgr, zgs, zgt, zgu, zgv, zgw, zgx, zgy, zgz, zha, zhb, zhc, zhd, zhe, zhf, zhg, zhh, zhi, zhx, zhy, zhz, zia, zhj, zhk, zhl, zhm, zhn, zho, zhp, zhq, zhr, zhs, zht, zhu, zhv, zhw]
      refine ⟨vn, _, r_div_ok (k := k) hW hw hw8 (hds1 _ (getD_mem hl1)) ho1 ho0, ?_⟩
      have CM := fun x hx => r_mul_ok (k := k + 1) (x := dT l' o) (y := x) hW hw hw8 hT hx
      have hdT : rdiv (l'.getD 0 (0, 1)) (o.getD 0 (0, 1)) = dT l' o := rfl
      rw [hdT]
      have hTm : rl w m ++ [dR w (dT l' o)] = rl w (m ++ [dT l' o]) := by unfold rl; rw [List.map_append]; rfl
      have hBl : (rl w (dB l' o)).length = (dB l' o).length := List.length_map ..
      have hBg : ∀ i, i < (dB l' o).length → (rl w (dB l' o))[i]? = some (dR w ((dB l' o).getD i (0, 1))) := fun i h => rl_get h
      have hLg : ∀ i, i < l'.length → (rl w l')[i]? = some (dR w (l'.getD i (0, 1))) := fun i h => rl_get h
      have CS := fun i (hi : i < (dB l' o).length) => r_sub_ok (k := k) (x := l'.getD (i + 1) (0, 1)) (y := (dB l' o).getD i (0, 1)) hW hw hw8 (hds1 _ (getD_mem (bl' ▸ Nat.succ_lt_succ hi))) (hBs _ (getD_mem hi))
      have hm22 : (rl w m).length < 2 ^ 22 := by unfold rl; rw [List.length_map]; omega
      have hfin := fun v5 v6 => hC (dN l' o).length [some (.val (.list dl)), some (.val (.list do')), some (.val (.int w)), some (.own (rl w (dN l' o))), some (.own (rl w (m ++ [dT l' o]))), v5, v6, some (.val (.bi (.builtin "len"))), some (.val (.fn (Str.ofString "r_div"))), some (.val fM), some (.val fD), some (.val (.bi (.type "range"))), some (.val (.fn (Str.ofString "s_sign")))] (by rw [← nl']; exact Nat.lt_succ_self _)
        ⟨dN l' o, m ++ [dT l' o], _, _, _, rfl, .inr rfl, rfl, hdn, hlp, by rw [List.length_append, Nat.add_assoc, Nat.add_comm [dT l' o].length]; exact nl'.symm ▸ hm⟩
      rw [← hTm, hN] at hfin
      generalize dT l' o = T at *
      rw [hsl1]
      refine ⟨sz_lt hm22, sz_le (lo ▸ o22), ⟨rfl, sz_le (by rw [List.length_map, List.length_drop]; omega)⟩, ?_⟩
      refine comp_all (r := fun x => dR w (rmul T x)) ?_ ?_ ?_
      · exact fun d => rfl
      · intro x hx C' hC'
        dsimp only [zaa, zab, zac, zad, zae, zaf, zag, zah, zai, zaj, zak, zal, zam, zan, zao, zap, zaq, zar, zas, zat, zau, zav, zaw, zax, zay, zaz, zba, zbb, zbc, zbd, zbe, zbf, zbg, zbh, zbi, zbk, zbl, zbm, zbn, zbo, zbp, zbq, zbr, zbs, zbt, zbu, zbv, zbw, zbx, zby, zbz, zca, zcb, zcc, zcd, zce, zcf, zcg, zch, zci, zcl, zcm, zcn, zco, zcp, zcq, zcr, zcs, zct, zcu, zcv, zcw, zcx, zcy, zcz, zda, zdb, zdc, zdd, zde, zdf, zdg, zdh, zdi, zdj, zdk, zdl, zdm, zdn, zdo, zdp, zdq, zdr, zds, zdt, zdu, zdv, zdw, zdx, zdy, zdz, zea, zeb, zec, zed, zee, zef, zeg, zeh, zei, zej, zek, zel, zem, zen, zeo, zep, zeq, zer, zes, zet, zeu, zev, zew, zex, zey, zez, zfa, zfb, zfc, zfd, zfe, zff, zfg, zfh, zfi, zfj, zfk, zfl, zfm, zfn, zfo, zfp, zfq, zfr, zfs, zft, zfu, zfv, zfw, zfx, zfy, zfz, zga, zgb, zgc, zgd, zge, zgf, zgg, zgh, zgi, zgj, zgk, zgl, zgm, zgn, zgo, zgp, zgq, zgr, zgs, zgt, zgu, zgv, zgw, zgx, zgy, zgz, zha, zhb, zhc, zhd, zhe, zhf, zhg, zhh, zhi, zhx, zhy, zhz, zia, zhj, zhk, zhl, zhm, zhn, zho, zhp, zhq, zhr, zhs, zht, zhu, zhv, zhw]
        exact ⟨vn, _, CM x (hos x (List.mem_of_mem_drop hx)), hC'⟩
      dsimp only [zaa, zab, zac, zad, zae, zaf, zag, zah, zai, zaj, zak, zal, zam, zan, zao, zap, zaq, zar, zas, zat, zau, zav, zaw, zax, zay, zaz, zba, zbb, zbc, zbd, zbe, zbf, zbg, zbh, zbi, zbk, zbl, zbm, zbn, zbo, zbp, zbq, zbr, zbs, zbt, zbu, zbv, zbw, zbx, zby, zbz, zca, zcb, zcc, zcd, zce, zcf, zcg, zch, zci, zcl, zcm, zcn, zco, zcp, zcq, zcr, zcs, zct, zcu, zcv, zcw, zcx, zcy, zcz, zda, zdb, zdc, zdd, zde, zdf, zdg, zdh, zdi, zdj, zdk, zdl, zdm, zdn, zdo, zdp, zdq, zdr, zds, zdt, zdu, zdv, zdw, zdx, zdy, zdz, zea, zeb, zec, zed, zee, zef, zeg, zeh, zei, zej, zek, zel, zem, zen, zeo, zep, zeq, zer, zes, zet, zeu, zev, zew, zex, zey, zez, zfa, zfb, zfc, zfd, zfe, zff, zfg, zfh, zfi, zfj, zfk, zfl, zfm, zfn, zfo, zfp, zfq, zfr, zfs, zft, zfu, zfv, zfw, zfx, zfy, zfz, zga, zgb, zgc, zgd, zge, zgf, zgg, zgh, zgi, zgj, zgk, zgl, zgm, zgn, zgo, zgp, zgq, zgr, zgs, zgt, zgu, zgv, zgw, zgx, zgy, zgz, zha, zhb, zhc, zhd, zhe, zhf, zhg, zhh, zhi, zhx, zhy, zhz, zia, zhj, zhk, zhl, zhm, zhn, zho, zhp, zhq, zhr, zhs, zht, zhu, zhv, zhw]
      refine ⟨sz0, sz2, sz1, sz2, sz1, ?_⟩
      refine len_ok (l62 ll l22) ?_
      dsimp only [zaa, zab, zac, zad, zae, zaf, zag, zah, zai, zaj, zak, zal, zam, zan, zao, zap, zaq, zar, zas, zat, zau, zav, zaw, zax, zay, zaz, zba, zbb, zbc, zbd, zbe, zbf, zbg, zbh, zbi, zbk, zbl, zbm, zbn, zbo, zbp, zbq, zbr, zbs, zbt, zbu, zbv, zbw, zbx, zby, zbz, zca, zcb, zcc, zcd, zce, zcf, zcg, zch, zci, zcl, zcm, zcn, zco, zcp, zcq, zcr, zcs, zct, zcu, zcv, zcw, zcx, zcy, zcz, zda, zdb, zdc, zdd, zde, zdf, zdg, zdh, zdi, zdj, zdk, zdl, zdm, zdn, zdo, zdp, zdq, zdr, zds, zdt, zdu, zdv, zdw, zdx, zdy, zdz, zea, zeb, zec, zed, zee, zef, zeg, zeh, zei, zej, zek, zel, zem, zen, zeo, zep, zeq, zer, zes, zet, zeu, zev, zew, zex, zey, zez, zfa, zfb, zfc, zfd, zfe, zff, zfg, zfh, zfi, zfj, zfk, zfl, zfm, zfn, zfo, zfp, zfq, zfr, zfs, zft, zfu, zfv, zfw, zfx, zfy, zfz, zga, zgb, zgc, zgd, zge, zgf, zgg, zgh, zgi, zgj, zgk, zgl, zgm, zgn, zgo, zgp, zgq, zgr, zgs, zgt, zgu, zgv, zgw, zgx, zgy, zgz, zha, zhb, zhc, zhd, zhe, zhf, zhg, zhh, zhi, zhx, zhy, zhz, zia, zhj, zhk, zhl, zhm, zhn, zho, zhp, zhq, zhr, zhs, zht, zhu, zhv, zhw]
      rw [ll, lo, show (l'.length : Int) - (o.length : Int) = ((l'.length - o.length : Nat) : Int) from (Int.ofNat_sub hle).symm]
      dsimp only [zaa, zab, zac, zad, zae, zaf, zag, zah, zai, zaj, zak, zal, zam, zan, zao, zap, zaq, zar, zas, zat, zau, zav, zaw, zax, zay, zaz, zba, zbb, zbc, zbd, zbe, zbf, zbg, zbh, zbi, zbk, zbl, zbm, zbn, zbo, zbp, zbq, zbr, zbs, zbt, zbu, zbv, zbw, zbx, zby, zbz, zca, zcb, zcc, zcd, zce, zcf, zcg, zch, zci, zcl, zcm, zcn, zco, zcp, zcq, zcr, zcs, zct, zcu, zcv, zcw, zcx, zcy, zcz, zda, zdb, zdc, zdd, zde, zdf, zdg, zdh, zdi, zdj, zdk, zdl, zdm, zdn, zdo, zdp, zdq, zdr, zds, zdt, zdu, zdv, zdw, zdx, zdy, zdz, zea, zeb, zec, zed, zee, zef, zeg, zeh, zei, zej, zek, zel, zem, zen, zeo, zep, zeq, zer, zes, zet, zeu, zev, zew, zex, zey, zez, zfa, zfb, zfc, zfd, zfe, zff, zfg, zfh, zfi, zfj, zfk, zfl, zfm, zfn, zfo, zfp, zfq, zfr, zfs, zft, zfu, zfv, zfw, zfx, zfy, zfz, zga, zgb, zgc, zgd, zge, zgf, zgg, zgh, zgi, zgj, zgk, zgl, zgm, zgn, zgo, zgp, zgq, zgr, zgs, zgt, zgu, zgv, zgw, zgx, zgy, zgz, zha, zhb, zhc, zhd, zhe, zhf, zhg, zhh, zhi, zhx, zhy, zhz, zia, zhj, zhk, zhl, zhm, zhn, zho, zhp, zhq, zhr, zhs, zht, zhu, zhv, zhw]
      rw [rep_D, ← dR0 hw, ← hB]
      have hb22 : (dB l' o).length < 2 ^ 22 := Nat.lt_of_succ_lt (show (dB l' o).length + 1 < 2 ^ 22 by rw [bl']; exact l22)
      refine ⟨rfl, l62 rfl o22, repN (Nat.lt_of_le_of_lt (Nat.sub_le ..) l22), by rw [← List.length_append, ← hB, hBl]; exact sz_le hb22, ?_⟩
      refine len_ok (l62 hBl hb22) ?_
      dsimp only [zaa, zab, zac, zad, zae, zaf, zag, zah, zai, zaj, zak, zal, zam, zan, zao, zap, zaq, zar, zas, zat, zau, zav, zaw, zax, zay, zaz, zba, zbb, zbc, zbd, zbe, zbf, zbg, zbh, zbi, zbk, zbl, zbm, zbn, zbo, zbp, zbq, zbr, zbs, zbt, zbu, zbv, zbw, zbx, zby, zbz, zca, zcb, zcc, zcd, zce, zcf, zcg, zch, zci, zcl, zcm, zcn, zco, zcp, zcq, zcr, zcs, zct, zcu, zcv, zcw, zcx, zcy, zcz, zda, zdb, zdc, zdd, zde, zdf, zdg, zdh, zdi, zdj, zdk, zdl, zdm, zdn, zdo, zdp, zdq, zdr, zds, zdt, zdu, zdv, zdw, zdx, zdy, zdz, zea, zeb, zec, zed, zee, zef, zeg, zeh, zei, zej, zek, zel, zem, zen, zeo, zep, zeq, zer, zes, zet, zeu, zev, zew, zex, zey, zez, zfa, zfb, zfc, zfd, zfe, zff, zfg, zfh, zfi, zfj, zfk, zfl, zfm, zfn, zfo, zfp, zfq, zfr, zfs, zft, zfu, zfv, zfw, zfx, zfy, zfz, zga, zgb, zgc, zgd, zge, zgf, zgg, zgh, zgi, zgj, zgk, zgl, zgm, zgn, zgo, zgp, zgq, zgr, zgs, zgt, zgu, zgv, zgw, zgx, zgy, zgz, zha, zhb, zhc, zhd, zhe, zhf, zhg, zhh, zhi, zhx, zhy, zhz, zia, zhj, zhk, zhl, zhm, zhn, zho, zhp, zhq, zhr, zhs, zht, zhu, zhv, zhw]
      refine .inl ⟨rfl, bigN hBl hb22, ⟨rfl, ?_⟩, ?_⟩
      · rw [rangeL_map, List.length_map, List.length_range, rnl hBl]; exact sz_le hb22
      rw [rangeL_map, rnl hBl]
      refine comp_all (r := fun i => dR w (rsub (l'.getD (i + 1) (0, 1)) ((dB l' o).getD i (0, 1)))) ?_ ?_ ?_
      · exact fun d => rfl
      · intro i hi C' hC'
        have hi := List.mem_range.mp hi
        rw [Int.zero_add]
        dsimp only [zaa, zab, zac, zad, zae, zaf, zag, zah, zai, zaj, zak, zal, zam, zan, zao, zap, zaq, zar, zas, zat, zau, zav, zaw, zax, zay, zaz, zba, zbb, zbc, zbd, zbe, zbf, zbg, zbh, zbi, zbk, zbl, zbm, zbn, zbo, zbp, zbq, zbr, zbs, zbt, zbu, zbv, zbw, zbx, zby, zbz, zca, zcb, zcc, zcd, zce, zcf, zcg, zch, zci, zcl, zcm, zcn, zco, zcp, zcq, zcr, zcs, zct, zcu, zcv, zcw, zcx, zcy, zcz, zda, zdb, zdc, zdd, zde, zdf, zdg, zdh, zdi, zdj, zdk, zdl, zdm, zdn, zdo, zdp, zdq, zdr, zds, zdt, zdu, zdv, zdw, zdx, zdy, zdz, zea, zeb, zec, zed, zee, zef, zeg, zeh, zei, zej, zek, zel, zem, zen, zeo, zep, zeq, zer, zes, zet, zeu, zev, zew, zex, zey, zez, zfa, zfb, zfc, zfd, zfe, zff, zfg, zfh, zfi, zfj, zfk, zfl, zfm, zfn, zfo, zfp, zfq, zfr, zfs, zft, zfu, zfv, zfw, zfx, zfy, zfz, zga, zgb, zgc, zgd, zge, zgf, zgg, zgh, zgi, zgj, zgk, zgl, zgm, zgn, zgo, zgp, zgq, zgr, zgs, zgt, zgu, zgv, zgw, zgx, zgy, zgz, zha, zhb, zhc, zhd, zhe, zhf, zhg, zhh, zhi, zhx, zhy, zhz, zia, zhj, zhk, zhl, zhm, zhn, zho, zhp, zhq, zhr, zhs, zht, zhu, zhv, zhw]
        refine ixn (bl' ▸ Nat.succ_lt_succ hi) l22 (hLg (i + 1) (bl' ▸ Nat.succ_lt_succ hi)) ?_
        dsimp only [zaa, zab, zac, zad, zae, zaf, zag, zah, zai, zaj, zak, zal, zam, zan, zao, zap, zaq, zar, zas, zat, zau, zav, zaw, zax, zay, zaz, zba, zbb, zbc, zbd, zbe, zbf, zbg, zbh, zbi, zbk, zbl, zbm, zbn, zbo, zbp, zbq, zbr, zbs, zbt, zbu, zbv, zbw, zbx, zby, zbz, zca, zcb, zcc, zcd, zce, zcf, zcg, zch, zci, zcl, zcm, zcn, zco, zcp, zcq, zcr, zcs, zct, zcu, zcv, zcw, zcx, zcy, zcz, zda, zdb, zdc, zdd, zde, zdf, zdg, zdh, zdi, zdj, zdk, zdl, zdm, zdn, zdo, zdp, zdq, zdr, zds, zdt, zdu, zdv, zdw, zdx, zdy, zdz, zea, zeb, zec, zed, zee, zef, zeg, zeh, zei, zej, zek, zel, zem, zen, zeo, zep, zeq, zer, zes, zet, zeu, zev, zew, zex, zey, zez, zfa, zfb, zfc, zfd, zfe, zff, zfg, zfh, zfi, zfj, zfk, zfl, zfm, zfn, zfo, zfp, zfq, zfr, zfs, zft, zfu, zfv, zfw, zfx, zfy, zfz, zga, zgb, zgc, zgd, zge, zgf, zgg, zgh, zgi, zgj, zgk, zgl, zgm, zgn, zgo, zgp, zgq, zgr, zgs, zgt, zgu, zgv, zgw, zgx, zgy, zgz, zha, zhb, zhc, zhd, zhe, zhf, zhg, zhh, zhi, zhx, zhy, zhz, zia, zhj, zhk, zhl, zhm, zhn, zho, zhp, zhq, zhr, zhs, zht, zhu, zhv, zhw]
        refine ixn hi hb22 (hBg i hi) ?_
        dsimp only [zaa, zab, zac, zad, zae, zaf, zag, zah, zai, zaj, zak, zal, zam, zan, zao, zap, zaq, zar, zas, zat, zau, zav, zaw, zax, zay, zaz, zba, zbb, zbc, zbd, zbe, zbf, zbg, zbh, zbi, zbk, zbl, zbm, zbn, zbo, zbp, zbq, zbr, zbs, zbt, zbu, zbv, zbw, zbx, zby, zbz, zca, zcb, zcc, zcd, zce, zcf, zcg, zch, zci, zcl, zcm, zcn, zco, zcp, zcq, zcr, zcs, zct, zcu, zcv, zcw, zcx, zcy, zcz, zda, zdb, zdc, zdd, zde, zdf, zdg, zdh, zdi, zdj, zdk, zdl, zdm, zdn, zdo, zdp, zdq, zdr, zds, zdt, zdu, zdv, zdw, zdx, zdy, zdz, zea, zeb, zec, zed, zee, zef, zeg, zeh, zei, zej, zek, zel, zem, zen, zeo, zep, zeq, zer, zes, zet, zeu, zev, zew, zex, zey, zez, zfa, zfb, zfc, zfd, zfe, zff, zfg, zfh, zfi, zfj, zfk, zfl, zfm, zfn, zfo, zfp, zfq, zfr, zfs, zft, zfu, zfv, zfw, zfx, zfy, zfz, zga, zgb, zgc, zgd, zge, zgf, zgg, zgh, zgi, zgj, zgk, zgl, zgm, zgn, zgo, zgp, zgq, zgr, zgs, zgt, zgu, zgv, zgw, zgx, zgy, zgz, zha, zhb, zhc, zhd, zhe, zhf, zhg, zhh, zhi, zhx, zhy, zhz, zia, zhj, zhk, zhl, zhm, zhn, zho, zhp, zhq, zhr, zhs, zht, zhu, zhv, zhw]
        exact ⟨vn, _, CS i hi, hC'⟩
      exact hfin _ _
    · have hle : ¬ o.length ≤ l'.length := fun e => decF h (Int.ofNat_le.mpr e)
      have e : (m, l') = DD := by
        rw [← hdl']
        cases l'.length with
        | zero => rfl
        | succ n => exact (if_neg hle).symm
      have hRR : ∀ r, dstrip r = dstrip l' → dstrip r = r → D.tup [.list (rl w m), .list (rl w r)] = R := fun r h1 h2 => by
        rw [← hR]; unfold divided; rw [hD, ← e, ← h1, h2]
      refine while_inv (fun n ρ => ∃ r sl, ρ = [some (.val (.list dl)), some (.val (.list do')), some (.val (.int w)), some sl, some (.own (rl w m)), v5, v6, some (.val (.bi (.builtin "len"))), some (.val (.fn (Str.ofString "r_div"))), some (.val fM), some (.val fD), some (.val (.bi (.type "range"))), some (.val (.fn (Str.ofString "s_sign")))] ∧
        (sl = .val (.list (rl w r)) ∨ sl = .own (rl w r)) ∧ n = r.length ∧ (∀ x ∈ r, Sm w x) ∧ r.length ≤ l'.length ∧ dstrip r = dstrip l') ?_ ⟨l', _, rfl, .inl rfl, rfl, hds.all, Nat.le_refl _, rfl⟩
      rintro n ρ ⟨r, sl, rfl, hsl, rfl, hrs, hrl, hst⟩ C hC
      have lr : (rl w r).length = r.length := List.length_map ..
      have r22 := Nat.lt_of_le_of_lt hrl l22
      generalize hK : kWC _ _ _ = K
      have key : (sem W (k + 7) ((T.cmp CmpOp.NotEq (T.var 3) T.nil.list).and2 (T.cmp CmpOp.Eq ((T.var 12).call ((((T.var 3).sub (T.int (Int.ofNat 0))).sub (T.int (Int.ofNat 0))).cons T.nil)) (T.int (Int.ofNat 0))))).t
          [some (.val (.list dl)), some (.val (.list do')), some (.val (.int w)), some (.val (.list (rl w r))), some (.own (rl w m)), v5, v6, some (.val (.bi (.builtin "len"))), some (.val (.fn (Str.ofString "r_div"))), some (.val fM), some (.val fD), some (.val (.bi (.type "range"))), some (.val (.fn (Str.ofString "s_sign")))] K := by
        subst hK
        dsimp only [zaa, zab, zac, zad, zae, zaf, zag, zah, zai, zaj, zak, zal, zam, zan, zao, zap, zaq, zar, zas, zat, zau, zav, zaw, zax, zay, zaz, zba, zbb, zbc, zbd, zbe, zbf, zbg, zbh, zbi, zbk, zbl, zbm, zbn, zbo, zbp, zbq, zbr, zbs, zbt, zbu, zbv, zbw, zbx, zby, zbz, zca, zcb, zcc, zcd, zce, zcf, zcg, zch, zci, zcl, zcm, zcn, zco, zcp, zcq, zcr, zcs, zct, zcu, zcv, zcw, zcx, zcy, zcz, zda, zdb, zdc, zdd, zde, zdf, zdg, zdh, zdi, zdj, zdk, zdl, zdm, zdn, zdo, zdp, zdq, zdr, zds, zdt, zdu, zdv, zdw, zdx, zdy, zdz, zea, zeb, zec, zed, zee, zef, zeg, zeh, zei, zej, zek, zel, zem, zen, zeo, zep, zeq, zer, zes, zet, zeu, zev, zew, zex, zey, zez, zfa, zfb, zfc, zfd, zfe, zff, zfg, zfh, zfi, zfj, zfk, zfl, zfm, zfn, zfo, zfp, zfq, zfr, zfs, zft, zfu, zfv, zfw, zfx, zfy, zfz, zga, zgb, zgc, zgd, zge, zgf, zgg, zgh, zgi, zgj, zgk, zgl, zgm, zgn, zgo, zgp, zgq, zgr, zgs, zgt, zgu, zgv, zgw, zgx, zgy, zgz, zha, zhb, zhc, zhd, zhe, zhf, zhg, zhh, zhi, zhx, zhy, zhz, zia, zhj, zhk, zhl, zhm, zhn, zho, zhp, zhq, zhr, zhs, zht, zhu, zhv, zhw]
        refine ⟨sz0, rfl, fun h => ?_, fun h => ⟨(fun h => nomatch h), fun _ => ⟨sz2, ?_⟩⟩⟩
        · cases r with
          | nil => exact absurd (show false = true from h) (fun h => nomatch h)
          | cons x r =>
            refine ixn (i := 0) (n := 1) (by decide) (by decide) (show _ = some (D.tup [dS w x.1, dL w x.2]) from rfl) ?_
            dsimp only [zaa, zab, zac, zad, zae, zaf, zag, zah, zai, zaj, zak, zal, zam, zan, zao, zap, zaq, zar, zas, zat, zau, zav, zaw, zax, zay, zaz, zba, zbb, zbc, zbd, zbe, zbf, zbg, zbh, zbi, zbk, zbl, zbm, zbn, zbo, zbp, zbq, zbr, zbs, zbt, zbu, zbv, zbw, zbx, zby, zbz, zca, zcb, zcc, zcd, zce, zcf, zcg, zch, zci, zcl, zcm, zcn, zco, zcp, zcq, zcr, zcs, zct, zcu, zcv, zcw, zcx, zcy, zcz, zda, zdb, zdc, zdd, zde, zdf, zdg, zdh, zdi, zdj, zdk, zdl, zdm, zdn, zdo, zdp, zdq, zdr, zds, zdt, zdu, zdv, zdw, zdx, zdy, zdz, zea, zeb, zec, zed, zee, zef, zeg, zeh, zei, zej, zek, zel, zem, zen, zeo, zep, zeq, zer, zes, zet, zeu, zev, zew, zex, zey, zez, zfa, zfb, zfc, zfd, zfe, zff, zfg, zfh, zfi, zfj, zfk, zfl, zfm, zfn, zfo, zfp, zfq, zfr, zfs, zft, zfu, zfv, zfw, zfx, zfy, zfz, zga, zgb, zgc, zgd, zge, zgf, zgg, zgh, zgi, zgj, zgk, zgl, zgm, zgn, zgo, zgp, zgq, zgr, zgs, zgt, zgu, zgv, zgw, zgx, zgy, zgz, zha, zhb, zhc, zhd, zhe, zhf, zhg, zhh, zhi, zhx, zhy, zhz, zia, zhj, zhk, zhl, zhm, zhn, zho, zhp, zhq, zhr, zhs, zht, zhu, zhv, zhw]
            refine t0 ?_
            dsimp only [zaa, zab, zac, zad, zae, zaf, zag, zah, zai, zaj, zak, zal, zam, zan, zao, zap, zaq, zar, zas, zat, zau, zav, zaw, zax, zay, zaz, zba, zbb, zbc, zbd, zbe, zbf, zbg, zbh, zbi, zbk, zbl, zbm, zbn, zbo, zbp, zbq, zbr, zbs, zbt, zbu, zbv, zbw, zbx, zby, zbz, zca, zcb, zcc, zcd, zce, zcf, zcg, zch, zci, zcl, zcm, zcn, zco, zcp, zcq, zcr, zcs, zct, zcu, zcv, zcw, zcx, zcy, zcz, zda, zdb, zdc, zdd, zde, zdf, zdg, zdh, zdi, zdj, zdk, zdl, zdm, zdn, zdo, zdp, zdq, zdr, zds, zdt, zdu, zdv, zdw, zdx, zdy, zdz, zea, zeb, zec, zed, zee, zef, zeg, zeh, zei, zej, zek, zel, zem, zen, zeo, zep, zeq, zer, zes, zet, zeu, zev, zew, zex, zey, zez, zfa, zfb, zfc, zfd, zfe, zff, zfg, zfh, zfi, zfj, zfk, zfl, zfm, zfn, zfo, zfp, zfq, zfr, zfs, zft, zfu, zfv, zfw, zfx, zfy, zfz, zga, zgb, zgc, zgd, zge, zgf, zgg, zgh, zgi, zgj, zgk, zgl, zgm, zgn, zgo, zgp, zgq, zgr, zgs, zgt, zgu, zgv, zgw, zgx, zgy, zgz, zha, zhb, zhc, zhd, zhe, zhf, zhg, zhh, zhi, zhx, zhy, zhz, zia, zhj, zhk, zhl, zhm, zhn, zho, zhp, zhq, zhr, zhs, zht, zhu, zhv, zhw]
            refine ⟨vn, _, (s_sign_ok (k := k) hW hw (Nat.lt_trans (hrs x (.head _)).1 (by decide))).up (Nat.le_add_right _ 6), ?_⟩
            dsimp only [zaa, zab, zac, zad, zae, zaf, zag, zah, zai, zaj, zak, zal, zam, zan, zao, zap, zaq, zar, zas, zat, zau, zav, zaw, zax, zay, zaz, zba, zbb, zbc, zbd, zbe, zbf, zbg, zbh, zbi, zbk, zbl, zbm, zbn, zbo, zbp, zbq, zbr, zbs, zbt, zbu, zbv, zbw, zbx, zby, zbz, zca, zcb, zcc, zcd, zce, zcf, zcg, zch, zci, zcl, zcm, zcn, zco, zcp, zcq, zcr, zcs, zct, zcu, zcv, zcw, zcx, zcy, zcz, zda, zdb, zdc, zdd, zde, zdf, zdg, zdh, zdi, zdj, zdk, zdl, zdm, zdn, zdo, zdp, zdq, zdr, zds, zdt, zdu, zdv, zdw, zdx, zdy, zdz, zea, zeb, zec, zed, zee, zef, zeg, zeh, zei, zej, zek, zel, zem, zen, zeo, zep, zeq, zer, zes, zet, zeu, zev, zew, zex, zey, zez, zfa, zfb, zfc, zfd, zfe, zff, zfg, zfh, zfi, zfj, zfk, zfl, zfm, zfn, zfo, zfp, zfq, zfr, zfs, zft, zfu, zfv, zfw, zfx, zfy, zfz, zga, zgb, zgc, zgd, zge, zgf, zgg, zgh, zgi, zgj, zgk, zgl, zgm, zgn, zgo, zgp, zgq, zgr, zgs, zgt, zgu, zgv, zgw, zgx, zgy, zgz, zha, zhb, zhc, zhd, zhe, zhf, zhg, zhh, zhi, zhx, zhy, zhz, zia, zhj, zhk, zhl, zhm, zhn, zho, zhp, zhq, zhr, zhs, zht, zhu, zhv, zhw]
            refine ⟨fun h0 => ⟨sz_le (lr ▸ r22), ?_⟩, fun h0 => ⟨sz2, ?_⟩⟩
            · have hx0 : x.1 = 0 := Int.sign_eq_zero_iff_zero.mp (decT h0)
              rw [sl_from1 _ (by rw [lr]; exact Nat.succ_pos _)]
              exact hC r.length _ (Nat.lt_succ_self _) ⟨r, _, rfl, .inr rfl, rfl, fun y hy => hrs y (.tail _ hy), Nat.le_of_succ_le hrl, by rw [← hst]; exact (if_pos hx0).symm⟩
            · have hx0 : ¬ x.1 = 0 := fun e => decF h0 (by rw [e]; rfl)
              rw [hRR (x :: r) hst (if_neg hx0)]
        · have hr0 : r = [] := by
            cases r with
            | nil => rfl
            | cons x r => exact absurd (show true = false from h) (fun h => nomatch h)
          subst hr0
          rw [hRR [] hst rfl]
      rcases hsl with rfl | rfl
      · exact key
      · exact key
  rcases hsl with rfl | rfl
  · exact key
  · exact key
end Mine

set_option maxHeartbeats 4000000
namespace Mine
open PySem PySem.W PyProof.Rows PySem.Calls PySem.Spec PySem.Challenge
theorem fn43 : FnOkC (defAt 43) [Str.ofString "chain", Str.ofString "place", Str.ofString "w"] where
  bind := fun s pm code doc vs h => by obtain ⟨_, _, _, rfl⟩ := len3 h; exact BindsTo.of_eq rfl
  loc := by decide +kernel
  nd := by decide +kernel
  and := by decide +kernel
  nc := by decide +kernel
  cn := by decide +kernel
  kind := rfl
  co := rfl
  gen := rfl
noncomputable abbrev cl (w : Nat) (c : List (List Q2)) : List D := c.map fun xs => D.list (rl w xs)
noncomputable def sgs (c : List (List Q2)) (p : Q2) : List Int := (c.map fun xs => (pval xs p).1.sign).filter fun s => !decide (s = 0)
noncomputable def chg (ss : List Int) : Nat := ((List.range (ss.length - 1)).filter fun i => !decide (ss.getD (1 + i) 0 = ss.getD i 0)).length
theorem changes_ok {W : Wd} {k : Nat} (hW : Wv W) {w : Nat} {c : List (List Q2)} {p : Q2} (hw : w ≠ 0) (hw8 : w ≤ 8) (hc : c.length < 2 ^ 18) (hp : Sm w p) (hx : ∀ xs ∈ c, xs.length < 2 ^ 18 ∧ VSm w p xs (0, 1) ∧ Sm w (pval xs p)) :
    CallOk W (k + 8) (Str.ofString "_law_changes") [.val (.list (cl w c)), .val (dR w p), .val (.int (w : Int))] (.int (chg (sgs c p) : Nat)) [.val (.list (cl w c)), .val (dR w p), .val (.int (w : Int))] := by
  refine call_fnC (d := defAt 43) (as := [Str.ofString "chain", Str.ofString "place", Str.ofString "w"]) (ds := [.list (cl w c), dR w p, .int (w : Int)]) (n := 60) hW.2 (rec_mem 43 (by decide) hW) fn43 rfl ?_
  have CV : ∀ xs ∈ c, CallOk W (k + 7) (Str.ofString "_law_value") [.val (.list (rl w xs)), .val (dR w p), .val (.int (w : Int))] (.tup [dS w (pval xs p).1, dL w (pval xs p).2]) [.val (.list (rl w xs)), .val (dR w p), .val (.int (w : Int))] :=
    fun xs h => value_ok (k := k) hW hw hw8 hp (hx xs h).2.1 (Nat.lt_trans (hx xs h).1 (by decide))
  have CS : ∀ xs ∈ c, CallOk W (k + 7) (Str.ofString "s_sign") [.val (dS w (pval xs p).1)] (.int (pval xs p).1.sign) [.val (dS w (pval xs p).1)] :=
    fun xs h => (s_sign_ok (k := k) hW hw (Nat.lt_trans (hx xs h).2.2.1 (by decide))).up (Nat.le_add_right _ 6)
  generalize hdc : cl w c = dc
  have c22 : dc.length < 2 ^ 22 := by rw [← hdc, List.length_map]; exact Nat.lt_trans hc (by decide)
  generalize dR w p = dp at *
  conv in (co _ _ _) => reduce
  conv in (initR _ _) => reduce
  dsimp only [zaa, zab, zac, zad, zae, zaf, zag, zah, zai, zaj, zak, zal, zam, zan, zao, zap, zaq, zar, zas, zat, zau, zav, zaw, zax, zay, zaz, zba, zbb, zbc, zbd, zbe, zbf, zbg, zbh, zbi, zbk, zbl, zbm, zbn, zbo, zbp, zbq, zbr, zbs, zbt, zbu, zbv, zbw, zbx, zby, zbz, zca, zcb, zcc, zcd, zce, zcf, zcg, zch, zci, zcl, zcm, zcn, zco, zcp, zcq, zcr, zcs, zct, zcu, zcv, zcw, zcx, zcy, zcz, zda, zdb, zdc, zdd, zde, zdf, zdg, zdh, zdi, zdj, zdk, zdl, zdm, zdn, zdo, zdp, zdq, zdr, zds, zdt, zdu, zdv, zdw, zdx, zdy, zdz, zea, zeb, zec, zed, zee, zef, zeg, zeh, zei, zej, zek, zel, zem, zen, zeo, zep, zeq, zer, zes, zet, zeu, zev, zew, zex, zey, zez, zfa, zfb, zfc, zfd, zfe, zff, zfg, zfh, zfi, zfj, zfk, zfl, zfm, zfn, zfo, zfp, zfq, zfr, zfs, zft, zfu, zfv, zfw, zfx, zfy, zfz, zga, zgb, zgc, zgd, zge, zgf, zgg, zgh, zgi, zgj, zgk, zgl, zgm, zgn, zgo, zgp, zgq, zgr, zgs, zgt, zgu, zgv, zgw, zgx, zgy, zgz, zha, zhb, zhc, zhd, zhe, zhf, zhg, zhh, zhi, zhx, zhy, zhz, zia, zhj, zhk, zhl, zhm, zhn, zho, zhp, zhq, zhr, zhs, zht, zhu, zhv, zhw]
  refine ⟨⟨rfl, sz_le c22⟩, ?_⟩
  rw [← hdc]
  refine comp_all (r := fun xs => D.int (pval xs p).1.sign) ?_ ?_ ?_
  · exact fun d => rfl
  · intro xs hxs C hC
    dsimp only [zaa, zab, zac, zad, zae, zaf, zag, zah, zai, zaj, zak, zal, zam, zan, zao, zap, zaq, zar, zas, zat, zau, zav, zaw, zax, zay, zaz, zba, zbb, zbc, zbd, zbe, zbf, zbg, zbh, zbi, zbk, zbl, zbm, zbn, zbo, zbp, zbq, zbr, zbs, zbt, zbu, zbv, zbw, zbx, zby, zbz, zca, zcb, zcc, zcd, zce, zcf, zcg, zch, zci, zcl, zcm, zcn, zco, zcp, zcq, zcr, zcs, zct, zcu, zcv, zcw, zcx, zcy, zcz, zda, zdb, zdc, zdd, zde, zdf, zdg, zdh, zdi, zdj, zdk, zdl, zdm, zdn, zdo, zdp, zdq, zdr, zds, zdt, zdu, zdv, zdw, zdx, zdy, zdz, zea, zeb, zec, zed, zee, zef, zeg, zeh, zei, zej, zek, zel, zem, zen, zeo, zep, zeq, zer, zes, zet, zeu, zev, zew, zex, zey, zez, zfa, zfb, zfc, zfd, zfe, zff, zfg, zfh, zfi, zfj, zfk, zfl, zfm, zfn, zfo, zfp, zfq, zfr, zfs, zft, zfu, zfv, zfw, zfx, zfy, zfz, zga, zgb, zgc, zgd, zge, zgf, zgg, zgh, zgi, zgj, zgk, zgl, zgm, zgn, zgo, zgp, zgq, zgr, zgs, zgt, zgu, zgv, zgw, zgx, zgy, zgz, zha, zhb, zhc, zhd, zhe, zhf, zhg, zhh, zhi, zhx, zhy, zhz, zia, zhj, zhk, zhl, zhm, zhn, zho, zhp, zhq, zhr, zhs, zht, zhu, zhv, zhw]
    refine ⟨vn, _, CV xs hxs, t0 ?_⟩
    dsimp only [zaa, zab, zac, zad, zae, zaf, zag, zah, zai, zaj, zak, zal, zam, zan, zao, zap, zaq, zar, zas, zat, zau, zav, zaw, zax, zay, zaz, zba, zbb, zbc, zbd, zbe, zbf, zbg, zbh, zbi, zbk, zbl, zbm, zbn, zbo, zbp, zbq, zbr, zbs, zbt, zbu, zbv, zbw, zbx, zby, zbz, zca, zcb, zcc, zcd, zce, zcf, zcg, zch, zci, zcl, zcm, zcn, zco, zcp, zcq, zcr, zcs, zct, zcu, zcv, zcw, zcx, zcy, zcz, zda, zdb, zdc, zdd, zde, zdf, zdg, zdh, zdi, zdj, zdk, zdl, zdm, zdn, zdo, zdp, zdq, zdr, zds, zdt, zdu, zdv, zdw, zdx, zdy, zdz, zea, zeb, zec, zed, zee, zef, zeg, zeh, zei, zej, zek, zel, zem, zen, zeo, zep, zeq, zer, zes, zet, zeu, zev, zew, zex, zey, zez, zfa, zfb, zfc, zfd, zfe, zff, zfg, zfh, zfi, zfj, zfk, zfl, zfm, zfn, zfo, zfp, zfq, zfr, zfs, zft, zfu, zfv, zfw, zfx, zfy, zfz, zga, zgb, zgc, zgd, zge, zgf, zgg, zgh, zgi, zgj, zgk, zgl, zgm, zgn, zgo, zgp, zgq, zgr, zgs, zgt, zgu, zgv, zgw, zgx, zgy, zgz, zha, zhb, zhc, zhd, zhe, zhf, zhg, zhh, zhi, zhx, zhy, zhz, zia, zhj, zhk, zhl, zhm, zhn, zho, zhp, zhq, zhr, zhs, zht, zhu, zhv, zhw]
    exact ⟨vn, _, CS xs hxs, hC⟩
  have l1 : (c.map fun xs => D.int (pval xs p).1.sign).length < 2 ^ 22 := by rw [List.length_map]; exact Nat.lt_trans hc (by decide)
  dsimp only [zaa, zab, zac, zad, zae, zaf, zag, zah, zai, zaj, zak, zal, zam, zan, zao, zap, zaq, zar, zas, zat, zau, zav, zaw, zax, zay, zaz, zba, zbb, zbc, zbd, zbe, zbf, zbg, zbh, zbi, zbk, zbl, zbm, zbn, zbo, zbp, zbq, zbr, zbs, zbt, zbu, zbv, zbw, zbx, zby, zbz, zca, zcb, zcc, zcd, zce, zcf, zcg, zch, zci, zcl, zcm, zcn, zco, zcp, zcq, zcr, zcs, zct, zcu, zcv, zcw, zcx, zcy, zcz, zda, zdb, zdc, zdd, zde, zdf, zdg, zdh, zdi, zdj, zdk, zdl, zdm, zdn, zdo, zdp, zdq, zdr, zds, zdt, zdu, zdv, zdw, zdx, zdy, zdz, zea, zeb, zec, zed, zee, zef, zeg, zeh, zei, zej, zek, zel, zem, zen, zeo, zep, zeq, zer, zes, zet, zeu, zev, zew, zex, zey, zez, zfa, zfb, zfc, zfd, zfe, zff, zfg, zfh, zfi, zfj, zfk, zfl, zfm, zfn, zfo, zfp, zfq, zfr, zfs, zft, zfu, zfv, zfw, zfx, zfy, zfz, zga, zgb, zgc, zgd, zge, zgf, zgg, zgh, zgi, zgj, zgk, zgl, zgm, zgn, zgo, zgp, zgq, zgr, zgs, zgt, zgu, zgv, zgw, zgx, zgy, zgz, zha, zhb, zhc, zhd, zhe, zhf, zhg, zhh, zhi, zhx, zhy, zhz, zia, zhj, zhk, zhl, zhm, zhn, zho, zhp, zhq, zhr, zhs, zht, zhu, zhv, zhw]
  refine ⟨⟨rfl, sz_le l1⟩, ?_⟩
  have e1 : (c.map fun xs => D.int (pval xs p).1.sign) = (c.map fun xs => (pval xs p).1.sign).map .int := (List.map_map ..).symm
  rw [e1] at l1 ⊢
  have hS : (c.map fun xs => (pval xs p).1.sign).filter (fun s => !decide (s = 0)) = sgs c p := rfl
  have hSl : (sgs c p).length < 2 ^ 22 := Nat.lt_of_le_of_lt (List.length_filter_le _ _) (by rw [List.length_map] at l1; exact l1)
  generalize (c.map fun xs => (pval xs p).1.sign) = ss at *
  generalize sgs c p = S at *
  refine comp_inv (fun xs acc ρ => ρ = [some (.val (.list (cl w c))), some (.val dp), some (.val (.int w)), some (.val (.list (ss.map .int))), some (.val (.bi (.builtin "len"))), some (.val (.bi (.type "range")))] ∧ acc ++ il (xs.filter fun s => !decide (s = 0)) = il S) ?_ ?_ ⟨rfl, by rw [hS]; rfl⟩
  · rintro s xs acc ρ ⟨rfl, hacc⟩ C hC
    dsimp only [zaa, zab, zac, zad, zae, zaf, zag, zah, zai, zaj, zak, zal, zam, zan, zao, zap, zaq, zar, zas, zat, zau, zav, zaw, zax, zay, zaz, zba, zbb, zbc, zbd, zbe, zbf, zbg, zbh, zbi, zbk, zbl, zbm, zbn, zbo, zbp, zbq, zbr, zbs, zbt, zbu, zbv, zbw, zbx, zby, zbz, zca, zcb, zcc, zcd, zce, zcf, zcg, zch, zci, zcl, zcm, zcn, zco, zcp, zcq, zcr, zcs, zct, zcu, zcv, zcw, zcx, zcy, zcz, zda, zdb, zdc, zdd, zde, zdf, zdg, zdh, zdi, zdj, zdk, zdl, zdm, zdn, zdo, zdp, zdq, zdr, zds, zdt, zdu, zdv, zdw, zdx, zdy, zdz, zea, zeb, zec, zed, zee, zef, zeg, zeh, zei, zej, zek, zel, zem, zen, zeo, zep, zeq, zer, zes, zet, zeu, zev, zew, zex, zey, zez, zfa, zfb, zfc, zfd, zfe, zff, zfg, zfh, zfi, zfj, zfk, zfl, zfm, zfn, zfo, zfp, zfq, zfr, zfs, zft, zfu, zfv, zfw, zfx, zfy, zfz, zga, zgb, zgc, zgd, zge, zgf, zgg, zgh, zgi, zgj, zgk, zgl, zgm, zgn, zgo, zgp, zgq, zgr, zgs, zgt, zgu, zgv, zgw, zgx, zgy, zgz, zha, zhb, zhc, zhd, zhe, zhf, zhg, zhh, zhi, zhx, zhy, zhz, zia, zhj, zhk, zhl, zhm, zhn, zho, zhp, zhq, zhr, zhs, zht, zhu, zhv, zhw]
    refine ⟨fun h => ?_, fun h => ?_⟩
    · refine hC _ _ ⟨rfl, ?_⟩
      rw [List.filter_cons, if_pos (show (!decide (s = 0)) = true from h)] at hacc
      rw [List.append_assoc]; exact hacc
    · refine hC _ _ ⟨rfl, ?_⟩
      rw [List.filter_cons, if_neg (by rw [show (!decide (s = 0)) = false from h]; exact fun h => nomatch h)] at hacc
      exact hacc
  · rintro acc ρ ⟨rfl, hacc⟩
    rw [List.filter_nil, show il ([] : List Int) = [] from rfl, List.append_nil] at hacc
    subst hacc
    have lS : (il S).length = S.length := List.length_map ..
    have gS : ∀ i, i < S.length → (il S)[i]? = some (.int (S.getD i 0)) := fun i h => il_get h
    dsimp only [zaa, zab, zac, zad, zae, zaf, zag, zah, zai, zaj, zak, zal, zam, zan, zao, zap, zaq, zar, zas, zat, zau, zav, zaw, zax, zay, zaz, zba, zbb, zbc, zbd, zbe, zbf, zbg, zbh, zbi, zbk, zbl, zbm, zbn, zbo, zbp, zbq, zbr, zbs, zbt, zbu, zbv, zbw, zbx, zby, zbz, zca, zcb, zcc, zcd, zce, zcf, zcg, zch, zci, zcl, zcm, zcn, zco, zcp, zcq, zcr, zcs, zct, zcu, zcv, zcw, zcx, zcy, zcz, zda, zdb, zdc, zdd, zde, zdf, zdg, zdh, zdi, zdj, zdk, zdl, zdm, zdn, zdo, zdp, zdq, zdr, zds, zdt, zdu, zdv, zdw, zdx, zdy, zdz, zea, zeb, zec, zed, zee, zef, zeg, zeh, zei, zej, zek, zel, zem, zen, zeo, zep, zeq, zer, zes, zet, zeu, zev, zew, zex, zey, zez, zfa, zfb, zfc, zfd, zfe, zff, zfg, zfh, zfi, zfj, zfk, zfl, zfm, zfn, zfo, zfp, zfq, zfr, zfs, zft, zfu, zfv, zfw, zfx, zfy, zfz, zga, zgb, zgc, zgd, zge, zgf, zgg, zgh, zgi, zgj, zgk, zgl, zgm, zgn, zgo, zgp, zgq, zgr, zgs, zgt, zgu, zgv, zgw, zgx, zgy, zgz, zha, zhb, zhc, zhd, zhe, zhf, zhg, zhh, zhi, zhx, zhy, zhz, zia, zhj, zhk, zhl, zhm, zhn, zho, zhp, zhq, zhr, zhs, zht, zhu, zhv, zhw]
    refine len_ok (l62 lS hSl) ?_
    dsimp only [zaa, zab, zac, zad, zae, zaf, zag, zah, zai, zaj, zak, zal, zam, zan, zao, zap, zaq, zar, zas, zat, zau, zav, zaw, zax, zay, zaz, zba, zbb, zbc, zbd, zbe, zbf, zbg, zbh, zbi, zbk, zbl, zbm, zbn, zbo, zbp, zbq, zbr, zbs, zbt, zbu, zbv, zbw, zbx, zby, zbz, zca, zcb, zcc, zcd, zce, zcf, zcg, zch, zci, zcl, zcm, zcn, zco, zcp, zcq, zcr, zcs, zct, zcu, zcv, zcw, zcx, zcy, zcz, zda, zdb, zdc, zdd, zde, zdf, zdg, zdh, zdi, zdj, zdk, zdl, zdm, zdn, zdo, zdp, zdq, zdr, zds, zdt, zdu, zdv, zdw, zdx, zdy, zdz, zea, zeb, zec, zed, zee, zef, zeg, zeh, zei, zej, zek, zel, zem, zen, zeo, zep, zeq, zer, zes, zet, zeu, zev, zew, zex, zey, zez, zfa, zfb, zfc, zfd, zfe, zff, zfg, zfh, zfi, zfj, zfk, zfl, zfm, zfn, zfo, zfp, zfq, zfr, zfs, zft, zfu, zfv, zfw, zfx, zfy, zfz, zga, zgb, zgc, zgd, zge, zgf, zgg, zgh, zgi, zgj, zgk, zgl, zgm, zgn, zgo, zgp, zgq, zgr, zgs, zgt, zgu, zgv, zgw, zgx, zgy, zgz, zha, zhb, zhc, zhd, zhe, zhf, zhg, zhh, zhi, zhx, zhy, zhz, zia, zhj, zhk, zhl, zhm, zhn, zho, zhp, zhq, zhr, zhs, zht, zhu, zhv, zhw]
    have hb1 : -big ≤ ((1 : Nat) : Int) ∧ ((1 : Nat) : Int) ≤ big := big_le (by omega)
    have hbn := bigN lS hSl
    have hrn : (((il S).length : Int) - ((1 : Nat) : Int)).toNat = S.length - 1 := by rw [lS]; omega
    refine .inl ⟨rfl, ⟨hb1.1, hb1.2, hbn⟩, ⟨rfl, ?_⟩, ?_⟩
    · rw [rangeL_map, List.length_map, List.length_range, hrn]; exact sz_le (Nat.lt_of_le_of_lt (Nat.sub_le ..) hSl)
    rw [rangeL_map, hrn]
    have hch : ((List.range (S.length - 1)).filter fun i => !decide (S.getD (1 + i) 0 = S.getD i 0)).length = chg S := rfl
    have hn22 : S.length - 1 < 2 ^ 22 := Nat.lt_of_le_of_lt (Nat.sub_le ..) hSl
    generalize chg S = R at *
    refine comp_inv (fun xs acc ρ => ρ = [some (.val (.list (cl w c))), some (.val dp), some (.val (.int w)), some (.val (.list (il S))), some (.val (.bi (.builtin "len"))), some (.val (.bi (.type "range")))] ∧ (∀ i ∈ xs, 1 + i < S.length) ∧ acc.length + (xs.filter fun i => !decide (S.getD (1 + i) 0 = S.getD i 0)).length = R) ?_ ?_ ⟨rfl, fun i hi => by have := List.mem_range.mp hi; omega, by rw [hch]; exact Nat.zero_add _⟩
    · rintro i is acc ρ ⟨rfl, hi, hacc⟩ C hC
      have hi1 := hi i (.head _)
      dsimp only [zaa, zab, zac, zad, zae, zaf, zag, zah, zai, zaj, zak, zal, zam, zan, zao, zap, zaq, zar, zas, zat, zau, zav, zaw, zax, zay, zaz, zba, zbb, zbc, zbd, zbe, zbf, zbg, zbh, zbi, zbk, zbl, zbm, zbn, zbo, zbp, zbq, zbr, zbs, zbt, zbu, zbv, zbw, zbx, zby, zbz, zca, zcb, zcc, zcd, zce, zcf, zcg, zch, zci, zcl, zcm, zcn, zco, zcp, zcq, zcr, zcs, zct, zcu, zcv, zcw, zcx, zcy, zcz, zda, zdb, zdc, zdd, zde, zdf, zdg, zdh, zdi, zdj, zdk, zdl, zdm, zdn, zdo, zdp, zdq, zdr, zds, zdt, zdu, zdv, zdw, zdx, zdy, zdz, zea, zeb, zec, zed, zee, zef, zeg, zeh, zei, zej, zek, zel, zem, zen, zeo, zep, zeq, zer, zes, zet, zeu, zev, zew, zex, zey, zez, zfa, zfb, zfc, zfd, zfe, zff, zfg, zfh, zfi, zfj, zfk, zfl, zfm, zfn, zfo, zfp, zfq, zfr, zfs, zft, zfu, zfv, zfw, zfx, zfy, zfz, zga, zgb, zgc, zgd, zge, zgf, zgg, zgh, zgi, zgj, zgk, zgl, zgm, zgn, zgo, zgp, zgq, zgr, zgs, zgt, zgu, zgv, zgw, zgx, zgy, zgz, zha, zhb, zhc, zhd, zhe, zhf, zhg, zhh, zhi, zhx, zhy, zhz, zia, zhj, zhk, zhl, zhm, zhn, zho, zhp, zhq, zhr, zhs, zht, zhu, zhv, zhw]
      refine ixn hi1 hSl (gS _ hi1) ?_
      dsimp only [zaa, zab, zac, zad, zae, zaf, zag, zah, zai, zaj, zak, zal, zam, zan, zao, zap, zaq, zar, zas, zat, zau, zav, zaw, zax, zay, zaz, zba, zbb, zbc, zbd, zbe, zbf, zbg, zbh, zbi, zbk, zbl, zbm, zbn, zbo, zbp, zbq, zbr, zbs, zbt, zbu, zbv, zbw, zbx, zby, zbz, zca, zcb, zcc, zcd, zce, zcf, zcg, zch, zci, zcl, zcm, zcn, zco, zcp, zcq, zcr, zcs, zct, zcu, zcv, zcw, zcx, zcy, zcz, zda, zdb, zdc, zdd, zde, zdf, zdg, zdh, zdi, zdj, zdk, zdl, zdm, zdn, zdo, zdp, zdq, zdr, zds, zdt, zdu, zdv, zdw, zdx, zdy, zdz, zea, zeb, zec, zed, zee, zef, zeg, zeh, zei, zej, zek, zel, zem, zen, zeo, zep, zeq, zer, zes, zet, zeu, zev, zew, zex, zey, zez, zfa, zfb, zfc, zfd, zfe, zff, zfg, zfh, zfi, zfj, zfk, zfl, zfm, zfn, zfo, zfp, zfq, zfr, zfs, zft, zfu, zfv, zfw, zfx, zfy, zfz, zga, zgb, zgc, zgd, zge, zgf, zgg, zgh, zgi, zgj, zgk, zgl, zgm, zgn, zgo, zgp, zgq, zgr, zgs, zgt, zgu, zgv, zgw, zgx, zgy, zgz, zha, zhb, zhc, zhd, zhe, zhf, zhg, zhh, zhi, zhx, zhy, zhz, zia, zhj, zhk, zhl, zhm, zhn, zho, zhp, zhq, zhr, zhs, zht, zhu, zhv, zhw]
      rw [show ((1 + i : Nat) : Int) - ((1 : Nat) : Int) = (i : Int) by omega]
      refine ixn (Nat.lt_of_le_of_lt (Nat.le_add_left i 1) hi1) hSl (gS _ (Nat.lt_of_le_of_lt (Nat.le_add_left i 1) hi1)) ?_
      dsimp only [zaa, zab, zac, zad, zae, zaf, zag, zah, zai, zaj, zak, zal, zam, zan, zao, zap, zaq, zar, zas, zat, zau, zav, zaw, zax, zay, zaz, zba, zbb, zbc, zbd, zbe, zbf, zbg, zbh, zbi, zbk, zbl, zbm, zbn, zbo, zbp, zbq, zbr, zbs, zbt, zbu, zbv, zbw, zbx, zby, zbz, zca, zcb, zcc, zcd, zce, zcf, zcg, zch, zci, zcl, zcm, zcn, zco, zcp, zcq, zcr, zcs, zct, zcu, zcv, zcw, zcx, zcy, zcz, zda, zdb, zdc, zdd, zde, zdf, zdg, zdh, zdi, zdj, zdk, zdl, zdm, zdn, zdo, zdp, zdq, zdr, zds, zdt, zdu, zdv, zdw, zdx, zdy, zdz, zea, zeb, zec, zed, zee, zef, zeg, zeh, zei, zej, zek, zel, zem, zen, zeo, zep, zeq, zer, zes, zet, zeu, zev, zew, zex, zey, zez, zfa, zfb, zfc, zfd, zfe, zff, zfg, zfh, zfi, zfj, zfk, zfl, zfm, zfn, zfo, zfp, zfq, zfr, zfs, zft, zfu, zfv, zfw, zfx, zfy, zfz, zga, zgb, zgc, zgd, zge, zgf, zgg, zgh, zgi, zgj, zgk, zgl, zgm, zgn, zgo, zgp, zgq, zgr, zgs, zgt, zgu, zgv, zgw, zgx, zgy, zgz, zha, zhb, zhc, zhd, zhe, zhf, zhg, zhh, zhi, zhx, zhy, zhz, zia, zhj, zhk, zhl, zhm, zhn, zho, zhp, zhq, zhr, zhs, zht, zhu, zhv, zhw]
      refine ⟨fun h => ?_, fun h => ?_⟩
      · refine hC _ _ ⟨rfl, fun j hj => hi j (.tail _ hj), ?_⟩
        rw [List.filter_cons, if_pos h, List.length_cons] at hacc
        rw [List.length_append, Nat.add_assoc, Nat.add_comm [_].length]; exact hacc
      · refine hC _ _ ⟨rfl, fun j hj => hi j (.tail _ hj), ?_⟩
        rw [List.filter_cons, if_neg (by rw [h]; exact fun h => nomatch h)] at hacc
        exact hacc
    · rintro acc ρ ⟨rfl, _, hacc⟩
      dsimp only [zaa, zab, zac, zad, zae, zaf, zag, zah, zai, zaj, zak, zal, zam, zan, zao, zap, zaq, zar, zas, zat, zau, zav, zaw, zax, zay, zaz, zba, zbb, zbc, zbd, zbe, zbf, zbg, zbh, zbi, zbk, zbl, zbm, zbn, zbo, zbp, zbq, zbr, zbs, zbt, zbu, zbv, zbw, zbx, zby, zbz, zca, zcb, zcc, zcd, zce, zcf, zcg, zch, zci, zcl, zcm, zcn, zco, zcp, zcq, zcr, zcs, zct, zcu, zcv, zcw, zcx, zcy, zcz, zda, zdb, zdc, zdd, zde, zdf, zdg, zdh, zdi, zdj, zdk, zdl, zdm, zdn, zdo, zdp, zdq, zdr, zds, zdt, zdu, zdv, zdw, zdx, zdy, zdz, zea, zeb, zec, zed, zee, zef, zeg, zeh, zei, zej, zek, zel, zem, zen, zeo, zep, zeq, zer, zes, zet, zeu, zev, zew, zex, zey, zez, zfa, zfb, zfc, zfd, zfe, zff, zfg, zfh, zfi, zfj, zfk, zfl, zfm, zfn, zfo, zfp, zfq, zfr, zfs, zft, zfu, zfv, zfw, zfx, zfy, zfz, zga, zgb, zgc, zgd, zge, zgf, zgg, zgh, zgi, zgj, zgk, zgl, zgm, zgn, zgo, zgp, zgq, zgr, zgs, zgt, zgu, zgv, zgw, zgx, zgy, zgz, zha, zhb, zhc, zhd, zhe, zhf, zhg, zhh, zhi, zhx, zhy, zhz, zia, zhj, zhk, zhl, zhm, zhn, zho, zhp, zhq, zhr, zhs, zht, zhu, zhv, zhw]
      have hacc : acc.length = R := hacc
      refine len_ok ?_ ?_
      · rw [hacc, ← hch]; exact Nat.lt_of_le_of_lt (List.length_filter_le _ _) (by rw [List.length_range]; exact Nat.lt_trans hn22 (by decide))
      · rw [hacc]; rfl
end Mine

set_option maxHeartbeats 4000000
namespace Mine
noncomputable def sml (q : Q2) : Bool := decide (q.1.natAbs < 2 ^ 200) && (decide (q.2 < 2 ^ 200) && !decide (q.2 = 0))
noncomputable def vsm (p : Q2) : List Q2 → Q2 → Bool
  | [], f => sml f
  | x :: xs, f => sml f && (sml (rmul f p) && (sml x && vsm p xs (vstep p f x)))
noncomputable def dsm : Nat → List Q2 → List Q2 → Bool
  | 0, l, o => l.all sml
  | n + 1, l, o => l.all sml && (if o.length ≤ l.length then sml (dT l o) && ((dB l o).all sml && dsm n (dN l o) o) else true)
noncomputable def q0 (xs : List Q2) : Q2 := xs.getD 0 (0, 1)
noncomputable def okD (a b : List Q2) : Bool := decide (a.length < 10) && decide (b.length < 10) && decide (1 ≤ b.length) && (!decide ((q0 b).1 = 0) && (b.all sml && dsm a.length a b))
noncomputable def cgo : Nat → List (List Q2) → List Q2 → List Q2 → Option (List (List Q2))
  | 0, _, _, _ => none
  | n + 1, ch, a, b => if 1 < b.length then
      if okD a b = true then
        if (divided a b).2.length = 0 then some ch
        else if b.length ≤ (divided a b).2.length then none
        else if (divided a b).1.length + b.length = a.length + 1 then cgo n (ch ++ [(divided a b).2.map rneg]) b ((divided a b).2.map rneg) else none
      else none
    else some ch
noncomputable def whole (z : Int) : Q2 := (z, 1)
noncomputable def p0 (pl : List Int) : List Q2 := pl.map whole
noncomputable def p1 (pl : List Int) : List Q2 := (List.range (pl.length - 1)).map fun i => whole (pl.getD i 0 * ((pl.length : Int) - 1 - i))
noncomputable def chainOf (pl : List Int) : Option (List (List Q2)) := cgo 5 [p0 pl, p1 pl] (p0 pl) (p1 pl)
noncomputable def places : List Int := [-7, -5, -3, -1, 1, 3, 5, 7]
noncomputable def between (rs : List Int) (a b : Int) : Nat := ((List.range (b - a).toNat).filter fun (i : Nat) => decide (a + (i : Int) ∈ rs)).length
noncomputable def chkP (c : List (List Q2)) (p : Int) : Bool := sml (whole p) && c.all fun xs => decide (xs.length < 10) && vsm (whole p) xs (0, 1)
noncomputable def chk (rs pl : List Int) : Bool := decide (pl.length ≤ 4) && ((pl.all fun z => decide (z.natAbs < 2 ^ 32)) && match chainOf pl with
  | none => false
  | some c => decide (c.length < 10) && (places.all (chkP c) &&
      (places.map fun p => (p, chg (sgs c (whole p)))).all fun a => (places.map fun p => (p, chg (sgs c (whole p)))).all fun b => !decide (a.1 ≤ b.1) || decide ((a.2 : Int) - (b.2 : Int) = (between rs a.1 b.1 : Int))))
noncomputable def evens : List Int := [-6, -4, -2, 0, 2, 4, 6]

theorem and1 {a b : Bool} (h : (a && b) = true) : a = true := (Bool.and_eq_true_iff.mp h).1
theorem and2 {a b : Bool} (h : (a && b) = true) : b = true := (Bool.and_eq_true_iff.mp h).2
theorem not1 {p : Prop} [Decidable p] (h : (!decide p) = true) : ¬ p := by simpa using h
theorem sml_Sm {w : Nat} (hw : w ≠ 0) {q : Q2} (h : sml q = true) : Sm w q :=
  ⟨Nat.lt_of_le_of_lt (lim_K hw (decT (and1 h))) (by decide), Nat.lt_of_le_of_lt (lim_K hw (decT (and1 (and2 h)))) (by decide), not1 (and2 (and2 h))⟩
theorem vsm_VSm {w : Nat} (hw : w ≠ 0) {p : Q2} : ∀ {xs : List Q2} {f : Q2}, vsm p xs f = true → VSm w p xs f ∧ Sm w (xs.foldl (vstep p) f)
  | [], f, h => ⟨trivial, sml_Sm hw h⟩
  | x :: xs, f, h => by
    have ih := vsm_VSm hw (and2 (and2 (and2 h)))
    exact ⟨⟨sml_Sm hw (and1 h), sml_Sm hw (and1 (and2 h)), sml_Sm hw (and1 (and2 (and2 h))), ih.1⟩, ih.2⟩
theorem all_Sm {w : Nat} (hw : w ≠ 0) {l : List Q2} (h : l.all sml = true) : ∀ x ∈ l, Sm w x := fun x hx => sml_Sm hw (List.all_eq_true.mp h x hx)
theorem dsm_DSm {w : Nat} (hw : w ≠ 0) : ∀ {n : Nat} {l o : List Q2}, dsm n l o = true → DSm w n l o
  | 0, l, o, h => all_Sm hw h
  | n + 1, l, o, h => by
    refine ⟨all_Sm hw (and1 h), fun hle => ?_⟩
    have h2 := and2 h
    rw [if_pos hle] at h2
    exact ⟨sml_Sm hw (and1 h2), all_Sm hw (and1 (and2 h2)), dsm_DSm hw (and2 (and2 h2))⟩
theorem dsm_rest : ∀ {n : Nat} {l o m : List Q2}, dsm n l o = true → (dloop n l o m).2.all sml = true
  | 0, l, o, m, h => h
  | n + 1, l, o, m, h => by
    show (if o.length ≤ l.length then dloop n (dN l o) o (m ++ [dT l o]) else (m, l)).2.all sml = true
    have h2 := and2 h
    by_cases hle : o.length ≤ l.length
    · rw [if_pos hle] at h2 ⊢
      exact dsm_rest (and2 (and2 h2))
    · rw [if_neg hle]; exact and1 h
theorem dstrip_sub : ∀ {l : List Q2}, ∀ x ∈ dstrip l, x ∈ l
  | [], x, h => h
  | y :: l, x, h => by
    have h : x ∈ (if y.1 = 0 then dstrip l else y :: l) := h
    split at h
    · exact .tail _ (dstrip_sub x h)
    · exact h
theorem chk_mem {rs rs' pl : List Int} (h : ∀ x, x ∈ rs ↔ x ∈ rs') : chk rs pl = chk rs' pl := by
  have : between rs = between rs' := by
    funext a b
    unfold between
    simp only [h]
  unfold chk; rw [this]

noncomputable def row2 (a : Int) : Bool := evens.all fun b => chk [a, b] (poly [a, b])
noncomputable def cfg2 : Bool := evens.all row2
noncomputable def row3 (a : Int) : Bool := evens.all fun b => evens.all fun c => !decide (a ≤ b ∧ b ≤ c) || chk [a, b, c] (poly [a, b, c])
noncomputable def cfg3 : Bool := evens.all row3
noncomputable def cfg1 : Bool := (List.range 13).all fun i => chk [] [1, 0 - (2 * (i : Int) - 12), (2 * (i : Int) - 12) * (2 * (i : Int) - 12) + 1]
noncomputable def cfgs : Bool := evens.all fun a => evens.all fun b => evens.all fun c => decide (poly [a, b, c] = poly [a, c, b] ∧ poly [a, b, c] = poly [b, a, c])
noncomputable def cfgp : Bool := evens.all fun a => evens.all fun b => (List.range 13).any fun i => decide ((poly [a, b]).getD 1 0 = 2 * (i : Int) - 12)
theorem row2_m6 : row2 (-6) = true := by decide +kernel
theorem row2_m4 : row2 (-4) = true := by decide +kernel
theorem row2_m2 : row2 (-2) = true := by decide +kernel
theorem row2_p0 : row2 (0) = true := by decide +kernel
theorem row2_p2 : row2 (2) = true := by decide +kernel
theorem row2_p4 : row2 (4) = true := by decide +kernel
theorem row2_p6 : row2 (6) = true := by decide +kernel
theorem kc2 : cfg2 = true := by
  show (row2 (-6) && (row2 (-4) && (row2 (-2) && (row2 0 && (row2 2 && (row2 4 && (row2 6 && true))))))) = true
  rw [row2_m6, row2_m4, row2_m2, row2_p0, row2_p2, row2_p4, row2_p6]; rfl
theorem row3_m6 : row3 (-6) = true := by decide +kernel
theorem row3_m4 : row3 (-4) = true := by decide +kernel
theorem row3_m2 : row3 (-2) = true := by decide +kernel
theorem row3_p0 : row3 (0) = true := by decide +kernel
theorem row3_p2 : row3 (2) = true := by decide +kernel
theorem row3_p4 : row3 (4) = true := by decide +kernel
theorem row3_p6 : row3 (6) = true := by decide +kernel
theorem kc3 : cfg3 = true := by
  show (row3 (-6) && (row3 (-4) && (row3 (-2) && (row3 0 && (row3 2 && (row3 4 && (row3 6 && true))))))) = true
  rw [row3_m6, row3_m4, row3_m2, row3_p0, row3_p2, row3_p4, row3_p6]; rfl
theorem kc1 : cfg1 = true := by decide +kernel
theorem kcs : cfgs = true := by decide +kernel
theorem kcp : cfgp = true := by decide +kernel
theorem chk2 {a b : Int} (ha : a ∈ evens) (hb : b ∈ evens) : chk [a, b] (poly [a, b]) = true := List.all_eq_true.mp (List.all_eq_true.mp kc2 a ha) b hb
theorem chkS {a b p : Int} (ha : a ∈ evens) (hb : b ∈ evens) (hp : (poly [a, b]).getD 1 0 = p) : chk [] [1, 0 - p, p * p + 1] = true := by
  obtain ⟨i, hi, e⟩ := List.any_eq_true.mp (List.all_eq_true.mp (List.all_eq_true.mp kcp a ha) b hb)
  have e := decT e
  rw [hp] at e
  subst e
  exact List.all_eq_true.mp kc1 i hi
theorem chk3s {a b c : Int} (ha : a ∈ evens) (hb : b ∈ evens) (hc : c ∈ evens) (h1 : a ≤ b) (h2 : b ≤ c) : chk [a, b, c] (poly [a, b, c]) = true := by
  have := List.all_eq_true.mp (List.all_eq_true.mp (List.all_eq_true.mp kc3 a ha) b hb) c hc
  rw [decide_eq_true (show a ≤ b ∧ b ≤ c from ⟨h1, h2⟩)] at this
  exact this
theorem sw1 {a b c : Int} (ha : a ∈ evens) (hb : b ∈ evens) (hc : c ∈ evens) : poly [a, b, c] = poly [a, c, b] := (decT (List.all_eq_true.mp (List.all_eq_true.mp (List.all_eq_true.mp kcs a ha) b hb) c hc)).1
theorem sw2 {a b c : Int} (ha : a ∈ evens) (hb : b ∈ evens) (hc : c ∈ evens) : poly [a, b, c] = poly [b, a, c] := (decT (List.all_eq_true.mp (List.all_eq_true.mp (List.all_eq_true.mp kcs a ha) b hb) c hc)).2
theorem m1 {a b c x : Int} : x ∈ [a, b, c] ↔ x ∈ [a, c, b] := by simp only [List.mem_cons, List.not_mem_nil, or_false]; exact or_congr_right Or.comm
theorem m2 {a b c x : Int} : x ∈ [a, b, c] ↔ x ∈ [b, a, c] := by simp only [List.mem_cons, List.not_mem_nil, or_false]; exact or_left_comm
theorem chk3 {a b c : Int} (ha : a ∈ evens) (hb : b ∈ evens) (hc : c ∈ evens) : chk [a, b, c] (poly [a, b, c]) = true := by
  have base : ∀ {a b c : Int}, a ∈ evens → b ∈ evens → c ∈ evens → a ≤ b → chk [a, b, c] (poly [a, b, c]) = true := fun {a b c} ha hb hc h1 => by
    by_cases h2 : b ≤ c
    · exact chk3s ha hb hc h1 h2
    · rw [sw1 ha hb hc, chk_mem fun x => m1]
      by_cases h3 : a ≤ c
      · exact chk3s ha hc hb h3 (Int.le_of_lt (Int.not_le.mp h2))
      · rw [sw2 ha hc hb, chk_mem fun x => m2]
        exact chk3s hc ha hb (Int.le_of_lt (Int.not_le.mp h3)) h1
  by_cases h1 : a ≤ b
  · exact base ha hb hc h1
  · rw [sw2 ha hb hc, chk_mem fun x => m2]
    exact base hb ha hc (Int.le_of_lt (Int.not_le.mp h1))
end Mine

set_option maxHeartbeats 8000000
namespace Mine
open PySem PySem.W PyProof.Rows PySem.Calls PySem.Spec PySem.Challenge
theorem ct_in {a : Int} {rs : List Int} {Φ : Bool → Rho → Prop} {ρ : Rho} (h : Φ (decide (a ∈ rs)) ρ) : kCmpT2 .In (.val (.int a)) Φ (.val (.list (il rs))) ρ := ⟨rs, rfl, h⟩
theorem sorted_ok {a b : Int} {F : D → Prop} (h : F (.list (if b < a then [.int b, .int a] else [.int a, .int b]))) : biP "sorted" [.list [.int a, .int b]] F := .inr ⟨rfl, a, b, rfl, h⟩
theorem ixm {ds : List D} {n j : Nat} {d : D} {F : D → Prop} (hj : 1 ≤ j) (hj2 : j < 2 ^ 30) (hl : ds.length = n + j) (hd : ds[n]? = some d) (hF : F d) : (-(2 ^ 62) ≤ -((j : Nat) : Int) ∧ -((j : Nat) : Int) < 2 ^ 62) ∧ idxP ds (-((j : Nat) : Int)) F :=
  ⟨by omega, .inr ⟨by omega, by omega, d, by rw [hl, show (-((j : Nat) : Int) + ((n + j : Nat) : Int)).toNat = n by omega]; exact hd, hF⟩⟩
theorem draw_lt {ks : List Nat} {i m : Nat} (h : 0 < m) : draw ks i m < m := by unfold draw; split <;> exact Nat.mod_lt _ h
theorem ev_mem {d : Nat} (h : d < 7) : ((2 : Nat) : Int) * (d : Int) - ((6 : Nat) : Int) ∈ evens := by
  revert d; decide
theorem pl_mem {d : Nat} (h : d < 8) : ((2 * d : Nat) : Int) - ((7 : Nat) : Int) ∈ places := by
  revert d; decide
theorem ln32 {w n : Nat} (hw : w ≠ 0) (h : n < 2 ^ 40) : ln w n < 2 ^ 20 := Nat.lt_of_le_of_lt (lim_K hw h) (by decide)
theorem ll2 {α : Type} {l : List α} (h : l.length = 2) : ∃ a b, l = [a, b] := match l, h with | [a, b], _ => ⟨a, b, rfl⟩
theorem ll3 {α : Type} {l : List α} (h : l.length = 3) : ∃ a b c, l = [a, b, c] := match l, h with | [a, b, c], _ => ⟨a, b, c, rfl⟩
theorem cl_at (w : Nat) (pre : List (List Q2)) (x : List Q2) (r : List (List Q2)) : (cl w (pre ++ x :: r))[pre.length]? = some (.list (rl w x)) := by
  rw [List.getElem?_map, List.getElem?_append_right (Nat.le_refl _), Nat.sub_self]; rfl
theorem plain1 {a b : Int} (ha : a ∈ evens) (hb : b ∈ evens) : smallInt ((poly [a, b]).getD 1 0) := by
  obtain ⟨i, hi, e⟩ := List.any_eq_true.mp (List.all_eq_true.mp (List.all_eq_true.mp kcp a ha) b hb)
  rw [decT e]
  have := List.mem_range.mp hi
  show Int.natAbs _ < 2 ^ 64
  omega
noncomputable def gls : Rho := [some (.val (.fn (Str.ofString "_law_fathomed"))), some (.val (.bi (.type "range"))), some (.val (.fn (Str.ofString "_law_polynomial"))), some (.val (.bi (.builtin "len"))), some (.val (.fn (Str.ofString "_law_divided"))), some (.val (.bi (.builtin "sorted"))), some (.val (.fn (Str.ofString "_law_changes"))), some (.val (.fn (Str.ofString "_law_whole")))]
noncomputable def lineS (ks : List Nat) (i : Nat) : Sl := .own [.int (i : Int), .list (nl ks)]
theorem law_ok {W : Wd} {k : Nat} (hW : Wv W) {zs : List Int} (hz : zs.length ≤ 63) : (sem W (k + 8) (co 60 (initG [] (defAt 44).scope.names) (.sts (defAt 44).body))).s (initR ([Str.ofString "script"].zip (vals [.list (il zs)])) (defAt 44).scope.names) (fun fl ρ => fl = .ret (.bool true)) := by
  have lz : (il zs).length = zs.length := List.length_map ..
  have z22 : zs.length < 2 ^ 22 := Nat.lt_of_le_of_lt hz (by decide)
  obtain ⟨ks, hks⟩ : ∃ ks, ks = (zs.take 7).map Int.natAbs := ⟨_, rfl⟩
  have hk : ks.length < 100 := by rw [hks, List.length_map, List.length_take]; omega
  have hsl : sliceL (il zs) none (some ((7 : Nat) : Int)) = il (zs.take 7) := by
    show List.take (min 7 (il zs).length - 0) (List.drop 0 (il zs)) = _
    unfold il
    rw [Nat.sub_zero, List.drop_zero, List.map_take, List.length_map]
    by_cases h : 7 ≤ zs.length
    · rw [Nat.min_eq_left h]
    · rw [Nat.min_eq_right (Nat.le_of_not_le h), List.take_of_length_le (by simp), List.take_of_length_le (by simp; omega)]
  have FA := fun i m (hi : i < 1000) (hm : 0 < m) => fathomed_ok (k := k + 7) hW hk (i := i) (m := m) hi hm
  generalize hdz : il zs = dz at *
  conv in (co _ _ _) => reduce
  conv in (initR _ _) => reduce
  rw [zaa]
  generalize hQ1 : kSeq W (k + 8) _ _ = Q1
  have key1 : Q1 .next ([some (.val (.list dz)), some (lineS ks 0), none, none, none, none, none, none, none, none, none] ++ gls) := by
    clear hsl
    subst hQ1
    unfold gls lineS
    dsimp only [zaa, zab, zac, zad, zae, zaf, zag, zah, zai, zaj, zak, zal, zam, zan, zao, zap, zaq, zar, zas, zat, zau, zav, zaw, zax, zay, zaz, zba, zbb, zbc, zbd, zbe, zbf, zbg, zbh, zbi, zbk, zbl, zbm, zbn, zbo, zbp, zbq, zbr, zbs, zbt, zbu, zbv, zbw, zbx, zby, zbz, zca, zcb, zcc, zcd, zce, zcf, zcg, zch, zci, zcl, zcm, zcn, zco, zcp, zcq, zcr, zcs, zct, zcu, zcv, zcw, zcx, zcy, zcz, zda, zdb, zdc, zdd, zde, zdf, zdg, zdh, zdi, zdj, zdk, zdl, zdm, zdn, zdo, zdp, zdq, zdr, zds, zdt, zdu, zdv, zdw, zdx, zdy, zdz, zea, zeb, zec, zed, zee, zef, zeg, zeh, zei, zej, zek, zel, zem, zen, zeo, zep, zeq, zer, zes, zet, zeu, zev, zew, zex, zey, zez, zfa, zfb, zfc, zfd, zfe, zff, zfg, zfh, zfi, zfj, zfk, zfl, zfm, zfn, zfo, zfp, zfq, zfr, zfs, zft, zfu, zfv, zfw, zfx, zfy, zfz, zga, zgb, zgc, zgd, zge, zgf, zgg, zgh, zgi, zgj, zgk, zgl, zgm, zgn, zgo, zgp, zgq, zgr, zgs, zgt, zgu, zgv, zgw, zgx, zgy, zgz, zha, zhb, zhc, zhd, zhe, zhf, zhg, zhh, zhi, zhx, zhy, zhz, zia, zhj, zhk, zhl, zhm, zhn, zho, zhp, zhq, zhr, zhs, zht, zhu, zhv, zhw]
    refine ⟨_, _, FA 0 6 (by decide) (by decide), ?_⟩
    dsimp only [zaa, zab, zac, zad, zae, zaf, zag, zah, zai, zaj, zak, zal, zam, zan, zao, zap, zaq, zar, zas, zat, zau, zav, zaw, zax, zay, zaz, zba, zbb, zbc, zbd, zbe, zbf, zbg, zbh, zbi, zbk, zbl, zbm, zbn, zbo, zbp, zbq, zbr, zbs, zbt, zbu, zbv, zbw, zbx, zby, zbz, zca, zcb, zcc, zcd, zce, zcf, zcg, zch, zci, zcl, zcm, zcn, zco, zcp, zcq, zcr, zcs, zct, zcu, zcv, zcw, zcx, zcy, zcz, zda, zdb, zdc, zdd, zde, zdf, zdg, zdh, zdi, zdj, zdk, zdl, zdm, zdn, zdo, zdp, zdq, zdr, zds, zdt, zdu, zdv, zdw, zdx, zdy, zdz, zea, zeb, zec, zed, zee, zef, zeg, zeh, zei, zej, zek, zel, zem, zen, zeo, zep, zeq, zer, zes, zet, zeu, zev, zew, zex, zey, zez, zfa, zfb, zfc, zfd, zfe, zff, zfg, zfh, zfi, zfj, zfk, zfl, zfm, zfn, zfo, zfp, zfq, zfr, zfs, zft, zfu, zfv, zfw, zfx, zfy, zfz, zga, zgb, zgc, zgd, zge, zgf, zgg, zgh, zgi, zgj, zgk, zgl, zgm, zgn, zgo, zgp, zgq, zgr, zgs, zgt, zgu, zgv, zgw, zgx, zgy, zgz, zha, zhb, zhc, zhd, zhe, zhf, zhg, zhh, zhi, zhx, zhy, zhz, zia, zhj, zhk, zhl, zhm, zhn, zho, zhp, zhq, zhr, zhs, zht, zhu, zhv, zhw]
    refine ⟨_, _, FA 1 2 (by decide) (by decide), sz2, _, rfl, ?_⟩
    dsimp only [zaa, zab, zac, zad, zae, zaf, zag, zah, zai, zaj, zak, zal, zam, zan, zao, zap, zaq, zar, zas, zat, zau, zav, zaw, zax, zay, zaz, zba, zbb, zbc, zbd, zbe, zbf, zbg, zbh, zbi, zbk, zbl, zbm, zbn, zbo, zbp, zbq, zbr, zbs, zbt, zbu, zbv, zbw, zbx, zby, zbz, zca, zcb, zcc, zcd, zce, zcf, zcg, zch, zci, zcl, zcm, zcn, zco, zcp, zcq, zcr, zcs, zct, zcu, zcv, zcw, zcx, zcy, zcz, zda, zdb, zdc, zdd, zde, zdf, zdg, zdh, zdi, zdj, zdk, zdl, zdm, zdn, zdo, zdp, zdq, zdr, zds, zdt, zdu, zdv, zdw, zdx, zdy, zdz, zea, zeb, zec, zed, zee, zef, zeg, zeh, zei, zej, zek, zel, zem, zen, zeo, zep, zeq, zer, zes, zet, zeu, zev, zew, zex, zey, zez, zfa, zfb, zfc, zfd, zfe, zff, zfg, zfh, zfi, zfj, zfk, zfl, zfm, zfn, zfo, zfp, zfq, zfr, zfs, zft, zfu, zfv, zfw, zfx, zfy, zfz, zga, zgb, zgc, zgd, zge, zgf, zgg, zgh, zgi, zgj, zgk, zgl, zgm, zgn, zgo, zgp, zgq, zgr, zgs, zgt, zgu, zgv, zgw, zgx, zgy, zgz, zha, zhb, zhc, zhd, zhe, zhf, zhg, zhh, zhi, zhx, zhy, zhz, zia, zhj, zhk, zhl, zhm, zhn, zho, zhp, zhq, zhr, zhs, zht, zhu, zhv, zhw]
    have hd0 := draw_lt (ks := ks) (i := 0) (show 0 < 6 by decide)
    have hd1 := draw_lt (ks := ks) (i := 1) (show 0 < 2 by decide)
    generalize draw ks 0 6 = d0 at *
    generalize draw ks 1 2 = d1 at *
    have hw : 3 + d0 ≠ 0 := by omega
    have hw8 : 3 + d0 ≤ 8 := by omega
    have hm : 2 + d1 = 2 ∨ 2 + d1 = 3 := by omega
    generalize 3 + d0 = w at *
    generalize 2 + d1 = many at *
    clear hd0 hd1 d0 d1
    generalize hQ2 : kSeq W (k + 8) _ _ = Q2
    have mb := bigN (ds := List.replicate many ()) (List.length_replicate) (show many < 2 ^ 22 by omega)
    rw [List.length_replicate] at mb
    refine .inl ⟨rfl, mb, ⟨rfl, ?_⟩, ?_⟩
    · rw [rangeL_map, List.length_map, List.length_range, rn0]; exact sz_le (by omega)
    rw [rangeL_map, rn0]
    refine comp_inv (fun xs acc ρ => ∃ (rs : List Int) (i : Nat), ρ = [some (.val (.list dz)), some (.own [.int (i : Int), .list (nl ks)]), some (.val (.int w)), some (.val (.int many)), none, none, none, none, none, none, none, some (.val (.fn (Str.ofString "_law_fathomed"))), some (.val (.bi (.type "range"))), some (.val (.fn (Str.ofString "_law_polynomial"))), some (.val (.bi (.builtin "len"))), some (.val (.fn (Str.ofString "_law_divided"))), some (.val (.bi (.builtin "sorted"))), some (.val (.fn (Str.ofString "_law_changes"))), some (.val (.fn (Str.ofString "_law_whole")))] ∧
      rs.length + xs.length = many ∧ i + xs.length = 2 + many ∧ acc = il rs ∧ ∀ r ∈ rs, r ∈ evens) ?_ ?_ ⟨[], 2, rfl, by rw [List.length_range]; exact Nat.zero_add _, by rw [List.length_range], rfl, fun r hr => nomatch hr⟩
    · rintro x xs acc ρ ⟨rs, i, rfl, h1, h2, rfl, h4⟩ C hC
      rw [List.length_cons] at h1 h2
      dsimp only [zaa, zab, zac, zad, zae, zaf, zag, zah, zai, zaj, zak, zal, zam, zan, zao, zap, zaq, zar, zas, zat, zau, zav, zaw, zax, zay, zaz, zba, zbb, zbc, zbd, zbe, zbf, zbg, zbh, zbi, zbk, zbl, zbm, zbn, zbo, zbp, zbq, zbr, zbs, zbt, zbu, zbv, zbw, zbx, zby, zbz, zca, zcb, zcc, zcd, zce, zcf, zcg, zch, zci, zcl, zcm, zcn, zco, zcp, zcq, zcr, zcs, zct, zcu, zcv, zcw, zcx, zcy, zcz, zda, zdb, zdc, zdd, zde, zdf, zdg, zdh, zdi, zdj, zdk, zdl, zdm, zdn, zdo, zdp, zdq, zdr, zds, zdt, zdu, zdv, zdw, zdx, zdy, zdz, zea, zeb, zec, zed, zee, zef, zeg, zeh, zei, zej, zek, zel, zem, zen, zeo, zep, zeq, zer, zes, zet, zeu, zev, zew, zex, zey, zez, zfa, zfb, zfc, zfd, zfe, zff, zfg, zfh, zfi, zfj, zfk, zfl, zfm, zfn, zfo, zfp, zfq, zfr, zfs, zft, zfu, zfv, zfw, zfx, zfy, zfz, zga, zgb, zgc, zgd, zge, zgf, zgg, zgh, zgi, zgj, zgk, zgl, zgm, zgn, zgo, zgp, zgq, zgr, zgs, zgt, zgu, zgv, zgw, zgx, zgy, zgz, zha, zhb, zhc, zhd, zhe, zhf, zhg, zhh, zhi, zhx, zhy, zhz, zia, zhj, zhk, zhl, zhm, zhn, zho, zhp, zhq, zhr, zhs, zht, zhu, zhv, zhw]
      refine ⟨fun _ => ?_, (fun h => nomatch h)⟩
      refine ⟨_, _, FA i 7 (by omega) (by decide), ?_⟩
      have hd := ev_mem (draw_lt (ks := ks) (i := i) (show 0 < 7 by decide))
      generalize draw ks i 7 = d at *
      dsimp only [zaa, zab, zac, zad, zae, zaf, zag, zah, zai, zaj, zak, zal, zam, zan, zao, zap, zaq, zar, zas, zat, zau, zav, zaw, zax, zay, zaz, zba, zbb, zbc, zbd, zbe, zbf, zbg, zbh, zbi, zbk, zbl, zbm, zbn, zbo, zbp, zbq, zbr, zbs, zbt, zbu, zbv, zbw, zbx, zby, zbz, zca, zcb, zcc, zcd, zce, zcf, zcg, zch, zci, zcl, zcm, zcn, zco, zcp, zcq, zcr, zcs, zct, zcu, zcv, zcw, zcx, zcy, zcz, zda, zdb, zdc, zdd, zde, zdf, zdg, zdh, zdi, zdj, zdk, zdl, zdm, zdn, zdo, zdp, zdq, zdr, zds, zdt, zdu, zdv, zdw, zdx, zdy, zdz, zea, zeb, zec, zed, zee, zef, zeg, zeh, zei, zej, zek, zel, zem, zen, zeo, zep, zeq, zer, zes, zet, zeu, zev, zew, zex, zey, zez, zfa, zfb, zfc, zfd, zfe, zff, zfg, zfh, zfi, zfj, zfk, zfl, zfm, zfn, zfo, zfp, zfq, zfr, zfs, zft, zfu, zfv, zfw, zfx, zfy, zfz, zga, zgb, zgc, zgd, zge, zgf, zgg, zgh, zgi, zgj, zgk, zgl, zgm, zgn, zgo, zgp, zgq, zgr, zgs, zgt, zgu, zgv, zgw, zgx, zgy, zgz, zha, zhb, zhc, zhd, zhe, zhf, zhg, zhh, zhi, zhx, zhy, zhz, zia, zhj, zhk, zhl, zhm, zhn, zho, zhp, zhq, zhr, zhs, zht, zhu, zhv, zhw]
      refine ⟨smN (n := 2) (by decide), hC _ _ ⟨rs ++ [((2 : Nat) : Int) * (d : Int) - ((6 : Nat) : Int)], i + 1, rfl, ?_, ?_, ?_, ?_⟩⟩
      · rw [List.length_append, Nat.add_assoc, Nat.add_comm [_].length]; exact h1
      · rw [Nat.add_assoc, Nat.add_comm 1]; exact h2
      · unfold il; rw [List.map_append]; rfl
      · intro r hr
        rcases List.mem_append.mp hr with hr | hr
        · exact h4 r hr
        · rw [List.mem_singleton.mp hr]; exact hd
    rintro acc ρ ⟨rs, i, rfl, h1, h2, rfl, h4⟩
    have h1 : rs.length = many := h1
    have h2 : i = 2 + many := h2
    subst h2
    show Q2 .next _
    subst hQ2
    rw [zac, zaa]
    generalize hQ3 : kSeq W (k + 8) _ _ = Q3
    have e100 : ∀ r ∈ rs, r.natAbs < 100 := fun r hr => by
      have : ∀ r ∈ evens, r.natAbs < 100 := by decide
      exact this r (h4 r hr)
    have CP := polynomial_ok (k := k + 7) hW (rs := rs) (by omega) e100
    dsimp only [zaa, zab, zac, zad, zae, zaf, zag, zah, zai, zaj, zak, zal, zam, zan, zao, zap, zaq, zar, zas, zat, zau, zav, zaw, zax, zay, zaz, zba, zbb, zbc, zbd, zbe, zbf, zbg, zbh, zbi, zbk, zbl, zbm, zbn, zbo, zbp, zbq, zbr, zbs, zbt, zbu, zbv, zbw, zbx, zby, zbz, zca, zcb, zcc, zcd, zce, zcf, zcg, zch, zci, zcl, zcm, zcn, zco, zcp, zcq, zcr, zcs, zct, zcu, zcv, zcw, zcx, zcy, zcz, zda, zdb, zdc, zdd, zde, zdf, zdg, zdh, zdi, zdj, zdk, zdl, zdm, zdn, zdo, zdp, zdq, zdr, zds, zdt, zdu, zdv, zdw, zdx, zdy, zdz, zea, zeb, zec, zed, zee, zef, zeg, zeh, zei, zej, zek, zel, zem, zen, zeo, zep, zeq, zer, zes, zet, zeu, zev, zew, zex, zey, zez, zfa, zfb, zfc, zfd, zfe, zff, zfg, zfh, zfi, zfj, zfk, zfl, zfm, zfn, zfo, zfp, zfq, zfr, zfs, zft, zfu, zfv, zfw, zfx, zfy, zfz, zga, zgb, zgc, zgd, zge, zgf, zgg, zgh, zgi, zgj, zgk, zgl, zgm, zgn, zgo, zgp, zgq, zgr, zgs, zgt, zgu, zgv, zgw, zgx, zgy, zgz, zha, zhb, zhc, zhd, zhe, zhf, zhg, zhh, zhi, zhx, zhy, zhz, zia, zhj, zhk, zhl, zhm, zhn, zho, zhp, zhq, zhr, zhs, zht, zhu, zhv, zhw]
    refine ⟨vn, _, CP, ?_⟩
    subst hQ3
    rw [zac, zaa]
    generalize hQ4 : kSeq W (k + 8) _ _ = Q4
    have key4 : ∀ (rs pl : List Int) (i : Nat) (sr sp : Sl), i < 900 → (sr = .val (.list (il rs)) ∨ sr = .own (il rs)) → (sp = .val (.list (il pl)) ∨ sp = .own (il pl)) → chk rs pl = true →
        Q4 .next ([some (.val (.list dz)), some (lineS ks i), some (.val (.int w)), some (.val (.int many)), some sr, some sp, none, none, none, none, none] ++ gls) := by
      subst hQ4
      intro rs pl i sr sp hi hsr hsp hchk
      have hpl4 : pl.length ≤ 4 := decT (and1 hchk)
      have hpl32 : ∀ z ∈ pl, z.natAbs < 2 ^ 32 := fun z hz => decT (List.all_eq_true.mp (and1 (and2 hchk)) z hz)
      have hrest := and2 (and2 hchk)
      clear hchk CP e100 h4 h1
      obtain ⟨c, hcc⟩ : ∃ c, chainOf pl = some c := by
        cases h : chainOf pl with
        | none => rw [h] at hrest; exact nomatch hrest
        | some c => exact ⟨c, rfl⟩
      rw [hcc] at hrest
      dsimp only at hrest
      have lp : (il pl).length = pl.length := List.length_map ..
      have p22 : pl.length < 2 ^ 22 := Nat.lt_of_le_of_lt hpl4 (by decide)
      have CW := fun z (hz : z.natAbs < 2 ^ 40) => whole_ok (k := k + 6) hW (z := z) hw hw8 (ln32 hw hz)
      have e0 : rl w (p0 pl) = pl.map fun z => dR w (whole z) := by unfold rl p0; rw [List.map_map]; rfl
      have e1 : rl w (Mine.p1 pl) = (List.range (pl.length - 1)).map fun i => dR w (whole (pl.getD i 0 * ((pl.length : Int) - 1 - i))) := by unfold rl Mine.p1; rw [List.map_map]; rfl
      unfold gls lineS
      rw [zac, zaa]
      generalize hQ5 : kSeq W (k + 8) _ _ = Q5
      generalize hS : sem W (k + 8) _ = S
      have k5 : S.s ([some (.val (.list dz)), some (.own [.int (i : Int), .list (nl ks)]), some (.val (.int w)), some (.val (.int many)), some sr, some (.val (.list (il pl))), none, none, none, none, none] ++ gls) Q5 := by
        clear hsp
        subst hS
        unfold gls
        dsimp only [zaa, zab, zac, zad, zae, zaf, zag, zah, zai, zaj, zak, zal, zam, zan, zao, zap, zaq, zar, zas, zat, zau, zav, zaw, zax, zay, zaz, zba, zbb, zbc, zbd, zbe, zbf, zbg, zbh, zbi, zbk, zbl, zbm, zbn, zbo, zbp, zbq, zbr, zbs, zbt, zbu, zbv, zbw, zbx, zby, zbz, zca, zcb, zcc, zcd, zce, zcf, zcg, zch, zci, zcl, zcm, zcn, zco, zcp, zcq, zcr, zcs, zct, zcu, zcv, zcw, zcx, zcy, zcz, zda, zdb, zdc, zdd, zde, zdf, zdg, zdh, zdi, zdj, zdk, zdl, zdm, zdn, zdo, zdp, zdq, zdr, zds, zdt, zdu, zdv, zdw, zdx, zdy, zdz, zea, zeb, zec, zed, zee, zef, zeg, zeh, zei, zej, zek, zel, zem, zen, zeo, zep, zeq, zer, zes, zet, zeu, zev, zew, zex, zey, zez, zfa, zfb, zfc, zfd, zfe, zff, zfg, zfh, zfi, zfj, zfk, zfl, zfm, zfn, zfo, zfp, zfq, zfr, zfs, zft, zfu, zfv, zfw, zfx, zfy, zfz, zga, zgb, zgc, zgd, zge, zgf, zgg, zgh, zgi, zgj, zgk, zgl, zgm, zgn, zgo, zgp, zgq, zgr, zgs, zgt, zgu, zgv, zgw, zgx, zgy, zgz, zha, zhb, zhc, zhd, zhe, zhf, zhg, zhh, zhi, zhx, zhy, zhz, zia, zhj, zhk, zhl, zhm, zhn, zho, zhp, zhq, zhr, zhs, zht, zhu, zhv, zhw]
        refine ⟨⟨rfl, sz_le (lp ▸ p22)⟩, ?_⟩
        refine comp_all (r := fun z => dR w (whole z)) ?_ ?_ ?_
        · exact fun d => rfl
        · intro z hz C hC
          dsimp only [zaa, zab, zac, zad, zae, zaf, zag, zah, zai, zaj, zak, zal, zam, zan, zao, zap, zaq, zar, zas, zat, zau, zav, zaw, zax, zay, zaz, zba, zbb, zbc, zbd, zbe, zbf, zbg, zbh, zbi, zbk, zbl, zbm, zbn, zbo, zbp, zbq, zbr, zbs, zbt, zbu, zbv, zbw, zbx, zby, zbz, zca, zcb, zcc, zcd, zce, zcf, zcg, zch, zci, zcl, zcm, zcn, zco, zcp, zcq, zcr, zcs, zct, zcu, zcv, zcw, zcx, zcy, zcz, zda, zdb, zdc, zdd, zde, zdf, zdg, zdh, zdi, zdj, zdk, zdl, zdm, zdn, zdo, zdp, zdq, zdr, zds, zdt, zdu, zdv, zdw, zdx, zdy, zdz, zea, zeb, zec, zed, zee, zef, zeg, zeh, zei, zej, zek, zel, zem, zen, zeo, zep, zeq, zer, zes, zet, zeu, zev, zew, zex, zey, zez, zfa, zfb, zfc, zfd, zfe, zff, zfg, zfh, zfi, zfj, zfk, zfl, zfm, zfn, zfo, zfp, zfq, zfr, zfs, zft, zfu, zfv, zfw, zfx, zfy, zfz, zga, zgb, zgc, zgd, zge, zgf, zgg, zgh, zgi, zgj, zgk, zgl, zgm, zgn, zgo, zgp, zgq, zgr, zgs, zgt, zgu, zgv, zgw, zgx, zgy, zgz, zha, zhb, zhc, zhd, zhe, zhf, zhg, zhh, zhi, zhx, zhy, zhz, zia, zhj, zhk, zhl, zhm, zhn, zho, zhp, zhq, zhr, zhs, zht, zhu, zhv, zhw]
          exact ⟨vn, _, CW z (Nat.lt_trans (hpl32 z hz) (by decide)), hC⟩
        dsimp only [zaa, zab, zac, zad, zae, zaf, zag, zah, zai, zaj, zak, zal, zam, zan, zao, zap, zaq, zar, zas, zat, zau, zav, zaw, zax, zay, zaz, zba, zbb, zbc, zbd, zbe, zbf, zbg, zbh, zbi, zbk, zbl, zbm, zbn, zbo, zbp, zbq, zbr, zbs, zbt, zbu, zbv, zbw, zbx, zby, zbz, zca, zcb, zcc, zcd, zce, zcf, zcg, zch, zci, zcl, zcm, zcn, zco, zcp, zcq, zcr, zcs, zct, zcu, zcv, zcw, zcx, zcy, zcz, zda, zdb, zdc, zdd, zde, zdf, zdg, zdh, zdi, zdj, zdk, zdl, zdm, zdn, zdo, zdp, zdq, zdr, zds, zdt, zdu, zdv, zdw, zdx, zdy, zdz, zea, zeb, zec, zed, zee, zef, zeg, zeh, zei, zej, zek, zel, zem, zen, zeo, zep, zeq, zer, zes, zet, zeu, zev, zew, zex, zey, zez, zfa, zfb, zfc, zfd, zfe, zff, zfg, zfh, zfi, zfj, zfk, zfl, zfm, zfn, zfo, zfp, zfq, zfr, zfs, zft, zfu, zfv, zfw, zfx, zfy, zfz, zga, zgb, zgc, zgd, zge, zgf, zgg, zgh, zgi, zgj, zgk, zgl, zgm, zgn, zgo, zgp, zgq, zgr, zgs, zgt, zgu, zgv, zgw, zgx, zgy, zgz, zha, zhb, zhc, zhd, zhe, zhf, zhg, zhh, zhi, zhx, zhy, zhz, zia, zhj, zhk, zhl, zhm, zhn, zho, zhp, zhq, zhr, zhs, zht, zhu, zhv, zhw]
        refine ⟨sz1, ?_⟩
        rw [← e0]
        subst hQ5
        rw [zac, zaa]
        generalize hQ6 : kSeq W (k + 8) _ _ = Q6
        dsimp only [zaa, zab, zac, zad, zae, zaf, zag, zah, zai, zaj, zak, zal, zam, zan, zao, zap, zaq, zar, zas, zat, zau, zav, zaw, zax, zay, zaz, zba, zbb, zbc, zbd, zbe, zbf, zbg, zbh, zbi, zbk, zbl, zbm, zbn, zbo, zbp, zbq, zbr, zbs, zbt, zbu, zbv, zbw, zbx, zby, zbz, zca, zcb, zcc, zcd, zce, zcf, zcg, zch, zci, zcl, zcm, zcn, zco, zcp, zcq, zcr, zcs, zct, zcu, zcv, zcw, zcx, zcy, zcz, zda, zdb, zdc, zdd, zde, zdf, zdg, zdh, zdi, zdj, zdk, zdl, zdm, zdn, zdo, zdp, zdq, zdr, zds, zdt, zdu, zdv, zdw, zdx, zdy, zdz, zea, zeb, zec, zed, zee, zef, zeg, zeh, zei, zej, zek, zel, zem, zen, zeo, zep, zeq, zer, zes, zet, zeu, zev, zew, zex, zey, zez, zfa, zfb, zfc, zfd, zfe, zff, zfg, zfh, zfi, zfj, zfk, zfl, zfm, zfn, zfo, zfp, zfq, zfr, zfs, zft, zfu, zfv, zfw, zfx, zfy, zfz, zga, zgb, zgc, zgd, zge, zgf, zgg, zgh, zgi, zgj, zgk, zgl, zgm, zgn, zgo, zgp, zgq, zgr, zgs, zgt, zgu, zgv, zgw, zgx, zgy, zgz, zha, zhb, zhc, zhd, zhe, zhf, zhg, zhh, zhi, zhx, zhy, zhz, zia, zhj, zhk, zhl, zhm, zhn, zho, zhp, zhq, zhr, zhs, zht, zhu, zhv, zhw]
        refine len_ok (l62 lp p22) ?_
        dsimp only [zaa, zab, zac, zad, zae, zaf, zag, zah, zai, zaj, zak, zal, zam, zan, zao, zap, zaq, zar, zas, zat, zau, zav, zaw, zax, zay, zaz, zba, zbb, zbc, zbd, zbe, zbf, zbg, zbh, zbi, zbk, zbl, zbm, zbn, zbo, zbp, zbq, zbr, zbs, zbt, zbu, zbv, zbw, zbx, zby, zbz, zca, zcb, zcc, zcd, zce, zcf, zcg, zch, zci, zcl, zcm, zcn, zco, zcp, zcq, zcr, zcs, zct, zcu, zcv, zcw, zcx, zcy, zcz, zda, zdb, zdc, zdd, zde, zdf, zdg, zdh, zdi, zdj, zdk, zdl, zdm, zdn, zdo, zdp, zdq, zdr, zds, zdt, zdu, zdv, zdw, zdx, zdy, zdz, zea, zeb, zec, zed, zee, zef, zeg, zeh, zei, zej, zek, zel, zem, zen, zeo, zep, zeq, zer, zes, zet, zeu, zev, zew, zex, zey, zez, zfa, zfb, zfc, zfd, zfe, zff, zfg, zfh, zfi, zfj, zfk, zfl, zfm, zfn, zfo, zfp, zfq, zfr, zfs, zft, zfu, zfv, zfw, zfx, zfy, zfz, zga, zgb, zgc, zgd, zge, zgf, zgg, zgh, zgi, zgj, zgk, zgl, zgm, zgn, zgo, zgp, zgq, zgr, zgs, zgt, zgu, zgv, zgw, zgx, zgy, zgz, zha, zhb, zhc, zhd, zhe, zhf, zhg, zhh, zhi, zhx, zhy, zhz, zia, zhj, zhk, zhl, zhm, zhn, zho, zhp, zhq, zhr, zhs, zht, zhu, zhv, zhw]
        rw [lp]
        have mb := big1 lp p22
        rw [lp] at mb
        have hrn : (((pl.length : Int) - ((1 : Nat) : Int)) - 0).toNat = pl.length - 1 := by omega
        refine .inl ⟨rfl, mb, ⟨rfl, ?_⟩, ?_⟩
        · rw [rangeL_map, List.length_map, List.length_range, hrn]; exact sz_le (Nat.lt_of_le_of_lt (Nat.sub_le ..) p22)
        rw [rangeL_map, hrn]
        refine comp_all (r := fun (j : Nat) => dR w (whole (pl.getD j 0 * ((pl.length : Int) - 1 - j)))) ?_ ?_ ?_
        · exact fun d => rfl
        · intro j hj C hC
          have hj : j < pl.length - 1 := List.mem_range.mp hj
          have hj' : j < pl.length := by omega
          have hz : (pl.getD j 0).natAbs < 2 ^ 32 := hpl32 _ (by rw [show pl.getD j 0 = pl[j] by simp [List.getD, hj']]; exact List.getElem_mem hj')
          rw [Int.zero_add]
          dsimp only [zaa, zab, zac, zad, zae, zaf, zag, zah, zai, zaj, zak, zal, zam, zan, zao, zap, zaq, zar, zas, zat, zau, zav, zaw, zax, zay, zaz, zba, zbb, zbc, zbd, zbe, zbf, zbg, zbh, zbi, zbk, zbl, zbm, zbn, zbo, zbp, zbq, zbr, zbs, zbt, zbu, zbv, zbw, zbx, zby, zbz, zca, zcb, zcc, zcd, zce, zcf, zcg, zch, zci, zcl, zcm, zcn, zco, zcp, zcq, zcr, zcs, zct, zcu, zcv, zcw, zcx, zcy, zcz, zda, zdb, zdc, zdd, zde, zdf, zdg, zdh, zdi, zdj, zdk, zdl, zdm, zdn, zdo, zdp, zdq, zdr, zds, zdt, zdu, zdv, zdw, zdx, zdy, zdz, zea, zeb, zec, zed, zee, zef, zeg, zeh, zei, zej, zek, zel, zem, zen, zeo, zep, zeq, zer, zes, zet, zeu, zev, zew, zex, zey, zez, zfa, zfb, zfc, zfd, zfe, zff, zfg, zfh, zfi, zfj, zfk, zfl, zfm, zfn, zfo, zfp, zfq, zfr, zfs, zft, zfu, zfv, zfw, zfx, zfy, zfz, zga, zgb, zgc, zgd, zge, zgf, zgg, zgh, zgi, zgj, zgk, zgl, zgm, zgn, zgo, zgp, zgq, zgr, zgs, zgt, zgu, zgv, zgw, zgx, zgy, zgz, zha, zhb, zhc, zhd, zhe, zhf, zhg, zhh, zhi, zhx, zhy, zhz, zia, zhj, zhk, zhl, zhm, zhn, zho, zhp, zhq, zhr, zhs, zht, zhu, zhv, zhw]
          refine ixn hj' p22 (il_get hj') ?_
          dsimp only [zaa, zab, zac, zad, zae, zaf, zag, zah, zai, zaj, zak, zal, zam, zan, zao, zap, zaq, zar, zas, zat, zau, zav, zaw, zax, zay, zaz, zba, zbb, zbc, zbd, zbe, zbf, zbg, zbh, zbi, zbk, zbl, zbm, zbn, zbo, zbp, zbq, zbr, zbs, zbt, zbu, zbv, zbw, zbx, zby, zbz, zca, zcb, zcc, zcd, zce, zcf, zcg, zch, zci, zcl, zcm, zcn, zco, zcp, zcq, zcr, zcs, zct, zcu, zcv, zcw, zcx, zcy, zcz, zda, zdb, zdc, zdd, zde, zdf, zdg, zdh, zdi, zdj, zdk, zdl, zdm, zdn, zdo, zdp, zdq, zdr, zds, zdt, zdu, zdv, zdw, zdx, zdy, zdz, zea, zeb, zec, zed, zee, zef, zeg, zeh, zei, zej, zek, zel, zem, zen, zeo, zep, zeq, zer, zes, zet, zeu, zev, zew, zex, zey, zez, zfa, zfb, zfc, zfd, zfe, zff, zfg, zfh, zfi, zfj, zfk, zfl, zfm, zfn, zfo, zfp, zfq, zfr, zfs, zft, zfu, zfv, zfw, zfx, zfy, zfz, zga, zgb, zgc, zgd, zge, zgf, zgg, zgh, zgi, zgj, zgk, zgl, zgm, zgn, zgo, zgp, zgq, zgr, zgs, zgt, zgu, zgv, zgw, zgx, zgy, zgz, zha, zhb, zhc, zhd, zhe, zhf, zhg, zhh, zhi, zhx, zhy, zhz, zia, zhj, zhk, zhl, zhm, zhn, zho, zhp, zhq, zhr, zhs, zht, zhu, zhv, zhw]
          refine len_ok (l62 lp p22) ?_
          dsimp only [zaa, zab, zac, zad, zae, zaf, zag, zah, zai, zaj, zak, zal, zam, zan, zao, zap, zaq, zar, zas, zat, zau, zav, zaw, zax, zay, zaz, zba, zbb, zbc, zbd, zbe, zbf, zbg, zbh, zbi, zbk, zbl, zbm, zbn, zbo, zbp, zbq, zbr, zbs, zbt, zbu, zbv, zbw, zbx, zby, zbz, zca, zcb, zcc, zcd, zce, zcf, zcg, zch, zci, zcl, zcm, zcn, zco, zcp, zcq, zcr, zcs, zct, zcu, zcv, zcw, zcx, zcy, zcz, zda, zdb, zdc, zdd, zde, zdf, zdg, zdh, zdi, zdj, zdk, zdl, zdm, zdn, zdo, zdp, zdq, zdr, zds, zdt, zdu, zdv, zdw, zdx, zdy, zdz, zea, zeb, zec, zed, zee, zef, zeg, zeh, zei, zej, zek, zel, zem, zen, zeo, zep, zeq, zer, zes, zet, zeu, zev, zew, zex, zey, zez, zfa, zfb, zfc, zfd, zfe, zff, zfg, zfh, zfi, zfj, zfk, zfl, zfm, zfn, zfo, zfp, zfq, zfr, zfs, zft, zfu, zfv, zfw, zfx, zfy, zfz, zga, zgb, zgc, zgd, zge, zgf, zgg, zgh, zgi, zgj, zgk, zgl, zgm, zgn, zgo, zgp, zgq, zgr, zgs, zgt, zgu, zgv, zgw, zgx, zgy, zgz, zha, zhb, zhc, zhd, zhe, zhf, zhg, zhh, zhi, zhx, zhy, zhz, zia, zhj, zhk, zhl, zhm, zhn, zho, zhp, zhq, zhr, zhs, zht, zhu, zhv, zhw]
          rw [lp]
          refine ⟨Nat.lt_trans hz (by decide), vn, _, CW (pl.getD j 0 * ((pl.length : Int) - 1 - j)) ?_, hC⟩
          rw [Int.natAbs_mul]
          have h5 : ((pl.length : Int) - 1 - j).natAbs < 256 := by omega
          exact Nat.lt_of_lt_of_eq (Nat.mul_lt_mul_of_lt_of_le hz (Nat.le_of_lt h5) (by decide)) (by decide)
        dsimp only [zaa, zab, zac, zad, zae, zaf, zag, zah, zai, zaj, zak, zal, zam, zan, zao, zap, zaq, zar, zas, zat, zau, zav, zaw, zax, zay, zaz, zba, zbb, zbc, zbd, zbe, zbf, zbg, zbh, zbi, zbk, zbl, zbm, zbn, zbo, zbp, zbq, zbr, zbs, zbt, zbu, zbv, zbw, zbx, zby, zbz, zca, zcb, zcc, zcd, zce, zcf, zcg, zch, zci, zcl, zcm, zcn, zco, zcp, zcq, zcr, zcs, zct, zcu, zcv, zcw, zcx, zcy, zcz, zda, zdb, zdc, zdd, zde, zdf, zdg, zdh, zdi, zdj, zdk, zdl, zdm, zdn, zdo, zdp, zdq, zdr, zds, zdt, zdu, zdv, zdw, zdx, zdy, zdz, zea, zeb, zec, zed, zee, zef, zeg, zeh, zei, zej, zek, zel, zem, zen, zeo, zep, zeq, zer, zes, zet, zeu, zev, zew, zex, zey, zez, zfa, zfb, zfc, zfd, zfe, zff, zfg, zfh, zfi, zfj, zfk, zfl, zfm, zfn, zfo, zfp, zfq, zfr, zfs, zft, zfu, zfv, zfw, zfx, zfy, zfz, zga, zgb, zgc, zgd, zge, zgf, zgg, zgh, zgi, zgj, zgk, zgl, zgm, zgn, zgo, zgp, zgq, zgr, zgs, zgt, zgu, zgv, zgw, zgx, zgy, zgz, zha, zhb, zhc, zhd, zhe, zhf, zhg, zhh, zhi, zhx, zhy, zhz, zia, zhj, zhk, zhl, zhm, zhn, zho, zhp, zhq, zhr, zhs, zht, zhu, zhv, zhw]
        refine ⟨sz_lt (show 1 < 2 ^ 22 by decide), ?_⟩
        rw [← e1]
        clear e0 e1 hpl32 CW
        unfold chainOf at hcc
        generalize p0 pl = a at *
        generalize Mine.p1 pl = b at *
        subst hQ6
        rw [zac, zaa]
        generalize hQ7 : kSeq W (k + 8) _ _ = Q7
        have k7 : ∀ v7 v8, Q7 .next ([some (.val (.list dz)), some (.own [.int (i : Int), .list (nl ks)]), some (.val (.int w)), some (.val (.int many)), some sr, some (.val (.list (il pl))), some (.own (cl w c)), v7, v8, none, none] ++ gls) := by
          subst hQ7
          intro v7 v8
          have hc10 : c.length < 10 := decT (and1 hrest)
          have hpl := List.all_eq_true.mp (and1 (and2 hrest))
          have hpair : ∀ p ∈ places, ∀ q ∈ places, p ≤ q → (chg (sgs c (whole p)) : Int) - (chg (sgs c (whole q)) : Int) = (between rs p q : Int) := fun p hp q hq hle => by
            have := List.all_eq_true.mp (List.all_eq_true.mp (and2 (and2 hrest)) _ (List.mem_map.mpr ⟨p, hp, rfl⟩)) _ (List.mem_map.mpr ⟨q, hq, rfl⟩)
            rw [decide_eq_true (show (p, chg (sgs c (whole p))).1 ≤ (q, chg (sgs c (whole q))).1 from hle)] at this
            exact decT this
          have hsmall : ∀ p ∈ places, p.natAbs < 100 := by decide
          have CH : ∀ p ∈ places, CallOk W (k + 8) (Str.ofString "_law_changes") [.val (.list (cl w c)), .val (dR w (p, 1)), .val (.int (w : Int))] (.int (chg (sgs c (whole p)) : Nat)) [.val (.list (cl w c)), .val (dR w (p, 1)), .val (.int (w : Int))] := fun p hp => by
            have h := hpl p hp
            refine changes_ok (k := k) (p := whole p) hW hw hw8 (Nat.lt_trans hc10 (by decide)) (sml_Sm hw (and1 h)) fun xs hxs => ?_
            have h2 := List.all_eq_true.mp (and2 h) xs hxs
            have h3 := vsm_VSm hw (and2 h2)
            exact ⟨Nat.lt_trans (decT (and1 h2)) (by decide), h3.1, h3.2⟩
          have CW : ∀ p ∈ places, CallOk W (k + 8) (Str.ofString "_law_whole") [.val (.int p), .val (.int (w : Int))] (dR w (p, 1)) [.val (.int p), .val (.int (w : Int))] := fun p hp => whole_ok (k := k + 6) hW hw hw8 (ln32 hw (Nat.lt_trans (hsmall p hp) (by decide)))
          clear hrest hpl
          unfold gls
          dsimp only [zaa, zab, zac, zad, zae, zaf, zag, zah, zai, zaj, zak, zal, zam, zan, zao, zap, zaq, zar, zas, zat, zau, zav, zaw, zax, zay, zaz, zba, zbb, zbc, zbd, zbe, zbf, zbg, zbh, zbi, zbk, zbl, zbm, zbn, zbo, zbp, zbq, zbr, zbs, zbt, zbu, zbv, zbw, zbx, zby, zbz, zca, zcb, zcc, zcd, zce, zcf, zcg, zch, zci, zcl, zcm, zcn, zco, zcp, zcq, zcr, zcs, zct, zcu, zcv, zcw, zcx, zcy, zcz, zda, zdb, zdc, zdd, zde, zdf, zdg, zdh, zdi, zdj, zdk, zdl, zdm, zdn, zdo, zdp, zdq, zdr, zds, zdt, zdu, zdv, zdw, zdx, zdy, zdz, zea, zeb, zec, zed, zee, zef, zeg, zeh, zei, zej, zek, zel, zem, zen, zeo, zep, zeq, zer, zes, zet, zeu, zev, zew, zex, zey, zez, zfa, zfb, zfc, zfd, zfe, zff, zfg, zfh, zfi, zfj, zfk, zfl, zfm, zfn, zfo, zfp, zfq, zfr, zfs, zft, zfu, zfv, zfw, zfx, zfy, zfz, zga, zgb, zgc, zgd, zge, zgf, zgg, zgh, zgi, zgj, zgk, zgl, zgm, zgn, zgo, zgp, zgq, zgr, zgs, zgt, zgu, zgv, zgw, zgx, zgy, zgz, zha, zhb, zhc, zhd, zhe, zhf, zhg, zhh, zhi, zhx, zhy, zhz, zia, zhj, zhk, zhl, zhm, zhn, zho, zhp, zhq, zhr, zhs, zht, zhu, zhv, zhw]
          refine ⟨_, _, FA i 8 (by omega) (by decide), ?_⟩
          dsimp only [zaa, zab, zac, zad, zae, zaf, zag, zah, zai, zaj, zak, zal, zam, zan, zao, zap, zaq, zar, zas, zat, zau, zav, zaw, zax, zay, zaz, zba, zbb, zbc, zbd, zbe, zbf, zbg, zbh, zbi, zbk, zbl, zbm, zbn, zbo, zbp, zbq, zbr, zbs, zbt, zbu, zbv, zbw, zbx, zby, zbz, zca, zcb, zcc, zcd, zce, zcf, zcg, zch, zci, zcl, zcm, zcn, zco, zcp, zcq, zcr, zcs, zct, zcu, zcv, zcw, zcx, zcy, zcz, zda, zdb, zdc, zdd, zde, zdf, zdg, zdh, zdi, zdj, zdk, zdl, zdm, zdn, zdo, zdp, zdq, zdr, zds, zdt, zdu, zdv, zdw, zdx, zdy, zdz, zea, zeb, zec, zed, zee, zef, zeg, zeh, zei, zej, zek, zel, zem, zen, zeo, zep, zeq, zer, zes, zet, zeu, zev, zew, zex, zey, zez, zfa, zfb, zfc, zfd, zfe, zff, zfg, zfh, zfi, zfj, zfk, zfl, zfm, zfn, zfo, zfp, zfq, zfr, zfs, zft, zfu, zfv, zfw, zfx, zfy, zfz, zga, zgb, zgc, zgd, zge, zgf, zgg, zgh, zgi, zgj, zgk, zgl, zgm, zgn, zgo, zgp, zgq, zgr, zgs, zgt, zgu, zgv, zgw, zgx, zgy, zgz, zha, zhb, zhc, zhd, zhe, zhf, zhg, zhh, zhi, zhx, zhy, zhz, zia, zhj, zhk, zhl, zhm, zhn, zho, zhp, zhq, zhr, zhs, zht, zhu, zhv, zhw]
          refine ⟨smN (n := 2) (by decide), _, _, FA (i + 1) 8 (by omega) (by decide), ?_⟩
          have hx := pl_mem (draw_lt (ks := ks) (i := i) (show 0 < 8 by decide))
          have hy := pl_mem (draw_lt (ks := ks) (i := i + 1) (show 0 < 8 by decide))
          generalize draw ks i 8 = dx at *
          generalize draw ks (i + 1) 8 = dy at *
          dsimp only [zaa, zab, zac, zad, zae, zaf, zag, zah, zai, zaj, zak, zal, zam, zan, zao, zap, zaq, zar, zas, zat, zau, zav, zaw, zax, zay, zaz, zba, zbb, zbc, zbd, zbe, zbf, zbg, zbh, zbi, zbk, zbl, zbm, zbn, zbo, zbp, zbq, zbr, zbs, zbt, zbu, zbv, zbw, zbx, zby, zbz, zca, zcb, zcc, zcd, zce, zcf, zcg, zch, zci, zcl, zcm, zcn, zco, zcp, zcq, zcr, zcs, zct, zcu, zcv, zcw, zcx, zcy, zcz, zda, zdb, zdc, zdd, zde, zdf, zdg, zdh, zdi, zdj, zdk, zdl, zdm, zdn, zdo, zdp, zdq, zdr, zds, zdt, zdu, zdv, zdw, zdx, zdy, zdz, zea, zeb, zec, zed, zee, zef, zeg, zeh, zei, zej, zek, zel, zem, zen, zeo, zep, zeq, zer, zes, zet, zeu, zev, zew, zex, zey, zez, zfa, zfb, zfc, zfd, zfe, zff, zfg, zfh, zfi, zfj, zfk, zfl, zfm, zfn, zfo, zfp, zfq, zfr, zfs, zft, zfu, zfv, zfw, zfx, zfy, zfz, zga, zgb, zgc, zgd, zge, zgf, zgg, zgh, zgi, zgj, zgk, zgl, zgm, zgn, zgo, zgp, zgq, zgr, zgs, zgt, zgu, zgv, zgw, zgx, zgy, zgz, zha, zhb, zhc, zhd, zhe, zhf, zhg, zhh, zhi, zhx, zhy, zhz, zia, zhj, zhk, zhl, zhm, zhn, zho, zhp, zhq, zhr, zhs, zht, zhu, zhv, zhw]
          refine ⟨smN (n := 2) (by decide), sz2, sorted_ok ?_⟩
          dsimp only [zaa, zab, zac, zad, zae, zaf, zag, zah, zai, zaj, zak, zal, zam, zan, zao, zap, zaq, zar, zas, zat, zau, zav, zaw, zax, zay, zaz, zba, zbb, zbc, zbd, zbe, zbf, zbg, zbh, zbi, zbk, zbl, zbm, zbn, zbo, zbp, zbq, zbr, zbs, zbt, zbu, zbv, zbw, zbx, zby, zbz, zca, zcb, zcc, zcd, zce, zcf, zcg, zch, zci, zcl, zcm, zcn, zco, zcp, zcq, zcr, zcs, zct, zcu, zcv, zcw, zcx, zcy, zcz, zda, zdb, zdc, zdd, zde, zdf, zdg, zdh, zdi, zdj, zdk, zdl, zdm, zdn, zdo, zdp, zdq, zdr, zds, zdt, zdu, zdv, zdw, zdx, zdy, zdz, zea, zeb, zec, zed, zee, zef, zeg, zeh, zei, zej, zek, zel, zem, zen, zeo, zep, zeq, zer, zes, zet, zeu, zev, zew, zex, zey, zez, zfa, zfb, zfc, zfd, zfe, zff, zfg, zfh, zfi, zfj, zfk, zfl, zfm, zfn, zfo, zfp, zfq, zfr, zfs, zft, zfu, zfv, zfw, zfx, zfy, zfz, zga, zgb, zgc, zgd, zge, zgf, zgg, zgh, zgi, zgj, zgk, zgl, zgm, zgn, zgo, zgp, zgq, zgr, zgs, zgt, zgu, zgv, zgw, zgx, zgy, zgz, zha, zhb, zhc, zhd, zhe, zhf, zhg, zhh, zhi, zhx, zhy, zhz, zia, zhj, zhk, zhl, zhm, zhn, zho, zhp, zhq, zhr, zhs, zht, zhu, zhv, zhw]
          generalize ((2 * dx : Nat) : Int) - ((7 : Nat) : Int) = x at *
          generalize ((2 * dy : Nat) : Int) - ((7 : Nat) : Int) = y at *
          obtain ⟨p, q, hpq, hple, hp, hq⟩ : ∃ p q, (if y < x then [D.int y, D.int x] else [D.int x, D.int y]) = [D.int p, D.int q] ∧ p ≤ q ∧ p ∈ places ∧ q ∈ places := by
            by_cases h : y < x
            · exact ⟨y, x, if_pos h, Int.le_of_lt h, hy, hx⟩
            · exact ⟨x, y, if_neg h, Int.not_lt.mp h, hx, hy⟩
          rw [hpq]
          have hps := hsmall p hp
          have hqs := hsmall q hq
          have CWp := CW p hp
          have CWq := CW q hq
          have CHp := CH p hp
          have CHq := CH q hq
          have hdiff := hpair p hp q hq hple
          clear CW CH hpair hsmall hpq hx hy FA
          generalize dR w (p, 1) = wp at *
          generalize dR w (q, 1) = wq at *
          generalize chg (sgs c (whole p)) = n1 at *
          generalize chg (sgs c (whole q)) = n2 at *
          generalize cl w c = dc at *
          generalize nl ks = dks at *
          refine ixn (i := 0) (n := 1) (by decide) (by decide) rfl ?_
          dsimp only [zaa, zab, zac, zad, zae, zaf, zag, zah, zai, zaj, zak, zal, zam, zan, zao, zap, zaq, zar, zas, zat, zau, zav, zaw, zax, zay, zaz, zba, zbb, zbc, zbd, zbe, zbf, zbg, zbh, zbi, zbk, zbl, zbm, zbn, zbo, zbp, zbq, zbr, zbs, zbt, zbu, zbv, zbw, zbx, zby, zbz, zca, zcb, zcc, zcd, zce, zcf, zcg, zch, zci, zcl, zcm, zcn, zco, zcp, zcq, zcr, zcs, zct, zcu, zcv, zcw, zcx, zcy, zcz, zda, zdb, zdc, zdd, zde, zdf, zdg, zdh, zdi, zdj, zdk, zdl, zdm, zdn, zdo, zdp, zdq, zdr, zds, zdt, zdu, zdv, zdw, zdx, zdy, zdz, zea, zeb, zec, zed, zee, zef, zeg, zeh, zei, zej, zek, zel, zem, zen, zeo, zep, zeq, zer, zes, zet, zeu, zev, zew, zex, zey, zez, zfa, zfb, zfc, zfd, zfe, zff, zfg, zfh, zfi, zfj, zfk, zfl, zfm, zfn, zfo, zfp, zfq, zfr, zfs, zft, zfu, zfv, zfw, zfx, zfy, zfz, zga, zgb, zgc, zgd, zge, zgf, zgg, zgh, zgi, zgj, zgk, zgl, zgm, zgn, zgo, zgp, zgq, zgr, zgs, zgt, zgu, zgv, zgw, zgx, zgy, zgz, zha, zhb, zhc, zhd, zhe, zhf, zhg, zhh, zhi, zhx, zhy, zhz, zia, zhj, zhk, zhl, zhm, zhn, zho, zhp, zhq, zhr, zhs, zht, zhu, zhv, zhw]
          refine ⟨vn, _, CWp, vn, _, CHp, ?_⟩
          (try dsimp only [zaa, zab, zac, zad, zae, zaf, zag, zah, zai, zaj, zak, zal, zam, zan, zao, zap, zaq, zar, zas, zat, zau, zav, zaw, zax, zay, zaz, zba, zbb, zbc, zbd, zbe, zbf, zbg, zbh, zbi, zbk, zbl, zbm, zbn, zbo, zbp, zbq, zbr, zbs, zbt, zbu, zbv, zbw, zbx, zby, zbz, zca, zcb, zcc, zcd, zce, zcf, zcg, zch, zci, zcl, zcm, zcn, zco, zcp, zcq, zcr, zcs, zct, zcu, zcv, zcw, zcx, zcy, zcz, zda, zdb, zdc, zdd, zde, zdf, zdg, zdh, zdi, zdj, zdk, zdl, zdm, zdn, zdo, zdp, zdq, zdr, zds, zdt, zdu, zdv, zdw, zdx, zdy, zdz, zea, zeb, zec, zed, zee, zef, zeg, zeh, zei, zej, zek, zel, zem, zen, zeo, zep, zeq, zer, zes, zet, zeu, zev, zew, zex, zey, zez, zfa, zfb, zfc, zfd, zfe, zff, zfg, zfh, zfi, zfj, zfk, zfl, zfm, zfn, zfo, zfp, zfq, zfr, zfs, zft, zfu, zfv, zfw, zfx, zfy, zfz, zga, zgb, zgc, zgd, zge, zgf, zgg, zgh, zgi, zgj, zgk, zgl, zgm, zgn, zgo, zgp, zgq, zgr, zgs, zgt, zgu, zgv, zgw, zgx, zgy, zgz, zha, zhb, zhc, zhd, zhe, zhf, zhg, zhh, zhi, zhx, zhy, zhz, zia, zhj, zhk, zhl, zhm, zhn, zho, zhp, zhq, zhr, zhs, zht, zhu, zhv, zhw])
          refine ixn (i := 1) (n := 2) (by decide) (by decide) rfl ?_
          (try dsimp only [zaa, zab, zac, zad, zae, zaf, zag, zah, zai, zaj, zak, zal, zam, zan, zao, zap, zaq, zar, zas, zat, zau, zav, zaw, zax, zay, zaz, zba, zbb, zbc, zbd, zbe, zbf, zbg, zbh, zbi, zbk, zbl, zbm, zbn, zbo, zbp, zbq, zbr, zbs, zbt, zbu, zbv, zbw, zbx, zby, zbz, zca, zcb, zcc, zcd, zce, zcf, zcg, zch, zci, zcl, zcm, zcn, zco, zcp, zcq, zcr, zcs, zct, zcu, zcv, zcw, zcx, zcy, zcz, zda, zdb, zdc, zdd, zde, zdf, zdg, zdh, zdi, zdj, zdk, zdl, zdm, zdn, zdo, zdp, zdq, zdr, zds, zdt, zdu, zdv, zdw, zdx, zdy, zdz, zea, zeb, zec, zed, zee, zef, zeg, zeh, zei, zej, zek, zel, zem, zen, zeo, zep, zeq, zer, zes, zet, zeu, zev, zew, zex, zey, zez, zfa, zfb, zfc, zfd, zfe, zff, zfg, zfh, zfi, zfj, zfk, zfl, zfm, zfn, zfo, zfp, zfq, zfr, zfs, zft, zfu, zfv, zfw, zfx, zfy, zfz, zga, zgb, zgc, zgd, zge, zgf, zgg, zgh, zgi, zgj, zgk, zgl, zgm, zgn, zgo, zgp, zgq, zgr, zgs, zgt, zgu, zgv, zgw, zgx, zgy, zgz, zha, zhb, zhc, zhd, zhe, zhf, zhg, zhh, zhi, zhx, zhy, zhz, zia, zhj, zhk, zhl, zhm, zhn, zho, zhp, zhq, zhr, zhs, zht, zhu, zhv, zhw])
          refine ⟨vn, _, CWq, vn, _, CHq, ?_⟩
          (try dsimp only [zaa, zab, zac, zad, zae, zaf, zag, zah, zai, zaj, zak, zal, zam, zan, zao, zap, zaq, zar, zas, zat, zau, zav, zaw, zax, zay, zaz, zba, zbb, zbc, zbd, zbe, zbf, zbg, zbh, zbi, zbk, zbl, zbm, zbn, zbo, zbp, zbq, zbr, zbs, zbt, zbu, zbv, zbw, zbx, zby, zbz, zca, zcb, zcc, zcd, zce, zcf, zcg, zch, zci, zcl, zcm, zcn, zco, zcp, zcq, zcr, zcs, zct, zcu, zcv, zcw, zcx, zcy, zcz, zda, zdb, zdc, zdd, zde, zdf, zdg, zdh, zdi, zdj, zdk, zdl, zdm, zdn, zdo, zdp, zdq, zdr, zds, zdt, zdu, zdv, zdw, zdx, zdy, zdz, zea, zeb, zec, zed, zee, zef, zeg, zeh, zei, zej, zek, zel, zem, zen, zeo, zep, zeq, zer, zes, zet, zeu, zev, zew, zex, zey, zez, zfa, zfb, zfc, zfd, zfe, zff, zfg, zfh, zfi, zfj, zfk, zfl, zfm, zfn, zfo, zfp, zfq, zfr, zfs, zft, zfu, zfv, zfw, zfx, zfy, zfz, zga, zgb, zgc, zgd, zge, zgf, zgg, zgh, zgi, zgj, zgk, zgl, zgm, zgn, zgo, zgp, zgq, zgr, zgs, zgt, zgu, zgv, zgw, zgx, zgy, zgz, zha, zhb, zhc, zhd, zhe, zhf, zhg, zhh, zhi, zhx, zhy, zhz, zia, zhj, zhk, zhl, zhm, zhn, zho, zhp, zhq, zhr, zhs, zht, zhu, zhv, zhw])
          refine ixn (i := 0) (n := 1) (by decide) (by decide) rfl ?_
          (try dsimp only [zaa, zab, zac, zad, zae, zaf, zag, zah, zai, zaj, zak, zal, zam, zan, zao, zap, zaq, zar, zas, zat, zau, zav, zaw, zax, zay, zaz, zba, zbb, zbc, zbd, zbe, zbf, zbg, zbh, zbi, zbk, zbl, zbm, zbn, zbo, zbp, zbq, zbr, zbs, zbt, zbu, zbv, zbw, zbx, zby, zbz, zca, zcb, zcc, zcd, zce, zcf, zcg, zch, zci, zcl, zcm, zcn, zco, zcp, zcq, zcr, zcs, zct, zcu, zcv, zcw, zcx, zcy, zcz, zda, zdb, zdc, zdd, zde, zdf, zdg, zdh, zdi, zdj, zdk, zdl, zdm, zdn, zdo, zdp, zdq, zdr, zds, zdt, zdu, zdv, zdw, zdx, zdy, zdz, zea, zeb, zec, zed, zee, zef, zeg, zeh, zei, zej, zek, zel, zem, zen, zeo, zep, zeq, zer, zes, zet, zeu, zev, zew, zex, zey, zez, zfa, zfb, zfc, zfd, zfe, zff, zfg, zfh, zfi, zfj, zfk, zfl, zfm, zfn, zfo, zfp, zfq, zfr, zfs, zft, zfu, zfv, zfw, zfx, zfy, zfz, zga, zgb, zgc, zgd, zge, zgf, zgg, zgh, zgi, zgj, zgk, zgl, zgm, zgn, zgo, zgp, zgq, zgr, zgs, zgt, zgu, zgv, zgw, zgx, zgy, zgz, zha, zhb, zhc, zhd, zhe, zhf, zhg, zhh, zhi, zhx, zhy, zhz, zia, zhj, zhk, zhl, zhm, zhn, zho, zhp, zhq, zhr, zhs, zht, zhu, zhv, zhw])
          refine ixn (i := 1) (n := 2) (by decide) (by decide) rfl ?_
          (try dsimp only [zaa, zab, zac, zad, zae, zaf, zag, zah, zai, zaj, zak, zal, zam, zan, zao, zap, zaq, zar, zas, zat, zau, zav, zaw, zax, zay, zaz, zba, zbb, zbc, zbd, zbe, zbf, zbg, zbh, zbi, zbk, zbl, zbm, zbn, zbo, zbp, zbq, zbr, zbs, zbt, zbu, zbv, zbw, zbx, zby, zbz, zca, zcb, zcc, zcd, zce, zcf, zcg, zch, zci, zcl, zcm, zcn, zco, zcp, zcq, zcr, zcs, zct, zcu, zcv, zcw, zcx, zcy, zcz, zda, zdb, zdc, zdd, zde, zdf, zdg, zdh, zdi, zdj, zdk, zdl, zdm, zdn, zdo, zdp, zdq, zdr, zds, zdt, zdu, zdv, zdw, zdx, zdy, zdz, zea, zeb, zec, zed, zee, zef, zeg, zeh, zei, zej, zek, zel, zem, zen, zeo, zep, zeq, zer, zes, zet, zeu, zev, zew, zex, zey, zez, zfa, zfb, zfc, zfd, zfe, zff, zfg, zfh, zfi, zfj, zfk, zfl, zfm, zfn, zfo, zfp, zfq, zfr, zfs, zft, zfu, zfv, zfw, zfx, zfy, zfz, zga, zgb, zgc, zgd, zge, zgf, zgg, zgh, zgi, zgj, zgk, zgl, zgm, zgn, zgo, zgp, zgq, zgr, zgs, zgt, zgu, zgv, zgw, zgx, zgy, zgz, zha, zhb, zhc, zhd, zhe, zhf, zhg, zhh, zhi, zhx, zhy, zhz, zia, zhj, zhk, zhl, zhm, zhn, zho, zhp, zhq, zhr, zhs, zht, zhu, zhv, zhw])
          have b1 : -big ≤ p ∧ p ≤ big := big_le (by omega)
          have b2 : -big ≤ q ∧ q ≤ big := big_le (by omega)
          have hbw : ((List.range (q - p).toNat).filter fun (i : Nat) => decide (p + (i : Int) ∈ rs)).length = between rs p q := rfl
          have hbl : between rs p q < 2 ^ 22 := Nat.lt_of_le_of_lt (List.length_filter_le _ _) (by rw [List.length_range]; omega)
          generalize between rs p q = R at *
          refine .inl ⟨rfl, ⟨b1.1, b1.2, b2.1, b2.2⟩, ⟨rfl, ?_⟩, ?_⟩
          · rw [rangeL_map, List.length_map, List.length_range]; exact sz_le (by omega)
          rw [rangeL_map]
          refine comp_inv (fun xs acc ρ => ∃ sl, ρ = [some (.val (.list dz)), some (.own [.int ((i + 1 + 1 : Nat) : Int), .list dks]), some (.val (.int w)), some (.val (.int many)), some sl, some (.val (.list (il pl))), some (.val (.list dc)), v7, v8, some (.val (.list [.int p, .int q])), some (.val (.int ((n1 : Int) - (n2 : Int)))), some (.val (.fn (Str.ofString "_law_fathomed"))), some (.val (.bi (.type "range"))), some (.val (.fn (Str.ofString "_law_polynomial"))), some (.val (.bi (.builtin "len"))), some (.val (.fn (Str.ofString "_law_divided"))), some (.val (.bi (.builtin "sorted"))), some (.val (.fn (Str.ofString "_law_changes"))), some (.val (.fn (Str.ofString "_law_whole")))] ∧
            (sl = .val (.list (il rs)) ∨ sl = .own (il rs)) ∧ acc.length + (xs.filter fun (i : Nat) => decide (p + (i : Int) ∈ rs)).length = R) ?_ ?_ ⟨sr, rfl, hsr, by rw [hbw]; exact Nat.zero_add _⟩
          · rintro j js acc ρ ⟨sl, rfl, hsl, hacc⟩ C hC
            have fin : (decide (p + (j : Int) ∈ rs) = true → C (acc ++ [D.int (p + (j : Int))]) [some (.val (.list dz)), some (.own [.int ((i + 1 + 1 : Nat) : Int), .list dks]), some (.val (.int w)), some (.val (.int many)), some (.val (.list (il rs))), some (.val (.list (il pl))), some (.val (.list dc)), v7, v8, some (.val (.list [.int p, .int q])), some (.val (.int ((n1 : Int) - (n2 : Int)))), some (.val (.fn (Str.ofString "_law_fathomed"))), some (.val (.bi (.type "range"))), some (.val (.fn (Str.ofString "_law_polynomial"))), some (.val (.bi (.builtin "len"))), some (.val (.fn (Str.ofString "_law_divided"))), some (.val (.bi (.builtin "sorted"))), some (.val (.fn (Str.ofString "_law_changes"))), some (.val (.fn (Str.ofString "_law_whole")))]) ∧
                (decide (p + (j : Int) ∈ rs) = false → C acc [some (.val (.list dz)), some (.own [.int ((i + 1 + 1 : Nat) : Int), .list dks]), some (.val (.int w)), some (.val (.int many)), some (.val (.list (il rs))), some (.val (.list (il pl))), some (.val (.list dc)), v7, v8, some (.val (.list [.int p, .int q])), some (.val (.int ((n1 : Int) - (n2 : Int)))), some (.val (.fn (Str.ofString "_law_fathomed"))), some (.val (.bi (.type "range"))), some (.val (.fn (Str.ofString "_law_polynomial"))), some (.val (.bi (.builtin "len"))), some (.val (.fn (Str.ofString "_law_divided"))), some (.val (.bi (.builtin "sorted"))), some (.val (.fn (Str.ofString "_law_changes"))), some (.val (.fn (Str.ofString "_law_whole")))]) := by
              refine ⟨fun h => hC _ _ ⟨_, rfl, .inl rfl, ?_⟩, fun h => hC _ _ ⟨_, rfl, .inl rfl, ?_⟩⟩
              · rw [List.filter_cons, if_pos h, List.length_cons] at hacc
                rw [List.length_append, Nat.add_assoc, Nat.add_comm [_].length]; exact hacc
              · rw [List.filter_cons, if_neg (by rw [h]; exact fun h => nomatch h)] at hacc
                exact hacc
            rcases hsl with rfl | rfl
            · dsimp only [zaa, zab, zac, zad, zae, zaf, zag, zah, zai, zaj, zak, zal, zam, zan, zao, zap, zaq, zar, zas, zat, zau, zav, zaw, zax, zay, zaz, zba, zbb, zbc, zbd, zbe, zbf, zbg, zbh, zbi, zbk, zbl, zbm, zbn, zbo, zbp, zbq, zbr, zbs, zbt, zbu, zbv, zbw, zbx, zby, zbz, zca, zcb, zcc, zcd, zce, zcf, zcg, zch, zci, zcl, zcm, zcn, zco, zcp, zcq, zcr, zcs, zct, zcu, zcv, zcw, zcx, zcy, zcz, zda, zdb, zdc, zdd, zde, zdf, zdg, zdh, zdi, zdj, zdk, zdl, zdm, zdn, zdo, zdp, zdq, zdr, zds, zdt, zdu, zdv, zdw, zdx, zdy, zdz, zea, zeb, zec, zed, zee, zef, zeg, zeh, zei, zej, zek, zel, zem, zen, zeo, zep, zeq, zer, zes, zet, zeu, zev, zew, zex, zey, zez, zfa, zfb, zfc, zfd, zfe, zff, zfg, zfh, zfi, zfj, zfk, zfl, zfm, zfn, zfo, zfp, zfq, zfr, zfs, zft, zfu, zfv, zfw, zfx, zfy, zfz, zga, zgb, zgc, zgd, zge, zgf, zgg, zgh, zgi, zgj, zgk, zgl, zgm, zgn, zgo, zgp, zgq, zgr, zgs, zgt, zgu, zgv, zgw, zgx, zgy, zgz, zha, zhb, zhc, zhd, zhe, zhf, zhg, zhh, zhi, zhx, zhy, zhz, zia, zhj, zhk, zhl, zhm, zhn, zho, zhp, zhq, zhr, zhs, zht, zhu, zhv, zhw]
              refine ct_in ?_
              dsimp only [zaa, zab, zac, zad, zae, zaf, zag, zah, zai, zaj, zak, zal, zam, zan, zao, zap, zaq, zar, zas, zat, zau, zav, zaw, zax, zay, zaz, zba, zbb, zbc, zbd, zbe, zbf, zbg, zbh, zbi, zbk, zbl, zbm, zbn, zbo, zbp, zbq, zbr, zbs, zbt, zbu, zbv, zbw, zbx, zby, zbz, zca, zcb, zcc, zcd, zce, zcf, zcg, zch, zci, zcl, zcm, zcn, zco, zcp, zcq, zcr, zcs, zct, zcu, zcv, zcw, zcx, zcy, zcz, zda, zdb, zdc, zdd, zde, zdf, zdg, zdh, zdi, zdj, zdk, zdl, zdm, zdn, zdo, zdp, zdq, zdr, zds, zdt, zdu, zdv, zdw, zdx, zdy, zdz, zea, zeb, zec, zed, zee, zef, zeg, zeh, zei, zej, zek, zel, zem, zen, zeo, zep, zeq, zer, zes, zet, zeu, zev, zew, zex, zey, zez, zfa, zfb, zfc, zfd, zfe, zff, zfg, zfh, zfi, zfj, zfk, zfl, zfm, zfn, zfo, zfp, zfq, zfr, zfs, zft, zfu, zfv, zfw, zfx, zfy, zfz, zga, zgb, zgc, zgd, zge, zgf, zgg, zgh, zgi, zgj, zgk, zgl, zgm, zgn, zgo, zgp, zgq, zgr, zgs, zgt, zgu, zgv, zgw, zgx, zgy, zgz, zha, zhb, zhc, zhd, zhe, zhf, zhg, zhh, zhi, zhx, zhy, zhz, zia, zhj, zhk, zhl, zhm, zhn, zho, zhp, zhq, zhr, zhs, zht, zhu, zhv, zhw]
              exact fin
            · dsimp only [zaa, zab, zac, zad, zae, zaf, zag, zah, zai, zaj, zak, zal, zam, zan, zao, zap, zaq, zar, zas, zat, zau, zav, zaw, zax, zay, zaz, zba, zbb, zbc, zbd, zbe, zbf, zbg, zbh, zbi, zbk, zbl, zbm, zbn, zbo, zbp, zbq, zbr, zbs, zbt, zbu, zbv, zbw, zbx, zby, zbz, zca, zcb, zcc, zcd, zce, zcf, zcg, zch, zci, zcl, zcm, zcn, zco, zcp, zcq, zcr, zcs, zct, zcu, zcv, zcw, zcx, zcy, zcz, zda, zdb, zdc, zdd, zde, zdf, zdg, zdh, zdi, zdj, zdk, zdl, zdm, zdn, zdo, zdp, zdq, zdr, zds, zdt, zdu, zdv, zdw, zdx, zdy, zdz, zea, zeb, zec, zed, zee, zef, zeg, zeh, zei, zej, zek, zel, zem, zen, zeo, zep, zeq, zer, zes, zet, zeu, zev, zew, zex, zey, zez, zfa, zfb, zfc, zfd, zfe, zff, zfg, zfh, zfi, zfj, zfk, zfl, zfm, zfn, zfo, zfp, zfq, zfr, zfs, zft, zfu, zfv, zfw, zfx, zfy, zfz, zga, zgb, zgc, zgd, zge, zgf, zgg, zgh, zgi, zgj, zgk, zgl, zgm, zgn, zgo, zgp, zgq, zgr, zgs, zgt, zgu, zgv, zgw, zgx, zgy, zgz, zha, zhb, zhc, zhd, zhe, zhf, zhg, zhh, zhi, zhx, zhy, zhz, zia, zhj, zhk, zhl, zhm, zhn, zho, zhp, zhq, zhr, zhs, zht, zhu, zhv, zhw]
              refine ct_in ?_
              dsimp only [zaa, zab, zac, zad, zae, zaf, zag, zah, zai, zaj, zak, zal, zam, zan, zao, zap, zaq, zar, zas, zat, zau, zav, zaw, zax, zay, zaz, zba, zbb, zbc, zbd, zbe, zbf, zbg, zbh, zbi, zbk, zbl, zbm, zbn, zbo, zbp, zbq, zbr, zbs, zbt, zbu, zbv, zbw, zbx, zby, zbz, zca, zcb, zcc, zcd, zce, zcf, zcg, zch, zci, zcl, zcm, zcn, zco, zcp, zcq, zcr, zcs, zct, zcu, zcv, zcw, zcx, zcy, zcz, zda, zdb, zdc, zdd, zde, zdf, zdg, zdh, zdi, zdj, zdk, zdl, zdm, zdn, zdo, zdp, zdq, zdr, zds, zdt, zdu, zdv, zdw, zdx, zdy, zdz, zea, zeb, zec, zed, zee, zef, zeg, zeh, zei, zej, zek, zel, zem, zen, zeo, zep, zeq, zer, zes, zet, zeu, zev, zew, zex, zey, zez, zfa, zfb, zfc, zfd, zfe, zff, zfg, zfh, zfi, zfj, zfk, zfl, zfm, zfn, zfo, zfp, zfq, zfr, zfs, zft, zfu, zfv, zfw, zfx, zfy, zfz, zga, zgb, zgc, zgd, zge, zgf, zgg, zgh, zgi, zgj, zgk, zgl, zgm, zgn, zgo, zgp, zgq, zgr, zgs, zgt, zgu, zgv, zgw, zgx, zgy, zgz, zha, zhb, zhc, zhd, zhe, zhf, zhg, zhh, zhi, zhx, zhy, zhz, zia, zhj, zhk, zhl, zhm, zhn, zho, zhp, zhq, zhr, zhs, zht, zhu, zhv, zhw]
              exact fin
          · rintro acc ρ ⟨sl, rfl, _, hacc⟩
            have hacc : acc.length = R := hacc
            dsimp only [zaa, zab, zac, zad, zae, zaf, zag, zah, zai, zaj, zak, zal, zam, zan, zao, zap, zaq, zar, zas, zat, zau, zav, zaw, zax, zay, zaz, zba, zbb, zbc, zbd, zbe, zbf, zbg, zbh, zbi, zbk, zbl, zbm, zbn, zbo, zbp, zbq, zbr, zbs, zbt, zbu, zbv, zbw, zbx, zby, zbz, zca, zcb, zcc, zcd, zce, zcf, zcg, zch, zci, zcl, zcm, zcn, zco, zcp, zcq, zcr, zcs, zct, zcu, zcv, zcw, zcx, zcy, zcz, zda, zdb, zdc, zdd, zde, zdf, zdg, zdh, zdi, zdj, zdk, zdl, zdm, zdn, zdo, zdp, zdq, zdr, zds, zdt, zdu, zdv, zdw, zdx, zdy, zdz, zea, zeb, zec, zed, zee, zef, zeg, zeh, zei, zej, zek, zel, zem, zen, zeo, zep, zeq, zer, zes, zet, zeu, zev, zew, zex, zey, zez, zfa, zfb, zfc, zfd, zfe, zff, zfg, zfh, zfi, zfj, zfk, zfl, zfm, zfn, zfo, zfp, zfq, zfr, zfs, zft, zfu, zfv, zfw, zfx, zfy, zfz, zga, zgb, zgc, zgd, zge, zgf, zgg, zgh, zgi, zgj, zgk, zgl, zgm, zgn, zgo, zgp, zgq, zgr, zgs, zgt, zgu, zgv, zgw, zgx, zgy, zgz, zha, zhb, zhc, zhd, zhe, zhf, zhg, zhh, zhi, zhx, zhy, zhz, zia, zhj, zhk, zhl, zhm, zhn, zho, zhp, zhq, zhr, zhs, zht, zhu, zhv, zhw]
            refine len_ok (l62 hacc hbl) ?_
            dsimp only [zaa, zab, zac, zad, zae, zaf, zag, zah, zai, zaj, zak, zal, zam, zan, zao, zap, zaq, zar, zas, zat, zau, zav, zaw, zax, zay, zaz, zba, zbb, zbc, zbd, zbe, zbf, zbg, zbh, zbi, zbk, zbl, zbm, zbn, zbo, zbp, zbq, zbr, zbs, zbt, zbu, zbv, zbw, zbx, zby, zbz, zca, zcb, zcc, zcd, zce, zcf, zcg, zch, zci, zcl, zcm, zcn, zco, zcp, zcq, zcr, zcs, zct, zcu, zcv, zcw, zcx, zcy, zcz, zda, zdb, zdc, zdd, zde, zdf, zdg, zdh, zdi, zdj, zdk, zdl, zdm, zdn, zdo, zdp, zdq, zdr, zds, zdt, zdu, zdv, zdw, zdx, zdy, zdz, zea, zeb, zec, zed, zee, zef, zeg, zeh, zei, zej, zek, zel, zem, zen, zeo, zep, zeq, zer, zes, zet, zeu, zev, zew, zex, zey, zez, zfa, zfb, zfc, zfd, zfe, zff, zfg, zfh, zfi, zfj, zfk, zfl, zfm, zfn, zfo, zfp, zfq, zfr, zfs, zft, zfu, zfv, zfw, zfx, zfy, zfz, zga, zgb, zgc, zgd, zge, zgf, zgg, zgh, zgi, zgj, zgk, zgl, zgm, zgn, zgo, zgp, zgq, zgr, zgs, zgt, zgu, zgv, zgw, zgx, zgy, zgz, zha, zhb, zhc, zhd, zhe, zhf, zhg, zhh, zhi, zhx, zhy, zhz, zia, zhj, zhk, zhl, zhm, zhn, zho, zhp, zhq, zhr, zhs, zht, zhu, zhv, zhw]
            rw [hacc, decide_eq_true hdiff]
        clear hrest
        rw [zak]
        refine while_inv (fun n ρ => ∃ pre a b v7 v8, ρ = [some (.val (.list dz)), some (.own [.int (i : Int), .list (nl ks)]), some (.val (.int w)), some (.val (.int many)), some sr, some (.val (.list (il pl))), some (.own (cl w (pre ++ [a, b]))), v7, v8, none, none, some (.val (.fn (Str.ofString "_law_fathomed"))), some (.val (.bi (.type "range"))), some (.val (.fn (Str.ofString "_law_polynomial"))), some (.val (.bi (.builtin "len"))), some (.val (.fn (Str.ofString "_law_divided"))), some (.val (.bi (.builtin "sorted"))), some (.val (.fn (Str.ofString "_law_changes"))), some (.val (.fn (Str.ofString "_law_whole")))] ∧
          cgo n (pre ++ [a, b]) a b = some c ∧ pre.length + n ≤ 5) ?_ ⟨[], a, b, none, none, rfl, hcc, Nat.le_refl 5⟩
        rintro n ρ ⟨pre, a, b, v7, v8, rfl, hg, hpn⟩ C hC
        cases n with
        | zero => exact nomatch hg
        | succ n =>
          have lc : (cl w (pre ++ [a, b])).length = pre.length + 1 + 1 := by rw [List.length_map, List.length_append]; rfl
          have g1 := cl_at w (pre ++ [a]) b []
          rw [List.append_assoc, List.length_append] at g1
          have g0 := cl_at w pre a [b]
          have g1 : (cl w (pre ++ [a, b]))[pre.length + 1]? = some (.list (rl w b)) := g1
          have lb : (rl w b).length = b.length := List.length_map ..
          have hg : (if 1 < b.length then (if okD a b = true then
            (if (divided a b).2.length = 0 then some (pre ++ [a, b])
            else if b.length ≤ (divided a b).2.length then none
            else if (divided a b).1.length + b.length = a.length + 1 then cgo n ((pre ++ [a, b]) ++ [(divided a b).2.map rneg]) b ((divided a b).2.map rneg) else none) else none) else some (pre ++ [a, b])) = some c := hg
          dsimp only [zaa, zab, zac, zad, zae, zaf, zag, zah, zai, zaj, zak, zal, zam, zan, zao, zap, zaq, zar, zas, zat, zau, zav, zaw, zax, zay, zaz, zba, zbb, zbc, zbd, zbe, zbf, zbg, zbh, zbi, zbk, zbl, zbm, zbn, zbo, zbp, zbq, zbr, zbs, zbt, zbu, zbv, zbw, zbx, zby, zbz, zca, zcb, zcc, zcd, zce, zcf, zcg, zch, zci, zcl, zcm, zcn, zco, zcp, zcq, zcr, zcs, zct, zcu, zcv, zcw, zcx, zcy, zcz, zda, zdb, zdc, zdd, zde, zdf, zdg, zdh, zdi, zdj, zdk, zdl, zdm, zdn, zdo, zdp, zdq, zdr, zds, zdt, zdu, zdv, zdw, zdx, zdy, zdz, zea, zeb, zec, zed, zee, zef, zeg, zeh, zei, zej, zek, zel, zem, zen, zeo, zep, zeq, zer, zes, zet, zeu, zev, zew, zex, zey, zez, zfa, zfb, zfc, zfd, zfe, zff, zfg, zfh, zfi, zfj, zfk, zfl, zfm, zfn, zfo, zfp, zfq, zfr, zfs, zft, zfu, zfv, zfw, zfx, zfy, zfz, zga, zgb, zgc, zgd, zge, zgf, zgg, zgh, zgi, zgj, zgk, zgl, zgm, zgn, zgo, zgp, zgq, zgr, zgs, zgt, zgu, zgv, zgw, zgx, zgy, zgz, zha, zhb, zhc, zhd, zhe, zhf, zhg, zhh, zhi, zhx, zhy, zhz, zia, zhj, zhk, zhl, zhm, zhn, zho, zhp, zhq, zhr, zhs, zht, zhu, zhv, zhw]
          refine ixm (j := 1) (n := pre.length + 1) (by decide) (by decide) lc g1 ?_
          dsimp only [zaa, zab, zac, zad, zae, zaf, zag, zah, zai, zaj, zak, zal, zam, zan, zao, zap, zaq, zar, zas, zat, zau, zav, zaw, zax, zay, zaz, zba, zbb, zbc, zbd, zbe, zbf, zbg, zbh, zbi, zbk, zbl, zbm, zbn, zbo, zbp, zbq, zbr, zbs, zbt, zbu, zbv, zbw, zbx, zby, zbz, zca, zcb, zcc, zcd, zce, zcf, zcg, zch, zci, zcl, zcm, zcn, zco, zcp, zcq, zcr, zcs, zct, zcu, zcv, zcw, zcx, zcy, zcz, zda, zdb, zdc, zdd, zde, zdf, zdg, zdh, zdi, zdj, zdk, zdl, zdm, zdn, zdo, zdp, zdq, zdr, zds, zdt, zdu, zdv, zdw, zdx, zdy, zdz, zea, zeb, zec, zed, zee, zef, zeg, zeh, zei, zej, zek, zel, zem, zen, zeo, zep, zeq, zer, zes, zet, zeu, zev, zew, zex, zey, zez, zfa, zfb, zfc, zfd, zfe, zff, zfg, zfh, zfi, zfj, zfk, zfl, zfm, zfn, zfo, zfp, zfq, zfr, zfs, zft, zfu, zfv, zfw, zfx, zfy, zfz, zga, zgb, zgc, zgd, zge, zgf, zgg, zgh, zgi, zgj, zgk, zgl, zgm, zgn, zgo, zgp, zgq, zgr, zgs, zgt, zgu, zgv, zgw, zgx, zgy, zgz, zha, zhb, zhc, zhd, zhe, zhf, zhg, zhh, zhi, zhx, zhy, zhz, zia, zhj, zhk, zhl, zhm, zhn, zho, zhp, zhq, zhr, zhs, zht, zhu, zhv, zhw]
          by_cases hb : 1 < b.length
          · rw [if_pos hb] at hg
            by_cases hok : okD a b = true
            · rw [if_pos hok] at hg
              have hal : a.length < 10 := decT (and1 (and1 (and1 hok)))
              have hbl : b.length < 10 := decT (and2 (and1 (and1 hok)))
              have hb1 : 1 ≤ b.length := decT (and2 (and1 hok))
              have hbn : (q0 b).1 ≠ 0 := not1 (and1 (and2 hok))
              have hbs := and1 (and2 (and2 hok))
              have hds := and2 (and2 (and2 hok))
              have CD := divided_ok (k := k) hW hw hw8 (Nat.lt_trans hal (by decide)) hb1 (Nat.lt_trans hbl (by decide)) hbn (all_Sm hw hbs) (dsm_DSm hw hds)
              have hrs : ∀ x ∈ (divided a b).2, Sm w x := fun x hx => all_Sm hw (dsm_rest (m := []) hds) x (dstrip_sub x hx)
              clear hok hbn hbs hds
              generalize hdv : divided a b = dv at *
              obtain ⟨tm, rs'⟩ := dv
              dsimp only at hg CD hrs
              have b22 : b.length < 2 ^ 22 := Nat.lt_trans hbl (by decide)
              have lr : (rl w rs').length = rs'.length := List.length_map ..
              have lt : (rl w tm).length = tm.length := List.length_map ..
              refine len_ok (l62 lb b22) ?_
              dsimp only [zaa, zab, zac, zad, zae, zaf, zag, zah, zai, zaj, zak, zal, zam, zan, zao, zap, zaq, zar, zas, zat, zau, zav, zaw, zax, zay, zaz, zba, zbb, zbc, zbd, zbe, zbf, zbg, zbh, zbi, zbk, zbl, zbm, zbn, zbo, zbp, zbq, zbr, zbs, zbt, zbu, zbv, zbw, zbx, zby, zbz, zca, zcb, zcc, zcd, zce, zcf, zcg, zch, zci, zcl, zcm, zcn, zco, zcp, zcq, zcr, zcs, zct, zcu, zcv, zcw, zcx, zcy, zcz, zda, zdb, zdc, zdd, zde, zdf, zdg, zdh, zdi, zdj, zdk, zdl, zdm, zdn, zdo, zdp, zdq, zdr, zds, zdt, zdu, zdv, zdw, zdx, zdy, zdz, zea, zeb, zec, zed, zee, zef, zeg, zeh, zei, zej, zek, zel, zem, zen, zeo, zep, zeq, zer, zes, zet, zeu, zev, zew, zex, zey, zez, zfa, zfb, zfc, zfd, zfe, zff, zfg, zfh, zfi, zfj, zfk, zfl, zfm, zfn, zfo, zfp, zfq, zfr, zfs, zft, zfu, zfv, zfw, zfx, zfy, zfz, zga, zgb, zgc, zgd, zge, zgf, zgg, zgh, zgi, zgj, zgk, zgl, zgm, zgn, zgo, zgp, zgq, zgr, zgs, zgt, zgu, zgv, zgw, zgx, zgy, zgz, zha, zhb, zhc, zhd, zhe, zhf, zhg, zhh, zhi, zhx, zhy, zhz, zia, zhj, zhk, zhl, zhm, zhn, zho, zhp, zhq, zhr, zhs, zht, zhu, zhv, zhw]
              refine ⟨fun _ => ?_, fun h => absurd (by rw [lb]; exact Int.ofNat_lt.mpr hb) (decF h)⟩
              refine ixm (j := 2) (n := pre.length) (by decide) (by decide) lc g0 ?_
              dsimp only [zaa, zab, zac, zad, zae, zaf, zag, zah, zai, zaj, zak, zal, zam, zan, zao, zap, zaq, zar, zas, zat, zau, zav, zaw, zax, zay, zaz, zba, zbb, zbc, zbd, zbe, zbf, zbg, zbh, zbi, zbk, zbl, zbm, zbn, zbo, zbp, zbq, zbr, zbs, zbt, zbu, zbv, zbw, zbx, zby, zbz, zca, zcb, zcc, zcd, zce, zcf, zcg, zch, zci, zcl, zcm, zcn, zco, zcp, zcq, zcr, zcs, zct, zcu, zcv, zcw, zcx, zcy, zcz, zda, zdb, zdc, zdd, zde, zdf, zdg, zdh, zdi, zdj, zdk, zdl, zdm, zdn, zdo, zdp, zdq, zdr, zds, zdt, zdu, zdv, zdw, zdx, zdy, zdz, zea, zeb, zec, zed, zee, zef, zeg, zeh, zei, zej, zek, zel, zem, zen, zeo, zep, zeq, zer, zes, zet, zeu, zev, zew, zex, zey, zez, zfa, zfb, zfc, zfd, zfe, zff, zfg, zfh, zfi, zfj, zfk, zfl, zfm, zfn, zfo, zfp, zfq, zfr, zfs, zft, zfu, zfv, zfw, zfx, zfy, zfz, zga, zgb, zgc, zgd, zge, zgf, zgg, zgh, zgi, zgj, zgk, zgl, zgm, zgn, zgo, zgp, zgq, zgr, zgs, zgt, zgu, zgv, zgw, zgx, zgy, zgz, zha, zhb, zhc, zhd, zhe, zhf, zhg, zhh, zhi, zhx, zhy, zhz, zia, zhj, zhk, zhl, zhm, zhn, zho, zhp, zhq, zhr, zhs, zht, zhu, zhv, zhw]
              refine ixm (j := 1) (n := pre.length + 1) (by decide) (by decide) lc g1 ?_
              dsimp only [zaa, zab, zac, zad, zae, zaf, zag, zah, zai, zaj, zak, zal, zam, zan, zao, zap, zaq, zar, zas, zat, zau, zav, zaw, zax, zay, zaz, zba, zbb, zbc, zbd, zbe, zbf, zbg, zbh, zbi, zbk, zbl, zbm, zbn, zbo, zbp, zbq, zbr, zbs, zbt, zbu, zbv, zbw, zbx, zby, zbz, zca, zcb, zcc, zcd, zce, zcf, zcg, zch, zci, zcl, zcm, zcn, zco, zcp, zcq, zcr, zcs, zct, zcu, zcv, zcw, zcx, zcy, zcz, zda, zdb, zdc, zdd, zde, zdf, zdg, zdh, zdi, zdj, zdk, zdl, zdm, zdn, zdo, zdp, zdq, zdr, zds, zdt, zdu, zdv, zdw, zdx, zdy, zdz, zea, zeb, zec, zed, zee, zef, zeg, zeh, zei, zej, zek, zel, zem, zen, zeo, zep, zeq, zer, zes, zet, zeu, zev, zew, zex, zey, zez, zfa, zfb, zfc, zfd, zfe, zff, zfg, zfh, zfi, zfj, zfk, zfl, zfm, zfn, zfo, zfp, zfq, zfr, zfs, zft, zfu, zfv, zfw, zfx, zfy, zfz, zga, zgb, zgc, zgd, zge, zgf, zgg, zgh, zgi, zgj, zgk, zgl, zgm, zgn, zgo, zgp, zgq, zgr, zgs, zgt, zgu, zgv, zgw, zgx, zgy, zgz, zha, zhb, zhc, zhd, zhe, zhf, zhg, zhh, zhi, zhx, zhy, zhz, zia, zhj, zhk, zhl, zhm, zhn, zho, zhp, zhq, zhr, zhs, zht, zhu, zhv, zhw]
              refine ⟨vn, _, CD, _, rfl, ?_⟩
              dsimp only [zaa, zab, zac, zad, zae, zaf, zag, zah, zai, zaj, zak, zal, zam, zan, zao, zap, zaq, zar, zas, zat, zau, zav, zaw, zax, zay, zaz, zba, zbb, zbc, zbd, zbe, zbf, zbg, zbh, zbi, zbk, zbl, zbm, zbn, zbo, zbp, zbq, zbr, zbs, zbt, zbu, zbv, zbw, zbx, zby, zbz, zca, zcb, zcc, zcd, zce, zcf, zcg, zch, zci, zcl, zcm, zcn, zco, zcp, zcq, zcr, zcs, zct, zcu, zcv, zcw, zcx, zcy, zcz, zda, zdb, zdc, zdd, zde, zdf, zdg, zdh, zdi, zdj, zdk, zdl, zdm, zdn, zdo, zdp, zdq, zdr, zds, zdt, zdu, zdv, zdw, zdx, zdy, zdz, zea, zeb, zec, zed, zee, zef, zeg, zeh, zei, zej, zek, zel, zem, zen, zeo, zep, zeq, zer, zes, zet, zeu, zev, zew, zex, zey, zez, zfa, zfb, zfc, zfd, zfe, zff, zfg, zfh, zfi, zfj, zfk, zfl, zfm, zfn, zfo, zfp, zfq, zfr, zfs, zft, zfu, zfv, zfw, zfx, zfy, zfz, zga, zgb, zgc, zgd, zge, zgf, zgg, zgh, zgi, zgj, zgk, zgl, zgm, zgn, zgo, zgp, zgq, zgr, zgs, zgt, zgu, zgv, zgw, zgx, zgy, zgz, zha, zhb, zhc, zhd, zhe, zhf, zhg, zhh, zhi, zhx, zhy, zhz, zia, zhj, zhk, zhl, zhm, zhn, zho, zhp, zhq, zhr, zhs, zht, zhu, zhv, zhw]
              rw [lr]
              refine ⟨sz0, rfl, fun h => ?_, fun h => ?_⟩
              · rw [if_pos (decT h)] at hg
                cases hg
                exact k7 _ _
              · rw [if_neg (decF h)] at hg
                have hnr : ¬ b.length ≤ rs'.length := fun e => by rw [if_pos e] at hg; exact nomatch hg
                rw [if_neg hnr] at hg
                have htm : tm.length + b.length = a.length + 1 := by
                  by_cases e : tm.length + b.length = a.length + 1
                  · exact e
                  · rw [if_neg e] at hg; exact nomatch hg
                rw [if_pos htm, List.append_assoc] at hg
                have r22 : rs'.length < 2 ^ 22 := Nat.lt_trans (Nat.not_le.mp hnr) b22
                have eN : rl w (rs'.map rneg) = rs'.map fun x => dR w (rneg x) := by unfold rl; rw [List.map_map]; rfl
                have g2 := cl_at w (pre ++ [a]) b [rs'.map rneg]
                rw [List.append_assoc, List.length_append] at g2
                have g3 := cl_at w pre a [b, rs'.map rneg]
                have lc3 : (cl w (pre ++ [a, b, rs'.map rneg])).length = pre.length + 3 := by rw [List.length_map, List.length_append]; rfl
                have eC : cl w (pre ++ [a, b]) ++ [D.list (rs'.map fun x => dR w (rneg x))] = cl w (pre ++ [a, b, rs'.map rneg]) := by
                  rw [← eN]; unfold cl; rw [← List.map_singleton (f := fun xs => D.list (rl w xs)), ← List.map_append, List.append_assoc]; rfl
                refine ⟨⟨rfl, sz_le r22⟩, ?_⟩
                refine comp_all (r := fun x => dR w (rneg x)) ?_ ?_ ?_
                · exact fun d => rfl
                · intro x hx C' hC'
                  dsimp only [zaa, zab, zac, zad, zae, zaf, zag, zah, zai, zaj, zak, zal, zam, zan, zao, zap, zaq, zar, zas, zat, zau, zav, zaw, zax, zay, zaz, zba, zbb, zbc, zbd, zbe, zbf, zbg, zbh, zbi, zbk, zbl, zbm, zbn, zbo, zbp, zbq, zbr, zbs, zbt, zbu, zbv, zbw, zbx, zby, zbz, zca, zcb, zcc, zcd, zce, zcf, zcg, zch, zci, zcl, zcm, zcn, zco, zcp, zcq, zcr, zcs, zct, zcu, zcv, zcw, zcx, zcy, zcz, zda, zdb, zdc, zdd, zde, zdf, zdg, zdh, zdi, zdj, zdk, zdl, zdm, zdn, zdo, zdp, zdq, zdr, zds, zdt, zdu, zdv, zdw, zdx, zdy, zdz, zea, zeb, zec, zed, zee, zef, zeg, zeh, zei, zej, zek, zel, zem, zen, zeo, zep, zeq, zer, zes, zet, zeu, zev, zew, zex, zey, zez, zfa, zfb, zfc, zfd, zfe, zff, zfg, zfh, zfi, zfj, zfk, zfl, zfm, zfn, zfo, zfp, zfq, zfr, zfs, zft, zfu, zfv, zfw, zfx, zfy, zfz, zga, zgb, zgc, zgd, zge, zgf, zgg, zgh, zgi, zgj, zgk, zgl, zgm, zgn, zgo, zgp, zgq, zgr, zgs, zgt, zgu, zgv, zgw, zgx, zgy, zgz, zha, zhb, zhc, zhd, zhe, zhf, zhg, zhh, zhi, zhx, zhy, zhz, zia, zhj, zhk, zhl, zhm, zhn, zho, zhp, zhq, zhr, zhs, zht, zhu, zhv, zhw]
                  exact ⟨vn, _, r_neg_ok (k := k + 5) hW hw (Nat.lt_trans (hrs x hx).1 (by decide)), hC'⟩
                dsimp only [zaa, zab, zac, zad, zae, zaf, zag, zah, zai, zaj, zak, zal, zam, zan, zao, zap, zaq, zar, zas, zat, zau, zav, zaw, zax, zay, zaz, zba, zbb, zbc, zbd, zbe, zbf, zbg, zbh, zbi, zbk, zbl, zbm, zbn, zbo, zbp, zbq, zbr, zbs, zbt, zbu, zbv, zbw, zbx, zby, zbz, zca, zcb, zcc, zcd, zce, zcf, zcg, zch, zci, zcl, zcm, zcn, zco, zcp, zcq, zcr, zcs, zct, zcu, zcv, zcw, zcx, zcy, zcz, zda, zdb, zdc, zdd, zde, zdf, zdg, zdh, zdi, zdj, zdk, zdl, zdm, zdn, zdo, zdp, zdq, zdr, zds, zdt, zdu, zdv, zdw, zdx, zdy, zdz, zea, zeb, zec, zed, zee, zef, zeg, zeh, zei, zej, zek, zel, zem, zen, zeo, zep, zeq, zer, zes, zet, zeu, zev, zew, zex, zey, zez, zfa, zfb, zfc, zfd, zfe, zff, zfg, zfh, zfi, zfj, zfk, zfl, zfm, zfn, zfo, zfp, zfq, zfr, zfs, zft, zfu, zfv, zfw, zfx, zfy, zfz, zga, zgb, zgc, zgd, zge, zgf, zgg, zgh, zgi, zgj, zgk, zgl, zgm, zgn, zgo, zgp, zgq, zgr, zgs, zgt, zgu, zgv, zgw, zgx, zgy, zgz, zha, zhb, zhc, zhd, zhe, zhf, zhg, zhh, zhi, zhx, zhy, zhz, zia, zhj, zhk, zhl, zhm, zhn, zho, zhp, zhq, zhr, zhs, zht, zhu, zhv, zhw]
                rw [eC]
                refine ⟨by rw [lc]; exact sz_lt (by omega), rfl, l62 lr r22, ?_⟩
                refine ixm (j := 2) (n := pre.length + 1) (by decide) (by decide) lc3 g2 ?_
                dsimp only [zaa, zab, zac, zad, zae, zaf, zag, zah, zai, zaj, zak, zal, zam, zan, zao, zap, zaq, zar, zas, zat, zau, zav, zaw, zax, zay, zaz, zba, zbb, zbc, zbd, zbe, zbf, zbg, zbh, zbi, zbk, zbl, zbm, zbn, zbo, zbp, zbq, zbr, zbs, zbt, zbu, zbv, zbw, zbx, zby, zbz, zca, zcb, zcc, zcd, zce, zcf, zcg, zch, zci, zcl, zcm, zcn, zco, zcp, zcq, zcr, zcs, zct, zcu, zcv, zcw, zcx, zcy, zcz, zda, zdb, zdc, zdd, zde, zdf, zdg, zdh, zdi, zdj, zdk, zdl, zdm, zdn, zdo, zdp, zdq, zdr, zds, zdt, zdu, zdv, zdw, zdx, zdy, zdz, zea, zeb, zec, zed, zee, zef, zeg, zeh, zei, zej, zek, zel, zem, zen, zeo, zep, zeq, zer, zes, zet, zeu, zev, zew, zex, zey, zez, zfa, zfb, zfc, zfd, zfe, zff, zfg, zfh, zfi, zfj, zfk, zfl, zfm, zfn, zfo, zfp, zfq, zfr, zfs, zft, zfu, zfv, zfw, zfx, zfy, zfz, zga, zgb, zgc, zgd, zge, zgf, zgg, zgh, zgi, zgj, zgk, zgl, zgm, zgn, zgo, zgp, zgq, zgr, zgs, zgt, zgu, zgv, zgw, zgx, zgy, zgz, zha, zhb, zhc, zhd, zhe, zhf, zhg, zhh, zhi, zhx, zhy, zhz, zia, zhj, zhk, zhl, zhm, zhn, zho, zhp, zhq, zhr, zhs, zht, zhu, zhv, zhw]
                refine len_ok (l62 lb b22) ?_
                dsimp only [zaa, zab, zac, zad, zae, zaf, zag, zah, zai, zaj, zak, zal, zam, zan, zao, zap, zaq, zar, zas, zat, zau, zav, zaw, zax, zay, zaz, zba, zbb, zbc, zbd, zbe, zbf, zbg, zbh, zbi, zbk, zbl, zbm, zbn, zbo, zbp, zbq, zbr, zbs, zbt, zbu, zbv, zbw, zbx, zby, zbz, zca, zcb, zcc, zcd, zce, zcf, zcg, zch, zci, zcl, zcm, zcn, zco, zcp, zcq, zcr, zcs, zct, zcu, zcv, zcw, zcx, zcy, zcz, zda, zdb, zdc, zdd, zde, zdf, zdg, zdh, zdi, zdj, zdk, zdl, zdm, zdn, zdo, zdp, zdq, zdr, zds, zdt, zdu, zdv, zdw, zdx, zdy, zdz, zea, zeb, zec, zed, zee, zef, zeg, zeh, zei, zej, zek, zel, zem, zen, zeo, zep, zeq, zer, zes, zet, zeu, zev, zew, zex, zey, zez, zfa, zfb, zfc, zfd, zfe, zff, zfg, zfh, zfi, zfj, zfk, zfl, zfm, zfn, zfo, zfp, zfq, zfr, zfs, zft, zfu, zfv, zfw, zfx, zfy, zfz, zga, zgb, zgc, zgd, zge, zgf, zgg, zgh, zgi, zgj, zgk, zgl, zgm, zgn, zgo, zgp, zgq, zgr, zgs, zgt, zgu, zgv, zgw, zgx, zgy, zgz, zha, zhb, zhc, zhd, zhe, zhf, zhg, zhh, zhi, zhx, zhy, zhz, zia, zhj, zhk, zhl, zhm, zhn, zho, zhp, zhq, zhr, zhs, zht, zhu, zhv, zhw]
                rw [lr, lb]
                refine ⟨fun h => absurd (Int.ofNat_le.mp (decT h)) hnr, fun h => ⟨rfl, l62 lt ?_, ?_⟩⟩
                · omega
                refine ixm (j := 3) (n := pre.length) (by decide) (by decide) lc3 g3 ?_
                dsimp only [zaa, zab, zac, zad, zae, zaf, zag, zah, zai, zaj, zak, zal, zam, zan, zao, zap, zaq, zar, zas, zat, zau, zav, zaw, zax, zay, zaz, zba, zbb, zbc, zbd, zbe, zbf, zbg, zbh, zbi, zbk, zbl, zbm, zbn, zbo, zbp, zbq, zbr, zbs, zbt, zbu, zbv, zbw, zbx, zby, zbz, zca, zcb, zcc, zcd, zce, zcf, zcg, zch, zci, zcl, zcm, zcn, zco, zcp, zcq, zcr, zcs, zct, zcu, zcv, zcw, zcx, zcy, zcz, zda, zdb, zdc, zdd, zde, zdf, zdg, zdh, zdi, zdj, zdk, zdl, zdm, zdn, zdo, zdp, zdq, zdr, zds, zdt, zdu, zdv, zdw, zdx, zdy, zdz, zea, zeb, zec, zed, zee, zef, zeg, zeh, zei, zej, zek, zel, zem, zen, zeo, zep, zeq, zer, zes, zet, zeu, zev, zew, zex, zey, zez, zfa, zfb, zfc, zfd, zfe, zff, zfg, zfh, zfi, zfj, zfk, zfl, zfm, zfn, zfo, zfp, zfq, zfr, zfs, zft, zfu, zfv, zfw, zfx, zfy, zfz, zga, zgb, zgc, zgd, zge, zgf, zgg, zgh, zgi, zgj, zgk, zgl, zgm, zgn, zgo, zgp, zgq, zgr, zgs, zgt, zgu, zgv, zgw, zgx, zgy, zgz, zha, zhb, zhc, zhd, zhe, zhf, zhg, zhh, zhi, zhx, zhy, zhz, zia, zhj, zhk, zhl, zhm, zhn, zho, zhp, zhq, zhr, zhs, zht, zhu, zhv, zhw]
                refine len_ok (l62 (n := a.length) (List.length_map ..) (Nat.lt_trans hal (by decide))) ?_
                dsimp only [zaa, zab, zac, zad, zae, zaf, zag, zah, zai, zaj, zak, zal, zam, zan, zao, zap, zaq, zar, zas, zat, zau, zav, zaw, zax, zay, zaz, zba, zbb, zbc, zbd, zbe, zbf, zbg, zbh, zbi, zbk, zbl, zbm, zbn, zbo, zbp, zbq, zbr, zbs, zbt, zbu, zbv, zbw, zbx, zby, zbz, zca, zcb, zcc, zcd, zce, zcf, zcg, zch, zci, zcl, zcm, zcn, zco, zcp, zcq, zcr, zcs, zct, zcu, zcv, zcw, zcx, zcy, zcz, zda, zdb, zdc, zdd, zde, zdf, zdg, zdh, zdi, zdj, zdk, zdl, zdm, zdn, zdo, zdp, zdq, zdr, zds, zdt, zdu, zdv, zdw, zdx, zdy, zdz, zea, zeb, zec, zed, zee, zef, zeg, zeh, zei, zej, zek, zel, zem, zen, zeo, zep, zeq, zer, zes, zet, zeu, zev, zew, zex, zey, zez, zfa, zfb, zfc, zfd, zfe, zff, zfg, zfh, zfi, zfj, zfk, zfl, zfm, zfn, zfo, zfp, zfq, zfr, zfs, zft, zfu, zfv, zfw, zfx, zfy, zfz, zga, zgb, zgc, zgd, zge, zgf, zgg, zgh, zgi, zgj, zgk, zgl, zgm, zgn, zgo, zgp, zgq, zgr, zgs, zgt, zgu, zgv, zgw, zgx, zgy, zgz, zha, zhb, zhc, zhd, zhe, zhf, zhg, zhh, zhi, zhx, zhy, zhz, zia, zhj, zhk, zhl, zhm, zhn, zho, zhp, zhq, zhr, zhs, zht, zhu, zhv, zhw]
                refine ixm (j := 2) (n := pre.length + 1) (by decide) (by decide) lc3 g2 ?_
                dsimp only [zaa, zab, zac, zad, zae, zaf, zag, zah, zai, zaj, zak, zal, zam, zan, zao, zap, zaq, zar, zas, zat, zau, zav, zaw, zax, zay, zaz, zba, zbb, zbc, zbd, zbe, zbf, zbg, zbh, zbi, zbk, zbl, zbm, zbn, zbo, zbp, zbq, zbr, zbs, zbt, zbu, zbv, zbw, zbx, zby, zbz, zca, zcb, zcc, zcd, zce, zcf, zcg, zch, zci, zcl, zcm, zcn, zco, zcp, zcq, zcr, zcs, zct, zcu, zcv, zcw, zcx, zcy, zcz, zda, zdb, zdc, zdd, zde, zdf, zdg, zdh, zdi, zdj, zdk, zdl, zdm, zdn, zdo, zdp, zdq, zdr, zds, zdt, zdu, zdv, zdw, zdx, zdy, zdz, zea, zeb, zec, zed, zee, zef, zeg, zeh, zei, zej, zek, zel, zem, zen, zeo, zep, zeq, zer, zes, zet, zeu, zev, zew, zex, zey, zez, zfa, zfb, zfc, zfd, zfe, zff, zfg, zfh, zfi, zfj, zfk, zfl, zfm, zfn, zfo, zfp, zfq, zfr, zfs, zft, zfu, zfv, zfw, zfx, zfy, zfz, zga, zgb, zgc, zgd, zge, zgf, zgg, zgh, zgi, zgj, zgk, zgl, zgm, zgn, zgo, zgp, zgq, zgr, zgs, zgt, zgu, zgv, zgw, zgx, zgy, zgz, zha, zhb, zhc, zhd, zhe, zhf, zhg, zhh, zhi, zhx, zhy, zhz, zia, zhj, zhk, zhl, zhm, zhn, zho, zhp, zhq, zhr, zhs, zht, zhu, zhv, zhw]
                refine len_ok (l62 lb b22) ?_
                dsimp only [zaa, zab, zac, zad, zae, zaf, zag, zah, zai, zaj, zak, zal, zam, zan, zao, zap, zaq, zar, zas, zat, zau, zav, zaw, zax, zay, zaz, zba, zbb, zbc, zbd, zbe, zbf, zbg, zbh, zbi, zbk, zbl, zbm, zbn, zbo, zbp, zbq, zbr, zbs, zbt, zbu, zbv, zbw, zbx, zby, zbz, zca, zcb, zcc, zcd, zce, zcf, zcg, zch, zci, zcl, zcm, zcn, zco, zcp, zcq, zcr, zcs, zct, zcu, zcv, zcw, zcx, zcy, zcz, zda, zdb, zdc, zdd, zde, zdf, zdg, zdh, zdi, zdj, zdk, zdl, zdm, zdn, zdo, zdp, zdq, zdr, zds, zdt, zdu, zdv, zdw, zdx, zdy, zdz, zea, zeb, zec, zed, zee, zef, zeg, zeh, zei, zej, zek, zel, zem, zen, zeo, zep, zeq, zer, zes, zet, zeu, zev, zew, zex, zey, zez, zfa, zfb, zfc, zfd, zfe, zff, zfg, zfh, zfi, zfj, zfk, zfl, zfm, zfn, zfo, zfp, zfq, zfr, zfs, zft, zfu, zfv, zfw, zfx, zfy, zfz, zga, zgb, zgc, zgd, zge, zgf, zgg, zgh, zgi, zgj, zgk, zgl, zgm, zgn, zgo, zgp, zgq, zgr, zgs, zgt, zgu, zgv, zgw, zgx, zgy, zgz, zha, zhb, zhc, zhd, zhe, zhf, zhg, zhh, zhi, zhx, zhy, zhz, zia, zhj, zhk, zhl, zhm, zhn, zho, zhp, zhq, zhr, zhs, zht, zhu, zhv, zhw]
                rw [lt, lb, List.length_map]
                refine ⟨fun h => absurd (show (tm.length : Int) = (a.length : Int) - (b.length : Int) + ((1 : Nat) : Int) by omega) (not1 h), fun _ => ?_⟩
                have g4 : cl w (pre ++ [a, b, rs'.map rneg]) = cl w ((pre ++ [a]) ++ [b, rs'.map rneg]) := by rw [List.append_assoc]; rfl
                rw [g4]
                exact hC n _ (Nat.lt_succ_self _) ⟨pre ++ [a], b, rs'.map rneg, _, _, rfl, by rw [List.append_assoc]; exact hg, by rw [List.length_append]; show pre.length + 1 + n ≤ 5; omega⟩
            · rw [if_neg hok] at hg; exact nomatch hg
          · rw [if_neg hb] at hg
            cases hg
            refine len_ok (l62 lb (by omega)) ?_
            dsimp only [zaa, zab, zac, zad, zae, zaf, zag, zah, zai, zaj, zak, zal, zam, zan, zao, zap, zaq, zar, zas, zat, zau, zav, zaw, zax, zay, zaz, zba, zbb, zbc, zbd, zbe, zbf, zbg, zbh, zbi, zbk, zbl, zbm, zbn, zbo, zbp, zbq, zbr, zbs, zbt, zbu, zbv, zbw, zbx, zby, zbz, zca, zcb, zcc, zcd, zce, zcf, zcg, zch, zci, zcl, zcm, zcn, zco, zcp, zcq, zcr, zcs, zct, zcu, zcv, zcw, zcx, zcy, zcz, zda, zdb, zdc, zdd, zde, zdf, zdg, zdh, zdi, zdj, zdk, zdl, zdm, zdn, zdo, zdp, zdq, zdr, zds, zdt, zdu, zdv, zdw, zdx, zdy, zdz, zea, zeb, zec, zed, zee, zef, zeg, zeh, zei, zej, zek, zel, zem, zen, zeo, zep, zeq, zer, zes, zet, zeu, zev, zew, zex, zey, zez, zfa, zfb, zfc, zfd, zfe, zff, zfg, zfh, zfi, zfj, zfk, zfl, zfm, zfn, zfo, zfp, zfq, zfr, zfs, zft, zfu, zfv, zfw, zfx, zfy, zfz, zga, zgb, zgc, zgd, zge, zgf, zgg, zgh, zgi, zgj, zgk, zgl, zgm, zgn, zgo, zgp, zgq, zgr, zgs, zgt, zgu, zgv, zgw, zgx, zgy, zgz, zha, zhb, zhc, zhd, zhe, zhf, zhg, zhh, zhi, zhx, zhy, zhz, zia, zhj, zhk, zhl, zhm, zhn, zho, zhp, zhq, zhr, zhs, zht, zhu, zhv, zhw]
            exact ⟨fun h => absurd (by rw [lb] at h; exact Int.ofNat_lt.mp (decT h)) hb, fun _ => k7 _ _⟩
      subst hS
      rcases hsp with rfl | rfl
      · exact k5
      · exact k5
    dsimp only [zaa, zab, zac, zad, zae, zaf, zag, zah, zai, zaj, zak, zal, zam, zan, zao, zap, zaq, zar, zas, zat, zau, zav, zaw, zax, zay, zaz, zba, zbb, zbc, zbd, zbe, zbf, zbg, zbh, zbi, zbk, zbl, zbm, zbn, zbo, zbp, zbq, zbr, zbs, zbt, zbu, zbv, zbw, zbx, zby, zbz, zca, zcb, zcc, zcd, zce, zcf, zcg, zch, zci, zcl, zcm, zcn, zco, zcp, zcq, zcr, zcs, zct, zcu, zcv, zcw, zcx, zcy, zcz, zda, zdb, zdc, zdd, zde, zdf, zdg, zdh, zdi, zdj, zdk, zdl, zdm, zdn, zdo, zdp, zdq, zdr, zds, zdt, zdu, zdv, zdw, zdx, zdy, zdz, zea, zeb, zec, zed, zee, zef, zeg, zeh, zei, zej, zek, zel, zem, zen, zeo, zep, zeq, zer, zes, zet, zeu, zev, zew, zex, zey, zez, zfa, zfb, zfc, zfd, zfe, zff, zfg, zfh, zfi, zfj, zfk, zfl, zfm, zfn, zfo, zfp, zfq, zfr, zfs, zft, zfu, zfv, zfw, zfx, zfy, zfz, zga, zgb, zgc, zgd, zge, zgf, zgg, zgh, zgi, zgj, zgk, zgl, zgm, zgn, zgo, zgp, zgq, zgr, zgs, zgt, zgu, zgv, zgw, zgx, zgy, zgz, zha, zhb, zhc, zhd, zhe, zhf, zhg, zhh, zhi, zhx, zhy, zhz, zia, zhj, zhk, zhl, zhm, zhn, zho, zhp, zhq, zhr, zhs, zht, zhu, zhv, zhw]
    have hchk : chk rs (poly rs) = true := by
      rcases hm with rfl | rfl
      · obtain ⟨a, b, rfl⟩ := ll2 h1
        exact chk2 (h4 a (.head _)) (h4 b (.tail _ (.head _)))
      · obtain ⟨a, b, c, rfl⟩ := ll3 h1
        exact chk3 (h4 a (.head _)) (h4 b (.tail _ (.head _))) (h4 c (.tail _ (.tail _ (.head _))))
    have hi4 : 2 + many + 1 < 900 := by omega
    refine ⟨fun h => ⟨_, _, FA (2 + many) 4 (by omega) (by decide), ?_⟩, fun h => ⟨(fun h => nomatch h), fun _ => key4 rs (poly rs) (2 + many) _ _ (by omega) (.inl rfl) (.inl rfl) hchk⟩⟩
    have h2 : many = 2 := Int.ofNat.inj (decT h)
    obtain ⟨a, b, rfl⟩ := ll2 (h1.trans h2)
    dsimp only [zaa, zab, zac, zad, zae, zaf, zag, zah, zai, zaj, zak, zal, zam, zan, zao, zap, zaq, zar, zas, zat, zau, zav, zaw, zax, zay, zaz, zba, zbb, zbc, zbd, zbe, zbf, zbg, zbh, zbi, zbk, zbl, zbm, zbn, zbo, zbp, zbq, zbr, zbs, zbt, zbu, zbv, zbw, zbx, zby, zbz, zca, zcb, zcc, zcd, zce, zcf, zcg, zch, zci, zcl, zcm, zcn, zco, zcp, zcq, zcr, zcs, zct, zcu, zcv, zcw, zcx, zcy, zcz, zda, zdb, zdc, zdd, zde, zdf, zdg, zdh, zdi, zdj, zdk, zdl, zdm, zdn, zdo, zdp, zdq, zdr, zds, zdt, zdu, zdv, zdw, zdx, zdy, zdz, zea, zeb, zec, zed, zee, zef, zeg, zeh, zei, zej, zek, zel, zem, zen, zeo, zep, zeq, zer, zes, zet, zeu, zev, zew, zex, zey, zez, zfa, zfb, zfc, zfd, zfe, zff, zfg, zfh, zfi, zfj, zfk, zfl, zfm, zfn, zfo, zfp, zfq, zfr, zfs, zft, zfu, zfv, zfw, zfx, zfy, zfz, zga, zgb, zgc, zgd, zge, zgf, zgg, zgh, zgi, zgj, zgk, zgl, zgm, zgn, zgo, zgp, zgq, zgr, zgs, zgt, zgu, zgv, zgw, zgx, zgy, zgz, zha, zhb, zhc, zhd, zhe, zhf, zhg, zhh, zhi, zhx, zhy, zhz, zia, zhj, zhk, zhl, zhm, zhn, zho, zhp, zhq, zhr, zhs, zht, zhu, zhv, zhw]
    refine ⟨fun h => ?_, fun h => key4 [a, b] (poly [a, b]) (2 + many + 1) _ _ hi4 (.inl rfl) (.inl rfl) hchk⟩
    have hp := plain1 (h4 a (.head _)) (h4 b (.tail _ (.head _)))
    have hS := chkS (h4 a (.head _)) (h4 b (.tail _ (.head _))) rfl
    have hpg : (il (poly [a, b]))[1]? = some (.int ((poly [a, b]).getD 1 0)) := il_get (show 1 < 3 by decide)
    generalize (poly [a, b]).getD 1 0 = p at *
    generalize il (poly [a, b]) = dp at *
    refine ⟨sz0, ixn (i := 1) (n := 2) (by decide) (by decide) hpg ?_⟩
    dsimp only [zaa, zab, zac, zad, zae, zaf, zag, zah, zai, zaj, zak, zal, zam, zan, zao, zap, zaq, zar, zas, zat, zau, zav, zaw, zax, zay, zaz, zba, zbb, zbc, zbd, zbe, zbf, zbg, zbh, zbi, zbk, zbl, zbm, zbn, zbo, zbp, zbq, zbr, zbs, zbt, zbu, zbv, zbw, zbx, zby, zbz, zca, zcb, zcc, zcd, zce, zcf, zcg, zch, zci, zcl, zcm, zcn, zco, zcp, zcq, zcr, zcs, zct, zcu, zcv, zcw, zcx, zcy, zcz, zda, zdb, zdc, zdd, zde, zdf, zdg, zdh, zdi, zdj, zdk, zdl, zdm, zdn, zdo, zdp, zdq, zdr, zds, zdt, zdu, zdv, zdw, zdx, zdy, zdz, zea, zeb, zec, zed, zee, zef, zeg, zeh, zei, zej, zek, zel, zem, zen, zeo, zep, zeq, zer, zes, zet, zeu, zev, zew, zex, zey, zez, zfa, zfb, zfc, zfd, zfe, zff, zfg, zfh, zfi, zfj, zfk, zfl, zfm, zfn, zfo, zfp, zfq, zfr, zfs, zft, zfu, zfv, zfw, zfx, zfy, zfz, zga, zgb, zgc, zgd, zge, zgf, zgg, zgh, zgi, zgj, zgk, zgl, zgm, zgn, zgo, zgp, zgq, zgr, zgs, zgt, zgu, zgv, zgw, zgx, zgy, zgz, zha, zhb, zhc, zhd, zhe, zhf, zhg, zhh, zhi, zhx, zhy, zhz, zia, zhj, zhk, zhl, zhm, zhn, zho, zhp, zhq, zhr, zhs, zht, zhu, zhv, zhw]
    refine ixn (i := 1) (n := 2) (by decide) (by decide) hpg ?_
    dsimp only [zaa, zab, zac, zad, zae, zaf, zag, zah, zai, zaj, zak, zal, zam, zan, zao, zap, zaq, zar, zas, zat, zau, zav, zaw, zax, zay, zaz, zba, zbb, zbc, zbd, zbe, zbf, zbg, zbh, zbi, zbk, zbl, zbm, zbn, zbo, zbp, zbq, zbr, zbs, zbt, zbu, zbv, zbw, zbx, zby, zbz, zca, zcb, zcc, zcd, zce, zcf, zcg, zch, zci, zcl, zcm, zcn, zco, zcp, zcq, zcr, zcs, zct, zcu, zcv, zcw, zcx, zcy, zcz, zda, zdb, zdc, zdd, zde, zdf, zdg, zdh, zdi, zdj, zdk, zdl, zdm, zdn, zdo, zdp, zdq, zdr, zds, zdt, zdu, zdv, zdw, zdx, zdy, zdz, zea, zeb, zec, zed, zee, zef, zeg, zeh, zei, zej, zek, zel, zem, zen, zeo, zep, zeq, zer, zes, zet, zeu, zev, zew, zex, zey, zez, zfa, zfb, zfc, zfd, zfe, zff, zfg, zfh, zfi, zfj, zfk, zfl, zfm, zfn, zfo, zfp, zfq, zfr, zfs, zft, zfu, zfv, zfw, zfx, zfy, zfz, zga, zgb, zgc, zgd, zge, zgf, zgg, zgh, zgi, zgj, zgk, zgl, zgm, zgn, zgo, zgp, zgq, zgr, zgs, zgt, zgu, zgv, zgw, zgx, zgy, zgz, zha, zhb, zhc, zhd, zhe, zhf, zhg, zhh, zhi, zhx, zhy, zhz, zia, zhj, zhk, zhl, zhm, zhn, zho, zhp, zhq, zhr, zhs, zht, zhu, zhv, zhw]
    refine ixn (i := 1) (n := 2) (by decide) (by decide) hpg ?_
    dsimp only [zaa, zab, zac, zad, zae, zaf, zag, zah, zai, zaj, zak, zal, zam, zan, zao, zap, zaq, zar, zas, zat, zau, zav, zaw, zax, zay, zaz, zba, zbb, zbc, zbd, zbe, zbf, zbg, zbh, zbi, zbk, zbl, zbm, zbn, zbo, zbp, zbq, zbr, zbs, zbt, zbu, zbv, zbw, zbx, zby, zbz, zca, zcb, zcc, zcd, zce, zcf, zcg, zch, zci, zcl, zcm, zcn, zco, zcp, zcq, zcr, zcs, zct, zcu, zcv, zcw, zcx, zcy, zcz, zda, zdb, zdc, zdd, zde, zdf, zdg, zdh, zdi, zdj, zdk, zdl, zdm, zdn, zdo, zdp, zdq, zdr, zds, zdt, zdu, zdv, zdw, zdx, zdy, zdz, zea, zeb, zec, zed, zee, zef, zeg, zeh, zei, zej, zek, zel, zem, zen, zeo, zep, zeq, zer, zes, zet, zeu, zev, zew, zex, zey, zez, zfa, zfb, zfc, zfd, zfe, zff, zfg, zfh, zfi, zfj, zfk, zfl, zfm, zfn, zfo, zfp, zfq, zfr, zfs, zft, zfu, zfv, zfw, zfx, zfy, zfz, zga, zgb, zgc, zgd, zge, zgf, zgg, zgh, zgi, zgj, zgk, zgl, zgm, zgn, zgo, zgp, zgq, zgr, zgs, zgt, zgu, zgv, zgw, zgx, zgy, zgz, zha, zhb, zhc, zhd, zhe, zhf, zhg, zhh, zhi, zhx, zhy, zhz, zia, zhj, zhk, zhl, zhm, zhn, zho, zhp, zhq, zhr, zhs, zht, zhu, zhv, zhw]
    exact ⟨hp, sz3, sz2, _, rfl, key4 [] [1, 0 - p, p * p + 1] (2 + many + 1) _ _ hi4 (.inr rfl) (.inr rfl) hS⟩
  dsimp only [zaa, zab, zac, zad, zae, zaf, zag, zah, zai, zaj, zak, zal, zam, zan, zao, zap, zaq, zar, zas, zat, zau, zav, zaw, zax, zay, zaz, zba, zbb, zbc, zbd, zbe, zbf, zbg, zbh, zbi, zbk, zbl, zbm, zbn, zbo, zbp, zbq, zbr, zbs, zbt, zbu, zbv, zbw, zbx, zby, zbz, zca, zcb, zcc, zcd, zce, zcf, zcg, zch, zci, zcl, zcm, zcn, zco, zcp, zcq, zcr, zcs, zct, zcu, zcv, zcw, zcx, zcy, zcz, zda, zdb, zdc, zdd, zde, zdf, zdg, zdh, zdi, zdj, zdk, zdl, zdm, zdn, zdo, zdp, zdq, zdr, zds, zdt, zdu, zdv, zdw, zdx, zdy, zdz, zea, zeb, zec, zed, zee, zef, zeg, zeh, zei, zej, zek, zel, zem, zen, zeo, zep, zeq, zer, zes, zet, zeu, zev, zew, zex, zey, zez, zfa, zfb, zfc, zfd, zfe, zff, zfg, zfh, zfi, zfj, zfk, zfl, zfm, zfn, zfo, zfp, zfq, zfr, zfs, zft, zfu, zfv, zfw, zfx, zfy, zfz, zga, zgb, zgc, zgd, zge, zgf, zgg, zgh, zgi, zgj, zgk, zgl, zgm, zgn, zgo, zgp, zgq, zgr, zgs, zgt, zgu, zgv, zgw, zgx, zgy, zgz, zha, zhb, zhc, zhd, zhe, zhf, zhg, zhh, zhi, zhx, zhy, zhz, zia, zhj, zhk, zhl, zhm, zhn, zho, zhp, zhq, zhr, zhs, zht, zhu, zhv, zhw]
  rw [hsl]
  refine ⟨sz_le (lz ▸ z22), ⟨rfl, ?_⟩, ?_⟩
  · exact sz_le (by rw [List.length_map, List.length_take]; omega)
  refine comp_all (r := fun (z : Int) => D.int ((z.natAbs : Nat) : Int)) ?_ ?_ ?_
  · exact fun d => rfl
  · intro z _ C hC
    dsimp only [zaa, zab, zac, zad, zae, zaf, zag, zah, zai, zaj, zak, zal, zam, zan, zao, zap, zaq, zar, zas, zat, zau, zav, zaw, zax, zay, zaz, zba, zbb, zbc, zbd, zbe, zbf, zbg, zbh, zbi, zbk, zbl, zbm, zbn, zbo, zbp, zbq, zbr, zbs, zbt, zbu, zbv, zbw, zbx, zby, zbz, zca, zcb, zcc, zcd, zce, zcf, zcg, zch, zci, zcl, zcm, zcn, zco, zcp, zcq, zcr, zcs, zct, zcu, zcv, zcw, zcx, zcy, zcz, zda, zdb, zdc, zdd, zde, zdf, zdg, zdh, zdi, zdj, zdk, zdl, zdm, zdn, zdo, zdp, zdq, zdr, zds, zdt, zdu, zdv, zdw, zdx, zdy, zdz, zea, zeb, zec, zed, zee, zef, zeg, zeh, zei, zej, zek, zel, zem, zen, zeo, zep, zeq, zer, zes, zet, zeu, zev, zew, zex, zey, zez, zfa, zfb, zfc, zfd, zfe, zff, zfg, zfh, zfi, zfj, zfk, zfl, zfm, zfn, zfo, zfp, zfq, zfr, zfs, zft, zfu, zfv, zfw, zfx, zfy, zfz, zga, zgb, zgc, zgd, zge, zgf, zgg, zgh, zgi, zgj, zgk, zgl, zgm, zgn, zgo, zgp, zgq, zgr, zgs, zgt, zgu, zgv, zgw, zgx, zgy, zgz, zha, zhb, zhc, zhd, zhe, zhf, zhg, zhh, zhi, zhx, zhy, zhz, zia, zhj, zhk, zhl, zhm, zhn, zho, zhp, zhq, zhr, zhs, zht, zhu, zhv, zhw]
    have ez : (if z < 0 then -z else z) = (z.natAbs : Int) := by split <;> omega
    rw [ez]
    exact ⟨rfl, rfl, hC⟩
  dsimp only [zaa, zab, zac, zad, zae, zaf, zag, zah, zai, zaj, zak, zal, zam, zan, zao, zap, zaq, zar, zas, zat, zau, zav, zaw, zax, zay, zaz, zba, zbb, zbc, zbd, zbe, zbf, zbg, zbh, zbi, zbk, zbl, zbm, zbn, zbo, zbp, zbq, zbr, zbs, zbt, zbu, zbv, zbw, zbx, zby, zbz, zca, zcb, zcc, zcd, zce, zcf, zcg, zch, zci, zcl, zcm, zcn, zco, zcp, zcq, zcr, zcs, zct, zcu, zcv, zcw, zcx, zcy, zcz, zda, zdb, zdc, zdd, zde, zdf, zdg, zdh, zdi, zdj, zdk, zdl, zdm, zdn, zdo, zdp, zdq, zdr, zds, zdt, zdu, zdv, zdw, zdx, zdy, zdz, zea, zeb, zec, zed, zee, zef, zeg, zeh, zei, zej, zek, zel, zem, zen, zeo, zep, zeq, zer, zes, zet, zeu, zev, zew, zex, zey, zez, zfa, zfb, zfc, zfd, zfe, zff, zfg, zfh, zfi, zfj, zfk, zfl, zfm, zfn, zfo, zfp, zfq, zfr, zfs, zft, zfu, zfv, zfw, zfx, zfy, zfz, zga, zgb, zgc, zgd, zge, zgf, zgg, zgh, zgi, zgj, zgk, zgl, zgm, zgn, zgo, zgp, zgq, zgr, zgs, zgt, zgu, zgv, zgw, zgx, zgy, zgz, zha, zhb, zhc, zhd, zhe, zhf, zhg, zhh, zhi, zhx, zhy, zhz, zia, zhj, zhk, zhl, zhm, zhn, zho, zhp, zhq, zhr, zhs, zht, zhu, zhv, zhw]
  refine ⟨sz2, ?_⟩
  have e : ((zs.take 7).map fun (z : Int) => D.int ((z.natAbs : Nat) : Int)) = nl ks := by rw [hks]; unfold nl; rw [List.map_map]; rfl
  rw [e]
  exact key1
end Mine

set_option maxHeartbeats 8000000
namespace Mine
open PySem PySem.W PyProof.Rows PySem.Calls PySem.Spec PySem.Challenge
theorem law44 : (defAt 44).scope.kind = .function := rfl
theorem law_good {prog : Program} {w : World} {mean : ExcName → Option Value} {mg mb : Str → Option Value} {s₁ : Shared} {h₁ : Heap} {fa : Addr} {cd : Value} {tk : Nat} {l : Addr} {vs : List Value} {nn : Nat} {ns : List Int} {cells : Led}
    (T : Top vw (looseW vw []) mean mg mb s₁.heap) (hl : s₁.heap.get? l = some (lobj vs nn)) (hI : IntsAre vs ns) (hns : ns.length ≤ 63)
    (F : Fr s₁.heap s₁.heap.objs.size h₁ (PySem.bindL (envOfC (defAt 44).name (defAt 44).scope s₁.heap.objs.size fa cd).kindOf ([Str.ofString "script"].zip [.ref l]) fun _ => none)) (N : News s₁.heap s₁.heap.objs.size h₁ cells)
    (X : CellsAre (PySem.bindC (envOfC (defAt 44).name (defAt 44).scope s₁.heap.objs.size fa cd).kindOf ([Str.ofString "script"].zip [.ref l]) fun _ => none) (cellsFrom (s₁.heap.objs.size + 1) (defAt 44).scope.names []) cells) :
    wpAny (model prog w) (callerA.deeper (envOfC (defAt 44).name (defAt 44).scope s₁.heap.objs.size fa cd)) (execs (defAt 44).body (envOfC (defAt 44).name (defAt 44).scope s₁.heap.objs.size fa cd))
      (fun f s' => f = .ret (.bool true) ∧ ∃ h' tk', s' = { s₁ with heap := h', toks := tk' } ∧ ∀ b o, s₁.heap.get? b = some o → h'.get? b = some o) (fun _ _ => False) { s₁ with heap := h₁, toks := tk } := by
  have hW : Wv ⟨prog, w, vw, looseW vw [], mean, mg, mb⟩ := ⟨rfl, glo_vw T⟩
  have hne : ∀ b o, b ≠ l → s₁.heap.get? b = some o → (s₁.heap.hide l).get? b = some o := fun b o hb e => (Heap.hide_ne s₁.heap hb).trans e
  have hof : ∀ b o, (s₁.heap.hide l).get? b = some o → s₁.heap.get? b = some o := fun b o e => of_hideAll [l] e
  have hnone : (s₁.heap.hide l).get? l = none := Heap.hide_self ..
  have MT : MTop vw mg mb (s₁.heap.hide l) := (MTop.of T).keepsBut hl rfl hne
  have hlt : l < s₁.heap.objs.size := Heap.lt_size hl
  have F' : Fr (s₁.heap.hide l) s₁.heap.objs.size h₁ _ := ⟨F.ns, fun b o e => F.keep b o (hof b o e), by rw [Heap.hide_size]; exact F.above⟩
  have N' : News (s₁.heap.hide l) s₁.heap.objs.size h₁ (cells ++ ([(l, lobj vs nn)] ++ [])) := fun p hp => by
    rcases List.mem_append.mp hp with hp | hp
    · refine ⟨(N p hp).1, (N p hp).2.1, ?_⟩
      cases q : (s₁.heap.hide l).get? p.1 with
      | none => rfl
      | some o => have := hof _ _ q; rw [(N p hp).2.2] at this; cases this
    · rw [List.append_nil] at hp
      rw [List.mem_singleton.mp hp]
      exact ⟨F.keep _ _ hl, Nat.ne_of_lt hlt, hnone⟩
  have hrs : Rs ⟨prog, w, vw, looseW vw [], mean, mg, mb⟩ [(l, lobj vs nn)] [.ref l] [.list (il ns)] := .cons (.list (.head _) (Rs.ofInts hI)) .nil
  have hc : CfgOk ⟨prog, w, vw, looseW vw [], mean, mg, mb⟩ { env := envOfC (defAt 44).name (defAt 44).scope s₁.heap.objs.size fa cd, fenv := envOfC (defAt 44).name (defAt 44).scope s₁.heap.objs.size fa cd, A := callerA.deeper (envOfC (defAt 44).name (defAt 44).scope s₁.heap.objs.size fa cd), A₀ := callerA, base := s₁.heap.hide l, h₀ := s₁.heap.hide l, outer := [], L := s₁.heap.objs.size } 8 :=
    { B := below_caller _, T := MT, hh := rfl, hA := rfl, hf := rfl, hfl := rfl, hk := law44, hke := law44, hg := rfl, hb := rfl, hfr := rfl, hd := (show 1 + claimMargin + 1 + 8 < recursionLimit by decide +kernel), hu := Nat.lt_of_le_of_lt (Nat.add_le_add_right (show (callerA.deeper (envOfC (defAt 44).name (defAt 44).scope s₁.heap.objs.size fa cd)).units ≤ 4 + 8 from Nat.add_le_add_left (by decide) 4) _) (show 4 + 8 + 8 * 8 < cLine by decide +kernel) }
  obtain ⟨O, S⟩ := entryC (d := defAt 44) (as := [Str.ofString "script"]) (c := { env := envOfC (defAt 44).name (defAt 44).scope s₁.heap.objs.size fa cd, fenv := envOfC (defAt 44).name (defAt 44).scope s₁.heap.objs.size fa cd, A := callerA.deeper (envOfC (defAt 44).name (defAt 44).scope s₁.heap.objs.size fa cd), A₀ := callerA, base := s₁.heap.hide l, h₀ := s₁.heap.hide l, outer := [], L := s₁.heap.objs.size })
    hW.2 rfl rfl rfl (by decide +kernel) (by decide +kernel) (by decide +kernel) (by decide +kernel) hrs rfl F' N' X (fun p hp => by rw [List.append_nil] at hp; rw [List.mem_singleton.mp hp]; exact hlt) (fun p hp q hq => nomatch hq) List.nodup_nil
  have hFun : Fun { env := envOfC (defAt 44).name (defAt 44).scope s₁.heap.objs.size fa cd, fenv := envOfC (defAt 44).name (defAt 44).scope s₁.heap.objs.size fa cd, A := callerA.deeper (envOfC (defAt 44).name (defAt 44).scope s₁.heap.objs.size fa cd), A₀ := callerA, base := s₁.heap.hide l, h₀ := s₁.heap.hide l, outer := [], L := s₁.heap.objs.size } (initG [] (defAt 44).scope.names) := ⟨rfl, rfl, initG_nodup (by decide +kernel)⟩
  have B := ((snd_all (k := 8) hW.2 60 _ (initG [] (defAt 44).scope.names) hc fun _ => hFun).1 (.sts (defAt 44).body) hFun)
  refine wpAny_mono (B.s (law_ok (k := 0) hW hns) _ _ O [] { s₁ with heap := h₁, toks := tk } S) (fun fl s' hp => ?_) fun _ _ x => x.elim
  obtain ⟨m'', h', tk', I', O'', fl', ρ', rfl, ⟨hI', hKp⟩, S'', hfl, rfl⟩ := hp
  cases hfl with
  | ret hv =>
    cases hv
    refine ⟨rfl, h', tk', rfl, fun b o e => ?_⟩
    by_cases hb : b = l
    · subst hb
      rw [hl] at e
      cases e
      exact (S''.N _ (List.mem_append_left _ (hI' _ (.head _)))).1
    · exact S''.F.keep b o (hne b o hb e)
end Mine

open PySem PySem.W PyProof.Rows
open PySem.Challenge Mine
namespace Mine
theorem well_list {P : Params} {h : Heap} {l : Addr} {vs : List Value} {xs : List WData} (hw : Well P h (.ref l) (.list xs)) (hL : h.IsList l vs.toArray) : ∃ n, h.get? l = some (lobj vs n) := by
  cases hw with
  | list hg _ =>
    obtain ⟨o, ho, hc, n, hd⟩ := hL
    rw [hg] at ho
    cases ho
    exact ⟨n, hg.trans (congrArg (fun d : Data => some ({ cls := .type "list", data := d } : Obj)) hd)⟩
theorem post_ok (a b : List WData) : rw_xm0405_01.row.claim.post a (WData.bool true) b = true := by
  have h1 : WShape.has [] (.bool true) .bool = true := by first | rfl | decide +kernel | simp [WShape.has, WShape.arms]
  refine postC_of (r := rw_xm0405_01.row.toRowW) (X := true) h1 ?_ rfl
  show WTm.value [] (.eq .res (.lit (.bool true))) { args := a, res := some (.bool true), after := b } = some (.bool true)
  simp only [WTm.value]
  first | rfl | decide +kernel | (simp [same]; done)
end Mine
set_option maxRecDepth 100000 in
set_option maxHeartbeats 8000000 in
theorem PySem.Challenge.cw_xm0405_01_holds : PySem.Challenge.rw_xm0405_01.Holds := by
  w_on; o_law
  refine W.holds_open (q := vw) (loose := []) (Xt := fun s => xlAt vw [] s && recOk rw_xm0405_01.row.records s) (XP := XL vw []) (Yf := Hook.obs Hook.none) (Ya := Hook.val Hook.none) (YP := Hook.says Hook.none) (N := 3842) left (Hook.of Hook.none) (Hook.keeps Hook.none) (fun s e => xl_of s (Bool.and_eq_true_iff.mp e).1) XL.keeps (by rfl) (by rfl) (by rfl) (fun s e => recFacts_of (Bool.and_eq_true_iff.mp e).2) (by rfl) (by first | assumption | decide +kernel) (by decide +kernel) ⟨rfl, rfl, rfl, rfl, rfl, by decide +kernel⟩ ?hw ?hc
  (case hw => w_witness2)
  w_strict (
    intro w s₀ s₁ mg mb G Y fa o pm cd doc dV kV ho hd hcd hD hmg hg args vals as hpre hlay hrd hwl hlo
    k_behind G ho hd hcd hD hmg hpre hlay hrd hwl hlo cd
    have T := ‹Top vw (looseW vw []) (ExcName.means s₀.heap) mg mb s₁.heap›
    have F := ‹Fr s₁.heap s₁.heap.objs.size _ _›
    have N := ‹News s₁.heap s₁.heap.objs.size _ _›
    have X := ‹CellsAre _ _ _›
    have hL := ‹s₁.heap.IsList _ _›
    have hI := ‹IntsAre _ _›
    have wl := ‹Well _ s₁.heap (.ref _) _›
    obtain ⟨n, hl⟩ := well_list wl hL
    refine wpAny_mono (law_good T hl hI ?_ F N X) (fun f s' h => ?_) (fun _ _ h => h.elim)
    · omega
    · obtain ⟨rfl, h', tk', rfl, hk⟩ := h
      exact ⟨.inl ⟨.bool true, .bool true, [], rfl, fun _ => rfl, .bool _, post_ok _ _, fun _ => ⟨List.nodup_nil, fun _ h => nomatch h⟩⟩, hk, rfl, hg⟩)
