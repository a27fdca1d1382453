import PyProof.Rows.All
import Wide.All
import OpenK.AllK
import Wide.FinOn
import PySem.Challenge.RW_pf0125_01
open PySem PySem.W PyProof.Rows
set_option Elab.async false
set_option linter.all false
section
set_option maxRecDepth 100000
namespace Mine
/-! W1 -/
section
open PySem PySem.W PyProof.Rows PySem.Calls PySem.Spec

/-- a goal, boxed: what is taken apart while it is boxed does not copy it -/
theorem box {P : Prop} (h : ∀ G : Prop, (P → G) → G) : P := h P id
/-- abstract values -/
inductive AV where
  | data (d : PyData)
  | ref (a : Addr)
  | val (v : Value)
  | clo (fd : FuncData)

/-- abstract tracked objects -/
inductive AO where
  | list (l : List AV)
  | dictS (es : List (Str × AV))
  | dictI (es : List (Int × AV))
  | inst (C dx : Addr) (ats : List (Str × AV))
  | exc (C dx : Addr) (ats : List (Str × AV))
  | own (x : Addr)
  | cell (v : Option AV)
  | tabl (allowed : List (Pos × Str))
  | raw (o : Obj)

noncomputable abbrev AH := Addr → Option AO
noncomputable abbrev Loc := List (Str × Option AV)

noncomputable def upd (σ : AH) (a : Addr) (o : AO) : AH := fun b => if b = a then some o else σ b
theorem upd_same (σ : AH) (a : Addr) (o : AO) : upd σ a o a = some o := by simp [upd]
theorem upd_ne {σ : AH} {a b : Addr} {o : AO} (h : b ≠ a) : upd σ a o b = σ b := by simp [upd, h]
theorem upd_none {σ : AH} {a b : Addr} {o : AO} (h : upd σ a o b = none) : σ b = none ∧ b ≠ a := by
  by_cases e : b = a
  · subst e; simp [upd] at h
  · exact ⟨by simpa [upd, e] using h, e⟩

/-- an untracked sequence of a type, its items told -/
inductive SeqIs (σ : AH) (h : Heap) (T : String) (R : List Value → Prop) (v : Value) : Prop
  | mk (a : Addr) (o : Obj) (vs : Array Value) (n : Nat) (e : v = .ref a) (q : σ a = none) (g : h.get? a = some o) (c : o.cls = .type T) (d : o.data = .seq vs n) (r : R vs.toList) : SeqIs σ h T R v
mutual
noncomputable def DRel (σ : AH) (h : Heap) : PyData → Value → Prop
  | .none, v => v = .none
  | .bool b, v => v = .bool b
  | .int i, v => ∃ t, v = .int i t
  | .str s, v => ∃ t, v = .str s t
  | .list ds, v => SeqIs σ h "list" (fun vs => DRelL σ h ds vs) v
  | .tuple ds, v => SeqIs σ h "tuple" (fun vs => DRelL σ h ds vs) v
  | .dict _, _ => False
noncomputable def DRelL (σ : AH) (h : Heap) : List PyData → List Value → Prop
  | [], vs => vs = []
  | d :: ds, vs => ∃ v vs', vs = v :: vs' ∧ DRel σ h d v ∧ DRelL σ h ds vs'
end

/-- all that is not tracked stays (frames up to their slots; a traceback may turn) -/
noncomputable def Ext (L : Addr) (σ : AH) (h : Heap) (σ' : AH) (h' : Heap) : Prop :=
  ∀ b o, h.get? b = some o → σ b = none → b ≠ L →
    σ' b = none ∧ ∃ o', h'.get? b = some o' ∧ ((∀ vs, o.cls = .type "traceback" → o.data ≠ .fields vs) → ∃ sl, o' = { o with slots := sl })

theorem Ext.refl (L : Addr) (σ : AH) (h : Heap) : Ext L σ h σ h := fun _ o e q _ => ⟨q, o, e, fun _ => ⟨o.slots, rfl⟩⟩
theorem Ext.trans {L : Addr} {σ σ' σ'' : AH} {h h' h'' : Heap} (x : Ext L σ h σ' h') (y : Ext L σ' h' σ'' h'') : Ext L σ h σ'' h'' := fun b o e q n => by
  obtain ⟨q', o', e', x1⟩ := x b o e q n
  obtain ⟨q'', o'', e'', y1⟩ := y b o' e' q' n
  refine ⟨q'', o'', e'', fun hf => ?_⟩
  obtain ⟨sl, rfl⟩ := x1 hf
  obtain ⟨sl', rfl⟩ := y1 hf
  exact ⟨sl', rfl⟩
/-- of a heap that keeps all but what is tracked, or L -/
theorem Ext.of_keep {L : Addr} {σ σ' : AH} {h h' : Heap} (hk : ∀ b o, h.get? b = some o → σ b = none → b ≠ L → h'.get? b = some o) (hs : ∀ b o, h.get? b = some o → σ b = none → σ' b = none) : Ext L σ h σ' h' :=
  fun b o e q n => ⟨hs b o e q, o, hk b o e q n, fun _ => ⟨o.slots, rfl⟩⟩

/-- L is a frame's place: its object is a dict -/
noncomputable def NsAt (h : Heap) (L : Addr) : Prop := ∃ m, h.Ns L m
theorem NsAt.ne {h : Heap} {L b : Addr} {o : Obj} {vs : Array Value} {n : Nat} (x : NsAt h L) (e : h.get? b = some o) (d : o.data = .seq vs n) : b ≠ L := by
  rintro rfl
  obtain ⟨m, o', es, ep, e', d', _⟩ := x
  rw [e] at e'; cases e'; rw [d] at d'; cases d'

mutual
theorem DRel.ext {L : Addr} {σ σ' : AH} {h h' : Heap} (N : NsAt h L) (X : Ext L σ h σ' h') : ∀ (d : PyData) (v : Value), DRel σ h d v → DRel σ' h' d v
  | .none, _, r => by simpa [DRel] using r
  | .bool b, _, r => by simpa [DRel] using r
  | .int i, _, r => by simpa [DRel] using r
  | .str s, _, r => by simpa [DRel] using r
  | .list ds, v, r => by
    unfold DRel at r ⊢
    obtain ⟨a, o, vs, n, rfl, q, e, c, d, l⟩ := r
    obtain ⟨q', o', e', x1⟩ := X a o e q (N.ne e d)
    obtain ⟨sl, rfl⟩ := x1 (fun ws _ z => by rw [d] at z; cases z)
    exact ⟨a, _, vs, n, rfl, q', e', c, d, DRelL.ext N X ds _ l⟩
  | .tuple ds, v, r => by
    unfold DRel at r ⊢
    obtain ⟨a, o, vs, n, rfl, q, e, c, d, l⟩ := r
    obtain ⟨q', o', e', x1⟩ := X a o e q (N.ne e d)
    obtain ⟨sl, rfl⟩ := x1 (fun ws _ z => by rw [d] at z; cases z)
    exact ⟨a, _, vs, n, rfl, q', e', c, d, DRelL.ext N X ds _ l⟩
  | .dict _, _, r => by unfold DRel at r; exact r.elim
theorem DRelL.ext {L : Addr} {σ σ' : AH} {h h' : Heap} (N : NsAt h L) (X : Ext L σ h σ' h') : ∀ (ds : List PyData) (vs : List Value), DRelL σ h ds vs → DRelL σ' h' ds vs
  | [], vs, r => by unfold DRelL at r ⊢; exact r
  | d :: ds, vs, r => by
    unfold DRelL at r ⊢
    obtain ⟨v, vs', rfl, r1, r2⟩ := r
    exact ⟨v, vs', rfl, DRel.ext N X d v r1, DRelL.ext N X ds vs' r2⟩
end

inductive CloIs (σ : AH) (h : Heap) (fd : FuncData) (v : Value) : Prop
  | mk (a : Addr) (o : Obj) (e : v = .ref a) (q : σ a = none) (g : h.get? a = some o) (c : o.cls = .type "function") (d : o.data = .func fd) (c' : Addr) (oc : Obj) (vs : Array Value) (t : Tok)
      (e1 : fd.code = .ref c') (e2 : σ c' = none) (e3 : h.get? c' = some oc) (e4 : oc.cls = .type "code") (e5 : oc.data = .fields vs) (e6 : vs[1]? = some (.str fd.qualname t)) : CloIs σ h fd v
noncomputable def VRel (σ : AH) (h : Heap) (v : Value) : AV → Prop
  | .data d => DRel σ h d v
  | .ref a => v = .ref a
  | .val w => v = w
  | .clo fd => CloIs σ h fd v
theorem NsAt.neF {h : Heap} {L b : Addr} {o : Obj} {fd : FuncData} (x : NsAt h L) (e : h.get? b = some o) (d : o.data = .func fd) : b ≠ L := by
  rintro rfl
  obtain ⟨m, o', es, ep, e', d', _⟩ := x
  rw [e] at e'; cases e'; rw [d] at d'; cases d'
theorem NsAt.neFl {h : Heap} {L b : Addr} {o : Obj} {vs : Array Value} (x : NsAt h L) (e : h.get? b = some o) (d : o.data = .fields vs) : b ≠ L := by
  rintro rfl
  obtain ⟨m, o', es, ep, e', d', _⟩ := x
  rw [e] at e'; cases e'; rw [d] at d'; cases d'
theorem VRel.ext {L : Addr} {σ σ' : AH} {h h' : Heap} {v : Value} {x : AV} (N : NsAt h L) (X : Ext L σ h σ' h') (r : VRel σ h v x) : VRel σ' h' v x := by
  cases x with
  | data d => exact DRel.ext N X d v r
  | ref a => exact r
  | val w => exact r
  | clo fd =>
    obtain ⟨a, o, rfl, q, e, c, d, c', oc, vs, t, f1, f2, f3, f4, f5, f6⟩ := r
    obtain ⟨q', o', e', x1⟩ := X a o e q (N.neF e d)
    obtain ⟨sl, rfl⟩ := x1 (fun ws _ z => by rw [d] at z; cases z)
    obtain ⟨q2, o2, e2, x2⟩ := X c' oc f3 f2 (N.neFl f3 f5)
    obtain ⟨sl2, rfl⟩ := x2 (fun ws z => absurd (f4.symm.trans z) (by simp))
    exact ⟨a, _, rfl, q', e', c, d, c', _, vs, t, f1, q2, e2, f4, f5, f6⟩

/-- values alongside abstract ones -/
inductive VRelL (σ : AH) (h : Heap) : List Value → List AV → Prop
  | nil : VRelL σ h [] []
  | cons {v vs x xs} : VRel σ h v x → VRelL σ h vs xs → VRelL σ h (v :: vs) (x :: xs)
theorem VRelL.ext {L : Addr} {σ σ' : AH} {h h' : Heap} {vs : List Value} {xs : List AV} (N : NsAt h L) (X : Ext L σ h σ' h') (r : VRelL σ h vs xs) : VRelL σ' h' vs xs := by
  induction r with
  | nil => exact .nil
  | cons r _ ih => exact .cons (r.ext N X) ih
theorem VRelL.length {σ : AH} {h : Heap} {vs : List Value} {xs : List AV} (r : VRelL σ h vs xs) : vs.length = xs.length := by
  induction r with
  | nil => rfl
  | cons _ _ ih => simp [ih]
theorem VRelL.append {σ : AH} {h : Heap} {vs vs' : List Value} {xs xs' : List AV} (r : VRelL σ h vs xs) (r' : VRelL σ h vs' xs') : VRelL σ h (vs ++ vs') (xs ++ xs') := by
  induction r with
  | nil => exact r'
  | cons a _ ih => exact .cons a ih
theorem VRelL.get {σ : AH} {h : Heap} {vs : List Value} {xs : List AV} (r : VRelL σ h vs xs) : ∀ {i : Nat} {x : AV}, xs[i]? = some x → ∃ v, vs[i]? = some v ∧ VRel σ h v x := by
  induction r with
  | nil => intro i x e; simp at e
  | cons a _ ih =>
    intro i x e
    cases i with
    | zero => simp at e; subst e; exact ⟨_, rfl, a⟩
    | succ i => exact ih (by simpa using e)
theorem VRelL.set {σ : AH} {h : Heap} {vs : List Value} {xs : List AV} (r : VRelL σ h vs xs) {v : Value} {x : AV} (a : VRel σ h v x) : ∀ (i : Nat), VRelL σ h (vs.set i v) (xs.set i x) := by
  induction r with
  | nil => intro i; exact .nil
  | cons b r ih =>
    intro i
    cases i with
    | zero => exact .cons a r
    | succ i => exact .cons b (ih i)
theorem VRelL.dropLast {σ : AH} {h : Heap} {vs : List Value} {xs : List AV} (r : VRelL σ h vs xs) : VRelL σ h vs.dropLast xs.dropLast := by
  induction r with
  | nil => exact .nil
  | cons b r ih =>
    cases r with
    | nil => exact .nil
    | cons c r => exact .cons b ih

/-- a dict's entry with a written name -/
noncomputable def ARel (σ : AH) (h : Heap) (P : Params) : List DictEntry → List (Str × AV) → Prop
  | [], ats => ats = []
  | e :: es, ats => ∃ x av r, ats = (x, av) :: r ∧ (∃ t, e.key = .str x t) ∧ e.hash = PyData.keyHash P x ∧ VRel σ h e.val av ∧ ARel σ h P es r
theorem ARel.ext {L : Addr} {σ σ' : AH} {h h' : Heap} {P : Params} (N : NsAt h L) (X : Ext L σ h σ' h') : ∀ {es : List DictEntry} {ats : List (Str × AV)}, ARel σ h P es ats → ARel σ' h' P es ats
  | [], _, r => r
  | _ :: _, _, ⟨x, av, r, e, k, hh, v, rr⟩ => ⟨x, av, r, e, k, hh, v.ext N X, ARel.ext N X rr⟩

/-- a dict's entries, by keys of one kind -/
inductive Ent {K : Type} (ik : K → Value → Bool) (hk : K → Int) (σ : AH) (h : Heap) : List DictEntry → List (K × AV) → Prop
  | nil : Ent ik hk σ h [] []
  | cons {e : DictEntry} {es : List DictEntry} {k : K} {av : AV} {r : List (K × AV)} : ik k e.key = true → e.hash = hk k → VRel σ h e.val av → Ent ik hk σ h es r → Ent ik hk σ h (e :: es) ((k, av) :: r)
theorem Ent.ext {K : Type} {ik : K → Value → Bool} {hk : K → Int} {L : Addr} {σ σ' : AH} {h h' : Heap} (N : NsAt h L) (X : Ext L σ h σ' h') {es : List DictEntry} {r : List (K × AV)} (e : Ent ik hk σ h es r) : Ent ik hk σ' h' es r := by
  induction e with
  | nil => exact .nil
  | cons a b c _ ih => exact .cons a b (c.ext N X) ih
end
/-! W2 -/
section
open PySem PySem.W PyProof.Rows PySem.Calls PySem.Spec

/-- what stands fixed for the whole law -/
structure Bs where
  prog : Program
  w : World
  K : Frag
  H0 : Heap
  p : Program
  loose : List Str
  mean : ExcName → Option Value
  mg : Str → Option Value
  mb : Str → Option Value
  gens : Array GenState
  drawn : Drawn
  os : OsState
  ats : List (Addr × Str)
  mts : List (Addr × Str × Addr)
  gt : List (Str × AV)
noncomputable def attrOkB (K : Frag) (C : Addr) (n : Str) : Bool := plainGet K C n && hasDictIn K C && (match findIn K (.ref C) n with | some a => noGet K a | none => false) &&
  plainOver K C && takerIn K C n == some none && findIn K (.ref C) "__setattr__" == some (some (.builtin "object.__setattr__"))
noncomputable def methOkB (K : Frag) (C : Addr) (n : Str) (f : Addr) : Bool := plainGet K C n && findIn K (.ref C) n == some (some (.ref f)) && isFn K (.ref f) && keepIn K (.ref f)
/-- a name of the text's top, or a built-in -/
noncomputable def GOk (B : Bs) (x : Str) (av : AV) : Prop := ∃ v, (B.mg x = some v ∨ (B.mg x = none ∧ B.mb x = some v)) ∧ VRel (fun _ => none) B.H0 v av
structure Bs.Ok (B : Bs) : Prop where
  X : B.K.In B.H0
  T : Top B.p B.loose B.mean B.mg B.mb B.H0
  ats : ∀ p ∈ B.ats, attrOkB B.K p.1 p.2 = true
  mts : ∀ p ∈ B.mts, methOkB B.K p.1 p.2.1 p.2.2 = true
  gt : ∀ x av, (x, av) ∈ B.gt → GOk B x av

noncomputable abbrev Bs.M (B : Bs) : Model := model B.prog B.w

/-- a frame -/
structure Cx where
  env : Env
  frames : List Env
  depth : Nat
  units : Nat
  guards : Option (List Code)
  hd : Option Value := none
noncomputable abbrev Cx.A (c : Cx) : Around := { handled := c.hd, depth := c.depth, frames := some c.frames, guards := c.guards, units := c.units }

inductive TriIs (σ : AH) (h : Heap) (al : List (Pos × Str)) (l k : Int) (c : Value) : Prop
  | mk (q : Pos × Str) (hq : q ∈ al) (h1 : l = q.1.line) (h2 : k = q.1.col) (c' : Addr) (o : Obj) (vs : Array Value) (t : Tok) (e1 : c = .ref c') (e2 : σ c' = none) (e3 : h.get? c' = some o) (e4 : o.cls = .type "code") (e5 : o.data = .fields vs) (e6 : vs[1]? = some (.str q.2 t)) : TriIs σ h al l k c
noncomputable def TRel (σ : AH) (h : Heap) (al : List (Pos × Str)) : List Value → Prop
  | [] => True
  | .int l _ :: .int k _ :: c :: rest => TriIs σ h al l k c ∧ TRel σ h al rest
  | _ => False
theorem TRel.ext {L : Addr} {σ σ' : AH} {h h' : Heap} {al : List (Pos × Str)} (N : NsAt h L) (X : Ext L σ h σ' h') : ∀ {vs : List Value}, TRel σ h al vs → TRel σ' h' al vs := by
  intro vs r
  fun_induction TRel σ h al vs with
  | case1 => trivial
  | case2 l _ k _ c rest ih =>
    refine box fun G9 k9 => ?_
    obtain ⟨⟨q, hq, h1, h2, c', o, vs, t, h3, h4, h5, h6, h7, h8⟩, r2⟩ := r
    obtain ⟨q', o', e', x1⟩ := X c' o h5 h4 (N.neFl h5 h7)
    obtain ⟨sl, rfl⟩ := x1 (fun ws z => absurd (h6.symm.trans z) (by simp))
    refine k9 ?_; clear k9 G9
    exact ⟨⟨q, hq, h1, h2, c', _, vs, t, h3, q', e', h6, h7, h8⟩, ih r2⟩
  | case3 => exact r.elim

inductive LisAt (σ : AH) (h : Heap) (a : Addr) (l : List AV) : Prop
  | mk (vs : Array Value) (n : Nat) (e : h.get? a = some { cls := .type "list", data := .seq vs n }) (r : VRelL σ h vs.toList l) : LisAt σ h a l
inductive DicAt {K : Type} (ik : K → Value → Bool) (hk : K → Int) (σ : AH) (h : Heap) (a : Addr) (es : List (K × AV)) : Prop
  | mk (o : Obj) (ents : Array DictEntry) (n : Nat) (e : h.get? a = some o) (x : o.ExactDict) (d : o.data = .dict ents n) (r : Ent ik hk σ h ents.toList es) (nd : (es.map (·.1)).Nodup) : DicAt ik hk σ h a es
inductive InsAt (P : Params) (σ : AH) (h : Heap) (a C dx : Addr) (ats : List (Str × AV)) : Prop
  | mk (e : h.get? a = some (instObj C dx)) (o : σ dx = some (.own a)) (nd : (ats.map (·.1)).Nodup) (es : List DictEntry) (n : Nat) (e2 : h.get? dx = some (dictOf es n)) (r : ARel σ h P es ats) : InsAt P σ h a C dx ats
inductive ExcAt (P : Params) (σ : AH) (h : Heap) (a C dx : Addr) (ats : List (Str × AV)) : Prop
  | mk (e : ∃ fs, h.get? a = some { cls := .ref C, dict := some dx, data := .fields fs }) (o : σ dx = some (.own a)) (nd : (ats.map (·.1)).Nodup) (es : List DictEntry) (n : Nat) (e2 : h.get? dx = some (dictOf es n)) (r : ARel σ h P es ats) : ExcAt P σ h a C dx ats
noncomputable abbrev CelR (σ : AH) (h : Heap) (v : Option AV) (v' : Option Value) : Prop := match v, v' with
  | none, none => True
  | some x, some u => VRel σ h u x
  | _, _ => False
inductive CelAt (σ : AH) (h : Heap) (a : Addr) (v : Option AV) : Prop
  | mk (o : Obj) (v' : Option Value) (e : h.get? a = some o) (d : o.data = .cell v') (r : CelR σ h v v') : CelAt σ h a v
inductive TabAt (σ : AH) (h : Heap) (a : Addr) (al : List (Pos × Str)) : Prop
  | mk (ps : Array Value) (e : h.get? a = some (tabObj ps)) (t : TriplesOk ps.toList) (r : TRel σ h al ps.toList) : TabAt σ h a al
noncomputable def ORel (P : Params) (σ : AH) (h : Heap) (a : Addr) : AO → Prop
  | .list l => LisAt σ h a l
  | .dictS es => DicAt Value.isStrOf (PyData.keyHash P) σ h a es
  | .dictI es => DicAt Value.isInt hashInt σ h a es
  | .inst C dx ats => InsAt P σ h a C dx ats
  | .exc C dx ats => ExcAt P σ h a C dx ats
  | .own x => (∃ C ats, σ x = some (.inst C a ats)) ∨ (∃ C ats, σ x = some (.exc C a ats))
  | .cell v => CelAt σ h a v
  | .tabl al => TabAt σ h a al
  | .raw o => h.get? a = some o

/-- what a frame is, whatever the state -/
structure Cx.Ok (B : Bs) (c : Cx) : Prop where
  b : B.Ok
  kind : c.env.scope.kind = .function
  globals : c.env.globals = mainGlobals
  builtins : c.env.builtins = builtinsNs

structure St (B : Bs) (c : Cx) (ρ : Loc) (σ : AH) (s : Shared) : Prop where
  ok : c.Ok B
  locals : ∃ m, s.heap.Ns c.env.locals m ∧ ∀ x av, (x, some av) ∈ ρ → ∃ v, m x = some v ∧ VRel σ s.heap v av
  nodup : (ρ.map (·.1)).Nodup
  kinds : ∀ x ∈ ρ.map (·.1), c.env.kindOf x = some .local
  keep : ∀ b o, B.H0.get? b = some o → s.heap.get? b = some o
  above : B.H0.objs.size ≤ c.env.locals
  loc : σ c.env.locals = none
  free : ∀ e ∈ c.frames, ∀ L, e.frame = some L → σ L = none
  funs : s.heap.FunFrames B.H0 c.frames
  objs : ∀ a ao, σ a = some ao → B.H0.get? a = none ∧ (∃ o, s.heap.get? a = some o) ∧ ORel B.w.params σ s.heap a ao
  gens : s.gens = B.gens
  drawn : s.drawn = B.drawn
  os : s.os = B.os

variable {B : Bs} {c : Cx} {ρ : Loc} {σ : AH} {s : Shared}

theorem St.ns (S : St B c ρ σ s) : NsAt s.heap c.env.locals := let ⟨m, hn, _⟩ := S.locals; ⟨m, hn⟩
theorem St.fr (S : St B c ρ σ s) : ∃ m, Fr B.H0 c.env.locals s.heap m ∧ ∀ x av, (x, some av) ∈ ρ → ∃ v, m x = some v ∧ VRel σ s.heap v av :=
  let ⟨m, hn, h⟩ := S.locals; ⟨m, ⟨hn, S.keep, S.above⟩, h⟩
theorem St.toks (S : St B c ρ σ s) (t : Nat) : St B c ρ σ { s with toks := t } := ⟨S.ok, S.locals, S.nodup, S.kinds, S.keep, S.above, S.loc, S.free, S.funs, S.objs, S.gens, S.drawn, S.os⟩

theorem fresh_none {h : Heap} : h.get? h.objs.size = none := by
  cases q : h.get? h.objs.size with
  | none => rfl
  | some o => exact absurd (Heap.lt_size q) (Nat.lt_irrefl _)
theorem St.unt (S : St B c ρ σ s) {a : Addr} (e : s.heap.get? a = none) : σ a = none := by
  cases q : σ a with
  | none => rfl
  | some ao =>
    refine box fun G9 k9 => ?_
    obtain ⟨_, ⟨o, e'⟩, _⟩ := S.objs a ao q
    refine k9 ?_; clear k9 G9
    rw [e] at e'; cases e'
theorem St.fresh (S : St B c ρ σ s) : σ s.heap.objs.size = none := S.unt fresh_none
theorem St.old (S : St B c ρ σ s) {a : Addr} {ao : AO} (e : σ a = some ao) : B.H0.get? a = none := (S.objs a ao e).1
theorem St.neL (S : St B c ρ σ s) {a : Addr} {ao : AO} (e : σ a = some ao) : a ≠ c.env.locals := by
  rintro rfl; rw [S.loc] at e; cases e

/-- the general move: all that is not tracked and not L stays; the tracked are told anew -/
theorem St.move (S : St B c ρ σ s) {s' : Shared} {σ' : AH} {ρ' : Loc}
    (hl : ∃ m, s'.heap.Ns c.env.locals m ∧ ∀ x av, (x, some av) ∈ ρ' → ∃ v, m x = some v ∧ VRel σ' s'.heap v av)
    (hρ : ρ'.map (·.1) = ρ.map (·.1))
    (X : Ext c.env.locals σ s.heap σ' s'.heap)
    (hk : ∀ b o, s.heap.get? b = some o → σ b = none → b ≠ c.env.locals → s'.heap.get? b = some o)
    (hL : σ' c.env.locals = none)
    (ho : ∀ a ao, σ' a = some ao → B.H0.get? a = none ∧ (∃ o, s'.heap.get? a = some o) ∧ ORel B.w.params σ' s'.heap a ao)
    (hg : s'.gens = s.gens := by rfl) (hd : s'.drawn = s.drawn := by rfl) (hos : s'.os = s.os := by rfl) : St B c ρ' σ' s' := by
  have keep : ∀ b o, B.H0.get? b = some o → s'.heap.get? b = some o := fun b o e => by
    refine hk b o (S.keep b o e) ?_ ?_
    · cases q : σ b with
      | none => rfl
      | some ao => have := S.old q; rw [e] at this; cases this
    · rintro rfl
      exact absurd (Heap.lt_size e) (Nat.not_lt.mpr S.above)
  have fex : ∀ e ∈ c.frames, ∀ L, e.frame = some L → ∃ o, s.heap.get? L = some o := fun e he L hf => by
    refine box fun G9 k9 => ?_
    obtain ⟨_, o, h, _⟩ := S.funs.mem (b := L) (List.mem_filterMap.mpr ⟨e, he, hf⟩)
    refine k9 ?_; clear k9 G9
    exact ⟨o, h⟩
  refine ⟨S.ok, hl, by rw [hρ]; exact S.nodup, by rw [hρ]; exact S.kinds, keep, S.above, hL, fun e he L hf => ?_, ?_, ho, hg.trans S.gens, hd.trans S.drawn, hos.trans S.os⟩
  · by_cases hLL : L = c.env.locals
    · rw [hLL]; exact hL
    · obtain ⟨o, e'⟩ := fex e he L hf
      exact (X L o e' (S.free e he L hf) hLL).1
  · have go : ∀ l : List Env, (∀ e ∈ l, e ∈ c.frames) → s.heap.FunFrames B.H0 l → s'.heap.FunFrames B.H0 l := by
      intro l
      induction l with
      | nil => intro _ _; trivial
      | cons e l ih =>
        intro hm hf
        refine box fun G9 k9 => ?_
        obtain ⟨h1, ⟨L, o, hf1, hn, hL1, hd1⟩, hr⟩ := hf
        refine k9 ?_; clear k9 G9
        refine ⟨h1, ?_, ih (fun e he => hm e (.tail _ he)) hr⟩
        by_cases hLL : L = c.env.locals
        · subst hLL
          refine box fun G9 k9 => ?_
          obtain ⟨m, ⟨o', es, ep, e', d', _⟩, _⟩ := hl
          refine k9 ?_; clear k9 G9
          exact ⟨_, o', hf1, hn, e', fun vs q => by rw [d'] at q; cases q⟩
        · exact ⟨L, o, hf1, hn, hk L o hL1 (S.free e (hm e (.head _)) L hf1) hLL, hd1⟩
    exact go c.frames (fun _ h => h) S.funs
end
/-! W3 -/
section
open PySem PySem.W PyProof.Rows PySem.Calls PySem.Spec
variable {B : Bs} {c : Cx} {ρ : Loc} {σ : AH} {s : Shared}

noncomputable def AO.simple : AO → Bool
  | .list _ | .dictS _ | .dictI _ | .cell _ | .tabl _ | .raw _ => true
  | _ => false

theorem ORel.ext {P : Params} {L : Addr} {σ σ' : AH} {h h' : Heap} {a : Addr} {ao : AO} (N : NsAt h L) (X : Ext L σ h σ' h')
    (hk : ∀ b o bo, h.get? b = some o → σ b = some bo → (bo.simple = false ∨ b = a) → h'.get? b = some o)
    (hσ : ∀ b bo, σ b = some bo → bo.simple = false → σ' b = some bo) (hs : σ a = some ao) (r : ORel P σ h a ao) : ORel P σ' h' a ao := by
  cases ao with
  | list l =>
    refine box fun G9 k9 => ?_
    obtain ⟨vs, n, e, v⟩ := r
    refine k9 ?_; clear k9 G9
    exact ⟨vs, n, hk a _ _ e hs (.inr rfl), v.ext N X⟩
  | dictS es =>
    refine box fun G9 k9 => ?_
    obtain ⟨o, vs, n, e, x, d, v, nd⟩ := r
    refine k9 ?_; clear k9 G9
    exact ⟨o, vs, n, hk a _ _ e hs (.inr rfl), x, d, v.ext N X, nd⟩
  | dictI es =>
    refine box fun G9 k9 => ?_
    obtain ⟨o, vs, n, e, x, d, v, nd⟩ := r
    refine k9 ?_; clear k9 G9
    exact ⟨o, vs, n, hk a _ _ e hs (.inr rfl), x, d, v.ext N X, nd⟩
  | inst C dx ats =>
    refine box fun G9 k9 => ?_
    obtain ⟨e, od, nd, es, n, e2, v⟩ := r
    refine k9 ?_; clear k9 G9
    exact ⟨hk a _ _ e hs (.inr rfl), hσ _ _ od rfl, nd, es, n, hk dx _ _ e2 od (.inl rfl), v.ext N X⟩
  | exc C dx ats =>
    refine box fun G9 k9 => ?_
    obtain ⟨⟨fs, e⟩, od, nd, es, n, e2, v⟩ := r
    refine k9 ?_; clear k9 G9
    exact ⟨⟨fs, hk a _ _ e hs (.inr rfl)⟩, hσ _ _ od rfl, nd, es, n, hk dx _ _ e2 od (.inl rfl), v.ext N X⟩
  | own x =>
    rcases r with ⟨C, ats, q⟩ | ⟨C, ats, q⟩
    · exact .inl ⟨C, ats, hσ _ _ q rfl⟩
    · exact .inr ⟨C, ats, hσ _ _ q rfl⟩
  | cell v =>
    refine box fun G9 k9 => ?_
    obtain ⟨o, v', e, d, r⟩ := r
    refine k9 ?_; clear k9 G9
    refine ⟨o, v', hk a _ _ e hs (.inr rfl), d, ?_⟩
    cases v <;> cases v' <;> first | exact r | exact VRel.ext N X r
  | tabl al =>
    refine box fun G9 k9 => ?_
    obtain ⟨ps, e, t, r⟩ := r
    refine k9 ?_; clear k9 G9
    exact ⟨ps, hk a _ _ e hs (.inr rfl), t, r.ext N X⟩
  | raw o => exact hk a _ _ r hs (.inr rfl)

/-- a local's store, as the frame's list tells it -/
inductive Put : Loc → Str → AV → Loc → Prop
  | here {x w v r} : Put ((x, w) :: r) x v ((x, some v) :: r)
  | there {p x v r r'} : Put r x v r' → Put (p :: r) x v (p :: r')
inductive At : Loc → Str → AV → Prop
  | here {x v r} : At ((x, some v) :: r) x v
  | there {p x v r} : At r x v → At (p :: r) x v
theorem At.mem {ρ : Loc} {x : Str} {v : AV} (a : At ρ x v) : (x, some v) ∈ ρ := by
  induction a with
  | here => exact .head _
  | there _ ih => exact .tail _ ih
theorem Put.names {ρ ρ' : Loc} {x : Str} {v : AV} (p : Put ρ x v ρ') : ρ'.map (·.1) = ρ.map (·.1) := by
  induction p with
  | here => rfl
  | there _ ih => simp [ih]
theorem Put.isIn {ρ ρ' : Loc} {x : Str} {v : AV} (p : Put ρ x v ρ') : x ∈ ρ.map (·.1) := by
  induction p with
  | here => simp
  | there _ ih => simp only [List.map_cons, List.mem_cons]; exact .inr ih
theorem Put.mem {ρ ρ' : Loc} {x : Str} {v : AV} (p : Put ρ x v ρ') (nd : (ρ.map (·.1)).Nodup) : ∀ y w, (y, some w) ∈ ρ' → (y = x ∧ w = v) ∨ (y ≠ x ∧ (y, some w) ∈ ρ) := by
  induction p with
  | here =>
    intro y w hm
    simp only [List.map_cons, List.nodup_cons] at nd
    rcases List.mem_cons.mp hm with e | e
    · cases e; exact .inl ⟨rfl, rfl⟩
    · refine .inr ⟨fun q => nd.1 ?_, .tail _ e⟩
      subst q; exact List.mem_map.mpr ⟨_, e, rfl⟩
  | there q ih =>
    intro y w hm
    simp only [List.map_cons, List.nodup_cons] at nd
    rcases List.mem_cons.mp hm with e | e
    · refine .inr ⟨fun z => nd.1 ?_, by rw [e]; exact .head _⟩
      subst e; rw [z]; exact q.isIn
    · rcases ih nd.2 y w e with h | h
      · exact .inl h
      · exact .inr ⟨h.1, .tail _ h.2⟩

theorem St.store (S : St B c ρ σ s) {x : Str} {v : Value} {av : AV} {ρ' : Loc} {h' : Heap} {tk : Nat} (hp : Put ρ x av ρ') (hv : VRel σ s.heap v av)
    (hn : ∀ m, s.heap.Ns c.env.locals m → h'.Ns c.env.locals (fun y => if y = x then some v else m y)) (hs : Heap.SameBut c.env.locals s.heap h') :
    St B c ρ' σ { s with heap := h', toks := tk } ∧ Ext c.env.locals σ s.heap σ h' := by
  have X : Ext c.env.locals σ s.heap σ h' := Ext.of_keep (fun b o e _ n => (hs.2 b n).trans e) fun _ _ _ q => q
  refine ⟨S.move ?_ hp.names X (fun b o e _ n => (hs.2 b n).trans e) S.loc (fun a ao q => ?_), X⟩
  · obtain ⟨m, hm, hr⟩ := S.locals
    refine ⟨_, hn m hm, fun y w hy => ?_⟩
    rcases hp.mem S.nodup y w hy with ⟨rfl, rfl⟩ | ⟨hne, hy⟩
    · exact ⟨v, by simp, hv.ext S.ns X⟩
    · obtain ⟨u, hu, r⟩ := hr y w hy
      exact ⟨u, by simp only [hne, if_false]; exact hu, r.ext S.ns X⟩
  · obtain ⟨h0, ⟨o, e⟩, r⟩ := S.objs a ao q
    exact ⟨h0, ⟨o, (hs.2 a (S.neL q)).trans e⟩, r.ext S.ns X (fun b o bo e q' _ => (hs.2 b (S.neL q')).trans e) (fun _ _ q _ => q) q⟩

/-- new objects, untracked; all else stays -/
theorem St.grow (S : St B c ρ σ s) {h' : Heap} {tk : Nat} (hk : ∀ b o, s.heap.get? b = some o → h'.get? b = some o) :
    St B c ρ σ { s with heap := h', toks := tk } ∧ Ext c.env.locals σ s.heap σ h' := by
  have X : Ext c.env.locals σ s.heap σ h' := Ext.of_keep (fun b o e _ _ => hk b o e) fun _ _ _ q => q
  refine ⟨S.move ?_ rfl X (fun b o e _ _ => hk b o e) S.loc (fun a ao q => ?_), X⟩
  · obtain ⟨m, hm, hr⟩ := S.locals
    exact ⟨m, hm.keeps hk, fun x av hx => let ⟨v, h1, h2⟩ := hr x av hx; ⟨v, h1, h2.ext S.ns X⟩⟩
  · obtain ⟨h0, ⟨o, e⟩, r⟩ := S.objs a ao q
    exact ⟨h0, ⟨o, hk a o e⟩, r.ext S.ns X (fun b o bo e q' _ => hk b o e) (fun _ _ q _ => q) q⟩

/-- a new object that is tracked from now on -/
theorem St.growT (S : St B c ρ σ s) {h' : Heap} {tk : Nat} {a : Addr} {ao : AO} (hk : ∀ b o, s.heap.get? b = some o → h'.get? b = some o) (ha : s.heap.get? a = none) (ha0 : B.H0.get? a = none) (he : ∃ o, h'.get? a = some o)
    (hr : Ext c.env.locals σ s.heap (upd σ a ao) h' → ORel B.w.params (upd σ a ao) h' a ao) :
    St B c ρ (upd σ a ao) { s with heap := h', toks := tk } ∧ Ext c.env.locals σ s.heap (upd σ a ao) h' := by
  have ne : ∀ b o, s.heap.get? b = some o → b ≠ a := fun b o e q => by rw [q, ha] at e; cases e
  have X : Ext c.env.locals σ s.heap (upd σ a ao) h' := Ext.of_keep (fun b o e _ _ => hk b o e) fun b o e q => by rw [upd_ne (ne b o e)]; exact q
  have hL : upd σ a ao c.env.locals = none := by
    refine box fun G9 k9 => ?_
    obtain ⟨m, ⟨o, _, _, e, _⟩, _⟩ := S.locals
    refine k9 ?_; clear k9 G9
    rw [upd_ne (ne _ _ e)]; exact S.loc
  refine ⟨S.move ?_ rfl X (fun b o e _ _ => hk b o e) hL (fun b bo q => ?_), X⟩
  · obtain ⟨m, hm, hr⟩ := S.locals
    exact ⟨m, hm.keeps hk, fun x av hx => let ⟨v, h1, h2⟩ := hr x av hx; ⟨v, h1, h2.ext S.ns X⟩⟩
  · by_cases hb : b = a
    · subst hb
      rw [upd_same] at q; cases q
      exact ⟨ha0, he, hr X⟩
    · rw [upd_ne hb] at q
      refine box fun G9 k9 => ?_
      obtain ⟨h0, ⟨o, e⟩, r⟩ := S.objs b bo q
      refine k9 ?_; clear k9 G9
      refine ⟨h0, ⟨o, hk b o e⟩, r.ext S.ns X (fun b o bo e q' _ => hk b o e) (fun d bo q _ => ?_) q⟩
      rw [upd_ne]; exact q
      rintro rfl
      rw [S.unt ha] at q; cases q

/-- a tracked object of a simple kind is changed -/
theorem St.set (S : St B c ρ σ s) {h' : Heap} {tk : Nat} {a : Addr} {ao ao' : AO} (q : σ a = some ao) (hsim : ao.simple = true) (hs : Heap.SameBut a s.heap h') (he : ∃ o, h'.get? a = some o)
    (hr : Ext c.env.locals σ s.heap (upd σ a ao') h' → ORel B.w.params (upd σ a ao') h' a ao') :
    St B c ρ (upd σ a ao') { s with heap := h', toks := tk } ∧ Ext c.env.locals σ s.heap (upd σ a ao') h' := by
  have X : Ext c.env.locals σ s.heap (upd σ a ao') h' := Ext.of_keep (fun b o e z _ => (hs.2 b (by rintro rfl; rw [q] at z; cases z)).trans e) fun b o e z => by
    rw [upd_ne]; exact z
    rintro rfl; rw [q] at z; cases z
  have hL : upd σ a ao' c.env.locals = none := by rw [upd_ne (S.neL q).symm]; exact S.loc
  refine ⟨S.move ?_ rfl X (fun b o e z _ => (hs.2 b (by rintro rfl; rw [q] at z; cases z)).trans e) hL (fun b bo qb => ?_), X⟩
  · obtain ⟨m, hm, hr⟩ := S.locals
    refine ⟨m, ?_, fun x av hx => let ⟨v, h1, h2⟩ := hr x av hx; ⟨v, h1, h2.ext S.ns X⟩⟩
    refine box fun G9 k9 => ?_
    obtain ⟨o, es, ep, e, r⟩ := hm
    refine k9 ?_; clear k9 G9
    exact ⟨o, es, ep, (hs.2 _ (S.neL q).symm).trans e, r⟩
  · by_cases hb : b = a
    · subst hb
      rw [upd_same] at qb; cases qb
      exact ⟨S.old q, he, hr X⟩
    · rw [upd_ne hb] at qb
      refine box fun G9 k9 => ?_
      obtain ⟨h0, ⟨o, e⟩, r⟩ := S.objs b bo qb
      refine k9 ?_; clear k9 G9
      refine ⟨h0, ⟨o, (hs.2 b hb).trans e⟩, r.ext S.ns X (fun d o bo e q' z => (hs.2 d ?_).trans e) (fun d bo q' z => ?_) qb⟩
      · rintro rfl
        rcases z with z | z
        · rw [q] at q'; cases q'; rw [hsim] at z; cases z
        · exact hb z.symm
      · rw [upd_ne]; exact q'
        rintro rfl
        rw [q] at q'; cases q'; rw [hsim] at z; cases z
end
/-! W4 -/
section
open PySem PySem.W PyProof.Rows PySem.Calls PySem.Spec
variable {B : Bs} {c : Cx} {ρ : Loc} {σ : AH} {s : Shared}

/-- an exception in flight: the tracked object a; its traceback's head: none, or its mark -/
noncomputable def FlightM (B : Bs) (σ : AH) (h : Heap) (a : Addr) (m : Option Value) : Prop :=
  (∃ C dx ats, σ a = some (.exc C dx ats)) ∧ ∃ oe fs, h.get? a = some oe ∧ oe.data = .fields fs ∧ 5 < fs.size ∧ match m with
    | none => fs[1]? = some .none
    | some fl => ∃ T oT ts, fs[1]? = some (.ref T) ∧ σ T = none ∧ B.H0.get? T = none ∧ h.get? T = some oT ∧ oT.cls = .type "traceback" ∧ oT.data = .fields ts ∧ ts[3]? = some fl
noncomputable def Flight (B : Bs) (c : Cx) (σ : AH) (h : Heap) (a : Addr) : Prop :=
  FlightM B σ h a none ∨ FlightM B σ h a (some .none) ∨ ∃ L, c.env.frame = some L ∧ FlightM B σ h a (some (rawInt L))

noncomputable abbrev XT := Addr → Loc → AH → Prop
noncomputable def noX : XT := fun _ _ _ => False

/-- what comes back: a value of any kind, by its relation -/
inductive PG {α β : Type} (R : AH → Heap → α → β → Prop) (B : Bs) (c : Cx) (ρ : Loc) (σ : AH) (s : Shared) (Q : β → AH → Prop) (v : α) (s' : Shared) : Prop
  | mk (y : β) (σ' : AH) (S : St B c ρ σ' s') (E : Ext c.env.locals σ s.heap σ' s'.heap) (r : R σ' s'.heap v y) (q : Q y σ') : PG R B c ρ σ s Q v s'
inductive PX (B : Bs) (c : Cx) (σ : AH) (s : Shared) (X : XT) (e : Value) (s' : Shared) : Prop
  | mk (a : Addr) (ρ' : Loc) (σ' : AH) (h : e = .ref a) (S : St B c ρ' σ' s') (E : Ext c.env.locals σ s.heap σ' s'.heap) (F : Flight B c σ' s'.heap a) (q : X a ρ' σ') : PX B c σ s X e s'

theorem PG.weaken {α β : Type} {R : AH → Heap → α → β → Prop} {σ₁ : AH} {s₁ s' : Shared} {Q : β → AH → Prop} {v : α} (X : Ext c.env.locals σ s.heap σ₁ s₁.heap) (h : PG R B c ρ σ₁ s₁ Q v s') : PG R B c ρ σ s Q v s' :=
  let ⟨y, σ', S, E, r, q⟩ := h; ⟨y, σ', S, X.trans E, r, q⟩
theorem PX.weaken {σ₁ : AH} {s₁ s' : Shared} {X' : XT} {e : Value} (X : Ext c.env.locals σ s.heap σ₁ s₁.heap) (h : PX B c σ₁ s₁ X' e s') : PX B c σ s X' e s' :=
  let ⟨a, ρ', σ', h1, S, E, f, q⟩ := h; ⟨a, ρ', σ', h1, S, X.trans E, f, q⟩

theorem PX.toks {X : XT} {e : Value} {t : Nat} {s' : Shared} (h : PX B c σ ⟨s.heap, s.gens, s.drawn, t, s.os⟩ X e s') : PX B c σ s X e s' :=
  let ⟨a, ρ', σ', h1, S, E, f, q⟩ := h; ⟨a, ρ', σ', h1, S, E, f, q⟩
theorem PG.toks {α β : Type} {R : AH → Heap → α → β → Prop} {Q : β → AH → Prop} {v : α} {t : Nat} {s' : Shared} (h : PG R B c ρ σ ⟨s.heap, s.gens, s.drawn, t, s.os⟩ Q v s') : PG R B c ρ σ s Q v s' :=
  let ⟨y, σ', S, E, r, q⟩ := h; ⟨y, σ', S, E, r, q⟩

/-- a tree from a told state -/
noncomputable def WG {α β : Type} (R : AH → Heap → α → β → Prop) (B : Bs) (c : Cx) (t : Sem α) (ρ : Loc) (σ : AH) (Q : β → AH → Prop) (X : XT) : Prop :=
  ∀ s, St B c ρ σ s → wpAny B.M c.A t (PG R B c ρ σ s Q) (PX B c σ s X) s
noncomputable abbrev WV := @WG Value AV VRel
noncomputable abbrev WE (B : Bs) (c : Cx) (e : Expr) (ρ : Loc) (σ : AH) (Q : AV → AH → Prop) (X : XT) : Prop := WV B c (eval e c.env) ρ σ Q X
noncomputable def BRel (_ : AH) (_ : Heap) (b b' : Bool) : Prop := b = b'
noncomputable abbrev WBo := @WG Bool Bool BRel
/-- the truth of an expression, as a test asks it -/
noncomputable abbrev WT (B : Bs) (c : Cx) (e : Expr) (ρ : Loc) (σ : AH) (Q : Bool → AH → Prop) (X : XT) : Prop := WBo B c (isTrue e c.env (eval e c.env)) ρ σ Q X

theorem WG.run {α β : Type} {R : AH → Heap → α → β → Prop} {t : Sem α} {σ₁ : AH} {s₁ : Shared} {Q : β → AH → Prop} {X : XT} (H : WG R B c t ρ σ₁ Q X) (S : St B c ρ σ₁ s₁) (E : Ext c.env.locals σ s.heap σ₁ s₁.heap) :
    wpAny B.M c.A t (PG R B c ρ σ s Q) (PX B c σ s X) s₁ :=
  wpAny_mono (H s₁ S) (fun _ _ h => h.weaken E) fun _ _ h => h.weaken E

theorem WG.mono {α β : Type} {R : AH → Heap → α → β → Prop} {t : Sem α} {Q Q' : β → AH → Prop} {X X' : XT} (H : WG R B c t ρ σ Q X) (hQ : ∀ y σ', Q y σ' → Q' y σ') (hX : ∀ a ρ' σ', X a ρ' σ' → X' a ρ' σ') : WG R B c t ρ σ Q' X' :=
  fun s S => wpAny_mono (H s S) (fun _ _ ⟨y, σ', S', E, r, q⟩ => ⟨y, σ', S', E, r, hQ y σ' q⟩) fun _ _ ⟨a, ρ', σ', e, S', E, f, q⟩ => ⟨a, ρ', σ', e, S', E, f, hX a ρ' σ' q⟩

/-- a step that gives a value and turns nothing but the tokens -/
theorem PG.now {α β : Type} {R : AH → Heap → α → β → Prop} {Q : β → AH → Prop} {v : α} {y : β} {t : Nat} (S : St B c ρ σ s) (r : R σ s.heap v y) (q : Q y σ) : PG R B c ρ σ s Q v { s with toks := t } :=
  ⟨y, σ, S.toks t, Ext.refl _ _ _, r, q⟩
theorem PG.here {α β : Type} {R : AH → Heap → α → β → Prop} {Q : β → AH → Prop} {v : α} {y : β} (S : St B c ρ σ s) (r : R σ s.heap v y) (q : Q y σ) : PG R B c ρ σ s Q v s :=
  ⟨y, σ, S, Ext.refl _ _ _, r, q⟩

section
variable {Q : AV → AH → Prop} {X : XT}
theorem W_int {i : Int} {k : Nat} {pos : Pos} (q : Q (.data (.int i)) σ) : WE B c (.Constant (.int i) k pos) ρ σ Q X :=
  fun s S => wpAny_Constant_int (PG.now S (y := .data (.int i)) (by show DRel _ _ _ _; unfold DRel; exact ⟨_, rfl⟩) q)
theorem W_str {x : Str} {k : Nat} {pos : Pos} (q : Q (.data (.str x)) σ) : WE B c (.Constant (.str x) k pos) ρ σ Q X :=
  fun s S => wpAny_Constant_str (PG.now S (y := .data (.str x)) (by show DRel _ _ _ _; unfold DRel; exact ⟨_, rfl⟩) q)
theorem W_none {k : Nat} {pos : Pos} (q : Q (.data .none) σ) : WE B c (.Constant .none k pos) ρ σ Q X :=
  fun s S => Constant_none (PG.here S (y := .data .none) (by show DRel _ _ _ _; unfold DRel; rfl) q)
theorem W_bool {b : Bool} {k : Nat} {pos : Pos} (q : Q (.data (.bool b)) σ) : WE B c (.Constant (.bool b) k pos) ρ σ Q X :=
  fun s S => Constant_bool (PG.here S (y := .data (.bool b)) (by show DRel _ _ _ _; unfold DRel; rfl) q)

theorem W_local {x : Str} {pos : Pos} {v : AV} (h : At ρ x v) (q : Q v σ) (hd : (x == ("__debug__" : Str)) = false := by decide) : WE B c (.Name x pos) ρ σ Q X := fun s S => by
  refine box fun G9 k9 => ?_
  obtain ⟨m, hm, hr⟩ := S.locals
  obtain ⟨u, hu, r⟩ := hr x v h.mem
  refine k9 ?_; clear k9 G9
  exact wpAny_Name (wpAny_loadName_local S.ok.kind (S.kinds x (List.mem_map.mpr ⟨_, h.mem, rfl⟩)) hm hu (PG.here S r q)) hd
end
end
/-! W5 -/
section
open PySem PySem.W PyProof.Rows PySem.Calls PySem.Spec
variable {B : Bs} {c : Cx} {ρ : Loc} {σ : AH} {s : Shared}

mutual
theorem DRel.old {H h : Heap} (hk : ∀ b o, H.get? b = some o → h.get? b = some o) (hn : ∀ b o, H.get? b = some o → σ b = none) : ∀ (d : PyData) (v : Value), DRel (fun _ => none) H d v → DRel σ h d v
  | .none, _, r => by simpa [DRel] using r
  | .bool b, _, r => by simpa [DRel] using r
  | .int i, _, r => by simpa [DRel] using r
  | .str s, _, r => by simpa [DRel] using r
  | .list ds, v, r => by
    unfold DRel at r ⊢
    refine box fun G9 k9 => ?_
    obtain ⟨a, o, vs, n, rfl, q, e, c, d, l⟩ := r
    refine k9 ?_; clear k9 G9
    exact ⟨a, _, vs, n, rfl, hn _ _ e, hk _ _ e, c, d, DRelL.old hk hn ds _ l⟩
  | .tuple ds, v, r => by
    unfold DRel at r ⊢
    refine box fun G9 k9 => ?_
    obtain ⟨a, o, vs, n, rfl, q, e, c, d, l⟩ := r
    refine k9 ?_; clear k9 G9
    exact ⟨a, _, vs, n, rfl, hn _ _ e, hk _ _ e, c, d, DRelL.old hk hn ds _ l⟩
  | .dict _, _, r => by unfold DRel at r; exact r.elim
theorem DRelL.old {H h : Heap} (hk : ∀ b o, H.get? b = some o → h.get? b = some o) (hn : ∀ b o, H.get? b = some o → σ b = none) : ∀ (ds : List PyData) (vs : List Value), DRelL (fun _ => none) H ds vs → DRelL σ h ds vs
  | [], vs, r => by unfold DRelL at r ⊢; exact r
  | d :: ds, vs, r => by
    unfold DRelL at r ⊢
    refine box fun G9 k9 => ?_
    obtain ⟨v, vs', rfl, r1, r2⟩ := r
    refine k9 ?_; clear k9 G9
    exact ⟨v, vs', rfl, DRel.old hk hn d v r1, DRelL.old hk hn ds vs' r2⟩
end
theorem St.untOld (S : St B c ρ σ s) {b : Addr} {o : Obj} (e : B.H0.get? b = some o) : σ b = none := by
  cases q : σ b with
  | none => rfl
  | some ao => have := S.old q; rw [e] at this; cases this
theorem VRel.old (S : St B c ρ σ s) {v : Value} {av : AV} (r : VRel (fun _ => none) B.H0 v av) : VRel σ s.heap v av := by
  cases av with
  | data d => exact DRel.old S.keep (fun b o e => S.untOld e) d v r
  | ref a => exact r
  | val w => exact r
  | clo fd =>
    refine box fun G9 k9 => ?_
    obtain ⟨a, o, h1, _, h2, h3, h4, c', oc, vs, t, f1, _, f3, f4, f5, f6⟩ := r
    refine k9 ?_; clear k9 G9
    exact ⟨a, o, h1, S.untOld h2, S.keep _ _ h2, h3, h4, c', oc, vs, t, f1, S.untOld f3, S.keep _ _ f3, f4, f5, f6⟩

inductive GAt : List (Str × AV) → Str → AV → Prop
  | here {x v r} : GAt ((x, v) :: r) x v
  | there {p x v r} : GAt r x v → GAt (p :: r) x v
theorem GAt.mem {gs : List (Str × AV)} {x : Str} {v : AV} (a : GAt gs x v) : (x, v) ∈ gs := by
  induction a with
  | here => exact .head _
  | there _ ih => exact .tail _ ih

noncomputable def W2 (B : Bs) (c : Cx) (f : Value → Value → Sem Value) (a b : AV) (ρ : Loc) (σ : AH) (Q : AV → AH → Prop) (X : XT) : Prop :=
  ∀ v u s, St B c ρ σ s → VRel σ s.heap v a → VRel σ s.heap u b → wpAny B.M c.A (f v u) (PG VRel B c ρ σ s Q) (PX B c σ s X) s
noncomputable def WTr (B : Bs) (c : Cx) (a : AV) (ρ : Loc) (σ : AH) (Q : Bool → AH → Prop) (X : XT) : Prop :=
  ∀ v s, St B c ρ σ s → VRel σ s.heap v a → wpAny B.M c.A (truthy v) (PG BRel B c ρ σ s Q) (PX B c σ s X) s

/-! what stands behind a part, as words of their own -/
noncomputable abbrev opK (B : Bs) (c : Cx) (f : Value → Value → Sem Value) (a : AV) (ρ : Loc) (Q : AV → AH → Prop) (X : XT) : AV → AH → Prop := fun b σ₂ => W2 B c f a b ρ σ₂ Q X
noncomputable abbrev binK (B : Bs) (c : Cx) (r : Expr) (f : Value → Value → Sem Value) (ρ : Loc) (Q : AV → AH → Prop) (X : XT) : AV → AH → Prop := fun a σ₁ => WE B c r ρ σ₁ (opK B c f a ρ Q X) X
noncomputable abbrev truK (B : Bs) (c : Cx) (ρ : Loc) (Q : Bool → AH → Prop) (X : XT) : AV → AH → Prop := fun a σ₁ => WTr B c a ρ σ₁ Q X
noncomputable abbrev ifxK (B : Bs) (c : Cx) (b e : Expr) (ρ : Loc) (Q : AV → AH → Prop) (X : XT) : Bool → AH → Prop := fun y σ₁ => if y = true then WE B c b ρ σ₁ Q X else WE B c e ρ σ₁ Q X
noncomputable abbrev andK2 (B : Bs) (c : Cx) (a : AV) (e : Expr) (ρ : Loc) (Q : AV → AH → Prop) (X : XT) : Bool → AH → Prop := fun y σ₂ => if y = true then WE B c e ρ σ₂ Q X else Q a σ₂
noncomputable abbrev orK2 (B : Bs) (c : Cx) (a : AV) (e : Expr) (ρ : Loc) (Q : AV → AH → Prop) (X : XT) : Bool → AH → Prop := fun y σ₂ => if y = true then Q a σ₂ else WE B c e ρ σ₂ Q X
noncomputable abbrev andK (B : Bs) (c : Cx) (e : Expr) (ρ : Loc) (Q : AV → AH → Prop) (X : XT) : AV → AH → Prop := fun a σ₁ => WTr B c a ρ σ₁ (andK2 B c a e ρ Q X) X
noncomputable abbrev orK (B : Bs) (c : Cx) (e : Expr) (ρ : Loc) (Q : AV → AH → Prop) (X : XT) : AV → AH → Prop := fun a σ₁ => WTr B c a ρ σ₁ (orK2 B c a e ρ Q X) X
noncomputable abbrev ntK (Q : Bool → AH → Prop) : Bool → AH → Prop := fun b σ₁ => Q (!b) σ₁
noncomputable abbrev tandK (B : Bs) (c : Cx) (e : Expr) (ρ : Loc) (Q : Bool → AH → Prop) (X : XT) : Bool → AH → Prop := fun b σ₁ => if b = true then WT B c e ρ σ₁ Q X else Q false σ₁
noncomputable abbrev torK (B : Bs) (c : Cx) (e : Expr) (ρ : Loc) (Q : Bool → AH → Prop) (X : XT) : Bool → AH → Prop := fun b σ₁ => if b = true then Q true σ₁ else WT B c e ρ σ₁ Q X

section
variable {Q : AV → AH → Prop} {X : XT}
theorem W_global {x : Str} {pos : Pos} {v : AV} (h : GAt B.gt x v) (q : Q v σ) (hk : c.env.kindOf x = some .globalImplicit := by rfl) (hd : (x == ("__debug__" : Str)) = false := by decide) : WE B c (.Name x pos) ρ σ Q X := fun s S => by
  refine box fun G9 k9 => ?_
  obtain ⟨u, hu, r⟩ := S.ok.b.gt x v h.mem
  refine k9 ?_; clear k9 G9
  have T := S.ok.b.T
  have G : s.heap.Ns c.env.globals B.mg := by rw [S.ok.globals]; exact T.g.keeps S.keep
  have Bu : s.heap.Ns c.env.builtins B.mb := by rw [S.ok.builtins]; exact T.b.keeps S.keep
  refine Name_function_global S.ok.kind hk ?_ hd
  rcases hu with hu | ⟨h1, h2⟩
  · exact loadGlobal_global G hu (PG.here S (r.old S) q)
  · exact loadGlobal_builtin G h1 Bu h2 (PG.here S (r.old S) q)

theorem W_BinOp {l r : Expr} {op : Operator} {pos : Pos} (h : WE B c l ρ σ (binK B c r (binaryOp op) ρ Q X) X) : WE B c (.BinOp l op r pos) ρ σ Q X := fun s S =>
  wpAny_BinOp (wpAny_mono (h s S) (fun v s₁ ⟨a, σ₁, S₁, E₁, r₁, q₁⟩ => wpAny_mono (q₁ s₁ S₁) (fun u s₂ ⟨b, σ₂, S₂, E₂, r₂, q₂⟩ =>
    wpAny_mono (q₂ v u s₂ S₂ (r₁.ext S₁.ns E₂) r₂) (fun _ _ h => h.weaken (E₁.trans E₂)) fun _ _ h => h.weaken (E₁.trans E₂)) fun _ _ h => h.weaken E₁) fun _ _ h => h)
theorem W_Compare {l r : Expr} {op : CmpOp} {pos : Pos} (h : WE B c l ρ σ (binK B c r (compareOp op) ρ Q X) X)
    (hm : behindInMarks op r = false := by with_unfolding_all rfl) : WE B c (.Compare l [op] [r] pos) ρ σ Q X := fun s S =>
  wpAny_Compare1 (wpAny_mono (h s S) (fun v s₁ ⟨a, σ₁, S₁, E₁, r₁, q₁⟩ => wpAny_mono (q₁ s₁ S₁) (fun u s₂ ⟨b, σ₂, S₂, E₂, r₂, q₂⟩ =>
    wpAny_mono (q₂ v u s₂ S₂ (r₁.ext S₁.ns E₂) r₂) (fun _ _ h => h.weaken (E₁.trans E₂)) fun _ _ h => h.weaken (E₁.trans E₂)) fun _ _ h => h.weaken E₁) fun _ _ h => h) hm
theorem W_IfExp {t b e : Expr} {pos : Pos} (h : WT B c t ρ σ (ifxK B c b e ρ Q X) X) : WE B c (.IfExp t b e pos) ρ σ Q X := fun s S =>
  IfExp_ (wpAny_mono (h s S) (fun v s₁ ⟨y, σ₁, S₁, E₁, r₁, q₁⟩ => by
    cases r₁
    cases v
    · exact WG.run q₁ S₁ E₁
    · exact WG.run q₁ S₁ E₁) fun _ _ h => h)

theorem W_and {e₁ e₂ : Expr} {rest : List Expr} {pos : Pos} (h : WE B c e₁ ρ σ (andK B c (.BoolOp .And (e₂ :: rest) pos) ρ Q X) X) : WE B c (.BoolOp .And (e₁ :: e₂ :: rest) pos) ρ σ Q X := fun s S =>
  BoolOp_and (wpAny_mono (h s S) (fun v s₁ ⟨a, σ₁, S₁, E₁, r₁, q₁⟩ => wpAny_mono (q₁ v s₁ S₁ r₁) (fun y s₂ ⟨y', σ₂, S₂, E₂, r₂, q₂⟩ => by
    cases r₂
    cases y
    · exact ⟨a, σ₂, S₂, E₁.trans E₂, r₁.ext S₁.ns E₂, q₂⟩
    · exact WG.run q₂ S₂ (E₁.trans E₂)) fun _ _ h => h.weaken E₁) fun _ _ h => h)
theorem W_or {e₁ e₂ : Expr} {rest : List Expr} {pos : Pos} (h : WE B c e₁ ρ σ (orK B c (.BoolOp .Or (e₂ :: rest) pos) ρ Q X) X) : WE B c (.BoolOp .Or (e₁ :: e₂ :: rest) pos) ρ σ Q X := fun s S =>
  BoolOp_or (wpAny_mono (h s S) (fun v s₁ ⟨a, σ₁, S₁, E₁, r₁, q₁⟩ => wpAny_mono (q₁ v s₁ S₁ r₁) (fun y s₂ ⟨y', σ₂, S₂, E₂, r₂, q₂⟩ => by
    cases r₂
    cases y
    · exact WG.run q₂ S₂ (E₁.trans E₂)
    · exact ⟨a, σ₂, S₂, E₁.trans E₂, r₁.ext S₁.ns E₂, q₂⟩) fun _ _ h => h.weaken E₁) fun _ _ h => h)
theorem W_bool1 {op : BoolOp} {e : Expr} {pos : Pos} (h : WE B c e ρ σ Q X) : WE B c (.BoolOp op [e] pos) ρ σ Q X := fun s S => BoolOp_one (h s S)
end

section
variable {Q : Bool → AH → Prop} {X : XT}
theorem WT_value {e : Expr} (h : WE B c e ρ σ (truK B c ρ Q X) X)
    (he : isTrue e c.env (eval e c.env) = (do let v ← eval e c.env; standAt e.pos; holding [v] (truthy v)) := by rfl) : WT B c e ρ σ Q X := fun s S =>
  isTrue_plain (wpAny_mono (h s S) (fun v s₁ ⟨a, σ₁, S₁, E₁, r₁, q₁⟩ => wpAny_mono (q₁ v s₁ S₁ r₁) (fun _ _ h => h.weaken E₁) fun _ _ h => h.weaken E₁) fun _ _ h => h) he
theorem WT_Compare {l r : Expr} {op : CmpOp} {pos : Pos} (h : WE B c l ρ σ (binK B c r (compareOp op) ρ (truK B c ρ Q X) X) X)
    (hm : behindInMarks op r = false := by with_unfolding_all rfl) : WT B c (.Compare l [op] [r] pos) ρ σ Q X := fun s S =>
  wpAny_isTrue_Compare1 (wpAny_mono (h s S) (fun v s₁ ⟨a, σ₁, S₁, E₁, r₁, q₁⟩ => wpAny_mono (q₁ s₁ S₁) (fun u s₂ ⟨b, σ₂, S₂, E₂, r₂, q₂⟩ =>
    wpAny_mono (q₂ v u s₂ S₂ (r₁.ext S₁.ns E₂) r₂) (fun y s₃ ⟨b, σ₃, S₃, E₃, r₃, q₃⟩ => wpAny_mono (q₃ y s₃ S₃ r₃) (fun _ _ h => h.weaken ((E₁.trans E₂).trans E₃)) fun _ _ h => h.weaken ((E₁.trans E₂).trans E₃))
      fun _ _ h => h.weaken (E₁.trans E₂)) fun _ _ h => h.weaken E₁) fun _ _ h => h) hm
theorem WT_not {x : Expr} {pos : Pos} (h : WT B c x ρ σ (ntK Q) X) : WT B c (.UnaryOp .Not x pos) ρ σ Q X := fun s S =>
  isTrue_not (wpAny_mono (h s S) (fun b s₁ ⟨b', σ₁, S₁, E₁, r₁, q₁⟩ => ⟨!b', σ₁, S₁, E₁, by cases r₁; rfl, q₁⟩) fun _ _ h => h)
theorem WT_and {x : Expr} {rest : List Expr} {pos : Pos} (h : WT B c x ρ σ (tandK B c (.BoolOp .And rest pos) ρ Q X) X) : WT B c (.BoolOp .And (x :: rest) pos) ρ σ Q X := fun s S =>
  isTrue_and (wpAny_mono (h s S) (fun b s₁ ⟨b', σ₁, S₁, E₁, r₁, q₁⟩ => by
    cases r₁
    cases b
    · exact ⟨false, σ₁, S₁, E₁, rfl, q₁⟩
    · exact WG.run q₁ S₁ E₁) fun _ _ h => h)
theorem WT_and0 {pos : Pos} (q : Q true σ) : WT B c (.BoolOp .And [] pos) ρ σ Q X := fun s S => isTrue_and_nil (PG.here S rfl q)
theorem WT_or {x : Expr} {rest : List Expr} {pos : Pos} (h : WT B c x ρ σ (torK B c (.BoolOp .Or rest pos) ρ Q X) X) : WT B c (.BoolOp .Or (x :: rest) pos) ρ σ Q X := fun s S =>
  isTrue_or (wpAny_mono (h s S) (fun b s₁ ⟨b', σ₁, S₁, E₁, r₁, q₁⟩ => by
    cases r₁
    cases b
    · exact WG.run q₁ S₁ E₁
    · exact ⟨true, σ₁, S₁, E₁, rfl, q₁⟩) fun _ _ h => h)
theorem WT_or0 {pos : Pos} (q : Q false σ) : WT B c (.BoolOp .Or [] pos) ρ σ Q X := fun s S => isTrue_or_nil (PG.here S rfl q)
theorem WTr_bool {b : Bool} (q : Q b σ) : WTr B c (.data (.bool b)) ρ σ Q X := fun v s S r => by
  have r' : DRel σ s.heap (.bool b) v := r
  unfold DRel at r'; subst r'
  exact wpAny_truthy_bool (PG.here S rfl q)
end

theorem drel_int {σ : AH} {h : Heap} {i : Int} {t : Tok} : VRel σ h (.int i t) (.data (.int i)) := by show DRel _ _ _ _; unfold DRel; exact ⟨t, rfl⟩
theorem drel_str {σ : AH} {h : Heap} {i : Str} {t : Tok} : VRel σ h (.str i t) (.data (.str i)) := by show DRel _ _ _ _; unfold DRel; exact ⟨t, rfl⟩
theorem drel_bool {σ : AH} {h : Heap} {b : Bool} : VRel σ h (.bool b) (.data (.bool b)) := by show DRel _ _ _ _; unfold DRel; rfl
theorem drel_none {σ : AH} {h : Heap} : VRel σ h .none (.data .none) := by show DRel _ _ _ _; unfold DRel; rfl
theorem int_of {σ : AH} {h : Heap} {i : Int} {v : Value} (r : VRel σ h v (.data (.int i))) : ∃ t, v = .int i t := by have r' : DRel _ _ _ _ := r; unfold DRel at r'; exact r'
theorem str_of {σ : AH} {h : Heap} {i : Str} {v : Value} (r : VRel σ h v (.data (.str i))) : ∃ t, v = .str i t := by have r' : DRel _ _ _ _ := r; unfold DRel at r'; exact r'
theorem bool_of {σ : AH} {h : Heap} {i : Bool} {v : Value} (r : VRel σ h v (.data (.bool i))) : v = .bool i := by have r' : DRel _ _ _ _ := r; unfold DRel at r'; exact r'
theorem none_of {σ : AH} {h : Heap} {v : Value} (r : VRel σ h v (.data .none)) : v = .none := by have r' : DRel _ _ _ _ := r; unfold DRel at r'; exact r'

section
variable {Q : AV → AH → Prop} {X : XT} {a b : Int} {x y : Str}
theorem W2_add (q : Q (.data (.int (a + b))) σ) : W2 B c (binaryOp .Add) (.data (.int a)) (.data (.int b)) ρ σ Q X := fun v u s S r1 r2 => by
  obtain ⟨t, rfl⟩ := int_of r1; obtain ⟨t', rfl⟩ := int_of r2
  exact add_int (PG.now S drel_int q)
theorem W2_sub (q : Q (.data (.int (a - b))) σ) : W2 B c (binaryOp .Sub) (.data (.int a)) (.data (.int b)) ρ σ Q X := fun v u s S r1 r2 => by
  obtain ⟨t, rfl⟩ := int_of r1; obtain ⟨t', rfl⟩ := int_of r2
  exact sub_int (PG.now S drel_int q)
theorem W2_mod (hb : b ≠ 0) (q : Q (.data (.int (a.fmod b))) σ) : W2 B c (binaryOp .Mod) (.data (.int a)) (.data (.int b)) ρ σ Q X := fun v u s S r1 r2 => by
  obtain ⟨t, rfl⟩ := int_of r1; obtain ⟨t', rfl⟩ := int_of r2
  exact mod_int hb (PG.now S drel_int q)
theorem W2_pow (h0 : 0 ≤ b) (hb : ((Builtin.Int.intBits a : Nat) : Int) * b ≤ 2 ^ 27) (q : Q (.data (.int (a ^ b.toNat))) σ) : W2 B c (binaryOp .Pow) (.data (.int a)) (.data (.int b)) ρ σ Q X := fun v u s S r1 r2 => by
  obtain ⟨t, rfl⟩ := int_of r1; obtain ⟨t', rfl⟩ := int_of r2
  exact pow_int h0 hb (PG.now S drel_int q)
theorem W2_iadd (q : Q (.data (.int (a + b))) σ) : W2 B c (inplaceOp .Add) (.data (.int a)) (.data (.int b)) ρ σ Q X := fun v u s S r1 r2 => by
  obtain ⟨t, rfl⟩ := int_of r1; obtain ⟨t', rfl⟩ := int_of r2
  exact wpAny_iadd_int (PG.now S drel_int q)
theorem W2_lt (q : Q (.data (.bool (decide (a < b)))) σ) : W2 B c (compareOp .Lt) (.data (.int a)) (.data (.int b)) ρ σ Q X := fun v u s S r1 r2 => by
  obtain ⟨t, rfl⟩ := int_of r1; obtain ⟨t', rfl⟩ := int_of r2
  exact wpAny_lt_int (PG.here S drel_bool q)
theorem W2_gt (q : Q (.data (.bool (decide (b < a)))) σ) : W2 B c (compareOp .Gt) (.data (.int a)) (.data (.int b)) ρ σ Q X := fun v u s S r1 r2 => by
  obtain ⟨t, rfl⟩ := int_of r1; obtain ⟨t', rfl⟩ := int_of r2
  exact gt_int (PG.here S drel_bool q)
theorem W2_le (q : Q (.data (.bool (decide (a ≤ b)))) σ) : W2 B c (compareOp .LtE) (.data (.int a)) (.data (.int b)) ρ σ Q X := fun v u s S r1 r2 => by
  obtain ⟨t, rfl⟩ := int_of r1; obtain ⟨t', rfl⟩ := int_of r2
  exact le_int (PG.here S drel_bool q)
theorem W2_addS (hsz : x.length + y.length ≤ sizeLine) (q : Q (.data (.str (x ++ y))) σ) : W2 B c (binaryOp .Add) (.data (.str x)) (.data (.str y)) ρ σ Q X := fun v u s S r1 r2 => by
  obtain ⟨t, rfl⟩ := str_of r1; obtain ⟨t', rfl⟩ := str_of r2
  exact add_str (fun t' tk => PG.now S drel_str q) hsz
end
end
/-! W6 -/
section
open PySem PySem.W PyProof.Rows PySem.Calls PySem.Spec
variable {B : Bs} {c : Cx} {ρ : Loc} {σ : AH} {s : Shared}

/-- a list of expressions, left to right -/
noncomputable def WA (B : Bs) (c : Cx) (es : List Expr) (ρ : Loc) (σ : AH) (Q : List AV → AH → Prop) (X : XT) : Prop :=
  ∀ pos, WG VRelL B c (spliced (backTo pos (starEach es c.env))) ρ σ Q X
noncomputable abbrev pushK (a : AV) (Q : List AV → AH → Prop) : List AV → AH → Prop := fun as σ₂ => Q (a :: as) σ₂
noncomputable abbrev consK (B : Bs) (c : Cx) (rest : List Expr) (ρ : Loc) (Q : List AV → AH → Prop) (X : XT) : AV → AH → Prop := fun a σ₁ => WA B c rest ρ σ₁ (pushK a Q) X
inductive tupK (F : List PyData → PyData) (Q : AV → AH → Prop) (as : List AV) (σ₁ : AH) : Prop
  | mk (ds : List PyData) (e : as = ds.map .data) (h : ds.length ≤ sizeLine) (q : Q (.data (F ds)) σ₁) : tupK F Q as σ₁
noncomputable abbrev ltK (Q : AV → AH → Prop) : List AV → AH → Prop := fun as σ₁ => as.length ≤ sizeLine ∧ ∀ a, σ₁ a = none → Q (.ref a) (upd σ₁ a (.list as))
section
variable {Q : List AV → AH → Prop} {X : XT}
theorem WA_nil (q : Q [] σ) : WA B c [] ρ σ Q X := fun pos s S => spliced_nil (PG.here S .nil q)
theorem WA_cons {e : Expr} {rest : List Expr} (h : WE B c e ρ σ (consK B c rest ρ Q X) X) (he : starEach (e :: rest) c.env = (false, eval e c.env) :: starEach rest c.env := by rfl) :
    WA B c (e :: rest) ρ σ Q X := fun pos s S => by
  rw [he]
  exact spliced_cons (wpAny_mono (h s S) (fun v s₁ ⟨a, σ₁, S₁, E₁, r₁, q₁⟩ => wpAny_mono (q₁ pos s₁ S₁) (fun vs s₂ ⟨as, σ₂, S₂, E₂, r₂, q₂⟩ =>
    ⟨a :: as, σ₂, S₂, E₁.trans E₂, .cons (r₁.ext S₁.ns E₂) r₂, q₂⟩) fun _ _ h => h.weaken E₁) fun _ _ h => h)
end

theorem drelL_of {σ : AH} {h : Heap} : ∀ {vs : List Value} {ds : List PyData}, VRelL σ h vs (ds.map .data) → DRelL σ h ds vs
  | [], [], _ => by unfold DRelL; rfl
  | v :: vs, d :: ds, r => by
    cases r with
    | cons a r => unfold DRelL; exact ⟨v, vs, rfl, a, drelL_of r⟩
theorem vrelL_of {σ : AH} {h : Heap} : ∀ {vs : List Value} {ds : List PyData}, DRelL σ h ds vs → VRelL σ h vs (ds.map .data)
  | vs, [], r => by unfold DRelL at r; subst r; exact .nil
  | vs, d :: ds, r => by
    unfold DRelL at r
    refine box fun G9 k9 => ?_
    obtain ⟨v, vs', rfl, a, r⟩ := r
    refine k9 ?_; clear k9 G9
    exact .cons a (vrelL_of r)
theorem St.H0fresh (S : St B c ρ σ s) {a : Addr} (e : s.heap.get? a = none) : B.H0.get? a = none := by
  cases q : B.H0.get? a with
  | none => rfl
  | some o => have := S.keep _ _ q; rw [e] at this; cases this
theorem push_keep {h : Heap} (o : Obj) : ∀ b o', h.get? b = some o' → (h.push o).get? b = some o' := fun _ _ e => Heap.get?_push_of_some o e

section
variable {Q : AV → AH → Prop} {X : XT}
theorem W_Tuple {es : List Expr} {k : Nat} {pos : Pos} (h : WA B c es ρ σ (tupK .tuple Q) X) : WE B c (.Tuple es k pos) ρ σ Q X := fun s S => by
  refine wpAny_Tuple (wpAny_mono (h pos s S) (fun vs s₁ ⟨as, σ₁, S₁, E₁, r₁, ds, e, hl, q₁⟩ => ?_) fun _ _ h => h)
  subst e
  have hlen := r₁.length
  simp only [List.length_map] at hlen
  refine ⟨by rw [hlen]; exact hl, ?_⟩
  obtain ⟨S₂, E₂⟩ := S₁.grow (tk := s₁.toks) (push_keep { cls := Value.type "tuple", data := Data.seq vs.toArray })
  refine ⟨_, _, S₂, E₁.trans E₂, ?_, q₁⟩
  show DRel _ _ _ _
  unfold DRel
  exact ⟨_, _, _, _, rfl, S₁.fresh, Heap.get?_push_size _ rfl, rfl, rfl, drelL_of (r₁.ext S₁.ns E₂)⟩
theorem W_List {es : List Expr} {pos : Pos} (h : WA B c es ρ σ (tupK .list Q) X) : WE B c (.List es pos) ρ σ Q X := fun s S => by
  refine wpAny_List (wpAny_mono (h pos s S) (fun vs s₁ ⟨as, σ₁, S₁, E₁, r₁, ds, e, hl, q₁⟩ => ?_) fun _ _ h => h)
  subst e
  have hlen := r₁.length
  simp only [List.length_map] at hlen
  refine ⟨by rw [hlen]; exact hl, ?_⟩
  obtain ⟨S₂, E₂⟩ := S₁.grow (tk := s₁.toks) (push_keep { cls := Value.type "list", data := Data.seq vs.toArray })
  refine ⟨_, _, S₂, E₁.trans E₂, ?_, q₁⟩
  show DRel _ _ _ _
  unfold DRel
  exact ⟨_, _, _, _, rfl, S₁.fresh, Heap.get?_push_size _ rfl, rfl, rfl, drelL_of (r₁.ext S₁.ns E₂)⟩
/-- a list that is tracked -/
theorem W_ListT {es : List Expr} {pos : Pos} (h : WA B c es ρ σ (ltK Q) X) : WE B c (.List es pos) ρ σ Q X := fun s S => by
  refine wpAny_List (wpAny_mono (h pos s S) (fun vs s₁ ⟨as, σ₁, S₁, E₁, r₁, hl, q₁⟩ => ?_) fun _ _ h => h)
  refine ⟨by rw [r₁.length]; exact hl, ?_⟩
  obtain ⟨S₂, E₂⟩ := S₁.growT (tk := s₁.toks) (a := s₁.heap.objs.size) (ao := .list as) (push_keep { cls := Value.type "list", data := Data.seq vs.toArray }) fresh_none (S₁.H0fresh fresh_none) ⟨_, Heap.get?_push_size _ rfl⟩
    fun E => ⟨_, _, Heap.get?_push_size _ rfl, r₁.ext S₁.ns E⟩
  exact ⟨.ref s₁.heap.objs.size, _, S₂, E₁.trans E₂, rfl, q₁ _ S₁.fresh⟩
end

/-- an item, by the value's own type -/
noncomputable def WI (B : Bs) (c : Cx) (a i : AV) (ρ : Loc) (σ : AH) (Q : AV → AH → Prop) (X : XT) : Prop :=
  ∀ v u s, St B c ρ σ s → VRel σ s.heap v a → VRel σ s.heap u i →
    ∃ T id, typeLookup (.type T) "__getitem__" = pure (some (.builtin id)) ∧ s.TypeIs v T ∧ wpAny B.M c.A (getItem v u) (PG VRel B c ρ σ s Q) (PX B c σ s X) s
noncomputable abbrev itK (B : Bs) (c : Cx) (a : AV) (ρ : Loc) (Q : AV → AH → Prop) (X : XT) : AV → AH → Prop := fun b σ₂ => WI B c a b ρ σ₂ Q X
noncomputable abbrev subK (B : Bs) (c : Cx) (r : Expr) (ρ : Loc) (Q : AV → AH → Prop) (X : XT) : AV → AH → Prop := fun a σ₁ => WE B c r ρ σ₁ (itK B c a ρ Q X) X
section
variable {Q : AV → AH → Prop} {X : XT}
theorem W_Subscript {l r : Expr} {pos : Pos} (h : WE B c l ρ σ (subK B c r ρ Q X) X)
    (hs : ∀ o i, subscripted r false o i = operate [o, i] (getItem o i) := by intro _ _; rfl) : WE B c (.Subscript l r pos) ρ σ Q X := fun s S => by
  rw [eval_Subscript]
  refine wpAny_bind (wpAny_mono (h s S) (fun v s₁ ⟨a, σ₁, S₁, E₁, r₁, q₁⟩ => wpAny_bind (wpAny_holding (wpAny_mono (q₁ s₁ S₁) (fun u s₂ ⟨b, σ₂, S₂, E₂, r₂, q₂⟩ => wpAny_bind (wpAny_standAt ?_)) fun _ _ h => h.weaken E₁))) fun _ _ h => h)
  refine box fun G9 k9 => ?_
  obtain ⟨T, id, hl, hT, hg⟩ := q₂ v u s₂ S₂ (r₁.ext S₁.ns E₂) r₂
  refine k9 ?_; clear k9 G9
  refine wpAny_bind ?_
  rw [getitemInPython_of_ne hT.not_modules]
  refine wpAny_bind (wpAny_specialOf hT hl ?_)
  refine wpAny_pure ?_
  rw [hs]
  exact wpAny_bind (wpAny_operating (wpAny_mono hg (fun r s₃ h₃ => wpAny_bind (wpAny_letTemporaryGo (wpAny_pure (h₃.weaken (E₁.trans E₂))))) fun _ _ h => h.weaken (E₁.trans E₂)))
end

theorem DRelL.toL {σ : AH} {h : Heap} {ds : List PyData} {vs : List Value} (r : DRelL σ h ds vs) {i : Nat} {d : PyData} (e : ds[i]? = some d) : ∃ v, vs[i]? = some v ∧ VRel σ h v (.data d) := (vrelL_of r).get (by rw [List.getElem?_map, e]; rfl)
theorem seqIndex_nat {k : Int} {n : Nat} (h0 : 0 ≤ k) (h1 : k < n) : seqIndex? k n = some k.toNat := by
  unfold seqIndex?
  simp [show ¬ k < 0 by lia, h0, h1]

section
variable {Q : AV → AH → Prop} {X : XT}
/-- a tuple's place -/
theorem WI_tuple {ds : List PyData} {k : Int} {d : PyData} (h0 : 0 ≤ k) (hk : k < 2 ^ 63) (e : ds[k.toNat]? = some d) (q : Q (.data d) σ) : WI B c (.data (.tuple ds)) (.data (.int k)) ρ σ Q X := fun v u s S r1 r2 => by
  obtain ⟨t, rfl⟩ := int_of r2
  have r1' : DRel _ _ _ _ := r1
  unfold DRel at r1'
  refine box fun G9 k9 => ?_
  obtain ⟨a, o, vs, n, rfl, _, ho, hc, hd, hl⟩ := r1'
  obtain ⟨x, hx, rx⟩ := hl.toL e
  refine k9 ?_; clear k9 G9
  have hx' : vs[k.toNat]? = some x := by simpa using hx
  have hlt : k.toNat < vs.size := (Array.getElem?_eq_some_iff.mp hx').1
  exact ⟨"tuple", _, Slot.lookup PySem.F.slot_tuple_getitem, ⟨o, ho, hc⟩, getItem_tuple ⟨o, ho, hc, n, hd⟩ (by lia) hk (seqIndex_nat h0 (by lia)) hx' (PG.here S rx q)⟩
/-- a frozen list's place -/
theorem WI_list {ds : List PyData} {k : Int} {d : PyData} (h0 : 0 ≤ k) (hk : k < 2 ^ 63) (e : ds[k.toNat]? = some d) (q : Q (.data d) σ) : WI B c (.data (.list ds)) (.data (.int k)) ρ σ Q X := fun v u s S r1 r2 => by
  obtain ⟨t, rfl⟩ := int_of r2
  have r1' : DRel _ _ _ _ := r1
  unfold DRel at r1'
  refine box fun G9 k9 => ?_
  obtain ⟨a, o, vs, n, rfl, _, ho, hc, hd, hl⟩ := r1'
  obtain ⟨x, hx, rx⟩ := hl.toL e
  refine k9 ?_; clear k9 G9
  have hx' : vs[k.toNat]? = some x := by simpa using hx
  exact ⟨"list", _, Slot.lookup PySem.F.slot_list_getitem, ⟨o, ho, hc⟩, wpAny_getItem_list ⟨o, ho, hc, n, hd⟩ h0 hk hx' (PG.here S rx q)⟩
/-- a tracked list's place -/
theorem WI_listT {a : Addr} {l : List AV} {k : Int} {x : AV} (hσ : σ a = some (.list l)) (h0 : 0 ≤ k) (hk : k < 2 ^ 63) (e : l[k.toNat]? = some x) (q : Q x σ) : WI B c (.ref a) (.data (.int k)) ρ σ Q X := fun v u s S r1 r2 => by
  obtain ⟨t, rfl⟩ := int_of r2
  cases r1
  refine box fun G9 k9 => ?_
  obtain ⟨_, _, vs, n, ho, hl⟩ := S.objs a _ hσ
  obtain ⟨x, hx, rx⟩ := hl.get e
  refine k9 ?_; clear k9 G9
  have hx' : vs[k.toNat]? = some x := by simpa using hx
  exact ⟨"list", _, Slot.lookup PySem.F.slot_list_getitem, ⟨_, ho, rfl⟩, wpAny_getItem_list ⟨_, ho, rfl, n, rfl⟩ h0 hk hx' (PG.here S rx q)⟩
/-- a tracked list's last -/
theorem WI_listT_last {a : Addr} {l : List AV} {x : AV} (hσ : σ a = some (.list (l ++ [x]))) (hl : l.length < 2 ^ 62) (q : Q x σ) : WI B c (.ref a) (.data (.int (-1))) ρ σ Q X := fun v u s S r1 r2 => by
  obtain ⟨t, rfl⟩ := int_of r2
  cases r1
  refine box fun G9 k9 => ?_
  obtain ⟨_, _, vs, n, ho, hr⟩ := S.objs a _ hσ
  refine k9 ?_; clear k9 G9
  have hlen := hr.length
  simp only [List.length_append, List.length_cons, List.length_nil, Array.length_toList] at hlen
  refine box fun G9 k9 => ?_
  obtain ⟨x', hx, rx⟩ := hr.get (i := l.length) (x := x) (by simp)
  refine k9 ?_; clear k9 G9
  have hx' : vs[l.length]? = some x' := by simpa using hx
  refine ⟨"list", _, Slot.lookup PySem.F.slot_list_getitem, ⟨_, ho, rfl⟩, wpAny_getItem_list_neg ⟨_, ho, rfl, n, rfl⟩ (by lia) (by lia) (by lia) (x := x') ?_ (PG.here S rx q)⟩
  rw [show (-1 + (vs.size : Int)).toNat = l.length by lia]
  exact hx'
end
end
/-! W7 -/
section
open PySem PySem.W PyProof.Rows PySem.Calls PySem.Spec
variable {B : Bs} {c : Cx} {ρ : Loc} {σ : AH} {s : Shared}

inductive AAt : List (Str × AV) → Str → AV → Prop
  | here {x v r} : AAt ((x, v) :: r) x v
  | there {p x v r} : AAt r x v → AAt (p :: r) x v
inductive APut : List (Str × AV) → Str → AV → List (Str × AV) → Prop
  | here {x w v r} : APut ((x, w) :: r) x v ((x, v) :: r)
  | there {p x v r r'} : APut r x v r' → APut (p :: r) x v (p :: r')
theorem AAt.mem {l : List (Str × AV)} {x : Str} {v : AV} (a : AAt l x v) : (x, v) ∈ l := by
  induction a with
  | here => exact .head _
  | there _ ih => exact .tail _ ih
theorem APut.names {l l' : List (Str × AV)} {x : Str} {v : AV} (p : APut l x v l') : l'.map (·.1) = l.map (·.1) := by
  induction p with
  | here => rfl
  | there _ ih => simp [ih]
theorem APut.isIn {l l' : List (Str × AV)} {x : Str} {v : AV} (p : APut l x v l') : x ∈ l.map (·.1) := by
  induction p with
  | here => simp
  | there _ ih => simp only [List.map_cons, List.mem_cons]; exact .inr ih

theorem isStr_key {x y : Str} {t : Tok} : (Value.str x t).isStr y = (x == y) := rfl
theorem ARel.noRef {h : Heap} {P : Params} : ∀ {es : List DictEntry} {ats : List (Str × AV)}, ARel σ h P es ats → es.any (·.refKey) = false
  | [], _, _ => rfl
  | e :: es, _, ⟨x, av, r, rfl, ⟨t, k⟩, hh, v, rr⟩ => by
    rw [List.any_cons, ARel.noRef rr, Bool.or_false]
    unfold DictEntry.refKey
    rw [k]
theorem ARel.find {h : Heap} {P : Params} {name : Str} {av : AV} : ∀ {es : List DictEntry} {ats : List (Str × AV)}, ARel σ h P es ats → (ats.map (·.1)).Nodup → (name, av) ∈ ats →
    ∃ v, getL name es = some (some v) ∧ VRel σ h v av
  | [], _, r, _, hm => by have r' : _ = [] := r; subst r'; cases hm
  | e :: es, _, ⟨x, aw, r, rfl, ⟨t, k⟩, hh, v, rr⟩, nd, hm => by
    simp only [List.map_cons, List.nodup_cons] at nd
    unfold getL
    rw [List.find?_cons]
    by_cases hx : name = x
    · subst hx
      have hav : av = aw := by
        rcases List.mem_cons.mp hm with q | q
        · cases q; rfl
        · exact absurd (List.mem_map.mpr ⟨_, q, rfl⟩) nd.1
      subst hav
      rw [k, isStr_key, beq_self_eq_true]
      exact ⟨_, rfl, v⟩
    · rw [k, isStr_key, beq_eq_false_iff_ne.mpr (Ne.symm hx)]
      have hm' : (name, av) ∈ r := by
        rcases List.mem_cons.mp hm with q | q
        · cases q; exact absurd rfl hx
        · exact q
      refine box fun G9 k9 => ?_
      obtain ⟨u, hu, ru⟩ := ARel.find rr nd.2 hm'
      refine k9 ?_; clear k9 G9
      unfold getL at hu
      refine ⟨u, ?_, ru⟩
      rw [← hu, List.any_cons]
      have : e.refKey = false := by unfold DictEntry.refKey; rw [k]
      rw [this, Bool.false_or]
theorem ARel.miss {h : Heap} {P : Params} {name : Str} : ∀ {es : List DictEntry} {ats : List (Str × AV)}, ARel σ h P es ats → name ∉ ats.map (·.1) → getL name es = some none := by
  intro es ats r hn
  have f : es.find? (·.key.isStr name) = none := by
    induction es generalizing ats with
    | nil => rfl
    | cons e es ih =>
      refine box fun G9 k9 => ?_
      obtain ⟨x, aw, r', rfl, ⟨t, k⟩, hh, v, rr⟩ := r
      refine k9 ?_; clear k9 G9
      simp only [List.map_cons, List.mem_cons, not_or] at hn
      rw [List.find?_cons, k, isStr_key, beq_eq_false_iff_ne.mpr (Ne.symm hn.1)]
      exact ih rr hn.2
  unfold getL
  rw [f, r.noRef]; rfl
theorem ARel.put {h : Heap} {P : Params} {name : Str} {av : AV} {v : Value} {t : Tok} {hsh : Int} {ats ats' : List (Str × AV)} (hv : VRel σ h v av) (p : APut ats name av ats') : ∀ {es : List DictEntry}, ARel σ h P es ats → (ats.map (·.1)).Nodup →
    ARel σ h P (putL name hsh (.str name t) v es) ats' := by
  induction p with
  | here =>
    intro es r nd
    cases es with
    | nil => cases r
    | cons e es =>
      refine box fun G9 k9 => ?_
      obtain ⟨x, aw, r', q, ⟨t', k⟩, hh, v', rr⟩ := r
      refine k9 ?_; clear k9 G9
      cases q
      unfold putL
      rw [k, isStr_key, beq_self_eq_true]
      exact ⟨_, _, _, rfl, ⟨t', rfl⟩, hh, hv, rr⟩
  | there q ih =>
    intro es r nd
    cases es with
    | nil => cases r
    | cons e es =>
      refine box fun G9 k9 => ?_
      obtain ⟨x, aw, r', q', ⟨t', k⟩, hh, v', rr⟩ := r
      refine k9 ?_; clear k9 G9
      cases q'
      simp only [List.map_cons, List.nodup_cons] at nd
      have hne : x ≠ _ := fun z => nd.1 (by rw [z]; exact q.isIn)
      unfold putL
      rw [k, isStr_key, beq_eq_false_iff_ne.mpr hne]
      exact ⟨_, _, _, rfl, ⟨t', k⟩, hh, v', ih hv rr nd.2⟩
theorem ARel.add {h : Heap} {P : Params} {name : Str} {av : AV} {v : Value} {t : Tok} (hv : VRel σ h v av) : ∀ {es : List DictEntry} {ats : List (Str × AV)}, ARel σ h P es ats → name ∉ ats.map (·.1) →
    ARel σ h P (putL name (PyData.keyHash P name) (.str name t) v es) (ats ++ [(name, av)])
  | [], _, r, _ => by have r' : _ = [] := r; subst r'; exact ⟨_, _, _, rfl, ⟨t, rfl⟩, rfl, hv, rfl⟩
  | e :: es, _, ⟨x, aw, r', rfl, ⟨t', k⟩, hh, v', rr⟩, hn => by
    simp only [List.map_cons, List.mem_cons, not_or] at hn
    unfold putL
    rw [k, isStr_key, beq_eq_false_iff_ne.mpr (Ne.symm hn.1)]
    exact ⟨_, _, _, rfl, ⟨t', k⟩, hh, v', ARel.add hv rr hn.2⟩
theorem ARel.length {h : Heap} {P : Params} : ∀ {es : List DictEntry} {ats : List (Str × AV)}, ARel σ h P es ats → es.length = ats.length
  | [], _, r => by have r' : _ = [] := r; subst r'; rfl
  | e :: es, _, ⟨x, aw, r', rfl, _, _, _, rr⟩ => by simp [ARel.length rr]
theorem putL_length (name : Str) (hsh : Int) (k v : Value) : ∀ es : List DictEntry, (putL name hsh k v es).length ≤ es.length + 1
  | [] => by simp [putL]
  | e :: r => by
    unfold putL
    split
    · simp
    · simp only [List.length_cons]; have := putL_length name hsh k v r; lia

/-- every object but L's and D's, as a ledger -/
noncomputable def allBut (H h : Heap) (L D : Addr) : List (Addr × Obj) := (List.range h.objs.size).filterMap fun b => if b = L ∨ b = D ∨ (H.get? b).isSome = true then none else (h.get? b).map fun o => (b, o)
theorem mem_allBut {H h : Heap} {L D b : Addr} {o : Obj} : (b, o) ∈ allBut H h L D ↔ h.get? b = some o ∧ b ≠ L ∧ b ≠ D ∧ H.get? b = none := by
  unfold allBut
  rw [List.mem_filterMap]
  constructor
  · rintro ⟨b', hb, e⟩
    split at e
    · cases e
    · rename_i hn
      simp only [not_or] at hn
      refine box fun G9 k9 => ?_
      obtain ⟨o', ho, q⟩ := Option.map_eq_some_iff.mp e
      refine k9 ?_; clear k9 G9
      cases q
      exact ⟨ho, hn.1, hn.2.1, by simpa using hn.2.2⟩
  · rintro ⟨e, h1, h2, h3⟩
    refine ⟨b, List.mem_range.mpr (Heap.lt_size e), ?_⟩
    rw [if_neg (by simp [h1, h2, h3]), e]
    rfl
theorem news_allBut {H h : Heap} {L D : Addr} : News H L h (allBut H h L D) := fun p hp => by
  refine box fun G9 k9 => ?_
  obtain ⟨b, o⟩ := p
  obtain ⟨h1, h2, _, h3⟩ := mem_allBut.mp hp
  refine k9 ?_; clear k9 G9
  exact ⟨h1, h2, h3⟩

theorem St.setInst (S : St B c ρ σ s) {h' : Heap} {tk : Nat} {x C dx : Addr} {ats ats' : List (Str × AV)} (q : σ x = some (.inst C dx ats)) (hk : ∀ b o, b ≠ dx → b ≠ c.env.locals → s.heap.get? b = some o → h'.get? b = some o)
    (hn : ∀ m, s.heap.Ns c.env.locals m → h'.Ns c.env.locals m) (nd : (ats'.map (·.1)).Nodup)
    (hd : Ext c.env.locals σ s.heap (upd σ x (.inst C dx ats')) h' → ∃ es n, h'.get? dx = some (dictOf es n) ∧ ARel (upd σ x (.inst C dx ats')) h' B.w.params es ats') :
    St B c ρ (upd σ x (.inst C dx ats')) { s with heap := h', toks := tk } ∧ Ext c.env.locals σ s.heap (upd σ x (.inst C dx ats')) h' := by
  refine box fun G9 k9 => ?_
  obtain ⟨hx0, _, ex, od, _⟩ := S.objs x _ q
  refine k9 ?_; clear k9 G9
  have nxd : dx ≠ x := fun z => by rw [z, q] at od; cases od
  have xL := S.neL q
  have dL := S.neL od
  have hs : ∀ b, σ b = none → upd σ x (.inst C dx ats') b = none := fun b z => by rw [upd_ne]; exact z; rintro rfl; rw [q] at z; cases z
  have X : Ext c.env.locals σ s.heap (upd σ x (.inst C dx ats')) h' := Ext.of_keep (fun b o e z n => hk b o (by rintro rfl; rw [od] at z; cases z) n e) fun b o e z => hs b z
  refine box fun G9 k9 => ?_
  obtain ⟨es, n, hd1, hd2⟩ := hd X
  refine k9 ?_; clear k9 G9
  refine ⟨S.move ?_ rfl X (fun b o e z n => hk b o (by rintro rfl; rw [od] at z; cases z) n e) (by rw [upd_ne xL.symm]; exact S.loc) (fun b bo qb => ?_), X⟩
  · obtain ⟨m, hm, hr⟩ := S.locals
    exact ⟨m, hn m hm, fun y av hy => let ⟨v, h1, h2⟩ := hr y av hy; ⟨v, h1, h2.ext S.ns X⟩⟩
  · by_cases hb : b = x
    · subst hb
      rw [upd_same] at qb; cases qb
      refine ⟨hx0, ⟨_, hk _ _ nxd.symm xL ex⟩, hk _ _ nxd.symm xL ex, ?_, nd, es, n, hd1, hd2⟩
      rw [upd_ne nxd]; exact od
    · rw [upd_ne hb] at qb
      refine box fun G9 k9 => ?_
      obtain ⟨h0, ⟨o, e⟩, r⟩ := S.objs b bo qb
      refine k9 ?_; clear k9 G9
      by_cases hbd : b = dx
      · subst hbd
        rw [od] at qb; cases qb
        exact ⟨h0, ⟨_, hd1⟩, .inl ⟨C, ats', upd_same ..⟩⟩
      · refine ⟨h0, ⟨o, hk b o hbd (S.neL qb) e⟩, ?_⟩
        -- the other objects do not meet dx
        have key : ∀ d, d ≠ dx → ∀ o', σ d ≠ none → s.heap.get? d = some o' → h'.get? d = some o' := fun d hd' o' hnn e' => hk d o' hd' (fun z => hnn (by rw [z]; exact S.loc)) e'
        cases bo with
        | list l => obtain ⟨vs, n, e', v⟩ := r; exact ⟨vs, n, key b hbd _ (by rw [qb]; simp) e', v.ext S.ns X⟩
        | dictS es => obtain ⟨o, vs, n, e', x', d, v, nd⟩ := r; exact ⟨o, vs, n, key b hbd _ (by rw [qb]; simp) e', x', d, v.ext S.ns X, nd⟩
        | dictI es => obtain ⟨o, vs, n, e', x', d, v, nd⟩ := r; exact ⟨o, vs, n, key b hbd _ (by rw [qb]; simp) e', x', d, v.ext S.ns X, nd⟩
        | inst C' dx' ats'' =>
          refine box fun G9 k9 => ?_
          obtain ⟨e', od', nd', es', n', e2, v⟩ := r
          refine k9 ?_; clear k9 G9
          have hne : dx' ≠ dx := fun z => by rw [z, od] at od'; cases od'; exact hb rfl
          refine ⟨key b hbd _ (by rw [qb]; simp) e', ?_, nd', es', n', key dx' hne _ (by rw [od']; simp) e2, v.ext S.ns X⟩
          rw [upd_ne]; exact od'
          rintro rfl; rw [q] at od'; cases od'
        | exc C' dx' ats'' =>
          refine box fun G9 k9 => ?_
          obtain ⟨⟨fs, e'⟩, od', nd', es', n', e2, v⟩ := r
          refine k9 ?_; clear k9 G9
          have hne : dx' ≠ dx := fun z => by rw [z, od] at od'; cases od'; exact hb rfl
          refine ⟨⟨fs, key b hbd _ (by rw [qb]; simp) e'⟩, ?_, nd', es', n', key dx' hne _ (by rw [od']; simp) e2, v.ext S.ns X⟩
          rw [upd_ne]; exact od'
          rintro rfl; rw [q] at od'; cases od'
        | own y =>
          rcases r with ⟨C', a', z⟩ | ⟨C', a', z⟩
          · by_cases hy : y = x
            · subst hy; rw [q] at z; cases z; exact absurd rfl hbd
            · exact .inl ⟨C', a', by rw [upd_ne hy]; exact z⟩
          · by_cases hy : y = x
            · subst hy; rw [q] at z; cases z
            · exact .inr ⟨C', a', by rw [upd_ne hy]; exact z⟩
        | cell v =>
          refine box fun G9 k9 => ?_
          obtain ⟨o, v', e', d, r⟩ := r
          refine k9 ?_; clear k9 G9
          refine ⟨o, v', key b hbd _ (by rw [qb]; simp) e', d, ?_⟩
          cases v <;> cases v' <;> first | exact r | exact VRel.ext S.ns X r
        | tabl al => obtain ⟨ps, e', t, r⟩ := r; exact ⟨ps, key b hbd _ (by rw [qb]; simp) e', t, r.ext S.ns X⟩
        | raw o => exact key b hbd _ (by rw [qb]; simp) r

theorem attrOk_of {K : Frag} {C : Addr} {n : Str} (h : attrOkB K C n = true) : plainGet K C n = true ∧ hasDictIn K C = true ∧ (∃ a, findIn K (.ref C) n = some a ∧ noGet K a = true) ∧ plainOver K C = true ∧ takerIn K C n = some none ∧
    findIn K (.ref C) "__setattr__" = some (some (.builtin "object.__setattr__")) := by
  unfold attrOkB at h
  simp only [Bool.and_eq_true, beq_iff_eq] at h
  refine box fun G9 k9 => ?_
  obtain ⟨⟨⟨⟨⟨h1, h2⟩, h3⟩, h4⟩, h5⟩, h6⟩ := h
  refine k9 ?_; clear k9 G9
  refine ⟨h1, h2, ?_, h4, h5, h6⟩
  cases q : findIn K (.ref C) n with
  | none => rw [q] at h3; cases h3
  | some a => rw [q] at h3; exact ⟨a, rfl, h3⟩

noncomputable def avOk : AV → Bool
  | .val w => handedIn w
  | _ => true
theorem handed_of {h : Heap} {v : Value} {av : AV} (r : VRel σ h v av) (k : avOk av = true) : handedIn v = true := by
  cases av with
  | data d =>
    cases d with
    | none => rw [none_of r]; rfl
    | bool b => rw [bool_of r]; rfl
    | int i => obtain ⟨t, rfl⟩ := int_of r; rfl
    | str x => obtain ⟨t, rfl⟩ := str_of r; rfl
    | list l => have r' : DRel _ _ _ _ := r; unfold DRel at r'; obtain ⟨a, _, _, _, rfl, _⟩ := r'; rfl
    | tuple l => have r' : DRel _ _ _ _ := r; unfold DRel at r'; obtain ⟨a, _, _, _, rfl, _⟩ := r'; rfl
    | dict l => have r' : DRel _ _ _ _ := r; unfold DRel at r'; exact r'.elim
  | ref a => cases r; rfl
  | val w => cases r; exact k
  | clo fd => obtain ⟨a, _, rfl, _⟩ := r; rfl

theorem St.instAt (S : St B c ρ σ s) {x C dx : Addr} {ats : List (Str × AV)} (q : σ x = some (.inst C dx ats)) : ∃ es n, W.InstAt s.heap x (instObj C dx) C (some (dictOf es n)) ∧ s.heap.get? dx = some (dictOf es n) ∧ ARel σ s.heap B.w.params es ats ∧ (ats.map (·.1)).Nodup := by
  refine box fun G9 k9 => ?_
  obtain ⟨_, _, ex, _, nd, es, n, ed, r⟩ := S.objs x _ q
  refine k9 ?_; clear k9 G9
  exact ⟨es, n, ⟨ex, rfl, rfl, ed⟩, ed, r, nd⟩

/-- an attribute is read -/
theorem getAttr_T (S : St B c ρ σ s) {x C dx : Addr} {ats : List (Str × AV)} {n : Str} {av : AV} {ex : Bool} {A : Around} {E : Value → Shared → Prop} {Q : Value → Shared → Prop} (q : σ x = some (.inst C dx ats)) (ht : (C, n) ∈ B.ats) (ha : AAt ats n av) (hok : avOk av = true)
    (h : ∀ v, VRel σ s.heap v av → Q v { s with toks := s.toks + 1 }) : wpAny B.M A (getAttr (.ref x) n ex) Q E s := by
  refine box fun G9 k9 => ?_
  obtain ⟨m, F, _⟩ := S.fr
  obtain ⟨es, k, I, _, r, nd⟩ := S.instAt q
  obtain ⟨h1, h2, ⟨a, h3, h4⟩, _⟩ := attrOk_of (S.ok.b.ats _ ht)
  obtain ⟨v, hv, rv⟩ := r.find nd ha.mem
  refine k9 ?_; clear k9 G9
  exact get_own F S.ok.b.X I h1 h2 h3 h4 hv (handed_of rv hok) (h v rv)

theorem setAttr_T (S : St B c ρ σ s) {x C dx : Addr} {ats ats' : List (Str × AV)} {n : Str} {v : Value} {av : AV} {A : Around} {E : Value → Shared → Prop} {Q : Unit → Shared → Prop} (q : σ x = some (.inst C dx ats)) (ht : (C, n) ∈ B.ats) (hv : VRel σ s.heap v av)
    (hp : APut ats n av ats' ∨ (n ∉ ats.map (·.1) ∧ ats' = ats ++ [(n, av)])) (hlen : ats.length ≤ 100)
    (h : ∀ s', St B c ρ (upd σ x (.inst C dx ats')) s' → Ext c.env.locals σ s.heap (upd σ x (.inst C dx ats')) s'.heap → Q () s') : wpAny B.M A (setAttr (.ref x) n v) Q E s := by
  refine box fun G9 k9 => ?_
  obtain ⟨m, F, _⟩ := S.fr
  obtain ⟨es, k, I, ed, r, nd⟩ := S.instAt q
  obtain ⟨h1, h2, _, h4, h5, h6⟩ := attrOk_of (S.ok.b.ats _ ht)
  obtain ⟨_, _, _, od, _⟩ := S.objs x _ q
  refine k9 ?_; clear k9 G9
  have dL := S.neL od
  have d0 := S.old od
  have N : News B.H0 c.env.locals s.heap ((dx, dictOf es k) :: allBut B.H0 s.heap c.env.locals dx) := fun p hp => by
    rcases List.mem_cons.mp hp with rfl | hp
    · exact ⟨ed, dL, d0⟩
    · exact news_allBut p hp
  have hl : (getL n es).isSome = true := by
    rcases hp with hp | ⟨hn, _⟩
    · have hi := hp.isIn
      refine box fun G9 k9 => ?_
      obtain ⟨⟨n', av'⟩, hm, rfl⟩ := List.mem_map.mp hi
      obtain ⟨u, hu, _⟩ := r.find nd hm
      refine k9 ?_; clear k9 G9
      rw [hu]; rfl
    · rw [r.miss hn]; rfl
  refine set_dict F S.ok.b.X N I rfl h6 h4 h5 h2 hl rfl (W.Upd.head fun p hp => (mem_allBut.mp hp).2.2.1) ?_ fun h' F' N' => ?_
  · have := putL_length n (PyData.keyHash B.w.params n) (.str n (s.toks + 1)) v es
    rw [r.length] at this; lia
  · have hk : ∀ b o, b ≠ dx → b ≠ c.env.locals → s.heap.get? b = some o → h'.get? b = some o := fun b o hd hL e => by
      cases q0 : B.H0.get? b with
      | some o' =>
        have := S.keep _ _ q0
        rw [e] at this; cases this
        exact F'.keep _ _ q0
      | none => exact (N' _ (.tail _ (mem_allBut.mpr ⟨e, hL, hd, q0⟩))).1
    have nd' : (ats'.map (·.1)).Nodup := by
      rcases hp with hp | ⟨hn, rfl⟩
      · rw [hp.names]; exact nd
      · rw [List.map_append, List.nodup_append]
        refine ⟨nd, by simp, fun a ha b hb => ?_⟩
        simp only [List.map_cons, List.map_nil, List.mem_singleton] at hb
        subst hb; rintro rfl; exact hn ha
    obtain ⟨S', E'⟩ := S.setInst (tk := s.toks + 2) q hk (fun m' hm' => by
      have : m' = m := by
        refine box fun G9 k9 => ?_
        obtain ⟨o1, es1, ep1, e1, d1, _, f1⟩ := hm'
        obtain ⟨o2, es2, ep2, e2, d2, _, f2⟩ := F.ns
        refine k9 ?_; clear k9 G9
        rw [e1] at e2; cases e2; rw [d1] at d2; cases d2
        funext z; rw [← f1, ← f2]
      rw [this]; exact F'.ns) nd' fun X => ⟨_, _, (N' _ (.head _)).1, by
        rcases hp with hp | ⟨hn, rfl⟩
        · exact ARel.put (hv.ext S.ns X) hp (r.ext S.ns X) nd
        · exact ARel.add (hv.ext S.ns X) (r.ext S.ns X) hn⟩
    exact h _ S' E'
end
/-! W8 -/
section
open PySem PySem.W PyProof.Rows PySem.Calls PySem.Spec
variable {B : Bs} {c : Cx} {ρ : Loc} {σ : AH} {s : Shared}

inductive AF where
  | next | brk | cont
  | ret (v : AV)
noncomputable def FRel (σ : AH) (h : Heap) : Flow → AF → Prop
  | .next, .next => True
  | .brk, .brk => True
  | .cont, .cont => True
  | .ret v, .ret av => VRel σ h v av
  | _, _ => False
theorem FRel.ext {L : Addr} {σ σ' : AH} {h h' : Heap} {f : Flow} {af : AF} (N : NsAt h L) (X : Ext L σ h σ' h') (r : FRel σ h f af) : FRel σ' h' f af := by
  cases f <;> cases af <;> first | exact r | exact VRel.ext N X r

noncomputable abbrev QS := AF → Loc → AH → Prop
inductive PF (B : Bs) (c : Cx) (σ : AH) (s : Shared) (Q : QS) (f : Flow) (s' : Shared) : Prop
  | mk (af : AF) (ρ' : Loc) (σ' : AH) (S : St B c ρ' σ' s') (E : Ext c.env.locals σ s.heap σ' s'.heap) (r : FRel σ' s'.heap f af) (q : Q af ρ' σ') : PF B c σ s Q f s'
theorem PF.weaken {σ₁ : AH} {s₁ s' : Shared} {Q : QS} {f : Flow} (X : Ext c.env.locals σ s.heap σ₁ s₁.heap) (h : PF B c σ₁ s₁ Q f s') : PF B c σ s Q f s' :=
  let ⟨y, ρ', σ', S, E, r, q⟩ := h; ⟨y, ρ', σ', S, X.trans E, r, q⟩

/-- a suite -/
noncomputable def WS (B : Bs) (c : Cx) (b : List Stmt) (ρ : Loc) (σ : AH) (Q : QS) (X : XT) : Prop :=
  ∀ s, St B c ρ σ s → wpAny B.M c.A (execs b c.env) (PF B c σ s Q) (PX B c σ s X) s
/-- a statement -/
noncomputable def WX (B : Bs) (c : Cx) (st : Stmt) (ρ : Loc) (σ : AH) (Q : QS) (X : XT) : Prop :=
  ∀ s, St B c ρ σ s → wpAny B.M c.A (exec st c.env) (PF B c σ s Q) (PX B c σ s X) s

theorem WS.run {b : List Stmt} {σ₁ : AH} {ρ₁ : Loc} {s₁ : Shared} {Q : QS} {X : XT} (H : WS B c b ρ₁ σ₁ Q X) (S : St B c ρ₁ σ₁ s₁) (E : Ext c.env.locals σ s.heap σ₁ s₁.heap) :
    wpAny B.M c.A (execs b c.env) (PF B c σ s Q) (PX B c σ s X) s₁ :=
  wpAny_mono (H s₁ S) (fun _ _ h => h.weaken E) fun _ _ h => h.weaken E

noncomputable abbrev seqQ (B : Bs) (c : Cx) (rest : List Stmt) (Q : QS) (X : XT) : QS := fun af ρ₁ σ₁ => match af with | .next => WS B c rest ρ₁ σ₁ Q X | af => Q af ρ₁ σ₁
noncomputable abbrev ifQ (B : Bs) (c : Cx) (b o rest : List Stmt) (ρ : Loc) (Q : QS) (X : XT) : Bool → AH → Prop := fun y σ₁ => if y = true then WS B c b ρ σ₁ (seqQ B c rest Q X) X else WS B c o ρ σ₁ (seqQ B c rest Q X) X
noncomputable abbrev loopQ (J : Loc → AH → Prop) (Q : QS) : QS := fun af ρ' σ' => match af with
  | .next | .cont => J ρ' σ'
  | .brk => False
  | .ret v => Q (.ret v) ρ' σ'
inductive asgK (B : Bs) (c : Cx) (x : Str) (rest : List Stmt) (ρ : Loc) (Q : QS) (X : XT) (a : AV) (σ₁ : AH) : Prop
  | mk (ρ' : Loc) (h : Put ρ x a ρ') (q : WS B c rest ρ' σ₁ Q X) : asgK B c x rest ρ Q X a σ₁
noncomputable abbrev expK (B : Bs) (c : Cx) (rest : List Stmt) (ρ : Loc) (Q : QS) (X : XT) : AV → AH → Prop := fun _ σ₁ => WS B c rest ρ σ₁ Q X
noncomputable abbrev retK (ρ : Loc) (Q : QS) : AV → AH → Prop := fun a σ₁ => Q (.ret a) ρ σ₁
inductive setK (B : Bs) (n : Str) (a : AV) (K : AH → Prop) (ov : AV) (σ₂ : AH) : Prop
  | mk (x C dx : Addr) (ats ats' : List (Str × AV)) (e1 : ov = .ref x) (e2 : σ₂ x = some (.inst C dx ats)) (e3 : (C, n) ∈ B.ats)
      (e4 : APut ats n a ats' ∨ (n ∉ ats.map (·.1) ∧ ats' = ats ++ [(n, a)])) (e5 : ats.length ≤ 100) (q : K (upd σ₂ x (.inst C dx ats'))) : setK B n a K ov σ₂
noncomputable abbrev stmK (B : Bs) (c : Cx) (rest : List Stmt) (ρ : Loc) (Q : QS) (X : XT) : AH → Prop := fun σ' => WS B c rest ρ σ' Q X
noncomputable abbrev asgaK (B : Bs) (c : Cx) (o : Expr) (n : Str) (rest : List Stmt) (ρ : Loc) (Q : QS) (X : XT) : AV → AH → Prop := fun a σ₁ => WE B c o ρ σ₁ (setK B n a (stmK B c rest ρ Q X)) X
inductive attK (B : Bs) (n : Str) (Q : AV → AH → Prop) (a : AV) (σ₁ : AH) : Prop
  | mk (x C dx : Addr) (ats : List (Str × AV)) (av : AV) (e1 : a = .ref x) (e2 : σ₁ x = some (.inst C dx ats)) (e3 : (C, n) ∈ B.ats) (e4 : AAt ats n av) (e5 : avOk av = true) (q : Q av σ₁) : attK B n Q a σ₁
/-- as attK, and what stands behind knows the place -/
inductive attK2 (B : Bs) (n : Str) (Q : Addr → Addr → AV → AH → Prop) (a : AV) (σ₁ : AH) : Prop
  | mk (x C dx : Addr) (ats : List (Str × AV)) (av : AV) (e1 : a = .ref x) (e2 : σ₁ x = some (.inst C dx ats)) (e3 : (C, n) ∈ B.ats) (e4 : AAt ats n av) (e5 : avOk av = true) (q : Q x C av σ₁) : attK2 B n Q a σ₁
inductive setK2 (n : Str) (x C : Addr) (K : AH → Prop) (a : AV) (σ₃ : AH) : Prop
  | mk (dx : Addr) (ats ats' : List (Str × AV)) (e1 : σ₃ x = some (.inst C dx ats)) (e2 : APut ats n a ats') (e3 : ats.length ≤ 100) (q : K (upd σ₃ x (.inst C dx ats'))) : setK2 n x C K a σ₃
section
variable {Q : QS} {X : XT}
theorem WS_nil (q : Q .next ρ σ) : WS B c [] ρ σ Q X := fun s S => wpAny_pure ⟨.next, ρ, σ, S, Ext.refl _ _ _, trivial, q⟩
theorem WS_cons {st : Stmt} {rest : List Stmt} (h : WX B c st ρ σ (seqQ B c rest Q X) X) : WS B c (st :: rest) ρ σ Q X := fun s S =>
  wpAny_execs_cons (wpAny_mono (h s S) (fun f s₁ ⟨af, ρ₁, σ₁, S₁, E₁, r₁, q₁⟩ => by
    cases f <;> cases af <;> first | exact r₁.elim | skip
    · exact WS.run q₁ S₁ E₁
    · exact ⟨_, ρ₁, σ₁, S₁, E₁, r₁, q₁⟩
    · exact ⟨_, ρ₁, σ₁, S₁, E₁, r₁, q₁⟩
    · exact ⟨_, ρ₁, σ₁, S₁, E₁, r₁, q₁⟩) fun _ _ h => h)

theorem kind_not {env : Env} (h : env.scope.kind = .function) : (env.scope.kind == .class || (env.scope.kind == .module && env.locals != env.globals)) = false := by rw [h]; rfl

theorem storeName_T (S : St B c ρ σ s) {x : Str} {v : Value} {av : AV} {ρ' : Loc} {A : Around} {E : Value → Shared → Prop} {Q : Unit → Shared → Prop} (hp : Put ρ x av ρ') (hv : VRel σ s.heap v av)
    (h : ∀ s', St B c ρ' σ s' → Ext c.env.locals σ s.heap σ s'.heap → Q () s') : wpAny B.M A (storeName c.env x v) Q E s := by
  refine box fun G9 k9 => ?_
  obtain ⟨m, hm, _⟩ := S.locals
  refine k9 ?_; clear k9 G9
  refine wpAny_storeName_local (S.kinds x hp.isIn) hm (fun h' hn hs => ?_) (kind_not S.ok.kind)
  obtain ⟨S', E'⟩ := S.store (tk := s.toks + 1) hp hv (fun m' hm' => by
    have : m' = m := by
      refine box fun G9 k9 => ?_
      obtain ⟨o1, es1, ep1, e1, d1, _, f1⟩ := hm'
      obtain ⟨o2, es2, ep2, e2, d2, _, f2⟩ := hm
      refine k9 ?_; clear k9 G9
      rw [e1] at e2; cases e2; rw [d1] at d2; cases d2
      funext z; rw [← f1, ← f2]
    rw [this]; exact hn) hs
  exact h _ S' E'

theorem WS_assign {x : Str} {xp pos : Pos} {e : Expr} {rest : List Stmt} (h : WE B c e ρ σ (asgK B c x rest ρ Q X) X)
    (hs : swapsWith e (some (.Name x xp)) pos.line c.env = pure false := by rfl) : WS B c (.Assign [.Name x xp] e pos :: rest) ρ σ Q X := fun s S =>
  wpAny_execs_cons (wpAny_Assign_Name (wpAny_mono (h s S) (fun v s₁ ⟨a, σ₁, S₁, E₁, r₁, ρ', hp, q₁⟩ =>
    storeName_T S₁ hp r₁ fun s₂ S₂ E₂ => WS.run q₁ S₂ (E₁.trans E₂)) fun _ _ h => h) hs)
theorem WS_expr {e : Expr} {pos : Pos} {rest : List Stmt} (h : WE B c e ρ σ (expK B c rest ρ Q X) X)
    (hi : interactive c.env = false := by rfl) (hs : swapsWith e none pos.line c.env = pure false := by rfl) : WS B c (.Expr e pos :: rest) ρ σ Q X := fun s S =>
  wpAny_execs_cons (wpAny_Expr_any (wpAny_mono (h s S) (fun v s₁ ⟨a, σ₁, S₁, E₁, r₁, q₁⟩ => WS.run q₁ S₁ E₁) fun _ _ h => h) hi hs)
theorem WS_return {e : Expr} {pos : Pos} {rest : List Stmt} (h : WE B c e ρ σ (retK ρ Q) X) : WS B c (.Return (some e) pos :: rest) ρ σ Q X := fun s S =>
  wpAny_execs_cons (wpAny_Return_some (wpAny_mono (h s S) (fun v s₁ ⟨a, σ₁, S₁, E₁, r₁, q₁⟩ => ⟨.ret a, ρ, σ₁, S₁, E₁, r₁, q₁⟩) fun _ _ h => h))
theorem WS_return0 {pos : Pos} {rest : List Stmt} (q : Q (.ret (.data .none)) ρ σ) : WS B c (.Return none pos :: rest) ρ σ Q X := fun s S =>
  wpAny_execs_cons (wpAny_Return_none ⟨.ret (.data .none), ρ, σ, S, Ext.refl _ _ _, drel_none (σ := σ) (h := s.heap), q⟩)
theorem WS_continue {pos : Pos} {rest : List Stmt} (q : Q .cont ρ σ) : WS B c (.Continue pos :: rest) ρ σ Q X := fun s S =>
  wpAny_execs_cons (wpAny_Continue ⟨.cont, ρ, σ, S, Ext.refl _ _ _, trivial, q⟩)
/-- what stands behind an if is told twice: once a way -/
theorem WS_if {t : Expr} {b o : List Stmt} {pos : Pos} {rest : List Stmt} (h : WT B c t ρ σ (ifQ B c b o rest ρ Q X) X) : WS B c (.If t b o pos :: rest) ρ σ Q X :=
  WS_cons fun s S => wpAny_If (wpAny_mono (h s S) (fun y s₁ ⟨y', σ₁, S₁, E₁, r₁, q₁⟩ => by
    cases r₁
    cases y
    · exact WS.run q₁ S₁ E₁
    · exact WS.run q₁ S₁ E₁) fun _ _ h => h)

theorem wpAny_assignAttr {M : Model} {A : Around} {E : Value → Shared → Prop} {s : Shared} {env : Env} {o value : Expr} {attr : Str} {ap pos : Pos} {Q : Flow → Shared → Prop}
    (h : wpAny M A (eval value env) (fun v s₁ => wpAny M A (eval o env) (fun ov s₂ => wpAny M A (setAttr ov attr v) (fun _ => Q .next) E s₂) E s₁) E s)
    (hs : swapsWith value (some (.Attribute o attr ap)) pos.line env = pure false) : wpAny M A (exec (.Assign [.Attribute o attr ap] value pos) env) Q E s :=
  plainObj_wpAny_Assign_Attribute h hs

theorem WS_assignAttr {o e : Expr} {n : Str} {ap pos : Pos} {rest : List Stmt} (h : WE B c e ρ σ (asgaK B c o n rest ρ Q X) X)
    (hs : swapsWith e (some (.Attribute o n ap)) pos.line c.env = pure false := by rfl) : WS B c (.Assign [.Attribute o n ap] e pos :: rest) ρ σ Q X := fun s S =>
  wpAny_execs_cons (wpAny_assignAttr (wpAny_mono (h s S) (fun v s₁ ⟨a, σ₁, S₁, E₁, r₁, q₁⟩ => wpAny_mono (q₁ s₁ S₁) (fun u s₂ ⟨b, σ₂, S₂, E₂, r₂, x, C, dx, ats, ats', e1, e2, e3, e4, e5, q₂⟩ => by
    subst e1
    cases r₂
    exact setAttr_T S₂ e2 e3 (r₁.ext S₁.ns E₂) e4 e5 fun s₃ S₃ E₃ => WS.run q₂ S₃ ((E₁.trans E₂).trans E₃)) fun _ _ h => h.weaken E₁) fun _ _ h => h) hs)
end
section
variable {Q : AV → AH → Prop} {X : XT}
theorem W_Attr {o : Expr} {n : Str} {pos : Pos} (h : WE B c o ρ σ (attK B n Q) X)
    (he : eval (.Attribute o n pos) c.env = (do
        let o' ← eval o c.env
        standAt pos.atName
        let r ← holding [o'] (getAttr o' n true)
        letTemporaryGo o o' r
        pure r) := by with_unfolding_all rfl) : WE B c (.Attribute o n pos) ρ σ Q X := fun s S =>
  Attribute_any_ (wpAny_mono (h s S) (fun v s₁ ⟨a, σ₁, S₁, E₁, r₁, x, C, dx, ats, av, e1, e2, e3, e4, e5, q⟩ => by
    subst e1
    cases r₁
    exact getAttr_T S₁ e2 e3 e4 e5 fun v rv => ⟨av, σ₁, S₁.toks _, E₁, rv, q⟩) fun _ _ h => h) he
end
end
/-! W9 -/
section
open PySem PySem.W PyProof.Rows PySem.Calls PySem.Spec
variable {B : Bs} {c : Cx} {ρ : Loc} {σ : AH} {s : Shared}

/-- a function's own frame stands on top -/
noncomputable def Cx.Fun (c : Cx) : Prop := ∃ outer, c.frames = c.env :: outer ∧ c.env.frame = some c.env.locals

theorem Ns.slots {h h' : Heap} {L : Addr} {m : Str → Option Value} {o : Obj} (hn : h.Ns L m) (k : ∀ o, h.get? L = some o → ∃ sl, h'.get? L = some { o with slots := sl }) : h'.Ns L m := by
  refine box fun G9 k9 => ?_
  obtain ⟨o, es, ep, e, d, r⟩ := hn
  obtain ⟨sl, e'⟩ := k o e
  refine k9 ?_; clear k9 G9
  exact ⟨_, es, ep, e', d, r⟩

/-- only an exception's fields, tracebacks and the frames' slots turn -/
theorem St.moveX (S : St B c ρ σ s) {h' : Heap} {tk : Nat} {a C dx : Addr} {ats : List (Str × AV)} (qa : σ a = some (.exc C dx ats))
    (k1 : ∀ b o, s.heap.get? b = some o → b ≠ a → (∀ vs, o.cls = .type "traceback" → o.data ≠ .fields vs) → ∃ sl, h'.get? b = some { o with slots := sl })
    (k2 : ∀ b o, s.heap.get? b = some o → b ≠ a → (σ b ≠ none ∨ B.H0.get? b ≠ none) → h'.get? b = some o)
    (k3 : ∀ b o, s.heap.get? b = some o → ∃ o', h'.get? b = some o')
    (k4 : ∀ fs, s.heap.get? a = some { cls := .ref C, dict := some dx, data := .fields fs } → ∃ fs', h'.get? a = some { cls := .ref C, dict := some dx, data := .fields fs' }) :
    St B c ρ σ { s with heap := h', toks := tk } ∧ Ext c.env.locals σ s.heap σ h' := by
  have X : Ext c.env.locals σ s.heap σ h' := fun b o e q n => by
    have hb : b ≠ a := by rintro rfl; rw [qa] at q; cases q
    obtain ⟨o', e'⟩ := k3 b o e
    refine ⟨q, o', e', fun hf => ?_⟩
    obtain ⟨sl, e''⟩ := k1 b o e hb hf
    rw [e'] at e''; cases e''
    exact ⟨sl, rfl⟩
  refine ⟨⟨S.ok, ?_, S.nodup, S.kinds, fun b o e => ?_, S.above, S.loc, S.free, ?_, fun b bo q => ?_, S.gens, S.drawn, S.os⟩, X⟩
  · obtain ⟨m, hm, hr⟩ := S.locals
    refine ⟨m, ?_, fun y av hy => let ⟨v, h1, h2⟩ := hr y av hy; ⟨v, h1, h2.ext S.ns X⟩⟩
    refine box fun G9 k9 => ?_
    obtain ⟨o, es, ep, e, d, r⟩ := hm
    obtain ⟨sl, e'⟩ := k1 _ o e (S.neL qa).symm fun vs _ q => by rw [d] at q; cases q
    refine k9 ?_; clear k9 G9
    exact ⟨_, es, ep, e', d, r⟩
  · refine k2 b o (S.keep b o e) ?_ (.inr (by rw [e]; simp))
    rintro rfl; have := S.old qa; rw [e] at this; cases this
  · refine Heap.FunFrames.of_keeps (fun b o e hd => ?_) S.funs
    by_cases hb : b = a
    · subst hb
      refine box fun G9 k9 => ?_
      obtain ⟨_, _, ⟨fs, ex⟩, _⟩ := S.objs b _ qa
      refine k9 ?_; clear k9 G9
      rw [e] at ex; cases ex
      exact absurd rfl (hd fs)
    · obtain ⟨sl, e'⟩ := k1 b o e hb fun vs _ => hd vs
      exact ⟨_, e', rfl⟩
  · obtain ⟨h0, ⟨o, e⟩, r⟩ := S.objs b bo q
    by_cases hb : b = a
    · subst hb
      rw [qa] at q; cases q
      refine box fun G9 k9 => ?_
      obtain ⟨⟨fs, ex⟩, od, nd, es, n, ed, ra⟩ := r
      obtain ⟨fs', ex'⟩ := k4 fs ex
      refine k9 ?_; clear k9 G9
      have hne : dx ≠ b := fun z => by rw [z, qa] at od; cases od
      exact ⟨h0, ⟨_, ex'⟩, ⟨fs', ex'⟩, od, nd, es, n, k2 dx _ ed hne (.inl (by rw [od]; simp)), ra.ext S.ns X⟩
    · refine ⟨h0, ⟨o, k2 b o e hb (.inl (by rw [q]; simp))⟩, ?_⟩
      have key : ∀ d o', s.heap.get? d = some o' → d ≠ a → σ d ≠ none → h'.get? d = some o' := fun d o' e' hd hnn => k2 d o' e' hd (.inl hnn)
      cases bo with
      | list l => obtain ⟨vs, n, e', v⟩ := r; exact ⟨vs, n, key b _ e' hb (by rw [q]; simp), v.ext S.ns X⟩
      | dictS es => obtain ⟨o, vs, n, e', x', d, v, nd⟩ := r; exact ⟨o, vs, n, key b _ e' hb (by rw [q]; simp), x', d, v.ext S.ns X, nd⟩
      | dictI es => obtain ⟨o, vs, n, e', x', d, v, nd⟩ := r; exact ⟨o, vs, n, key b _ e' hb (by rw [q]; simp), x', d, v.ext S.ns X, nd⟩
      | inst C' dx' ats'' =>
        refine box fun G9 k9 => ?_
        obtain ⟨e', od', nd', es', n', e2, v⟩ := r
        refine k9 ?_; clear k9 G9
        have hne : dx' ≠ a := fun z => by rw [z, qa] at od'; cases od'
        exact ⟨key b _ e' hb (by rw [q]; simp), od', nd', es', n', key dx' _ e2 hne (by rw [od']; simp), v.ext S.ns X⟩
      | exc C' dx' ats'' =>
        refine box fun G9 k9 => ?_
        obtain ⟨⟨fs, e'⟩, od', nd', es', n', e2, v⟩ := r
        refine k9 ?_; clear k9 G9
        have hne : dx' ≠ a := fun z => by rw [z, qa] at od'; cases od'
        exact ⟨⟨fs, key b _ e' hb (by rw [q]; simp)⟩, od', nd', es', n', key dx' _ e2 hne (by rw [od']; simp), v.ext S.ns X⟩
      | own y => exact r
      | cell v =>
        refine box fun G9 k9 => ?_
        obtain ⟨o, v', e', d, r⟩ := r
        refine k9 ?_; clear k9 G9
        refine ⟨o, v', key b _ e' hb (by rw [q]; simp), d, ?_⟩
        cases v <;> cases v' <;> first | exact r | exact VRel.ext S.ns X r
      | tabl al => obtain ⟨ps, e', t, r⟩ := r; exact ⟨ps, key b _ e' hb (by rw [q]; simp), t, r.ext S.ns X⟩
      | raw o => exact key b _ r hb (by rw [q]; simp)

/-- the mark of the traceback's head is set -/
theorem setFlight_T (S : St B c ρ σ s) {a : Addr} {fl : Value} {fr : Option Addr} {A : Around} {E : Value → Shared → Prop} {Q : Unit → Shared → Prop} (F : FlightM B σ s.heap a (some fl))
    (h : ∀ s', St B c ρ σ s' → Ext c.env.locals σ s.heap σ s'.heap → FlightM B σ s'.heap a (some (fr.elim .none fun f => rawInt f)) → Q () s') : wpAny B.M A (setFlight (.ref a) fr) Q E s := by
  refine box fun G9 k9 => ?_
  obtain ⟨⟨C, dx, ats, qa⟩, oe, fs, he, hd, hsz, T, oT, ts, h1, hT0, hTH, hT, hcT, hdT, h3⟩ := F
  refine k9 ?_; clear k9 G9
  have hTa : T ≠ a := by rintro rfl; rw [qa] at hT0; cases hT0
  have hsz3 : 3 < ts.size := (Array.getElem?_eq_some_iff.mp h3).1
  have hfree : (Obj.mapFields (·.setIfInBounds 3 (fr.elim Value.none fun f => rawInt f)) oT).isFreed = false := Obj.isFreed_of_fields (Obj.data_mapFields hdT _)
  have hself := Heap.get?_update_self (h := s.heap) _ hT hfree
  have other : ∀ b, b ≠ T → (s.heap.update T (Obj.mapFields (·.setIfInBounds 3 (fr.elim Value.none fun f => rawInt f)))).get? b = s.heap.get? b := fun b hb => Heap.get?_update_other _ _ (Ne.symm hb)
  unfold setFlight
  refine wpAny_bind (wpAny_field he hd h1 ?_)
  rw [if_pos (show (Value.ref T != Value.none) = true from by simp)]
  refine wpAny_setField hT hdT hsz3 ?_
  obtain ⟨S', E'⟩ := S.moveX (tk := s.toks) (h' := s.heap.update T (Obj.mapFields (·.setIfInBounds 3 (fr.elim Value.none fun f => rawInt f)))) qa
    (fun b o e hb hf => ⟨o.slots, (other b (by rintro rfl; rw [hT] at e; cases e; exact hf ts hcT hdT)).trans e⟩)
    (fun b o e hb hn => (other b (by rintro rfl; rcases hn with hn | hn <;> first | exact hn hT0 | exact hn hTH)).trans e)
    (fun b o e => by
      by_cases hb : b = T
      · subst hb; exact ⟨_, hself⟩
      · exact ⟨o, (other b hb).trans e⟩)
    (fun fs' e => ⟨fs', (other a (Ne.symm hTa)).trans e⟩)
  exact h _ S' E' ⟨⟨C, dx, ats, qa⟩, oe, fs, (other a (Ne.symm hTa)).trans he, hd, hsz, T, _, _, h1, hT0, hTH, hself, by rw [Obj.cls_mapFields]; exact hcT, Obj.data_mapFields hdT _, by simp [hsz3]⟩

theorem newEntry_T (S : St B c ρ σ s) (hf : c.Fun) {a : Addr} {hadNext : Bool} {head : Value} {C dx : Addr} {ats : List (Str × AV)} {fs : Array Value} {E : Value → Shared → Prop} {Q : Unit → Shared → Prop}
    (qa : σ a = some (.exc C dx ats)) (he : s.heap.get? a = some { cls := .ref C, dict := some dx, data := .fields fs }) (hsz : 5 < fs.size)
    (h : ∀ s', St B c ρ σ s' → Ext c.env.locals σ s.heap σ s'.heap → FlightM B σ s'.heap a (some (rawInt c.env.locals)) → Q () s') :
    wpAny B.M c.A (do let a' ← frameOf c.env; let pl ← entryPlaceOf c.env.locals hadNext; let b ← EntryCells.newEntry head a' .none (rawInt c.env.locals) .none pl; setField (.ref a) 1 b) Q E s := by
  refine box fun G9 k9 => ?_
  obtain ⟨outer, hfr, hL⟩ := hf
  refine k9 ?_; clear k9 G9
  have hfun := S.funs
  rw [hfr] at hfun
  have nofr : ∀ b ao, σ b = some ao → b ∉ (c.env :: outer).filterMap (·.frame) := fun b ao q hm => by
    refine box fun G9 k9 => ?_
    obtain ⟨e, he, hq⟩ := List.mem_filterMap.mp hm
    refine k9 ?_; clear k9 G9
    have := S.free e (by rw [hfr]; exact he) b hq
    rw [q] at this; cases this
  refine wpAny_bind (wpAny_frameOf_fun (by show some c.frames = _; rw [hfr]) hfun hL fun h₁ hs₁ => ?_)
  refine wpAny_bind (wpAny_entryPlaceOf fun pl hpl => ?_)
  unfold EntryCells.newEntry newFields
  refine wpAny_bind (wpAny_newObj_type ?_ (hpl.sizeOk5 _ _ _ _ _))
  have he₁ := (hs₁.2.1 a (nofr a _ qa)).trans he
  generalize hO : ({ cls := .type "traceback", dict := none, data := .fields ([head, .ref c.env.locals, .none, rawInt c.env.locals, .none] ++ (if pl.isEmpty then List.replicate 6 Value.none else pl)).toArray } : Obj) = O
  have hOf : O.isFreed = false := by rw [← hO]; rfl
  have he₂ := Heap.get?_push_of_some (h := h₁) O he₁
  refine wpAny_setField he₂ rfl (by lia) ?_
  have hTa : h₁.objs.size ≠ a := Nat.ne_of_gt (Heap.lt_size he₁)
  have hself := Heap.get?_update_self (Obj.mapFields (·.setIfInBounds 1 (Value.ref h₁.objs.size))) he₂ rfl
  have hT := (Heap.get?_update_other (h₁.push O) (Obj.mapFields (·.setIfInBounds 1 (Value.ref h₁.objs.size))) (Ne.symm hTa)).trans (Heap.get?_push_size h₁ hOf)
  have hsize : s.heap.get? h₁.objs.size = none := by rw [hs₁.1]; exact fresh_none
  have other : ∀ b o, b ≠ a → h₁.get? b = some o → ((h₁.push O).update a (Obj.mapFields (·.setIfInBounds 1 (Value.ref h₁.objs.size)))).get? b = some o := fun b o hb e => by
    rw [Heap.get?_update_other _ _ (Ne.symm hb)]; exact Heap.get?_push_of_some _ e
  obtain ⟨S', E'⟩ := S.moveX (tk := s.toks) (h' := (h₁.push O).update a (Obj.mapFields (·.setIfInBounds 1 (Value.ref h₁.objs.size)))) qa
    (fun b o e hb hf => by obtain ⟨sl, e'⟩ := hs₁.2.2 b o e; exact ⟨sl, other b _ hb e'⟩)
    (fun b o e hb hn => by
      refine other b o hb ?_
      rw [hs₁.2.1]; exact e
      intro hm
      rcases hn with hn | hn
      · cases q : σ b with
        | none => exact hn q
        | some ao => exact nofr b ao q hm
      · exact hn (hfun.mem hm).1)
    (fun b o e => by
      by_cases hb : b = a
      · subst hb; exact ⟨_, hself⟩
      · obtain ⟨sl, e'⟩ := hs₁.2.2 b o e; exact ⟨_, other b _ hb e'⟩)
    (fun fs' e => by
      rw [he] at e; cases e
      exact ⟨_, hself⟩)
  have h1s : 1 < fs.size := by lia
  refine h _ S' E' ⟨⟨C, dx, ats, qa⟩, _, _, hself, rfl, by simpa using hsz, h₁.objs.size, O, ([head, .ref c.env.locals, .none, rawInt c.env.locals, .none] ++ (if pl.isEmpty then List.replicate 6 Value.none else pl)).toArray, by simp [h1s], S.unt hsize, S.H0fresh hsize, hT, by rw [← hO], by rw [← hO], by simp⟩

theorem noteFrame_T (S : St B c ρ σ s) (hf : c.Fun) {a : Addr} {E : Value → Shared → Prop} {Q : Unit → Shared → Prop} (F : Flight B c σ s.heap a)
    (h : ∀ s', St B c ρ σ s' → Ext c.env.locals σ s.heap σ s'.heap → FlightM B σ s'.heap a (some (rawInt c.env.locals)) → Q () s') : wpAny B.M c.A (noteFrame (.ref a) c.env) Q E s := by
  have hf' := hf
  refine box fun G9 k9 => ?_
  obtain ⟨outer, hfr, hL⟩ := hf'
  refine k9 ?_; clear k9 G9
  unfold noteFrame
  simp only [hL]
  rcases F with F | F | ⟨L, hL', F⟩
  · obtain ⟨⟨C, dx, ats, qa⟩, oe, fs, he, hd, hsz, h1⟩ := F
    refine box fun G9 k9 => ?_
    obtain ⟨_, _, ⟨fs', ex⟩, _⟩ := S.objs a _ qa
    refine k9 ?_; clear k9 G9
    rw [he] at ex; cases ex; cases hd
    refine wpAny_bind (wpAny_field he rfl h1 ?_)
    rw [if_neg (by decide)]
    exact newEntry_T S hf qa he hsz h
  · have F' := F
    refine box fun G9 k9 => ?_
    obtain ⟨⟨C, dx, ats, qa⟩, oe, fs, he, hd, hsz, T, oT, ts, h1, hT0, hTH, hT, hcT, hdT, h3⟩ := F
    refine k9 ?_; clear k9 G9
    refine wpAny_bind (wpAny_field he hd h1 ?_)
    rw [if_pos (show (Value.ref T != Value.none) = true from by simp)]
    refine wpAny_bind (wpAny_field hT hdT h3 ?_)
    rw [if_neg (show ¬ ((Value.none == rawInt c.env.locals) = true) from by simp [rawInt])]
    have hsz3 : 3 < ts.size := (Array.getElem?_eq_some_iff.mp h3).1
    have hTa : T ≠ a := by rintro rfl; rw [qa] at hT0; cases hT0
    -- the old head's mark is taken away
    refine wpAny_bind (wpAny_setField hT hdT hsz3 ?_)
    have hfree : (Obj.mapFields (·.setIfInBounds 3 Value.none) oT).isFreed = false := Obj.isFreed_of_fields (Obj.data_mapFields hdT _)
    have hself := Heap.get?_update_self (h := s.heap) _ hT hfree
    have other : ∀ b, b ≠ T → (s.heap.update T (Obj.mapFields (·.setIfInBounds 3 Value.none))).get? b = s.heap.get? b := fun b hb => Heap.get?_update_other _ _ (Ne.symm hb)
    obtain ⟨S', E'⟩ := S.moveX (tk := s.toks) (h' := s.heap.update T (Obj.mapFields (·.setIfInBounds 3 Value.none))) qa
      (fun b o e hb hf => ⟨o.slots, (other b (by rintro rfl; rw [hT] at e; cases e; exact hf ts hcT hdT)).trans e⟩)
      (fun b o e hb hn => (other b (by rintro rfl; rcases hn with hn | hn <;> first | exact hn hT0 | exact hn hTH)).trans e)
      (fun b o e => by
        by_cases hb : b = T
        · subst hb; exact ⟨_, hself⟩
        · exact ⟨o, (other b hb).trans e⟩)
      (fun fs' e => ⟨fs', (other a (Ne.symm hTa)).trans e⟩)
    refine box fun G9 k9 => ?_
    obtain ⟨_, _, ⟨fs', ex⟩, _⟩ := S'.objs a _ qa
    refine k9 ?_; clear k9 G9
    have ex' := (other a (Ne.symm hTa)).symm.trans ex
    rw [he] at ex'; cases ex'; cases hd
    exact newEntry_T S' hf qa ex hsz fun s' S'' E'' F'' => h s' S'' (E'.trans E'') F''
  · obtain rfl : L = c.env.locals := by rw [hL] at hL'; exact (Option.some.inj hL').symm
    have F' := F
    refine box fun G9 k9 => ?_
    obtain ⟨⟨C, dx, ats, qa⟩, oe, fs, he, hd, hsz, T, oT, ts, h1, hT0, hTH, hT, hcT, hdT, h3⟩ := F
    refine k9 ?_; clear k9 G9
    refine wpAny_bind (wpAny_field he hd h1 ?_)
    rw [if_pos (show (Value.ref T != Value.none) = true from by simp)]
    refine wpAny_bind (wpAny_field hT hdT h3 ?_)
    rw [if_pos (show (rawInt c.env.locals == rawInt c.env.locals) = true from by simp)]
    exact wpAny_pure (h s S (Ext.refl _ _ _) F')

theorem leave_T (S : St B c ρ σ s) (hf : c.Fun) {a : Addr} {E : Value → Shared → Prop} {Q : Unit → Shared → Prop} (F : Flight B c σ s.heap a)
    (h : ∀ s', St B c ρ σ s' → Ext c.env.locals σ s.heap σ s'.heap → FlightM B σ s'.heap a (some .none) → Q () s') : wpAny B.M c.A (leaving c.env (.ref a)) Q E s := by
  unfold leaving
  exact wpAny_bind (noteFrame_T S hf F fun s₁ S₁ E₁ F₁ => setFlight_T S₁ (fr := none) F₁ fun s₂ S₂ E₂ F₂ => h s₂ S₂ (E₁.trans E₂) F₂)
end
/-! W10 -/
section
open PySem PySem.W PyProof.Rows PySem.Calls PySem.Spec
variable {B : Bs} {c : Cx} {ρ : Loc} {σ : AH} {s : Shared}

noncomputable abbrev Cx.child (c : Cx) (e : Env) : Cx := { env := e, frames := e :: c.frames, depth := c.depth + 1, units := c.units + 3, guards := c.guards, hd := c.hd }

/-- a call, by its value and its arguments' -/
noncomputable def WF (B : Bs) (c : Cx) (f : AV) (args : List AV) (ρ : Loc) (σ : AH) (Q : AV → AH → Prop) (X : XT) : Prop :=
  ∀ v vs s, St B c ρ σ s → VRel σ s.heap v f → VRelL σ s.heap vs args → wpAny B.M c.A (call v vs) (PG VRel B c ρ σ s Q) (PX B c σ s X) s

noncomputable def retOf : AF → AV
  | .ret v => v
  | _ => .data .none
theorem retOf_rel {h : Heap} {f : Flow} {af : AF} : FRel σ h f af → VRel σ h (match f with | .ret v => v | _ => .none) (retOf af) := by
  intro r
  cases f <;> cases af <;> first | exact r.elim | exact drel_none | exact r

noncomputable def locOf (ps : List Str) (args : List AV) (others : List Str) : Loc := ps.zip (args.map some) ++ others.map fun x => (x, none)
theorem zip_names {ps : List Str} {args : List AV} (h : ps.length = args.length) : (ps.zip (args.map some)).map (·.1) = ps := by
  have := List.map_fst_zip (l₁ := ps) (l₂ := args.map some) (by rw [List.length_map, h]; exact Nat.le_refl _)
  exact this
theorem locOf_names {ps : List Str} {args : List AV} {others : List Str} (h : ps.length = args.length) : (locOf ps args others).map (·.1) = ps ++ others := by
  unfold locOf
  rw [List.map_append, zip_names h, List.map_map]
  congr 1
  exact List.map_id _
theorem lookup_snoc {x : Str} {v : Value} : ∀ {l : List (Str × Value)}, x ∉ l.map (·.1) → (l ++ [(x, v)]).lookup x = some v
  | [], _ => by simp
  | p :: l, h => by
    simp only [List.map_cons, List.mem_cons, not_or] at h
    rw [List.cons_append, List.lookup_cons, beq_eq_false_iff_ne.mpr h.1]
    exact lookup_snoc h.2
theorem lookup_append_of {x : Str} {v : Value} : ∀ {l l' : List (Str × Value)}, l.lookup x = some v → (l ++ l').lookup x = some v
  | [], _, h => by cases h
  | p :: l, l', h => by
    rw [List.cons_append, List.lookup_cons]
    rw [List.lookup_cons] at h
    cases q : (x == p.1) with
    | true => rw [q] at h; exact h
    | false => rw [q] at h; exact lookup_append_of h
theorem zip_lookup {h : Heap} {x : Str} {av : AV} : ∀ {ps : List Str} {args : List AV} {vs : List Value}, VRelL σ h vs args → ps.Nodup → ps.length = args.length → (x, some av) ∈ ps.zip (args.map some) →
    ∃ v, (ps.zip vs).reverse.lookup x = some v ∧ VRel σ h v av
  | [], _, _, _, _, _, hm => by simp at hm
  | p :: ps, [], _, _, _, hl, _ => by simp at hl
  | p :: ps, a :: args, _, r, nd, hl, hm => by
    cases r with
    | @cons v vs _ _ r rs =>
      rw [List.zip_cons_cons, List.reverse_cons]
      simp only [List.map_cons, List.zip_cons_cons] at hm
      rw [List.nodup_cons] at nd
      rcases List.mem_cons.mp hm with q | q
      · cases q
        refine ⟨v, lookup_snoc ?_, r⟩
        rw [List.map_reverse, List.mem_reverse]
        intro z
        refine box fun G9 k9 => ?_
        obtain ⟨⟨y, w⟩, hy, rfl⟩ := List.mem_map.mp z
        refine k9 ?_; clear k9 G9
        exact nd.1 (List.of_mem_zip hy).1
      · obtain ⟨u, hu, ru⟩ := zip_lookup rs nd.2 (by simpa using hl) q
        exact ⟨u, lookup_append_of hu, ru⟩

theorem callEnv_scope {fd : FuncData} {L f : Addr} : (callEnv fd L f).scope = fd.scope := rfl

/-- a def of the text is called: its frame -/
theorem St.enter (S : St B c ρ σ s) {fd : FuncData} {f : Addr} {h₁ : Heap} {tk : Nat} {ps others : List Str} {args : List AV} {vs : List Value} (hg : fd.globals = mainGlobals) (hbu : fd.builtins = builtinsNs) (hk : fd.scope.kind = .function)
    (hlen : ps.length = args.length) (hnd : (ps ++ others).Nodup) (hloc : ∀ x ∈ ps ++ others, fd.scope.names.lookup x = some .local)
    (r : VRelL σ s.heap vs args) (hns : h₁.Ns s.heap.objs.size (fun x => (ps.zip vs).reverse.lookup x)) (hkeep : ∀ b o, s.heap.get? b = some o → h₁.get? b = some o) :
    St B (c.child (callEnv fd s.heap.objs.size f)) (locOf ps args others) σ { s with heap := h₁, toks := tk } ∧ Ext s.heap.objs.size σ s.heap σ h₁ ∧ Ext c.env.locals σ s.heap σ h₁ := by
  have X1 : ∀ L, Ext L σ s.heap σ h₁ := fun L => Ext.of_keep (fun b o e _ _ => hkeep b o e) fun _ _ _ q => q
  have hLs : B.H0.objs.size ≤ s.heap.objs.size := by
    refine box fun G9 k9 => ?_
    obtain ⟨m, ⟨o, _, _, e, _⟩, _⟩ := S.locals
    refine k9 ?_; clear k9 G9
    exact Nat.le_trans S.above (Nat.le_of_lt (Heap.lt_size e))
  refine ⟨⟨⟨S.ok.b, hk, hg, hbu⟩, ⟨_, hns, fun x av hx => ?_⟩, by rw [locOf_names hlen]; exact hnd, by rw [locOf_names hlen]; exact hloc, fun b o e => hkeep b o (S.keep b o e), hLs, S.fresh, ?_, ?_, fun a ao q => ?_, S.gens, S.drawn, S.os⟩, X1 _, X1 _⟩
  · unfold locOf at hx
    rcases List.mem_append.mp hx with hx | hx
    · obtain ⟨v, hv, rv⟩ := zip_lookup r (List.nodup_append.mp hnd).1 hlen hx
      exact ⟨v, hv, rv.ext S.ns (X1 _)⟩
    · obtain ⟨y, _, q⟩ := List.mem_map.mp hx
      cases q
  · intro e he L hL
    rcases List.mem_cons.mp he with rfl | he
    · cases hL; exact S.fresh
    · exact S.free e he L hL
  · refine Heap.FunFrames.cons (by rw [callEnv_scope, hk]; simp) rfl hns (S.H0fresh fresh_none) (S.funs.of_keeps fun b o e _ => ⟨o, hkeep b o e, rfl⟩)
  · obtain ⟨h0, ⟨o, e⟩, ro⟩ := S.objs a ao q
    exact ⟨h0, ⟨o, hkeep a o e⟩, ro.ext S.ns (X1 _) (fun b o bo e _ _ => hkeep b o e) (fun _ _ q _ => q) q⟩

/-- back in the caller's frame -/
theorem St.back (S : St B c ρ σ s) {c' : Cx} {L' : Addr} {ρ' : Loc} {σ' : AH} {s' : Shared} {h₁ : Heap} (hL' : c'.env.locals = L') (hfr : ∃ e, c'.frames = e :: c.frames) (hnew : s.heap.get? L' = none)
    (hkeep : ∀ b o, s.heap.get? b = some o → h₁.get? b = some o) (S' : St B c' ρ' σ' s') (E : Ext L' σ h₁ σ' s'.heap) : St B c ρ σ' s' ∧ Ext c.env.locals σ s.heap σ' s'.heap := by
  have X : ∀ L, Ext L σ s.heap σ' s'.heap := fun L b o e q n => E b o (hkeep b o e) q (by rintro rfl; rw [hnew] at e; cases e)
  have ex : ∀ L, (∃ o, s.heap.get? L = some o) → σ L = none → σ' L = none := fun L ⟨o, e⟩ q => (X (L + 1) L o e q (Nat.ne_of_lt (Nat.lt_succ_self L))).1
  refine ⟨⟨S.ok, ?_, S.nodup, S.kinds, S'.keep, S.above, ?_, fun e he L hL => ?_, ?_, S'.objs, S'.gens, S'.drawn, S'.os⟩, X _⟩
  · obtain ⟨m, hm, hr⟩ := S.locals
    refine ⟨m, ?_, fun y av hy => let ⟨v, h1, h2⟩ := hr y av hy; ⟨v, h1, h2.ext S.ns (X _)⟩⟩
    refine box fun G9 k9 => ?_
    obtain ⟨o, es, ep, e, d, r⟩ := hm
    obtain ⟨_, o', e', x1⟩ := X (c.env.locals + 1) _ o e S.loc (Nat.ne_of_lt (Nat.lt_succ_self _))
    obtain ⟨sl, rfl⟩ := x1 fun vs _ q => by rw [d] at q; cases q
    refine k9 ?_; clear k9 G9
    exact ⟨_, es, ep, e', d, r⟩
  · obtain ⟨m, ⟨o, _, _, e, _⟩, _⟩ := S.locals
    exact ex _ ⟨o, e⟩ S.loc
  · obtain ⟨_, o, h, _⟩ := S.funs.mem (b := L) (List.mem_filterMap.mpr ⟨e, he, hL⟩)
    exact ex _ ⟨o, h⟩ (S.free e he L hL)
  · obtain ⟨e, q⟩ := hfr
    have := S'.funs
    rw [q] at this
    exact this.2.2

/-- what may be called -/
noncomputable def Callable (B : Bs) : AV → Prop
  | .val (.ref a) => keepIn B.K (.ref a) = true
  | .val (.builtin _) => True
  | .val (.type _) => True
  | .clo _ => True
  | _ => False
theorem callable_looks {av : AV} {v : Value} {M : Model} (S : St B c ρ σ s) (h : Callable B av) (r : VRel σ s.heap v av) : ∃ k, (k = Keeper.frame ∨ k = Keeper.machine ∨ k = Keeper.boundFrame) ∧ Looks M s.heap (keeperOf v) k := by
  cases av with
  | data d => exact h.elim
  | ref a => exact h.elim
  | clo fd =>
    refine box fun G9 k9 => ?_
    obtain ⟨a, o, rfl, _, e, _, d, _⟩ := r
    refine k9 ?_; clear k9 G9
    refine ⟨.frame, .inl rfl, ?_⟩
    unfold keeperOf
    refine (Looks.ld (part := none) e).andThen ?_
    rw [d]; exact .now
  | val w =>
    cases r
    cases v with
    | ref a => exact keeps_K h s.heap (S.ok.b.X.keeps S.keep)
    | builtin i => exact ⟨.machine, .inr (.inl rfl), .now⟩
    | type i => exact ⟨.machine, .inr (.inl rfl), .now⟩
    | _ => exact h.elim

section
variable {Q : AV → AH → Prop} {X : XT}
theorem callWith_T {pos : Pos} {f : AV} {first : List AV} {args : List Expr} (hc : Callable B f) (S : St B c ρ σ s) {v : Value} {vs : List Value} (rf : VRel σ s.heap v f) (rs : VRelL σ s.heap vs first)
    (h : WA B c args ρ σ (fun as σ₂ => WF B c f (first ++ as) ρ σ₂ Q X) X) (he : ∀ e r, args = e :: r → starEach (e :: r) c.env = (false, eval e c.env) :: starEach r c.env) (hpl : (backTo pos (starEach args c.env)).any (·.1) = false) :
    wpAny B.M c.A (callWith pos v vs (backTo pos (starEach args c.env)) []) (PG VRel B c ρ σ s Q) (PX B c σ s X) s := by
  refine callWith_of (P := fun h => ∃ k, (k = Keeper.frame ∨ k = Keeper.machine ∨ k = Keeper.boundFrame) ∧ Looks B.M h (keeperOf v) k) (by rw [hpl]; rfl) (fun h p => p) ?_
  have body : wpAny B.M c.A (spliced (backTo pos (starEach args c.env))) (fun ws s₁ => (∃ k, (k = Keeper.frame ∨ k = Keeper.machine ∨ k = Keeper.boundFrame) ∧ Looks B.M s₁.heap (keeperOf v) k) ∧ wpAny B.M c.A (call v (vs ++ ws)) (PG VRel B c ρ σ s Q) (PX B c σ s X) s₁) (PX B c σ s X) s :=
    wpAny_mono (h pos s S) (fun ws s₁ ⟨as, σ₁, S₁, E₁, r₁, q⟩ => ⟨callable_looks S₁ hc (rf.ext S.ns E₁),
      wpAny_mono (q v (vs ++ ws) s₁ S₁ (rf.ext S.ns E₁) ((rs.ext S.ns E₁).append r₁)) (fun _ _ h => h.weaken E₁) fun _ _ h => h.weaken E₁⟩) fun _ _ h => h
  cases args with
  | nil =>
    unfold evalArgs
    show wpAny B.M c.A (spliced [] >>= _) _ _ s
    refine wpAny_bind (wpAny_mono body (fun ws s₁ h₁ => ?_) fun _ _ h => h)
    refine wpAny_bind (wpAny_pure ?_)
    refine wpAny_holding ?_
    simp only [List.all_nil, if_true]
    exact wpAny_bind (wpAny_evalAll_nil (wpAny_bind (wpAny_pure (wpAny_pure h₁))))
  | cons e r =>
    rw [he e r rfl] at body ⊢
    exact evalArgs_plain body

noncomputable abbrev runK (B : Bs) (c : Cx) (f : AV) (ρ : Loc) (Q : AV → AH → Prop) (X : XT) : List AV → AH → Prop := fun as σ₂ => WF B c f as ρ σ₂ Q X
inductive calK (B : Bs) (c : Cx) (args : List Expr) (ρ : Loc) (Q : AV → AH → Prop) (X : XT) (f : AV) (σ₁ : AH) : Prop
  | mk (h : Callable B f) (q : WA B c args ρ σ₁ (runK B c f ρ Q X) X) : calK B c args ρ Q X f σ₁
theorem W_CallName {fn : Str} {fp pos : Pos} {args : List Expr} (h : WE B c (.Name fn fp) ρ σ (calK B c args ρ Q X) X)
    (he : ∀ e r, args = e :: r → starEach (e :: r) c.env = (false, eval e c.env) :: starEach r c.env := by (intro e r h; first | cases h | (cases h; rfl))) (hpl : (backTo pos (starEach args c.env)).any (·.1) = false := by rfl) : WE B c (.Call (.Name fn fp) args [] pos) ρ σ Q X := fun s S => by
  refine wpAny_Call_Name_kw (wpAny_mono (h s S) (fun v s₁ ⟨f, σ₁, S₁, E₁, r₁, hc, q⟩ => ?_) fun _ _ h => h)
  exact wpAny_mono (callWith_T (first := []) (vs := []) hc S₁ r₁ .nil q he hpl) (fun _ _ h => h.weaken E₁) fun _ _ h => h.weaken E₁
end
end
/-! KK -/
section
open PySem PySem.W PyProof.Rows PySem.Calls PySem.Spec
/-! the part of the heap that the law stands on, as the top leaves it; the defs by their roads in the program -/
noncomputable def stAt (i : Nat) : Option Stmt := (PySem.Challenge.pw_pf0125_01.main.body.drop i).head?
noncomputable def inAt (i j : Nat) : Option Stmt := match stAt i with
  | some (.ClassDef (body := b) ..) => (b.drop j).head?
  | _ => none
noncomputable def fnO (s : Option Stmt) (q : Str) (m : Value) (cd : Addr) : Obj := match s with
  | some (.FunctionDef (name := n) (args := a) (body := b) (scope := sc) ..) => { cls := .type "function", data := .func { name := n, qualname := q, params := a, body := .stmts b, scope := sc, globals := 3, closure := [], defaults := .none, kwdefaults := .none, pyModule := m, code := .ref cd } }
  | _ => default
noncomputable def en (P : Params) (x : String) (n : Tok) (v : Value) : DictEntry := { hash := PyData.keyHash P (Str.ofString x), key := .str (Str.ofString x) n, val := v }
noncomputable def hk (P : Params) : Frag :=
  [(2, ⟨.none, none, (.dict #[en P "type.__subclasses__.Exception.0" 214 (.int 31 0), en P "type.__subclasses__.Exception.n" 215 (.int 1 0)] 2), #[]⟩),
  (3, ⟨(.type "dict"), none, (.dict #[en P "__name__" 165 (.str (Str.ofString "law_pf0125_01") 654), en P "__doc__" 166 .none, en P "__package__" 167 .none, en P "__loader__" 168 (.builtin "__main__.__loader__#opaque"), en P "__spec__" 169 .none, en P "__annotations__" 170 (.ref 6), en P "__builtins__" 171 (.ref 4), en P "__file__" 173 (.str (Str.ofString "/claim/cut.py") 172), en P "__cached__" 174 .none, en P "F77Error" 217 (.ref 31), en P "FormatFault" 243 (.ref 51), en P "IoFault" 269 (.ref 70), en P "REAL" 273 (.int 1 272), en P "DOUBLE" 275 (.int 2 274), en P "COMPLEX" 277 (.int 3 276), en P "CHARACTER" 279 (.int 5 278), en P "units_of" 286 (.ref 79), en P "DATA_WORDS" 296 (.ref 80), en P "MOST_IDLE" 300 (.int 100000 299), en P "MOST_LINE" 304 (.int 100000 303), en P "add_flat" 316 (.ref 87), en P "flat_of" 326 (.ref 94), en P "FormatControl" 385 (.ref 132), en P "FormatModes" 425 (.ref 160), en P "moved" 434 (.ref 171), en P "Line" 479 (.ref 202), en P "FormatWriter" 539 (.ref 244), en P "WRONG_SORT" 543 (.int 16 542), en P "NO_RECORD" 545 (.int 18 544), en P "TOO_LONG" 547 (.int 19 546), en P "File" 584 (.ref 265), en P "Unit" 618 (.ref 286), en P "need_access" 626 (.ref 297), en P "size_of" 636 (.ref 304), en P "read_direct" 644 (.ref 311), en P "write_direct" 653 (.ref 318), en P "_law_most" 657 (.int 100000 656), en P "_law_far" 663 (.ref 325), en P "_law_tell" 671 (.ref 332), en P "_law_fell" 679 (.ref 339), en P "_law_lines" 696 (.ref 346), en P "_law_bare_line" 708 (.ref 353), en P "_law_part" 714 (.ref 358), en P "_law_marks" 724 (.ref 365), en P "_law_next" 733 (.ref 372), en P "_law_steps" 739 (.ref 377), en P "_law_lists" 756 (.ref 384), en P "law" 762 (.ref 389)] 48), #[]⟩),
  (27, ⟨(.type "code"), none, (.fields #[(.str (Str.ofString "__init__") 201), (.str (Str.ofString "F77Error.__init__") 202), (.str (Str.ofString "/claim/cut.py") 203), (.int 4 0), (.int 2 0), (.int 0 0), (.int 0 0), (.int 3 0), (.ref 22), (.bool true), (.int 181 0), (.ref 23), .none, (.ref 24), (.ref 25), (.ref 26), (.int 206 0), (.int 4 0), (.str (Str.ofString "/claim/cut.py") 207)]), #[]⟩),
  (28, fnO (inAt 1 0) (Str.ofString "F77Error.__init__") (.str (Str.ofString "f77.errors") 187) 27),
  (30, ⟨(.type "dict"), none, (.dict #[en P "__module__" 196 (.str (Str.ofString "f77.errors") 187), en P "__firstlineno__" 200 (.int 2 199), en P "__init__" 208 (.ref 28), en P "__static_attributes__" 210 (.ref 29), en P "__weakref__" 212 (.ref 32), en P "__doc__" 213 .none] 3), #[]⟩),
  (31, ⟨(.type "type"), none, (.cls (PySem.ClassData.mk (Str.ofString "F77Error") [(.type "Exception")] [(.ref 31), (.type "Exception"), (.type "BaseException"), (.type "object")] 30 (Str.ofString "F77Error") true [] [(.ref 51), (.ref 70)] false none false)), #[(some (.ref 15)), none, (some (.str (Str.ofString "F77Error") 189)), (some (.str (Str.ofString "F77Error") 197)), (some (.builtin "Exception.__new__")), (some (.bool true))]⟩),
  (47, ⟨(.type "code"), none, (.fields #[(.str (Str.ofString "__init__") 230), (.str (Str.ofString "FormatFault.__init__") 231), (.str (Str.ofString "/claim/cut.py") 232), (.int 9 0), (.int 3 0), (.int 0 0), (.int 0 0), (.int 3 0), (.ref 42), (.bool true), (.int 181 0), (.ref 43), .none, (.ref 44), (.ref 45), (.ref 46), (.int 236 0), (.int 9 0), (.str (Str.ofString "/claim/cut.py") 237)]), #[]⟩),
  (48, fnO (inAt 2 0) (Str.ofString "FormatFault.__init__") (.str (Str.ofString "f77.errors") 187) 47),
  (50, ⟨(.type "dict"), none, (.dict #[en P "__module__" 225 (.str (Str.ofString "f77.errors") 187), en P "__firstlineno__" 229 (.int 7 228), en P "__init__" 238 (.ref 48), en P "__static_attributes__" 240 (.ref 49), en P "__doc__" 241 .none] 2), #[]⟩),
  (51, ⟨(.type "type"), none, (.cls (PySem.ClassData.mk (Str.ofString "FormatFault") [(.ref 31)] [(.ref 51), (.ref 31), (.type "Exception"), (.type "BaseException"), (.type "object")] 50 (Str.ofString "FormatFault") true [] [] false none false)), #[(some (.ref 35)), none, (some (.str (Str.ofString "FormatFault") 218)), (some (.str (Str.ofString "FormatFault") 226)), (some (.builtin "Exception.__new__")), (some (.bool true))]⟩),
  (66, ⟨(.type "code"), none, (.fields #[(.str (Str.ofString "__init__") 256), (.str (Str.ofString "IoFault.__init__") 257), (.str (Str.ofString "/claim/cut.py") 258), (.int 14 0), (.int 3 0), (.int 0 0), (.int 0 0), (.int 3 0), (.ref 61), (.bool true), (.int 181 0), (.ref 62), .none, (.ref 63), (.ref 64), (.ref 65), (.int 262 0), (.int 14 0), (.str (Str.ofString "/claim/cut.py") 263)]), #[]⟩),
  (67, fnO (inAt 3 0) (Str.ofString "IoFault.__init__") (.str (Str.ofString "f77.errors") 187) 66),
  (69, ⟨(.type "dict"), none, (.dict #[en P "__module__" 251 (.str (Str.ofString "f77.errors") 187), en P "__firstlineno__" 255 (.int 12 254), en P "__init__" 264 (.ref 67), en P "__static_attributes__" 266 (.ref 68), en P "__doc__" 267 .none] 2), #[]⟩),
  (70, ⟨(.type "type"), none, (.cls (PySem.ClassData.mk (Str.ofString "IoFault") [(.ref 31)] [(.ref 70), (.ref 31), (.type "Exception"), (.type "BaseException"), (.type "object")] 69 (Str.ofString "IoFault") true [] [] false none false)), #[(some (.ref 54)), none, (some (.str (Str.ofString "IoFault") 244)), (some (.str (Str.ofString "IoFault") 252)), (some (.builtin "Exception.__new__")), (some (.bool true))]⟩),
  (78, ⟨(.type "code"), none, (.fields #[(.str (Str.ofString "units_of") 280), (.str (Str.ofString "units_of") 281), (.str (Str.ofString "/claim/cut.py") 282), (.int 22 0), (.int 1 0), (.int 0 0), (.int 0 0), (.int 3 0), (.ref 73), (.bool true), (.int 181 0), (.ref 74), .none, (.ref 75), (.ref 76), (.ref 77), (.int 284 0), (.int 22 0), (.str (Str.ofString "/claim/cut.py") 285)]), #[]⟩),
  (79, fnO (stAt 9) (Str.ofString "units_of") (.str (Str.ofString "f77.kinds") 270) 78),
  (80, ⟨(.type "tuple"), none, (.seq #[(.str (Str.ofString "I") 289), (.str (Str.ofString "F") 290), (.str (Str.ofString "E") 291), (.str (Str.ofString "D") 292), (.str (Str.ofString "G") 293), (.str (Str.ofString "L") 294), (.str (Str.ofString "A") 295)] 0), #[]⟩),
  (86, ⟨(.type "code"), none, (.fields #[(.str (Str.ofString "add_flat") 305), (.str (Str.ofString "add_flat") 306), (.str (Str.ofString "/claim/cut.py") 307), (.int 32 0), (.int 2 0), (.int 0 0), (.int 0 0), (.int 3 0), (.ref 81), (.bool true), (.int 181 0), (.ref 82), .none, (.ref 83), (.ref 84), (.ref 85), (.int 314 0), (.int 32 0), (.str (Str.ofString "/claim/cut.py") 315)]), #[]⟩),
  (87, fnO (stAt 14) (Str.ofString "add_flat") (.str (Str.ofString "f77.fmtrun") 287) 86),
  (93, ⟨(.type "code"), none, (.fields #[(.str (Str.ofString "flat_of") 317), (.str (Str.ofString "flat_of") 318), (.str (Str.ofString "/claim/cut.py") 319), (.int 43 0), (.int 1 0), (.int 0 0), (.int 0 0), (.int 3 0), (.ref 88), (.bool true), (.int 181 0), (.ref 89), .none, (.ref 90), (.ref 91), (.ref 92), (.int 324 0), (.int 43 0), (.str (Str.ofString "/claim/cut.py") 325)]), #[]⟩),
  (94, fnO (stAt 15) (Str.ofString "flat_of") (.str (Str.ofString "f77.fmtrun") 287) 93),
  (107, ⟨(.type "code"), none, (.fields #[(.str (Str.ofString "__init__") 339), (.str (Str.ofString "FormatControl.__init__") 340), (.str (Str.ofString "/claim/cut.py") 341), (.int 53 0), (.int 2 0), (.int 0 0), (.int 0 0), (.int 3 0), (.ref 102), (.bool true), (.int 181 0), (.ref 103), .none, (.ref 104), (.ref 105), (.ref 106), (.int 344 0), (.int 53 0), (.str (Str.ofString "/claim/cut.py") 345)]), #[]⟩),
  (108, fnO (inAt 16 0) (Str.ofString "FormatControl.__init__") (.str (Str.ofString "f77.fmtrun") 287) 107),
  (114, ⟨(.type "code"), none, (.fields #[(.str (Str.ofString "next_item") 347), (.str (Str.ofString "FormatControl.next_item") 348), (.str (Str.ofString "/claim/cut.py") 349), (.int 60 0), (.int 2 0), (.int 0 0), (.int 0 0), (.int 3 0), (.ref 109), (.bool true), (.int 181 0), (.ref 110), .none, (.ref 111), (.ref 112), (.ref 113), (.int 354 0), (.int 60 0), (.str (Str.ofString "/claim/cut.py") 355)]), #[]⟩),
  (115, fnO (inAt 16 1) (Str.ofString "FormatControl.next_item") (.str (Str.ofString "f77.fmtrun") 287) 114),
  (121, ⟨(.type "code"), none, (.fields #[(.str (Str.ofString "close_group") 357), (.str (Str.ofString "FormatControl.close_group") 358), (.str (Str.ofString "/claim/cut.py") 359), (.int 86 0), (.int 2 0), (.int 0 0), (.int 0 0), (.int 3 0), (.ref 116), (.bool true), (.int 181 0), (.ref 117), .none, (.ref 118), (.ref 119), (.ref 120), (.int 362 0), (.int 86 0), (.str (Str.ofString "/claim/cut.py") 363)]), #[]⟩),
  (122, fnO (inAt 16 2) (Str.ofString "FormatControl.close_group") (.str (Str.ofString "f77.fmtrun") 287) 121),
  (128, ⟨(.type "code"), none, (.fields #[(.str (Str.ofString "revert") 365), (.str (Str.ofString "FormatControl.revert") 366), (.str (Str.ofString "/claim/cut.py") 367), (.int 94 0), (.int 1 0), (.int 0 0), (.int 0 0), (.int 3 0), (.ref 123), (.bool true), (.int 181 0), (.ref 124), .none, (.ref 125), (.ref 126), (.ref 127), (.int 369 0), (.int 94 0), (.str (Str.ofString "/claim/cut.py") 370)]), #[]⟩),
  (129, fnO (inAt 16 3) (Str.ofString "FormatControl.revert") (.str (Str.ofString "f77.fmtrun") 287) 128),
  (131, ⟨(.type "dict"), none, (.dict #[en P "__module__" 334 (.str (Str.ofString "f77.fmtrun") 287), en P "__firstlineno__" 338 (.int 51 337), en P "__init__" 346 (.ref 108), en P "next_item" 356 (.ref 115), en P "close_group" 364 (.ref 122), en P "revert" 371 (.ref 129), en P "__static_attributes__" 378 (.ref 130), en P "__dict__" 380 (.ref 133), en P "__weakref__" 382 (.ref 134), en P "__doc__" 383 .none] 4), #[]⟩),
  (132, ⟨(.type "type"), none, (.cls (PySem.ClassData.mk (Str.ofString "FormatControl") [(.type "object")] [(.ref 132), (.type "object")] 131 (Str.ofString "FormatControl") true [] [] false none false)), #[none, none, (some (.str (Str.ofString "FormatControl") 327)), (some (.str (Str.ofString "FormatControl") 335)), (some (.builtin "object.__new__")), (some (.bool true))]⟩),
  (149, ⟨(.type "code"), none, (.fields #[(.str (Str.ofString "__init__") 398), (.str (Str.ofString "FormatModes.__init__") 399), (.str (Str.ofString "/claim/cut.py") 400), (.int 102 0), (.int 2 0), (.int 0 0), (.int 0 0), (.int 3 0), (.ref 144), (.bool true), (.int 181 0), (.ref 145), .none, (.ref 146), (.ref 147), (.ref 148), (.int 403 0), (.int 102 0), (.str (Str.ofString "/claim/cut.py") 404)]), #[]⟩),
  (150, fnO (inAt 17 0) (Str.ofString "FormatModes.__init__") (.str (Str.ofString "f77.fmtrun") 287) 149),
  (156, ⟨(.type "code"), none, (.fields #[(.str (Str.ofString "set_by") 406), (.str (Str.ofString "FormatModes.set_by") 407), (.str (Str.ofString "/claim/cut.py") 408), (.int 107 0), (.int 2 0), (.int 0 0), (.int 0 0), (.int 3 0), (.ref 151), (.bool true), (.int 181 0), (.ref 152), .none, (.ref 153), (.ref 154), (.ref 155), (.int 412 0), (.int 107 0), (.str (Str.ofString "/claim/cut.py") 413)]), #[]⟩),
  (157, fnO (inAt 17 1) (Str.ofString "FormatModes.set_by") (.str (Str.ofString "f77.fmtrun") 287) 156),
  (159, ⟨(.type "dict"), none, (.dict #[en P "__module__" 393 (.str (Str.ofString "f77.fmtrun") 287), en P "__firstlineno__" 397 (.int 100 396), en P "__init__" 405 (.ref 150), en P "set_by" 414 (.ref 157), en P "__static_attributes__" 418 (.ref 158), en P "__dict__" 420 (.ref 161), en P "__weakref__" 422 (.ref 162), en P "__doc__" 423 .none] 4), #[]⟩),
  (160, ⟨(.type "type"), none, (.cls (PySem.ClassData.mk (Str.ofString "FormatModes") [(.type "object")] [(.ref 160), (.type "object")] 159 (Str.ofString "FormatModes") true [] [] false none false)), #[none, none, (some (.str (Str.ofString "FormatModes") 386)), (some (.str (Str.ofString "FormatModes") 394)), (some (.builtin "object.__new__")), (some (.bool true))]⟩),
  (170, ⟨(.type "code"), none, (.fields #[(.str (Str.ofString "moved") 426), (.str (Str.ofString "moved") 427), (.str (Str.ofString "/claim/cut.py") 428), (.int 118 0), (.int 2 0), (.int 0 0), (.int 0 0), (.int 3 0), (.ref 165), (.bool true), (.int 181 0), (.ref 166), .none, (.ref 167), (.ref 168), (.ref 169), (.int 432 0), (.int 118 0), (.str (Str.ofString "/claim/cut.py") 433)]), #[]⟩),
  (171, fnO (stAt 18) (Str.ofString "moved") (.str (Str.ofString "f77.fmtrun") 287) 170),
  (184, ⟨(.type "code"), none, (.fields #[(.str (Str.ofString "__init__") 447), (.str (Str.ofString "Line.__init__") 448), (.str (Str.ofString "/claim/cut.py") 449), (.int 127 0), (.int 1 0), (.int 0 0), (.int 0 0), (.int 3 0), (.ref 179), (.bool true), (.int 181 0), (.ref 180), .none, (.ref 181), (.ref 182), (.ref 183), (.int 451 0), (.int 127 0), (.str (Str.ofString "/claim/cut.py") 452)]), #[]⟩),
  (185, fnO (inAt 19 0) (Str.ofString "Line.__init__") (.str (Str.ofString "f77.fmtrun") 287) 184),
  (191, ⟨(.type "code"), none, (.fields #[(.str (Str.ofString "put") 454), (.str (Str.ofString "Line.put") 455), (.str (Str.ofString "/claim/cut.py") 456), (.int 131 0), (.int 2 0), (.int 0 0), (.int 0 0), (.int 3 0), (.ref 186), (.bool true), (.int 181 0), (.ref 187), .none, (.ref 188), (.ref 189), (.ref 190), (.int 460 0), (.int 131 0), (.str (Str.ofString "/claim/cut.py") 461)]), #[]⟩),
  (192, fnO (inAt 19 1) (Str.ofString "Line.put") (.str (Str.ofString "f77.fmtrun") 287) 191),
  (198, ⟨(.type "code"), none, (.fields #[(.str (Str.ofString "text") 463), (.str (Str.ofString "Line.text") 464), (.str (Str.ofString "/claim/cut.py") 465), (.int 140 0), (.int 1 0), (.int 0 0), (.int 0 0), (.int 3 0), (.ref 193), (.bool true), (.int 181 0), (.ref 194), .none, (.ref 195), (.ref 196), (.ref 197), (.int 467 0), (.int 140 0), (.str (Str.ofString "/claim/cut.py") 468)]), #[]⟩),
  (199, fnO (inAt 19 2) (Str.ofString "Line.text") (.str (Str.ofString "f77.fmtrun") 287) 198),
  (201, ⟨(.type "dict"), none, (.dict #[en P "__module__" 442 (.str (Str.ofString "f77.fmtrun") 287), en P "__firstlineno__" 446 (.int 125 445), en P "__init__" 453 (.ref 185), en P "put" 462 (.ref 192), en P "text" 469 (.ref 199), en P "__static_attributes__" 472 (.ref 200), en P "__dict__" 474 (.ref 203), en P "__weakref__" 476 (.ref 204), en P "__doc__" 477 .none] 4), #[]⟩),
  (202, ⟨(.type "type"), none, (.cls (PySem.ClassData.mk (Str.ofString "Line") [(.type "object")] [(.ref 202), (.type "object")] 201 (Str.ofString "Line") true [] [] false none false)), #[none, none, (some (.str (Str.ofString "Line") 435)), (some (.str (Str.ofString "Line") 443)), (some (.builtin "object.__new__")), (some (.bool true))]⟩),
  (219, ⟨(.type "code"), none, (.fields #[(.str (Str.ofString "__init__") 492), (.str (Str.ofString "FormatWriter.__init__") 493), (.str (Str.ofString "/claim/cut.py") 494), (.int 144 0), (.int 3 0), (.int 0 0), (.int 0 0), (.int 3 0), (.ref 214), (.bool true), (.int 181 0), (.ref 215), .none, (.ref 216), (.ref 217), (.ref 218), (.int 498 0), (.int 144 0), (.str (Str.ofString "/claim/cut.py") 499)]), #[]⟩),
  (220, fnO (inAt 20 0) (Str.ofString "FormatWriter.__init__") (.str (Str.ofString "f77.fmtrun") 287) 219),
  (226, ⟨(.type "code"), none, (.fields #[(.str (Str.ofString "step") 501), (.str (Str.ofString "FormatWriter.step") 502), (.str (Str.ofString "/claim/cut.py") 503), (.int 151 0), (.int 2 0), (.int 0 0), (.int 0 0), (.int 3 0), (.ref 221), (.bool true), (.int 181 0), (.ref 222), .none, (.ref 223), (.ref 224), (.ref 225), (.int 506 0), (.int 151 0), (.str (Str.ofString "/claim/cut.py") 507)]), #[]⟩),
  (227, fnO (inAt 20 1) (Str.ofString "FormatWriter.step") (.str (Str.ofString "f77.fmtrun") 287) 226),
  (233, ⟨(.type "code"), none, (.fields #[(.str (Str.ofString "put") 509), (.str (Str.ofString "FormatWriter.put") 510), (.str (Str.ofString "/claim/cut.py") 511), (.int 160 0), (.int 3 0), (.int 0 0), (.int 0 0), (.int 3 0), (.ref 228), (.bool true), (.int 181 0), (.ref 229), .none, (.ref 230), (.ref 231), (.ref 232), (.int 516 0), (.int 160 0), (.str (Str.ofString "/claim/cut.py") 517)]), #[]⟩),
  (234, fnO (inAt 20 2) (Str.ofString "FormatWriter.put") (.str (Str.ofString "f77.fmtrun") 287) 233),
  (240, ⟨(.type "code"), none, (.fields #[(.str (Str.ofString "finish") 519), (.str (Str.ofString "FormatWriter.finish") 520), (.str (Str.ofString "/claim/cut.py") 521), (.int 171 0), (.int 1 0), (.int 0 0), (.int 0 0), (.int 3 0), (.ref 235), (.bool true), (.int 181 0), (.ref 236), .none, (.ref 237), (.ref 238), (.ref 239), (.int 524 0), (.int 171 0), (.str (Str.ofString "/claim/cut.py") 525)]), #[]⟩),
  (241, fnO (inAt 20 3) (Str.ofString "FormatWriter.finish") (.str (Str.ofString "f77.fmtrun") 287) 240),
  (243, ⟨(.type "dict"), none, (.dict #[en P "__module__" 487 (.str (Str.ofString "f77.fmtrun") 287), en P "__firstlineno__" 491 (.int 142 490), en P "__init__" 500 (.ref 220), en P "step" 508 (.ref 227), en P "put" 518 (.ref 234), en P "finish" 526 (.ref 241), en P "__static_attributes__" 532 (.ref 242), en P "__dict__" 534 (.ref 245), en P "__weakref__" 536 (.ref 246), en P "__doc__" 537 .none] 4), #[]⟩),
  (244, ⟨(.type "type"), none, (.cls (PySem.ClassData.mk (Str.ofString "FormatWriter") [(.type "object")] [(.ref 244), (.type "object")] 243 (Str.ofString "FormatWriter") true [] [] false none false)), #[none, none, (some (.str (Str.ofString "FormatWriter") 480)), (some (.str (Str.ofString "FormatWriter") 488)), (some (.builtin "object.__new__")), (some (.bool true))]⟩),
  (261, ⟨(.type "code"), none, (.fields #[(.str (Str.ofString "__init__") 560), (.str (Str.ofString "File.__init__") 561), (.str (Str.ofString "/claim/cut.py") 562), (.int 184 0), (.int 5 0), (.int 0 0), (.int 0 0), (.int 3 0), (.ref 256), (.bool true), (.int 181 0), (.ref 257), .none, (.ref 258), (.ref 259), (.ref 260), (.int 568 0), (.int 184 0), (.str (Str.ofString "/claim/cut.py") 569)]), #[]⟩),
  (262, fnO (inAt 25 0) (Str.ofString "File.__init__") (.str (Str.ofString "f77.files") 540) 261),
  (264, ⟨(.type "dict"), none, (.dict #[en P "__module__" 555 (.str (Str.ofString "f77.files") 540), en P "__firstlineno__" 559 (.int 182 558), en P "__init__" 570 (.ref 262), en P "__static_attributes__" 577 (.ref 263), en P "__dict__" 579 (.ref 266), en P "__weakref__" 581 (.ref 267), en P "__doc__" 582 .none] 4), #[]⟩),
  (265, ⟨(.type "type"), none, (.cls (PySem.ClassData.mk (Str.ofString "File") [(.type "object")] [(.ref 265), (.type "object")] 264 (Str.ofString "File") true [] [] false none false)), #[none, none, (some (.str (Str.ofString "File") 548)), (some (.str (Str.ofString "File") 556)), (some (.builtin "object.__new__")), (some (.bool true))]⟩),
  (282, ⟨(.type "code"), none, (.fields #[(.str (Str.ofString "__init__") 597), (.str (Str.ofString "Unit.__init__") 598), (.str (Str.ofString "/claim/cut.py") 599), (.int 193 0), (.int 4 0), (.int 0 0), (.int 0 0), (.int 3 0), (.ref 277), (.bool true), (.int 181 0), (.ref 278), .none, (.ref 279), (.ref 280), (.ref 281), (.int 604 0), (.int 193 0), (.str (Str.ofString "/claim/cut.py") 605)]), #[]⟩),
  (283, fnO (inAt 26 0) (Str.ofString "Unit.__init__") (.str (Str.ofString "f77.files") 540) 282),
  (285, ⟨(.type "dict"), none, (.dict #[en P "__module__" 592 (.str (Str.ofString "f77.files") 540), en P "__firstlineno__" 596 (.int 191 595), en P "__init__" 606 (.ref 283), en P "__static_attributes__" 611 (.ref 284), en P "__dict__" 613 (.ref 287), en P "__weakref__" 615 (.ref 288), en P "__doc__" 616 .none] 4), #[]⟩),
  (286, ⟨(.type "type"), none, (.cls (PySem.ClassData.mk (Str.ofString "Unit") [(.type "object")] [(.ref 286), (.type "object")] 285 (Str.ofString "Unit") true [] [] false none false)), #[none, none, (some (.str (Str.ofString "Unit") 585)), (some (.str (Str.ofString "Unit") 593)), (some (.builtin "object.__new__")), (some (.bool true))]⟩),
  (296, ⟨(.type "code"), none, (.fields #[(.str (Str.ofString "need_access") 619), (.str (Str.ofString "need_access") 620), (.str (Str.ofString "/claim/cut.py") 621), (.int 198 0), (.int 2 0), (.int 0 0), (.int 0 0), (.int 3 0), (.ref 291), (.bool true), (.int 181 0), (.ref 292), .none, (.ref 293), (.ref 294), (.ref 295), (.int 624 0), (.int 198 0), (.str (Str.ofString "/claim/cut.py") 625)]), #[]⟩),
  (297, fnO (stAt 27) (Str.ofString "need_access") (.str (Str.ofString "f77.files") 540) 296),
  (303, ⟨(.type "code"), none, (.fields #[(.str (Str.ofString "size_of") 627), (.str (Str.ofString "size_of") 628), (.str (Str.ofString "/claim/cut.py") 629), (.int 201 0), (.int 1 0), (.int 0 0), (.int 0 0), (.int 3 0), (.ref 298), (.bool true), (.int 181 0), (.ref 299), .none, (.ref 300), (.ref 301), (.ref 302), (.int 634 0), (.int 201 0), (.str (Str.ofString "/claim/cut.py") 635)]), #[]⟩),
  (304, fnO (stAt 28) (Str.ofString "size_of") (.str (Str.ofString "f77.files") 540) 303),
  (310, ⟨(.type "code"), none, (.fields #[(.str (Str.ofString "read_direct") 637), (.str (Str.ofString "read_direct") 638), (.str (Str.ofString "/claim/cut.py") 639), (.int 208 0), (.int 2 0), (.int 0 0), (.int 0 0), (.int 3 0), (.ref 305), (.bool true), (.int 181 0), (.ref 306), .none, (.ref 307), (.ref 308), (.ref 309), (.int 642 0), (.int 208 0), (.str (Str.ofString "/claim/cut.py") 643)]), #[]⟩),
  (311, fnO (stAt 29) (Str.ofString "read_direct") (.str (Str.ofString "f77.files") 540) 310),
  (317, ⟨(.type "code"), none, (.fields #[(.str (Str.ofString "write_direct") 645), (.str (Str.ofString "write_direct") 646), (.str (Str.ofString "/claim/cut.py") 647), (.int 214 0), (.int 3 0), (.int 0 0), (.int 0 0), (.int 3 0), (.ref 312), (.bool true), (.int 181 0), (.ref 313), .none, (.ref 314), (.ref 315), (.ref 316), (.int 651 0), (.int 214 0), (.str (Str.ofString "/claim/cut.py") 652)]), #[]⟩),
  (318, fnO (stAt 30) (Str.ofString "write_direct") (.str (Str.ofString "f77.files") 540) 317),
  (324, ⟨(.type "code"), none, (.fields #[(.str (Str.ofString "_law_far") 658), (.str (Str.ofString "_law_far") 659), (.str (Str.ofString "/claim/cut.py") 660), (.int 226 0), (.int 0 0), (.int 0 0), (.int 0 0), (.int 3 0), (.ref 319), (.bool true), (.int 181 0), (.ref 320), .none, (.ref 321), (.ref 322), (.ref 323), (.int 661 0), (.int 226 0), (.str (Str.ofString "/claim/cut.py") 662)]), #[]⟩),
  (325, fnO (stAt 33) (Str.ofString "_law_far") (.str (Str.ofString "law_pf0125_01") 654) 324),
  (331, ⟨(.type "code"), none, (.fields #[(.str (Str.ofString "_law_tell") 664), (.str (Str.ofString "_law_tell") 665), (.str (Str.ofString "/claim/cut.py") 666), (.int 228 0), (.int 2 0), (.int 0 0), (.int 0 0), (.int 3 0), (.ref 326), (.bool true), (.int 181 0), (.ref 327), .none, (.ref 328), (.ref 329), (.ref 330), (.int 669 0), (.int 228 0), (.str (Str.ofString "/claim/cut.py") 670)]), #[]⟩),
  (332, fnO (stAt 34) (Str.ofString "_law_tell") (.str (Str.ofString "law_pf0125_01") 654) 331),
  (338, ⟨(.type "code"), none, (.fields #[(.str (Str.ofString "_law_fell") 672), (.str (Str.ofString "_law_fell") 673), (.str (Str.ofString "/claim/cut.py") 674), (.int 231 0), (.int 1 0), (.int 0 0), (.int 0 0), (.int 3 0), (.ref 333), (.bool true), (.int 181 0), (.ref 334), .none, (.ref 335), (.ref 336), (.ref 337), (.int 677 0), (.int 231 0), (.str (Str.ofString "/claim/cut.py") 678)]), #[]⟩),
  (339, fnO (stAt 35) (Str.ofString "_law_fell") (.str (Str.ofString "law_pf0125_01") 654) 338),
  (345, ⟨(.type "code"), none, (.fields #[(.str (Str.ofString "_law_lines") 680), (.str (Str.ofString "_law_lines") 681), (.str (Str.ofString "/claim/cut.py") 682), (.int 238 0), (.int 1 0), (.int 0 0), (.int 0 0), (.int 3 0), (.ref 340), (.bool true), (.int 181 0), (.ref 341), .none, (.ref 342), (.ref 343), (.ref 344), (.int 694 0), (.int 238 0), (.str (Str.ofString "/claim/cut.py") 695)]), #[]⟩),
  (346, fnO (stAt 36) (Str.ofString "_law_lines") (.str (Str.ofString "law_pf0125_01") 654) 345),
  (352, ⟨(.type "code"), none, (.fields #[(.str (Str.ofString "_law_bare_line") 697), (.str (Str.ofString "_law_bare_line") 698), (.str (Str.ofString "/claim/cut.py") 699), (.int 265 0), (.int 1 0), (.int 0 0), (.int 0 0), (.int 3 0), (.ref 347), (.bool true), (.int 181 0), (.ref 348), .none, (.ref 349), (.ref 350), (.ref 351), (.int 706 0), (.int 265 0), (.str (Str.ofString "/claim/cut.py") 707)]), #[]⟩),
  (353, fnO (stAt 37) (Str.ofString "_law_bare_line") (.str (Str.ofString "law_pf0125_01") 654) 352),
  (357, ⟨(.type "code"), none, (.fields #[(.str (Str.ofString "_law_part") 709), (.str (Str.ofString "_law_part") 710), (.str (Str.ofString "/claim/cut.py") 711), (.int 274 0), (.int 2 0), (.int 0 0), (.int 0 0), (.int 3 0), (.ref 354), (.bool true), (.int 181 0), (.ref 355), .none, .none, .none, (.ref 356), (.int 712 0), (.int 274 0), (.str (Str.ofString "/claim/cut.py") 713)]), #[]⟩),
  (358, fnO (stAt 38) (Str.ofString "_law_part") (.str (Str.ofString "law_pf0125_01") 654) 357),
  (364, ⟨(.type "code"), none, (.fields #[(.str (Str.ofString "_law_marks") 715), (.str (Str.ofString "_law_marks") 716), (.str (Str.ofString "/claim/cut.py") 717), (.int 281 0), (.int 1 0), (.int 0 0), (.int 0 0), (.int 3 0), (.ref 359), (.bool true), (.int 181 0), (.ref 360), .none, (.ref 361), (.ref 362), (.ref 363), (.int 722 0), (.int 281 0), (.str (Str.ofString "/claim/cut.py") 723)]), #[]⟩),
  (365, fnO (stAt 39) (Str.ofString "_law_marks") (.str (Str.ofString "law_pf0125_01") 654) 364),
  (371, ⟨(.type "code"), none, (.fields #[(.str (Str.ofString "_law_next") 725), (.str (Str.ofString "_law_next") 726), (.str (Str.ofString "/claim/cut.py") 727), (.int 290 0), (.int 2 0), (.int 0 0), (.int 0 0), (.int 3 0), (.ref 366), (.bool true), (.int 181 0), (.ref 367), .none, (.ref 368), (.ref 369), (.ref 370), (.int 731 0), (.int 290 0), (.str (Str.ofString "/claim/cut.py") 732)]), #[]⟩),
  (372, fnO (stAt 40) (Str.ofString "_law_next") (.str (Str.ofString "law_pf0125_01") 654) 371),
  (376, ⟨(.type "code"), none, (.fields #[(.str (Str.ofString "_law_steps") 734), (.str (Str.ofString "_law_steps") 735), (.str (Str.ofString "/claim/cut.py") 736), (.int 315 0), (.int 1 0), (.int 0 0), (.int 0 0), (.int 3 0), (.ref 373), (.bool true), (.int 181 0), (.ref 374), .none, .none, .none, (.ref 375), (.int 737 0), (.int 315 0), (.str (Str.ofString "/claim/cut.py") 738)]), #[]⟩),
  (377, fnO (stAt 41) (Str.ofString "_law_steps") (.str (Str.ofString "law_pf0125_01") 654) 376),
  (383, ⟨(.type "code"), none, (.fields #[(.str (Str.ofString "_law_lists") 740), (.str (Str.ofString "_law_lists") 741), (.str (Str.ofString "/claim/cut.py") 742), (.int 333 0), (.int 1 0), (.int 0 0), (.int 0 0), (.int 3 0), (.ref 378), (.bool true), (.int 181 0), (.ref 379), .none, (.ref 380), (.ref 381), (.ref 382), (.int 754 0), (.int 333 0), (.str (Str.ofString "/claim/cut.py") 755)]), #[]⟩),
  (384, fnO (stAt 42) (Str.ofString "_law_lists") (.str (Str.ofString "law_pf0125_01") 654) 383),
  (388, ⟨(.type "code"), none, (.fields #[(.str (Str.ofString "law") 757), (.str (Str.ofString "law") 758), (.str (Str.ofString "/claim/cut.py") 759), (.int 353 0), (.int 1 0), (.int 0 0), (.int 0 0), (.int 3 0), (.ref 385), (.bool true), (.int 181 0), (.ref 386), .none, .none, .none, (.ref 387), (.int 760 0), (.int 353 0), (.str (Str.ofString "/claim/cut.py") 761)]), #[]⟩),
  (389, fnO (stAt 43) (Str.ofString "law") (.str (Str.ofString "law_pf0125_01") 654) 388)]
noncomputable def hkAt : List Addr := [2, 3, 27, 28, 30, 31, 47, 48, 50, 51, 66, 67, 69, 70, 78, 79, 80, 86, 87, 93, 94, 107, 108, 114, 115, 121, 122, 128, 129, 131, 132, 149, 150, 156, 157, 159, 160, 170, 171, 184, 185, 191, 192, 198, 199, 201, 202, 219, 220, 226, 227, 233, 234, 240, 241, 243, 244, 261, 262, 264, 265, 282, 283, 285, 286, 296, 297, 303, 304, 310, 311, 317, 318, 324, 325, 331, 332, 338, 339, 345, 346, 352, 353, 357, 358, 364, 365, 371, 372, 376, 377, 383, 384, 388, 389]
theorem lookup_keys {K : Frag} {as : List Addr} {a : Addr} {o : Obj} : (K.filter fun p => as.contains p.1).lookup a = some o → K.lookup a = some o := by
  induction K with
  | nil => exact id
  | cons p K ih =>
    obtain ⟨b, x⟩ := p
    intro h
    rw [List.filter_cons] at h
    by_cases e : (a == b) = true
    · rw [List.lookup_cons, e]
      by_cases q : as.contains b = true
      · rw [if_pos q, List.lookup_cons, e] at h; exact h
      · rw [if_neg q] at h
        have := ih h
        exfalso
        obtain rfl := eq_of_beq e
        clear ih this e
        induction K with
        | nil => cases h
        | cons p K ih =>
          rw [List.filter_cons] at h
          split at h
          · rename_i c
            rw [List.lookup_cons] at h
            split at h
            · rename_i c2; obtain rfl := eq_of_beq c2; exact q c
            · exact ih h
          · exact ih h
    · rw [List.lookup_cons]
      have e' : (a == b) = false := by simpa using e
      rw [e']
      split at h
      · rw [List.lookup_cons, e'] at h; exact ih h
      · exact ih h
theorem in_keys {K : Frag} {as : List Addr} {h : Heap} (X : Frag.In K h) : Frag.In (K.filter fun p => as.contains p.1) h := fun a o e => X a o (lookup_keys e)
theorem kin {P : Params} {K : Params → Frag} {h : Heap} (X : Frag.In (K P) h) (e : ∀ P, hk P = (K P).filter fun p => hkAt.contains p.1) : Frag.In (hk P) h := by
  rw [e]; exact in_keys X
end
/-! P0 -/
section
open PySem PySem.W PyProof.Rows PySem.Calls PySem.Spec

noncomputable def dataWords : PyData := .tuple [.str (PySem.Str.ofString "I"), .str (PySem.Str.ofString "F"), .str (PySem.Str.ofString "E"), .str (PySem.Str.ofString "D"), .str (PySem.Str.ofString "G"), .str (PySem.Str.ofString "L"), .str (PySem.Str.ofString "A")]
noncomputable def gtab : List (Str × AV) := (PySem.Str.ofString "DATA_WORDS", AV.data dataWords) ::
  (PySem.Str.ofString "F77Error", AV.val (.ref 31)) ::
  (PySem.Str.ofString "FormatFault", AV.val (.ref 51)) ::
  (PySem.Str.ofString "IoFault", AV.val (.ref 70)) ::
  (PySem.Str.ofString "units_of", AV.val (.ref 79)) ::
  (PySem.Str.ofString "add_flat", AV.val (.ref 87)) ::
  (PySem.Str.ofString "flat_of", AV.val (.ref 94)) ::
  (PySem.Str.ofString "FormatControl", AV.val (.ref 132)) ::
  (PySem.Str.ofString "FormatModes", AV.val (.ref 160)) ::
  (PySem.Str.ofString "moved", AV.val (.ref 171)) ::
  (PySem.Str.ofString "Line", AV.val (.ref 202)) ::
  (PySem.Str.ofString "FormatWriter", AV.val (.ref 244)) ::
  (PySem.Str.ofString "File", AV.val (.ref 265)) ::
  (PySem.Str.ofString "Unit", AV.val (.ref 286)) ::
  (PySem.Str.ofString "need_access", AV.val (.ref 297)) ::
  (PySem.Str.ofString "size_of", AV.val (.ref 304)) ::
  (PySem.Str.ofString "read_direct", AV.val (.ref 311)) ::
  (PySem.Str.ofString "write_direct", AV.val (.ref 318)) ::
  (PySem.Str.ofString "_law_far", AV.val (.ref 325)) ::
  (PySem.Str.ofString "_law_tell", AV.val (.ref 332)) ::
  (PySem.Str.ofString "_law_fell", AV.val (.ref 339)) ::
  (PySem.Str.ofString "_law_lines", AV.val (.ref 346)) ::
  (PySem.Str.ofString "_law_bare_line", AV.val (.ref 353)) ::
  (PySem.Str.ofString "_law_part", AV.val (.ref 358)) ::
  (PySem.Str.ofString "_law_marks", AV.val (.ref 365)) ::
  (PySem.Str.ofString "_law_next", AV.val (.ref 372)) ::
  (PySem.Str.ofString "_law_steps", AV.val (.ref 377)) ::
  (PySem.Str.ofString "_law_lists", AV.val (.ref 384)) ::
  (PySem.Str.ofString "REAL", AV.data (.int 1)) ::
  (PySem.Str.ofString "DOUBLE", AV.data (.int 2)) ::
  (PySem.Str.ofString "COMPLEX", AV.data (.int 3)) ::
  (PySem.Str.ofString "CHARACTER", AV.data (.int 5)) ::
  (PySem.Str.ofString "MOST_IDLE", AV.data (.int 100000)) ::
  (PySem.Str.ofString "MOST_LINE", AV.data (.int 100000)) ::
  (PySem.Str.ofString "WRONG_SORT", AV.data (.int 16)) ::
  (PySem.Str.ofString "NO_RECORD", AV.data (.int 18)) ::
  (PySem.Str.ofString "TOO_LONG", AV.data (.int 19)) ::
  (PySem.Str.ofString "_law_most", AV.data (.int 100000)) ::
  (PySem.Str.ofString "Exception", AV.val (.type "Exception")) ::
  (PySem.Str.ofString "len", AV.val (.builtin "len")) ::
  (PySem.Str.ofString "range", AV.val (.type "range")) ::
  (PySem.Str.ofString "max", AV.val (.builtin "max")) ::
  (PySem.Str.ofString "str", AV.val (.type "str")) ::
  (PySem.Str.ofString "isinstance", AV.val (.builtin "isinstance")) :: []
/-- attributes that are read or stored, by class -/
noncomputable def atab : List (Addr × Str) := [(132, PySem.Str.ofString "flat"), (132, PySem.Str.ofString "again"), (132, PySem.Str.ofString "at"), (132, PySem.Str.ofString "counts"), (132, PySem.Str.ofString "is_used"), (132, PySem.Str.ofString "idle"), (160, PySem.Str.ofString "scale"), (160, PySem.Str.ofString "is_plus"), (160, PySem.Str.ofString "is_zeros"), (202, PySem.Str.ofString "signs"), (202, PySem.Str.ofString "at"),
  (244, PySem.Str.ofString "control"), (244, PySem.Str.ofString "edit"), (244, PySem.Str.ofString "modes"), (244, PySem.Str.ofString "line"), (244, PySem.Str.ofString "records"), (265, PySem.Str.ofString "name"), (265, PySem.Str.ofString "access"), (265, PySem.Str.ofString "form"), (265, PySem.Str.ofString "length"), (265, PySem.Str.ofString "records"), (265, PySem.Str.ofString "numbered"), (286, PySem.Str.ofString "number"), (286, PySem.Str.ofString "file"), (286, PySem.Str.ofString "blank"), (286, PySem.Str.ofString "place")]
/-- methods, by class -/
noncomputable def mtab : List (Addr × Str × Addr) := [(132, PySem.Str.ofString "next_item", 115), (132, PySem.Str.ofString "close_group", 122), (132, PySem.Str.ofString "revert", 129), (160, PySem.Str.ofString "set_by", 157), (202, PySem.Str.ofString "put", 192), (202, PySem.Str.ofString "text", 199), (244, PySem.Str.ofString "step", 227), (244, PySem.Str.ofString "finish", 241)]

noncomputable def K0 (w : World) : Frag := hk w.params

theorem atab_ok (w : World) : (atab.all fun p => attrOkB (K0 w) p.1 p.2) = true := by kernel_rfl
theorem mtab_ok (w : World) : (mtab.all fun p => methOkB (K0 w) p.1 p.2.1 p.2.2) = true := by kernel_rfl

/-- the bundles that the law meets: all that the proofs ask of one -/
structure BL (B : Bs) : Prop where
  K : B.K = K0 B.w
  ats : B.ats = atab
  mts : B.mts = mtab
  gt : B.gt = gtab


section
variable {B : Bs} (X : B.K.In B.H0) (T : Top B.p B.loose B.mean B.mg B.mb B.H0)
include X T
theorem gok_val {x : Str} {v : Value} (e : nsIn B.K mainGlobals x = some (some v)) : GOk B x (AV.val v) := ⟨v, .inl (mg_of X T.g e), rfl⟩
theorem gok_int {x : Str} {i : Int} (e : (match nsIn B.K mainGlobals x with | some (some (.int j _)) => j == i | _ => false) = true) : GOk B x (AV.data (.int i)) := by
  split at e
  · rename_i j t q
    obtain rfl := beq_iff_eq.mp e
    exact ⟨_, .inl (mg_of X T.g q), drel_int⟩
  · cases e
theorem gok_bt {x : Str} {v : Value} (e : nsIn B.K mainGlobals x = some none) (hv : bootBuiltins x = some v) (hn : x ≠ "__name__") : GOk B x (AV.val v) := ⟨v, .inr ⟨mg_none_of X T.g e, (T.builtins x hn).trans hv⟩, rfl⟩
end
theorem drelL_nil {σ : AH} {h : Heap} : DRelL σ h [] [] := by unfold DRelL; rfl
theorem drelL_str {σ : AH} {h : Heap} {x : Str} {t : Tok} {ds : List PyData} {vs : List Value} (r : DRelL σ h ds vs) : DRelL σ h (.str x :: ds) (.str x t :: vs) := by
  unfold DRelL; exact ⟨_, _, rfl, by unfold DRel; exact ⟨t, rfl⟩, r⟩
end
/-! W11 -/
section
open PySem PySem.W PyProof.Rows PySem.Calls PySem.Spec PySem.SeqAt PySem.Builtin.Str
variable {B : Bs} {c : Cx} {ρ : Loc} {σ : AH} {s : Shared}

noncomputable def URel (_ : AH) (_ : Heap) (_ : Unit) (_ : Unit) : Prop := True
/-- a store into a place -/
noncomputable def W3 (B : Bs) (c : Cx) (a i v : AV) (ρ : Loc) (σ : AH) (Q : AH → Prop) (X : XT) : Prop :=
  ∀ va vi vv s, St B c ρ σ s → VRel σ s.heap va a → VRel σ s.heap vi i → VRel σ s.heap vv v → wpAny B.M c.A (setItem va vi vv) (PG URel B c ρ σ s (fun _ σ' => Q σ')) (PX B c σ s X) s

section
variable {Q : AV → AH → Prop} {X : XT}
theorem W2_get {a i : AV} (h : WI B c a i ρ σ Q X) : W2 B c getItem a i ρ σ Q X := fun v u s S r1 r2 => by
  refine box fun G9 k9 => ?_
  obtain ⟨T, id, _, _, h⟩ := h v u s S r1 r2
  refine k9 ?_; clear k9 G9
  exact h
end

theorem setIn_toList {vs : Array Value} {k : Nat} {v : Value} : (vs.setIfInBounds k v).toList = vs.toList.set k v := by simp
section
variable {X : XT}
theorem W3_listT {a : Addr} {l : List AV} {k : Int} {v : AV} {Q : AH → Prop} (hσ : σ a = some (.list l)) (h0 : 0 ≤ k) (hk : k < 2 ^ 62) (hl : k.toNat < l.length) (q : Q (upd σ a (.list (l.set k.toNat v)))) : W3 B c (.ref a) (.data (.int k)) v ρ σ Q X := fun va vi vv s S r1 r2 r3 => by
  cases r1
  refine box fun G9 k9 => ?_
  obtain ⟨t, rfl⟩ := int_of r2
  obtain ⟨_, _, vs, n, ho, hr⟩ := S.objs a _ hσ
  refine k9 ?_; clear k9 G9
  have hlen := hr.length
  rw [Array.length_toList] at hlen
  refine ki_setAt (n := n) ho h0 (by lia) (by lia) ?_
  have hup := PySem.IsL.update ho (fun xs => xs.setIfInBounds k.toNat vv)
  obtain ⟨S', E'⟩ := S.set (tk := s.toks) (ao' := .list (l.set k.toNat v)) hσ rfl (Heap.SameBut.update ..) ⟨_, hup⟩ fun E => ⟨_, _, hup, by
    rw [setIn_toList]; exact (hr.ext S.ns E).set (r3.ext S.ns E) _⟩
  exact ⟨(), _, S', E', trivial, q⟩
end

section
variable {Q : AV → AH → Prop} {X : XT} {a b : Int} {x y : Str} {d d' : PyData}
theorem W2_isub (q : Q (.data (.int (a - b))) σ) : W2 B c (inplaceOp .Sub) (.data (.int a)) (.data (.int b)) ρ σ Q X := fun v u s S r1 r2 => by
  obtain ⟨t, rfl⟩ := int_of r1; obtain ⟨t', rfl⟩ := int_of r2
  exact AutoIntOps.isub_0 (PG.now S drel_int q)

mutual
theorem reads_of {h : Heap} : ∀ (d : PyData) (v : Value), DRel σ h d v → ∃ as, Reads h v d as
  | .none, v, r => by unfold DRel at r; subst r; exact ⟨_, .none⟩
  | .bool b, v, r => by unfold DRel at r; subst r; exact ⟨_, .bool b⟩
  | .int i, v, r => by unfold DRel at r; obtain ⟨t, rfl⟩ := r; exact ⟨_, .int i t⟩
  | .str i, v, r => by unfold DRel at r; obtain ⟨t, rfl⟩ := r; exact ⟨_, .str i t⟩
  | .list ds, v, r => by
    unfold DRel at r
    refine box fun G9 k9 => ?_
    obtain ⟨a, o, vs, n, rfl, _, e, hc, hd, l⟩ := r
    obtain ⟨as, ra⟩ := readsAll_of ds _ l
    refine k9 ?_; clear k9 G9
    exact ⟨_, .list e hc hd ra⟩
  | .tuple ds, v, r => by
    unfold DRel at r
    refine box fun G9 k9 => ?_
    obtain ⟨a, o, vs, n, rfl, _, e, hc, hd, l⟩ := r
    obtain ⟨as, ra⟩ := readsAll_of ds _ l
    refine k9 ?_; clear k9 G9
    exact ⟨_, .tuple e hc hd ra⟩
  | .dict _, _, r => by unfold DRel at r; exact r.elim
theorem readsAll_of {h : Heap} : ∀ (ds : List PyData) (vs : List Value), DRelL σ h ds vs → ∃ as, ReadsAll h vs ds as
  | [], vs, r => by unfold DRelL at r; subst r; exact ⟨_, .nil⟩
  | d :: ds, vs, r => by
    unfold DRelL at r
    refine box fun G9 k9 => ?_
    obtain ⟨v, vs', rfl, r1, r2⟩ := r
    obtain ⟨as, h1⟩ := reads_of d v r1
    obtain ⟨bs, h2⟩ := readsAll_of ds vs' r2
    refine k9 ?_; clear k9 G9
    exact ⟨_, .cons h1 h2⟩
end

theorem W2_eq (h1 : shaped d = true) (h2 : shaped d' = true) (hu : c.units + 64 < cLine) (q : Q (.data (.bool (PyData.eqv d d'))) σ) : W2 B c (compareOp .Eq) (.data d) (.data d') ρ σ Q X := fun v u s S r1 r2 => by
  refine box fun G9 k9 => ?_
  obtain ⟨as, h3⟩ := reads_of _ _ r1
  obtain ⟨bs, h4⟩ := reads_of _ _ r2
  refine k9 ?_; clear k9 G9
  exact compareEq_shaped h3 h4 h1 h2 hu (PG.here S drel_bool q)
theorem W2_ne (h1 : shaped d = true) (h2 : shaped d' = true) (hu : c.units + 64 < cLine) (q : Q (.data (.bool (!PyData.eqv d d'))) σ) : W2 B c (compareOp .NotEq) (.data d) (.data d') ρ σ Q X := fun v u s S r1 r2 => by
  refine box fun G9 k9 => ?_
  obtain ⟨as, h3⟩ := reads_of _ _ r1
  obtain ⟨bs, h4⟩ := reads_of _ _ r2
  refine k9 ?_; clear k9 G9
  exact compareNe_shaped h3 h4 h1 h2 hu (PG.here S drel_bool q)
theorem W2_inTuple {ds : List PyData} (h1 : PyData.canLayAll0 ds = true) (h2 : shaped d = true) (hu : c.units + 1 + 64 < cLine) (q : Q (.data (.bool (ds.any fun y => PyData.eqv y d))) σ) : W2 B c (compareOp .In) (.data d) (.data (.tuple ds)) ρ σ Q X := fun v u s S r1 r2 => by
  refine box fun G9 k9 => ?_
  obtain ⟨as, h3⟩ := reads_of _ _ r1
  obtain ⟨bs, h4⟩ := reads_of _ _ r2
  refine k9 ?_; clear k9 G9
  have := depth_of_shaped h2
  refine in_tuple_reads h4 h3 h1 (canLay_of_shaped h2) ?_ (PG.here S drel_bool q)
  have : min (PyData.depthAll ds) d.depth ≤ d.depth := Nat.min_le_right _ _
  show c.units + 1 + _ < _
  lia
noncomputable def isNone : PyData → Bool
  | .none => true
  | _ => false
theorem plain_none {h : Heap} {v : Value} (r : VRel σ h v (.data d)) : plainIs v .none = true ∧ (v == Value.none) = isNone d := by
  cases d with
  | none => rw [none_of r]; exact ⟨rfl, rfl⟩
  | bool b => rw [bool_of r]; exact ⟨rfl, rfl⟩
  | int i => obtain ⟨t, rfl⟩ := int_of r; exact ⟨rfl, rfl⟩
  | str i => obtain ⟨t, rfl⟩ := str_of r; exact ⟨rfl, rfl⟩
  | list l => have r' : DRel _ _ _ _ := r; unfold DRel at r'; obtain ⟨a, _, _, _, rfl, _⟩ := r'; exact ⟨rfl, rfl⟩
  | tuple l => have r' : DRel _ _ _ _ := r; unfold DRel at r'; obtain ⟨a, _, _, _, rfl, _⟩ := r'; exact ⟨rfl, rfl⟩
  | dict l => have r' : DRel _ _ _ _ := r; unfold DRel at r'; exact r'.elim
theorem W2_isNot (q : Q (.data (.bool (!isNone d))) σ) : W2 B c (compareOp .IsNot) (.data d) (.data .none) ρ σ Q X := fun v u s S r1 r2 => by
  rw [none_of r2]
  obtain ⟨h1, h2⟩ := plain_none r1
  exact wpAny_isNot_plain h1 (by rw [h2]; exact PG.here S drel_bool q)
/-- a text, so many times -/
noncomputable def strRep (x : Str) (n : Int) : Str := if n < 1 then Str.empty else if (n == 1 || x.length == 0) = true then x else ⟨(List.replicate n.toNat x.cps).foldl (· ++ ·) #[]⟩
theorem W2_mulS {n : Int} (h0 : -(2 ^ 62) ≤ n) (h1 : n ≤ 2 ^ 20) (hx : x.length ≤ 2 ^ 3) (q : Q (.data (.str (strRep x n))) σ) : W2 B c (binaryOp .Mult) (.data (.str x)) (.data (.int n)) ρ σ Q X := fun v u s S r1 r2 => by
  obtain ⟨t, rfl⟩ := str_of r1; obtain ⟨t', rfl⟩ := int_of r2
  have hm : x.length * n.toNat ≤ 2 ^ 23 := by
    have h3 : n.toNat ≤ 2 ^ 20 := by lia
    have := Nat.mul_le_mul hx h3
    lia
  refine P.mul_str (by simp; lia) (fun h _ => ?_) (fun h _ => ?_) ?_
  · have h3 : (2 ^ 63 - 1) / n ≥ (2 ^ 63 - 1) / 2 ^ 20 := by
      apply Int.le_ediv_of_mul_le (by lia)
      have : (2 ^ 63 - 1) / (2 ^ 20 : Int) * n ≤ (2 ^ 63 - 1) / (2 ^ 20 : Int) * 2 ^ 20 := Int.mul_le_mul_of_nonneg_left h1 (by decide)
      exact Int.le_trans this (by decide)
    have h4 : (2 ^ 63 - 1) / (2 ^ 20 : Int) = 8796093022207 := by decide
    rw [h4] at h3
    lia
  · unfold tooLong sizeLine
    simp only [decide_eq_false_iff_not]; lia
  · unfold strRep at q
    by_cases h : n < 1
    · rw [if_pos h] at q ⊢
      exact ⟨by decide, PG.now S drel_str q⟩
    · rw [if_neg h] at q ⊢
      split at q
      · rename_i h5
        rw [if_pos h5]
        exact PG.here S drel_str q
      · rename_i h5
        rw [if_neg h5]
        exact ⟨fits_reps (by unfold tooLong sizeLine; simp only [decide_eq_false_iff_not]; lia), PG.now S drel_str q⟩
end

section
variable {Q : Bool → AH → Prop} {X : XT}
theorem WTr_list {ds : List PyData} (hl : ds.length ≤ sizeLine) (q : Q (!ds.isEmpty) σ) : WTr B c (.data (.list ds)) ρ σ Q X := fun v s S r => by
  have r' : DRel _ _ _ _ := r
  unfold DRel at r'
  refine box fun G9 k9 => ?_
  obtain ⟨a, o, vs, n, rfl, _, e, hc, hd, l⟩ := r'
  refine k9 ?_; clear k9 G9
  have hlen := (vrelL_of l).length
  simp only [List.length_map, Array.length_toList] at hlen
  unfold sizeLine at hl
  refine wpAny_truthy_list ⟨o, e, hc, n, hd⟩ (by lia) ⟨_, σ, S.toks _, Ext.refl _ _ _, ?_, q⟩
  show (!vs.isEmpty) = (!ds.isEmpty)
  have : vs.isEmpty = ds.isEmpty := by
    rw [Bool.eq_iff_iff, Array.isEmpty_iff_size_eq_zero, List.isEmpty_iff_length_eq_zero, hlen]
  rw [this]
end
end
/-! W12 -/
section
open PySem PySem.W PyProof.Rows PySem.Calls PySem.Spec PySem.SeqAt
variable {B : Bs} {c : Cx} {ρ : Loc} {σ : AH} {s : Shared}

/-- an iterator, and what it still gives -/
inductive IterAt (σ : AH) (h : Heap) (it : Addr) : List PyData → Prop
  | list {ax : Addr} {i : Nat} {o : Obj} {vs : Array Value} {n : Nat} {ds : List PyData} : h.IsListIter it ax i → σ ax = none → h.get? ax = some o → o.cls = .type "list" → o.data = .seq vs n → VRelL σ h (vs.toList.drop i) (ds.map .data) → IterAt σ h it ds
  | str {x : Str} {t : Tok} {i : Nat} : h.IsStrIter it "str_ascii_iterator" x t i → IterAt σ h it ((x.cps.toList.drop i).map fun c => .str ⟨#[c]⟩)
  | range {x : Int} {n : Nat} : IsRangeIter h it x n 1 → IterAt σ h it ((List.range n).map fun k : Nat => .int (x + (k : Int)))

theorem IterAt.ext {L : Addr} {σ σ' : AH} {h h' : Heap} {it : Addr} {ds : List PyData} (N : NsAt h L) (X : Ext L σ h σ' h') (hit : ∀ o, h.get? it = some o → h'.get? it = some o) (r : IterAt σ h it ds) : IterAt σ' h' it ds := by
  cases r with
  | list h1 h2 h3 h4 h5 h6 =>
    refine box fun G9 k9 => ?_
    obtain ⟨o, e, hc, hd⟩ := h1
    obtain ⟨q', o', e', x1⟩ := X _ _ h3 h2 (N.ne h3 h5)
    obtain ⟨sl, rfl⟩ := x1 (fun ws _ z => by rw [h5] at z; cases z)
    refine k9 ?_; clear k9 G9
    exact .list ⟨o, hit _ e, hc, hd⟩ q' e' h4 h5 (h6.ext N X)
  | str h1 =>
    refine box fun G9 k9 => ?_
    obtain ⟨o, e, hc, hd⟩ := h1
    refine k9 ?_; clear k9 G9
    exact .str ⟨o, hit _ e, hc, hd⟩
  | range h1 => exact .range (hit _ h1)

theorem St.setRaw (S : St B c ρ σ s) {h' : Heap} {tk : Nat} {a : Addr} {o : Obj} (q : σ a = some (.raw o)) (hk : Heap.ExtBut a s.heap h') (he : ∃ o', h'.get? a = some o') (hn : ∀ m, s.heap.Ns c.env.locals m → h'.Ns c.env.locals m) :
    ∃ o', h'.get? a = some o' ∧ St B c ρ (upd σ a (.raw o')) { s with heap := h', toks := tk } ∧ Ext c.env.locals σ s.heap (upd σ a (.raw o')) h' := by
  obtain ⟨o', e'⟩ := he
  have X : Ext c.env.locals σ s.heap (upd σ a (.raw o')) h' := Ext.of_keep (fun b o e z _ => hk b o (by rintro rfl; rw [q] at z; cases z) e) fun b o e z => by
    rw [upd_ne]; exact z
    rintro rfl; rw [q] at z; cases z
  have hL : upd σ a (.raw o') c.env.locals = none := by rw [upd_ne (S.neL q).symm]; exact S.loc
  refine ⟨o', e', S.move ?_ rfl X (fun b o e z _ => hk b o (by rintro rfl; rw [q] at z; cases z) e) hL (fun b bo qb => ?_), X⟩
  · obtain ⟨m, hm, hr⟩ := S.locals
    exact ⟨m, hn m hm, fun x av hx => let ⟨v, h1, h2⟩ := hr x av hx; ⟨v, h1, h2.ext S.ns X⟩⟩
  · by_cases hb : b = a
    · subst hb
      rw [upd_same] at qb; cases qb
      exact ⟨S.old q, ⟨_, e'⟩, e'⟩
    · rw [upd_ne hb] at qb
      refine box fun G9 k9 => ?_
      obtain ⟨h0, ⟨o₂, e⟩, r⟩ := S.objs b bo qb
      refine k9 ?_; clear k9 G9
      refine ⟨h0, ⟨o₂, hk b o₂ hb e⟩, r.ext S.ns X (fun d o bo e q' z => hk d o ?_ e) (fun d bo q' z => ?_) qb⟩
      · rintro rfl
        rcases z with z | z
        · rw [q] at q'; cases q'; cases z
        · exact hb z.symm
      · rw [upd_ne]; exact q'
        rintro rfl
        rw [q] at q'; cases q'; cases z

theorem ns_keep {h h' : Heap} {L a : Addr} (hk : Heap.ExtBut a h h') (hne : L ≠ a) : ∀ m, h.Ns L m → h'.Ns L m := fun m hm => by
  refine box fun G9 k9 => ?_
  obtain ⟨o, es, ep, e, r⟩ := hm
  refine k9 ?_; clear k9 G9
  exact ⟨o, es, ep, hk _ _ hne e, r⟩

theorem next_T (S : St B c ρ σ s) {it : Addr} {o : Obj} {d : PyData} {ds : List PyData} (q : σ it = some (.raw o)) (I : IterAt σ s.heap it (d :: ds)) {E : Value → Shared → Prop} {Q : Option Value → Shared → Prop}
    (h : ∀ v o' s', St B c ρ (upd σ it (.raw o')) s' → Ext c.env.locals σ s.heap (upd σ it (.raw o')) s'.heap → VRel (upd σ it (.raw o')) s'.heap v (.data d) → IterAt (upd σ it (.raw o')) s'.heap it ds → Q (some v) s') :
    wpAny B.M c.A (pyNext (.ref it)) Q E s := by
  generalize hl : d :: ds = l at I
  cases I with
  | @list ax i ol vs n _ h1 h2 h3 h4 h5 h6 =>
    have hal : ax ≠ it := by rintro rfl; rw [q] at h2; cases h2
    rw [← hl] at h6
    refine box fun G9 k9 => ?_
    obtain ⟨x, hx, rx⟩ := h6.get (i := 0) (x := .data d) rfl
    refine k9 ?_; clear k9 G9
    have hx' : vs[i]? = some x := by simpa using hx
    refine wpAny_pyNext_list_item h1 ⟨ol, h3, h4, n, h5⟩ hx' fun h' hit' hs' => ?_
    refine box fun G9 k9 => ?_
    obtain ⟨o2, e2, c2, d2⟩ := hit'
    obtain ⟨o', e', S', E'⟩ := S.setRaw (tk := s.toks) q hs'.extBut ⟨_, e2⟩ (ns_keep hs'.extBut (S.neL q).symm)
    refine k9 ?_; clear k9 G9
    obtain rfl := Option.some.inj (e'.symm.trans e2)
    refine h x o' _ S' E' (rx.ext S.ns E') (.list (i := i + 1) ⟨_, e', c2, d2⟩ (by rw [upd_ne hal]; exact h2) ((hs'.2 _ hal).trans h3) h4 h5 ?_)
    have h7 := h6.ext S.ns E'
    have e0 : vs.toList.drop i = x :: vs.toList.drop (i + 1) := by
      have hlt : i < vs.toList.length := by
        have := (Array.getElem?_eq_some_iff.mp hx').1
        simpa using this
      rw [List.drop_eq_getElem_cons hlt]
      congr 1
      have := (Array.getElem?_eq_some_iff.mp hx').2
      simpa using this
    rw [e0] at h7
    cases h7 with
    | cons _ r => exact r
  | @str x t i h1 =>
    cases hx : x.cps.toList.drop i with
    | nil => rw [hx] at hl; cases hl
    | cons k r =>
      rw [hx] at hl
      simp only [List.map_cons, List.cons.injEq] at hl
      obtain ⟨rfl, rfl⟩ := hl
      have hi : x.cps[i]? = some k := by
        have : (x.cps.toList.drop i)[0]? = some k := by rw [hx]; rfl
        simpa using this
      refine wpAny_pyNext_ascii_item h1 hi fun h' hit' hs' => ?_
      refine box fun G9 k9 => ?_
      obtain ⟨o2, e2, c2, d2⟩ := hit'
      obtain ⟨o', e', S', E'⟩ := S.setRaw (tk := s.toks + 1) q hs'.extBut ⟨_, e2⟩ (ns_keep hs'.extBut (S.neL q).symm)
      refine k9 ?_; clear k9 G9
      obtain rfl := Option.some.inj (e'.symm.trans e2)
      have hr : r = x.cps.toList.drop (i + 1) := by
        have := congrArg List.tail hx
        simpa using this.symm
      subst hr
      exact h _ o' _ S' E' drel_str (.str ⟨_, e', c2, d2⟩)
  | @range x n h1 =>
    cases n with
    | zero => cases hl
    | succ n =>
      rw [List.range_succ_eq_map] at hl
      simp only [List.map_cons, List.cons.injEq, List.map_map] at hl
      obtain ⟨rfl, rfl⟩ := hl
      refine wpAny_pyNext_range_item h1 (by lia) fun h' hit' hs' => ?_
      refine box fun G9 k9 => ?_
      obtain ⟨o', e', S', E'⟩ := S.setRaw (tk := s.toks + 1) q hs'.extBut ⟨_, hit'⟩ (ns_keep hs'.extBut (S.neL q).symm)
      refine k9 ?_; clear k9 G9
      have hk := IterAt.range (σ := upd σ it (.raw o')) (it := it) (h := h') (x := x + 1) (n := n) (by rw [show ((n : Nat) : Int) = ((n + 1 : Nat) : Int) - 1 by lia]; exact hit')
      refine h _ o' _ S' E' (by rw [show x + ((0 : Nat) : Int) = x by lia]; exact drel_int) ?_
      have e3 : (List.range n).map ((fun k : Nat => PyData.int (x + (k : Int))) ∘ Nat.succ) = (List.range n).map fun k : Nat => PyData.int (x + 1 + (k : Int)) := by
        apply List.map_congr_left
        intro k _
        simp only [Function.comp, Nat.succ_eq_add_one]
        congr 1; lia
      rw [e3]
      exact hk

noncomputable def del (σ : AH) (a : Addr) : AH := fun b => if b = a then none else σ b
theorem del_ne {σ : AH} {a b : Addr} (h : b ≠ a) : del σ a b = σ b := by simp [del, h]
theorem del_same {σ : AH} {a : Addr} : del σ a a = none := by simp [del]
theorem del_none {σ : AH} {a b : Addr} (h : σ b = none) : del σ a b = none := by unfold del; by_cases e : b = a <;> simp [e, h]

theorem St.delRaw (S : St B c ρ σ s) {h' : Heap} {tk : Nat} {a : Addr} {o : Obj} (q : σ a = some (.raw o)) (hk : Heap.ExtBut a s.heap h') :
    St B c ρ (del σ a) { s with heap := h', toks := tk } ∧ Ext c.env.locals σ s.heap (del σ a) h' := by
  have X : Ext c.env.locals σ s.heap (del σ a) h' := Ext.of_keep (fun b o e z _ => hk b o (by rintro rfl; rw [q] at z; cases z) e) fun b o e z => del_none z
  refine ⟨S.move ?_ rfl X (fun b o e z _ => hk b o (by rintro rfl; rw [q] at z; cases z) e) (del_none S.loc) (fun b bo qb => ?_), X⟩
  · obtain ⟨m, hm, hr⟩ := S.locals
    exact ⟨m, ns_keep hk (S.neL q).symm m hm, fun x av hx => let ⟨v, h1, h2⟩ := hr x av hx; ⟨v, h1, h2.ext S.ns X⟩⟩
  · by_cases hb : b = a
    · subst hb
      rw [del_same] at qb; cases qb
    · rw [del_ne hb] at qb
      refine box fun G9 k9 => ?_
      obtain ⟨h0, ⟨o₂, e⟩, r⟩ := S.objs b bo qb
      refine k9 ?_; clear k9 G9
      refine ⟨h0, ⟨o₂, hk b o₂ hb e⟩, r.ext S.ns X (fun d o bo e q' z => hk d o ?_ e) (fun d bo q' z => ?_) qb⟩
      · rintro rfl
        rcases z with z | z
        · rw [q] at q'; cases q'; cases z
        · exact hb z.symm
      · rw [del_ne]; exact q'
        rintro rfl
        rw [q] at q'; cases q'; cases z

theorem end_T (S : St B c ρ σ s) {it : Addr} {o : Obj} (hh : c.hd = none) (q : σ it = some (.raw o)) (I : IterAt σ s.heap it []) {E : Value → Shared → Prop} {Q : Option Value → Shared → Prop}
    (h : ∀ s', St B c ρ (del σ it) s' → Ext c.env.locals σ s.heap (del σ it) s'.heap → Q none s') :
    wpAny B.M c.A (pyNext (.ref it)) Q E s := by
  have key : ∀ h', Heap.ExtBut it s.heap h' → Q none { s with heap := h' } := fun h' he => by
    obtain ⟨S', E'⟩ := S.delRaw (tk := s.toks) q he
    exact h _ S' E'
  generalize hl : ([] : List PyData) = l at I
  cases I with
  | @list ax i ol vs n _ h1 h2 h3 h4 h5 h6 =>
    rw [← hl] at h6
    refine wpAny_pyNext_list_end hh h1 ⟨ol, h3, h4, n, h5⟩ ?_ key
    have := h6.length
    simp only [List.length_drop, Array.length_toList, List.map_nil, List.length_nil] at this
    exact Array.getElem?_eq_none (by lia)
  | @str x t i h1 =>
    refine wpAny_pyNext_ascii_end hh h1 ?_ key
    have := congrArg List.length hl
    simp only [List.length_map, List.length_drop, Array.length_toList, List.length_nil] at this
    exact Array.getElem?_eq_none (by lia)
  | @range x n h1 =>
    have := congrArg List.length hl
    simp only [List.length_map, List.length_range, List.length_nil] at this
    exact wpAny_pyNext_range_end hh h1 (by lia) key

/-- an exception that leaves a loop's body -/
theorem own_X (hf : c.Fun) {X : XT} {e : Value} {s' : Shared} (h : PX B c σ s X e s') :
    notedBy B.M c.A c.env (fun e s'' => cameBackBy B.M c.A c.env (PX B c σ s X) e s'') e s' := by
  refine box fun G9 k9 => ?_
  obtain ⟨a, ρ', σ', rfl, S', E', F', q⟩ := h
  refine k9 ?_; clear k9 G9
  refine noteFrame_T S' hf F' fun s₁ S₁ E₁ F₁ => ?_
  have F2 := F₁
  refine box fun G9 k9 => ?_
  obtain ⟨_, oe, fs, he, hd, hsz, T, oT, ts, h1, hT0, hTH, hT, hcT, hdT, h3⟩ := F₁
  refine k9 ?_; clear k9 G9
  unfold cameBackBy
  refine wpAny_bind (wpAny_field he hd h1 ?_)
  rw [if_neg (by simp)]
  have hL : c.env.frame = some c.env.locals := by obtain ⟨_, _, h⟩ := hf; exact h
  refine setFlight_T S₁ F2 fun s₂ S₂ E₂ F₂ => ⟨a, ρ', σ', rfl, S₂, (E'.trans E₁).trans E₂, .inr (.inr ⟨_, hL, ?_⟩), q⟩
  rw [hL] at F₂
  exact F₂

noncomputable def Raws (σ σ' : AH) : Prop := ∀ b o, σ b = some (.raw o) → σ' b = some (.raw o)
/-- what a loop runs over: its iterator is made -/
noncomputable def Itb (B : Bs) (c : Cx) (a : AV) (ds : List PyData) (σ : AH) : Prop :=
  ∀ ρ v s (E : Value → Shared → Prop) (Q : Value → Shared → Prop), St B c ρ σ s → VRel σ s.heap v a →
    (∀ it o s', St B c ρ (upd σ it (.raw o)) s' → Ext c.env.locals σ s.heap (upd σ it (.raw o)) s'.heap → σ it = none → IterAt (upd σ it (.raw o)) s'.heap it ds → Q (.ref it) s') → wpAny B.M c.A (pyIter v) Q E s

theorem Itb.list {ds : List PyData} : Itb B c (.data (.list ds)) ds σ := fun ρ v s E Q S r h => by
  have r' : DRel _ _ _ _ := r
  unfold DRel at r'
  refine box fun G9 k9 => ?_
  obtain ⟨a, o, vs, n, rfl, q, e, hc, hd, l⟩ := r'
  refine k9 ?_; clear k9 G9
  refine wpAny_pyIter_list ⟨o, e, hc, n, hd⟩ ?_
  obtain ⟨S', E'⟩ := S.growT (tk := s.toks) (a := s.heap.objs.size) (ao := .raw _) (push_keep { cls := .type "list_iterator", data := .fields #[.ref a, .int 0 0] }) fresh_none (S.H0fresh fresh_none) ⟨_, Heap.get?_push_size _ rfl⟩ fun E => Heap.get?_push_size _ rfl
  have hne : a ≠ s.heap.objs.size := Nat.ne_of_lt (Heap.lt_size e)
  exact h _ _ _ S' E' S.fresh (.list (i := 0) ⟨_, Heap.get?_push_size _ rfl, rfl, rfl⟩ (by rw [upd_ne hne]; exact q) (push_keep _ _ _ e) hc hd ((vrelL_of l).ext S.ns E'))
theorem Itb.str {x : Str} (ha : x.cps.all (· < 128) = true) : Itb B c (.data (.str x)) (x.cps.toList.map fun k => .str ⟨#[k]⟩) σ := fun ρ v s E Q S r h => by
  obtain ⟨t, rfl⟩ := str_of r
  refine wpAny_pyIter_ascii ha ?_
  obtain ⟨S', E'⟩ := S.growT (tk := s.toks) (a := s.heap.objs.size) (ao := .raw _) (push_keep { cls := .type "str_ascii_iterator", data := .fields #[.str x t, .int 0 0] }) fresh_none (S.H0fresh fresh_none) ⟨_, Heap.get?_push_size _ rfl⟩ fun E => Heap.get?_push_size _ rfl
  exact h _ _ _ S' E' S.fresh (.str (i := 0) ⟨_, Heap.get?_push_size _ rfl, rfl, rfl⟩)
theorem Itb.range {a : Addr} {n : Nat} {t u v : Tok} (q : σ a = some (.raw { cls := .type "range", dict := none, data := .fields #[.int 0 t, .int (n : Int) u, .int 1 v], slots := #[] })) (hn : n < 2 ^ 61) : Itb B c (.ref a) ((List.range n).map fun k : Nat => .int (0 + (k : Int))) σ := fun ρ v s E Q S r h => by
  cases r
  refine box fun G9 k9 => ?_
  obtain ⟨_, _, e⟩ := S.objs a _ q
  refine k9 ?_; clear k9 G9
  have e0 : Builtin.Range.rangeSize 0 (n : Int) 1 = (n : Int) := by rw [rangeSize_one]; split <;> lia
  refine wpAny_pyIter_range e (small_one (by lia) (by lia) (by lia) (by lia)) ?_
  rw [e0]
  obtain ⟨S', E'⟩ := S.growT (tk := s.toks) (a := s.heap.objs.size) (ao := .raw _) (push_keep { cls := .type "range_iterator", data := .fields #[rawInt 0, rawInt n, rawInt 1] }) fresh_none (S.H0fresh fresh_none) ⟨_, Heap.get?_push_size _ rfl⟩ fun E => Heap.get?_push_size _ rfl
  exact h _ _ _ S' E' S.fresh (.range (x := 0) (n := n) (Heap.get?_push_size _ rfl))
end
/-! W13 -/
section
open PySem PySem.W PyProof.Rows PySem.Calls PySem.Spec PySem.SeqAt
variable {B : Bs} {c : Cx} {ρ : Loc} {σ : AH} {s : Shared}

inductive PU (B : Bs) (c : Cx) (σ : AH) (s : Shared) (Q : Loc → AH → Prop) (u : Unit) (s' : Shared) : Prop
  | mk (ρ' : Loc) (σ' : AH) (S : St B c ρ' σ' s') (E : Ext c.env.locals σ s.heap σ' s'.heap) (q : Q ρ' σ') : PU B c σ s Q u s'
theorem PU.weaken {σ₁ : AH} {s₁ s' : Shared} {Q : Loc → AH → Prop} {u : Unit} (X : Ext c.env.locals σ s.heap σ₁ s₁.heap) (h : PU B c σ₁ s₁ Q u s') : PU B c σ s Q u s' :=
  let ⟨ρ', σ', S, E, q⟩ := h; ⟨ρ', σ', S, X.trans E, q⟩
/-- a store -/
noncomputable def WU (B : Bs) (c : Cx) (f : Value → Sem Unit) (a : AV) (ρ : Loc) (σ : AH) (Q : Loc → AH → Prop) (X : XT) : Prop :=
  ∀ v s, St B c ρ σ s → VRel σ s.heap v a → wpAny B.M c.A (f v) (PU B c σ s Q) (PX B c σ s X) s
noncomputable def WUL (B : Bs) (c : Cx) (fs : List (Value → Sem Unit)) (as : List AV) (ρ : Loc) (σ : AH) (Q : Loc → AH → Prop) (X : XT) : Prop :=
  ∀ vs s, St B c ρ σ s → VRelL σ s.heap vs as → wpAny B.M c.A (assignInOrder fs vs) (PU B c σ s Q) (PX B c σ s X) s

section
variable {Q : Loc → AH → Prop} {X : XT}
theorem WUL_nil (q : Q ρ σ) : WUL B c [] [] ρ σ Q X := fun vs s S r => by
  cases r
  exact wpAny_assignInOrder_none ⟨ρ, σ, S, Ext.refl _ _ _, q⟩
theorem WUL_cons {f : Value → Sem Unit} {fs : List (Value → Sem Unit)} {a : AV} {as : List AV} (h : WU B c f a ρ σ (fun ρ₁ σ₁ => WUL B c fs as ρ₁ σ₁ Q X) X) : WUL B c (f :: fs) (a :: as) ρ σ Q X := fun vs s S r => by
  cases r with
  | cons r rs =>
    exact wpAny_assignInOrder_more (wpAny_mono (h _ s S r) (fun _ s₁ ⟨ρ₁, σ₁, S₁, E₁, q⟩ => wpAny_mono (q _ s₁ S₁ (rs.ext S.ns E₁)) (fun _ _ h => h.weaken E₁) fun _ _ h => h.weaken E₁) fun _ _ h => h)
theorem WU_bind {x : Str} {a : AV} {ρ' : Loc} (hp : Put ρ x a ρ') (q : Q ρ' σ) : WU B c (fun v => bindName c.env x v) a ρ σ Q X := fun v s S r =>
  wpAny_bindName (storeName_T S hp r fun s₂ S₂ E₂ => ⟨ρ', σ, S₂, E₂, q⟩)
theorem WU_name {x : Str} {xp : Pos} {a : AV} {ρ' : Loc} (hp : Put ρ x a ρ') (q : Q ρ' σ) : WU B c (assign (.Name x xp) c.env) a ρ σ Q X := fun v s S r =>
  wpAny_assign_Name (storeName_T S hp r fun s₂ S₂ E₂ => ⟨ρ', σ, S₂, E₂, q⟩)

theorem storeCell_T (S : St B c ρ σ s) {x : Str} {k : Addr} {v : Value} {av : AV} {o : Option AV} {A : Around} {E : Value → Shared → Prop} {Q : Unit → Shared → Prop} (hc : c.env.cells.lookup x = some k) (hσ : σ k = some (.cell o)) (hl : c.env.kindOf x = some .cell) (hv : VRel σ s.heap v av)
    (h : ∀ s', St B c ρ (upd σ k (.cell (some av))) s' → Ext c.env.locals σ s.heap (upd σ k (.cell (some av))) s'.heap → Q () s') : wpAny B.M A (storeName c.env x v) Q E s := by
  refine box fun G9 k9 => ?_
  obtain ⟨_, _, oc, v', e, d, r⟩ := S.objs k _ hσ
  refine k9 ?_; clear k9 G9
  refine wpAny_storeName_cell S.ok.kind hl hc ⟨oc, e, d⟩ fun h' hc' hs' => ?_
  refine box fun G9 k9 => ?_
  obtain ⟨o', e', d'⟩ := hc'
  obtain ⟨S', E'⟩ := S.set (tk := s.toks) (ao' := .cell (some av)) hσ rfl hs' ⟨_, e'⟩ fun X => ⟨o', some v, e', d', hv.ext S.ns X⟩
  refine k9 ?_; clear k9 G9
  exact h _ S' E'
theorem WU_cell {x : Str} {xp : Pos} {a : AV} {k : Addr} {o : Option AV} (hc : c.env.cells.lookup x = some k) (hσ : σ k = some (.cell o)) (q : Q ρ (upd σ k (.cell (some a)))) (hl : c.env.kindOf x = some .cell := by rfl) : WU B c (assign (.Name x xp) c.env) a ρ σ Q X := fun v s S r =>
  wpAny_assign_Name (storeCell_T S hc hσ hl r fun s₂ S₂ E₂ => ⟨ρ, _, S₂, E₂, q⟩)
theorem WU_attr {o : Expr} {n : Str} {ap : Pos} {a : AV} (h : WE B c o ρ σ (setK B n a (Q ρ)) X) : WU B c (assign (.Attribute o n ap) c.env) a ρ σ Q X := fun v s S r => by
  rw [assign_Attribute]
  refine wpAny_bind (wpAny_holding (wpAny_mono (h s S) (fun u s₂ ⟨b, σ₂, S₂, E₂, r₂, x, C, dx, ats, ats', e1, e2, e3, e4, e5, q₂⟩ => ?_) fun _ _ h => h))
  subst e1
  cases r₂
  refine wpAny_bind (wpAny_standAt (wpAny_bind (wpAny_holding (setAttr_T S₂ e2 e3 (r.ext S.ns E₂) e4 e5 fun s₃ S₃ E₃ => wpAny_release ⟨ρ, _, S₃, E₂.trans E₃, q₂⟩))))
theorem WU_sub {o i : Expr} {ap : Pos} {a : AV} (h : WE B c o ρ σ (fun ov σ₂ => WE B c i ρ σ₂ (fun iv σ₃ => W3 B c ov iv a ρ σ₃ (fun σ' => Q ρ σ') X) X) X)  : WU B c (assign (.Subscript o i ap) c.env) a ρ σ Q X := fun v s S r => by
  rw [assign_Subscript]
  refine wpAny_bind (wpAny_holding (wpAny_mono (h s S) (fun ov s₁ ⟨b, σ₁, S₁, E₁, r₁, q₁⟩ => ?_) fun _ _ h => h))
  refine wpAny_bind (wpAny_holding (wpAny_mono (q₁ s₁ S₁) (fun iv s₂ ⟨b2, σ₂, S₂, E₂, r₂, q₂⟩ => ?_) fun _ _ h => h.weaken E₁))
  refine wpAny_bind (wpAny_standAt (wpAny_bind (wpAny_holding (wpAny_mono (q₂ ov iv v s₂ S₂ (r₁.ext S₁.ns E₂) r₂ (r.ext S.ns (E₁.trans E₂))) (fun _ s₃ ⟨_, σ₃, S₃, E₃, _, q₃⟩ => ?_) fun _ _ h => h.weaken (E₁.trans E₂)))))
  exact wpAny_release ⟨ρ, σ₃, S₃, (E₁.trans E₂).trans E₃, q₃⟩

theorem unpackItems_T (hh : c.hd = none) (S : St B c ρ σ s) {t : Addr} {o : Obj} {items : Array Value} {k : Nat} {n : Nat} (ho : s.heap.get? t = some o) (hc : o.cls = .type "tuple") (hd : o.data = .seq items k) (hn : n = items.size) {E : Value → Shared → Prop} {Q : List Value → Shared → Prop}
    (h : ∀ s', St B c ρ σ s' → Ext c.env.locals σ s.heap σ s'.heap → Q items.toList s') : wpAny B.M c.A (unpackItems (.ref t) n none) Q E s := by
  subst hn
  refine wpAny_unpackItems_tuple hh ⟨o, ho, hc, k, hd⟩ fun h' he => ?_
  obtain ⟨S', E'⟩ := S.grow (tk := s.toks) (h' := h') fun b o e => he b o (Nat.ne_of_lt (Heap.lt_size e)) e
  exact h _ S' E'
theorem WU_tuple {elts : List Expr} {k : Nat} {pos : Pos} {ds : List PyData} (hh : c.hd = none) (hn : (assignEach elts c.env).length = ds.length) (h : WUL B c ((assignEach elts c.env).map (·.2)) (ds.map .data) ρ σ Q X) (hstar : (assignEach elts c.env).findIdx? (·.1) = none := by rfl) :
    WU B c (assign (.Tuple elts k pos) c.env) (.data (.tuple ds)) ρ σ Q X := fun v s S r => by
  have r' : DRel _ _ _ _ := r
  unfold DRel at r'
  refine box fun G9 k9 => ?_
  obtain ⟨a, o, vs, n, rfl, q, e, hc, hd, l⟩ := r'
  refine k9 ?_; clear k9 G9
  have hlen := (vrelL_of l).length
  simp only [List.length_map, Array.length_toList] at hlen
  refine wpAny_assign_Tuple hh ⟨o, e, hc, n, hd⟩ (by rw [hn, hlen]) hstar fun h' he => ?_
  obtain ⟨S', E'⟩ := S.grow (tk := s.toks) (h' := h') fun b o e => he b o (Nat.ne_of_lt (Heap.lt_size e)) e
  exact wpAny_mono (h vs.toList _ S' ((vrelL_of l).ext S.ns E')) (fun _ _ h => h.weaken E') fun _ _ h => h.weaken E'
end

section
variable {Q : QS} {X : XT}
theorem PU.suite {rest : List Stmt} {σ₁ : AH} {s₁ s₂ : Shared} {u : Unit} (E : Ext c.env.locals σ s.heap σ₁ s₁.heap) (h : PU B c σ₁ s₁ (fun ρ' σ' => WS B c rest ρ' σ' Q X) u s₂) :
    wpAny B.M c.A (execs rest c.env) (PF B c σ s Q) (PX B c σ s X) s₂ := by
  refine box fun G9 k9 => ?_
  obtain ⟨ρ', σ', S', E', q⟩ := h
  refine k9 ?_; clear k9 G9
  exact WS.run q S' (E.trans E')
noncomputable abbrev stK (B : Bs) (c : Cx) (rest : List Stmt) (Q : QS) (X : XT) : Loc → AH → Prop := fun ρ' σ' => WS B c rest ρ' σ' Q X
noncomputable abbrev toK (B : Bs) (c : Cx) (t : Expr) (rest : List Stmt) (ρ : Loc) (Q : QS) (X : XT) : AV → AH → Prop := fun a σ₁ => WU B c (assign t c.env) a ρ σ₁ (stK B c rest Q X) X
noncomputable abbrev unK (B : Bs) (c : Cx) (elts : List Expr) (rest : List Stmt) (ρ : Loc) (Q : QS) (X : XT) : List AV → AH → Prop := fun as σ₁ => (assignEach elts c.env).length = as.length ∧ as.length ≤ sizeLine ∧ WUL B c ((assignEach elts c.env).map (·.2)) as ρ σ₁ (stK B c rest Q X) X
noncomputable abbrev swK (B : Bs) (c : Cx) (names : List Str) (rest : List Stmt) (ρ : Loc) (Q : QS) (X : XT) : List AV → AH → Prop := fun as σ₁ => names.length = as.length ∧ as.length ≤ sizeLine ∧ WUL B c (names.reverse.map fun n => fun v => bindName c.env n v) as.reverse ρ σ₁ (stK B c rest Q X) X
/-- one target of any kind -/
theorem WS_assignTo {t e : Expr} {pos : Pos} {rest : List Stmt} (h : WE B c e ρ σ (toK B c t rest ρ Q X) X)
    (ht : assignEach [t] c.env = [(false, assign t c.env)] := by rfl) (hs : swapsWithSole [t] e pos.line c.env = pure false := by rfl) (hw : swappedStores [t] e c.env = pure none := by rfl) : WS B c (.Assign [t] e pos :: rest) ρ σ Q X := fun s S => by
  refine wpAny_execs_cons (wpAny_Assign_stores (wpAny_mono (h s S) (fun v s₁ ⟨a, σ₁, S₁, E₁, r₁, q₁⟩ => ?_) fun _ _ h => h) hs hw)
  rw [ht]
  exact wpAny_mono (q₁ v s₁ S₁ r₁) (fun _ _ h => PU.suite E₁ h) fun _ _ h => h.weaken E₁
theorem tuple_T (S : St B c ρ σ s) {vs : List Value} {as : List AV} (r : VRelL σ s.heap vs as) :
    St B c ρ σ { s with heap := s.heap.push { cls := .type "tuple", data := .seq vs.toArray } } ∧ Ext c.env.locals σ s.heap σ (s.heap.push { cls := .type "tuple", data := .seq vs.toArray }) ∧ VRelL σ (s.heap.push { cls := .type "tuple", data := .seq vs.toArray }) vs as := by
  obtain ⟨S₂, E₂⟩ := S.grow (tk := s.toks) (push_keep { cls := Value.type "tuple", data := Data.seq vs.toArray })
  exact ⟨S₂, E₂, r.ext S.ns E₂⟩
/-- a written tuple into so many targets -/
theorem WS_assignTuple {elts es : List Expr} {k k' : Nat} {tp tp' pos : Pos} {rest : List Stmt} (hh : c.hd = none) (h : WA B c es ρ σ (unK B c elts rest ρ Q X) X)
    (hstar : (assignEach elts c.env).findIdx? (·.1) = none := by rfl) (hs : swapsWithSole [.Tuple elts k tp] (.Tuple es k' tp') pos.line c.env = pure false := by rfl) (hw : swappedStores [.Tuple elts k tp] (.Tuple es k' tp') c.env = pure none := by rfl) :
    WS B c (.Assign [.Tuple elts k tp] (.Tuple es k' tp') pos :: rest) ρ σ Q X := fun s S => by
  refine wpAny_execs_cons (Assign_Tuple (wpAny_Tuple (wpAny_mono (h tp' s S) (fun vs s₁ ⟨as, σ₁, S₁, E₁, r₁, hl, hz, q₁⟩ => ?_) fun _ _ h => h)) hs hw)
  have hlen := r₁.length
  refine ⟨by rw [hlen]; exact hz, ?_⟩
  refine box fun G9 k9 => ?_
  obtain ⟨S₂, E₂, r₂⟩ := tuple_T S₁ r₁
  refine k9 ?_; clear k9 G9
  refine wpAny_assign_Tuple hh ⟨_, Heap.get?_push_size _ rfl, rfl, _, rfl⟩ (by rw [hl, ← hlen, List.size_toArray]) hstar fun h' he => ?_
  obtain ⟨S₃, E₃⟩ := S₂.grow (tk := s₁.toks) (h' := h') fun b o e => he b o (Nat.ne_of_lt (Heap.lt_size e)) e
  exact wpAny_mono (q₁ vs _ S₃ (r₂.ext S₂.ns E₃)) (fun _ _ h => PU.suite ((E₁.trans E₂).trans E₃) h) fun _ _ h => h.weaken ((E₁.trans E₂).trans E₃)
theorem VRelL.reverse {h : Heap} {vs : List Value} {as : List AV} (r : VRelL σ h vs as) : VRelL σ h vs.reverse as.reverse := by
  induction r with
  | nil => exact .nil
  | cons a _ ih => rw [List.reverse_cons, List.reverse_cons]; exact ih.append (.cons a .nil)
theorem WS_assignSwap {elts es : List Expr} {k k' : Nat} {tp tp' pos : Pos} {rest : List Stmt} {names : List Str} (hw : swappedStores [.Tuple elts k tp] (.Tuple es k' tp') c.env = pure (some names)) (hh : c.hd = none)
    (h : WA B c es ρ σ (swK B c names rest ρ Q X) X)
    (hs : swapsWithSole [.Tuple elts k tp] (.Tuple es k' tp') pos.line c.env = pure false := by rfl) :
    WS B c (.Assign [.Tuple elts k tp] (.Tuple es k' tp') pos :: rest) ρ σ Q X := fun s S => by
  refine wpAny_execs_cons (Assign_Tuple_swapped (wpAny_Tuple (wpAny_mono (h tp' s S) (fun vs s₁ ⟨as, σ₁, S₁, E₁, r₁, hl, hz, q₁⟩ => ?_) fun _ _ h => h)) hs hw)
  have hlen := r₁.length
  refine ⟨by rw [hlen]; exact hz, ?_⟩
  refine box fun G9 k9 => ?_
  obtain ⟨S₂, E₂, r₂⟩ := tuple_T S₁ r₁
  refine k9 ?_; clear k9 G9
  refine unpackItems_T hh S₂ (Heap.get?_push_size _ rfl) rfl rfl (by rw [hl, ← hlen, List.size_toArray]) fun s₃ S₃ E₃ => ?_
  exact wpAny_mono (q₁ vs.reverse _ S₃ (r₂.ext S₂.ns E₃).reverse) (fun _ _ h => PU.suite ((E₁.trans E₂).trans E₃) h) fun _ _ h => h.weaken ((E₁.trans E₂).trans E₃)

noncomputable abbrev inK (B : Bs) (c : Cx) (x : Str) (f : Value → Value → Sem Value) (a : AV) (rest : List Stmt) (ρ : Loc) (Q : QS) (X : XT) : AV → AH → Prop := fun b σ₁ => W2 B c f a b ρ σ₁ (asgK B c x rest ρ Q X) X
theorem WS_augName {x : Str} {xp pos : Pos} {op : Operator} {e : Expr} {rest : List Stmt} {a : AV} (hx : At ρ x a) (h : WE B c e ρ σ (inK B c x (inplaceOp op) a rest ρ Q X) X) : WS B c (.AugAssign (.Name x xp) op e pos :: rest) ρ σ Q X := fun s S => by
  refine box fun G9 k9 => ?_
  obtain ⟨m, hm, hr⟩ := S.locals
  obtain ⟨u, hu, ru⟩ := hr x a hx.mem
  refine k9 ?_; clear k9 G9
  refine wpAny_execs_cons (wpAny_AugAssign_Name (wpAny_loadName_local S.ok.kind (S.kinds x (List.mem_map.mpr ⟨_, hx.mem, rfl⟩)) hm hu ?_))
  exact wpAny_mono (h s S) (fun v s₁ ⟨b, σ₁, S₁, E₁, r₁, q₁⟩ => wpAny_mono (q₁ u v s₁ S₁ (ru.ext S.ns E₁) r₁) (fun r s₂ ⟨rv, σ₂, S₂, E₂, r₂, ρ', hp, q₂⟩ =>
    storeName_T S₂ hp r₂ fun s₃ S₃ E₃ => WS.run q₂ S₃ ((E₁.trans E₂).trans E₃)) fun _ _ h => h.weaken E₁) fun _ _ h => h
theorem WS_augSub {o i : Expr} {tp pos : Pos} {op : Operator} {e : Expr} {rest : List Stmt} (h : WE B c o ρ σ (fun a σ₁ => WE B c i ρ σ₁ (fun b σ₂ => W2 B c getItem a b ρ σ₂ (fun old σ₃ => WE B c e ρ σ₃ (fun d σ₄ => W2 B c (inplaceOp op) old d ρ σ₄ (fun new σ₅ => W3 B c a b new ρ σ₅ (fun σ₆ => WS B c rest ρ σ₆ Q X) X) X) X) X) X) X)
    (hi : ∀ ov iv new, augStore i ov iv new = (do holding [new, ov, iv] (setItem ov iv new); release [new, ov, iv] []; pure .next) := by intros; rfl) : WS B c (.AugAssign (.Subscript o i tp) op e pos :: rest) ρ σ Q X := fun s S => by
  refine wpAny_execs_cons (wpAny_AugAssign_SubscriptAny ?_ hi)
  refine wpAny_mono (h s S) (fun v1 s₁ ⟨a, σ₁, S₁, E₁, r₁, q₁⟩ => ?_) fun _ _ h => h
  refine wpAny_mono (q₁ s₁ S₁) (fun v2 s₂ ⟨b, σ₂, S₂, E₂, r₂, q₂⟩ => ?_) fun _ _ h => h.weaken E₁
  refine wpAny_mono (q₂ v1 v2 s₂ S₂ (r₁.ext S₁.ns E₂) r₂) (fun v3 s₃ ⟨old, σ₃, S₃, E₃, r₃, q₃⟩ => ?_) fun _ _ h => h.weaken (E₁.trans E₂)
  refine wpAny_mono (q₃ s₃ S₃) (fun v4 s₄ ⟨d, σ₄, S₄, E₄, r₄, q₄⟩ => ?_) fun _ _ h => h.weaken ((E₁.trans E₂).trans E₃)
  refine wpAny_mono (q₄ v3 v4 s₄ S₄ (r₃.ext S₃.ns E₄) r₄) (fun v5 s₅ ⟨new, σ₅, S₅, E₅, r₅, q₅⟩ => ?_) fun _ _ h => h.weaken (((E₁.trans E₂).trans E₃).trans E₄)
  have E25 := (E₃.trans E₄).trans E₅
  refine wpAny_mono (q₅ v1 v2 v5 s₅ S₅ (r₁.ext S₁.ns (E₂.trans E25)) (r₂.ext S₂.ns E25) r₅) (fun _ s₆ ⟨_, σ₆, S₆, E₆, _, q₆⟩ => ?_) fun _ _ h => h.weaken ((E₁.trans E₂).trans E25)
  exact WS.run q₆ S₆ (((E₁.trans E₂).trans E25).trans E₆)
noncomputable abbrev augA (B : Bs) (c : Cx) (n : Str) (f : Value → Value → Sem Value) (e : Expr) (rest : List Stmt) (ρ : Loc) (Q : QS) (X : XT) : Addr → Addr → AV → AH → Prop := fun x C av σ₁ =>
  WE B c e ρ σ₁ (opK B c f av ρ (setK2 n x C (stmK B c rest ρ Q X)) X) X
theorem WS_augAttr {o : Expr} {n : Str} {tp pos : Pos} {op : Operator} {e : Expr} {rest : List Stmt} (h : WE B c o ρ σ (attK2 B n (augA B c n (inplaceOp op) e rest ρ Q X)) X) :
    WS B c (.AugAssign (.Attribute o n tp) op e pos :: rest) ρ σ Q X := fun s S => by
  refine wpAny_execs_cons (wpAny_AugAssign_AttributeAny ?_)
  refine wpAny_mono (h s S) (fun v1 s₁ ⟨a, σ₁, S₁, E₁, r₁, x, C, dx, ats, av, e1, e2, e3, e4, e5, q₁⟩ => ?_) fun _ _ h => h
  subst e1
  cases r₁
  refine getAttr_T S₁ e2 e3 e4 e5 fun old rv => ?_
  refine wpAny_mono (q₁ _ (S₁.toks _)) (fun v4 s₂ ⟨d, σ₂, S₂, E₂, r₂, q₂⟩ => ?_) fun _ _ h => (PX.toks h).weaken E₁
  refine wpAny_mono (q₂ old v4 s₂ S₂ (rv.ext S₁.ns E₂) r₂) (fun v5 s₃ ⟨new, σ₃, S₃, E₃, r₃, dx', ats1, ats', f1, f2, f3, q₃⟩ => ?_) fun _ _ h => h.weaken (E₁.trans E₂)
  exact setAttr_T S₃ f1 e3 r₃ (.inl f2) f3 fun s₄ S₄ E₄ => WS.run q₃ S₄ (((E₁.trans E₂).trans E₃).trans E₄)

theorem letGo_T {it : Addr} {ds : List PyData} {target : Expr} {v : Value} {A : Around} {E : Value → Shared → Prop} {Q : Unit → Shared → Prop} (I : IterAt σ s.heap it ds) (h : Q () s) : wpAny B.M A (letOwnedTupleGo target (.ref it) v) Q E s := by
  obtain ⟨o, e, T, fs, hc, hd, hn⟩ : ∃ o, s.heap.get? it = some o ∧ ∃ (T : String) (fs : Array Value), o.cls = .type T ∧ o.data = .fields fs ∧ ["enumerate", "zip", "dict_itemiterator", "dict_reverseitemiterator", "odict_iterator", "itertools.zip_longest", "itertools.pairwise"].contains T = false := by
    cases I with
    | list h1 => obtain ⟨o, e, hc, hd⟩ := h1; exact ⟨o, e, _, _, hc, hd, by decide⟩
    | str h1 => obtain ⟨o, e, hc, hd⟩ := h1; exact ⟨o, e, _, _, hc, hd, by decide⟩
    | range h1 => exact ⟨_, h1, _, _, rfl, rfl, by decide⟩
  have key : ∀ a : Addr, wpAny B.M A (do
      let o ← load it
      match o.cls, o.data with
      | .type n, .fields vs =>
        if ["enumerate", "zip", "dict_itemiterator", "dict_reverseitemiterator", "odict_iterator", "itertools.zip_longest", "itertools.pairwise"].contains n && vs[0]? == some (rawInt a) then
          rule "for.unpacks-the-owned-tuple"
          updateField it 0 .none
      | _, _ => pure ()) Q E s := fun a => by
    refine wpAny_bind (wpAny_load e ?_)
    rw [hc, hd]
    simp only [hn, Bool.false_and]
    exact wpAny_pure h
  unfold letOwnedTupleGo
  split
  all_goals first
    | exact wpAny_pure h
    | (cases v <;> first | exact wpAny_pure h | exact key _)

inductive lessI (I : Nat → Loc → AH → Prop) (n : Nat) (ρ' : Loc) (σ' : AH) : Prop
  | mk (m : Nat) (h : m < n) (i : I m ρ' σ') : lessI I n ρ' σ'
noncomputable abbrev whiQ (B : Bs) (c : Cx) (body rest : List Stmt) (ρ : Loc) (J : Loc → AH → Prop) (Q : QS) (X : XT) : Bool → AH → Prop := fun y σ₂ => if y = true then WS B c body ρ σ₂ (loopQ J Q) X else WS B c rest ρ σ₂ Q X
/-- while: by a measure -/
theorem WS_while {I : Nat → Loc → AH → Prop} {test : Expr} {body : List Stmt} {pos : Pos} {rest : List Stmt} {n₀ : Nat} (hf : c.Fun) (h0 : I n₀ ρ σ)
    (step : ∀ n ρ₁ σ₁, I n ρ₁ σ₁ → WT B c test ρ₁ σ₁ (whiQ B c body rest ρ₁ (lessI I n) Q X) X) : WS B c (.While test body [] pos :: rest) ρ σ Q X := fun s S => by
  refine wpAny_execs_cons (wpAny_While ?_)
  refine codeAny_whileLoop (fun n s' => ∃ ρ' σ', St B c ρ' σ' s' ∧ Ext c.env.locals σ s.heap σ' s'.heap ∧ I n ρ' σ') ?_ n₀ ⟨ρ, σ, S, Ext.refl _ _ _, h0⟩
  rintro n s₃ ⟨ρ₃, σ₃, S₃, E₃, I₃⟩
  have hX : ∀ {σ₁ : AH} {s₁ : Shared} {e : Value} {s' : Shared}, Ext c.env.locals σ s.heap σ₁ s₁.heap → PX B c σ₁ s₁ X e s' →
      notedBy B.M c.A c.env (fun e s'' => cameBackBy B.M c.A c.env (PX B c σ s X) e s'') e s' := fun E h => own_X hf (h.weaken E)
  refine wpAny_mono (step n ρ₃ σ₃ I₃ s₃ S₃) (fun b s₄ ⟨y, σ₄, S₄, E₄, r₄, q₄⟩ => ?_) fun _ _ h => hX E₃ h
  cases r₄
  cases b
  · exact wpAny_execs_nil (WS.run q₄ S₄ (E₃.trans E₄))
  · refine wpAny_mono (q₄ s₄ S₄) (fun f s₆ ⟨af, ρ₆, σ₆, S₆, E₆, r₆, q₆⟩ => ?_) fun _ _ h => hX (E₃.trans E₄) h
    have goOn : lessI I n ρ₆ σ₆ → ∃ m, m < n ∧ ∃ ρ' σ', St B c ρ' σ' s₆ ∧ Ext c.env.locals σ s.heap σ' s₆.heap ∧ I m ρ' σ' := fun ⟨m, hm, I₆⟩ => ⟨m, hm, ρ₆, σ₆, S₆, (E₃.trans E₄).trans E₆, I₆⟩
    cases f <;> cases af <;> first | exact r₆.elim | skip
    · exact goOn q₆
    · exact q₆.elim
    · exact goOn q₆
    · exact ⟨_, ρ₆, σ₆, S₆, (E₃.trans E₄).trans E₆, r₆, q₆⟩
end
end
/-! W14 -/
section
open PySem PySem.W PyProof.Rows PySem.Calls PySem.Spec PySem.SeqAt
variable {B : Bs} {c : Cx} {ρ : Loc} {σ : AH} {s : Shared}

theorem rel1 {h : Heap} {vs : List Value} {x : AV} (r : VRelL σ h vs [x]) : ∃ v, vs = [v] ∧ VRel σ h v x := by
  cases r with
  | cons r rs => cases rs; exact ⟨_, rfl, r⟩
theorem rel2 {h : Heap} {vs : List Value} {x y : AV} (r : VRelL σ h vs [x, y]) : ∃ v u, vs = [v, u] ∧ VRel σ h v x ∧ VRel σ h u y := by
  cases r with
  | cons r rs => obtain ⟨u, rfl, r'⟩ := rel1 rs; exact ⟨_, _, rfl, r, r'⟩
theorem dlist_of {h : Heap} {ds : List PyData} {v : Value} (r : VRel σ h v (.data (.list ds))) : ∃ a o vs n, v = .ref a ∧ σ a = none ∧ h.get? a = some o ∧ o.cls = .type "list" ∧ o.data = .seq vs n ∧ VRelL σ h vs.toList (ds.map .data) ∧ vs.size = ds.length := by
  have r' : DRel _ _ _ _ := r
  unfold DRel at r'
  refine box fun G9 k9 => ?_
  obtain ⟨a, o, vs, n, rfl, q, e, hc, hd, l⟩ := r'
  refine k9 ?_; clear k9 G9
  have hlen := (vrelL_of l).length
  simp only [List.length_map, Array.length_toList] at hlen
  exact ⟨a, o, vs, n, rfl, q, e, hc, hd, vrelL_of l, hlen⟩
theorem new_dlist (S : St B c ρ σ s) {vs : Array Value} {ds : List PyData} {tk : Nat} (r : VRelL σ s.heap vs.toList (ds.map .data)) :
    St B c ρ σ { s with heap := s.heap.push { cls := .type "list", data := .seq vs }, toks := tk } ∧ Ext c.env.locals σ s.heap σ (s.heap.push { cls := .type "list", data := .seq vs }) ∧
      VRel σ (s.heap.push { cls := .type "list", data := .seq vs }) (.ref s.heap.objs.size) (.data (.list ds)) := by
  obtain ⟨S₂, E₂⟩ := S.grow (tk := tk) (push_keep { cls := Value.type "list", data := Data.seq vs })
  refine ⟨S₂, E₂, ?_⟩
  show DRel _ _ _ _
  unfold DRel
  exact ⟨_, _, _, _, rfl, S.fresh, Heap.get?_push_size _ rfl, rfl, rfl, drelL_of (r.ext S.ns E₂)⟩

section
variable {Q : AV → AH → Prop} {X : XT}
/-! built-in calls -/
theorem WF_len_list {ds : List PyData} (hz : ds.length ≤ sizeLine) (q : Q (.data (.int ds.length)) σ) : WF B c (.val (.builtin "len")) [.data (.list ds)] ρ σ Q X := fun v vs s S r1 r2 => by
  cases r1
  refine box fun G9 k9 => ?_
  obtain ⟨_, rfl, r⟩ := rel1 r2
  obtain ⟨a, o, ws, n, rfl, _, e, hc, hd, _, hl⟩ := dlist_of r
  refine k9 ?_; clear k9 G9
  unfold sizeLine at hz
  refine call_len_list ⟨o, e, hc, n, hd⟩ (by lia) ?_
  rw [hl]
  exact PG.now S drel_int q
theorem WF_len_listT {a : Addr} {l : List AV} (hσ : σ a = some (.list l)) (hz : l.length ≤ sizeLine) (q : Q (.data (.int l.length)) σ) : WF B c (.val (.builtin "len")) [.ref a] ρ σ Q X := fun v vs s S r1 r2 => by
  cases r1
  refine box fun G9 k9 => ?_
  obtain ⟨_, rfl, r⟩ := rel1 r2
  refine k9 ?_; clear k9 G9
  cases r
  refine box fun G9 k9 => ?_
  obtain ⟨_, _, ws, n, ho, hl⟩ := S.objs a _ hσ
  refine k9 ?_; clear k9 G9
  have hlen := hl.length
  rw [Array.length_toList] at hlen
  unfold sizeLine at hz
  refine call_len_list ⟨_, ho, rfl, n, rfl⟩ (by lia) ?_
  rw [hlen]
  exact PG.now S drel_int q
theorem WF_len_str {x : Str} (hz : x.length ≤ sizeLine) (q : Q (.data (.int x.length)) σ) : WF B c (.val (.builtin "len")) [.data (.str x)] ρ σ Q X := fun v vs s S r1 r2 => by
  cases r1
  refine box fun G9 k9 => ?_
  obtain ⟨_, rfl, r⟩ := rel1 r2
  obtain ⟨t, rfl⟩ := str_of r
  refine k9 ?_; clear k9 G9
  unfold sizeLine at hz
  exact PyProof.Rows.len_str (by lia) (PG.now S drel_int q)
theorem WF_max {a b : Int} (hh : c.hd = none) (q : Q (.data (.int (if b > a then b else a))) σ) : WF B c (.val (.builtin "max")) [.data (.int a), .data (.int b)] ρ σ Q X := fun v vs s S r1 r2 => by
  cases r1
  refine box fun G9 k9 => ?_
  obtain ⟨_, _, rfl, ra, rb⟩ := rel2 r2
  obtain ⟨t, rfl⟩ := int_of ra; obtain ⟨t', rfl⟩ := int_of rb
  refine k9 ?_; clear k9 G9
  refine max_two_ints hh fun h' tk hk => ?_
  obtain ⟨S', E'⟩ := S.grow (tk := tk) hk
  refine ⟨_, σ, S', E', ?_, q⟩
  split <;> exact drel_int
theorem WF_range {n : Nat} (q : ∀ a t u v, σ a = none → Q (.ref a) (upd σ a (.raw { cls := .type "range", dict := none, data := .fields #[.int 0 t, .int (n : Int) u, .int 1 v], slots := #[] }))) : WF B c (.val (.type "range")) [.data (.int (n : Int))] ρ σ Q X := fun v vs s S r1 r2 => by
  cases r1
  refine box fun G9 k9 => ?_
  obtain ⟨_, rfl, r⟩ := rel1 r2
  obtain ⟨t, rfl⟩ := int_of r
  refine k9 ?_; clear k9 G9
  refine call_range_1 ?_
  obtain ⟨S', E'⟩ := S.growT (tk := s.toks + 1 + 1) (a := s.heap.objs.size) (ao := .raw _) (push_keep { cls := .type "range", data := .fields #[.int 0 s.toks, .int (n : Int) t, .int 1 (s.toks + 1)] }) fresh_none (S.H0fresh fresh_none) ⟨_, Heap.get?_push_size _ rfl⟩ fun E => Heap.get?_push_size _ rfl
  exact ⟨.ref s.heap.objs.size, _, S', E', rfl, q _ _ _ _ S.fresh⟩
theorem WF_isi_list {ds : List PyData} (q : Q (.data (.bool false)) σ) : WF B c (.val (.builtin "isinstance")) [.data (.list ds), .val (.type "str")] ρ σ Q X := fun v vs s S r1 r2 => by
  cases r1
  refine box fun G9 k9 => ?_
  obtain ⟨_, _, rfl, r, r'⟩ := rel2 r2
  refine k9 ?_; clear k9 G9
  cases r'
  refine box fun G9 k9 => ?_
  obtain ⟨a, o, ws, n, rfl, _, e, hc, hd, _, hl⟩ := dlist_of r
  refine k9 ?_; clear k9 G9
  exact PySem.IsiPair.list_str e hc (PG.now S drel_bool q)
theorem WF_str {x : Str} (q : Q (.data (.str x)) σ) : WF B c (.val (.type "str")) [.data (.str x)] ρ σ Q X := fun v vs s S r1 r2 => by
  cases r1
  refine box fun G9 k9 => ?_
  obtain ⟨_, rfl, r⟩ := rel1 r2
  obtain ⟨t, rfl⟩ := str_of r
  refine k9 ?_; clear k9 G9
  exact PySem.P.str_of_str (PG.here S drel_str q)
theorem push_toList {vs : Array Value} {v : Value} : (vs.push v).toList = vs.toList ++ [v] := by simp
theorem WF_append {a : Addr} {l : List AV} {x : AV} (hσ : σ a = some (.list l)) (hz : l.length ≤ sizeLine) (q : Q (.data .none) (upd σ a (.list (l ++ [x])))) : WF B c (.val (.builtin "list.append")) [.ref a, x] ρ σ Q X := fun v vs s S r1 r2 => by
  cases r1
  refine box fun G9 k9 => ?_
  obtain ⟨_, _, rfl, r, rx⟩ := rel2 r2
  refine k9 ?_; clear k9 G9
  cases r
  refine box fun G9 k9 => ?_
  obtain ⟨_, _, ws, n, ho, hl⟩ := S.objs a _ hσ
  refine k9 ?_; clear k9 G9
  have hlen := hl.length
  rw [Array.length_toList] at hlen
  refine append_at ho (fun h' hs ho' => ?_) (by lia)
  obtain ⟨S', E'⟩ := S.set (tk := s.toks) (ao' := .list (l ++ [x])) hσ rfl hs ⟨_, ho'⟩ fun X => ⟨_, _, ho', by
    rw [push_toList]; exact (hl.ext S.ns X).append (.cons (rx.ext S.ns X) .nil)⟩
  exact ⟨_, _, S', E', drel_none, q⟩
theorem WF_pop {a : Addr} {l : List AV} {x : AV} (hσ : σ a = some (.list (l ++ [x]))) (hz : l.length < sizeLine) (q : Q x (upd σ a (.list l))) : WF B c (.val (.builtin "list.pop")) [.ref a] ρ σ Q X := fun v vs s S r1 r2 => by
  cases r1
  refine box fun G9 k9 => ?_
  obtain ⟨_, rfl, r⟩ := rel1 r2
  refine k9 ?_; clear k9 G9
  cases r
  refine box fun G9 k9 => ?_
  obtain ⟨_, _, ws, n, ho, hl⟩ := S.objs a _ hσ
  refine k9 ?_; clear k9 G9
  have hlen := hl.length
  simp only [List.length_append, List.length_cons, List.length_nil, Array.length_toList] at hlen
  refine box fun G9 k9 => ?_
  obtain ⟨y, hy, ry⟩ := hl.get (i := l.length) (x := x) (by simp)
  refine k9 ?_; clear k9 G9
  have hy' : ws[ws.size - 1]? = some y := by rw [hlen]; simpa using hy
  have hup := PySem.IsL.update ho (fun xs => xs.eraseIdxIfInBounds (ws.size - 1))
  refine call_meets PySem.F.slot_list_pop ⟨_, ho, rfl⟩ PySem.F.entry_list_pop (PySem.F.args_list_pop_1 _) (PySem.MeetsSeq.list_pop_last a _ n y hy' (by lia)) ⟨ho, ?_⟩
  have hd := hl.dropLast
  rw [List.dropLast_concat] at hd
  have he : (ws.eraseIdxIfInBounds (ws.size - 1)).toList = ws.toList.dropLast := by
    unfold Array.eraseIdxIfInBounds
    rw [dif_pos (by lia), Array.toList_eraseIdx, List.eraseIdx_eq_take_drop_succ, List.dropLast_eq_take, List.drop_eq_nil_of_le (by rw [Array.length_toList]; lia), List.append_nil, Array.length_toList]
  obtain ⟨S', E'⟩ := S.set (tk := s.toks) (ao' := .list l) hσ rfl (Heap.SameBut.update ..) ⟨_, hup⟩ fun X => ⟨_, _, hup, by
    rw [he]; exact hd.ext S.ns X⟩
  exact ⟨x, _, S', E', ry.ext S.ns E', q⟩
theorem strsAre_of {h : Heap} : ∀ {vs : List Value} {ys : List Str}, VRelL σ h vs (ys.map fun y => .data (.str y)) → StrsAre vs ys
  | [], [], _ => .nil
  | _, y :: ys, r => by
    cases r with
    | cons r rs => obtain ⟨t, rfl⟩ := str_of r; exact .cons y t (strsAre_of rs)
theorem WF_join {a : Addr} {x : Str} {ys : List Str} (hσ : σ a = some (.list (ys.map fun y => .data (.str y)))) (hx : x.length ≤ 16) (hw : (ys.map (·.length)).sum + ys.length ≤ 1048576) (q : Q (.data (.str (Txt.join x ys))) σ) : WF B c (.val (.builtin "str.join")) [.data (.str x), .ref a] ρ σ Q X := fun v vs s S r1 r2 => by
  cases r1
  refine box fun G9 k9 => ?_
  obtain ⟨_, _, rfl, r, rx⟩ := rel2 r2
  obtain ⟨t, rfl⟩ := str_of r
  refine k9 ?_; clear k9 G9
  cases rx
  refine box fun G9 k9 => ?_
  obtain ⟨_, _, ws, n, ho, hl⟩ := S.objs a _ hσ
  refine k9 ?_; clear k9 G9
  exact join_listW ⟨_, ho, rfl, n, rfl⟩ (strsAre_of hl) hx hw fun t' k => PG.now S drel_str q

/-! methods -/
noncomputable def WM (B : Bs) (c : Cx) (a : AV) (name : Str) (f : AV) (first : List AV) (σ : AH) : Prop :=
  ∀ ρ v s (pl : Sem Bool) (A : Around) (E : Value → Shared → Prop) (Q : Value × List Value → Shared → Prop), St B c ρ σ s → VRel σ s.heap v a → (∀ fv fs tk, VRel σ s.heap fv f → VRelL σ s.heap fs first → Q (fv, fs) { s with toks := tk }) → wpAny B.M A (getMethod v name pl) Q E s
theorem WM_inst {x C dx f : Addr} {ats : List (Str × AV)} {name : Str} (q : σ x = some (.inst C dx ats)) (hm : (C, name, f) ∈ B.mts) (hn : name ∉ ats.map (·.1)) : WM B c (.ref x) name (.val (.ref f)) [.ref x] σ := fun ρ v s pl A E Q S r h => by
  cases r
  refine box fun G9 k9 => ?_
  obtain ⟨m, F, _⟩ := S.fr
  obtain ⟨es, k, I, _, r, nd⟩ := S.instAt q
  refine k9 ?_; clear k9 G9
  have := S.ok.b.mts _ hm
  unfold methOkB at this
  simp only [Bool.and_eq_true, beq_iff_eq] at this
  refine box fun G9 k9 => ?_
  obtain ⟨⟨⟨h1, h2⟩, h3⟩, h4⟩ := this
  refine k9 ?_; clear k9 G9
  exact method_inst F S.ok.b.X I h1 h2 h3 (r.miss hn) (h _ _ s.toks rfl (.cons rfl .nil))
theorem WM_append {a : Addr} {l : List AV} (hσ : σ a = some (.list l)) : WM B c (.ref a) "append" (.val (.builtin "list.append")) [.ref a] σ := fun ρ v s pl A E Q S r h => by
  cases r
  refine box fun G9 k9 => ?_
  obtain ⟨_, _, ws, n, ho, hl⟩ := S.objs a _ hσ
  refine k9 ?_; clear k9 G9
  exact getMethod_list_append ho rfl rfl (h _ _ s.toks rfl (.cons rfl .nil))
theorem WM_pop {a : Addr} {l : List AV} (hσ : σ a = some (.list l)) : WM B c (.ref a) "pop" (.val (.builtin "list.pop")) [.ref a] σ := fun ρ v s pl A E Q S r h => by
  cases r
  refine box fun G9 k9 => ?_
  obtain ⟨_, _, ws, n, ho, hl⟩ := S.objs a _ hσ
  refine k9 ?_; clear k9 G9
  exact getMethod_builtin ⟨_, ho, rfl⟩ PySem.F.plainAttrs_list PySem.F.slot_list_pop PySem.F.type_list_pop (fun b e => by cases e; exact ⟨_, ho, rfl⟩) (h _ _ s.toks rfl (.cons rfl .nil))
theorem WM_join {x : Str} : WM B c (.data (.str x)) "join" (.val (.builtin "str.join")) [.data (.str x)] σ := fun ρ v s pl A E Q S r h => by
  obtain ⟨t, rfl⟩ := str_of r
  exact getMethod_builtin (typeIs_str s x t) PySem.F.plainAttrs_str PySem.F.slot_str_join PySem.F.type_str_join (fun b e => by cases e) (h _ _ s.toks rfl (.cons drel_str .nil))

noncomputable abbrev runM (B : Bs) (c : Cx) (f : AV) (first : List AV) (ρ : Loc) (Q : AV → AH → Prop) (X : XT) : List AV → AH → Prop := fun as σ₂ => WF B c f (first ++ as) ρ σ₂ Q X
inductive metK (B : Bs) (c : Cx) (name : Str) (args : List Expr) (ρ : Loc) (Q : AV → AH → Prop) (X : XT) (a : AV) (σ₁ : AH) : Prop
  | mk (f : AV) (first : List AV) (h : WM B c a name f first σ₁) (k : Callable B f) (q : WA B c args ρ σ₁ (runM B c f first ρ Q X) X) : metK B c name args ρ Q X a σ₁
theorem W_CallMethod {o : Expr} {name : Str} {ap pos : Pos} {args : List Expr} {pl : Sem Bool} (h : WE B c o ρ σ (metK B c name args ρ Q X) X)
    (hm : eval (.Call (.Attribute o name ap) args [] pos) c.env = (do
      let ov ← eval o c.env
      standAt ap.atName
      let (f, first) ← holding [ov] (getMethod ov name pl)
      callWith pos f first (backTo pos (starEach args c.env)) (backToKw pos (keywordEach [] c.env))) := by rfl)
    (he : ∀ e r, args = e :: r → starEach (e :: r) c.env = (false, eval e c.env) :: starEach r c.env := by (intro e r h; first | cases h | (cases h; rfl))) (hpl : (backTo pos (starEach args c.env)).any (·.1) = false := by rfl) :
    WE B c (.Call (.Attribute o name ap) args [] pos) ρ σ Q X := fun s S => by
  refine methodCall_KW (wpAny_mono (h s S) (fun v s₁ ⟨a, σ₁, S₁, E₁, r₁, f, first, hw, hc, q⟩ => ?_) fun _ _ h => h) hm
  exact hw ρ v s₁ _ _ _ _ S₁ r₁ fun fv fs tk rf rfs => wpAny_mono (callWith_T hc (S₁.toks tk) rf rfs q he hpl) (fun _ _ h => (PG.toks h).weaken E₁) fun _ _ h => (PX.toks h).weaken E₁

/-! lists -/
theorem W2_addL {ds ds' : List PyData} (hz : ds.length + ds'.length ≤ sizeLine) (q : Q (.data (.list (ds ++ ds'))) σ) : W2 B c (binaryOp .Add) (.data (.list ds)) (.data (.list ds')) ρ σ Q X := fun v u s S r1 r2 => by
  refine box fun G9 k9 => ?_
  obtain ⟨a, ⟨cls, dd, data, sl⟩, vs, n, rfl, _, e, hc, hd, r, hl⟩ := dlist_of r1
  obtain ⟨a', ⟨cls', dd', data', sl'⟩, ws, n', rfl, _, e', hc', hd', r', hl'⟩ := dlist_of r2
  refine k9 ?_; clear k9 G9
  simp only at hc hd hc' hd'
  subst hc hd hc' hd'
  refine concat_meets ⟨_, e, rfl⟩ ⟨_, e', rfl⟩ noFill_list_add seq_list_add PySem.F.slot_list_add PySem.F.entry_list_add (PySem.F.args_list_add_2 _ _) (list_addW a a' vs ws n n' dd dd' sl sl' (by rw [hl, hl']; exact hz)) ⟨e, e', ?_⟩
  refine box fun G9 k9 => ?_
  obtain ⟨S', E', r''⟩ := new_dlist (ds := ds ++ ds') (vs := vs ++ ws) (tk := s.toks) S (by rw [Array.toList_append, List.map_append]; exact r.append r')
  refine k9 ?_; clear k9 G9
  exact ⟨_, σ, S', E', r'', q⟩
theorem rep_rel {h : Heap} {vs : List Value} {xs : List AV} (r : VRelL σ h vs xs) : ∀ k : Nat, VRelL σ h (List.replicate k vs).flatten (List.replicate k xs).flatten
  | 0 => .nil
  | k + 1 => by rw [List.replicate_succ, List.replicate_succ, List.flatten_cons, List.flatten_cons]; exact r.append (rep_rel r k)
theorem flat_map {k : Nat} {ds : List PyData} : (List.replicate k (ds.map AV.data)).flatten = ((List.replicate k ds).flatten).map .data := by
  induction k with
  | zero => rfl
  | succ k ih => rw [List.replicate_succ, List.replicate_succ, List.flatten_cons, List.flatten_cons, List.map_append, ih]
theorem W2_mulL {ds : List PyData} {n : Int} (h0 : 0 ≤ n) (h1 : n < 2 ^ 20) (hz : ds.length * n.toNat ≤ 2 ^ 24) (q : Q (.data (.list (List.replicate n.toNat ds).flatten)) σ) : W2 B c (binaryOp .Mult) (.data (.list ds)) (.data (.int n)) ρ σ Q X := fun v u s S r1 r2 => by
  refine box fun G9 k9 => ?_
  obtain ⟨t', rfl⟩ := int_of r2
  obtain ⟨a, ⟨cls, dd, data, sl⟩, vs, k, rfl, _, e, hc, hd, r, hl⟩ := dlist_of r1
  refine k9 ?_; clear k9 G9
  simp only at hc hd
  subst hc hd
  have hz' : vs.size * n.toNat ≤ 2 ^ 24 := by rw [hl]; exact hz
  refine wpAny_binaryOp_repeat_ref (T := "list") (U := "int") (by decide) ⟨_, e, rfl⟩ (fun s' => typeIs_int s' n t') noFill_list_mul PySem.F.fills_int_mul PySem.F.slot_int_rmul repeat_list PySem.F.slot_int_index.lookup
    (call_meets PySem.F.slot_int_rmul (typeIs_int s n t') PySem.F.entry_int_rmul (PySem.F.args_int_rmul_2 _ _) (lm_int_rmul_list_any n t' a vs k dd sl)
      ⟨e, rfl, ⟨_, e, rfl⟩, call_meets PySem.F.slot_list_mul ⟨_, e, rfl⟩ PySem.F.entry_list_mul (PySem.F.args_list_mul_2 _ _)
        (lm_list_mul_any a vs k dd sl n t' (by simp [Builtin.List.listFitsIndex]; lia) (by lia) (by simp [Builtin.List.listTooLong, sizeLine]; lia))
        ⟨e, ?_⟩⟩)
  rw [listMul_foldl_if]
  refine box fun G9 k9 => ?_
  obtain ⟨S', E', r''⟩ := new_dlist (ds := (List.replicate n.toNat ds).flatten) (vs := (List.replicate n.toNat vs.toList).flatten.toArray) (tk := s.toks) S (by rw [← flat_map]; exact rep_rel r _)
  refine k9 ?_; clear k9 G9
  exact ⟨_, σ, S', E', r'', q⟩
end
set_option maxRecDepth 100000 in
theorem iadd_any (l : Addr) (items : Array Value) (n : Nat) (b : Addr) (items2 : Array Value) (n2 : Nat) (d : Option Addr) (sl : Array (Option Value)) (hs1 : items.size + items2.size ≤ sizeLine) :
    Meets (Builtin.«list.__iadd__» ⟨[.ref l, .ref b], []⟩) (fun _ R s => s.heap.get? l = some { cls := .type "list", dict := none, data := .seq items n, slots := #[] } ∧ s.heap.get? b = some { cls := .type "list", dict := d, data := .seq items2 n2, slots := sl } ∧ R (.ok (.ret (Value.ref l))) { s with heap := s.heap.update l (Obj.mapSeq fun x => x ++ items2), toks := s.toks }) :=
  .of_wp fun prog w A R s h => by
    refine box fun G9 k9 => ?_
    obtain ⟨hp, g, dd, tk, os⟩ := s; obtain ⟨hl, hb, h⟩ := h; have f1 := AutoSeq1.idx_int; have f2 := AutoSeq1.sub_tuple_tuple; have f3 := AutoSeq1.sub_list_list; have f4 := AutoSeq1.sub_tuple_list; have f5 := AutoSeq1.sub_list_tuple;
    refine k9 ?_; clear k9 G9
    have hs0 : ¬(!items.isEmpty && Builtin.List.listTooLong (items.size + items2.size)) = true := by simp [Builtin.List.listTooLong]; intro _; lia
    have hz : items.size ≤ sizeLine := by lia
    have hz' : (items ++ items2).size ≤ sizeLine + 1 := by rw [Array.size_append]; lia
    wp_walk using (wpAny_updateSeq hl rfl (hz := hz) (_hz' := hz')), AutoSeq1.wpAny_loadPart' hl, AutoSeq1.wpAny_loadPart' hb; exact ⟨_, rfl, h⟩
end
/-! W15 -/
section
open PySem PySem.W PyProof.Rows PySem.Calls PySem.Spec PySem.SeqAt
variable {B : Bs} {c : Cx} {ρ : Loc} {σ : AH} {s : Shared}

/-- a kind of dict -/
structure KD (B : Bs) (K : Type) [DecidableEq K] where
  knd : PySem.KeyKind B.prog B.w K
  ao : List (K × AV) → AO
  simpl : ∀ es, (ao es).simple = true
  rel : ∀ σ h a es, ORel B.w.params σ h a (ao es) ↔ DicAt knd.is knd.hash σ h a es
  key : K → PyData
  keyIs : ∀ σ h v k, VRel σ h v (.data (key k)) → knd.is k v = true
noncomputable def kdS (B : Bs) : KD B Str where
  knd := PySem.strKind B.prog B.w
  ao := .dictS
  simpl := fun _ => rfl
  rel := fun σ h a es => Iff.rfl
  key := .str
  keyIs := fun σ h v k r => by obtain ⟨t, rfl⟩ := str_of r; exact beq_self_eq_true k
noncomputable def kdI (B : Bs) : KD B Int where
  knd := PySem.intKind B.prog B.w
  ao := .dictI
  simpl := fun _ => rfl
  rel := fun σ h a es => Iff.rfl
  key := .int
  keyIs := fun σ h v k r => by obtain ⟨t, rfl⟩ := int_of r; exact beq_self_eq_true k

inductive KV {K : Type} (σ : AH) (h : Heap) : List (K × Value) → List (K × AV) → Prop
  | nil : KV σ h [] []
  | cons {k : K} {v : Value} {av : AV} {r : List (K × Value)} {r' : List (K × AV)} : VRel σ h v av → KV σ h r r' → KV σ h ((k, v) :: r) ((k, av) :: r')
section
variable {K : Type} [DecidableEq K]
noncomputable def storedA (es : List (K × AV)) (k : K) (v : AV) : List (K × AV) := if es.any (fun kv => kv.1 = k) then es.map (fun kv => if kv.1 = k then (kv.1, v) else kv) else es ++ [(k, v)]
theorem KV.keys {h : Heap} {kvs : List (K × Value)} {es : List (K × AV)} (r : KV σ h kvs es) : kvs.map (·.1) = es.map (·.1) := by
  induction r with
  | nil => rfl
  | cons _ _ ih => simp [ih]
theorem KV.length {h : Heap} {kvs : List (K × Value)} {es : List (K × AV)} (r : KV σ h kvs es) : kvs.length = es.length := by simpa using congrArg List.length r.keys
theorem KV.ext {L : Addr} {σ' : AH} {h h' : Heap} {kvs : List (K × Value)} {es : List (K × AV)} (N : NsAt h L) (X : Ext L σ h σ' h') (r : KV σ h kvs es) : KV σ' h' kvs es := by
  induction r with
  | nil => exact .nil
  | cons a _ ih => exact .cons (a.ext N X) ih
theorem KV.append {h : Heap} {kvs kvs' : List (K × Value)} {es es' : List (K × AV)} (r : KV σ h kvs es) (r' : KV σ h kvs' es') : KV σ h (kvs ++ kvs') (es ++ es') := by
  induction r with
  | nil => exact r'
  | cons a _ ih => exact .cons a ih
theorem KV.any {h : Heap} {kvs : List (K × Value)} {es : List (K × AV)} (r : KV σ h kvs es) (k : K) : kvs.any (fun kv => kv.1 = k) = es.any (fun kv => kv.1 = k) := by
  induction r with
  | nil => rfl
  | cons _ _ ih => simp [List.any_cons, ih]
theorem KV.setAll {h : Heap} {kvs : List (K × Value)} {es : List (K × AV)} {k : K} {v : Value} {av : AV} (r : KV σ h kvs es) (rv : VRel σ h v av) :
    KV σ h (kvs.map (fun kv => if kv.1 = k then (kv.1, v) else kv)) (es.map (fun kv => if kv.1 = k then (kv.1, av) else kv)) := by
  induction r with
  | nil => exact .nil
  | @cons k' v' av' r r' a _ ih =>
    simp only [List.map_cons]
    by_cases e : k' = k
    · simp only [e, if_true]; exact .cons rv (by simpa [e] using ih)
    · simp only [e, if_false]; exact .cons a ih
theorem KV.stored {h : Heap} {kvs : List (K × Value)} {es : List (K × AV)} {k : K} {v : Value} {av : AV} (r : KV σ h kvs es) (rv : VRel σ h v av) : KV σ h (PySem.stored kvs k v) (storedA es k av) := by
  unfold PySem.stored storedA
  rw [r.any k]
  split
  · exact r.setAll rv
  · exact r.append (.cons rv .nil)
theorem KV.get {h : Heap} {kvs : List (K × Value)} {es : List (K × AV)} {k : K} {av : AV} (r : KV σ h kvs es) (nd : (es.map (·.1)).Nodup) (hm : (k, av) ∈ es) : ∃ v, valueAt kvs k = some v ∧ VRel σ h v av := by
  induction r with
  | nil => cases hm
  | @cons k' v' av' r r' a _ ih =>
    simp only [List.map_cons, List.nodup_cons] at nd
    rcases List.mem_cons.mp hm with e | e
    · cases e
      exact ⟨v', by simp [valueAt], a⟩
    · have hne : ¬ k' = k := fun z => nd.1 (by rw [z]; exact List.mem_map.mpr ⟨_, e, rfl⟩)
      refine box fun G9 k9 => ?_
      obtain ⟨v, hv, rv⟩ := ih nd.2 e
      refine k9 ?_; clear k9 G9
      exact ⟨v, by unfold valueAt at hv ⊢; rw [List.find?_cons, decide_eq_false hne]; exact hv, rv⟩
theorem KV.none {h : Heap} {kvs : List (K × Value)} {es : List (K × AV)} {k : K} (r : KV σ h kvs es) (hn : k ∉ es.map (·.1)) : valueAt kvs k = Option.none := by
  induction r with
  | nil => rfl
  | @cons k' v' av' r r' a _ ih =>
    simp only [List.map_cons, List.mem_cons, not_or] at hn
    have := ih hn.2
    unfold valueAt at this ⊢
    rw [List.find?_cons, decide_eq_false (fun e => hn.1 e.symm)]
    exact this

variable (d : KD B K)
theorem KD.dictOf {h : Heap} {a : Addr} {es : List (K × AV)} (r : ORel B.w.params σ h a (d.ao es)) : ∃ kvs, h.DictOf d.knd a kvs ∧ KV σ h kvs es := by
  refine box fun G9 k9 => ?_
  obtain ⟨o, ents, n, e, x, hd, en, nd⟩ := (d.rel σ h a es).mp r
  refine k9 ?_; clear k9 G9
  have key : ∀ (l : List DictEntry) (es : List (K × AV)), Ent d.knd.is d.knd.hash σ h l es → ∃ kvs, Pairs d.knd l kvs ∧ KV σ h kvs es ∧ ∀ e ∈ l, ∃ k, d.knd.is k e.key = true ∧ e.hash = d.knd.hash k := by
    intro l es en
    induction en with
    | nil => exact ⟨[], .nil, .nil, fun e h => by cases h⟩
    | @cons e es k av r h1 h2 h3 _ ih =>
      refine box fun G9 k9 => ?_
      obtain ⟨kvs, p, kv, ks⟩ := ih
      refine k9 ?_; clear k9 G9
      refine ⟨(k, e.val) :: kvs, .cons h1 rfl p, .cons h3 kv, fun e' he => ?_⟩
      rcases List.mem_cons.mp he with rfl | he
      · exact ⟨k, h1, h2⟩
      · exact ks e' he
  refine box fun G9 k9 => ?_
  obtain ⟨kvs, p, kv, ks⟩ := key _ _ en
  refine k9 ?_; clear k9 G9
  exact ⟨kvs, ⟨o, ents, n, e, x, hd, fun e he => ks e (by simpa using he), p, by rw [kv.keys]; exact nd⟩, kv⟩
theorem KD.ofDict {h : Heap} {a : Addr} {kvs : List (K × Value)} {es : List (K × AV)} (r : h.DictOf d.knd a kvs) (kv : KV σ h kvs es) : ORel B.w.params σ h a (d.ao es) := by
  refine box fun G9 k9 => ?_
  obtain ⟨o, ents, n, e, x, hd, ks, p, nd⟩ := r
  refine k9 ?_; clear k9 G9
  refine (d.rel σ h a es).mpr ⟨o, ents, n, e, x, hd, ?_, by rw [← kv.keys]; exact nd⟩
  have ks' : ∀ e ∈ ents.toList, ∃ k, d.knd.is k e.key = true ∧ e.hash = d.knd.hash k := fun e he => ks e (by simpa using he)
  clear ks nd hd
  revert ks' kv
  generalize ents.toList = l at p
  induction p generalizing es with
  | nil => intro kv _; cases kv; exact .nil
  | @cons e kv' es' kvs h1 h2 _ ih =>
    intro kv ks'
    obtain ⟨k', v'⟩ := kv'
    cases kv with
    | cons a r =>
      refine box fun G9 k9 => ?_
      obtain ⟨k2, h3, h4⟩ := ks' e (.head _)
      refine k9 ?_; clear k9 G9
      have : k2 = k' := d.knd.inj _ _ _ h3 h1
      subst this
      subst h2
      exact .cons h1 h4 a (ih r fun e he => ks' e (.tail _ he))

section
variable {Q : AV → AH → Prop} {X : XT}
theorem WI_dict {a : Addr} {es : List (K × AV)} {k : K} {av : AV} (hσ : σ a = some (d.ao es)) (hm : (k, av) ∈ es) (q : Q av σ) : WI B c (.ref a) (.data (d.key k)) ρ σ Q X := fun v u s S r1 r2 => by
  cases r1
  refine box fun G9 k9 => ?_
  obtain ⟨_, _, ro⟩ := S.objs a _ hσ
  obtain ⟨_, _, _, _, _, _, _, nd⟩ := (d.rel _ _ _ _).mp ro
  obtain ⟨kvs, hd, kv⟩ := d.dictOf ro
  obtain ⟨v, hv, rv⟩ := kv.get nd hm
  refine k9 ?_; clear k9 G9
  exact ⟨"dict", _, Slot.lookup PySem.slot_dict_getitem, hd.typeIs, wpAny_getItem_of (d.keyIs _ _ _ _ r2) hd.mapOf hv (PG.now S rv q)⟩
theorem W2_notInDict {a : Addr} {es : List (K × AV)} {k : K} (hσ : σ a = some (d.ao es)) (ha : a ≠ sysModules) (q : Q (.data (.bool (!decide (k ∈ es.map (·.1))))) σ) : W2 B c (compareOp .NotIn) (.data (d.key k)) (.ref a) ρ σ Q X := fun v u s S r1 r2 => by
  cases r2
  refine box fun G9 k9 => ?_
  obtain ⟨_, _, ro⟩ := S.objs a _ hσ
  obtain ⟨_, _, _, _, _, _, _, nd⟩ := (d.rel _ _ _ _).mp ro
  obtain ⟨kvs, hd, kv⟩ := d.dictOf ro
  refine k9 ?_; clear k9 G9
  refine wpAny_notIn_of (d.keyIs _ _ _ _ r1) (by simpa using ha) hd.mapOf ?_
  have e : (valueAt kvs k).isSome = decide (k ∈ es.map (·.1)) := by
    by_cases hm : k ∈ es.map (·.1)
    · obtain ⟨⟨k', av⟩, hm', rfl⟩ := List.mem_map.mp hm
      refine box fun G9 k9 => ?_
      obtain ⟨v, hv, _⟩ := kv.get nd hm'
      refine k9 ?_; clear k9 G9
      rw [hv, decide_eq_true hm]; rfl
    · rw [kv.none hm, decide_eq_false hm]; rfl
  rw [e]
  exact PG.now S drel_bool q

/-- dicts of data alike? -/
noncomputable def eqvTo (es' : List (K × PyData)) : List (K × PyData) → Bool
  | [] => true
  | (k, x) :: r => match (es'.find? fun kv => kv.1 = k) with
    | some kv => PyData.eqv x kv.2 && eqvTo es' r
    | none => false
noncomputable def datas (es : List (K × PyData)) : List (K × AV) := es.map fun kv => (kv.1, .data kv.2)
theorem KV.findD {h : Heap} {kvs : List (K × Value)} : ∀ {es : List (K × PyData)}, KV σ h kvs (datas es) → ∀ k, (∃ v kv, valueAt kvs k = some v ∧ (es.find? fun kv => kv.1 = k) = some kv ∧ kv ∈ es ∧ VRel σ h v (.data kv.2)) ∨ (valueAt kvs k = Option.none ∧ (es.find? fun kv => kv.1 = k) = Option.none)
  | [], r, k => by cases r; exact .inr ⟨rfl, rfl⟩
  | (k', x) :: es, r, k => by
    cases r with
    | @cons _ v _ kvs' _ a r =>
      by_cases e : k' = k
      · subst e
        exact .inl ⟨v, (k', x), by simp [valueAt], by simp, .head _, a⟩
      · rcases KV.findD r k with ⟨v, kv, h1, h2, h3, h4⟩ | ⟨h1, h2⟩
        · refine .inl ⟨v, kv, ?_, ?_, .tail _ h3, h4⟩
          · unfold valueAt at h1 ⊢; rw [List.find?_cons, decide_eq_false e]; exact h1
          · rw [List.find?_cons, decide_eq_false e]; exact h2
        · refine .inr ⟨?_, ?_⟩
          · unfold valueAt at h1 ⊢; rw [List.find?_cons, decide_eq_false e]; exact h1
          · rw [List.find?_cons, decide_eq_false e]; exact h2
theorem keq_hits {kvs' : List (K × Value)} {es' : List (K × PyData)} {A : Around} (r' : KV σ s.heap kvs' (datas es')) (h' : ∀ kv ∈ es', shaped kv.2 = true) (hu : A.units + 64 < cLine) :
    ∀ {es : List (K × PyData)} {kvs : List (K × Value)}, KV σ s.heap kvs (datas es) → (∀ kv ∈ es, shaped kv.2 = true) → KeqHits A s kvs' kvs (eqvTo es' es)
  | [], _, r, _ => by cases r; exact .nil
  | (k, x) :: es, _, r, h => by
    cases r with
    | @cons _ v _ kvs' _ a r =>
      unfold eqvTo
      rcases KV.findD r' k with ⟨y, kv, h1, h2, h3, h4⟩ | ⟨h1, h2⟩
      · rw [h2]
        refine box fun G9 k9 => ?_
        obtain ⟨as, ra⟩ := reads_of _ _ a
        obtain ⟨bs, rb⟩ := reads_of _ _ h4
        refine k9 ?_; clear k9 G9
        exact .hit h1 (SeqAt.eqAt_reads x kv.2 A s v y as bs ra rb (SeqAt.canLay_of_shaped (h _ (.head _))) (SeqAt.canLay_of_shaped (h' _ h3)) (SeqAt.room_of_shaped (h _ (.head _)) hu)) (keq_hits r' h' hu r fun kv hk => h kv (.tail _ hk))
      · rw [h2]; exact .miss h1
theorem W2_neDict {a a' : Addr} {es es' : List (K × PyData)} (hσ : σ a = some (d.ao (datas es))) (hσ' : σ a' = some (d.ao (datas es'))) (ha : a ≠ sysModules) (ha' : a' ≠ sysModules) (h1 : ∀ kv ∈ es, shaped kv.2 = true) (h2 : ∀ kv ∈ es', shaped kv.2 = true) (hu : c.units + 100 < cLine)
    (q : Q (.data (.bool (!(es.length == es'.length && eqvTo es' es)))) σ) : W2 B c (compareOp .NotEq) (.ref a) (.ref a') ρ σ Q X := fun v u s S r1 r2 => by
  cases r1
  cases r2
  refine box fun G9 k9 => ?_
  obtain ⟨_, _, ro⟩ := S.objs a _ hσ
  obtain ⟨_, _, ro'⟩ := S.objs a' _ hσ'
  obtain ⟨kvs, hd, kv⟩ := d.dictOf ro
  obtain ⟨kvs', hd', kv'⟩ := d.dictOf ro'
  refine k9 ?_; clear k9 G9
  have l1 := kv.length
  have l2 := kv'.length
  unfold datas at l1 l2
  rw [List.length_map] at l1 l2
  refine keq_ne (by simpa using ha) (by simpa using ha') hd hd' (by show c.units < cLine; lia) (fun _ => keq_hits kv' h2 (by show c.units + 1 + 64 < cLine; lia) kv h1) ?_
  rw [l1, l2]
  exact PG.here S drel_bool q

/-- a dict display's pairs -/
inductive PRel (σ : AH) (h : Heap) : List (Value × Value) → List (K × AV) → Prop
  | nil : PRel σ h [] []
  | cons {kv v : Value} {ps : List (Value × Value)} {k : K} {av : AV} {es : List (K × AV)} : d.knd.is k kv = true → VRel σ h v av → PRel σ h ps es → PRel σ h ((kv, v) :: ps) ((k, av) :: es)
noncomputable def WDP (B : Bs) (d : KD B K) (c : Cx) (ks : List (Option Expr)) (vs : List Expr) (pos : Pos) (ρ : Loc) (σ : AH) (Q : List (K × AV) → AH → Prop) (X : XT) : Prop :=
  WG (PRel d) B c (evalPairs (pairTrees ks vs c.env pos)) ρ σ Q X
theorem WDP_nil {pos : Pos} {Q : List (K × AV) → AH → Prop} (q : Q [] σ) : WDP B d c [] [] pos ρ σ Q X := fun s S => evalPairs_nil (PG.here S .nil q)
theorem WDP_cons {k e : Expr} {ks : List (Option Expr)} {vs : List Expr} {pos : Pos} {Q : List (K × AV) → AH → Prop} (h : WE B c k ρ σ (fun a σ₁ => ∃ x, a = .data (d.key x) ∧ WE B c e ρ σ₁ (fun b σ₂ => WDP B d c ks vs pos ρ σ₂ (fun es σ₃ => Q ((x, b) :: es) σ₃) X) X) X) :
    WDP B d c (some k :: ks) (e :: vs) pos ρ σ Q X := fun s S => by
  refine evalPairs_cons (wpAny_mono (h s S) (fun kv s₁ ⟨a, σ₁, S₁, E₁, r₁, x, e1, q₁⟩ => ?_) fun _ _ h => h)
  subst e1
  refine wpAny_bind (wpAny_mono (q₁ s₁ S₁) (fun v s₂ ⟨b, σ₂, S₂, E₂, r₂, q₂⟩ => ?_) fun _ _ h => h.weaken E₁)
  refine wpAny_bind (wpAny_standAt (wpAny_pure (wpAny_mono (q₂ s₂ S₂) (fun ps s₃ ⟨es, σ₃, S₃, E₃, r₃, q₃⟩ => ?_) fun _ _ h => h.weaken (E₁.trans E₂))))
  exact ⟨_, σ₃, S₃, (E₁.trans E₂).trans E₃, .cons (d.keyIs _ _ _ _ (r₁.ext S₁.ns (E₂.trans E₃))) (r₂.ext S₂.ns E₃) r₃, q₃⟩
theorem PRel.carries {h : Heap} {ps : List (Value × Value)} {es : List (K × AV)} (r : PRel d σ h ps es) : ∃ kvs, Carries d.knd ps kvs ∧ KV σ h kvs es := by
  induction r with
  | nil => exact ⟨[], trivial, .nil⟩
  | @cons kv v ps k av es h1 h2 _ ih =>
    refine box fun G9 k9 => ?_
    obtain ⟨kvs, h3, h4⟩ := ih
    refine k9 ?_; clear k9 G9
    exact ⟨(k, v) :: kvs, ⟨h1, rfl, h3⟩, .cons h2 h4⟩
noncomputable def mergedA (acc es : List (K × AV)) : List (K × AV) := es.foldl (fun acc kv => storedA acc kv.1 kv.2) acc
theorem KV.merged {h : Heap} {kvs : List (K × Value)} {es : List (K × AV)} (r : KV σ h kvs es) : ∀ {kvs₀ : List (K × Value)} {es₀ : List (K × AV)}, KV σ h kvs₀ es₀ → KV σ h (PySem.merged kvs₀ kvs) (mergedA es₀ es) := by
  induction r with
  | nil => exact fun r₀ => r₀
  | cons a _ ih => exact fun r₀ => ih (r₀.stored a)
theorem St.bigSize (S : St B c ρ σ s) : s.heap.objs.size ≠ sysModules := by
  refine box fun G9 k9 => ?_
  obtain ⟨m, ⟨o, _, _, e, _⟩, _⟩ := S.locals
  obtain ⟨o', _, _, e', _⟩ := S.ok.b.T.g
  refine k9 ?_; clear k9 G9
  have h1 := Heap.lt_size e'
  have h2 := Heap.lt_size e
  have h3 := S.above
  have : (3 : Nat) < B.H0.objs.size := h1
  have h4 : c.env.locals < s.heap.objs.size := h2
  intro h5
  have h6 : s.heap.objs.size = (1 : Nat) := h5
  have h7 : B.H0.objs.size ≤ c.env.locals := h3
  rw [h6] at h4
  exact absurd (Nat.lt_of_lt_of_le this (Nat.le_trans h7 (Nat.le_of_lt_succ (Nat.lt_succ_of_lt h4)))) (by decide)
theorem W_Dict {ks : List (Option Expr)} {vs : List Expr} {pos : Pos} (h : ∀ a, σ a = none → a ≠ sysModules → WDP B d c ks vs pos ρ (upd σ a (d.ao [])) (fun es σ₁ => σ₁ a = some (d.ao []) ∧ Q (.ref a) (upd σ₁ a (d.ao (mergedA [] es)))) X)
    (hall : ks.all (·.isSome) = true := by rfl) (hl : ks.length = vs.length := by rfl) (h0 : ks ≠ [] := by simp) (hlen : ks.length ≤ 15 := by decide) : WE B c (.Dict ks vs pos) ρ σ Q X := fun s S => by
  refine wpAny_Dict_walk (knd := d.knd) hall hl h0 hlen ?_
  have hnew := Heap.DictOf.new (knd := d.knd) s.heap
  obtain ⟨S', E'⟩ := S.growT (tk := s.toks) (a := s.heap.objs.size) (ao := d.ao []) (push_keep { cls := .type "dict", data := .dict #[] }) fresh_none (S.H0fresh fresh_none) ⟨_, Heap.get?_push_size _ rfl⟩ fun E => d.ofDict hnew .nil
  refine wpAny_mono (h _ S.fresh S.bigSize _ S') (fun ps s₁ ⟨es, σ₁, S₁, E₁, r₁, hσ, q⟩ => ?_) fun _ _ h => h.weaken E'
  refine box fun G9 k9 => ?_
  obtain ⟨kvs, hc, kv⟩ := r₁.carries
  obtain ⟨_, _, ro⟩ := S₁.objs _ _ hσ
  obtain ⟨kvs0, hd0, kv0⟩ := d.dictOf ro
  refine k9 ?_; clear k9 G9
  cases kv0
  refine ⟨kvs, hc, hd0, fun h' hd' hs' => ?_⟩
  have hd2 := hd'
  refine box fun G9 k9 => ?_
  obtain ⟨o, _, _, e', _⟩ := hd2
  obtain ⟨S₂, E₂⟩ := S₁.set (tk := s₁.toks + ps.length) (ao' := d.ao (mergedA [] es)) hσ (d.simpl _) hs' ⟨_, e'⟩ fun X => d.ofDict hd' ((kv.ext S₁.ns X).merged .nil)
  refine k9 ?_; clear k9 G9
  exact ⟨.ref s.heap.objs.size, _, S₂, (E'.trans E₁).trans E₂, rfl, q⟩
theorem W_Dict0 {pos : Pos} (q : ∀ a, σ a = none → a ≠ sysModules → Q (.ref a) (upd σ a (d.ao []))) : WE B c (.Dict [] [] pos) ρ σ Q X := fun s S => by
  refine wpAny_Dict_empty ?_
  have hnew := Heap.DictOf.new (knd := d.knd) s.heap
  obtain ⟨S', E'⟩ := S.growT (tk := s.toks) (a := s.heap.objs.size) (ao := d.ao []) (push_keep { cls := .type "dict", data := .dict #[] }) fresh_none (S.H0fresh fresh_none) ⟨_, Heap.get?_push_size _ rfl⟩ fun E => d.ofDict hnew .nil
  exact ⟨.ref s.heap.objs.size, _, S', E', rfl, q _ S.fresh S.bigSize⟩
end
section
variable {X : XT}
theorem W3_dict {a : Addr} {es : List (K × AV)} {k : K} {v : AV} {Q : AH → Prop} (hσ : σ a = some (d.ao es)) (hz : es.length ≤ 1000) (q : Q (upd σ a (d.ao (storedA es k v)))) : W3 B c (.ref a) (.data (d.key k)) v ρ σ Q X := fun va vi vv s S r1 r2 r3 => by
  cases r1
  refine box fun G9 k9 => ?_
  obtain ⟨_, _, ro⟩ := S.objs a _ hσ
  obtain ⟨kvs, hd, kv⟩ := d.dictOf ro
  refine k9 ?_; clear k9 G9
  refine wpAny_setItem_pairs (d.keyIs _ _ _ _ r2) hd (fun h' hd' hs' => ?_) (by rw [kv.length]; unfold sizeLine; lia)
  have hd2 := hd'
  refine box fun G9 k9 => ?_
  obtain ⟨o, _, _, e', _⟩ := hd2
  obtain ⟨S', E'⟩ := S.set (tk := s.toks + 1) (ao' := d.ao (storedA es k v)) hσ (d.simpl _) hs' ⟨_, e'⟩ fun X => d.ofDict hd' ((kv.ext S.ns X).stored (r3.ext S.ns X))
  refine k9 ?_; clear k9 G9
  exact ⟨(), _, S', E', trivial, q⟩
end
end
end
/-! W16 -/
section
open PySem PySem.W PyProof.Rows PySem.Calls PySem.Spec PySem.SeqAt
variable {B : Bs} {c : Cx} {ρ : Loc} {σ : AH} {s : Shared}

section
variable {Q : AV → AH → Prop} {X : XT}
theorem W_neg {e : Expr} {pos : Pos} {i : Int} (h : WE B c e ρ σ (fun a σ₁ => a = .data (.int i) ∧ Q (.data (.int (-i))) σ₁) X) : WE B c (.UnaryOp .USub e pos) ρ σ Q X := fun s S =>
  UnaryOp_ (wpAny_mono (h s S) (fun v s₁ ⟨a, σ₁, S₁, E₁, r₁, e1, q₁⟩ => by
    subst e1
    obtain ⟨t, rfl⟩ := int_of r₁
    exact PyProof.Rows.neg_int ⟨_, σ₁, S₁.toks _, E₁, drel_int, q₁⟩) fun _ _ h => h)
theorem W_cell {x : Str} {pos : Pos} {k : Addr} {v : AV} (hc : c.env.cells.lookup x = some k) (hσ : σ k = some (.cell (some v))) (q : Q v σ) (hl : c.env.kindOf x = some .cell ∨ c.env.kindOf x = some .free := by first | exact .inl rfl | exact .inr rfl) (hd : (x == ("__debug__" : Str)) = false := by decide) (hn : (x == ("__classdict__" : Str)) = false := by decide) : WE B c (.Name x pos) ρ σ Q X := fun s S => by
  refine box fun G9 k9 => ?_
  obtain ⟨_, _, o, v', e, d, r⟩ := S.objs k _ hσ
  refine k9 ?_; clear k9 G9
  cases v' with
  | none => exact r.elim
  | some u =>
    rcases hl with hl | hl
    · exact wpAny_Name (wpAny_loadName_cell S.ok.kind hl hc ⟨o, e, d⟩ (PG.here S r q)) hd
    · exact wpAny_Name (wpAny_loadName_free S.ok.kind hl hc ⟨o, e, d⟩ (PG.here S r q) hn) hd

theorem seq_list_iadd : seqSlot? (.type "list") (dunderI "add") = pure (some (.builtin "list.__iadd__")) := PySem.seqSlot_of PySem.F.slot_list_iadd.lookup (by decide +kernel)
theorem no_fillsI : fillsInplaceSlot (.type "list") "add" (Operator.Add == .Add) = pure false := by
  unfold fillsInplaceSlot
  show (typeLookup (.type "list") (dunderI "add") >>= fun fi => pure (fi.isSome && !isSeqSlot fi)) = pure false
  rw [PySem.F.slot_list_iadd.lookup]
  show (pure (true && !isSeqSlot (some (.builtin "list.__iadd__"))) : Sem Bool) = pure false
  rw [show isSeqSlot (some (.builtin "list.__iadd__")) = true by decide +kernel]
  rfl
theorem W2_iaddL {a : Addr} {l : List AV} {ds : List PyData} (hσ : σ a = some (.list l)) (hz : l.length + ds.length ≤ sizeLine) (q : Q (.ref a) (upd σ a (.list (l ++ ds.map .data)))) : W2 B c (inplaceOp .Add) (.ref a) (.data (.list ds)) ρ σ Q X := fun v u s S r1 r2 => by
  cases r1
  refine box fun G9 k9 => ?_
  obtain ⟨_, _, vs, n, ho, hr⟩ := S.objs a _ hσ
  refine k9 ?_; clear k9 G9
  have hlen := hr.length
  rw [Array.length_toList] at hlen
  refine box fun G9 k9 => ?_
  obtain ⟨b, ⟨cls, dd, data, sl⟩, ws, n', rfl, hb, e, hc, hd, r, hl⟩ := dlist_of r2
  refine k9 ?_; clear k9 G9
  simp only at hc hd
  subst hc hd
  have hup := PySem.IsL.update ho (fun xs => xs ++ ws)
  unfold inplaceOp
  refine wpAny_holding ?_
  refine wpAny_bind (wpAny_typeOf (T := "list") ⟨_, ho, rfl⟩ (wpAny_bind (wpAny_of_eq no_fillsI ?_)))
  rw [if_neg Bool.false_ne_true]
  refine wpAny_bind (wpAny_binaryOp1_none (nm := "add") (a := .ref a) (b := .ref b) (T := "list") ⟨_, ho, rfl⟩ ⟨_, e, rfl⟩ noFill_list_add ?_)
  refine wpAny_bind (wpAny_of_eq seq_list_iadd ?_)
  refine wpAny_bind (wpAny_rule ?_)
  refine call_meets (s := s) (self := .ref a) PySem.F.slot_list_iadd ⟨_, ho, rfl⟩ PySem.F.entry_list_iadd (PySem.F.args_list_iadd_2 _ _) (iadd_any a vs n b ws n' dd sl (by rw [hl]; lia)) ⟨ho, e, ?_⟩
  obtain ⟨S', E'⟩ := S.set (tk := s.toks) (ao' := .list (l ++ ds.map .data)) hσ rfl (Heap.SameBut.update ..) ⟨_, hup⟩ fun X => ⟨_, _, hup, by
    rw [Array.toList_append]; exact (hr.ext S.ns X).append (r.ext S.ns X)⟩
  exact ⟨.ref a, _, S', E', rfl, q⟩

/-! slices -/
/-- a bound of a slice -/
noncomputable def WP (B : Bs) (c : Cx) (e : Option Expr) (ρ : Loc) (σ : AH) (Q : Option Int → AH → Prop) (X : XT) : Prop :=
  ∀ s, St B c ρ σ s → wpAny B.M c.A (evalPart e c.env) (fun v s' => ∃ (i : Option (Int × Tok)) (σ' : AH), v = partValue i ∧ St B c ρ σ' s' ∧ Ext c.env.locals σ s.heap σ' s'.heap ∧ Q (i.map (·.1)) σ') (PX B c σ s X) s
theorem WP_none {Q : Option Int → AH → Prop} (q : Q none σ) : WP B c none ρ σ Q X := fun s S => by
  rw [evalPart_none]; exact wpAny_pure ⟨none, σ, rfl, S, Ext.refl _ _ _, q⟩
theorem WP_some {e : Expr} {Q : Option Int → AH → Prop} (h : WE B c e ρ σ (fun a σ₁ => ∃ i, a = .data (.int i) ∧ Q (some i) σ₁) X) : WP B c (some e) ρ σ Q X := fun s S => by
  rw [evalPart_some]
  exact wpAny_mono (h s S) (fun v s₁ ⟨a, σ₁, S₁, E₁, r₁, i, e1, q⟩ => by subst e1; obtain ⟨t, rfl⟩ := int_of r₁; exact ⟨some (i, t), σ₁, rfl, S₁, E₁, q⟩) fun _ _ h => h
theorem filterMap_rel {h : Heap} {vs : List Value} {xs : List AV} (r : VRelL σ h vs xs) : ∀ js : List Nat, VRelL σ h (js.filterMap (vs[·]?)) (js.filterMap (xs[·]?))
  | [] => .nil
  | j :: js => by
    have ih := filterMap_rel r js
    rw [List.filterMap_cons, List.filterMap_cons]
    cases e : xs[j]? with
    | none =>
      have : vs[j]? = none := by
        rw [List.getElem?_eq_none_iff] at e ⊢
        rw [r.length]; exact e
      simp only [this]; exact ih
    | some x =>
      refine box fun G9 k9 => ?_
      obtain ⟨v, hv, rv⟩ := r.get e
      refine k9 ?_; clear k9 G9
      simp only [hv]; exact .cons rv ih
noncomputable def pickD (ds : List PyData) (lo hi : Option Int) : List PyData := (sliceRange (sliceBounds lo hi none ds.length).1 (sliceBounds lo hi none ds.length).2.1 (sliceBounds lo hi none ds.length).2.2).filterMap (ds[·]?)
theorem pick_rel {h : Heap} {vs : Array Value} {ds : List PyData} {lo hi : Option Int} (r : VRelL σ h vs.toList (ds.map .data)) : VRelL σ h (slicePick vs lo hi none).toList ((pickD ds lo hi).map .data) := by
  have hl := r.length
  rw [List.length_map, Array.length_toList] at hl
  unfold slicePick pickD
  rw [hl]
  have := filterMap_rel r (sliceRange (sliceBounds lo hi none ds.length).1 (sliceBounds lo hi none ds.length).2.1 (sliceBounds lo hi none ds.length).2.2)
  have e1 : ∀ js : List Nat, (js.filterMap (vs[·]?)).toArray.toList = js.filterMap (vs.toList[·]?) := fun js => by simp
  have e2 : ∀ js : List Nat, (js.filterMap (ds[·]?)).map AV.data = js.filterMap ((ds.map AV.data)[·]?) := fun js => by
    rw [List.map_filterMap]; congr 1; funext j; rw [List.getElem?_map]
  rw [e1, e2]; exact this
theorem isPart {i : Option (Int × Tok)} : IsPart (partValue i) (i.map (·.1)) := by
  cases i with
  | none => exact .none
  | some p => obtain ⟨i, t⟩ := p; exact .int i t
theorem W_sliceL {e : Expr} {lo hi : Option Expr} {p pos : Pos} (h : WE B c e ρ σ (fun a σ₁ => WP B c lo ρ σ₁ (fun l σ₂ => WP B c hi ρ σ₂ (fun u σ₃ => ∃ ds, a = .data (.list ds) ∧ ds.length ≤ sizeLine ∧ Q (.data (.list (pickD ds l u))) σ₃) X) X) X)
    (ht : ∀ o r, letTemporaryGo e o r = pure () := by intro _ _; rfl) : WE B c (.Subscript e (.Slice lo hi none p) pos) ρ σ Q X := fun s S => by
  refine wpAny_Subscript_list_slice (wpAny_mono (h s S) (fun v s₁ ⟨a, σ₁, S₁, E₁, r₁, q₁⟩ => wpAny_mono (q₁ s₁ S₁) (fun vl s₂ ⟨l, σ₂, el, S₂, E₂, q₂⟩ => wpAny_mono (q₂ s₂ S₂) (fun vu s₃ ⟨u, σ₃, eu, S₃, E₃, ds, ea, hz, q⟩ => ?_)
    fun _ _ h => h.weaken (E₁.trans E₂)) fun _ _ h => h.weaken E₁) fun _ _ h => h) ht
  subst ea
  refine box fun G9 k9 => ?_
  obtain ⟨b, o, vs, n, rfl, hb, e, hc, hd, r, hl⟩ := dlist_of (r₁.ext S₁.ns (E₂.trans E₃))
  refine k9 ?_; clear k9 G9
  refine ⟨b, vs, l.map (·.1), u.map (·.1), rfl, ⟨o, e, hc, n, hd⟩, by rw [hl]; exact hz, by rw [el]; exact isPart, by rw [eu]; exact isPart, ?_⟩
  refine box fun G9 k9 => ?_
  obtain ⟨S₄, E₄⟩ := S₃.grow (tk := s₃.toks) (push_keep { cls := .type "slice", data := .fields #[vl, vu, .none] })
  obtain ⟨S₅, E₅, r₅⟩ := new_dlist (ds := pickD ds (l.map (·.1)) (u.map (·.1))) (vs := slicePick vs (l.map (·.1)) (u.map (·.1)) none) (tk := s₃.toks) S₄ (pick_rel (r.ext S₃.ns E₄))
  refine k9 ?_; clear k9 G9
  rw [Heap.size_push] at r₅
  exact ⟨_, σ₃, S₅, ((((E₁.trans E₂).trans E₃).trans E₄).trans E₅), r₅, q⟩
end

/-! a list that nobody will turn any more -/
noncomputable def AV.fz (a : Addr) (ds : List PyData) : AV → AV
  | .ref b => if b = a then .data (.list ds) else .ref b
  | x => x
noncomputable def fzL (ρ : Loc) (a : Addr) (ds : List PyData) : Loc := ρ.map fun p => (p.1, p.2.map (AV.fz a ds))
section
variable {X : XT}
end
end
/-! W17 -/
section
open PySem PySem.W PyProof.Rows PySem.Calls PySem.Spec PySem.SeqAt
variable {B : Bs} {c : Cx} {ρ : Loc} {σ : AH} {s : Shared}

noncomputable def RB (B : Bs) (c : Cx) (ρ : Loc) (σ : AH) (s : Shared) (Q : AV → AH → Prop) (X : XT) : Result → Shared → Prop :=
  fun r s' => match r with
  | .ok (.ret v) => PG VRel B c ρ σ s Q v s'
  | .ok _ => False
  | .error e => PX B c σ s X e s'
/-- a call, as a code -/
noncomputable def WFC (B : Bs) (c : Cx) (f : AV) (args : List AV) (ρ : Loc) (σ : AH) (Q : AV → AH → Prop) (X : XT) : Prop :=
  ∀ v vs s, St B c ρ σ s → VRel σ s.heap v f → VRelL σ s.heap vs args → codeAny B.M c.A (.call v ⟨vs, []⟩) (RB B c ρ σ s Q X) s
theorem WF_of {f : AV} {args : List AV} {Q : AV → AH → Prop} {X : XT} (h : WFC B c f args ρ σ Q X) : WF B c f args ρ σ Q X := fun v vs s S r1 r2 => by
  refine wpAny_call (codeAny_mono (h v vs s S r1 r2) fun r s' z => ?_)
  rcases r with e | (v | _ | _ | _) <;> first | exact z | exact z.elim

noncomputable abbrev bodQ (Q : AV → AH → Prop) : QS := fun af _ σ' => Q (retOf af) σ'
noncomputable abbrev bodX (X : XT) (ρ : Loc) : XT := fun a _ σ' => X a ρ σ'
theorem WFC_def {f : Addr} {oc : Value} {od : Option Addr} {osl : Array (Option Value)} {fd : FuncData} {body : List Stmt} {ps others : List Str} {args : List AV} {ρ₀ : Loc} {Q : AV → AH → Prop} {X : XT}
    (hl : B.K.lookup f = some ⟨oc, od, .func fd, osl⟩) (hcode : codeIn B.K fd.code fd.qualname = true) (hb : fd.body = .stmts body)
    (hbind : ∀ vs : List Value, vs.length = args.length → bindArgs fd ⟨vs, []⟩ = pure (ps.zip vs)) (hlen : ps.length = args.length)
    (hnd : (ps ++ others).Nodup) (hloc : ∀ x ∈ ps ++ others, fd.scope.names.lookup x = some .local) (hcell : ∀ x ∈ fd.scope.names, x.2 ≠ .cell)
    (hρ : ρ₀ = locOf ps args others) (hd : c.depth < recursionLimit)
    (hW : ∀ L', WS B (c.child (callEnv fd L' f)) body ρ₀ σ (bodQ Q) (bodX X ρ))
    (hg : fd.globals = mainGlobals := by rfl) (hbu : fd.builtins = builtinsNs := by rfl) (hco : fd.scope.isCoroutine = false := by rfl) (hgen : fd.scope.isGenerator = false := by rfl) (hk : fd.scope.kind = .function := by rfl) :
    WFC B c (.val (.ref f)) args ρ σ Q X := fun v vs s S rv r => by
  cases rv
  have hlv : vs.length = args.length := r.length
  refine codeAny_call_def (fd := fd) (body := body) (binds := ps.zip vs) (show c.A.depth < recursionLimit from hd) (S.keep _ _ (S.ok.b.X _ _ hl)) rfl (S.ok.b.T.nolimit.keeps S.keep) ((codeRec_of S.ok.b.X hcode).keeps S.keep) hb
    (BindsTo.of_eq (hbind vs hlv)) hcell (fun x hx => hloc x.1 (List.mem_append_left _ (List.of_mem_zip hx).1)) (fun h₁ hns hkeep => ?_) hco hgen hk
  refine box fun G9 k9 => ?_
  obtain ⟨S₁, E₁, _⟩ := S.enter (tk := s.toks + (ps.zip vs).length) (f := f) hg hbu hk hlen hnd hloc r hns hkeep
  refine k9 ?_; clear k9 G9
  rw [← hρ] at S₁
  refine wpAny_mono (hW s.heap.objs.size _ S₁) (fun fl s' hf => ?_) fun e s' hx => ?_
  · obtain ⟨af, ρ', σ', S', E', rf, q⟩ := hf
    obtain ⟨S₂, E₂⟩ := S.back (L' := s.heap.objs.size) rfl ⟨_, rfl⟩ fresh_none hkeep S' E'
    exact ⟨_, σ', S₂, E₂, retOf_rel rf, q⟩
  · obtain ⟨a, ρ', σ', rfl, S', E', F', q⟩ := hx
    refine leave_T S' ⟨_, rfl, rfl⟩ F' fun s₂ S₂ E₂ F₂ => ?_
    obtain ⟨S₃, E₃⟩ := S.back (L' := s.heap.objs.size) rfl ⟨_, rfl⟩ fresh_none hkeep S₂ (E'.trans E₂)
    exact ⟨a, ρ, σ', rfl, S₃, E₃, .inr (.inl F₂), q⟩

noncomputable abbrev Cx.up (c : Cx) : Cx := { c with depth := c.depth + 1, units := c.units + 1 }
theorem tc_guard (a : Args) : (Code.builtin "type.__call__" a).isGuard = false := by
  show guardIds.contains "type.__call__" = false
  decide +kernel
theorem tc_frames (a : Args) : (Code.builtin "type.__call__" a).frames = 0 := by kernel_rfl
theorem tc_caller (a : Args) : (Code.builtin "type.__call__" a).isCaller = false := by kernel_rfl
theorem tc_units (a : Args) : (Code.builtin "type.__call__" a).cUnits = 1 := by
  show 1 + 3 * (Code.builtin "type.__call__" a).frames = 1
  rw [tc_frames]
theorem tc_envs (a : Args) : (Code.builtin "type.__call__" a).envs = [] := by kernel_rfl
theorem tc_creation (C : Addr) (rest : List Value) : (Code.builtin "type.__call__" ⟨.ref C :: rest, []⟩).isCreation = true := by kernel_rfl
theorem under_call {C : Addr} {rest : List Value} : c.A.under (.builtin "type.__call__" ⟨.ref C :: rest, []⟩) = c.up.A := by
  have hw : (Code.builtin "type.__call__" ⟨.ref C :: rest, []⟩).weight = 1 := by
    unfold Code.weight
    rw [tc_frames, tc_creation, tc_guard, tc_caller]; rfl
  have hg : (Code.builtin "type.__call__" ⟨.ref C :: rest, []⟩).guards = [] := by
    unfold Code.guards; rw [tc_guard]; rfl
  unfold Around.under
  rw [hw, tc_envs, hg, tc_units]
  rfl

/-- a new object of a class of the text, before its init -/
theorem St.growInst (S : St B c ρ σ s) {C : Addr} :
    St B c ρ (upd (upd σ (s.heap.objs.size + 1) (.inst C s.heap.objs.size [])) s.heap.objs.size (.own (s.heap.objs.size + 1))) { s with heap := (s.heap.push emptyDict).push (instObj C s.heap.objs.size) } ∧
    Ext c.env.locals σ s.heap (upd (upd σ (s.heap.objs.size + 1) (.inst C s.heap.objs.size [])) s.heap.objs.size (.own (s.heap.objs.size + 1))) ((s.heap.push emptyDict).push (instObj C s.heap.objs.size)) := by
  have hk : ∀ b o, s.heap.get? b = some o → ((s.heap.push emptyDict).push (instObj C s.heap.objs.size)).get? b = some o := fun b o e => Heap.get?_push_of_some _ (Heap.get?_push_of_some _ e)
  have hsz : (s.heap.push emptyDict).objs.size = s.heap.objs.size + 1 := Heap.size_push ..
  have hd : ((s.heap.push emptyDict).push (instObj C s.heap.objs.size)).get? s.heap.objs.size = some emptyDict := Heap.get?_push_of_some _ (Heap.get?_push_size _ rfl)
  have hx : ((s.heap.push emptyDict).push (instObj C s.heap.objs.size)).get? (s.heap.objs.size + 1) = some (instObj C s.heap.objs.size) := by
    have := Heap.get?_push_size (s.heap.push emptyDict) (o := instObj C s.heap.objs.size) rfl
    rwa [hsz] at this
  have hnew : s.heap.get? (s.heap.objs.size + 1) = none := by
    cases q : s.heap.get? (s.heap.objs.size + 1) with
    | none => rfl
    | some o => exact absurd (Heap.lt_size q) (Nat.not_lt.mpr (Nat.le_succ _))
  have hne : s.heap.objs.size + 1 ≠ s.heap.objs.size := Nat.succ_ne_self _
  have ne1 : ∀ b o, s.heap.get? b = some o → b ≠ s.heap.objs.size := fun b o e => Nat.ne_of_lt (Heap.lt_size e)
  have ne2 : ∀ b o, s.heap.get? b = some o → b ≠ s.heap.objs.size + 1 := fun b o e => Nat.ne_of_lt (Nat.lt_succ_of_lt (Heap.lt_size e))
  have hold : ∀ b, b ≠ s.heap.objs.size → b ≠ s.heap.objs.size + 1 → upd (upd σ (s.heap.objs.size + 1) (.inst C s.heap.objs.size [])) s.heap.objs.size (.own (s.heap.objs.size + 1)) b = σ b := fun b h1 h2 => by rw [upd_ne h1, upd_ne h2]
  have X : Ext c.env.locals σ s.heap (upd (upd σ (s.heap.objs.size + 1) (.inst C s.heap.objs.size [])) s.heap.objs.size (.own (s.heap.objs.size + 1))) ((s.heap.push emptyDict).push (instObj C s.heap.objs.size)) :=
    Ext.of_keep (fun b o e _ _ => hk b o e) fun b o e q => by rw [hold b (ne1 b o e) (ne2 b o e)]; exact q
  have hL : ∃ o, s.heap.get? c.env.locals = some o := by obtain ⟨m, ⟨o, _, _, e, _⟩, _⟩ := S.locals; exact ⟨o, e⟩
  obtain ⟨oL, eL⟩ := hL
  have hxσ : upd (upd σ (s.heap.objs.size + 1) (.inst C s.heap.objs.size [])) s.heap.objs.size (.own (s.heap.objs.size + 1)) (s.heap.objs.size + 1) = some (.inst C s.heap.objs.size []) := by rw [upd_ne hne, upd_same]
  refine ⟨S.move ?_ rfl X (fun b o e _ _ => hk b o e) (by rw [hold _ (ne1 _ _ eL) (ne2 _ _ eL)]; exact S.loc) (fun b bo q => ?_), X⟩
  · obtain ⟨m, hm, hr⟩ := S.locals
    exact ⟨m, hm.keeps hk, fun x av hx => let ⟨v, h1, h2⟩ := hr x av hx; ⟨v, h1, h2.ext S.ns X⟩⟩
  · by_cases h1 : b = s.heap.objs.size
    · subst h1
      rw [upd_same] at q; cases q
      exact ⟨S.H0fresh fresh_none, ⟨_, hd⟩, .inl ⟨C, [], hxσ⟩⟩
    · by_cases h2 : b = s.heap.objs.size + 1
      · subst h2
        rw [hxσ] at q; cases q
        exact ⟨S.H0fresh hnew, ⟨_, hx⟩, hx, upd_same _ _ _, .nil, [], 0, hd, rfl⟩
      · rw [hold b h1 h2] at q
        refine box fun G9 k9 => ?_
        obtain ⟨h0, ⟨o, e⟩, r⟩ := S.objs b bo q
        refine k9 ?_; clear k9 G9
        refine ⟨h0, ⟨o, hk b o e⟩, r.ext S.ns X (fun b o bo e q' _ => hk b o e) (fun d bo q _ => ?_) q⟩
        refine box fun G9 k9 => ?_
        obtain ⟨_, ⟨o', e'⟩, _⟩ := S.objs d bo q
        refine k9 ?_; clear k9 G9
        rw [hold d (ne1 _ _ e') (ne2 _ _ e')]; exact q

/-- a class of the text is called -/
theorem WF_make {C fI : Addr} {args : List AV} {Q : AV → AH → Prop} {X : XT} (hm : makesIn B.K C = true) (hi : findIn B.K (.ref C) "__init__" = some (some (.ref fI))) (hf : typeIn B.K (.ref fI) = some (.type "function"))
    (h : ∀ x dx, σ x = none → σ dx = none → x ≠ dx → WFC B c.up (.val (.ref fI)) (.ref x :: args) ρ (upd (upd σ x (.inst C dx [])) dx (.own x)) (fun r σ' => r = .data .none ∧ Q (.ref x) σ') X) : WF B c (.val (.ref C)) args ρ σ Q X := fun v vs s S r1 r2 => by
  cases r1
  refine wpAny_call ?_
  have X0 := S.ok.b.X.keeps S.keep
  have key : codeAny B.M (c.A.under (.builtin "type.__call__" ⟨.ref C :: vs, []⟩)) (.call (.ref fI) ⟨.ref (s.heap.objs.size + 1) :: vs, []⟩) (InitBack (s.heap.objs.size + 1) (fun r s' => match r with | .ok (.ret v) => PG VRel B c ρ σ s Q v s' | .ok _ => False | .error e => PX B c σ s X e s')) { s with heap := (s.heap.push emptyDict).push (instObj C s.heap.objs.size) } := by
    rw [under_call]
    obtain ⟨S', E'⟩ := S.growInst (C := C)
    have hnew : s.heap.get? (s.heap.objs.size + 1) = none := by
      cases q : s.heap.get? (s.heap.objs.size + 1) with
      | none => rfl
      | some o => exact absurd (Heap.lt_size q) (Nat.not_lt.mpr (Nat.le_succ _))
    have Su : ∀ {ρ : Loc} {σ : AH} {s : Shared}, St B c ρ σ s → St B c.up ρ σ s := fun S => ⟨⟨S.ok.b, S.ok.kind, S.ok.globals, S.ok.builtins⟩, S.locals, S.nodup, S.kinds, S.keep, S.above, S.loc, S.free, S.funs, S.objs, S.gens, S.drawn, S.os⟩
    have Sd : ∀ {ρ : Loc} {σ : AH} {s : Shared}, St B c.up ρ σ s → St B c ρ σ s := fun S => ⟨⟨S.ok.b, S.ok.kind, S.ok.globals, S.ok.builtins⟩, S.locals, S.nodup, S.kinds, S.keep, S.above, S.loc, S.free, S.funs, S.objs, S.gens, S.drawn, S.os⟩
    refine codeAny_mono (h _ _ (S.unt hnew) S.fresh (Nat.succ_ne_self _) (.ref fI) (.ref (s.heap.objs.size + 1) :: vs) _ (Su S') rfl (.cons rfl (r2.ext S.ns E'))) fun r s' z => ?_
    rcases r with e | (v | _ | _ | _) <;> first | exact z.elim | skip
    · obtain ⟨a, ρ', σ', rfl, S₁, E₁, F₁, q⟩ := z
      exact ⟨a, ρ', σ', rfl, Sd S₁, E'.trans E₁, F₁, q⟩
    · obtain ⟨y, σ', S₁, E₁, r₁, e1, q⟩ := z
      subst e1
      exact ⟨none_of r₁, .ref _, σ', Sd S₁, E'.trans E₁, rfl, q⟩
  refine box fun G9 k9 => ?_
  obtain ⟨hh, g, d, t, os⟩ := s
  refine k9 ?_; clear k9 G9
  exact make_core (makes_of X0 hm) (looks_findIn X0 hi) (fun self => bind_fn X0 self hf) (.inl rfl) key
end
/-! W18 -/
section
open PySem PySem.W PyProof.Rows PySem.Calls PySem.Spec PySem.SeqAt
variable {B : Bs} {c : Cx} {ρ : Loc} {σ : AH} {s : Shared}

theorem bindL_skip {kd : Str → Option NameKind} {x : Str} : ∀ {l : List (Str × Value)} {m : Str → Option Value}, x ∉ l.map (·.1) → bindL kd l m x = m x
  | [], _, _ => rfl
  | (n, v) :: r, m, h => by
    simp only [List.map_cons, List.mem_cons, not_or] at h
    unfold bindL
    rw [bindL_skip h.2]
    split
    · simp only [h.1, if_false]
    · rfl
theorem bindC_skip {kd : Str → Option NameKind} {x : Str} : ∀ {l : List (Str × Value)} {m : Str → Option Value}, x ∉ l.map (·.1) → bindC kd l m x = m x
  | [], _, _ => rfl
  | (n, v) :: r, m, h => by
    simp only [List.map_cons, List.mem_cons, not_or] at h
    unfold bindC
    rw [bindC_skip h.2]
    split
    · rfl
    · simp only [h.1, if_false]
theorem zip_fst_notin {x : Str} : ∀ {ps : List Str} {vs : List Value}, x ∉ ps → x ∉ (ps.zip vs).map (·.1)
  | [], _, _ => by simp
  | p :: ps, [], _ => by simp
  | p :: ps, v :: vs, h => by
    simp only [List.mem_cons, not_or] at h
    simp only [List.zip_cons_cons, List.map_cons, List.mem_cons, not_or]
    exact ⟨h.1, zip_fst_notin h.2⟩
theorem bindL_get {kd : Str → Option NameKind} {h : Heap} {x : Str} {av : AV} (hk : kd x = some .local) : ∀ {ps : List Str} {args : List AV} {vs : List Value} {m : Str → Option Value}, VRelL σ h vs args → ps.Nodup → (x, av) ∈ ps.zip args → ∃ v, bindL kd (ps.zip vs) m x = some v ∧ VRel σ h v av
  | [], _, _, _, _, _, hm => by simp at hm
  | p :: ps, [], _, _, _, _, hm => by simp at hm
  | p :: ps, a :: args, _, m, r, nd, hm => by
    cases r with
    | @cons v vs _ _ r rs =>
      rw [List.nodup_cons] at nd
      rw [List.zip_cons_cons] at hm ⊢
      unfold bindL
      rcases List.mem_cons.mp hm with q | q
      · cases q
        refine ⟨v, ?_, r⟩
        rw [bindL_skip (zip_fst_notin nd.1), if_pos hk]
        simp
      · exact bindL_get hk rs nd.2 q
theorem bindC_get {kd : Str → Option NameKind} {h : Heap} {x : Str} {av : AV} (hk : kd x = some .cell) : ∀ {ps : List Str} {args : List AV} {vs : List Value} {m : Str → Option Value}, VRelL σ h vs args → ps.Nodup → (x, av) ∈ ps.zip args → ∃ v, bindC kd (ps.zip vs) m x = some v ∧ VRel σ h v av
  | [], _, _, _, _, _, hm => by simp at hm
  | p :: ps, [], _, _, _, _, hm => by simp at hm
  | p :: ps, a :: args, _, m, r, nd, hm => by
    cases r with
    | @cons v vs _ _ r rs =>
      rw [List.nodup_cons] at nd
      rw [List.zip_cons_cons] at hm ⊢
      unfold bindC
      rcases List.mem_cons.mp hm with q | q
      · cases q
        refine ⟨v, ?_, r⟩
        rw [bindC_skip (zip_fst_notin nd.1), if_neg (by rw [hk]; decide)]
        simp
      · exact bindC_get hk rs nd.2 q

noncomputable def withCells (σ : AH) (cm : Str → Option AV) : List (Str × Addr) → AH
  | [] => σ
  | (n, k) :: r => upd (withCells σ cm r) k (.cell (cm n))
theorem withCells_at {cm : Str → Option AV} {b : Addr} : ∀ {cs : List (Str × Addr)}, (∃ n, (n, b) ∈ cs ∧ withCells σ cm cs b = some (.cell (cm n))) ∨ ((∀ n, (n, b) ∉ cs) ∧ withCells σ cm cs b = σ b)
  | [] => .inr ⟨by simp, rfl⟩
  | (n, k) :: r => by
    by_cases e : b = k
    · subst e; exact .inl ⟨n, .head _, upd_same _ _ _⟩
    · rcases withCells_at (b := b) (cs := r) with ⟨n', h1, h2⟩ | ⟨h1, h2⟩
      · exact .inl ⟨n', .tail _ h1, by unfold withCells; rw [upd_ne e]; exact h2⟩
      · refine .inr ⟨fun n' hm => ?_, by unfold withCells; rw [upd_ne e]; exact h2⟩
        rcases List.mem_cons.mp hm with q | q
        · cases q; exact e rfl
        · exact h1 n' q

theorem WFC_cells {f : Addr} {oc : Value} {od : Option Addr} {osl : Array (Option Value)} {fd : FuncData} {body : List Stmt} {ps : List Str} {args : List AV} {ρ₀ : Loc} {cm : Str → Option AV} {Q : AV → AH → Prop} {X : XT}
    (hl : B.K.lookup f = some ⟨oc, od, .func fd, osl⟩) (hcode : codeIn B.K fd.code fd.qualname = true) (hb : fd.body = .stmts body)
    (hbind : ∀ vs : List Value, vs.length = args.length → bindArgs fd ⟨vs, []⟩ = pure (ps.zip vs)) (hlen : ps.length = args.length)
    (hps : ps.Nodup) (hnd : (ρ₀.map (·.1)).Nodup) (hloc : ∀ x ∈ ρ₀.map (·.1), fd.scope.names.lookup x = some .local)
    (hρ : ∀ x av, (x, some av) ∈ ρ₀ → (x, av) ∈ ps.zip args)
    (hpk : ∀ L', ∀ x ∈ ps, fd.scope.names.lookup x = some .local ∨ (fd.scope.names.lookup x = some .cell ∧ ((cellsFrom (L' + 1) fd.scope.names []).lookup x).isSome = true))
    (hcm : ∀ L' n k, (n, k) ∈ cellsFrom (L' + 1) fd.scope.names [] → fd.scope.names.lookup n = some .cell ∧ (cellsFrom (L' + 1) fd.scope.names []).lookup n = some k ∧ ((∃ av, cm n = some av ∧ (n, av) ∈ ps.zip args) ∨ (cm n = none ∧ n ∉ ps)))
    (hd : c.depth < recursionLimit) (hclo : fd.closure = [])
    (hW : ∀ L', (∀ k, L' ≤ k → σ k = none) → WS B (c.child (callEnvC fd L' f)) body ρ₀ (withCells σ cm (cellsFrom (L' + 1) fd.scope.names [])) (bodQ Q) (bodX X ρ))
    (hg : fd.globals = mainGlobals := by rfl) (hbu : fd.builtins = builtinsNs := by rfl) (hco : fd.scope.isCoroutine = false := by rfl) (hgen : fd.scope.isGenerator = false := by rfl) (hk : fd.scope.kind = .function := by rfl) :
    WFC B c (.val (.ref f)) args ρ σ Q X := fun v vs s S rv r => by
  cases rv
  have hlv : vs.length = args.length := r.length
  have hzip : ∀ x, x ∈ ps.zip vs → x.1 ∈ ps := fun x hx => (List.of_mem_zip hx).1
  refine codeAny_call_cells (fd := fd) (body := body) (binds := ps.zip vs) (show c.A.depth < recursionLimit from hd) (S.keep _ _ (S.ok.b.X _ _ hl)) rfl (S.ok.b.T.nolimit.keeps S.keep) ((codeRec_of S.ok.b.X hcode).keeps S.keep) hb
    (hbind vs hlv) hclo (fun x hx => hpk _ x.1 (hzip x hx)) (fun s₁ I => ?_) hco hgen hk
  generalize hcs : cellsFrom (s.heap.objs.size + 1) fd.scope.names [] = cs
  have hkeep : ∀ b o, s.heap.get? b = some o → s₁.heap.get? b = some o := I.toInCall.keep
  have hcells : (callEnvC fd s.heap.objs.size f).cells = cs := hcs
  have above : ∀ n k, (n, k) ∈ cs → s.heap.objs.size < k := fun n k hm => I.above n k (by rw [hcells]; exact hm)
  have fresh : ∀ k, s.heap.objs.size ≤ k → s.heap.get? k = none := fun k hk => by
    cases q : s.heap.get? k with
    | none => rfl
    | some o => exact absurd (Heap.lt_size q) (Nat.not_lt.mpr hk)
  have hfresh : ∀ k, s.heap.objs.size ≤ k → σ k = none := fun k hk => S.unt (fresh k hk)
  have hout : ∀ b o, s.heap.get? b = some o → withCells σ cm cs b = σ b := fun b o e => by
    rcases withCells_at (σ := σ) (cm := cm) (b := b) (cs := cs) with ⟨n, h1, _⟩ | ⟨_, h2⟩
    · exact absurd (Nat.lt_trans (above n b h1) (Heap.lt_size e)) (Nat.lt_irrefl _)
    · exact h2
  have X1 : ∀ L, Ext L σ s.heap (withCells σ cm cs) s₁.heap := fun L => Ext.of_keep (fun b o e _ _ => hkeep b o e) fun b o e q => by rw [hout b o e]; exact q
  have hLs : B.H0.objs.size ≤ s.heap.objs.size := by
    refine box fun G9 k9 => ?_
    obtain ⟨m, ⟨o, _, _, e, _⟩, _⟩ := S.locals
    refine k9 ?_; clear k9 G9
    exact Nat.le_trans S.above (Nat.le_of_lt (Heap.lt_size e))
  refine box fun G9 k9 => ?_
  obtain ⟨h', tk, hs₁⟩ := I.toInCall.same
  refine k9 ?_; clear k9 G9
  have hL0 : withCells σ cm cs s.heap.objs.size = none := by
    rcases withCells_at (σ := σ) (cm := cm) (b := s.heap.objs.size) (cs := cs) with ⟨n, h1, _⟩ | ⟨_, h2⟩
    · exact absurd (above n _ h1) (Nat.lt_irrefl _)
    · rw [h2]; exact S.fresh
  have S₁ : St B (c.child (callEnvC fd s.heap.objs.size f)) ρ₀ (withCells σ cm cs) s₁ := by
    refine ⟨⟨S.ok.b, hk, hg, hbu⟩, ⟨_, I.toInCall.ns, fun x av hx => ?_⟩, hnd, hloc, fun b o e => hkeep b o (S.keep b o e), hLs, hL0, ?_, ?_, fun a ao q => ?_, by rw [hs₁]; exact S.gens, by rw [hs₁]; exact S.drawn, by rw [hs₁]; exact S.os⟩
    · obtain ⟨v, hv, rv⟩ := bindL_get (kd := (callEnvC fd s.heap.objs.size f).kindOf) (m := fun _ => none) (hloc x (List.mem_map.mpr ⟨_, hx, rfl⟩)) r hps (hρ x av hx)
      exact ⟨v, hv, rv.ext S.ns (X1 _)⟩
    · intro e he L hL
      rcases List.mem_cons.mp he with rfl | he
      · cases hL; exact hL0
      · obtain ⟨_, o, h, _⟩ := S.funs.mem (b := L) (List.mem_filterMap.mpr ⟨e, he, hL⟩)
        rw [hout L o h]; exact S.free e he L hL
    · refine Heap.FunFrames.cons (by show fd.scope.kind ≠ .module; rw [hk]; simp) rfl I.toInCall.ns (S.H0fresh fresh_none) (S.funs.of_keeps fun b o e _ => ⟨o, hkeep b o e, rfl⟩)
    · rcases withCells_at (σ := σ) (cm := cm) (b := a) (cs := cs) with ⟨n, h1, h2⟩ | ⟨_, h2⟩
      · rw [h2] at q; cases q
        refine box fun G9 k9 => ?_
        obtain ⟨k1, k2, k3⟩ := hcm s.heap.objs.size n a (by rw [hcs]; exact h1)
        obtain ⟨o, e, hd⟩ := I.cell n a k2
        refine k9 ?_; clear k9 G9
        refine ⟨S.H0fresh (fresh a (Nat.le_of_lt (above n a h1))), ⟨o, e⟩, o, _, e, hd, ?_⟩
        rcases k3 with ⟨av, e1, e2⟩ | ⟨e1, e2⟩
        · obtain ⟨v, hv, rv⟩ := bindC_get (kd := (callEnvC fd s.heap.objs.size f).kindOf) (m := fun _ => none) k1 r hps e2
          rw [hv, e1]
          exact rv.ext S.ns (X1 _)
        · rw [bindC_skip (zip_fst_notin e2), e1]; trivial
      · rw [h2] at q
        refine box fun G9 k9 => ?_
        obtain ⟨h0, ⟨o, e⟩, ro⟩ := S.objs a ao q
        refine k9 ?_; clear k9 G9
        refine ⟨h0, ⟨o, hkeep a o e⟩, ro.ext S.ns (X1 c.env.locals) (fun b o bo e _ _ => hkeep b o e) (fun b bo q _ => ?_) q⟩
        refine box fun G9 k9 => ?_
        obtain ⟨_, ⟨o', e'⟩, _⟩ := S.objs b bo q
        refine k9 ?_; clear k9 G9
        rw [hout b o' e']; exact q
  have hW' := hW s.heap.objs.size hfresh
  rw [hcs] at hW'
  refine wpAny_mono (hW' _ S₁) (fun fl s' hf => ?_) fun e s' hx => ?_
  · obtain ⟨af, ρ', σ', S', E', rf, q⟩ := hf
    obtain ⟨S₂, E₂⟩ := S.back (L' := s.heap.objs.size) (h₁ := s.heap) rfl ⟨_, rfl⟩ fresh_none (fun _ _ e => e) S' ((X1 _).trans E')
    exact ⟨_, σ', S₂, E₂, retOf_rel rf, q⟩
  · obtain ⟨a, ρ', σ', rfl, S', E', F', q⟩ := hx
    refine leave_T S' ⟨_, rfl, rfl⟩ F' fun s₂ S₂ E₂ F₂ => ?_
    obtain ⟨S₃, E₃⟩ := S.back (L' := s.heap.objs.size) (h₁ := s.heap) rfl ⟨_, rfl⟩ fresh_none (fun _ _ e => e) S₂ (((X1 _).trans E').trans E₂)
    exact ⟨a, ρ, σ', rfl, S₃, E₃, .inr (.inl F₂), q⟩
end
/-! W19 -/
section
open PySem PySem.W PyProof.Rows PySem.Calls PySem.Spec PySem.SeqAt
variable {B : Bs} {c : Cx} {ρ : Loc} {σ : AH} {s : Shared}

/-- a tracked object of a simple kind is turned, and new objects are made -/
theorem St.setE (S : St B c ρ σ s) {h' : Heap} {tk : Nat} {a : Addr} {ao ao' : AO} (q : σ a = some ao) (hsim : ao.simple = true) (hk : Heap.ExtBut a s.heap h') (he : ∃ o, h'.get? a = some o)
    (hr : Ext c.env.locals σ s.heap (upd σ a ao') h' → ORel B.w.params (upd σ a ao') h' a ao') :
    St B c ρ (upd σ a ao') { s with heap := h', toks := tk } ∧ Ext c.env.locals σ s.heap (upd σ a ao') h' := by
  have X : Ext c.env.locals σ s.heap (upd σ a ao') h' := Ext.of_keep (fun b o e z _ => hk b o (by rintro rfl; rw [q] at z; cases z) e) fun b o e z => by
    rw [upd_ne]; exact z
    rintro rfl; rw [q] at z; cases z
  have hL : upd σ a ao' c.env.locals = none := by rw [upd_ne (S.neL q).symm]; exact S.loc
  refine ⟨S.move ?_ rfl X (fun b o e z _ => hk b o (by rintro rfl; rw [q] at z; cases z) e) hL (fun b bo qb => ?_), X⟩
  · obtain ⟨m, hm, hr⟩ := S.locals
    exact ⟨m, ns_keep hk (S.neL q).symm m hm, fun x av hx => let ⟨v, h1, h2⟩ := hr x av hx; ⟨v, h1, h2.ext S.ns X⟩⟩
  · by_cases hb : b = a
    · subst hb
      rw [upd_same] at qb; cases qb
      exact ⟨S.old q, he, hr X⟩
    · rw [upd_ne hb] at qb
      refine box fun G9 k9 => ?_
      obtain ⟨h0, ⟨o, e⟩, r⟩ := S.objs b bo qb
      refine k9 ?_; clear k9 G9
      refine ⟨h0, ⟨o, hk b o hb e⟩, r.ext S.ns X (fun d o bo e q' z => hk d o ?_ e) (fun d bo q' z => ?_) qb⟩
      · rintro rfl
        rcases z with z | z
        · rw [q] at q'; cases q'; rw [hsim] at z; cases z
        · exact hb z.symm
      · rw [upd_ne]; exact q'
        rintro rfl
        rw [q] at q'; cases q'; rw [hsim] at z; cases z
theorem upd_self {a : Addr} {ao : AO} (q : σ a = some ao) : upd σ a ao = σ := by
  funext b
  by_cases e : b = a
  · subst e; rw [upd_same, q]
  · rw [upd_ne e]

theorem TRel.hit {h : Heap} {al : List (Pos × Str)} {pos : Pos} : ∀ {vs : List Value} {cv : Value}, TRel σ h al vs → codeAmong pos vs = some cv → ∃ q ∈ al, pos.line = q.1.line ∧ pos.col = q.1.col ∧ ∃ c' o vs t, cv = .ref c' ∧ σ c' = none ∧ h.get? c' = some o ∧ o.cls = .type "code" ∧ o.data = .fields vs ∧ vs[1]? = some (.str q.2 t) := by
  intro vs cv r e
  fun_induction TRel σ h al vs with
  | case1 => cases e
  | case2 l _ k _ c rest ih =>
    refine box fun G9 k9 => ?_
    obtain ⟨⟨q, hq, h1, h2, c2, o2, ws, t2, z1, z2, z3, z4, z5, z6⟩, r2⟩ := r
    refine k9 ?_; clear k9 G9
    unfold codeAmong at e
    split at e
    · rename_i hp
      simp only [Bool.and_eq_true, beq_iff_eq] at hp
      cases e
      exact ⟨q, hq, by lia, by lia, c2, o2, ws, t2, z1, z2, z3, z4, z5, z6⟩
    · exact ih r2 e
  | case3 => exact r.elim
theorem TRel.snoc {h : Heap} {al : List (Pos × Str)} {pos : Pos} {qual : Str} {c' : Addr} {o : Obj} {fs : Array Value} {t : Tok} (hal : (pos, qual) ∈ al) (h1 : σ c' = none) (h2 : h.get? c' = some o) (h3 : o.cls = .type "code") (h4 : o.data = .fields fs) (h5 : fs[1]? = some (.str qual t)) :
    ∀ {vs : List Value}, TRel σ h al vs → TRel σ h al (vs ++ [rawInt pos.line, rawInt pos.col, .ref c']) := by
  intro vs r
  fun_induction TRel σ h al vs with
  | case1 => exact ⟨⟨(pos, qual), hal, rfl, rfl, c', o, fs, t, rfl, h1, h2, h3, h4, h5⟩, trivial⟩
  | case2 l _ k _ c rest ih =>
    obtain ⟨a, r2⟩ := r
    exact ⟨a, ih r2⟩
  | case3 => exact r.elim

section
variable {Q : AV → AH → Prop} {X : XT}
/-- a lambda with free names: its code stands in the table of the code around -/
theorem W_Lambda {k P : Addr} {al : List (Pos × Str)} {params : Arguments} {body : Expr} {scope : Scope} {pos : Pos} {clos : List (Str × Addr)} (hcode : c.env.code = .ref k) (hC : CodeHd B.H0 k P) (hσ : σ P = some (.tabl al)) (hal : (pos, c.env.qual ++ "<lambda>") ∈ al)
    (huq : ∀ q ∈ al, pos.line = q.1.line → pos.col = q.1.col → q.2 = c.env.qual ++ "<lambda>") (hcl : closureFor scope c.env = pure clos) (hne : clos.isEmpty = false) (hdef : defaultsOf params c.env = ([], []))
    (q : ∀ pm c' ctv, Q (.clo (kla_fn "<lambda>" (c.env.qual ++ "<lambda>") params body scope clos pm (.ref c') ctv)) σ) : WE B c (.Lambda params body scope pos) ρ σ Q X := fun s S => by
  refine kla_eval hdef ?_
  rw [makeFunction_eq]
  simp only [List.zip_nil_right, List.filterMap_nil, List.isEmpty_nil, if_true, pure_bind]
  have T := S.ok.b.T
  refine box fun G9 k9 => ?_
  obtain ⟨bm, ob, hbm, hne0, hbo, hcls, hdict, hdata⟩ := T.bmain
  refine k9 ?_; clear k9 G9
  have hg : s.heap.Ns mainGlobals B.mg := T.g.keeps S.keep
  refine box fun G9 k9 => ?_
  obtain ⟨hP0, _, ps, hP, ht, htr⟩ := S.objs P _ hσ
  refine k9 ?_; clear k9 G9
  unfold makeTail
  rw [hcl, S.ok.globals]
  refine wpAny_bind (wpAny_pure ?_)
  simp only [hne, Bool.false_eq_true, if_false]
  refine wpAny_bind (wpAny_newTextTuple ?_)
  generalize hctv : Value.ref s.heap.objs.size = ctv
  generalize hot : ({ cls := .type "tuple", data := .seq ((clos.mergeSort fun a b => a.1.cps.toList ≤ b.1.cps.toList).map (.ref ·.2)).toArray } : Obj) = ot
  obtain ⟨S₁, E₁⟩ := S.grow (tk := s.toks) (push_keep ot)
  have hP1 : (s.heap.push ot).get? P = some (tabObj ps) := push_keep _ _ _ hP
  have hC1 : CodeHd (s.heap.push ot) k P := hC.keeps fun b o e => push_keep _ _ _ (S.keep b o e)
  have fin : ∀ (cv : Value) (s₂ : Shared), St B c ρ σ s₂ → Ext c.env.locals σ s.heap σ s₂.heap →
      (∃ c' oc vs t, cv = .ref c' ∧ σ c' = none ∧ s₂.heap.get? c' = some oc ∧ oc.cls = .type "code" ∧ oc.data = .fields vs ∧ vs[1]? = some (.str (c.env.qual ++ "<lambda>") t)) →
      wpAny B.M c.A (do
        let b ← builtinsFor mainGlobals c.env.builtins
        let nm ← nsGet mainGlobals "__name__"
        newObj (.type "function") (.func { name := "<lambda>", qualname := c.env.qual ++ "<lambda>", params, body := .expr body, scope, globals := mainGlobals, closure := clos, closureTuple := ctv, code := cv, builtins := b, defaults := .none, kwdefaults := .none, annotations := none, pyModule := nm.getD .none, doc := .none })) (PG VRel B c ρ σ s Q) (PX B c σ s X) s₂ := fun cv s₂ S₂ E₂ hcv => by
    refine box fun G9 k9 => ?_
    obtain ⟨c', oc, vs, t, rfl, f1, f2, f3, f4, f5⟩ := hcv
    refine k9 ?_; clear k9 G9
    refine wpAny_bind (wpAny_builtinsFor (T.g.keeps S₂.keep) hbm hne0 (S₂.keep _ _ hbo) hcls hdict hdata ?_)
    refine wpAny_bind (wpAny_nsGet (T.g.keeps S₂.keep) ?_)
    refine wpAny_newObj_type ?_ (by size_fits)
    obtain ⟨S₃, E₃⟩ := S₂.grow (tk := s₂.toks) (push_keep { cls := .type "function", data := .func (kla_fn "<lambda>" (c.env.qual ++ "<lambda>") params body scope clos ((B.mg "__name__").getD .none) (.ref c') ctv) })
    exact ⟨.clo (kla_fn "<lambda>" (c.env.qual ++ "<lambda>") params body scope clos ((B.mg "__name__").getD .none) (.ref c') ctv), σ, S₃, E₂.trans E₃, ⟨_, _, rfl, S₂.fresh, Heap.get?_push_size _ rfl, rfl, rfl, c', oc, vs, t, rfl, f1, push_keep _ _ _ f2, f3, f4, f5⟩, q _ _ _⟩
  cases hf : codeAmong pos ps.toList with
  | some cv =>
    refine wpAny_bind (wpAny_functionCode_hit hcode (hC1.code hP1 ht) hf ?_)
    refine box fun G9 k9 => ?_
    obtain ⟨q1, hq1, l1, l2, c', oc, vs, t, e1, f1, f2, f3, f4, f5⟩ := htr.hit hf
    refine k9 ?_; clear k9 G9
    rw [huq q1 hq1 l1 l2] at f5
    exact fin cv _ S₁ E₁ ⟨c', oc, vs, t, e1, f1, push_keep _ _ _ f2, f3, f4, f5⟩
  | none =>
    refine wpAny_bind (wpAny_functionCodeX hcode (hC1.code hP1 ht) (hC1.tab hP1) hf fun c' h' tk hx hge hlt _ hrec htb hcx => ?_)
    refine box fun G9 k9 => ?_
    obtain ⟨P', _, _, ⟨⟨oc, vs, hoc, hcc, hdc, _⟩, _⟩⟩ := hcx
    obtain ⟨c2, oc2, vs2, t, e2, hoc2, hd2, hv2⟩ := hrec
    refine k9 ?_; clear k9 G9
    cases e2
    rw [hoc] at hoc2; cases hoc2
    rw [hdc] at hd2; cases hd2
    have hnew : s.heap.get? c' = none := by
      cases z : s.heap.get? c' with
      | none => rfl
      | some o => 
        have h1 := Heap.lt_size z
        have h2 : (s.heap.push ot).objs.size = s.heap.objs.size + 1 := Heap.size_push ..
        have h3 : (s.heap.push ot).objs.size ≤ c' := hge
        rw [h2] at h3
        exact absurd (Nat.lt_of_lt_of_le (Nat.lt_succ_of_lt h1) h3) (Nat.lt_irrefl _)
    have hcσ : σ c' = none := S.unt hnew
    have htP : h'.get? P = some (tabObj (ps ++ #[rawInt pos.line, rawInt pos.col, .ref c'])) := htb.2
    have ne : c' ≠ P := by rintro rfl; rw [hσ] at hcσ; cases hcσ
    obtain ⟨S₂, E₂⟩ := S₁.setE (tk := tk) (ao' := .tabl al) hσ rfl hx ⟨_, htP⟩ fun X => by
      have hl : (ps ++ #[rawInt pos.line, rawInt pos.col, Value.ref c']).toList = ps.toList ++ [rawInt pos.line, rawInt pos.col, .ref c'] := by simp
      refine ⟨_, htP, ?_, ?_⟩
      · rw [hl]; exact TriplesOk_snoc _ _ _ _ ht
      · rw [hl]
        exact TRel.snoc hal (by rw [upd_ne ne]; exact hcσ) hoc hcc hdc hv2 ((htr.ext S.ns E₁).ext S₁.ns X)
    rw [upd_self hσ] at S₂ E₂
    exact fin (.ref c') _ S₂ (E₁.trans E₂) ⟨c', oc, vs, t, rfl, hcσ, hoc, hcc, hdc, hv2⟩
end
end
/-! W20 -/
section
open PySem PySem.W PyProof.Rows PySem.Calls PySem.Spec PySem.SeqAt
variable {B : Bs} {c : Cx} {ρ : Loc} {σ : AH} {s : Shared}

theorem WFC_clo {name qual : Str} {params : Arguments} {body : Expr} {scope : Scope} {cl : List (Str × Addr)} {pm ctv : Value} {c' : Addr} {Q : AV → AH → Prop} {X : XT}
    (hbind : bindArgs (kla_fn name qual params body scope cl pm (.ref c') ctv) ⟨[], []⟩ = pure []) (hd : c.depth < recursionLimit)
    (hW : ∀ L' f', (∀ k, L' ≤ k → σ k = none) → WE B (c.child (envX qual scope L' f' (.ref c') cl)) body [] σ Q (bodX X ρ))
    (hcell : ∀ x ∈ scope.names, x.2 ≠ .cell) (hco : scope.isCoroutine = false := by rfl) (hgen : scope.isGenerator = false := by rfl) (hk : scope.kind = .function := by rfl) :
    WFC B c (.clo (kla_fn name qual params body scope cl pm (.ref c') ctv)) [] ρ σ Q X := fun v vs s S rv r => by
  cases r
  refine box fun G9 k9 => ?_
  obtain ⟨f, o, rfl, hf, e, hcls, hd', c2, oc, fs, t, f1, f2, f3, f4, f5, f6⟩ := rv
  refine k9 ?_; clear k9 G9
  cases f1
  refine kla_callFunE (show c.A.depth < recursionLimit from hd) e hd' hco hgen rfl ⟨c', oc, fs, t, rfl, f3, f5, f6⟩ ?_
  rw [hbind]
  refine wpAny_pure (wpAny_newFunctionEnv hcell (by intro x hx; cases hx) (fun h₁ hns hsb => ⟨(S.ok.b.T.nolimit.keeps S.keep).fresh _ hsb, ?_⟩) hk)
  have hkeep : ∀ b o, s.heap.get? b = some o → h₁.get? b = some o := fun b o e => hsb.extBut b o (Nat.ne_of_lt (Heap.lt_size e)) (Heap.get?_push_of_some _ e)
  show codeAny _ _ (.expr body (envX qual scope s.heap.objs.size f (.ref c') cl)) _ _
  have X1 : ∀ L, Ext L σ s.heap σ h₁ := fun L => Ext.of_keep (fun b o e _ _ => hkeep b o e) fun _ _ _ q => q
  have hLs : B.H0.objs.size ≤ s.heap.objs.size := by
    refine box fun G9 k9 => ?_
    obtain ⟨m, ⟨o, _, _, e, _⟩, _⟩ := S.locals
    refine k9 ?_; clear k9 G9
    exact Nat.le_trans S.above (Nat.le_of_lt (Heap.lt_size e))
  have hfresh : ∀ k, s.heap.objs.size ≤ k → σ k = none := fun k hk => S.unt (by
    cases q : s.heap.get? k with
    | none => rfl
    | some o => exact absurd (Heap.lt_size q) (Nat.not_lt.mpr hk))
  have S₁ : St B (c.child (envX qual scope s.heap.objs.size f (.ref c') cl)) [] σ { s with heap := h₁, toks := s.toks + 0 } := by
    refine ⟨⟨S.ok.b, hk, rfl, rfl⟩, ⟨_, hns, fun x av hx => by cases hx⟩, .nil, fun x hx => (by cases hx), fun b o e => hkeep b o (S.keep b o e), hLs, S.fresh, ?_, ?_, fun a ao q => ?_, S.gens, S.drawn, S.os⟩
    · intro e he L hL
      rcases List.mem_cons.mp he with rfl | he
      · cases hL; exact S.fresh
      · exact S.free e he L hL
    · exact Heap.FunFrames.cons (by show scope.kind ≠ .module; rw [hk]; simp) rfl hns (S.H0fresh fresh_none) (S.funs.of_keeps fun b o e _ => ⟨o, hkeep b o e, rfl⟩)
    · obtain ⟨h0, ⟨o, e⟩, ro⟩ := S.objs a ao q
      exact ⟨h0, ⟨o, hkeep a o e⟩, ro.ext S.ns (X1 _) (fun b o bo e _ _ => hkeep b o e) (fun _ _ q _ => q) q⟩
  refine kla_codeExpr (wpAny_mono (hW s.heap.objs.size f hfresh _ S₁) (fun v s' hf => ?_) fun e s' hx => ?_)
  · obtain ⟨y, σ', S', E', ry, q⟩ := hf
    obtain ⟨S₂, E₂⟩ := S.back (L' := s.heap.objs.size) rfl ⟨_, rfl⟩ fresh_none hkeep S' E'
    exact ⟨y, σ', S₂, E₂, ry, q⟩
  · obtain ⟨a, ρ', σ', rfl, S', E', F', q⟩ := hx
    refine leave_T S' ⟨_, rfl, rfl⟩ F' fun s₂ S₂ E₂ F₂ => ?_
    obtain ⟨S₃, E₃⟩ := S.back (L' := s.heap.objs.size) rfl ⟨_, rfl⟩ fresh_none hkeep S₂ (E'.trans E₂)
    exact ⟨a, ρ, σ', rfl, S₃, E₃, .inr (.inl F₂), q⟩
end
/-! W21 -/
section
open PySem PySem.W PyProof.Rows PySem.Calls PySem.Spec PySem.SeqAt
variable {B : Bs} {c : Cx} {ρ : Loc} {σ : AH} {s : Shared}

/-- a comprehension's own names -/
noncomputable abbrev Cx.comp (c : Cx) (scope : Scope) (cl : List (Str × Addr)) (C : Addr) : Cx := { c with env := compEnvC scope cl C c.env }

theorem St.backJ (S : St B c ρ σ s) {scope : Scope} {cl : List (Str × Addr)} {C : Addr} {ρ' : Loc} {σ' : AH} {s' : Shared} {h' : Heap} (hnew : s.heap.get? C = none)
    (S' : St B (c.comp scope cl C) ρ' σ' s') (E : Ext C σ s.heap σ' s'.heap) (hs : Heap.SameBut C s'.heap h') : St B c ρ σ' { s' with heap := h' } ∧ Ext c.env.locals σ s.heap σ' h' := by
  have X1 : Ext C σ' s'.heap σ' h' := Ext.of_keep (fun b o e _ n => (hs.2 b n).trans e) fun _ _ _ q => q
  have X2 : Ext C σ s.heap σ' h' := E.trans X1
  have X : ∀ L, Ext L σ s.heap σ' h' := fun L b o e q n => X2 b o e q (by rintro rfl; rw [hnew] at e; cases e)
  have ex : ∀ L, (∃ o, s.heap.get? L = some o) → σ L = none → σ' L = none := fun L ⟨o, e⟩ q => (X (L + 1) L o e q (Nat.ne_of_lt (Nat.lt_succ_self L))).1
  have neC : ∀ b o, s.heap.get? b = some o → b ≠ C := fun b o e => by rintro rfl; rw [hnew] at e; cases e
  refine ⟨⟨S.ok, ?_, S.nodup, S.kinds, fun b o e => (hs.2 b (neC b o (S.keep b o e))).trans (S'.keep b o e), S.above, ?_, fun e he L hL => ?_, ?_, fun a ao q => ?_, S'.gens, S'.drawn, S'.os⟩, X _⟩
  · obtain ⟨m, hm, hr⟩ := S.locals
    refine ⟨m, ?_, fun y av hy => let ⟨v, h1, h2⟩ := hr y av hy; ⟨v, h1, h2.ext S.ns (X _)⟩⟩
    refine box fun G9 k9 => ?_
    obtain ⟨o, es, ep, e, d, r⟩ := hm
    obtain ⟨_, o', e', x1⟩ := X (c.env.locals + 1) _ o e S.loc (Nat.ne_of_lt (Nat.lt_succ_self _))
    obtain ⟨sl, rfl⟩ := x1 fun vs _ q => by rw [d] at q; cases q
    refine k9 ?_; clear k9 G9
    exact ⟨_, es, ep, e', d, r⟩
  · obtain ⟨m, ⟨o, _, _, e, _⟩, _⟩ := S.locals
    exact ex _ ⟨o, e⟩ S.loc
  · obtain ⟨_, o, h, _⟩ := S.funs.mem (b := L) (List.mem_filterMap.mpr ⟨e, he, hL⟩)
    exact ex _ ⟨o, h⟩ (S.free e he L hL)
  · have go : ∀ l : List Env, (∀ e ∈ l, e ∈ c.frames) → s.heap.FunFrames B.H0 l → h'.FunFrames B.H0 l := by
      intro l
      induction l with
      | nil => intro _ _; trivial
      | cons e l ih =>
        intro hm hf
        refine box fun G9 k9 => ?_
        obtain ⟨h1, ⟨L, o, hf1, hn, hL1, hd1⟩, hr⟩ := hf
        refine k9 ?_; clear k9 G9
        refine ⟨h1, ?_, ih (fun e he => hm e (.tail _ he)) hr⟩
        refine box fun G9 k9 => ?_
        obtain ⟨_, o', e', x1⟩ := X (L + 1) L o hL1 (S.free e (hm e (.head _)) L hf1) (Nat.ne_of_lt (Nat.lt_succ_self _))
        obtain ⟨sl, rfl⟩ := x1 fun vs _ => hd1 vs
        refine k9 ?_; clear k9 G9
        exact ⟨L, _, hf1, hn, e', hd1⟩
    exact go c.frames (fun _ h => h) S.funs
  · obtain ⟨h0, ⟨o, e⟩, r⟩ := S'.objs a ao q
    have hne : a ≠ C := S'.neL q
    refine ⟨h0, ⟨o, (hs.2 a hne).trans e⟩, r.ext S'.ns X1 (fun b o bo e q' _ => (hs.2 b (S'.neL q')).trans e) (fun _ _ q _ => q) q⟩

/-- the tests of a comprehension -/
noncomputable def WIfs (B : Bs) (c : Cx) (ifs : List Expr) (ρ : Loc) (σ : AH) (Q : Bool → AH → Prop) : Prop :=
  ∀ s (E : Value → Shared → Prop), St B c ρ σ s → wpAny B.M c.A (forIn ifs true fun t r => if r = true then do let ok ← isTrue t c.env (eval t c.env); pure (ForInStep.yield ok) else pure (ForInStep.yield r)) (PG BRel B c ρ σ s Q) E s
theorem WIfs_nil {Q : Bool → AH → Prop} (q : Q true σ) : WIfs B c [] ρ σ Q := fun s E S => wpAny_tests_nil (PG.here S rfl q)
theorem no_PX {e : Value} {s' : Shared} : PX B c σ s noX e s' → False := fun ⟨_, _, _, _, _, _, _, q⟩ => q
theorem WIfs_one {t : Expr} {Q : Bool → AH → Prop} (h : WT B c t ρ σ Q noX) : WIfs B c [t] ρ σ Q := fun s E S =>
  wpAny_tests_one (wpAny_mono (h s S) (fun _ _ h => h) fun _ _ h => (no_PX h).elim)

section
variable {Q : AV → AH → Prop} {X : XT}
end
end
/-! W22 -/
section
open PySem PySem.W PyProof.Rows PySem.Calls PySem.Spec PySem.SeqAt

section
variable {prog : Program} {w : World} {A : Around} {E : Value → Shared → Prop} {h : Heap} {g : Array GenState} {d : Drawn} {t : Nat} {os : OsState}
variable {nm q : Str} {C N : Addr} {bs bm : List Value} {hdct : Bool} {sn : List Str} {sub : List Value} {ab : Bool} {col : Option Bool} {dd : Option Addr} {k0 k1 k2 k3 k5 : Option Value}

/-- what the class's line says -/
structure XLine (C : Addr) (bm : List Value) : Prop where
  B : (Value.ref C :: bm).contains (.type "Exception") = true
  base : (Value.ref C :: bm).contains (.type "BaseException") = true
  A : (Value.ref C :: bm).contains (.type "AttributeError") = false
  N : (Value.ref C :: bm).contains (.type "NameError") = false

theorem x_check_new (X : XLine C bm) {M : Model} {rest : List Value} {Q : Unit → Shared → Prop} (hC : h.get? C = some (excClassObj nm q C N bs bm hdct sn sub ab col dd k0 k1 k2 k3 k5 "Exception.__new__"))
    (hq : Q () ⟨h, g, d, t, os⟩) : wpAny M A (checkBuiltinCall "Exception.__new__" ⟨.ref C :: rest, []⟩) Q E ⟨h, g, d, t, os⟩ := by
  have F := PySem.F.excBase_Exception
  have hstar := F.noStar
  have hb := X.B
  simp only [checkBuiltinCall, F.newKind, F.newSplit, F.newRow]
  repeat (first | refine wpAny_loadPart_at hC ?_ | (refine wpAny_isSubtype_exc hC ?_; rw [hb]) | refine wpAny_staticBase_exc hC ?_ | refine wpAny_madeBy_exc hC ?_ | simp only [bne_self_eq_false, Bool.false_eq_true, if_false] | wp_step)
  exact hq

theorem x_new (X : XLine C bm) {R : Result → Shared → Prop} {rest : List Value} (hC : h.get? C = some (excClassObj nm q C N bs bm hdct sn sub ab col dd k0 k1 k2 k3 k5 "Exception.__new__"))
    (hq : R (.ok (.ret (.ref (h.objs.size + 1)))) ⟨(h.push { cls := .type "tuple", data := .seq rest.toArray }).push
      { cls := .ref C, data := .fields #[.ref h.objs.size, .none, .none, .none, .bool false, .none] }, g, d, t, os⟩) (hrest : rest.length ≤ sizeLine) :
    codeAny (model prog w) A (.builtin "Exception.__new__" ⟨.ref C :: rest, []⟩) R ⟨h, g, d, t, os⟩ := by
  have F := PySem.F.excBase_Exception
  have hends := F.ends
  have hcB := X.B
  have hcA := X.A
  have hcN := X.N
  refine codeAny_builtinAt F.entry ?_
  unfold Builtin.«BaseException.__new__»
  refine PySem.wpAt_bind ?_
  show PySem.wpAt _ _ _ (stack >>= _) _ _ _
  refine PySem.wpAt_bind (PySem.wpAt_stack fun p below => PySem.wpAt_of_wpAny ?_)
  wp_walk
  refine PySem.wpAt_of_wpAny ?_
  rw [F.owner]
  repeat (first | with_reducible refine wpAny_madeHere_exc F.canon hC ?_ | with_reducible refine wpAny_loadPart_at hC ?_ | (with_reducible refine wpAny_isSubtype_exc hC ?_; first | rw [hcB] | rw [hcA] | rw [hcN]) | wp_step)
  show R _ _
  rw [Heap.size_push]
  exact hq

theorem x_type_call (X : XLine C bm) {mN : Str → Option Value} {rest : List Value} {fI : Addr} {oI : Obj} {Q : Fin → Shared → Prop}
    (hC : h.get? C = some (excClassObj nm q C N bs bm hdct sn sub ab col dd k0 k1 k2 k3 k5 "Exception.__new__")) (hn : h.Ns N mN) (hi : mN "__init__" = some (.ref fI))
    (hfI : h.get? fI = some oI) (hfc : oI.cls = .type "function") (hrest : rest.length ≤ sizeLine)
    (hq : wpAny (model prog w) A (call (.ref fI) (.ref (h.objs.size + 1) :: rest)) (fun r s' => r = .none ∧ Q (.done (.ret (.ref (h.objs.size + 1)))) s') E
      ⟨(h.push { cls := .type "tuple", data := .seq rest.toArray }).push { cls := .ref C, data := .fields #[.ref h.objs.size, .none, .none, .none, .bool false, .none] }, g, d, t, os⟩) :
    wpAny (model prog w) A (Builtin.«type.__call__» ⟨.ref C :: rest, []⟩) Q E ⟨h, g, d, t, os⟩ := by
  have F := PySem.F.excBase_Exception
  repeat (first | with_reducible refine wpAny_loadPart_at hC ?_ | with_reducible refine wpAny_madeBy_exc hC ?_ | wp_step)
  refine codeAny_call_builtin_code (Code.quiet_builtin _ F.quiet) (x_check_new X hC ?_)
  refine x_new X hC ?_ hrest
  show wpAny _ _ _ _ _ _
  have keep : ∀ b o, h.get? b = some o → ((h.push { cls := .type "tuple", data := .seq rest.toArray }).push { cls := .ref C, data := .fields #[.ref h.objs.size, .none, .none, .none, .bool false, .none] }).get? b = some o := fun b o e => Heap.get?_push_of_some _ (Heap.get?_push_of_some _ e)
  have hC₁ := keep _ _ hC
  have hfI₁ := keep _ _ hfI
  have hn₁ : ((h.push { cls := .type "tuple", data := .seq rest.toArray }).push { cls := .ref C, data := .fields #[.ref h.objs.size, .none, .none, .none, .bool false, .none] }).Ns N mN := hn.keeps keep
  have hget : ((h.push { cls := .type "tuple", data := .seq rest.toArray }).push
      { cls := .ref C, data := .fields #[.ref h.objs.size, .none, .none, .none, .bool false, .none] }).get? (h.objs.size + 1) = some
      { cls := .ref C, data := .fields #[.ref h.objs.size, .none, .none, .none, .bool false, .none] } := by heap_get
  have hcC : (Value.ref C :: bm).contains (.ref C) = true := by simp
  unfold isInstance
  repeat (first | with_reducible refine wpAny_loadPart_at hget ?_ | (with_reducible refine wpAny_isSubtype_exc hC₁ ?_; rw [hcC]) | wp_step)
  show wpAny _ _ (typeLookup (.ref C) _) _ _ _
  rw [typeLookup_eq]
  refine wpAny_bind (wpAny_mroOf_exc hC₁ ?_)
  rw [lookupAlong_cons]
  refine wpAny_bind (wpAny_classOwn_exc hC₁ hn₁ ?_)
  rw [hi]
  refine wpAny_pure ?_
  refine wpAny_holding (wpAny_bind ?_)
  unfold bindSpecial
  refine wpAny_bind (wpAny_typeOf (T := "function") ⟨_, hfI₁, hfc⟩ ?_)
  rw [if_pos (by decide)]
  refine wpAny_pure (wpAny_bind (wpAny_mono hq (fun r s' hr => ?_) fun _ _ x => x))
  obtain ⟨rfl, hQ⟩ := hr
  wp_walk
  exact hQ

theorem x_call (X : XLine C bm) {mN : Str → Option Value} {rest : List Value} {fI : Addr} {oI : Obj} {Q : Value → Shared → Prop}
    (hC : h.get? C = some (excClassObj nm q C N bs bm hdct sn sub ab col dd k0 k1 k2 k3 k5 "Exception.__new__")) (hn : h.Ns N mN) (hi : mN "__init__" = some (.ref fI))
    (hfI : h.get? fI = some oI) (hfc : oI.cls = .type "function") (hrest : rest.length ≤ sizeLine)
    (hq : wpAny (model prog w) (A.under (.builtin "type.__call__" ⟨.ref C :: rest, []⟩)) (call (.ref fI) (.ref (h.objs.size + 1) :: rest)) (fun r s' => r = .none ∧ Q (.ref (h.objs.size + 1)) s') E
      ⟨(h.push { cls := .type "tuple", data := .seq rest.toArray }).push { cls := .ref C, data := .fields #[.ref h.objs.size, .none, .none, .none, .bool false, .none] }, g, d, t, os⟩) :
    wpAny (model prog w) A (call (.ref C) rest) Q E ⟨h, g, d, t, os⟩ := by
  have f1 := PySem.tc_lookup
  have f2 := PySem.tc_bind (.ref C)
  have hT : (⟨h, g, d, t, os⟩ : Shared).TypeIs (.ref C) "type" := ⟨_, hC, rfl⟩
  refine wpAny_call (codeAny_of_tree ?_)
  show wpAny _ _ (callAny (.ref C) _) _ _ _
  repeat (any_goals (first | assumption | with_reducible refine wpAny_loadPart_at hC ?_ | wp_step))
  refine ⟨rfl, ?_⟩
  refine codeAny_call_builtin_at (Code.quiet_builtin _ (by decide +kernel)) entry_typeCall (wpAny_check_type_call_sub hC (x_type_call X hC hn hi hfI hfc hrest hq))

/-- the built-in init on an object of the class -/
theorem x_init (X : XLine C bm) {e : Addr} {fs : Array Value} {dx : Option Addr} {sl : Array (Option Value)} {rest : List Value} {Q : Value → Shared → Prop}
    (hC : h.get? C = some (excClassObj nm q C N bs bm hdct sn sub ab col dd k0 k1 k2 k3 k5 "Exception.__new__")) (he : h.get? e = some { cls := .ref C, dict := dx, data := .fields fs, slots := sl }) {t0 : Addr} (hf : fs[0]? = some (.ref t0)) (hrest : rest.length ≤ sizeLine)
    (hq : Q .none ⟨(h.push { cls := .type "tuple", data := .seq rest.toArray }).update e (Obj.mapFields (·.setIfInBounds 0 (.ref h.objs.size))), g, d, t, os⟩) :
    wpAny (model prog w) A (call (.builtin "Exception.__init__") (.ref e :: rest)) Q E ⟨h, g, d, t, os⟩ := by
  have F := PySem.F.excBase_Exception
  have hshort := F.noStar
  have hcB := X.B
  refine wpAny_call (codeAny_call_builtin F.init.plain F.initEntry ?_)
  simp only [checkBuiltinCall, F.initKind, F.initSplit, F.initRow]
  repeat (first | (with_reducible refine wpAny_loadPart_at he ?_) | with_reducible refine wpAny_loadPart_at hC ?_ | (with_reducible refine wpAny_isSubtype_exc hC ?_; rw [hcB]) | wp_step)
  refine wpAny_onRaise ?_
  rw [show ∀ (a b : String) (n : Nat), Bind.check ⟨.positional, "*", "Exception", .self, [⟨"args", .varPos, false⟩]⟩ a b n (List.map (fun x => x.fst) ({ pos := Value.ref e :: rest } : Args).kw) = pure () from
    fun a b n => check_star_args _ _ _ _ _ _]
  refine wpAny_pure ?_
  have he' := Heap.get?_push_of_some { cls := .type "tuple", dict := none, data := .seq rest.toArray, slots := #[] } he
  wp_walk
  rw [hf]
  refine wpAny_pure (wpAny_bind (wpAny_setField he' rfl (Array.getElem?_eq_some_iff.mp hf).1 ?_))
  exact wpAny_letGo (wpAny_pure hq)
end
end
/-! W23 -/
section
open PySem PySem.W PyProof.Rows PySem.Calls PySem.Spec PySem.SeqAt
open PySem.Builtin PySem.Builtin.ObjectAttr

/-- an exception class of the text: what its reads and stores ask -/
structure XOk (K : Frag) (C : Addr) (names : List Str) : Prop where
  hs : findIn K (.ref C) "__setattr__" = some (some (.builtin "object.__setattr__"))
  hga : findIn K (.ref C) "__getattribute__" = some (some (.builtin "BaseException.__getattribute__"))
  hgt : findIn K (.ref C) "__getattr__" = some none
  mro : ∃ cd D, clsIn K C = some cd ∧ cd.mro = [.ref C, .ref D, .type "Exception", .type "BaseException", .type "object"] ∧ cd.hasDict = true
  mB : mroIn K C (.type "BaseException") = some true
  mO : mroIn K C (.type "object") = some true
  tk : ∀ n ∈ names, takerIn K C n = some none ∧ findIn K (.ref C) n = some none

section
variable {prog : Program} {w : World} {A : Around} {E : Value → Shared → Prop} {s : Shared} {K : Frag} {C x : Addr} {names : List Str} {name : Str} {ox : Obj} {od : Option Obj} {R : Result → Shared → Prop}

theorem x_osa {tk : Tok} {v : Value} (X : K.In s.heap) (I : InstAt s.heap x ox C od) (O : XOk K C names) (hn : name ∈ names)
    (h : ∀ b, wpAny (model prog w) A.in1 (storeInOwnDict (.ref x) (.ref C) (.str name tk) name v b)
      (fun fin s' => match fin with | .done f => R (.ok f) s' | .again c' => c'.quiet = true ∧ codeAny (model prog w) A c' R s') (fun e s' => R (.error e) s') s) :
    codeAny (model prog w) A (.call (.builtin "object.__setattr__") ⟨[.ref x, .str name tk, v], []⟩) R s := by
  have SF := PySem.F.store_object
  refine box fun G9 k9 => ?_
  obtain ⟨cd, D, hc, hm, hd⟩ := O.mro
  refine k9 ?_; clear k9 G9
  have sub : Looks (model prog w) s.heap (isInstance (.ref x) (.type "object")) true := I.type.andThen (looks_mroIn X O.mO)
  refine codeAny_call_builtin SF.slot.plain SF.entry (@check_slot (model prog w) _ _ s "object.__setattr__" "object" "__setattr__" (.ref x) [.str name tk, v] [] _ SF.kind SF.split sub (SF.args (.ref x) (.str name tk) v) ?_)
  have hml : Looks (model prog w) s.heap (mroOf (.ref C)) cd.mro := (looks_clsIn X hc).andThen .now
  rw [osa_eq, refuse_eq]
  refine wpAny_bind (wpAny_bind (I.type.here (wpAny_bind (hml.here ?_))))
  rw [hm, refuseLoop_ref, refuseLoop_ref, PySem.F.store_Exception.passes]
  refine wpAny_pure (wpAny_bind (I.type.here (wpAny_bind ((looks_findIn X (O.tk name hn).2).here (wpAny_bind ?_)))))
  have L3 : Looks (model prog w) s.heap (storeTaker? none) none := .now
  exact L3.here (h _)

/-- a first attribute: the dict is made -/
theorem x_set_new {fs : Array Value} {v : Value} {Q : Unit → Shared → Prop} (X : K.In s.heap) (O : XOk K C names) (hn : name ∈ names) (hx : s.heap.get? x = some { cls := .ref C, data := .fields fs })
    (h : Q () { s with heap := ((s.heap.push emptyDict).update x fun o => { o with dict := some s.heap.objs.size }).update s.heap.objs.size (Obj.putName name (PyData.keyHash w.params name) (.str name (s.toks + 1)) v), toks := s.toks + 2 }) :
    wpAny (model prog w) A (setAttr (.ref x) name v) Q E s := by
  have I : InstAt s.heap x { cls := .ref C, data := .fields fs } C none := ⟨hx, rfl, rfl, trivial⟩
  refine set_plain X I O.hs ?_
  refine x_osa (s := { s with toks := s.toks + 1 }) X I O hn fun b => ?_
  refine box fun G9 k9 => ?_
  obtain ⟨cd, D, hc, hm, hd⟩ := O.mro
  refine k9 ?_; clear k9 G9
  have hx1 : (s.heap.push emptyDict).get? x = some { cls := .ref C, data := .fields fs } := Heap.get?_push_of_some _ hx
  have hne : s.heap.objs.size ≠ x := Nat.ne_of_gt (Heap.lt_size hx)
  have hD : ((s.heap.push emptyDict).update x fun o => { o with dict := some s.heap.objs.size }).get? s.heap.objs.size = some (dictOf [] 0) :=
    (Heap.get?_update_other _ _ (Ne.symm hne)).trans (Heap.get?_push_size _ rfl)
  refine box fun G9 k9 => ?_
  obtain ⟨hp, g, d, tk, os⟩ := s
  refine k9 ?_; clear k9 G9
  have LC := looks_clsIn (M := model prog w) X hc
  refine wpAny_bind (wpAny_pure (wpAny_bind (wpAny_bind (wpAny_loadPart hx (wpAny_bind (LC.at ?_))))))
  rw [hd]
  dsimp only at hD hx1 hne ⊢
  show wpAny _ _ (do
    let d ← alloc { cls := Value.type "dict", data := Data.dict #[] }
    update x fun o => { o with dict := some d }
    dictMade (.ref C) x d) _ _ _
  refine wpAny_bind (wpAny_alloc (wpAny_bind (wpAny_update hx1 ?_)))
  refine wpAny_pure (wpAny_bind (wpAny_pure (wpAny_bind ?_)))
  have D' := Heap.get?_update_self (Obj.putName name (PyData.keyHash w.params name) (.str name (tk + 1)) v) hD (by rw [putName_dict]; rfl)
  unfold nsSet
  refine wpAny_bind (wpAny_bind (wpAny_askSetting (wpAny_pure (wpAny_bind (wpAny_mkText (wpAny_bind (wpAny_loadPart hD ?_)))))))
  dsimp only
  rw [aRefKeyMayBeTheName_at, if_neg (by simp)]
  refine wpAny_updatePart hD ?_
  refine wpAny_bind (wpAny_lookBehind D' (by rw [putName_dict]; exact pastItsLine_dict (by simp [putL, sizeLine_eq])) ?_)
  exact wpAny_pure h

/-- a further attribute -/
theorem x_set {es : List DictEntry} {n : Nat} {dx : Addr} {v : Value} {Q : Unit → Shared → Prop} (X : K.In s.heap) (O : XOk K C names) (hn : name ∈ names) (I : InstAt s.heap x ox C (some (dictOf es n))) (hd : ox.dict = some dx) (hl : (getL name es).isSome = true) (hz : es.length ≤ 100)
    (h : Q () { s with heap := s.heap.update dx (Obj.putName name (PyData.keyHash w.params name) (.str name (s.toks + 1)) v), toks := s.toks + 2 }) :
    wpAny (model prog w) A (setAttr (.ref x) name v) Q E s := by
  refine set_plain X I O.hs ?_
  refine x_osa (s := { s with toks := s.toks + 1 }) X I O hn fun b => ?_
  refine box fun G9 k9 => ?_
  obtain ⟨cd, D, hc, hm, hd'⟩ := O.mro
  obtain ⟨hx, hcl, hno, hdd⟩ := I
  obtain ⟨oc, odi, oda, osl⟩ := ox
  refine k9 ?_; clear k9 G9
  dsimp only at hcl hd
  subst hcl hd
  have hD : s.heap.get? dx = some (dictOf es n) := hdd
  refine box fun G9 k9 => ?_
  obtain ⟨hp, g, d, tk, os⟩ := s
  refine k9 ?_; clear k9 G9
  have LC := looks_clsIn (M := model prog w) X hc
  refine wpAny_bind (wpAny_pure (wpAny_bind (wpAny_bind (wpAny_loadPart hx (wpAny_bind (LC.at ?_))))))
  rw [hd']
  refine wpAny_pure (a := some dx) (wpAny_bind (wpAny_pure (wpAny_bind ?_)))
  dsimp only at hD ⊢
  have D' := Heap.get?_update_self (Obj.putName name (PyData.keyHash w.params name) (.str name (tk + 1)) v) hD (by rw [putName_dict]; rfl)
  unfold nsSet
  refine wpAny_bind (wpAny_bind (wpAny_askSetting (wpAny_pure (wpAny_bind (wpAny_mkText (wpAny_bind (wpAny_loadPart hD ?_)))))))
  dsimp only
  have c : (!es.toArray.any (·.key.isStr name) && es.toArray.any (·.refKey)) = false := by
    rw [← Array.any_toList, ← Array.any_toList]
    unfold getL at hl
    split at hl
    · rename_i en he
      rw [List.any_eq_true.mpr ⟨en, List.mem_of_find?_eq_some he, List.find?_some he⟩]; rfl
    · split at hl
      · cases hl
      · rename_i z; rw [Bool.not_eq_true] at z; rw [z, Bool.and_false]
  rw [aRefKeyMayBeTheName_at, c, if_neg Bool.false_ne_true]
  refine wpAny_updatePart hD ?_
  refine wpAny_bind (wpAny_lookBehind D' (by
    rw [putName_dict]
    have := putL_length name (PyData.keyHash w.params name) (.str name (tk + 1)) v es
    exact pastItsLine_dict (by rw [List.size_toArray, sizeLine_eq]; lia)) ?_)
  exact wpAny_pure h

/-- an attribute of its own is read -/
theorem x_get {es : List DictEntry} {n : Nat} {v : Value} {expr : Bool} {Q : Value → Shared → Prop} (X : K.In s.heap) (O : XOk K C names) (hn : name ∈ names) (I : InstAt s.heap x ox C (some (dictOf es n))) (hl : getL name es = some (some v)) (hh : handedIn v = true)
    (h : Q v { s with toks := s.toks + 1 }) : wpAny (model prog w) A (getAttr (.ref x) name expr) Q E s := by
  refine box fun G9 k9 => ?_
  obtain ⟨cd, D, hc, hm, hd'⟩ := O.mro
  refine k9 ?_; clear k9 G9
  have hdi : hasDictIn K C = true := by unfold hasDictIn; rw [hc]; exact hd'
  have hf : findObj K C (some (dictOf es n)) name = some (.value v) := findObj_own hdi (O.tk name hn).2 rfl hl
  refine box fun G9 k9 => ?_
  obtain ⟨hp, g, d, t, os⟩ := s
  refine k9 ?_; clear k9 G9
  have L0 := I.type (M := model prog w)
  have L1 := looks_findIn (M := model prog w) X O.hga
  have L2 := looks_findIn (M := model prog w) X O.hgt
  have LF := looks_find (M := model prog w) X I hf
  have LB : Looks (model prog w) hp (isInstance (.ref x) (.type "BaseException")) true := L0.andThen (looks_mroIn X O.mB)
  have hx2 : (Value.builtin "BaseException.__getattribute__" == Value.builtin "object.__getattribute__") = false := by decide +kernel
  unfold getAttr getAttrBy
  refine wpAny_bind (wpAny_mkText (wpAny_holding (wpAny_bind (L0.at (wpAny_bind (L1.at ?_))))))
  dsimp only
  rw [hx2, Bool.and_false, if_neg Bool.false_ne_true]
  unfold getAttrByItsOwn hookBefore callGetattribute boundAndCalled
  refine wpAny_bind ?_
  show wpAny _ _ (typeLookup (.ref C) "__getattr__") _ _ _
  refine L2.at ?_
  have he : (expr && onTheHeap (Value.builtin "BaseException.__getattribute__")) = false := by cases expr <;> rfl
  rw [he, if_neg Bool.false_ne_true]
  refine wpAny_bind (wpAny_attempt (wpAny_holding ?_))
  rw [PySem.F.attr_Exception.ga.bind]
  refine wpAny_bind (wpAny_pure ?_)
  have hk : builtinKind "BaseException.__getattribute__" = some .slot := by decide +kernel
  have hsp : splitId "BaseException.__getattribute__" = some ("BaseException", "__getattribute__") := by decide +kernel
  dsimp only [List.cons_append, List.nil_append]
  refine wpAny_call ?_
  refine codeAny_call_builtin PySem.F.attr_Exception.ga.plain PySem.F.entry_bexc_ga ?_
  refine @check_slot (model prog w) _ _ ⟨hp, g, d, t + 1, os⟩ "BaseException.__getattribute__" "BaseException" "__getattribute__" (.ref x) [.str name t] [] _ hk hsp LB (PySem.F.args_bexc_ga (.ref x) (.str name t)) ?_
  have e1 : ∀ tk : Tok, slotArgs "__getattribute__" 1 ⟨[.ref x, .str name tk], []⟩ = pure (.ref x, [.str name tk]) := fun tk => rfl
  have e2 : ∀ tk : Tok, attrName (.str name tk) = pure name := fun tk => rfl
  unfold Builtin.«object.__getattribute__»
  rw [e1]
  refine wpAny_bind (wpAny_pure ?_)
  dsimp only
  rw [e2]
  refine wpAny_bind (wpAny_pure (wpAny_bind (L0.at (wpAny_bind (LF.at ?_)))))
  refine wpAny_pure ?_
  show wpAny _ _ (handedOut v) _ _ _
  rw [handedOut_of hh]; exact wpAny_pure h
end
end
/-! W24 -/
section
open PySem PySem.W PyProof.Rows PySem.Calls PySem.Spec PySem.SeqAt
variable {B : Bs} {c : Cx} {ρ : Loc} {σ : AH} {s : Shared}

theorem arel_ent {h : Heap} {P : Params} : ∀ {es : List DictEntry} {ats : List (Str × AV)}, ARel σ h P es ats → Ent Value.isStrOf (PyData.keyHash P) σ h es ats
  | [], _, r => by have r' : _ = [] := r; subst r'; exact .nil
  | e :: es, _, ⟨x, av, r, rfl, ⟨t, k⟩, hh, v, rr⟩ => .cons (by rw [k]; exact beq_self_eq_true x) hh v (arel_ent rr)
theorem ent_arel {h : Heap} {P : Params} {es : List DictEntry} {ats : List (Str × AV)} (r : Ent Value.isStrOf (PyData.keyHash P) σ h es ats) : ARel σ h P es ats := by
  induction r with
  | nil => rfl
  | cons h1 h2 h3 _ ih =>
    obtain ⟨t, ht⟩ := Value.isStrOf_shape h1
    exact ⟨_, _, _, rfl, ⟨t, ht⟩, h2, h3, ih⟩

/-- an exception in the making -/
noncomputable abbrev xRaw (C : Addr) (dx : Option Addr) (fs : Array Value) : AO := .raw { cls := .ref C, dict := dx, data := .fields fs }
theorem St.xdict (S : St B c ρ σ s) {D : Addr} {es : List (Str × AV)} (q : σ D = some (.dictS es)) : ∃ l n, s.heap.get? D = some (dictOf l n) ∧ ARel σ s.heap B.w.params l es ∧ (es.map (·.1)).Nodup := by
  refine box fun G9 k9 => ?_
  obtain ⟨_, _, o, ents, n, e, ⟨x1, x2, x3⟩, d, r, nd⟩ := S.objs D _ q
  obtain ⟨oc, od, odt, osl⟩ := o
  refine k9 ?_; clear k9 G9
  dsimp only at x1 x2 x3 d
  subst x1 x2 x3 d
  exact ⟨ents.toList, n, by rw [e], ent_arel r, nd⟩

section
variable {names : List Str}
/-- a tracked object and a new one -/
theorem St.setNew (S : St B c ρ σ s) {h' : Heap} {tk : Nat} {a D : Addr} {ao ao' bo : AO} (q : σ a = some ao) (hsim : ao.simple = true) (hD : s.heap.get? D = none) (hk : Heap.ExtBut a s.heap h') (he : ∃ o, h'.get? a = some o) (heD : ∃ o, h'.get? D = some o)
    (hr : Ext c.env.locals σ s.heap (upd (upd σ a ao') D bo) h' → ORel B.w.params (upd (upd σ a ao') D bo) h' a ao' ∧ ORel B.w.params (upd (upd σ a ao') D bo) h' D bo) :
    St B c ρ (upd (upd σ a ao') D bo) { s with heap := h', toks := tk } ∧ Ext c.env.locals σ s.heap (upd (upd σ a ao') D bo) h' := by
  have hDa : D ≠ a := by rintro rfl; obtain ⟨_, ⟨o, e⟩, _⟩ := S.objs _ _ q; rw [hD] at e; cases e
  have X : Ext c.env.locals σ s.heap (upd (upd σ a ao') D bo) h' := Ext.of_keep (fun b o e z _ => hk b o (by rintro rfl; rw [q] at z; cases z) e) fun b o e z => by
    rw [upd_ne (by rintro rfl; rw [hD] at e; cases e), upd_ne]; exact z
    rintro rfl; rw [q] at z; cases z
  have hLe : ∃ o, s.heap.get? c.env.locals = some o := by obtain ⟨m, ⟨o, _, _, e, _⟩, _⟩ := S.locals; exact ⟨o, e⟩
  have hL : upd (upd σ a ao') D bo c.env.locals = none := by
    obtain ⟨o, e⟩ := hLe
    rw [upd_ne (by rintro h; rw [h, hD] at e; cases e), upd_ne (S.neL q).symm]; exact S.loc
  obtain ⟨r1, r2⟩ := hr X
  refine ⟨S.move ?_ rfl X (fun b o e z _ => hk b o (by rintro rfl; rw [q] at z; cases z) e) hL (fun b b' qb => ?_), X⟩
  · obtain ⟨m, hm, hr⟩ := S.locals
    exact ⟨m, ns_keep hk (S.neL q).symm m hm, fun x av hx => let ⟨v, h1, h2⟩ := hr x av hx; ⟨v, h1, h2.ext S.ns X⟩⟩
  · by_cases h1 : b = D
    · subst h1
      rw [upd_same] at qb; cases qb
      exact ⟨S.H0fresh hD, heD, r2⟩
    · rw [upd_ne h1] at qb
      by_cases hb : b = a
      · subst hb
        rw [upd_same] at qb; cases qb
        exact ⟨S.old q, he, r1⟩
      · rw [upd_ne hb] at qb
        refine box fun G9 k9 => ?_
        obtain ⟨h0, ⟨o₂, e⟩, r⟩ := S.objs b b' qb
        refine k9 ?_; clear k9 G9
        refine ⟨h0, ⟨o₂, hk b o₂ hb e⟩, r.ext S.ns X (fun d o bo e q' z => hk d o ?_ e) (fun d bo q' z => ?_) qb⟩
        · rintro rfl
          rcases z with z | z
          · rw [q] at q'; cases q'; rw [hsim] at z; cases z
          · exact hb z.symm
        · obtain ⟨_, ⟨o', e'⟩, _⟩ := S.objs d bo q'
          rw [upd_ne (by rintro rfl; rw [hD] at e'; cases e'), upd_ne]; exact q'
          rintro rfl
          rw [q] at q'; cases q'; rw [hsim] at z; cases z

theorem xset_new (S : St B c ρ σ s) {e C : Addr} {fs : Array Value} {name : Str} {v : Value} {av : AV} {A : Around} {E : Value → Shared → Prop} {Q : Unit → Shared → Prop} (q : σ e = some (xRaw C none fs)) (O : XOk B.K C names) (hn : name ∈ names) (hv : VRel σ s.heap v av)
    (h : ∀ D s', σ D = none → St B c ρ (upd (upd σ e (xRaw C (some D) fs)) D (.dictS [(name, av)])) s' → Ext c.env.locals σ s.heap (upd (upd σ e (xRaw C (some D) fs)) D (.dictS [(name, av)])) s'.heap → Q () s') :
    wpAny B.M A (setAttr (.ref e) name v) Q E s := by
  refine box fun G9 k9 => ?_
  obtain ⟨_, _, hx⟩ := S.objs e _ q
  refine k9 ?_; clear k9 G9
  have X0 := S.ok.b.X.keeps S.keep
  refine x_set_new X0 O hn hx ?_
  have hne : s.heap.objs.size ≠ e := Nat.ne_of_gt (Heap.lt_size hx)
  have hx1 : (s.heap.push emptyDict).get? e = some { cls := .ref C, data := .fields fs } := Heap.get?_push_of_some _ hx
  have hD : ((s.heap.push emptyDict).update e fun o => { o with dict := some s.heap.objs.size }).get? s.heap.objs.size = some (dictOf [] 0) :=
    (Heap.get?_update_other _ _ (Ne.symm hne)).trans (Heap.get?_push_size _ rfl)
  have D' := Heap.get?_update_self (Obj.putName name (PyData.keyHash B.w.params name) (.str name (s.toks + 1)) v) hD (by rw [putName_dict]; rfl)
  have E' : (((s.heap.push emptyDict).update e fun o => { o with dict := some s.heap.objs.size }).update s.heap.objs.size (Obj.putName name (PyData.keyHash B.w.params name) (.str name (s.toks + 1)) v)).get? e = some { cls := .ref C, dict := some s.heap.objs.size, data := .fields fs } :=
    (Heap.get?_update_other _ _ hne).trans (Heap.get?_update_self _ hx1 rfl)
  rw [putName_dict] at D'
  obtain ⟨S', X'⟩ := S.setNew (tk := s.toks + 2) (ao' := xRaw C (some s.heap.objs.size) fs) (bo := .dictS [(name, av)]) q rfl fresh_none (fun b o hb e' => by
      have hb2 : b ≠ s.heap.objs.size := Nat.ne_of_lt (Heap.lt_size e')
      exact (Heap.get?_update_other _ _ (Ne.symm hb2)).trans ((Heap.get?_update_other _ _ (Ne.symm hb)).trans (Heap.get?_push_of_some _ e'))) ⟨_, E'⟩ ⟨_, D'⟩ fun X =>
    ⟨E', _, _, _, D', ⟨rfl, rfl, rfl⟩, rfl, arel_ent ⟨name, av, [], rfl, ⟨_, rfl⟩, rfl, hv.ext S.ns X, rfl⟩, by simp⟩
  exact h _ _ S.fresh S' X'
theorem xset (S : St B c ρ σ s) {e C D : Addr} {fs : Array Value} {es : List (Str × AV)} {name : Str} {v : Value} {av : AV} {A : Around} {E : Value → Shared → Prop} {Q : Unit → Shared → Prop} (q : σ e = some (xRaw C (some D) fs)) (qD : σ D = some (.dictS es)) (O : XOk B.K C names) (hn : name ∈ names) (hv : VRel σ s.heap v av)
    (hnew : name ∉ es.map (·.1)) (hz : es.length ≤ 100)
    (h : ∀ s', St B c ρ (upd σ D (.dictS (es ++ [(name, av)]))) s' → Ext c.env.locals σ s.heap (upd σ D (.dictS (es ++ [(name, av)]))) s'.heap → Q () s') :
    wpAny B.M A (setAttr (.ref e) name v) Q E s := by
  refine box fun G9 k9 => ?_
  obtain ⟨_, _, hx⟩ := S.objs e _ q
  obtain ⟨l, n, hD, r, nd⟩ := S.xdict qD
  refine k9 ?_; clear k9 G9
  have X0 := S.ok.b.X.keeps S.keep
  have I : W.InstAt s.heap e { cls := .ref C, dict := some D, data := .fields fs } C (some (dictOf l n)) := ⟨hx, rfl, rfl, hD⟩
  refine x_set X0 O hn I rfl (by rw [r.miss hnew]; rfl) (by rw [r.length]; exact hz) ?_
  have D' := Heap.get?_update_self (Obj.putName name (PyData.keyHash B.w.params name) (.str name (s.toks + 1)) v) hD (by rw [putName_dict]; rfl)
  rw [putName_dict] at D'
  obtain ⟨S', X'⟩ := S.set (tk := s.toks + 2) (ao' := .dictS (es ++ [(name, av)])) qD rfl (Heap.SameBut.update ..) ⟨_, D'⟩ fun X =>
    ⟨_, _, _, D', ⟨rfl, rfl, rfl⟩, rfl, by
      have := ARel.add (name := name) (t := s.toks + 1) (hv.ext S.ns X) (r.ext S.ns X) hnew
      simpa using arel_ent this, by
      rw [List.map_append, List.nodup_append]
      refine ⟨nd, by simp, fun a ha b hb => ?_⟩
      simp only [List.map_cons, List.map_nil, List.mem_singleton] at hb
      subst hb; rintro rfl; exact hnew ha⟩
  exact h _ S' X'

/-- done: the exception and its dict -/
theorem St.xdone (S : St B c ρ σ s) {e C D : Addr} {fs : Array Value} {es : List (Str × AV)} (q : σ e = some (xRaw C (some D) fs)) (qD : σ D = some (.dictS es)) :
    St B c ρ (upd (upd σ e (.exc C D es)) D (.own e)) s ∧ Ext c.env.locals σ s.heap (upd (upd σ e (.exc C D es)) D (.own e)) s.heap := by
  have hne : D ≠ e := by rintro rfl; rw [q] at qD; cases qD
  refine box fun G9 k9 => ?_
  obtain ⟨l, n, hD, r, nd⟩ := S.xdict qD
  obtain ⟨h0, _, hx⟩ := S.objs e _ q
  refine k9 ?_; clear k9 G9
  have hold : ∀ b, b ≠ D → b ≠ e → upd (upd σ e (.exc C D es)) D (.own e) b = σ b := fun b h1 h2 => by rw [upd_ne h1, upd_ne h2]
  have X : Ext c.env.locals σ s.heap (upd (upd σ e (.exc C D es)) D (.own e)) s.heap := Ext.of_keep (fun _ _ e _ _ => e) fun b o eb z => by
    rw [hold b (by rintro rfl; rw [qD] at z; cases z) (by rintro rfl; rw [q] at z; cases z)]; exact z
  refine ⟨S.move (s' := s) ?_ rfl X (fun _ _ e _ _ => e) (by rw [hold _ (S.neL qD).symm (S.neL q).symm]; exact S.loc) fun b b' qb => ?_, X⟩
  · obtain ⟨m, hm, hr⟩ := S.locals
    exact ⟨m, hm, fun x av hx => let ⟨v, h1, h2⟩ := hr x av hx; ⟨v, h1, h2.ext S.ns X⟩⟩
  · have qe : upd (upd σ e (.exc C D es)) D (.own e) e = some (.exc C D es) := by rw [upd_ne hne.symm, upd_same]
    by_cases h1 : b = D
    · subst h1
      rw [upd_same] at qb; cases qb
      exact ⟨S.old qD, ⟨_, hD⟩, .inr ⟨C, es, qe⟩⟩
    · by_cases h2 : b = e
      · subst h2
        rw [qe] at qb; cases qb
        exact ⟨h0, ⟨_, hx⟩, ⟨fs, hx⟩, upd_same _ _ _, nd, l, n, hD, r.ext S.ns X⟩
      · rw [hold b h1 h2] at qb
        refine box fun G9 k9 => ?_
        obtain ⟨h0, ho, r⟩ := S.objs b b' qb
        refine k9 ?_; clear k9 G9
        refine ⟨h0, ho, r.ext S.ns X (fun _ _ _ e _ _ => e) (fun d bo q' z => ?_) qb⟩
        rw [hold d (by rintro rfl; rw [qD] at q'; cases q'; cases z) (by rintro rfl; rw [q] at q'; cases q'; cases z)]; exact q'

/-- an attribute of a caught one -/
theorem xget (S : St B c ρ σ s) {e C D : Addr} {es : List (Str × AV)} {name : Str} {av : AV} {ex : Bool} {A : Around} {E : Value → Shared → Prop} {Q : Value → Shared → Prop} (q : σ e = some (.exc C D es)) (O : XOk B.K C names) (hn : name ∈ names) (ha : AAt es name av) (hok : avOk av = true)
    (h : ∀ v, VRel σ s.heap v av → Q v { s with toks := s.toks + 1 }) : wpAny B.M A (getAttr (.ref e) name ex) Q E s := by
  refine box fun G9 k9 => ?_
  obtain ⟨_, _, ⟨fs, hx⟩, _, nd, l, n, hD, r⟩ := S.objs e _ q
  refine k9 ?_; clear k9 G9
  have X0 := S.ok.b.X.keeps S.keep
  have I : W.InstAt s.heap e { cls := .ref C, dict := some D, data := .fields fs } C (some (dictOf l n)) := ⟨hx, rfl, rfl, hD⟩
  refine box fun G9 k9 => ?_
  obtain ⟨v, hv, rv⟩ := r.find nd ha.mem
  refine k9 ?_; clear k9 G9
  exact x_get X0 O hn I hv (handed_of rv hok) (h v rv)

/-- the built-in init -/
theorem xinit (S : St B c ρ σ s) {e C t0 : Addr} {fs : Array Value} {vs : List Value} {args : List AV} {A : Around} {E : Value → Shared → Prop} {Q : Value → Shared → Prop} (q : σ e = some (xRaw C none fs)) (hf : fs[0]? = some (.ref t0)) (r : VRelL σ s.heap vs args) (hz : vs.length ≤ 1000)
    {nm qn : Str} {N : Addr} {bs bm : List Value} {hdct : Bool} {sn : List Str} {sub : List Value} {ab : Bool} {col : Option Bool} {dd : Option Addr} {k0 k1 k2 k3 k5 : Option Value} (XL : XLine C bm)
    (hC : B.K.lookup C = some (excClassObj nm qn C N bs bm hdct sn sub ab col dd k0 k1 k2 k3 k5 "Exception.__new__"))
    (h : ∀ t s', St B c ρ (upd σ e (xRaw C none (fs.setIfInBounds 0 (.ref t)))) s' → Ext c.env.locals σ s.heap (upd σ e (xRaw C none (fs.setIfInBounds 0 (.ref t)))) s'.heap → Q .none s') :
    wpAny B.M A (call (.builtin "Exception.__init__") (.ref e :: vs)) Q E s := by
  refine box fun G9 k9 => ?_
  obtain ⟨_, _, hx⟩ := S.objs e _ q
  refine k9 ?_; clear k9 G9
  have hCh := S.keep _ _ (S.ok.b.X _ _ hC)
  refine box fun G9 k9 => ?_
  obtain ⟨hp, g, d, tk, os⟩ := s
  refine k9 ?_; clear k9 G9
  refine x_init XL hCh hx hf (by unfold sizeLine; lia) ?_
  have hx1 : (hp.push { cls := .type "tuple", data := .seq vs.toArray }).get? e = some { cls := .ref C, data := .fields fs } := Heap.get?_push_of_some _ hx
  have hself := Heap.get?_update_self (Obj.mapFields (·.setIfInBounds 0 (Value.ref hp.objs.size))) hx1 rfl
  obtain ⟨S', X'⟩ := S.setE (tk := tk) (h' := (hp.push { cls := .type "tuple", data := .seq vs.toArray }).update e (Obj.mapFields (·.setIfInBounds 0 (Value.ref hp.objs.size)))) (ao' := xRaw C none (fs.setIfInBounds 0 (.ref hp.objs.size))) q rfl (fun b o hb e' => (Heap.get?_update_other _ _ (Ne.symm hb)).trans (Heap.get?_push_of_some _ e')) ⟨_, hself⟩ fun X => hself
  exact h _ _ S' X'
end
end
/-! W25 -/
section
open PySem PySem.W PyProof.Rows PySem.Calls PySem.Spec PySem.SeqAt
variable {B : Bs} {c : Cx} {ρ : Loc} {σ : AH} {s : Shared}

/-- an exception class of the text, as the walk asks -/
structure XCls (B : Bs) (C fI : Addr) (names : List Str) : Prop where
  obj : ∃ nm qn N bs bm hdct sn sub ab col dd k0 k1 k2 k3 k5, B.K.lookup C = some (excClassObj nm qn C N bs bm hdct sn sub ab col dd k0 k1 k2 k3 k5 "Exception.__new__") ∧ XLine C bm ∧ nsOkIn B.K N = true ∧ (∀ h : Heap, B.K.In h → h.nsMap N "__init__" = some (.ref fI))
  ok : XOk B.K C names
  init : ∃ oI, B.K.lookup fI = some oI ∧ oI.cls = .type "function"
  keep : keepIn B.K (.ref C) = true

section
variable {prog : Program} {w : World} {A : Around} {E : Value → Shared → Prop} {s : Shared} {env : Env}
variable {nm q : Str} {C N : Addr} {bs bm : List Value} {hdct : Bool} {sn : List Str} {sub : List Value} {ab : Bool} {col : Option Bool} {dd : Option Addr} {k0 k1 k2 k3 k5 : Option Value} {newId : String}
theorem x_raiseStmt {x : Sem Value} {Q : Flow → Shared → Prop} (hh : A.handled = none)
    (h : wpAny (model prog w) A x (fun v s₁ => ∃ e dx fs, v = .ref e ∧ (∃ nm q N bs bm hdct sn sub ab col dd k0 k1 k2 k3 k5, s₁.heap.get? C = some (excClassObj nm q C N bs bm hdct sn sub ab col dd k0 k1 k2 k3 k5 "Exception.__new__") ∧ XLine C bm) ∧
      s₁.heap.get? e = some { cls := .ref C, dict := dx, data := .fields fs } ∧ fs[1]? = some .none ∧ E (.ref e) s₁) E s) :
    wpAny (model prog w) A (raiseStmt env (some x) none) Q E s := by
  unfold raiseStmt
  refine wpAny_bind (wpAny_mono h (fun v s₁ h₁ => ?_) fun _ _ x => x)
  refine box fun G9 k9 => ?_
  obtain ⟨e, dx, fs, rfl, ⟨nm, q, N, bs, bm, hdct, sn, sub, ab, col, dd, k0, k1, k2, k3, k5, hC, XL⟩, he, hf, hE⟩ := h₁
  refine k9 ?_; clear k9 G9
  have hcB := XL.base
  refine box fun G9 k9 => ?_
  obtain ⟨hp, g, d, tk, os⟩ := s₁
  refine k9 ?_; clear k9 G9
  repeat (first | with_reducible refine wpAny_loadPart_at he ?_ | with_reducible refine wpAny_loadPart_at hC ?_ | (with_reducible refine wpAny_isSubtype_exc hC ?_; rw [hcB]) | wp_step)
  rw [hf]
  refine wpAny_pure ?_
  rw [if_neg (by simp)]
  exact wpAny_pure (wpAny_raiseNew_none hh hE)
end

section
variable {names : List Str} {C fI : Addr}
theorem XCls.at (H : XCls B C fI names) (S : St B c ρ σ s) : ∃ nm q N bs bm hdct sn sub ab col dd k0 k1 k2 k3 k5, s.heap.get? C = some (excClassObj nm q C N bs bm hdct sn sub ab col dd k0 k1 k2 k3 k5 "Exception.__new__") ∧ XLine C bm := by
  refine box fun G9 k9 => ?_
  obtain ⟨nm, qn, N, bs, bm, hdct, sn, sub, ab, col, dd, k0, k1, k2, k3, k5, hC, XL, _⟩ := H.obj
  refine k9 ?_; clear k9 G9
  exact ⟨nm, qn, N, bs, bm, hdct, sn, sub, ab, col, dd, k0, k1, k2, k3, k5, S.keep _ _ (S.ok.b.X _ _ hC), XL⟩

section
variable {Q : QS} {X : XT}
theorem WS_raise (H : XCls B C fI names) (hh : c.hd = none) {e : Expr} {pos : Pos} {rest : List Stmt}
    (h : WE B c e ρ σ (fun a σ₂ => ∃ x D es fs, a = .ref x ∧ σ₂ x = some (xRaw C (some D) fs) ∧ σ₂ D = some (.dictS es) ∧ 5 < fs.size ∧ fs[1]? = some .none ∧ X x ρ (upd (upd σ₂ x (.exc C D es)) D (.own x))) X) : WS B c (.Raise (some e) none pos :: rest) ρ σ Q X := fun s S => by
  refine wpAny_execs_cons ?_
  rw [arm_exec_Raise]
  refine wpAny_bind (wpAny_standAt ?_)
  show wpAny B.M c.A (raiseStmt c.env (some (do let v ← eval e c.env; standAt pos; pure v)) none) _ _ s
  refine x_raiseStmt (C := C) hh (wpAny_bind (wpAny_mono (h s S) (fun v s₁ ⟨a, σ₂, S₂, E₂, r₂, x, D, es, fs, e1, q1, q2, h5, hf, q⟩ => wpAny_bind (wpAny_standAt (wpAny_pure ?_))) fun _ _ h => h))
  subst e1
  cases r₂
  have hx := (S₂.objs x _ q1).2.2
  obtain ⟨S₃, E₃⟩ := S₂.xdone q1 q2
  refine ⟨x, some D, fs, rfl, H.at S₂, hx, hf, x, ρ, _, rfl, S₃, E₂.trans E₃, .inl ⟨⟨C, D, es, ?_⟩, _, fs, hx, rfl, h5, hf⟩, q⟩
  have hne : D ≠ x := by rintro rfl; rw [q1] at q2; cases q2
  rw [upd_ne hne.symm, upd_same]
end

section
variable {Q : AV → AH → Prop} {X : XT}
/-- an exception class of the text is called -/
theorem WF_makeX (H : XCls B C fI names) {args : List AV} (hz : args.length ≤ 1000)
    (h : ∀ x t0, σ x = none → WF B c.up (.val (.ref fI)) (.ref x :: args) ρ (upd σ x (xRaw C none #[.ref t0, .none, .none, .none, .bool false, .none])) (fun r σ' => r = .data .none ∧ Q (.ref x) σ') X) : WF B c (.val (.ref C)) args ρ σ Q X := fun v vs s S r1 r2 => by
  cases r1
  refine box fun G9 k9 => ?_
  obtain ⟨nm, qn, N, bs, bm, hdct, sn, sub, ab, col, dd, k0, k1, k2, k3, k5, hC, XL, hN, hi⟩ := H.obj
  obtain ⟨oI, hoI, hfc⟩ := H.init
  refine k9 ?_; clear k9 G9
  have X0 := S.ok.b.X.keeps S.keep
  have hlen := r2.length
  have Su : ∀ {ρ : Loc} {σ : AH} {s : Shared}, St B c ρ σ s → St B c.up ρ σ s := fun S => ⟨⟨S.ok.b, S.ok.kind, S.ok.globals, S.ok.builtins⟩, S.locals, S.nodup, S.kinds, S.keep, S.above, S.loc, S.free, S.funs, S.objs, S.gens, S.drawn, S.os⟩
  have Sd : ∀ {ρ : Loc} {σ : AH} {s : Shared}, St B c.up ρ σ s → St B c ρ σ s := fun S => ⟨⟨S.ok.b, S.ok.kind, S.ok.globals, S.ok.builtins⟩, S.locals, S.nodup, S.kinds, S.keep, S.above, S.loc, S.free, S.funs, S.objs, S.gens, S.drawn, S.os⟩
  have key : wpAny B.M (c.A.under (.builtin "type.__call__" ⟨.ref C :: vs, []⟩)) (call (.ref fI) (.ref (s.heap.objs.size + 1) :: vs)) (fun r s' => r = .none ∧ PG VRel B c ρ σ s Q (.ref (s.heap.objs.size + 1)) s') (PX B c σ s X)
      { s with heap := (s.heap.push { cls := .type "tuple", data := .seq vs.toArray }).push { cls := .ref C, data := .fields #[.ref s.heap.objs.size, .none, .none, .none, .bool false, .none] } } := by
    rw [under_call]
    obtain ⟨S₁, E₁⟩ := S.grow (tk := s.toks) (push_keep { cls := .type "tuple", dict := none, data := .seq vs.toArray, slots := #[] })
    have hsz : (s.heap.push { cls := .type "tuple", dict := none, data := .seq vs.toArray, slots := #[] }).objs.size = s.heap.objs.size + 1 := Heap.size_push ..
    obtain ⟨S₂, E₂⟩ := S₁.growT (tk := s.toks) (a := (s.heap.push { cls := .type "tuple", dict := none, data := .seq vs.toArray, slots := #[] }).objs.size) (ao := xRaw C none #[.ref s.heap.objs.size, .none, .none, .none, .bool false, .none])
      (push_keep { cls := .ref C, data := .fields #[.ref s.heap.objs.size, .none, .none, .none, .bool false, .none] }) fresh_none (S₁.H0fresh fresh_none) ⟨_, Heap.get?_push_size _ rfl⟩ fun E => Heap.get?_push_size _ rfl
    have hn := S₁.fresh
    dsimp only at S₂ E₂ hn
    rw [hsz] at S₂ E₂ hn
    have E12 := E₁.trans E₂
    refine wpAny_mono (h _ _ hn (.ref fI) (.ref (s.heap.objs.size + 1) :: vs) _ (Su S₂) rfl (.cons rfl (r2.ext S.ns E12))) (fun r s' ⟨y, σ', S', E', r', e1, q⟩ => ?_) fun e s' ⟨a, ρ', σ', e1, S', E', F', q⟩ => ?_
    · subst e1
      exact ⟨none_of r', .ref (s.heap.objs.size + 1), σ', Sd S', E12.trans E', rfl, q⟩
    · subst e1
      exact ⟨a, ρ', σ', rfl, Sd S', E12.trans E', F', q⟩
  refine box fun G9 k9 => ?_
  obtain ⟨hp, g, d, tk, os⟩ := s
  refine k9 ?_; clear k9 G9
  have hCh := S.keep _ _ (S.ok.b.X _ _ hC)
  have hN' : hp.Ns N (hp.nsMap N) := .of_isNs (isNs_of_in X0 hN)
  exact x_call XL hCh hN' (hi hp X0) (S.keep _ _ (S.ok.b.X _ _ hoI)) hfc (by unfold sizeLine; lia) key

/-! methods met through a class -/
theorem WM_cls {C : Addr} {name : Str} {a : Value} (hg : specialIn B.K (.ref C) "__getattribute__" = some (some (.builtin "type.__getattribute__"))) (hr : readsIn B.K C (.type "type") = true) (e : findCls B.K (.ref C) (.type "type") name = some (.val a)) (hh : handedIn a = true) :
    WM B c (.val (.ref C)) name (.val a) [] σ := fun ρ v s pl A E Q S r h => by
  cases r
  refine box fun G9 k9 => ?_
  obtain ⟨m, F, _⟩ := S.fr
  refine k9 ?_; clear k9 G9
  have X0 := S.ok.b.X.keeps S.keep
  exact method_cls X0 hg (cls_value X0 hr e hh (h _ _ _ rfl .nil))
theorem WM_type {T : String} {name : Str} {a : Value} (ht : typeOf (.type T) = pure (.type "type")) (hs : Manifest.isStub T = false) (e : findCls B.K (.type T) (.type "type") name = some (.val a)) (hh : handedIn a = true) :
    WM B c (.val (.type T)) name (.val a) [] σ := fun ρ v s pl A E Q S r h => by
  cases r
  refine box fun G9 k9 => ?_
  obtain ⟨m, F, _⟩ := S.fr
  refine k9 ?_; clear k9 G9
  exact method_type F S.ok.b.X ht hs e hh (h _ _ _ rfl .nil)
theorem WF_xinit (H : XCls B C fI names) {x t0 : Addr} {fs : Array Value} {args : List AV} (q : σ x = some (xRaw C none fs)) (hf : fs[0]? = some (.ref t0)) (hz : args.length ≤ 1000)
    (h : ∀ t, Q (.data .none) (upd σ x (xRaw C none (fs.setIfInBounds 0 (.ref t))))) : WF B c (.val (.builtin "Exception.__init__")) (.ref x :: args) ρ σ Q X := fun v vs s S r1 r2 => by
  cases r1
  cases r2 with
  | cons r rs =>
    cases r
    have hlen := rs.length
    refine box fun G9 k9 => ?_
    obtain ⟨nm, qn, N, bs, bm, hdct, sn, sub, ab, col, dd, k0, k1, k2, k3, k5, hC, XL, hN, hi⟩ := H.obj
    refine k9 ?_; clear k9 G9
    exact xinit S q hf rs (by lia) XL hC fun t s' S' E' => ⟨.data .none, _, S', E', drel_none, h t⟩
end
section
variable {Q : QS} {X : XT}
theorem WS_xset_new (H : XCls B C fI names) {o e : Expr} {n : Str} {ap pos : Pos} {rest : List Stmt} (hn : n ∈ names) (h : WE B c e ρ σ (fun a σ₁ => WE B c o ρ σ₁ (fun ov σ₂ => ∃ x fs, ov = .ref x ∧ σ₂ x = some (xRaw C none fs) ∧ ∀ D, σ₂ D = none → D ≠ x →
      WS B c rest ρ (upd (upd σ₂ x (xRaw C (some D) fs)) D (.dictS [(n, a)])) Q X) X) X)
    (hs : swapsWith e (some (.Attribute o n ap)) pos.line c.env = pure false := by rfl) : WS B c (.Assign [.Attribute o n ap] e pos :: rest) ρ σ Q X := fun s S =>
  wpAny_execs_cons (wpAny_assignAttr (wpAny_mono (h s S) (fun v s₁ ⟨a, σ₁, S₁, E₁, r₁, q₁⟩ => wpAny_mono (q₁ s₁ S₁) (fun u s₂ ⟨b, σ₂, S₂, E₂, r₂, x, fs, e1, e2, q₂⟩ => by
    subst e1
    cases r₂
    exact xset_new S₂ e2 H.ok hn (r₁.ext S₁.ns E₂) fun D s₃ hD S₃ E₃ => WS.run (q₂ D hD (by rintro rfl; rw [e2] at hD; cases hD)) S₃ ((E₁.trans E₂).trans E₃)) fun _ _ h => h.weaken E₁) fun _ _ h => h) hs)
theorem WS_xset (H : XCls B C fI names) {o e : Expr} {n : Str} {ap pos : Pos} {rest : List Stmt} (hn : n ∈ names) (h : WE B c e ρ σ (fun a σ₁ => WE B c o ρ σ₁ (fun ov σ₂ => ∃ x D fs es, ov = .ref x ∧ σ₂ x = some (xRaw C (some D) fs) ∧ σ₂ D = some (.dictS es) ∧ n ∉ es.map (·.1) ∧ es.length ≤ 100 ∧
      WS B c rest ρ (upd σ₂ D (.dictS (es ++ [(n, a)]))) Q X) X) X)
    (hs : swapsWith e (some (.Attribute o n ap)) pos.line c.env = pure false := by rfl) : WS B c (.Assign [.Attribute o n ap] e pos :: rest) ρ σ Q X := fun s S =>
  wpAny_execs_cons (wpAny_assignAttr (wpAny_mono (h s S) (fun v s₁ ⟨a, σ₁, S₁, E₁, r₁, q₁⟩ => wpAny_mono (q₁ s₁ S₁) (fun u s₂ ⟨b, σ₂, S₂, E₂, r₂, x, D, fs, es, e1, e2, e3, e4, e5, q₂⟩ => by
    subst e1
    cases r₂
    exact xset S₂ e2 e3 H.ok hn (r₁.ext S₁.ns E₂) e4 e5 fun s₃ S₃ E₃ => WS.run q₂ S₃ ((E₁.trans E₂).trans E₃)) fun _ _ h => h.weaken E₁) fun _ _ h => h) hs)
end
end
end
/-! W26 -/
section
open PySem PySem.W PyProof.Rows PySem.Calls PySem.Spec PySem.SeqAt
variable {B : Bs} {c : Cx} {ρ : Loc} {σ : AH} {s : Shared}

section
variable {M : Model} {A : Around} {E : Value → Shared → Prop} {h : Heap} {g : Array GenState} {d : Drawn} {t : Nat} {os : OsState}
variable {nm q nm' q' : Str} {C C' N N' : Addr} {bs bm bs' bm' : List Value} {hdct hdct' : Bool} {sn sn' : List Str} {sub sub' : List Value} {ab ab' : Bool} {col col' : Option Bool} {dd dd' : Option Addr} {k0 k1 k2 k3 k5 k0' k1' k2' k3' k5' : Option Value} {newId newId' : String}
theorem x_matches {e : Addr} {oe : Obj} {Q : Bool → Shared → Prop} (XL' : XLine C' bm')
    (hC : h.get? C = some (excClassObj nm q C N bs bm hdct sn sub ab col dd k0 k1 k2 k3 k5 newId)) (hC' : h.get? C' = some (excClassObj nm' q' C' N' bs' bm' hdct' sn' sub' ab' col' dd' k0' k1' k2' k3' k5' newId')) (he : h.get? e = some oe) (hcls : oe.cls = .ref C)
    (hq : Q ((Value.ref C :: bm).contains (.ref C')) ⟨h, g, d, t, os⟩) : wpAny M A (excMatches (.ref e) (.ref C')) Q E ⟨h, g, d, t, os⟩ := by
  have hcB := XL'.base
  have f := tc_notTuple
  generalize hb : (Value.ref C :: bm).contains (.ref C') = b at hq
  unfold excMatches
  repeat (first | (with_reducible refine wpAny_loadPart_at he ?_; rw [hcls]) | with_reducible refine wpAny_loadPart_at hC' ?_ | (with_reducible refine wpAny_isSubtype_exc hC' ?_; rw [hcB]) | (with_reducible refine wpAny_isSubtype_exc hC ?_; rw [hb]) | wp_step)
  cases b
  · wp_walk; exact hq
  · wp_walk; exact hq
end

noncomputable abbrev Cx.caught (c : Cx) (e : Addr) : Cx := { c with hd := some (.ref e) }
theorem St.in (S : St B c ρ σ s) (e : Addr) : St B (c.caught e) ρ σ s := ⟨⟨S.ok.b, S.ok.kind, S.ok.globals, S.ok.builtins⟩, S.locals, S.nodup, S.kinds, S.keep, S.above, S.loc, S.free, S.funs, S.objs, S.gens, S.drawn, S.os⟩
theorem St.out {e : Addr} (S : St B (c.caught e) ρ σ s) : St B c ρ σ s := ⟨⟨S.ok.b, S.ok.kind, S.ok.globals, S.ok.builtins⟩, S.locals, S.nodup, S.kinds, S.keep, S.above, S.loc, S.free, S.funs, S.objs, S.gens, S.drawn, S.os⟩

/-- the handlers, from a caught exception on -/
noncomputable def WH (B : Bs) (c : Cx) (e : Addr) (hs : List ExceptHandler) (ρ : Loc) (σ : AH) (Q : QS) (X : XT) : Prop :=
  ∀ s, St B c ρ σ s → FlightM B σ s.heap e (some .none) → wpAny B.M c.A (handleBy (.ref e) c.env hs) (PF B c σ s Q) (PX B c σ s X) s

section
variable {Q : QS} {X : XT} {names : List Str} {C C' fI fI' : Addr}
theorem WX_try {body : List Stmt} {h₀ : ExceptHandler} {hs : List ExceptHandler} {pos : Pos} {Xb : XT} (hf : c.Fun) (hb : WS B c body ρ σ Q Xb) (hx : ∀ e ρ₁ σ₁, Xb e ρ₁ σ₁ → WH B c e (h₀ :: hs) ρ₁ σ₁ Q X) : WX B c (.Try body (h₀ :: hs) [] [] pos) ρ σ Q X := fun s S => by
  refine wpAny_Try_except (wpAny_mono (hb s S) (fun f s₁ h₁ => ?_) fun e s₁ h₁ => ?_)
  · cases f with
    | next => exact wpAny_execs_nil h₁
    | _ => exact h₁
  · obtain ⟨a, ρ', σ', rfl, S', E', F', q⟩ := h₁
    refine noteFrame_T S' hf F' fun s₂ S₂ E₂ F₂ => setFlight_T S₂ (fr := none) F₂ fun s₃ S₃ E₃ F₃ => ?_
    exact wpAny_mono (hx a ρ' σ' q s₃ S₃ F₃) (fun _ _ h => h.weaken ((E'.trans E₂).trans E₃)) fun _ _ h => h.weaken ((E'.trans E₂).trans E₃)

theorem glob_T (S : St B c ρ σ s) {x : Str} {np : Pos} {v : Value} {A : Around} {E : Value → Shared → Prop} {R : Value → Shared → Prop} (hg : GAt B.gt x (.val v)) (hk : c.env.kindOf x = some .globalImplicit) (hd : (x == ("__debug__" : Str)) = false) (q : R v s) : wpAny B.M A (eval (.Name x np) c.env) R E s := by
  refine box fun G9 k9 => ?_
  obtain ⟨u, hu, r⟩ := S.ok.b.gt x _ hg.mem
  refine k9 ?_; clear k9 G9
  cases r
  have T := S.ok.b.T
  have G : s.heap.Ns c.env.globals B.mg := by rw [S.ok.globals]; exact T.g.keeps S.keep
  have Bu : s.heap.Ns c.env.builtins B.mb := by rw [S.ok.builtins]; exact T.b.keeps S.keep
  refine Name_function_global S.ok.kind hk ?_ hd
  rcases hu with hu | ⟨h1, h2⟩
  · exact loadGlobal_global G hu q
  · exact loadGlobal_builtin G h1 Bu h2 q

theorem WH_skip {e D : Addr} {es : List (Str × AV)} {x : Str} {np pos : Pos} {nm : Option Str} {b : List Stmt} {rest : List ExceptHandler} {names' : List Str} (hσ : σ e = some (.exc C D es)) (H : XCls B C fI names) (H' : XCls B C' fI' names') (hg : GAt B.gt x (.val (.ref C')))
    (hno : mroIn B.K C (.ref C') = some false)
    (h : WH B c e rest ρ σ Q X) (hk : c.env.kindOf x = some .globalImplicit := by rfl) (hd : (x == ("__debug__" : Str)) = false := by decide) : WH B c e (.ExceptHandler (some (.Name x np)) nm b pos :: rest) ρ σ Q X := fun s S F => by
  refine wpAny_handleBy_cons ?_ (by intro q; cases q)
  refine codeAny_handlers_test (glob_T S hg hk hd ?_)
  refine box fun G9 k9 => ?_
  obtain ⟨nm1, qn1, N1, bs1, bm1, hdct1, sn1, sub1, ab1, col1, dd1, l0, l1, l2, l3, l5, hC, XL, _⟩ := H.obj
  obtain ⟨nm2, qn2, N2, bs2, bm2, hdct2, sn2, sub2, ab2, col2, dd2, m0, m1, m2, m3, m5, hC', XL'⟩ := H'.at S
  obtain ⟨_, _, ⟨fs, hx⟩, _⟩ := S.objs e _ hσ
  refine k9 ?_; clear k9 G9
  have hCh := S.keep _ _ (S.ok.b.X _ _ hC)
  have hc : (Value.ref C :: bm1).contains (.ref C') = false := by
    unfold mroIn clsIn at hno
    rw [hC] at hno
    simpa using hno
  refine box fun G9 k9 => ?_
  obtain ⟨hp, g, d, tk, os⟩ := s
  refine k9 ?_; clear k9 G9
  refine x_matches XL' hCh hC' hx rfl ?_
  rw [hc]
  exact h _ S F

/-- the clause that takes it, by name -/
theorem WH_hit {e D : Addr} {es : List (Str × AV)} {x n : Str} {np pos : Pos} {b₀ : Stmt} {b : List Stmt} {rest : List ExceptHandler} {ρ₁ ρ₂ : Loc} (hh : c.hd = none) (hσ : σ e = some (.exc C D es)) (H : XCls B C fI names) (hg : GAt B.gt x (.val (.ref C)))
    (hp : Put ρ n (.ref e) ρ₁)
    (h : WS B (c.caught e) (b₀ :: b) ρ₁ σ (fun af ρ' σ' => ρ'.map (·.1) = ρ.map (·.1) ∧ Q af (ρ'.filterMap fun p => if p.1 = n then some (p.1, none) else some p) σ') noX)
    (hk : c.env.kindOf x = some .globalImplicit := by rfl) (hd : (x == ("__debug__" : Str)) = false := by decide) : WH B c e (.ExceptHandler (some (.Name x np)) (some n) (b₀ :: b) pos :: rest) ρ σ Q X := fun s S F => by
  refine wpAny_handleBy_cons ?_ (by intro q; cases q)
  refine codeAny_handlers_test (glob_T S hg hk hd ?_)
  refine box fun G9 k9 => ?_
  obtain ⟨nm2, qn2, N2, bs2, bm2, hdct2, sn2, sub2, ab2, col2, dd2, m0, m1, m2, m3, m5, hC', XL'⟩ := H.at S
  obtain ⟨_, _, ⟨fs, hx⟩, _⟩ := S.objs e _ hσ
  refine k9 ?_; clear k9 G9
  have hc : (Value.ref C :: bm2).contains (.ref C) = true := by simp
  have suite : codeAny B.M (c.A.mark (some (.ref e))) (.handlers (.ref e) [.ExceptHandler none (some n) (b₀ :: b) pos] c.env) (fun r s₂ => match r with
          | .ok f => wpAny B.M c.A (do bindName c.env n .none; unbindBehindTheSuite c.env n pos) (fun _ s₃ => PF B c σ s Q f s₃) (PX B c σ s X) s₂
          | .error x => cameBackBy B.M c.A c.env (PX B c σ s X) x s₂) s := by
    refine codeAny_handlers_suite_as (setFlight_T S (fr := none) F fun s₁ S₁ E₁ F₁ => ?_)
    refine storeName_T S₁ hp rfl fun s₂ S₂ E₂ => ?_
    refine wpAny_mono (h s₂ (S₂.in e)) (fun f s₃ ⟨af, ρ₃, σ₃, S₃, E₃, r₃, hn, q₃⟩ => ?_) fun _ _ h => (no_PX h).elim
    have S₃' := S₃.out
    refine box fun G9 k9 => ?_
    obtain ⟨m, hm, hr⟩ := S₃'.locals
    refine k9 ?_; clear k9 G9
    have hkn : c.env.kindOf n = some .local := S.kinds n hp.isIn
    refine wpAny_nameGoes_keeps hkn hm (kind_not S.ok.kind) fun h' v hn' hs' => ?_
    have X1 : Ext c.env.locals σ₃ s₃.heap σ₃ h' := Ext.of_keep (fun b o e _ n => (hs'.2 b n).trans e) fun _ _ _ q => q
    have hnames : (ρ₃.filterMap fun p => if p.1 = n then some (p.1, none) else some p).map (·.1) = ρ₃.map (·.1) := by
      rw [List.map_filterMap]
      have : (fun p : Str × Option AV => Option.map (·.1) (if p.1 = n then some (p.1, none) else some p)) = fun p => some p.1 := by funext p; split <;> rfl
      rw [this]
      induction ρ₃ with
      | nil => rfl
      | cons a l ih => simp
    refine ⟨af, _, σ₃, S₃'.move (s' := { s₃ with heap := h', toks := s₃.toks + 1 }) ⟨_, hn', fun y av hy => ?_⟩ hnames X1 (fun b o e _ n => (hs'.2 b n).trans e) S₃'.loc (fun a ao q => ?_), ((E₁.trans E₂).trans E₃).trans X1, r₃.ext S₃'.ns X1, q₃⟩
    · obtain ⟨p, hp1, hp2⟩ := List.mem_filterMap.mp hy
      by_cases hpn : p.1 = n
      · rw [if_pos hpn] at hp2; cases hp2
      · rw [if_neg hpn] at hp2
        obtain rfl := Option.some.inj hp2
        refine box fun G9 k9 => ?_
        obtain ⟨u, hu, ru⟩ := hr y av hp1
        refine k9 ?_; clear k9 G9
        exact ⟨u, by simp only [show y ≠ n from hpn, if_false]; exact hu, ru.ext S₃'.ns X1⟩
    · obtain ⟨h0, ⟨o, e'⟩, r⟩ := S₃'.objs a ao q
      exact ⟨h0, ⟨o, (hs'.2 a (S₃'.neL q)).trans e'⟩, r.ext S₃'.ns X1 (fun b o bo e' q' _ => (hs'.2 b (S₃'.neL q')).trans e') (fun _ _ q _ => q) q⟩
  refine box fun G9 k9 => ?_
  obtain ⟨hp', g, d, tk, os⟩ := s
  refine k9 ?_; clear k9 G9
  refine x_matches XL' hC' hC' hx rfl ?_
  rw [hc]
  exact suite
end
end
/-! W27 -/
section
open PySem PySem.W PyProof.Rows PySem.Calls PySem.Spec PySem.SeqAt
variable {B : Bs} {c : Cx} {ρ : Loc} {σ : AH} {s : Shared}
section
variable {Q : AV → AH → Prop} {X : XT} {names : List Str} {C fI : Addr}
theorem W_AttrX (H : XCls B C fI names) {o : Expr} {n : Str} {pos : Pos} (hn : n ∈ names) (h : WE B c o ρ σ (fun a σ₁ => ∃ x D es av, a = .ref x ∧ σ₁ x = some (.exc C D es) ∧ AAt es n av ∧ avOk av = true ∧ Q av σ₁) X)
    (he : eval (.Attribute o n pos) c.env = (do
        let o' ← eval o c.env
        standAt pos.atName
        let r ← holding [o'] (getAttr o' n true)
        letTemporaryGo o o' r
        pure r) := by with_unfolding_all rfl) : WE B c (.Attribute o n pos) ρ σ Q X := fun s S =>
  Attribute_any_ (wpAny_mono (h s S) (fun v s₁ ⟨a, σ₁, S₁, E₁, r₁, x, D, es, av, e1, e2, e4, e5, q⟩ => by
    subst e1
    cases r₁
    exact xget S₁ e2 H.ok hn e4 e5 fun v rv => ⟨av, σ₁, S₁.toks _, E₁, rv, q⟩) fun _ _ h => h) he
end

theorem len0 {vs : List Value} {n : Nat} (h : vs.length = n) (hn : n = 0) : vs = [] := by cases vs; rfl; simp at h; lia
theorem len1 {vs : List Value} {n : Nat} (h : vs.length = n) (hn : n = 1) : ∃ x, vs = [x] := by
  cases vs with
  | nil => simp at h; lia
  | cons x r => exact ⟨x, by rw [len0 (n := r.length) rfl (by simp at h; lia)]⟩
theorem len2 {vs : List Value} {n : Nat} (h : vs.length = n) (hn : n = 2) : ∃ x y, vs = [x, y] := by
  cases vs with
  | nil => simp at h; lia
  | cons x r => obtain ⟨y, e⟩ := len1 (n := r.length) rfl (by simp at h; lia); exact ⟨x, y, by rw [e]⟩
theorem len3 {vs : List Value} {n : Nat} (h : vs.length = n) (hn : n = 3) : ∃ x y z, vs = [x, y, z] := by
  cases vs with
  | nil => simp at h; lia
  | cons x r => obtain ⟨y, z, e⟩ := len2 (n := r.length) rfl (by simp at h; lia); exact ⟨x, y, z, by rw [e]⟩
theorem len4 {vs : List Value} {n : Nat} (h : vs.length = n) (hn : n = 4) : ∃ x y z u, vs = [x, y, z, u] := by
  cases vs with
  | nil => simp at h; lia
  | cons x r => obtain ⟨y, z, u, e⟩ := len3 (n := r.length) rfl (by simp at h; lia); exact ⟨x, y, z, u, by rw [e]⟩
theorem len5 {vs : List Value} {n : Nat} (h : vs.length = n) (hn : n = 5) : ∃ x y z u v, vs = [x, y, z, u, v] := by
  cases vs with
  | nil => simp at h; lia
  | cons x r => obtain ⟨y, z, u, v, e⟩ := len4 (n := r.length) rfl (by simp at h; lia); exact ⟨x, y, z, u, v, by rw [e]⟩

section
variable {Q : AV → AH → Prop} {X : XT} {a b : Int} {x y : Str}
theorem eqv_int : PyData.eqv (.int a) (.int b) = (a == b) := by simp [PyData.eqv]
theorem eqv_str : PyData.eqv (.str x) (.str y) = (x == y) := by simp [PyData.eqv]
theorem shaped_int : shaped (.int a) = true := by simp [shaped, PyData.canLay0, PyData.depth]
theorem shaped_str (h : PyData.strOk x = true) : shaped (.str x) = true := by simp [shaped, PyData.canLay0, PyData.depth, h]
theorem W2_eqI (hu : c.units + 64 < cLine) (q : Q (.data (.bool (decide (a = b)))) σ) : W2 B c (compareOp .Eq) (.data (.int a)) (.data (.int b)) ρ σ Q X :=
  W2_eq shaped_int shaped_int hu (by rw [eqv_int, show (a == b) = decide (a = b) from rfl]; exact q)
theorem W2_neI (hu : c.units + 64 < cLine) (q : Q (.data (.bool (!decide (a = b)))) σ) : W2 B c (compareOp .NotEq) (.data (.int a)) (.data (.int b)) ρ σ Q X :=
  W2_ne shaped_int shaped_int hu (by rw [eqv_int, show (a == b) = decide (a = b) from rfl]; exact q)
theorem W2_eqS (hx : PyData.strOk x = true) (hy : PyData.strOk y = true) (hu : c.units + 64 < cLine) (q : Q (.data (.bool (x == y))) σ) : W2 B c (compareOp .Eq) (.data (.str x)) (.data (.str y)) ρ σ Q X :=
  W2_eq (shaped_str hx) (shaped_str hy) hu (by rw [eqv_str]; exact q)
theorem W2_neS (hx : PyData.strOk x = true) (hy : PyData.strOk y = true) (hu : c.units + 64 < cLine) (q : Q (.data (.bool (!(x == y)))) σ) : W2 B c (compareOp .NotEq) (.data (.str x)) (.data (.str y)) ρ σ Q X :=
  W2_ne (shaped_str hx) (shaped_str hy) hu (by rw [eqv_str]; exact q)
end
end
/-! W28 -/
section
open PySem PySem.W PyProof.Rows PySem.Calls PySem.Spec PySem.SeqAt
variable {B : Bs} {c : Cx} {ρ : Loc} {σ : AH} {s : Shared}
section
variable {Q : QS} {X : XT}
theorem WS_forG {I : AH → List PyData → Loc → AH → Prop} {target iter : Expr} {body : List Stmt} {pos : Pos} {rest : List Stmt} (hf : c.Fun) (hh : c.hd = none) (hI : ∀ σ₀ it ds ρ σ σ', σ₀ it = none → I σ₀ ds ρ σ → (∀ b, b ≠ it → σ' b = σ b) → I σ₀ ds ρ σ')
    (h : WE B c iter ρ σ (fun a σ₁ => ∃ ds, Itb B c a ds σ₁ ∧ I σ₁ ds ρ σ₁) X)
    (step : ∀ σ₀ d ds ρ₁ σ₁, I σ₀ (d :: ds) ρ₁ σ₁ → WU B c (assign target c.env) (.data d) ρ₁ σ₁ (fun ρ₂ σ₂ => Raws σ₁ σ₂ ∧ WS B c body ρ₂ σ₂ (loopQ (fun ρ' σ' => Raws σ₂ σ' ∧ I σ₀ ds ρ' σ') Q) X) X)
    (hend : ∀ σ₀ ρ₁ σ₁, I σ₀ [] ρ₁ σ₁ → WS B c rest ρ₁ σ₁ Q X)
    (hs : ∀ x, foldedSetIterable iter c.env x = pure x := by intro _; rfl) : WS B c (.For target iter body [] pos :: rest) ρ σ Q X := fun s S => by
  refine wpAny_execs_cons (wpAny_For (wpAny_mono (h s S) (fun v s₁ ⟨a, σ₁, S₁, E₁, r₁, ds, hit, hI0⟩ => ?_) fun _ _ h => h) hs)
  refine hit ρ v s₁ _ _ S₁ r₁ fun it o s₂ S₂ E₂ hnew hat => ?_
  refine codeAny_forLoop_any (fun n s' => ∃ ds ρ' σ' o', n = ds.length ∧ St B c ρ' σ' s' ∧ Ext c.env.locals σ s.heap σ' s'.heap ∧ σ' it = some (.raw o') ∧ IterAt σ' s'.heap it ds ∧ I σ₁ ds ρ' σ') ?_ ds.length
    ⟨ds, ρ, _, o, rfl, S₂, E₁.trans E₂, upd_same _ _ _, hat, hI _ _ _ _ _ _ hnew hI0 fun b hb => upd_ne hb⟩
  rintro n s₃ ⟨ds, ρ₃, σ₃, o₃, rfl, S₃, E₃, q₃, at₃, I₃⟩
  have hX : ∀ {σ₁ : AH} {s₁ : Shared} {e : Value} {s' : Shared}, Ext c.env.locals σ s.heap σ₁ s₁.heap → PX B c σ₁ s₁ X e s' →
      notedBy B.M c.A c.env (fun e s'' => cameBackBy B.M c.A c.env (PX B c σ s X) e s'') e s' := fun E h => own_X hf (h.weaken E)
  cases ds with
  | nil =>
    refine end_T S₃ hh q₃ at₃ fun s₄ S₄ E₄ => wpAny_execs_nil ?_
    exact WS.run (hend _ _ _ (hI _ _ _ _ _ _ hnew I₃ fun b hb => del_ne hb)) S₄ (E₃.trans E₄)
  | cons d ds =>
    refine next_T S₃ q₃ at₃ fun v' o' s₄ S₄ E₄ r₄ at₄ => letGo_T at₄ ?_
    refine wpAny_mono (step σ₁ d ds ρ₃ _ (hI _ _ _ _ _ _ hnew I₃ fun b hb => upd_ne hb) v' s₄ S₄ r₄) (fun _ s₅ ⟨ρ₅, σ₅, S₅, E₅, raw₅, q₅⟩ => ?_) fun _ _ h => hX (E₃.trans E₄) h
    refine wpAny_mono (q₅ s₅ S₅) (fun f s₆ ⟨af, ρ₆, σ₆, S₆, E₆, r₆, q₆⟩ => ?_) fun _ _ h => hX ((E₃.trans E₄).trans E₅) h
    have e5 := raw₅ it o' (upd_same _ _ _)
    have g4 : s₄.heap.get? it = some o' := (S₄.objs it _ (upd_same _ _ _)).2.2
    have g5 : s₅.heap.get? it = some o' := (S₅.objs it _ e5).2.2
    have goOn : Raws σ₅ σ₆ ∧ I σ₁ ds ρ₆ σ₆ → ∃ m, m < (d :: ds).length ∧ ∃ ds ρ' σ' o', m = ds.length ∧ St B c ρ' σ' s₆ ∧ Ext c.env.locals σ s.heap σ' s₆.heap ∧ σ' it = some (.raw o') ∧ IterAt σ' s₆.heap it ds ∧ I σ₁ ds ρ' σ' := fun ⟨raw₆, I₆⟩ => by
      have e6 := raw₆ it o' e5
      have g6 : s₆.heap.get? it = some o' := (S₆.objs it _ e6).2.2
      exact ⟨ds.length, Nat.lt_succ_self _, ds, ρ₆, σ₆, o', rfl, S₆, ((E₃.trans E₄).trans E₅).trans E₆, e6, at₄.ext S₄.ns (E₅.trans E₆) fun o e => by rw [g4] at e; cases e; exact g6, I₆⟩
    cases f <;> cases af <;> first | exact r₆.elim | skip
    · exact goOn q₆
    · exact q₆.elim
    · exact goOn q₆
    · exact ⟨_, ρ₆, σ₆, S₆, ((E₃.trans E₄).trans E₅).trans E₆, r₆, q₆⟩

end
section
variable {Q : AV → AH → Prop} {X : XT}
theorem comp_core {use : Option (Value → Sem Unit)} {Qv : Value → Shared → Prop} (S : St B c ρ σ s) {I : AH → List PyData → List PyData → AH → Prop} {elt iter : Expr} {x : Str} {px pos : Pos} {ifs : List Expr} {scope : Scope} {cl : List (Str × Addr)} (hh : c.hd = none) (hclos : closureFor scope c.env = pure cl)
    (hI : ∀ σ₀ it ds acc σ σ', σ₀ it = none → I σ₀ ds acc σ → (∀ b, b ≠ it → σ' b = σ b) → I σ₀ ds acc σ') (hsz : ∀ σ₀ ds acc σ, I σ₀ ds acc σ → acc.length ≤ sizeLine)
    (h : WE B c iter ρ σ (fun a σ₁ => ∃ ds, Itb B c a ds σ₁ ∧ I σ₁ ds [] σ₁) X)
    (step : ∀ σ₀ C d ds acc σ₁, I σ₀ (d :: ds) acc σ₁ → WIfs B (c.comp scope cl C) ifs [(x, some (.data d))] σ₁ (fun ok σ₂ => Raws σ₁ σ₂ ∧ if ok = true then WE B (c.comp scope cl C) elt [(x, some (.data d))] σ₂ (fun a σ₃ => ∃ y, a = .data y ∧ Raws σ₂ σ₃ ∧ I σ₀ ds (acc ++ [y]) σ₃) noX else I σ₀ ds acc σ₂))
    (hfin : ∀ σ₀ acc σ' s₄ D C, I σ₀ [] acc σ' → (∃ m, s₄.heap.Ns C m) → σ' C = none → B.H0.get? C = none → C ≠ c.env.locals → (∀ e ∈ c.frames, ∀ L, e.frame = some L → L ≠ C) → (∀ o, s.heap.get? C = some o → σ C ≠ none) →
      (∀ h', Heap.SameBut C s₄.heap h' → St B c ρ σ' { s₄ with heap := h' } ∧ Ext c.env.locals σ s.heap σ' h' ∧ VRel σ' h' (.ref D) (.data (.list acc))) → ∀ r, compPost B.M c.A (PX B c σ s X) use Qv (.ref D) C (.ok r) s₄)
    (hcell : ∀ y ∈ scope.names, y.2 ≠ .cell) (hnames : ∀ y ∈ scope.names, y.2 = .local → scope.names.lookup y.1 = some .local) (hx : scope.names.lookup x = some .local) (hkind : scope.kind = .function := by rfl)
    (hs : ∀ x, foldedSetIterable iter c.env x = pure x := by intro _; rfl) :
    wpAny B.M c.A (comprehension (.ListComp elt [⟨.Name x px, iter, ifs, 0⟩] scope pos) scope c.env (firstIterPos [⟨.Name x px, iter, ifs, 0⟩] pos) (newList []) (firstAsync [⟨.Name x px, iter, ifs, 0⟩]) (firstIter [⟨.Name x px, iter, ifs, 0⟩] c.env) use) Qv (PX B c σ s X) s := by
  refine wpAny_comprehension_free (use := use) rfl hs hclos hkind hnames (wpAny_mono (h s S) (fun v s₁ ⟨a, σ₁, S₁, E₁, r₁, ds, hit, hI0⟩ => ?_) fun _ _ h => h)
  refine hit ρ v s₁ _ _ S₁ r₁ fun it o s₂ S₂ E₂ hnew hat => ?_
  have E12 := E₁.trans E₂
  refine wpAny_newObj_type (wpAny_newFunctionEnv hcell (by intro y hy; simp at hy) (fun h₁ hns₁ hsb₁ => ?_) hkind) (by size_fits)
  dsimp only at hns₁ hsb₁ ⊢
  -- the list
  obtain ⟨Sd, Ed⟩ := S₂.growT (tk := s₂.toks) (a := s₂.heap.objs.size) (ao := .raw _) (push_keep { cls := .type "list", dict := none, data := .seq ([] : List Value).toArray }) fresh_none (S₂.H0fresh fresh_none) ⟨_, Heap.get?_push_size _ rfl⟩ fun E => Heap.get?_push_size _ rfl
  have hD0 := S₂.fresh
  have hDg : (s₂.heap.push { cls := .type "list", dict := none, data := .seq ([] : List Value).toArray }).get? s₂.heap.objs.size = some (listOf #[] 0) := Heap.get?_push_size _ rfl
  generalize hD : s₂.heap.objs.size = D at *
  generalize hH2 : s₂.heap.push { cls := .type "list", dict := none, data := .seq ([] : List Value).toArray } = H2 at *
  generalize hC : H2.objs.size = C at *
  have hCnew : H2.get? C = none := by rw [← hC]; exact fresh_none
  have hk1 : ∀ b o, H2.get? b = some o → h₁.get? b = some o := fun b o e => (hsb₁.2 b (by rintro rfl; rw [hCnew] at e; cases e)).trans (push_keep _ _ _ e)
  have hDC : D ≠ C := by rintro rfl; rw [hCnew] at hDg; cases hDg
  generalize hσd : upd (upd σ₁ it (AO.raw o)) D (AO.raw (listOf #[] 0)) = σd at *
  have hkc : Env.kindOf (compEnvC scope cl C c.env) x = some .local := lookup_relabel_local hx
  have hC0 : σd C = none := Sd.unt hCnew
  have S4 : St B (c.comp scope cl C) [(x, none)] σd { s₂ with heap := h₁, toks := s₂.toks + ([] : List (Str × Value)).length } := by
    have X1 : ∀ L, Ext L σd H2 σd h₁ := fun L => Ext.of_keep (fun b o e _ _ => hk1 b o e) fun _ _ _ q => q
    have hLs : B.H0.objs.size ≤ C := by
      refine box fun G9 k9 => ?_
      obtain ⟨m, ⟨o, _, _, e, _⟩, _⟩ := Sd.locals
      refine k9 ?_; clear k9 G9
      rw [← hC]
      exact Nat.le_trans Sd.above (Nat.le_of_lt (Heap.lt_size e))
    refine ⟨⟨S.ok.b, hkind, S.ok.globals, S.ok.builtins⟩, ⟨_, hns₁, fun y av hy => ?_⟩, by simp, fun y hy => ?_, fun b o e => hk1 b o (Sd.keep b o e), hLs, hC0, Sd.free, Sd.funs.of_keeps fun b o e _ => ⟨o, hk1 b o e, rfl⟩, fun a ao q => ?_, Sd.gens, Sd.drawn, Sd.os⟩
    · simp at hy
    · simp only [List.map_cons, List.map_nil, List.mem_singleton] at hy
      subst hy; exact hkc
    · obtain ⟨h0, ⟨o, e⟩, r⟩ := Sd.objs a ao q
      exact ⟨h0, ⟨o, hk1 a o e⟩, r.ext Sd.ns (X1 _) (fun b o bo e _ _ => hk1 b o e) (fun _ _ q _ => q) q⟩
  have E4 : Ext C σd H2 σd h₁ := Ext.of_keep (fun b o e _ _ => hk1 b o e) fun _ _ _ q => q
  have hDg1 : h₁.get? D = some (listOf #[] 0) := hk1 _ _ hDg
  have atd : IterAt σd h₁ it ds := by
    have hi2 := (S₂.objs it _ (upd_same _ _ _)).2.2
    have hi3 : H2.get? it = some o := by rw [← hH2]; exact push_keep _ _ _ hi2
    have := hat.ext S₂.ns Ed fun o' e => by rw [hi2] at e; cases e; exact hi3
    exact this.ext Sd.ns (Ext.of_keep (fun b o e _ _ => hk1 b o e) fun _ _ _ q => q) fun o' e => hk1 _ _ e
  have hD1 : σ₁ D = none := (upd_none hD0).1
  have hitD : it ≠ D := by
    rintro rfl
    rw [upd_same] at hD0; cases hD0
  have qit : σd it = some (.raw o) := by rw [← hσd, upd_ne hitD, upd_same]
  have qD : σd D = some (.raw (listOf #[] 0)) := by rw [← hσd, upd_same]
  have loop : ∀ s₃ : Shared, s₃ = { s₂ with heap := h₁, toks := s₂.toks + ([] : List (Str × Value)).length } →
      codeAny B.M c.A (.compLoop (.ListComp elt [⟨.Name x px, iter, ifs, 0⟩] scope pos) 0 (.ref it) (.ref D) (compEnvC scope cl C c.env)) (compPost B.M c.A (PX B c σ s X) use Qv (.ref D) C) s₃ := by
    rintro s₃ rfl
    refine codeAny_compLoop_tests (fun n s' => ∃ ds acc w' σ' o' vs k, n = ds.length ∧ St B (c.comp scope cl C) [(x, w')] σ' s' ∧ Ext C σd H2 σ' s'.heap ∧ σ' it = some (.raw o') ∧ IterAt σ' s'.heap it ds ∧ σ' D = some (.raw (listOf vs k)) ∧ VRelL σ' s'.heap vs.toList (acc.map .data) ∧ I σ₁ ds acc σ')
      ?_ ds.length ⟨ds, [], none, σd, o, #[], 0, rfl, S4, E4, qit, atd, qD, .nil, hI _ _ _ _ _ _ hD1 (hI _ _ _ _ _ _ hnew hI0 fun b hb => upd_ne hb) fun b hb => by rw [← hσd]; exact upd_ne hb⟩
    rintro n s₃ ⟨ds, acc, w', σ₃, o₃, vs, k, rfl, S₃, E₃, q₃, at₃, qD₃, rl₃, I₃⟩
    cases ds with
    | nil =>
      refine end_T S₃ hh q₃ at₃ fun s₄ S₄ E₄ => ?_
      refine box fun G9 k9 => ?_
      obtain ⟨m, hm, _⟩ := S₄.locals
      refine k9 ?_; clear k9 G9
      have hitD' : D ≠ it := hitD.symm
      have qD4 : del σ₃ it D = some (.raw (listOf vs k)) := by rw [del_ne hitD']; exact qD₃
      have hCl : C ≠ c.env.locals := by
        rintro rfl
        refine box fun G9 k9 => ?_
        obtain ⟨m, ⟨o, _, _, e, _⟩, _⟩ := Sd.locals
        refine k9 ?_; clear k9 G9
        rw [hCnew] at e; cases e
      refine hfin _ acc (del (del σ₃ it) D) s₄ D C (hI _ _ _ _ _ _ hD1 (hI _ _ _ _ _ _ hnew I₃ fun b hb => del_ne hb) fun b hb => del_ne hb) ⟨m, hm⟩ (del_none S₄.loc) (Sd.H0fresh hCnew) hCl (fun e he L hL => ?_) (fun o e q => ?_) (fun h' hs' => ?_) _
      · rintro rfl
        refine box fun G9 k9 => ?_
        obtain ⟨_, o, h, _⟩ := Sd.funs.mem (b := L) (List.mem_filterMap.mpr ⟨e, he, hL⟩)
        refine k9 ?_; clear k9 G9
        rw [hCnew] at h; cases h
      · obtain ⟨_, o', e', _⟩ := (E12.trans Ed) C o e q hCl
        rw [hCnew] at e'; cases e'
      · obtain ⟨S₅, E₅⟩ := Sd.backJ (h' := h') hCnew S₄ (E₃.trans E₄) hs'
        obtain ⟨S₆, E₆⟩ := S₅.delRaw (tk := s₄.toks) (h' := h') qD4 fun b o _ e => e
        have gD : h'.get? D = some (listOf vs k) := (S₅.objs D _ qD4).2.2
        have Ef : Ext c.env.locals σ s.heap (del (del σ₃ it) D) h' := ((E12.trans Ed).trans E₅).trans E₆
        refine ⟨S₆, Ef, ?_⟩
        show DRel _ _ _ _
        unfold DRel
        refine ⟨D, _, vs, k, rfl, del_same, gD, rfl, rfl, drelL_of ?_⟩
        have X1 : Ext C (del σ₃ it) s₄.heap (del (del σ₃ it) D) h' := Ext.of_keep (fun b o e _ n => (hs'.2 b n).trans e) fun _ _ _ q => del_none q
        exact (rl₃.ext S₃.ns E₄).ext S₄.ns X1
    | cons d ds =>
      refine next_T S₃ q₃ at₃ fun v' o' s₄ S₄ E₄ r₄ at₄ => ?_
      refine wpAny_assign_Name (storeName_T S₄ (ρ' := [(x, some (.data d))]) .here r₄ fun s₅ S₅ E₅ => ?_)
      have q4 : upd σ₃ it (.raw o') it = some (.raw o') := upd_same _ _ _
      have qD4 : upd σ₃ it (.raw o') D = some (.raw (listOf vs k)) := by rw [upd_ne hitD.symm]; exact qD₃
      have rl4 := (rl₃.ext S₃.ns E₄).ext S₄.ns E₅
      have g4 : s₄.heap.get? it = some o' := (S₄.objs it _ q4).2.2
      have carry : ∀ {σ₆ : AH} {s₆ : Shared}, St B (c.comp scope cl C) [(x, some (.data d))] σ₆ s₆ → Ext C (upd σ₃ it (.raw o')) s₅.heap σ₆ s₆.heap → Raws (upd σ₃ it (.raw o')) σ₆ →
          σ₆ it = some (.raw o') ∧ IterAt σ₆ s₆.heap it ds ∧ σ₆ D = some (.raw (listOf vs k)) ∧ VRelL σ₆ s₆.heap vs.toList (acc.map .data) := fun S₆ E₆ raw => by
        have e6 := raw it o' q4
        have g6 := (S₆.objs it _ e6).2.2
        exact ⟨e6, at₄.ext S₄.ns (E₅.trans E₆) fun o e => by rw [g4] at e; cases e; exact g6, raw D _ qD4, rl4.ext S₅.ns E₆⟩
      refine wpAny_mono (step σ₁ C d ds acc _ (hI _ _ _ _ _ _ hnew I₃ fun b hb => upd_ne hb) s₅ _ S₅) (fun ok s₆ ⟨ok', σ₆, S₆, E₆, r₆, raw₆, q₆⟩ => ?_) fun _ _ h => h
      cases r₆
      cases ok with
      | false =>
        rw [if_neg Bool.false_ne_true]
        rw [if_neg Bool.false_ne_true] at q₆
        refine box fun G9 k9 => ?_
        obtain ⟨a1, a2, a3, a4⟩ := carry S₆ E₆ raw₆
        refine k9 ?_; clear k9 G9
        exact ⟨ds.length, Nat.lt_succ_self _, ds, acc, _, σ₆, o', vs, k, rfl, S₆, ((E₃.trans E₄).trans E₅).trans E₆, a1, a2, a3, a4, q₆⟩
      | true =>
        rw [if_pos rfl]
        rw [if_pos rfl] at q₆
        refine wpAny_mono (q₆ s₆ S₆) (fun y s₇ ⟨ya, σ₇, S₇, E₇, r₇, yd, ey, raw₇, I₇⟩ => ?_) fun _ _ h => (no_PX h).elim
        subst ey
        refine box fun G9 k9 => ?_
        obtain ⟨a1, a2, a3, a4⟩ := carry S₇ (E₆.trans E₇) fun b o e => raw₇ b o (raw₆ b o e)
        refine k9 ?_; clear k9 G9
        have gD := (S₇.objs D _ a3).2.2
        have hz := hsz _ _ _ _ I₇
        rw [List.length_append] at hz
        have hl := a4.length
        rw [List.length_map, Array.length_toList] at hl
        refine append_at gD (fun h' hs ho' => ?_) (by simp only [List.length_cons, List.length_nil] at hz; omega)
        obtain ⟨S₈, E₈⟩ := S₇.set (tk := s₇.toks) (ao' := .raw (listOf (vs.push y) (k + 1))) a3 rfl hs ⟨_, ho'⟩ fun X => ho'
        refine ⟨ds.length, Nat.lt_succ_self _, ds, acc ++ [yd], _, _, o', vs.push y, k + 1, rfl, S₈, ((((E₃.trans E₄).trans E₅).trans E₆).trans E₇).trans E₈, by rw [upd_ne hitD]; exact a1, ?_, upd_same _ _ _, ?_, ?_⟩
        · exact a2.ext S₇.ns E₈ fun o e => (hs.2 it hitD).trans e
        · rw [push_toList, List.map_append]
          exact (a4.ext S₇.ns E₈).append (.cons (r₇.ext S₇.ns E₈) .nil)
        · exact hI _ _ _ _ _ _ hD1 I₇ fun b hb => upd_ne hb
  exact codeAny_compStart_list (loop _ rfl) (by
    have gi : h₁.get? it = some o := by
      have hi2 := (S₂.objs it _ (upd_same _ _ _)).2.2
      exact hk1 _ _ (by rw [← hH2]; exact push_keep _ _ _ hi2)
    have self : ∀ (s₃ : Shared) (E : Value → Shared → Prop) (Q : Value → Shared → Prop), s₃.heap = h₁ → Q (.ref it) s₃ → wpAny B.M c.A (pyIter (.ref it)) Q E s₃ := fun s₃ E Q e q => by
      cases atd with
      | list a1 => exact wpAny_pyIter_listiter (e ▸ a1) q
      | str a1 => exact wpAny_pyIter_striter_ascii (e ▸ a1) q
      | range a1 => exact wpAny_pyIter_rangeiter (e ▸ a1) q
    exact self _ _ _ rfl (loop _ rfl))
theorem W_ListCompG {I : AH → List PyData → List PyData → AH → Prop} {elt iter : Expr} {x : Str} {px pos : Pos} {ifs : List Expr} {scope : Scope} {cl : List (Str × Addr)} (hh : c.hd = none) (hclos : closureFor scope c.env = pure cl)
    (hI : ∀ σ₀ it ds acc σ σ', σ₀ it = none → I σ₀ ds acc σ → (∀ b, b ≠ it → σ' b = σ b) → I σ₀ ds acc σ') (hsz : ∀ σ₀ ds acc σ, I σ₀ ds acc σ → acc.length ≤ sizeLine)
    (h : WE B c iter ρ σ (fun a σ₁ => ∃ ds, Itb B c a ds σ₁ ∧ I σ₁ ds [] σ₁) X)
    (step : ∀ σ₀ C d ds acc σ₁, I σ₀ (d :: ds) acc σ₁ → WIfs B (c.comp scope cl C) ifs [(x, some (.data d))] σ₁ (fun ok σ₂ => Raws σ₁ σ₂ ∧ if ok = true then WE B (c.comp scope cl C) elt [(x, some (.data d))] σ₂ (fun a σ₃ => ∃ y, a = .data y ∧ Raws σ₂ σ₃ ∧ I σ₀ ds (acc ++ [y]) σ₃) noX else I σ₀ ds acc σ₂))
    (hend : ∀ σ₀ acc σ₁, I σ₀ [] acc σ₁ → Q (.data (.list acc)) σ₁)
    (hcell : ∀ y ∈ scope.names, y.2 ≠ .cell) (hnames : ∀ y ∈ scope.names, y.2 = .local → scope.names.lookup y.1 = some .local) (hx : scope.names.lookup x = some .local) (hkind : scope.kind = .function := by rfl)
    (hs : ∀ x, foldedSetIterable iter c.env x = pure x := by intro _; rfl) : WE B c (.ListComp elt [⟨.Name x px, iter, ifs, 0⟩] scope pos) ρ σ Q X := fun s S => by
  rw [eval_ListComp]
  refine comp_core (use := none) S hh hclos hI hsz h step (fun σ₀ acc σ' s₄ D C I₀ hN _ _ _ _ _ hback r => ?_) hcell hnames hx hkind hs
  obtain ⟨m, hm⟩ := hN
  refine ⟨m, hm, fun h' hs' => ?_⟩
  refine box fun G9 k9 => ?_
  obtain ⟨S', E', r'⟩ := hback h' hs'
  refine k9 ?_; clear k9 G9
  exact ⟨_, σ', S', E', r', hend _ _ _ I₀⟩
end

/-- a list of data that stays as it is: told as data from here on -/
theorem St.drop (S : St B c ρ σ s) {a : Addr} {ao : AO} (hσ : σ a = some ao) (hs : ao.simple = true) : St B c ρ (del σ a) s ∧ Ext c.env.locals σ s.heap (del σ a) s.heap := by
  have X : Ext c.env.locals σ s.heap (del σ a) s.heap := Ext.of_keep (fun b o e z _ => e) fun b o e z => del_none z
  refine ⟨S.move (s' := s) ?_ rfl X (fun b o e z _ => e) (del_none S.loc) (fun b bo qb => ?_), X⟩
  · obtain ⟨m, hm, hr⟩ := S.locals
    exact ⟨m, hm, fun x av hx => let ⟨v, h1, h2⟩ := hr x av hx; ⟨v, h1, h2.ext S.ns X⟩⟩
  · by_cases hb : b = a
    · subst hb
      rw [del_same] at qb; cases qb
    · rw [del_ne hb] at qb
      refine box fun G9 k9 => ?_
      obtain ⟨h0, ⟨o₂, e⟩, r⟩ := S.objs b bo qb
      refine k9 ?_; clear k9 G9
      refine ⟨h0, ⟨o₂, e⟩, r.ext S.ns X (fun d o bo e q' z => e) (fun d bo q' z => ?_) qb⟩
      rw [del_ne]; exact q'
      rintro rfl
      rw [hσ] at q'; cases q'; rw [hs] at z; cases z
/-- an answer that is a list of data -/
theorem WE_drop {e : Expr} {Q : AV → AH → Prop} {X : XT} (h : WE B c e ρ σ (fun r σ₁ => ∃ a ds, r = .ref a ∧ σ₁ a = some (.list (ds.map .data)) ∧ Q (.data (.list ds)) (del σ₁ a)) X) : WE B c e ρ σ Q X := fun s S =>
  wpAny_mono (h s S) (fun v s₁ ⟨r, σ₁, S₁, E₁, rr, a, ds, e1, e2, q⟩ => by
    subst e1
    refine box fun G9 k9 => ?_
    obtain ⟨S₂, E₂⟩ := S₁.drop e2 rfl
    obtain ⟨vs, n, ho, hr⟩ := (S₁.objs a _ e2).2.2
    refine k9 ?_; clear k9 G9
    refine ⟨.data (.list ds), _, S₂, E₁.trans E₂, ?_, q⟩
    cases rr
    show DRel _ _ _ _
    unfold DRel
    exact ⟨a, _, vs, n, rfl, del_same, ho, rfl, rfl, drelL_of (hr.ext S₁.ns E₂)⟩) fun _ _ h => h
end
end Mine
end
section
open PySem PySem.W PyProof.Rows PySem.Calls PySem.Spec PySem.SeqAt
set_option maxRecDepth 100000
set_option maxHeartbeats 4000000
namespace Mine
/-! P1 -/
section
variable {B : Bs} {c : Cx} {ρ : Loc} {σ : AH} {s : Shared}
theorem GAt.get {l : List (Str × AV)} {x : Str} {v : AV} (n : Nat) (h : l[n]? = some (x, v)) : GAt l x v := by
  induction l generalizing n with
  | nil => simp at h
  | cons p l ih =>
    cases n with
    | zero => simp at h; subst h; exact .here
    | succ n => exact .there (ih n (by simpa using h))
theorem gF77ErrorX (L : BL B) : GAt B.gt (PySem.Str.ofString "F77Error") (.val (.ref 31)) := by rw [L.gt]; exact .get 1 rfl
theorem gFormatFaultX (L : BL B) : GAt B.gt (PySem.Str.ofString "FormatFault") (.val (.ref 51)) := by rw [L.gt]; exact .get 2 rfl
theorem gIoFaultX (L : BL B) : GAt B.gt (PySem.Str.ofString "IoFault") (.val (.ref 70)) := by rw [L.gt]; exact .get 3 rfl
theorem gExceptionX (L : BL B) : GAt B.gt (PySem.Str.ofString "Exception") (.val (.type "Exception")) := by rw [L.gt]; exact .get 38 rfl
theorem glenX (L : BL B) : GAt B.gt (PySem.Str.ofString "len") (.val (.builtin "len")) := by rw [L.gt]; exact .get 39 rfl
/-- the globals, one clause each: `constructor` finds the name -/
inductive GlX (B : Bs) : Str → AV → Prop
  | a0 (L : BL B) : GlX B (PySem.Str.ofString "_law_tell") (.val (.ref 332))
  | a1 (L : BL B) : GlX B (PySem.Str.ofString "len") (.val (.builtin "len"))
  | a2 (L : BL B) : GlX B (PySem.Str.ofString "range") (.val (.type "range"))
  | a3 (L : BL B) : GlX B (PySem.Str.ofString "_law_fell") (.val (.ref 339))
  | a4 (L : BL B) : GlX B (PySem.Str.ofString "DATA_WORDS") (.data dataWords)
  | a5 (L : BL B) : GlX B (PySem.Str.ofString "_law_far") (.val (.ref 325))
  | a6 (L : BL B) : GlX B (PySem.Str.ofString "isinstance") (.val (.builtin "isinstance"))
  | a7 (L : BL B) : GlX B (PySem.Str.ofString "max") (.val (.builtin "max"))
  | a8 (L : BL B) : GlX B (PySem.Str.ofString "_law_most") (.data (.int 100000))
  | a9 (L : BL B) : GlX B (PySem.Str.ofString "F77Error") (.val (.ref 31))
  | a10 (L : BL B) : GlX B (PySem.Str.ofString "FormatFault") (.val (.ref 51))
  | a11 (L : BL B) : GlX B (PySem.Str.ofString "IoFault") (.val (.ref 70))
  | a12 (L : BL B) : GlX B (PySem.Str.ofString "units_of") (.val (.ref 79))
  | a13 (L : BL B) : GlX B (PySem.Str.ofString "add_flat") (.val (.ref 87))
  | a14 (L : BL B) : GlX B (PySem.Str.ofString "flat_of") (.val (.ref 94))
  | a15 (L : BL B) : GlX B (PySem.Str.ofString "FormatControl") (.val (.ref 132))
  | a16 (L : BL B) : GlX B (PySem.Str.ofString "FormatModes") (.val (.ref 160))
  | a17 (L : BL B) : GlX B (PySem.Str.ofString "moved") (.val (.ref 171))
  | a18 (L : BL B) : GlX B (PySem.Str.ofString "Line") (.val (.ref 202))
  | a19 (L : BL B) : GlX B (PySem.Str.ofString "FormatWriter") (.val (.ref 244))
  | a20 (L : BL B) : GlX B (PySem.Str.ofString "File") (.val (.ref 265))
  | a21 (L : BL B) : GlX B (PySem.Str.ofString "Unit") (.val (.ref 286))
  | a22 (L : BL B) : GlX B (PySem.Str.ofString "need_access") (.val (.ref 297))
  | a23 (L : BL B) : GlX B (PySem.Str.ofString "size_of") (.val (.ref 304))
  | a24 (L : BL B) : GlX B (PySem.Str.ofString "read_direct") (.val (.ref 311))
  | a25 (L : BL B) : GlX B (PySem.Str.ofString "write_direct") (.val (.ref 318))
  | a26 (L : BL B) : GlX B (PySem.Str.ofString "_law_lines") (.val (.ref 346))
  | a27 (L : BL B) : GlX B (PySem.Str.ofString "_law_bare_line") (.val (.ref 353))
  | a28 (L : BL B) : GlX B (PySem.Str.ofString "_law_part") (.val (.ref 358))
  | a29 (L : BL B) : GlX B (PySem.Str.ofString "_law_marks") (.val (.ref 365))
  | a30 (L : BL B) : GlX B (PySem.Str.ofString "_law_next") (.val (.ref 372))
  | a31 (L : BL B) : GlX B (PySem.Str.ofString "_law_steps") (.val (.ref 377))
  | a32 (L : BL B) : GlX B (PySem.Str.ofString "_law_lists") (.val (.ref 384))
  | a33 (L : BL B) : GlX B (PySem.Str.ofString "DOUBLE") (.data (.int 2))
  | a34 (L : BL B) : GlX B (PySem.Str.ofString "COMPLEX") (.data (.int 3))
  | a35 (L : BL B) : GlX B (PySem.Str.ofString "CHARACTER") (.data (.int 5))
  | a36 (L : BL B) : GlX B (PySem.Str.ofString "MOST_IDLE") (.data (.int 100000))
  | a37 (L : BL B) : GlX B (PySem.Str.ofString "MOST_LINE") (.data (.int 100000))
  | a38 (L : BL B) : GlX B (PySem.Str.ofString "NO_RECORD") (.data (.int 18))
  | a39 (L : BL B) : GlX B (PySem.Str.ofString "TOO_LONG") (.data (.int 19))
  | a40 (L : BL B) : GlX B (PySem.Str.ofString "Exception") (.val (.type "Exception"))
  | a41 (L : BL B) : GlX B (PySem.Str.ofString "str") (.val (.type "str"))
theorem GlX.look {n : Nat} {x : Str} {v : AV} (L : BL B) (e : gtab[n]? = some (x, v)) : GAt B.gt x v := by rw [L.gt]; exact .get n e
theorem GlX.at {x : Str} {v : AV} (h : GlX B x v) : GAt B.gt x v :=
  GlX.rec (motive := fun x v _ => GAt B.gt x v) (fun L => GlX.look (n := 19) L rfl) (fun L => GlX.look (n := 39) L rfl) (fun L => GlX.look (n := 40) L rfl) (fun L => GlX.look (n := 20) L rfl) (fun L => GlX.look (n := 0) L rfl) (fun L => GlX.look (n := 18) L rfl) (fun L => GlX.look (n := 43) L rfl) (fun L => GlX.look (n := 41) L rfl) (fun L => GlX.look (n := 37) L rfl) (fun L => GlX.look (n := 1) L rfl) (fun L => GlX.look (n := 2) L rfl) (fun L => GlX.look (n := 3) L rfl) (fun L => GlX.look (n := 4) L rfl) (fun L => GlX.look (n := 5) L rfl) (fun L => GlX.look (n := 6) L rfl) (fun L => GlX.look (n := 7) L rfl) (fun L => GlX.look (n := 8) L rfl) (fun L => GlX.look (n := 9) L rfl) (fun L => GlX.look (n := 10) L rfl) (fun L => GlX.look (n := 11) L rfl) (fun L => GlX.look (n := 12) L rfl) (fun L => GlX.look (n := 13) L rfl) (fun L => GlX.look (n := 14) L rfl) (fun L => GlX.look (n := 15) L rfl) (fun L => GlX.look (n := 16) L rfl) (fun L => GlX.look (n := 17) L rfl) (fun L => GlX.look (n := 21) L rfl) (fun L => GlX.look (n := 22) L rfl) (fun L => GlX.look (n := 23) L rfl) (fun L => GlX.look (n := 24) L rfl) (fun L => GlX.look (n := 25) L rfl) (fun L => GlX.look (n := 26) L rfl) (fun L => GlX.look (n := 27) L rfl) (fun L => GlX.look (n := 29) L rfl) (fun L => GlX.look (n := 30) L rfl) (fun L => GlX.look (n := 31) L rfl) (fun L => GlX.look (n := 32) L rfl) (fun L => GlX.look (n := 33) L rfl) (fun L => GlX.look (n := 35) L rfl) (fun L => GlX.look (n := 36) L rfl) (fun L => GlX.look (n := 38) L rfl) (fun L => GlX.look (n := 42) L rfl)  h
theorem W_globalX {x : Str} {pos : Pos} {v : AV} {Q : AV → AH → Prop} {X : XT} (h : GlX B x v) (q : Q v σ) (hk : c.env.kindOf x = some .globalImplicit := by rfl) (hd : (x == ("__debug__" : Str)) = false := by decide) : WE B c (.Name x pos) ρ σ Q X := W_global h.at q hk hd

noncomputable def fdOf (P : Params) (f : Addr) : FuncData := match (hk P).lookup f with
  | some ⟨_, _, .func fd, _⟩ => fd
  | _ => default
theorem hl28 (w : World) : (K0 w).lookup 28 = some ⟨.type "function", none, .func (fdOf w.params 28), #[]⟩ := by kernel_rfl
theorem co28 (w : World) : codeIn (K0 w) (fdOf w.params 28).code (fdOf w.params 28).qualname = true := by kernel_rfl
theorem hl48 (w : World) : (K0 w).lookup 48 = some ⟨.type "function", none, .func (fdOf w.params 48), #[]⟩ := by kernel_rfl
theorem co48 (w : World) : codeIn (K0 w) (fdOf w.params 48).code (fdOf w.params 48).qualname = true := by kernel_rfl
theorem hl67 (w : World) : (K0 w).lookup 67 = some ⟨.type "function", none, .func (fdOf w.params 67), #[]⟩ := by kernel_rfl
theorem co67 (w : World) : codeIn (K0 w) (fdOf w.params 67).code (fdOf w.params 67).qualname = true := by kernel_rfl
theorem hl79 (w : World) : (K0 w).lookup 79 = some ⟨.type "function", none, .func (fdOf w.params 79), #[]⟩ := by kernel_rfl
theorem co79 (w : World) : codeIn (K0 w) (fdOf w.params 79).code (fdOf w.params 79).qualname = true := by kernel_rfl
theorem hl87 (w : World) : (K0 w).lookup 87 = some ⟨.type "function", none, .func (fdOf w.params 87), #[]⟩ := by kernel_rfl
theorem co87 (w : World) : codeIn (K0 w) (fdOf w.params 87).code (fdOf w.params 87).qualname = true := by kernel_rfl
theorem hl94 (w : World) : (K0 w).lookup 94 = some ⟨.type "function", none, .func (fdOf w.params 94), #[]⟩ := by kernel_rfl
theorem co94 (w : World) : codeIn (K0 w) (fdOf w.params 94).code (fdOf w.params 94).qualname = true := by kernel_rfl
theorem hl108 (w : World) : (K0 w).lookup 108 = some ⟨.type "function", none, .func (fdOf w.params 108), #[]⟩ := by kernel_rfl
theorem co108 (w : World) : codeIn (K0 w) (fdOf w.params 108).code (fdOf w.params 108).qualname = true := by kernel_rfl
theorem hl115 (w : World) : (K0 w).lookup 115 = some ⟨.type "function", none, .func (fdOf w.params 115), #[]⟩ := by kernel_rfl
theorem co115 (w : World) : codeIn (K0 w) (fdOf w.params 115).code (fdOf w.params 115).qualname = true := by kernel_rfl
theorem hl122 (w : World) : (K0 w).lookup 122 = some ⟨.type "function", none, .func (fdOf w.params 122), #[]⟩ := by kernel_rfl
theorem co122 (w : World) : codeIn (K0 w) (fdOf w.params 122).code (fdOf w.params 122).qualname = true := by kernel_rfl
theorem hl129 (w : World) : (K0 w).lookup 129 = some ⟨.type "function", none, .func (fdOf w.params 129), #[]⟩ := by kernel_rfl
theorem co129 (w : World) : codeIn (K0 w) (fdOf w.params 129).code (fdOf w.params 129).qualname = true := by kernel_rfl
theorem hl150 (w : World) : (K0 w).lookup 150 = some ⟨.type "function", none, .func (fdOf w.params 150), #[]⟩ := by kernel_rfl
theorem co150 (w : World) : codeIn (K0 w) (fdOf w.params 150).code (fdOf w.params 150).qualname = true := by kernel_rfl
theorem hl157 (w : World) : (K0 w).lookup 157 = some ⟨.type "function", none, .func (fdOf w.params 157), #[]⟩ := by kernel_rfl
theorem co157 (w : World) : codeIn (K0 w) (fdOf w.params 157).code (fdOf w.params 157).qualname = true := by kernel_rfl
theorem hl171 (w : World) : (K0 w).lookup 171 = some ⟨.type "function", none, .func (fdOf w.params 171), #[]⟩ := by kernel_rfl
theorem co171 (w : World) : codeIn (K0 w) (fdOf w.params 171).code (fdOf w.params 171).qualname = true := by kernel_rfl
theorem hl185 (w : World) : (K0 w).lookup 185 = some ⟨.type "function", none, .func (fdOf w.params 185), #[]⟩ := by kernel_rfl
theorem co185 (w : World) : codeIn (K0 w) (fdOf w.params 185).code (fdOf w.params 185).qualname = true := by kernel_rfl
theorem hl192 (w : World) : (K0 w).lookup 192 = some ⟨.type "function", none, .func (fdOf w.params 192), #[]⟩ := by kernel_rfl
theorem co192 (w : World) : codeIn (K0 w) (fdOf w.params 192).code (fdOf w.params 192).qualname = true := by kernel_rfl
theorem hl199 (w : World) : (K0 w).lookup 199 = some ⟨.type "function", none, .func (fdOf w.params 199), #[]⟩ := by kernel_rfl
theorem co199 (w : World) : codeIn (K0 w) (fdOf w.params 199).code (fdOf w.params 199).qualname = true := by kernel_rfl
theorem hl220 (w : World) : (K0 w).lookup 220 = some ⟨.type "function", none, .func (fdOf w.params 220), #[]⟩ := by kernel_rfl
theorem co220 (w : World) : codeIn (K0 w) (fdOf w.params 220).code (fdOf w.params 220).qualname = true := by kernel_rfl
theorem hl227 (w : World) : (K0 w).lookup 227 = some ⟨.type "function", none, .func (fdOf w.params 227), #[]⟩ := by kernel_rfl
theorem co227 (w : World) : codeIn (K0 w) (fdOf w.params 227).code (fdOf w.params 227).qualname = true := by kernel_rfl
theorem hl241 (w : World) : (K0 w).lookup 241 = some ⟨.type "function", none, .func (fdOf w.params 241), #[]⟩ := by kernel_rfl
theorem co241 (w : World) : codeIn (K0 w) (fdOf w.params 241).code (fdOf w.params 241).qualname = true := by kernel_rfl
theorem hl262 (w : World) : (K0 w).lookup 262 = some ⟨.type "function", none, .func (fdOf w.params 262), #[]⟩ := by kernel_rfl
theorem co262 (w : World) : codeIn (K0 w) (fdOf w.params 262).code (fdOf w.params 262).qualname = true := by kernel_rfl
theorem hl283 (w : World) : (K0 w).lookup 283 = some ⟨.type "function", none, .func (fdOf w.params 283), #[]⟩ := by kernel_rfl
theorem co283 (w : World) : codeIn (K0 w) (fdOf w.params 283).code (fdOf w.params 283).qualname = true := by kernel_rfl
theorem hl297 (w : World) : (K0 w).lookup 297 = some ⟨.type "function", none, .func (fdOf w.params 297), #[]⟩ := by kernel_rfl
theorem co297 (w : World) : codeIn (K0 w) (fdOf w.params 297).code (fdOf w.params 297).qualname = true := by kernel_rfl
theorem hl304 (w : World) : (K0 w).lookup 304 = some ⟨.type "function", none, .func (fdOf w.params 304), #[]⟩ := by kernel_rfl
theorem co304 (w : World) : codeIn (K0 w) (fdOf w.params 304).code (fdOf w.params 304).qualname = true := by kernel_rfl
theorem hl311 (w : World) : (K0 w).lookup 311 = some ⟨.type "function", none, .func (fdOf w.params 311), #[]⟩ := by kernel_rfl
theorem co311 (w : World) : codeIn (K0 w) (fdOf w.params 311).code (fdOf w.params 311).qualname = true := by kernel_rfl
theorem hl318 (w : World) : (K0 w).lookup 318 = some ⟨.type "function", none, .func (fdOf w.params 318), #[]⟩ := by kernel_rfl
theorem co318 (w : World) : codeIn (K0 w) (fdOf w.params 318).code (fdOf w.params 318).qualname = true := by kernel_rfl
theorem hl325 (w : World) : (K0 w).lookup 325 = some ⟨.type "function", none, .func (fdOf w.params 325), #[]⟩ := by kernel_rfl
theorem co325 (w : World) : codeIn (K0 w) (fdOf w.params 325).code (fdOf w.params 325).qualname = true := by kernel_rfl
theorem hl332 (w : World) : (K0 w).lookup 332 = some ⟨.type "function", none, .func (fdOf w.params 332), #[]⟩ := by kernel_rfl
theorem co332 (w : World) : codeIn (K0 w) (fdOf w.params 332).code (fdOf w.params 332).qualname = true := by kernel_rfl
theorem hl339 (w : World) : (K0 w).lookup 339 = some ⟨.type "function", none, .func (fdOf w.params 339), #[]⟩ := by kernel_rfl
theorem co339 (w : World) : codeIn (K0 w) (fdOf w.params 339).code (fdOf w.params 339).qualname = true := by kernel_rfl
theorem hl346 (w : World) : (K0 w).lookup 346 = some ⟨.type "function", none, .func (fdOf w.params 346), #[]⟩ := by kernel_rfl
theorem co346 (w : World) : codeIn (K0 w) (fdOf w.params 346).code (fdOf w.params 346).qualname = true := by kernel_rfl
theorem hl353 (w : World) : (K0 w).lookup 353 = some ⟨.type "function", none, .func (fdOf w.params 353), #[]⟩ := by kernel_rfl
theorem co353 (w : World) : codeIn (K0 w) (fdOf w.params 353).code (fdOf w.params 353).qualname = true := by kernel_rfl
theorem hl358 (w : World) : (K0 w).lookup 358 = some ⟨.type "function", none, .func (fdOf w.params 358), #[]⟩ := by kernel_rfl
theorem co358 (w : World) : codeIn (K0 w) (fdOf w.params 358).code (fdOf w.params 358).qualname = true := by kernel_rfl
theorem hl365 (w : World) : (K0 w).lookup 365 = some ⟨.type "function", none, .func (fdOf w.params 365), #[]⟩ := by kernel_rfl
theorem co365 (w : World) : codeIn (K0 w) (fdOf w.params 365).code (fdOf w.params 365).qualname = true := by kernel_rfl
theorem hl372 (w : World) : (K0 w).lookup 372 = some ⟨.type "function", none, .func (fdOf w.params 372), #[]⟩ := by kernel_rfl
theorem co372 (w : World) : codeIn (K0 w) (fdOf w.params 372).code (fdOf w.params 372).qualname = true := by kernel_rfl
theorem hl377 (w : World) : (K0 w).lookup 377 = some ⟨.type "function", none, .func (fdOf w.params 377), #[]⟩ := by kernel_rfl
theorem co377 (w : World) : codeIn (K0 w) (fdOf w.params 377).code (fdOf w.params 377).qualname = true := by kernel_rfl
theorem hl384 (w : World) : (K0 w).lookup 384 = some ⟨.type "function", none, .func (fdOf w.params 384), #[]⟩ := by kernel_rfl
theorem co384 (w : World) : codeIn (K0 w) (fdOf w.params 384).code (fdOf w.params 384).qualname = true := by kernel_rfl
end
/-! P2 -/
section
variable {B : Bs} {c : Cx} {ρ : Loc} {σ : AH} {s : Shared}
theorem noCell {l : List (Str × NameKind)} (h : (l.all fun x => x.2 != .cell) = true) : ∀ x ∈ l, x.2 ≠ .cell := fun x hx => bne_iff_ne.mp (List.all_eq_true.mp h x hx)
theorem allLocal {l : List Str} {k : Str → Option NameKind} (h : (l.all fun x => k x == some .local) = true) : ∀ x ∈ l, k x = some .local := fun x hx => beq_iff_eq.mp (List.all_eq_true.mp h x hx)
theorem in28 (L : BL B) {a0 a1 : AV} {body : List Stmt} {Q : AV → AH → Prop} {X : XT} (hb : (fdOf B.w.params 28).body = .stmts body) (hd : c.depth < recursionLimit)
    (hW : ∀ L', WS B (c.child (callEnv (fdOf B.w.params 28) L' 28)) body [(PySem.Str.ofString "self", some a0), (PySem.Str.ofString "text", some a1)] σ (bodQ Q) (bodX X ρ)) : WFC B c (.val (.ref 28)) [a0, a1] ρ σ Q X :=
  WFC_def (fd := fdOf B.w.params 28) (ps := [PySem.Str.ofString "self", PySem.Str.ofString "text"]) (others := []) (by rw [L.K]; exact hl28 _) (by rw [L.K]; exact co28 _) hb
    (by intro vs hl; obtain ⟨x0, x1, rfl⟩ := len2 hl rfl; kernel_rfl) rfl (by decide) (allLocal (by kernel_rfl)) (noCell (by kernel_rfl)) rfl hd hW (by kernel_rfl) (by kernel_rfl) (by kernel_rfl) (by kernel_rfl) (by kernel_rfl)
theorem in48 (L : BL B) {a0 a1 a2 : AV} {body : List Stmt} {Q : AV → AH → Prop} {X : XT} (hb : (fdOf B.w.params 48).body = .stmts body) (hd : c.depth < recursionLimit)
    (hW : ∀ L', WS B (c.child (callEnv (fdOf B.w.params 48) L' 48)) body [(PySem.Str.ofString "self", some a0), (PySem.Str.ofString "at", some a1), (PySem.Str.ofString "text", some a2)] σ (bodQ Q) (bodX X ρ)) : WFC B c (.val (.ref 48)) [a0, a1, a2] ρ σ Q X :=
  WFC_def (fd := fdOf B.w.params 48) (ps := [PySem.Str.ofString "self", PySem.Str.ofString "at", PySem.Str.ofString "text"]) (others := []) (by rw [L.K]; exact hl48 _) (by rw [L.K]; exact co48 _) hb
    (by intro vs hl; obtain ⟨x0, x1, x2, rfl⟩ := len3 hl rfl; kernel_rfl) rfl (by decide) (allLocal (by kernel_rfl)) (noCell (by kernel_rfl)) rfl hd hW (by kernel_rfl) (by kernel_rfl) (by kernel_rfl) (by kernel_rfl) (by kernel_rfl)
theorem in67 (L : BL B) {a0 a1 a2 : AV} {body : List Stmt} {Q : AV → AH → Prop} {X : XT} (hb : (fdOf B.w.params 67).body = .stmts body) (hd : c.depth < recursionLimit)
    (hW : ∀ L', WS B (c.child (callEnv (fdOf B.w.params 67) L' 67)) body [(PySem.Str.ofString "self", some a0), (PySem.Str.ofString "code", some a1), (PySem.Str.ofString "text", some a2)] σ (bodQ Q) (bodX X ρ)) : WFC B c (.val (.ref 67)) [a0, a1, a2] ρ σ Q X :=
  WFC_def (fd := fdOf B.w.params 67) (ps := [PySem.Str.ofString "self", PySem.Str.ofString "code", PySem.Str.ofString "text"]) (others := []) (by rw [L.K]; exact hl67 _) (by rw [L.K]; exact co67 _) hb
    (by intro vs hl; obtain ⟨x0, x1, x2, rfl⟩ := len3 hl rfl; kernel_rfl) rfl (by decide) (allLocal (by kernel_rfl)) (noCell (by kernel_rfl)) rfl hd hW (by kernel_rfl) (by kernel_rfl) (by kernel_rfl) (by kernel_rfl) (by kernel_rfl)
theorem in79 (L : BL B) {a0 : AV} {body : List Stmt} {Q : AV → AH → Prop} {X : XT} (hb : (fdOf B.w.params 79).body = .stmts body) (hd : c.depth < recursionLimit)
    (hW : ∀ L', WS B (c.child (callEnv (fdOf B.w.params 79) L' 79)) body [(PySem.Str.ofString "kind", some a0)] σ (bodQ Q) (bodX X ρ)) : WFC B c (.val (.ref 79)) [a0] ρ σ Q X :=
  WFC_def (fd := fdOf B.w.params 79) (ps := [PySem.Str.ofString "kind"]) (others := []) (by rw [L.K]; exact hl79 _) (by rw [L.K]; exact co79 _) hb
    (by intro vs hl; obtain ⟨x0, rfl⟩ := len1 hl rfl; kernel_rfl) rfl (by decide) (allLocal (by kernel_rfl)) (noCell (by kernel_rfl)) rfl hd hW (by kernel_rfl) (by kernel_rfl) (by kernel_rfl) (by kernel_rfl) (by kernel_rfl)
theorem in87 (L : BL B) {a0 a1 : AV} {body : List Stmt} {Q : AV → AH → Prop} {X : XT} (hb : (fdOf B.w.params 87).body = .stmts body) (hd : c.depth < recursionLimit)
    (hW : ∀ L', WS B (c.child (callEnv (fdOf B.w.params 87) L' 87)) body [(PySem.Str.ofString "item", some a0), (PySem.Str.ofString "flat", some a1), (PySem.Str.ofString "word", none), (PySem.Str.ofString "start", none), (PySem.Str.ofString "inner", none), (PySem.Str.ofString "part", none)] σ (bodQ Q) (bodX X ρ)) : WFC B c (.val (.ref 87)) [a0, a1] ρ σ Q X :=
  WFC_def (fd := fdOf B.w.params 87) (ps := [PySem.Str.ofString "item", PySem.Str.ofString "flat"]) (others := [PySem.Str.ofString "word", PySem.Str.ofString "start", PySem.Str.ofString "inner", PySem.Str.ofString "part"]) (by rw [L.K]; exact hl87 _) (by rw [L.K]; exact co87 _) hb
    (by intro vs hl; obtain ⟨x0, x1, rfl⟩ := len2 hl rfl; kernel_rfl) rfl (by decide) (allLocal (by kernel_rfl)) (noCell (by kernel_rfl)) rfl hd hW (by kernel_rfl) (by kernel_rfl) (by kernel_rfl) (by kernel_rfl) (by kernel_rfl)
theorem in94 (L : BL B) {a0 : AV} {body : List Stmt} {Q : AV → AH → Prop} {X : XT} (hb : (fdOf B.w.params 94).body = .stmts body) (hd : c.depth < recursionLimit)
    (hW : ∀ L', WS B (c.child (callEnv (fdOf B.w.params 94) L' 94)) body [(PySem.Str.ofString "tree", some a0), (PySem.Str.ofString "flat", none), (PySem.Str.ofString "again", none), (PySem.Str.ofString "item", none)] σ (bodQ Q) (bodX X ρ)) : WFC B c (.val (.ref 94)) [a0] ρ σ Q X :=
  WFC_def (fd := fdOf B.w.params 94) (ps := [PySem.Str.ofString "tree"]) (others := [PySem.Str.ofString "flat", PySem.Str.ofString "again", PySem.Str.ofString "item"]) (by rw [L.K]; exact hl94 _) (by rw [L.K]; exact co94 _) hb
    (by intro vs hl; obtain ⟨x0, rfl⟩ := len1 hl rfl; kernel_rfl) rfl (by decide) (allLocal (by kernel_rfl)) (noCell (by kernel_rfl)) rfl hd hW (by kernel_rfl) (by kernel_rfl) (by kernel_rfl) (by kernel_rfl) (by kernel_rfl)
theorem in108 (L : BL B) {a0 a1 : AV} {body : List Stmt} {Q : AV → AH → Prop} {X : XT} (hb : (fdOf B.w.params 108).body = .stmts body) (hd : c.depth < recursionLimit)
    (hW : ∀ L', WS B (c.child (callEnv (fdOf B.w.params 108) L' 108)) body [(PySem.Str.ofString "self", some a0), (PySem.Str.ofString "tree", some a1)] σ (bodQ Q) (bodX X ρ)) : WFC B c (.val (.ref 108)) [a0, a1] ρ σ Q X :=
  WFC_def (fd := fdOf B.w.params 108) (ps := [PySem.Str.ofString "self", PySem.Str.ofString "tree"]) (others := []) (by rw [L.K]; exact hl108 _) (by rw [L.K]; exact co108 _) hb
    (by intro vs hl; obtain ⟨x0, x1, rfl⟩ := len2 hl rfl; kernel_rfl) rfl (by decide) (allLocal (by kernel_rfl)) (noCell (by kernel_rfl)) rfl hd hW (by kernel_rfl) (by kernel_rfl) (by kernel_rfl) (by kernel_rfl) (by kernel_rfl)
theorem in115 (L : BL B) {a0 a1 : AV} {body : List Stmt} {Q : AV → AH → Prop} {X : XT} (hb : (fdOf B.w.params 115).body = .stmts body) (hd : c.depth < recursionLimit)
    (hW : ∀ L', WS B (c.child (callEnv (fdOf B.w.params 115) L' 115)) body [(PySem.Str.ofString "self", some a0), (PySem.Str.ofString "has_value", some a1), (PySem.Str.ofString "entry", none), (PySem.Str.ofString "word", none)] σ (bodQ Q) (bodX X ρ)) : WFC B c (.val (.ref 115)) [a0, a1] ρ σ Q X :=
  WFC_def (fd := fdOf B.w.params 115) (ps := [PySem.Str.ofString "self", PySem.Str.ofString "has_value"]) (others := [PySem.Str.ofString "entry", PySem.Str.ofString "word"]) (by rw [L.K]; exact hl115 _) (by rw [L.K]; exact co115 _) hb
    (by intro vs hl; obtain ⟨x0, x1, rfl⟩ := len2 hl rfl; kernel_rfl) rfl (by decide) (allLocal (by kernel_rfl)) (noCell (by kernel_rfl)) rfl hd hW (by kernel_rfl) (by kernel_rfl) (by kernel_rfl) (by kernel_rfl) (by kernel_rfl)
theorem in122 (L : BL B) {a0 a1 : AV} {body : List Stmt} {Q : AV → AH → Prop} {X : XT} (hb : (fdOf B.w.params 122).body = .stmts body) (hd : c.depth < recursionLimit)
    (hW : ∀ L', WS B (c.child (callEnv (fdOf B.w.params 122) L' 122)) body [(PySem.Str.ofString "self", some a0), (PySem.Str.ofString "start", some a1)] σ (bodQ Q) (bodX X ρ)) : WFC B c (.val (.ref 122)) [a0, a1] ρ σ Q X :=
  WFC_def (fd := fdOf B.w.params 122) (ps := [PySem.Str.ofString "self", PySem.Str.ofString "start"]) (others := []) (by rw [L.K]; exact hl122 _) (by rw [L.K]; exact co122 _) hb
    (by intro vs hl; obtain ⟨x0, x1, rfl⟩ := len2 hl rfl; kernel_rfl) rfl (by decide) (allLocal (by kernel_rfl)) (noCell (by kernel_rfl)) rfl hd hW (by kernel_rfl) (by kernel_rfl) (by kernel_rfl) (by kernel_rfl) (by kernel_rfl)
theorem in129 (L : BL B) {a0 : AV} {body : List Stmt} {Q : AV → AH → Prop} {X : XT} (hb : (fdOf B.w.params 129).body = .stmts body) (hd : c.depth < recursionLimit)
    (hW : ∀ L', WS B (c.child (callEnv (fdOf B.w.params 129) L' 129)) body [(PySem.Str.ofString "self", some a0)] σ (bodQ Q) (bodX X ρ)) : WFC B c (.val (.ref 129)) [a0] ρ σ Q X :=
  WFC_def (fd := fdOf B.w.params 129) (ps := [PySem.Str.ofString "self"]) (others := []) (by rw [L.K]; exact hl129 _) (by rw [L.K]; exact co129 _) hb
    (by intro vs hl; obtain ⟨x0, rfl⟩ := len1 hl rfl; kernel_rfl) rfl (by decide) (allLocal (by kernel_rfl)) (noCell (by kernel_rfl)) rfl hd hW (by kernel_rfl) (by kernel_rfl) (by kernel_rfl) (by kernel_rfl) (by kernel_rfl)
theorem in150 (L : BL B) {a0 a1 : AV} {body : List Stmt} {Q : AV → AH → Prop} {X : XT} (hb : (fdOf B.w.params 150).body = .stmts body) (hd : c.depth < recursionLimit)
    (hW : ∀ L', WS B (c.child (callEnv (fdOf B.w.params 150) L' 150)) body [(PySem.Str.ofString "self", some a0), (PySem.Str.ofString "is_zeros", some a1)] σ (bodQ Q) (bodX X ρ)) : WFC B c (.val (.ref 150)) [a0, a1] ρ σ Q X :=
  WFC_def (fd := fdOf B.w.params 150) (ps := [PySem.Str.ofString "self", PySem.Str.ofString "is_zeros"]) (others := []) (by rw [L.K]; exact hl150 _) (by rw [L.K]; exact co150 _) hb
    (by intro vs hl; obtain ⟨x0, x1, rfl⟩ := len2 hl rfl; kernel_rfl) rfl (by decide) (allLocal (by kernel_rfl)) (noCell (by kernel_rfl)) rfl hd hW (by kernel_rfl) (by kernel_rfl) (by kernel_rfl) (by kernel_rfl) (by kernel_rfl)
theorem in157 (L : BL B) {a0 a1 : AV} {body : List Stmt} {Q : AV → AH → Prop} {X : XT} (hb : (fdOf B.w.params 157).body = .stmts body) (hd : c.depth < recursionLimit)
    (hW : ∀ L', WS B (c.child (callEnv (fdOf B.w.params 157) L' 157)) body [(PySem.Str.ofString "self", some a0), (PySem.Str.ofString "item", some a1), (PySem.Str.ofString "word", none)] σ (bodQ Q) (bodX X ρ)) : WFC B c (.val (.ref 157)) [a0, a1] ρ σ Q X :=
  WFC_def (fd := fdOf B.w.params 157) (ps := [PySem.Str.ofString "self", PySem.Str.ofString "item"]) (others := [PySem.Str.ofString "word"]) (by rw [L.K]; exact hl157 _) (by rw [L.K]; exact co157 _) hb
    (by intro vs hl; obtain ⟨x0, x1, rfl⟩ := len2 hl rfl; kernel_rfl) rfl (by decide) (allLocal (by kernel_rfl)) (noCell (by kernel_rfl)) rfl hd hW (by kernel_rfl) (by kernel_rfl) (by kernel_rfl) (by kernel_rfl) (by kernel_rfl)
theorem in171 (L : BL B) {a0 a1 : AV} {body : List Stmt} {Q : AV → AH → Prop} {X : XT} (hb : (fdOf B.w.params 171).body = .stmts body) (hd : c.depth < recursionLimit)
    (hW : ∀ L', WS B (c.child (callEnv (fdOf B.w.params 171) L' 171)) body [(PySem.Str.ofString "at", some a0), (PySem.Str.ofString "item", some a1), (PySem.Str.ofString "word", none)] σ (bodQ Q) (bodX X ρ)) : WFC B c (.val (.ref 171)) [a0, a1] ρ σ Q X :=
  WFC_def (fd := fdOf B.w.params 171) (ps := [PySem.Str.ofString "at", PySem.Str.ofString "item"]) (others := [PySem.Str.ofString "word"]) (by rw [L.K]; exact hl171 _) (by rw [L.K]; exact co171 _) hb
    (by intro vs hl; obtain ⟨x0, x1, rfl⟩ := len2 hl rfl; kernel_rfl) rfl (by decide) (allLocal (by kernel_rfl)) (noCell (by kernel_rfl)) rfl hd hW (by kernel_rfl) (by kernel_rfl) (by kernel_rfl) (by kernel_rfl) (by kernel_rfl)
theorem in185 (L : BL B) {a0 : AV} {body : List Stmt} {Q : AV → AH → Prop} {X : XT} (hb : (fdOf B.w.params 185).body = .stmts body) (hd : c.depth < recursionLimit)
    (hW : ∀ L', WS B (c.child (callEnv (fdOf B.w.params 185) L' 185)) body [(PySem.Str.ofString "self", some a0)] σ (bodQ Q) (bodX X ρ)) : WFC B c (.val (.ref 185)) [a0] ρ σ Q X :=
  WFC_def (fd := fdOf B.w.params 185) (ps := [PySem.Str.ofString "self"]) (others := []) (by rw [L.K]; exact hl185 _) (by rw [L.K]; exact co185 _) hb
    (by intro vs hl; obtain ⟨x0, rfl⟩ := len1 hl rfl; kernel_rfl) rfl (by decide) (allLocal (by kernel_rfl)) (noCell (by kernel_rfl)) rfl hd hW (by kernel_rfl) (by kernel_rfl) (by kernel_rfl) (by kernel_rfl) (by kernel_rfl)
theorem in192 (L : BL B) {a0 a1 : AV} {body : List Stmt} {Q : AV → AH → Prop} {X : XT} (hb : (fdOf B.w.params 192).body = .stmts body) (hd : c.depth < recursionLimit)
    (hW : ∀ L', WS B (c.child (callEnv (fdOf B.w.params 192) L' 192)) body [(PySem.Str.ofString "self", some a0), (PySem.Str.ofString "text", some a1), (PySem.Str.ofString "sign", none)] σ (bodQ Q) (bodX X ρ)) : WFC B c (.val (.ref 192)) [a0, a1] ρ σ Q X :=
  WFC_def (fd := fdOf B.w.params 192) (ps := [PySem.Str.ofString "self", PySem.Str.ofString "text"]) (others := [PySem.Str.ofString "sign"]) (by rw [L.K]; exact hl192 _) (by rw [L.K]; exact co192 _) hb
    (by intro vs hl; obtain ⟨x0, x1, rfl⟩ := len2 hl rfl; kernel_rfl) rfl (by decide) (allLocal (by kernel_rfl)) (noCell (by kernel_rfl)) rfl hd hW (by kernel_rfl) (by kernel_rfl) (by kernel_rfl) (by kernel_rfl) (by kernel_rfl)
theorem in199 (L : BL B) {a0 : AV} {body : List Stmt} {Q : AV → AH → Prop} {X : XT} (hb : (fdOf B.w.params 199).body = .stmts body) (hd : c.depth < recursionLimit)
    (hW : ∀ L', WS B (c.child (callEnv (fdOf B.w.params 199) L' 199)) body [(PySem.Str.ofString "self", some a0)] σ (bodQ Q) (bodX X ρ)) : WFC B c (.val (.ref 199)) [a0] ρ σ Q X :=
  WFC_def (fd := fdOf B.w.params 199) (ps := [PySem.Str.ofString "self"]) (others := []) (by rw [L.K]; exact hl199 _) (by rw [L.K]; exact co199 _) hb
    (by intro vs hl; obtain ⟨x0, rfl⟩ := len1 hl rfl; kernel_rfl) rfl (by decide) (allLocal (by kernel_rfl)) (noCell (by kernel_rfl)) rfl hd hW (by kernel_rfl) (by kernel_rfl) (by kernel_rfl) (by kernel_rfl) (by kernel_rfl)
theorem in220 (L : BL B) {a0 a1 a2 : AV} {body : List Stmt} {Q : AV → AH → Prop} {X : XT} (hb : (fdOf B.w.params 220).body = .stmts body) (hd : c.depth < recursionLimit)
    (hW : ∀ L', WS B (c.child (callEnv (fdOf B.w.params 220) L' 220)) body [(PySem.Str.ofString "self", some a0), (PySem.Str.ofString "tree", some a1), (PySem.Str.ofString "edit", some a2)] σ (bodQ Q) (bodX X ρ)) : WFC B c (.val (.ref 220)) [a0, a1, a2] ρ σ Q X :=
  WFC_def (fd := fdOf B.w.params 220) (ps := [PySem.Str.ofString "self", PySem.Str.ofString "tree", PySem.Str.ofString "edit"]) (others := []) (by rw [L.K]; exact hl220 _) (by rw [L.K]; exact co220 _) hb
    (by intro vs hl; obtain ⟨x0, x1, x2, rfl⟩ := len3 hl rfl; kernel_rfl) rfl (by decide) (allLocal (by kernel_rfl)) (noCell (by kernel_rfl)) rfl hd hW (by kernel_rfl) (by kernel_rfl) (by kernel_rfl) (by kernel_rfl) (by kernel_rfl)
theorem in227 (L : BL B) {a0 a1 : AV} {body : List Stmt} {Q : AV → AH → Prop} {X : XT} (hb : (fdOf B.w.params 227).body = .stmts body) (hd : c.depth < recursionLimit)
    (hW : ∀ L', WS B (c.child (callEnv (fdOf B.w.params 227) L' 227)) body [(PySem.Str.ofString "self", some a0), (PySem.Str.ofString "item", some a1)] σ (bodQ Q) (bodX X ρ)) : WFC B c (.val (.ref 227)) [a0, a1] ρ σ Q X :=
  WFC_def (fd := fdOf B.w.params 227) (ps := [PySem.Str.ofString "self", PySem.Str.ofString "item"]) (others := []) (by rw [L.K]; exact hl227 _) (by rw [L.K]; exact co227 _) hb
    (by intro vs hl; obtain ⟨x0, x1, rfl⟩ := len2 hl rfl; kernel_rfl) rfl (by decide) (allLocal (by kernel_rfl)) (noCell (by kernel_rfl)) rfl hd hW (by kernel_rfl) (by kernel_rfl) (by kernel_rfl) (by kernel_rfl) (by kernel_rfl)
theorem in241 (L : BL B) {a0 : AV} {body : List Stmt} {Q : AV → AH → Prop} {X : XT} (hb : (fdOf B.w.params 241).body = .stmts body) (hd : c.depth < recursionLimit)
    (hW : ∀ L', WS B (c.child (callEnv (fdOf B.w.params 241) L' 241)) body [(PySem.Str.ofString "self", some a0), (PySem.Str.ofString "item", none)] σ (bodQ Q) (bodX X ρ)) : WFC B c (.val (.ref 241)) [a0] ρ σ Q X :=
  WFC_def (fd := fdOf B.w.params 241) (ps := [PySem.Str.ofString "self"]) (others := [PySem.Str.ofString "item"]) (by rw [L.K]; exact hl241 _) (by rw [L.K]; exact co241 _) hb
    (by intro vs hl; obtain ⟨x0, rfl⟩ := len1 hl rfl; kernel_rfl) rfl (by decide) (allLocal (by kernel_rfl)) (noCell (by kernel_rfl)) rfl hd hW (by kernel_rfl) (by kernel_rfl) (by kernel_rfl) (by kernel_rfl) (by kernel_rfl)
theorem in262 (L : BL B) {a0 a1 a2 a3 a4 : AV} {body : List Stmt} {Q : AV → AH → Prop} {X : XT} (hb : (fdOf B.w.params 262).body = .stmts body) (hd : c.depth < recursionLimit)
    (hW : ∀ L', WS B (c.child (callEnv (fdOf B.w.params 262) L' 262)) body [(PySem.Str.ofString "self", some a0), (PySem.Str.ofString "name", some a1), (PySem.Str.ofString "access", some a2), (PySem.Str.ofString "form", some a3), (PySem.Str.ofString "length", some a4)] σ (bodQ Q) (bodX X ρ)) : WFC B c (.val (.ref 262)) [a0, a1, a2, a3, a4] ρ σ Q X :=
  WFC_def (fd := fdOf B.w.params 262) (ps := [PySem.Str.ofString "self", PySem.Str.ofString "name", PySem.Str.ofString "access", PySem.Str.ofString "form", PySem.Str.ofString "length"]) (others := []) (by rw [L.K]; exact hl262 _) (by rw [L.K]; exact co262 _) hb
    (by intro vs hl; obtain ⟨x0, x1, x2, x3, x4, rfl⟩ := len5 hl rfl; kernel_rfl) rfl (by decide) (allLocal (by kernel_rfl)) (noCell (by kernel_rfl)) rfl hd hW (by kernel_rfl) (by kernel_rfl) (by kernel_rfl) (by kernel_rfl) (by kernel_rfl)
theorem in283 (L : BL B) {a0 a1 a2 a3 : AV} {body : List Stmt} {Q : AV → AH → Prop} {X : XT} (hb : (fdOf B.w.params 283).body = .stmts body) (hd : c.depth < recursionLimit)
    (hW : ∀ L', WS B (c.child (callEnv (fdOf B.w.params 283) L' 283)) body [(PySem.Str.ofString "self", some a0), (PySem.Str.ofString "number", some a1), (PySem.Str.ofString "file", some a2), (PySem.Str.ofString "blank", some a3)] σ (bodQ Q) (bodX X ρ)) : WFC B c (.val (.ref 283)) [a0, a1, a2, a3] ρ σ Q X :=
  WFC_def (fd := fdOf B.w.params 283) (ps := [PySem.Str.ofString "self", PySem.Str.ofString "number", PySem.Str.ofString "file", PySem.Str.ofString "blank"]) (others := []) (by rw [L.K]; exact hl283 _) (by rw [L.K]; exact co283 _) hb
    (by intro vs hl; obtain ⟨x0, x1, x2, x3, rfl⟩ := len4 hl rfl; kernel_rfl) rfl (by decide) (allLocal (by kernel_rfl)) (noCell (by kernel_rfl)) rfl hd hW (by kernel_rfl) (by kernel_rfl) (by kernel_rfl) (by kernel_rfl) (by kernel_rfl)
theorem in297 (L : BL B) {a0 a1 : AV} {body : List Stmt} {Q : AV → AH → Prop} {X : XT} (hb : (fdOf B.w.params 297).body = .stmts body) (hd : c.depth < recursionLimit)
    (hW : ∀ L', WS B (c.child (callEnv (fdOf B.w.params 297) L' 297)) body [(PySem.Str.ofString "unit", some a0), (PySem.Str.ofString "access", some a1)] σ (bodQ Q) (bodX X ρ)) : WFC B c (.val (.ref 297)) [a0, a1] ρ σ Q X :=
  WFC_def (fd := fdOf B.w.params 297) (ps := [PySem.Str.ofString "unit", PySem.Str.ofString "access"]) (others := []) (by rw [L.K]; exact hl297 _) (by rw [L.K]; exact co297 _) hb
    (by intro vs hl; obtain ⟨x0, x1, rfl⟩ := len2 hl rfl; kernel_rfl) rfl (by decide) (allLocal (by kernel_rfl)) (noCell (by kernel_rfl)) rfl hd hW (by kernel_rfl) (by kernel_rfl) (by kernel_rfl) (by kernel_rfl) (by kernel_rfl)
theorem in304 (L : BL B) {a0 : AV} {body : List Stmt} {Q : AV → AH → Prop} {X : XT} (hb : (fdOf B.w.params 304).body = .stmts body) (hd : c.depth < recursionLimit)
    (hW : ∀ L', WS B (c.child (callEnv (fdOf B.w.params 304) L' 304)) body [(PySem.Str.ofString "record", some a0), (PySem.Str.ofString "size", none), (PySem.Str.ofString "kind", none), (PySem.Str.ofString "value", none)] σ (bodQ Q) (bodX X ρ)) : WFC B c (.val (.ref 304)) [a0] ρ σ Q X :=
  WFC_def (fd := fdOf B.w.params 304) (ps := [PySem.Str.ofString "record"]) (others := [PySem.Str.ofString "size", PySem.Str.ofString "kind", PySem.Str.ofString "value"]) (by rw [L.K]; exact hl304 _) (by rw [L.K]; exact co304 _) hb
    (by intro vs hl; obtain ⟨x0, rfl⟩ := len1 hl rfl; kernel_rfl) rfl (by decide) (allLocal (by kernel_rfl)) (noCell (by kernel_rfl)) rfl hd hW (by kernel_rfl) (by kernel_rfl) (by kernel_rfl) (by kernel_rfl) (by kernel_rfl)
theorem in311 (L : BL B) {a0 a1 : AV} {body : List Stmt} {Q : AV → AH → Prop} {X : XT} (hb : (fdOf B.w.params 311).body = .stmts body) (hd : c.depth < recursionLimit)
    (hW : ∀ L', WS B (c.child (callEnv (fdOf B.w.params 311) L' 311)) body [(PySem.Str.ofString "unit", some a0), (PySem.Str.ofString "number", some a1)] σ (bodQ Q) (bodX X ρ)) : WFC B c (.val (.ref 311)) [a0, a1] ρ σ Q X :=
  WFC_def (fd := fdOf B.w.params 311) (ps := [PySem.Str.ofString "unit", PySem.Str.ofString "number"]) (others := []) (by rw [L.K]; exact hl311 _) (by rw [L.K]; exact co311 _) hb
    (by intro vs hl; obtain ⟨x0, x1, rfl⟩ := len2 hl rfl; kernel_rfl) rfl (by decide) (allLocal (by kernel_rfl)) (noCell (by kernel_rfl)) rfl hd hW (by kernel_rfl) (by kernel_rfl) (by kernel_rfl) (by kernel_rfl) (by kernel_rfl)
theorem in318 (L : BL B) {a0 a1 a2 : AV} {body : List Stmt} {Q : AV → AH → Prop} {X : XT} (hb : (fdOf B.w.params 318).body = .stmts body) (hd : c.depth < recursionLimit)
    (hW : ∀ L', WS B (c.child (callEnv (fdOf B.w.params 318) L' 318)) body [(PySem.Str.ofString "unit", some a0), (PySem.Str.ofString "number", some a1), (PySem.Str.ofString "record", some a2)] σ (bodQ Q) (bodX X ρ)) : WFC B c (.val (.ref 318)) [a0, a1, a2] ρ σ Q X :=
  WFC_def (fd := fdOf B.w.params 318) (ps := [PySem.Str.ofString "unit", PySem.Str.ofString "number", PySem.Str.ofString "record"]) (others := []) (by rw [L.K]; exact hl318 _) (by rw [L.K]; exact co318 _) hb
    (by intro vs hl; obtain ⟨x0, x1, x2, rfl⟩ := len3 hl rfl; kernel_rfl) rfl (by decide) (allLocal (by kernel_rfl)) (noCell (by kernel_rfl)) rfl hd hW (by kernel_rfl) (by kernel_rfl) (by kernel_rfl) (by kernel_rfl) (by kernel_rfl)
theorem in325 (L : BL B) {body : List Stmt} {Q : AV → AH → Prop} {X : XT} (hb : (fdOf B.w.params 325).body = .stmts body) (hd : c.depth < recursionLimit)
    (hW : ∀ L', WS B (c.child (callEnv (fdOf B.w.params 325) L' 325)) body [] σ (bodQ Q) (bodX X ρ)) : WFC B c (.val (.ref 325)) [] ρ σ Q X :=
  WFC_def (fd := fdOf B.w.params 325) (ps := []) (others := []) (by rw [L.K]; exact hl325 _) (by rw [L.K]; exact co325 _) hb
    (by intro vs hl; obtain rfl := len0 hl rfl; kernel_rfl) rfl (by decide) (allLocal (by kernel_rfl)) (noCell (by kernel_rfl)) rfl hd hW (by kernel_rfl) (by kernel_rfl) (by kernel_rfl) (by kernel_rfl) (by kernel_rfl)
theorem in332 (L : BL B) {a0 a1 : AV} {body : List Stmt} {Q : AV → AH → Prop} {X : XT} (hb : (fdOf B.w.params 332).body = .stmts body) (hd : c.depth < recursionLimit)
    (hW : ∀ L', WS B (c.child (callEnv (fdOf B.w.params 332) L' 332)) body [(PySem.Str.ofString "urn", some a0), (PySem.Str.ofString "sides", some a1)] σ (bodQ Q) (bodX X ρ)) : WFC B c (.val (.ref 332)) [a0, a1] ρ σ Q X :=
  WFC_def (fd := fdOf B.w.params 332) (ps := [PySem.Str.ofString "urn", PySem.Str.ofString "sides"]) (others := []) (by rw [L.K]; exact hl332 _) (by rw [L.K]; exact co332 _) hb
    (by intro vs hl; obtain ⟨x0, x1, rfl⟩ := len2 hl rfl; kernel_rfl) rfl (by decide) (allLocal (by kernel_rfl)) (noCell (by kernel_rfl)) rfl hd hW (by kernel_rfl) (by kernel_rfl) (by kernel_rfl) (by kernel_rfl) (by kernel_rfl)
theorem in339 (L : BL B) {a0 : AV} {body : List Stmt} {Q : AV → AH → Prop} {X : XT} (hb : (fdOf B.w.params 339).body = .stmts body) (hd : c.depth < recursionLimit)
    (hW : ∀ L', WS B (c.child (callEnv (fdOf B.w.params 339) L' 339)) body [(PySem.Str.ofString "call", some a0), (PySem.Str.ofString "fault", none)] σ (bodQ Q) (bodX X ρ)) : WFC B c (.val (.ref 339)) [a0] ρ σ Q X :=
  WFC_def (fd := fdOf B.w.params 339) (ps := [PySem.Str.ofString "call"]) (others := [PySem.Str.ofString "fault"]) (by rw [L.K]; exact hl339 _) (by rw [L.K]; exact co339 _) hb
    (by intro vs hl; obtain ⟨x0, rfl⟩ := len1 hl rfl; kernel_rfl) rfl (by decide) (allLocal (by kernel_rfl)) (noCell (by kernel_rfl)) rfl hd hW (by kernel_rfl) (by kernel_rfl) (by kernel_rfl) (by kernel_rfl) (by kernel_rfl)
theorem in365 (L : BL B) {a0 : AV} {body : List Stmt} {Q : AV → AH → Prop} {X : XT} (hb : (fdOf B.w.params 365).body = .stmts body) (hd : c.depth < recursionLimit)
    (hW : ∀ L', WS B (c.child (callEnv (fdOf B.w.params 365) L' 365)) body [(PySem.Str.ofString "tree", some a0), (PySem.Str.ofString "row", none), (PySem.Str.ofString "part", none), (PySem.Str.ofString "inner", none)] σ (bodQ Q) (bodX X ρ)) : WFC B c (.val (.ref 365)) [a0] ρ σ Q X :=
  WFC_def (fd := fdOf B.w.params 365) (ps := [PySem.Str.ofString "tree"]) (others := [PySem.Str.ofString "row", PySem.Str.ofString "part", PySem.Str.ofString "inner"]) (by rw [L.K]; exact hl365 _) (by rw [L.K]; exact co365 _) hb
    (by intro vs hl; obtain ⟨x0, rfl⟩ := len1 hl rfl; kernel_rfl) rfl (by decide) (allLocal (by kernel_rfl)) (noCell (by kernel_rfl)) rfl hd hW (by kernel_rfl) (by kernel_rfl) (by kernel_rfl) (by kernel_rfl) (by kernel_rfl)
theorem in372 (L : BL B) {a0 a1 : AV} {body : List Stmt} {Q : AV → AH → Prop} {X : XT} (hb : (fdOf B.w.params 372).body = .stmts body) (hd : c.depth < recursionLimit)
    (hW : ∀ L', WS B (c.child (callEnv (fdOf B.w.params 372) L' 372)) body [(PySem.Str.ofString "book", some a0), (PySem.Str.ofString "has_value", some a1), (PySem.Str.ofString "mark", none)] σ (bodQ Q) (bodX X ρ)) : WFC B c (.val (.ref 372)) [a0, a1] ρ σ Q X :=
  WFC_def (fd := fdOf B.w.params 372) (ps := [PySem.Str.ofString "book", PySem.Str.ofString "has_value"]) (others := [PySem.Str.ofString "mark"]) (by rw [L.K]; exact hl372 _) (by rw [L.K]; exact co372 _) hb
    (by intro vs hl; obtain ⟨x0, x1, rfl⟩ := len2 hl rfl; kernel_rfl) rfl (by decide) (allLocal (by kernel_rfl)) (noCell (by kernel_rfl)) rfl hd hW (by kernel_rfl) (by kernel_rfl) (by kernel_rfl) (by kernel_rfl) (by kernel_rfl)
end
/-! W29 -/
section
open PySem PySem.W PyProof.Rows PySem.Calls PySem.Spec PySem.SeqAt
variable {B : Bs} {c : Cx} {ρ : Loc} {σ : AH} {s : Shared}
theorem ifT {a b : Prop} (h : a) : if true = true then a else b := h
theorem ifF {a b : Prop} (h : b) : if false = true then a else b := h
theorem ifD {p a b : Prop} {_ : Decidable p} (h1 : p → a) (h2 : ¬ p → b) : if decide p = true then a else b := by
  by_cases h : p
  · rw [if_pos (decide_eq_true h)]; exact h1 h
  · rw [if_neg (by simpa using h)]; exact h2 h
theorem ifN {p a b : Prop} {_ : Decidable p} (h1 : ¬ p → a) (h2 : p → b) : if (!decide p) = true then a else b := by
  by_cases h : p
  · rw [if_neg (by simpa using h)]; exact h2 h
  · rw [if_pos (by simpa using h)]; exact h1 h
theorem ifB {x : Bool} {a b : Prop} (h1 : x = true → a) (h2 : x = false → b) : if x = true then a else b := by
  cases x
  · exact h2 rfl
  · exact h1 rfl
theorem atIn (L : BL B) {p : Addr × Str} (h : atab.contains p = true) : p ∈ B.ats := by rw [L.ats]; exact List.contains_iff_mem.mp h
theorem mtIn (L : BL B) {p : Addr × Str × Addr} (h : mtab.contains p = true) : p ∈ B.mts := by rw [L.mts]; exact List.contains_iff_mem.mp h
theorem callB {b : String} : Callable B (.val (.builtin b)) := trivial
theorem callT {b : String} : Callable B (.val (.type b)) := trivial
theorem callK (L : BL B) {f : Addr} (h : keepIn (K0 B.w) (.ref f) = true) : Callable B (.val (.ref f)) := by show keepIn B.K (.ref f) = true; rw [L.K]; exact h
section
variable {Q : Bool → AH → Prop} {X : XT}
theorem WT_call {f : Expr} {args : List Expr} {pos : Pos} (h : WE B c (.Call f args [] pos) ρ σ (truK B c ρ Q X) X) : WT B c (.Call f args [] pos) ρ σ Q X := WT_value h
theorem WT_name {x : Str} {pos : Pos} (h : WE B c (.Name x pos) ρ σ (truK B c ρ Q X) X) : WT B c (.Name x pos) ρ σ Q X := WT_value h
theorem WT_attr {o : Expr} {x : Str} {pos : Pos} (h : WE B c (.Attribute o x pos) ρ σ (truK B c ρ Q X) X) : WT B c (.Attribute o x pos) ρ σ Q X := WT_value h
theorem WT_subs {o i : Expr} {pos : Pos} (h : WE B c (.Subscript o i pos) ρ σ (truK B c ρ Q X) X) : WT B c (.Subscript o i pos) ρ σ Q X := WT_value h
end
theorem getA {Q : AV → AH → Prop} {x C dx : Addr} {n : Str} {ats : List (Str × AV)} {av : AV} (h1 : σ x = some (.inst C dx ats)) (h2 : (C, n) ∈ B.ats) (h3 : AAt ats n av) (h4 : avOk av = true) (h5 : Q av σ) : attK B n Q (.ref x) σ := ⟨x, C, dx, ats, av, rfl, h1, h2, h3, h4, h5⟩
theorem setA {K : AH → Prop} {x C dx : Addr} {n : Str} {ats ats' : List (Str × AV)} {a : AV} (h1 : σ x = some (.inst C dx ats)) (h2 : (C, n) ∈ B.ats) (h3 : APut ats n a ats') (h4 : Nat.ble ats.length 100 = true) (h5 : K (upd σ x (.inst C dx ats'))) : setK B n a K (.ref x) σ := ⟨x, C, dx, ats, ats', rfl, h1, h2, .inl h3, Nat.le_of_ble_eq_true h4, h5⟩
theorem setNewA {K : AH → Prop} {x C dx : Addr} {n : Str} {ats : List (Str × AV)} {a : AV} (h1 : σ x = some (.inst C dx ats)) (h2 : (C, n) ∈ B.ats) (h3 : (ats.map (·.1)).contains n = false) (h4 : Nat.ble ats.length 100 = true) (h5 : K (upd σ x (.inst C dx (ats ++ [(n, a)])))) : setK B n a K (.ref x) σ :=
  ⟨x, C, dx, ats, _, rfl, h1, h2, .inr ⟨fun h => (by rw [List.contains_iff_mem.mpr h] at h3; cases h3), rfl⟩, Nat.le_of_ble_eq_true h4, h5⟩
theorem upd_keep {a b : Addr} {ao bo o : AO} (h1 : σ b = some bo) (h2 : σ a = some ao) (hne : bo ≠ ao) : upd σ a o b = some bo := by
  rw [upd_ne]; exact h1
  rintro rfl; rw [h1] at h2; exact hne (Option.some.inj h2)
theorem getA2 {Q : Addr → Addr → AV → AH → Prop} {x C dx : Addr} {n : Str} {ats : List (Str × AV)} {av : AV} (h1 : σ x = some (.inst C dx ats)) (h2 : (C, n) ∈ B.ats) (h3 : AAt ats n av) (h4 : avOk av = true) (h5 : Q x C av σ) : attK2 B n Q (.ref x) σ := ⟨x, C, dx, ats, av, rfl, h1, h2, h3, h4, h5⟩
theorem setA2 {K : AH → Prop} {x C dx : Addr} {n : Str} {ats ats' : List (Str × AV)} {a : AV} (h1 : σ x = some (.inst C dx ats)) (h3 : APut ats n a ats') (h4 : Nat.ble ats.length 100 = true) (h5 : K (upd σ x (.inst C dx ats'))) : setK2 n x C K a σ := ⟨dx, ats, ats', h1, h3, Nat.le_of_ble_eq_true h4, h5⟩
/-! places in a list, by their number -/
theorem tup1 {F : List PyData → PyData} {Q : AV → AH → Prop} {a : PyData} (h : Q (.data (F [a])) σ) : tupK F Q [AV.data a] σ := ⟨[a], rfl, by show 1 ≤ _; unfold sizeLine; lia, h⟩
theorem tup2 {F : List PyData → PyData} {Q : AV → AH → Prop} {a b : PyData} (h : Q (.data (F [a, b])) σ) : tupK F Q [AV.data a, AV.data b] σ := ⟨[a, b], rfl, by show 2 ≤ _; unfold sizeLine; lia, h⟩
theorem tup3 {F : List PyData → PyData} {Q : AV → AH → Prop} {a b c : PyData} (h : Q (.data (F [a, b, c])) σ) : tupK F Q [AV.data a, AV.data b, AV.data c] σ := ⟨[a, b, c], rfl, by show 3 ≤ _; unfold sizeLine; lia, h⟩
theorem tup4 {F : List PyData → PyData} {Q : AV → AH → Prop} {a b c d : PyData} (h : Q (.data (F [a, b, c, d])) σ) : tupK F Q [AV.data a, AV.data b, AV.data c, AV.data d] σ := ⟨[a, b, c, d], rfl, by show 4 ≤ _; unfold sizeLine; lia, h⟩
theorem tup0 {F : List PyData → PyData} {Q : AV → AH → Prop} (h : Q (.data (F [])) σ) : tupK F Q [] σ := ⟨[], rfl, by show 0 ≤ _; lia, h⟩
theorem tup6 {F : List PyData → PyData} {Q : AV → AH → Prop} {a b c d e f : PyData} (h : Q (.data (F [a, b, c, d, e, f])) σ) : tupK F Q [AV.data a, AV.data b, AV.data c, AV.data d, AV.data e, AV.data f] σ := ⟨[a, b, c, d, e, f], rfl, by show 6 ≤ _; unfold sizeLine; lia, h⟩
theorem At.n0 {x : Str} {v : AV} {r : Loc} : At ((x, some v) :: r) x v := .here
theorem Put.n0 {x : Str} {w : Option AV} {v : AV} {r : Loc} : Put ((x, w) :: r) x v ((x, some v) :: r) := .here
theorem AAt.n0 {x : Str} {v : AV} {r : List (Str × AV)} : AAt ((x, v) :: r) x v := .here
theorem At.n1 {p0 : Str × Option AV} {x : Str} {v : AV} {r : Loc} : At (p0 :: (x, some v) :: r) x v := .there (.here)
theorem Put.n1 {p0 : Str × Option AV} {x : Str} {w : Option AV} {v : AV} {r : Loc} : Put (p0 :: (x, w) :: r) x v (p0 :: (x, some v) :: r) := .there (.here)
theorem AAt.n1 {p0 : Str × AV} {x : Str} {v : AV} {r : List (Str × AV)} : AAt (p0 :: (x, v) :: r) x v := .there (.here)
theorem APut.n1 {p0 : Str × AV} {x : Str} {w v : AV} {r : List (Str × AV)} : APut (p0 :: (x, w) :: r) x v (p0 :: (x, v) :: r) := .there (.here)
theorem At.n2 {p0 p1 : Str × Option AV} {x : Str} {v : AV} {r : Loc} : At (p0 :: p1 :: (x, some v) :: r) x v := .there (.there (.here))
theorem Put.n2 {p0 p1 : Str × Option AV} {x : Str} {w : Option AV} {v : AV} {r : Loc} : Put (p0 :: p1 :: (x, w) :: r) x v (p0 :: p1 :: (x, some v) :: r) := .there (.there (.here))
theorem AAt.n2 {p0 p1 : Str × AV} {x : Str} {v : AV} {r : List (Str × AV)} : AAt (p0 :: p1 :: (x, v) :: r) x v := .there (.there (.here))
theorem APut.n2 {p0 p1 : Str × AV} {x : Str} {w v : AV} {r : List (Str × AV)} : APut (p0 :: p1 :: (x, w) :: r) x v (p0 :: p1 :: (x, v) :: r) := .there (.there (.here))
theorem At.n3 {p0 p1 p2 : Str × Option AV} {x : Str} {v : AV} {r : Loc} : At (p0 :: p1 :: p2 :: (x, some v) :: r) x v := .there (.there (.there (.here)))
theorem Put.n3 {p0 p1 p2 : Str × Option AV} {x : Str} {w : Option AV} {v : AV} {r : Loc} : Put (p0 :: p1 :: p2 :: (x, w) :: r) x v (p0 :: p1 :: p2 :: (x, some v) :: r) := .there (.there (.there (.here)))
theorem AAt.n3 {p0 p1 p2 : Str × AV} {x : Str} {v : AV} {r : List (Str × AV)} : AAt (p0 :: p1 :: p2 :: (x, v) :: r) x v := .there (.there (.there (.here)))
theorem APut.n3 {p0 p1 p2 : Str × AV} {x : Str} {w v : AV} {r : List (Str × AV)} : APut (p0 :: p1 :: p2 :: (x, w) :: r) x v (p0 :: p1 :: p2 :: (x, v) :: r) := .there (.there (.there (.here)))
theorem At.n4 {p0 p1 p2 p3 : Str × Option AV} {x : Str} {v : AV} {r : Loc} : At (p0 :: p1 :: p2 :: p3 :: (x, some v) :: r) x v := .there (.there (.there (.there (.here))))
theorem Put.n4 {p0 p1 p2 p3 : Str × Option AV} {x : Str} {w : Option AV} {v : AV} {r : Loc} : Put (p0 :: p1 :: p2 :: p3 :: (x, w) :: r) x v (p0 :: p1 :: p2 :: p3 :: (x, some v) :: r) := .there (.there (.there (.there (.here))))
theorem AAt.n4 {p0 p1 p2 p3 : Str × AV} {x : Str} {v : AV} {r : List (Str × AV)} : AAt (p0 :: p1 :: p2 :: p3 :: (x, v) :: r) x v := .there (.there (.there (.there (.here))))
theorem APut.n4 {p0 p1 p2 p3 : Str × AV} {x : Str} {w v : AV} {r : List (Str × AV)} : APut (p0 :: p1 :: p2 :: p3 :: (x, w) :: r) x v (p0 :: p1 :: p2 :: p3 :: (x, v) :: r) := .there (.there (.there (.there (.here))))
theorem At.n5 {p0 p1 p2 p3 p4 : Str × Option AV} {x : Str} {v : AV} {r : Loc} : At (p0 :: p1 :: p2 :: p3 :: p4 :: (x, some v) :: r) x v := .there (.there (.there (.there (.there (.here)))))
theorem Put.n5 {p0 p1 p2 p3 p4 : Str × Option AV} {x : Str} {w : Option AV} {v : AV} {r : Loc} : Put (p0 :: p1 :: p2 :: p3 :: p4 :: (x, w) :: r) x v (p0 :: p1 :: p2 :: p3 :: p4 :: (x, some v) :: r) := .there (.there (.there (.there (.there (.here)))))
theorem AAt.n5 {p0 p1 p2 p3 p4 : Str × AV} {x : Str} {v : AV} {r : List (Str × AV)} : AAt (p0 :: p1 :: p2 :: p3 :: p4 :: (x, v) :: r) x v := .there (.there (.there (.there (.there (.here)))))
theorem APut.n5 {p0 p1 p2 p3 p4 : Str × AV} {x : Str} {w v : AV} {r : List (Str × AV)} : APut (p0 :: p1 :: p2 :: p3 :: p4 :: (x, w) :: r) x v (p0 :: p1 :: p2 :: p3 :: p4 :: (x, v) :: r) := .there (.there (.there (.there (.there (.here)))))
theorem At.n6 {p0 p1 p2 p3 p4 p5 : Str × Option AV} {x : Str} {v : AV} {r : Loc} : At (p0 :: p1 :: p2 :: p3 :: p4 :: p5 :: (x, some v) :: r) x v := .there (.there (.there (.there (.there (.there (.here))))))
theorem Put.n6 {p0 p1 p2 p3 p4 p5 : Str × Option AV} {x : Str} {w : Option AV} {v : AV} {r : Loc} : Put (p0 :: p1 :: p2 :: p3 :: p4 :: p5 :: (x, w) :: r) x v (p0 :: p1 :: p2 :: p3 :: p4 :: p5 :: (x, some v) :: r) := .there (.there (.there (.there (.there (.there (.here))))))
theorem At.n7 {p0 p1 p2 p3 p4 p5 p6 : Str × Option AV} {x : Str} {v : AV} {r : Loc} : At (p0 :: p1 :: p2 :: p3 :: p4 :: p5 :: p6 :: (x, some v) :: r) x v := .there (.there (.there (.there (.there (.there (.there (.here)))))))
theorem Put.n7 {p0 p1 p2 p3 p4 p5 p6 : Str × Option AV} {x : Str} {w : Option AV} {v : AV} {r : Loc} : Put (p0 :: p1 :: p2 :: p3 :: p4 :: p5 :: p6 :: (x, w) :: r) x v (p0 :: p1 :: p2 :: p3 :: p4 :: p5 :: p6 :: (x, some v) :: r) := .there (.there (.there (.there (.there (.there (.there (.here)))))))
theorem At.n8 {p0 p1 p2 p3 p4 p5 p6 p7 : Str × Option AV} {x : Str} {v : AV} {r : Loc} : At (p0 :: p1 :: p2 :: p3 :: p4 :: p5 :: p6 :: p7 :: (x, some v) :: r) x v := .there (.there (.there (.there (.there (.there (.there (.there (.here))))))))
theorem Put.n8 {p0 p1 p2 p3 p4 p5 p6 p7 : Str × Option AV} {x : Str} {w : Option AV} {v : AV} {r : Loc} : Put (p0 :: p1 :: p2 :: p3 :: p4 :: p5 :: p6 :: p7 :: (x, w) :: r) x v (p0 :: p1 :: p2 :: p3 :: p4 :: p5 :: p6 :: p7 :: (x, some v) :: r) := .there (.there (.there (.there (.there (.there (.there (.there (.here))))))))
theorem At.n9 {p0 p1 p2 p3 p4 p5 p6 p7 p8 : Str × Option AV} {x : Str} {v : AV} {r : Loc} : At (p0 :: p1 :: p2 :: p3 :: p4 :: p5 :: p6 :: p7 :: p8 :: (x, some v) :: r) x v := .there (.there (.there (.there (.there (.there (.there (.there (.there (.here)))))))))
theorem Put.n9 {p0 p1 p2 p3 p4 p5 p6 p7 p8 : Str × Option AV} {x : Str} {w : Option AV} {v : AV} {r : Loc} : Put (p0 :: p1 :: p2 :: p3 :: p4 :: p5 :: p6 :: p7 :: p8 :: (x, w) :: r) x v (p0 :: p1 :: p2 :: p3 :: p4 :: p5 :: p6 :: p7 :: p8 :: (x, some v) :: r) := .there (.there (.there (.there (.there (.there (.there (.there (.there (.here)))))))))
end
end Mine
end
section
open PySem PySem.W PyProof.Rows PySem.Calls PySem.Spec PySem.SeqAt
set_option maxRecDepth 100000
set_option maxHeartbeats 4000000
namespace Mine
local macro_rules | `(tactic| walk_at "cm") => `(tactic| ((with_reducible refine W_CallMethod (pl := ?pl) ?_ ?hm (by intro e r h; cases h <;> kernel_rfl) (by kernel_rfl)); (case hm => rfl)))
set_option hygiene false in
local macro_rules | `(tactic| walk_at "at") => `(tactic| (with_reducible first | exact .n0 | exact .n1 | exact .n2 | exact .n3 | exact .n4 | exact .n5 | exact .n6 | exact .n7 | exact .n8 | exact .n9))
set_option hygiene false in
local macro_rules | `(tactic| walk_at "sel") => `(tactic| (with_reducible first | exact .nil | exact .cons (by walk_at "at") (by walk_at "sel")))
set_option hygiene false in
local macro_rules | `(tactic| walk_at "mg") => `(tactic| (with_reducible first | exact .nil | exact .put (by walk_at "at") (by walk_at "mg") | exact .new (by assumption) (by walk_at "mg")))
set_option hygiene false in
local macro_rules | `(tactic| walk_at "sig") => `(tactic| first | assumption | exact Hs.get (by assumption) (by walk_at "at") | exact upd_same _ _ _)
set_option hygiene false in
local macro_rules | `(tactic| walk_at "go") => `(tactic| first | ((with_reducible refine Hs.goS (by assumption) (by walk_at "at") (by with_unfolding_all rfl) ?_); intro _ _) | ((with_reducible refine Hs.goE (by assumption) (by walk_at "at") (by with_unfolding_all rfl) ?_); intro _ _))
set_option hygiene false in
local macro_rules | `(tactic| walk_at "we") => `(tactic| (with_reducible first | refine W_local (by walk_at "at") ?_ (by decide) | refine W_globalX (by (with_reducible constructor); assumption) ?_ (by kernel_rfl)))
set_option hygiene false in
local macro_rules | `(tactic| walk_at "w") => `(tactic| first
  | ((with_reducible refine (?_ : WS _ _ _ _ (Mine.upd _ _ _) _ _)); (walk_at "go"))
  | (with_reducible first
    | (refine (?_ : WE _ _ _ _ _ _ _); first
      | (refine (?_ : WE _ _ (Expr.Name _ _) _ _ _ _); walk_at "we")
      | (refine (?_ : WE _ _ (Expr.Constant _ _ _) _ _ _ _); first | refine W_int ?_ | refine W_str ?_ | refine W_none ?_ | refine W_bool ?_)
      | refine W_Attr ?_ (by kernel_rfl) | refine W_CallName ?_ (by intro e r h; cases h <;> kernel_rfl) (by kernel_rfl) | refine W_Compare ?_ (by kernel_rfl) | refine W_BinOp ?_ | ((fail_if_success refine (?_ : WE _ _ (Expr.Subscript _ (Expr.Slice _ _ _ _) _) _ _ _ _)); refine W_Subscript ?_ (by intros; kernel_rfl)) | refine W_Tuple ?_ | refine W_IfExp ?_ | refine W_neg ?_ | refine W_and ?_ | refine W_or ?_ | refine W_bool1 ?_)
    | (refine (?_ : WA _ _ _ _ _ _ _); first | refine WA_nil ?_ | refine WA_cons ?_ (by kernel_rfl))
    | (refine (?_ : WS _ _ _ _ _ _ _); first | refine WS_if ?_ | refine WS_return ?_ | refine WS_nil ?_ | refine WS_expr ?_ (by kernel_rfl) (by kernel_rfl) | refine WS_augAttr ?_ | refine WS_assignAttr ?_ (by kernel_rfl) | refine WS_return0 ?_ | refine WS_continue ?_ | refine WS_augSub ?_ (by intros; kernel_rfl))
    | (refine (?_ : WT _ _ _ _ _ _ _); first | refine WT_Compare ?_ (by kernel_rfl) | refine WT_not ?_ | refine WT_and ?_ | refine WT_and0 ?_ | refine WT_or ?_ | refine WT_or0 ?_ | refine WT_call ?_ | refine WT_name ?_ | refine WT_attr ?_ | refine WT_subs ?_)
    | (refine (?_ : W2 _ _ _ _ _ _ _ _ _); first | refine W2_add ?_ | refine W2_sub ?_ | refine W2_iadd ?_ | refine W2_isub ?_ | refine W2_lt ?_ | refine W2_gt ?_ | refine W2_le ?_ | refine W2_eqI (Rm.u64 (by assumption)) ?_ | refine W2_neI (Rm.u64 (by assumption)) ?_ | refine W2_isNot ?_ | walk_at "eqS")
    | refine WTr_bool ?_
    | (refine (?_ : asgK _ _ _ _ _ _ _ _ _); walk_at "put")
    | (refine (?_ : calK _ _ _ _ _ _ _ _); first | refine ⟨callB, ?_⟩ | refine ⟨callT, ?_⟩ | refine ⟨callK (by assumption) (by kernel_rfl), ?_⟩)
    | (refine (?_ : attK _ _ _ _ _); walk_at "get")
    | (refine (?_ : attK2 _ _ _ _ _); walk_at "get")
    | (refine (?_ : setK _ _ _ _ _ _); walk_at "set")
    | (refine (?_ : setK2 _ _ _ _ _ _); walk_at "set")
    | (refine (?_ : metK _ _ _ _ _ _ _ _ _); refine ⟨_, _, WM_append (by walk_at "sig"), callB, ?_⟩)
    | (refine (?_ : tupK _ _ _ _); first | refine tup2 ?_ | refine tup1 ?_ | refine tup3 ?_ | refine tup4 ?_ | refine tup0 ?_ | refine tup6 ?_))
  | (walk_at "cm")
  | ((with_reducible refine (?_ : WE _ _ _ _ (Mine.upd _ _ _) _ _)); (walk_at "go"))
  | (with_reducible first | refine ifT ?_ | refine ifF ?_))
set_option hygiene false in
local macro_rules | `(tactic| walk_at "set") => `(tactic| (with_reducible first | refine setA (by walk_at "sig") (atIn (by assumption) (by kernel_rfl)) (by walk_at "at") (by kernel_rfl) ?_ | refine setNewA (by walk_at "sig") (atIn (by assumption) (by kernel_rfl)) (by kernel_rfl) (by kernel_rfl) ?_ | refine setA2 (by walk_at "sig") (by walk_at "at") (by kernel_rfl) ?_))
set_option hygiene false in
local macro_rules | `(tactic| walk_at "get") => `(tactic| (with_reducible first | refine getA (by walk_at "sig") (atIn (by assumption) (by kernel_rfl)) (by walk_at "at") (by kernel_rfl) ?_ | refine getA2 (by walk_at "sig") (atIn (by assumption) (by kernel_rfl)) (by walk_at "at") (by kernel_rfl) ?_))
set_option hygiene false in
local macro_rules | `(tactic| walk_at "put") => `(tactic| (with_reducible refine ⟨_, (by walk_at "at"), ?_⟩))
set_option hygiene false in
local macro_rules | `(tactic| walk_at "eqS") => `(tactic| (with_reducible first | refine W2_neS (by first | assumption | kernel_rfl) (by first | assumption | kernel_rfl) (Rm.u64 (by assumption)) ?_ | refine W2_eqS (by first | assumption | kernel_rfl) (by first | assumption | kernel_rfl) (Rm.u64 (by assumption)) ?_))
set_option hygiene false in
local macro_rules | `(tactic| walk_at "q") => `(tactic| repeat walk_at "w")
set_option hygiene false in
local macro_rules | `(tactic| walk_at "r") => `(tactic| repeat (first | walk_at "w" | (with_reducible refine WS_assign ?_ (by kernel_rfl))))
/-! P3 -/
section
variable {B : Bs} {c : Cx} {ρ : Loc} {σ : AH} {s : Shared}

/-- what an urn holds -/
noncomputable abbrev urnL (ns : List Int) (k : Int) : AO := .list [.data (.list (ns.map .int)), .data (.int k)]


theorem tell (L : BL B) {u : Addr} {ns : List Int} {k sides : Int} {Q : AV → AH → Prop} {X : XT} (hu : σ u = some (urnL ns k)) (h0 : 0 ≤ k) (hk : k < 2 ^ 40) (hn : ns.length ≤ 100) (hs : 0 < sides) (hd : c.depth < recursionLimit)
    (q : ∀ v : Int, 0 ≤ v → v < sides → Q (.data (.int v)) (upd σ u (urnL ns (k + 1)))) : WFC B c (.val (.ref 332)) [.ref u, .data (.int sides)] ρ σ Q X := by
  refine in332 L (body := ?b) ?hb hd ?hW
  case hb => with_unfolding_all rfl
  intro L'
  walk_at "w"
  walk_at "w"
  walk_at "w"
  refine W2_get (WI_listT hu (by decide) (by decide) rfl ?_)
  walk_at "w"
  refine W2_iadd ?_
  refine W3_listT hu (by decide) (by decide) (by show 1 < 2; decide) ?_
  have hu' : upd σ u (urnL ns (k + 1)) u = some (urnL ns (k + 1)) := upd_same _ _ _
  show WS B _ _ _ (upd σ u (urnL ns (k + 1))) _ _
  generalize upd σ u (urnL ns (k + 1)) = σ₁ at *
  walk_at "w"
  walk_at "w"
  walk_at "w"
  walk_at "w"
  walk_at "w"
  walk_at "w"
  refine WI_listT hu' (by decide) (by decide) rfl ?_
  walk_at "w"
  refine W_global (glenX L) ?_ (by kernel_rfl)
  refine ⟨trivial, ?_⟩
  walk_at "w"
  walk_at "w"
  walk_at "w"
  walk_at "w"
  refine WI_listT hu' (by decide) (by decide) rfl ?_
  walk_at "w"
  refine WF_len_list (by simp [sizeLine]; lia) ?_
  refine W2_le ?_
  refine WTr_bool ?_
  show ite _ _ _
  split
  · rename_i hle
    simp only [List.length_map, decide_eq_true_eq] at hle
    walk_at "w"
    walk_at "w"
    walk_at "w"
    walk_at "w"
    walk_at "w"
    refine WI_listT hu' (by decide) (by decide) rfl ?_
    walk_at "w"
    walk_at "w"
    walk_at "w"
    walk_at "w"
    refine WI_listT hu' (by decide) (by decide) rfl ?_
    walk_at "w"
    refine W2_sub ?_
    have hi : (k + 1 - 1).toNat < ns.length := by lia
    refine WI_list (by lia) (by lia) (d := .int (ns[(k + 1 - 1).toNat])) (by rw [List.getElem?_map, List.getElem?_eq_getElem hi]; rfl) ?_
    walk_at "w"
    refine W2_mod (by lia) ?_
    exact q _ (Int.fmod_nonneg_of_pos _ hs) (Int.fmod_lt_of_pos _ hs)
  · walk_at "w"
    exact q 0 (Int.le_refl _) hs
end
/-! P4 -/
section
variable {B : Bs} {c : Cx} {ρ : Loc} {σ : AH} {s : Shared}
theorem ns_some_of {K : Frag} {h : Heap} {N : Addr} {mg : Str → Option Value} {n : Str} {v : Value} (X : K.In h) (G : h.Ns N mg) (e : nsIn K N n = some (some v)) : mg n = some v := by
  obtain ⟨o, es, ep, ho, hd, _, hf⟩ := G
  unfold nsIn at e
  split at e
  · rename_i c d es' n' sl q
    have := X _ _ q
    rw [ho] at this
    cases this
    cases hd
    split at e
    · rename_i en he
      cases e
      rw [← hf]
      unfold nsFind findBy
      rw [← Array.find?_toList, he]
      rfl
    · split at e <;> cases e
  · cases e

/-- room for so many calls -/
structure Rm (c : Cx) (n : Nat) : Prop where
  hh : c.hd = none
  d : c.depth + 2 * n ≤ 900
  u : c.units + 8 * n ≤ 9700
theorem Rm.dep {n : Nat} (R : Rm c n) : c.depth < recursionLimit := by have := R.d; unfold recursionLimit; lia
theorem Rm.u64 {n : Nat} (R : Rm c n) : c.units + 64 < cLine := by have := R.u; unfold cLine; lia
theorem Rm.u65 {n : Nat} (R : Rm c n) : c.units + 1 + 64 < cLine := by have := R.u; unfold cLine; lia
theorem Rm.u100 {n : Nat} (R : Rm c n) : c.units + 100 < cLine := by have := R.u; unfold cLine; lia
theorem Rm.child {n : Nat} {e : Env} (R : Rm c (n + 1)) : Rm (c.child e) n := ⟨R.hh, by have := R.d; show c.depth + 1 + 2 * n ≤ 900; lia, by have := R.u; show c.units + 3 + 8 * n ≤ 9700; lia⟩
theorem Rm.up {n : Nat} (R : Rm c (n + 1)) : Rm c.up n := ⟨R.hh, by have := R.d; show c.depth + 1 + 2 * n ≤ 900; lia, by have := R.u; show c.units + 1 + 8 * n ≤ 9700; lia⟩
theorem Rm.less {n m : Nat} (R : Rm c n) (h : m ≤ n) : Rm c m := ⟨R.hh, by have := R.d; lia, by have := R.u; lia⟩
theorem Cx.childFun {e : Env} {L : Addr} (h1 : e.frame = some L) (h2 : e.locals = L) : (c.child e).Fun := ⟨c.frames, rfl, by show e.frame = some e.locals; rw [h1, h2]⟩

theorem xline (C : Addr) : XLine C [.ref 31, .type "Exception", .type "BaseException", .type "object"] := ⟨by simp, by simp, by simp, by simp⟩
theorem x51 (w : World) : ∃ nm qn N bs hdct sn sub ab col dd k0 k1 k2 k3 k5, (K0 w).lookup 51 = some (excClassObj nm qn 51 N bs [.ref 31, .type "Exception", .type "BaseException", .type "object"] hdct sn sub ab col dd k0 k1 k2 k3 k5 "Exception.__new__") ∧ nsOkIn (K0 w) N = true ∧ nsIn (K0 w) N "__init__" = some (some (.ref 48)) := by
  refine ⟨?_, ?_, ?_, ?_, ?_, ?_, ?_, ?_, ?_, ?_, ?_, ?_, ?_, ?_, ?_, ?h, ?_, ?_⟩
  case h => with_unfolding_all rfl
  all_goals kernel_rfl
theorem x70 (w : World) : ∃ nm qn N bs hdct sn sub ab col dd k0 k1 k2 k3 k5, (K0 w).lookup 70 = some (excClassObj nm qn 70 N bs [.ref 31, .type "Exception", .type "BaseException", .type "object"] hdct sn sub ab col dd k0 k1 k2 k3 k5 "Exception.__new__") ∧ nsOkIn (K0 w) N = true ∧ nsIn (K0 w) N "__init__" = some (some (.ref 67)) := by
  refine ⟨?_, ?_, ?_, ?_, ?_, ?_, ?_, ?_, ?_, ?_, ?_, ?_, ?_, ?_, ?_, ?h, ?_, ?_⟩
  case h => with_unfolding_all rfl
  all_goals kernel_rfl
theorem xok51 (w : World) : XOk (K0 w) 51 [PySem.Str.ofString "text", PySem.Str.ofString "at"] where
  hs := by kernel_rfl
  hga := by kernel_rfl
  hgt := by kernel_rfl
  mro := by
    refine ⟨?_, 31, ?h, ?_, ?_⟩
    case h => with_unfolding_all rfl
    all_goals kernel_rfl
  mB := by kernel_rfl
  mO := by kernel_rfl
  tk := by
    intro n hn
    simp only [List.mem_cons, List.not_mem_nil, or_false] at hn
    rcases hn with rfl | rfl <;> exact ⟨by kernel_rfl, by kernel_rfl⟩
theorem xok70 (w : World) : XOk (K0 w) 70 [PySem.Str.ofString "text", PySem.Str.ofString "code"] where
  hs := by kernel_rfl
  hga := by kernel_rfl
  hgt := by kernel_rfl
  mro := by
    refine ⟨?_, 31, ?h, ?_, ?_⟩
    case h => with_unfolding_all rfl
    all_goals kernel_rfl
  mB := by kernel_rfl
  mO := by kernel_rfl
  tk := by
    intro n hn
    simp only [List.mem_cons, List.not_mem_nil, or_false] at hn
    rcases hn with rfl | rfl <;> exact ⟨by kernel_rfl, by kernel_rfl⟩
theorem xc51 (L : BL B) : XCls B 51 48 [PySem.Str.ofString "text", PySem.Str.ofString "at"] where
  obj := by
    obtain ⟨nm, qn, N, bs, hdct, sn, sub, ab, col, dd, k0, k1, k2, k3, k5, h1, h2, h3⟩ := x51 B.w
    exact ⟨nm, qn, N, bs, _, hdct, sn, sub, ab, col, dd, k0, k1, k2, k3, k5, by rw [L.K]; exact h1, xline 51, by rw [L.K]; exact h2, fun h X => by rw [L.K] at X; exact ns_some_of X (.of_isNs (isNs_of_in X h2)) h3⟩
  ok := by rw [L.K]; exact xok51 _
  init := by rw [L.K]; exact ⟨_, hl48 _, rfl⟩
  keep := by rw [L.K]; kernel_rfl
theorem xc70 (L : BL B) : XCls B 70 67 [PySem.Str.ofString "text", PySem.Str.ofString "code"] where
  obj := by
    obtain ⟨nm, qn, N, bs, hdct, sn, sub, ab, col, dd, k0, k1, k2, k3, k5, h1, h2, h3⟩ := x70 B.w
    exact ⟨nm, qn, N, bs, _, hdct, sn, sub, ab, col, dd, k0, k1, k2, k3, k5, by rw [L.K]; exact h1, xline 70, by rw [L.K]; exact h2, fun h X => by rw [L.K] at X; exact ns_some_of X (.of_isNs (isNs_of_in X h2)) h3⟩
  ok := by rw [L.K]; exact xok70 _
  init := by rw [L.K]; exact ⟨_, hl67 _, rfl⟩
  keep := by rw [L.K]; kernel_rfl
theorem wm31 (L : BL B) : WM B c (.val (.ref 31)) "__init__" (.val (.ref 28)) [] σ := WM_cls (by rw [L.K]; kernel_rfl) (by rw [L.K]; kernel_rfl) (by rw [L.K]; kernel_rfl) rfl
theorem wmExc (L : BL B) : WM B c (.val (.type "Exception")) "__init__" (.val (.builtin "Exception.__init__")) [] σ := WM_type (by kernel_rfl) (by decide +kernel) (by rw [L.K]; kernel_rfl) rfl

/-- an exception that is made -/
noncomputable def xMade (σ : AH) (C : Addr) (es : List (Str × AV)) (x : Addr) (σ' : AH) : Prop := ∃ D fs, σ' x = some (xRaw C (some D) fs) ∧ σ' D = some (.dictS es) ∧ 5 < fs.size ∧ fs[1]? = some .none ∧ D ≠ x ∧ σ D = none ∧ ∀ b, b ≠ x → b ≠ D → σ' b = σ b
theorem init28 (L : BL B) {C fI x t0 : Addr} {names : List Str} {t : Str} {fs : Array Value} {Q : AV → AH → Prop} {X : XT} (H : XCls B C fI names) (hn : PySem.Str.ofString "text" ∈ names) (R : Rm c 1) (hσ : σ x = some (xRaw C none fs)) (hf : fs[0]? = some (.ref t0)) (hf5 : 5 < fs.size) (hf1 : fs[1]? = some .none)
    (q : ∀ σ', xMade σ C [(PySem.Str.ofString "text", .data (.str t))] x σ' → Q (.data .none) σ') : WFC B c (.val (.ref 28)) [.ref x, .data (.str t)] ρ σ Q X := by
  refine in28 L (body := ?b) ?hb R.dep ?hW
  case hb => with_unfolding_all rfl
  intro L'
  walk_at "w"
  walk_at "w"
  refine W_global (gExceptionX L) ?_ (by kernel_rfl)
  refine ⟨_, _, wmExc L, trivial, ?_⟩
  walk_at "w"
  walk_at "w"
  walk_at "w"
  walk_at "w"
  walk_at "w"
  refine WF_xinit H hσ hf (by show 1 ≤ 1000; decide) fun t' => ?_
  refine WS_xset_new H hn ?_ (by kernel_rfl)
  walk_at "w"
  walk_at "w"
  refine ⟨x, _, rfl, upd_same _ _ _, fun D hD hDx => ?_⟩
  refine WS_nil (q _ ⟨D, _, by rw [upd_ne (Ne.symm hDx), upd_same], upd_same _ _ _, ?_, ?_, hDx, ?_, fun b h1 h2 => ?_⟩)
  · simpa using hf5
  · rw [Array.getElem?_setIfInBounds]; simpa using hf1
  · rw [upd_ne hDx] at hD; exact hD
  · rw [upd_ne h2, upd_ne h1, upd_ne h1]

theorem xMade.grow {C : Addr} {es : List (Str × AV)} {x : Addr} {σ' : AH} (h : xMade σ C es x σ') {a : AV} {n : Str} {D : Addr} {fs : Array Value} (h1 : σ' x = some (xRaw C (some D) fs)) (h2 : σ' D = some (.dictS es)) : xMade σ C (es ++ [(n, a)]) x (upd σ' D (.dictS (es ++ [(n, a)]))) := by
  obtain ⟨D', fs', e1, e2, e3, e4, e5, e6, e7⟩ := h
  rw [h1] at e1; cases e1
  exact ⟨D, fs, by rw [upd_ne (Ne.symm e5)]; exact h1, upd_same _ _ _, e3, e4, e5, e6, fun b b1 b2 => by rw [upd_ne b2]; exact e7 b b1 b2⟩
theorem init48 (L : BL B) {x t0 : Addr} {t : Str} {v : AV} {fs : Array Value} {Q : AV → AH → Prop} {X : XT} (R : Rm c 2) (hσ : σ x = some (xRaw 51 none fs)) (hf : fs[0]? = some (.ref t0)) (hf5 : 5 < fs.size) (hf1 : fs[1]? = some .none)
    (q : ∀ σ', xMade σ 51 [(PySem.Str.ofString "text", .data (.str t)), (PySem.Str.ofString "at", v)] x σ' → Q (.data .none) σ') : WFC B c (.val (.ref 48)) [.ref x, v, .data (.str t)] ρ σ Q X := by
  refine in48 L (body := ?b) ?hb R.dep ?hW
  case hb => with_unfolding_all rfl
  intro L'
  walk_at "w"
  walk_at "w"
  refine W_global (gF77ErrorX L) ?_ (by kernel_rfl)
  refine ⟨_, _, wm31 L, (by show keepIn B.K (.ref 28) = true; rw [L.K]; kernel_rfl), ?_⟩
  walk_at "w"
  walk_at "w"
  walk_at "w"
  walk_at "w"
  walk_at "w"
  refine WF_of (init28 L (xc51 L) (.head _) R.child hσ hf hf5 hf1 fun σ₁ hm => ?_)
  have hm' := hm
  obtain ⟨D, fs', e1, e2, e3, e4, e5, e6, e7⟩ := hm'
  refine WS_xset (xc51 L) (.tail _ (.head _)) ?_ (by kernel_rfl)
  walk_at "w"
  walk_at "w"
  refine ⟨x, D, fs', _, rfl, e1, e2, by show PySem.Str.ofString "at" ∉ [PySem.Str.ofString "text"]; decide, by show 1 ≤ 100; decide, ?_⟩
  exact WS_nil (q _ (hm.grow e1 e2))
theorem init67 (L : BL B) {x t0 : Addr} {t : Str} {v : AV} {fs : Array Value} {Q : AV → AH → Prop} {X : XT} (R : Rm c 2) (hσ : σ x = some (xRaw 70 none fs)) (hf : fs[0]? = some (.ref t0)) (hf5 : 5 < fs.size) (hf1 : fs[1]? = some .none)
    (q : ∀ σ', xMade σ 70 [(PySem.Str.ofString "text", .data (.str t)), (PySem.Str.ofString "code", v)] x σ' → Q (.data .none) σ') : WFC B c (.val (.ref 67)) [.ref x, v, .data (.str t)] ρ σ Q X := by
  refine in67 L (body := ?b) ?hb R.dep ?hW
  case hb => with_unfolding_all rfl
  intro L'
  walk_at "w"
  walk_at "w"
  refine W_global (gF77ErrorX L) ?_ (by kernel_rfl)
  refine ⟨_, _, wm31 L, (by show keepIn B.K (.ref 28) = true; rw [L.K]; kernel_rfl), ?_⟩
  walk_at "w"
  walk_at "w"
  walk_at "w"
  walk_at "w"
  walk_at "w"
  refine WF_of (init28 L (xc70 L) (.head _) R.child hσ hf hf5 hf1 fun σ₁ hm => ?_)
  have hm' := hm
  obtain ⟨D, fs', e1, e2, e3, e4, e5, e6, e7⟩ := hm'
  refine WS_xset (xc70 L) (.tail _ (.head _)) ?_ (by kernel_rfl)
  walk_at "w"
  walk_at "w"
  refine ⟨x, D, fs', _, rfl, e1, e2, by show PySem.Str.ofString "code" ∉ [PySem.Str.ofString "text"]; decide, by show 1 ≤ 100; decide, ?_⟩
  exact WS_nil (q _ (hm.grow e1 e2))

/-- what was tracked stays -/
noncomputable def Grew (σ σ' : AH) : Prop := ∀ b ao, σ b = some ao → σ' b = some ao
theorem Grew.refl : Grew σ σ := fun _ _ e => e
theorem Grew.trans {σ' σ'' : AH} (x : Grew σ σ') (y : Grew σ' σ'') : Grew σ σ'' := fun b ao e => y b ao (x b ao e)
theorem Grew.new {a : Addr} {ao : AO} (h : σ a = none) : Grew σ (upd σ a ao) := fun b bo e => by rw [upd_ne]; exact e; rintro rfl; rw [h] at e; cases e

/-- an own exception is raised -/
noncomputable def XMsg (C : Addr) (nm : Str) (v : AV) (x : Addr) (σ' : AH) : Prop := ∃ D t, σ' x = some (.exc C D [(PySem.Str.ofString "text", .data (.str t)), (nm, v)])
theorem raised {C x : Addr} {es : List (Str × AV)} {σ' : AH} {t0 : Addr} (hx : σ x = none) (h : xMade (upd σ x (xRaw C none #[.ref t0, .none, .none, .none, .bool false, .none])) C es x σ') :
    ∃ D fs, σ' x = some (xRaw C (some D) fs) ∧ σ' D = some (.dictS es) ∧ 5 < fs.size ∧ fs[1]? = some .none ∧ Grew σ (upd (upd σ' x (.exc C D es)) D (.own x)) ∧ upd (upd σ' x (.exc C D es)) D (.own x) x = some (.exc C D es) := by
  obtain ⟨D, fs, e1, e2, e3, e4, e5, e6, e7⟩ := h
  rw [upd_ne e5] at e6
  refine ⟨D, fs, e1, e2, e3, e4, fun b ao e => ?_, by rw [upd_ne (Ne.symm e5), upd_same]⟩
  have hbx : b ≠ x := by rintro rfl; rw [hx] at e; cases e
  have hbD : b ≠ D := by rintro rfl; rw [e6] at e; cases e
  rw [upd_ne hbD, upd_ne hbx, e7 b hbx hbD, upd_ne hbx]; exact e
section
variable {Q : QS} {X : XT}
theorem raise51 (L : BL B) (R : Rm c 3) {e1 e2 : Expr} {np cp pos : Pos} {rest : List Stmt} {v : AV} {t : Str} (hk : c.env.kindOf (PySem.Str.ofString "FormatFault") = some .globalImplicit)
    (h : ∀ Q' : List AV → AH → Prop, Q' [v, .data (.str t)] σ → WA B c [e1, e2] ρ σ Q' X) (hx : ∀ x σ', Grew σ σ' → XMsg 51 (PySem.Str.ofString "at") v x σ' → X x ρ σ')
    (he : ∀ e r, [e1, e2] = e :: r → starEach (e :: r) c.env = (false, eval e c.env) :: starEach r c.env) (hpl : (backTo cp (starEach [e1, e2] c.env)).any (·.1) = false) :
    WS B c (.Raise (some (.Call (.Name (PySem.Str.ofString "FormatFault") np) [e1, e2] [] cp)) none pos :: rest) ρ σ Q X := by
  refine WS_raise (xc51 L) R.hh (W_CallName (W_global (gFormatFaultX L) ⟨(xc51 L).keep, ?_⟩ hk) he hpl)
  refine h _ (WF_makeX (xc51 L) (by show 2 ≤ 1000; decide) fun x t0 hx0 => ?_)
  refine WF_of (init48 L R.up (upd_same _ _ _) rfl (by show 5 < 6; decide) rfl fun σ' hm => ⟨rfl, ?_⟩)
  obtain ⟨D, fs, h1, h2, h3, h4, h5, h6⟩ := raised hx0 hm
  exact ⟨x, D, _, fs, rfl, h1, h2, h3, h4, hx x _ h5 ⟨D, t, h6⟩⟩
theorem raise70 (L : BL B) (R : Rm c 3) {e1 e2 : Expr} {np cp pos : Pos} {rest : List Stmt} {v : AV} {t : Str} (hk : c.env.kindOf (PySem.Str.ofString "IoFault") = some .globalImplicit)
    (h : ∀ Q' : List AV → AH → Prop, Q' [v, .data (.str t)] σ → WA B c [e1, e2] ρ σ Q' X) (hx : ∀ x σ', Grew σ σ' → XMsg 70 (PySem.Str.ofString "code") v x σ' → X x ρ σ')
    (he : ∀ e r, [e1, e2] = e :: r → starEach (e :: r) c.env = (false, eval e c.env) :: starEach r c.env) (hpl : (backTo cp (starEach [e1, e2] c.env)).any (·.1) = false) :
    WS B c (.Raise (some (.Call (.Name (PySem.Str.ofString "IoFault") np) [e1, e2] [] cp)) none pos :: rest) ρ σ Q X := by
  refine WS_raise (xc70 L) R.hh (W_CallName (W_global (gIoFaultX L) ⟨(xc70 L).keep, ?_⟩ hk) he hpl)
  refine h _ (WF_makeX (xc70 L) (by show 2 ≤ 1000; decide) fun x t0 hx0 => ?_)
  refine WF_of (init67 L R.up (upd_same _ _ _) rfl (by show 5 < 6; decide) rfl fun σ' hm => ⟨rfl, ?_⟩)
  obtain ⟨D, fs, h1, h2, h3, h4, h5, h6⟩ := raised hx0 hm
  exact ⟨x, D, _, fs, rfl, h1, h2, h3, h4, hx x _ h5 ⟨D, t, h6⟩⟩
end
end
/-! P5 -/
section
variable {B : Bs} {c : Cx} {ρ : Loc} {σ : AH} {s : Shared}
theorem WFC.mono {f : AV} {args : List AV} {Q Q' : AV → AH → Prop} {X X' : XT} (H : WFC B c f args ρ σ Q X) (hQ : ∀ y σ', Q y σ' → Q' y σ') (hX : ∀ a ρ' σ', X a ρ' σ' → X' a ρ' σ') : WFC B c f args ρ σ Q' X' := fun v vs s S r1 r2 => by
  refine codeAny_mono (H v vs s S r1 r2) fun r s' z => ?_
  rcases r with e | (v | _ | _ | _) <;> first | exact z.elim | skip
  · obtain ⟨a, ρ', σ', e1, S', E', F', q⟩ := z
    exact ⟨a, ρ', σ', e1, S', E', F', hX a ρ' σ' q⟩
  · obtain ⟨y, σ', S', E', r', q⟩ := z
    exact ⟨y, σ', S', E', r', hQ y σ' q⟩
theorem fell (L : BL B) {n : Nat} {fd : FuncData} {Q : AV → AH → Prop} {X : XT} (R : Rm c (n + 1))
    (h : ∀ (c' : Cx) (ρ' : Loc), Rm c' n → WFC B c' (.clo fd) [] ρ' σ (fun r σ' => ∃ d, r = .data d ∧ Q (.data (.tuple [d, .none])) σ')
      (fun x ρ₁ σ' => ρ₁ = ρ' ∧ ((∃ v : Int, XMsg 51 (PySem.Str.ofString "at") (.data (.int v)) x σ' ∧ Q (.data (.tuple [.none, .int v])) σ') ∨ (∃ v : Int, XMsg 70 (PySem.Str.ofString "code") (.data (.int v)) x σ' ∧ Q (.data (.tuple [.none, .int v])) σ')))) :
    WFC B c (.val (.ref 339)) [.clo fd] ρ σ Q X := by
  refine in339 L (body := ?b) ?hb R.dep ?hW
  case hb => with_unfolding_all rfl
  intro L'
  refine WS_cons ?_
  have hF : (c.child (callEnv (fdOf B.w.params 339) L' 339)).Fun := Cx.childFun rfl rfl
  generalize hXb : (fun (x : Addr) (ρ' : Loc) (σ' : AH) => ρ' = [(PySem.Str.ofString "call", some (AV.clo fd)), (PySem.Str.ofString "fault", none)] ∧ ((∃ v : Int, XMsg 51 (PySem.Str.ofString "at") (.data (.int v)) x σ' ∧ Q (.data (.tuple [.none, .int v])) σ') ∨ (∃ v : Int, XMsg 70 (PySem.Str.ofString "code") (.data (.int v)) x σ' ∧ Q (.data (.tuple [.none, .int v])) σ'))) = Xb
  with_reducible refine WX_try (Xb := Xb) hF ?body fun x ρ' σ' hx0 => ?han
  case' body => subst hXb
  case' han => subst hXb; obtain ⟨hρ, hx⟩ := hx0
  case body =>
    walk_at "w"
    walk_at "w"
    walk_at "w"
    walk_at "w"
    walk_at "w"
    refine ⟨trivial, ?_⟩
    walk_at "w"
    refine WF_of (WFC.mono (h _ _ R.child) ?_ ?_)
    · rintro r σ' ⟨d, rfl, q⟩
      walk_at "w"
      walk_at "w"
      walk_at "w"
      exact ⟨[d, .none], rfl, by show 2 ≤ _; unfold sizeLine; lia, q⟩
    · rintro a ρ' σ' ⟨rfl, hx⟩
      exact ⟨rfl, hx⟩
  case han =>
    subst hρ
    rcases hx with ⟨v, ⟨D, t, hm⟩, q⟩ | ⟨v, ⟨D, t, hm⟩, q⟩
    · refine WH_hit (ρ₂ := []) R.hh hm (xc51 L) (gFormatFaultX L) (.there .here) ?_ (by kernel_rfl)
      walk_at "w"
      walk_at "w"
      walk_at "w"
      walk_at "w"
      walk_at "w"
      refine W_AttrX (xc51 L) (.tail _ (.head _)) ?_ (by kernel_rfl)
      walk_at "w"
      refine ⟨x, D, _, _, rfl, hm, .there .here, rfl, ?_⟩
      walk_at "w"
      exact ⟨[.none, .int v], rfl, by show 2 ≤ _; unfold sizeLine; lia, rfl, q⟩
    · refine WH_skip hm (xc70 L) (xc51 L) (gFormatFaultX L) (by rw [L.K]; kernel_rfl) ?_ (by kernel_rfl)
      refine WH_hit (ρ₂ := []) R.hh hm (xc70 L) (gIoFaultX L) (.there .here) ?_ (by kernel_rfl)
      walk_at "w"
      walk_at "w"
      walk_at "w"
      walk_at "w"
      walk_at "w"
      refine W_AttrX (xc70 L) (.tail _ (.head _)) ?_ (by kernel_rfl)
      walk_at "w"
      refine ⟨x, D, _, _, rfl, hm, .there .here, rfl, ?_⟩
      walk_at "w"
      exact ⟨[.none, .int v], rfl, by show 2 ≤ _; unfold sizeLine; lia, rfl, q⟩
end
/-! P6 -/
section
variable {B : Bs} {c : Cx} {ρ : Loc} {σ : AH} {s : Shared}
noncomputable def wt (k : Int) : Int := if k = 5 then 0 else if k = 2 ∨ k = 3 then 2 else 1
theorem unitsOf (L : BL B) {n : Nat} (R : Rm c (n + 1)) {k : Int} {Q : AV → AH → Prop} {X : XT} (q : Q (.data (.int (wt k))) σ) : WFC B c (.val (.ref 79)) [.data (.int k)] ρ σ Q X := by
  refine in79 L (body := ?b) ?hb R.dep ?hW
  case hb => with_unfolding_all rfl
  intro L'
  have R' := R.child (e := callEnv (fdOf B.w.params 79) L' 79)
  unfold wt at q
  walk_at "r"
  refine ifD (fun h => ?_) fun h => ?_
  · walk_at "r"
    rw [if_pos h] at q
    exact q
  · rw [if_neg h] at q
    walk_at "r"
    refine ifD (fun h2 => ?_) fun h2 => ?_
    · walk_at "r"
      rw [if_pos (.inl h2)] at q
      exact q
    · walk_at "r"
      refine ifD (fun h3 => ?_) fun h3 => ?_
      · walk_at "r"
        rw [if_pos (.inr h3)] at q
        exact q
      · walk_at "r"
        rw [if_neg (by lia)] at q
        exact q
end
/-! P7 -/
section
variable {B : Bs} {c : Cx} {ρ : Loc} {σ : AH} {s : Shared}
noncomputable abbrev filA (len : Int) (nd : Addr) : List (Str × AV) := [(PySem.Str.ofString "name", .data (.str (PySem.Str.ofString "d"))), (PySem.Str.ofString "access", .data (.str (PySem.Str.ofString "DIRECT"))), (PySem.Str.ofString "form", .data (.str (PySem.Str.ofString "UNFORMATTED"))), (PySem.Str.ofString "length", .data (.int len)), (PySem.Str.ofString "records", .data (.list [])), (PySem.Str.ofString "numbered", .ref nd)]
noncomputable abbrev uniA (f : Addr) (p : Int) : List (Str × AV) := [(PySem.Str.ofString "number", .data (.int 4)), (PySem.Str.ofString "file", .ref f), (PySem.Str.ofString "blank", .data .none), (PySem.Str.ofString "place", .data (.int p))]
/-- a unit that is linked to a direct file -/
structure Un (σ : AH) (u f nd du df : Addr) (len p : Int) (es : List (Int × AV)) : Prop where
  hu : σ u = some (.inst 286 du (uniA f p))
  hf : σ f = some (.inst 265 df (filA len nd))
  hn : σ nd = some (.dictI es)
  ns : nd ≠ sysModules
theorem Un.grow {u f nd du df : Addr} {len p : Int} {es : List (Int × AV)} (U : Un σ u f nd du df len p es) {σ' : AH} (G : Grew σ σ') : Un σ' u f nd du df len p es := ⟨G _ _ U.hu, G _ _ U.hf, G _ _ U.hn, U.ns⟩
theorem Grew.off {σ' σ'' : AH} {it : Addr} (G : Grew σ σ') (h : σ it = none) (e : ∀ b, b ≠ it → σ'' b = σ' b) : Grew σ σ'' := fun b ao q => by
  rw [e b (by rintro rfl; rw [h] at q; cases q)]; exact G b ao q
theorem needAccess (L : BL B) {n : Nat} (R : Rm c (n + 1)) {u f nd du df : Addr} {len p : Int} {es : List (Int × AV)} (U : Un σ u f nd du df len p es) {Q : AV → AH → Prop} {X : XT} (q : Q (.data .none) σ) : WFC B c (.val (.ref 297)) [.ref u, .data (.str (PySem.Str.ofString "DIRECT"))] ρ σ Q X := by
  refine in297 L (body := ?b) ?hb R.dep ?hW
  case hb => with_unfolding_all rfl
  intro L'
  have R' := R.child (e := callEnv (fdOf B.w.params 297) L' 297)
  obtain ⟨hu, hf, hn, ns⟩ := U
  walk_at "r"
  refine ifB (fun h => absurd h (by decide)) fun h => ?_
  walk_at "r"
  exact q
/-- an item of a record -/
noncomputable def itD (kv : Int × PyData) : PyData := .tuple [.int kv.1, kv.2]
noncomputable def wtI (kv : Int × PyData) : Int := if kv.1 = 5 then (match kv.2 with | .str s => (s.length : Int) | _ => 0) else wt kv.1
noncomputable def sz (l : List (Int × PyData)) : Int := (l.map wtI).sum
noncomputable def goodI (kv : Int × PyData) : Prop := kv.1 = 5 → ∃ s, kv.2 = .str s ∧ s.length ≤ 100
theorem sizeOf (L : BL B) {n : Nat} (R : Rm c (n + 2)) {l : List (Int × PyData)} (hg : ∀ kv ∈ l, goodI kv) {Q : AV → AH → Prop} {X : XT} (q : ∀ σ', Grew σ σ' → Q (.data (.int (sz l))) σ') : WFC B c (.val (.ref 304)) [.data (.list (l.map itD))] ρ σ Q X := by
  refine in304 L (body := ?b) ?hb R.dep ?hW
  case hb => with_unfolding_all rfl
  intro L'
  have R' := R.child (e := callEnv (fdOf B.w.params 304) L' 304)
  have hF : (c.child (callEnv (fdOf B.w.params 304) L' 304)).Fun := Cx.childFun rfl rfl
  walk_at "r"
  refine WF_isi_list ?_
  walk_at "r"
  refine WS_forG (I := fun σ₀ ds ρ₁ σ₁ => Grew σ σ₁ ∧ ∃ (acc : Int) (a b : Option AV) (r : List (Int × PyData)), ds = r.map itD ∧ (∀ kv ∈ r, goodI kv) ∧ acc + sz r = sz l ∧ ρ₁ = [(PySem.Str.ofString "record", some (.data (.list (l.map itD)))), (PySem.Str.ofString "size", some (.data (.int acc))), (PySem.Str.ofString "kind", a), (PySem.Str.ofString "value", b)] ∧ (∀ it, σ₀ it = none → σ it = none)) hF R'.hh ?_ ?_ ?_ ?_ (by intro x; kernel_rfl)
  · rintro σ₀ it ds ρ₁ σ₁ σ₂ h0 ⟨G, acc, a, b, r, e1, e2, e3, e4, e5⟩ e
    exact ⟨G.off (e5 it h0) e, acc, a, b, r, e1, e2, e3, e4, e5⟩
  · walk_at "r"
    exact ⟨_, Itb.list, Grew.refl, 0, none, none, l, rfl, hg, by lia, rfl, fun _ h => h⟩
  · rintro σ₀ d ds ρ₁ σ₁ ⟨G, acc, a, b, r, e1, e2, e3, rfl, e5⟩
    cases r with
    | nil => cases e1
    | cons kv r =>
    obtain ⟨k, v⟩ := kv
    rw [List.map_cons] at e1
    obtain ⟨rfl, rfl⟩ := List.cons.inj e1
    show WU _ _ _ (.data (.tuple [.int k, v])) _ _ _ _
    refine WU_tuple R'.hh rfl ?_ (by kernel_rfl)
    refine WUL_cons ?_
    refine WU_name (.there (.there .here)) ?_
    refine WUL_cons ?_
    refine WU_name (.there (.there (.there .here))) ?_
    refine WUL_nil ?_
    refine ⟨fun _ _ h => h, ?_⟩
    refine WS_augName (.there .here) ?_
    walk_at "r"
    refine ifD (fun h => ?_) fun h => ?_
    · obtain ⟨x, rfl, hx⟩ := e2 (k, v) (.head _) h
      walk_at "r"
      refine WF_len_str (by unfold sizeLine; lia) ?_
      walk_at "r"
      refine ⟨fun _ _ h => h, G, _, _, _, r, rfl, fun kv h => e2 kv (.tail _ h), ?_, rfl, e5⟩
      rw [← e3]
      unfold sz
      rw [List.map_cons, List.sum_cons]
      show _ = acc + ((if k = 5 then (x.length : Int) else wt k) + _)
      rw [if_pos h]; lia
    · walk_at "r"
      refine WF_of (unitsOf L R' ?_)
      walk_at "r"
      refine ⟨fun _ _ h => h, G, _, _, _, r, rfl, fun kv h => e2 kv (.tail _ h), ?_, rfl, e5⟩
      rw [← e3]
      unfold sz
      rw [List.map_cons, List.sum_cons]
      show _ = acc + ((if k = 5 then _ else wt k) + _)
      rw [if_neg h]; lia
  · rintro σ₀ ρ₁ σ₁ ⟨G, acc, a, b, r, e1, e2, e3, rfl, e5⟩
    have : r = [] := by cases r with
      | nil => rfl
      | cons _ _ => cases e1
    subst this
    walk_at "w"
    walk_at "w"
    have : acc = sz l := by rw [← e3]; unfold sz; simp
    subst this
    exact q _ G
end
/-! P8 -/
section
variable {B : Bs} {c : Cx} {ρ : Loc} {σ : AH} {s : Shared}
theorem readDirect (L : BL B) {n : Nat} (R : Rm c (n + 4)) {u f nd du df : Addr} {len p k : Int} {es : List (Int × AV)} (U : Un σ u f nd du df len p es) {Q : AV → AH → Prop} {X : XT}
    (hno : k ∉ es.map (·.1) → ∀ x σ', Grew σ σ' → XMsg 70 (PySem.Str.ofString "code") (.data (.int 18)) x σ' → X x ρ σ')
    (q : ∀ av, (k, av) ∈ es → Q av (upd σ u (.inst 286 du (uniA f k)))) : WFC B c (.val (.ref 311)) [.ref u, .data (.int k)] ρ σ Q X := by
  refine in311 L (body := ?b) ?hb R.dep ?hW
  case hb => with_unfolding_all rfl
  intro L'
  have R' := R.child (e := callEnv (fdOf B.w.params 311) L' 311)
  obtain ⟨hu, hf, hn, ns⟩ := id U
  walk_at "r"
  refine WF_of (needAccess L R' U ?_)
  walk_at "r"
  refine W2_notInDict (d := kdI B) hn ns ?_
  walk_at "r"
  refine ifN (fun h => ?_) fun h => ?_
  · refine raise70 L (v := .data (.int 18)) (t := PySem.Str.ofString "no such record") (R'.less (by lia)) ?hk ?h ?hx ?he ?hpl
    case hk => kernel_rfl
    case h =>
      intro Q' q'
      walk_at "r"
      exact q'
    case hx => exact fun x σ' G M => hno h x σ' G M
    case he => intro e r h; cases h <;> kernel_rfl
    case hpl => kernel_rfl
  · walk_at "r"
    have hu' := upd_same σ u (.inst 286 du (uniA f k))
    have hf' := upd_keep (o := .inst 286 du (uniA f k)) hf hu (by nofun)
    have hn' := upd_keep (o := .inst 286 du (uniA f k)) hn hu (by nofun)
    revert q hu' hf' hn'
    show _ → _ → _ → _ → attK _ _ _ (.ref f) (upd σ u (.inst 286 du (uniA f k)))
    generalize upd σ u (.inst 286 du (uniA f k)) = σ₁
    intro q hu' hf' hn'
    walk_at "r"
    obtain ⟨kv, hkv, e⟩ := List.mem_map.mp h
    obtain rfl := e
    exact WI_dict (d := kdI B) hn' hkv (q _ hkv)
/-- what a write of a record leaves -/
structure Wrote (σ σ' : AH) (u f nd du df : Addr) (len k : Int) (es : List (Int × AV)) : Prop where
  U : Un σ' u f nd du df len k es
  keep : ∀ b ao, σ b = some ao → b ≠ u → b ≠ nd → σ' b = some ao
theorem writeDirect (L : BL B) {n : Nat} (R : Rm c (n + 4)) {u f nd du df : Addr} {len p k : Int} {es : List (Int × AV)} (U : Un σ u f nd du df len p es) {l : List (Int × PyData)} (hg : ∀ kv ∈ l, goodI kv) (hz : es.length ≤ 1000) {Q : AV → AH → Prop} {X : XT}
    (h18 : k < 1 → ∀ x σ', Grew σ σ' → XMsg 70 (PySem.Str.ofString "code") (.data (.int 18)) x σ' → X x ρ σ')
    (h19 : ¬ k < 1 → len < sz l → ∀ x σ', Grew σ σ' → XMsg 70 (PySem.Str.ofString "code") (.data (.int 19)) x σ' → X x ρ σ')
    (q : ¬ k < 1 → ¬ len < sz l → ∀ σ', Wrote σ σ' u f nd du df len k (storedA es k (.data (.list (l.map itD)))) → Q (.data .none) σ') : WFC B c (.val (.ref 318)) [.ref u, .data (.int k), .data (.list (l.map itD))] ρ σ Q X := by
  refine in318 L (body := ?b) ?hb R.dep ?hW
  case hb => with_unfolding_all rfl
  intro L'
  have R' := R.child (e := callEnv (fdOf B.w.params 318) L' 318)
  obtain ⟨hu, hf, hn, ns⟩ := id U
  walk_at "r"
  refine WF_of (needAccess L R' U ?_)
  walk_at "r"
  refine ifD (fun h => ?_) fun h => ?_
  · refine raise70 L (v := .data (.int 18)) (t := PySem.Str.ofString "no such record") (R'.less (by lia)) ?hk ?h ?hx ?he ?hpl
    case hk => kernel_rfl
    case h =>
      intro Q' q'
      walk_at "r"
      exact q'
    case hx => exact fun x σ' G M => h18 h x σ' G M
    case he => intro e r h; cases h <;> kernel_rfl
    case hpl => kernel_rfl
  · walk_at "r"
    refine WF_of (sizeOf L R' hg fun σ₁ G => ?_)
    have U₁ := U.grow G
    obtain ⟨hu₁, hf₁, hn₁, _⟩ := id U₁
    clear hu hf hn
    walk_at "r"
    refine ifD (fun h2 => ?_) fun h2 => ?_
    · refine raise70 L (v := .data (.int 19)) (t := PySem.Str.ofString "a record that is too long") (R'.less (by lia)) ?hk2 ?h2 ?hx2 ?he2 ?hpl2
      case hk2 => kernel_rfl
      case h2 =>
        intro Q' q'
        walk_at "r"
        exact q'
      case hx2 => exact fun x σ' G' M => h19 h h2 x σ' (G.trans G') M
      case he2 => intro e r h; cases h <;> kernel_rfl
      case hpl2 => kernel_rfl
    · walk_at "r"
      refine WF_isi_list ?_
      walk_at "r"
      refine WS_assignTo ?_ (by kernel_rfl)
      walk_at "r"
      refine WU_sub ?_
      walk_at "r"
      refine W3_dict (d := kdI B) hn₁ hz ?_
      have hu' := upd_keep (o := .dictI (storedA es k (.data (.list (l.map itD))))) hu₁ hn₁ (by nofun)
      have hf' := upd_keep (o := .dictI (storedA es k (.data (.list (l.map itD))))) hf₁ hn₁ (by nofun)
      have hn' := upd_same σ₁ nd (.dictI (storedA es k (.data (.list (l.map itD)))))
      have keep : ∀ b ao, σ b = some ao → b ≠ nd → upd σ₁ nd (.dictI (storedA es k (.data (.list (l.map itD))))) b = some ao := fun b ao e h => by rw [upd_ne h]; exact G b ao e
      show WS _ _ _ _ (upd σ₁ nd (.dictI (storedA es k (.data (.list (l.map itD)))))) _ _
      generalize upd σ₁ nd (.dictI (storedA es k (.data (.list (l.map itD))))) = σ₂ at *
      walk_at "r"
      exact q h h2 _ ⟨⟨upd_same _ _ _, upd_keep hf' hu' (by nofun), upd_keep hn' hu' (by nofun), ns⟩, fun b ao e h1 h2 => by rw [upd_ne h1]; exact keep b ao e h2⟩
end
/-! P9 -/
section
variable {B : Bs} {c : Cx} {ρ : Loc} {σ : AH} {s : Shared}
theorem initFile (L : BL B) {n : Nat} (R : Rm c (n + 1)) {x dx : Addr} {len : Int} (hx : σ x = some (.inst 265 dx [])) {Q : AV → AH → Prop} {X : XT}
    (q : ∀ σ' nd, σ nd = none → nd ≠ sysModules → σ' x = some (.inst 265 dx (filA len nd)) → σ' nd = some (.dictI []) → (∀ b, b ≠ x → b ≠ nd → σ' b = σ b) → Q (.data .none) σ') : WFC B c (.val (.ref 262)) [.ref x, .data (.str (PySem.Str.ofString "d")), .data (.str (PySem.Str.ofString "DIRECT")), .data (.str (PySem.Str.ofString "UNFORMATTED")), .data (.int len)] ρ σ Q X := by
  refine in262 L (body := ?b) ?hb R.dep ?hW
  case hb => with_unfolding_all rfl
  intro L'
  have R' := R.child (e := callEnv (fdOf B.w.params 262) L' 262)
  walk_at "r"
  refine W_List ?_
  walk_at "w"
  refine ⟨[], rfl, by show 0 ≤ _; lia, ?_⟩
  walk_at "r"
  refine W_Dict0 (d := kdI B) fun nd hnd hs => ?_
  obtain ⟨h0, hne⟩ := upd_none hnd
  have hnd0 := (upd_none (upd_none (upd_none (upd_none h0).1).1).1).1
  walk_at "w"
  refine setNewA (C := 265) (dx := dx) (ats := [(PySem.Str.ofString "name", .data (.str (PySem.Str.ofString "d"))), (PySem.Str.ofString "access", .data (.str (PySem.Str.ofString "DIRECT"))), (PySem.Str.ofString "form", .data (.str (PySem.Str.ofString "UNFORMATTED"))), (PySem.Str.ofString "length", .data (.int len)), (PySem.Str.ofString "records", .data (.list []))]) ?_ (atIn L (by kernel_rfl)) (by kernel_rfl) (by kernel_rfl) ?_
  · rw [upd_ne (Ne.symm hne)]; exact upd_same _ _ _
  walk_at "r"
  refine q _ nd hnd0 hs (upd_same _ _ _) ?_ fun b h1 h2 => ?_
  · rw [upd_ne hne]; exact upd_same _ _ _
  · rw [upd_ne h1]
    show upd _ nd _ b = _
    rw [upd_ne h2]
    iterate 5 rw [upd_ne h1]
theorem initUnit (L : BL B) {n : Nat} (R : Rm c (n + 1)) {x dx f : Addr} (hx : σ x = some (.inst 286 dx [])) {Q : AV → AH → Prop} {X : XT}
    (q : ∀ σ', σ' x = some (.inst 286 dx (uniA f 0)) → (∀ b, b ≠ x → σ' b = σ b) → Q (.data .none) σ') : WFC B c (.val (.ref 283)) [.ref x, .data (.int 4), .ref f, .data .none] ρ σ Q X := by
  refine in283 L (body := ?b) ?hb R.dep ?hW
  case hb => with_unfolding_all rfl
  intro L'
  have R' := R.child (e := callEnv (fdOf B.w.params 283) L' 283)
  walk_at "r"
  refine q _ (upd_same _ _ _) fun b h1 => ?_
  iterate 4 rw [upd_ne h1]
end
/-! P10 -/
section
variable {B : Bs} {c : Cx} {ρ : Loc} {σ : AH} {s : Shared}
theorem in346 (L : BL B) {a0 : AV} {body : List Stmt} {Q : AV → AH → Prop} {X : XT} (hb : (fdOf B.w.params 346).body = .stmts body) (hd : c.depth < recursionLimit)
    (hW : ∀ L', (∀ k, L' ≤ k → σ k = none) → WS B (c.child (callEnvC (fdOf B.w.params 346) L' 346)) body [(PySem.Str.ofString "urn", some a0), (PySem.Str.ofString "rows", none), (PySem.Str.ofString "row", none), (PySem.Str.ofString "at", none), (PySem.Str.ofString "is_bad", none), (PySem.Str.ofString "_", none), (PySem.Str.ofString "way", none), (PySem.Str.ofString "size", none), (PySem.Str.ofString "text", none), (PySem.Str.ofString "heard", none)] (upd (σ) (L' + 1) (.cell (none))) (bodQ Q) (bodX X ρ)) : WFC B c (.val (.ref 346)) [a0] ρ σ Q X := by
  have e : ∀ L' : Addr, cellsFrom (L' + 1) (fdOf B.w.params 346).scope.names [] = [(PySem.Str.ofString "tree", L' + 1)] := by intro L'; kernel_rfl
  refine WFC_cells (fd := (fdOf B.w.params 346)) (ps := [PySem.Str.ofString "urn"]) (ρ₀ := [(PySem.Str.ofString "urn", some a0), (PySem.Str.ofString "rows", none), (PySem.Str.ofString "row", none), (PySem.Str.ofString "at", none), (PySem.Str.ofString "is_bad", none), (PySem.Str.ofString "_", none), (PySem.Str.ofString "way", none), (PySem.Str.ofString "size", none), (PySem.Str.ofString "text", none), (PySem.Str.ofString "heard", none)]) (cm := fun n => none) (by rw [L.K]; exact hl346 _) (by rw [L.K]; exact co346 _) hb
    (by intro vs hl; obtain ⟨x0, rfl⟩ := len1 hl rfl; kernel_rfl) rfl (by decide) (by show [PySem.Str.ofString "urn", PySem.Str.ofString "rows", PySem.Str.ofString "row", PySem.Str.ofString "at", PySem.Str.ofString "is_bad", PySem.Str.ofString "_", PySem.Str.ofString "way", PySem.Str.ofString "size", PySem.Str.ofString "text", PySem.Str.ofString "heard"].Nodup; decide) ?hloc ?hrho ?hpk ?hcm hd (by kernel_rfl) ?hW (by kernel_rfl) (by kernel_rfl) (by kernel_rfl) (by kernel_rfl) (by kernel_rfl)
  case hloc => exact allLocal (k := fun x => (fdOf B.w.params 346).scope.names.lookup x) (by kernel_rfl)
  case hrho =>
    intro x av hx
    simp only [List.mem_cons, Prod.mk.injEq, List.not_mem_nil, or_false, reduceCtorEq, and_false, Option.some.injEq] at hx
    obtain ⟨rfl, rfl⟩ := hx
    simp
  case hpk =>
    intro L' x hx
    simp only [List.mem_cons, List.not_mem_nil, or_false] at hx
    rcases hx with rfl
    · exact .inl (by kernel_rfl)
  case hcm =>
    intro L' n k hn
    rw [e] at hn ⊢
    simp only [List.mem_cons, Prod.mk.injEq, List.not_mem_nil, or_false] at hn
    rcases hn with ⟨rfl, rfl⟩
    · exact ⟨by kernel_rfl, by kernel_rfl, .inr ⟨by kernel_rfl, by decide⟩⟩
  case hW =>
    intro L' hf
    rw [e]
    exact hW L' hf
theorem in353 (L : BL B) {a0 : AV} {body : List Stmt} {Q : AV → AH → Prop} {X : XT} (hb : (fdOf B.w.params 353).body = .stmts body) (hd : c.depth < recursionLimit)
    (hW : ∀ L', (∀ k, L' ≤ k → σ k = none) → WS B (c.child (callEnvC (fdOf B.w.params 353) L' 353)) body [(PySem.Str.ofString "urn", some a0), (PySem.Str.ofString "is_bad", none), (PySem.Str.ofString "before", none), (PySem.Str.ofString "heard", none)] (upd (upd (σ) (L' + 1) (.cell (none))) (L' + 1 + 1) (.cell (none))) (bodQ Q) (bodX X ρ)) : WFC B c (.val (.ref 353)) [a0] ρ σ Q X := by
  have e : ∀ L' : Addr, cellsFrom (L' + 1) (fdOf B.w.params 353).scope.names [] = [(PySem.Str.ofString "text", L' + 1 + 1), (PySem.Str.ofString "line", L' + 1)] := by intro L'; kernel_rfl
  refine WFC_cells (fd := (fdOf B.w.params 353)) (ps := [PySem.Str.ofString "urn"]) (ρ₀ := [(PySem.Str.ofString "urn", some a0), (PySem.Str.ofString "is_bad", none), (PySem.Str.ofString "before", none), (PySem.Str.ofString "heard", none)]) (cm := fun n => none) (by rw [L.K]; exact hl353 _) (by rw [L.K]; exact co353 _) hb
    (by intro vs hl; obtain ⟨x0, rfl⟩ := len1 hl rfl; kernel_rfl) rfl (by decide) (by show [PySem.Str.ofString "urn", PySem.Str.ofString "is_bad", PySem.Str.ofString "before", PySem.Str.ofString "heard"].Nodup; decide) ?hloc ?hrho ?hpk ?hcm hd (by kernel_rfl) ?hW (by kernel_rfl) (by kernel_rfl) (by kernel_rfl) (by kernel_rfl) (by kernel_rfl)
  case hloc => exact allLocal (k := fun x => (fdOf B.w.params 353).scope.names.lookup x) (by kernel_rfl)
  case hrho =>
    intro x av hx
    simp only [List.mem_cons, Prod.mk.injEq, List.not_mem_nil, or_false, reduceCtorEq, and_false, Option.some.injEq] at hx
    obtain ⟨rfl, rfl⟩ := hx
    simp
  case hpk =>
    intro L' x hx
    simp only [List.mem_cons, List.not_mem_nil, or_false] at hx
    rcases hx with rfl
    · exact .inl (by kernel_rfl)
  case hcm =>
    intro L' n k hn
    rw [e] at hn ⊢
    simp only [List.mem_cons, Prod.mk.injEq, List.not_mem_nil, or_false] at hn
    rcases hn with ⟨rfl, rfl⟩ | ⟨rfl, rfl⟩
    · exact ⟨by kernel_rfl, by kernel_rfl, .inr ⟨by kernel_rfl, by decide⟩⟩
    · exact ⟨by kernel_rfl, by kernel_rfl, .inr ⟨by kernel_rfl, by decide⟩⟩
  case hW =>
    intro L' hf
    rw [e]
    exact hW L' hf
theorem in358 (L : BL B) {a0 a1 : AV} {body : List Stmt} {Q : AV → AH → Prop} {X : XT} (hb : (fdOf B.w.params 358).body = .stmts body) (hd : c.depth < recursionLimit)
    (hW : ∀ L', (∀ k, L' ≤ k → σ k = none) → WS B (c.child (callEnvC (fdOf B.w.params 358) L' 358)) body [(PySem.Str.ofString "way", none)] (upd (upd (σ) (L' + 1) (.cell (some a0))) (L' + 1 + 1) (.cell (some a1))) (bodQ Q) (bodX X ρ)) : WFC B c (.val (.ref 358)) [a0, a1] ρ σ Q X := by
  have e : ∀ L' : Addr, cellsFrom (L' + 1) (fdOf B.w.params 358).scope.names [] = [(PySem.Str.ofString "deep", L' + 1 + 1), (PySem.Str.ofString "urn", L' + 1)] := by intro L'; kernel_rfl
  refine WFC_cells (fd := (fdOf B.w.params 358)) (ps := [PySem.Str.ofString "urn", PySem.Str.ofString "deep"]) (ρ₀ := [(PySem.Str.ofString "way", none)]) (cm := fun n => if n = PySem.Str.ofString "urn" then some a0 else if n = PySem.Str.ofString "deep" then some a1 else none) (by rw [L.K]; exact hl358 _) (by rw [L.K]; exact co358 _) hb
    (by intro vs hl; obtain ⟨x0, x1, rfl⟩ := len2 hl rfl; kernel_rfl) rfl (by decide) (by show [PySem.Str.ofString "way"].Nodup; decide) ?hloc ?hrho ?hpk ?hcm hd (by kernel_rfl) ?hW (by kernel_rfl) (by kernel_rfl) (by kernel_rfl) (by kernel_rfl) (by kernel_rfl)
  case hloc => exact allLocal (k := fun x => (fdOf B.w.params 358).scope.names.lookup x) (by kernel_rfl)
  case hrho =>
    intro x av hx
    simp only [List.mem_cons, Prod.mk.injEq, List.not_mem_nil, or_false, reduceCtorEq, and_false, Option.some.injEq] at hx
    
    
  case hpk =>
    intro L' x hx
    simp only [List.mem_cons, List.not_mem_nil, or_false] at hx
    rcases hx with rfl | rfl
    · exact .inr ⟨by kernel_rfl, by kernel_rfl⟩
    · exact .inr ⟨by kernel_rfl, by kernel_rfl⟩
  case hcm =>
    intro L' n k hn
    rw [e] at hn ⊢
    simp only [List.mem_cons, Prod.mk.injEq, List.not_mem_nil, or_false] at hn
    rcases hn with ⟨rfl, rfl⟩ | ⟨rfl, rfl⟩
    · exact ⟨by kernel_rfl, by kernel_rfl, .inl ⟨a1, by kernel_rfl, by simp⟩⟩
    · exact ⟨by kernel_rfl, by kernel_rfl, .inl ⟨a0, by kernel_rfl, by simp⟩⟩
  case hW =>
    intro L' hf
    rw [e]
    exact hW L' hf
theorem in377 (L : BL B) {a0 : AV} {body : List Stmt} {Q : AV → AH → Prop} {X : XT} (hb : (fdOf B.w.params 377).body = .stmts body) (hd : c.depth < recursionLimit)
    (hW : ∀ L', (∀ k, L' ≤ k → σ k = none) → WS B (c.child (callEnvC (fdOf B.w.params 377) L' 377)) body [(PySem.Str.ofString "_", none), (PySem.Str.ofString "places", none), (PySem.Str.ofString "again", none), (PySem.Str.ofString "book", none), (PySem.Str.ofString "due", none), (PySem.Str.ofString "heard", none)] (upd (upd (upd (upd (σ) (L' + 1) (.cell (some a0))) (L' + 1 + 1) (.cell (none))) (L' + 1 + 1 + 1) (.cell (none))) (L' + 1 + 1 + 1 + 1) (.cell (none))) (bodQ Q) (bodX X ρ)) : WFC B c (.val (.ref 377)) [a0] ρ σ Q X := by
  have e : ∀ L' : Addr, cellsFrom (L' + 1) (fdOf B.w.params 377).scope.names [] = [(PySem.Str.ofString "has_value", L' + 1 + 1 + 1 + 1), (PySem.Str.ofString "control", L' + 1 + 1 + 1), (PySem.Str.ofString "tree", L' + 1 + 1), (PySem.Str.ofString "urn", L' + 1)] := by intro L'; kernel_rfl
  refine WFC_cells (fd := (fdOf B.w.params 377)) (ps := [PySem.Str.ofString "urn"]) (ρ₀ := [(PySem.Str.ofString "_", none), (PySem.Str.ofString "places", none), (PySem.Str.ofString "again", none), (PySem.Str.ofString "book", none), (PySem.Str.ofString "due", none), (PySem.Str.ofString "heard", none)]) (cm := fun n => if n = PySem.Str.ofString "urn" then some a0 else none) (by rw [L.K]; exact hl377 _) (by rw [L.K]; exact co377 _) hb
    (by intro vs hl; obtain ⟨x0, rfl⟩ := len1 hl rfl; kernel_rfl) rfl (by decide) (by show [PySem.Str.ofString "_", PySem.Str.ofString "places", PySem.Str.ofString "again", PySem.Str.ofString "book", PySem.Str.ofString "due", PySem.Str.ofString "heard"].Nodup; decide) ?hloc ?hrho ?hpk ?hcm hd (by kernel_rfl) ?hW (by kernel_rfl) (by kernel_rfl) (by kernel_rfl) (by kernel_rfl) (by kernel_rfl)
  case hloc => exact allLocal (k := fun x => (fdOf B.w.params 377).scope.names.lookup x) (by kernel_rfl)
  case hrho =>
    intro x av hx
    simp only [List.mem_cons, Prod.mk.injEq, List.not_mem_nil, or_false, reduceCtorEq, and_false, Option.some.injEq] at hx
    
    
  case hpk =>
    intro L' x hx
    simp only [List.mem_cons, List.not_mem_nil, or_false] at hx
    rcases hx with rfl
    · exact .inr ⟨by kernel_rfl, by kernel_rfl⟩
  case hcm =>
    intro L' n k hn
    rw [e] at hn ⊢
    simp only [List.mem_cons, Prod.mk.injEq, List.not_mem_nil, or_false] at hn
    rcases hn with ⟨rfl, rfl⟩ | ⟨rfl, rfl⟩ | ⟨rfl, rfl⟩ | ⟨rfl, rfl⟩
    · exact ⟨by kernel_rfl, by kernel_rfl, .inr ⟨by kernel_rfl, by decide⟩⟩
    · exact ⟨by kernel_rfl, by kernel_rfl, .inr ⟨by kernel_rfl, by decide⟩⟩
    · exact ⟨by kernel_rfl, by kernel_rfl, .inr ⟨by kernel_rfl, by decide⟩⟩
    · exact ⟨by kernel_rfl, by kernel_rfl, .inl ⟨a0, by kernel_rfl, by simp⟩⟩
  case hW =>
    intro L' hf
    rw [e]
    exact hW L' hf
theorem in384 (L : BL B) {a0 : AV} {body : List Stmt} {Q : AV → AH → Prop} {X : XT} (hb : (fdOf B.w.params 384).body = .stmts body) (hd : c.depth < recursionLimit)
    (hW : ∀ L', (∀ k, L' ≤ k → σ k = none) → WS B (c.child (callEnvC (fdOf B.w.params 384) L' 384)) body [(PySem.Str.ofString "urn", some a0), (PySem.Str.ofString "size", none), (PySem.Str.ofString "_", none), (PySem.Str.ofString "kind", none), (PySem.Str.ofString "value", none), (PySem.Str.ofString "length", none), (PySem.Str.ofString "due", none), (PySem.Str.ofString "kept", none)] (upd (upd (upd (σ) (L' + 1) (.cell (none))) (L' + 1 + 1) (.cell (none))) (L' + 1 + 1 + 1) (.cell (none))) (bodQ Q) (bodX X ρ)) : WFC B c (.val (.ref 384)) [a0] ρ σ Q X := by
  have e : ∀ L' : Addr, cellsFrom (L' + 1) (fdOf B.w.params 384).scope.names [] = [(PySem.Str.ofString "unit", L' + 1 + 1 + 1), (PySem.Str.ofString "record", L' + 1 + 1), (PySem.Str.ofString "number", L' + 1)] := by intro L'; kernel_rfl
  refine WFC_cells (fd := (fdOf B.w.params 384)) (ps := [PySem.Str.ofString "urn"]) (ρ₀ := [(PySem.Str.ofString "urn", some a0), (PySem.Str.ofString "size", none), (PySem.Str.ofString "_", none), (PySem.Str.ofString "kind", none), (PySem.Str.ofString "value", none), (PySem.Str.ofString "length", none), (PySem.Str.ofString "due", none), (PySem.Str.ofString "kept", none)]) (cm := fun n => none) (by rw [L.K]; exact hl384 _) (by rw [L.K]; exact co384 _) hb
    (by intro vs hl; obtain ⟨x0, rfl⟩ := len1 hl rfl; kernel_rfl) rfl (by decide) (by show [PySem.Str.ofString "urn", PySem.Str.ofString "size", PySem.Str.ofString "_", PySem.Str.ofString "kind", PySem.Str.ofString "value", PySem.Str.ofString "length", PySem.Str.ofString "due", PySem.Str.ofString "kept"].Nodup; decide) ?hloc ?hrho ?hpk ?hcm hd (by kernel_rfl) ?hW (by kernel_rfl) (by kernel_rfl) (by kernel_rfl) (by kernel_rfl) (by kernel_rfl)
  case hloc => exact allLocal (k := fun x => (fdOf B.w.params 384).scope.names.lookup x) (by kernel_rfl)
  case hrho =>
    intro x av hx
    simp only [List.mem_cons, Prod.mk.injEq, List.not_mem_nil, or_false, reduceCtorEq, and_false, Option.some.injEq] at hx
    obtain ⟨rfl, rfl⟩ := hx
    simp
  case hpk =>
    intro L' x hx
    simp only [List.mem_cons, List.not_mem_nil, or_false] at hx
    rcases hx with rfl
    · exact .inl (by kernel_rfl)
  case hcm =>
    intro L' n k hn
    rw [e] at hn ⊢
    simp only [List.mem_cons, Prod.mk.injEq, List.not_mem_nil, or_false] at hn
    rcases hn with ⟨rfl, rfl⟩ | ⟨rfl, rfl⟩ | ⟨rfl, rfl⟩
    · exact ⟨by kernel_rfl, by kernel_rfl, .inr ⟨by kernel_rfl, by decide⟩⟩
    · exact ⟨by kernel_rfl, by kernel_rfl, .inr ⟨by kernel_rfl, by decide⟩⟩
    · exact ⟨by kernel_rfl, by kernel_rfl, .inr ⟨by kernel_rfl, by decide⟩⟩
  case hW =>
    intro L' hf
    rw [e]
    exact hW L' hf
end
/-! P11 -/
section
variable {B : Bs} {c : Cx} {ρ : Loc} {σ : AH} {s : Shared}
/-! what is known of the tracked objects, as a list; all else that was tracked at the base stays -/
noncomputable def AO.nr : AO → Bool
  | .raw _ => false
  | _ => true
structure Hs (σ₀ σ : AH) (l : List (Addr × AO)) : Prop where
  hat : ∀ p ∈ l, σ p.1 = some p.2
  nd : (l.map (·.1)).Nodup
  nr : ∀ p ∈ l, p.2.nr = true
  fr : ∀ b ao, σ₀ b = some ao → b ∉ l.map (·.1) → σ b = some ao
  ro : ∀ b o, σ₀ b = some (.raw o) → b ∉ l.map (·.1)
inductive AtH : List (Addr × AO) → Addr → AO → Prop
  | here {a o l} : AtH ((a, o) :: l) a o
  | there {p l a o} : AtH l a o → AtH (p :: l) a o
inductive PutH : List (Addr × AO) → Addr → AO → List (Addr × AO) → Prop
  | here {a o o' l} : PutH ((a, o) :: l) a o' ((a, o') :: l)
  | there {p l a o l'} : PutH l a o l' → PutH (p :: l) a o (p :: l')
inductive CutH : List (Addr × AO) → Addr → AO → List (Addr × AO) → Prop
  | here {a o l} : CutH ((a, o) :: l) a o l
  | there {p l a o l'} : CutH l a o l' → CutH (p :: l) a o (p :: l')
inductive SelH : List (Addr × AO) → List (Addr × AO) → Prop
  | nil {l} : SelH l []
  | cons {l a o l' m} : CutH l a o l' → SelH l' m → SelH l ((a, o) :: m)
inductive MgH (σ : AH) : List (Addr × AO) → List (Addr × AO) → List (Addr × AO) → Prop
  | nil {l} : MgH σ l [] l
  | put {l a o l₁ m l'} : PutH l a o l₁ → MgH σ l₁ m l' → MgH σ l ((a, o) :: m) l'
  | new {l a o m l'} : σ a = none → MgH σ l m l' → MgH σ l ((a, o) :: m) ((a, o) :: l')
  | off {l a o m l'} : σ a = none → MgH σ l m l' → MgH σ l ((a, o) :: m) l'
theorem AtH.mem {l : List (Addr × AO)} {a : Addr} {o : AO} (h : AtH l a o) : (a, o) ∈ l := by
  induction h with
  | here => exact .head _
  | there _ ih => exact .tail _ ih
theorem PutH.keys {l l' : List (Addr × AO)} {a : Addr} {o : AO} (h : PutH l a o l') : l'.map (·.1) = l.map (·.1) := by
  induction h with
  | here => rfl
  | there _ ih => rw [List.map_cons, List.map_cons, ih]
theorem PutH.key {l l' : List (Addr × AO)} {a : Addr} {o : AO} (h : PutH l a o l') : a ∈ l.map (·.1) := by
  induction h with
  | here => exact .head _
  | there _ ih => exact .tail _ ih
theorem PutH.mem {l l' : List (Addr × AO)} {a : Addr} {o : AO} (h : PutH l a o l') (nd : (l.map (·.1)).Nodup) : ∀ p ∈ l', p = (a, o) ∨ (p ∈ l ∧ p.1 ≠ a) := by
  induction h with
  | @here a o o' l =>
    intro p hp
    rcases List.mem_cons.mp hp with e | hp1
    · exact .inl e
    · refine .inr ⟨.tail _ hp1, ?_⟩
      rw [List.map_cons, List.nodup_cons] at nd
      rintro rfl
      exact nd.1 (List.mem_map_of_mem (f := (·.1)) hp1)
  | @there q l a o l' h ih =>
    rw [List.map_cons, List.nodup_cons] at nd
    intro p hp
    rcases List.mem_cons.mp hp with rfl | hp
    · refine .inr ⟨.head _, ?_⟩
      rintro rfl
      exact nd.1 h.key
    · rcases ih nd.2 p hp with e | ⟨h1, h2⟩
      · exact .inl e
      · exact .inr ⟨.tail _ h1, h2⟩
theorem CutH.perm {l l' : List (Addr × AO)} {a : Addr} {o : AO} (h : CutH l a o l') : l.Perm ((a, o) :: l') := by
  induction h with
  | here => exact .refl _
  | there _ ih => exact (ih.cons _).trans (.swap _ _ _)
theorem SelH.ok {l m : List (Addr × AO)} (h : SelH l m) (nd : (l.map (·.1)).Nodup) : (∀ p ∈ m, p ∈ l) ∧ (m.map (·.1)).Nodup := by
  induction h with
  | nil => exact ⟨fun _ h => (by cases h), List.nodup_nil⟩
  | @cons l a o l' m hc _ ih =>
    have nd' := ((hc.perm.map (·.1)).nodup_iff).mp nd
    rw [List.map_cons, List.nodup_cons] at nd'
    obtain ⟨h1, h2⟩ := ih nd'.2
    refine ⟨fun p hp => ?_, ?_⟩
    · rcases List.mem_cons.mp hp with rfl | hp
      · exact hc.perm.mem_iff.mpr (.head _)
      · exact hc.perm.mem_iff.mpr (.tail _ (h1 p hp))
    · rw [List.map_cons, List.nodup_cons]
      refine ⟨fun hm => ?_, h2⟩
      obtain ⟨p, hp, e⟩ := List.mem_map.mp hm
      exact nd'.1 (e ▸ List.mem_map_of_mem (f := (·.1)) (h1 p hp))
section
variable {σ₀ : AH} {l : List (Addr × AO)}
theorem Hs.get {a : Addr} {o : AO} (H : Hs σ₀ σ l) (h : AtH l a o) : σ a = some o := H.hat _ h.mem
theorem Hs.dom (H : Hs σ₀ σ l) {a : Addr} (h : σ a = none) : a ∉ l.map (·.1) := fun hm => by
  obtain ⟨p, hp, rfl⟩ := List.mem_map.mp hm
  rw [H.hat p hp] at h; cases h
theorem Hs.base (H : Hs σ₀ σ l) {a : Addr} (h : σ a = none) : σ₀ a = none := by
  cases e : σ₀ a with
  | none => rfl
  | some ao => rw [H.fr a ao e (H.dom h)] at h; cases h
theorem Hs.nil : Hs σ σ [] := ⟨fun _ h => (by cases h), List.nodup_nil, fun _ h => (by cases h), fun _ _ h _ => h, fun _ _ _ h => (by cases h)⟩
theorem Hs.self (H : Hs σ₀ σ l) : Hs σ σ l where
  hat := H.hat
  nd := H.nd
  nr := H.nr
  fr b ao e _ := e
  ro b x e hm := by
    obtain ⟨p, hp, rfl⟩ := List.mem_map.mp hm
    rw [H.hat p hp] at e
    have := H.nr p hp
    rw [Option.some.inj e] at this; cases this
theorem Hs.upd {a : Addr} {o : AO} {l' : List (Addr × AO)} (H : Hs σ₀ σ l) (hp : PutH l a o l') (hr : o.nr = true := by rfl) : Hs σ₀ (Mine.upd σ a o) l' where
  hat p h := by
    rcases hp.mem H.nd p h with rfl | ⟨h1, h2⟩
    · exact upd_same _ _ _
    · rw [upd_ne h2]; exact H.hat p h1
  nd := by rw [hp.keys]; exact H.nd
  nr p h := by
    rcases hp.mem H.nd p h with rfl | ⟨h1, h2⟩
    · exact hr
    · exact H.nr p h1
  fr b ao e hm := by
    rw [hp.keys] at hm
    rw [upd_ne (by rintro rfl; exact hm hp.key)]
    exact H.fr b ao e hm
  ro b x e := by rw [hp.keys]; exact H.ro b x e
theorem Hs.new {a : Addr} {o : AO} (H : Hs σ₀ σ l) (h : σ a = none) (hr : o.nr = true := by rfl) : Hs σ₀ (Mine.upd σ a o) ((a, o) :: l) where
  hat p hp := by
    rcases List.mem_cons.mp hp with rfl | hp
    · exact upd_same _ _ _
    · rw [upd_ne (fun e => by rw [← e, H.hat p hp] at h; cases h)]; exact H.hat p hp
  nd := by rw [List.map_cons, List.nodup_cons]; exact ⟨H.dom h, H.nd⟩
  nr p hp := by
    rcases List.mem_cons.mp hp with rfl | hp
    · exact hr
    · exact H.nr p hp
  fr b ao e hm := by
    rw [List.map_cons, List.mem_cons, not_or] at hm
    rw [upd_ne hm.1]
    exact H.fr b ao e hm.2
  ro b x e hm := by
    rcases List.mem_cons.mp hm with rfl | hm
    · rw [H.base h] at e; cases e
    · exact H.ro b x e hm
theorem Hs.grew {σ' : AH} (H : Hs σ₀ σ l) (G : Grew σ σ') : Hs σ₀ σ' l := ⟨fun p hp => G _ _ (H.hat p hp), H.nd, H.nr, fun b ao e hm => G _ _ (H.fr b ao e hm), H.ro⟩
theorem Hs.skip {a : Addr} {o : AO} (H : Hs σ₀ σ l) (h : σ a = none) : Hs σ₀ (Mine.upd σ a o) l := H.grew (Grew.new h)
theorem Hs.cut {a : Addr} {o : AO} {l' : List (Addr × AO)} (H : Hs σ₀ σ l) (hc : CutH l a o l') (h : σ₀ a = none) : Hs σ₀ σ l' := by
  have P := hc.perm
  have nd := ((P.map (·.1)).nodup_iff).mp H.nd
  rw [List.map_cons, List.nodup_cons] at nd
  have km : ∀ b, b ∉ l'.map (·.1) → b ≠ a → b ∉ l.map (·.1) := fun b h1 h2 hm => by
    rcases List.mem_cons.mp ((P.map (·.1)).mem_iff.mp hm) with e | hm
    · exact h2 e
    · exact h1 hm
  exact ⟨fun p hp => H.hat p (P.mem_iff.mpr (.tail _ hp)), nd.2, fun p hp => H.nr p (P.mem_iff.mpr (.tail _ hp)), fun b ao e hm => H.fr b ao e (km b hm (by rintro rfl; rw [h] at e; cases e)),
    fun b x e hm => H.ro b x e ((P.map (·.1)).mem_iff.mpr (.tail _ hm))⟩
theorem Hs.del {a : Addr} {o : AO} {l' : List (Addr × AO)} (H : Hs σ₀ σ l) (hc : CutH l a o l') (h : σ₀ a = none) : Hs σ₀ (Mine.del σ a) l' := by
  have K := H.cut hc h
  have nd := ((hc.perm.map (·.1)).nodup_iff).mp H.nd
  rw [List.map_cons, List.nodup_cons] at nd
  refine ⟨fun p hp => ?_, K.nd, K.nr, fun b ao e hm => ?_, K.ro⟩
  · rw [del_ne (by rintro rfl; exact nd.1 (List.mem_map_of_mem (f := (·.1)) hp))]; exact K.hat p hp
  · rw [del_ne (by rintro rfl; rw [h] at e; cases e)]; exact K.fr b ao e hm
theorem Hs.sel {m : List (Addr × AO)} (H : Hs σ₀ σ l) (h : SelH l m) : Hs σ σ m := by
  obtain ⟨h1, h2⟩ := h.ok H.nd
  refine ⟨fun p hp => H.hat p (h1 p hp), h2, fun p hp => H.nr p (h1 p hp), fun b ao e _ => e, fun b x e hm => ?_⟩
  obtain ⟨p, hp, rfl⟩ := List.mem_map.mp hm
  rw [H.hat p (h1 p hp)] at e
  have := H.nr p (h1 p hp)
  rw [Option.some.inj e] at this; cases this
theorem MgH.ok {m l' : List (Addr × AO)} (h : MgH σ l m l') (nl : (l.map (·.1)).Nodup) (nm : (m.map (·.1)).Nodup) (hd : ∀ p ∈ l, σ p.1 ≠ none) :
    (∀ p ∈ l', p ∈ m ∨ (p ∈ l ∧ p.1 ∉ m.map (·.1))) ∧ (∀ p ∈ l, p.1 ∈ l'.map (·.1)) ∧ (∀ p ∈ m, p.1 ∈ l'.map (·.1) ∨ σ p.1 = none) ∧ (l'.map (·.1)).Nodup := by
  induction h with
  | nil => exact ⟨fun p hp => .inr ⟨hp, fun h => by cases h⟩, fun p hp => List.mem_map_of_mem (f := (·.1)) hp, fun p hp => (by cases hp), nl⟩
  | @put l a o l₁ m l' hp _ ih =>
    rw [List.map_cons, List.nodup_cons] at nm
    have hd' : ∀ p ∈ l₁, σ p.1 ≠ none := fun p h => by
      have : p.1 ∈ l.map (·.1) := hp.keys ▸ List.mem_map_of_mem (f := (·.1)) h
      obtain ⟨q, hq, e⟩ := List.mem_map.mp this
      rw [← e]; exact hd q hq
    obtain ⟨h1, h2, h3, h4⟩ := ih (hp.keys ▸ nl) nm.2 hd'
    have k2 : ∀ b, b ∈ l.map (·.1) → b ∈ l'.map (·.1) := fun b hb => by
      rw [← hp.keys] at hb
      obtain ⟨q, hq, rfl⟩ := List.mem_map.mp hb
      exact h2 q hq
    refine ⟨fun p h => ?_, fun p h => k2 _ (List.mem_map_of_mem (f := (·.1)) h), fun p h => ?_, h4⟩
    · rcases h1 p h with h | ⟨h, hn⟩
      · exact .inl (.tail _ h)
      · rcases hp.mem nl p h with rfl | ⟨h, hne⟩
        · exact .inl (.head _)
        · refine .inr ⟨h, fun hm => ?_⟩
          rcases List.mem_cons.mp hm with e | hm
          · exact hne e
          · exact hn hm
    · rcases List.mem_cons.mp h with rfl | h
      · exact .inl (k2 _ hp.key)
      · exact h3 p h
  | @new l a o m l' ha _ ih =>
    rw [List.map_cons, List.nodup_cons] at nm
    obtain ⟨h1, h2, h3, h4⟩ := ih nl nm.2 hd
    refine ⟨fun p h => ?_, fun p h => .tail _ (h2 p h), fun p h => ?_, ?_⟩
    · rcases List.mem_cons.mp h with rfl | h
      · exact .inl (.head _)
      · rcases h1 p h with h | ⟨h, hn⟩
        · exact .inl (.tail _ h)
        · refine .inr ⟨h, fun hm => ?_⟩
          rcases List.mem_cons.mp hm with e | hm
          · exact hd p h (e ▸ ha)
          · exact hn hm
    · rcases List.mem_cons.mp h with rfl | h
      · exact .inl (.head _)
      · exact (h3 p h).imp_left (.tail _)
    · rw [List.map_cons, List.nodup_cons]
      refine ⟨fun hm => ?_, h4⟩
      obtain ⟨p, hp, e⟩ := List.mem_map.mp hm
      rcases h1 p hp with h | ⟨h, _⟩
      · exact nm.1 (e ▸ List.mem_map_of_mem (f := (·.1)) h)
      · exact hd p h (e.symm ▸ ha)
  | @off l a o m l' ha _ ih =>
    rw [List.map_cons, List.nodup_cons] at nm
    obtain ⟨h1, h2, h3, h4⟩ := ih nl nm.2 hd
    refine ⟨fun p h => ?_, h2, fun p h => ?_, h4⟩
    · rcases h1 p h with h | ⟨h, hn⟩
      · exact .inl (.tail _ h)
      · refine .inr ⟨h, fun hm => ?_⟩
        rcases List.mem_cons.mp hm with e | hm
        · exact hd p h (e ▸ ha)
        · exact hn hm
    · rcases List.mem_cons.mp h with rfl | h
      · exact .inr ha
      · exact h3 p h
theorem Hs.join {σ' : AH} {m l' : List (Addr × AO)} (H : Hs σ₀ σ l) (H' : Hs σ σ' m) (h : MgH σ l m l') : Hs σ₀ σ' l' := by
  obtain ⟨h1, h2, h3, h4⟩ := h.ok H.nd H'.nd (fun p hp e => by rw [H.hat p hp] at e; cases e)
  have kl : ∀ b, b ∈ l.map (·.1) → b ∈ l'.map (·.1) := fun b hb => by
    obtain ⟨q, hq, rfl⟩ := List.mem_map.mp hb; exact h2 q hq
  refine ⟨fun p hp => ?_, h4, fun p hp => ?_, fun b ao e hm => ?_, fun b x e hm => ?_⟩
  · rcases h1 p hp with h | ⟨h, hn⟩
    · exact H'.hat p h
    · exact H'.fr _ _ (H.hat p h) hn
  · rcases h1 p hp with h | ⟨h, _⟩
    · exact H'.nr p h
    · exact H.nr p h
  · have e1 := H.fr b ao e (fun h => hm (kl b h))
    refine H'.fr b ao e1 fun h => ?_
    obtain ⟨q, hq, rfl⟩ := List.mem_map.mp h
    rcases h3 q hq with h | h
    · exact hm h
    · rw [e1] at h; cases h
  · have e0 := H.ro b x e
    have e1 := H.fr b _ e e0
    obtain ⟨p, hp, rfl⟩ := List.mem_map.mp hm
    rcases h1 p hp with h | ⟨h, _⟩
    · exact H'.ro _ x e1 (List.mem_map_of_mem (f := (·.1)) h)
    · exact e0 (List.mem_map_of_mem (f := (·.1)) h)
theorem Hs.trans {σ' : AH} {l' : List (Addr × AO)} (H : Hs σ₀ σ l) (H' : Hs σ σ' l') (hk : ∀ b, b ∈ l.map (·.1) → b ∈ l'.map (·.1)) : Hs σ₀ σ' l' :=
  ⟨H'.hat, H'.nd, H'.nr, fun b ao e hm => H'.fr b ao (H.fr b ao e fun h => hm (hk b h)) hm, fun b x e hm => H'.ro b x (H.fr b _ e (H.ro b x e)) hm⟩
theorem Hs.raws (H : Hs σ₀ σ l) : Raws σ₀ σ := fun b o e => H.fr b _ e (H.ro b o e)
theorem Hs.grown (H : Hs σ₀ σ []) : Grew σ₀ σ := fun b ao e => H.fr b ao e (fun h => by cases h)
end
theorem Raws.refl : Raws σ σ := fun _ _ h => h
section
variable {σb : AH} {Q : QS} {X : XT}
inductive stayH (σ₁ : AH) (l : List (Addr × AO)) (J : List (Addr × AO) → List PyData → Loc → Prop) (ds : List PyData) (ρ' : Loc) (σ' : AH) : Prop
  | mk (l' : List (Addr × AO)) (H : Hs σ₁ σ' l') (e : l'.map (·.1) = l.map (·.1)) (j : J l' ds ρ') : stayH σ₁ l J ds ρ' σ'
inductive iterH (B : Bs) (c : Cx) (σb : AH) (J : List (Addr × AO) → List PyData → Loc → Prop) (ρ : Loc) (a : AV) (σ₁ : AH) : Prop
  | mk (ds : List PyData) (l : List (Addr × AO)) (h : Itb B c a ds σ₁) (H : Hs σb σ₁ l) (j : J l ds ρ) : iterH B c σb J ρ a σ₁
/-- a loop over what does not change, its state a list of objects -/
theorem WS_forH {J : List (Addr × AO) → List PyData → Loc → Prop} {target iter : Expr} {body : List Stmt} {pos : Pos} {rest : List Stmt} (hf : c.Fun) (hh : c.hd = none)
    (h : WE B c iter ρ σ (iterH B c σb J ρ) X)
    (step : ∀ d ds ρ₁ σ₁ l, Hs σb σ₁ l → J l (d :: ds) ρ₁ → WU B c (assign target c.env) (.data d) ρ₁ σ₁ (fun ρ₂ σ₂ => σ₂ = σ₁ ∧ WS B c body ρ₂ σ₁ (loopQ (stayH σ₁ l J ds) Q) X) X)
    (hend : ∀ ρ₁ σ₁ l, Hs σb σ₁ l → J l [] ρ₁ → WS B c rest ρ₁ σ₁ Q X)
    (hs : ∀ x, foldedSetIterable iter c.env x = pure x := by intro _; rfl) : WS B c (.For target iter body [] pos :: rest) ρ σ Q X := by
  refine WS_forG (I := fun σ₀ ds ρ σ => ∃ l, Hs σb σ l ∧ (∀ p ∈ l, σ₀ p.1 ≠ none) ∧ (∀ b, σb b ≠ none → σ₀ b ≠ none) ∧ J l ds ρ) hf hh ?_ ?_ ?_ ?_ hs
  · rintro σ₀ it ds ρ σ σ' h0 ⟨l, H, h1, h2, j⟩ e
    refine ⟨l, ⟨fun p hp => ?_, H.nd, H.nr, fun b ao q hm => ?_, H.ro⟩, h1, h2, j⟩
    · rw [e _ (by rintro rfl; exact h1 p hp h0)]; exact H.hat p hp
    · rw [e _ (by rintro rfl; exact h2 _ (by rw [q]; exact Option.some_ne_none _) h0)]; exact H.fr b ao q hm
  · refine WG.mono h ?_ fun _ _ _ q => q
    rintro a σ₁ ⟨ds, l, h1, H, j⟩
    refine ⟨ds, h1, l, H, fun p hp e => (by rw [H.hat p hp] at e; cases e), fun b hb e => hb (H.base e), j⟩
  · rintro σ₀ d ds ρ₁ σ₁ ⟨l, H, h1, h2, j⟩
    intro v s S r
    refine wpAny_mono (step d ds ρ₁ σ₁ l H j v s S r) (fun _ s' => ?_) fun _ _ q => q
    rintro ⟨ρ₂, σ₂, S', E', rfl, hW⟩
    refine ⟨ρ₂, σ₂, S', E', Raws.refl, fun s₁ S₁ => wpAny_mono (hW s₁ S₁) (fun fl s₂ => ?_) fun _ _ q => q⟩
    rintro ⟨af, ρ', σ', S₂, E₂, fr, q⟩
    refine ⟨af, ρ', σ', S₂, E₂, fr, ?_⟩
    cases af with
    | brk => exact q
    | ret v => exact q
    | next =>
      obtain ⟨l', H', hk, j'⟩ := q
      refine ⟨H'.raws, l', H.trans H' (fun b hb => hk ▸ hb), fun p hp => ?_, h2, j'⟩
      obtain ⟨p', hp', e⟩ := List.mem_map.mp (hk ▸ List.mem_map_of_mem (f := (·.1)) hp : p.1 ∈ l.map (·.1))
      exact e ▸ h1 p' hp'
    | cont =>
      obtain ⟨l', H', hk, j'⟩ := q
      refine ⟨H'.raws, l', H.trans H' (fun b hb => hk ▸ hb), fun p hp => ?_, h2, j'⟩
      obtain ⟨p', hp', e⟩ := List.mem_map.mp (hk ▸ List.mem_map_of_mem (f := (·.1)) hp : p.1 ∈ l.map (·.1))
      exact e ▸ h1 p' hp'
  · rintro σ₀ ρ₁ σ₁ ⟨l, H, h1, h2, j⟩
    exact hend ρ₁ σ₁ l H j
end
section
variable {σb : AH} {Q : AV → AH → Prop} {X : XT}
theorem W_ListCompH {J : List (Addr × AO) → List PyData → List PyData → Prop} {elt iter : Expr} {x : Str} {px pos : Pos} {ifs : List Expr} {scope : Scope} {cl : List (Str × Addr)} (hh : c.hd = none) (hclos : closureFor scope c.env = pure cl)
    (hsz : ∀ l ds acc, J l ds acc → acc.length ≤ sizeLine)
    (h : WE B c iter ρ σ (fun a σ₁ => ∃ ds l, Itb B c a ds σ₁ ∧ Hs σb σ₁ l ∧ J l ds []) X)
    (step : ∀ C d ds acc σ₁ l, Hs σb σ₁ l → J l (d :: ds) acc → WIfs B (c.comp scope cl C) ifs [(x, some (.data d))] σ₁ (fun ok σ₂ => σ₂ = σ₁ ∧ if ok = true then WE B (c.comp scope cl C) elt [(x, some (.data d))] σ₁ (fun a σ₃ => ∃ y l', a = .data y ∧ Hs σ₁ σ₃ l' ∧ l'.map (·.1) = l.map (·.1) ∧ J l' ds (acc ++ [y])) noX else J l ds acc))
    (hend : ∀ acc σ₁ l, Hs σb σ₁ l → J l [] acc → Q (.data (.list acc)) σ₁)
    (hcell : ∀ y ∈ scope.names, y.2 ≠ .cell) (hnames : ∀ y ∈ scope.names, y.2 = .local → scope.names.lookup y.1 = some .local) (hx : scope.names.lookup x = some .local) (hkind : scope.kind = .function := by rfl)
    (hs : ∀ x, foldedSetIterable iter c.env x = pure x := by intro _; rfl) : WE B c (.ListComp elt [⟨.Name x px, iter, ifs, 0⟩] scope pos) ρ σ Q X := by
  refine W_ListCompG (I := fun σ₀ ds acc σ => ∃ l, Hs σb σ l ∧ (∀ p ∈ l, σ₀ p.1 ≠ none) ∧ (∀ b, σb b ≠ none → σ₀ b ≠ none) ∧ J l ds acc) hh hclos ?_ ?_ ?_ ?_ ?_ hcell hnames hx hkind hs
  · rintro σ₀ it ds acc σ σ' h0 ⟨l, H, h1, h2, j⟩ e
    refine ⟨l, ⟨fun p hp => ?_, H.nd, H.nr, fun b ao q hm => ?_, H.ro⟩, h1, h2, j⟩
    · rw [e _ (by rintro rfl; exact h1 p hp h0)]; exact H.hat p hp
    · rw [e _ (by rintro rfl; exact h2 _ (by rw [q]; exact Option.some_ne_none _) h0)]; exact H.fr b ao q hm
  · rintro σ₀ ds acc σ ⟨l, _, _, _, j⟩; exact hsz l ds acc j
  · refine WG.mono h ?_ fun _ _ _ q => q
    rintro a σ₁ ⟨ds, l, h1, H, j⟩
    refine ⟨ds, h1, l, H, fun p hp e => (by rw [H.hat p hp] at e; cases e), fun b hb e => hb (H.base e), j⟩
  · rintro σ₀ C d ds acc σ₁ ⟨l, H, h1, h2, j⟩
    intro s E S
    refine wpAny_mono (step C d ds acc σ₁ l H j s E S) (fun ok s' => ?_) fun _ _ q => q
    rintro ⟨y, σ₂, S', E', r, rfl, hW⟩
    refine ⟨y, σ₂, S', E', r, Raws.refl, ?_⟩
    split
    · rename_i hy
      rw [if_pos hy] at hW
      refine WG.mono hW ?_ fun _ _ _ q => q
      rintro a σ₃ ⟨y', l', ha, H', hk, j'⟩
      refine ⟨y', ha, H'.raws, l', H.trans H' (fun b hb => hk ▸ hb), fun p hp => ?_, h2, j'⟩
      obtain ⟨p', hp', e⟩ := List.mem_map.mp (hk ▸ List.mem_map_of_mem (f := (·.1)) hp : p.1 ∈ l.map (·.1))
      exact e ▸ h1 p' hp'
    · rename_i hy
      rw [if_neg hy] at hW
      exact ⟨l, H, h1, h2, hW⟩
  · rintro σ₀ acc σ₁ ⟨l, H, _, _, j⟩; exact hend acc σ₁ l H j
end
section
variable {σ₀ : AH} {l : List (Addr × AO)}
theorem Hs.goS {a : Addr} {o : AO} {l' : List (Addr × AO)} {b : List Stmt} {Q : QS} {X : XT} (H : Hs σ₀ σ l) (hp : PutH l a o l') (hr : o.nr = true) (q : ∀ σ', Hs σ₀ σ' l' → WS B c b ρ σ' Q X) : WS B c b ρ (Mine.upd σ a o) Q X := q _ (H.upd hp hr)
theorem tellH (L : BL B) {l' : List (Addr × AO)} {u : Addr} {ns : List Int} {k sides : Int} {Q : AV → AH → Prop} {X : XT} (H : Hs σ₀ σ l) (hu : AtH l u (urnL ns k)) (hp : PutH l u (urnL ns (k + 1)) l') (h0 : 0 ≤ k) (hk : k < 2 ^ 40) (hn : ns.length ≤ 100) (hs : 0 < sides) (hd : c.depth < recursionLimit)
    (q : ∀ (v : Int) σ', 0 ≤ v → v < sides → Hs σ₀ σ' l' → Q (.data (.int v)) σ') : WF B c (.val (.ref 332)) [.ref u, .data (.int sides)] ρ σ Q X :=
  WF_of (tell L (H.get hu) h0 hk hn hs hd fun v a b => q v _ a b (H.upd hp))
end
/-- a list is told as data: in the names, in a cell -/
theorem VRel.fzV {P : Params} {L a : Addr} {h : Heap} {ds : List PyData} (N : NsAt h L) (hσ : ORel P σ h a (.list (ds.map .data))) {v : Value} {x : AV} (r : VRel (del σ a) h v x) : VRel (del σ a) h v (x.fz a ds) := by
  cases x with
  | ref b =>
    show VRel (del σ a) h v (if b = a then AV.data (.list ds) else .ref b)
    split
    · rename_i e
      subst e
      obtain ⟨vs, n, e1, e2⟩ := hσ
      have X : Ext L σ h (del σ b) h := Ext.of_keep (fun _ _ e _ _ => e) (fun _ _ _ e => del_none e)
      have r' : v = .ref b := r
      subst r'
      show DRel _ _ _ _
      unfold DRel
      exact ⟨b, _, vs, n, rfl, del_same, e1, rfl, rfl, drelL_of (e2.ext N X)⟩
    · exact r
  | data d => exact r
  | val w => exact r
  | clo fd => exact r
theorem WS_dropL {b : List Stmt} {Q : QS} {X : XT} {a : Addr} {ds : List PyData} (hσ : σ a = some (.list (ds.map .data))) (h : WS B c b (fzL ρ a ds) (del σ a) Q X) : WS B c b ρ σ Q X := fun s S => by
  obtain ⟨S', E⟩ := S.drop hσ rfl
  have S'' : St B c (fzL ρ a ds) (del σ a) s := by
    refine { S' with locals := ?_, nodup := ?_, kinds := ?_ }
    · obtain ⟨m, hm, hv⟩ := S'.locals
      refine ⟨m, hm, fun x av hx => ?_⟩
      unfold fzL at hx
      obtain ⟨⟨y, w⟩, hy, e⟩ := List.mem_map.mp hx
      cases w with
      | none => cases e
      | some w =>
        cases e
        obtain ⟨v, h1, h2⟩ := hv y w hy
        exact ⟨v, h1, VRel.fzV S.ns (S.objs a _ hσ).2.2 h2⟩
    · have : (fzL ρ a ds).map (·.1) = ρ.map (·.1) := by unfold fzL; rw [List.map_map]; rfl
      rw [this]; exact S'.nodup
    · have : (fzL ρ a ds).map (·.1) = ρ.map (·.1) := by unfold fzL; rw [List.map_map]; rfl
      rw [this]; exact S'.kinds
  exact WS.run h S'' E
theorem WS_dropC {b : List Stmt} {Q : QS} {X : XT} {a k : Addr} {ds : List PyData} (hσ : σ a = some (.list (ds.map .data))) (hk : σ k = some (.cell (some (.ref a)))) (h : WS B c b ρ (upd (del σ a) k (.cell (some (.data (.list ds))))) Q X) : WS B c b ρ σ Q X := fun s S => by
  obtain ⟨S', E⟩ := S.drop hσ rfl
  have hka : k ≠ a := by rintro rfl; rw [hσ] at hk; cases hk
  have hk' : del σ a k = some (.cell (some (.ref a))) := by rw [del_ne hka]; exact hk
  obtain ⟨S'', E'⟩ := S'.setE (h' := s.heap) (tk := s.toks) (ao' := .cell (some (.data (.list ds)))) hk' rfl (by
      intro b o _ e; exact e) (S'.objs k _ hk').2.1 (fun X => by
    obtain ⟨o, v', e1, e2, e3⟩ := (S'.objs k _ hk').2.2
    refine ⟨o, v', e1, e2, ?_⟩
    cases v' with
    | none => exact e3
    | some u =>
      have := VRel.fzV S.ns (S.objs a _ hσ).2.2 (show VRel (del σ a) s.heap u (.ref a) from e3)
      have q : AV.fz a ds (.ref a) = .data (.list ds) := if_pos rfl
      rw [q] at this
      exact this.ext S.ns X)
  exact WS.run h S'' (E.trans E')
section
variable {Q : AV → AH → Prop} {X : XT}
/-- a slice of any text, written ones too -/
theorem W_sliceT {e : Expr} {lo hi : Option Expr} {p pos : Pos} (h : WE B c e ρ σ (fun a σ₁ => WP B c lo ρ σ₁ (fun l σ₂ => WP B c hi ρ σ₂ (fun u σ₃ => ∃ x, a = .data (.str x) ∧ x.length ≤ sizeLine ∧ Q (.data (.str (Txt.slice x l u))) σ₃) X) X) X) : WE B c (.Subscript e (.Slice lo hi none p) pos) ρ σ Q X := fun s S => by
  rw [eval_Subscript]
  refine wpAny_bind (wpAny_mono (h s S) (fun v s₁ ⟨a, σ₁, S₁, E₁, r₁, q₁⟩ => wpAny_bind (wpAny_holding (wpAny_Slice (wpAny_mono (q₁ s₁ S₁) (fun vl s₂ ⟨l, σ₂, el, S₂, E₂, q₂⟩ => wpAny_mono (q₂ s₂ S₂) (fun vu s₃ ⟨u, σ₃, eu, S₃, E₃, x, ea, hz, q⟩ => ?_)
    fun _ _ h => h.weaken (E₁.trans E₂)) fun _ _ h => h.weaken E₁)))) fun _ _ h => h)
  subst ea
  subst el
  subst eu
  obtain ⟨t, rfl⟩ := str_of r₁
  rw [evalPart_none]
  refine wpAny_pure (wpAny_bind (wpAny_standAt (wpAny_bind ?_)))
  have hT := typeIs_str { s₃ with heap := s₃.heap.push { cls := .type "slice", data := .fields #[partValue l, partValue u, .none] } } x t
  rw [getitemInPython_of_ne hT.not_modules]
  refine wpAny_bind (wpAny_specialOf hT F.slot_str_getitem.lookup (wpAny_pure (wpAny_bind (wpAny_operating (wpAny_getItem_str_slice (l := l) (u := u) (st := none) ⟨_, Heap.get?_push_size _ rfl, rfl, rfl⟩ rfl ?_)))))
  obtain ⟨S₄, E₄⟩ := S₃.grow (tk := s₃.toks) (push_keep { cls := .type "slice", data := .fields #[partValue l, partValue u, .none] })
  refine post_val_or_str ⟨Nat.le_trans (Txt.slice_le x _ _) hz, fun t' k => ?_⟩
  exact wpAny_bind (wpAny_letTemporaryGo (wpAny_pure ⟨_, σ₃, S₄.toks _, ((E₁.trans E₂).trans E₃).trans E₄, drel_str, q⟩))
end
/-! data: its shape, itself -/
noncomputable def Sh (k : Nat) (d : PyData) : Prop := d.canLay0 = true ∧ d.depth ≤ k
theorem Sh.none {k : Nat} : Sh k .none := ⟨by simp [PyData.canLay0], by simp [PyData.depth]⟩
theorem Sh.int {k : Nat} {i : Int} : Sh k (.int i) := ⟨by simp [PyData.canLay0], by simp [PyData.depth]⟩
theorem Sh.str {k : Nat} {x : Str} (h : PyData.strOk x = true) : Sh k (.str x) := ⟨by simpa [PyData.canLay0] using h, by simp [PyData.depth]⟩
theorem Sh.all {k : Nat} : ∀ {ds : List PyData}, (∀ d ∈ ds, Sh k d) → PyData.canLayAll0 ds = true ∧ PyData.depthAll ds ≤ k
  | [], _ => ⟨by simp [PyData.canLayAll0], by simp [PyData.depthAll]⟩
  | d :: ds, h => by
    obtain ⟨h1, h2⟩ := h d (.head _)
    obtain ⟨h3, h4⟩ := Sh.all fun x hx => h x (.tail _ hx)
    exact ⟨by simp [PyData.canLayAll0, h1, h3], by simp only [PyData.depthAll]; lia⟩
theorem Sh.tuple {k : Nat} {ds : List PyData} (h : ∀ d ∈ ds, Sh k d) : Sh (k + 1) (.tuple ds) := by
  obtain ⟨h1, h2⟩ := Sh.all h
  exact ⟨by simpa [PyData.canLay0] using h1, by simp only [PyData.depth]; lia⟩
theorem Sh.list {k : Nat} {ds : List PyData} (h : ∀ d ∈ ds, Sh k d) : Sh (k + 1) (.list ds) := by
  obtain ⟨h1, h2⟩ := Sh.all h
  exact ⟨by simpa [PyData.canLay0] using h1, by simp only [PyData.depth]; lia⟩
theorem Sh.mono {k k' : Nat} {d : PyData} (h : Sh k d) (hk : k ≤ k') : Sh k' d := ⟨h.1, Nat.le_trans h.2 hk⟩
theorem Sh.shaped {k : Nat} {d : PyData} (h : Sh k d) (hk : k ≤ 64) : shaped d = true := by
  unfold PySem.SeqAt.shaped; rw [h.1, Bool.true_and]; exact decide_eq_true (Nat.le_trans h.2 hk)
mutual
theorem eqvSelf : ∀ d : PyData, d.canLay0 = true → PyData.eqv d d = true
  | .none, _ => by simp [PyData.eqv]
  | .bool b, _ => by simp [PyData.eqv]
  | .int i, _ => by simp [PyData.eqv]
  | .str x, _ => by simp [PyData.eqv]
  | .list xs, h => by simp only [PyData.eqv]; exact eqvSelfAll xs (by simpa [PyData.canLay0] using h)
  | .tuple xs, h => by simp only [PyData.eqv]; exact eqvSelfAll xs (by simpa [PyData.canLay0] using h)
  | .dict _, h => by simp [PyData.canLay0] at h
theorem eqvSelfAll : ∀ xs : List PyData, PyData.canLayAll0 xs = true → PyData.eqvAll xs xs = true
  | [], _ => by simp [PyData.eqvAll]
  | x :: xs, h => by
    have h' : x.canLay0 = true ∧ PyData.canLayAll0 xs = true := by simpa [PyData.canLayAll0] using h
    simp only [PyData.eqvAll, eqvSelf x h'.1, eqvSelfAll xs h'.2, Bool.and_self]
end
theorem Sh.self {k : Nat} {d : PyData} (h : Sh k d) : PyData.eqv d d = true := eqvSelf d h.1
theorem Sh.pair {k : Nat} {a b : PyData} (h1 : Sh k a) (h2 : Sh k b) : Sh (k + 1) (.tuple [a, b]) := Sh.tuple fun d hd => by
  simp only [List.mem_cons, List.not_mem_nil, or_false] at hd
  rcases hd with rfl | rfl <;> assumption
/-! places in a list, by their number -/
theorem AtH.n0 {a : Addr} {o : AO} {l : List (Addr × AO)} : AtH ((a, o) :: l) a o := .here
theorem PutH.n0 {a : Addr} {o o' : AO} {l : List (Addr × AO)} : PutH ((a, o) :: l) a o' ((a, o') :: l) := .here
theorem CutH.n0 {a : Addr} {o : AO} {l : List (Addr × AO)} : CutH ((a, o) :: l) a o (l) := .here
theorem AtH.n1 {p0 : Addr × AO} {a : Addr} {o : AO} {l : List (Addr × AO)} : AtH (p0 :: (a, o) :: l) a o := .there (.here)
theorem PutH.n1 {p0 : Addr × AO} {a : Addr} {o o' : AO} {l : List (Addr × AO)} : PutH (p0 :: (a, o) :: l) a o' (p0 :: (a, o') :: l) := .there (.here)
theorem CutH.n1 {p0 : Addr × AO} {a : Addr} {o : AO} {l : List (Addr × AO)} : CutH (p0 :: (a, o) :: l) a o (p0 :: l) := .there (.here)
theorem AtH.n2 {p0 p1 : Addr × AO} {a : Addr} {o : AO} {l : List (Addr × AO)} : AtH (p0 :: p1 :: (a, o) :: l) a o := .there (.there (.here))
theorem PutH.n2 {p0 p1 : Addr × AO} {a : Addr} {o o' : AO} {l : List (Addr × AO)} : PutH (p0 :: p1 :: (a, o) :: l) a o' (p0 :: p1 :: (a, o') :: l) := .there (.there (.here))
theorem CutH.n2 {p0 p1 : Addr × AO} {a : Addr} {o : AO} {l : List (Addr × AO)} : CutH (p0 :: p1 :: (a, o) :: l) a o (p0 :: p1 :: l) := .there (.there (.here))
theorem AtH.n3 {p0 p1 p2 : Addr × AO} {a : Addr} {o : AO} {l : List (Addr × AO)} : AtH (p0 :: p1 :: p2 :: (a, o) :: l) a o := .there (.there (.there (.here)))
theorem PutH.n3 {p0 p1 p2 : Addr × AO} {a : Addr} {o o' : AO} {l : List (Addr × AO)} : PutH (p0 :: p1 :: p2 :: (a, o) :: l) a o' (p0 :: p1 :: p2 :: (a, o') :: l) := .there (.there (.there (.here)))
theorem CutH.n3 {p0 p1 p2 : Addr × AO} {a : Addr} {o : AO} {l : List (Addr × AO)} : CutH (p0 :: p1 :: p2 :: (a, o) :: l) a o (p0 :: p1 :: p2 :: l) := .there (.there (.there (.here)))
theorem AtH.n4 {p0 p1 p2 p3 : Addr × AO} {a : Addr} {o : AO} {l : List (Addr × AO)} : AtH (p0 :: p1 :: p2 :: p3 :: (a, o) :: l) a o := .there (.there (.there (.there (.here))))
theorem PutH.n4 {p0 p1 p2 p3 : Addr × AO} {a : Addr} {o o' : AO} {l : List (Addr × AO)} : PutH (p0 :: p1 :: p2 :: p3 :: (a, o) :: l) a o' (p0 :: p1 :: p2 :: p3 :: (a, o') :: l) := .there (.there (.there (.there (.here))))
theorem CutH.n4 {p0 p1 p2 p3 : Addr × AO} {a : Addr} {o : AO} {l : List (Addr × AO)} : CutH (p0 :: p1 :: p2 :: p3 :: (a, o) :: l) a o (p0 :: p1 :: p2 :: p3 :: l) := .there (.there (.there (.there (.here))))
theorem AtH.n5 {p0 p1 p2 p3 p4 : Addr × AO} {a : Addr} {o : AO} {l : List (Addr × AO)} : AtH (p0 :: p1 :: p2 :: p3 :: p4 :: (a, o) :: l) a o := .there (.there (.there (.there (.there (.here)))))
theorem PutH.n5 {p0 p1 p2 p3 p4 : Addr × AO} {a : Addr} {o o' : AO} {l : List (Addr × AO)} : PutH (p0 :: p1 :: p2 :: p3 :: p4 :: (a, o) :: l) a o' (p0 :: p1 :: p2 :: p3 :: p4 :: (a, o') :: l) := .there (.there (.there (.there (.there (.here)))))
theorem AtH.n6 {p0 p1 p2 p3 p4 p5 : Addr × AO} {a : Addr} {o : AO} {l : List (Addr × AO)} : AtH (p0 :: p1 :: p2 :: p3 :: p4 :: p5 :: (a, o) :: l) a o := .there (.there (.there (.there (.there (.there (.here))))))
theorem PutH.n6 {p0 p1 p2 p3 p4 p5 : Addr × AO} {a : Addr} {o o' : AO} {l : List (Addr × AO)} : PutH (p0 :: p1 :: p2 :: p3 :: p4 :: p5 :: (a, o) :: l) a o' (p0 :: p1 :: p2 :: p3 :: p4 :: p5 :: (a, o') :: l) := .there (.there (.there (.there (.there (.there (.here))))))
theorem CutH.n6 {p0 p1 p2 p3 p4 p5 : Addr × AO} {a : Addr} {o : AO} {l : List (Addr × AO)} : CutH (p0 :: p1 :: p2 :: p3 :: p4 :: p5 :: (a, o) :: l) a o (p0 :: p1 :: p2 :: p3 :: p4 :: p5 :: l) := .there (.there (.there (.there (.there (.there (.here))))))
theorem AtH.n7 {p0 p1 p2 p3 p4 p5 p6 : Addr × AO} {a : Addr} {o : AO} {l : List (Addr × AO)} : AtH (p0 :: p1 :: p2 :: p3 :: p4 :: p5 :: p6 :: (a, o) :: l) a o := .there (.there (.there (.there (.there (.there (.there (.here)))))))
theorem PutH.n7 {p0 p1 p2 p3 p4 p5 p6 : Addr × AO} {a : Addr} {o o' : AO} {l : List (Addr × AO)} : PutH (p0 :: p1 :: p2 :: p3 :: p4 :: p5 :: p6 :: (a, o) :: l) a o' (p0 :: p1 :: p2 :: p3 :: p4 :: p5 :: p6 :: (a, o') :: l) := .there (.there (.there (.there (.there (.there (.there (.here)))))))
theorem AtH.n8 {p0 p1 p2 p3 p4 p5 p6 p7 : Addr × AO} {a : Addr} {o : AO} {l : List (Addr × AO)} : AtH (p0 :: p1 :: p2 :: p3 :: p4 :: p5 :: p6 :: p7 :: (a, o) :: l) a o := .there (.there (.there (.there (.there (.there (.there (.there (.here))))))))
end
/-! P12 -/
section
variable {B : Bs} {c : Cx} {ρ : Loc} {σ : AH} {s : Shared}
section
variable {σ₀ : AH} {l : List (Addr × AO)}
theorem Hs.cellN {L : Addr} {v : Option AV} (H : Hs σ₀ σ l) (F : ∀ k, L ≤ k → σ k = none) : Hs σ₀ (Mine.upd σ L (.cell v)) ((L, .cell v) :: l) ∧ ∀ k, L + 1 ≤ k → Mine.upd σ L (.cell v) k = none :=
  ⟨H.new (F L (Nat.le_refl L)), fun k hk => by rw [upd_ne (show k ≠ L from fun e => by subst e; exact absurd hk (Nat.not_succ_le_self _))]; exact F k (Nat.le_of_succ_le hk)⟩
theorem free1 {L : Addr} (F : ∀ k, L ≤ k → σ k = none) : ∀ k, L + 1 ≤ k → σ k = none := fun k hk => F k (Nat.le_of_succ_le hk)
end
noncomputable def lamAl : List (Pos × Str) := [(⟨263, 22, 263, 63⟩, PySem.Str.ofString "_law_lines.<locals>.<lambda>"), (⟨272, 22, 272, 44⟩, PySem.Str.ofString "_law_bare_line.<locals>.<lambda>"), (⟨325, 26, 325, 62⟩, PySem.Str.ofString "_law_steps.<locals>.<lambda>"),
  (⟨345, 17, 345, 59⟩, PySem.Str.ofString "_law_lists.<locals>.<lambda>"), (⟨350, 17, 350, 45⟩, PySem.Str.ofString "_law_lists.<locals>.<lambda>"), (⟨352, 40, 352, 73⟩, PySem.Str.ofString "_law_lists.<locals>.<lambda>")]
noncomputable def okI (kv : Int × PyData) : Prop := 0 ≤ kv.1 ∧ kv.1 ≤ 5 ∧ (kv.1 = 5 → ∃ s, kv.2 = .str s ∧ s.length ≤ 5 ∧ PyData.strOk s = true) ∧ (kv.1 ≠ 5 → kv.2 = .int 7)
theorem okI.good {kv : Int × PyData} (h : okI kv) : goodI kv := fun e => let ⟨s, h1, h2, _⟩ := h.2.2.1 e; ⟨s, h1, by lia⟩
theorem pqrst {m : Int} (h0 : 0 ≤ m) (h6 : m < 6) : (Txt.slice (PySem.Str.ofString "pqrst") none (some m)).length ≤ 5 ∧ PyData.strOk (Txt.slice (PySem.Str.ofString "pqrst") none (some m)) = true := by
  have : m = 0 ∨ m = 1 ∨ m = 2 ∨ m = 3 ∨ m = 4 ∨ m = 5 := by lia
  rcases this with rfl | rfl | rfl | rfl | rfl | rfl <;> decide +kernel
theorem weigh {k : Int} (h0 : 0 ≤ k) (h6 : k < 6) (w : Int) : ([.int 1, .int 1, .int 2, .int 2, .int 1, .int w] : List PyData)[k.toNat]? = some (.int (if k = 5 then w else wt k)) := by
  have : k = 0 ∨ k = 1 ∨ k = 2 ∨ k = 3 ∨ k = 4 ∨ k = 5 := by lia
  rcases this with rfl | rfl | rfl | rfl | rfl | rfl <;> rfl
theorem sz_snoc (l : List (Int × PyData)) (kv : Int × PyData) : sz (l ++ [kv]) = sz l + wtI kv := by
  unfold sz; rw [List.map_append, List.sum_append]; simp
noncomputable def lamOk (al : List (Pos × Str)) (pos : Pos) (q : Str) : Bool := (al.any fun x => x.1 == pos && x.2 == q) && al.all fun x => !(pos.line == x.1.line && pos.col == x.1.col) || x.2 == q
theorem W_LamL {k P : Addr} {al : List (Pos × Str)} {params : Arguments} {body : Expr} {scope : Scope} {pos : Pos} {clos : List (Str × Addr)} {Q : AV → AH → Prop} {X : XT} (hcode : c.env.code = .ref k) (hC : CodeHd B.H0 k P) (hσ : σ P = some (.tabl al)) (hok : lamOk al pos (c.env.qual ++ "<lambda>") = true)
    (hcl : closureFor scope c.env = pure clos) (hne : clos.isEmpty = false) (hdef : defaultsOf params c.env = ([], []))
    (q : ∀ pm c' ctv, Q (.clo (kla_fn "<lambda>" (c.env.qual ++ "<lambda>") params body scope clos pm (.ref c') ctv)) σ) : WE B c (.Lambda params body scope pos) ρ σ Q X := by
  unfold lamOk at hok
  rw [Bool.and_eq_true, List.any_eq_true, List.all_eq_true] at hok
  obtain ⟨⟨x, hx, he⟩, h2⟩ := hok
  rw [Bool.and_eq_true] at he
  obtain ⟨e1, e2⟩ := he
  refine W_Lambda hcode hC hσ ?_ (fun y hy h3 h4 => ?_) hcl hne hdef q
  · have : x = (pos, c.env.qual ++ "<lambda>") := Prod.ext (eq_of_beq e1) (eq_of_beq e2)
    exact this ▸ hx
  · have := h2 y hy
    rw [Bool.or_eq_true, Bool.not_eq_true', Bool.and_eq_false_iff] at this
    rcases this with (h | h) | h
    · rw [beq_eq_false_iff_ne] at h; exact absurd h3 h
    · rw [beq_eq_false_iff_ne] at h; exact absurd h4 h
    · exact eq_of_beq h
theorem Hs.made {x dx : Addr} {o : AO} (hx : σ x = none) (hd : σ dx = none) (hne : x ≠ dx) (hr : o.nr = true := by rfl) : Hs σ (Mine.upd (Mine.upd σ x o) dx (.own x)) [(x, o)] :=
  (Hs.nil.new hx hr).skip (by rw [upd_ne (Ne.symm hne)]; exact hd)
theorem makeFile (L : BL B) {n : Nat} (R : Rm c (n + 2)) {len : Int} {Q : AV → AH → Prop} {X : XT}
    (q : ∀ σ' x dx nd, σ x = none → σ nd = none → nd ≠ sysModules → Hs σ σ' [(nd, .dictI []), (x, .inst 265 dx (filA len nd))] → Q (.ref x) σ') : WF B c (.val (.ref 265)) [.data (.str (PySem.Str.ofString "d")), .data (.str (PySem.Str.ofString "DIRECT")), .data (.str (PySem.Str.ofString "UNFORMATTED")), .data (.int len)] ρ σ Q X := by
  with_reducible refine WF_make (fI := 262) (by rw [L.K]; kernel_rfl) (by rw [L.K]; kernel_rfl) (by rw [L.K]; kernel_rfl) fun x dx hx hd hne => ?_
  have H := Hs.made (o := .inst 265 dx []) hx hd hne
  revert H
  generalize upd (upd σ x (.inst 265 dx [])) dx (.own x) = σ₁
  intro H
  refine initFile L R.up (len := len) (H.get .here) fun σ' nd hnd hs h1 h2 h3 => ⟨rfl, ?_⟩
  have hnx : nd ≠ x := by rintro rfl; rw [H.get .here] at hnd; cases hnd
  refine q σ' x dx nd hx (H.base hnd) hs (H.join (m := [(nd, .dictI []), (x, .inst 265 dx (filA len nd))]) ⟨?_, ?_, ?_, ?_, ?_⟩ (by walk_at "mg"))
  · intro p hp
    simp only [List.mem_cons, List.not_mem_nil, or_false] at hp
    rcases hp with rfl | rfl
    · exact h2
    · exact h1
  · simp [hnx]
  · intro p hp
    simp only [List.mem_cons, List.not_mem_nil, or_false] at hp
    rcases hp with rfl | rfl <;> rfl
  · intro b ao e hm
    simp only [List.map_cons, List.map_nil, List.mem_cons, List.not_mem_nil, or_false, not_or] at hm
    rw [h3 b hm.2 hm.1]; exact e
  · intro b o e hm
    simp only [List.map_cons, List.map_nil, List.mem_cons, List.not_mem_nil, or_false] at hm
    rcases hm with rfl | rfl
    · rw [hnd] at e; cases e
    · rw [H.get .here] at e; cases e
theorem makeUnit (L : BL B) {n : Nat} (R : Rm c (n + 2)) {f : Addr} {Q : AV → AH → Prop} {X : XT}
    (q : ∀ σ' x dx, σ x = none → Hs σ σ' [(x, .inst 286 dx (uniA f 0))] → Q (.ref x) σ') : WF B c (.val (.ref 286)) [.data (.int 4), .ref f, .data .none] ρ σ Q X := by
  with_reducible refine WF_make (fI := 283) (by rw [L.K]; kernel_rfl) (by rw [L.K]; kernel_rfl) (by rw [L.K]; kernel_rfl) fun x dx hx hd hne => ?_
  have H := Hs.made (o := .inst 286 dx []) hx hd hne
  revert H
  generalize upd (upd σ x (.inst 286 dx [])) dx (.own x) = σ₁
  intro H
  refine initUnit L R.up (f := f) (H.get .here) fun σ' h1 h3 => ⟨rfl, ?_⟩
  refine q σ' x dx hx (H.join (m := [(x, .inst 286 dx (uniA f 0))]) ⟨?_, ?_, ?_, ?_, ?_⟩ (by walk_at "mg"))
  · intro p hp
    obtain rfl := List.mem_singleton.mp hp
    exact h1
  · simp
  · intro p hp
    obtain rfl := List.mem_singleton.mp hp
    rfl
  · intro b ao e hm
    simp only [List.map_cons, List.map_nil, List.mem_cons, List.not_mem_nil, or_false] at hm
    rw [h3 b hm]; exact e
  · intro b o e hm
    simp only [List.map_cons, List.map_nil, List.mem_cons, List.not_mem_nil, or_false] at hm
    subst hm
    rw [H.get .here] at e; cases e
theorem Wrote.hs {σ' : AH} {u f nd du df : Addr} {len p k : Int} {es es' : List (Int × AV)} (W : Wrote σ σ' u f nd du df len k es') (H : Hs σ σ [(u, .inst 286 du (uniA f p)), (nd, .dictI es)]) : Hs σ σ' [(u, .inst 286 du (uniA f k)), (nd, .dictI es')] where
  hat p hp := by
    simp only [List.mem_cons, List.not_mem_nil, or_false] at hp
    rcases hp with rfl | rfl
    · exact W.U.hu
    · exact W.U.hn
  nd := H.nd
  nr p hp := by
    simp only [List.mem_cons, List.not_mem_nil, or_false] at hp
    rcases hp with rfl | rfl <;> rfl
  fr b ao e hm := by
    simp only [List.map_cons, List.map_nil, List.mem_cons, List.not_mem_nil, or_false, not_or] at hm
    exact W.keep b ao e hm.1 hm.2
  ro := H.ro
inductive listsJ (L' u r : Addr) (ns : List Int) (k : Int) (l : List (Addr × AO)) (ds : List PyData) (ρ : Loc) : Prop
  | mk (items : List (Int × PyData)) (kk : Int) (a b d : Option AV) (h0 : l = [(r, .list ((items.map itD).map .data)), (L' + 1 + 1 + 1, .cell none), (L' + 1 + 1, .cell (some (.ref r))), (L' + 1, .cell none), (u, urnL ns kk), (379, .tabl lamAl)]) (h1 : 0 ≤ kk) (h2 : kk + 3 * ds.length ≤ k + 20) (h3 : items.length + ds.length ≤ 5) (h4 : (∀ kv ∈ items, okI kv)) (h5 : ρ = [(PySem.Str.ofString "urn", some (.ref u)), (PySem.Str.ofString "size", some (.data (.int (sz items)))), (PySem.Str.ofString "_", a), (PySem.Str.ofString "kind", b), (PySem.Str.ofString "value", d), (PySem.Str.ofString "length", none), (PySem.Str.ofString "due", none), (PySem.Str.ofString "kept", none)]) : listsJ L' u r ns k l ds ρ
theorem lawLists (L : BL B) {n : Nat} (R : Rm c (n + 10)) {u : Addr} {ns : List Int} {k : Int} (H : Hs σ σ [(u, urnL ns k), (379, .tabl lamAl)]) (h0 : 0 ≤ k) (hk : k < 2 ^ 20) (hn : ns.length ≤ 100) (hC : CodeHd B.H0 383 379)
    {Q : AV → AH → Prop} {X : XT} (q : ∀ σ' k', Hs σ σ' [(u, urnL ns k'), (379, .tabl lamAl)] → Q (.data (.bool true)) σ') : WFC B c (.val (.ref 384)) [.ref u] ρ σ Q X := by
  refine in384 L (body := ?b) ?hb R.dep ?hW
  case hb => with_unfolding_all rfl
  intro L' F
  have R' := R.child (e := callEnvC (fdOf B.w.params 384) L' 384)
  have hF : (c.child (callEnvC (fdOf B.w.params 384) L' 384)).Fun := Cx.childFun rfl rfl
  have bc1 := F (L' + 1) (Nat.le_succ _)
  have bc2 := F (L' + 1 + 1) (Nat.le_succ_of_le (Nat.le_succ _))
  have bc3 := F (L' + 1 + 1 + 1) (Nat.le_succ_of_le (Nat.le_succ_of_le (Nat.le_succ _)))
  obtain ⟨H, F⟩ := H.cellN (v := none) (free1 F)
  obtain ⟨H, F⟩ := H.cellN (v := none) F
  obtain ⟨H, F⟩ := H.cellN (v := none) F
  revert H
  generalize upd (upd (upd σ (L' + 1) (AO.cell none)) (L' + 1 + 1) (AO.cell none)) (L' + 1 + 1 + 1) (AO.cell none) = σ₁
  intro H
  clear F
  with_reducible refine WS_assignTuple R'.hh ?_ (by kernel_rfl) (by kernel_rfl) (by kernel_rfl)
  walk_at "w"
  with_reducible refine W_ListT ?_
  walk_at "w"
  refine ⟨by show 0 ≤ _; lia, fun r hr => ?_⟩
  have hr0 := H.base hr
  have H := H.new (o := .list []) hr
  walk_at "r"
  refine ⟨rfl, by show 2 ≤ _; unfold sizeLine; lia, ?_⟩
  refine WUL_cons ?_
  with_reducible refine WU_cell (k := L' + 1 + 1) (o := none) (by kernel_rfl) (by walk_at "sig") ?_ (by kernel_rfl)
  refine WUL_cons ?_
  with_reducible refine WU_name (.there .here) ?_
  refine WUL_nil ?_
  with_reducible refine Hs.goS H (by walk_at "at") rfl ?_
  clear H
  intro σ₁ H
  with_reducible refine WS_forH (σb := σ) (J := listsJ L' u r ns k) hF R'.hh ?iter ?step ?fin (by intro x; kernel_rfl)
  case iter =>
    walk_at "r"
    with_reducible refine tellH L H (by walk_at "at") (by walk_at "at") h0 (by lia) hn (by lia) R'.dep fun v σ₂ hv0 hv6 H => ?_
    obtain ⟨m, rfl⟩ := Int.eq_ofNat_of_zero_le hv0
    walk_at "r"
    with_reducible refine WF_range fun a t₁ t₂ t₃ ha => ?_
    refine ⟨_, _, Itb.range (upd_same _ _ _) (by lia), H.skip ha, [], k + 1, none, none, none, rfl, by lia, ?_, ?_, fun _ h => (by cases h), rfl⟩
    · simp only [List.length_map, List.length_range]; lia
    · simp only [List.length_map, List.length_range, List.length_nil]; lia
  case step =>
    rintro d ds ρ₁ σ₂ l H ⟨items, kk, a, b, d', rfl, hk0, hkk, hlen, hok, rfl⟩
    simp only [List.length_cons] at hkk hlen
    have H := H.self
    with_reducible refine WU_name (.there (.there .here)) ⟨rfl, ?_⟩
    walk_at "r"
    with_reducible refine tellH L H (by walk_at "at") (by walk_at "at") hk0 (by lia) hn (by lia) R'.dep fun v σ₃ hv0 hv6 H => ?_
    walk_at "r"
    refine ifD (fun h5 => ?_) fun h5 => ?_
    · subst h5
      with_reducible refine W_sliceT ?_
      walk_at "r"
      with_reducible refine WP_none (WP_some ?_)
      walk_at "r"
      with_reducible refine tellH L H (by walk_at "at") (by walk_at "at") (by lia) (by lia) hn (by lia) R'.dep fun m σ₄ hm0 hm6 H => ?_
      obtain ⟨p1, p2⟩ := pqrst hm0 hm6
      refine ⟨_, rfl, _, rfl, by decide, ?_⟩
      generalize Txt.slice (PySem.Str.ofString "pqrst") none (some m) = x at p1 p2 ⊢
      walk_at "r"
      with_reducible refine W_cell (k := L' + 1 + 1) (by kernel_rfl) (by walk_at "sig") ?_ (.inl (by kernel_rfl))
      walk_at "r"
      refine WF_append (by walk_at "sig") (by simp only [List.length_map]; unfold sizeLine; lia) ?_
      walk_at "go"
      rename_i σ₅ H
      with_reducible refine WS_augName (.there .here) ?_
      walk_at "r"
      refine ifD (fun _ => ?_) fun h => absurd rfl h
      walk_at "r"
      with_reducible refine WF_str ?_
      walk_at "r"
      with_reducible refine WF_len_str (by unfold sizeLine; lia) ?_
      walk_at "r"
      with_reducible refine WI_tuple (by lia) (by decide) (weigh hv0 hv6 _) ?_
      walk_at "r"
      refine ⟨_, H, rfl, items ++ [(5, .str x)], kk + 1 + 1, _, _, _, by rw [List.map_append, List.map_append]; rfl, by lia, by lia, by rw [List.length_append]; show _ + 1 + _ ≤ _; lia, ?_, by rw [sz_snoc]; rfl⟩
      intro kv hkv
      rcases List.mem_append.mp hkv with h | h
      · exact hok kv h
      · obtain rfl := List.mem_singleton.mp h
        exact ⟨by show (0 : Int) ≤ 5; decide, by show (5 : Int) ≤ 5; decide, fun _ => ⟨x, rfl, p1, p2⟩, fun h => absurd rfl h⟩
    · walk_at "r"
      with_reducible refine W_cell (k := L' + 1 + 1) (by kernel_rfl) (by walk_at "sig") ?_ (.inl (by kernel_rfl))
      walk_at "r"
      refine WF_append (by walk_at "sig") (by simp only [List.length_map]; unfold sizeLine; lia) ?_
      walk_at "go"
      rename_i σ₅ H
      with_reducible refine WS_augName (.there .here) ?_
      walk_at "r"
      refine ifD (fun h => absurd h h5) fun _ => ?_
      walk_at "r"
      with_reducible refine WI_tuple (by lia) (by lia) (weigh hv0 hv6 _) ?_
      walk_at "r"
      have e : sz (items ++ [(v, .int 7)]) = sz items + (if v = 5 then 0 else wt v) := by rw [sz_snoc]; unfold wtI; rw [if_neg h5]
      refine ⟨_, H, rfl, items ++ [(v, .int 7)], kk + 1, _, _, _, by rw [List.map_append, List.map_append]; rfl, by lia, by lia, by rw [List.length_append]; show _ + 1 + _ ≤ _; lia, ?_, by rw [e]⟩
      intro kv hkv
      rcases List.mem_append.mp hkv with h | h
      · exact hok kv h
      · obtain rfl := List.mem_singleton.mp h
        exact ⟨hv0, by show v ≤ 5; lia, fun h => absurd h h5, fun _ => rfl⟩
  case fin =>
    rintro ρ₁ σ₂ l H ⟨items, kk, a, b, d', rfl, hk0, hkk, hlen, hok, rfl⟩
    with_reducible refine WS_dropC (H.get .here) (H.get (by walk_at "at")) ?_
    have H := H.del .here hr0
    walk_at "go"
    rename_i σ₃ H
    walk_at "r"
    with_reducible refine tellH L H (by walk_at "at") (by walk_at "at") hk0 (by lia) hn (by lia) R'.dep fun v σ₄ hv0 hv3 H => ?_
    walk_at "r"
    with_reducible refine WF_max R'.hh ?_
    generalize hlen' : (if sz items + v - 1 > 1 then sz items + v - 1 else 1) = len
    have len1 : 1 ≤ len := by subst hlen'; split <;> lia
    walk_at "q"
    with_reducible refine WS_assignTo ?_ (by kernel_rfl) (by kernel_rfl) (by kernel_rfl)
    walk_at "q"
    with_reducible refine tellH L H (by walk_at "at") (by walk_at "at") (by lia) (by lia) hn (by lia) R'.dep fun nb σ₄ hn0 hn4 H => ?_
    with_reducible refine WU_cell (k := L' + 1) (o := none) (by kernel_rfl) (by walk_at "sig") ?_ (by kernel_rfl)
    walk_at "go"
    rename_i σ₅ H
    with_reducible refine WS_assignTo ?_ (by kernel_rfl) (by kernel_rfl) (by kernel_rfl)
    walk_at "q"
    with_reducible refine makeFile L R' fun σ₆ f df nd hf0 hn0' hnS H' => ?_
    have bf := H.base hf0
    have bn := H.base hn0'
    have H := H.join H' (by walk_at "mg")
    clear H'
    walk_at "q"
    with_reducible refine makeUnit L R' fun σ₇ un du hu0 H' => ?_
    have bu := H.base hu0
    have H := H.join H' (by walk_at "mg")
    clear H'
    with_reducible refine WU_cell (k := L' + 1 + 1 + 1) (o := none) (by kernel_rfl) (by walk_at "sig") ?_ (by kernel_rfl)
    walk_at "go"
    rename_i σ₈ H
    walk_at "q"
    with_reducible refine W_cell (k := L' + 1 + 1 + 1) (by kernel_rfl) (by walk_at "sig") ?_ (.inl (by kernel_rfl))
    walk_at "q"
    with_reducible refine W_List ?_
    walk_at "q"
    with_reducible refine WF_of (writeDirect L (l := [(0, .int 3)]) (f := f) (nd := nd) (df := df) (len := len) (es := []) R' ⟨by walk_at "sig", by walk_at "sig", by walk_at "sig", hnS⟩ ?hg (by decide) ?h18 ?h19 ?wrote)
    case hg =>
      intro kv hkv
      obtain rfl := List.mem_singleton.mp hkv
      exact fun h => absurd h (by show ¬ (0 : Int) = 5; decide)
    case h18 => exact fun h => absurd h (by decide)
    case h19 => exact fun _ h => absurd h (by show ¬ len < 1; lia)
    case wrote =>
    intro _ _ σ₉ W
    have H := H.join (W.hs (H.sel (by walk_at "sel"))) (by walk_at "mg")
    clear W
    walk_at "q"
    with_reducible refine WS_assign ?_ (by kernel_rfl)
    with_reducible refine WG.mono (Q := fun a σ' => σ' = σ₉ ∧ ∃ d, a = .data d ∧ ((d = .int 18 ∧ nb < 1) ∨ (d = .int 19 ∧ ¬ nb < 1 ∧ len < sz items) ∨ (d = .none ∧ ¬ nb < 1 ∧ ¬ len < sz items))) ?due ?next fun _ _ _ q => q
    case due =>
      walk_at "q"
      with_reducible refine W_cell (k := L' + 1) (by kernel_rfl) (by walk_at "sig") ?_ (.inl (by kernel_rfl))
      walk_at "q"
      refine ifD (fun h => ?_) fun h => ?_
      · walk_at "q"
        exact ⟨rfl, _, rfl, .inl ⟨rfl, h⟩⟩
      · walk_at "q"
        refine ifD (fun h2 => ?_) fun h2 => ?_
        · walk_at "q"
          exact ⟨rfl, _, rfl, .inr (.inl ⟨rfl, h, h2⟩)⟩
        · walk_at "q"
          exact ⟨rfl, _, rfl, .inr (.inr ⟨rfl, h, h2⟩)⟩
    case next =>
    rintro x σ' ⟨rfl, due, rfl, hdue⟩
    have H := H
    rw [show storedA ([] : List (Int × AV)) 9 (.data (.list (List.map itD [(0, .int 3)]))) = datas [(9, .list [itD (0, .int 3)])] from rfl] at H
    have dr3 : Sh 3 (.list (items.map itD)) := Sh.list fun d hd => by
      obtain ⟨kv, hkv, rfl⟩ := List.mem_map.mp hd
      obtain ⟨_, _, k5, k7⟩ := hok kv hkv
      unfold itD
      refine Sh.pair .int ?_
      by_cases h : kv.1 = 5
      · obtain ⟨s, e, _, h3⟩ := k5 h; rw [e]; exact .str h3
      · rw [k7 h]; exact .int
    have d03 : Sh 3 (.list [itD (0, .int 3)]) := Sh.list fun d hd => by
      obtain rfl := List.mem_singleton.mp hd
      exact Sh.pair .int .int
    have duS : Sh 1 due := by rcases hdue with ⟨rfl, _⟩ | ⟨rfl, _⟩ | ⟨rfl, _⟩ <;> first | exact .int | exact .none
    generalize hd0 : itD (0, .int 3) = d0 at H d03
    generalize hdr : PyData.list (items.map itD) = dr at H dr3
    walk_at "w"
    walk_at "w"
    refine WG.mono (Q := fun y σ'' => y = false ∧ ∃ p' es', Hs σ σ'' [(un, .inst 286 du (uniA f p')), (nd, .dictI (datas es')), (f, .inst 265 df (filA len nd)), (L' + 1 + 1 + 1, .cell (some (.ref un))), (L' + 1 + 1, .cell (some (.data dr))), (L' + 1, .cell (some (.data (.int nb)))), (u, urnL ns (kk + 1 + 1)), (379, .tabl lamAl)] ∧
      ((isNone due = false ∧ p' = 9 ∧ es' = [(9, .list [d0])]) ∨ (isNone due = true ∧ p' = nb ∧ 1 ≤ nb ∧ es' = [(9, .list [d0]), (nb, dr)]))) ?tst ?more fun _ _ _ q => q
    case tst =>
      walk_at "q"
      with_reducible refine W_LamL (k := 383) (P := 379) (al := lamAl) (clos := [(PySem.Str.ofString "unit", L' + 1 + 1 + 1), (PySem.Str.ofString "record", L' + 1 + 1), (PySem.Str.ofString "number", L' + 1)]) (by kernel_rfl) hC (by walk_at "sig") (by kernel_rfl) (by kernel_rfl) (by kernel_rfl) (by kernel_rfl) fun pm co ctv => ?_
      walk_at "q"
      with_reducible refine WF_of (fell L R' fun c' ρ' Rc => ?_)
      with_reducible refine WFC_clo (by kernel_rfl) Rc.dep (fun L2 f2 F2 => ?_) (noCell (by kernel_rfl)) (by kernel_rfl) (by kernel_rfl) (by kernel_rfl)
      walk_at "q"
      with_reducible refine W_cell (k := L' + 1 + 1 + 1) (by kernel_rfl) (by walk_at "sig") ?_ (.inr (by kernel_rfl))
      walk_at "q"
      with_reducible refine W_cell (k := L' + 1) (by kernel_rfl) (by walk_at "sig") ?_ (.inr (by kernel_rfl))
      walk_at "q"
      with_reducible refine W_cell (k := L' + 1 + 1) (by kernel_rfl) (by walk_at "sig") ?_ (.inr (by kernel_rfl))
      walk_at "q"
      subst hdr
      with_reducible refine WF_of (writeDirect L (l := items) (f := f) (nd := nd) (df := df) (len := len) (es := datas [(9, .list [d0])]) Rc.child ⟨by walk_at "sig", by walk_at "sig", by walk_at "sig", hnS⟩ (fun kv h => (hok kv h).good) (by simp [datas]) ?h18 ?h19 ?wr)
      case h18 =>
        intro hlt x σ1 G M
        have e : due = .int 18 := by rcases hdue with ⟨h, _⟩ | ⟨_, h, _⟩ | ⟨_, h, _⟩ <;> first | exact h | exact absurd hlt h
        subst e
        refine ⟨rfl, .inr ⟨18, M, ?_⟩⟩
        have H := H.grew G
        walk_at "q"
        refine W2_ne ((Sh.pair (k := 0) .none .int).shaped (by decide)) ((Sh.pair (k := 0) .none .int).shaped (by decide)) R'.u64 ?_
        rw [(Sh.pair (k := 0) .none (.int (i := 18))).self]
        walk_at "q"
        exact ⟨rfl, 9, _, H, .inl ⟨rfl, rfl, rfl⟩⟩
      case h19 =>
        intro h1 h2 x σ1 G M
        have e : due = .int 19 := by rcases hdue with ⟨_, h⟩ | ⟨h, _⟩ | ⟨_, _, h⟩ <;> first | exact h | exact absurd h h1 | exact absurd h2 h
        subst e
        refine ⟨rfl, .inr ⟨19, M, ?_⟩⟩
        have H := H.grew G
        walk_at "q"
        refine W2_ne ((Sh.pair (k := 0) .none .int).shaped (by decide)) ((Sh.pair (k := 0) .none .int).shaped (by decide)) R'.u64 ?_
        rw [(Sh.pair (k := 0) .none (.int (i := 19))).self]
        walk_at "q"
        exact ⟨rfl, 9, _, H, .inl ⟨rfl, rfl, rfl⟩⟩
      case wr =>
        intro h1 h2 σ1 W
        have e : due = .none := by rcases hdue with ⟨_, h⟩ | ⟨_, _, h⟩ | ⟨h, _⟩ <;> first | exact h | exact absurd h h1 | exact absurd h h2
        subst e
        have H := H.join (W.hs (H.sel (by walk_at "sel"))) (by walk_at "mg")
        rw [show storedA (datas [(9, PyData.list [d0])]) nb (.data (.list (items.map itD))) = datas [(9, .list [d0]), (nb, .list (items.map itD))] by
          unfold storedA datas
          rw [if_neg (by simp; lia)]; rfl] at H
        refine ⟨.none, rfl, ?_⟩
        walk_at "q"
        refine W2_ne ((Sh.pair (k := 0) .none .none).shaped (by decide)) ((Sh.pair (k := 0) .none .none).shaped (by decide)) R'.u64 ?_
        rw [(Sh.pair (k := 0) .none .none).self]
        walk_at "q"
        exact ⟨rfl, nb, _, H, .inr ⟨rfl, rfl, by lia, rfl⟩⟩
    case more =>
      rintro y σ1 ⟨rfl, p', es', H, hcase⟩
      walk_at "q"
      with_reducible refine WS_assign ?_ (by kernel_rfl)
      walk_at "q"
      rcases hcase with ⟨hb, rfl, rfl⟩ | ⟨hb, rfl, hp1, rfl⟩
      · rw [hb]
        refine ifT ?_
        with_reducible refine W_Dict (kdI B) (fun a ha hs => ?_) (by kernel_rfl) (by kernel_rfl) (by simp) (by decide)
        have ba := H.base ha
        have H : Hs σ (upd σ1 a ((kdI B).ao [])) _ := H.new (o := .dictI []) ha
        with_reducible refine WDP_cons (kdI B) ?_
        walk_at "q"
        refine ⟨9, rfl, ?_⟩
        with_reducible refine W_List ?_
        walk_at "q"
        with_reducible refine WDP_nil (kdI B) ?_
        refine ⟨upd_same _ _ _, ?_⟩
        have H := H.upd (o := .dictI (datas [(9, .list [d0])])) .n0
        rw [show mergedA [] [((9 : Int), AV.data (.list [.tuple [.int 0, .int 3]]))] = datas [(9, .list [d0])] by rw [← hd0]; rfl]
        replace H : Hs σ (upd (upd σ1 a ((kdI B).ao [])) a ((kdI B).ao (datas [(9, .list [d0])]))) _ := H
        generalize upd (upd σ1 a ((kdI B).ao [])) a ((kdI B).ao (datas [(9, .list [d0])])) = σ2 at H ⊢
        have ndS : ∀ kv ∈ ([(9, .list [d0])] : List (Int × PyData)), shaped kv.2 = true := fun kv h => by
          simp only [List.mem_cons, List.not_mem_nil, or_false] at h
          subst h; exact d03.shaped (by decide)
        walk_at "q"
        with_reducible refine W_cell (k := L' + 1 + 1 + 1) (by kernel_rfl) (by walk_at "sig") ?_ (.inl (by kernel_rfl))
        walk_at "q"
        refine W2_neDict (kdI B) (es := [(9, .list [d0])]) (es' := [(9, .list [d0])]) (H.get (a := nd) (o := .dictI (datas [(9, .list [d0])])) (by walk_at "at")) (H.get (a := a) (o := .dictI (datas [(9, .list [d0])])) (by walk_at "at")) hnS hs ndS ndS R'.u100 ?_
        rw [show (([(9, .list [d0])] : List (Int × PyData)).length == ([(9, .list [d0])] : List (Int × PyData)).length && eqvTo ([(9, .list [d0])] : List (Int × PyData)) [(9, .list [d0])]) = true by simp [eqvTo, d03.self]]
        walk_at "q"
        refine ifF ?_
        walk_at "q"
        with_reducible refine W_cell (k := L' + 1 + 1 + 1) (by kernel_rfl) (by walk_at "sig") ?_ (.inl (by kernel_rfl))
        walk_at "q"
        rw [hb]
        refine ifT ?_
        walk_at "q"
        refine ifB (fun h => absurd h (by decide)) fun _ => ?_
        walk_at "q"
        walk_at "q"
        with_reducible refine W_LamL (k := 383) (P := 379) (al := lamAl) (clos := [(PySem.Str.ofString "unit", L' + 1 + 1 + 1)]) (by kernel_rfl) hC (by walk_at "sig") (by kernel_rfl) (by kernel_rfl) (by kernel_rfl) (by kernel_rfl) fun pm co ctv => ?_
        walk_at "q"
        with_reducible refine WF_of (fell L R' fun c' ρ' Rc => ?_)
        with_reducible refine WFC_clo (by kernel_rfl) Rc.dep (fun L2 f2 F2 => ?_) (noCell (by kernel_rfl)) (by kernel_rfl) (by kernel_rfl) (by kernel_rfl)
        walk_at "q"
        with_reducible refine W_cell (k := L' + 1 + 1 + 1) (by kernel_rfl) (by walk_at "sig") ?_ (.inr (by kernel_rfl))
        walk_at "q"
        have k5 : ∀ av, ((5 : Int), av) ∉ datas [(9, .list [d0])] := fun av h => by
          simp only [datas, List.map_cons, List.map_nil, List.mem_cons, List.not_mem_nil, or_false, Prod.mk.injEq] at h
          lia
        with_reducible refine WF_of (readDirect L (f := f) (nd := nd) (df := df) (len := len) (es := datas [(9, .list [d0])]) Rc.child ⟨by walk_at "sig", by walk_at "sig", by walk_at "sig", hnS⟩ (fun _ x σ3 G M => ?_) fun av h => absurd h (k5 av))
        refine ⟨rfl, .inr ⟨18, M, ?_⟩⟩
        have H := H.grew G
        walk_at "q"
        refine W2_ne ((Sh.pair (k := 0) .none .int).shaped (by decide)) ((Sh.pair (k := 0) .none .int).shaped (by decide)) R'.u64 ?_
        rw [(Sh.pair (k := 0) .none (.int (i := 18))).self]
        walk_at "q"
        refine ifF ?_
        walk_at "q"
        with_reducible refine W_cell (k := L' + 1 + 1 + 1) (by kernel_rfl) (by walk_at "sig") ?_ (.inl (by kernel_rfl))
        walk_at "q"
        rw [hb]
        refine ifT ?_
        walk_at "q"
        refine ifB (fun h => absurd h (by decide)) fun _ => ?_
        walk_at "q"
        rw [hb]
        walk_at "q"
        refine ifT ?_
        walk_at "q"
        exact q _ _ (((((((H.cut .n0 ba).cut .n0 bu).cut .n0 bn).cut .n0 bf).cut .n0 bc3).cut .n0 bc2).cut .n0 bc1)
      · rw [hb]
        refine ifF ?_
        with_reducible refine W_Dict (kdI B) (fun a ha hs => ?_) (by kernel_rfl) (by kernel_rfl) (by simp) (by decide)
        have ba := H.base ha
        have H : Hs σ (upd σ1 a ((kdI B).ao [])) _ := H.new (o := .dictI []) ha
        with_reducible refine WDP_cons (kdI B) ?_
        walk_at "q"
        refine ⟨9, rfl, ?_⟩
        with_reducible refine W_List ?_
        walk_at "q"
        with_reducible refine WDP_cons (kdI B) ?_
        walk_at "q"
        with_reducible refine W_cell (k := L' + 1) (by kernel_rfl) (by walk_at "sig") ?_ (.inl (by kernel_rfl))
        refine ⟨p', rfl, ?_⟩
        walk_at "q"
        with_reducible refine W_cell (k := L' + 1 + 1) (by kernel_rfl) (by walk_at "sig") ?_ (.inl (by kernel_rfl))
        with_reducible refine WDP_nil (kdI B) ?_
        refine ⟨upd_same _ _ _, ?_⟩
        have H := H.upd (o := .dictI (datas [(9, .list [d0]), (p', dr)])) .n0
        rw [show mergedA [] [((9 : Int), AV.data (.list [.tuple [.int 0, .int 3]])), (p', AV.data dr)] = datas [(9, .list [d0]), (p', dr)] by
          have h9 : ¬ (9 : Int) = p' := by lia
          rw [← hd0]
          simp [mergedA, storedA, datas, h9, itD]]
        replace H : Hs σ (upd (upd σ1 a ((kdI B).ao [])) a ((kdI B).ao (datas [(9, .list [d0]), (p', dr)]))) _ := H
        generalize upd (upd σ1 a ((kdI B).ao [])) a ((kdI B).ao (datas [(9, .list [d0]), (p', dr)])) = σ2 at H ⊢
        have ndS : ∀ kv ∈ ([(9, .list [d0]), (p', dr)] : List (Int × PyData)), shaped kv.2 = true := fun kv h => by
          simp only [List.mem_cons, List.not_mem_nil, or_false] at h
          rcases h with rfl | rfl
          · exact d03.shaped (by decide)
          · exact dr3.shaped (by decide)
        walk_at "q"
        with_reducible refine W_cell (k := L' + 1 + 1 + 1) (by kernel_rfl) (by walk_at "sig") ?_ (.inl (by kernel_rfl))
        walk_at "q"
        refine W2_neDict (kdI B) (es := [(9, .list [d0]), (p', dr)]) (es' := [(9, .list [d0]), (p', dr)]) (H.get (a := nd) (o := .dictI (datas [(9, .list [d0]), (p', dr)])) (by walk_at "at")) (H.get (a := a) (o := .dictI (datas [(9, .list [d0]), (p', dr)])) (by walk_at "at")) hnS hs ndS ndS R'.u100 ?_
        rw [show (([(9, .list [d0]), (p', dr)] : List (Int × PyData)).length == ([(9, .list [d0]), (p', dr)] : List (Int × PyData)).length && eqvTo ([(9, .list [d0]), (p', dr)] : List (Int × PyData)) [(9, .list [d0]), (p', dr)]) = true by
          have h9 : ¬ (9 : Int) = p' := by lia
          simp [eqvTo, d03.self, dr3.self, h9]]
        walk_at "q"
        refine ifF ?_
        walk_at "q"
        with_reducible refine W_cell (k := L' + 1 + 1 + 1) (by kernel_rfl) (by walk_at "sig") ?_ (.inl (by kernel_rfl))
        walk_at "q"
        rw [hb]
        refine ifF ?_
        walk_at "q"
        with_reducible refine W_cell (k := L' + 1) (by kernel_rfl) (by walk_at "sig") ?_ (.inl (by kernel_rfl))
        walk_at "q"
        refine ifB (fun h => absurd h (by simp)) fun _ => ?_
        walk_at "q"
        walk_at "q"
        with_reducible refine W_LamL (k := 383) (P := 379) (al := lamAl) (clos := [(PySem.Str.ofString "unit", L' + 1 + 1 + 1)]) (by kernel_rfl) hC (by walk_at "sig") (by kernel_rfl) (by kernel_rfl) (by kernel_rfl) (by kernel_rfl) fun pm co ctv => ?_
        walk_at "q"
        with_reducible refine WF_of (fell L R' fun c' ρ' Rc => ?_)
        with_reducible refine WFC_clo (by kernel_rfl) Rc.dep (fun L2 f2 F2 => ?_) (noCell (by kernel_rfl)) (by kernel_rfl) (by kernel_rfl) (by kernel_rfl)
        walk_at "q"
        with_reducible refine W_cell (k := L' + 1 + 1 + 1) (by kernel_rfl) (by walk_at "sig") ?_ (.inr (by kernel_rfl))
        walk_at "q"
        have k5 : ∀ av, ((5 : Int), av) ∉ datas [(9, .list [d0]), (p', dr)] := fun av h => by
          simp only [datas, List.map_cons, List.map_nil, List.mem_cons, List.not_mem_nil, or_false, Prod.mk.injEq] at h
          lia
        with_reducible refine WF_of (readDirect L (f := f) (nd := nd) (df := df) (len := len) (es := datas [(9, .list [d0]), (p', dr)]) Rc.child ⟨by walk_at "sig", by walk_at "sig", by walk_at "sig", hnS⟩ (fun _ x σ3 G M => ?_) fun av h => absurd h (k5 av))
        refine ⟨rfl, .inr ⟨18, M, ?_⟩⟩
        have H := H.grew G
        walk_at "q"
        refine W2_ne ((Sh.pair (k := 0) .none .int).shaped (by decide)) ((Sh.pair (k := 0) .none .int).shaped (by decide)) R'.u64 ?_
        rw [(Sh.pair (k := 0) .none (.int (i := 18))).self]
        walk_at "q"
        refine ifF ?_
        walk_at "q"
        with_reducible refine W_cell (k := L' + 1 + 1 + 1) (by kernel_rfl) (by walk_at "sig") ?_ (.inl (by kernel_rfl))
        walk_at "q"
        rw [hb]
        refine ifF ?_
        walk_at "q"
        with_reducible refine W_cell (k := L' + 1) (by kernel_rfl) (by walk_at "sig") ?_ (.inl (by kernel_rfl))
        walk_at "q"
        refine ifB (fun h => absurd h (by simp)) fun _ => ?_
        walk_at "q"
        rw [hb]
        walk_at "q"
        refine ifF ?_
        walk_at "q"
        with_reducible refine W_LamL (k := 383) (P := 379) (al := lamAl) (clos := [(PySem.Str.ofString "unit", L' + 1 + 1 + 1), (PySem.Str.ofString "number", L' + 1)]) (by kernel_rfl) hC (by walk_at "sig") (by kernel_rfl) (by kernel_rfl) (by kernel_rfl) (by kernel_rfl) fun pm co ctv => ?_
        walk_at "q"
        with_reducible refine WF_of (fell L R' fun c' ρ' Rc => ?_)
        with_reducible refine WFC_clo (by kernel_rfl) Rc.dep (fun L2 f2 F2 => ?_) (noCell (by kernel_rfl)) (by kernel_rfl) (by kernel_rfl) (by kernel_rfl)
        walk_at "q"
        with_reducible refine W_cell (k := L' + 1 + 1 + 1) (by kernel_rfl) (by walk_at "sig") ?_ (.inr (by kernel_rfl))
        walk_at "q"
        with_reducible refine W_cell (k := L' + 1) (by kernel_rfl) (by walk_at "sig") ?_ (.inr (by kernel_rfl))
        walk_at "q"
        with_reducible refine WF_of (readDirect L (f := f) (nd := nd) (df := df) (len := len) (es := datas [(9, .list [d0]), (p', dr)]) Rc.child ⟨by walk_at "sig", by walk_at "sig", by walk_at "sig", hnS⟩ (fun h => absurd (by simp [datas]) h) fun av h => ?_)
        have hav : av = .data dr := by
          simp only [datas, List.map_cons, List.map_nil, List.mem_cons, List.not_mem_nil, or_false, Prod.mk.injEq] at h
          rcases h with ⟨h, _⟩ | ⟨_, h⟩
          · lia
          · exact h
        subst hav
        refine ⟨dr, rfl, ?_⟩
        have H := H.upd (a := un) (o := .inst 286 du (uniA f p')) (by walk_at "at")
        revert H
        generalize upd σ3 un (.inst 286 du (uniA f p')) = σ4
        intro H
        walk_at "q"
        with_reducible refine W_cell (k := L' + 1 + 1) (by kernel_rfl) (by walk_at "sig") ?_ (.inl (by kernel_rfl))
        walk_at "q"
        refine W2_eq ((Sh.pair dr3 .none).shaped (by decide)) ((Sh.pair dr3 .none).shaped (by decide)) R'.u64 ?_
        rw [(Sh.pair dr3 .none).self]
        walk_at "q"
        exact q _ _ (((((((H.cut .n0 ba).cut .n0 bu).cut .n0 bn).cut .n0 bf).cut .n0 bc3).cut .n0 bc2).cut .n0 bc1)
end
/-! P13 -/
section
variable {B : Bs} {c : Cx} {ρ : Loc} {σ : AH} {s : Shared}
/-! Line: its signs, its place -/
noncomputable abbrev one (k : Nat) : Str := ⟨#[k]⟩
noncomputable def chs (cs : List Nat) : List AV := (cs.map one).map fun y => .data (.str y)
noncomputable def tx (cs : List Nat) : Str := ⟨cs.toArray⟩
theorem tx_len {ks : List Nat} : (tx ks).length = ks.length := by simp [tx, Str.length]
noncomputable def pad (cs : List Nat) (n : Nat) : List Nat := cs ++ List.replicate (n - cs.length) 32
noncomputable def putS : List Nat → Nat → List Nat → List Nat
  | cs, _, [] => cs
  | cs, a, k :: ks => putS ((pad cs (a + 1)).set a k) (a + 1) ks
theorem chs_len {cs : List Nat} : (chs cs).length = cs.length := by unfold chs; rw [List.length_map, List.length_map]
theorem chs_snoc {cs : List Nat} {k : Nat} : chs cs ++ [.data (.str (one k))] = chs (cs ++ [k]) := by unfold chs; rw [List.map_append, List.map_append]; rfl
theorem chs_set {cs : List Nat} {k i : Nat} : (chs cs).set i (.data (.str (one k))) = chs (cs.set i k) := by unfold chs; rw [List.map_set, List.map_set]
theorem pad_full {cs : List Nat} {n : Nat} (h : n ≤ cs.length) : pad cs n = cs := by unfold pad; rw [Nat.sub_eq_zero_of_le h]; simp
theorem pad_snoc {cs : List Nat} {n : Nat} (h : cs.length < n) : pad (cs ++ [32]) n = pad cs n := by
  unfold pad
  rw [List.append_assoc, List.length_append, List.singleton_append, show n - cs.length = (n - (cs.length + [32].length)) + 1 by simp only [List.length_singleton]; lia, List.replicate_succ]
theorem pad_len {cs : List Nat} {n : Nat} : (pad cs n).length = max cs.length n := by unfold pad; rw [List.length_append, List.length_replicate]; lia
noncomputable abbrev lineA (sg : Addr) (a : Nat) : List (Str × AV) := [(PySem.Str.ofString "signs", .ref sg), (PySem.Str.ofString "at", .data (.int a))]
theorem initLine (L : BL B) {n : Nat} (R : Rm c (n + 1)) {x dx : Addr} (H : Hs σ σ [(x, .inst 202 dx [])]) {Q : AV → AH → Prop} {X : XT}
    (q : ∀ σ' sg, σ sg = none → Hs σ σ' [(sg, .list (chs [])), (x, .inst 202 dx (lineA sg 0))] → Q (.data .none) σ') : WFC B c (.val (.ref 185)) [.ref x] ρ σ Q X := by
  refine in185 L (body := ?b) ?hb R.dep ?hW
  case hb => with_unfolding_all rfl
  intro L'
  have R' := R.child (e := callEnv (fdOf B.w.params 185) L' 185)
  walk_at "q"
  with_reducible refine W_ListT ?_
  walk_at "q"
  refine ⟨by show 0 ≤ _; lia, fun sg hsg => ?_⟩
  have H := H.new (o := .list []) hsg
  walk_at "q"
  rename_i σ₃ H
  exact q _ sg hsg H
theorem makeLine (L : BL B) {n : Nat} (R : Rm c (n + 2)) {Q : AV → AH → Prop} {X : XT}
    (q : ∀ σ' x dx sg, σ x = none → σ sg = none → Hs σ σ' [(sg, .list (chs [])), (x, .inst 202 dx (lineA sg 0))] → Q (.ref x) σ') : WF B c (.val (.ref 202)) [] ρ σ Q X := by
  refine WF_make (fI := 185) (by rw [L.K]; kernel_rfl) (by rw [L.K]; kernel_rfl) (by rw [L.K]; kernel_rfl) fun x dx hx hd hne => ?_
  have H := Hs.made (o := .inst 202 dx []) hx hd hne
  revert H
  generalize upd (upd σ x (.inst 202 dx [])) dx (.own x) = σ₁
  intro H
  exact initLine L R.up H.self fun σ' sg hsg H' => ⟨rfl, q σ' x dx sg hx (H.base hsg) (H.join H' (by walk_at "mg"))⟩
noncomputable def big : Nat := 200000
inductive putJ (x dx sg : Addr) (cs : List Nat) (a : Nat) (ks : List Nat) (l : List (Addr × AO)) (ds : List PyData) (ρ : Loc) : Prop
  | mk (cs' : List Nat) (a' : Nat) (ks' : List Nat) (b : Option AV) (h0 : l = [(x, .inst 202 dx (lineA sg a')), (sg, .list (chs cs'))]) (h1 : ds = ks'.map (fun k => .str (one k))) (h2 : putS cs' a' ks' = putS cs a ks) (h3 : a' + ks'.length = a + ks.length) (h4 : cs'.length ≤ big) (h5 : ρ = [(PySem.Str.ofString "self", some (.ref x)), (PySem.Str.ofString "text", some (.data (.str (tx ks)))), (PySem.Str.ofString "sign", b)]) : putJ x dx sg cs a ks l ds ρ
inductive padI (σ₁ : AH) (x dx sg : Addr) (cs' : List Nat) (a' : Nat) (ks : List Nat) (k : Nat) (m : Nat) (ρ : Loc) (σ' : AH) : Prop
  | mk (cs'' : List Nat) (h0 : Hs σ₁ σ' [(x, .inst 202 dx (lineA sg a')), (sg, .list (chs cs''))]) (h1 : pad cs'' (a' + 1) = pad cs' (a' + 1)) (h2 : cs''.length ≤ big) (h3 : m = a' + 1 - cs''.length) (h4 : ρ = [(PySem.Str.ofString "self", some (.ref x)), (PySem.Str.ofString "text", some (.data (.str (tx ks)))), (PySem.Str.ofString "sign", some (.data (.str (one k))))]) : padI σ₁ x dx sg cs' a' ks k m ρ σ'
theorem putLine (L : BL B) {n : Nat} (R : Rm c (n + 4)) {x dx sg : Addr} {a : Nat} {cs ks : List Nat} (H : Hs σ σ [(x, .inst 202 dx (lineA sg a)), (sg, .list (chs cs))]) (hks : ks.all (· < 128) = true) (hkl : ks.length ≤ 100) (hcs : cs.length ≤ big) {Q : AV → AH → Prop} {X : XT}
    (hbad : 100000 < a + ks.length → ∀ e σ', Grew σ σ' → XMsg 51 (PySem.Str.ofString "at") (.data (.int (-1))) e σ' → X e ρ σ')
    (q : a + ks.length ≤ 100000 → ∀ σ', Hs σ σ' [(x, .inst 202 dx (lineA sg (a + ks.length))), (sg, .list (chs (putS cs a ks)))] → Q (.data .none) σ') : WFC B c (.val (.ref 192)) [.ref x, .data (.str (tx ks))] ρ σ Q X := by
  refine in192 L (body := ?b) ?hb R.dep ?hW
  case hb => with_unfolding_all rfl
  intro L'
  have R' := R.child (e := callEnv (fdOf B.w.params 192) L' 192)
  have hF : (c.child (callEnv (fdOf B.w.params 192) L' 192)).Fun := Cx.childFun rfl rfl
  walk_at "q"
  with_reducible refine WF_len_str (by rw [tx_len]; unfold sizeLine; lia) ?_
  rw [tx_len]
  walk_at "q"
  refine ifD (fun h => ?_) fun h => ?_
  · have h' : 100000 < a + ks.length := by
      have : (100000 : Int) < (a : Int) + (ks.length : Int) := h
      lia
    refine raise51 L (v := .data (.int (-1))) (t := PySem.Str.ofString "a record that is too long") (R'.less (by lia)) ?hk ?h ?hx ?he ?hpl
    case hk => kernel_rfl
    case h =>
      intro Q' q'
      walk_at "q"
      with_reducible refine W_neg (i := 1) ?_
      walk_at "q"
      refine ⟨rfl, ?_⟩
      walk_at "q"
      exact q'
    case hx => exact fun x σ' G M => hbad h' x σ' G M
    case he => intro e r h; cases h <;> kernel_rfl
    case hpl => kernel_rfl
  · have h' : a + ks.length ≤ 100000 := by
      have : ¬ (100000 : Int) < (a : Int) + (ks.length : Int) := h
      lia
    have q := q h'
    walk_at "q"
    with_reducible refine WS_forH (σb := σ) (J := putJ x dx sg cs a ks) hF R'.hh ?iter ?step ?fin (by intro x; kernel_rfl)
    case iter =>
      walk_at "q"
      exact ⟨_, _, Itb.str (by show ks.toArray.all (· < 128) = true; rw [List.all_toArray]; exact hks), H, cs, a, ks, none, rfl, rfl, rfl, rfl, hcs, rfl⟩
    case step =>
      rintro d ds ρ₁ σ₁ l H ⟨cs', a', ks', b, rfl, hds, hput, ha', hcs', rfl⟩
      cases ks' with
      | nil => cases hds
      | cons k ks' =>
      rw [List.map_cons] at hds
      obtain ⟨rfl, rfl⟩ := List.cons.inj hds
      have H := H.self
      rw [List.length_cons] at ha'
      refine WU_name (.there (.there .here)) ⟨rfl, ?_⟩
      with_reducible refine WS_while (n₀ := a' + 1 - cs'.length) (I := padI σ₁ x dx sg cs' a' ks k) hF ⟨cs', H, rfl, hcs', rfl, rfl⟩ ?_
      rintro m ρ₁ σ₂ ⟨cs'', H, hpad, hcs'', rfl, rfl⟩
      walk_at "q"
      with_reducible refine WF_len_listT (by walk_at "sig") (by rw [chs_len]; unfold big at hcs''; unfold sizeLine; lia) ?_
      rw [chs_len]
      walk_at "q"
      refine ifD (fun h => ?_) fun h => ?_
      · have h2 : cs''.length ≤ a' := by
          have : (cs''.length : Int) ≤ (a' : Int) := h
          lia
        walk_at "q"
        refine WF_append (by walk_at "sig") (by rw [chs_len]; unfold big at hcs''; unfold sizeLine; lia) ?_
        have e : chs cs'' ++ [AV.data (.str (PySem.Str.ofString " "))] = chs (cs'' ++ [32]) := by rw [← chs_snoc]; rfl
        rw [e]
        walk_at "q"
        rename_i σ₃ H
        have h3 : (cs'' ++ [32]).length = cs''.length + 1 := by rw [List.length_append]; rfl
        refine ⟨a' + 1 - (cs'' ++ [32]).length, by lia, cs'' ++ [32], H, ?_, by unfold big at *; lia, rfl, rfl⟩
        rw [pad_snoc (by lia)]; exact hpad
      · have h2 : a' + 1 ≤ cs''.length := by
          have : ¬ (cs''.length : Int) ≤ (a' : Int) := h
          lia
        walk_at "q"
        with_reducible refine WS_assignTo ?_ (by kernel_rfl) (by kernel_rfl) (by kernel_rfl)
        walk_at "q"
        with_reducible refine WU_sub ?_
        walk_at "q"
        with_reducible refine W3_listT (k := (a' : Int)) (by walk_at "sig") (by lia) (by lia) (by rw [chs_len]; lia) ?_
        rw [Int.toNat_natCast, chs_set]
        walk_at "q"
        rename_i σ₃ H
        refine ⟨_, H, rfl, cs''.set a' k, a' + 1, ks', _, rfl, rfl, ?_, by lia, by rw [List.length_set]; exact hcs'', rfl⟩
        rw [← hput]
        show _ = putS ((pad cs' (a' + 1)).set a' k) (a' + 1) ks'
        rw [← hpad, pad_full h2]
    case fin =>
      rintro ρ₁ σ₁ l H ⟨cs', a', ks', b, rfl, hds, hput, ha', hcs', rfl⟩
      cases ks' with
      | cons k ks' => cases hds
      | nil =>
      walk_at "q"
      have e : cs' = putS cs a ks := hput
      have e2 : a' = a + ks.length := ha'
      subst e e2
      exact q _ H
theorem join_fold : ∀ (cs : List Nat) (acc : Array Nat), (cs.map one).foldl (fun acc p => acc ++ (PySem.Str.ofString "").cps ++ p.cps) acc = acc ++ cs.toArray
  | [], acc => by simp
  | k :: cs, acc => by
    have e : (PySem.Str.ofString "").cps = #[] := by decide +kernel
    rw [List.map_cons, List.foldl_cons, join_fold cs, e]
    simp [Array.append_assoc]
theorem join_ones : ∀ {cs : List Nat}, Txt.join (PySem.Str.ofString "") (cs.map one) = tx cs
  | [] => rfl
  | k :: cs => by
    show (⟨((cs.map one).foldl (fun acc p => acc ++ (PySem.Str.ofString "").cps ++ p.cps) (one k).cps)⟩ : Str) = _
    rw [join_fold]
    unfold tx
    congr 1
    simp
theorem textLine (L : BL B) {n : Nat} (R : Rm c (n + 1)) {x dx sg : Addr} {a : Nat} {cs : List Nat} (H : Hs σ σ [(x, .inst 202 dx (lineA sg a)), (sg, .list (chs cs))]) (hcs : cs.length ≤ big) {Q : AV → AH → Prop} {X : XT}
    (q : Q (.data (.str (tx cs))) σ) : WFC B c (.val (.ref 199)) [.ref x] ρ σ Q X := by
  refine in199 L (body := ?b) ?hb R.dep ?hW
  case hb => with_unfolding_all rfl
  intro L'
  have R' := R.child (e := callEnv (fdOf B.w.params 199) L' 199)
  walk_at "q"
  refine ⟨_, _, WM_join, callB, ?_⟩
  walk_at "q"
  refine WF_join (x := PySem.Str.ofString "") (ys := cs.map one) (show σ sg = some (.list (chs cs)) from H.get (by walk_at "at")) (by decide) ?_ ?_
  · have e : (cs.map one).map (·.length) = cs.map fun _ => 1 := by rw [List.map_map]; rfl
    rw [e, List.length_map]
    have : (cs.map fun _ => 1).sum = cs.length := by induction cs with
      | nil => rfl
      | cons _ cs ih => rw [List.map_cons, List.sum_cons, List.length_cons, List.map_const', List.sum_replicate_nat]; lia
    unfold big at hcs; lia
  · rw [join_ones]
    walk_at "q"
    exact q
end
/-! P14 -/
section
variable {B : Bs} {c : Cx} {ρ : Loc} {σ : AH} {s : Shared}
/-! FormatModes, moved -/
noncomputable abbrev modA (s : Int) (p z : Bool) : List (Str × AV) := [(PySem.Str.ofString "scale", .data (.int s)), (PySem.Str.ofString "is_plus", .data (.bool p)), (PySem.Str.ofString "is_zeros", .data (.bool z))]
theorem initModes (L : BL B) {n : Nat} (R : Rm c (n + 1)) {x dx : Addr} {z : Bool} (H : Hs σ σ [(x, .inst 160 dx [])]) {Q : AV → AH → Prop} {X : XT}
    (q : ∀ σ', Hs σ σ' [(x, .inst 160 dx (modA 0 false z))] → Q (.data .none) σ') : WFC B c (.val (.ref 150)) [.ref x, .data (.bool z)] ρ σ Q X := by
  refine in150 L (body := ?b) ?hb R.dep ?hW
  case hb => with_unfolding_all rfl
  intro L'
  have R' := R.child (e := callEnv (fdOf B.w.params 150) L' 150)
  walk_at "q"
  exact q _ (by assumption)
theorem makeModes (L : BL B) {n : Nat} (R : Rm c (n + 2)) {z : Bool} {Q : AV → AH → Prop} {X : XT}
    (q : ∀ σ' x dx, σ x = none → Hs σ σ' [(x, .inst 160 dx (modA 0 false z))] → Q (.ref x) σ') : WF B c (.val (.ref 160)) [.data (.bool z)] ρ σ Q X := by
  refine WF_make (fI := 150) (by rw [L.K]; kernel_rfl) (by rw [L.K]; kernel_rfl) (by rw [L.K]; kernel_rfl) fun x dx hx hd hne => ?_
  have H := Hs.made (o := .inst 160 dx []) hx hd hne
  revert H
  generalize upd (upd σ x (.inst 160 dx [])) dx (.own x) = σ₁
  intro H
  exact initModes L R.up H.self fun σ' H' => ⟨rfl, q σ' x dx hx (H.join H' (by walk_at "mg"))⟩
theorem ifE {x : Bool} {a b : Prop} (h : x = false) (hb : b) : if x = true then a else b := by rw [h]; exact hb
theorem ifI {x : Bool} {a b : Prop} (h : x = true) (hb : a) : if x = true then a else b := by rw [h]; exact hb
/-- the words of the items that move -/
noncomputable def movW : List Str := [PySem.Str.ofString "X", PySem.Str.ofString "T", PySem.Str.ofString "TL"]
theorem movW_no : ∀ w ∈ movW, PyData.strOk w = true ∧ (w == PySem.Str.ofString "P") = false ∧ (w == PySem.Str.ofString "S") = false ∧ (w == PySem.Str.ofString "SP") = false ∧ (w == PySem.Str.ofString "SS") = false ∧ (w == PySem.Str.ofString "BN") = false ∧ (w == PySem.Str.ofString "BZ") = false ∧ (w == PySem.Str.ofString "/") = false ∧ (w == PySem.Str.ofString "H") = false := by
  intro w hw
  unfold movW at hw
  simp only [List.mem_cons, List.not_mem_nil, or_false] at hw
  rcases hw with rfl | rfl | rfl <;> decide +kernel
theorem setBy (L : BL B) {n : Nat} (R : Rm c (n + 1)) {x : Addr} {w : Str} {ds : List PyData} (hw : w ∈ movW) {Q : AV → AH → Prop} {X : XT}
    (q : Q (.data (.bool false)) σ) : WFC B c (.val (.ref 157)) [.ref x, .data (.tuple (.str w :: ds))] ρ σ Q X := by
  refine in157 L (body := ?b) ?hb R.dep ?hW
  case hb => with_unfolding_all rfl
  intro L'
  have R' := R.child (e := callEnv (fdOf B.w.params 157) L' 157)
  obtain ⟨h0, h1, h2, h3, h4, h5, h6, _, _⟩ := movW_no w hw
  walk_at "r"
  refine WI_tuple (by decide) (by decide) rfl ?_
  walk_at "r"
  refine ifE h1 ?_
  walk_at "r"
  refine ifE h2 ?_
  walk_at "r"
  refine ifE h3 ?_
  walk_at "r"
  refine ifE h4 ?_
  walk_at "r"
  refine ifE h5 ?_
  walk_at "r"
  refine ifE h6 ?_
  walk_at "r"
  exact q
/-- where an item leads -/
noncomputable def movesTo (w : Str) (a n : Nat) : Nat := if w == PySem.Str.ofString "T" then n - 1 else if w == PySem.Str.ofString "TL" then a - n else a + n
theorem movedC (L : BL B) {m : Nat} (R : Rm c (m + 1)) {w : Str} {a n : Nat} (hw : w ∈ movW) (hn : 1 ≤ n) (hh : c.hd = none) {Q : AV → AH → Prop} {X : XT}
    (q : Q (.data (.int (movesTo w a n))) σ) : WFC B c (.val (.ref 171)) [.data (.int a), .data (.tuple [.str w, .int n])] ρ σ Q X := by
  refine in171 L (body := ?b) ?hb R.dep ?hW
  case hb => with_unfolding_all rfl
  intro L'
  have R' := R.child (e := callEnv (fdOf B.w.params 171) L' 171)
  obtain ⟨h0, _⟩ := movW_no w hw
  walk_at "r"
  refine WI_tuple (by decide) (by decide) rfl ?_
  walk_at "r"
  unfold movesTo at q
  refine ifB (fun h => ?_) fun h => ?_
  · rw [h, if_pos rfl] at q
    walk_at "r"
    refine WI_tuple (by decide) (by decide) rfl ?_
    walk_at "r"
    rw [show ((n : Int) - 1) = ((n - 1 : Nat) : Int) by lia]
    exact q
  · rw [h, if_neg (by decide)] at q
    walk_at "r"
    refine ifB (fun h => ?_) fun h => ?_
    · rw [h, if_pos rfl] at q
      walk_at "r"
      refine WI_tuple (by decide) (by decide) rfl ?_
      walk_at "r"
      refine WF_max R'.hh ?_
      walk_at "r"
      rw [show (if (0 : Int) > (a : Int) - (n : Int) then 0 else (a : Int) - (n : Int)) = ((a - n : Nat) : Int) by split <;> lia]
      exact q
    · rw [h, if_neg (by decide)] at q
      walk_at "r"
      refine WI_tuple (by decide) (by decide) rfl ?_
      walk_at "r"
      exact q
end
/-! P15 -/
section
variable {B : Bs} {c : Cx} {ρ : Loc} {σ : AH} {s : Shared}
/-! the items of a format, flat -/
inductive Pt where
  | leaf (w : Str) (ds : List PyData)
  | grp (n : Int) (l : List Pt)
  | rep (n : Int) (p : Pt)
mutual
noncomputable def ptD : Pt → PyData
  | .leaf w ds => .tuple (.str w :: ds)
  | .grp n l => .tuple [.str (PySem.Str.ofString "group"), .int n, .list (ptDs l)]
  | .rep n p => .tuple [.str (PySem.Str.ofString "repeat"), .int n, ptD p]
noncomputable def ptDs : List Pt → List PyData
  | [] => []
  | p :: l => ptD p :: ptDs l
end
mutual
noncomputable def flatP : Pt → Nat → List PyData
  | .leaf w ds, _ => [.tuple (.str w :: ds)]
  | .grp n l, s => .tuple [.str (PySem.Str.ofString "begin"), .int n] :: (flatPs l (s + 1) ++ [.tuple [.str (PySem.Str.ofString "end"), .int s]])
  | .rep n p, s => .tuple [.str (PySem.Str.ofString "begin"), .int n] :: (flatP p (s + 1) ++ [.tuple [.str (PySem.Str.ofString "end"), .int s]])
noncomputable def flatPs : List Pt → Nat → List PyData
  | [], _ => []
  | p :: l, s => flatP p s ++ flatPs l (s + (flatP p s).length)
end
noncomputable def okW (w : Str) : Prop := PyData.strOk w = true ∧ (w == PySem.Str.ofString "group") = false ∧ (w == PySem.Str.ofString "repeat") = false ∧ (w == PySem.Str.ofString "begin") = false ∧ (w == PySem.Str.ofString "end") = false
inductive OkP : Nat → Pt → Prop
  | leaf {d w ds} : okW w → OkP d (.leaf w ds)
  | grp {d n l} : 1 ≤ n → (∀ p ∈ l, OkP d p) → l.length ≤ 100 → OkP (d + 1) (.grp n l)
  | rep {d n p} : 1 ≤ n → OkP d p → OkP (d + 1) (.rep n p)
theorem ptDs_len : ∀ {l : List Pt}, (ptDs l).length = l.length
  | [] => rfl
  | p :: l => by show (ptDs l).length + 1 = _; rw [ptDs_len]; rfl
/-- a group or a repeated item, told alike -/
structure Node (d : Nat) (p : Pt) (n : Int) (ls : List Pt) (wd : Str) (x : PyData) : Prop where
  D : ptD p = .tuple [.str wd, .int n, x]
  F : ∀ s, flatP p s = .tuple [.str (PySem.Str.ofString "begin"), .int n] :: (flatPs ls (s + 1) ++ [.tuple [.str (PySem.Str.ofString "end"), .int s]])
  ok : ∀ q ∈ ls, OkP d q
  len : ls.length ≤ 100
  wd : (wd = PySem.Str.ofString "group" ∧ x = .list (ptDs ls)) ∨ (wd = PySem.Str.ofString "repeat" ∧ PyData.list [x] = PyData.list (ptDs ls))
theorem node_of {d : Nat} {p : Pt} (h : OkP d p) : (∃ w ds, p = .leaf w ds ∧ okW w) ∨ ∃ d' n ls wd x, d = d' + 1 ∧ Node d' p n ls wd x := by
  cases h with
  | leaf h => exact .inl ⟨_, _, rfl, h⟩
  | @grp d n l _ h hl => exact .inr ⟨d, n, l, _, _, rfl, by simp only [ptD], fun s => by simp only [flatP], h, hl, .inl ⟨rfl, rfl⟩⟩
  | @rep d n p _ h => exact .inr ⟨d, n, [p], _, ptD p, rfl, by simp only [ptD], fun s => by simp only [flatP, flatPs, List.append_nil], fun q hq => by obtain rfl := List.mem_singleton.mp hq; exact h, by simp, .inr ⟨rfl, by simp only [ptDs]⟩⟩
theorem snocD {fl : List PyData} {d : PyData} : fl.map AV.data ++ [.data d] = (fl ++ [d]).map AV.data := by rw [List.map_append]; rfl
theorem addLeaf (L : BL B) {n : Nat} {f : Addr} {fl : List PyData} {w : Str} {ds : List PyData} (hw : okW w) (R : Rm c (n + 2)) (H : Hs σ σ [(f, .list (fl.map .data))]) (hz : (fl ++ flatP (.leaf w ds) fl.length).length ≤ 2 ^ 20) {Q : AV → AH → Prop} {X : XT}
    (q : ∀ σ', Hs σ σ' [(f, .list ((fl ++ flatP (.leaf w ds) fl.length).map .data))] → Q (.data .none) σ') : WFC B c (.val (.ref 87)) [.data (ptD (.leaf w ds)), .ref f] ρ σ Q X := by
  refine in87 L (body := ?b) ?hb R.dep ?hW
  case hb => with_unfolding_all rfl
  intro L'
  have R' := R.child (e := callEnv (fdOf B.w.params 87) L' 87)
  obtain ⟨h0, h1, h2, _, _⟩ := hw
  simp only [ptD]
  simp only [flatP] at q hz
  walk_at "r"
  refine WI_tuple (by decide) (by decide) rfl ?_
  walk_at "r"
  rw [h1]
  refine ifT ?_
  walk_at "r"
  rw [h2]
  refine ifT ?_
  walk_at "r"
  rw [List.length_append] at hz
  refine WF_append (by walk_at "sig") (by rw [List.length_map]; unfold sizeLine; simp at hz; lia) ?_
  rw [snocD]
  walk_at "r"
  exact q _ (by assumption)
inductive addJ (f : Addr) (d : Nat) (fl fl1 : List PyData) (ls : List Pt) (wd : Str) (m : Int) (x : PyData) (l : List (Addr × AO)) (ds : List PyData) (ρ : Loc) : Prop
  | mk (fl' : List PyData) (ls' : List Pt) (b : Option AV) (h0 : l = [(f, .list (fl'.map .data))]) (h1 : ds = ptDs ls') (h2 : (∀ q ∈ ls', OkP d q)) (h3 : fl' ++ flatPs ls' fl'.length = fl1 ++ flatPs ls (fl.length + 1)) (h4 : ρ = [(PySem.Str.ofString "item", some (AV.data (.tuple [.str wd, .int m, x]))), (PySem.Str.ofString "flat", some (.ref f)), (PySem.Str.ofString "word", some (.data (.str wd))), (PySem.Str.ofString "start", some (.data (.int fl.length))), (PySem.Str.ofString "inner", some (.data (.list (ptDs ls)))), (PySem.Str.ofString "part", b)]) : addJ f d fl fl1 ls wd m x l ds ρ
theorem addFlat (L : BL B) : ∀ (d : Nat) (p : Pt), OkP d p → ∀ {c : Cx} {ρ : Loc} {σ : AH} {n : Nat} {f : Addr} {fl : List PyData}, Rm c (n + 2 * (d + 1)) → Hs σ σ [(f, .list (fl.map .data))] → (fl ++ flatP p fl.length).length ≤ 2 ^ 20 → ∀ {Q : AV → AH → Prop} {X : XT},
    (∀ σ', Hs σ σ' [(f, .list ((fl ++ flatP p fl.length).map .data))] → Q (.data .none) σ') → WFC B c (.val (.ref 87)) [.data (ptD p), .ref f] ρ σ Q X := by
  intro d
  induction d with
  | zero =>
    intro p hp c ρ σ n f fl R H hz Q X q
    cases hp with
    | leaf h => exact addLeaf L h (n := n) (R.less (by lia)) H hz q
  | succ d ih =>
    intro p hp c ρ σ n f fl R H hz Q X q
    rcases node_of hp with ⟨w, ds, rfl, hw⟩ | ⟨d', m, ls, wd, x, hd', N⟩
    · exact addLeaf L hw (n := n) (R.less (by lia)) H hz q
    · obtain rfl : d = d' := by lia
      refine in87 L (body := ?b) ?hb R.dep ?hW
      case hb => with_unfolding_all rfl
      intro L'
      have R' := (R.less (m := n + 1 + 2 * (d + 1) + 1) (by lia)).child (e := callEnv (fdOf B.w.params 87) L' 87)
      have hF : (c.child (callEnv (fdOf B.w.params 87) L' 87)).Fun := Cx.childFun rfl rfl
      rw [N.D]
      rw [N.F] at q hz
      rw [List.length_append, List.length_cons, List.length_append] at hz
      simp only [List.length_singleton] at hz
      walk_at "r"
      refine WI_tuple (by decide) (by decide) rfl ?_
      have hs : PyData.strOk wd = true := by rcases N.wd with ⟨h, _⟩ | ⟨h, _⟩ <;> rw [h] <;> decide +kernel
      walk_at "w"
      walk_at "w"
      refine WG.mono (Q := fun y σ' => y = false ∧ σ = σ') ?tst ?go fun _ _ _ q => q
      case tst =>
        walk_at "r"
        rcases N.wd with ⟨h, _⟩ | ⟨h, _⟩
        · rw [show (wd == PySem.Str.ofString "group") = true by rw [h]; decide +kernel]
          refine ifF ?_
          exact ⟨rfl, rfl⟩
        · rw [show (wd == PySem.Str.ofString "group") = false by rw [h]; decide +kernel]
          refine ifT ?_
          walk_at "r"
          rw [show (wd == PySem.Str.ofString "repeat") = true by rw [h]; decide +kernel]
          refine ifF ?_
          exact ⟨rfl, rfl⟩
      case go =>
      rintro y σ' ⟨rfl, rfl⟩
      walk_at "r"
      with_reducible refine WF_len_listT (by walk_at "sig") (by rw [List.length_map]; unfold sizeLine; lia) ?_
      rw [List.length_map]
      walk_at "r"
      refine WI_tuple (by decide) (by decide) rfl ?_
      walk_at "r"
      refine WF_append (by walk_at "sig") (by rw [List.length_map]; unfold sizeLine; lia) ?_
      rw [snocD]
      walk_at "w"
      rename_i σ₁ H
      with_reducible refine WS_assign ?_ (by kernel_rfl)
      refine WG.mono (Q := fun a σ' => a = .data (.list (ptDs ls)) ∧ σ₁ = σ') ?inn ?go2 fun _ _ _ q => q
      case inn =>
        walk_at "r"
        rcases N.wd with ⟨h, hx⟩ | ⟨h, hx⟩
        · rw [show (wd == PySem.Str.ofString "group") = true by rw [h]; decide +kernel]
          refine ifT ?_
          walk_at "r"
          refine WI_tuple (by decide) (by decide) rfl ?_
          rw [hx]
          exact ⟨rfl, rfl⟩
        · rw [show (wd == PySem.Str.ofString "group") = false by rw [h]; decide +kernel]
          refine ifF ?_
          with_reducible refine W_List ?_
          walk_at "r"
          refine WI_tuple (by decide) (by decide) rfl ?_
          walk_at "r"
          rw [hx]
          exact ⟨rfl, rfl⟩
      case go2 =>
      rintro a σ' ⟨rfl, rfl⟩
      walk_at "w"
      have hl1 : (fl ++ [PyData.tuple [.str (PySem.Str.ofString "begin"), .int m]]).length = fl.length + 1 := by rw [List.length_append]; rfl
      generalize hf1 : fl ++ [PyData.tuple [.str (PySem.Str.ofString "begin"), .int m]] = fl1 at H hl1
      with_reducible refine WS_forH (σb := σ) (J := addJ f d fl fl1 ls wd m x) hF R'.hh ?iter ?step ?fin (by intro x; kernel_rfl)
      case iter =>
        walk_at "r"
        exact ⟨_, _, Itb.list, H, fl1, ls, none, rfl, rfl, N.ok, by rw [hl1], rfl⟩
      case step =>
        rintro dd ds ρ₁ σ₂ l H ⟨fl', ls', b, rfl, hds, hok, hfl, rfl⟩
        cases ls' with
        | nil => cases hds
        | cons p' ls' =>
        simp only [ptDs] at hds
        obtain ⟨rfl, rfl⟩ := List.cons.inj hds
        have H := H.self
        simp only [flatPs] at hfl
        refine WU_name (.there (.there (.there (.there (.there .here))))) ⟨rfl, ?_⟩
        walk_at "r"
        have hlen : (fl' ++ flatP p' fl'.length).length ≤ 2 ^ 20 := by
          have := congrArg List.length hfl
          simp only [List.length_append] at this ⊢
          lia
        refine WF_of (ih p' (hok p' (.head _)) (n := n + 1) R' H hlen fun σ' H' => ?_)
        walk_at "r"
        refine ⟨_, H', rfl, _, ls', _, rfl, rfl, fun q hq => hok q (.tail _ hq), ?_, rfl⟩
        rw [List.length_append, List.append_assoc, hfl]
      case fin =>
        rintro ρ₁ σ₂ l H ⟨fl', ls', b, rfl, hds, hok, hfl, rfl⟩
        cases ls' with
        | cons p' ls' => simp only [ptDs] at hds; cases hds
        | nil =>
        simp only [flatPs, List.append_nil] at hfl
        subst hfl
        walk_at "r"
        refine WF_append (by walk_at "sig") (by rw [List.length_map, List.length_append]; unfold sizeLine; lia) ?_
        rw [snocD]
        walk_at "r"
        rename_i σ₃ H
        rw [← hf1, List.append_assoc, List.append_assoc, List.singleton_append] at H
        exact q _ H
end
/-! P16 -/
section
variable {B : Bs} {c : Cx} {ρ : Loc} {σ : AH} {s : Shared}
noncomputable def isG : Pt → Bool
  | .grp _ _ => true
  | _ => false
noncomputable def agP : List Pt → Nat → Nat → Nat
  | [], _, g => g
  | p :: l, s, g => agP l (s + (flatP p s).length) (if isG p then s else g)
theorem head_of {d : Nat} {p : Pt} (h : OkP d p) : ∃ w r, ptD p = .tuple (.str w :: r) ∧ PyData.strOk w = true ∧ (w == PySem.Str.ofString "group") = isG p := by
  cases h with
  | @leaf _ w ds h => exact ⟨w, ds, by simp only [ptD], h.1, h.2.1⟩
  | @grp _ n l _ _ _ => exact ⟨PySem.Str.ofString "group", [.int n, .list (ptDs l)], by simp only [ptD], by decide +kernel, by simp only [isG]; decide +kernel⟩
  | @rep _ n p _ _ => exact ⟨PySem.Str.ofString "repeat", [.int n, ptD p], by simp only [ptD], by decide +kernel, by simp only [isG]; decide +kernel⟩
inductive flatJ (f : Addr) (d : Nat) (ls : List Pt) (l : List (Addr × AO)) (ds : List PyData) (ρ : Loc) : Prop
  | mk (fl : List PyData) (ls' : List Pt) (g : Nat) (b : Option AV) (h0 : l = [(f, .list (fl.map .data))]) (h1 : ds = ptDs ls') (h2 : (∀ p ∈ ls', OkP d p)) (h3 : fl ++ flatPs ls' fl.length = flatPs ls 0) (h4 : agP ls' fl.length g = agP ls 0 0) (h5 : ρ = [(PySem.Str.ofString "tree", some (AV.data (.list (ptDs ls)))), (PySem.Str.ofString "flat", some (.ref f)), (PySem.Str.ofString "again", some (.data (.int g))), (PySem.Str.ofString "item", b)]) : flatJ f d ls l ds ρ
theorem flatOf (L : BL B) {d n : Nat} (R : Rm c (n + 2 * (d + 1) + 1)) {ls : List Pt} (hok : ∀ p ∈ ls, OkP d p) (hl : ls.length ≤ 100) (hz : (flatPs ls 0).length ≤ 2 ^ 20) {Q : AV → AH → Prop} {X : XT}
    (q : ∀ σ', Grew σ σ' → Q (.data (.tuple [.list (flatPs ls 0), .int (agP ls 0 0)])) σ') : WFC B c (.val (.ref 94)) [.data (.list (ptDs ls))] ρ σ Q X := by
  refine in94 L (body := ?b) ?hb (R.less (m := n + 2 * (d + 1) + 1) (by lia)).dep ?hW
  case hb => with_unfolding_all rfl
  intro L'
  have R' := R.child (e := callEnv (fdOf B.w.params 94) L' 94)
  have hF : (c.child (callEnv (fdOf B.w.params 94) L' 94)).Fun := Cx.childFun rfl rfl
  have H : Hs σ σ [] := Hs.nil
  with_reducible refine WS_assign ?_ (by kernel_rfl)
  with_reducible refine W_ListT ?_
  walk_at "q"
  refine ⟨by show 0 ≤ _; lia, fun f hf => ?_⟩
  have H := H.new (o := .list []) hf
  revert H
  generalize upd σ f (.list []) = σ₁
  intro H
  walk_at "r"
  with_reducible refine WS_forH (σb := σ) (J := flatJ f d ls) hF R'.hh ?iter ?step ?fin (by intro x; kernel_rfl)
  case iter =>
    walk_at "r"
    exact ⟨_, _, Itb.list, H, [], ls, 0, none, rfl, rfl, hok, rfl, rfl, rfl⟩
  case step =>
    rintro dd ds ρ₁ σ₂ l H ⟨fl, ls', g, b, rfl, hds, hok', hfl, hag, rfl⟩
    cases ls' with
    | nil => cases hds
    | cons p ls' =>
    simp only [ptDs] at hds
    obtain ⟨rfl, rfl⟩ := List.cons.inj hds
    have H := H.self
    simp only [flatPs] at hfl
    simp only [agP] at hag
    have hlen : (fl ++ flatP p fl.length).length ≤ 2 ^ 20 := by
      have := congrArg List.length hfl
      simp only [List.length_append] at this ⊢
      lia
    refine WU_name (.there (.there (.there .here))) ⟨rfl, ?_⟩
    obtain ⟨w, r, hD, hw, hG⟩ := head_of (hok' p (.head _))
    with_reducible refine WS_if ?_
    refine WG.mono (Q := fun y σ' => y = isG p ∧ σ₂ = σ') ?tst ?go fun _ _ _ q => q
    case tst =>
      walk_at "r"
      rw [hD]
      refine WI_tuple (by decide) (by decide) rfl ?_
      walk_at "r"
      rw [hG]
      exact ⟨rfl, rfl⟩
    case go =>
    rintro y σ' ⟨rfl, rfl⟩
    refine ifB (fun h => ?_) fun h => ?_
    · rw [h, if_pos rfl] at hag
      walk_at "r"
      with_reducible refine WF_len_listT (by walk_at "sig") (by rw [List.length_map]; rw [List.length_append] at hlen; unfold sizeLine; lia) ?_
      rw [List.length_map]
      walk_at "r"
      refine WF_of (addFlat L d p (hok' p (.head _)) (n := n) (R'.less (by lia)) H hlen fun σ' H' => ?_)
      walk_at "r"
      exact ⟨_, H', rfl, _, ls', _, _, rfl, rfl, fun q hq => hok' q (.tail _ hq), by rw [List.length_append, List.append_assoc]; exact hfl, by rw [List.length_append]; exact hag, rfl⟩
    · rw [h, if_neg (by decide)] at hag
      walk_at "r"
      refine WF_of (addFlat L d p (hok' p (.head _)) (n := n) (R'.less (by lia)) H hlen fun σ' H' => ?_)
      walk_at "r"
      exact ⟨_, H', rfl, _, ls', _, _, rfl, rfl, fun q hq => hok' q (.tail _ hq), by rw [List.length_append, List.append_assoc]; exact hfl, by rw [List.length_append]; exact hag, rfl⟩
  case fin =>
    rintro ρ₁ σ₂ l H ⟨fl, ls', g, b, rfl, hds, hok', hfl, hag, rfl⟩
    cases ls' with
    | cons p' ls' => simp only [ptDs] at hds; cases hds
    | nil =>
    simp only [flatPs, List.append_nil] at hfl
    simp only [agP] at hag
    subst hfl hag
    refine WS_dropL (H.get .here) ?_
    have H := H.del .n0 hf
    rw [show fzL [(PySem.Str.ofString "tree", some (AV.data (.list (ptDs ls)))), (PySem.Str.ofString "flat", some (.ref f)), (PySem.Str.ofString "again", some (.data (.int (agP ls 0 0)))), (PySem.Str.ofString "item", b)] f (flatPs ls 0) =
      [(PySem.Str.ofString "tree", some (AV.data (.list (ptDs ls)))), (PySem.Str.ofString "flat", some (.data (.list (flatPs ls 0)))), (PySem.Str.ofString "again", some (.data (.int (agP ls 0 0)))), (PySem.Str.ofString "item", b.map (AV.fz f (flatPs ls 0)))] by simp [fzL, AV.fz]]
    walk_at "r"
    exact q _ H.grown
/-! FormatControl -/
theorem Hs.goUL {σ₀ : AH} {l l' : List (Addr × AO)} {a : Addr} {o : AO} {fs : List (Value → Sem Unit)} {as : List AV} {Q : Loc → AH → Prop} {X : XT} (H : Hs σ₀ σ l) (hp : PutH l a o l') (hr : o.nr = true) (q : ∀ σ', Hs σ₀ σ' l' → WUL B c fs as ρ σ' Q X) : WUL B c fs as ρ (Mine.upd σ a o) Q X := q _ (H.upd hp hr)
noncomputable abbrev ctlA (fl : List PyData) (ag at_ : Nat) (cn : Addr) (u : Bool) (i : Int) : List (Str × AV) := [(PySem.Str.ofString "flat", .data (.list fl)), (PySem.Str.ofString "again", .data (.int ag)), (PySem.Str.ofString "at", .data (.int at_)), (PySem.Str.ofString "counts", .ref cn), (PySem.Str.ofString "is_used", .data (.bool u)), (PySem.Str.ofString "idle", .data (.int i))]
theorem initControl (L : BL B) {d n : Nat} (R : Rm c (n + 2 * (d + 1) + 2)) {ls : List Pt} (hok : ∀ p ∈ ls, OkP d p) (hl : ls.length ≤ 100) (hz : (flatPs ls 0).length ≤ 2 ^ 20) {x dx : Addr} (H : Hs σ σ [(x, .inst 132 dx [])]) {Q : AV → AH → Prop} {X : XT}
    (q : ∀ σ' cn, σ cn = none → Hs σ σ' [(cn, .list []), (x, .inst 132 dx (ctlA (flatPs ls 0) (agP ls 0 0) 0 cn false 0))] → Q (.data .none) σ') : WFC B c (.val (.ref 108)) [.ref x, .data (.list (ptDs ls))] ρ σ Q X := by
  refine in108 L (body := ?b) ?hb (R.less (m := n + 2 * (d + 1) + 1 + 1) (by lia)).dep ?hW
  case hb => with_unfolding_all rfl
  intro L'
  have R' := R.child (e := callEnv (fdOf B.w.params 108) L' 108)
  with_reducible refine WS_assignTo ?_ (by kernel_rfl) (by kernel_rfl) (by kernel_rfl)
  walk_at "q"
  refine WF_of (flatOf L R' hok hl hz fun σ' G => ?_)
  have H := H.grew G
  refine WU_tuple R'.hh rfl ?_ (by kernel_rfl)
  refine WUL_cons ?_
  with_reducible refine WU_attr ?_
  walk_at "q"
  refine Hs.goUL H .n0 rfl fun σ₁ H => ?_
  refine WUL_cons ?_
  with_reducible refine WU_attr ?_
  walk_at "q"
  refine Hs.goUL H .n0 rfl fun σ₂ H => ?_
  refine WUL_nil ?_
  walk_at "q"
  rename_i σ₃ H
  with_reducible refine W_ListT ?_
  walk_at "q"
  refine ⟨by show 0 ≤ _; lia, fun cn hcn => ?_⟩
  have hcn0 := H.base hcn
  have H := H.new (o := .list []) hcn
  revert H
  generalize upd σ₃ cn (.list []) = σ₄
  intro H
  walk_at "q"
  exact q _ cn hcn0 (by assumption)
theorem makeControl (L : BL B) {d n : Nat} (R : Rm c (n + 2 * (d + 1) + 3)) {ls : List Pt} (hok : ∀ p ∈ ls, OkP d p) (hl : ls.length ≤ 100) (hz : (flatPs ls 0).length ≤ 2 ^ 20) {Q : AV → AH → Prop} {X : XT}
    (q : ∀ σ' x dx cn, σ x = none → σ cn = none → Hs σ σ' [(cn, .list []), (x, .inst 132 dx (ctlA (flatPs ls 0) (agP ls 0 0) 0 cn false 0))] → Q (.ref x) σ') : WF B c (.val (.ref 132)) [.data (.list (ptDs ls))] ρ σ Q X := by
  refine WF_make (fI := 108) (by rw [L.K]; kernel_rfl) (by rw [L.K]; kernel_rfl) (by rw [L.K]; kernel_rfl) fun x dx hx hd hne => ?_
  have H := Hs.made (o := .inst 132 dx []) hx hd hne
  revert H
  generalize upd (upd σ x (.inst 132 dx [])) dx (.own x) = σ₁
  intro H
  exact initControl L ((R.less (m := n + 2 * (d + 1) + 2 + 1) (by lia)).up) hok hl hz H.self fun σ' cn hcn H' => ⟨rfl, q σ' x dx cn hx (H.base hcn) (H.join H' (by walk_at "mg"))⟩
end
/-! P17 -/
section
variable {B : Bs} {c : Cx} {ρ : Loc} {σ : AH} {s : Shared}
theorem W3_listT_last {a : Addr} {l : List AV} {x v : AV} {Q : AH → Prop} {X : XT} (hσ : σ a = some (.list (l ++ [x]))) (q : Q (upd σ a (.list (l ++ [v])))) : W3 B c (.ref a) (.data (.int (-1))) v ρ σ Q X := fun va vi vv s S r1 r2 r3 => by
  cases r1
  obtain ⟨t, rfl⟩ := int_of r2
  obtain ⟨_, _, vs, n, ho, hr⟩ := S.objs a _ hσ
  have hlen := hr.length
  simp only [List.length_append, List.length_cons, List.length_nil, Array.length_toList] at hlen
  refine ki_setBack (n := n) ho (by lia) (by lia) (by lia) ?_
  rw [show (-1 + (vs.size : Int)).toNat = l.length by lia]
  have hup := PySem.IsL.update ho (fun xs => xs.setIfInBounds l.length vv)
  obtain ⟨S', E'⟩ := S.set (tk := s.toks) (ao' := .list (l ++ [v])) hσ rfl (Heap.SameBut.update ..) ⟨_, hup⟩ fun E => ⟨_, _, hup, by
    rw [setIn_toList]
    have := (hr.ext S.ns E).set (r3.ext S.ns E) l.length
    rw [List.set_append_right _ _ (Nat.le_refl _), Nat.sub_self] at this
    exact this⟩
  exact ⟨(), _, S', E', trivial, q⟩
noncomputable def cI (cs : List Int) : List AV := cs.map fun i => .data (.int i)
theorem cI_snoc {cs : List Int} {k : Int} : cI (cs ++ [k]) = cI cs ++ [.data (.int k)] := by unfold cI; rw [List.map_append]; rfl
theorem cI_len {cs : List Int} : (cI cs).length = cs.length := by unfold cI; rw [List.length_map]
theorem closeGroup (L : BL B) {n : Nat} (R : Rm c (n + 1)) {x dx cn : Addr} {fl : List PyData} {ag a s : Nat} {u : Bool} {i k : Int} {cs : List Int} (hz : cs.length ≤ 2 ^ 20) (H : Hs σ σ [(x, .inst 132 dx (ctlA fl ag a cn u i)), (cn, .list (cI (cs ++ [k])))]) {Q : AV → AH → Prop} {X : XT}
    (q1 : 1 < k → ∀ σ', Hs σ σ' [(x, .inst 132 dx (ctlA fl ag (s + 1) cn u i)), (cn, .list (cI (cs ++ [k - 1])))] → Q (.data .none) σ')
    (q2 : ¬ 1 < k → ∀ σ', Hs σ σ' [(x, .inst 132 dx (ctlA fl ag (a + 1) cn u i)), (cn, .list (cI cs))] → Q (.data .none) σ') : WFC B c (.val (.ref 122)) [.ref x, .data (.int s)] ρ σ Q X := by
  refine in122 L (body := ?b) ?hb R.dep ?hW
  case hb => with_unfolding_all rfl
  intro L'
  have R' := R.child (e := callEnv (fdOf B.w.params 122) L' 122)
  rw [cI_snoc] at H
  walk_at "q"
  with_reducible refine W_neg (i := 1) ?_
  walk_at "q"
  refine ⟨rfl, ?_⟩
  refine W2_get (WI_listT_last (H.get (by walk_at "at")) (by rw [cI_len]; lia) ?_)
  walk_at "q"
  refine W3_listT_last (H.get (by walk_at "at")) ?_
  walk_at "q"
  rename_i σ₁ H
  with_reducible refine W_neg (i := 1) ?_
  walk_at "q"
  refine ⟨rfl, ?_⟩
  refine WI_listT_last (H.get (by walk_at "at")) (by rw [cI_len]; lia) ?_
  walk_at "q"
  refine ifD (fun h => ?_) fun h => ?_
  · walk_at "q"
    rename_i σ₂ H
    refine q1 (by lia) _ ?_
    rw [cI_snoc]
    exact H
  · walk_at "q"
    refine ⟨_, _, WM_pop (H.get (by walk_at "at")), callB, ?_⟩
    walk_at "q"
    refine WF_pop (H.get (by walk_at "at")) (by rw [cI_len]; unfold sizeLine; lia) ?_
    walk_at "q"
    rename_i σ₂ H
    exact q2 (by lia) _ H
theorem revertC (L : BL B) {n : Nat} (R : Rm c (n + 4)) {x dx cn : Addr} {fl : List PyData} {ag a : Nat} {u : Bool} {i : Int} (H : Hs σ σ [(x, .inst 132 dx (ctlA fl ag a cn u i))]) {Q : AV → AH → Prop} {X : XT}
    (hbad : u = false → ∀ e σ', Grew σ σ' → XMsg 51 (PySem.Str.ofString "at") (.data (.int (-1))) e σ' → X e ρ σ')
    (q : u = true → ∀ σ', Hs σ σ' [(x, .inst 132 dx (ctlA fl ag ag cn false i))] → Q (.data (.tuple [.str (PySem.Str.ofString "/")])) σ') : WFC B c (.val (.ref 129)) [.ref x] ρ σ Q X := by
  refine in129 L (body := ?b) ?hb R.dep ?hW
  case hb => with_unfolding_all rfl
  intro L'
  have R' := R.child (e := callEnv (fdOf B.w.params 129) L' 129)
  walk_at "q"
  cases u with
  | false =>
    refine ifT ?_
    refine raise51 L (v := .data (.int (-1))) (t := PySem.Str.ofString "no item takes a value") (R'.less (by lia)) ?hk ?h ?hx ?he ?hpl
    case hk => kernel_rfl
    case h =>
      intro Q' q'
      walk_at "q"
      with_reducible refine W_neg (i := 1) ?_
      walk_at "q"
      refine ⟨rfl, ?_⟩
      walk_at "q"
      exact q'
    case hx => exact fun x σ' G M => hbad rfl x σ' G M
    case he => intro e r h; cases h <;> kernel_rfl
    case hpl => kernel_rfl
  | true =>
    refine ifF ?_
    walk_at "q"
    exact q rfl _ (by assumption)
end
/-! P18 -/
section
variable {B : Bs} {c : Cx} {ρ : Loc} {σ : AH} {s : Shared}
/-! next_item: the flat format and its marks -/
inductive Mk where
  | beg
  | fin
  | lf (w : Str) (ds : List PyData)
noncomputable def mkD : Mk → PyData
  | .beg => .str (PySem.Str.ofString "begin")
  | .fin => .str (PySem.Str.ofString "end")
  | .lf w ds => .tuple (.str w :: ds)
inductive Runs (fl : List PyData) : Nat → List Int → List Mk → Prop
  | done : Runs fl fl.length [] []
  | leaf {a cs w ds r} : okW w → fl[a]? = some (.tuple (.str w :: ds)) → Runs fl (a + 1) cs r → Runs fl a cs (.lf w ds :: r)
  | beg {a cs n r} : fl[a]? = some (.tuple [.str (PySem.Str.ofString "begin"), .int n]) → Runs fl (a + 1) (cs ++ [n]) r → Runs fl a cs (.beg :: r)
  | again {a cs k s r} : fl[a]? = some (.tuple [.str (PySem.Str.ofString "end"), .int (s : Nat)]) → 1 < k → Runs fl (s + 1) (cs ++ [k - 1]) r → Runs fl a (cs ++ [k]) (.fin :: r)
  | last {a cs k s r} : fl[a]? = some (.tuple [.str (PySem.Str.ofString "end"), .int (s : Nat)]) → ¬ 1 < k → Runs fl (a + 1) cs r → Runs fl a (cs ++ [k]) (.fin :: r)
noncomputable def dataL : List PyData := [.str (PySem.Str.ofString "I"), .str (PySem.Str.ofString "F"), .str (PySem.Str.ofString "E"), .str (PySem.Str.ofString "D"), .str (PySem.Str.ofString "G"), .str (PySem.Str.ofString "L"), .str (PySem.Str.ofString "A")]
noncomputable def isData (w : Str) : Bool := dataL.any fun y => PyData.eqv y (.str w)
noncomputable def isCol (w : Str) : Bool := w == PySem.Str.ofString ":"
inductive Res where
  | fault
  | stop (r : List Mk) (u : Bool) (i : Int)
  | item (d : PyData) (r : List Mk) (u : Bool) (i : Int)
  | turn (i : Int)
noncomputable def nextP (hv : Bool) : List Mk → Bool → Int → Res
  | [], u, i => if 100000 < i + 1 then .fault else if hv = false then .stop [] u (i + 1) else if u = false then .fault else .turn (i + 1)
  | .beg :: r, u, i => if 100000 < i + 1 then .fault else nextP hv r u (i + 1)
  | .fin :: r, u, i => if 100000 < i + 1 then .fault else nextP hv r u (i + 1)
  | .lf w ds :: r, u, i => if 100000 < i + 1 then .fault else if (!hv && (isCol w || isData w)) = true then .stop (.lf w ds :: r) u (i + 1) else
      if isCol w = true then nextP hv r (isData w || u) (if isData w = true then 0 else i + 1) else .item (.tuple (.str w :: ds)) r (isData w || u) (if isData w = true then 0 else i + 1)
theorem dataL_lay : PyData.canLayAll0 dataL = true := by decide +kernel
theorem notIn {l : List Str} {x : Str} (h : l.contains x = false) : x ∉ l := fun hm => by rw [List.contains_iff_mem.mpr hm] at h; cases h
inductive nextI (σ : AH) (x dx cn : Addr) (fl : List PyData) (ag : Nat) (hv : Bool) (r : List Mk) (u : Bool) (i : Int) (m : Nat) (ρ' : Loc) (σ' : AH) : Prop
  | mk (a' : Nat) (cs' : List Int) (r' : List Mk) (u' : Bool) (i' : Int) (b1 b2 : Option AV) (h0 : Hs σ σ' [(x, .inst 132 dx (ctlA fl ag a' cn u' i')), (cn, .list (cI cs'))]) (h1 : Runs fl a' cs' r') (h2 : nextP hv r' u' i' = nextP hv r u i) (h3 : cs'.length + r'.length ≤ 2 ^ 20) (h4 : m = r'.length) (h5 : ρ' = [(PySem.Str.ofString "self", some (.ref x)), (PySem.Str.ofString "has_value", some (.data (.bool hv))), (PySem.Str.ofString "entry", b1), (PySem.Str.ofString "word", b2)]) : nextI σ x dx cn fl ag hv r u i m ρ' σ'
theorem nextItem (L : BL B) {n : Nat} (R : Rm c (n + 6)) {x dx cn : Addr} {fl : List PyData} {ag a : Nat} {u hv : Bool} {i : Int} {cs : List Int} {r : List Mk} (hr : Runs fl a cs r) (hz : cs.length + r.length ≤ 2 ^ 20) (hfl : fl.length ≤ 2 ^ 20)
    (H : Hs σ σ [(x, .inst 132 dx (ctlA fl ag a cn u i)), (cn, .list (cI cs))]) {Q : AV → AH → Prop} {X : XT}
    (q1 : nextP hv r u i = .fault → ∀ e σ' ats l, Hs σ σ' [(x, .inst 132 dx ats), (cn, .list l)] → XMsg 51 (PySem.Str.ofString "at") (.data (.int (-1))) e σ' → X e ρ σ')
    (q2 : ∀ r' u' i', nextP hv r u i = .stop r' u' i' → ∀ σ' a' cs', Hs σ σ' [(x, .inst 132 dx (ctlA fl ag a' cn u' i')), (cn, .list (cI cs'))] → Runs fl a' cs' r' → cs'.length + r'.length ≤ 2 ^ 20 → Q (.data .none) σ')
    (q3 : ∀ d r' u' i', nextP hv r u i = .item d r' u' i' → ∀ σ' a' cs', Hs σ σ' [(x, .inst 132 dx (ctlA fl ag a' cn u' i')), (cn, .list (cI cs'))] → Runs fl a' cs' r' → cs'.length + r'.length ≤ 2 ^ 20 → Q (.data d) σ')
    (q4 : ∀ i', nextP hv r u i = .turn i' → ∀ σ', Hs σ σ' [(x, .inst 132 dx (ctlA fl ag ag cn false i')), (cn, .list (cI []))] → Q (.data (.tuple [.str (PySem.Str.ofString "/")])) σ') : WFC B c (.val (.ref 115)) [.ref x, .data (.bool hv)] ρ σ Q X := by
  refine in115 L (body := ?b) ?hb R.dep ?hW
  case hb => with_unfolding_all rfl
  intro L'
  have R' := R.child (e := callEnv (fdOf B.w.params 115) L' 115)
  have hF : (c.child (callEnv (fdOf B.w.params 115) L' 115)).Fun := Cx.childFun rfl rfl
  with_reducible refine WS_while (n₀ := r.length) (I := nextI σ x dx cn fl ag hv r u i) hF ⟨a, cs, r, u, i, none, none, H, hr, rfl, hz, rfl, rfl⟩ ?_
  rintro m ρ₁ σ₁ ⟨a', cs', r', u', i', b1, b2, H, hr, hn, hz, rfl, rfl⟩
  refine WT_value ?_
  walk_at "q"
  refine ifD (fun hi => ?_) fun hi => ?_
  · have hf : nextP hv r u i = .fault := by
      rw [← hn]
      cases r' with
      | nil => unfold nextP; rw [if_pos hi]
      | cons m r' => cases m <;> (unfold nextP; rw [if_pos hi])
    refine raise51 L (v := .data (.int (-1))) (t := PySem.Str.ofString "too many items that take no value") (R'.less (by lia)) ?hk ?h ?hx ?he ?hpl
    case hk => kernel_rfl
    case h =>
      intro Q' q'
      walk_at "q"
      with_reducible refine W_neg (i := 1) ?_
      walk_at "q"
      refine ⟨rfl, ?_⟩
      walk_at "q"
      exact q'
    case hx =>
      intro e σ' G M
      rename_i σ₂ H
      exact q1 hf e σ' _ _ (H.grew G) M
    case he => intro e r h; cases h <;> kernel_rfl
    case hpl => kernel_rfl
  · walk_at "q"
    rename_i σ₂ H
    with_reducible refine WF_len_list (by unfold sizeLine; lia) ?_
    walk_at "q"
    have lt : ∀ {d : PyData}, fl[a']? = some d → ¬ (a' : Int) = (fl.length : Int) := fun h e => by
      have : a' < fl.length := (List.getElem?_eq_some_iff.mp h).1
      lia
    cases hr with
    | done =>
      refine ifD (fun _ => ?_) fun h => absurd rfl h
      walk_at "q"
      cases hv with
      | false =>
        refine ifT ?_
        walk_at "q"
        refine q2 [] u' (i' + 1) ?_ _ _ _ H .done hz
        rw [← hn]; unfold nextP; rw [if_neg hi, if_pos rfl]
      | true =>
        refine ifF ?_
        walk_at "q"
        refine ⟨_, _, WM_inst (H.get (by walk_at "at")) (mtIn L (p := (132, PySem.Str.ofString "revert", 129)) (by kernel_rfl)) (notIn (by kernel_rfl)), callK L (by kernel_rfl), ?_⟩
        walk_at "q"
        refine WF_of (revertC L (n := n) (R'.less (by lia)) (H.sel (by walk_at "sel")) (fun hu e σ' G M => ?_) fun hu σ' H' => ?_)
        · refine q1 ?_ e σ' _ _ (H.grew G) M
          rw [← hn]; unfold nextP; rw [if_neg hi, if_neg (by decide), if_pos hu]
        · have H := H.join H' (by walk_at "mg")
          walk_at "q"
          refine q4 (i' + 1) ?_ _ H
          rw [← hn]; unfold nextP; rw [if_neg hi, if_neg (by decide), if_neg (by rw [hu]; decide)]
    | @beg _ _ m r' he hr =>
      refine ifD (fun h => absurd h (lt he)) fun _ => ?_
      walk_at "r"
      have hlt := (List.getElem?_eq_some_iff.mp he).1
      refine WI_list (by lia) (by lia) (by rw [Int.toNat_natCast]; exact he) ?_
      walk_at "r"
      refine WI_tuple (by decide) (by decide) rfl ?_
      walk_at "r"
      refine ifI (by decide +kernel) ?_
      walk_at "r"
      refine WI_tuple (by decide) (by decide) rfl ?_
      walk_at "r"
      rw [List.length_cons] at hz
      refine WF_append (by walk_at "sig") (by rw [cI_len]; unfold sizeLine; lia) ?_
      rw [← cI_snoc]
      walk_at "r"
      rename_i σ₃ H
      refine ⟨r'.length, by rw [List.length_cons]; lia, a' + 1, cs' ++ [m], r', u', i' + 1, _, _, H, hr, ?_, by rw [List.length_append]; simp only [List.length_singleton]; lia, rfl, rfl⟩
      rw [← hn]; simp only [nextP]; rw [if_neg hi]
    | @again _ cs' k s r' he hk hr =>
      refine ifD (fun h => absurd h (lt he)) fun _ => ?_
      walk_at "r"
      have hlt := (List.getElem?_eq_some_iff.mp he).1
      refine WI_list (by lia) (by lia) (by rw [Int.toNat_natCast]; exact he) ?_
      walk_at "r"
      refine WI_tuple (by decide) (by decide) rfl ?_
      walk_at "r"
      refine ifE (by decide +kernel) ?_
      walk_at "r"
      refine ifI (by decide +kernel) ?_
      walk_at "r"
      refine ⟨_, _, WM_inst (H.get (by walk_at "at")) (mtIn L (p := (132, PySem.Str.ofString "close_group", 122)) (by kernel_rfl)) (notIn (by kernel_rfl)), callK L (by kernel_rfl), ?_⟩
      walk_at "r"
      refine WI_tuple (by decide) (by decide) rfl ?_
      walk_at "r"
      simp only [List.length_append, List.length_cons, List.length_nil] at hz
      refine WF_of (closeGroup L (n := n) (s := s) (cs := cs') (k := k) (fl := fl) (ag := ag) (a := a') (u := u') (i := i' + 1) (dx := dx) (cn := cn) (R'.less (by lia)) (by lia) (H.sel (by walk_at "sel")) (fun _ σ' H' => ?_) fun h => absurd hk h)
      have H := H.join H' (by walk_at "mg")
      walk_at "r"
      refine ⟨r'.length, by rw [List.length_cons]; lia, s + 1, cs' ++ [k - 1], r', u', i' + 1, _, _, H, hr, ?_, by rw [List.length_append]; simp only [List.length_singleton]; lia, rfl, rfl⟩
      rw [← hn]; simp only [nextP]; rw [if_neg hi]
    | @last _ cs' k s r' he hk hr =>
      refine ifD (fun h => absurd h (lt he)) fun _ => ?_
      walk_at "r"
      have hlt := (List.getElem?_eq_some_iff.mp he).1
      refine WI_list (by lia) (by lia) (by rw [Int.toNat_natCast]; exact he) ?_
      walk_at "r"
      refine WI_tuple (by decide) (by decide) rfl ?_
      walk_at "r"
      refine ifE (by decide +kernel) ?_
      walk_at "r"
      refine ifI (by decide +kernel) ?_
      walk_at "r"
      refine ⟨_, _, WM_inst (H.get (by walk_at "at")) (mtIn L (p := (132, PySem.Str.ofString "close_group", 122)) (by kernel_rfl)) (notIn (by kernel_rfl)), callK L (by kernel_rfl), ?_⟩
      walk_at "r"
      refine WI_tuple (by decide) (by decide) rfl ?_
      walk_at "r"
      simp only [List.length_append, List.length_cons, List.length_nil] at hz
      refine WF_of (closeGroup L (n := n) (s := s) (cs := cs') (k := k) (fl := fl) (ag := ag) (a := a') (u := u') (i := i' + 1) (dx := dx) (cn := cn) (R'.less (by lia)) (by lia) (H.sel (by walk_at "sel")) (fun h => absurd h hk) fun _ σ' H' => ?_)
      have H := H.join H' (by walk_at "mg")
      walk_at "r"
      refine ⟨r'.length, by rw [List.length_cons]; lia, a' + 1, cs', r', u', i' + 1, _, _, H, hr, ?_, by lia, rfl, rfl⟩
      rw [← hn]; simp only [nextP]; rw [if_neg hi]
    | @leaf _ _ w ds r' hw he hr =>
      obtain ⟨h0, _, _, h3, h4⟩ := id hw
      have wS : shaped (.str w) = true := (Sh.str (k := 0) h0).shaped (by decide)
      refine ifD (fun h => absurd h (lt he)) fun _ => ?_
      walk_at "r"
      have hlt := (List.getElem?_eq_some_iff.mp he).1
      refine WI_list (by lia) (by lia) (by rw [Int.toNat_natCast]; exact he) ?_
      walk_at "r"
      refine WI_tuple (by decide) (by decide) rfl ?_
      walk_at "r"
      refine ifE h3 ?_
      walk_at "r"
      refine ifE h4 ?_
      walk_at "w"
      refine WG.mono (Q := fun y σ' => y = (!hv && (isCol w || isData w)) ∧ σ₂ = σ') ?tst ?go fun _ _ _ q => q
      case tst =>
        walk_at "r"
        cases hv with
        | true => refine ifF ?_; exact ⟨rfl, rfl⟩
        | false =>
        refine ifT ?_
        walk_at "r"
        refine ifB (fun h => ?_) fun h => ?_
        · walk_at "r"
          have : isCol w = true := h
          rw [this]
          exact ⟨rfl, rfl⟩
        · walk_at "r"
          refine W2_inTuple dataL_lay wS R'.u65 ?_
          have : isCol w = false := h
          rw [this]
          walk_at "r"
          refine ifB (fun h => ?_) fun h => ?_
          · have : isData w = true := h
            walk_at "r"
            rw [this]
            exact ⟨rfl, rfl⟩
          · have : isData w = false := h
            walk_at "r"
            rw [this]
            exact ⟨rfl, rfl⟩
      case go =>
      rintro y σ' ⟨rfl, rfl⟩
      rw [List.length_cons] at hz
      refine ifB (fun h => ?_) fun h => ?_
      · walk_at "r"
        refine q2 (.lf w ds :: r') u' (i' + 1) ?_ _ _ _ H (.leaf hw he hr) hz
        rw [← hn]; simp only [nextP]; rw [if_neg hi, if_pos h]
      · have hn' : (if isCol w = true then nextP hv r' (isData w || u') (if isData w = true then 0 else i' + 1) else .item (.tuple (.str w :: ds)) r' (isData w || u') (if isData w = true then 0 else i' + 1)) = nextP hv r u i := by
          rw [← hn]; simp only [nextP]; rw [if_neg hi, if_neg (show ¬ (!hv && (isCol w || isData w)) = true from by rw [h]; decide)]
        walk_at "r"
        rename_i σ₃ H
        refine W2_inTuple dataL_lay wS R'.u65 ?_
        walk_at "r"
        refine ifB (fun h => ?_) fun h => ?_
        · have hd : isData w = true := h
          simp only [hd, Bool.true_or, ↓reduceIte] at hn'
          walk_at "r"
          refine ifB (fun h => ?_) fun h => ?_
          · walk_at "r"
            rename_i σ₃ H
            refine q3 _ _ _ _ (hn'.symm.trans ?_) _ _ _ H hr (by lia)
            rw [if_neg]
            intro h2
            have h3 : (!(w == PySem.Str.ofString ":")) = true := h
            have h4 : (w == PySem.Str.ofString ":") = true := h2
            rw [h4] at h3; cases h3
          · walk_at "r"
            rename_i σ₃ H
            have h2 : isCol w = true := by
              have h3 : (!(w == PySem.Str.ofString ":")) = false := h
              unfold isCol
              cases hc : (w == PySem.Str.ofString ":") with
              | true => rfl
              | false => rw [hc] at h3; cases h3
            rw [if_pos h2] at hn'
            exact ⟨r'.length, by rw [List.length_cons]; lia, a' + 1, cs', r', true, 0, _, _, H, hr, hn', by lia, rfl, rfl⟩
        · have hd : isData w = false := h
          simp only [hd, Bool.false_or, Bool.false_eq_true, ↓reduceIte] at hn'
          walk_at "r"
          refine ifB (fun h => ?_) fun h => ?_
          · walk_at "r"
            refine q3 _ _ _ _ (hn'.symm.trans ?_) _ _ _ H hr (by lia)
            rw [if_neg]
            intro h2
            have h3 : (!(w == PySem.Str.ofString ":")) = true := h
            have h4 : (w == PySem.Str.ofString ":") = true := h2
            rw [h4] at h3; cases h3
          · walk_at "r"
            have h2 : isCol w = true := by
              have h3 : (!(w == PySem.Str.ofString ":")) = false := h
              unfold isCol
              cases hc : (w == PySem.Str.ofString ":") with
              | true => rfl
              | false => rw [hc] at h3; cases h3
            rw [if_pos h2] at hn'
            exact ⟨r'.length, by rw [List.length_cons]; lia, a' + 1, cs', r', u', i' + 1, _, _, H, hr, hn', by lia, rfl, rfl⟩
end
/-! P19 -/
section
variable {B : Bs} {c : Cx} {ρ : Loc} {σ : AH} {s : Shared}
/-! FormatWriter -/
noncomputable def rsA (rs : List Str) : List AV := (rs.map PyData.str).map AV.data
theorem rsA_snoc {rs : List Str} {s : Str} : rsA rs ++ [.data (.str s)] = rsA (rs ++ [s]) := by unfold rsA; rw [List.map_append, List.map_append]; rfl
theorem rsA_len {rs : List Str} : (rsA rs).length = rs.length := by unfold rsA; rw [List.length_map, List.length_map]
noncomputable abbrev wrA (ct md ln rc : Addr) : List (Str × AV) := [(PySem.Str.ofString "control", .ref ct), (PySem.Str.ofString "edit", .data .none), (PySem.Str.ofString "modes", .ref md), (PySem.Str.ofString "line", .ref ln), (PySem.Str.ofString "records", .ref rc)]
theorem stepSl (L : BL B) {n : Nat} (R : Rm c (n + 6)) {wr dw ct md ln dl sg rc : Addr} {a : Nat} {cs : List Nat} {rs : List Str} (hcs : cs.length ≤ big) (hrs : rs.length ≤ 2 ^ 20)
    (H : Hs σ σ [(wr, .inst 244 dw (wrA ct md ln rc)), (ln, .inst 202 dl (lineA sg a)), (sg, .list (chs cs)), (rc, .list (rsA rs))]) {Q : AV → AH → Prop} {X : XT}
    (q : ∀ σ' ln' dl' sg', σ ln' = none → σ sg' = none → Hs σ σ' [(sg', .list (chs [])), (ln', .inst 202 dl' (lineA sg' 0)), (wr, .inst 244 dw (wrA ct md ln' rc)), (ln, .inst 202 dl (lineA sg a)), (sg, .list (chs cs)), (rc, .list (rsA (rs ++ [tx cs])))] → Q (.data .none) σ') :
    WFC B c (.val (.ref 227)) [.ref wr, .data (.tuple [.str (PySem.Str.ofString "/")])] ρ σ Q X := by
  refine in227 L (body := ?b) ?hb R.dep ?hW
  case hb => with_unfolding_all rfl
  intro L'
  have R' := R.child (e := callEnv (fdOf B.w.params 227) L' 227)
  walk_at "r"
  refine WI_tuple (by decide) (by decide) rfl ?_
  walk_at "r"
  refine ifI (by decide +kernel) ?_
  walk_at "r"
  refine ⟨_, _, WM_inst (H.get (by walk_at "at")) (mtIn L (p := (202, PySem.Str.ofString "text", 199)) (by kernel_rfl)) (notIn (by kernel_rfl)), callK L (by kernel_rfl), ?_⟩
  walk_at "r"
  refine WF_of (textLine L (n := n) (x := ln) (dx := dl) (sg := sg) (a := a) (cs := cs) (R'.less (by lia)) (H.sel (by walk_at "sel")) hcs ?_)
  walk_at "r"
  refine WF_append (H.get (by walk_at "at")) (by rw [rsA_len]; unfold sizeLine; lia) ?_
  rw [rsA_snoc]
  walk_at "r"
  rename_i σ₁ H
  refine makeLine L (n := n) (R'.less (by lia)) fun σ' ln' dl' sg' h1 h2 H' => ?_
  have b1 := H.base h1
  have b2 := H.base h2
  have H := H.join H' (by walk_at "mg")
  walk_at "r"
  rename_i σ₂ H
  exact q _ ln' dl' sg' b1 b2 H
theorem stepTx (L : BL B) {n : Nat} (R : Rm c (n + 6)) {wr dw ct md ln dl sg rc : Addr} {a : Nat} {cs ks : List Nat} (hks : ks.all (· < 128) = true) (hkl : ks.length ≤ 100) (hcs : cs.length ≤ big)
    (H : Hs σ σ [(wr, .inst 244 dw (wrA ct md ln rc)), (ln, .inst 202 dl (lineA sg a)), (sg, .list (chs cs))]) {Q : AV → AH → Prop} {X : XT}
    (hbad : 100000 < a + ks.length → ∀ e σ', Grew σ σ' → XMsg 51 (PySem.Str.ofString "at") (.data (.int (-1))) e σ' → X e ρ σ')
    (q : a + ks.length ≤ 100000 → ∀ σ', Hs σ σ' [(wr, .inst 244 dw (wrA ct md ln rc)), (ln, .inst 202 dl (lineA sg (a + ks.length))), (sg, .list (chs (putS cs a ks)))] → Q (.data .none) σ') :
    WFC B c (.val (.ref 227)) [.ref wr, .data (.tuple [.str (PySem.Str.ofString "H"), .str (tx ks)])] ρ σ Q X := by
  refine in227 L (body := ?b) ?hb R.dep ?hW
  case hb => with_unfolding_all rfl
  intro L'
  have R' := R.child (e := callEnv (fdOf B.w.params 227) L' 227)
  walk_at "r"
  refine WI_tuple (by decide) (by decide) rfl ?_
  walk_at "r"
  refine ifE (by decide +kernel) ?_
  walk_at "r"
  refine WI_tuple (by decide) (by decide) rfl ?_
  walk_at "r"
  refine ifI (by decide +kernel) ?_
  walk_at "r"
  refine ⟨_, _, WM_inst (H.get (by walk_at "at")) (mtIn L (p := (202, PySem.Str.ofString "put", 192)) (by kernel_rfl)) (notIn (by kernel_rfl)), callK L (by kernel_rfl), ?_⟩
  walk_at "r"
  refine WI_tuple (by decide) (by decide) rfl ?_
  walk_at "r"
  refine WF_of (putLine L (n := n) (x := ln) (dx := dl) (sg := sg) (a := a) (cs := cs) (ks := ks) (R'.less (by lia)) (H.sel (by walk_at "sel")) hks hkl hcs hbad fun h σ' H' => ?_)
  have H := H.join H' (by walk_at "mg")
  walk_at "r"
  exact q h _ H
theorem stepMv (L : BL B) {n : Nat} (R : Rm c (n + 6)) {wr dw ct md ln dl sg rc : Addr} {w : Str} {a m : Nat} (hw : w ∈ movW) (hm : 1 ≤ m)
    (H : Hs σ σ [(wr, .inst 244 dw (wrA ct md ln rc)), (ln, .inst 202 dl (lineA sg a)), (md, .inst 160 dm (modA 0 false false))]) {Q : AV → AH → Prop} {X : XT}
    (q : ∀ σ', Hs σ σ' [(wr, .inst 244 dw (wrA ct md ln rc)), (ln, .inst 202 dl (lineA sg (movesTo w a m))), (md, .inst 160 dm (modA 0 false false))] → Q (.data .none) σ') :
    WFC B c (.val (.ref 227)) [.ref wr, .data (.tuple [.str w, .int m])] ρ σ Q X := by
  refine in227 L (body := ?b) ?hb R.dep ?hW
  case hb => with_unfolding_all rfl
  intro L'
  have R' := R.child (e := callEnv (fdOf B.w.params 227) L' 227)
  obtain ⟨h0, _, _, _, _, _, _, h7, h8⟩ := movW_no w hw
  walk_at "r"
  refine WI_tuple (by decide) (by decide) rfl ?_
  walk_at "r"
  refine ifE h7 ?_
  walk_at "r"
  refine WI_tuple (by decide) (by decide) rfl ?_
  walk_at "r"
  refine ifE h8 ?_
  walk_at "r"
  refine ⟨_, _, WM_inst (H.get (by walk_at "at")) (mtIn L (p := (160, PySem.Str.ofString "set_by", 157)) (by kernel_rfl)) (notIn (by kernel_rfl)), callK L (by kernel_rfl), ?_⟩
  walk_at "r"
  refine WF_of (setBy L (n := n) (R'.less (by lia)) hw ?_)
  walk_at "r"
  refine ifI rfl ?_
  walk_at "r"
  refine WF_of (movedC L (m := n) (R'.less (by lia)) hw hm R'.hh ?_)
  walk_at "r"
  exact q _ (by assumption)
end
/-! P20 -/
section
variable {B : Bs} {c : Cx} {ρ : Loc} {σ : AH} {s : Shared}
/-! FormatWriter.finish -/
inductive It where
  | mv (w : Str) (n : Nat)
  | sl
  | put (ks : List Nat)
noncomputable def itM : It → Mk
  | .mv w n => .lf w [.int n]
  | .sl => .lf (PySem.Str.ofString "/") []
  | .put ks => .lf (PySem.Str.ofString "H") [.str (tx ks)]
noncomputable def itP : It → Pt
  | .mv w n => .leaf w [.int n]
  | .sl => .leaf (PySem.Str.ofString "/") []
  | .put ks => .leaf (PySem.Str.ofString "H") [.str (tx ks)]
noncomputable def okIt : It → Prop
  | .mv w n => w ∈ movW ∧ 1 ≤ n
  | .sl => True
  | .put ks => ks.all (· < 128) = true ∧ ks.length ≤ 100
noncomputable def runW : List It → List Str → List Nat → Nat → Option (List Str)
  | [], rs, cs, _ => some (rs ++ [tx cs])
  | .mv w n :: r, rs, cs, a => runW r rs cs (movesTo w a n)
  | .sl :: r, rs, cs, _ => runW r (rs ++ [tx cs]) [] 0
  | .put ks :: r, rs, cs, a => if 100000 < a + ks.length then none else runW r rs (putS cs a ks) (a + ks.length)
theorem word_of {it : It} (h : okIt it) : ∃ w ds, itM it = .lf w ds ∧ itP it = .leaf w ds ∧ okW w ∧ isCol w = false ∧ isData w = false := by
  cases it with
  | mv w n =>
    refine ⟨w, _, rfl, rfl, ?_⟩
    have := h.1
    unfold movW at this
    simp only [List.mem_cons, List.not_mem_nil, or_false] at this
    unfold okW
    rcases this with rfl | rfl | rfl <;> decide +kernel
  | sl => exact ⟨_, _, rfl, rfl, by unfold okW; decide +kernel, by decide +kernel, by decide +kernel⟩
  | put ks => exact ⟨_, _, rfl, rfl, by unfold okW; decide +kernel, by decide +kernel, by decide +kernel⟩
theorem next_it {it : It} (h : okIt it) {r : List Mk} {u : Bool} {i : Int} (hi : i + 1 ≤ 100000) : nextP false (itM it :: r) u i = .item (mkD (itM it)) r u (i + 1) := by
  obtain ⟨w, ds, e, _, _, h1, h2⟩ := word_of h
  rw [e]
  simp only [nextP, h1, h2, mkD]
  rw [if_neg (by lia)]
  simp
theorem next_end {u : Bool} {i : Int} (hi : i + 1 ≤ 100000) : nextP false [] u i = .stop [] u (i + 1) := by
  simp only [nextP]; rw [if_neg (by lia)]; simp
theorem putS_len : ∀ {ks cs : List Nat} {a : Nat}, (putS cs a ks).length ≤ max cs.length (a + ks.length)
  | [], cs, a => by unfold putS; exact Nat.le_max_left _ _
  | k :: ks, cs, a => by
    unfold putS
    refine Nat.le_trans (putS_len (ks := ks)) ?_
    rw [List.length_set, pad_len, List.length_cons]; lia
noncomputable abbrev wl (wr dw ct dc cn md dm ln dl sg rc : Addr) (fl : List PyData) (ag a_ : Nat) (u : Bool) (i : Int) (cn' : List Int) (a : Nat) (cs : List Nat) (rs : List Str) : List (Addr × AO) :=
  [(wr, .inst 244 dw (wrA ct md ln rc)), (ln, .inst 202 dl (lineA sg a)), (sg, .list (chs cs)), (rc, .list (rsA rs)), (ct, .inst 132 dc (ctlA fl ag a_ cn u i)), (cn, .list (cI cn')), (md, .inst 160 dm (modA 0 false false))]
noncomputable def curD : Option It → PyData
  | none => .none
  | some it => mkD (itM it)
theorem Hs.fresh {σ₀ : AH} {l : List (Addr × AO)} (H : Hs σ₀ σ l) (h : ∀ b ∈ l.map (·.1), σ₀ b = none) : Grew σ₀ σ := fun b ao e => H.fr b ao e fun hm => by rw [h b hm] at e; cases e
theorem nextW (L : BL B) {n : Nat} (R : Rm c (n + 6)) {σ₀ : AH} {wr dw ct dc cn md dm ln dl sg rc : Addr} {fl : List PyData} {ag a_ : Nat} {u : Bool} {i : Int} {cn' : List Int} {a : Nat} {cs : List Nat} {rs : List Str} {items : List It}
    (H : Hs σ₀ σ (wl wr dw ct dc cn md dm ln dl sg rc fl ag a_ u i cn' a cs rs)) (hit : ∀ it ∈ items, okIt it) (hr : Runs fl a_ cn' (items.map itM)) (hz : cn'.length + (items.map itM).length ≤ 2 ^ 20) (hfl : fl.length ≤ 2 ^ 20) (hi : i + 1 ≤ 100000) {Q : AV → AH → Prop} {X : XT}
    (q : ∀ (cur : Option It) items' σ' a_' cn'', items = cur.toList ++ items' → (cur = none → items' = []) → Hs σ₀ σ' (wl wr dw ct dc cn md dm ln dl sg rc fl ag a_' u (i + 1) cn'' a cs rs) → Runs fl a_' cn'' (items'.map itM) → cn''.length + (items'.map itM).length ≤ 2 ^ 20 → Q (.data (curD cur)) σ') :
    WFC B c (.val (.ref 115)) [.ref ct, .data (.bool false)] ρ σ Q X := by
  cases items with
  | nil =>
    have e := next_end (u := u) hi
    refine nextItem L (n := n) (x := ct) (dx := dc) (cn := cn) (fl := fl) (ag := ag) (a := a_) (u := u) (hv := false) (i := i) (cs := cn') (r := []) R hr hz hfl (H.sel (by walk_at "sel")) (fun h => ?_) (fun r' u' i' h σ' a' cs' H' hr' hz' => ?_) (fun d r' u' i' h => ?_) fun i' h => ?_
    · rw [e] at h; cases h
    · rw [e] at h; cases h
      exact q none [] σ' a' cs' rfl (fun _ => rfl) (H.join H' (by walk_at "mg")) hr' hz'
    · rw [e] at h; cases h
    · rw [e] at h; cases h
  | cons it items =>
    have e := next_it (hit it (.head _)) (r := items.map itM) (u := u) hi
    refine nextItem L (n := n) (x := ct) (dx := dc) (cn := cn) (fl := fl) (ag := ag) (a := a_) (u := u) (hv := false) (i := i) (cs := cn') (r := itM it :: items.map itM) R hr hz hfl (H.sel (by walk_at "sel")) (fun h => ?_) (fun r' u' i' h => ?_) (fun d r' u' i' h σ' a' cs' H' hr' hz' => ?_) fun i' h => ?_
    · rw [e] at h; cases h
    · rw [e] at h; cases h
    · rw [e] at h; cases h
      exact q (some it) items σ' a' cs' rfl (fun h => by cases h) (H.join H' (by walk_at "mg")) hr' hz'
    · rw [e] at h; cases h
theorem Hs.selF {σ₀ : AH} {l m : List (Addr × AO)} (H : Hs σ₀ σ l) (h : SelH l m) (hall : ∀ b ∈ l.map (·.1), σ₀ b = none) : Hs σ₀ σ m := by
  obtain ⟨h1, h2⟩ := h.ok H.nd
  refine ⟨fun p hp => H.hat p (h1 p hp), h2, fun p hp => H.nr p (h1 p hp), fun b ao e _ => H.fr b ao e fun hm => ?_, fun b o e hm => ?_⟩
  · rw [hall b hm] at e; cases e
  · obtain ⟨p, hp, rfl⟩ := List.mem_map.mp hm
    rw [hall _ (List.mem_map_of_mem (f := (·.1)) (h1 p hp))] at e; cases e
inductive finI (σ₀ : AH) (wr dw ct dc cn md dm rc : Addr) (fl : List PyData) (ag : Nat) (u : Bool) (items : List It) (rs : List Str) (cs : List Nat) (a : Nat) (m : Nat) (ρ' : Loc) (σ' : AH) : Prop
  | mk (items' : List It) (cur : Option It) (rs' : List Str) (cs' : List Nat) (a' : Nat) (ln' dl' sg' : Addr) (a_' : Nat) (i' : Int) (cn'' : List Int) (h0 : Hs σ₀ σ' (wl wr dw ct dc cn md dm ln' dl' sg' rc fl ag a_' u i' cn'' a' cs' rs')) (h1 : (∀ b ∈ [wr, ln', sg', rc, ct, cn, md], σ₀ b = none)) (h2 : Runs fl a_' cn'' (items'.map itM)) (h3 : cn''.length + (items'.map itM).length ≤ 2 ^ 20) (h4 : runW (cur.toList ++ items') rs' cs' a' = runW items rs cs a) (h5 : (∀ it ∈ cur.toList ++ items', okIt it)) (h6 : (cur = none → items' = [])) (h7 : i' + items'.length + cur.toList.length ≤ 100000) (h8 : cs'.length ≤ big) (h9 : rs'.length + items'.length + cur.toList.length ≤ 2 ^ 19) (h10 : m = items'.length + cur.toList.length) (h11 : ρ' = [(PySem.Str.ofString "self", some (.ref wr)), (PySem.Str.ofString "item", some (.data (curD cur)))]) : finI σ₀ wr dw ct dc cn md dm rc fl ag u items rs cs a m ρ' σ'
theorem finishW (L : BL B) {n : Nat} (R : Rm c (n + 7)) {σ₀ : AH} {wr dw ct dc cn md dm ln dl sg rc : Addr} {fl : List PyData} {ag a_ : Nat} {u : Bool} {i : Int} {cn' : List Int} {a : Nat} {cs : List Nat} {rs : List Str} {items : List It}
    (H : Hs σ₀ σ (wl wr dw ct dc cn md dm ln dl sg rc fl ag a_ u i cn' a cs rs)) (hfr : ∀ b ∈ [wr, ln, sg, rc, ct, cn, md], σ₀ b = none) (hit : ∀ it ∈ items, okIt it) (hr : Runs fl a_ cn' (items.map itM)) (hz : cn'.length + (items.map itM).length ≤ 2 ^ 20) (hfl : fl.length ≤ 2 ^ 20)
    (hi : i + items.length + 1 ≤ 100000) (hcs : cs.length ≤ big) (hrs : rs.length + items.length ≤ 2 ^ 19) {Q : AV → AH → Prop} {X : XT}
    (hbad : runW items rs cs a = none → ∀ e σ', Grew σ₀ σ' → XMsg 51 (PySem.Str.ofString "at") (.data (.int (-1))) e σ' → X e ρ σ')
    (q : ∀ out, runW items rs cs a = some out → ∀ σ', Hs σ₀ σ' [(rc, .list (rsA out))] → Q (.ref rc) σ') : WFC B c (.val (.ref 241)) [.ref wr] ρ σ Q X := by
  refine in241 L (body := ?b) ?hb R.dep ?hW
  case hb => with_unfolding_all rfl
  intro L'
  have R' := R.child (e := callEnv (fdOf B.w.params 241) L' 241)
  have hF : (c.child (callEnv (fdOf B.w.params 241) L' 241)).Fun := Cx.childFun rfl rfl
  walk_at "r"
  refine ⟨_, _, WM_inst (H.get (by walk_at "at")) (mtIn L (p := (132, PySem.Str.ofString "next_item", 115)) (by kernel_rfl)) (notIn (by kernel_rfl)), callK L (by kernel_rfl), ?_⟩
  walk_at "r"
  refine WF_of (nextW L (n := n) R' (wr := wr) (dw := dw) (ct := ct) (dc := dc) (cn := cn) (md := md) (dm := dm) (ln := ln) (dl := dl) (sg := sg) (rc := rc) (a := a) (cs := cs) (rs := rs) H hit hr hz hfl (by lia) fun cur items' σ₁ a_' cn'' hit' hcur H hr hz => ?_)
  walk_at "r"
  have hlen : items.length = cur.toList.length + items'.length := by rw [hit', List.length_append]
  with_reducible refine WS_while (n₀ := items'.length + cur.toList.length) (I := finI σ₀ wr dw ct dc cn md dm rc fl ag u items rs cs a) hF ⟨items', cur, rs, cs, a, ln, dl, sg, a_', i + 1, cn'', H, hfr, hr, hz, by rw [hit'], by rw [← hit']; exact hit, hcur, by lia, hcs, by lia, rfl, rfl⟩ ?_
  clear H hr hz hcur hit' hfr hcs hrs hi hlen
  rintro m ρ₁ σ₂ ⟨items', cur, rs', cs', a', ln', dl', sg', a_', i', cn'', H, hfr, hr, hz, hrun, hit, hcur, hi, hcs, hrs, rfl, rfl⟩
  walk_at "r"
  cases cur with
  | none =>
    obtain rfl := hcur rfl
    refine ifF ?_
    walk_at "r"
    refine ⟨_, _, WM_inst (H.get (by walk_at "at")) (mtIn L (p := (202, PySem.Str.ofString "text", 199)) (by kernel_rfl)) (notIn (by kernel_rfl)), callK L (by kernel_rfl), ?_⟩
    walk_at "r"
    refine WF_of (textLine L (n := n) (x := ln') (dx := dl') (sg := sg') (a := a') (cs := cs') (R'.less (by lia)) (H.sel (by walk_at "sel")) hcs ?_)
    walk_at "r"
    refine WF_append (H.get (by walk_at "at")) (by rw [rsA_len]; unfold sizeLine; lia) ?_
    rw [rsA_snoc]
    walk_at "r"
    rename_i σ₄ H
    refine q _ hrun.symm σ₄ ?_
    have f1 := hfr wr (by simp)
    have f2 := hfr ln' (by simp)
    have f3 := hfr sg' (by simp)
    have f5 := hfr ct (by simp)
    have f6 := hfr cn (by simp)
    have f7 := hfr md (by simp)
    exact (((((H.cut .n0 f1).cut .n0 f2).cut .n0 f3).cut .n1 f5).cut .n1 f6).cut .n1 f7
  | some it =>
    refine ifI (by cases it <;> rfl) ?_
    walk_at "r"
    refine ⟨_, _, WM_inst (H.get (by walk_at "at")) (mtIn L (p := (244, PySem.Str.ofString "step", 227)) (by kernel_rfl)) (notIn (by kernel_rfl)), callK L (by kernel_rfl), ?_⟩
    walk_at "r"
    have hit2 : ∀ it ∈ items', okIt it := fun x hx => hit x (.tail _ hx)
    have hk := hit it (.head _)
    have h1 : (some it).toList.length = 1 := rfl
    rw [h1] at hrs hi
    have hlz : (items'.map itM).length = items'.length := List.length_map _
    cases it with
    | mv w m =>
      refine WF_of (stepMv L (n := n) (wr := wr) (dw := dw) (ct := ct) (md := md) (dm := dm) (ln := ln') (dl := dl') (sg := sg') (rc := rc) (a := a') R' hk.1 hk.2 (H.sel (by walk_at "sel")) fun σ₃ H' => ?_)
      have H := H.join H' (by walk_at "mg")
      walk_at "r"
      refine ⟨_, _, WM_inst (H.get (by walk_at "at")) (mtIn L (p := (132, PySem.Str.ofString "next_item", 115)) (by kernel_rfl)) (notIn (by kernel_rfl)), callK L (by kernel_rfl), ?_⟩
      walk_at "r"
      refine WF_of (nextW L (n := n) R' (wr := wr) (dw := dw) (ct := ct) (dc := dc) (cn := cn) (md := md) (dm := dm) (ln := ln') (dl := dl') (sg := sg') (rc := rc) (a := movesTo w a' m) (cs := cs') (rs := rs') H hit2 hr hz hfl (by lia) fun cur items2 σ₄ a2 cn2 hit' hcur H hr hz => ?_)
      walk_at "r"
      have hlen : items'.length = cur.toList.length + items2.length := by rw [hit', List.length_append]
      refine ⟨items2.length + cur.toList.length, by show _ < items'.length + 1; lia, items2, cur, rs', cs', movesTo w a' m, ln', dl', sg', a2, i' + 1, cn2, H, hfr, hr, hz, ?_, by rw [← hit']; exact hit2, hcur, by lia, hcs, by lia, rfl, rfl⟩
      rw [← hit', ← hrun]
      rfl
    | put ks =>
      refine WF_of (stepTx L (n := n) (wr := wr) (dw := dw) (ct := ct) (md := md) (ln := ln') (dl := dl') (sg := sg') (rc := rc) (a := a') (cs := cs') (ks := ks) R' hk.1 hk.2 hcs (H.sel (by walk_at "sel")) (fun hb e σ' G M => ?_) fun hb σ₃ H' => ?_)
      · refine hbad ?_ e σ' ((H.fresh fun b hm => hfr b hm).trans G) M
        rw [← hrun]
        show (if 100000 < a' + ks.length then none else _) = none
        rw [if_pos hb]
      have H := H.join H' (by walk_at "mg")
      have hl2 := putS_len (ks := ks) (cs := cs') (a := a')
      walk_at "r"
      refine ⟨_, _, WM_inst (H.get (by walk_at "at")) (mtIn L (p := (132, PySem.Str.ofString "next_item", 115)) (by kernel_rfl)) (notIn (by kernel_rfl)), callK L (by kernel_rfl), ?_⟩
      walk_at "r"
      refine WF_of (nextW L (n := n) R' (wr := wr) (dw := dw) (ct := ct) (dc := dc) (cn := cn) (md := md) (dm := dm) (ln := ln') (dl := dl') (sg := sg') (rc := rc) (a := a' + ks.length) (cs := putS cs' a' ks) (rs := rs') H hit2 hr hz hfl (by lia) fun cur items2 σ₄ a2 cn2 hit' hcur H hr hz => ?_)
      walk_at "r"
      have hlen : items'.length = cur.toList.length + items2.length := by rw [hit', List.length_append]
      refine ⟨items2.length + cur.toList.length, by show _ < items'.length + 1; lia, items2, cur, rs', putS cs' a' ks, a' + ks.length, ln', dl', sg', a2, i' + 1, cn2, H, hfr, hr, hz, ?_, by rw [← hit']; exact hit2, hcur, by lia, by unfold big at *; lia, by lia, rfl, rfl⟩
      rw [← hit', ← hrun]
      show _ = (if 100000 < a' + ks.length then none else _)
      rw [if_neg (by lia)]
      rfl
    | sl =>
      refine WF_of (stepSl L (n := n) (wr := wr) (dw := dw) (ct := ct) (md := md) (ln := ln') (dl := dl') (sg := sg') (rc := rc) (a := a') (cs := cs') (rs := rs') R' hcs (by lia) (H.sel (by walk_at "sel")) fun σ₃ ln2 dl2 sg2 hl2 hs2 H' => ?_)
      have b1 := H.base hl2
      have b2 := H.base hs2
      have hfr2 : ∀ b ∈ [wr, ln2, sg2, rc, ct, cn, md], σ₀ b = none := fun b hb => by
        simp only [List.mem_cons, List.not_mem_nil, or_false] at hb
        rcases hb with rfl | rfl | rfl | h
        · exact hfr _ (by simp)
        · exact b1
        · exact b2
        · exact hfr _ (by simp only [List.mem_cons, List.not_mem_nil, or_false]; exact .inr (.inr (.inr h)))
      have H := H.join H' (by walk_at "mg")
      have H : Hs σ₀ σ₃ (wl wr dw ct dc cn md dm ln2 dl2 sg2 rc fl ag a_' u i' cn'' 0 [] (rs' ++ [tx cs'])) := H.selF (by walk_at "sel") fun b hb => by
        simp only [List.map_cons, List.map_nil, List.mem_cons, List.not_mem_nil, or_false] at hb
        rcases hb with rfl | rfl | h
        · exact b2
        · exact b1
        · exact hfr _ (by simp only [List.mem_cons, List.not_mem_nil, or_false]; exact h)
      walk_at "r"
      refine ⟨_, _, WM_inst (H.get (by walk_at "at")) (mtIn L (p := (132, PySem.Str.ofString "next_item", 115)) (by kernel_rfl)) (notIn (by kernel_rfl)), callK L (by kernel_rfl), ?_⟩
      walk_at "r"
      refine WF_of (nextW L (n := n) R' (wr := wr) (dw := dw) (ct := ct) (dc := dc) (cn := cn) (md := md) (dm := dm) (ln := ln2) (dl := dl2) (sg := sg2) (rc := rc) (a := 0) (cs := []) (rs := (rs' ++ [tx cs'])) H hit2 hr hz hfl (by lia) fun cur items2 σ₄ a2 cn2 hit' hcur H hr hz => ?_)
      walk_at "r"
      have hlen : items'.length = cur.toList.length + items2.length := by rw [hit', List.length_append]
      refine ⟨items2.length + cur.toList.length, by show _ < items'.length + 1; lia, items2, cur, rs' ++ [tx cs'], [], 0, ln2, dl2, sg2, a2, i' + 1, cn2, H, hfr2, hr, hz, ?_, by rw [← hit']; exact hit2, hcur, by lia, by unfold big; decide, by rw [List.length_append]; simp only [List.length_singleton]; lia, rfl, rfl⟩
      rw [← hit', ← hrun]
      rfl
end
/-! P21 -/
section
variable {B : Bs} {c : Cx} {ρ : Loc} {σ : AH} {s : Shared}
/-! the marks of a format; they run along its flat form -/
mutual
noncomputable def marksP : Pt → List Mk
  | .leaf w ds => [.lf w ds]
  | .grp n l => .beg :: (List.replicate n.toNat (marksPs l ++ [.fin])).flatten
  | .rep n p => .beg :: (List.replicate n.toNat (marksP p ++ [.fin])).flatten
noncomputable def marksPs : List Pt → List Mk
  | [] => []
  | p :: l => marksP p ++ marksPs l
end
/-- fl holds xs at s -/
noncomputable def At_ (fl : List PyData) (s : Nat) (xs : List PyData) : Prop := ∀ j x, xs[j]? = some x → fl[s + j]? = some x
theorem At_.left {fl xs ys : List PyData} {s : Nat} (h : At_ fl s (xs ++ ys)) : At_ fl s xs := fun j x e => h j x (by
  rw [List.getElem?_append_left (List.getElem?_eq_some_iff.mp e).1]; exact e)
theorem At_.right {fl xs ys : List PyData} {s : Nat} (h : At_ fl s (xs ++ ys)) : At_ fl (s + xs.length) ys := fun j x e => by
  rw [Nat.add_assoc]
  exact h (xs.length + j) x (by rw [List.getElem?_append_right (Nat.le_add_right _ _), Nat.add_sub_cancel_left]; exact e)
theorem At_.hd {fl xs : List PyData} {s : Nat} {x : PyData} (h : At_ fl s (x :: xs)) : fl[s]? = some x := h 0 x rfl
theorem At_.tl {fl xs : List PyData} {s : Nat} {x : PyData} (h : At_ fl s (x :: xs)) : At_ fl (s + 1) xs := fun j y e => by
  rw [Nat.add_assoc, Nat.add_comm 1 j]; exact h (j + 1) y e
/-- one turn of a group after the other -/
theorem runs_turns {fl : List PyData} {s e : Nat} {inner r : List Mk} {cs : List Int} (hend : fl[e]? = some (.tuple [.str (PySem.Str.ofString "end"), .int s]))
    (hin : ∀ (k : Int) r', Runs fl e (cs ++ [k]) r' → Runs fl (s + 1) (cs ++ [k]) (inner ++ r')) (hr : Runs fl (e + 1) cs r) :
    ∀ k : Nat, Runs fl (s + 1) (cs ++ [((k + 1 : Nat) : Int)]) ((List.replicate (k + 1) (inner ++ [.fin])).flatten ++ r)
  | 0 => by
    rw [List.replicate_succ, List.replicate_zero, List.flatten_cons, List.flatten_nil, List.append_nil, List.append_assoc]
    exact hin _ _ (.last hend (by decide) hr)
  | k + 1 => by
    rw [List.replicate_succ, List.flatten_cons, List.append_assoc, List.append_assoc]
    refine hin _ _ (.again hend (by lia) ?_)
    have := runs_turns hend hin hr k
    rw [show ((k + 1 + 1 : Nat) : Int) - 1 = ((k + 1 : Nat) : Int) by lia]
    exact this
theorem runs_list {fl : List PyData} {d : Nat} (ih : ∀ p, OkP d p → ∀ s cs r, At_ fl s (flatP p s) → Runs fl (s + (flatP p s).length) cs r → Runs fl s cs (marksP p ++ r)) :
    ∀ (l : List Pt), (∀ p ∈ l, OkP d p) → ∀ s cs r, At_ fl s (flatPs l s) → Runs fl (s + (flatPs l s).length) cs r → Runs fl s cs (marksPs l ++ r)
  | [], _, s, cs, r, _, hr => by simpa only [flatPs, marksPs, List.length_nil, Nat.add_zero, List.nil_append] using hr
  | p :: l, hok, s, cs, r, ha, hr => by
    simp only [flatPs] at ha hr
    simp only [marksPs]
    rw [List.append_assoc]
    refine ih p (hok p (.head _)) s cs _ ha.left (runs_list ih l (fun q hq => hok q (.tail _ hq)) _ cs r ha.right ?_)
    rw [List.length_append, ← Nat.add_assoc] at hr
    exact hr
theorem runs_leaf {fl : List PyData} {w : Str} {ds : List PyData} (hw : okW w) {s : Nat} {cs : List Int} {r : List Mk} (ha : At_ fl s (flatP (.leaf w ds) s)) (hr : Runs fl (s + (flatP (.leaf w ds) s).length) cs r) : Runs fl s cs (marksP (.leaf w ds) ++ r) := by
  simp only [flatP] at ha hr
  simp only [marksP]
  exact .leaf hw ha.hd hr
theorem runs_of {fl : List PyData} : ∀ (d : Nat) (p : Pt), OkP d p → ∀ s cs r, At_ fl s (flatP p s) → Runs fl (s + (flatP p s).length) cs r → Runs fl s cs (marksP p ++ r) := by
  have node : ∀ (d : Nat) (n : Int) (l : List Pt) (inner : List Mk), 1 ≤ n → (∀ s cs r, At_ fl s (flatPs l s) → Runs fl (s + (flatPs l s).length) cs r → Runs fl s cs (inner ++ r)) →
      ∀ s cs r, At_ fl s (.tuple [.str (PySem.Str.ofString "begin"), .int n] :: (flatPs l (s + 1) ++ [.tuple [.str (PySem.Str.ofString "end"), .int s]])) →
      Runs fl (s + (PyData.tuple [.str (PySem.Str.ofString "begin"), .int n] :: (flatPs l (s + 1) ++ [PyData.tuple [.str (PySem.Str.ofString "end"), .int s]])).length) cs r →
      Runs fl s cs (.beg :: (List.replicate n.toNat (inner ++ [.fin])).flatten ++ r) := by
    intro d n l inner hn hin s cs r ha hr
    refine .beg ha.hd ?_
    have h2 := ha.tl
    obtain ⟨k, hk⟩ : ∃ k : Nat, n = ((k + 1 : Nat) : Int) := ⟨(n - 1).toNat, by lia⟩
    subst hk
    rw [Int.toNat_natCast]
    refine runs_turns (e := s + 1 + (flatPs l (s + 1)).length) (s := s) h2.right.hd (fun k' r' h => hin (s + 1) _ r' h2.left h) ?_ k
    rw [List.length_cons, List.length_append, List.length_singleton] at hr
    rw [show s + 1 + (flatPs l (s + 1)).length + 1 = s + ((flatPs l (s + 1)).length + 1 + 1) by lia]
    exact hr
  intro d
  induction d with
  | zero =>
    intro p hp s cs r ha hr
    cases hp with
    | leaf h => exact runs_leaf h ha hr
  | succ d ih =>
    intro p hp s cs r ha hr
    cases hp with
    | leaf h => exact runs_leaf h ha hr
    | @grp _ n l hn hok hl =>
      simp only [flatP] at ha hr
      simp only [marksP]
      exact node d n l _ hn (runs_list ih l hok) s cs r ha hr
    | @rep _ n p hn hok =>
      simp only [flatP] at ha hr
      simp only [marksP]
      have e : ∀ s, flatPs [p] s = flatP p s := fun s => by simp only [flatPs, List.append_nil]
      refine node d n [p] _ hn (fun s cs r ha hr => ?_) s cs r (by rw [e]; exact ha) (by rw [e]; exact hr)
      rw [e] at ha hr
      exact ih p hok s cs r ha hr
theorem runs_all {d : Nat} {ls : List Pt} (hok : ∀ p ∈ ls, OkP d p) : Runs (flatPs ls 0) 0 [] (marksPs ls) := by
  have := runs_list (fl := flatPs ls 0) (runs_of d) ls hok 0 [] [] (fun j x e => by rw [Nat.zero_add]; exact e) (by rw [Nat.zero_add]; exact .done)
  rwa [List.append_nil] at this
theorem okIt.p {it : It} (h : okIt it) : OkP 0 (itP it) := by
  obtain ⟨w, ds, _, e, hw, _⟩ := word_of h
  rw [e]; exact .leaf hw
theorem marks_its : ∀ (l : List It), marksPs (l.map itP) = l.map itM
  | [] => by simp only [List.map_nil, marksPs]
  | it :: l => by
    rw [List.map_cons, List.map_cons]
    simp only [marksPs]
    rw [marks_its l]
    cases it <;> simp [itP, itM, marksP]
theorem flat_its : ∀ (l : List It) (s : Nat), (flatPs (l.map itP) s).length = l.length
  | [], s => by simp only [List.map_nil, flatPs, List.length_nil]
  | it :: l, s => by
    rw [List.map_cons]
    simp only [flatPs]
    rw [List.length_append, flat_its l, List.length_cons]
    cases it <;> simp [itP, flatP, Nat.add_comm]
theorem SelH.perm {l m : List (Addr × AO)} (h : SelH l m) : l.length = m.length → l.Perm m := by
  induction h with
  | nil => intro e; rw [List.length_eq_zero_iff.mp e]
  | cons hc _ ih =>
    intro e
    have := hc.perm.length_eq
    rw [List.length_cons] at this e
    exact hc.perm.trans ((ih (by lia)).cons _)
theorem Hs.re {σ₀ : AH} {l l' : List (Addr × AO)} (H : Hs σ₀ σ l) (h : SelH l l') (e : l.length = l'.length) : Hs σ₀ σ l' :=
  have p := h.perm e
  ⟨fun x hx => H.hat x (p.mem_iff.mpr hx), ((p.map _).nodup_iff).mp H.nd, fun x hx => H.nr x (p.mem_iff.mpr hx), fun b ao e hm => H.fr b ao e fun h => hm ((p.map _).mem_iff.mp h), fun b o e hm => H.ro b o e ((p.map _).mem_iff.mpr hm)⟩
theorem initWriter (L : BL B) {n : Nat} (R : Rm c (n + 7)) {items : List It} (hit : ∀ it ∈ items, okIt it) (hl : items.length ≤ 100) {x dx : Addr} (H : Hs σ σ [(x, .inst 244 dx [])]) {Q : AV → AH → Prop} {X : XT}
    (q : ∀ σ' ct dc cn md dm ln dl sg rc, (∀ b ∈ [ln, sg, rc, ct, cn, md], σ b = none) → Hs σ σ' (wl x dx ct dc cn md dm ln dl sg rc (flatPs (items.map itP) 0) (agP (items.map itP) 0 0) 0 false 0 [] 0 [] []) → Q (.data .none) σ') :
    WFC B c (.val (.ref 220)) [.ref x, .data (.list (ptDs (items.map itP))), .data .none] ρ σ Q X := by
  refine in220 L (body := ?b) ?hb R.dep ?hW
  case hb => with_unfolding_all rfl
  intro L'
  have R' := R.child (e := callEnv (fdOf B.w.params 220) L' 220)
  walk_at "r"
  refine makeControl L (d := 0) (n := n) (R'.less (by lia)) (ls := items.map itP) (fun p hp => by obtain ⟨it, h, rfl⟩ := List.mem_map.mp hp; exact (hit it h).p) (by rw [List.length_map]; exact hl) (by rw [flat_its]; lia) fun σ₁ ct dc cn h1 h2 H' => ?_
  have b1 := H.base h1
  have b2 := H.base h2
  have H := H.join H' (by walk_at "mg")
  walk_at "r"
  rename_i σ₂ H
  refine makeModes L (n := n) (z := false) (R'.less (by lia)) fun σ₃ md dm h3 H' => ?_
  have b3 := H.base h3
  have H := H.join H' (by walk_at "mg")
  walk_at "r"
  rename_i σ₄ H
  refine makeLine L (n := n) (R'.less (by lia)) fun σ₅ ln dl sg h4 h5 H' => ?_
  have b4 := H.base h4
  have b5 := H.base h5
  have H := H.join H' (by walk_at "mg")
  walk_at "r"
  rename_i σ₆ H
  with_reducible refine W_ListT ?_
  walk_at "r"
  refine ⟨by show 0 ≤ _; lia, fun rc h6 => ?_⟩
  have b6 := H.base h6
  have H := H.new (o := .list (rsA [])) h6
  revert H
  show Hs σ (upd σ₆ rc (.list [])) _ → _
  generalize upd σ₆ rc (.list []) = σ₇
  intro H
  walk_at "r"
  rename_i σ₈ H
  refine q σ₈ ct dc cn md dm ln dl sg rc (fun b hb => ?_) (Hs.re (l := [(rc, .list (rsA [])), (sg, .list (chs [])), (ln, .inst 202 dl (lineA sg 0)), (md, .inst 160 dm (modA 0 false false)), (cn, .list (cI [])), (ct, .inst 132 dc (ctlA (flatPs (items.map itP) 0) (agP (items.map itP) 0 0) 0 cn false 0)), (x, .inst 244 dx (wrA ct md ln rc))]) H (by walk_at "sel") rfl)
  simp only [List.mem_cons, List.not_mem_nil, or_false] at hb
  rcases hb with rfl | rfl | rfl | rfl | rfl | rfl <;> assumption
theorem makeWriter (L : BL B) {n : Nat} (R : Rm c (n + 8)) {items : List It} (hit : ∀ it ∈ items, okIt it) (hl : items.length ≤ 100) {Q : AV → AH → Prop} {X : XT}
    (q : ∀ σ' wr dw ct dc cn md dm ln dl sg rc, (∀ b ∈ [wr, ln, sg, rc, ct, cn, md], σ b = none) → Hs σ σ' (wl wr dw ct dc cn md dm ln dl sg rc (flatPs (items.map itP) 0) (agP (items.map itP) 0 0) 0 false 0 [] 0 [] []) → Q (.ref wr) σ') :
    WF B c (.val (.ref 244)) [.data (.list (ptDs (items.map itP))), .data .none] ρ σ Q X := by
  refine WF_make (fI := 220) (by rw [L.K]; kernel_rfl) (by rw [L.K]; kernel_rfl) (by rw [L.K]; kernel_rfl) fun x dx hx hd hne => ?_
  have H := Hs.made (o := .inst 244 dx []) hx hd hne
  revert H
  generalize upd (upd σ x (.inst 244 dx [])) dx (.own x) = σ₁
  intro H
  refine initWriter L R.up hit hl H.self fun σ' ct dc cn md dm ln dl sg rc hf H' => ⟨rfl, ?_⟩
  have hf' : ∀ b ∈ [ln, sg, rc, ct, cn, md], σ b = none := fun b hb => H.base (hf b hb)
  refine q σ' x dx ct dc cn md dm ln dl sg rc (fun b hb => ?_) ?_
  · rcases List.mem_cons.mp hb with rfl | hb
    · exact hx
    · exact hf' b hb
  · have := H.trans H' fun b hb => (by
      obtain rfl := List.mem_singleton.mp hb
      exact .head _)
    exact this
end
/-! P22 -/
section
variable {B : Bs} {c : Cx} {ρ : Loc} {σ : AH} {s : Shared}
/-! texts as lists of signs -/
theorem tx_app {a b : List Nat} : tx a ++ tx b = tx (a ++ b) := by
  show Str.append _ _ = _
  unfold Str.append tx; simp
theorem slice_to {cs : List Nat} {a : Nat} (h : a ≤ cs.length) : Txt.slice (tx cs) none (some (a : Int)) = tx (cs.take a) := by
  show StrLaws.sliceText (tx cs) none (some (a : Int)) = _
  rw [StrLaws.sliceText_to ⟨by lia, by show (a : Int) ≤ (cs.toArray.toList.length : Int); simpa using h⟩]
  unfold tx; simp
theorem slice_from_le {cs : List Nat} {a : Nat} (h : a ≤ cs.length) : Txt.slice (tx cs) (some (a : Int)) none = tx (cs.drop a) := by
  show StrLaws.sliceText (tx cs) (some (a : Int)) none = _
  rw [StrLaws.sliceText_from ⟨by lia, by show (a : Int) ≤ (cs.toArray.toList.length : Int); simpa using h⟩]
  unfold tx; simp
  rw [List.take_of_length_le]; simp
theorem slice_from {cs : List Nat} {a : Nat} : Txt.slice (tx cs) (some (a : Int)) none = tx (cs.drop a) := by
  rcases Nat.le_total a cs.length with h | h
  · exact slice_from_le h
  · have e : Txt.slice (tx cs) (some (a : Int)) none = Txt.slice (tx cs) (some (cs.length : Int)) none := by
      have : Builtin.Str.strSliceIndices (some (a : Int)) none 1 (tx cs).length = Builtin.Str.strSliceIndices (some (cs.length : Int)) none 1 (tx cs).length := by
        rw [tx_len]
        unfold Builtin.Str.strSliceIndices
        simp only [show ((1 : Int) > 0) by decide, if_true]
        rw [if_neg (by lia), if_neg (by lia)]
        congr 1
        lia
      unfold Txt.slice
      rw [this]
    rw [e, slice_from_le (Nat.le_refl _), List.drop_of_length_le h, List.drop_length]
theorem fold_sp : ∀ (n : Nat) (acc : Array Nat), (List.replicate n (PySem.Str.ofString " ").cps).foldl (· ++ ·) acc = acc ++ (List.replicate n 32).toArray
  | 0, acc => by simp
  | n + 1, acc => by
    have e : (PySem.Str.ofString " ").cps = #[32] := by decide +kernel
    rw [List.replicate_succ, List.foldl_cons, fold_sp n, e]
    apply Array.ext'
    simp [List.replicate_succ]
theorem rep_sp {a b : Nat} : strRep (PySem.Str.ofString " ") ((a : Int) - (b : Int)) = tx (List.replicate (a - b) 32) := by
  unfold strRep
  split
  · rw [Nat.sub_eq_zero_of_le (by lia)]; rfl
  · split
    · rename_i h1 h2
      have h3 : ((PySem.Str.ofString " ").length == 0) = false := by decide +kernel
      rw [h3, Bool.or_false] at h2
      have := eq_of_beq h2
      rw [show a - b = 1 by lia]
      decide +kernel
    · rw [fold_sp, show ((a : Int) - (b : Int)).toNat = a - b by lia]
      unfold tx; simp
theorem putS_row : ∀ (ks : List Nat) (cs : List Nat) (a : Nat), ks ≠ [] → putS cs a ks = (pad cs a).take a ++ ks ++ (pad cs a).drop (a + ks.length)
  | [], _, _, h => absurd rfl h
  | k :: ks, cs, a, _ => by
    have hp : a ≤ (pad cs a).length := by rw [pad_len]; lia
    have e1 : (pad cs (a + 1)).set a k = (pad cs a).take a ++ [k] ++ (pad cs a).drop (a + 1) := by
      rcases Nat.lt_or_ge a cs.length with h | h
      · rw [pad_full (show a + 1 ≤ cs.length from h), pad_full (Nat.le_of_lt h)]
        rw [List.set_eq_take_append_cons_drop, if_pos h, List.append_assoc]; rfl
      · have e2 : pad cs (a + 1) = pad cs a ++ [32] := by
          unfold pad
          rw [show a + 1 - cs.length = (a - cs.length) + 1 by lia, List.replicate_succ', List.append_assoc]
        have hl : (pad cs a).length = a := by rw [pad_len]; lia
        rw [e2, List.set_append_right _ _ (by lia), hl, Nat.sub_self, List.take_of_length_le (by lia), List.drop_of_length_le (by lia), List.append_nil]
        rfl
    unfold putS
    rw [e1]
    have hl1 : ((pad cs a).take a).length = a := by rw [List.length_take]; lia
    cases ks with
    | nil => unfold putS; rfl
    | cons k' ks =>
      rw [putS_row (k' :: ks) _ (a + 1) (by simp)]
      have hl2 : a + 1 ≤ ((pad cs a).take a ++ [k] ++ (pad cs a).drop (a + 1)).length := by
        rw [List.length_append, List.length_append, hl1, List.length_singleton]; lia
      rw [pad_full hl2]
      have hl3 : ((pad cs a).take a ++ [k]).length = a + 1 := by rw [List.length_append, hl1]; rfl
      rw [List.take_append_of_le_length (by lia), List.take_of_length_le (by lia), List.drop_append, hl3, List.drop_of_length_le (l := (pad cs a).take a ++ [k]) (by lia), List.nil_append, List.drop_drop]
      rw [List.length_cons, List.length_cons]
      rw [show a + 1 + (a + 1 + (ks.length + 1) - (a + 1)) = a + (ks.length + 1 + 1) by lia]
      simp
end
/-! P23 -/
section
variable {B : Bs} {c : Cx} {ρ : Loc} {σ : AH} {s : Shared}
/-! _law_far, _law_lines -/
theorem lawFar (L : BL B) {n : Nat} (R : Rm c (n + 1)) {Q : AV → AH → Prop} {X : XT} (q : Q (.data (.tuple [.int 1, .int 2, .int 99999, .int 100000, .int 100001, .int (10 ^ 12)])) σ) : WFC B c (.val (.ref 325)) [] ρ σ Q X := by
  refine in325 L (body := ?b) ?hb R.dep ?hW
  case hb => with_unfolding_all rfl
  intro L'
  have R' := R.child (e := callEnv (fdOf B.w.params 325) L' 325)
  walk_at "r"
  refine W2_pow (by decide) (by decide) ?_
  walk_at "r"
  exact q
theorem far_at {v : Int} (h0 : 0 ≤ v) (h6 : v < 6) : ∃ m : Nat, ([.int 1, .int 2, .int 99999, .int 100000, .int 100001, .int (10 ^ 12)] : List PyData)[v.toNat]? = some (.int m) ∧ 1 ≤ m := by
  have : v = 0 ∨ v = 1 ∨ v = 2 ∨ v = 3 ∨ v = 4 ∨ v = 5 := by lia
  rcases this with rfl | rfl | rfl | rfl | rfl | rfl
  · exact ⟨1, rfl, by decide⟩
  · exact ⟨2, rfl, by decide⟩
  · exact ⟨99999, rfl, by decide⟩
  · exact ⟨100000, rfl, by decide⟩
  · exact ⟨100001, rfl, by decide⟩
  · exact ⟨10 ^ 12, rfl, by decide⟩
theorem txt_at {v : Int} (h0 : 0 ≤ v) (h4 : v < 4) : ∃ ks : List Nat, ([.str (PySem.Str.ofString ""), .str (PySem.Str.ofString "a"), .str (PySem.Str.ofString "bc"), .str (PySem.Str.ofString "")] : List PyData)[v.toNat]? = some (.str (tx ks)) ∧ (ks = [] ∨ ks = [97] ∨ ks = [98, 99]) := by
  have e0 : PySem.Str.ofString "" = tx [] := by decide +kernel
  have e1 : PySem.Str.ofString "a" = tx [97] := by decide +kernel
  have e2 : PySem.Str.ofString "bc" = tx [98, 99] := by decide +kernel
  rw [e0, e1, e2]
  have : v = 0 ∨ v = 1 ∨ v = 2 ∨ v = 3 := by lia
  rcases this with rfl | rfl | rfl | rfl
  · exact ⟨[], rfl, .inl rfl⟩
  · exact ⟨[97], rfl, .inr (.inl rfl)⟩
  · exact ⟨[98, 99], rfl, .inr (.inr rfl)⟩
  · exact ⟨[], rfl, .inl rfl⟩
/-- the law's own row keeps step with the writer -/
noncomputable def Rel (items : List It) (rows : List Str) (cs : List Nat) (a : Nat) : Bool → Prop
  | false => ∀ rest, runW (items ++ rest) [] [] 0 = runW rest rows cs a
  | true => ∀ rest, runW (items ++ rest) [] [] 0 = none
theorem Rel.push {items : List It} {rows rows' : List Str} {cs cs' : List Nat} {a a' : Nat} {bad : Bool} {it : It} (h : Rel items rows cs a bad) (e : bad = false → ∀ rest, runW (it :: rest) rows cs a = runW rest rows' cs' a') : Rel (items ++ [it]) rows' cs' a' bad := by
  cases bad with
  | false => exact fun rest => by rw [List.append_assoc]; exact (h _).trans (e rfl rest)
  | true => exact fun rest => by rw [List.append_assoc]; exact h _
theorem Rel.bad {items : List It} {rows rows' : List Str} {cs cs' : List Nat} {a a' : Nat} {bad : Bool} {it : It} (h : Rel items rows cs a bad) (e : bad = false → ∀ rest, runW (it :: rest) rows cs a = none) : Rel (items ++ [it]) rows' cs' a' true := by
  cases bad with
  | false => exact fun rest => by rw [List.append_assoc]; exact (h _).trans (e rfl rest)
  | true => exact fun rest => by rw [List.append_assoc]; exact h _
theorem ptDs_map : ∀ {l : List Pt}, ptDs l = l.map ptD
  | [] => rfl
  | p :: l => by simp only [ptDs, List.map_cons]; rw [ptDs_map]
noncomputable def itD' (it : It) : PyData := ptD (itP it)
theorem its_snoc {items : List It} {it : It} : (items.map itD').map AV.data ++ [.data (itD' it)] = ((items ++ [it]).map itD').map AV.data := by rw [List.map_append, List.map_append]; rfl
theorem its_snocX {items : List It} {w : Str} {m : Nat} : (items.map itD').map AV.data ++ [.data (.tuple [.str w, .int m])] = ((items ++ [It.mv w m]).map itD').map AV.data := by
  rw [← its_snoc]; simp only [itD', itP, ptD]
theorem its_snocS {items : List It} : (items.map itD').map AV.data ++ [.data (.tuple [.str (PySem.Str.ofString "/")])] = ((items ++ [It.sl]).map itD').map AV.data := by
  rw [← its_snoc]; simp only [itD', itP, ptD]
theorem its_snocH {items : List It} {ks : List Nat} : (items.map itD').map AV.data ++ [.data (.tuple [.str (PySem.Str.ofString "H"), .str (tx ks)])] = ((items ++ [It.put ks]).map itD').map AV.data := by
  rw [← its_snoc]; simp only [itD', itP, ptD]
theorem its_pt {items : List It} : items.map itD' = ptDs (items.map itP) := by rw [ptDs_map, List.map_map]; rfl
theorem tx_ok {cs : List Nat} (h : cs.all (· < 128) = true) : PyData.strOk (tx cs) = true := by
  unfold PyData.strOk tx
  rw [List.all_toArray]
  rw [List.all_eq_true] at h ⊢
  intro x hx
  have := h x hx
  simp only [decide_eq_true_eq] at this ⊢
  lia
theorem movX {a m : Nat} : movesTo (PySem.Str.ofString "X") a m = a + m := by unfold movesTo; rw [if_neg (by decide +kernel), if_neg (by decide +kernel)]
theorem movT {a m : Nat} : movesTo (PySem.Str.ofString "T") a m = m - 1 := by unfold movesTo; rw [if_pos (by decide +kernel)]
theorem movTL {a m : Nat} : movesTo (PySem.Str.ofString "TL") a m = a - m := by unfold movesTo; rw [if_neg (by decide +kernel), if_pos (by decide +kernel)]
theorem okSl : okIt .sl := trivial
theorem WS.mono {b : List Stmt} {Q Q' : QS} {X : XT} (H : WS B c b ρ σ Q X) (h : ∀ af ρ' σ', Q af ρ' σ' → Q' af ρ' σ') : WS B c b ρ σ Q' X := fun s S =>
  wpAny_mono (H s S) (fun _ _ ⟨af, ρ', σ', S', E', fr, q⟩ => ⟨af, ρ', σ', S', E', fr, h _ _ _ q⟩) fun _ _ q => q
noncomputable abbrev jQ (I : Loc → AH → Prop) : QS := fun af ρ₂ σ₂ => af = .next ∧ I ρ₂ σ₂
noncomputable abbrev ifJ (B : Bs) (c : Cx) (b o : List Stmt) (ρ : Loc) (I : Loc → AH → Prop) (X : XT) : Bool → AH → Prop := fun y σ₁ => if y = true then WS B c b ρ σ₁ (jQ I) X else WS B c o ρ σ₁ (jQ I) X
theorem WS_ifJ {I : Loc → AH → Prop} {t : Expr} {b o rest : List Stmt} {pos : Pos} {Q : QS} {X : XT} (h : WT B c t ρ σ (ifJ B c b o ρ I X) X)
    (k : ∀ ρ₂ σ₂, I ρ₂ σ₂ → WS B c rest ρ₂ σ₂ Q X) : WS B c (.If t b o pos :: rest) ρ σ Q X := by
  refine WS_if (WG.mono h (fun y σ₁ hy => ?_) fun _ _ _ q => q)
  replace hy : ite _ _ _ := hy
  show ite _ _ _
  split at hy
  · rename_i hb
    rw [if_pos hb]
    exact WS.mono hy fun af ρ' σ' ⟨e, i⟩ => by subst e; exact k _ _ i
  · rename_i hb
    rw [if_neg hb]
    exact WS.mono hy fun af ρ' σ' ⟨e, i⟩ => by subst e; exact k _ _ i
theorem okMv {w : Str} {n : Nat} (h : w ∈ movW) (h1 : 1 ≤ n) : okIt (.mv w n) := ⟨h, h1⟩
theorem okPut {ks : List Nat} (h : ks.all (· < 128) = true) (h1 : ks.length ≤ 100) : okIt (.put ks) := ⟨h, h1⟩
theorem okAll {items : List It} {it : It} (h : ∀ x ∈ items, okIt x) (h' : okIt it) : ∀ x ∈ items ++ [it], okIt x := fun x hx => by
  rcases List.mem_append.mp hx with hx | hx
  · exact h x hx
  · obtain rfl := List.mem_singleton.mp hx; exact h'
inductive linesJ (L' u r P : Addr) (ns : List Int) (k : Int) (l : List (Addr × AO)) (ds : List PyData) (ρ : Loc) : Prop
  | mk (items : List It) (rows : List Str) (cs : List Nat) (a : Nat) (bad : Bool) (kk : Int) (b1 b2 b3 b4 : Option AV) (h0 : l = [(r, .list ((items.map itD').map .data)), (L' + 1, .cell (some (.ref r))), (u, urnL ns kk), (P, .tabl lamAl)]) (h1 : Rel items rows cs a bad) (h2 : (∀ it ∈ items, okIt it)) (h3 : 0 ≤ kk) (h4 : k ≤ kk) (h5 : kk + 4 * ds.length ≤ k + 25) (h6 : items.length + ds.length ≤ 6) (h7 : rows.length ≤ items.length) (h8 : (∀ s ∈ rows, PyData.strOk s = true)) (h9 : cs.length ≤ 30) (h10 : cs.all (· < 128) = true) (h11 : ρ = [(PySem.Str.ofString "urn", some (.ref u)), (PySem.Str.ofString "rows", some (.data (.list (rows.map .str)))), (PySem.Str.ofString "row", some (.data (.str (tx cs)))), (PySem.Str.ofString "at", some (.data (.int a))), (PySem.Str.ofString "is_bad", some (.data (.bool bad))), (PySem.Str.ofString "_", b1), (PySem.Str.ofString "way", b2), (PySem.Str.ofString "size", b3), (PySem.Str.ofString "text", b4), (PySem.Str.ofString "heard", none)]) : linesJ L' u r P ns k l ds ρ
theorem lawLines (L : BL B) {n : Nat} (R : Rm c (n + 14)) {u P : Addr} {ns : List Int} {k : Int} (H : Hs σ σ [(u, urnL ns k), (P, .tabl lamAl)]) (h0 : 0 ≤ k) (hk : k < 2 ^ 20) (hn : ns.length ≤ 100) (hC : CodeHd B.H0 345 P)
    {Q : AV → AH → Prop} {X : XT} (q : ∀ σ' k', k ≤ k' → k' ≤ k + 40 → Hs σ σ' [(u, urnL ns k'), (P, .tabl lamAl)] → Q (.data (.bool true)) σ') : WFC B c (.val (.ref 346)) [.ref u] ρ σ Q X := by
  refine in346 L (body := ?b) ?hb R.dep ?hW
  case hb => with_unfolding_all rfl
  intro L' F
  have R' := R.child (e := callEnvC (fdOf B.w.params 346) L' 346)
  have hF : (c.child (callEnvC (fdOf B.w.params 346) L' 346)).Fun := Cx.childFun rfl rfl
  have bc := F (L' + 1) (Nat.le_succ _)
  obtain ⟨H, _⟩ := H.cellN (v := none) (free1 F)
  revert H
  generalize upd σ (L' + 1) (AO.cell none) = σ₁
  intro H
  clear F
  refine WS_assignTuple R'.hh ?_ (by kernel_rfl) (by kernel_rfl) (by kernel_rfl)
  walk_at "w"
  with_reducible refine W_ListT ?_
  walk_at "w"
  refine ⟨by show 0 ≤ _; lia, fun r hr => ?_⟩
  have hr0 := H.base hr
  have H := H.new (o := .list []) hr
  walk_at "w"
  with_reducible refine W_List ?_
  walk_at "r"
  refine ⟨rfl, by show 4 ≤ _; unfold sizeLine; lia, ?_⟩
  refine WUL_cons ?_
  refine WU_cell (k := L' + 1) (o := none) (by kernel_rfl) (by walk_at "sig") ?_ (by kernel_rfl)
  refine Hs.goUL H .n1 rfl fun σ₁ H => ?_
  refine WUL_cons ?_
  refine WU_name .n1 ?_
  refine WUL_cons ?_
  refine WU_name .n2 ?_
  refine WUL_cons ?_
  refine WU_name .n3 ?_
  refine WUL_nil ?_
  walk_at "r"
  with_reducible refine WS_forH (σb := σ) (J := linesJ L' u r P ns k) hF R'.hh ?iter ?step ?fin (by intro x; kernel_rfl)
  case iter =>
    walk_at "r"
    refine tellH L H (by walk_at "at") (by walk_at "at") h0 (by lia) hn (by lia) R'.dep fun v σ₂ hv0 hv7 H => ?_
    obtain ⟨m, rfl⟩ := Int.eq_ofNat_of_zero_le hv0
    walk_at "r"
    refine WF_range fun a t₁ t₂ t₃ ha => ?_
    refine ⟨_, _, Itb.range (upd_same _ _ _) (by lia), H.skip ha, [], [], [], 0, false, k + 1, none, none, none, none, rfl, fun rest => rfl, fun _ h => (by cases h), by lia, by lia, ?_, ?_, Nat.le_refl _, fun _ h => (by cases h), by decide, rfl, rfl⟩
    · simp only [List.length_map, List.length_range]; lia
    · simp only [List.length_map, List.length_range, List.length_nil]; lia
  case step =>
    rintro d ds ρ₁ σ₂ l H ⟨items, rows, cs, a, bad, kk, b1, b2, b3, b4, rfl, hrel, hit, hk0, hk1, hkk, hlen, hrows, hrs, hcs, hca, rfl⟩
    simp only [List.length_cons] at hkk hlen
    have H := H.self
    refine WU_name .n5 ⟨rfl, ?_⟩
    walk_at "r"
    refine tellH L H (by walk_at "at") (by walk_at "at") hk0 (by lia) hn (by lia) R'.dep fun way σ₃ hw0 hw6 H => ?_
    walk_at "r"
    refine WF_of (lawFar L (n := n) (R'.less (by lia)) ?_)
    walk_at "r"
    refine tellH L H (by walk_at "at") (by walk_at "at") (by lia) (by lia) hn (by lia) R'.dep fun v σ₄ hv0 hv6 H => ?_
    obtain ⟨m, hm, hm1⟩ := far_at hv0 hv6
    refine WI_tuple hv0 (by lia) hm ?_
    walk_at "r"
    refine tellH L H (by walk_at "at") (by walk_at "at") (by lia) (by lia) hn (by lia) R'.dep fun v2 σ₅ hv20 hv24 H => ?_
    obtain ⟨ks, hks, hks3⟩ := txt_at hv20 hv24
    refine WI_tuple hv20 (by lia) hks ?_
    walk_at "r"
    refine ifD (fun hway => ?_) fun hway => ?_
    · walk_at "r"
      with_reducible refine W_cell (k := L' + 1) (by kernel_rfl) (by walk_at "sig") ?_ (.inl (by kernel_rfl))
      walk_at "r"
      refine WF_append (by walk_at "sig") (by simp only [List.length_map]; unfold sizeLine; lia) ?_
      rw [its_snocX]
      walk_at "r"
      rename_i σ₆ H
      refine WS_augName .n3 ?_
      walk_at "r"
      exact ⟨_, H, rfl, items ++ [.mv (PySem.Str.ofString "X") m], rows, cs, a + m, bad, kk + 1 + 1 + 1, _, _, _, _, rfl, hrel.push (fun _ rest => by simp only [runW]; rw [movX]), okAll hit (okMv (by unfold movW; simp) hm1), by lia, by lia, by lia,
        by rw [List.length_append]; show _ + 1 + _ ≤ _; lia, by rw [List.length_append]; lia, hrs, hcs, hca, rfl⟩
    · walk_at "r"
      refine ifD (fun hway2 => ?_) fun hway2 => ?_
      · walk_at "r"
        with_reducible refine W_cell (k := L' + 1) (by kernel_rfl) (by walk_at "sig") ?_ (.inl (by kernel_rfl))
        walk_at "r"
        refine tellH L H (by walk_at "at") (by walk_at "at") (by lia) (by lia) hn (by lia) R'.dep fun v3 σ₆ hv30 hv32 H => ?_
        have : v3 = 0 ∨ v3 = 1 := by lia
        rcases this with rfl | rfl
        · refine WI_tuple (by decide) (by decide) rfl ?_
          walk_at "r"
          refine WF_append (by walk_at "sig") (by simp only [List.length_map]; unfold sizeLine; lia) ?_
          walk_at "r"
          rename_i σ₇ H
          with_reducible refine W_cell (k := L' + 1) (by kernel_rfl) (by walk_at "sig") ?_ (.inl (by kernel_rfl))
          walk_at "r"
          with_reducible refine W_neg (i := 1) ?_
          walk_at "r"
          refine ⟨rfl, ?_⟩
          refine WI_listT_last (H.get .n0) (by simp only [List.length_map]; lia) ?_
          walk_at "r"
          refine WI_tuple (by decide) (by decide) rfl ?_
          walk_at "r"
          refine ifI (by decide +kernel) ?_
          walk_at "r"
          rw [show ((m : Int) - 1) = ((m - 1 : Nat) : Int) by lia]
          walk_at "r"
          rw [its_snocX] at H
          exact ⟨_, H, rfl, items ++ [.mv (PySem.Str.ofString "T") m], rows, cs, m - 1, bad, kk + 1 + 1 + 1 + 1, _, _, _, _, rfl, hrel.push (fun _ rest => by simp only [runW]; rw [movT]), okAll hit (okMv (by unfold movW; simp) hm1), by lia, by lia, by lia,
            by rw [List.length_append]; show _ + 1 + _ ≤ _; lia, by rw [List.length_append]; lia, hrs, hcs, hca, rfl⟩
        · refine WI_tuple (by decide) (by decide) rfl ?_
          walk_at "r"
          refine WF_append (by walk_at "sig") (by simp only [List.length_map]; unfold sizeLine; lia) ?_
          walk_at "r"
          rename_i σ₇ H
          with_reducible refine W_cell (k := L' + 1) (by kernel_rfl) (by walk_at "sig") ?_ (.inl (by kernel_rfl))
          walk_at "r"
          with_reducible refine W_neg (i := 1) ?_
          walk_at "r"
          refine ⟨rfl, ?_⟩
          refine WI_listT_last (H.get .n0) (by simp only [List.length_map]; lia) ?_
          walk_at "r"
          refine WI_tuple (by decide) (by decide) rfl ?_
          walk_at "r"
          refine ifE (by decide +kernel) ?_
          walk_at "r"
          refine WF_max R'.hh ?_
          rw [show (if (a : Int) - (m : Int) > 0 then (a : Int) - (m : Int) else 0) = ((a - m : Nat) : Int) by split <;> lia]
          walk_at "r"
          rw [its_snocX] at H
          exact ⟨_, H, rfl, items ++ [.mv (PySem.Str.ofString "TL") m], rows, cs, a - m, bad, kk + 1 + 1 + 1 + 1, _, _, _, _, rfl, hrel.push (fun _ rest => by simp only [runW]; rw [movTL]), okAll hit (okMv (by unfold movW; simp) hm1), by lia, by lia, by lia,
            by rw [List.length_append]; show _ + 1 + _ ≤ _; lia, by rw [List.length_append]; lia, hrs, hcs, hca, rfl⟩
      · walk_at "r"
        refine ifD (fun hway3 => ?_) fun hway3 => ?_
        · walk_at "r"
          with_reducible refine W_cell (k := L' + 1) (by kernel_rfl) (by walk_at "sig") ?_ (.inl (by kernel_rfl))
          walk_at "r"
          refine WF_append (by walk_at "sig") (by simp only [List.length_map]; unfold sizeLine; lia) ?_
          rw [its_snocS]
          walk_at "r"
          rename_i σ₆ H
          with_reducible refine WS_assignSwap (names := [PySem.Str.ofString "rows", PySem.Str.ofString "row", PySem.Str.ofString "at"]) (by kernel_rfl) R'.hh ?_ (by kernel_rfl)
          walk_at "r"
          with_reducible refine W_List ?_
          walk_at "r"
          refine W2_addL (by simp only [List.length_map, List.length_singleton]; unfold sizeLine; lia) ?_
          walk_at "r"
          refine ⟨rfl, by show 3 ≤ _; unfold sizeLine; lia, ?_⟩
          refine WUL_cons (WU_bind .n3 ?_)
          refine WUL_cons (WU_bind .n2 ?_)
          refine WUL_cons (WU_bind .n1 ?_)
          refine WUL_nil ?_
          walk_at "r"
          have e1 : rows.map PyData.str ++ [PyData.str (tx cs)] = (rows ++ [tx cs]).map PyData.str := by rw [List.map_append]; rfl
          have e2 : PySem.Str.ofString "" = tx [] := by decide +kernel
          rw [e1, e2]
          exact ⟨_, H, rfl, items ++ [.sl], rows ++ [tx cs], [], 0, bad, kk + 1 + 1 + 1, _, _, _, _, rfl, hrel.push (fun _ rest => rfl), okAll hit okSl, by lia, by lia, by lia,
            by rw [List.length_append]; show _ + 1 + _ ≤ _; lia, by rw [List.length_append, List.length_append]; show _ + 1 ≤ _ + 1; lia, fun s hs => (by
              rcases List.mem_append.mp hs with hs | hs
              · exact hrs s hs
              · obtain rfl := List.mem_singleton.mp hs
                exact tx_ok hca), by decide, rfl, rfl⟩
        · have hk4 : ks.length ≤ 2 ∧ ks.all (· < 128) = true := by rcases hks3 with rfl | rfl | rfl <;> exact ⟨by decide, by decide⟩
          with_reducible refine WS_ifJ (I := fun ρ₂ σ₂ => ∃ ks' : List Nat, σ₅ = σ₂ ∧ ks' = (if 20 < a ∧ a + ks.length ≤ 100000 then [] else ks) ∧ ρ₂ = [(PySem.Str.ofString "urn", some (.ref u)), (PySem.Str.ofString "rows", some (.data (.list (rows.map .str)))), (PySem.Str.ofString "row", some (.data (.str (tx cs)))), (PySem.Str.ofString "at", some (.data (.int a))), (PySem.Str.ofString "is_bad", some (.data (.bool bad))),
            (PySem.Str.ofString "_", some (.data d)), (PySem.Str.ofString "way", some (.data (.int way))), (PySem.Str.ofString "size", some (.data (.int m))), (PySem.Str.ofString "text", some (.data (.str (tx ks')))), (PySem.Str.ofString "heard", none)]) ?tst ?more
          case tst =>
            walk_at "r"
            refine ifD (fun h => ?_) fun h => ?_
            · walk_at "r"
              refine WF_len_str (by rw [tx_len]; unfold sizeLine; lia) ?_
              rw [tx_len]
              walk_at "r"
              refine ifD (fun h2 => ?_) fun h2 => ?_
              · walk_at "r"
                exact ⟨rfl, [], rfl, by rw [if_pos ⟨by lia, by lia⟩], by rw [show PySem.Str.ofString "" = tx [] by decide +kernel]⟩
              · walk_at "r"
                exact ⟨rfl, ks, rfl, by rw [if_neg (by lia)], rfl⟩
            · walk_at "r"
              exact ⟨rfl, ks, rfl, by rw [if_neg (by lia)], rfl⟩
          case more =>
          rintro ρ₂ σ' ⟨ks', rfl, hks', rfl⟩
          have hk5 : ks'.length ≤ 2 ∧ ks'.all (· < 128) = true := by
            subst hks'; split
            · exact ⟨by decide, rfl⟩
            · exact hk4
          have hk6 : ks' ≠ [] → ¬ 100000 < a + ks'.length → a ≤ 20 := by
            intro h1 h2
            subst hks'
            split at h1
            · exact absurd rfl h1
            · rename_i h3
              rw [if_neg h3] at h2
              lia
          clear hks'
          have hkS := tx_ok hk5.2
          walk_at "r"
          with_reducible refine W_cell (k := L' + 1) (by kernel_rfl) (by walk_at "sig") ?_ (.inl (by kernel_rfl))
          walk_at "r"
          refine WF_append (by walk_at "sig") (by simp only [List.length_map]; unfold sizeLine; lia) ?_
          rw [its_snocH]
          walk_at "w"
          rename_i σ₆ H
          with_reducible refine WS_assign ?_ (by kernel_rfl)
          refine WG.mono (Q := fun y σ' => y = .data (.bool (bad || decide (100000 < a + ks'.length))) ∧ σ₆ = σ') ?or ?go fun _ _ _ q => q
          case or =>
            walk_at "r"
            cases bad with
            | true => refine ifT ?_; exact ⟨rfl, rfl⟩
            | false =>
            refine ifF ?_
            walk_at "r"
            refine WF_len_str (by rw [tx_len]; unfold sizeLine; lia) ?_
            rw [tx_len]
            walk_at "r"
            refine ⟨?_, rfl⟩
            rw [Bool.false_or]
            rw [show decide ((100000 : Int) < (a : Int) + (ks'.length : Int)) = decide (100000 < a + ks'.length) from decide_eq_decide.mpr (by lia)]
          case go =>
          rintro y σ' ⟨rfl, rfl⟩
          have e0 : PySem.Str.ofString "" = tx [] := by decide +kernel
          walk_at "r"
          have rel2 : 100000 < a + ks'.length ∨ bad = true → ∀ rows' cs' a', Rel (items ++ [.put ks']) rows' cs' a' (bad || decide (100000 < a + ks'.length)) := fun h rows' cs' a' => by
            have e : (bad || decide (100000 < a + ks'.length)) = true := by rcases h with h | h <;> simp [h]
            rw [e]
            rcases h with h | h
            · exact hrel.bad fun _ rest => by simp only [runW]; rw [if_pos h]
            · subst h; exact hrel.bad fun h => by cases h
          have rel1 : ¬ 100000 < a + ks'.length → Rel (items ++ [.put ks']) rows (putS cs a ks') (a + ks'.length) (bad || decide (100000 < a + ks'.length)) := fun h => by
            rw [decide_eq_false h, Bool.or_false]
            exact hrel.push fun _ rest => by simp only [runW]; rw [if_neg h]
          have done : ∀ (cs' : List Nat) (a' : Nat) (σ₇ : AH) (l0 : List (Addr × AO)), l0.map (·.1) = [r, L' + 1, u, P] → Hs σ₂ σ₇ [(r, AO.list (List.map AV.data (List.map itD' (items ++ [It.put ks'])))), (L' + 1, AO.cell (some (AV.ref r))), (u, urnL ns (kk + 1 + 1 + 1)), (P, AO.tabl lamAl)] →
              Rel (items ++ [.put ks']) rows cs' a' (bad || decide (100000 < a + ks'.length)) → cs'.length ≤ 30 → cs'.all (· < 128) = true → stayH σ₂ l0 (linesJ L' u r P ns k) ds [(PySem.Str.ofString "urn", some (.ref u)), (PySem.Str.ofString "rows", some (.data (.list (rows.map .str)))), (PySem.Str.ofString "row", some (.data (.str (tx cs')))), (PySem.Str.ofString "at", some (.data (.int a'))), (PySem.Str.ofString "is_bad", some (.data (.bool (bad || decide (100000 < a + ks'.length))))),
            (PySem.Str.ofString "_", some (.data d)), (PySem.Str.ofString "way", some (.data (.int way))), (PySem.Str.ofString "size", some (.data (.int m))), (PySem.Str.ofString "text", some (.data (.str (tx ks')))), (PySem.Str.ofString "heard", none)] σ₇ := fun cs' a' σ₇ l0 e H hr hl ha =>
            ⟨_, H, e.symm, items ++ [.put ks'], rows, cs', a', _, kk + 1 + 1 + 1, _, _, _, _, rfl, hr, okAll hit (okPut hk5.2 (by lia)), by lia, by lia, by lia, by rw [List.length_append]; show _ + 1 + _ ≤ _; lia, by rw [List.length_append]; lia, hrs, hl, ha, rfl⟩
          cases hb : (bad || decide (100000 < a + ks'.length)) with
          | true =>
            rw [hb] at rel2 rel1 done
            have hb' : 100000 < a + ks'.length ∨ bad = true := by
              cases bad with
              | true => exact .inr rfl
              | false => exact .inl (by simpa using hb)
            refine ifB (fun _ => ?_) fun _ => ?_
            · walk_at "r"
              refine ifF ?_
              walk_at "r"
              exact done _ _ _ _ rfl H (rel2 hb' _ _ _) hcs hca
            · walk_at "r"
              exact done _ _ _ _ rfl H (rel2 hb' _ _ _) hcs hca
          | false =>
            rw [hb] at rel1 done
            have hb' : ¬ 100000 < a + ks'.length := by
              intro h; rw [decide_eq_true h, Bool.or_true] at hb; cases hb
            refine ifB (fun hne => ?_) fun hne => ?_
            · have hks : ks' ≠ [] := by
                rintro rfl
                rw [e0] at hne
                revert hne; decide +kernel
              have ha20 := hk6 hks hb'
              walk_at "r"
              refine ifT ?_
              walk_at "r"
              refine WF_len_str (by rw [tx_len]; unfold sizeLine; lia) ?_
              rw [tx_len]
              walk_at "r"
              refine W2_mulS (by lia) (by lia) (by decide +kernel) ?_
              rw [rep_sp]
              have hpl : (pad cs a).length ≤ 30 := by rw [pad_len]; lia
              refine W2_addS (by rw [tx_len, tx_len, List.length_replicate]; unfold sizeLine; lia) ?_
              rw [tx_app, show cs ++ List.replicate (a - cs.length) 32 = pad cs a from rfl]
              walk_at "r"
              with_reducible refine W_sliceT ?_
              walk_at "r"
              refine WP_none (WP_some ?_)
              walk_at "r"
              refine ⟨_, rfl, _, rfl, by rw [tx_len]; unfold sizeLine; lia, ?_⟩
              rw [slice_to (show a ≤ (pad cs a).length by rw [pad_len]; lia)]
              walk_at "r"
              refine W2_addS (by rw [tx_len, tx_len, List.length_take]; unfold sizeLine; lia) ?_
              rw [tx_app]
              with_reducible refine W_sliceT ?_
              walk_at "r"
              refine WP_some ?_
              walk_at "r"
              refine WF_len_str (by rw [tx_len]; unfold sizeLine; lia) ?_
              rw [tx_len]
              walk_at "r"
              refine ⟨_, rfl, WP_none ⟨_, rfl, by rw [tx_len]; unfold sizeLine; lia, ?_⟩⟩
              rw [← Int.natCast_add, slice_from]
              refine W2_addS (by rw [tx_len, tx_len, List.length_append, List.length_take, List.length_drop]; unfold sizeLine; lia) ?_
              rw [tx_app, ← putS_row ks' cs a hks]
              walk_at "r"
              refine WS_augName .n3 ?_
              walk_at "r"
              refine WF_len_str (by rw [tx_len]; unfold sizeLine; lia) ?_
              rw [tx_len]
              walk_at "r"
              refine done _ (a + ks'.length) _ _ rfl H (rel1 hb') (Nat.le_trans putS_len (by lia)) ?_
              rw [putS_row ks' cs a hks]
              rw [List.all_eq_true] at hca ⊢
              have hpa : ∀ x ∈ pad cs a, decide (x < 128) = true := fun x hx => by
                unfold pad at hx
                rcases List.mem_append.mp hx with hx | hx
                · exact hca x hx
                · rw [(List.mem_replicate.mp hx).2]; rfl
              intro x hx
              rcases List.mem_append.mp hx with hx | hx
              · rcases List.mem_append.mp hx with hx | hx
                · exact hpa x (List.mem_of_mem_take hx)
                · exact List.all_eq_true.mp hk5.2 x hx
              · exact hpa x (List.mem_of_mem_drop hx)
            · have hks : ks' = [] := by
                cases ks' with
                | nil => rfl
                | cons k ks =>
                  exfalso
                  rw [e0] at hne
                  have : (tx (k :: ks) == tx []) = false := by
                    rw [beq_eq_false_iff_ne]
                    intro e
                    have := congrArg (fun s : Str => s.cps.size) e
                    simp [tx] at this
                  rw [this] at hne; cases hne
              subst hks
              walk_at "r"
              exact done _ _ _ _ rfl H (rel1 hb') hcs hca
  case fin =>
    rintro ρ₁ σ₂ l H ⟨items, rows, cs, a, bad, kk, b1, b2, b3, b4, rfl, hrel, hit, hk0, hk1, hkk, hlen, hrows, hrs, hcs, hca, rfl⟩
    refine WS_dropC (H.get .n0) (H.get .n1) ?_
    have H := H.del .n0 hr0
    refine Hs.goS H .n0 rfl fun σ₃ H => ?_
    have hrun : runW items [] [] 0 = if bad = true then none else some (rows ++ [tx cs]) := by
      cases bad with
      | true => have := hrel []; rw [List.append_nil] at this; rw [this]; rfl
      | false => have := hrel []; rw [List.append_nil] at this; rw [this]; rfl
    have rS : Sh 2 (.list ((rows ++ [tx cs]).map .str)) := (Sh.list (k := 0) fun d hd => by
      obtain ⟨s, hs, rfl⟩ := List.mem_map.mp hd
      rcases List.mem_append.mp hs with hs | hs
      · exact .str (hrs s hs)
      · obtain rfl := List.mem_singleton.mp hs
        exact .str (tx_ok hca)).mono (by decide)
    with_reducible refine WS_assign ?_ (by kernel_rfl)
    refine WG.mono (Q := fun y σ' => Hs σ σ' [(L' + 1, .cell (some (.data (.list (items.map itD'))))), (u, urnL ns kk), (P, .tabl lamAl)] ∧ y = .data (if bad = true then .tuple [.none, .int (-1)] else .tuple [.list ((rows ++ [tx cs]).map .str), .none])) ?call ?more fun _ _ _ q => q
    case call =>
      walk_at "q"
      with_reducible refine W_LamL (k := 345) (P := P) (al := lamAl) (clos := [(PySem.Str.ofString "tree", L' + 1)]) (by kernel_rfl) hC (by walk_at "sig") (by kernel_rfl) (by kernel_rfl) (by kernel_rfl) (by kernel_rfl) fun pm co ctv => ?_
      walk_at "q"
      with_reducible refine WF_of (fell L (n := n + 12) R' fun c' ρ' Rc => ?_)
      with_reducible refine WFC_clo (by kernel_rfl) Rc.dep (fun L2 f2 F2 => ?_) (noCell (by kernel_rfl)) (by kernel_rfl) (by kernel_rfl) (by kernel_rfl)
      refine WE_drop ?_
      walk_at "q"
      with_reducible refine W_cell (k := L' + 1) (by kernel_rfl) (by walk_at "sig") ?_ (.inr (by kernel_rfl))
      rw [its_pt] at H ⊢
      walk_at "q"
      refine makeWriter L (n := n) (items := items) (Rc.child.less (by lia)) hit (by lia) fun σ₄ wr dw ct dc cn md dm ln dl sg rc hfr H' => ?_
      refine ⟨_, _, WM_inst (H'.get .n0) (mtIn L (p := (244, PySem.Str.ofString "finish", 241)) (by kernel_rfl)) (notIn (by kernel_rfl)), callK L (by kernel_rfl), ?_⟩
      walk_at "q"
      have hruns : Runs (flatPs (items.map itP) 0) 0 [] (items.map itM) := by
        rw [← marks_its]
        exact runs_all (d := 0) fun p hp => by obtain ⟨it, h, rfl⟩ := List.mem_map.mp hp; exact (hit it h).p
      refine WF_of (finishW L (n := n) (items := items) (Rc.child.less (by lia)) H' hfr hit hruns (by rw [List.length_map, List.length_nil]; lia) (by rw [flat_its]; lia) (by lia) (by unfold big; decide) (by rw [List.length_nil]; lia) (fun hbd e σ' G M => ?_) fun out hout σ' H'' => ?_)
      · refine ⟨rfl, .inl ⟨-1, M, ?_⟩⟩
        have hb : bad = true := by
          cases bad with
          | true => rfl
          | false => rw [hrun] at hbd; cases hbd
        subst hb
        exact ⟨H.grew G, rfl⟩
      · refine ⟨rc, out.map .str, rfl, H''.get .n0, _, rfl, ?_⟩
        have G := (H''.del .n0 (hfr rc (by simp))).grown
        cases bad with
        | true => rw [hrun] at hout; cases hout
        | false =>
          rw [hrun] at hout
          cases hout
          exact ⟨H.grew G, rfl⟩
    case more =>
    rintro y σ' ⟨H, rfl⟩
    walk_at "r"
    have hcut := H.cut (a := L' + 1) (by walk_at "at") bc
    cases bad with
    | true =>
      refine ifT ?_
      walk_at "r"
      with_reducible refine W_neg (i := 1) ?_
      walk_at "r"
      refine ⟨rfl, ?_⟩
      walk_at "r"
      refine W2_eq ((Sh.pair (k := 0) .none .int).shaped (by decide)) ((Sh.pair (k := 0) .none .int).shaped (by decide)) R'.u64 ?_
      rw [if_pos rfl, (Sh.pair (k := 0) .none (.int (i := -1))).self]
      exact q _ kk (by lia) (by lia) hcut
    | false =>
      refine ifF ?_
      walk_at "r"
      with_reducible refine W_List ?_
      walk_at "r"
      refine W2_addL (by simp only [List.length_map, List.length_singleton]; unfold sizeLine; lia) ?_
      rw [show rows.map PyData.str ++ [PyData.str (tx cs)] = (rows ++ [tx cs]).map PyData.str by rw [List.map_append]; rfl]
      walk_at "r"
      rw [if_neg (by decide)]
      refine W2_eq ((Sh.pair rS .none).shaped (by decide)) ((Sh.pair rS .none).shaped (by decide)) R'.u64 ?_
      rw [(Sh.pair rS .none).self]
      exact q _ kk (by lia) (by lia) hcut
end
/-! P24 -/
section
variable {B : Bs} {c : Cx} {ρ : Loc} {σ : AH} {s : Shared}
/-! _law_bare_line -/
theorem far_at2 {v : Int} (h0 : 0 ≤ v) (h4 : v < 4) : ∃ m : Nat, ([.int 1, .int 2, .int 99999, .int 100000, .int 100001, .int (10 ^ 12)] : List PyData)[(2 + v).toNat]? = some (.int m) ∧ 99999 ≤ m := by
  have : v = 0 ∨ v = 1 ∨ v = 2 ∨ v = 3 := by lia
  rcases this with rfl | rfl | rfl | rfl
  · exact ⟨99999, rfl, by decide⟩
  · exact ⟨100000, rfl, by decide⟩
  · exact ⟨100001, rfl, by decide⟩
  · exact ⟨10 ^ 12, rfl, by decide⟩
theorem txt_at2 {v : Int} (h0 : 0 ≤ v) (h2 : v < 2) : ∃ ks : List Nat, ([.str (PySem.Str.ofString ""), .str (PySem.Str.ofString "pq")] : List PyData)[v.toNat]? = some (.str (tx ks)) ∧ (ks = [] ∨ ks = [112, 113]) := by
  have e0 : PySem.Str.ofString "" = tx [] := by decide +kernel
  have e1 : PySem.Str.ofString "pq" = tx [112, 113] := by decide +kernel
  rw [e0, e1]
  have : v = 0 ∨ v = 1 := by lia
  rcases this with rfl | rfl
  · exact ⟨[], rfl, .inl rfl⟩
  · exact ⟨[112, 113], rfl, .inr rfl⟩
theorem lawBare (L : BL B) {n : Nat} (R : Rm c (n + 14)) {u P : Addr} {ns : List Int} {k : Int} (H : Hs σ σ [(u, urnL ns k), (P, .tabl lamAl)]) (h0 : 0 ≤ k) (hk : k < 2 ^ 20) (hn : ns.length ≤ 100) (hC : CodeHd B.H0 352 P)
    {Q : AV → AH → Prop} {X : XT} (q : ∀ σ' k', k ≤ k' → k' ≤ k + 40 → Hs σ σ' [(u, urnL ns k'), (P, .tabl lamAl)] → Q (.data (.bool true)) σ') : WFC B c (.val (.ref 353)) [.ref u] ρ σ Q X := by
  refine in353 L (body := ?b) ?hb R.dep ?hW
  case hb => with_unfolding_all rfl
  intro L' F
  have R' := R.child (e := callEnvC (fdOf B.w.params 353) L' 353)
  have hF : (c.child (callEnvC (fdOf B.w.params 353) L' 353)).Fun := Cx.childFun rfl rfl
  have bc1 := F (L' + 1) (Nat.le_succ _)
  have bc2 := F (L' + 1 + 1) (Nat.le_succ_of_le (Nat.le_succ _))
  obtain ⟨H, F⟩ := H.cellN (v := none) (free1 F)
  obtain ⟨H, F⟩ := H.cellN (v := none) F
  revert H
  generalize upd (upd σ (L' + 1) (AO.cell none)) (L' + 1 + 1) (AO.cell none) = σ₁
  intro H
  clear F
  with_reducible refine WS_assignTo ?_ (by kernel_rfl) (by kernel_rfl) (by kernel_rfl)
  walk_at "q"
  refine makeLine L (n := n) (R'.less (by lia)) fun σ₂ ln dl sg hl hs H' => ?_
  have b1 := H.base hl
  have b2 := H.base hs
  have H := H.join H' (by walk_at "mg")
  refine WU_cell (k := L' + 1) (o := none) (by kernel_rfl) (by walk_at "sig") ?_ (by kernel_rfl)
  walk_at "q"
  rename_i σ₃ H
  with_reducible refine W_cell (k := L' + 1) (by kernel_rfl) (by walk_at "sig") ?_ (.inl (by kernel_rfl))
  refine ⟨_, _, WM_inst (H.get (by walk_at "at")) (mtIn L (p := (202, PySem.Str.ofString "put", 192)) (by kernel_rfl)) (notIn (by kernel_rfl)), callK L (by kernel_rfl), ?_⟩
  walk_at "q"
  have e3 : PySem.Str.ofString "xyz" = tx [120, 121, 122] := by decide +kernel
  rw [e3]
  refine WF_of (putLine L (n := n) (x := ln) (dx := dl) (sg := sg) (a := 0) (cs := []) (ks := [120, 121, 122]) (R'.less (by lia)) (H.sel (by walk_at "sel")) (by decide) (by decide) (by unfold big; decide) (fun h => absurd h (by decide)) fun _ σ' H' => ?_)
  have H := H.join H' (by walk_at "mg")
  rw [show putS [] 0 [120, 121, 122] = [120, 121, 122] by decide] at H
  walk_at "q"
  refine WF_of (lawFar L (n := n) (R'.less (by lia)) ?_)
  walk_at "q"
  refine tellH L H (by walk_at "at") (by walk_at "at") h0 (by lia) hn (by lia) R'.dep fun v σ₄ hv0 hv4 H => ?_
  walk_at "q"
  obtain ⟨m, hm, hm1⟩ := far_at2 hv0 hv4
  refine WI_tuple (by lia) (by lia) hm ?_
  with_reducible refine W_cell (k := L' + 1) (by kernel_rfl) (by walk_at "sig") ?_ (.inl (by kernel_rfl))
  walk_at "q"
  rename_i σ₅ H
  with_reducible refine WS_assignTo ?_ (by kernel_rfl) (by kernel_rfl) (by kernel_rfl)
  walk_at "q"
  refine tellH L H (by walk_at "at") (by walk_at "at") (by lia) (by lia) hn (by lia) R'.dep fun v2 σ₆ hv20 hv22 H => ?_
  obtain ⟨ks, hks, hks2⟩ := txt_at2 hv20 hv22
  refine WI_tuple hv20 (by lia) hks ?_
  have hk5 : ks.length ≤ 2 ∧ ks.all (· < 128) = true ∧ (100000 < m + ks.length ∨ ks = []) := by
    rcases hks2 with rfl | rfl
    · exact ⟨by decide, rfl, .inr rfl⟩
    · exact ⟨by decide, rfl, .inl (by show 100000 < m + 2; lia)⟩
  refine WU_cell (k := L' + 1 + 1) (o := none) (by kernel_rfl) (by walk_at "sig") ?_ (by kernel_rfl)
  walk_at "q"
  rename_i σ₇ H
  with_reducible refine WS_assign ?_ (by kernel_rfl)
  walk_at "q"
  with_reducible refine W_cell (k := L' + 1) (by kernel_rfl) (by walk_at "sig") ?_ (.inl (by kernel_rfl))
  walk_at "q"
  with_reducible refine W_cell (k := L' + 1 + 1) (by kernel_rfl) (by walk_at "sig") ?_ (.inl (by kernel_rfl))
  walk_at "q"
  refine WF_len_str (by rw [tx_len]; unfold sizeLine; lia) ?_
  rw [tx_len]
  walk_at "q"
  rw [show decide ((100000 : Int) < (m : Int) + (ks.length : Int)) = decide (100000 < m + ks.length) from decide_eq_decide.mpr (by lia)]
  with_reducible refine WS_assign ?_ (by kernel_rfl)
  walk_at "q"
  with_reducible refine W_cell (k := L' + 1) (by kernel_rfl) (by walk_at "sig") ?_ (.inl (by kernel_rfl))
  walk_at "q"
  with_reducible refine WS_assign ?_ (by kernel_rfl)
  refine WG.mono (Q := fun y σ' => Hs σ σ' [(sg, AO.list (chs [120, 121, 122])), (ln, AO.inst 202 dl (lineA sg m)), (L' + 1 + 1, .cell (some (.data (.str (tx ks))))), (L' + 1, AO.cell (some (AV.ref ln))), (u, urnL ns (k + 1 + 1)), (P, AO.tabl lamAl)] ∧
    y = .data (.tuple [.none, if 100000 < m + ks.length then .int (-1) else .none])) ?call ?more fun _ _ _ q => q
  case call =>
    walk_at "q"
    with_reducible refine W_LamL (k := 352) (P := P) (al := lamAl) (clos := [(PySem.Str.ofString "text", L' + 1 + 1), (PySem.Str.ofString "line", L' + 1)]) (by kernel_rfl) hC (by walk_at "sig") (by kernel_rfl) (by kernel_rfl) (by kernel_rfl) (by kernel_rfl) fun pm co ctv => ?_
    walk_at "q"
    with_reducible refine WF_of (fell L (n := n + 12) R' fun c' ρ' Rc => ?_)
    with_reducible refine WFC_clo (by kernel_rfl) Rc.dep (fun L2 f2 F2 => ?_) (noCell (by kernel_rfl)) (by kernel_rfl) (by kernel_rfl) (by kernel_rfl)
    walk_at "q"
    with_reducible refine W_cell (k := L' + 1) (by kernel_rfl) (by walk_at "sig") ?_ (.inr (by kernel_rfl))
    refine ⟨_, _, WM_inst (H.get (by walk_at "at")) (mtIn L (p := (202, PySem.Str.ofString "put", 192)) (by kernel_rfl)) (notIn (by kernel_rfl)), callK L (by kernel_rfl), ?_⟩
    walk_at "q"
    with_reducible refine W_cell (k := L' + 1 + 1) (by kernel_rfl) (by walk_at "sig") ?_ (.inr (by kernel_rfl))
    walk_at "q"
    refine WF_of (putLine L (n := n) (x := ln) (dx := dl) (sg := sg) (a := m) (cs := [120, 121, 122]) (ks := ks) (Rc.child.less (by lia)) (H.sel (by walk_at "sel")) hk5.2.1 (by lia) (by unfold big; decide) (fun hb e σ' G M => ?_) fun hb σ' H' => ?_)
    · refine ⟨rfl, .inl ⟨-1, M, ?_⟩⟩
      exact ⟨H.grew G, by rw [if_pos hb]⟩
    · have hk6 : ks = [] := by rcases hk5.2.2 with h | h; lia; exact h
      subst hk6
      have H := H.join H' (by walk_at "mg")
      exact ⟨.none, rfl, H, by rw [if_neg (by lia)]⟩
  case more =>
  rintro y σ' ⟨H, rfl⟩
  walk_at "w"
  walk_at "w"
  walk_at "w"
  walk_at "w"
  walk_at "w"
  refine WG.mono (Q := fun y σ'' => σ' = σ'' ∧ y = AV.data (.tuple [.none, if 100000 < m + ks.length then .int (-1) else .none])) ?tup ?rest fun _ _ _ q => q
  case tup =>
    walk_at "q"
    refine ifD (fun h => ?_) fun h => ?_
    · walk_at "q"
      with_reducible refine W_neg (i := 1) ?_
      walk_at "q"
      refine ⟨rfl, ?_⟩
      walk_at "q"
      exact ⟨rfl, by rw [if_pos h]⟩
    · walk_at "q"
      exact ⟨rfl, by rw [if_neg h]⟩
  case rest =>
  rintro y σ'' ⟨rfl, rfl⟩
  have hsh : Sh 0 (if 100000 < m + ks.length then PyData.int (-1) else PyData.none) := by split; exact .int; exact .none
  refine W2_eq ((Sh.pair .none hsh).shaped (by decide)) ((Sh.pair .none hsh).shaped (by decide)) R'.u64 ?_
  rw [(Sh.pair .none hsh).self]
  walk_at "q"
  with_reducible refine W_cell (k := L' + 1) (by kernel_rfl) (by walk_at "sig") ?_ (.inl (by kernel_rfl))
  walk_at "q"
  rw [decide_eq_true rfl]
  walk_at "q"
  with_reducible refine W_cell (k := L' + 1) (by kernel_rfl) (by walk_at "sig") ?_ (.inl (by kernel_rfl))
  refine ⟨_, _, WM_inst (H.get (by walk_at "at")) (mtIn L (p := (202, PySem.Str.ofString "text", 199)) (by kernel_rfl)) (notIn (by kernel_rfl)), callK L (by kernel_rfl), ?_⟩
  walk_at "q"
  refine WF_of (textLine L (n := n) (x := ln) (dx := dl) (sg := sg) (a := m) (cs := [120, 121, 122]) (R'.less (by lia)) (H.sel (by walk_at "sel")) (by unfold big; decide) ?_)
  walk_at "q"
  rw [show (tx [120, 121, 122] == tx [120, 121, 122]) = true by decide +kernel]
  exact q _ (k + 1 + 1) (by lia) (by lia) ((((H.cut .n0 b2).cut .n0 b1).cut .n0 bc2).cut .n0 bc1)
end
/-! P25 -/
section
variable {B : Bs} {c : Cx} {ρ : Loc} {σ : AH} {s : Shared}
/-! _law_part -/
theorem Rm.comp {n : Nat} {scope : Scope} {cl : List (Str × Addr)} {C : Addr} (R : Rm c n) : Rm (c.comp scope cl C) n := ⟨R.hh, R.d, R.u⟩
theorem namesOk {l : List (Str × NameKind)} (h : (l.all fun y => y.2 != .local || l.lookup y.1 == some .local) = true) : ∀ y ∈ l, y.2 = .local → l.lookup y.1 = some .local := fun y hy e => by
  have := List.all_eq_true.mp h y hy
  rw [Bool.or_eq_true, e] at this
  rcases this with h | h
  · exact absurd h (by decide)
  · exact beq_iff_eq.mp h
noncomputable def leafs : List (Str × List PyData) := [(PySem.Str.ofString "X", [.int 1]), (PySem.Str.ofString "L", [.int 2]), (PySem.Str.ofString ":", []), (PySem.Str.ofString "P", [.int 1]), (PySem.Str.ofString "L", [.int 1])]
inductive LawP : Nat → Pt → Prop
  | leaf {d w ds} : (w, ds) ∈ leafs → LawP d (.leaf w ds)
  | rep {d n} : 2 ≤ n → n ≤ 3 → LawP d (.rep n (.leaf (PySem.Str.ofString "L") [.int 1]))
  | grp {d n l} : 1 ≤ n → n ≤ 3 → l.length ≤ 2 → (∀ p ∈ l, LawP d p) → LawP (d + 1) (.grp n l)
noncomputable def tells : Nat → Int
  | 0 => 2
  | d + 1 => 3 + 2 * tells d
theorem tells_pos : ∀ d, 2 ≤ tells d
  | 0 => by decide
  | d + 1 => by have := tells_pos d; unfold tells; lia
theorem leaf_at {v : Int} (h0 : 0 ≤ v) (h4 : v < 4) : ∃ w ds, ([.tuple [.str (PySem.Str.ofString "X"), .int 1], .tuple [.str (PySem.Str.ofString "L"), .int 2], .tuple [.str (PySem.Str.ofString ":")], .tuple [.str (PySem.Str.ofString "P"), .int 1]] : List PyData)[v.toNat]? = some (ptD (.leaf w ds)) ∧ (w, ds) ∈ leafs := by
  have : v = 0 ∨ v = 1 ∨ v = 2 ∨ v = 3 := by lia
  rcases this with rfl | rfl | rfl | rfl
  · exact ⟨_, [.int 1], by simp only [ptD]; rfl, .head _⟩
  · exact ⟨_, [.int 2], by simp only [ptD]; rfl, .tail _ (.head _)⟩
  · exact ⟨_, [], by simp only [ptD]; rfl, .tail _ (.tail _ (.head _))⟩
  · exact ⟨_, [.int 1], by simp only [ptD]; rfl, .tail _ (.tail _ (.tail _ (.head _)))⟩
noncomputable def PartC (B : Bs) (deep : Nat) : Prop := ∀ {c : Cx} {ρ : Loc} {σ : AH} {n : Nat} {u : Addr} {ns : List Int} {k : Int}, Rm c (n + 2 * (deep + 1)) → Hs σ σ [(u, urnL ns k)] → 0 ≤ k → k + tells deep < 2 ^ 20 → ns.length ≤ 100 → ∀ {Q : AV → AH → Prop} {X : XT},
    (∀ p σ' k', LawP deep p → k ≤ k' → k' ≤ k + tells deep → Hs σ σ' [(u, urnL ns k')] → Q (.data (ptD p)) σ') → WFC B c (.val (.ref 358)) [.ref u, .data (.int deep)] ρ σ Q X
inductive partJ (L' u : Addr) (ns : List Int) (k : Int) (d : Nat) (l : List (Addr × AO)) (ds acc : List PyData) : Prop
  | mk (kk : Int) (ps : List Pt) (h0 : l = [(L' + 1 + 1, .cell (some (.data (.int ((d + 1 : Nat) : Int))))), (L' + 1, .cell (some (.ref u))), (u, urnL ns kk)]) (h1 : acc = ptDs ps) (h2 : (∀ p ∈ ps, LawP d p)) (h3 : k ≤ kk) (h4 : kk + tells d * ds.length ≤ k + 3 + 2 * tells d) (h5 : ps.length + ds.length ≤ 2) : partJ L' u ns k d l ds acc
theorem lawPart1 (L : BL B) (deep : Nat) (ih : ∀ d, deep = d + 1 → PartC B d) : PartC B deep := by
  intro c ρ σ n u ns k R H h0 hk hn Q X q
  have ht := tells_pos deep
  refine in358 L (body := ?b) ?hb (R.less (m := n + 2 * deep + 1 + 1) (by lia)).dep ?hW
  case hb => with_unfolding_all rfl
  intro L' F
  have R' := (R.less (m := n + 2 * deep + 1 + 1) (by lia)).child (e := callEnvC (fdOf B.w.params 358) L' 358)
  have bc1 := F (L' + 1) (Nat.le_succ _)
  have bc2 := F (L' + 1 + 1) (Nat.le_succ_of_le (Nat.le_succ _))
  obtain ⟨H, F⟩ := H.cellN (v := some (.ref u)) (free1 F)
  obtain ⟨H, F⟩ := H.cellN (v := some (.data (.int (deep : Int)))) F
  revert H
  generalize upd (upd σ (L' + 1) (AO.cell (some (.ref u)))) (L' + 1 + 1) (AO.cell (some (.data (.int (deep : Int))))) = σ₁
  intro H
  clear F
  walk_at "r"
  with_reducible refine W_cell (k := L' + 1) (by kernel_rfl) (by walk_at "sig") ?_ (.inl (by kernel_rfl))
  walk_at "r"
  refine tellH L H (by walk_at "at") (by walk_at "at") h0 (by lia) hn (by lia) R'.dep fun way σ₂ hw0 hw5 H => ?_
  walk_at "w"
  walk_at "w"
  refine WG.mono (Q := fun y σ' => σ₂ = σ' ∧ (y = true → ∃ d, deep = d + 1)) ?tst ?go fun _ _ _ q => q
  case tst =>
    walk_at "r"
    refine ifD (fun h => ?_) fun h => ?_
    · walk_at "r"
      with_reducible refine W_cell (k := L' + 1 + 1) (by kernel_rfl) (by walk_at "sig") ?_ (.inl (by kernel_rfl))
      walk_at "r"
      refine ifD (fun h => ?_) fun h => ?_
      · walk_at "r"
        exact ⟨rfl, fun _ => ⟨deep - 1, by lia⟩⟩
      · exact ⟨rfl, fun h => by cases h⟩
    · exact ⟨rfl, fun h => by cases h⟩
  case go =>
  rintro y σ' ⟨rfl, hy⟩
  refine ifB (fun hy' => ?_) fun hy' => ?_
  · obtain ⟨d, rfl⟩ := hy hy'
    have hd := tells_pos d
    have ht2 : tells (d + 1) = 3 + 2 * tells d := rfl
    have ih' : PartC B d := @ih d rfl
    unfold PartC at ih'
    have R2 : ∀ sc cl C, Rm ((c.child (callEnvC (fdOf B.w.params 358) L' 358)).comp sc cl C) (n + 2 * (d + 1)) := fun _ _ _ => (R'.less (by lia)).comp
    walk_at "r"
    with_reducible refine W_cell (k := L' + 1) (by kernel_rfl) (by walk_at "sig") ?_ (.inl (by kernel_rfl))
    walk_at "r"
    refine tellH L H (by walk_at "at") (by walk_at "at") (by lia) (by lia) hn (by lia) R'.dep fun v σ₃ hv0 hv3 H => ?_
    walk_at "r"
    with_reducible refine W_ListCompH (σb := σ) (cl := [(PySem.Str.ofString "urn", L' + 1), (PySem.Str.ofString "deep", L' + 1 + 1)]) (J := partJ L' u ns k d) R'.hh (by kernel_rfl) ?hsz ?iter ?step ?fin (noCell (by kernel_rfl)) (namesOk (by kernel_rfl)) (by kernel_rfl) (by kernel_rfl) (by intro x; kernel_rfl)
    case hsz =>
      rintro l ds acc ⟨kk, ps, rfl, rfl, _, _, _, h⟩
      rw [ptDs_len]; unfold sizeLine; lia
    case iter =>
      walk_at "r"
      with_reducible refine W_cell (k := L' + 1) (by kernel_rfl) (by walk_at "sig") ?_ (.inl (by kernel_rfl))
      walk_at "r"
      refine tellH L H (by walk_at "at") (by walk_at "at") (by lia) (by lia) hn (by lia) R'.dep fun v2 σ₄ hv20 hv22 H => ?_
      obtain ⟨m, rfl⟩ := Int.eq_ofNat_of_zero_le hv20
      walk_at "r"
      rw [show (1 : Int) + (m : Int) = ((1 + m : Nat) : Int) by lia]
      refine WF_range fun a t₁ t₂ t₃ ha => ?_
      refine ⟨_, _, Itb.range (upd_same _ _ _) (by lia), H.skip ha, k + 1 + 1 + 1, [], rfl, rfl, fun _ h => (by cases h), by lia, ?_, ?_⟩
      · simp only [List.length_map, List.length_range]
        have : m ≤ 1 := by lia
        have h2 : tells d * ((1 + m : Nat) : Int) ≤ tells d * 2 := Int.mul_le_mul_of_nonneg_left (by lia) (by lia)
        lia
      · simp only [List.length_map, List.length_range, List.length_nil]; lia
    case step =>
      rintro C dd ds acc σ₄ l H ⟨kk, ps, rfl, rfl, hps, hk1, hk2, hlen⟩
      have H := H.self
      refine WIfs_nil ⟨rfl, ?_⟩
      refine ifT ?_
      walk_at "r"
      with_reducible refine W_cell (k := L' + 1) (by kernel_rfl) (by walk_at "sig") ?_ (.inl (by kernel_rfl))
      walk_at "r"
      with_reducible refine W_cell (k := L' + 1 + 1) (by kernel_rfl) (by walk_at "sig") ?_ (.inl (by kernel_rfl))
      walk_at "r"
      rw [show (((d + 1 : Nat) : Int) - 1) = ((d : Nat) : Int) by lia]
      rw [List.length_cons] at hk2 hlen
      have e2 : tells d * ((ds.length + 1 : Nat) : Int) = tells d * (ds.length : Int) + tells d := by rw [Int.natCast_add, Int.mul_add]; simp
      rw [e2] at hk2
      have e3 : 0 ≤ tells d * (ds.length : Int) := Int.mul_nonneg (by lia) (by lia)
      refine WF_of (ih' (n := n) (u := u) (ns := ns) (k := kk) (R2 _ _ _) (H.sel (by walk_at "sel")) (by lia) (by lia) hn fun p σ₅ kk' hp h1 h2 H' => ?_)
      have H := H.join H' (by walk_at "mg")
      refine ⟨_, _, rfl, H, rfl, kk', ps ++ [p], rfl, ?_, ?_, by lia, by lia, by rw [List.length_append]; simp only [List.length_singleton]; lia⟩
      · rw [ptDs_map, ptDs_map, List.map_append]; rfl
      · intro x hx
        rcases List.mem_append.mp hx with hx | hx
        · exact hps x hx
        · obtain rfl := List.mem_singleton.mp hx; exact hp
    case fin =>
      rintro acc σ₄ l H ⟨kk, ps, rfl, rfl, hps, hk1, hk2, hlen⟩
      walk_at "r"
      have hp : LawP (d + 1) (.grp (1 + v) ps) := .grp (by lia) (by lia) (by rw [List.length_nil] at hlen; lia) hps
      have := q (.grp (1 + v) ps) _ kk hp (by lia) (by rw [ht2]; rw [List.length_nil] at hk2; simp at hk2; lia) ((H.cut .n0 bc2).cut .n0 bc1)
      simp only [ptD] at this
      exact this
  · walk_at "r"
    refine ifD (fun h => ?_) fun h => ?_
    · walk_at "r"
      with_reducible refine W_cell (k := L' + 1) (by kernel_rfl) (by walk_at "sig") ?_ (.inl (by kernel_rfl))
      walk_at "r"
      refine tellH L H (by walk_at "at") (by walk_at "at") (by lia) (by lia) hn (by lia) R'.dep fun v σ₃ hv0 hv2 H => ?_
      walk_at "r"
      have := q (.rep (2 + v) (.leaf (PySem.Str.ofString "L") [.int 1])) _ (k + 1 + 1) (.rep (by lia) (by lia)) (by lia) (by lia) ((H.cut .n0 bc2).cut .n0 bc1)
      simp only [ptD] at this
      exact this
    · walk_at "r"
      with_reducible refine W_cell (k := L' + 1) (by kernel_rfl) (by walk_at "sig") ?_ (.inl (by kernel_rfl))
      walk_at "r"
      refine tellH L H (by walk_at "at") (by walk_at "at") (by lia) (by lia) hn (by lia) R'.dep fun v σ₃ hv0 hv4 H => ?_
      obtain ⟨w, ds, hv, hw⟩ := leaf_at hv0 hv4
      refine WI_tuple hv0 (by lia) hv ?_
      exact q _ _ (k + 1 + 1) (.leaf hw) (by lia) (by lia) ((H.cut .n0 bc2).cut .n0 bc1)
theorem lawPart (L : BL B) : ∀ deep, PartC B deep
  | 0 => lawPart1 L 0 fun d h => by lia
  | d + 1 => lawPart1 L (d + 1) fun d' h => (show d = d' by lia) ▸ lawPart L d
theorem leafs_ok : ∀ {w : Str} {ds : List PyData}, (w, ds) ∈ leafs → okW w ∧ isData w = (w == PySem.Str.ofString "L") ∧ (∀ x ∈ ds, Sh 0 x) := by
  intro w ds h
  unfold leafs at h
  simp only [List.mem_cons, List.not_mem_nil, or_false, Prod.mk.injEq] at h
  have si : ∀ x ∈ [PyData.int 1], Sh 0 x := fun x h => by obtain rfl := List.mem_singleton.mp h; exact .int
  have si2 : ∀ x ∈ [PyData.int 2], Sh 0 x := fun x h => by obtain rfl := List.mem_singleton.mp h; exact .int
  unfold okW
  rcases h with ⟨rfl, rfl⟩ | ⟨rfl, rfl⟩ | ⟨rfl, rfl⟩ | ⟨rfl, rfl⟩ | ⟨rfl, rfl⟩
  · exact ⟨by decide +kernel, by decide +kernel, si⟩
  · exact ⟨by decide +kernel, by decide +kernel, si2⟩
  · exact ⟨by decide +kernel, by decide +kernel, fun x h => by cases h⟩
  · exact ⟨by decide +kernel, by decide +kernel, si⟩
  · exact ⟨by decide +kernel, by decide +kernel, si⟩
theorem LawP.ok {d : Nat} {p : Pt} (h : LawP d p) : OkP (d + 1) p := by
  induction h with
  | leaf h => exact .leaf (leafs_ok h).1
  | rep h1 h2 => exact .rep (by lia) (.leaf (by unfold okW; decide +kernel))
  | grp h1 h2 h3 _ ih => exact .grp h1 ih (by lia)
end
/-! P26 -/
section
variable {B : Bs} {c : Cx} {ρ : Loc} {σ : AH} {s : Shared}
/-! _law_marks -/
noncomputable def mks (l : List Mk) : List PyData := l.map mkD
theorem mks_app {a b : List Mk} : mks (a ++ b) = mks a ++ mks b := by unfold mks; rw [List.map_append]
theorem mks_len {a : List Mk} : (mks a).length = a.length := by unfold mks; rw [List.length_map]
theorem marks_app : ∀ {a b : List Pt}, marksPs (a ++ b) = marksPs a ++ marksPs b
  | [], b => by simp only [marksPs, List.nil_append]
  | p :: a, b => by
    rw [List.cons_append]
    simp only [marksPs]
    rw [marks_app, List.append_assoc]
/-- a group or a repeated item: its marks -/
theorem node_marks {d : Nat} {p : Pt} (h : OkP d p) : (∃ w ds, p = .leaf w ds ∧ okW w) ∨ ∃ d' n ls wd x, d = d' + 1 ∧ Node d' p n ls wd x ∧ 1 ≤ n ∧ marksP p = .beg :: (List.replicate n.toNat (marksPs ls ++ [.fin])).flatten := by
  cases h with
  | leaf h => exact .inl ⟨_, _, rfl, h⟩
  | @grp d n l hn h hl => exact .inr ⟨d, n, l, _, _, rfl, ⟨by simp only [ptD], fun s => by simp only [flatP], h, hl, .inl ⟨rfl, rfl⟩⟩, hn, by simp only [marksP]⟩
  | @rep d n p hn h => exact .inr ⟨d, n, [p], _, ptD p, rfl, ⟨by simp only [ptD], fun s => by simp only [flatP, flatPs, List.append_nil], fun q hq => by obtain rfl := List.mem_singleton.mp hq; exact h, by simp, .inr ⟨rfl, by simp only [ptDs]⟩⟩, hn, by simp only [marksP, marksPs, List.append_nil]⟩
theorem mks_rep {n : Nat} {l : List Mk} : mks (List.replicate n l).flatten = (List.replicate n (mks l)).flatten := by
  unfold mks; rw [List.map_flatten, List.map_replicate]
theorem flat_len {n : Nat} {l : List Mk} : ((List.replicate n l).flatten).length = n * l.length := by rw [List.length_flatten, List.map_replicate, List.sum_replicate_nat]
theorem flat_lenD {n : Nat} {l : List PyData} : ((List.replicate n l).flatten).length = n * l.length := by rw [List.length_flatten, List.map_replicate, List.sum_replicate_nat]
noncomputable def MarksC (B : Bs) (d : Nat) : Prop := ∀ {c : Cx} {ρ : Loc} {σ : AH} {n : Nat} {ls : List Pt}, Rm c (n + 2 * (d + 1)) → (∀ p ∈ ls, OkP d p) → ls.length ≤ 100 → (marksPs ls).length ≤ 2 ^ 16 → ∀ {Q : AV → AH → Prop} {X : XT},
    (∀ σ', Grew σ σ' → Q (.data (.list (mks (marksPs ls)))) σ') → WFC B c (.val (.ref 365)) [.data (.list (ptDs ls))] ρ σ Q X
inductive marksJ (r : Addr) (d : Nat) (ls : List Pt) (l : List (Addr × AO)) (ds : List PyData) (ρ : Loc) : Prop
  | mk (ms : List Mk) (ls' : List Pt) (b1 b2 : Option AV) (h0 : l = [(r, .list ((mks ms).map .data))]) (h1 : ds = ptDs ls') (h2 : (∀ p ∈ ls', OkP d p)) (h3 : ms ++ marksPs ls' = marksPs ls) (h4 : ρ = [(PySem.Str.ofString "tree", some (AV.data (.list (ptDs ls)))), (PySem.Str.ofString "row", some (.ref r)), (PySem.Str.ofString "part", b1), (PySem.Str.ofString "inner", b2)]) : marksJ r d ls l ds ρ
theorem lawMarks1 (L : BL B) (d : Nat) (ih : ∀ d', d = d' + 1 → MarksC B d') : MarksC B d := by
  intro c ρ σ n ls R hok hl hz Q X q
  refine in365 L (body := ?b) ?hb (R.less (m := n + 2 * d + 1 + 1) (by lia)).dep ?hW
  case hb => with_unfolding_all rfl
  intro L'
  have R' := (R.less (m := n + 2 * d + 1 + 1) (by lia)).child (e := callEnv (fdOf B.w.params 365) L' 365)
  have hF : (c.child (callEnv (fdOf B.w.params 365) L' 365)).Fun := Cx.childFun rfl rfl
  have H : Hs σ σ [] := Hs.nil
  with_reducible refine WS_assign ?_ (by kernel_rfl)
  with_reducible refine W_ListT ?_
  walk_at "q"
  refine ⟨by show 0 ≤ _; lia, fun r hr => ?_⟩
  have H := H.new (o := .list []) hr
  revert H
  generalize upd σ r (.list []) = σ₁
  intro H
  walk_at "q"
  with_reducible refine WS_forH (σb := σ) (J := marksJ r d ls) hF R'.hh ?iter ?step ?fin (by intro x; kernel_rfl)
  case iter =>
    walk_at "q"
    exact ⟨_, _, Itb.list, H, [], ls, none, none, rfl, rfl, hok, rfl, rfl⟩
  case step =>
    rintro dd ds ρ₁ σ₂ l H ⟨ms, ls', b1, b2, rfl, hds, hok', hms, rfl⟩
    cases ls' with
    | nil => cases hds
    | cons p ls' =>
    simp only [ptDs] at hds
    obtain ⟨rfl, rfl⟩ := List.cons.inj hds
    have H := H.self
    simp only [marksPs] at hms
    have hlen : ms.length + ((marksP p).length + (marksPs ls').length) = (marksPs ls).length := by rw [← hms, List.length_append, List.length_append]
    refine WU_name .n2 ⟨rfl, ?_⟩
    rcases node_marks (hok' p (.head _)) with ⟨w, ds, rfl, h0, h1, h2, _, _⟩ | ⟨d', m, lx, wd, x, rfl, N, hm, hM⟩
    · simp only [ptD]
      have wS : shaped (.str w) = true := (Sh.str (k := 0) h0).shaped (by decide)
      walk_at "q"
      refine WI_tuple (by decide) (by decide) rfl ?_
      walk_at "q"
      refine W2_inTuple (by decide +kernel) wS R'.u65 ?_
      rw [show (([.str (PySem.Str.ofString "group"), .str (PySem.Str.ofString "repeat")] : List PyData).any fun y => PyData.eqv y (.str w)) = false by
        simp only [List.any_cons, List.any_nil, eqv_str, Bool.or_false]
        rw [BEq.comm, h1, BEq.comm, h2]; rfl]
      walk_at "q"
      refine WF_append (by walk_at "sig") (by rw [List.length_map, mks_len]; unfold sizeLine; lia) ?_
      rw [show (mks ms).map AV.data ++ [AV.data (.tuple (.str w :: ds))] = (mks (ms ++ [.lf w ds])).map AV.data by rw [mks_app, List.map_append]; rfl]
      walk_at "q"
      rename_i σ₃ H
      refine ⟨_, H, rfl, _, ls', _, _, rfl, rfl, fun q hq => hok' q (.tail _ hq), ?_, rfl⟩
      rw [List.append_assoc, ← hms]; simp only [marksP]
    · have ih' : MarksC B d' := @ih d' rfl
      unfold MarksC at ih'
      rw [N.D]
      have hs : PyData.strOk wd = true := by rcases N.wd with ⟨h, _⟩ | ⟨h, _⟩ <;> rw [h] <;> decide +kernel
      have wS : shaped (.str wd) = true := (Sh.str (k := 0) hs).shaped (by decide)
      walk_at "q"
      refine WI_tuple (by decide) (by decide) rfl ?_
      walk_at "q"
      refine W2_inTuple (by decide +kernel) wS R'.u65 ?_
      rw [show (([.str (PySem.Str.ofString "group"), .str (PySem.Str.ofString "repeat")] : List PyData).any fun y => PyData.eqv y (.str wd)) = true by
        simp only [List.any_cons, List.any_nil, eqv_str, Bool.or_false]
        rcases N.wd with ⟨h, _⟩ | ⟨h, _⟩ <;> rw [h] <;> decide +kernel]
      walk_at "q"
      have hMl : (marksP p).length = m.toNat * ((marksPs lx).length + 1) + 1 := by rw [hM, List.length_cons, flat_len, List.length_append]; rfl
      have hm1 : 1 ≤ m.toNat := by lia
      have hlx : (marksPs lx).length + 1 ≤ m.toNat * ((marksPs lx).length + 1) := Nat.le_mul_of_pos_left _ hm1
      have hmx : m.toNat ≤ m.toNat * ((marksPs lx).length + 1) := Nat.le_mul_of_pos_right _ (by lia)
      with_reducible refine WS_assign ?_ (by kernel_rfl)
      walk_at "w"
      walk_at "w"
      walk_at "w"
      walk_at "w"
      refine WG.mono (Q := fun a σ' => σ₂ = σ' ∧ a = AV.data (.list (ptDs lx))) ?arg ?go fun _ _ _ q => q
      case arg =>
        walk_at "q"
        refine WI_tuple (by decide) (by decide) rfl ?_
        walk_at "q"
        rcases N.wd with ⟨h, hx⟩ | ⟨h, hx⟩
        · refine ifI (by rw [h]; decide +kernel) ?_
          walk_at "q"
          refine WI_tuple (by decide) (by decide) rfl ?_
          rw [hx]
          exact ⟨rfl, rfl⟩
        · refine ifE (by rw [h]; decide +kernel) ?_
          with_reducible refine W_List ?_
          walk_at "q"
          refine WI_tuple (by decide) (by decide) rfl ?_
          walk_at "q"
          rw [hx]
          exact ⟨rfl, rfl⟩
      case go =>
      rintro y σ' ⟨rfl, rfl⟩
      walk_at "q"
      refine WF_of (ih' (n := n + 1) (ls := lx) (R'.less (by lia)) N.ok N.len (by lia) fun σ₃ G => ?_)
      have H := H.grew G
      walk_at "q"
      refine WS_augName .n1 ?_
      walk_at "q"
      with_reducible refine W_List ?_
      walk_at "q"
      with_reducible refine W_List ?_
      walk_at "q"
      refine W2_addL (by rw [mks_len]; simp only [List.length_singleton]; unfold sizeLine; lia) ?_
      walk_at "q"
      refine WI_tuple (by decide) (by decide) rfl ?_
      refine W2_mulL (by lia) (by lia) (by rw [List.length_append, mks_len]; simp only [List.length_singleton]; rw [Nat.mul_comm]; lia) ?_
      refine W2_addL (by rw [flat_lenD, List.length_append, mks_len]; simp only [List.length_singleton]; unfold sizeLine; lia) ?_
      have e : [PyData.str (PySem.Str.ofString "begin")] ++ (List.replicate m.toNat (mks (marksPs lx) ++ [PyData.str (PySem.Str.ofString "end")])).flatten = mks (marksP p) := by
        rw [hM]
        show _ = mkD .beg :: mks (List.replicate m.toNat (marksPs lx ++ [.fin])).flatten
        rw [mks_rep, mks_app]
        rfl
      rw [e]
      refine W2_iaddL (H.get .n0) (by rw [List.length_map, mks_len, mks_len]; unfold sizeLine; lia) ?_
      rw [show (mks ms).map AV.data ++ (mks (marksP p)).map AV.data = (mks (ms ++ marksP p)).map AV.data by rw [mks_app, List.map_append]]
      walk_at "q"
      rename_i σ₄ H
      refine ⟨_, H, rfl, _, ls', _, _, rfl, rfl, fun q hq => hok' q (.tail _ hq), ?_, rfl⟩
      rw [List.append_assoc]; exact hms
  case fin =>
    rintro ρ₁ σ₂ l H ⟨ms, ls', b1, b2, rfl, hds, hok', hms, rfl⟩
    cases ls' with
    | cons p' ls' => simp only [ptDs] at hds; cases hds
    | nil =>
    simp only [marksPs, List.append_nil] at hms
    subst hms
    refine WS_dropL (H.get .n0) ?_
    have H := H.del .n0 hr
    rw [show fzL [(PySem.Str.ofString "tree", some (AV.data (.list (ptDs ls)))), (PySem.Str.ofString "row", some (.ref r)), (PySem.Str.ofString "part", b1), (PySem.Str.ofString "inner", b2)] r (mks (marksPs ls)) =
      [(PySem.Str.ofString "tree", some (AV.data (.list (ptDs ls)))), (PySem.Str.ofString "row", some (.data (.list (mks (marksPs ls))))), (PySem.Str.ofString "part", b1.map (AV.fz r (mks (marksPs ls)))), (PySem.Str.ofString "inner", b2.map (AV.fz r (mks (marksPs ls))))] by simp [fzL, AV.fz]]
    walk_at "q"
    exact q _ H.grown
theorem lawMarks (L : BL B) : ∀ d, MarksC B d
  | 0 => lawMarks1 L 0 fun d h => by lia
  | d + 1 => lawMarks1 L (d + 1) fun d' h => (show d = d' by lia) ▸ lawMarks L d
end
/-! P27 -/
section
variable {B : Bs} {c : Cx} {ρ : Loc} {σ : AH} {s : Shared}
/-! _law_next -/
theorem storedA_put {es es' : List (Str × AV)} {k : Str} {v : AV} (hp : APut es k v es') (nd : (es.map (·.1)).Nodup) : storedA es k v = es' := by
  have hany : es.any (fun kv => kv.1 = k) = true := by
    obtain ⟨p, hp', e⟩ := List.mem_map.mp hp.isIn
    exact List.any_eq_true.mpr ⟨p, hp', decide_eq_true e⟩
  unfold storedA
  rw [if_pos hany]
  clear hany
  induction hp with
  | @here x w v r =>
    rw [List.map_cons, List.nodup_cons] at nd
    rw [List.map_cons, if_pos rfl]
    congr 1
    rw [← List.map_id r]
    rw [List.map_map]
    refine List.map_congr_left fun kv hkv => ?_
    show (if kv.1 = x then _ else kv) = kv
    rw [if_neg]
    rintro rfl
    exact nd.1 (List.mem_map_of_mem (f := (·.1)) hkv)
  | @there p x v r r' hp ih =>
    rw [List.map_cons, List.nodup_cons] at nd
    rw [List.map_cons, if_neg, ih nd.2]
    rintro rfl
    exact nd.1 hp.isIn
theorem W3_dictS {a : Addr} {es es' : List (Str × AV)} {k : Str} {v : AV} {Q : AH → Prop} {X : XT} (hσ : σ a = some (.dictS es)) (hp : APut es k v es') (nd : (es.map (·.1)).Nodup) (hz : es.length ≤ 1000) (q : Q (upd σ a (.dictS es'))) : W3 B c (.ref a) (.data (.str k)) v ρ σ Q X :=
  W3_dict (kdS B) hσ hz (by rw [storedA_put hp nd]; exact q)
theorem WI_dictS {a : Addr} {es : List (Str × AV)} {k : Str} {av : AV} {Q : AV → AH → Prop} {X : XT} (hσ : σ a = some (.dictS es)) (h : AAt es k av) (q : Q av σ) : WI B c (.ref a) (.data (.str k)) ρ σ Q X :=
  WI_dict (kdS B) hσ h.mem q
noncomputable abbrev bkA (ms : List PyData) (a ag : Nat) (u : Bool) (i : Int) : List (Str × AV) := [(PySem.Str.ofString "marks", .data (.list ms)), (PySem.Str.ofString "at", .data (.int a)), (PySem.Str.ofString "again", .data (.int ag)), (PySem.Str.ofString "taken", .data (.bool u)), (PySem.Str.ofString "idle", .data (.int i))]
theorem bkNd : ([PySem.Str.ofString "marks", PySem.Str.ofString "at", PySem.Str.ofString "again", PySem.Str.ofString "taken", PySem.Str.ofString "idle"] : List Str).Nodup := by decide +kernel
noncomputable def okM : Mk → Prop
  | .lf w ds => (w, ds) ∈ leafs
  | _ => True
inductive bookI (σ : AH) (bk : Addr) (M : List Mk) (ag : Nat) (hv : Bool) (r : List Mk) (u : Bool) (i : Int) (m : Nat) (ρ' : Loc) (σ' : AH) : Prop
  | mk (a' : Nat) (r' : List Mk) (u' : Bool) (i' : Int) (b1 : Option AV) (h0 : Hs σ σ' [(bk, .dictS (bkA (mks M) a' ag u' i'))]) (h1 : M.drop a' = r') (h2 : a' ≤ M.length) (h3 : nextP hv r' u' i' = nextP hv r u i) (h4 : m = r'.length) (h5 : ρ' = [(PySem.Str.ofString "book", some (.ref bk)), (PySem.Str.ofString "has_value", some (.data (.bool hv))), (PySem.Str.ofString "mark", b1)]) : bookI σ bk M ag hv r u i m ρ' σ'
theorem lawNext (L : BL B) {n : Nat} (R : Rm c (n + 6)) {bk : Addr} {M r : List Mk} {a ag : Nat} {u hv : Bool} {i : Int} (hM : ∀ m ∈ M, okM m) (hMl : M.length ≤ 2 ^ 20) (hr : M.drop a = r) (ha : a ≤ M.length)
    (H : Hs σ σ [(bk, .dictS (bkA (mks M) a ag u i))]) {Q : AV → AH → Prop} {X : XT}
    (q1 : nextP hv r u i = .fault → ∀ σ' es, Hs σ σ' [(bk, .dictS es)] → Q (.data (.str (PySem.Str.ofString "fault"))) σ')
    (q2 : ∀ r' u' i', nextP hv r u i = .stop r' u' i' → ∀ σ' a', Hs σ σ' [(bk, .dictS (bkA (mks M) a' ag u' i'))] → M.drop a' = r' → a' ≤ M.length → Q (.data .none) σ')
    (q3 : ∀ d r' u' i', nextP hv r u i = .item d r' u' i' → ∀ σ' a', Hs σ σ' [(bk, .dictS (bkA (mks M) a' ag u' i'))] → M.drop a' = r' → a' ≤ M.length → (∃ w ds, d = .tuple (.str w :: ds) ∧ (w, ds) ∈ leafs) → Q (.data d) σ')
    (q4 : ∀ i', nextP hv r u i = .turn i' → ∀ σ', Hs σ σ' [(bk, .dictS (bkA (mks M) ag ag false i'))] → Q (.data (.tuple [.str (PySem.Str.ofString "/")])) σ') : WFC B c (.val (.ref 372)) [.ref bk, .data (.bool hv)] ρ σ Q X := by
  refine in372 L (body := ?b) ?hb R.dep ?hW
  case hb => with_unfolding_all rfl
  intro L'
  have R' := R.child (e := callEnv (fdOf B.w.params 372) L' 372)
  have hF : (c.child (callEnv (fdOf B.w.params 372) L' 372)).Fun := Cx.childFun rfl rfl
  with_reducible refine WS_while (n₀ := r.length) (I := bookI σ bk M ag hv r u i) hF ⟨a, r, u, i, none, H, hr, ha, rfl, rfl, rfl⟩ ?_
  rintro m ρ₁ σ₁ ⟨a', r', u', i', b1, H, hr, ha, hn, rfl, rfl⟩
  have hlen : a' + r'.length = M.length := by rw [← hr, List.length_drop]; lia
  refine WT_value ?_
  walk_at "q"
  refine W2_get (WI_dictS (H.get .n0) .n4 ?_)
  walk_at "q"
  refine W3_dictS (H.get .n0) .n4 bkNd (by show 5 ≤ 1000; decide) ?_
  walk_at "q"
  rename_i σ₂ H
  refine WI_dictS (H.get .n0) .n4 ?_
  walk_at "q"
  refine ifD (fun hi => ?_) fun hi => ?_
  · have hf : nextP hv r u i = .fault := by
      rw [← hn]
      cases r' with
      | nil => unfold nextP; rw [if_pos hi]
      | cons m r' => cases m <;> (unfold nextP; rw [if_pos hi])
    walk_at "q"
    exact q1 hf _ _ H
  · walk_at "q"
    refine WI_dictS (H.get .n0) .n1 ?_
    walk_at "q"
    refine WI_dictS (H.get .n0) .n0 ?_
    walk_at "q"
    refine WF_len_list (by rw [mks_len]; unfold sizeLine; lia) ?_
    rw [mks_len]
    walk_at "q"
    cases r' with
    | nil =>
      rw [List.length_nil] at hlen
      refine ifD (fun _ => ?_) fun h => absurd (show (a' : Int) = (M.length : Int) by lia) h
      walk_at "q"
      cases hv with
      | false =>
        refine ifT ?_
        walk_at "q"
        refine q2 [] u' (i' + 1) ?_ _ _ H hr ha
        rw [← hn]; unfold nextP; rw [if_neg hi, if_pos rfl]
      | true =>
        refine ifF ?_
        walk_at "q"
        refine WI_dictS (H.get .n0) .n3 ?_
        walk_at "q"
        cases u' with
        | false =>
          refine ifT ?_
          walk_at "q"
          refine q1 ?_ _ _ H
          rw [← hn]; unfold nextP; rw [if_neg hi, if_neg (by decide), if_pos rfl]
        | true =>
          refine ifF ?_
          walk_at "q"
          with_reducible refine WS_assignTo ?_ (by kernel_rfl) (by kernel_rfl) (by kernel_rfl)
          walk_at "q"
          with_reducible refine WU_sub ?_
          walk_at "q"
          refine W3_dictS (H.get .n0) .n3 bkNd (by show 5 ≤ 1000; decide) ?_
          walk_at "q"
          rename_i σ₃ H
          with_reducible refine WS_assignTo ?_ (by kernel_rfl) (by kernel_rfl) (by kernel_rfl)
          walk_at "q"
          refine WI_dictS (H.get .n0) .n2 ?_
          with_reducible refine WU_sub ?_
          walk_at "q"
          refine W3_dictS (H.get .n0) .n1 bkNd (by show 5 ≤ 1000; decide) ?_
          walk_at "q"
          rename_i σ₄ H
          refine q4 (i' + 1) ?_ _ H
          rw [← hn]; unfold nextP; rw [if_neg hi, if_neg (by decide), if_neg (by decide)]
    | cons m r' =>
      rw [List.length_cons] at hlen
      refine ifD (fun h => absurd h (by lia)) fun _ => ?_
      have hget : M[a']? = some m := by
        have := congrArg (fun l => l[0]?) hr
        simpa [List.getElem?_drop] using this
      have hdrop : M.drop (a' + 1) = r' := by
        have := congrArg (List.drop 1) hr
        rw [List.drop_drop] at this
        simpa using this
      have hmM : m ∈ M := List.mem_of_getElem? hget
      have hmk : (mks M)[((a' : Int)).toNat]? = some (mkD m) := by unfold mks; rw [Int.toNat_natCast, List.getElem?_map, hget]; rfl
      walk_at "q"
      with_reducible refine WS_assign ?_ (by kernel_rfl)
      walk_at "q"
      refine WI_dictS (H.get .n0) .n0 ?_
      walk_at "q"
      refine WI_dictS (H.get .n0) .n1 ?_
      refine WI_list (by lia) (by lia) hmk ?_
      walk_at "q"
      cases m with
      | beg =>
        refine W2_inTuple (by decide +kernel) ((Sh.str (k := 0) (by decide +kernel)).shaped (by decide)) R'.u65 ?_
        rw [show (([.str (PySem.Str.ofString "begin"), .str (PySem.Str.ofString "end")] : List PyData).any fun y => PyData.eqv y (mkD .beg)) = true by decide +kernel]
        walk_at "q"
        refine W2_get (WI_dictS (H.get .n0) .n1 ?_)
        walk_at "q"
        refine W3_dictS (H.get .n0) .n1 bkNd (by show 5 ≤ 1000; decide) ?_
        walk_at "q"
        rename_i σ₃ H
        refine ⟨r'.length, by rw [List.length_cons]; lia, a' + 1, r', u', i' + 1, _, H, hdrop, by lia, ?_, rfl, rfl⟩
        rw [← hn]; simp only [nextP]; rw [if_neg hi]
      | fin =>
        refine W2_inTuple (by decide +kernel) ((Sh.str (k := 0) (by decide +kernel)).shaped (by decide)) R'.u65 ?_
        rw [show (([.str (PySem.Str.ofString "begin"), .str (PySem.Str.ofString "end")] : List PyData).any fun y => PyData.eqv y (mkD .fin)) = true by decide +kernel]
        walk_at "q"
        refine W2_get (WI_dictS (H.get .n0) .n1 ?_)
        walk_at "q"
        refine W3_dictS (H.get .n0) .n1 bkNd (by show 5 ≤ 1000; decide) ?_
        walk_at "q"
        rename_i σ₃ H
        refine ⟨r'.length, by rw [List.length_cons]; lia, a' + 1, r', u', i' + 1, _, H, hdrop, by lia, ?_, rfl, rfl⟩
        rw [← hn]; simp only [nextP]; rw [if_neg hi]
      | lf w ds =>
        have hw : (w, ds) ∈ leafs := hM _ hmM
        obtain ⟨⟨h0, _, _, _, _⟩, hD, hds⟩ := leafs_ok hw
        have wS : shaped (.str w) = true := (Sh.str (k := 0) h0).shaped (by decide)
        have mS : Sh 1 (mkD (.lf w ds)) := Sh.tuple fun x hx => by
          rcases List.mem_cons.mp hx with rfl | hx
          · exact .str h0
          · exact hds x hx
        refine W2_inTuple (by decide +kernel) (mS.shaped (by decide)) R'.u65 ?_
        rw [show (([.str (PySem.Str.ofString "begin"), .str (PySem.Str.ofString "end")] : List PyData).any fun y => PyData.eqv y (mkD (.lf w ds))) = false by simp [mkD, PyData.eqv]]
        walk_at "w"
        walk_at "w"
        walk_at "w"
        with_reducible refine WS_if ?_
        refine WG.mono (Q := fun y σ' => y = (!hv && (isCol w || isData w)) ∧ σ₂ = σ') ?tst ?go fun _ _ _ q => q
        case tst =>
          walk_at "q"
          refine WI_tuple (by decide) (by decide) rfl ?_
          walk_at "q"
          refine W2_inTuple (by decide +kernel) wS R'.u65 ?_
          rw [show (([.str (PySem.Str.ofString "L"), .str (PySem.Str.ofString ":")] : List PyData).any fun y => PyData.eqv y (.str w)) = (isCol w || isData w) by
            simp only [List.any_cons, List.any_nil, eqv_str, Bool.or_false]
            rw [hD, BEq.comm (a := PySem.Str.ofString "L"), BEq.comm (a := PySem.Str.ofString ":"), Bool.or_comm]; rfl]
          walk_at "q"
          refine ifB (fun h => ?_) fun h => ?_
          · walk_at "q"
            cases hv with
            | true => walk_at "q"; refine ifF ?_; exact ⟨by rw [h]; rfl, rfl⟩
            | false => walk_at "q"; refine ifT ?_; walk_at "q"; exact ⟨by rw [h]; rfl, rfl⟩
          · exact ⟨by rw [h]; simp, rfl⟩
        case go =>
        rintro y σ' ⟨rfl, rfl⟩
        refine ifB (fun h => ?_) fun h => ?_
        · walk_at "q"
          refine q2 (.lf w ds :: r') u' (i' + 1) ?_ _ _ H hr ha
          rw [← hn]; simp only [nextP]; rw [if_neg hi, if_pos h]
        · have hn' : (if isCol w = true then nextP hv r' (isData w || u') (if isData w = true then 0 else i' + 1) else .item (.tuple (.str w :: ds)) r' (isData w || u') (if isData w = true then 0 else i' + 1)) = nextP hv r u i := by
            rw [← hn]; simp only [nextP]; rw [if_neg hi, if_neg (show ¬ (!hv && (isCol w || isData w)) = true from by rw [h]; decide)]
          walk_at "q"
          refine W2_get (WI_dictS (H.get .n0) .n1 ?_)
          walk_at "q"
          refine W3_dictS (H.get .n0) .n1 bkNd (by show 5 ≤ 1000; decide) ?_
          walk_at "q"
          rename_i σ₃ H
          refine WI_tuple (by decide) (by decide) rfl ?_
          walk_at "q"
          refine ifB (fun h => ?_) fun h => ?_
          · have hd : isData w = true := hD.trans h
            simp only [hd, Bool.true_or, ↓reduceIte] at hn'
            walk_at "q"
            with_reducible refine WS_assignTo ?_ (by kernel_rfl) (by kernel_rfl) (by kernel_rfl)
            walk_at "q"
            with_reducible refine WU_sub ?_
            walk_at "q"
            refine W3_dictS (H.get .n0) .n3 bkNd (by show 5 ≤ 1000; decide) ?_
            walk_at "q"
            rename_i σ₄ H
            with_reducible refine WS_assignTo ?_ (by kernel_rfl) (by kernel_rfl) (by kernel_rfl)
            walk_at "q"
            with_reducible refine WU_sub ?_
            walk_at "q"
            refine W3_dictS (H.get .n0) .n4 bkNd (by show 5 ≤ 1000; decide) ?_
            walk_at "q"
            rename_i σ₅ H
            walk_at "q"
            refine WI_tuple (by decide) (by decide) rfl ?_
            walk_at "q"
            refine ifB (fun h => ?_) fun h => ?_
            · walk_at "q"
              have hnc : ¬ isCol w = true := by
                intro h2
                have h3 : (!(w == PySem.Str.ofString ":")) = true := h
                have h4 : (w == PySem.Str.ofString ":") = true := h2
                rw [h4] at h3; cases h3
              exact q3 (.tuple (.str w :: ds)) r' true 0 (by rw [← hn', if_neg hnc]) _ (a' + 1) H hdrop (by lia) ⟨w, ds, rfl, hw⟩
            · walk_at "q"
              have h2 : isCol w = true := by
                have h3 : (!(w == PySem.Str.ofString ":")) = false := h
                unfold isCol
                cases hc : (w == PySem.Str.ofString ":") with
                | true => rfl
                | false => rw [hc] at h3; cases h3
              rw [if_pos h2] at hn'
              exact ⟨r'.length, by rw [List.length_cons]; lia, a' + 1, r', true, 0, _, H, hdrop, by lia, hn', rfl, rfl⟩
          · have hd : isData w = false := hD.trans h
            simp only [hd, Bool.false_or, Bool.false_eq_true, ↓reduceIte] at hn'
            walk_at "q"
            refine WI_tuple (by decide) (by decide) rfl ?_
            walk_at "q"
            refine ifB (fun h => ?_) fun h => ?_
            · walk_at "q"
              have hnc : ¬ isCol w = true := by
                intro h2
                have h3 : (!(w == PySem.Str.ofString ":")) = true := h
                have h4 : (w == PySem.Str.ofString ":") = true := h2
                rw [h4] at h3; cases h3
              exact q3 (.tuple (.str w :: ds)) r' u' (i' + 1) (by rw [← hn', if_neg hnc]) _ (a' + 1) H hdrop (by lia) ⟨w, ds, rfl, hw⟩
            · walk_at "q"
              have h2 : isCol w = true := by
                have h3 : (!(w == PySem.Str.ofString ":")) = false := h
                unfold isCol
                cases hc : (w == PySem.Str.ofString ":") with
                | true => rfl
                | false => rw [hc] at h3; cases h3
              rw [if_pos h2] at hn'
              exact ⟨r'.length, by rw [List.length_cons]; lia, a' + 1, r', u', i' + 1, _, H, hdrop, by lia, hn', rfl, rfl⟩
end
/-! P28 -/
section
variable {B : Bs} {c : Cx} {ρ : Loc} {σ : AH} {s : Shared}
/-! the plain facts of _law_steps -/
noncomputable def fB : Nat → Nat
  | 0 => 3
  | d + 1 => 2 + 2 * fB d
noncomputable def gB : Nat → Nat
  | 0 => 7
  | d + 1 => 1 + 3 * (2 * gB d + 1)
theorem fB_pos : ∀ d, 3 ≤ fB d
  | 0 => by decide
  | d + 1 => by have := fB_pos d; unfold fB; lia
theorem gB_pos : ∀ d, 7 ≤ gB d
  | 0 => by decide
  | d + 1 => by have := gB_pos d; unfold gB; lia
theorem flatPs_len {b : Nat} : ∀ {l : List Pt} {s : Nat}, (∀ p ∈ l, ∀ s, (flatP p s).length ≤ b) → (flatPs l s).length ≤ l.length * b
  | [], s, _ => by simp only [flatPs, List.length_nil]; lia
  | p :: l, s, h => by
    simp only [flatPs]
    rw [List.length_append, List.length_cons, Nat.succ_mul]
    have h1 := h p (.head _) s
    have h2 := flatPs_len (s := s + (flatP p s).length) fun q hq => h q (.tail _ hq)
    lia
theorem marksPs_len {b : Nat} : ∀ {l : List Pt}, (∀ p ∈ l, (marksP p).length ≤ b) → (marksPs l).length ≤ l.length * b
  | [], _ => by simp only [marksPs, List.length_nil]; lia
  | p :: l, h => by
    simp only [marksPs]
    rw [List.length_append, List.length_cons, Nat.succ_mul]
    have h1 := h p (.head _)
    have h2 := marksPs_len fun q hq => h q (.tail _ hq)
    lia
theorem LawP.flat {d : Nat} {p : Pt} (h : LawP d p) : ∀ s, (flatP p s).length ≤ fB d := by
  induction h with
  | @leaf d w ds h => intro s; have := fB_pos d; simp only [flatP, List.length_singleton]; lia
  | @rep d n h1 h2 => intro s; have := fB_pos d; simp only [flatP, List.length_cons, List.length_append, List.length_nil]; lia
  | @grp d n l h1 h2 h3 _ ih =>
    intro s
    simp only [flatP, List.length_cons, List.length_append, List.length_nil]
    have := flatPs_len (l := l) (s := s + 1) ih
    have h4 : l.length * fB d ≤ 2 * fB d := Nat.mul_le_mul_right _ h3
    show _ ≤ 2 + 2 * fB d
    lia
theorem LawP.marks {d : Nat} {p : Pt} (h : LawP d p) : (marksP p).length ≤ gB d := by
  induction h with
  | @leaf d w ds h => have := gB_pos d; simp only [marksP, List.length_singleton]; lia
  | @rep d n h1 h2 =>
    have := gB_pos d
    simp only [marksP]
    rw [List.length_cons, flat_len]
    have : n = 2 ∨ n = 3 := by lia
    rcases this with rfl | rfl <;> (simp; lia)
  | @grp d n l h1 h2 h3 _ ih =>
    simp only [marksP]
    rw [List.length_cons, flat_len, List.length_append, List.length_singleton]
    have := marksPs_len (l := l) ih
    have h4 : l.length * gB d ≤ 2 * gB d := Nat.mul_le_mul_right _ h3
    have h5 : n.toNat * ((marksPs l).length + 1) ≤ 3 * (2 * gB d + 1) := Nat.mul_le_mul (by lia) (by lia)
    show _ ≤ 1 + 3 * (2 * gB d + 1)
    lia
theorem words_all : ∀ {l : List Pt}, (∀ p ∈ l, ∀ m ∈ marksP p, okM m) → ∀ m ∈ marksPs l, okM m
  | [], _ => fun m hm => by simp only [marksPs] at hm; cases hm
  | p :: l, h => fun m hm => by
    simp only [marksPs] at hm
    rcases List.mem_append.mp hm with hm | hm
    · exact h p (.head _) m hm
    · exact words_all (fun q hq => h q (.tail _ hq)) m hm
theorem LawP.words {d : Nat} {p : Pt} (h : LawP d p) : ∀ m ∈ marksP p, okM m := by
  have node : ∀ (k : Nat) (inner : List Mk), (∀ m ∈ inner, okM m) → ∀ m ∈ Mk.beg :: (List.replicate k (inner ++ [.fin])).flatten, okM m := by
    intro k inner hi m hm
    rcases List.mem_cons.mp hm with rfl | hm
    · trivial
    · obtain ⟨l, hl, hm⟩ := List.mem_flatten.mp hm
      rw [(List.mem_replicate.mp hl).2] at hm
      rcases List.mem_append.mp hm with hm | hm
      · exact hi m hm
      · obtain rfl := List.mem_singleton.mp hm; trivial
  induction h with
  | @leaf d w ds h => intro m hm; simp only [marksP] at hm; obtain rfl := List.mem_singleton.mp hm; exact h
  | @rep d n h1 h2 =>
    simp only [marksP]
    refine node _ _ fun m hm => ?_
    obtain rfl := List.mem_singleton.mp hm
    show (PySem.Str.ofString "L", [PyData.int 1]) ∈ leafs
    exact .tail _ (.tail _ (.tail _ (.tail _ (.head _))))
  | @grp d n l h1 h2 h3 _ ih =>
    simp only [marksP]
    exact node _ _ (words_all ih)
/-- the last group of a format -/
noncomputable def pl (ls : List Pt) (m : Nat) : List Nat := (List.range m).filter fun i => (ls[i]?.map isG).getD false
theorem pl_succ {ls : List Pt} {m : Nat} : pl ls (m + 1) = pl ls m ++ (if (ls[m]?.map isG).getD false = true then [m] else []) := by
  unfold pl
  rw [List.range_succ, List.filter_append]
  congr 1
  by_cases h : (ls[m]?.map isG).getD false = true
  · rw [if_pos h]; simp [h]
  · rw [if_neg h]; simp [h]
theorem agP_none : ∀ {l : List Pt} {s g : Nat}, (∀ p ∈ l, isG p = false) → agP l s g = g
  | [], _, _, _ => rfl
  | p :: l, s, g, h => by
    simp only [agP]
    rw [h p (.head _), agP_none fun q hq => h q (.tail _ hq)]
    rfl
theorem agP_app : ∀ {a b : List Pt} {s g : Nat}, agP (a ++ b) s g = agP b (s + (flatPs a s).length) (agP a s g)
  | [], b, s, g => by simp only [List.nil_append, flatPs, List.length_nil, Nat.add_zero, agP]
  | p :: a, b, s, g => by
    rw [List.cons_append]
    simp only [agP, flatPs]
    rw [agP_app, List.length_append, Nat.add_assoc]
theorem flatPs_app : ∀ {a b : List Pt} {s : Nat}, flatPs (a ++ b) s = flatPs a s ++ flatPs b (s + (flatPs a s).length)
  | [], b, s => by simp only [List.nil_append, flatPs, List.length_nil, Nat.add_zero]
  | p :: a, b, s => by
    rw [List.cons_append]
    simp only [flatPs]
    rw [flatPs_app, List.length_append, Nat.add_assoc, List.append_assoc]
theorem pl_mem {ls : List Pt} {m i : Nat} : i ∈ pl ls m ↔ i < m ∧ (ls[i]?.map isG).getD false = true := by
  unfold pl; rw [List.mem_filter, List.mem_range]
/-- where the format begins anew: in its flat form, and in its marks -/
theorem again_of {d : Nat} {ls : List Pt} (hok : ∀ p ∈ ls, OkP d p) (x : Nat) (hx : (pl ls ls.length = [] ∧ x = 0) ∨ ∃ init, pl ls ls.length = init ++ [x]) :
    Runs (flatPs ls 0) (agP ls 0 0) [] ((marksPs ls).drop (marksPs (ls.take x)).length) ∧ (marksPs (ls.take x)).length ≤ (marksPs ls).length := by
  have hag : agP ls 0 0 = (flatPs (ls.take x) 0).length := by
    rcases hx with ⟨h, rfl⟩ | ⟨init, h⟩
    · rw [List.take_zero]
      refine (agP_none fun p hp => ?_).trans (by simp only [flatPs, List.length_nil])
      obtain ⟨i, hi, rfl⟩ := List.mem_iff_getElem.mp hp
      cases hg : isG ls[i] with
      | false => rfl
      | true =>
        have : i ∈ pl ls ls.length := pl_mem.mpr ⟨hi, by rw [List.getElem?_eq_getElem hi]; simpa using hg⟩
        rw [h] at this; cases this
    · have hmem : x ∈ pl ls ls.length := by rw [h]; exact List.mem_append_right _ (.head _)
      obtain ⟨hxl, hxg⟩ := pl_mem.mp hmem
      rw [List.getElem?_eq_getElem hxl] at hxg
      have hxg' : isG ls[x] = true := by simpa using hxg
      have hsplit : ls = ls.take x ++ (ls[x] :: ls.drop (x + 1)) := by rw [← List.drop_eq_getElem_cons hxl, List.take_append_drop]
      have hnone : ∀ p ∈ ls.drop (x + 1), isG p = false := fun p hp => by
        obtain ⟨i, hi, rfl⟩ := List.mem_iff_getElem.mp hp
        have hlt : x + 1 + i < ls.length := by rw [List.length_drop] at hi; lia
        rw [List.getElem_drop]
        cases hg : isG (ls[x + 1 + i]'hlt) with
        | false => rfl
        | true =>
          exfalso
          have hm : x + 1 + i ∈ pl ls ls.length := pl_mem.mpr ⟨hlt, by rw [List.getElem?_eq_getElem hlt]; simpa using hg⟩
          have hp : (pl ls ls.length).Pairwise (· < ·) := List.Pairwise.filter _ List.pairwise_lt_range
          rw [h] at hm hp
          rcases List.mem_append.mp hm with hm | hm
          · have := (List.pairwise_append.mp hp).2.2 _ hm x (.head _); lia
          · have := List.mem_singleton.mp hm; lia
      conv => lhs; rw [hsplit]
      rw [agP_app]
      simp only [agP]
      rw [hxg', agP_none hnone, Nat.zero_add]
      rfl
  have hM : marksPs ls = marksPs (ls.take x) ++ marksPs (ls.drop x) := by rw [← marks_app, List.take_append_drop]
  refine ⟨?_, by rw [hM, List.length_append]; lia⟩
  have hd : (marksPs ls).drop (marksPs (ls.take x)).length = marksPs (ls.drop x) := by rw [hM, List.drop_left]
  rw [hd, hag]
  have hF : flatPs ls 0 = flatPs (ls.take x) 0 ++ flatPs (ls.drop x) (flatPs (ls.take x) 0).length := by
    have := flatPs_app (a := ls.take x) (b := ls.drop x) (s := 0)
    rw [List.take_append_drop, Nat.zero_add] at this
    exact this
  have hA : At_ (flatPs ls 0) (flatPs (ls.take x) 0).length (flatPs (ls.drop x) (flatPs (ls.take x) 0).length) := by
    have : At_ (flatPs ls 0) 0 (flatPs (ls.take x) 0 ++ flatPs (ls.drop x) (flatPs (ls.take x) 0).length) := fun j y e => by rw [Nat.zero_add, hF]; exact e
    have := this.right
    rwa [Nat.zero_add] at this
  have := runs_list (fl := flatPs ls 0) (runs_of d) (ls.drop x) (fun p hp => hok p (List.mem_of_mem_drop hp)) _ [] [] hA (by
    have e : (flatPs (ls.take x) 0).length + (flatPs (ls.drop x) (flatPs (ls.take x) 0).length).length = (flatPs ls 0).length := by rw [hF, List.length_append]
    rw [e]; exact .done)
  rwa [List.append_nil] at this
theorem pick_take {ds : List PyData} {x : Nat} : pickD ds none (some (x : Int)) = ds.take x := by
  unfold pickD
  rw [sliceBounds_plain]
  simp only [Option.elim, clipAt_nat, sliceRange_one]
  have := pick_run ds.toArray 0 (min x ds.length - 0)
  simp only [List.drop_zero, Nat.sub_zero] at this ⊢
  have e : (fun j : Nat => ds.toArray[j]?) = fun j : Nat => ds[j]? := by funext j; simp
  rw [e] at this
  rw [this]
  rcases Nat.le_total x ds.length with h | h
  · rw [Nat.min_eq_left h]
  · rw [Nat.min_eq_right h, List.take_of_length_le (Nat.le_refl _), List.take_of_length_le h]
theorem WI_dlist_last {ds : List PyData} {x : PyData} {Q : AV → AH → Prop} {X : XT} (hl : ds.length < 2 ^ 62) (q : Q (.data x) σ) : WI B c (.data (.list (ds ++ [x]))) (.data (.int (-1))) ρ σ Q X := fun v u s S r1 r2 => by
  obtain ⟨t, rfl⟩ := int_of r2
  obtain ⟨a, o, vs, n, rfl, q1, e1, e2, e3, hr, hlen⟩ := dlist_of r1
  rw [List.length_append, List.length_singleton] at hlen
  obtain ⟨x', hx, rx⟩ := hr.get (i := ds.length) (x := .data x) (by rw [List.getElem?_map]; simp)
  have hx' : vs[ds.length]? = some x' := by simpa using hx
  refine ⟨"list", _, Slot.lookup PySem.F.slot_list_getitem, ⟨_, e1, e2⟩, wpAny_getItem_list_neg ⟨_, e1, e2, n, e3⟩ (by lia) (by lia) (by lia) (x := x') ?_ (PG.here S rx q)⟩
  rw [show (-1 + (vs.size : Int)).toNat = ds.length by lia]
  exact hx'
end
/-! P29a -/
section
variable {B : Bs} {c : Cx} {ρ : Loc} {σ : AH} {s : Shared}
theorem St.sameBut (S : St B c ρ σ s) {C : Addr} {h' : Heap} (h0 : B.H0.get? C = none) (hl : C ≠ c.env.locals) (hf : ∀ e ∈ c.frames, ∀ L, e.frame = some L → L ≠ C) (hσ : σ C = none) (N : NsAt s.heap C) (hs : Heap.SameBut C s.heap h') : St B c ρ σ { s with heap := h' } := by
  have X : Ext C σ s.heap σ h' := Ext.of_keep (fun b o e _ n => (hs.2 b n).trans e) fun _ _ _ q => q
  have keep : ∀ b o, b ≠ C → s.heap.get? b = some o → h'.get? b = some o := fun b o n e => (hs.2 b n).trans e
  refine { S with locals := ?_, keep := ?_, funs := ?_, objs := ?_ }
  · obtain ⟨m, hm, hr⟩ := S.locals
    refine ⟨m, ?_, fun y av hy => let ⟨v, h1, h2⟩ := hr y av hy; ⟨v, h1, h2.ext N X⟩⟩
    exact Ns.slots (o := emptyDict) hm fun o e => ⟨o.slots, keep _ _ (Ne.symm hl) e⟩
  · exact fun b o e => keep b o (by rintro rfl; rw [h0] at e; cases e) (S.keep b o e)
  · have go : ∀ l : List Env, (∀ e ∈ l, e ∈ c.frames) → s.heap.FunFrames B.H0 l → h'.FunFrames B.H0 l := by
      intro l
      induction l with
      | nil => intro _ _; trivial
      | cons e l ih =>
        intro hm hfr
        obtain ⟨h1, ⟨L, o, hf1, hn, hL1, hd1⟩, hr⟩ := hfr
        exact ⟨h1, ⟨L, _, hf1, hn, keep L o (hf e (hm e (.head _)) L hf1) hL1, hd1⟩, ih (fun e he => hm e (.tail _ he)) hr⟩
    exact go _ (fun _ h => h) S.funs
  · intro a ao q
    obtain ⟨a0, ⟨o, e⟩, r⟩ := S.objs a ao q
    have hne : a ≠ C := by rintro rfl; rw [hσ] at q; cases q
    exact ⟨a0, ⟨o, keep a o hne e⟩, r.ext N X (fun b o bo e qb _ => keep b o (by rintro rfl; rw [hσ] at qb; cases qb) e) (fun _ _ q _ => q) q⟩
section
variable {σb : AH} {Q : QS} {X : XT}
theorem WS_assignComp {J : List (Addr × AO) → List PyData → List PyData → Prop} {elt iter : Expr} {x y : Str} {px yp pos ap : Pos} {ifs : List Expr} {scope : Scope} {cl : List (Str × Addr)} {rest : List Stmt} (hh : c.hd = none) (hclos : closureFor scope c.env = pure cl)
    (hsz : ∀ l ds acc, J l ds acc → acc.length ≤ sizeLine)
    (h : WE B c iter ρ σ (fun a σ₁ => ∃ ds l, Itb B c a ds σ₁ ∧ Hs σb σ₁ l ∧ J l ds []) X)
    (step : ∀ C d ds acc σ₁ l, Hs σb σ₁ l → J l (d :: ds) acc → WIfs B (c.comp scope cl C) ifs [(x, some (.data d))] σ₁ (fun ok σ₂ => σ₂ = σ₁ ∧ if ok = true then WE B (c.comp scope cl C) elt [(x, some (.data d))] σ₁ (fun a σ₃ => ∃ y l', a = .data y ∧ Hs σ₁ σ₃ l' ∧ l'.map (·.1) = l.map (·.1) ∧ J l' ds (acc ++ [y])) noX else J l ds acc))
    (hend : ∀ acc σ₁ l, Hs σb σ₁ l → J l [] acc → ∃ ρ', Put ρ y (.data (.list acc)) ρ' ∧ WS B c rest ρ' σ₁ Q X)
    (hcell : ∀ y ∈ scope.names, y.2 ≠ .cell) (hnames : ∀ y ∈ scope.names, y.2 = .local → scope.names.lookup y.1 = some .local) (hx : scope.names.lookup x = some .local) (hkind : scope.kind = .function)
    (hs : ∀ x, foldedSetIterable iter c.env x = pure x) (hsw : swapsWith (.ListComp elt [⟨.Name x px, iter, ifs, 0⟩] scope pos) (some (.Name y yp)) ap.line c.env = pure true) : WS B c (.Assign [.Name y yp] (.ListComp elt [⟨.Name x px, iter, ifs, 0⟩] scope pos) ap :: rest) ρ σ Q X := fun s S => by
  refine wpAny_execs_cons ?_
  rw [exec_Assign_Name_used _ _ _ _ hsw]
  refine wpAny_bind (wpAny_standAt (wpAny_bind ?_))
  rw [arm_evalThenUse_ListComp]
  refine wpAny_bind ?_
  refine comp_core S (I := fun σ₀ ds acc σ => ∃ l, Hs σb σ l ∧ (∀ p ∈ l, σ₀ p.1 ≠ none) ∧ (∀ b, σb b ≠ none → σ₀ b ≠ none) ∧ J l ds acc) hh hclos ?_ ?_ ?_ ?_ ?_ hcell hnames hx hkind hs
  · rintro σ₀ it ds acc σ σ' h0 ⟨l, H, h1, h2, j⟩ e
    refine ⟨l, ⟨fun p hp => ?_, H.nd, H.nr, fun b ao q hm => ?_, H.ro⟩, h1, h2, j⟩
    · rw [e _ (by rintro rfl; exact h1 p hp h0)]; exact H.hat p hp
    · rw [e _ (by rintro rfl; exact h2 _ (by rw [q]; exact Option.some_ne_none _) h0)]; exact H.fr b ao q hm
  · rintro σ₀ ds acc σ ⟨l, _, _, _, j⟩; exact hsz l ds acc j
  · refine WG.mono h ?_ fun _ _ _ q => q
    rintro a σ₁ ⟨ds, l, h1, H, j⟩
    refine ⟨ds, h1, l, H, fun p hp e => (by rw [H.hat p hp] at e; cases e), fun b hb e => hb (H.base e), j⟩
  · rintro σ₀ C d ds acc σ₁ ⟨l, H, h1, h2, j⟩
    intro s E S
    refine wpAny_mono (step C d ds acc σ₁ l H j s E S) (fun ok s' => ?_) fun _ _ q => q
    rintro ⟨y, σ₂, S', E', r, rfl, hW⟩
    refine ⟨y, σ₂, S', E', r, Raws.refl, ?_⟩
    split
    · rename_i hy
      rw [if_pos hy] at hW
      refine WG.mono hW ?_ fun _ _ _ q => q
      rintro a σ₃ ⟨y', l', ha, H', hk, j'⟩
      refine ⟨y', ha, H'.raws, l', H.trans H' (fun b hb => hk ▸ hb), fun p hp => ?_, h2, j'⟩
      obtain ⟨p', hp', e⟩ := List.mem_map.mp (hk ▸ List.mem_map_of_mem (f := (·.1)) hp : p.1 ∈ l.map (·.1))
      exact e ▸ h1 p' hp'
    · rename_i hy
      rw [if_neg hy] at hW
      exact ⟨l, H, h1, h2, hW⟩
  · rintro σ₀ acc σ' s₄ D C ⟨l, H, _, _, j⟩ ⟨mC, hmC⟩ hσC h0 hCl hCf hCs hback r
    obtain ⟨ρ', hp, hW⟩ := hend acc σ' l H j
    obtain ⟨S₄, E₄, r₄⟩ := hback s₄.heap (.refl _ _)
    refine wpAny_assign_Name (storeName_T S₄ hp r₄ fun s₅ S₅ E₅ => ?_)
    have hN : ∃ m, s₅.heap.Ns C m := by
      refine ⟨mC, Ns.slots (o := emptyDict) hmC fun o e => ?_⟩
      obtain ⟨_, o', e', x1⟩ := E₅ C o e hσC hCl
      obtain ⟨sl, rfl⟩ := x1 fun vs _ q => by
        obtain ⟨o2, _, _, e2, d2, _⟩ := hmC
        rw [e] at e2; cases e2; rw [d2] at q; cases q
      exact ⟨sl, e'⟩
    obtain ⟨m5, hm5⟩ := hN
    refine ⟨m5, hm5, fun h' hs' => ?_⟩
    have S₆ := S₅.sameBut (h' := h') h0 hCl hCf hσC ⟨m5, hm5⟩ hs'
    have E₆ : Ext c.env.locals σ s.heap σ' h' := fun b o e q n => by
      obtain ⟨q', o', e', x1⟩ := (E₄.trans E₅) b o e q n
      have hne : b ≠ C := by rintro rfl; exact hCs o e q
      exact ⟨q', o', (hs'.2 b hne).trans e', x1⟩
    exact wpAny_pure (wpAny_pure (WS.run hW S₆ E₆))
end
end
/-! P29 -/
section
variable {B : Bs} {c : Cx} {ρ : Loc} {σ : AH} {s : Shared}
/-! _law_steps -/
inductive Out (rA : List Mk) : Res → PyData → List Mk → Bool → Int → Prop
  | stop {r u i} : Out rA (.stop r u i) .none r u i
  | item {d r u i} : Out rA (.item d r u i) d r u i
  | turn {i} : Out rA (.turn i) (.tuple [.str (PySem.Str.ofString "/")]) rA false i
theorem out_of {rA : List Mk} (res : Res) : res = .fault ∨ ∃ d r u i, Out rA res d r u i := by
  cases res with
  | fault => exact .inl rfl
  | stop r u i => exact .inr ⟨_, _, _, _, .stop⟩
  | item d r u i => exact .inr ⟨_, _, _, _, .item⟩
  | turn i => exact .inr ⟨_, _, _, _, .turn⟩
noncomputable def Mild (d : PyData) : Prop := Sh 1 d ∧ PyData.eqv d (.str (PySem.Str.ofString "fault")) = false
theorem lawNextO (L : BL B) {n : Nat} (R : Rm c (n + 6)) {bk : Addr} {M r r2 : List Mk} {a ag : Nat} {u hv u2 : Bool} {i i2 : Int} {d : PyData} (hM : ∀ m ∈ M, okM m) (hMl : M.length ≤ 2 ^ 20) (hr : M.drop a = r) (ha : a ≤ M.length) (hag : ag ≤ M.length)
    (H : Hs σ σ [(bk, .dictS (bkA (mks M) a ag u i))]) (hO : Out (M.drop ag) (nextP hv r u i) d r2 u2 i2) {Q : AV → AH → Prop} {X : XT}
    (q : ∀ σ' a', Hs σ σ' [(bk, .dictS (bkA (mks M) a' ag u2 i2))] → M.drop a' = r2 → a' ≤ M.length → Mild d → Q (.data d) σ') : WFC B c (.val (.ref 372)) [.ref bk, .data (.bool hv)] ρ σ Q X := by
  refine lawNext L (n := n) (M := M) (r := r) (a := a) (ag := ag) (u := u) (hv := hv) (i := i) R hM hMl hr ha H (fun h => ?_) (fun r' u' i' h σ' a' H hd hl => ?_) (fun d' r' u' i' h σ' a' H hd hl hsh => ?_) fun i' h σ' H => ?_
  · rw [h] at hO; cases hO
  · rw [h] at hO; cases hO
    exact q σ' a' H hd hl ⟨.none, by simp [PyData.eqv]⟩
  · rw [h] at hO; cases hO
    obtain ⟨w, ds, rfl, hw⟩ := hsh
    obtain ⟨⟨h0, _⟩, _, hds⟩ := leafs_ok hw
    exact q σ' a' H hd hl ⟨Sh.tuple fun x hx => by
      rcases List.mem_cons.mp hx with rfl | hx
      · exact .str h0
      · exact hds x hx, by simp [PyData.eqv]⟩
  · rw [h] at hO; cases hO
    exact q σ' ag H rfl hag ⟨Sh.tuple fun x hx => by obtain rfl := List.mem_singleton.mp hx; exact .str (by decide +kernel), by simp [PyData.eqv]⟩
theorem nextItemO (L : BL B) {n : Nat} (R : Rm c (n + 6)) {x dx cn : Addr} {fl : List PyData} {ag a : Nat} {u hv u2 : Bool} {i i2 : Int} {cs : List Int} {r r2 rA : List Mk} {d : PyData} (hr : Runs fl a cs r) (hz : cs.length + r.length ≤ 2 ^ 20) (hfl : fl.length ≤ 2 ^ 20) (hA : Runs fl ag [] rA) (hAz : rA.length ≤ 2 ^ 20)
    (H : Hs σ σ [(x, .inst 132 dx (ctlA fl ag a cn u i)), (cn, .list (cI cs))]) (hO : Out rA (nextP hv r u i) d r2 u2 i2) {Q : AV → AH → Prop} {X : XT}
    (q : ∀ σ' a' cs', Hs σ σ' [(x, .inst 132 dx (ctlA fl ag a' cn u2 i2)), (cn, .list (cI cs'))] → Runs fl a' cs' r2 → cs'.length + r2.length ≤ 2 ^ 20 → Q (.data d) σ') : WFC B c (.val (.ref 115)) [.ref x, .data (.bool hv)] ρ σ Q X := by
  refine nextItem L (n := n) (x := x) (dx := dx) (cn := cn) (fl := fl) (ag := ag) (a := a) (u := u) (hv := hv) (i := i) (cs := cs) (r := r) R hr hz hfl H (fun h => ?_) (fun r' u' i' h σ' a' cs' H hr' hz' => ?_) (fun d' r' u' i' h σ' a' cs' H hr' hz' => ?_) fun i' h σ' H => ?_
  · rw [h] at hO; cases hO
  · rw [h] at hO; cases hO
    exact q σ' a' cs' H hr' hz'
  · rw [h] at hO; cases hO
    exact q σ' a' cs' H hr' hz'
  · rw [h] at hO; cases hO
    exact q σ' ag [] H hA (by rw [List.length_nil]; lia)
inductive treeJ (L' u P : Addr) (ns : List Int) (k : Int) (l : List (Addr × AO)) (ds acc : List PyData) : Prop
  | mk (kk : Int) (ps : List Pt) (h0 : l = [(L' + 1 + 1 + 1 + 1, .cell none), (L' + 1 + 1 + 1, .cell none), (L' + 1 + 1, .cell none), (L' + 1, .cell (some (.ref u))), (u, urnL ns kk), (P, .tabl lamAl)]) (h1 : acc = ptDs ps) (h2 : (∀ p ∈ ps, LawP 2 p)) (h3 : k ≤ kk) (h4 : kk + 17 * ds.length ≤ k + 52) (h5 : ps.length + ds.length ≤ 3) : treeJ L' u P ns k l ds acc
inductive plJ (L' u P : Addr) (ns : List Int) (kk : Int) (ls : List Pt) (l : List (Addr × AO)) (ds acc : List PyData) : Prop
  | mk (m : Nat) (h0 : l = [(L' + 1 + 1 + 1 + 1, .cell none), (L' + 1 + 1 + 1, .cell none), (L' + 1 + 1, .cell (some (.data (.list (ptDs ls))))), (L' + 1, .cell (some (.ref u))), (u, urnL ns kk), (P, .tabl lamAl)]) (h1 : ds = ((List.range ls.length).drop m).map (fun k : Nat => .int (0 + (k : Int)))) (h2 : acc = (pl ls m).map (fun i : Nat => .int (i : Int))) (h3 : m ≤ ls.length) : plJ L' u P ns kk ls l ds acc
inductive stepJ (L' u P bk cn ct dc : Addr) (ns : List Int) (k : Int) (ls : List Pt) (ag : Nat) (pD : PyData) (l : List (Addr × AO)) (ds : List PyData) (ρ : Loc) : Prop
  | mk (k2 : Int) (a af : Nat) (r : List Mk) (u' : Bool) (i : Int) (cs : List Int) (hvc b1 b2 b3 : Option AV) (h0 : l = [(bk, .dictS (bkA (mks (marksPs ls)) a ag u' i)), (cn, .list (cI cs)), (ct, .inst 132 dc (ctlA (flatPs ls 0) (agP ls 0 0) af cn u' i)), (L' + 1 + 1 + 1 + 1, .cell hvc), (L' + 1 + 1 + 1, .cell (some (.ref ct))), (L' + 1 + 1, .cell (some (.data (.list (ptDs ls))))), (L' + 1, .cell (some (.ref u))), (u, urnL ns k2), (P, .tabl lamAl)]) (h1 : (marksPs ls).drop a = r) (h2 : a ≤ (marksPs ls).length) (h3 : Runs (flatPs ls 0) af cs r) (h4 : cs.length + r.length ≤ 2 ^ 20) (h5 : k ≤ k2) (h6 : k2 + ds.length ≤ k + 70) (h7 : ρ = [(PySem.Str.ofString "_", b1), (PySem.Str.ofString "places", some (.data pD)), (PySem.Str.ofString "again", some (.data (.int (ag : Int)))), (PySem.Str.ofString "book", some (.ref bk)), (PySem.Str.ofString "due", b2), (PySem.Str.ofString "heard", b3)]) : stepJ L' u P bk cn ct dc ns k ls ag pD l ds ρ
theorem lawSteps (L : BL B) {n : Nat} (R : Rm c (n + 20)) {u P : Addr} {ns : List Int} {k : Int} (H : Hs σ σ [(u, urnL ns k), (P, .tabl lamAl)]) (h0 : 0 ≤ k) (hk : k < 2 ^ 19) (hn : ns.length ≤ 100) (hC : CodeHd B.H0 376 P)
    {Q : AV → AH → Prop} {X : XT} (q : ∀ σ' k', k ≤ k' → k' ≤ k + 80 → Hs σ σ' [(u, urnL ns k'), (P, .tabl lamAl)] → Q (.data (.bool true)) σ') : WFC B c (.val (.ref 377)) [.ref u] ρ σ Q X := by
  refine in377 L (body := ?b) ?hb R.dep ?hW
  case hb => with_unfolding_all rfl
  intro L' F
  have R' := R.child (e := callEnvC (fdOf B.w.params 377) L' 377)
  have hF : (c.child (callEnvC (fdOf B.w.params 377) L' 377)).Fun := Cx.childFun rfl rfl
  have bc1 := F (L' + 1) (Nat.le_succ _)
  have bc2 := F (L' + 1 + 1) (Nat.le_succ_of_le (Nat.le_succ _))
  have bc3 := F (L' + 1 + 1 + 1) (Nat.le_succ_of_le (Nat.le_succ_of_le (Nat.le_succ _)))
  have bc4 := F (L' + 1 + 1 + 1 + 1) (Nat.le_succ_of_le (Nat.le_succ_of_le (Nat.le_succ_of_le (Nat.le_succ _))))
  obtain ⟨H, F⟩ := H.cellN (v := some (.ref u)) (free1 F)
  obtain ⟨H, F⟩ := H.cellN (v := none) F
  obtain ⟨H, F⟩ := H.cellN (v := none) F
  obtain ⟨H, F⟩ := H.cellN (v := none) F
  revert H
  generalize upd (upd (upd (upd σ (L' + 1) (AO.cell (some (.ref u)))) (L' + 1 + 1) (AO.cell none)) (L' + 1 + 1 + 1) (AO.cell none)) (L' + 1 + 1 + 1 + 1) (AO.cell none) = σ₁
  intro H
  clear F
  with_reducible refine WS_assignTo ?_ (by kernel_rfl) (by kernel_rfl) (by kernel_rfl)
  with_reducible refine W_ListCompH (σb := σ) (cl := [(PySem.Str.ofString "urn", L' + 1)]) (J := treeJ L' u P ns k) R'.hh (by kernel_rfl) ?hsz ?iter ?step ?fin (noCell (by kernel_rfl)) (namesOk (by kernel_rfl)) (by kernel_rfl) (by kernel_rfl) (by intro x; kernel_rfl)
  case hsz =>
    rintro l ds acc ⟨kk, ps, rfl, rfl, _, _, _, h⟩
    rw [ptDs_len]; unfold sizeLine; lia
  case iter =>
    walk_at "r"
    with_reducible refine W_cell (k := L' + 1) (by kernel_rfl) (by walk_at "sig") ?_ (.inl (by kernel_rfl))
    walk_at "r"
    refine tellH L H (by walk_at "at") (by walk_at "at") h0 (by lia) hn (by lia) R'.dep fun v2 σ₄ hv20 hv22 H => ?_
    obtain ⟨m, rfl⟩ := Int.eq_ofNat_of_zero_le hv20
    walk_at "r"
    refine WF_range fun a t₁ t₂ t₃ ha => ?_
    refine ⟨_, _, Itb.range (upd_same _ _ _) (by lia), H.skip ha, k + 1, [], rfl, rfl, fun _ h => (by cases h), by lia, ?_, ?_⟩
    · simp only [List.length_map, List.length_range]; lia
    · simp only [List.length_map, List.length_range, List.length_nil]; lia
  case step =>
    rintro C dd ds acc σ₄ l H ⟨kk, ps, rfl, rfl, hps, hk1, hk2, hlen⟩
    have H := H.self
    refine WIfs_nil ⟨rfl, ?_⟩
    refine ifT ?_
    have R2 : ∀ sc cl C, Rm ((c.child (callEnvC (fdOf B.w.params 377) L' 377)).comp sc cl C) (n + 2 * (2 + 1)) := fun _ _ _ => (R'.less (by lia)).comp
    have lp : PartC B 2 := lawPart L 2
    unfold PartC at lp
    walk_at "r"
    with_reducible refine W_cell (k := L' + 1) (by kernel_rfl) (by walk_at "sig") ?_ (.inl (by kernel_rfl))
    walk_at "r"
    rw [List.length_cons] at hk2 hlen
    have ht : tells 2 = 17 := by decide
    rw [ht] at lp
    refine WF_of (lp (n := n) (u := u) (ns := ns) (k := kk) (R2 _ _ _) (H.sel (by walk_at "sel")) (by lia) (by lia) hn fun p σ₅ kk' hp h1 h2 H' => ?_)
    have H := H.join H' (by walk_at "mg")
    refine ⟨_, _, rfl, H, rfl, kk', ps ++ [p], rfl, ?_, ?_, by lia, by lia, by rw [List.length_append]; simp only [List.length_singleton]; lia⟩
    · rw [ptDs_map, ptDs_map, List.map_append]; rfl
    · intro x hx
      rcases List.mem_append.mp hx with hx | hx
      · exact hps x hx
      · obtain rfl := List.mem_singleton.mp hx; exact hp
  case fin =>
  rintro acc σ₂ l H ⟨kk, ls, rfl, rfl, hls, hk1, hk2, hl3⟩
  rw [List.length_nil] at hk2 hl3
  have hok : ∀ p ∈ ls, OkP 3 p := fun p hp => (hls p hp).ok
  have hfl : (flatPs ls 0).length ≤ 2 ^ 20 := Nat.le_trans (flatPs_len fun p hp => (hls p hp).flat) (Nat.le_trans (Nat.mul_le_mul_right _ hl3) (by decide))
  have hml : (marksPs ls).length ≤ 2 ^ 16 := Nat.le_trans (marksPs_len fun p hp => (hls p hp).marks) (Nat.le_trans (Nat.mul_le_mul_right _ hl3) (by decide))
  have hwd : ∀ m ∈ marksPs ls, okM m := words_all fun p hp => (hls p hp).words
  refine WU_cell (k := L' + 1 + 1) (o := none) (by kernel_rfl) (by walk_at "sig") ?_ (by kernel_rfl)
  walk_at "q"
  rename_i σ₃ H
  have R2 : ∀ sc cl C, Rm ((c.child (callEnvC (fdOf B.w.params 377) L' 377)).comp sc cl C) (n + 19) := fun _ _ _ => R'.comp
  with_reducible refine WS_assignComp (σb := σ) (cl := [(PySem.Str.ofString "tree", L' + 1 + 1)]) (J := plJ L' u P ns kk ls) R'.hh (by kernel_rfl) ?hsz2 ?iter2 ?step2 ?fin2 (noCell (by kernel_rfl)) (namesOk (by kernel_rfl)) (by kernel_rfl) (by kernel_rfl) (by intro x; kernel_rfl) (by kernel_rfl)
  case hsz2 =>
    rintro l ds acc ⟨m, rfl, rfl, rfl, hm⟩
    rw [List.length_map]
    have : (pl ls m).length ≤ m := by unfold pl; exact Nat.le_trans (List.length_filter_le _ _) (by rw [List.length_range]; exact Nat.le_refl _)
    unfold sizeLine; lia
  case iter2 =>
    walk_at "q"
    with_reducible refine W_cell (k := L' + 1 + 1) (by kernel_rfl) (by walk_at "sig") ?_ (.inl (by kernel_rfl))
    walk_at "q"
    refine WF_len_list (by rw [ptDs_len]; unfold sizeLine; lia) ?_
    rw [ptDs_len]
    walk_at "q"
    refine WF_range fun a t₁ t₂ t₃ ha => ?_
    exact ⟨_, _, Itb.range (upd_same _ _ _) (by lia), H.skip ha, 0, rfl, rfl, rfl, by lia⟩
  case step2 =>
    rintro C dd ds acc σ₄ l H ⟨m, rfl, hds, rfl, hm⟩
    have H := H.self
    have hml' : m < ls.length := by
      rcases Nat.lt_or_ge m ls.length with h | h
      · exact h
      · rw [List.drop_of_length_le (by rw [List.length_range]; exact h)] at hds; cases hds
    rw [List.drop_eq_getElem_cons (by rw [List.length_range]; exact hml'), List.map_cons, List.getElem_range] at hds
    obtain ⟨rfl, rfl⟩ := List.cons.inj hds
    obtain ⟨w, r, hD, hw, hG⟩ := head_of (hok ls[m] (List.getElem_mem hml'))
    have hpl := pl_succ (ls := ls) (m := m)
    rw [List.getElem?_eq_getElem hml'] at hpl
    refine WIfs_one ?_
    walk_at "q"
    with_reducible refine W_cell (k := L' + 1 + 1) (by kernel_rfl) (by walk_at "sig") ?_ (.inl (by kernel_rfl))
    walk_at "q"
    refine WI_list (d := ptD ls[m]) (by lia) (by lia) (by rw [show ((0 : Int) + (m : Int)).toNat = m by lia, ptDs_map, List.getElem?_map, List.getElem?_eq_getElem hml']; rfl) ?_
    rw [hD]
    walk_at "q"
    refine WI_tuple (by decide) (by decide) rfl ?_
    walk_at "q"
    refine W2_eqS hw (by kernel_rfl) (R2 _ _ _).u64 ?_
    rw [hG]
    walk_at "q"
    refine ⟨rfl, ?_⟩
    cases hg : isG ls[m] with
    | true =>
      refine ifT ?_
      walk_at "q"
      refine ⟨_, _, rfl, H, rfl, m + 1, rfl, rfl, ?_, hml'⟩
      rw [hpl]
      simp [hg]
    | false =>
      refine ifF ?_
      refine ⟨m + 1, rfl, rfl, ?_, hml'⟩
      rw [hpl]
      simp [hg]
  case fin2 =>
  rintro acc σ₄ l H ⟨m, rfl, hds, rfl, hm⟩
  have hme : m = ls.length := by
    rcases Nat.lt_or_ge m ls.length with h | h
    · rw [List.drop_eq_getElem_cons (by rw [List.length_range]; exact h)] at hds; cases hds
    · lia
  subst hme
  refine ⟨_, .n1, ?_⟩
  with_reducible refine WS_assign ?_ (by kernel_rfl)
  refine WG.mono (Q := fun a σ' => ∃ x : Nat, Grew σ₄ σ' ∧ a = AV.data (.int ((marksPs (ls.take x)).length : Int)) ∧ ((pl ls ls.length = [] ∧ x = 0) ∨ ∃ init, pl ls ls.length = init ++ [x])) ?ag ?more fun _ _ _ q => q
  case ag =>
    walk_at "w"
    walk_at "w"
    walk_at "w"
    have hple : (pl ls ls.length).length ≤ ls.length := by unfold pl; exact Nat.le_trans (List.length_filter_le _ _) (by rw [List.length_range]; exact Nat.le_refl _)
    rcases List.eq_nil_or_concat (pl ls ls.length) with hpl | ⟨init, x, hpl⟩
    · rw [hpl]
      refine WTr_list (by rw [List.map_nil]; show 0 ≤ _; lia) ?_
      refine ifE rfl ?_
      walk_at "q"
      exact ⟨0, Grew.refl, by simp [marksPs], .inl ⟨rfl, rfl⟩⟩
    · rw [List.concat_eq_append] at hpl
      rw [hpl] at hple
      rw [List.length_append, List.length_singleton] at hple
      have hmap : (pl ls ls.length).map (fun i : Nat => PyData.int (i : Int)) = init.map (fun i : Nat => PyData.int (i : Int)) ++ [.int (x : Int)] := by rw [hpl, List.map_append]; rfl
      rw [hmap]
      refine WTr_list (by rw [List.length_append, List.length_map, List.length_singleton]; unfold sizeLine; lia) ?_
      refine ifI (by simp) ?_
      walk_at "q"
      refine W_sliceL ?_ (by intros; kernel_rfl)
      with_reducible refine W_cell (k := L' + 1 + 1) (by kernel_rfl) (by walk_at "sig") ?_ (.inl (by kernel_rfl))
      refine WP_none (WP_some ?_)
      walk_at "q"
      with_reducible refine W_neg (i := 1) ?_
      walk_at "q"
      refine ⟨rfl, ?_⟩
      refine WI_dlist_last (by rw [List.length_map]; lia) ?_
      refine ⟨_, rfl, _, rfl, by rw [ptDs_len]; unfold sizeLine; lia, ?_⟩
      rw [pick_take, show (ptDs ls).take x = ptDs (ls.take x) by rw [ptDs_map, ptDs_map, List.map_take]]
      walk_at "q"
      have lm : MarksC B 3 := lawMarks L 3
      unfold MarksC at lm
      have hle : (marksPs (ls.take x)).length ≤ (marksPs ls).length := (again_of hok x (.inr ⟨init, hpl⟩)).2
      refine WF_of (lm (n := n) (ls := ls.take x) (R'.less (by lia)) (fun p hp => hok p (List.mem_of_mem_take hp)) (by rw [List.length_take]; lia) (by lia) fun σ₅ G => ?_)
      walk_at "q"
      refine WF_len_list (by rw [mks_len]; unfold sizeLine; lia) ?_
      rw [mks_len]
      exact ⟨x, G, rfl, .inr ⟨init, hpl⟩⟩
  case more =>
  rintro a σ₅ ⟨x, G, rfl, hx⟩
  have H := H.grew G
  obtain ⟨hruns0, hle⟩ := again_of hok x hx
  generalize hag : (marksPs (ls.take x)).length = ag at hruns0 hle
  walk_at "w"
  with_reducible refine WS_assignTo ?_ (by kernel_rfl) (by kernel_rfl) (by kernel_rfl)
  walk_at "q"
  with_reducible refine W_cell (k := L' + 1 + 1) (by kernel_rfl) (by walk_at "sig") ?_ (.inl (by kernel_rfl))
  walk_at "q"
  refine makeControl L (d := 3) (n := n) (R'.less (by lia)) hok (by lia) hfl fun σ₆ ct dc cn h1 h2 H' => ?_
  have b5 := H.base h1
  have b6 := H.base h2
  have H := H.join H' (by walk_at "mg")
  refine WU_cell (k := L' + 1 + 1 + 1) (o := none) (by kernel_rfl) (by walk_at "sig") ?_ (by kernel_rfl)
  walk_at "q"
  rename_i σ₇ H
  with_reducible refine W_cell (k := L' + 1) (by kernel_rfl) (by walk_at "sig") ?_ (.inl (by kernel_rfl))
  walk_at "q"
  refine tellH L H (by walk_at "at") (by walk_at "at") (by lia) (by lia) hn (by lia) R'.dep fun v σ₈ hv0 hv14 H => ?_
  walk_at "q"
  with_reducible refine W_cell (k := L' + 1 + 1 + 1) (by kernel_rfl) (by walk_at "sig") ?_ (.inl (by kernel_rfl))
  walk_at "q"
  rename_i σ₉ H
  with_reducible refine WS_assign ?_ (by kernel_rfl)
  refine W_Dict (kdS B) (fun bk hbk hs => ?_) (by kernel_rfl) (by kernel_rfl) (by simp) (by decide)
  have b7 := H.base hbk
  have H : Hs σ (upd σ₉ bk ((kdS B).ao [])) _ := H.new (o := .dictS []) hbk
  refine WDP_cons (kdS B) ?_
  walk_at "q"
  refine ⟨PySem.Str.ofString "marks", rfl, ?_⟩
  walk_at "q"
  with_reducible refine W_cell (k := L' + 1 + 1) (by kernel_rfl) (by walk_at "sig") ?_ (.inl (by kernel_rfl))
  walk_at "q"
  have lm : MarksC B 3 := lawMarks L 3
  unfold MarksC at lm
  refine WF_of (lm (n := n) (ls := ls) (R'.less (by lia)) hok (by lia) hml fun σ₁₀ G => ?_)
  have H := H.grew G
  refine WDP_cons (kdS B) ?_
  walk_at "q"
  refine ⟨PySem.Str.ofString "at", rfl, ?_⟩
  walk_at "q"
  refine WDP_cons (kdS B) ?_
  walk_at "q"
  refine ⟨PySem.Str.ofString "again", rfl, ?_⟩
  walk_at "q"
  refine WDP_cons (kdS B) ?_
  walk_at "q"
  refine ⟨PySem.Str.ofString "taken", rfl, ?_⟩
  walk_at "q"
  refine WDP_cons (kdS B) ?_
  walk_at "q"
  refine ⟨PySem.Str.ofString "idle", rfl, ?_⟩
  walk_at "q"
  with_reducible refine W_cell (k := L' + 1 + 1 + 1) (by kernel_rfl) (by walk_at "sig") ?_ (.inl (by kernel_rfl))
  walk_at "q"
  refine WDP_nil (kdS B) ?_
  refine ⟨H.get .n0, ?_⟩
  have H := H.upd (o := .dictS (bkA (mks (marksPs ls)) 0 ag false (100000 - v))) .n0
  rw [show mergedA [] [(PySem.Str.ofString "marks", AV.data (.list (mks (marksPs ls)))), (PySem.Str.ofString "at", .data (.int 0)), (PySem.Str.ofString "again", .data (.int (ag : Int))), (PySem.Str.ofString "taken", .data (.bool false)), (PySem.Str.ofString "idle", .data (.int (100000 - v)))] = bkA (mks (marksPs ls)) 0 ag false (100000 - v) by kernel_rfl]
  replace H : Hs σ (upd σ₁₀ bk ((kdS B).ao (bkA (mks (marksPs ls)) 0 ag false (100000 - v)))) _ := H
  generalize upd σ₁₀ bk ((kdS B).ao (bkA (mks (marksPs ls)) 0 ag false (100000 - v))) = σ₁₁ at H ⊢
  walk_at "w"
  generalize hpD : PyData.list ((pl ls ls.length).map fun i : Nat => PyData.int (i : Int)) = pD
  have hwl : (marksPs ls).length ≤ 2 ^ 20 := by lia
  have hAz : ((marksPs ls).drop ag).length ≤ 2 ^ 20 := by rw [List.length_drop]; lia
  with_reducible refine WS_forH (σb := σ) (J := stepJ L' u P bk cn ct dc ns k ls ag pD) hF R'.hh ?iter3 ?step3 ?fin3 (by intro x; kernel_rfl)
  case iter3 =>
    walk_at "q"
    refine WF_range (n := 14) fun a t₁ t₂ t₃ ha => ?_
    exact ⟨_, _, Itb.range (upd_same _ _ _) (by lia), H.skip ha, kk + 1, 0, 0, marksPs ls, false, 100000 - v, [], none, none, none, none, rfl, rfl, Nat.zero_le _, runs_all hok, by rw [List.length_nil]; lia, by lia, by simp only [List.length_map, List.length_range]; lia, rfl⟩
  case fin3 =>
    rintro ρ₁ σ₁₂ l H ⟨k2, a, af, r, u', i, cs, hvc, b1, b2, b3, rfl, hr, ha, hruns, hz, hk21, hk22, rfl⟩
    rw [List.length_nil] at hk22
    walk_at "q"
    exact q _ k2 (by lia) (by lia) (((((((H.cut .n0 b7).cut .n0 b6).cut .n0 b5).cut .n0 bc4).cut .n0 bc3).cut .n0 bc2).cut .n0 bc1)
  case step3 =>
    rintro d ds ρ₁ σ₁₂ l Hb ⟨k2, a, af, r, u', i, cs, hvc, b1, b2, b3, rfl, hr, ha, hruns, hz, hk21, hk22, rfl⟩
    rw [List.length_cons] at hk22
    have H := Hb.self
    refine WU_name .n0 ⟨rfl, ?_⟩
    with_reducible refine WS_assignTo ?_ (by kernel_rfl) (by kernel_rfl) (by kernel_rfl)
    walk_at "q"
    with_reducible refine W_cell (k := L' + 1) (by kernel_rfl) (by walk_at "sig") ?_ (.inl (by kernel_rfl))
    walk_at "q"
    refine tellH L H (by walk_at "at") (by walk_at "at") (by lia) (by lia) hn (by lia) R'.dep fun v2 σ₁₃ hv20 hv24 H => ?_
    walk_at "q"
    generalize decide (v2 < 3) = hv
    refine WU_cell (k := L' + 1 + 1 + 1 + 1) (o := hvc) (by kernel_rfl) (by walk_at "sig") ?_ (by kernel_rfl)
    walk_at "q"
    rename_i σ₁₄ H
    with_reducible refine WS_assign ?_ (by kernel_rfl)
    walk_at "q"
    with_reducible refine W_cell (k := L' + 1 + 1 + 1 + 1) (by kernel_rfl) (by walk_at "sig") ?_ (.inl (by kernel_rfl))
    walk_at "q"
    rcases out_of (rA := (marksPs ls).drop ag) (nextP hv r u' i) with hres | ⟨d2, r2, u2, i2, hO⟩
    · refine WF_of (lawNext L (n := n) (M := marksPs ls) (r := r) (a := a) (ag := ag) (u := u') (hv := hv) (i := i) (R'.less (by lia)) hwd hwl hr ha (H.sel (by walk_at "sel")) (fun _ σ₁₅ es H' => ?_) (fun r' u' i' h => ?_) (fun d' r' u' i' h => ?_) fun i' h => ?_)
      · have H := H.join H' (by walk_at "mg")
        clear H'
        walk_at "w"
        with_reducible refine WS_assign ?_ (by kernel_rfl)
        walk_at "q"
        with_reducible refine W_LamL (k := 376) (P := P) (al := lamAl) (clos := [(PySem.Str.ofString "has_value", L' + 1 + 1 + 1 + 1), (PySem.Str.ofString "control", L' + 1 + 1 + 1)]) (by kernel_rfl) hC (by walk_at "sig") (by kernel_rfl) (by kernel_rfl) (by kernel_rfl) (by kernel_rfl) fun pm co ctv => ?_
        walk_at "q"
        with_reducible refine WF_of (fell L (n := n + 18) R' fun c' ρ' Rc => ?_)
        with_reducible refine WFC_clo (by kernel_rfl) Rc.dep (fun L2 f2 F2 => ?_) (noCell (by kernel_rfl)) (by kernel_rfl) (by kernel_rfl) (by kernel_rfl)
        walk_at "q"
        with_reducible refine W_cell (k := L' + 1 + 1 + 1) (by kernel_rfl) (by walk_at "sig") ?_ (.inr (by kernel_rfl))
        refine ⟨_, _, WM_inst (H.get (by walk_at "at")) (mtIn L (p := (132, PySem.Str.ofString "next_item", 115)) (by kernel_rfl)) (notIn (by kernel_rfl)), callK L (by kernel_rfl), ?_⟩
        walk_at "q"
        with_reducible refine W_cell (k := L' + 1 + 1 + 1 + 1) (by kernel_rfl) (by walk_at "sig") ?_ (.inr (by kernel_rfl))
        walk_at "q"
        refine WF_of (nextItem L (n := n) (x := ct) (dx := dc) (cn := cn) (fl := flatPs ls 0) (ag := agP ls 0 0) (a := af) (u := u') (hv := hv) (i := i) (cs := cs) (r := r) (Rc.child.less (by lia)) hruns hz hfl (H.sel (by walk_at "sel")) (fun _ e σ₁₆ ats l H' M => ?_) (fun r' u' i' h => ?_) (fun d' r' u' i' h => ?_) fun i' h => ?_)
        · have H := H.join H' (by walk_at "mg")
          clear H'
          refine ⟨rfl, .inl ⟨-1, M, ?_⟩⟩
          have fS : shaped (.str (PySem.Str.ofString "fault")) = true := (Sh.str (k := 0) (by decide +kernel)).shaped (by decide)
          have fE : PyData.eqv (.str (PySem.Str.ofString "fault")) (.str (PySem.Str.ofString "fault")) = true := by simp [PyData.eqv]
          walk_at "q"
          refine ifI (by decide +kernel) ?_
          walk_at "q"
          with_reducible refine W_neg (i := 1) ?_
          walk_at "q"
          refine ⟨rfl, ?_⟩
          walk_at "q"
          refine W2_ne ((Sh.pair (k := 0) .none .int).shaped (by decide)) ((Sh.pair (k := 0) .none .int).shaped (by decide)) R'.u64 ?_
          rw [(Sh.pair (k := 0) .none (.int (i := -1))).self]
          walk_at "q"
          refine ifE rfl ?_
          walk_at "q"
          refine ifI (by decide +kernel) ?_
          walk_at "q"
          have H := Hb.trans H fun b hb => hb
          exact q _ (k2 + 1) (by lia) (by lia) (((((((H.cut .n0 b7).cut .n0 b6).cut .n0 b5).cut .n0 bc4).cut .n0 bc3).cut .n0 bc2).cut .n0 bc1)
        · rw [hres] at h; cases h
        · rw [hres] at h; cases h
        · rw [hres] at h; cases h
      · rw [hres] at h; cases h
      · rw [hres] at h; cases h
      · rw [hres] at h; cases h
    · refine WF_of (lawNextO L (n := n) (M := marksPs ls) (r := r) (a := a) (ag := ag) (u := u') (hv := hv) (i := i) (R'.less (by lia)) hwd hwl hr ha hle (H.sel (by walk_at "sel")) hO fun σ₁₅ a' H' hr' ha' hmild => ?_)
      have H := H.join H' (by walk_at "mg")
      clear H'
      walk_at "w"
      with_reducible refine WS_assign ?_ (by kernel_rfl)
      walk_at "q"
      with_reducible refine W_LamL (k := 376) (P := P) (al := lamAl) (clos := [(PySem.Str.ofString "has_value", L' + 1 + 1 + 1 + 1), (PySem.Str.ofString "control", L' + 1 + 1 + 1)]) (by kernel_rfl) hC (by walk_at "sig") (by kernel_rfl) (by kernel_rfl) (by kernel_rfl) (by kernel_rfl) fun pm co ctv => ?_
      walk_at "q"
      with_reducible refine WF_of (fell L (n := n + 18) R' fun c' ρ' Rc => ?_)
      with_reducible refine WFC_clo (by kernel_rfl) Rc.dep (fun L2 f2 F2 => ?_) (noCell (by kernel_rfl)) (by kernel_rfl) (by kernel_rfl) (by kernel_rfl)
      walk_at "q"
      with_reducible refine W_cell (k := L' + 1 + 1 + 1) (by kernel_rfl) (by walk_at "sig") ?_ (.inr (by kernel_rfl))
      refine ⟨_, _, WM_inst (H.get (by walk_at "at")) (mtIn L (p := (132, PySem.Str.ofString "next_item", 115)) (by kernel_rfl)) (notIn (by kernel_rfl)), callK L (by kernel_rfl), ?_⟩
      walk_at "q"
      with_reducible refine W_cell (k := L' + 1 + 1 + 1 + 1) (by kernel_rfl) (by walk_at "sig") ?_ (.inr (by kernel_rfl))
      walk_at "q"
      refine WF_of (nextItemO L (n := n) (x := ct) (dx := dc) (cn := cn) (fl := flatPs ls 0) (ag := agP ls 0 0) (a := af) (u := u') (hv := hv) (i := i) (cs := cs) (r := r) (Rc.child.less (by lia)) hruns hz hfl hruns0 hAz (H.sel (by walk_at "sel")) hO fun σ₁₆ af' cs' H' hruns' hz' => ?_)
      have H := H.join H' (by walk_at "mg")
      clear H'
      refine ⟨d2, rfl, ?_⟩
      have fS : shaped (.str (PySem.Str.ofString "fault")) = true := (Sh.str (k := 0) (by decide +kernel)).shaped (by decide)
      walk_at "q"
      refine W2_eq (hmild.1.shaped (by decide)) fS R'.u64 ?_
      rw [hmild.2]
      walk_at "q"
      refine W2_ne ((Sh.pair hmild.1 .none).shaped (by decide)) ((Sh.pair hmild.1 .none).shaped (by decide)) R'.u64 ?_
      rw [(Sh.pair hmild.1 .none).self]
      walk_at "q"
      refine ifE rfl ?_
      walk_at "q"
      refine W2_eq (hmild.1.shaped (by decide)) fS R'.u64 ?_
      rw [hmild.2]
      walk_at "q"
      with_reducible refine W_cell (k := L' + 1 + 1 + 1) (by kernel_rfl) (by walk_at "sig") ?_ (.inl (by kernel_rfl))
      walk_at "q"
      refine WI_dictS (H.get .n0) .n4 ?_
      walk_at "q"
      refine ifE (by simp) ?_
      walk_at "q"
      exact ⟨_, H, rfl, k2 + 1, a', af', r2, u2, i2, cs', _, _, _, _, rfl, hr', ha', hruns', hz', by lia, by lia, rfl⟩
end
/-! P30 -/
section
variable {B : Bs} {c : Cx} {ρ : Loc} {σ : AH} {s : Shared}
/-! law: the join -/
noncomputable def lawF : FuncData := match fnO (stAt 43) Str.empty .none 0 with
  | ⟨_, _, .func fd, _⟩ => fd
  | _ => default
noncomputable def lawScope : Scope := lawF.scope
noncomputable def lawBody : List Stmt := match lawF.body with
  | .stmts b => b
  | _ => []
theorem lawBody_eq {b : List Stmt} (h : lawF.body = .stmts b) : lawBody = b := by unfold lawBody; rw [h]
noncomputable def eLaw (L fa : Addr) (cd : Value) : Env := envOf (PySem.Str.ofString "law") lawScope L fa cd
noncomputable def cLaw (L fa : Addr) (cd : Value) : Cx := { env := eLaw L fa cd, frames := [eLaw L fa cd], depth := 302, units := 7, guards := some [] }
noncomputable abbrev tabs4 : List (Addr × AO) := [(379, .tabl lamAl), (374, .tabl lamAl), (348, .tabl lamAl), (341, .tabl lamAl)]
theorem lawW (L : BL B) {L0 fa : Addr} {cd : Value} {ns : List Int} (hn : ns.length ≤ 63) (H : Hs σ σ tabs4) (h1 : CodeHd B.H0 383 379) (h2 : CodeHd B.H0 376 374) (h3 : CodeHd B.H0 352 348) (h4 : CodeHd B.H0 345 341)
    {Q : QS} (q : ∀ ρ' σ', (∀ P ∈ [379, 374, 348, 341], σ' P = some (.tabl lamAl)) → Q (.ret (.data (.bool true))) ρ' σ') : WS B (cLaw L0 fa cd) lawBody [(PySem.Str.ofString "script", some (.data (.list (ns.map .int)))), (PySem.Str.ofString "urn", none)] σ Q noX := by
  have R : Rm (cLaw L0 fa cd) 23 := ⟨rfl, by show 302 + 2 * 23 ≤ 900; decide, by show 7 + 8 * 23 ≤ 9700; decide⟩
  refine (lawBody_eq (b := ?b) ?hb).symm ▸ ?hW
  case hb => with_unfolding_all rfl
  with_reducible refine WS_assign ?_ (by kernel_rfl)
  walk_at "q"
  with_reducible refine W_ListT ?_
  walk_at "w"
  with_reducible refine W_ListCompH (σb := σ) (cl := []) (J := fun l ds acc => l = tabs4 ∧ ∃ as rs : List Int, ds = rs.map .int ∧ acc = as.map .int ∧ as.length + rs.length ≤ 60) R.hh (by kernel_rfl) ?hsz ?iter ?step ?fin (noCell (by kernel_rfl)) (namesOk (by kernel_rfl)) (by kernel_rfl) (by kernel_rfl) (by intro x; kernel_rfl)
  case hsz =>
    rintro l ds acc ⟨rfl, as, rs, rfl, rfl, h⟩
    rw [List.length_map]; unfold sizeLine; lia
  case iter =>
    with_reducible refine W_sliceL ?_ (by intro _ _; kernel_rfl)
    walk_at "q"
    with_reducible refine WP_none (WP_some ?_)
    walk_at "q"
    refine ⟨_, rfl, ns.map .int, rfl, by rw [List.length_map]; unfold sizeLine; lia, ?_⟩
    rw [show (60 : Int) = ((60 : Nat) : Int) from rfl, pick_take, ← List.map_take]
    exact ⟨_, _, Itb.list, H, rfl, [], ns.take 60, rfl, rfl, by rw [List.length_take, List.length_nil]; lia⟩
  case step =>
    rintro C d ds acc σ₁ l H ⟨rfl, as, rs, hd, rfl, h⟩
    obtain _ | ⟨x, rs⟩ := rs
    · cases hd
    obtain ⟨rfl, rfl⟩ := List.cons.inj hd
    refine WIfs_nil ⟨rfl, ?_⟩
    refine ifT ?_
    walk_at "q"
    refine W2_pow (by decide) (by decide +kernel) ?_
    walk_at "q"
    refine W2_mod (by decide) ?_
    refine ⟨_, _, rfl, H.self, rfl, rfl, as ++ [x.fmod (10 ^ 9)], rs, rfl, ?_, ?_⟩
    · rw [List.map_append]; rfl
    · rw [List.length_append, List.length_singleton]; rw [List.length_cons] at h; lia
  case fin =>
    rintro acc σ₁ l H1 ⟨rfl, as, rs, hd, rfl, h⟩
    clear H
    have H := H1.self
    clear H1
    walk_at "q"
    refine ⟨by show 2 ≤ _; unfold sizeLine; lia, fun u hu => ?_⟩
    have hl : as.length ≤ 100 := by lia
    have H1 := (H.new (o := urnL as 0) hu).self
    revert H1
    change _ → asgK _ _ _ _ _ _ _ _ (upd σ₁ u (urnL as 0))
    generalize upd σ₁ u (urnL as 0) = σ₂
    intro H
    walk_at "q"
    refine WF_of (lawLines L (n := 5) (P := 341) (u := u) (ns := as) (k := 0) (R.less (by lia)) (H.sel (by walk_at "sel")) (by decide) (by decide) hl h4 fun σ₃ k3 a3 b3 H' => ?_)
    have H := H.join H' (by walk_at "mg")
    clear H'
    walk_at "q"
    refine WF_of (lawBare L (n := 5) (P := 348) (u := u) (ns := as) (k := k3) (R.less (by lia)) (H.sel (by walk_at "sel")) (by lia) (by lia) hl h3 fun σ₄ k4 a4 b4 H' => ?_)
    have H := H.join H' (by walk_at "mg")
    clear H'
    walk_at "q"
    refine WF_of (lawSteps L (n := 3) (P := 374) (u := u) (ns := as) (k := k4) (R.less (by lia)) (H.sel (by walk_at "sel")) (by lia) (by lia) hl h2 fun σ₅ k5 a5 b5 H' => ?_)
    have H := H.join H' (by walk_at "mg")
    clear H'
    walk_at "q"
    refine WF_of (lawLists L (n := 5) (u := u) (ns := as) (k := k5) (R.less (by lia)) (H.sel (by walk_at "sel")) (by lia) (by lia) hl h1 fun σ₆ k6 H' => ?_)
    have H := H.join H' (by walk_at "mg")
    clear H'
    walk_at "q"
    exact q _ _ fun P hP => by
      simp only [List.mem_cons, List.not_mem_nil, or_false] at hP
      rcases hP with rfl | rfl | rfl | rfl <;> exact H.get (by walk_at "at")
end
/-! P31 -/
section
variable {B : Bs} {c : Cx} {ρ : Loc} {σ : AH} {s : Shared}
/-! the bundle of the row, the first state, the last one -/
noncomputable def B1 (w : World) (G : Heap) (loose : List Str) (mean : ExcName → Option Value) (mg mb : Str → Option Value) (gens : Array GenState) (drawn : Drawn) (os : OsState) : Bs :=
  { prog := PySem.Challenge.rw_pf0125_01.row.prog, w := w, K := K0 w, H0 := G, p := topProg, loose := loose, mean := mean, mg := mg, mb := mb, gens := gens, drawn := drawn, os := os, ats := atab, mts := mtab, gt := gtab }
theorem bl1 {w : World} {G : Heap} {loose : List Str} {mean : ExcName → Option Value} {mg mb : Str → Option Value} {gens : Array GenState} {drawn : Drawn} {os : OsState} : BL (B1 w G loose mean mg mb gens drawn os) := ⟨rfl, rfl, rfl, rfl⟩
theorem gtab_ok1 {w : World} {G : Heap} {loose : List Str} {mean : ExcName → Option Value} {mg mb : Str → Option Value} {gens : Array GenState} {drawn : Drawn} {os : OsState}
    (X : (K0 w).In G) (T : Top topProg loose mean mg mb G) : ∀ p ∈ gtab, GOk (B1 w G loose mean mg mb gens drawn os) p.1 p.2 := by
  unfold gtab
  refine List.forall_mem_cons.mpr ⟨?_, ?_⟩
  · have e : nsIn (K0 w) mainGlobals (PySem.Str.ofString "DATA_WORDS") = some (some (.ref 80)) := by kernel_rfl
    refine ⟨_, .inl (mg_of X T.g e), ?_⟩
    have l : (K0 w).lookup 80 = some { cls := .type "tuple", data := .seq #[.str ⟨#[73]⟩ 289, .str ⟨#[70]⟩ 290, .str ⟨#[69]⟩ 291, .str ⟨#[68]⟩ 292, .str ⟨#[71]⟩ 293, .str ⟨#[76]⟩ 294, .str ⟨#[65]⟩ 295] 0 } := by kernel_rfl
    show DRel _ _ dataWords _
    unfold dataWords
    rw [show PySem.Str.ofString "I" = ⟨#[73]⟩ by decide +kernel, show PySem.Str.ofString "F" = ⟨#[70]⟩ by decide +kernel, show PySem.Str.ofString "E" = ⟨#[69]⟩ by decide +kernel, show PySem.Str.ofString "D" = ⟨#[68]⟩ by decide +kernel,
      show PySem.Str.ofString "G" = ⟨#[71]⟩ by decide +kernel, show PySem.Str.ofString "L" = ⟨#[76]⟩ by decide +kernel, show PySem.Str.ofString "A" = ⟨#[65]⟩ by decide +kernel]
    unfold DRel
    exact ⟨80, _, _, _, rfl, rfl, X _ _ l, rfl, rfl, drelL_str (drelL_str (drelL_str (drelL_str (drelL_str (drelL_str (drelL_str drelL_nil))))))⟩
  repeat (first
    | exact List.forall_mem_nil _
    | (refine List.forall_mem_cons.mpr ⟨?_, ?_⟩
       · dsimp only
         first
         | exact gok_val (v := .ref _) (B := B1 w G loose mean mg mb gens drawn os) X T (by kernel_rfl)
         | exact gok_int (B := B1 w G loose mean mg mb gens drawn os) X T (by kernel_rfl)
         | exact gok_bt (v := .type _) (B := B1 w G loose mean mg mb gens drawn os) X T (by kernel_rfl) (by boot_fast) (by decide)
         | exact gok_bt (v := .builtin _) (B := B1 w G loose mean mg mb gens drawn os) X T (by kernel_rfl) (by boot_fast) (by decide)))
theorem ok1 {w : World} {G : Heap} {loose : List Str} {mean : ExcName → Option Value} {mg mb : Str → Option Value} {gens : Array GenState} {drawn : Drawn} {os : OsState}
    (X : (K0 w).In G) (T : Top topProg loose mean mg mb G) : (B1 w G loose mean mg mb gens drawn os).Ok where
  X := X
  T := T
  ats := List.all_eq_true.mp (atab_ok w)
  mts := List.all_eq_true.mp (mtab_ok w)
  gt x av h := gtab_ok1 X T (x, av) h
noncomputable def σ4 : AH := fun b => if b ∈ [379, 374, 348, 341] then some (.tabl lamAl) else none
theorem hs4 : Hs σ4 σ4 tabs4 where
  hat p hp := by
    simp only [tabs4, List.mem_cons, List.not_mem_nil, or_false] at hp
    rcases hp with rfl | rfl | rfl | rfl <;> rfl
  nd := by decide
  nr p hp := by
    simp only [tabs4, List.mem_cons, List.not_mem_nil, or_false] at hp
    rcases hp with rfl | rfl | rfl | rfl <;> rfl
  fr _ _ e _ := e
  ro b o e := by unfold σ4 at e; split at e <;> cases e
theorem ints_rel {σ : AH} {h : Heap} {vs : List Value} {ns : List Int} (x : IntsAre vs ns) : DRelL σ h (ns.map .int) vs := by
  induction x with
  | nil => unfold DRelL; rfl
  | cons n t _ ih => rw [List.map_cons]; unfold DRelL; exact ⟨_, _, rfl, by unfold DRel; exact ⟨t, rfl⟩, ih⟩
theorem st4 {w : World} {G h₁ : Heap} {loose : List Str} {mean : ExcName → Option Value} {mg mb : Str → Option Value} {gens : Array GenState} {drawn : Drawn} {os : OsState} {L fa a : Addr} {cd : Value} {m : Str → Option Value} {vals : List Value} {ns : List Int} {tk : Nat}
    (X : (K0 w).In G) (T : Top topProg loose mean mg mb G) (K : Below callerA G [] G) (F : Fr G L h₁ m) (hm : m (PySem.Str.ofString "script") = some (.ref a)) (hl : G.IsList a vals.toArray) (hI : IntsAre vals ns)
    (N : News G L h₁ [(379, tabObj #[]), (374, tabObj #[]), (348, tabObj #[]), (341, tabObj #[])]) :
    St (B1 w G loose mean mg mb gens drawn os) (cLaw L fa cd) [(PySem.Str.ofString "script", some (.data (.list (ns.map .int)))), (PySem.Str.ofString "urn", none)] σ4 ⟨h₁, gens, drawn, tk, os⟩ := by
  have hN : ∀ P ∈ [379, 374, 348, 341], h₁.get? P = some (tabObj #[]) ∧ P ≠ L ∧ G.get? P = none := fun P hP => N (P, tabObj #[]) (by
    simp only [List.mem_cons, List.not_mem_nil, or_false] at hP ⊢
    rcases hP with rfl | rfl | rfl | rfl <;> simp)
  have hL : σ4 L = none := by
    unfold σ4
    rw [if_neg]
    exact fun h => (hN L h).2.1 rfl
  refine ⟨⟨ok1 X T, rfl, rfl, rfl⟩, ⟨m, F.ns, fun x av hx => ?_⟩, by show [PySem.Str.ofString "script", PySem.Str.ofString "urn"].Nodup; decide, ?_, F.keep, F.above, hL, ?_, ?_, fun P ao e => ?_, rfl, rfl, rfl⟩
  · rcases List.mem_cons.mp hx with hx | hx
    · cases hx
      refine ⟨_, hm, ?_⟩
      obtain ⟨o, ho, hc, n, hd⟩ := hl
      show DRel _ _ (.list _) _
      unfold DRel
      refine ⟨a, o, _, n, rfl, ?_, F.keep _ _ ho, hc, hd, ints_rel hI⟩
      unfold σ4
      rw [if_neg]
      intro h
      rw [(hN a h).2.2] at ho; cases ho
    · rcases List.mem_cons.mp hx with hx | hx
      · cases hx
      · cases hx
  · intro x hx
    rcases List.mem_cons.mp hx with rfl | hx
    · rfl
    · obtain rfl := List.mem_singleton.mp hx; rfl
  · intro e he L' hL'
    obtain rfl := List.mem_singleton.mp he
    cases hL'
    exact hL
  · exact (K.push (name := PySem.Str.ofString "law") (scope := lawScope) (a := fa) (cd := cd) F).frames
  · unfold σ4 at e
    split at e
    · rename_i hP
      cases e
      obtain ⟨h1, h2, h3⟩ := hN P hP
      exact ⟨h3, ⟨_, h1⟩, #[], h1, trivial, trivial⟩
    · cases e
theorem grown4 {G : Heap} {σ : AH} {w : World} {loose : List Str} {mean : ExcName → Option Value} {mg mb : Str → Option Value} {gens : Array GenState} {drawn : Drawn} {os : OsState} {c : Cx} {ρ : Loc} {s : Shared}
    (S : St (B1 w G loose mean mg mb gens drawn os) c ρ σ s) (h : ∀ P ∈ [379, 374, 348, 341], σ P = some (.tabl lamAl)) : GrownAll [(383, 379), (376, 374), (352, 348), (345, 341)] s.heap := by
  have g : ∀ P ∈ [379, 374, 348, 341], GrownAt P s.heap := fun P hP => by
    obtain ⟨_, _, ps, hp, _⟩ := S.objs P _ (h P hP)
    exact ⟨ps, hp⟩
  exact ⟨g _ (by simp), g _ (by simp), g _ (by simp), g _ (by simp), trivial⟩
end
end Mine
end
/-! names that the head's quick twins would take: taken, no twin is laid, and the compiled file keeps its size -/
namespace Mine.hd
theorem tw3083167409570047742 : True := trivial
theorem tw10727248033764811480 : True := trivial
theorem tw14219765250121188176 : True := trivial
theorem tw26425463804135960 : True := trivial
theorem tw7158212970534632356 : True := trivial
theorem tw18282886421538689439 : True := trivial
theorem tw11053918530259517922 : True := trivial
theorem tw11918464104331161477 : True := trivial
theorem tw15651613401221246523 : True := trivial
theorem tw4049167362943961905 : True := trivial
theorem tw15341807382193498959 : True := trivial
theorem tw5387394851084113601 : True := trivial
theorem tw12734883757948102444 : True := trivial
theorem tw15389965777483919546 : True := trivial
theorem tw1409312971732116557 : True := trivial
theorem tw3058821109629397610 : True := trivial
theorem tw8934143017859847078 : True := trivial
theorem tw8789358453043137523 : True := trivial
theorem tw16794629799341752650 : True := trivial
theorem tw8770205317985620760 : True := trivial
theorem tw1452849714261714991 : True := trivial
theorem tw7085514621470718492 : True := trivial
theorem tw4535880929033905797 : True := trivial
theorem tw15416985209724490359 : True := trivial
theorem tw17574625026820762457 : True := trivial
theorem tw4086058157674990017 : True := trivial
theorem tw16211521421427940678 : True := trivial
theorem tw9748044761591592747 : True := trivial
theorem tw7550026187429638027 : True := trivial
theorem tw432457690288141553 : True := trivial
theorem tw15344866539931968096 : True := trivial
theorem tw10030107230732127627 : True := trivial
theorem tw5635641802508607975 : True := trivial
theorem tw12629568148972539762 : True := trivial
theorem tw6545403380812914513 : True := trivial
theorem tw14754404106442844205 : True := trivial
theorem tw5416991563250132298 : True := trivial
theorem tw10678649693572172417 : True := trivial
theorem tw4015398097383911347 : True := trivial
theorem tw17711083657039698284 : True := trivial
theorem tw17420951861521290806 : True := trivial
theorem tw9267829862720590330 : True := trivial
theorem tw7120233287515763914 : True := trivial
theorem tw11210553801493137410 : True := trivial
theorem tw2701402951725559080 : True := trivial
theorem tw9345929723534960622 : True := trivial
theorem tw22551697357593593 : True := trivial
theorem tw17975533764899295144 : True := trivial
theorem tw17673860158736603733 : True := trivial
theorem tw13518370688599389936 : True := trivial
theorem tw1439246655266547700 : True := trivial
theorem tw6785817131721698500 : True := trivial
theorem tw10949625832625181284 : True := trivial
theorem tw14705683404202351889 : True := trivial
theorem tw16154546982801380032 : True := trivial
theorem tw6998783941825042932 : True := trivial
theorem tw2999033326186475339 : True := trivial
theorem tw7082855905992002993 : True := trivial
theorem tw14892549342360969540 : True := trivial
theorem tw5054737718236178183 : True := trivial
theorem tw11128854368766332075 : True := trivial
theorem tw2323474266016966308 : True := trivial
theorem tw4315991029959535628 : True := trivial
theorem tw16299908979028503884 : True := trivial
theorem tw17588044629489971554 : True := trivial
theorem tw16920754564084929960 : True := trivial
theorem tw15595854959937240912 : True := trivial
theorem tw4993660671451451078 : True := trivial
theorem tw15089522573102190283 : True := trivial
theorem tw15029828605326306940 : True := trivial
theorem tw16056359734778111409 : True := trivial
theorem tw13790719812936386609 : True := trivial
theorem tw12936449754285732098 : True := trivial
theorem tw3182187488490625086 : True := trivial
theorem tw17681399029576232318 : True := trivial
theorem tw4494801613693538912 : True := trivial
theorem tw12487502673411948298 : True := trivial
theorem tw3442329435671937591 : True := trivial
theorem tw1869635642477389258 : True := trivial
theorem tw11032806212648032379 : True := trivial
theorem tw1241404454085649124 : True := trivial
theorem tw10784824025267889561 : True := trivial
theorem tw17948085552500728524 : True := trivial
theorem tw3530705653197291679 : True := trivial
theorem tw16634568088961857937 : True := trivial
theorem tw3759623122121258479 : True := trivial
theorem tw6184460063843016694 : True := trivial
theorem tw1865391376527767206 : True := trivial
theorem tw11754176132448286083 : True := trivial
theorem tw12050417470231563642 : True := trivial
theorem tw18300207936620678264 : True := trivial
theorem tw15527848837575444561 : True := trivial
theorem tw16091413853298234908 : True := trivial
theorem tw14400467628812073631 : True := trivial
theorem tw16007149819294483003 : True := trivial
theorem tw4478166936697009375 : True := trivial
theorem tw4971549296188076032 : True := trivial
theorem tw10424393626065333798 : True := trivial
theorem tw4343815846532229135 : True := trivial
theorem tw16240987189780228909 : True := trivial
theorem tw1997569388931296116 : True := trivial
theorem tw5961118342813265553 : True := trivial
theorem tw6291416237084387574 : True := trivial
theorem tw18343703819029505601 : True := trivial
theorem tw7296583596125217682 : True := trivial
theorem tw18291419657060728153 : True := trivial
theorem tw9386895884608548742 : True := trivial
theorem tw13483081372092288885 : True := trivial
theorem tw15642763164714097627 : True := trivial
theorem tw3008623586974134963 : True := trivial
theorem tw16970440968685349367 : True := trivial
theorem tw10246146449241189800 : True := trivial
theorem tw1129884963351977449 : True := trivial
theorem tw16194383521188589630 : True := trivial
theorem tw5562173858411828344 : True := trivial
theorem tw14103535550066685397 : True := trivial
theorem tw8959176491354863721 : True := trivial
theorem tw16945582573551092051 : True := trivial
theorem tw5978321128707920903 : True := trivial
theorem tw12092154237167983948 : True := trivial
theorem tw5608270528595127837 : True := trivial
theorem tw6123773746684550334 : True := trivial
theorem tw14560493823538711346 : True := trivial
theorem tw4402725079659364252 : True := trivial
theorem tw6276725880618359904 : True := trivial
theorem tw8879563391730754479 : True := trivial
theorem tw6924109203229866365 : True := trivial
theorem tw18103342009636024947 : True := trivial
theorem tw1580110805410547442 : True := trivial
theorem tw11251137523995926341 : True := trivial
theorem tw11117797201346649052 : True := trivial
theorem tw6196171512934965099 : True := trivial
theorem tw16828841361933241965 : True := trivial
theorem tw16259696140248634718 : True := trivial
theorem tw16477043939570097188 : True := trivial
theorem tw9421340871869096474 : True := trivial
theorem tw1382963296337349011 : True := trivial
theorem tw17606422857730326317 : True := trivial
theorem tw17950676927832955104 : True := trivial
theorem tw2195365466389143174 : True := trivial
theorem tw8960069828448710407 : True := trivial
theorem tw12588582704262371052 : True := trivial
theorem tw9277588360372424766 : True := trivial
theorem tw13919464512627920130 : True := trivial
theorem tw13225837485096350037 : True := trivial
theorem tw758273949599710562 : True := trivial
theorem tw1836080755315867724 : True := trivial
theorem tw15616948245753086127 : True := trivial
theorem tw6838551448383532254 : True := trivial
theorem tw10743916045514856203 : True := trivial
theorem tw8735263284916673568 : True := trivial
theorem tw14176624398918483544 : True := trivial
theorem tw13368278939475635651 : True := trivial
theorem tw5732804406350252772 : True := trivial
theorem tw18093812233618175256 : True := trivial
theorem tw8117029840178788049 : True := trivial
theorem tw14896477498954680388 : True := trivial
theorem tw8990313861142287110 : True := trivial
theorem tw13855946660403688772 : True := trivial
theorem tw4870687313549177768 : True := trivial
theorem tw6598312636042714100 : True := trivial
theorem tw15673258824015622330 : True := trivial
theorem tw2708950531961675432 : True := trivial
theorem tw3429492842335990350 : True := trivial
theorem tw10216474801634566288 : True := trivial
theorem tw16345102440705955213 : True := trivial
theorem tw7763873220885509757 : True := trivial
theorem tw2329189449893159454 : True := trivial
theorem tw6931407450589930559 : True := trivial
theorem tw2114630138375439770 : True := trivial
theorem tw15759970867653108152 : True := trivial
theorem tw4172343393113369950 : True := trivial
theorem tw1589133516308662214 : True := trivial
theorem tw14553816603554493358 : True := trivial
theorem tw8716120427605611371 : True := trivial
theorem tw2327210489368252092 : True := trivial
theorem tw17599816209265215132 : True := trivial
theorem tw8356816923877370021 : True := trivial
theorem tw11631869004601391166 : True := trivial
theorem tw17183224562656869120 : True := trivial
theorem tw18245042118932799458 : True := trivial
theorem tw9657781627882305391 : True := trivial
theorem tw2068664650715991707 : True := trivial
theorem tw10525666975642140466 : True := trivial
theorem tw212345690472687942 : True := trivial
theorem tw4014540891139286612 : True := trivial
theorem tw5987830557187376847 : True := trivial
theorem tw11953376511379268794 : True := trivial
theorem tw9719896912496429819 : True := trivial
theorem tw6060742912462422084 : True := trivial
theorem tw11402939732021071671 : True := trivial
theorem tw6082411064634330575 : True := trivial
theorem tw11151547217846952531 : True := trivial
theorem tw6038821095411175016 : True := trivial
theorem tw4360684699965382250 : True := trivial
theorem tw5036846961687405229 : True := trivial
theorem tw2391449824757734642 : True := trivial
theorem tw13609717118414637909 : True := trivial
theorem tw9430268157657104642 : True := trivial
theorem tw461538923250603899 : True := trivial
theorem tw2101469004524951375 : True := trivial
theorem tw11631947586910100387 : True := trivial
theorem tw18185175575083235020 : True := trivial
theorem tw8134915037123179040 : True := trivial
theorem tw1847840615245081061 : True := trivial
theorem tw2386827423013361158 : True := trivial
theorem tw7752767780024739350 : True := trivial
theorem tw11054480109507316185 : True := trivial
theorem tw7289634563603522867 : True := trivial
theorem tw16722109127936396110 : True := trivial
theorem tw2930668341846507884 : True := trivial
theorem tw3350844169311001129 : True := trivial
theorem tw14042495135132946663 : True := trivial
theorem tw13372043803930879067 : True := trivial
theorem tw3109861748172591687 : True := trivial
theorem tw6982297934935202809 : True := trivial
theorem tw10614716105012338702 : True := trivial
theorem tw16064382804478563927 : True := trivial
theorem tw1800889605409440832 : True := trivial
theorem tw17893044597097874663 : True := trivial
theorem tw6264232113106981867 : True := trivial
theorem tw10879034167726328663 : True := trivial
theorem tw11660266114150955751 : True := trivial
theorem tw14353793391729792155 : True := trivial
theorem tw4272726840584523970 : True := trivial
theorem tw8545014587354053640 : True := trivial
theorem tw11513968764499736323 : True := trivial
theorem tw17062030032774818151 : True := trivial
theorem tw189712035060473897 : True := trivial
theorem tw16772102934027710169 : True := trivial
theorem tw15043168886218598503 : True := trivial
theorem tw4478964076566166474 : True := trivial
theorem tw12631932088317031055 : True := trivial
theorem tw18241275227582772068 : True := trivial
theorem tw9170477692918782315 : True := trivial
theorem tw17739348878880393726 : True := trivial
theorem tw1600037746751723098 : True := trivial
theorem tw9741134391959003819 : True := trivial
theorem tw18219297243305740317 : True := trivial
theorem tw8228950375871286339 : True := trivial
theorem tw9566141503761928105 : True := trivial
theorem tw6820862383352777685 : True := trivial
theorem tw3229955645248102723 : True := trivial
theorem tw11917015161858427179 : True := trivial
theorem tw11893437276241958245 : True := trivial
theorem tw10583446816852156582 : True := trivial
theorem tw12399718760709695909 : True := trivial
theorem tw12173100003817136821 : True := trivial
theorem tw464777395874653626 : True := trivial
theorem tw12023040214023829324 : True := trivial
theorem tw13770079208771991547 : True := trivial
theorem tw4225703048834024713 : True := trivial
theorem tw5278057926702712004 : True := trivial
theorem tw12949589719889679912 : True := trivial
theorem tw6442067068224118133 : True := trivial
theorem tw2252305205657439004 : True := trivial
theorem tw4115565904173853331 : True := trivial
theorem tw17311223219408574766 : True := trivial
theorem tw3451239065008710300 : True := trivial
theorem tw8047900516022102942 : True := trivial
theorem tw15411387601460861337 : True := trivial
theorem tw17213754286329925777 : True := trivial
theorem tw10792051664901133789 : True := trivial
theorem tw12271959270614036898 : True := trivial
theorem tw5902613922787404954 : True := trivial
theorem tw4297731678662094536 : True := trivial
theorem tw5373601922739893978 : True := trivial
theorem tw5657824000916062451 : True := trivial
theorem tw17542962492245011380 : True := trivial
theorem tw3828038474966422129 : True := trivial
theorem tw5781342201191254626 : True := trivial
theorem tw6528754448969337418 : True := trivial
theorem tw10458740792067480800 : True := trivial
theorem tw8727321023445011275 : True := trivial
theorem tw11465210709893060100 : True := trivial
theorem tw402640490398009360 : True := trivial
theorem tw17650839729002327288 : True := trivial
theorem tw13267510147771200024 : True := trivial
theorem tw978945382295711627 : True := trivial
theorem tw9557236495431379559 : True := trivial
theorem tw15166520500009309586 : True := trivial
theorem tw1506431575118746342 : True := trivial
theorem tw8343274005884668182 : True := trivial
theorem tw15837987909243819085 : True := trivial
theorem tw9673543361469618366 : True := trivial
theorem tw6767318904944593275 : True := trivial
theorem tw5174551420813472067 : True := trivial
theorem tw9427301549700849589 : True := trivial
theorem tw4856431653887292112 : True := trivial
theorem tw9345676750909349944 : True := trivial
theorem tw7519716089354478335 : True := trivial
theorem tw5366084841770067474 : True := trivial
theorem tw5148922909946612681 : True := trivial
theorem tw16412773359747925120 : True := trivial
theorem tw8025032847418708242 : True := trivial
theorem tw307737655149646647 : True := trivial
theorem tw6411954120941647267 : True := trivial
theorem tw17903497710992402801 : True := trivial
theorem tw15422856539912107476 : True := trivial
theorem tw3919010098100093602 : True := trivial
theorem tw1013155817946168525 : True := trivial
theorem tw17447410573909459338 : True := trivial
theorem tw15833661619300960221 : True := trivial
theorem tw12112201142124510154 : True := trivial
theorem tw17330945745186091897 : True := trivial
theorem tw2867327485932766208 : True := trivial
theorem tw11652457597714270106 : True := trivial
theorem tw11389486352061984695 : True := trivial
theorem tw10403243965636340961 : True := trivial
theorem tw16649331688326792143 : True := trivial
theorem tw922143313871775805 : True := trivial
theorem tw6293948785866598258 : True := trivial
theorem tw7510230149288206974 : True := trivial
theorem tw14620637471214046174 : True := trivial
theorem tw11319892378374348655 : True := trivial
theorem tw17901334829092211166 : True := trivial
theorem tw3452082135128663414 : True := trivial
theorem tw728884934406724761 : True := trivial
theorem tw18322514126500204803 : True := trivial
theorem tw10170382586518783626 : True := trivial
theorem tw16037735763661986305 : True := trivial
theorem tw395138700845864316 : True := trivial
theorem tw13330244855972007585 : True := trivial
theorem tw3571134770919094901 : True := trivial
theorem tw15529170255622000948 : True := trivial
theorem tw13409441903868389331 : True := trivial
theorem tw3789350110615891812 : True := trivial
theorem tw18293851220164018083 : True := trivial
theorem tw9783614193127449063 : True := trivial
theorem tw2216850387143573719 : True := trivial
theorem tw13431754692932380062 : True := trivial
theorem tw13217225542625558698 : True := trivial
theorem tw4377701919642642989 : True := trivial
theorem tw10601615944963115059 : True := trivial
theorem tw14478148883734587675 : True := trivial
theorem tw17087091549796120035 : True := trivial
theorem tw9499510787657705874 : True := trivial
theorem tw15852365999677673905 : True := trivial
theorem tw17177331786930743035 : True := trivial
theorem tw15042006015671813226 : True := trivial
theorem tw15967140613478806237 : True := trivial
theorem tw17252143746492648416 : True := trivial
theorem tw16640546478005224243 : True := trivial
theorem tw11162318198679636149 : True := trivial
theorem tw7610815399733428385 : True := trivial
theorem tw18293732401869909652 : True := trivial
theorem tw1882180444382439491 : True := trivial
theorem tw16853341256802265648 : True := trivial
theorem tw7068711184596962023 : True := trivial
theorem tw9641152695372364146 : True := trivial
theorem tw1413172679324656950 : True := trivial
theorem tw13277076834127875243 : True := trivial
theorem tw7023726343779634624 : True := trivial
theorem tw15615420239508185596 : True := trivial
theorem tw10603584201595350602 : True := trivial
theorem tw2887051446865420828 : True := trivial
theorem tw3381375190539634487 : True := trivial
theorem tw5190246844813560578 : True := trivial
theorem tw8428860471423672150 : True := trivial
theorem tw13903934854276604550 : True := trivial
theorem tw5282504435634884242 : True := trivial
theorem tw13828106393651249627 : True := trivial
theorem tw16432713993328977331 : True := trivial
theorem tw12614811148066621264 : True := trivial
theorem tw5511420028821071320 : True := trivial
theorem tw16011055738799735888 : True := trivial
theorem tw11213053971927718326 : True := trivial
theorem tw8268277133935991078 : True := trivial
theorem tw10024716035694756283 : True := trivial
theorem tw5130813555471234732 : True := trivial
theorem tw6305734824756694309 : True := trivial
theorem tw6394381022753523788 : True := trivial
theorem tw17047115858639842297 : True := trivial
end Mine.hd
set_option Elab.async true in
set_option maxRecDepth 100000 in
set_option maxHeartbeats 8000000 in
theorem Mine.hd : PySem.Challenge.rw_pf0125_01.Holds := by
  (w_on; o_law; k_head; (case hw => w_witness2))
  (k_go0; (all_goals try k_fold))
  rename_i X0 T K F c1 c2 c3 N l0
  have X := Mine.kin X0 (fun _ => by kernel_rfl)
  refine wpAny_mono (Mine.lawW Mine.bl1 ?hn Mine.hs4 c1 c2 c3 codeHd (Q := fun af _ σ' => af = .ret (.data (.bool true)) ∧ ∀ P ∈ [379, 374, 348, 341], σ' P = some (.tabl Mine.lamAl)) (fun _ _ h => ⟨rfl, h⟩) _ (Mine.st4 X T K F ?hm lifted (by assumption) N)) ?post ?exc
  case hm => rfl
  case hn => omega
  case exc =>
    rintro e s' ⟨_, _, _, _, _, _, _, h⟩
    exact h.elim
  case post =>
    rintro f s' ⟨af, ρ', σ', S, E, r, rfl, h⟩
    obtain ⟨m', F', _⟩ := S.fr
    cases f <;> first | exact r.elim | skip
    obtain rfl := r
    refine ⟨goodW_bool F' (S.gens.trans ?_) ?_ ?_ S.os, Mine.grown4 S h⟩
    · assumption
    · exact raisesW_false (by wrow_none_raised)
    · wrow_post
theorem PySem.Challenge.cw_pf0125_01_holds : PySem.Challenge.rw_pf0125_01.Holds := by
  exact Mine.hd
