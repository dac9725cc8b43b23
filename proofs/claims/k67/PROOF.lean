import PyProof.Rows.All
import Wide.All
import OpenK.AllK
import Wide.FinOn
import HandS.ForMost
import HandS.Exc
import HandS.TryOnly
import HandS.TryMany
import HandS.WordsExc
import HandS.TupAny
import HandS.Wide
import HandS.Deep
import HandS.Flow
import KE.KDictKeyed
import KE.SortData
import HandS.TupMul
import HandS.Style
import HandS.NoneIn
import HandS.CallSlots
import HandS.IsInst
import HandS.Conv
import KE.DataMinMax
import HandS.ExcOwn
import HandS.More
import HandS.SortInts
import HandS.TupLen
import HandS.DictComp
import HandS.HeadHook1
import HandS.Head2
import HandS.HeadEnd
import HandS.Ends
import HandS.ExcInit
import HandS.ExcField
import HandS.ExcIs
import KE.KExcSuper
import HandS.Replace
import HandS.Strs
import HandS.HeadHook2
import HandS.Codes
import PySem.Challenge.RW_stretchways_k67_texts_of_bars
set_option Elab.async false
set_option linter.all false
set_option autoImplicit false
set_option maxRecDepth 100000
set_option maxHeartbeats 0
/-! Ev0: values, store, results; what they stand for in the abstract heap. -/
namespace Ev
open PySem PySem.Spec PyProof.Rows L2

abbrev D := PyData
/-- a value: plain data; a mutable cell; a def -/
inductive A where
  | d (x : D)
  | loc (n : Nat)
  | fn (f : Nat)
abbrev Loc := List (Option A)
inductive Cell where
  | lst (xs : List A)
  | dic (kvs : List (D × A))
  | ins (c : Nat) (fs : List (Str × A))
  | fzn (x : D)
abbrev Store := List Cell
structure Exn where
  cls : Nat
  fs : List (Str × D)
inductive Res (α : Type) where
  | ok (a : α) (S : Store)
  | exc (x : Exn) (S : Store)
  | no
def Res.bind {α β : Type} (r : Res α) (f : α → Store → Res β) : Res β := match r with
  | .ok a S => f a S
  | .exc x S => .exc x S
  | .no => .no
@[simp] theorem Res.ok_bind {α β : Type} (a : α) (S : Store) (f : α → Store → Res β) : (Res.ok a S).bind f = f a S := rfl
@[simp] theorem Res.exc_bind {α β : Type} (x : Exn) (S : Store) (f : α → Store → Res β) : (Res.exc x S : Res α).bind f = .exc x S := rfl
@[simp] theorem Res.no_bind {α β : Type} (f : α → Store → Res β) : (Res.no : Res α).bind f = .no := rfl
abbrev DR (α : Type) := Loc → Store → Res α
abbrev DE := DR A
abbrev Fns := Nat → List A → Store → Res A

/-! ### plain data in the abstract heap: tuples and locked lists and dicts -/
/-- a locked list, or one of the written part -/
def FzL (K : PySem.W.Frag) (H : Hp) (a : Addr) (xs : List V) : Prop :=
  (∃ o, H a = some (.frz o (.lst xs))) ∨
    ∃ (o : Obj) (its : Array Value) (n : Nat), K.lookup a = some o ∧ o.cls = .type "list" ∧ o.dict = none ∧ o.data = .seq its n ∧ its.size ≤ sizeLine ∧ Vals xs its.toList
theorem FzL.sq {K : PySem.W.Frag} {H : Hp} {a : Addr} {xs : List V} (h : FzL K H a xs) : SqL K H a xs := by
  rcases h with ⟨o, h⟩ | h
  · exact .inl (.inr ⟨o, h⟩)
  · exact .inr h
/-- the object at a dict's address, exactly -/
def exactly (a : Addr) (o : Obj) : HO := .ext fun h => h.get? a = some o
/-- a locked dict's object, or one of the written part -/
def FzO (K : PySem.W.Frag) (H : Hp) (a : Addr) (o : Obj) : Prop := H a = some (.frz o (exactly a o)) ∨ K.lookup a = some o

/-- the key that a value is -/
def keyOf : D → Option NestedKey
  | .none => some .none
  | .bool b => some (.num (if b = true then 1 else 0))
  | .int i => some (.num i)
  | .str x => some (.text x)
  | .tuple ds => (keysOf ds).map .tup
  | _ => none
where keysOf : List D → Option (List NestedKey)
  | [] => some []
  | d :: ds => match keyOf d, keysOf ds with
    | some k, some ks => some (k :: ks)
    | _, _ => none

mutual
inductive DpF (w : World) (K : PySem.W.Frag) (H : Hp) : V → D → Prop
  | non : DpF w K H .non .none
  | bl (b : Bool) : DpF w K H (.bl b) (.bool b)
  | int (i : Int) : DpF w K H (.int i) (.int i)
  | str (x : Str) : DpF w K H (.str x) (.str x)
  | lst {a : Addr} {xs : List V} {ds : List D} : FzL K H a xs → DpFs w K H xs ds → DpF w K H (.ref a) (.list ds)
  | tup {a : Addr} {xs : List V} {ds : List D} : SqT K H a xs → DpFs w K H xs ds → DpF w K H (.ref a) (.tuple ds)
  | dic {a : Addr} {o : Obj} {es : Array DictEntry} {ep : Nat} {kvs : List (D × D)} : FzO K H a o → o.ExactDict → o.data = .dict es ep → (a == sysModules) = false → es.size ≤ sizeLine → (kvs.map fun p => keyOf p.1).Nodup →
      DpFd w K H es.toList kvs → DpF w K H (.ref a) (.dict kvs)
inductive DpFs (w : World) (K : PySem.W.Frag) (H : Hp) : List V → List D → Prop
  | nil : DpFs w K H [] []
  | cons {v : V} {vs : List V} {d : D} {ds : List D} : DpF w K H v d → DpFs w K H vs ds → DpFs w K H (v :: vs) (d :: ds)
inductive DpFd (w : World) (K : PySem.W.Frag) (H : Hp) : List DictEntry → List (D × D) → Prop
  | nil : DpFd w K H [] []
  | cons {e : DictEntry} {es : List DictEntry} {kv vv : V} {k x : D} {kvs : List (D × D)} {nk : NestedKey} : keyOf k = some nk → e.hash = nk.hash w → RelV kv e.key → RelV vv e.val → DpF w K H kv k → DpF w K H vv x → DpFd w K H es kvs → DpFd w K H (e :: es) ((k, x) :: kvs)
end

/-- what stays for ever: tuples, locked things -/
structure Pers (H H' : Hp) : Prop where
  tup : ∀ b xs, H b = some (.tup xs) → H' b = some (.tup xs)
  frz : ∀ b o u, H b = some (.frz o u) → H' b = some (.frz o u)
theorem Pers.refl (H : Hp) : Pers H H := ⟨fun _ _ h => h, fun _ _ _ h => h⟩
theorem Pers.trans {H H1 H2 : Hp} (a : Pers H H1) (b : Pers H1 H2) : Pers H H2 := ⟨fun c xs h => b.tup c xs (a.tup c xs h), fun c o u h => b.frz c o u (a.frz c o u h)⟩
theorem Pers.of {H H' : Hp} (s : Same H H') : Pers H H' := ⟨fun b _ h => s b _ h, fun b _ _ h => s b _ h⟩
section
variable {w : World} {K : PySem.W.Frag} {H H' : Hp}
theorem Pers.sqT (p : Pers H H') {a : Addr} {xs : List V} (h : SqT K H a xs) : SqT K H' a xs := by
  rcases h with (h | ⟨o, h⟩) | h
  · exact .inl (.inl (p.tup _ _ h))
  · exact .inl (.inr ⟨o, p.frz _ _ _ h⟩)
  · exact .inr h
theorem Pers.fzL (p : Pers H H') {a : Addr} {xs : List V} (h : FzL K H a xs) : FzL K H' a xs := by
  rcases h with ⟨o, h⟩ | h
  · exact .inl ⟨o, p.frz _ _ _ h⟩
  · exact .inr h
theorem Pers.fzO (p : Pers H H') {a : Addr} {o : Obj} (h : FzO K H a o) : FzO K H' a o := by
  rcases h with h | h
  · exact .inl (p.frz _ _ _ h)
  · exact .inr h
mutual
theorem DpF.mono (p : Pers H H') : ∀ {v : V} {d : D}, DpF w K H v d → DpF w K H' v d
  | _, _, .non => .non
  | _, _, .bl b => .bl b
  | _, _, .int i => .int i
  | _, _, .str x => .str x
  | _, _, .lst h r => .lst (p.fzL h) (DpFs.mono p r)
  | _, _, .tup h r => .tup (p.sqT h) (DpFs.mono p r)
  | _, _, .dic h a b c e nd r => .dic (p.fzO h) a b c e nd (DpFd.mono p r)
theorem DpFs.mono (p : Pers H H') : ∀ {vs : List V} {ds : List D}, DpFs w K H vs ds → DpFs w K H' vs ds
  | _, _, .nil => .nil
  | _, _, .cons h r => .cons (DpF.mono p h) (DpFs.mono p r)
theorem DpFd.mono (p : Pers H H') : ∀ {es : List DictEntry} {ds : List (D × D)}, DpFd w K H es ds → DpFd w K H' es ds
  | _, _, .nil => .nil
  | _, _, .cons k1 k2 a b h h' r => .cons k1 k2 a b (DpF.mono p h) (DpF.mono p h') (DpFd.mono p r)
end
theorem DpFs.length {vs : List V} {ds : List D} (h : DpFs w K H vs ds) : vs.length = ds.length := by
  induction ds generalizing vs with
  | nil => cases h; rfl
  | cons d ds ih => cases h with | cons a b => simp [ih b]
theorem DpFs.get {vs : List V} {ds : List D} (h : DpFs w K H vs ds) {i : Nat} {d : D} (e : ds[i]? = some d) : ∃ v, vs[i]? = some v ∧ DpF w K H v d := by
  induction ds generalizing vs i with
  | nil => simp at e
  | cons x ds ih =>
    cases h with
    | cons a b =>
      cases i with
      | zero => simp at e; subst e; exact ⟨_, rfl, a⟩
      | succ i => obtain ⟨v, h1, h2⟩ := ih b (by simpa using e); exact ⟨v, by simpa using h1, h2⟩
theorem DpFs.append {vs ws : List V} {ds es : List D} (h : DpFs w K H vs ds) (g : DpFs w K H ws es) : DpFs w K H (vs ++ ws) (ds ++ es) := by
  induction ds generalizing vs with
  | nil => cases h; exact g
  | cons d ds ih => cases h with | cons a b => exact .cons a (ih b)
theorem DpFs.take {vs : List V} {ds : List D} (n : Nat) (h : DpFs w K H vs ds) : DpFs w K H (vs.take n) (ds.take n) := by
  induction ds generalizing vs n with
  | nil => cases h; simp; exact .nil
  | cons d ds ih =>
    cases h with
    | cons a b =>
      cases n with
      | zero => exact .nil
      | succ n => exact .cons a (ih n b)
theorem DpFs.drop {vs : List V} {ds : List D} (n : Nat) (h : DpFs w K H vs ds) : DpFs w K H (vs.drop n) (ds.drop n) := by
  induction ds generalizing vs n with
  | nil => cases h; simp; exact .nil
  | cons d ds ih =>
    cases h with
    | cons a b =>
      cases n with
      | zero => exact .cons a b
      | succ n => exact ih n b
/-! without dicts: the hand layer has its own word -/
mutual
def nodict : D → Bool
  | .dict _ => false
  | .list ds => nodicts ds
  | .tuple ds => nodicts ds
  | _ => true
def nodicts : List D → Bool
  | [] => true
  | d :: ds => nodict d && nodicts ds
end
mutual
theorem DpF.dp : ∀ {v : V} {d : D}, nodict d = true → DpF w K H v d → Dp K H v d
  | _, _, _, .non => .non
  | _, _, _, .bl b => .bl b
  | _, _, _, .int i => .int i
  | _, _, _, .str x => .str x
  | _, _, e, .lst h r => .lst h.sq (DpFs.dp (by simpa [nodict] using e) r)
  | _, _, e, .tup h r => .tup h (DpFs.dp (by simpa [nodict] using e) r)
  | _, _, e, .dic .. => by simp [nodict] at e
theorem DpFs.dp : ∀ {vs : List V} {ds : List D}, nodicts ds = true → DpFs w K H vs ds → DpAll K H vs ds
  | _, _, _, .nil => .nil
  | _, _, e, .cons h r => .cons (DpF.dp (by simp [nodicts] at e; exact e.1) h) (DpFs.dp (by simp [nodicts] at e; exact e.2) r)
end
end

/-! ### the ghost step: a tracked list is locked -/
theorem freezeL {X : Cx} {pins : List (Addr × Obj)} {σ : L2.St} {H : Hp} {s : Shared} {a : Addr} {xs : List V} (I : Inv X pins σ H s) (h : H a = some (.lst xs)) : ∃ o, Inv X pins σ (upd H a (.frz o (.lst xs))) s := by
  obtain ⟨z, its, n, r, eo⟩ := I.hok a _ h
  have ne : ∀ b u, H b = some u → u ≠ .lst xs → b ≠ a := fun b u hb hu hab => by
    subst hab; rw [h] at hb; exact hu (Option.some.inj hb).symm
  refine ⟨{ cls := .type "list", data := .seq its.toArray n }, ?_⟩
  refine I.step (h' := s.heap) (g' := s.gens) (t' := s.toks) (d' := s.drawn) (ch := []) (fun _ z => nomatch z) (fun _ _ _ _ _ e _ => e) (fun b o _ _ _ e _ => ⟨o.slots, e⟩) (fun b o _ _ e => ?_) (fun b o _ e => ⟨o, e⟩)
    (fun b xs e => ?_) (fun b o u e => ?_) (fun b ps e => ⟨#[], ?_⟩) (fun _ e => e) (fun b u e => ?_) I.bare
  · rw [upd_ne (fun z => by subst z; rw [h] at e; cases e)]; exact e
  · rw [upd_ne (ne _ _ e (fun z => nomatch z))]; exact e
  · rw [upd_ne (ne _ _ e (fun z => nomatch z))]; exact e
  · rw [upd_ne (ne _ _ e (fun z => nomatch z)), e]; simp
  · by_cases hb : b = a
    · subst hb
      rw [upd_same] at e; cases e
      exact ⟨eo, z, its, n, r, eo⟩
    · rw [upd_ne hb] at e
      refine (I.hok b u e).stay (fun _ _ _ q => q) (fun c q => ?_) (fun c ys q => ?_)
      · rw [upd_ne (ne _ _ q (fun z => nomatch z))]; exact q
      · rw [upd_ne (ne _ _ q (fun z => nomatch z))]; exact q

/-! ### room for calls, counted as calls take it -/
structure Rm (k : Nat) (A : Around) : Prop where
  calm : A.handled = none
  deep : A.depth + k + 20 < recursionLimit
  wide : A.units + 8 * k + 260 < cLine
theorem Rm.less {j k : Nat} {A : Around} (r : Rm k A) (h : j ≤ k) : Rm j A := by
  obtain ⟨a, b, c⟩ := r
  exact ⟨a, by omega, by omega⟩
theorem Rm.call {k : Nat} {A : Around} (r : Rm (k + 1) A) (env : Env) : Rm k (A.deeper env) := by
  obtain ⟨a, b, c⟩ := r
  have e1 : (A.deeper env).depth = A.depth + 1 := rfl
  have e2 : (A.deeper env).units = A.units + 3 := rfl
  exact ⟨a, by omega, by omega⟩
theorem Rm.made {k : Nat} {A : Around} (r : Rm (k + 1) A) (C : Addr) (us : List Value) : Rm k (A.under (.builtin "type.__call__" ⟨.ref C :: us, []⟩)) := by
  obtain ⟨a, b, c⟩ := r
  have e1 := make_depth (A := A) (C := C) (us := us) (kw := [])
  have e2 := make_units (A := A) (C := C) (us := us) (kw := [])
  exact ⟨a, by omega, by omega⟩
theorem Rm.two {A : Around} (r : Rm 0 A) : Room 2 A := ⟨r.calm, by have := r.deep; omega, by have := r.wide; omega⟩
/-- a def keeps its promise, wherever there's room -/
structure FnK (P : Program) (w : World) (K : PySem.W.Frag) (mg : Str → Option Value) (base : Heap) (CX : CXT) (k : Nat) (f : Addr) (fd : FuncData) (ps : List Str) (sp : Sp) : Prop where
  num : ∀ vs H Q E, sp vs H Q E → vs.length = ps.length
  go : ∀ (A : Around) (outer : List Env) (s : Shared) (H : Hp) (args : Args) (us : List Value) (vs : List V) (Q : VK) (E : XK), Rm k A → Env0 P w K mg base A outer s H → BindsTo s fd args (ps.zip us) → Vals vs us → sp vs H Q E → codeAny (model P w) A (.call (.ref f) args) (CR CX outer P w H s Q E) s
section
variable {CX : CXT} {X : Cx} {k : Nat} {f : Addr} {fd : FuncData} {ps : List Str} {sp : Sp} {E : L2.St → XK} {pins : List (Addr × Obj)} {σ : L2.St} {H : Hp} {s : Shared} {Q : VK} {us : List Value} {vs : List V}
theorem FnK.call (F : FnK X.prog X.w X.K X.mg X.base CX k f fd ps sp) (r : Rm k X.A) (hb : Binds X.K fd ps []) (hx : PassesAt CX X σ (E σ)) (I : L2.Inv X pins σ H s) (rv : Vals vs us) (h : sp vs H Q (E σ)) :
    wpAny (model X.prog X.w) X.A (PySem.call (.ref f) us) (EP X pins σ Q) X.xe s := by
  have len : us.length = ps.length := rv.length.symm.trans (F.num _ _ _ _ h)
  have bd : BindsTo s fd ⟨us, []⟩ (ps.zip us) := by
    have z := hb s us I.kIn (by simpa using len)
    rwa [List.append_nil] at z
  refine wpAny_call (codeAny_mono (F.go X.A X.stack s H ⟨us, []⟩ us vs Q (E σ) r I.env0 bd rv h) fun res s' after => ?_)
  match res, after with
  | .error e, z => exact hx pins H s e s' I z
  | .ok (.ret u), z => exact I.after z
  | .ok .next, z => exact z.elim
  | .ok .brk, z => exact z.elim
  | .ok .cont, z => exact z.elim
end
section
variable {CX : CXT} {P : Program} {w : World} {K : PySem.W.Frag} {mg : Str → Option Value} {base : Heap}
theorem funK {x qual : Str} {st : Stmt} {f : Addr} {fd : FuncData} {N ps : List Str} {k : Nat} {sp : Sp} (F : Fun K x qual st f fd) (S : FnScope N ps (defScope st)) (num : ∀ vs H Q E, sp vs H Q E → vs.length = ps.length)
    (body : ∀ (cdv : Value) (A : Around) (outer : List Env) (s : Shared) (H : Hp) (vs : List V) (Q : VK) (E : XK), Rm k (A.deeper (envOfC qual (defScope st) s.heap.objs.size f cdv)) → sp vs H Q E →
      ∃ t, PSs (cxOf CX P w K mg base N qual (defScope st) f cdv A outer s H E) (defBody st) t ∧ t { nx := fun _ H' => Q .non H', rt := Q } (L2.start N vs) H) : FnK P w K mg base CX (k + 1) f fd ps sp := by
  obtain ⟨oc, od, kV, doc, pm, an, cdv, ct, osl, efd, at_, code⟩ := F.ex
  subst efd
  refine ⟨num, fun A outer s H args us vs Q E room e0 bd rv h => ?_⟩
  have up : ∀ b o, base.get? b = some o → s.heap.get? b = some o := fun b o e => (e0.bs b o e).1
  have inK : K.In s.heap := e0.mod.kin.keeps up
  have nolim : s.heap.NoLimit := e0.mod.nolimit.keeps up
  have named : ∀ y ∈ ps.zip us, (defScope st).names.lookup y.1 = some .local ∨ ((defScope st).names.lookup y.1 = some .cell ∧ ((cellsFrom (s.heap.objs.size + 1) (defScope st).names []).lookup y.1).isSome = true) := fun y hy =>
    (S.par y.1 (List.of_mem_zip (show (y.1, y.2) ∈ ps.zip us from hy)).1).imp id fun q => ⟨q, PySem.W.cellsFrom_some _ _ _ (.inl q)⟩
  refine codeAny_call_function (by have := room.deep; omega) (inK _ _ at_) rfl S.co S.gen rfl (PySem.W.codeRec_of inK code) (bd _ _ _ _ ?_)
  refine wpAny_newFunctionEnv_cells S.kind named fun env he s1 into => ?_
  subst he
  refine ⟨nolim.keeps into.toInCall.keep, codeAny_func ?_⟩
  obtain ⟨t, ht, q⟩ := body cdv A outer s H vs Q E (room.call _) h
  have J : L2.Inv (cxOf CX P w K mg base N qual (defScope st) f cdv A outer s H E) [] (L2.start N vs) H s1 := inv_start S room.calm e0 (num _ _ _ _ h) rv into
  refine wpAny_mono (ht.run [] s1 (L2.start N vs) H _ J q) (fun fl s' after => ?_) fun e s' z => z
  match fl, after with
  | .ret u, ⟨v, σ', H', I', ru, z⟩ => exact ⟨v, H', I'.os, I'.bare, I'.base, I'.hok, ru, z⟩
  | .next, ⟨σ', H', I', z⟩ => exact ⟨V.non, H', I'.os, I'.bare, I'.base, I'.hok, rfl, z⟩
  | .brk, ⟨_, _, _, z⟩ => exact z.elim
  | .cont, ⟨_, _, _, z⟩ => exact z.elim
end
end Ev

/-! Ev1: the relation of the store to the abstract heap, what a denotation asks, the judgements. -/
namespace Ev
open PySem PySem.Spec PyProof.Rows L2

/-- what a whole text gives -/
structure Gl where
  P : Program
  w : World
  K : PySem.W.Frag
  mg : Str → Option Value
  base : Heap
  ca : Nat → Addr
  fa : Nat → Addr
  fd : Nat → FuncData
  ps : Nat → List Str
  F : Fns
  Fm : Fns
  k : Nat

def RelA (G : Gl) (μ : List Addr) (H : Hp) : A → V → Prop
  | .d x, v => DpF G.w G.K H v x
  | .loc n, v => ∃ a, μ[n]? = some a ∧ v = .ref a
  | .fn f, v => v = .ref (G.fa f)
abbrev RelAs (G : Gl) (μ : List Addr) (H : Hp) : List A → List V → Prop := Paired (RelA G μ H)
/-- a key that is an int or a text -/
def leafD : Key → D
  | .inl i => .int i
  | .inr x => .str x
def LeafR (G : Gl) (μ : List Addr) (H : Hp) (p : D × A) (q : Key × V) : Prop := p.1 = leafD q.1 ∧ RelA G μ H p.2 q.2
/-- an entry whose key is a tuple -/
def EntR (G : Gl) (μ : List Addr) (H : Hp) (p : D × A) (e : DictEntry) : Prop :=
  ∃ ks b vv, keyOf p.1 = some (.tup ks) ∧ NestedKey.depth (.tup ks) ≤ 8 ∧ e.hash = NestedKey.hash G.w (.tup ks) ∧ e.key = .ref b ∧ RelV vv e.val ∧ DpF G.w G.K H (.ref b) p.1 ∧ RelA G μ H p.2 vv
def CellOk (G : Gl) (μ : List Addr) (H : Hp) (a : Addr) : Cell → Prop
  | .lst xs => ∃ vs, H a = some (.lst vs) ∧ RelAs G μ H xs vs
  | .dic kvs => (∃ ks : List (Key × V), H a = some (.dK ks) ∧ Paired (LeafR G μ H) kvs ks) ∨
      kvs ≠ [] ∧ ∃ o es ep, H a = some (exactly a o) ∧ o.ExactDict ∧ o.data = .dict es ep ∧ (a == sysModules) = false ∧ es.size ≤ sizeLine ∧ (kvs.map fun p => keyOf p.1).Nodup ∧ Paired (EntR G μ H) kvs es.toList
  | .ins c fs => ∃ dx gs, H a = some (.ins (G.ca c) dx gs) ∧ Paired (fun (p : Str × A) (q : Str × V) => p.1 = q.1 ∧ RelA G μ H p.2 q.2) fs gs
  | .fzn x => DpF G.w G.K H (.ref a) x
structure SimS (G : Gl) (μ : List Addr) (S : Store) (H : Hp) : Prop where
  nd : μ.Nodup
  len : μ.length = S.length
  cells : ∀ (n : Nat) c, S[n]? = some c → ∃ a, μ[n]? = some a ∧ CellOk G μ H a c
  there : ∀ a ∈ μ, H a ≠ none
structure SimL (G : Gl) (μ : List Addr) (H : Hp) (l : Loc) (σ : L2.St) : Prop where
  len : l.length = σ.length
  at_ : ∀ (i : Nat) a, l[i]? = some (some a) → ∃ v, σ[i]? = some (some v) ∧ RelA G μ H a v
/-- from (μ, H) to (μ', H'): what is not of the store stays, new addresses are new -/
structure Grow (μ μ' : List Addr) (H H' : Hp) : Prop where
  ex : ∃ ν, μ' = μ ++ ν ∧ ∀ b ∈ ν, H b = none
  fr : ∀ b o, H b = some o → b ∉ μ → H' b = some o
  keep : ∀ b, H b ≠ none → H' b ≠ none
  pers : Pers H H'
section
variable {G : Gl} {μ μ' μ1 μ2 : List Addr} {H H' H1 H2 : Hp} {S : Store} {l : Loc} {σ : L2.St}
theorem Grow.refl : Grow μ μ H H := ⟨⟨[], by simp, fun _ h => nomatch h⟩, fun _ _ h _ => h, fun _ h => h, Pers.refl H⟩
theorem Grow.same (s : Same H H') : Grow μ μ H H' := ⟨⟨[], by simp, fun _ h => nomatch h⟩, fun _ _ h _ => s _ _ h, fun b h => by
  cases e : H b with
  | none => exact absurd e h
  | some o => rw [s b o e]; simp, Pers.of s⟩
theorem Grow.trans (a : Grow μ μ1 H H1) (b : Grow μ1 μ2 H1 H2) : Grow μ μ2 H H2 := by
  obtain ⟨ν, rfl, n1⟩ := a.ex
  obtain ⟨ν', rfl, n2⟩ := b.ex
  refine ⟨⟨ν ++ ν', by simp, fun c hc => ?_⟩, fun c o h hm => ?_, fun c h => b.keep c (a.keep c h), a.pers.trans b.pers⟩
  · rcases List.mem_append.mp hc with h | h
    · exact n1 c h
    · cases e : H c with
      | none => rfl
      | some o => exact absurd (n2 c h) (a.keep c (by rw [e]; simp))
  · refine b.fr c o (a.fr c o h hm) fun z => ?_
    rcases List.mem_append.mp z with z | z
    · exact hm z
    · rw [n1 c z] at h; cases h
theorem get_ext {α : Type} {xs ys : List α} {n : Nat} {a : α} (h : xs[n]? = some a) : (xs ++ ys)[n]? = some a := by
  rw [List.getElem?_append_left (List.getElem?_eq_some_iff.mp h).1]; exact h
theorem RelA.mono (p : Pers H H') (ν : List Addr) : ∀ {a : A} {v : V}, RelA G μ H a v → RelA G (μ ++ ν) H' a v
  | .d _, _, h => DpF.mono p h
  | .loc _, _, ⟨b, h1, h2⟩ => ⟨b, get_ext h1, h2⟩
  | .fn _, _, h => h
theorem RelA.grow (g : Grow μ μ' H H') {a : A} {v : V} (h : RelA G μ H a v) : RelA G μ' H' a v := by
  obtain ⟨ν, rfl, _⟩ := g.ex
  exact RelA.mono g.pers ν h
theorem RelAs.grow (g : Grow μ μ' H H') {as : List A} {vs : List V} (h : RelAs G μ H as vs) : RelAs G μ' H' as vs := Paired.mapP h fun _ _ q => q.grow g
theorem SimL.grow (g : Grow μ μ' H H') (s : SimL G μ H l σ) : SimL G μ' H' l σ := ⟨s.len, fun i a e => let ⟨v, h1, h2⟩ := s.at_ i a e; ⟨v, h1, h2.grow g⟩⟩
theorem CellOk.mono (p : Pers H H') (ν : List Addr) {a : Addr} (e : H' a = H a) : ∀ {c : Cell}, CellOk G μ H a c → CellOk G (μ ++ ν) H' a c
  | .lst xs, ⟨vs, h1, h2⟩ => ⟨vs, e.trans h1, Paired.mapP h2 fun _ _ q => RelA.mono p ν q⟩
  | .dic kvs, .inl ⟨ks, h1, h2⟩ => .inl ⟨ks, e.trans h1, Paired.mapP h2 fun _ _ q => ⟨q.1, RelA.mono p ν q.2⟩⟩
  | .dic kvs, .inr ⟨ne, o, es, ep, h1, h2, h3, h4, h5, h6, h7⟩ => .inr ⟨ne, o, es, ep, e.trans h1, h2, h3, h4, h5, h6, Paired.mapP h7 fun _ _ ⟨ks, b, vv, a1, a2, a3, a4, a5, a6, a7⟩ => ⟨ks, b, vv, a1, a2, a3, a4, a5, DpF.mono p a6, RelA.mono p ν a7⟩⟩
  | .ins c fs, ⟨dx, gs, h1, h2⟩ => ⟨dx, gs, e.trans h1, Paired.mapP h2 fun _ _ q => ⟨q.1, RelA.mono p ν q.2⟩⟩
  | .fzn x, h => DpF.mono p h
theorem SimS.same (s : Same H H') (h : SimS G μ S H) : SimS G μ S H' := ⟨h.nd, h.len, fun n c e => by
  obtain ⟨a, h1, h2⟩ := h.cells n c e
  refine ⟨a, h1, ?_⟩
  have ha := h.there a (List.mem_of_getElem? h1)
  cases q : H a with
  | none => exact absurd q ha
  | some o => simpa using CellOk.mono (Pers.of s) [] ((s a o q).trans q.symm) h2, fun a m => (Grow.same (μ := μ) s).keep a (h.there a m)⟩
/-- a cell is written -/
theorem upd_pers {a : Addr} {o : HO} (m : ∀ xs, H a ≠ some (.tup xs)) (m2 : ∀ o u, H a ≠ some (.frz o u)) : Pers H (upd H a o) :=
  ⟨fun b xs h => by rw [upd_ne (fun z => by subst z; exact m _ h)]; exact h, fun b ob u h => by rw [upd_ne (fun z => by subst z; exact m2 _ _ h)]; exact h⟩
theorem SimS.set {n : Nat} {a : Addr} {o : HO} {c : Cell} (h : SimS G μ S H) (ha : μ[n]? = some a) (p : Pers H (upd H a o)) (new : CellOk G μ (upd H a o) a c) : SimS G μ (S.set n c) (upd H a o) := by
  refine ⟨h.nd, by rw [List.length_set]; exact h.len, fun m c' e => ?_, fun b hb => ?_⟩
  · by_cases hm : m = n
    · subst hm
      rw [List.getElem?_set_self (by rw [← h.len]; exact (List.getElem?_eq_some_iff.mp ha).1)] at e
      cases e
      exact ⟨a, ha, new⟩
    · rw [List.getElem?_set_ne (Ne.symm hm)] at e
      obtain ⟨b, h1, h2⟩ := h.cells m c' e
      refine ⟨b, h1, ?_⟩
      have hne : b ≠ a := fun z => hm (by subst z; exact nd_ix h.nd h1 ha)
      simpa using CellOk.mono p [] (upd_ne hne) h2
  · by_cases z : b = a
    · subst z; rw [upd_same]; simp
    · rw [upd_ne z]; exact h.there b hb
theorem Grow.set {n : Nat} {a : Addr} {o : HO} (ha : μ[n]? = some a) (p : Pers H (upd H a o)) : Grow μ μ H (upd H a o) :=
  ⟨⟨[], by simp, fun _ h => nomatch h⟩, fun b ob h hm => by rw [upd_ne (fun z => hm (by rw [z]; exact List.mem_of_getElem? ha))]; exact h, fun b h => by
    by_cases z : b = a
    · rw [z, upd_same]; simp
    · rw [upd_ne z]; exact h, p⟩
/-- a new cell -/
theorem SimS.new {a : Addr} {H' : Hp} {c : Cell} (h : SimS G μ S H) (hn : H a = none) (s : Same H H') (ht : H' a ≠ none) (new : CellOk G (μ ++ [a]) H' a c) : SimS G (μ ++ [a]) (S ++ [c]) H' := by
  have na : a ∉ μ := fun z => h.there a z hn
  refine ⟨?_, by simp [h.len], fun n c' e => ?_, fun b hb => ?_⟩
  · exact List.nodup_append.mpr ⟨h.nd, by simp, fun x hx y hy => by simp at hy; subst hy; exact fun z => na (z ▸ hx)⟩
  · by_cases hm : n < S.length
    · rw [List.getElem?_append_left hm] at e
      obtain ⟨b, h1, h2⟩ := h.cells n c' e
      refine ⟨b, get_ext h1, ?_⟩
      cases q : H b with
      | none => exact absurd q (h.there b (List.mem_of_getElem? h1))
      | some o => exact CellOk.mono (Pers.of s) [a] ((s b o q).trans q.symm) h2
    · have hn' : n = S.length := by
        have := (List.getElem?_eq_some_iff.mp e).1
        simp at this; omega
      subst hn'
      rw [List.getElem?_append_right (Nat.le_refl _)] at e
      simp at e; subst e
      exact ⟨a, by rw [List.getElem?_append_right (by rw [h.len]; exact Nat.le_refl _)]; simp [h.len], new⟩
  · rcases List.mem_append.mp hb with z | z
    · cases q : H b with
      | none => exact absurd q (h.there b z)
      | some o => rw [s b o q]; simp
    · simp at z; subst z; exact ht
theorem Grow.new {a : Addr} {H' : Hp} (hn : H a = none) (s : Same H H') : Grow μ (μ ++ [a]) H H' := by
  have g := Grow.same (μ := μ) s
  exact ⟨⟨[a], rfl, fun b hb => by simp at hb; subst hb; exact hn⟩, g.fr, g.keep, g.pers⟩
theorem same_new {a : Addr} {o : HO} (hn : H a = none) : Same H (upd H a o) := fun b x e => by
  rw [upd_ne (ne_of_none e hn)]; exact e
end

/-- how an exception lies -/
def ExnRel (G : Gl) (H : Hp) (x : Exn) (c : Value) (dd : Option Addr) : Prop :=
  c = .ref (G.ca x.cls) ∧ match dd with
    | none => x.fs = []
    | some d => ∃ gs, H d = some (.xd gs) ∧ Paired (fun (p : Str × D) (q : Str × V) => p.1 = q.1 ∧ DpF G.w G.K H q.2 p.2) x.fs gs

/-- what a result asks -/
def Aft {α β : Type} (G : Gl) (W : XK) (rel : List Addr → Hp → α → β → Prop) (μ : List Addr) (H : Hp) (r : Res α) (Q : β → Hp → Prop) : Prop := match r with
  | .ok a S' => ∀ μ' H' v, Grow μ μ' H H' → SimS G μ' S' H' → rel μ' H' a v → Q v H'
  | .exc x S' => ∀ μ' H' c dd, Grow μ μ' H H' → SimS G μ' S' H' → ExnRel G H' x c dd → W c dd H'
  | .no => False
section
variable {α β γ δ : Type} {G : Gl} {W : XK} {rel : List Addr → Hp → α → β → Prop} {rel' : List Addr → Hp → γ → δ → Prop} {μ μ' : List Addr} {H H' : Hp}
theorem Aft.grow {r : Res α} {Q : β → Hp → Prop} (h : Aft G W rel μ H r Q) (g : Grow μ μ' H H') : Aft G W rel μ' H' r Q := by
  cases r with
  | ok a S => exact fun μ2 H2 v g2 s r => h μ2 H2 v (g.trans g2) s r
  | exc x S => exact fun μ2 H2 c dd g2 s r => h μ2 H2 c dd (g.trans g2) s r
  | no => exact h
theorem Aft.bind {r : Res γ} {f : γ → Store → Res α} {Q : β → Hp → Prop} (h : Aft G W rel μ H (r.bind f) Q) :
    Aft G W rel' μ H r fun v H1 => ∃ a μ1 S1, Grow μ μ1 H H1 ∧ SimS G μ1 S1 H1 ∧ rel' μ1 H1 a v ∧ Aft G W rel μ1 H1 (f a S1) Q := by
  cases r with
  | ok a S => exact fun μ1 H1 v g s r => ⟨a, μ1, S, g, s, r, Aft.grow (r := f a S) h g⟩
  | exc x S => exact h
  | no => exact h
theorem Aft.imp {r : Res α} {Q Q' : β → Hp → Prop} (h : Aft G W rel μ H r Q) (hq : ∀ v H', Grow μ μ H H' ∨ True → Q v H' → Q' v H') : Aft G W rel μ H r Q' := by
  cases r with
  | ok a S => exact fun μ1 H1 v g s r => hq v H1 (.inr trivial) (h μ1 H1 v g s r)
  | exc x S => exact h
  | no => exact h
end

/-- a denotation as a reading -/
def tR {α β : Type} (G : Gl) (W : WX) (rel : List Addr → Hp → α → β → Prop) (de : DR α) : L2.St → Hp → (β → Hp → Prop) → Prop := fun σ H Q =>
  ∃ μ l S, SimS G μ S H ∧ SimL G μ H l σ ∧ Aft G (fun c dd H' => W c dd σ H') rel μ H (de l S) Q
abbrev relB : List Addr → Hp → Bool → Bool → Prop := fun _ _ a b => a = b
abbrev tE (G : Gl) (W : WX) (de : DE) : TE := tR G W (RelA G) de
abbrev tT (G : Gl) (W : WX) (de : DR Bool) : TT := tR G W relB de
abbrev tA (G : Gl) (W : WX) (de : DR (List A)) : TA := tR G W (RelAs G) de

/-- where a piece of a text stands -/
structure Stat (G : Gl) (sc : Scope) (N : List Str) (X : Cx) : Prop where
  prog : X.prog = G.P
  w : X.w = G.w
  K : X.K = G.K
  mg : X.mg = G.mg
  base : X.base = G.base
  scope : X.env.scope = sc
  names : X.N = N
  nd : N.Nodup
  calm : X.calm = true
  room : Rm G.k X.A
def Snd (G : Gl) (sc : Scope) (N : List Str) (e : Expr) (de : DE) : Prop := ∀ X W, Stat G sc N X → Takes X W → PE X e (tE G W de)
def SndT (G : Gl) (sc : Scope) (N : List Str) (e : Expr) (de : DR Bool) : Prop := ∀ X W, Stat G sc N X → Takes X W → PT X e (tT G W de)
def SndA (G : Gl) (sc : Scope) (N : List Str) (es : List Expr) (de : DR (List A)) : Prop := ∀ X W, Stat G sc N X → Takes X W → PA X es (tA G W de)

section
variable {G : Gl} {sc : Scope} {N : List Str} {W : WX} {σ : L2.St} {H : Hp}
theorem tR_ret {α β : Type} {rel : List Addr → Hp → α → β → Prop} {de : DR α} {μ : List Addr} {l : Loc} {S : Store} {Q : β → Hp → Prop} (s : SimS G μ S H) (sl : SimL G μ H l σ) (h : Aft G (fun c dd H' => W c dd σ H') rel μ H (de l S) Q) : tR G W rel de σ H Q := ⟨μ, l, S, s, sl, h⟩
/-- the end of a reading whose value is known -/
theorem Aft.here {α β : Type} {rel : List Addr → Hp → α → β → Prop} {W : XK} {μ : List Addr} {a : α} {S : Store} {v : β} {Q : β → Hp → Prop} (h : Aft G W rel μ H (.ok a S) Q) (s : SimS G μ S H) (r : rel μ H a v) : Q v H := h μ H v Grow.refl s r
/-- two in a row -/
theorem tR_two {α β γ δ : Type} {rel : List Addr → Hp → α → β → Prop} {rel1 rel2 : List Addr → Hp → γ → δ → Prop} {da db : DR γ} {f : γ → γ → Store → Res α} {Q : β → Hp → Prop}
    (rg : ∀ {μ μ' : List Addr} {H H' : Hp} {a v}, Grow μ μ' H H' → rel1 μ H a v → rel1 μ' H' a v)
    (h : tR G W rel (fun l S => (da l S).bind fun x S1 => (db l S1).bind fun y S2 => f x y S2) σ H Q) :
    tR G W rel1 da σ H fun x H1 => tR G W rel2 db σ H1 fun y H2 => ∃ μ2 a b S2, SimS G μ2 S2 H2 ∧ rel1 μ2 H2 a x ∧ rel2 μ2 H2 b y ∧ Aft G (fun c dd H' => W c dd σ H') rel μ2 H2 (f a b S2) Q := by
  obtain ⟨μ, l, S, s, sl, h⟩ := h
  refine ⟨μ, l, S, s, sl, ?_⟩
  refine Aft.imp (Aft.bind (rel' := rel1) h) fun v H1 _ ⟨a, μ1, S1, g1, s1, r1, h1⟩ => ?_
  refine ⟨μ1, l, S1, s1, sl.grow g1, ?_⟩
  exact Aft.imp (Aft.bind (rel' := rel2) h1) fun u H2 _ ⟨b, μ2, S2, g2, s2, r2, h2⟩ => ⟨μ2, a, b, S2, s2, rg g2 r1, r2, h2⟩
theorem tR_one {α β γ δ : Type} {rel : List Addr → Hp → α → β → Prop} {rel1 : List Addr → Hp → γ → δ → Prop} {da : DR γ} {f : γ → Store → Res α} {Q : β → Hp → Prop}
    (h : tR G W rel (fun l S => (da l S).bind f) σ H Q) :
    tR G W rel1 da σ H fun x H1 => ∃ μ1 a S1, SimS G μ1 S1 H1 ∧ rel1 μ1 H1 a x ∧ Aft G (fun c dd H' => W c dd σ H') rel μ1 H1 (f a S1) Q := by
  obtain ⟨μ, l, S, s, sl, h⟩ := h
  exact ⟨μ, l, S, s, sl, Aft.imp (Aft.bind (rel' := rel1) h) fun v H1 _ ⟨a, μ1, S1, g1, s1, r1, h1⟩ => ⟨μ1, a, S1, s1, r1, h1⟩⟩
end

/-! ### names, constants -/
def dVal (x : D) : DE := fun _ S => .ok (.d x) S
def dName (i : Nat) : DE := fun l S => match l[i]? with
  | some (some a) => .ok a S
  | _ => .no
section
variable {G : Gl} {sc : Scope} {N : List Str} {pos : Pos}
/-- what a name's use asks of its scope -/
def visB (sc : Scope) (x : Str) : Bool := (sc.names.lookup x == some .local || sc.names.lookup x == some .cell || sc.names.lookup x == some .free) && !(x == ("__debug__" : Str)) && !(x == ("__classdict__" : Str))
theorem vis_of {sc : Scope} {x : Str} (h : visB sc x = true) : Vis sc x ∧ (x == ("__debug__" : Str)) = false ∧ (x == ("__classdict__" : Str)) = false := by
  unfold visB at h
  simp only [Bool.and_eq_true, Bool.or_eq_true, beq_iff_eq, Bool.not_eq_true'] at h
  exact ⟨h.1.1.elim (fun z => z.elim .inl fun z => .inr (.inl z)) fun z => .inr (.inr z), h.1.2, h.2⟩
theorem r_name {i : Nat} {x : Str} (hN : N[i]? = some x) (hv : visB sc x = true) : Snd G sc N (.Name x pos) (dName i) := fun X W st tk => by
  obtain ⟨v1, v2, v3⟩ := vis_of hv
  refine ⟨fun pins s σ H Q I h => (pe_var (X := X) (i := i) (by rw [st.names]; exact hN) (by rw [st.scope]; exact v1) v2 v3).run pins s σ H Q I ?_⟩
  obtain ⟨μ, l, S, ss, sl, h⟩ := h
  unfold dName at h
  split at h
  · rename_i a e
    obtain ⟨v, h1, h2⟩ := sl.at_ i a e
    exact ⟨v, h1, h.here ss h2⟩
  · exact h.elim
theorem r_const {e : Expr} {v : V} {x : D} (hp : ∀ X, PE X e (tC v)) (hr : ∀ K w H, DpF w K H v x) : Snd G sc N e (dVal x) := fun X W st tk =>
  ⟨fun pins s σ H Q I h => (hp X).run pins s σ H Q I (by obtain ⟨μ, l, S, ss, sl, h⟩ := h; exact h.here ss (hr _ _ _))⟩
theorem r_int {i j} : Snd G sc N (.Constant (.int i) j pos) (dVal (.int i)) := r_const (fun _ => pe_int) fun _ _ _ => .int i
theorem r_bool {b j} : Snd G sc N (.Constant (.bool b) j pos) (dVal (.bool b)) := r_const (fun _ => pe_bl) fun _ _ _ => .bl b
theorem r_none {j} : Snd G sc N (.Constant .none j pos) (dVal .none) := r_const (fun _ => pe_non) fun _ _ _ => .non
theorem r_str {x j} : Snd G sc N (.Constant (.str x) j pos) (dVal (.str x)) := r_const (fun _ => pe_str) fun _ _ _ => .str x
end
end Ev

/-! Ev2: operators, comparisons, tests, subscripts. -/
namespace Ev
open PySem PySem.Spec PyProof.Rows L2

section
variable {α β : Type} {G : Gl} {W : WX} {σ : L2.St} {H : Hp} {rel : List Addr → Hp → α → β → Prop}
theorem tR.imp {de : DR α} {Q Q' : β → Hp → Prop} (h : tR G W rel de σ H Q) (hq : ∀ v H', Q v H' → Q' v H') : tR G W rel de σ H Q' := by
  obtain ⟨μ, l, S, s, sl, h⟩ := h
  exact ⟨μ, l, S, s, sl, Aft.imp h fun v H' _ q => hq v H' q⟩
end

/-- a read-only operation on two values of the store's -/
def rA2 (G : Gl) (f : A → A → Store → Option A) : R2 := fun x y H Q => ∃ μ a b S r, SimS G μ S H ∧ RelA G μ H a x ∧ RelA G μ H b y ∧ f a b S = some r ∧ ∀ H' v, Same H H' → RelA G μ H' r v → Q v H'
def opt (o : Option A) (S : Store) : Res A := match o with
  | some r => .ok r S
  | none => .no
def dOp2 (f : A → A → Store → Option A) (da db : DE) : DE := fun l S => (da l S).bind fun x S1 => (db l S1).bind fun y S2 => opt (f x y S2) S2
/-- plain data alone -/
def pu2 (g : D → D → Option D) : A → A → Store → Option A := fun a b _ => match a, b with
  | .d x, .d y => (g x y).map .d
  | _, _ => none
def rP2 (G : Gl) (g : D → D → Option D) : R2 := fun x y H Q => ∃ d e z, DpF G.w G.K H x d ∧ DpF G.w G.K H y e ∧ g d e = some z ∧ ∀ H' v, Same H H' → DpF G.w G.K H' v z → Q v H'
theorem rA2_pure {G : Gl} {g : D → D → Option D} {x y : V} {H : Hp} {Q : VK} (h : rA2 G (pu2 g) x y H Q) : rP2 G g x y H Q := by
  obtain ⟨μ, a, b, S, r, s, ra, rb, e, q⟩ := h
  cases a with
  | d a =>
    cases b with
    | d b =>
      simp only [pu2, Option.map_eq_some_iff] at e
      obtain ⟨z, hz, rfl⟩ := e
      exact ⟨a, b, z, ra, rb, hz, q⟩
    | _ => simp [pu2] at e
  | _ => cases b <;> simp [pu2] at e
section
variable {G : Gl} {W : WX} {σ : L2.St} {H : Hp}
theorem op2_read {f : A → A → Store → Option A} {da db : DE} {Q : VK} (h : tE G W (dOp2 f da db) σ H Q) : tOp (rA2 G f) (tE G W da) (tE G W db) σ H Q := by
  refine tR.imp (tR_two (rel1 := RelA G) (rel2 := RelA G) (fun g r => r.grow g) h) fun x H1 h1 => tR.imp h1 fun y H2 ⟨μ2, a, b, S2, s2, ra, rb, h2⟩ => ?_
  unfold opt at h2
  split at h2
  · rename_i r e
    exact ⟨μ2, a, b, S2, r, s2, ra, rb, e, fun H' v sm rv => h2 μ2 H' v (Grow.same sm) (s2.same sm) rv⟩
  · exact h2.elim
end
/-- where an operator stands: room, nothing handled -/
structure Here (G : Gl) (X : Cx) : Prop where
  prog : X.prog = G.P
  w : X.w = G.w
  K : X.K = G.K
  calm : X.calm = true
  room : Rm G.k X.A
theorem Stat.here {G : Gl} {sc : Scope} {N : List Str} {X : Cx} (st : Stat G sc N X) : Here G X := ⟨st.prog, st.w, st.K, st.calm, st.room⟩
theorem Here.hu {G : Gl} {X : Cx} (h : Here G X) : X.A.units + 64 < cLine := by have := h.room.wide; omega
def OpS (G : Gl) (sem : Value → Value → Sem Value) (f : A → A → Store → Option A) : Prop := ∀ X, Here G X → OpR X sem (rA2 G f)
def OpD (G : Gl) (sem : Value → Value → Sem Value) (g : D → D → Option D) : Prop := ∀ X, Here G X → OpR X sem (rP2 G g)
theorem OpD.s {G : Gl} {sem : Value → Value → Sem Value} {g : D → D → Option D} (h : OpD G sem g) : OpS G sem (pu2 g) := fun X hX pins s σ H x y v u Q I rx ry q => h X hX pins s σ H x y v u Q I rx ry (rA2_pure q)

section
variable {G : Gl} {sc : Scope} {N : List Str} {pos : Pos} {a b c e : Expr} {da db dc de : DE} {f f' : A → A → Store → Option A}
theorem r_bin {op : Operator} (ho : OpS G (binaryOp op) f) (ha : Snd G sc N a da) (hb : Snd G sc N b db) : Snd G sc N (.BinOp a op b pos) (dOp2 f da db) := fun X W st tk =>
  ⟨fun pins s σ H Q I h => (pe_op (ho X st.here) (ha X W st tk) (hb X W st tk)).run pins s σ H Q I (op2_read h)⟩
theorem r_cmp {op : CmpOp} (ho : OpS G (compareOp op) f) (ha : Snd G sc N a da) (hb : Snd G sc N b db) (hm : behindInMarks op b = false := by rfl) : Snd G sc N (.Compare a [op] [b] pos) (dOp2 f da db) := fun X W st tk =>
  ⟨fun pins s σ H Q I h => (pe_cmpR (ho X st.here) (ha X W st tk) (hb X W st tk) hm).run pins s σ H Q I (op2_read h)⟩
/-- a value that is a bool, as a test -/
def toB (de : DE) : DR Bool := fun l S => (de l S).bind fun a S1 => match a with
  | .d (.bool b) => .ok b S1
  | _ => .no
theorem toB_read {W : WX} {σ : L2.St} {H : Hp} {Q : Bool → Hp → Prop} (h : tT G W (toB de) σ H Q) : tTest (tE G W de) σ H Q := by
  refine tR.imp (tR_one (rel1 := RelA G) h) fun x H1 ⟨μ1, a, S1, s1, ra, h1⟩ => ?_
  cases a with
  | d a =>
    cases a with
    | bool b =>
      cases ra
      exact ⟨b, rfl, h1 μ1 H1 b Grow.refl s1 rfl⟩
    | _ => exact h1.elim
  | _ => exact h1.elim
theorem r_tcmp {op : CmpOp} (ho : OpS G (compareOp op) f) (ha : Snd G sc N a da) (hb : Snd G sc N b db) (hm : behindInMarks op b = false := by rfl) : SndT G sc N (.Compare a [op] [b] pos) (toB (dOp2 f da db)) := fun X W st tk =>
  ⟨fun pins s σ H Q I h => (pt_cmpR (ho X st.here) (ha X W st tk) (hb X W st tk) hm).run pins s σ H Q I (tR.imp (toB_read h : tTest (tE G W (dOp2 f da db)) σ H Q) (fun _ _ q => q) |> fun z => op2_read z)⟩
/-- a value that is a bool, as a test: a name, a call, a subscript .. -/
theorem r_tval (he : ∀ (env : Env) whole, isTrue e env whole = (do let v ← whole; standAt e.pos; holding [v] (truthy v)) := by intro _ _; rfl) (h : Snd G sc N e de) : SndT G sc N e (toB de) := fun X W st tk =>
  ⟨fun pins s σ H Q I q => (pt_val (h X W st tk) (he X.env)).run pins s σ H Q I (toB_read q)⟩
/-- a op b op' c -/
def dChain (f f' : A → A → Store → Option A) (da db dc : DE) : DE := fun l S => (da l S).bind fun x S1 => (db l S1).bind fun y S2 => match f x y S2 with
  | some (.d (.bool true)) => (dc l S2).bind fun z S3 => opt (f' y z S3) S3
  | some (.d (.bool false)) => .ok (.d (.bool false)) S2
  | _ => .no
theorem chain_read {W : WX} {σ : L2.St} {H : Hp} {Q : VK} (h : tE G W (dChain f f' da db dc) σ H Q) : tChain (rA2 G f) (rA2 G f') (tE G W da) (tE G W db) (tE G W dc) σ H Q := by
  obtain ⟨μ, l, S, s, sl, h⟩ := h
  refine ⟨μ, l, S, s, sl, Aft.imp (Aft.bind (rel' := RelA G) h) fun x H1 _ ⟨a, μ1, S1, g1, s1, ra, h1⟩ => ?_⟩
  refine ⟨μ1, l, S1, s1, sl.grow g1, Aft.imp (Aft.bind (rel' := RelA G) h1) fun y H2 _ ⟨b, μ2, S2, g2, s2, rb, h2⟩ => ?_⟩
  have ra2 := ra.grow g2
  split at h2
  · rename_i e
    refine ⟨μ2, a, b, S2, _, s2, ra2, rb, e, fun H' v sm rv => ?_⟩
    cases rv
    refine ⟨true, rfl, ?_⟩
    rw [if_pos rfl]
    have g3 := Grow.same (μ := μ2) sm
    have h3 := Aft.grow h2 g3
    refine ⟨μ2, l, S2, s2.same sm, ((sl.grow g1).grow g2).grow g3, Aft.imp (Aft.bind (rel' := RelA G) h3) fun z H4 _ ⟨c', μ4, S4, g4, s4, rc, h4⟩ => ?_⟩
    unfold opt at h4
    split at h4
    · rename_i r e'
      exact ⟨μ4, b, c', S4, r, s4, (rb.grow g3).grow g4, rc, e', fun H' v sm rv => h4 μ4 H' v (Grow.same sm) (s4.same sm) rv⟩
    · exact h4.elim
  · rename_i e
    refine ⟨μ2, a, b, S2, _, s2, ra2, rb, e, fun H' v sm rv => ?_⟩
    cases rv
    refine ⟨false, rfl, ?_⟩
    rw [if_neg Bool.false_ne_true]
    exact h2 μ2 H' _ (Grow.same sm) (s2.same sm) (.bl false)
  · exact h2.elim
theorem r_chain {op op' : CmpOp} (ho : OpS G (compareOp op) f) (ho' : OpS G (compareOp op') f') (ha : Snd G sc N a da) (hb : Snd G sc N b db) (hc : Snd G sc N c dc) (hm : lastMarks [op, op'] [b, c] = false := by with_unfolding_all rfl) :
    Snd G sc N (.Compare a [op, op'] [b, c] pos) (dChain f f' da db dc) := fun X W st tk =>
  ⟨fun pins s σ H Q I h => (pe_chain (ho X st.here) (ho' X st.here) (ha X W st tk) (hb X W st tk) (hc X W st tk) hm).run pins s σ H Q I (chain_read h)⟩
theorem r_tchain {op op' : CmpOp} (ho : OpS G (compareOp op) f) (ho' : OpS G (compareOp op') f') (ha : Snd G sc N a da) (hb : Snd G sc N b db) (hc : Snd G sc N c dc) (hm : lastMarks [op, op'] [b, c] = false := by with_unfolding_all rfl) :
    SndT G sc N (.Compare a [op, op'] [b, c] pos) (toB (dChain f f' da db dc)) := fun X W st tk =>
  ⟨fun pins s σ H Q I h => (pt_chain (ho X st.here) (ho' X st.here) (ha X W st tk) (hb X W st tk) (hc X W st tk) hm).run pins s σ H Q I (chain_read (toB_read h))⟩

/-! ### not, and, or, if .. else -/
def dNotT (t : DR Bool) : DR Bool := fun l S => (t l S).bind fun b S1 => .ok (!b) S1
def dAndT (t u : DR Bool) : DR Bool := fun l S => (t l S).bind fun b S1 => if b = true then u l S1 else .ok false S1
def dOrT (t u : DR Bool) : DR Bool := fun l S => (t l S).bind fun b S1 => if b = true then .ok true S1 else u l S1
def ofB (t : DR Bool) : DE := fun l S => (t l S).bind fun b S1 => .ok (.d (.bool b)) S1
def dIf {α : Type} (t : DR Bool) (u v : DR α) : DR α := fun l S => (t l S).bind fun b S1 => if b = true then u l S1 else v l S1
def SndW (G : Gl) (sc : Scope) (N : List Str) (e : Expr) (de : DR Bool) : Prop := ∀ X W, Stat G sc N X → Takes X W → PW X e (tT G W de)
variable {ta tb tc : DR Bool} {rest : List Expr}
theorem SndW.t (h : SndW G sc N e ta) : SndT G sc N e ta := fun X W st tk => (h X W st tk).pt
theorem if_read {α β : Type} {rel : List Addr → Hp → α → β → Prop} {W : WX} {σ : L2.St} {H : Hp} {u v : DR α} {Q : β → Hp → Prop} (h : tR G W rel (dIf ta u v) σ H Q) :
    tT G W ta σ H fun b H1 => if b = true then tR G W rel u σ H1 Q else tR G W rel v σ H1 Q := by
  obtain ⟨μ, l, S, s, sl, h⟩ := h
  refine ⟨μ, l, S, s, sl, Aft.imp (Aft.bind (rel' := relB) h) fun b H1 _ ⟨b', μ1, S1, g1, s1, rb, h1⟩ => ?_⟩
  cases rb
  cases b with
  | true => exact ⟨μ1, l, S1, s1, sl.grow g1, h1⟩
  | false => exact ⟨μ1, l, S1, s1, sl.grow g1, h1⟩
theorem dAndT_if : dAndT ta tb = dIf ta tb (fun _ S => .ok false S) := rfl
theorem dOrT_if : dOrT ta tb = dIf ta (fun _ S => .ok true S) tb := rfl
theorem ret_read {α β : Type} {rel : List Addr → Hp → α → β → Prop} {W : WX} {σ : L2.St} {H : Hp} {x : α} {y : β} {Q : β → Hp → Prop} (h : tR G W rel (fun _ S => .ok x S) σ H Q) (hr : ∀ μ, rel μ H x y) : Q y H := by
  obtain ⟨μ, l, S, s, sl, h⟩ := h
  exact h.here s (hr μ)
theorem r_tnot (h : SndT G sc N a ta) : SndT G sc N (.UnaryOp .Not a pos) (dNotT ta) := fun X W st tk =>
  ⟨fun pins s σ H Q I q => (pt_not (h X W st tk)).run pins s σ H Q I (tR.imp (tR_one (rel1 := relB) q) fun b H1 ⟨μ1, b', S1, s1, rb, h1⟩ => by
    have rb : b' = b := rb
    subst rb
    exact h1.here s1 rfl)⟩
theorem r_wand1 (h : SndT G sc N a ta) : SndW G sc N (.BoolOp .And [a] pos) ta := fun X W st tk => pw_and1 (h X W st tk)
theorem r_wor1 (h : SndT G sc N a ta) : SndW G sc N (.BoolOp .Or [a] pos) ta := fun X W st tk => pw_or1 (h X W st tk)
theorem r_wand (h : SndT G sc N a ta) (hb : SndW G sc N (.BoolOp .And (b :: rest) pos) tb) : SndW G sc N (.BoolOp .And (a :: b :: rest) pos) (dAndT ta tb) := fun X W st tk =>
  ⟨fun wh pins s σ H Q I q => (pw_and (h X W st tk) (hb X W st tk)).run wh pins s σ H Q I (tR.imp (if_read (dAndT_if ▸ q)) fun b H1 h1 => by
    cases b with
    | true => exact h1
    | false => exact ret_read h1 fun _ => rfl)⟩
theorem r_wor (h : SndT G sc N a ta) (hb : SndW G sc N (.BoolOp .Or (b :: rest) pos) tb) : SndW G sc N (.BoolOp .Or (a :: b :: rest) pos) (dOrT ta tb) := fun X W st tk =>
  ⟨fun wh pins s σ H Q I q => (pw_or (h X W st tk) (hb X W st tk)).run wh pins s σ H Q I (tR.imp (if_read (dOrT_if ▸ q)) fun b H1 h1 => by
    cases b with
    | true => exact ret_read h1 fun _ => rfl
    | false => exact h1)⟩
/-- values: bools on the left -/
def dAndV (da db : DE) : DE := dIf (toB da) db (dVal (.bool false))
def dOrV (da db : DE) : DE := dIf (toB da) (dVal (.bool true)) db
def dNotV (da : DE) : DE := ofB (dNotT (toB da))
theorem r_one {op} (h : Snd G sc N a da) : Snd G sc N (.BoolOp op [a] pos) da := fun X W st tk => pe_one (h X W st tk)
theorem r_and (ha : Snd G sc N a da) (hb : Snd G sc N (.BoolOp .And (b :: rest) pos) db) : Snd G sc N (.BoolOp .And (a :: b :: rest) pos) (dAndV da db) := fun X W st tk =>
  ⟨fun pins s σ H Q I q => (pe_and (ha X W st tk) (hb X W st tk)).run pins s σ H Q I (tR.imp (toB_read (if_read q)) fun x H1 ⟨c, e, h1⟩ => ⟨c, e, by
    cases c with
    | true => exact h1
    | false => exact ret_read h1 fun _ => .bl false⟩)⟩
theorem r_or (ha : Snd G sc N a da) (hb : Snd G sc N (.BoolOp .Or (b :: rest) pos) db) : Snd G sc N (.BoolOp .Or (a :: b :: rest) pos) (dOrV da db) := fun X W st tk =>
  ⟨fun pins s σ H Q I q => (pe_or (ha X W st tk) (hb X W st tk)).run pins s σ H Q I (tR.imp (toB_read (if_read q)) fun x H1 ⟨c, e, h1⟩ => ⟨c, e, by
    cases c with
    | true => exact ret_read h1 fun _ => .bl true
    | false => exact h1⟩)⟩
theorem r_not (ha : Snd G sc N a da) : Snd G sc N (.UnaryOp .Not a pos) (dNotV da) := fun X W st tk =>
  ⟨fun pins s σ H Q I q => (pe_not (ha X W st tk)).run pins s σ H Q I (by
    have h1 := tR_one (rel1 := relB) q
    obtain ⟨μ, l, S, s, sl, h⟩ := q
    have h' : Aft G (fun c dd H' => W c dd σ H') (RelA G) μ H ((toB da l S).bind fun b S1 => .ok (.d (.bool (!b))) S1) Q := by
      have e : (dNotV da) l S = (toB da l S).bind fun b S1 => .ok (.d (.bool (!b))) S1 := by
        unfold dNotV ofB dNotT
        cases toB da l S <;> rfl
      rw [← e]; exact h
    have h2 : tT G W (toB da) σ H fun c H1 => Q (.bl (!c)) H1 := ⟨μ, l, S, s, sl, Aft.imp (Aft.bind (rel' := relB) h') fun b H1 _ ⟨b', μ1, S1, g1, s1, rb, h1⟩ => by
      have rb : b' = b := rb
      subst rb
      exact h1.here s1 (.bl _)⟩
    exact toB_read h2)⟩
theorem r_ifexp (hc : SndT G sc N c tc) (ha : Snd G sc N a da) (hb : Snd G sc N b db) : Snd G sc N (.IfExp c a b pos) (dIf tc da db) := fun X W st tk =>
  ⟨fun pins s σ H Q I q => (pe_ifExp (hc X W st tk) (ha X W st tk) (hb X W st tk)).run pins s σ H Q I (if_read q)⟩

/-! ### one operand -/
def dOp1 (f : A → Store → Option A) (da : DE) : DE := fun l S => (da l S).bind fun x S1 => opt (f x S1) S1
def pu1 (g : D → Option D) : A → Store → Option A := fun a _ => match a with
  | .d x => (g x).map .d
  | _ => none
def negD : D → Option D
  | .int i => some (.int (-i))
  | _ => none
theorem op1_read {g : A → Store → Option A} {W : WX} {σ : L2.St} {H : Hp} {Q : VK} (h : tE G W (dOp1 g da) σ H Q) :
    tE G W da σ H fun x H1 => ∃ μ a S r, SimS G μ S H1 ∧ RelA G μ H1 a x ∧ g a S = some r ∧ ∀ H' v, Same H1 H' → RelA G μ H' r v → Q v H' := by
  refine tR.imp (tR_one (rel1 := RelA G) h) fun x H1 ⟨μ1, a, S1, s1, ra, h1⟩ => ?_
  unfold opt at h1
  split at h1
  · rename_i r e
    exact ⟨μ1, a, S1, r, s1, ra, e, fun H' v sm rv => h1 μ1 H' v (Grow.same sm) (s1.same sm) rv⟩
  · exact h1.elim
theorem r_neg (ha : Snd G sc N a da) : Snd G sc N (.UnaryOp .USub a pos) (dOp1 (pu1 negD) da) := fun X W st tk =>
  ⟨fun pins s σ H Q I q => (pe_un un_neg (ha X W st tk)).run pins s σ H Q I (tR.imp (op1_read q) fun x H1 ⟨μ, a, S, r, s, ra, e, h⟩ => by
    cases a with
    | d a =>
      cases a with
      | int i =>
        cases ra
        simp only [pu1, negD, Option.map_some, Option.some.injEq] at e
        subst e
        exact ⟨i, rfl, h H1 _ (Same.refl _) (.int _)⟩
      | _ => simp [pu1, negD] at e
    | _ => simp [pu1] at e)⟩
end
end Ev

/-! Ev3: what the operators do on plain data. -/
namespace Ev
open PySem PySem.Spec PyProof.Rows L2

section
variable {X : Cx} {pins : List (Addr × Obj)} {σ : L2.St} {H : Hp} {s : Shared} {K : PySem.W.Frag} {w : World}
theorem line_eq : (sizeLine : Nat) = 16777216 := sizeLine_eq
/-- a list that has just been made, locked -/
theorem lock_new {p : Addr} {xs : List V} (I : L2.Inv X pins σ (upd H p (.lst xs)) s) (hn : H p = none) : ∃ H', L2.Inv X pins σ H' s ∧ Same H H' ∧ FzL K H' p xs := by
  obtain ⟨o, I2⟩ := freezeL I upd_same
  rw [upd_upd] at I2
  exact ⟨_, I2, same_new hn, .inl ⟨o, upd_same⟩⟩
theorem tup_new {p : Addr} {xs : List V} : SqT K (upd H p (.tup xs)) p xs := .of upd_same
/-- list + list, by what may be read -/
theorem cat_lists {l b : Addr} {xs ys : List V} {Q : Value → Shared → Prop} (I : L2.Inv X pins σ H s) (hx : SqL X.K H l xs) (hy : SqL X.K H b ys) (hz : xs.length + ys.length ≤ 16777216)
    (h : ∀ s' p, L2.Inv X pins σ (upd H p (.lst (xs ++ ys))) s' → H p = none → Q (.ref p) s') : wpAny (model X.prog X.w) X.A (binaryOp .Add (.ref l) (.ref b)) Q X.xe s := by
  obtain ⟨its, r, ⟨o, n, e, hc, hd, hda⟩, _⟩ := I.list hx
  obtain ⟨its2, r2, ⟨o2, n2, e2, hc2, hd2, hda2⟩, _⟩ := I.list hy
  obtain ⟨cls, dd, data, sl⟩ := o
  obtain ⟨cls2, dd2, data2, sl2⟩ := o2
  simp only at hc hd hda hc2 hd2 hda2
  subst hc hd hda hc2 hd2 hda2
  have hl := r.length
  have hl2 := r2.length
  refine concat_meets ⟨_, e, rfl⟩ ⟨_, e2, rfl⟩ noFill_list_add seq_list_add PySem.F.slot_list_add PySem.F.entry_list_add (PySem.F.args_list_add_2 _ _) (list_addW l b its.toArray its2.toArray n n2 none none sl sl2 (by simp only [List.size_toArray]; rw [line_eq]; omega)) ⟨e, e2, ?_⟩
  have ea : its.toArray ++ its2.toArray = (its ++ its2).toArray := by simp
  rw [ea]
  exact h _ _ (I.lnew (t' := s.toks) (r.append r2) (by rw [List.length_append, line_eq]; exact hz)) I.fresh
end

def addD : D → D → Option D
  | .int i, .int j => some (.int (i + j))
  | .str x, .str y => if x.length + y.length ≤ 16777216 then some (.str (x ++ y)) else none
  | .list xs, .list ys => if xs.length + ys.length ≤ 16777216 then some (.list (xs ++ ys)) else none
  | .tuple xs, .tuple ys => if xs.length + ys.length ≤ 16777216 then some (.tuple (xs ++ ys)) else none
  | _, _ => none
def subD : D → D → Option D
  | .int i, .int j => some (.int (i - j))
  | _, _ => none
def divD : D → D → Option D
  | .int i, .int j => if 0 < j ∧ j < 1073741824 then some (.int (i / j)) else none
  | _, _ => none
def modD : D → D → Option D
  | .int i, .int j => if 0 < j then some (.int (i % j)) else none
  | _, _ => none
def powD : D → D → Option D
  | .int i, .int j => if 0 ≤ j ∧ j ≤ 1000000 ∧ i.natAbs < 2 ^ 64 then some (.int (i ^ j.toNat)) else none
  | _, _ => none
def mulIntOk (i j : Int) : Bool := (decide (-(2 ^ 64) < i) && decide (i < 2 ^ 64)) || (decide (-(2 ^ 64) < j) && decide (j < 2 ^ 64))
def mulD : D → D → Option D
  | .int i, .int j => if mulIntOk i j = true then some (.int (i * j)) else none
  | _, _ => none
section
variable {G : Gl}
theorem dsz {w : World} {K : PySem.W.Frag} {H : Hp} {vs : List V} {ds : List D} (h : DpFs w K H vs ds) : vs.length = ds.length := h.length
theorem op_addD : OpD G (binaryOp .Add) addD := fun X hX pins s σ H x y v u Q I rx ry ⟨d, e, z, hd, he, hg, q⟩ => by
  cases hd with
  | int i =>
    cases he with
    | int j =>
      simp only [addD, Option.some.injEq] at hg; subst hg
      exact op_add pins s σ H _ _ v u Q I rx ry ⟨i, j, rfl, rfl, q H _ (Same.refl _) (.int _)⟩
    | _ => simp [addD] at hg
  | str i =>
    cases he with
    | str j =>
      simp only [addD] at hg
      split at hg
      · rename_i hz
        cases hg
        exact op_add_str pins s σ H _ _ v u Q I rx ry ⟨i, j, rfl, rfl, by rw [line_eq]; exact hz, q H _ (Same.refl _) (.str _)⟩
      · cases hg
    | _ => simp [addD] at hg
  | @lst a xs ds ha ra =>
    cases he with
    | @lst b ys es hb rb =>
      simp only [addD] at hg
      split at hg
      · rename_i hz
        cases hg
        cases rx
        cases ry
        refine cat_lists I (by rw [hX.K]; exact ha.sq) (by rw [hX.K]; exact hb.sq) (by rw [ra.length, rb.length]; exact hz) fun s' p I' hn => ?_
        obtain ⟨H', I2, sm, fz⟩ := lock_new (K := G.K) I' hn
        exact ⟨.ref p, H', I2, rfl, q H' _ sm (.lst fz ((ra.append rb).mono (Pers.of sm)))⟩
      · cases hg
    | _ => simp [addD] at hg
  | @tup a xs ds ha ra =>
    cases he with
    | @tup b ys es hb rb =>
      simp only [addD] at hg
      split at hg
      · rename_i hz
        cases hg
        refine op_catA pins s σ H _ _ v u Q I rx ry ⟨a, b, xs, ys, rfl, rfl, by rw [hX.K]; exact ha, by rw [hX.K]; exact hb, by rw [ra.length, rb.length, line_eq]; exact hz, fun e1 => ?_, fun _ e2 => ?_, fun _ _ p hn => ?_⟩
        · subst e1
          cases ra
          exact q H _ (Same.refl _) (.tup hb rb)
        · subst e2
          cases rb
          rw [List.append_nil] at q
          exact q H _ (Same.refl _) (.tup ha ra)
        · have sm := same_new (o := .tup (xs ++ ys)) hn
          exact q _ _ sm (.tup tup_new ((ra.append rb).mono (Pers.of sm)))
      · cases hg
    | _ => simp [addD] at hg
  | _ => cases he <;> simp [addD] at hg
theorem opI_D {sem : Value → Value → Sem Value} {C : Int → Int → Prop} {f : Int → Int → Int} {g : D → D → Option D} (ho : ∀ X, OpR X sem (rI C fun i j => .int (f i j)))
    (hg : ∀ d e z, g d e = some z → ∃ i j, d = .int i ∧ e = .int j ∧ C i j ∧ z = .int (f i j)) : OpD G sem g := fun X hX pins s σ H x y v u Q I rx ry ⟨d, e, z, hd, he, hz, q⟩ => by
  obtain ⟨i, j, rfl, rfl, hc, rfl⟩ := hg d e z hz
  cases hd; cases he
  exact ho X pins s σ H _ _ v u Q I rx ry ⟨i, j, rfl, rfl, hc, q H _ (Same.refl _) (.int _)⟩
theorem op_subD : OpD G (binaryOp .Sub) subD := opI_D (C := fun _ _ => True) (f := fun i j => i - j) (fun X pins s σ H x y v u Q I rx ry ⟨i, j, a, b, _, q⟩ => op_sub pins s σ H x y v u Q I rx ry ⟨i, j, a, b, q⟩) fun d e z h => by
  cases d <;> cases e <;> simp [subD] at h
  exact ⟨_, _, rfl, rfl, trivial, h.symm⟩
theorem op_divD : OpD G (binaryOp .FloorDiv) divD := opI_D (C := CDiv) (f := fun i j => i / j) (fun X => op_fdiv) fun d e z h => by
  cases d <;> cases e <;> simp [divD] at h
  exact ⟨_, _, rfl, rfl, h.1, h.2.symm⟩
theorem op_modD : OpD G (binaryOp .Mod) modD := opI_D (C := fun _ j => 0 < j) (f := fun i j => i % j) (fun X => op_mod) fun d e z h => by
  cases d <;> cases e <;> simp [modD] at h
  exact ⟨_, _, rfl, rfl, h.1, h.2.symm⟩
theorem op_powD : OpD G (binaryOp .Pow) powD := opI_D (C := CPow) (f := fun i j => i ^ j.toNat) (fun X => op_pow) fun d e z h => by
  cases d with
  | int i =>
    cases e with
    | int j =>
      simp only [powD, Option.ite_none_right_eq_some, Option.some.injEq] at h
      obtain ⟨hc, rfl⟩ := h
      exact ⟨_, _, rfl, rfl, hc, rfl⟩
    | _ => simp [powD] at h
  | _ => simp [powD] at h
theorem op_mulI : OpD G (binaryOp .Mult) mulD := opI_D (C := CMul) (f := fun i j => i * j) (fun X => op_mul) fun d e z h => by
  cases d with
  | int i =>
    cases e with
    | int j =>
      simp only [mulD, Option.ite_none_right_eq_some, Option.some.injEq] at h
      obtain ⟨hc, rfl⟩ := h
      simp only [mulIntOk, Bool.or_eq_true, Bool.and_eq_true, decide_eq_true_eq] at hc
      exact ⟨_, _, rfl, rfl, hc, rfl⟩
    | _ => simp [mulD] at h
  | _ => simp [mulD] at h
end

/-! ### comparisons -/
/-- data that == may be asked of at any place -/
def eqOk (d : D) : Bool := SeqAt.shaped d && nodict d
def eqD : D → D → Option Bool
  | .int i, .int j => some (decide (i = j))
  | .str x, .str y => some (decide (x = y))
  | .bool a, .bool b => some (decide (a = b))
  | .none, .none => some true
  | d, e => if eqOk d && eqOk e then some (PyData.eqv d e) else none
def boolD (g : D → D → Option Bool) : D → D → Option D := fun d e => (g d e).map .bool
def notD (g : D → D → Option Bool) : D → D → Option D := fun d e => (g d e).map fun b => .bool !b
section
variable {G : Gl}
theorem op_eqDD : OpD G (compareOp .Eq) (boolD eqD) := fun X hX pins s σ H x y v u Q I rx ry ⟨d, e, z, hd, he, hg, q⟩ => by
  simp only [boolD, Option.map_eq_some_iff] at hg
  obtain ⟨b, hb, rfl⟩ := hg
  unfold eqD at hb
  split at hb
  · cases hd; cases he; cases hb
    exact op_eq pins s σ H _ _ v u Q I rx ry ⟨rfl, by simpa using q H _ (Same.refl _) (.bl _)⟩
  · cases hd; cases he; cases hb
    exact op_eq pins s σ H _ _ v u Q I rx ry ⟨rfl, by simpa using q H _ (Same.refl _) (.bl _)⟩
  · cases hd; cases he; cases hb
    exact op_eq pins s σ H _ _ v u Q I rx ry ⟨rfl, by simpa using q H _ (Same.refl _) (.bl _)⟩
  · cases hd; cases he; cases hb
    exact op_eq pins s σ H _ _ v u Q I rx ry ⟨rfl, by simpa using q H _ (Same.refl _) (.bl _)⟩
  · split at hb
    · rename_i hs
      cases hb
      simp only [eqOk, Bool.and_eq_true] at hs
      exact op_eqD hX.hu pins s σ H _ _ v u Q I rx ry ⟨d, e, by rw [hX.K]; exact hd.dp hs.1.2, by rw [hX.K]; exact he.dp hs.2.2, hs.1.1, hs.2.1, q H _ (Same.refl _) (.bl _)⟩
    · cases hb
theorem op_neDD : OpD G (compareOp .NotEq) (notD eqD) := fun X hX pins s σ H x y v u Q I rx ry ⟨d, e, z, hd, he, hg, q⟩ => by
  simp only [notD, Option.map_eq_some_iff] at hg
  obtain ⟨b, hb, rfl⟩ := hg
  unfold eqD at hb
  split at hb
  · cases hd; cases he; cases hb
    exact op_ne pins s σ H _ _ v u Q I rx ry ⟨rfl, by simpa using q H _ (Same.refl _) (.bl _)⟩
  · cases hd; cases he; cases hb
    exact op_ne pins s σ H _ _ v u Q I rx ry ⟨rfl, by simpa using q H _ (Same.refl _) (.bl _)⟩
  · cases hd; cases he; cases hb
    exact op_ne pins s σ H _ _ v u Q I rx ry ⟨rfl, by simpa using q H _ (Same.refl _) (.bl _)⟩
  · cases hd; cases he; cases hb
    exact op_ne pins s σ H _ _ v u Q I rx ry ⟨rfl, by simpa using q H _ (Same.refl _) (.bl _)⟩
  · split at hb
    · rename_i hs
      cases hb
      simp only [eqOk, Bool.and_eq_true] at hs
      exact op_neD hX.hu pins s σ H _ _ v u Q I rx ry ⟨d, e, by rw [hX.K]; exact hd.dp hs.1.2, by rw [hX.K]; exact he.dp hs.2.2, hs.1.1, hs.2.1, q H _ (Same.refl _) (.bl _)⟩
    · cases hb
def ltD : D → D → Option Bool
  | .int i, .int j => some (decide (i < j))
  | _, _ => none
def leD : D → D → Option Bool
  | .int i, .int j => some (decide (i ≤ j))
  | _, _ => none
def gtD : D → D → Option Bool
  | .int i, .int j => some (decide (j < i))
  | _, _ => none
def geD : D → D → Option Bool
  | .int i, .int j => some (decide (j ≤ i))
  | _, _ => none
theorem cmpI_D {sem : Value → Value → Sem Value} {f : Int → Int → Bool} {g : D → D → Option Bool} (ho : ∀ X, OpR X sem (rI0 fun i j => .bl (f i j)))
    (hg : ∀ d e z, g d e = some z → ∃ i j, d = .int i ∧ e = .int j ∧ z = f i j) : OpD G sem (boolD g) := fun X hX pins s σ H x y v u Q I rx ry ⟨d, e, z, hd, he, hz, q⟩ => by
  simp only [boolD, Option.map_eq_some_iff] at hz
  obtain ⟨b, hb, rfl⟩ := hz
  obtain ⟨i, j, rfl, rfl, rfl⟩ := hg d e b hb
  cases hd; cases he
  exact ho X pins s σ H _ _ v u Q I rx ry ⟨i, j, rfl, rfl, q H _ (Same.refl _) (.bl _)⟩
theorem op_ltDD : OpD G (compareOp .Lt) (boolD ltD) := cmpI_D (f := fun i j => decide (i < j)) (fun X => op_lt) fun d e z h => by
  cases d <;> cases e <;> simp [ltD] at h
  exact ⟨_, _, rfl, rfl, h.symm⟩
theorem op_leDD : OpD G (compareOp .LtE) (boolD leD) := cmpI_D (f := fun i j => decide (i ≤ j)) (fun X => op_le) fun d e z h => by
  cases d <;> cases e <;> simp [leD] at h
  exact ⟨_, _, rfl, rfl, h.symm⟩
theorem op_gtDD : OpD G (compareOp .Gt) (boolD gtD) := cmpI_D (f := fun i j => decide (j < i)) (fun X => op_gt) fun d e z h => by
  cases d <;> cases e <;> simp [gtD] at h
  exact ⟨_, _, rfl, rfl, h.symm⟩
theorem op_geDD : OpD G (compareOp .GtE) (boolD geD) := cmpI_D (f := fun i j => decide (j ≤ i)) (fun X => op_ge) fun d e z h => by
  cases d <;> cases e <;> simp [geD] at h
  exact ⟨_, _, rfl, rfl, h.symm⟩

/-- x in y -/
def inD : D → D → Option Bool
  | .str x, .str y => some (!(Builtin.Str.occurrences y x 0 y.length 1).isEmpty)
  | d, .list ds => if eqOk d && eqOk (.list ds) then some (ds.any fun z => PyData.eqv z d) else none
  | d, .tuple ds => if eqOk d && eqOk (.tuple ds) then some (ds.any fun z => PyData.eqv z d) else none
  | _, _ => none
theorem hu65 {X : Cx} (hX : Here G X) : X.A.units + 65 < cLine := by have := hX.room.wide; omega
theorem op_inDD : OpD G (compareOp .In) (boolD inD) := fun X hX pins s σ H x y v u Q I rx ry ⟨d, e, z, hd, he, hg, q⟩ => by
  simp only [boolD, Option.map_eq_some_iff] at hg
  obtain ⟨b, hb, rfl⟩ := hg
  unfold inD at hb
  split at hb
  · cases hd; cases he; cases hb
    exact op_in_str pins s σ H _ _ v u Q I rx ry ⟨_, _, rfl, rfl, q H _ (Same.refl _) (.bl _)⟩
  · split at hb
    · rename_i hs
      cases hb
      simp only [eqOk, Bool.and_eq_true] at hs
      obtain ⟨as, r1⟩ := Dp.reads I _ x v (by rw [hX.K]; exact hd.dp hs.1.2) rx
      obtain ⟨bs, r2⟩ := Dp.reads I _ y u (by rw [hX.K]; exact he.dp hs.2.2) ry
      exact SeqAt.in_list_reads r2 r1 (SeqAt.canLay_of_shaped hs.2.1) (SeqAt.canLay_of_shaped hs.1.1) (room_in_shaped hs.1.1 (hu65 hX)) ⟨.bl _, H, I, rfl, q H _ (Same.refl _) (.bl _)⟩
    · cases hb
  · split at hb
    · rename_i hs
      cases hb
      simp only [eqOk, Bool.and_eq_true] at hs
      obtain ⟨as, r1⟩ := Dp.reads I _ x v (by rw [hX.K]; exact hd.dp hs.1.2) rx
      obtain ⟨bs, r2⟩ := Dp.reads I _ y u (by rw [hX.K]; exact he.dp hs.2.2) ry
      exact SeqAt.in_tuple_reads r2 r1 (SeqAt.canLay_of_shaped hs.2.1) (SeqAt.canLay_of_shaped hs.1.1) (room_in_shaped hs.1.1 (hu65 hX)) ⟨.bl _, H, I, rfl, q H _ (Same.refl _) (.bl _)⟩
    · cases hb
  · cases hb
theorem op_ninDD : OpD G (compareOp .NotIn) (notD inD) := fun X hX pins s σ H x y v u Q I rx ry ⟨d, e, z, hd, he, hg, q⟩ => by
  simp only [notD, Option.map_eq_some_iff] at hg
  obtain ⟨b, hb, rfl⟩ := hg
  unfold inD at hb
  split at hb
  · cases hd; cases he; cases hb
    exact op_notin_str pins s σ H _ _ v u Q I rx ry ⟨_, _, rfl, rfl, q H _ (Same.refl _) (.bl _)⟩
  · split at hb
    · rename_i hs
      cases hb
      simp only [eqOk, Bool.and_eq_true] at hs
      obtain ⟨as, r1⟩ := Dp.reads I _ x v (by rw [hX.K]; exact hd.dp hs.1.2) rx
      obtain ⟨bs, r2⟩ := Dp.reads I _ y u (by rw [hX.K]; exact he.dp hs.2.2) ry
      exact SeqAt.notIn_list_reads r2 r1 (SeqAt.canLay_of_shaped hs.2.1) (SeqAt.canLay_of_shaped hs.1.1) (room_in_shaped hs.1.1 (hu65 hX)) ⟨.bl _, H, I, rfl, q H _ (Same.refl _) (.bl _)⟩
    · cases hb
  · split at hb
    · rename_i hs
      cases hb
      simp only [eqOk, Bool.and_eq_true] at hs
      obtain ⟨as, r1⟩ := Dp.reads I _ x v (by rw [hX.K]; exact hd.dp hs.1.2) rx
      obtain ⟨bs, r2⟩ := Dp.reads I _ y u (by rw [hX.K]; exact he.dp hs.2.2) ry
      exact SeqAt.notIn_tuple_reads r2 r1 (SeqAt.canLay_of_shaped hs.2.1) (SeqAt.canLay_of_shaped hs.1.1) (room_in_shaped hs.1.1 (hu65 hX)) ⟨.bl _, H, I, rfl, q H _ (Same.refl _) (.bl _)⟩
    · cases hb
  · cases hb
/-- x is None, True, False -/
def isA : A → A → Store → Option A := fun a b _ => match b with
  | .d .none => match a with
    | .d .none => some (.d (.bool true))
    | _ => some (.d (.bool false))
  | .d (.bool k) => match a with
    | .d (.bool j) => some (.d (.bool (decide (j = k))))
    | _ => none
  | _ => none
def isnA : A → A → Store → Option A := fun a b S => match isA a b S with
  | some (.d (.bool k)) => some (.d (.bool !k))
  | _ => none
theorem non_iff {μ : List Addr} {H : Hp} {a : A} {x : V} (r : RelA G μ H a x) : x = .non ↔ a = .d .none := by
  cases a with
  | d a => cases r <;> simp
  | loc n => obtain ⟨b, _, rfl⟩ := r; simp
  | fn f => have r : x = .ref _ := r; subst r; simp
def isNone : A → Bool
  | .d .none => true
  | _ => false
theorem isNone_iff {a : A} : isNone a = true ↔ a = .d .none := by
  unfold isNone
  split <;> simp_all
theorem isA_none (a : A) (S : Store) : isA a (.d .none) S = some (.d (.bool (isNone a))) := by
  unfold isA isNone
  cases a with
  | d a => cases a <;> rfl
  | _ => rfl
theorem op_isA : OpS G (compareOp .Is) isA := fun X hX pins s σ H x y v u Q I rx ry ⟨μ, a, b, S, r, ss, ra, rb, e, q⟩ => by
  cases b with
  | d b =>
    cases b with
    | none =>
      rw [isA_none] at e
      cases e
      cases rb
      refine op_isN pins s σ H _ _ v u Q I rx ry ⟨rfl, q H _ (Same.refl _) ?_⟩
      have e2 : decide (x = V.non) = isNone a := by rw [Bool.eq_iff_iff, decide_eq_true_eq, isNone_iff]; exact non_iff ra
      rw [e2]
      exact DpF.bl _
    | bool k =>
      cases a with
      | d a =>
        cases a with
        | bool j =>
          cases ra; cases rb; cases e
          exact op_isBl pins s σ H _ _ v u Q I rx ry ⟨j, k, rfl, rfl, q H _ (Same.refl _) (.bl _)⟩
        | _ => simp [isA] at e
      | _ => simp [isA] at e
    | _ => simp [isA] at e
  | _ => simp [isA] at e
theorem op_isnA : OpS G (compareOp .IsNot) isnA := fun X hX pins s σ H x y v u Q I rx ry ⟨μ, a, b, S, r, ss, ra, rb, e, q⟩ => by
  cases b with
  | d b =>
    cases b with
    | none =>
      unfold isnA at e
      rw [isA_none] at e
      cases e
      cases rb
      refine op_notN pins s σ H _ _ v u Q I rx ry ⟨rfl, q H _ (Same.refl _) ?_⟩
      have e2 : decide (x = V.non) = isNone a := by rw [Bool.eq_iff_iff, decide_eq_true_eq, isNone_iff]; exact non_iff ra
      rw [e2]
      exact DpF.bl _
    | bool k =>
      cases a with
      | d a =>
        cases a with
        | bool j =>
          cases ra; cases rb; cases e
          exact op_notBl pins s σ H _ _ v u Q I rx ry ⟨j, k, rfl, rfl, q H _ (Same.refl _) (.bl _)⟩
        | _ => simp [isnA, isA] at e
      | _ => simp [isnA, isA] at e
    | _ => simp [isnA, isA] at e
  | _ => simp [isnA, isA] at e
end
end Ev

/-! Ev4: argument lists, displays, subscripts, slices, calls of built-ins. -/
namespace Ev
open PySem PySem.Spec PyProof.Rows L2

/-! ### argument lists -/
def dNil : DR (List A) := fun _ S => .ok [] S
def dCons (d : DE) (r : DR (List A)) : DR (List A) := fun l S => (d l S).bind fun x S1 => (r l S1).bind fun xs S2 => .ok (x :: xs) S2
def pures : List A → Option (List D)
  | [] => some []
  | .d x :: r => (pures r).map (x :: ·)
  | _ :: _ => none
theorem pures_some {G : Gl} {μ : List Addr} {H : Hp} : ∀ {xs : List A} {ds : List D} {vs : List V}, pures xs = some ds → RelAs G μ H xs vs → DpFs G.w G.K H vs ds
  | [], ds, vs, e, r => by simp [pures] at e; subst e; cases r; exact .nil
  | .d x :: xs, ds, vs, e, r => by
    simp only [pures, Option.map_eq_some_iff] at e
    obtain ⟨ds', e', rfl⟩ := e
    cases r with
    | cons r1 r2 => exact .cons r1 (pures_some e' r2)
  | .loc _ :: xs, ds, vs, e, r => by simp [pures] at e
  | .fn _ :: xs, ds, vs, e, r => by simp [pures] at e
@[simp] theorem pures_map (ds : List D) : pures (ds.map A.d) = some ds := by
  induction ds with
  | nil => rfl
  | cons d ds ih => simp [pures, ih]
theorem RelAs.of {G : Gl} {μ : List Addr} {H : Hp} : ∀ {ds : List D} {vs : List V}, DpFs G.w G.K H vs ds → RelAs G μ H (ds.map A.d) vs
  | _, _, .nil => .nil
  | _, _, .cons a b => .cons a (RelAs.of b)
section
variable {G : Gl} {sc : Scope} {N : List Str} {pos : Pos} {a b c e : Expr} {es : List Expr} {da db dc de : DE} {das : DR (List A)} {W : WX} {σ : L2.St} {H : Hp}
theorem r_anil : SndA G sc N [] dNil := fun X W st tk => ⟨fun pos pins s σ H Q I h => (pa_nil (X := X)).run pos pins s σ H Q I (ret_read h fun _ => .nil)⟩
theorem r_acons (h : Snd G sc N e de) (hr : SndA G sc N es das) (hs : ∀ env, starEach (e :: es) env = (false, eval e env) :: starEach es env := by intro _; rfl) : SndA G sc N (e :: es) (dCons de das) := fun X W st tk =>
  ⟨fun pos pins s σ H Q I q => (pa_cons (h X W st tk) (hr X W st tk) (hs X.env)).run pos pins s σ H Q I (by
    obtain ⟨μ, l, S, ss, sl, q⟩ := q
    refine ⟨μ, l, S, ss, sl, Aft.imp (Aft.bind (rel' := RelA G) q) fun x H1 _ ⟨a, μ1, S1, g1, s1, ra, h1⟩ => ?_⟩
    refine ⟨μ1, l, S1, s1, sl.grow g1, Aft.imp (Aft.bind (rel' := RelAs G) h1) fun xs H2 _ ⟨as, μ2, S2, g2, s2, rs, h2⟩ => ?_⟩
    exact h2.here s2 (.cons (ra.grow g2) rs))⟩

/-! ### displays -/
def mkD (f : List D → D) (xs : List A) (S : Store) : Res A := match pures xs with
  | some ds => if ds.length ≤ 16777216 then .ok (.d (f ds)) S else .no
  | none => .no
def dTup (da : DR (List A)) : DE := fun l S => (da l S).bind (mkD .tuple)
def dLst (da : DR (List A)) : DE := fun l S => (da l S).bind (mkD .list)
def dLstM (da : DR (List A)) : DE := fun l S => (da l S).bind fun xs S1 => if xs.length ≤ 16777216 then .ok (.loc S1.length) (S1 ++ [.lst xs]) else .no
theorem mk_read {f : List D → D} {Q : VK} {W : XK} {μ : List Addr} {xs : List A} {S : Store} {vs : List V} (h : Aft G W (RelA G) μ H (mkD f xs S) Q) (s : SimS G μ S H) (r : RelAs G μ H xs vs) :
    ∃ ds, DpFs G.w G.K H vs ds ∧ vs.length ≤ sizeLine ∧ ∀ H' v, Same H H' → DpF G.w G.K H' v (f ds) → Q v H' := by
  unfold mkD at h
  split at h
  · rename_i ds e
    split at h
    · rename_i hz
      have p := pures_some e r
      exact ⟨ds, p, by rw [p.length, line_eq]; exact hz, fun H' v sm rv => h μ H' v (Grow.same sm) (s.same sm) rv⟩
    · exact h.elim
  · exact h.elim
theorem r_tup {x1} (ha : SndA G sc N es das) : Snd G sc N (.Tuple es x1 pos) (dTup das) := fun X W st tk =>
  ⟨fun pins s σ H Q I q => (pe_tup (ha X W st tk)).run pins s σ H Q I (tR.imp (tR_one (rel1 := RelAs G) q) fun vs H1 ⟨μ, as, S, ss, ra, h⟩ => by
    obtain ⟨ds, p, hz, k⟩ := mk_read h ss ra
    exact ⟨hz, fun a hn => k _ _ (same_new hn) (.tup tup_new (p.mono (Pers.of (same_new hn))))⟩)⟩
/-- a reading that goes on behind a ghost step -/
theorem PE_ghost {X : Cx} {e : Expr} {t : TE} {t' : TE} (h : PE X e t) (g : ∀ (pins : List (Addr × Obj)) (s : Shared) (σ : L2.St) (H : Hp) (Q : VK), t' σ H Q → t σ H fun v H1 => ∀ s', L2.Inv X pins σ H1 s' → ∃ H2, L2.Inv X pins σ H2 s' ∧ Q v H2) : PE X e t' :=
  ⟨fun pins s σ H Q I q => thn (h.run pins s σ H _ I (g pins s σ H Q q)) fun u s' ⟨v, H1, I1, rv, z⟩ => let ⟨H2, I2, q2⟩ := z s' I1; ⟨v, H2, I2, rv, q2⟩⟩
theorem r_lst (ha : SndA G sc N es das) : Snd G sc N (.List es pos) (dLst das) := fun X W st tk =>
  PE_ghost (pe_lst (ha X W st tk)) fun pins s σ H Q q => tR.imp (tR_one (rel1 := RelAs G) q) fun vs H1 ⟨μ, as, S, ss, ra, h⟩ => by
    obtain ⟨ds, p, hz, k⟩ := mk_read h ss ra
    refine ⟨hz, fun a hn s' I' => ?_⟩
    obtain ⟨H2, I2, sm, fz⟩ := lock_new (K := G.K) I' hn
    exact ⟨H2, I2, k _ _ sm (.lst fz (p.mono (Pers.of sm)))⟩
theorem r_lstM (ha : SndA G sc N es das) : Snd G sc N (.List es pos) (dLstM das) := fun X W st tk =>
  ⟨fun pins s σ H Q I q => (pe_lst (ha X W st tk)).run pins s σ H Q I (tR.imp (tR_one (rel1 := RelAs G) q) fun vs H1 ⟨μ, as, S, ss, ra, h⟩ => by
    split at h
    · rename_i hz
      refine ⟨by rw [← Paired.length ra, line_eq]; exact hz, fun a hn => ?_⟩
      have sm := same_new (o := .lst vs) hn
      have g : Grow μ (μ ++ [a]) H1 (upd H1 a (.lst vs)) := Grow.new hn sm
      refine h _ _ _ g (ss.new hn sm (by rw [upd_same]; simp) ⟨vs, upd_same, ra.grow g⟩) ?_
      exact ⟨a, by rw [List.getElem?_append_right (by rw [ss.len]; exact Nat.le_refl _)]; simp [ss.len], rfl⟩
    · exact h.elim)⟩

/-! ### subscripts -/
def IxS (G : Gl) (f : A → A → Store → Option A) : Prop := ∀ X, Here G X → IxR X (rA2 G f)
theorem r_ix {f : A → A → Store → Option A} (ho : IxS G f) (ha : Snd G sc N a da) (hb : Snd G sc N b db) (hs : ∀ o i, subscripted b false o i = operate [o, i] (getItem o i) := by intro _ _; rfl) : Snd G sc N (.Subscript a b pos) (dOp2 f da db) := fun X W st tk =>
  ⟨fun pins s σ H Q I h => (pe_ix (ho X st.here) (ha X W st tk) (hb X W st tk) hs).run pins s σ H Q I (op2_read h)⟩
def ixD : D → D → Option D
  | .list xs, .int i => atI xs i
  | .tuple xs, .int i => atI xs i
  | .str z, .int i => if z.length ≤ 16777216 then (atI z.cps.toList i).map fun c => .str ⟨#[c]⟩ else none
  | _, _ => none
/-- an item of plain data, of a list of the store's -/
def ixA : A → A → Store → Option A := fun a b S => match a, b with
  | .d x, .d y => (ixD x y).map .d
  | .loc n, .d (.int i) => match S[n]? with
    | some (.lst xs) => atI xs i
    | some (.fzn x) => (ixD x (.int i)).map .d
    | _ => none
  | _, _ => none
theorem at_rel {α β : Type} {R : α → β → Prop} {xs : List α} {ys : List β} (h : Paired R xs ys) {i : Int} {a : α} (e : atI xs i = some a) : ∃ b, atI ys i = some b ∧ R a b := by
  unfold atI at e ⊢
  rw [← Paired.length h]
  cases q : ixN xs.length i with
  | none => rw [q] at e; cases e
  | some j =>
    rw [q] at e
    change xs[j]? = some a at e
    clear q
    show ∃ b, ys[j]? = some b ∧ R a b
    induction h generalizing j with
    | nil => simp at e
    | cons r t ih =>
      cases j with
      | zero => simp at e; subst e; exact ⟨_, rfl, r⟩
      | succ j => simpa using ih j (by simpa using e)
theorem DpFs.paired {w : World} {K : PySem.W.Frag} {H : Hp} : ∀ {vs : List V} {ds : List D}, DpFs w K H vs ds → Paired (fun d v => DpF w K H v d) ds vs
  | _, _, .nil => .nil
  | _, _, .cons a b => .cons a b.paired
theorem ixD_ok {X : Cx} (hX : Here G X) (value slice : Expr) {pins : List (Addr × Obj)} {s : Shared} {x y : V} {v u : Value} {Q : VK} (I : L2.Inv X pins σ H s) (rx : RelV x v) (ry : RelV y u) {d e z : D}
    (hd : DpF G.w G.K H x d) (he : DpF G.w G.K H y e) (hz : ixD d e = some z) (q : ∀ v, DpF G.w G.K H v z → Q v H) (hs : subscripted slice false v u = operate [v, u] (getItem v u)) : wpAny (model X.prog X.w) X.A (subscriptTail value slice v u) (EP X pins σ Q) X.xe s := by
  cases he with
  | int i =>
    cases hd with
    | @lst a xs ds ha ra =>
      obtain ⟨w', h1, h2⟩ := at_rel ra.paired (show atI ds i = some z from hz)
      exact ix_list value slice pins s σ H _ _ v u Q I rx ry ⟨a, xs, i, w', rfl, rfl, by rw [hX.K]; exact ha.sq, h1, q _ h2⟩ hs
    | @tup a xs ds ha ra =>
      obtain ⟨w', h1, h2⟩ := at_rel ra.paired (show atI ds i = some z from hz)
      exact ix_tup value slice pins s σ H _ _ v u Q I rx ry ⟨a, xs, i, w', rfl, rfl, by rw [hX.K]; exact ha, h1, q _ h2⟩ hs
    | str zz =>
      simp only [ixD, Option.ite_none_right_eq_some, Option.map_eq_some_iff] at hz
      obtain ⟨hl, c, hc, rfl⟩ := hz
      exact ix_str value slice pins s σ H _ _ v u Q I rx ry ⟨zz, i, c, rfl, rfl, by rw [line_eq]; exact hl, hc, q _ (.str _)⟩ hs
    | _ => simp [ixD] at hz
  | _ => cases hd <;> simp [ixD] at hz
theorem ix_A : IxS G ixA := fun X hX value slice pins s σ H x y v u Q I rx ry ⟨μ, a, b, S, r, ss, ra, rb, e, q⟩ hs => by
  unfold ixA at e
  split at e
  · simp only [Option.map_eq_some_iff] at e
    obtain ⟨z, hz, rfl⟩ := e
    exact ixD_ok hX value slice I rx ry ra rb hz (fun v hv => q H v (Same.refl _) hv) hs
  · rename_i n i
    obtain ⟨p, hp, rfl⟩ := ra
    split at e
    · rename_i xs hc
      obtain ⟨p', hp', vs, h1, h2⟩ := ss.cells n _ hc
      rw [hp] at hp'; cases hp'
      cases rb
      obtain ⟨w', e1, e2⟩ := at_rel h2 e
      exact ix_list value slice pins s σ H _ _ v u Q I rx ry ⟨p, vs, i, w', rfl, rfl, .of h1, e1, q H _ (Same.refl _) e2⟩ hs
    · rename_i d hc
      simp only [Option.map_eq_some_iff] at e
      obtain ⟨z, hz, rfl⟩ := e
      obtain ⟨p', hp', h1⟩ := ss.cells n _ hc
      rw [hp] at hp'; cases hp'
      exact ixD_ok hX value slice I rx ry h1 rb hz (fun v hv => q H v (Same.refl _) hv) hs
    · cases e
  · cases e

/-! ### slices -/
def dPart (d : Option DE) : DR (Option Int) := match d with
  | none => fun _ S => .ok none S
  | some d => fun l S => (d l S).bind fun x S1 => match x with
    | .d (.int i) => .ok (some i) S1
    | _ => .no
def cutL {α : Type} (xs : List α) (lo hi : Option Int) : List α := (xs.drop (HT.sIx xs.length 0 lo)).take (HT.sIx xs.length xs.length hi - HT.sIx xs.length 0 lo)
def slD : D → Option Int → Option Int → Option D
  | .list xs, lo, hi => some (.list (cutL xs lo hi))
  | .tuple xs, lo, hi => some (.tuple (cutL xs lo hi))
  | _, _, _ => none
def slA : A → Option Int → Option Int → Store → Option A := fun a lo hi S => match a with
  | .d x => (slD x lo hi).map .d
  | .loc n => match S[n]? with
    | some (.lst xs) => (pures xs).map fun ds => .d (.list (cutL ds lo hi))
    | some (.fzn x) => (slD x lo hi).map .d
    | _ => none
  | _ => none
abbrev relO : List Addr → Hp → Option Int → Option Int → Prop := fun _ _ a b => a = b
def SndO (G : Gl) (sc : Scope) (N : List Str) (e : Option Expr) (de : DR (Option Int)) : Prop := ∀ X W, Stat G sc N X → Takes X W → PO X e (tR G W relO de)
theorem r_onone : SndO G sc N none (dPart none) := fun X W st tk => ⟨fun pins s σ H Q I q => po_none.run pins s σ H Q I (ret_read q fun _ => rfl)⟩
theorem r_osome (h : Snd G sc N e de) : SndO G sc N (some e) (dPart (some de)) := fun X W st tk => ⟨fun pins s σ H Q I q => (po_some (h X W st tk)).run pins s σ H Q I (by
  refine tR.imp (tR_one (rel1 := RelA G) (show tR G W relO (fun l S => (de l S).bind _) σ H Q from q)) fun x H1 ⟨μ, a, S, ss, ra, h1⟩ => ?_
  cases a with
  | d a =>
    cases a with
    | int i => cases ra; exact ⟨i, rfl, h1.here ss rfl⟩
    | _ => exact h1.elim
  | _ => exact h1.elim)⟩
def dSl (da : DE) (dl dh : DR (Option Int)) : DE := fun l S => (da l S).bind fun x S1 => (dl l S1).bind fun lo S2 => (dh l S2).bind fun hi S3 => opt (slA x lo hi S3) S3
def rSlP (G : Gl) : V → Option Int → Option Int → Hp → VK → Prop := fun x lo hi H Q => ∃ d z, DpF G.w G.K H x d ∧ slD d lo hi = some z ∧ ∀ H' v, Same H H' → DpF G.w G.K H' v z → Q v H'
theorem cut_fs {w : World} {K : PySem.W.Frag} {vs : List V} {ds : List D} (h : DpFs w K H vs ds) (lo hi : Option Int) : DpFs w K H (cutV vs lo hi) (cutL ds lo hi) := by
  unfold cutV cutL
  rw [h.length]
  exact (h.drop _).take _
theorem lock_slice {X : Cx} {pins : List (Addr × Obj)} {s : Shared} {lo hi : Option Int} {a : Addr} {xs : List V} {ds : List D} {Q : VK} (hX : Here G X) (fs : DpFs G.w G.K H xs ds) (sq : SqL X.K H a xs) {v vl vu : Value} {sl : Addr} (I : L2.Inv X pins σ H s) (rx : RelV (.ref a) v) (hs : s.heap.IsSliceOf sl vl vu .none) (pl : IsPart vl lo) (pu : IsPart vu hi)
    (q : ∀ H' v, Same H H' → DpF G.w G.K H' v (.list (cutL ds lo hi)) → Q v H') : ∃ T id, typeLookup (.type T) "__getitem__" = pure (some (.builtin id)) ∧ s.TypeIs v T ∧ wpAny (model X.prog X.w) X.A (getItem v (.ref sl)) (EP X pins σ Q) X.xe s := by
  have h := sl_list pins s σ H (.ref a) v vl vu lo hi sl (fun v' H' => ∃ p, v' = .ref p ∧ H p = none ∧ H' = upd H p (.lst (cutV xs lo hi))) I rx hs pl pu ⟨a, xs, rfl, sq, fun p hp => ⟨p, rfl, hp, rfl⟩⟩
  obtain ⟨T, id, h1, h2, h3⟩ := h
  refine ⟨T, id, h1, h2, thn h3 fun u s' ⟨v', H1, I1, rv, p, e1, hn, e2⟩ => ?_⟩
  subst e1 e2
  obtain ⟨H2, I2, sm, fz⟩ := lock_new (K := G.K) I1 hn
  exact ⟨_, H2, I2, rv, q _ _ sm (.lst fz ((cut_fs fs lo hi).mono (Pers.of sm)))⟩
def rSlA2 (G : Gl) : V → Option Int → Option Int → Hp → VK → Prop := fun x lo hi H Q => ∃ μ a S r, SimS G μ S H ∧ RelA G μ H a x ∧ slA a lo hi S = some r ∧ ∀ H' v, Same H H' → RelA G μ H' r v → Q v H'
theorem slD_ok {X : Cx} (hX : Here G X) {pins : List (Addr × Obj)} {s : Shared} {x : V} {v vl vu : Value} {lo hi : Option Int} {sl : Addr} {Q : VK} (I : L2.Inv X pins σ H s) (rx : RelV x v) (hs : s.heap.IsSliceOf sl vl vu .none) (pl : IsPart vl lo) (pu : IsPart vu hi) {d z : D}
    (hd : DpF G.w G.K H x d) (hz : slD d lo hi = some z) (q : ∀ H' v, Same H H' → DpF G.w G.K H' v z → Q v H') : ∃ T id, typeLookup (.type T) "__getitem__" = pure (some (.builtin id)) ∧ s.TypeIs v T ∧ wpAny (model X.prog X.w) X.A (getItem v (.ref sl)) (EP X pins σ Q) X.xe s := by
  cases hd with
  | @lst a xs ds ha ra =>
    cases hz
    exact lock_slice hX ra (by rw [hX.K]; exact ha.sq) I rx hs pl pu q
  | @tup a xs ds ha ra =>
    cases hz
    refine sl_tupA pins s σ H _ v vl vu lo hi sl Q I rx hs pl pu ⟨a, xs, rfl, by rw [hX.K]; exact ha, fun e => ?_, fun _ p hn => ?_⟩
    · have e2 : cutL ds lo hi = ds := by
        unfold cutL
        rw [← ra.length, e.1, e.2, ra.length]
        simp
      rw [e2] at q
      exact q H _ (Same.refl _) (.tup ha ra)
    · have sm := same_new (o := .tup (cutV xs lo hi)) hn
      exact q _ _ sm (.tup tup_new ((cut_fs ra lo hi).mono (Pers.of sm)))
  | _ => simp [slD] at hz
theorem sl_A {X : Cx} (hX : Here G X) : SlR X (rSlA2 G) := fun pins s σ H x v vl vu lo hi sl Q I rx hs pl pu ⟨μ, a, S, r, ss, ra, e, q⟩ => by
  unfold slA at e
  split at e
  · simp only [Option.map_eq_some_iff] at e
    obtain ⟨z, hz, rfl⟩ := e
    exact slD_ok hX I rx hs pl pu ra hz q
  · rename_i n
    obtain ⟨p, hp, rfl⟩ := ra
    split at e
    · rename_i xs hc
      simp only [Option.map_eq_some_iff] at e
      obtain ⟨ds, hds, rfl⟩ := e
      obtain ⟨p', hp', vs, h1, h2⟩ := ss.cells n _ hc
      rw [hp] at hp'; cases hp'
      exact lock_slice hX (pures_some hds h2) (.of h1) I rx hs pl pu q
    · rename_i d hc
      simp only [Option.map_eq_some_iff] at e
      obtain ⟨z, hz, rfl⟩ := e
      obtain ⟨p', hp', h1⟩ := ss.cells n _ hc
      rw [hp] at hp'; cases hp'
      exact slD_ok hX I rx hs pl pu h1 hz q
    · cases e
  · cases e
theorem r_slice {lo hi : Option Expr} {dl dh : DR (Option Int)} {p2 : Pos} (ha : Snd G sc N a da) (hl : SndO G sc N lo dl) (hh : SndO G sc N hi dh) : Snd G sc N (.Subscript a (.Slice lo hi none p2) pos) (dSl da dl dh) := fun X W st tk =>
  ⟨fun pins s σ H Q I q => (pe_slice (sl_A st.here) (ha X W st tk) (hl X W st tk) (hh X W st tk)).run pins s σ H Q I (by
    obtain ⟨μ, l, S, ss, sl, q⟩ := q
    refine ⟨μ, l, S, ss, sl, Aft.imp (Aft.bind (rel' := RelA G) q) fun x H1 _ ⟨a', μ1, S1, g1, s1, ra, h1⟩ => ?_⟩
    refine ⟨μ1, l, S1, s1, sl.grow g1, Aft.imp (Aft.bind (rel' := relO) h1) fun lo H2 _ ⟨lo', μ2, S2, g2, s2, e1, h2⟩ => ?_⟩
    refine ⟨μ2, l, S2, s2, (sl.grow g1).grow g2, Aft.imp (Aft.bind (rel' := relO) h2) fun hi H3 _ ⟨hi', μ3, S3, g3, s3, e2, h3⟩ => ?_⟩
    cases e1; cases e2
    unfold opt at h3
    split at h3
    · rename_i r e
      exact ⟨μ3, a', S3, r, s3, (ra.grow g2).grow g3, e, fun H' v sm rv => h3 μ3 H' v (Grow.same sm) (s3.same sm) rv⟩
    · exact h3.elim)⟩

/-! ### calls of built-ins, by values -/
def rAs (G : Gl) (f : List A → Store → Option A) : List V → Hp → VK → Prop := fun xs H Q => ∃ μ as S r, SimS G μ S H ∧ RelAs G μ H as xs ∧ f as S = some r ∧ ∀ H' v, Same H H' → RelA G μ H' r v → Q v H'
def CallS (G : Gl) (fv : Value) (f : List A → Store → Option A) : Prop := ∀ X, Here G X → CallR X fv (rAs G f)
def dCallB (f : List A → Store → Option A) (da : DR (List A)) : DE := fun l S => (da l S).bind fun xs S1 => opt (f xs S1) S1
theorem callB_read {f : List A → Store → Option A} {Q : VK} (h : tE G W (dCallB f das) σ H Q) : tCB (rAs G f) (tA G W das) σ H Q := by
  refine tR.imp (tR_one (rel1 := RelAs G) h) fun xs H1 ⟨μ, as, S, ss, ra, h1⟩ => ?_
  unfold opt at h1
  split at h1
  · rename_i r e
    exact ⟨μ, as, S, r, ss, ra, e, fun H' v sm rv => h1 μ H' v (Grow.same sm) (ss.same sm) rv⟩
  · exact h1.elim
/-- a name of the built-ins, seen in a scope -/
def glB (sc : Scope) (x : Str) : Bool := sc.names.lookup x == some .globalImplicit && !(x == ("__debug__" : Str)) && !(x == ("__name__" : Str))
theorem gl_of {sc : Scope} {x : Str} (h : glB sc x = true) : sc.names.lookup x = some .globalImplicit ∧ (x == ("__debug__" : Str)) = false ∧ x ≠ "__name__" := by
  unfold glB at h
  simp only [Bool.and_eq_true, beq_iff_eq, Bool.not_eq_true', beq_eq_false_iff_ne, ne_eq] at h
  exact ⟨h.1.1, by simpa using h.1.2, h.2⟩
theorem r_callB {f : List A → Store → Option A} {x : Str} {id : String} {p : Pos} (hc : CallS G (.builtin id) f) (hg : glB sc x = true) (hm : G.mg x = none) (hv : bootBuiltins x = some (.builtin id)) (ha : SndA G sc N (e :: es) das)
    (he : ∀ env, starEach (e :: es) env = (false, eval e env) :: starEach es env := by intro _; rfl) (hpl : ∀ env, (backTo pos (starEach es env)).any (·.1) = false := by intro _; rfl) : Snd G sc N (.Call (.Name x p) (e :: es) [] pos) (dCallB f das) := fun X W st tk => by
  obtain ⟨g1, g2, g3⟩ := gl_of hg
  exact ⟨fun pins s σ H Q I q => (pe_callB (hc X st.here) (show X.env.scope.names.lookup x = _ by rw [st.scope]; exact g1) (by rw [st.mg]; exact hm) hv (ha X W st tk) g3 g2 (he X.env) (hpl X.env)).run pins s σ H Q I (callB_read q)⟩
theorem r_callT {f : List A → Store → Option A} {x : Str} {T : String} {p : Pos} (hc : CallS G (.type T) f) (hg : glB sc x = true) (hm : G.mg x = none) (hv : bootBuiltins x = some (.type T)) (ha : SndA G sc N (e :: es) das)
    (he : ∀ env, starEach (e :: es) env = (false, eval e env) :: starEach es env := by intro _; rfl) (hpl : ∀ env, (backTo pos (starEach es env)).any (·.1) = false := by intro _; rfl) : Snd G sc N (.Call (.Name x p) (e :: es) [] pos) (dCallB f das) := fun X W st tk => by
  obtain ⟨g1, g2, g3⟩ := gl_of hg
  exact ⟨fun pins s σ H Q I q => (pe_callTy (hc X st.here) (show X.env.scope.names.lookup x = _ by rw [st.scope]; exact g1) (by rw [st.mg]; exact hm) hv (ha X W st tk) g3 g2 (he X.env) (hpl X.env)).run pins s σ H Q I (callB_read q)⟩
end
end Ev

/-! Ev5: what the built-ins do. -/
namespace Ev
open PySem PySem.Spec PyProof.Rows L2

def intsOf : List D → Option (List Int)
  | [] => some []
  | .int i :: r => (intsOf r).map (i :: ·)
  | _ :: _ => none
@[simp] theorem intsOf_map (ns : List Int) : intsOf (ns.map PyData.int) = some ns := by
  induction ns with
  | nil => rfl
  | cons n ns ih => simp [intsOf, ih]
theorem intsOf_some : ∀ {ds : List D} {ns : List Int}, intsOf ds = some ns → ds = ns.map PyData.int
  | [], ns, e => by simp [intsOf] at e; subst e; rfl
  | d :: ds, ns, e => by
    cases d with
    | int i =>
      simp only [intsOf, Option.map_eq_some_iff] at e
      obtain ⟨r, e', rfl⟩ := e
      rw [intsOf_some e']; rfl
    | _ => simp [intsOf] at e
theorem fs_ints {w : World} {K : PySem.W.Frag} {H : Hp} : ∀ {ns : List Int} {vs : List V}, DpFs w K H vs (ns.map PyData.int) → vs = ns.map V.int
  | [], _, h => by cases h; rfl
  | n :: ns, _, h => by
    cases h with
    | cons a b => cases a; rw [fs_ints b]; rfl
section
variable {G : Gl}
theorem RelAs.one {μ : List Addr} {H : Hp} {a : A} {vs : List V} (h : RelAs G μ H [a] vs) : ∃ v, vs = [v] ∧ RelA G μ H a v := by
  cases h with | cons r t => cases t; exact ⟨_, rfl, r⟩
theorem RelAs.two {μ : List Addr} {H : Hp} {a b : A} {vs : List V} (h : RelAs G μ H [a, b] vs) : ∃ v u, vs = [v, u] ∧ RelA G μ H a v ∧ RelA G μ H b u := by
  cases h with | cons r t => cases t with | cons r2 t2 => cases t2; exact ⟨_, _, rfl, r, r2⟩
/-- one plain argument -/
def pf1 (g : D → Option D) : List A → Store → Option A := fun xs _ => match xs with
  | [.d x] => (g x).map .d
  | _ => none
def pf2 (g : D → D → Option D) : List A → Store → Option A := fun xs _ => match xs with
  | [.d x, .d y] => (g x y).map .d
  | _ => none
theorem call1 {fv : Value} {g : D → Option D} (h : ∀ X, Here G X → CallR X fv (fun xs H Q => ∃ x d z, xs = [x] ∧ DpF G.w G.K H x d ∧ g d = some z ∧ ∀ H' v, Same H H' → DpF G.w G.K H' v z → Q v H')) : CallS G fv (pf1 g) := fun X hX pins s σ H xs us Q I r ⟨μ, as, S, rr, ss, ra, e, q⟩ => by
  unfold pf1 at e
  split at e
  · rename_i x
    simp only [Option.map_eq_some_iff] at e
    obtain ⟨z, hz, rfl⟩ := e
    obtain ⟨v, rfl, rv⟩ := ra.one
    exact h X hX pins s σ H _ us Q I r ⟨v, x, z, rfl, rv, hz, q⟩
  · cases e
theorem call2 {fv : Value} {g : D → D → Option D} (h : ∀ X, Here G X → CallR X fv (fun xs H Q => ∃ x y d e z, xs = [x, y] ∧ DpF G.w G.K H x d ∧ DpF G.w G.K H y e ∧ g d e = some z ∧ ∀ H' v, Same H H' → DpF G.w G.K H' v z → Q v H')) : CallS G fv (pf2 g) := fun X hX pins s σ H xs us Q I r ⟨μ, as, S, rr, ss, ra, e, q⟩ => by
  unfold pf2 at e
  split at e
  · rename_i x y
    simp only [Option.map_eq_some_iff] at e
    obtain ⟨z, hz, rfl⟩ := e
    obtain ⟨v, u, rfl, rv, ru⟩ := ra.two
    exact h X hX pins s σ H _ us Q I r ⟨v, u, x, y, z, rfl, rv, ru, hz, q⟩
  · cases e
/-- len of a text, a list, a tuple, a list of the store's -/
def lenD : D → Option D
  | .str z => if z.length ≤ 16777216 then some (.int z.length) else none
  | .list xs => some (.int xs.length)
  | .tuple xs => some (.int xs.length)
  | .dict kvs => some (.int kvs.length)
  | _ => none
def absD : D → Option D
  | .int i => some (.int (if i < 0 then -i else i))
  | _ => none
theorem call_absD : CallS G (.builtin "abs") (pf1 absD) := call1 fun X hX pins s σ H xs us Q I r ⟨x, d, z, e, hd, hz, q⟩ => by
  cases d with
  | int i => cases hd; cases hz; exact call_abs pins s σ H xs us Q I r ⟨i, e, q H _ (Same.refl _) (.int _)⟩
  | _ => simp [absD] at hz
def max2D : D → D → Option D
  | .int i, .int j => some (.int (if j > i then j else i))
  | _, _ => none
def min2D : D → D → Option D
  | .int i, .int j => some (.int (if j < i then j else i))
  | _, _ => none
theorem call_max2D : CallS G (.builtin "max") (pf2 max2D) := call2 fun X hX pins s σ H xs us Q I r ⟨x, y, d, e, z, e0, hd, he, hz, q⟩ => by
  cases d with
  | int i =>
    cases e with
    | int j => cases hd; cases he; cases hz; exact call_max2 hX.calm pins s σ H xs us Q I r ⟨i, j, e0, q H _ (Same.refl _) (.int _)⟩
    | _ => simp [max2D] at hz
  | _ => simp [max2D] at hz
theorem call_min2D : CallS G (.builtin "min") (pf2 min2D) := call2 fun X hX pins s σ H xs us Q I r ⟨x, y, d, e, z, e0, hd, he, hz, q⟩ => by
  cases d with
  | int i =>
    cases e with
    | int j => cases hd; cases he; cases hz; exact call_min2 hX.calm pins s σ H xs us Q I r ⟨i, j, e0, q H _ (Same.refl _) (.int _)⟩
    | _ => simp [min2D] at hz
  | _ => simp [min2D] at hz
/-- int(x) of an int or a bool -/
def intD : D → Option D
  | .int i => some (.int i)
  | .bool k => some (.int (if k then 1 else 0))
  | _ => none
theorem call_intD : CallS G (.type "int") (pf1 intD) := call1 fun X hX pins s σ H xs us Q I r ⟨x, d, z, e, hd, hz, q⟩ => by
  cases d with
  | int i => cases hd; cases hz; exact call_int1 pins s σ H xs us Q I r (.inl ⟨i, e, q H _ (Same.refl _) (.int _)⟩)
  | bool k => cases hd; cases hz; exact call_int1 pins s σ H xs us Q I r (.inr ⟨k, e, q H _ (Same.refl _) (.int _)⟩)
  | _ => simp [intD] at hz
/-- sum, max, min of a list or tuple of ints -/
def sumD : D → Option D
  | .list xs => (intsOf xs).map fun ns => .int ns.sum
  | _ => none
def foldI (f : Int → Int → Int) : List Int → Option D
  | [] => none
  | n :: ns => some (.int (ns.foldl f n))
def max1D : D → Option D
  | .list xs => (intsOf xs).bind (foldI max)
  | .tuple xs => (intsOf xs).bind (foldI max)
  | _ => none
def min1D : D → Option D
  | .list xs => (intsOf xs).bind (foldI min)
  | .tuple xs => (intsOf xs).bind (foldI min)
  | _ => none
theorem call_sumD : CallS G (.builtin "sum") (pf1 sumD) := call1 fun X hX pins s σ H xs us Q I r ⟨x, d, z, e, hd, hz, q⟩ => by
  cases hd with
  | @lst a vs ds ha ra =>
    simp only [sumD, Option.map_eq_some_iff] at hz
    obtain ⟨ns, hn, rfl⟩ := hz
    have e2 := intsOf_some hn
    subst e2
    exact cr_sum hX.calm pins s σ H xs us Q I r ⟨a, ns, e, by rw [hX.K]; rw [← fs_ints ra]; exact ha.sq, q H _ (Same.refl _) (.int _)⟩
  | _ => simp [sumD] at hz
theorem foldl_max_mem : ∀ (n : Int) (ns : List Int), (ns.foldl max n ∈ n :: ns) ∧ ∀ y ∈ n :: ns, y ≤ ns.foldl max n
  | n, [] => by simp
  | n, m :: ns => by
    obtain ⟨h1, h2⟩ := foldl_max_mem (max n m) ns
    refine ⟨?_, fun y hy => ?_⟩
    · rcases List.mem_cons.mp h1 with h | h
      · show ns.foldl max (max n m) ∈ _
        rw [h]
        by_cases q : n ≤ m
        · rw [Int.max_eq_right q]; simp
        · rw [Int.max_eq_left (by omega)]; simp
      · exact List.mem_cons_of_mem _ (List.mem_cons_of_mem _ h)
    · have h3 := h2 (max n m) List.mem_cons_self
      rcases List.mem_cons.mp hy with rfl | hy
      · exact Int.le_trans (Int.le_max_left _ _) h3
      · rcases List.mem_cons.mp hy with rfl | hy
        · exact Int.le_trans (Int.le_max_right _ _) h3
        · exact h2 y (List.mem_cons_of_mem _ hy)
theorem foldl_min_mem : ∀ (n : Int) (ns : List Int), (ns.foldl min n ∈ n :: ns) ∧ ∀ y ∈ n :: ns, ns.foldl min n ≤ y
  | n, [] => by simp
  | n, m :: ns => by
    obtain ⟨h1, h2⟩ := foldl_min_mem (min n m) ns
    refine ⟨?_, fun y hy => ?_⟩
    · rcases List.mem_cons.mp h1 with h | h
      · show ns.foldl min (min n m) ∈ _
        rw [h]
        by_cases q : n ≤ m
        · rw [Int.min_eq_left q]; simp
        · rw [Int.min_eq_right (by omega)]; simp
      · exact List.mem_cons_of_mem _ (List.mem_cons_of_mem _ h)
    · have h3 := h2 (min n m) List.mem_cons_self
      rcases List.mem_cons.mp hy with rfl | hy
      · exact Int.le_trans h3 (Int.min_le_left _ _)
      · rcases List.mem_cons.mp hy with rfl | hy
        · exact Int.le_trans h3 (Int.min_le_right _ _)
        · exact h2 y (List.mem_cons_of_mem _ hy)
theorem alike_ints (ns : List Int) : PySem.W.AlikeAll (ns.map PyData.int) := by
  refine ⟨fun x hx y hy => ?_, fun x hx => ?_⟩
  · obtain ⟨i, _, rfl⟩ := List.mem_map.mp hx
    obtain ⟨j, _, rfl⟩ := List.mem_map.mp hy
    rfl
  · obtain ⟨i, _, rfl⟩ := List.mem_map.mp hx
    exact fun z => nomatch z
theorem depth_ints : ∀ ns : List Int, PyData.depthAll (ns.map PyData.int) = 0
  | [] => rfl
  | n :: ns => by rw [List.map_cons, PyData.depthAll, depth_ints ns]; rfl
theorem dp_ints {w : World} {K : PySem.W.Frag} {H : Hp} (ns : List Int) : DpAll K H (ns.map V.int) (ns.map PyData.int) := by
  induction ns with
  | nil => exact .nil
  | cons n ns ih => exact .cons (.int n) ih
theorem tuple_ints {X : Cx} (hX : Here G X) {pins : List (Addr × Obj)} {s : Shared} {σ : L2.St} {H : Hp} {a : Addr} {vs : List V} {n : Int} {ns : List Int} (I : L2.Inv X pins σ H s) (ha : SqT G.K H a vs) (ra : DpFs G.w G.K H vs ((n :: ns).map PyData.int)) :
    ∃ its : List Value, s.heap.IsTuple a its.toArray ∧ ∃ as, ReadsAll s.heap its (.int n :: ns.map PyData.int) as := by
  have e := fs_ints ra
  subst e
  obtain ⟨its, rv, ht, _⟩ := I.tuple (by rw [hX.K]; exact ha)
  obtain ⟨as, h⟩ := Dp.readsAll I _ _ its (dp_ints (w := G.w) (K := X.K) (H := H) (n :: ns)) rv
  exact ⟨its, ht, as, h⟩
theorem u1 {X : Cx} (hX : Here G X) (n : Int) (ns : List Int) : X.A.units + 1 + PyData.depthAll (.int n :: ns.map PyData.int) < cLine := by
  have h : PyData.depthAll (.int n :: ns.map PyData.int) = 0 := depth_ints (n :: ns)
  rw [h]
  have := hX.room.wide
  omega
theorem call_max1D : CallS G (.builtin "max") (pf1 max1D) := call1 fun X hX pins s σ H xs us Q I r ⟨x, d, z, e, hd, hz, q⟩ => by
  cases hd with
  | @lst a vs ds ha ra =>
    simp only [max1D, Option.bind_eq_some_iff] at hz
    obtain ⟨ns, hn, hf⟩ := hz
    have e2 := intsOf_some hn
    subst e2
    cases ns with
    | nil => cases hf
    | cons n ns =>
      cases hf
      obtain ⟨m1, m2⟩ := foldl_max_mem n ns
      refine cr_max hX.calm pins s σ H xs us Q I r ⟨a, n :: ns, e, by rw [hX.K]; rw [← fs_ints ra]; exact ha.sq, by simp, fun m h1 h2 => ?_⟩
      have : m = ns.foldl max n := Int.le_antisymm (m2 m h1) (h2 _ m1)
      subst this
      exact q H _ (Same.refl _) (.int _)
  | @tup a vs ds ha ra =>
    simp only [max1D, Option.bind_eq_some_iff] at hz
    obtain ⟨ns, hn, hf⟩ := hz
    have e2 := intsOf_some hn
    subst e2
    cases ns with
    | nil => cases hf
    | cons n ns =>
      cases hf
      subst e
      obtain ⟨u, rfl, ru⟩ := vals1 r
      cases ru
      obtain ⟨its, ht, as, hr⟩ := tuple_ints hX I ha ra
      refine PySem.W.max_tuple_data (I.ok.hd hX.calm) ht (by simpa using hr) (alike_ints (n :: ns)) (u1 hX n ns) fun i v h' tk bs _ rd k => ?_
      rw [PySem.W.maxD_ints] at rd
      cases rd
      exact ⟨.int _, H, I.kept k, ⟨_, rfl⟩, q H _ (Same.refl _) (.int _)⟩
  | _ => simp [max1D] at hz
theorem call_min1D : CallS G (.builtin "min") (pf1 min1D) := call1 fun X hX pins s σ H xs us Q I r ⟨x, d, z, e, hd, hz, q⟩ => by
  cases hd with
  | @lst a vs ds ha ra =>
    simp only [min1D, Option.bind_eq_some_iff] at hz
    obtain ⟨ns, hn, hf⟩ := hz
    have e2 := intsOf_some hn
    subst e2
    cases ns with
    | nil => cases hf
    | cons n ns =>
      cases hf
      obtain ⟨m1, m2⟩ := foldl_min_mem n ns
      refine cr_min hX.calm pins s σ H xs us Q I r ⟨a, n :: ns, e, by rw [hX.K]; rw [← fs_ints ra]; exact ha.sq, by simp, fun m h1 h2 => ?_⟩
      have : m = ns.foldl min n := Int.le_antisymm (h2 _ m1) (m2 m h1)
      subst this
      exact q H _ (Same.refl _) (.int _)
  | @tup a vs ds ha ra =>
    simp only [min1D, Option.bind_eq_some_iff] at hz
    obtain ⟨ns, hn, hf⟩ := hz
    have e2 := intsOf_some hn
    subst e2
    cases ns with
    | nil => cases hf
    | cons n ns =>
      cases hf
      subst e
      obtain ⟨u, rfl, ru⟩ := vals1 r
      cases ru
      obtain ⟨its, ht, as, hr⟩ := tuple_ints hX I ha ra
      refine PySem.W.min_tuple_data (I.ok.hd hX.calm) ht (by simpa using hr) (alike_ints (n :: ns)) (u1 hX n ns) fun i v h' tk bs _ rd k => ?_
      rw [PySem.W.minD_ints] at rd
      cases rd
      exact ⟨.int _, H, I.kept k, ⟨_, rfl⟩, q H _ (Same.refl _) (.int _)⟩
  | _ => simp [min1D] at hz

/-! ### list(x), tuple(x) of lists and tuples -/
def listD : D → Option D
  | .list xs => some (.list xs)
  | .tuple xs => some (.list xs)
  | _ => none
def tupleD : D → Option D
  | .list xs => some (.tuple xs)
  | .tuple xs => some (.tuple xs)
  | _ => none
theorem ghost_call {X : Cx} {fv : Value} {r r' : List V → Hp → VK → Prop} (h : CallR X fv r) (g : ∀ (pins : List (Addr × Obj)) (s : Shared) (σ : L2.St) (xs : List V) (H : Hp) (Q : VK), r' xs H Q → r xs H fun v H1 => ∀ s', L2.Inv X pins σ H1 s' → ∃ H2, L2.Inv X pins σ H2 s' ∧ Q v H2) : CallR X fv r' :=
  fun pins s σ H xs us Q I rv q => thn (h pins s σ H xs us _ I rv (g pins s σ xs H Q q)) fun u s' ⟨v, H1, I1, rv, z⟩ => let ⟨H2, I2, q2⟩ := z s' I1; ⟨v, H2, I2, rv, q2⟩
theorem call_listD : CallS G (.type "list") (pf1 listD) := call1 fun X hX => ghost_call call_list_of fun pins s σ xs H Q ⟨x, d, z, e, hd, hz, q⟩ => by
  have go : ∀ {a : Addr} {vs : List V} {ds : List D}, x = .ref a → (SqL X.K H a vs ∨ SqT X.K H a vs) → DpFs G.w G.K H vs ds → z = .list ds → ∃ p ys, xs = [.ref p] ∧ (SqL X.K H p ys ∨ SqT X.K H p ys) ∧ ∀ l, H l = none → ∀ s', L2.Inv X pins σ (upd H l (.lst ys)) s' → ∃ H2, L2.Inv X pins σ H2 s' ∧ Q (.ref l) H2 := fun {a vs ds} e1 sq ra ez => by
    subst e1 ez
    refine ⟨a, vs, e, sq, fun l hn s' I' => ?_⟩
    obtain ⟨H2, I2, sm, fz⟩ := lock_new (K := G.K) I' hn
    exact ⟨H2, I2, q _ _ sm (.lst fz (ra.mono (Pers.of sm)))⟩
  cases hd with
  | lst ha ra => cases hz; exact go rfl (.inl (by rw [hX.K]; exact ha.sq)) ra rfl
  | tup ha ra => cases hz; exact go rfl (.inr (by rw [hX.K]; exact ha)) ra rfl
  | _ => simp [listD] at hz
theorem call_tupleD : CallS G (.type "tuple") (pf1 tupleD) := call1 fun X hX pins s σ H xs us Q I r ⟨x, d, z, e, hd, hz, q⟩ => by
  cases hd with
  | @lst a vs ds ha ra =>
    cases hz
    refine call_tuple_of pins s σ H xs us Q I r ⟨a, vs, e, .inl ⟨by rw [hX.K]; exact ha.sq, fun l hn => ?_⟩⟩
    have sm := same_new (o := .tup vs) hn
    exact q _ _ sm (.tup tup_new (ra.mono (Pers.of sm)))
  | @tup a vs ds ha ra =>
    cases hz
    exact call_tuple_of pins s σ H xs us Q I r ⟨a, vs, e, .inr ⟨by rw [hX.K]; exact ha, q H _ (Same.refl _) (.tup ha ra)⟩⟩
  | _ => simp [tupleD] at hz

/-! ### isinstance -/
def tyName : D → String
  | .none => "NoneType"
  | .bool _ => "bool"
  | .int _ => "int"
  | .str _ => "str"
  | .list _ => "list"
  | .tuple _ => "tuple"
  | .dict _ => "dict"
def isI (T : String) (d : D) : Option D := if (T == "bool" || T == "int" || T == "str" || T == "list" || T == "tuple") && !(tyName d == "dict") then some (.bool (tyName d == T || (T == "int" && tyName d == "bool"))) else none
theorem kit_all : ∀ T ∈ (["bool", "int", "str", "list", "tuple"] : List String), ∀ n ∈ (["NoneType", "bool", "int", "str", "list", "tuple"] : List String), kitB n T = some (n == T || (T == "int" && n == "bool")) := by decide +kernel
theorem call_isI {X : Cx} (hX : Here G X) {T : String} : CallR X (.builtin "isinstance") (fun xs H Q => ∃ x d z, xs = [x, .ty T] ∧ DpF G.w G.K H x d ∧ isI T d = some z ∧ ∀ H' v, Same H H' → DpF G.w G.K H' v z → Q v H') := fun pins s σ H xs us Q I r ⟨x, d, z, e, hd, hz, q⟩ => by
  unfold isI at hz
  split at hz
  · rename_i hc
    cases hz
    simp only [Bool.and_eq_true, Bool.or_eq_true, beq_iff_eq, Bool.not_eq_true', beq_eq_false_iff_ne] at hc
    have hT : T ∈ (["bool", "int", "str", "list", "tuple"] : List String) := by
      rcases hc.1 with (((h | h) | h) | h) | h <;> subst h <;> decide
    have fin : ∀ n, tyName d = n → n ∈ (["NoneType", "bool", "int", "str", "list", "tuple"] : List String) → TyX X.K H x (.type n) → wpAny (model X.prog X.w) X.A (call (.builtin "isinstance") us) (EP X pins σ Q) X.xe s := fun n en hn ty => by
      refine call_isi pins s σ H xs us Q I r ⟨x, .ty T, .type n, .type T, _, e, .ty T, ty, kit_ty (kit_all T hT n hn), ?_⟩
      rw [en] at q
      exact q H _ (Same.refl _) (.bl _)
    cases hd with
    | non => exact fin _ rfl (by simp [tyName]) (.base .non)
    | bl b => exact fin _ rfl (by simp [tyName]) (.base (.bl b))
    | int i => exact fin _ rfl (by simp [tyName]) (.base (.int i))
    | str x => exact fin _ rfl (by simp [tyName]) (.base (.str x))
    | @lst a vs ds ha ra =>
      refine fin _ rfl (by simp [tyName]) ?_
      rcases ha with ⟨o, h⟩ | ⟨o, its, n, hk, hc, _⟩
      · exact .base (.frz h)
      · exact .kList (by rw [hX.K]; exact hk) hc
    | @tup a vs ds ha ra =>
      refine fin _ rfl (by simp [tyName]) ?_
      rcases ha with (h | ⟨o, h⟩) | ⟨o, its, n, hk, hc, _⟩
      · exact .base (.tup h)
      · exact .fTuple h
      · exact .kTuple (by rw [hX.K]; exact hk) hc
    | dic => exact absurd rfl hc.2
  · cases hz
def dIsI (T : String) (da : DE) : DE := dOp1 (pu1 (isI T)) da
variable {sc : Scope} {N : List Str} {e : Expr} {da : DE}
theorem r_isI {T : String} {x : Str} {p p2 pos : Pos} (hT : bootBuiltins x = some (.type T)) (hg : glB sc "isinstance" = true) (hg2 : glB sc x = true) (hm : G.mg "isinstance" = none) (hm2 : G.mg x = none) (ha : Snd G sc N e da)
    (he : ∀ env, starEach (e :: [.Name x p2]) env = (false, eval e env) :: starEach [.Name x p2] env := by intro _; rfl) : Snd G sc N (.Call (.Name "isinstance" p) [e, .Name x p2] [] pos) (dIsI T da) := fun X W st tk => by
  obtain ⟨g1, g2, g3⟩ := gl_of hg
  obtain ⟨k1, k2, k3⟩ := gl_of hg2
  have hb : PE X (.Name x p2) (tC (.ty T)) := pe_bltn (show X.env.scope.names.lookup x = _ by rw [st.scope]; exact k1) (by rw [st.mg]; exact hm2) hT rfl k3 k2
  exact ⟨fun pins s σ H Q I q => (pe_callB (call_isI st.here (T := T)) (show X.env.scope.names.lookup _ = _ by rw [st.scope]; exact g1) (by rw [st.mg]; exact hm) (by decide +kernel) (pa_cons (ha X W st tk) (pa_cons hb pa_nil) (he X.env)) g3 g2 (he X.env)).run pins s σ H Q I (tR.imp (op1_read q) fun x H1 ⟨μ, a, S, r, ss, ra, e, h⟩ => by
    cases a with
    | d d =>
      simp only [pu1, Option.map_eq_some_iff] at e
      obtain ⟨z, hz, rfl⟩ := e
      exact ⟨x, d, z, rfl, ra, hz, h⟩
    | _ => simp [pu1] at e)⟩

/-! ### list(range(..)) -/
def rgL (a b : Int) : List Int := (List.range (b - a).toNat).map fun i => a + (i : Nat)
def rgOk (a b : Int) : Bool := decide (-16777216 ≤ a) && decide (a ≤ 16777216) && decide (-16777216 ≤ b) && decide (b ≤ 16777216) && decide ((b - a).toNat ≤ 16777216)
def rgD1 : D → Option D
  | .int n => if rgOk 0 n = true then some (.list ((rgL 0 n).map .int)) else none
  | _ => none
def rgD2 : D → D → Option D
  | .int a, .int b => if rgOk a b = true then some (.list ((rgL a b).map .int)) else none
  | _, _ => none
theorem rg_fs {w : World} {K : PySem.W.Frag} {H : Hp} (a b : Int) : DpFs w K H (rgV a b) ((rgL a b).map PyData.int) := by
  unfold rgV rgL
  rw [List.map_map]
  induction List.range (b - a).toNat with
  | nil => exact .nil
  | cons i l ih => exact .cons (.int _) ih
theorem rg_lock {X : Cx} {a b : Int} (h : rgOk a b = true) {H : Hp} {Q : VK} {pins : List (Addr × Obj)} {σ : L2.St} (q : ∀ H' v, Same H H' → DpF G.w G.K H' v (.list ((rgL a b).map PyData.int)) → Q v H') :
    RgOk a b ∧ ∀ p, H p = none → ∀ s', L2.Inv X pins σ (upd H p (.lst (rgV a b))) s' → ∃ H2, L2.Inv X pins σ H2 s' ∧ Q (.ref p) H2 := by
  simp only [rgOk, Bool.and_eq_true, decide_eq_true_eq] at h
  refine ⟨⟨by omega, by omega, by omega, by omega, by omega⟩, fun p hn s' I' => ?_⟩
  obtain ⟨H2, I2, sm, fz⟩ := lock_new (K := G.K) I' hn
  exact ⟨H2, I2, q _ _ sm (.lst fz (rg_fs a b))⟩
theorem r_listRg1 {p1 p2 pos pos2 : Pos} (hg : glB sc "list" = true) (hg2 : glB sc "range" = true) (hm : G.mg "list" = none) (hm2 : G.mg "range" = none) (ha : Snd G sc N e da)
    (he : ∀ env, starEach [e] env = (false, eval e env) :: starEach [] env := by intro _; rfl) : Snd G sc N (.Call (.Name "list" p1) [.Call (.Name "range" p2) [e] [] pos2] [] pos) (dOp1 (pu1 rgD1) da) := fun X W st tk => by
  obtain ⟨g1, g2, g3⟩ := gl_of hg
  obtain ⟨k1, k2, k3⟩ := gl_of hg2
  refine PE_ghost (pe_listRg st.calm (show X.env.scope.names.lookup _ = _ by rw [st.scope]; exact g1) (by rw [st.mg]; exact hm) (prg_1 (show X.env.scope.names.lookup _ = _ by rw [st.scope]; exact k1) (by rw [st.mg]; exact hm2) (ha X W st tk) (he X.env))) fun pins s σ H Q q => tR.imp (op1_read q) fun x H1 ⟨μ, a, S, r, ss, ra, e, h⟩ => ?_
  cases a with
  | d d =>
    simp only [pu1, Option.map_eq_some_iff] at e
    obtain ⟨z, hz, rfl⟩ := e
    cases d with
    | int n =>
      simp only [rgD1, Option.ite_none_right_eq_some, Option.some.injEq] at hz
      obtain ⟨hc, rfl⟩ := hz
      cases ra
      exact ⟨n, rfl, rg_lock hc h⟩
    | _ => simp [rgD1] at hz
  | _ => simp [pu1] at e
theorem r_listRg2 {e2 : Expr} {db : DE} {p1 p2 pos pos2 : Pos} (hg : glB sc "list" = true) (hg2 : glB sc "range" = true) (hm : G.mg "list" = none) (hm2 : G.mg "range" = none) (ha : Snd G sc N e da) (hb : Snd G sc N e2 db)
    (he : ∀ env, starEach [e, e2] env = (false, eval e env) :: starEach [e2] env := by intro _; rfl) (he2 : ∀ env, starEach [e2] env = (false, eval e2 env) :: starEach [] env := by intro _; rfl) (hp : ∀ env, (backTo pos2 (starEach [e2] env)).any (·.1) = false := by intro _; rfl) :
    Snd G sc N (.Call (.Name "list" p1) [.Call (.Name "range" p2) [e, e2] [] pos2] [] pos) (dOp2 (pu2 rgD2) da db) := fun X W st tk => by
  obtain ⟨g1, g2, g3⟩ := gl_of hg
  obtain ⟨k1, k2, k3⟩ := gl_of hg2
  refine PE_ghost (pe_listRg st.calm (show X.env.scope.names.lookup _ = _ by rw [st.scope]; exact g1) (by rw [st.mg]; exact hm) (prg_2 (show X.env.scope.names.lookup _ = _ by rw [st.scope]; exact k1) (by rw [st.mg]; exact hm2) (ha X W st tk) (hb X W st tk) (he X.env) (he2 X.env) (hp X.env))) fun pins s σ H Q q => tR.imp (op2_read q) fun x H1 h1 => tR.imp h1 fun y H2 q2 => ?_
  obtain ⟨d, e, z, hd, he, hz, h⟩ := rA2_pure q2
  cases hd with
  | int a =>
    cases he with
    | int b =>
      simp only [rgD2, Option.ite_none_right_eq_some, Option.some.injEq] at hz
      obtain ⟨hc, rfl⟩ := hz
      exact ⟨a, b, rfl, rfl, rg_lock hc h⟩
    | _ => simp [rgD2] at hz
  | _ => cases he <;> simp [rgD2] at hz
end
end Ev

/-! Ev6: calls of the text's own defs, methods, classes; attributes; statements. -/
namespace Ev
open PySem PySem.Spec PyProof.Rows L2

/-! ### what a def promises: its denotation's result -/
def spOf (G : Gl) (F : Fns) (f : Nat) : Sp := fun vs H Q E => vs.length = (G.ps f).length ∧ ∃ μ as S, SimS G μ S H ∧ RelAs G μ H as vs ∧ Aft G E (RelA G) μ H (F f as S) Q
abbrev CXG (G : Gl) : CXT := L2.CX G.P G.w
def FnG (G : Gl) (k : Nat) (F : Fns) (f : Nat) : Prop := FnK G.P G.w G.K G.mg G.base (CXG G) k (G.fa f) (G.fd f) (G.ps f) (spOf G F f)
/-- a def that stands: its promise, how it is bound -/
structure FnIs (G : Gl) (f : Nat) : Prop where
  ok : FnG G G.k G.F f
  binds : Binds G.K (G.fd f) (G.ps f) []
  kp : PySem.W.keepIn G.K (.ref (G.fa f)) = true
/-- a class that stands: its attributes' names, its methods -/
structure ClsIs (G : Gl) (c : Nat) (fl : List Str) : Prop where
  cls : ∀ f ∈ fl, Cls G.K (G.ca c)
  no : ∀ f ∈ fl, NoAttr G.K (G.ca c) f

section
variable {G : Gl} {sc : Scope} {N : List Str} {pos p apos : Pos} {e o : Expr} {es : List Expr} {da de : DE} {das : DR (List A)} {x m : Str}
theorem wx_pass {X : Cx} {W : WX} (h : Here G X) (tk : Takes X W) (σ : L2.St) : PassesAt (CXG G) X σ (WE W σ) := by
  have := passAt tk σ
  rw [h.prog, h.w] at this
  exact this
theorem call_run {f : Nat} {X : Cx} {W : WX} (hf : FnIs G f) {pins : List (Addr × Obj)} {σ : L2.St} {H : Hp} {s : Shared} {Q : VK} {us : List Value} {vs : List V} (st : Stat G sc N X) (tk : Takes X W) (I : L2.Inv X pins σ H s) (r : Vals vs us)
    (h : spOf G G.F f vs H Q (fun c dd H' => W c dd σ H')) : wpAny (model X.prog X.w) X.A (call (.ref (G.fa f)) us) (EP X pins σ Q) X.xe s := by
  have F := hf.ok
  unfold FnG at F
  rw [← st.prog, ← st.w, ← st.K, ← st.mg, ← st.base] at F
  exact FnK.call (E := WE W) F st.room (by rw [st.K]; exact hf.binds) (wx_pass st.here tk σ) I r h
def dCall (F : Fns) (f : Nat) (das : DR (List A)) : DE := fun l S => (das l S).bind fun as S1 => F f as S1
theorem call_read {f : Nat} {W : WX} {σ : L2.St} {H : Hp} {Q : VK} {F : Fns} (hl : ∀ as S, F f as S = .no ∨ as.length = (G.ps f).length) (h : tE G W (dCall F f das) σ H Q) : tA G W das σ H fun vs H1 => spOf G F f vs H1 Q (fun c dd H' => W c dd σ H') := by
  refine tR.imp (tR_one (rel1 := RelAs G) h) fun vs H1 ⟨μ, as, S, ss, ra, h1⟩ => ?_
  rcases hl as S with e | e
  · rw [e] at h1; exact h1.elim
  · exact ⟨by rw [← Paired.length ra]; exact e, μ, as, S, ss, ra, h1⟩
/-- a def's denotation is nothing for a wrong number of arguments -/
def FnLen (G : Gl) (f : Nat) : Prop := ∀ as S, G.F f as S = .no ∨ as.length = (G.ps f).length
theorem r_call {f : Nat} (hf : FnIs G f) (hl : FnLen G f) (hg : glB sc x = true) (hm : G.mg x = some (.ref (G.fa f))) (ha : SndA G sc N (e :: es) das)
    (he : ∀ env, starEach (e :: es) env = (false, eval e env) :: starEach es env := by intro _; rfl) (hpl : ∀ env, (backTo pos (starEach es env)).any (·.1) = false := by intro _; rfl) : Snd G sc N (.Call (.Name x p) (e :: es) [] pos) (dCall G.F f das) := fun X W st tk => by
  obtain ⟨g1, g2, g3⟩ := gl_of hg
  refine ⟨fun pins s σ H Q I q => ?_⟩
  refine wpAny_Call_Name_kw (ld_glob I (show X.env.scope.names.lookup x = _ by rw [st.scope]; exact g1) (by rw [st.mg]; exact hm) ?_ g2)
  refine PySem.W.callWith_K (h₀ := X.base) I.ok.mod.kin (by rw [st.K]; exact hf.kp) (thn ((ha X W st tk).run pos pins s σ H _ I (call_read hl q)) fun us s1 ⟨vs, H1, I1, r, q1⟩ => ⟨I1.kIn, ?_⟩) (he X.env) (hpl X.env)
  exact call_run hf st tk I1 r q1
theorem r_call0 {f : Nat} (hf : FnIs G f) (hl : FnLen G f) (hg : glB sc x = true) (hm : G.mg x = some (.ref (G.fa f))) : Snd G sc N (.Call (.Name x p) [] [] pos) (dCall G.F f dNil) := fun X W st tk => by
  obtain ⟨g1, g2, g3⟩ := gl_of hg
  refine ⟨fun pins s σ H Q I q => ?_⟩
  refine wpAny_Call_Name_kw (ld_glob I (show X.env.scope.names.lookup x = _ by rw [st.scope]; exact g1) (by rw [st.mg]; exact hm) ?_ g2)
  refine PySem.W.callWith_K0 I.kIn (by rw [st.K]; exact hf.kp) (call_run (us := []) (vs := []) hf st tk I .nil ?_)
  exact ret_read (x := ([] : List A)) (rel := RelAs G) (Q := fun vs H1 => spOf G G.F f vs H1 Q (fun c dd H' => W c dd σ H')) (call_read hl q) fun _ => .nil

/-! ### methods -/
/-- which def a method of a class is -/
abbrev MTab := Nat → Option Nat
def objOf (x : A) (S : Store) : Option (Nat × Nat × List (Str × A)) := match x with
  | .loc n => match S[n]? with
    | some (.ins c fs) => some (n, c, fs)
    | _ => none
  | _ => none
theorem objOf_some {x : A} {S : Store} {n c : Nat} {fs : List (Str × A)} (h : objOf x S = some (n, c, fs)) : x = .loc n ∧ S[n]? = some (.ins c fs) := by
  unfold objOf at h
  split at h
  · split at h
    · rename_i e
      simp only [Option.some.injEq, Prod.mk.injEq] at h
      obtain ⟨rfl, rfl, rfl⟩ := h
      exact ⟨rfl, e⟩
    · cases h
  · cases h
def dMeth (F : Fns) (mt : MTab) (m : Str) (d : DE) (das : DR (List A)) : DE := fun l S => (d l S).bind fun x S1 => match objOf x S1 with
  | some (n, c, fs) => match mt c, fs.lookup m with
    | some f, none => (das l S1).bind fun as S2 => F f (.loc n :: as) S2
    | _, _ => .no
  | none => .no
/-- the methods named m: for each class with one, its def -/
structure MIs (G : Gl) (mt : MTab) (m : Str) : Prop where
  cls : ∀ c f, mt c = some f → Cls G.K (G.ca c) ∧ Meth G.K (G.ca c) m (G.fa f) ∧ FnIs G f ∧ FnLen G f
theorem lookup_rel {μ : List Addr} {H : Hp} : ∀ {fs : List (Str × A)} {gs : List (Str × V)}, Paired (fun (p : Str × A) (q : Str × V) => p.1 = q.1 ∧ RelA G μ H p.2 q.2) fs gs → ∀ m, (fs.lookup m = none → gs.lookup m = none) ∧ ∀ a, fs.lookup m = some a → ∃ v, gs.lookup m = some v ∧ RelA G μ H a v
  | [], _, .nil, m => ⟨fun _ => rfl, fun _ h => nomatch h⟩
  | (k, a) :: fs, (k', v) :: gs, .cons r t, m => by
    obtain ⟨r1, r2⟩ := r
    have r1 : k = k' := r1
    subst r1
    obtain ⟨i1, i2⟩ := lookup_rel t m
    rw [List.lookup_cons, List.lookup_cons]
    cases hb : m == k with
    | true => exact ⟨fun z => by simp at z, fun b z => by simp at z; subst z; exact ⟨v, rfl, r2⟩⟩
    | false => exact ⟨i1, i2⟩
theorem meth_run {mt : MTab} (hM : MIs G mt m) {X : Cx} {W : WX} {args : List Expr} {pl : Sem Bool} (st : Stat G sc N X) (tk : Takes X W) (ho : Snd G sc N o de) {pins : List (Addr × Obj)} {σ : L2.St} {H : Hp} {s : Shared} {Q : VK} (I : L2.Inv X pins σ H s)
    (q : tE G W (dMeth G.F mt m de das) σ H Q)
    (go : ∀ f n s1 H1 (a : Addr), mt n = some f → L2.Inv X pins σ H1 s1 → tA G W das σ H1 (fun vs H2 => spOf G G.F f (.ref a :: vs) H2 Q (fun c dd H' => W c dd σ H')) → FnIs G f → PySem.W.keepIn X.K (.ref (G.fa f)) = true →
      wpAny (model X.prog X.w) X.A (callWith pos (.ref (G.fa f)) [.ref a] (backTo pos (starEach args X.env)) (backToKw pos (keywordEach [] X.env))) (EP X pins σ Q) X.xe s1)
    (ht : eval (.Call (.Attribute o m apos) args [] pos) X.env = (do
      let ov ← eval o X.env
      standAt apos.atName
      let (f, first) ← holding [ov] (getMethod ov m pl)
      callWith pos f first (backTo pos (starEach args X.env)) (backToKw pos (keywordEach [] X.env)))) :
    wpAny (model X.prog X.w) X.A (eval (.Call (.Attribute o m apos) args [] pos) X.env) (EP X pins σ Q) X.xe s := by
  refine methcall_of (pl := pl) (ho X W st tk) I ?_ ht
  obtain ⟨μ, l, S, ss, sl, q⟩ := q
  refine ⟨μ, l, S, ss, sl, Aft.imp (Aft.bind (rel' := RelA G) q) fun v H1 _ ⟨a, μ1, S1, g1, s1, ra, h1⟩ => ?_⟩
  split at h1
  · rename_i n c fs eo
    obtain ⟨rfl, hc⟩ := objOf_some eo
    obtain ⟨p, hp, rfl⟩ := ra
    split at h1
    · rename_i f hf hn
      obtain ⟨p', hp', dx, gs, e1, e2⟩ := s1.cells _ _ hc
      rw [hp] at hp'; cases hp'
      obtain ⟨k1, k2, k3, k4⟩ := hM.cls c f hf
      refine ⟨p, G.ca c, dx, gs, G.fa f, rfl, e1, by rw [st.K]; exact k1, by rw [st.K]; exact k2, (lookup_rel e2 m).1 hn, fun sx Ix => ?_⟩
      refine go f c sx H1 p hf Ix ?_ k3 (by rw [st.K]; exact k3.kp)
      refine ⟨μ1, l, S1, s1, sl.grow g1, Aft.imp (Aft.bind (rel' := RelAs G) h1) fun vs H2 _ ⟨as, μ2, S2, g2, s2, rs, h2⟩ => ?_⟩
      rcases k4 (.loc n :: as) S2 with e | e
      · rw [e] at h2; exact h2.elim
      · have r2 : RelAs G μ2 H2 (.loc n :: as) (.ref p :: vs) := .cons ((show RelA G μ1 H1 (.loc n) (.ref p) from ⟨p, hp, rfl⟩).grow g2) rs
        exact ⟨by rw [← Paired.length r2]; exact e, μ2, _, S2, s2, r2, h2⟩
    · exact h1.elim
  · exact h1.elim
theorem r_meth {mt : MTab} (hM : MIs G mt m) (ho : Snd G sc N o de) (ha : SndA G sc N (e :: es) das) (he : ∀ env, starEach (e :: es) env = (false, eval e env) :: starEach es env := by intro _; rfl) (hpl : ∀ env, (backTo pos (starEach es env)).any (·.1) = false := by intro _; rfl)
    (pl : Env → Sem Bool) (ht : ∀ env, eval (.Call (.Attribute o m apos) (e :: es) [] pos) env = (do
      let ov ← eval o env
      standAt apos.atName
      let (f, first) ← holding [ov] (getMethod ov m (pl env))
      callWith pos f first (backTo pos (starEach (e :: es) env)) (backToKw pos (keywordEach [] env))) := by intro _; rfl) : Snd G sc N (.Call (.Attribute o m apos) (e :: es) [] pos) (dMeth G.F mt m de das) := fun X W st tk =>
  ⟨fun pins s σ H Q I q => meth_run hM st tk ho I q (fun f n s1 H1 a hf I1 q1 hF hk => by
    refine PySem.W.callWith_K (first := [.ref a]) (h₀ := X.base) I1.ok.mod.kin hk (thn ((ha X W st tk).run pos pins s1 σ H1 _ I1 q1) fun us s2 ⟨vs, H2, I2, r, q2⟩ => ⟨I2.kIn, ?_⟩) (he X.env) (hpl X.env)
    exact call_run (us := .ref a :: us) (vs := .ref a :: vs) hF st tk I2 (.cons rfl r) q2) (ht X.env)⟩
theorem r_meth0 {mt : MTab} (hM : MIs G mt m) (ho : Snd G sc N o de) (pl : Env → Sem Bool) (ht : ∀ env, eval (.Call (.Attribute o m apos) [] [] pos) env = (do
      let ov ← eval o env
      standAt apos.atName
      let (f, first) ← holding [ov] (getMethod ov m (pl env))
      callWith pos f first (backTo pos (starEach [] env)) (backToKw pos (keywordEach [] env))) := by intro _; rfl) : Snd G sc N (.Call (.Attribute o m apos) [] [] pos) (dMeth G.F mt m de dNil) := fun X W st tk =>
  ⟨fun pins s σ H Q I q => meth_run hM st tk ho I q (fun f n s1 H1 a hf I1 q1 hF hk => by
    refine PySem.W.callWith_K0 (first := [.ref a]) I1.kIn hk (call_run (us := [.ref a]) (vs := [.ref a]) hF st tk I1 (.cons rfl .nil) ?_)
    exact ret_read (x := ([] : List A)) (rel := RelAs G) (Q := fun vs H2 => spOf G G.F f (.ref a :: vs) H2 Q (fun c dd H' => W c dd σ H')) q1 fun _ => .nil) (ht X.env)⟩

/-! ### attributes -/
def fldA (fl : Nat → List Str) (f : Str) (x : A) (S : Store) : Option A := match objOf x S with
  | some (_, c, fs) => if (fl c).contains f then fs.lookup f else none
  | none => none
/-- every attribute that an instance has is no name of its class -/
theorem r_fld {fl : Nat → List Str} (hC : ∀ c, ClsIs G c (fl c)) (hd : Snd G sc N e da) (hb : ∀ env, attributeBase e x env (eval e env) = eval e env := by intro _; rfl) : Snd G sc N (.Attribute e x pos) (dOp1 (fldA fl x) da) := fun X W st tk =>
  ⟨fun pins s σ H Q I q => (pe_fld (hd X W st tk) (hb X.env)).run pins s σ H Q I (tR.imp (op1_read q) fun v H1 ⟨μ, a, S, r, ss, ra, h, k⟩ => by
    unfold fldA at h
    split at h
    · rename_i n c fs eo
      obtain ⟨rfl, hc⟩ := objOf_some eo
      obtain ⟨p, hp, rfl⟩ := ra
      split at h
      · rename_i hf
        have hf : x ∈ fl c := by simpa using hf
        obtain ⟨p', hp', dx, gs, e1, e2⟩ := ss.cells _ _ hc
        rw [hp] at hp'; cases hp'
        obtain ⟨w', h1, h2⟩ := (lookup_rel e2 x).2 r h
        exact ⟨p, G.ca c, dx, gs, w', rfl, e1, by rw [st.K]; exact (hC c).cls x hf, by rw [st.K]; exact (hC c).no x hf, h1, k H1 _ (Same.refl _) h2⟩
      · cases h
    · cases h)⟩

/-! ### C(..) -/
def dMake (F : Fns) (c f : Nat) (das : DR (List A)) : DE := fun l S => (das l S).bind fun as S1 => (F f (.loc S1.length :: as) (S1 ++ [.ins c []])).bind fun r S2 => match r with
  | .d .none => .ok (.loc S1.length) S2
  | _ => .no
structure MkIs (G : Gl) (c f : Nat) (x : Str) : Prop where
  mks : Mk G.K (G.ca c) (G.fa f)
  mg : G.mg x = some (.ref (G.ca c))
  binds : Binds G.K (G.fd f) (G.ps f) []
  len : ∀ as S, G.Fm f as S = .no ∨ as.length = (G.ps f).length
  room : (∀ as S, G.Fm f as S = .no) ∨ ∃ j, G.k = j + 1 ∧ FnG G j G.Fm f
theorem make_run {c f : Nat} {X : Cx} {W : WX} (hM : MkIs G c f x) {pins : List (Addr × Obj)} {σ : L2.St} {H : Hp} {s : Shared} {Q : VK} {us : List Value} {vs : List V} (st : Stat G sc N X) (tk : Takes X W) (I : L2.Inv X pins σ H s) (r : Vals vs us)
    (h : ∀ x dx, H x = none → H dx = none → dx ≠ x → spOf G G.Fm f (.ref x :: vs) (upd (upd H dx (.own x)) x (.ins (G.ca c) dx [])) (fun v H2 => v = .non ∧ Q (.ref x) H2) (fun cl dd H' => W cl dd σ H')) :
    wpAny (model X.prog X.w) X.A (call (.ref (G.ca c)) us) (EP X pins σ Q) X.xe s := by
  have want := h (s.heap.objs.size + 1) s.heap.objs.size (I.hok.fresh (Nat.le_succ _)) (I.hok.fresh (Nat.le_refl _)) (Nat.ne_of_lt (Nat.lt_succ_self _))
  rcases hM.room with hno | ⟨j, ej, F⟩
  · obtain ⟨_, _, as, S, _, _, z⟩ := want
    rw [hno] at z
    exact z.elim
  unfold FnG at F
  rw [← st.prog, ← st.w, ← st.K, ← st.mg, ← st.base] at F
  have M := hM.mks
  rw [← st.K] at M
  have J := Inv.made (C := G.ca c) I
  have rs : Vals (V.ref (s.heap.objs.size + 1) :: vs) (Value.ref (s.heap.objs.size + 1) :: us) := .cons rfl r
  have ln : (Value.ref (s.heap.objs.size + 1) :: us).length = (G.ps f).length := rs.length.symm.trans want.1
  have bn := hM.binds _ (Value.ref (s.heap.objs.size + 1) :: us) (by rw [← st.K]; exact J.kIn) (by rw [List.append_nil]; exact ln)
  rw [List.append_nil] at bn
  have rm : Rm (j + 1) X.A := ej ▸ st.room
  refine wpAny_call (make_map I.kIn M.makes M.init (beq_iff_eq.mp M.fn) ?_)
  refine codeAny_mono (F.go _ X.stack _ _ ⟨_ :: us, []⟩ _ _ _ (fun cl dd H' => W cl dd σ H') (rm.made (G.ca c) us) (J.env0.make (G.ca c) us []) bn rs want) fun res s' hr => ?_
  cases res with
  | error err =>
    have ps : PassesAt (CXG G) X σ (WE W σ) := wx_pass st.here tk σ
    exact ps pins _ _ err s' J hr
  | ok fl =>
    cases fl with
    | ret u =>
      obtain ⟨v, H', J', rv, ev, fin⟩ := J.after hr
      cases ev
      exact ⟨rv, V.ref (s.heap.objs.size + 1), H', J', rfl, fin⟩
    | _ => exact False.elim hr
theorem make_read {c f : Nat} (hl : ∀ as S, G.Fm f as S = .no ∨ as.length = (G.ps f).length) {W : WX} {σ : L2.St} {H : Hp} {Q : VK} (q : tE G W (dMake G.Fm c f das) σ H Q) : tA G W das σ H fun vs H1 => ∀ x dx, H1 x = none → H1 dx = none → dx ≠ x →
    spOf G G.Fm f (.ref x :: vs) (upd (upd H1 dx (.own x)) x (.ins (G.ca c) dx [])) (fun v H2 => v = .non ∧ Q (.ref x) H2) (fun cl dd H' => W cl dd σ H') := by
  refine tR.imp (tR_one (rel1 := RelAs G) q) fun vs H1 ⟨μ, as, S, ss, ra, h⟩ x dx nx ndx ne => ?_
  have sm1 := same_new (o := HO.own x) ndx
  have nx' : upd H1 dx (.own x) x = none := by rw [upd_ne (Ne.symm ne)]; exact nx
  have sm2 := same_new (o := HO.ins (G.ca c) dx []) nx'
  have sm := sm1.trans sm2
  have g : Grow μ (μ ++ [x]) H1 (upd (upd H1 dx (.own x)) x (.ins (G.ca c) dx [])) := Grow.new nx sm
  have s2 : SimS G (μ ++ [x]) (S ++ [.ins c []]) (upd (upd H1 dx (.own x)) x (.ins (G.ca c) dx [])) := ss.new nx sm (by rw [upd_same]; simp) ⟨dx, [], upd_same, .nil⟩
  have rl : RelA G (μ ++ [x]) (upd (upd H1 dx (.own x)) x (.ins (G.ca c) dx [])) (.loc S.length) (.ref x) := ⟨x, by rw [List.getElem?_append_right (by rw [ss.len]; exact Nat.le_refl _)]; simp [ss.len], rfl⟩
  have rs : RelAs G (μ ++ [x]) (upd (upd H1 dx (.own x)) x (.ins (G.ca c) dx [])) (.loc S.length :: as) (.ref x :: vs) := .cons rl (ra.grow g)
  have h1 := Aft.bind (rel' := RelA G) (Aft.grow h g)
  rcases hl (.loc S.length :: as) (S ++ [.ins c []]) with e | e
  · rw [e] at h1; exact h1.elim
  · refine ⟨by rw [← Paired.length rs]; exact e, _, _, _, s2, rs, Aft.imp h1 fun v H2 _ ⟨a, μ2, S2, g2, ss2, r2, h2⟩ => ?_⟩
    split at h2
    · cases r2
      exact ⟨rfl, h2.here ss2 (rl.grow g2)⟩
    · exact h2.elim
theorem r_make {c f : Nat} (hM : MkIs G c f x) (hg : glB sc x = true) (ha : SndA G sc N (e :: es) das) (he : ∀ env, starEach (e :: es) env = (false, eval e env) :: starEach es env := by intro _; rfl) (hpl : ∀ env, (backTo pos (starEach es env)).any (·.1) = false := by intro _; rfl) :
    Snd G sc N (.Call (.Name x p) (e :: es) [] pos) (dMake G.Fm c f das) := fun X W st tk => by
  obtain ⟨g1, g2, g3⟩ := gl_of hg
  refine ⟨fun pins s σ H Q I q => ?_⟩
  refine wpAny_Call_Name_kw (ld_glob I (show X.env.scope.names.lookup x = _ by rw [st.scope]; exact g1) (by rw [st.mg]; exact hM.mg) ?_ g2)
  refine PySem.W.callWith_K (h₀ := X.base) I.ok.mod.kin (by rw [st.K]; exact hM.mks.kp) (thn ((ha X W st tk).run pos pins s σ H _ I (make_read hM.len q)) fun us s1 ⟨vs, H1, I1, r, q1⟩ => ⟨I1.kIn, ?_⟩) (he X.env) (hpl X.env)
  exact make_run hM st tk I1 r q1
theorem r_make0 {c f : Nat} (hM : MkIs G c f x) (hg : glB sc x = true) : Snd G sc N (.Call (.Name x p) [] [] pos) (dMake G.Fm c f dNil) := fun X W st tk => by
  obtain ⟨g1, g2, g3⟩ := gl_of hg
  refine ⟨fun pins s σ H Q I q => ?_⟩
  refine wpAny_Call_Name_kw (ld_glob I (show X.env.scope.names.lookup x = _ by rw [st.scope]; exact g1) (by rw [st.mg]; exact hM.mg) ?_ g2)
  refine PySem.W.callWith_K0 I.kIn (by rw [st.K]; exact hM.mks.kp) (make_run (us := []) (vs := []) hM st tk I .nil ?_)
  exact ret_read (x := ([] : List A)) (rel := RelAs G) (Q := fun vs H1 => ∀ x dx, H1 x = none → H1 dx = none → dx ≠ x → spOf G G.Fm f (.ref x :: vs) (upd (upd H1 dx (.own x)) x (.ins (G.ca c) dx [])) (fun v H2 => v = .non ∧ Q (.ref x) H2) (fun cl dd H' => W cl dd σ H')) (make_read hM.len q) fun _ => .nil
end
end Ev

/-! Ev7: locking, the lists of the store, statements, loops, a def's body. -/
namespace Ev
open PySem PySem.Spec PyProof.Rows L2

/-! ### locking a cell -/
def frzA (x : A) (S : Store) : Res A := match x with
  | .loc n => match S[n]? with
    | some (.lst xs) => match pures xs with
      | some ds => .ok (.d (.list ds)) (S.set n (.fzn (.list ds)))
      | none => .no
    | some (.fzn d) => .ok (.d d) S
    | some (.ins _ _) => .ok x S
    | _ => .no
  | _ => .ok x S
def dFrz (d : DE) : DE := fun l S => (d l S).bind frzA
section
variable {G : Gl} {sc : Scope} {N : List Str} {pos p apos : Pos} {e o : Expr} {es : List Expr} {da de : DE} {das : DR (List A)} {x m : Str}
theorem r_frz (h : Snd G sc N e de) : Snd G sc N e (dFrz de) := fun X W st tk => PE_ghost (h X W st tk) fun pins s σ H Q q => tR.imp (tR_one (rel1 := RelA G) q) fun v H1 ⟨μ, a, S, ss, ra, h1⟩ s' I => by
  unfold frzA at h1
  split at h1
  · rename_i n
    obtain ⟨b, hb, rfl⟩ := ra
    split at h1
    · rename_i xs hc
      split at h1
      · rename_i ds hp
        obtain ⟨b', hb', vs, e1, e2⟩ := ss.cells n _ hc
        rw [hb] at hb'; cases hb'
        obtain ⟨ob, I2⟩ := freezeL I e1
        have p1 : Pers H1 (upd H1 b (.frz ob (.lst vs))) := upd_pers (fun _ z => by rw [e1] at z; cases z) (fun _ _ z => by rw [e1] at z; cases z)
        have fz : DpF G.w G.K (upd H1 b (.frz ob (.lst vs))) (.ref b) (.list ds) := .lst (.inl ⟨ob, upd_same⟩) ((pures_some hp e2).mono p1)
        exact ⟨_, I2, h1 μ _ _ (Grow.set hb p1) (ss.set hb p1 fz) fz⟩
      · exact h1.elim
    · rename_i d hc
      obtain ⟨b', hb', e1⟩ := ss.cells n _ hc
      rw [hb] at hb'; cases hb'
      exact ⟨_, I, h1.here ss e1⟩
    · exact ⟨_, I, h1.here ss ⟨b, hb, rfl⟩⟩
    · exact h1.elim
  · exact ⟨_, I, h1.here ss ra⟩

/-! ### methods of lists -/
def lstOf (x : A) (S : Store) : Option (Nat × List A) := match x with
  | .loc n => match S[n]? with
    | some (.lst xs) => some (n, xs)
    | _ => none
  | _ => none
theorem lstOf_some {x : A} {S : Store} {n : Nat} {xs : List A} (h : lstOf x S = some (n, xs)) : x = .loc n ∧ S[n]? = some (.lst xs) := by
  unfold lstOf at h
  split at h
  · split at h
    · rename_i e
      simp only [Option.some.injEq, Prod.mk.injEq] at h
      obtain ⟨rfl, rfl⟩ := h
      exact ⟨rfl, e⟩
    · cases h
  · cases h
theorem cell_lst {μ : List Addr} {S : Store} {H : Hp} (ss : SimS G μ S H) {a : A} {v : V} {n : Nat} {xs : List A} (ra : RelA G μ H a v) (h : lstOf a S = some (n, xs)) : ∃ b vs, μ[n]? = some b ∧ v = .ref b ∧ H b = some (.lst vs) ∧ RelAs G μ H xs vs := by
  obtain ⟨rfl, hc⟩ := lstOf_some h
  obtain ⟨b, hb, rfl⟩ := ra
  obtain ⟨b', hb', vs, e1, e2⟩ := ss.cells n _ hc
  rw [hb] at hb'; cases hb'
  exact ⟨b, vs, hb, rfl, e1, e2⟩
theorem cell_write {μ : List Addr} {S : Store} {H : Hp} (ss : SimS G μ S H) {n : Nat} {b : Addr} {vs ws : List V} {ys : List A} (hb : μ[n]? = some b) (e1 : H b = some (.lst vs)) (r : RelAs G μ H ys ws) :
    Grow μ μ H (upd H b (.lst ws)) ∧ SimS G μ (S.set n (.lst ys)) (upd H b (.lst ws)) := by
  have p1 : Pers H (upd H b (.lst ws)) := upd_pers (fun _ z => by rw [e1] at z; cases z) (fun _ _ z => by rw [e1] at z; cases z)
  have g : Grow μ μ H (upd H b (.lst ws)) := Grow.set hb p1
  exact ⟨g, ss.set hb p1 ⟨ws, upd_same, r.grow g⟩⟩
def dAppend (d da : DE) : DE := fun l S => (d l S).bind fun x S1 => match lstOf x S1 with
  | some (n, _) => (da l S1).bind fun y S2 => match lstOf (.loc n) S2 with
    | some (n, xs) => if xs.length < 16777216 then .ok (.d .none) (S2.set n (.lst (xs ++ [y]))) else .no
    | none => .no
  | none => .no
theorem RelAs.snoc {μ : List Addr} {H : Hp} {as : List A} {vs : List V} {a : A} {v : V} (h : RelAs G μ H as vs) (r : RelA G μ H a v) : RelAs G μ H (as ++ [a]) (vs ++ [v]) := Paired.snoc h r
theorem r_append (ho : Snd G sc N o de) (ha : Snd G sc N e da) (hbase : ∀ env, attributeBase o "append" env (eval o env) = eval o env := by intro _; rfl)
    (hs : ∀ env, starEach [e] env = (false, eval e env) :: starEach [] env := by intro _; rfl) (hline : (apos.endLine == pos.line) = true := by rfl) : Snd G sc N (.Call (.Attribute o "append" apos) [e] [] pos) (dAppend de da) := fun X W st tk =>
  ⟨fun pins s σ H Q I q => (pe_bm PySem.F.plainAttrs_list PySem.F.slot_list_append PySem.F.type_list_append mt_append (ho X W st tk) (pa_cons (ha X W st tk) pa_nil (hs X.env)) (hbase X.env) (by rw [hs X.env]; rfl) hline (hs X.env)).run pins s σ H Q I (by
    obtain ⟨μ, l, S, ss, sl, q⟩ := q
    refine ⟨μ, l, S, ss, sl, Aft.imp (Aft.bind (rel' := RelA G) q) fun v H1 _ ⟨a, μ1, S1, g1, s1, ra, h1⟩ => ?_⟩
    split at h1
    · rename_i n xs0 el
      obtain ⟨b, vs, hb, rfl, e1, _⟩ := cell_lst s1 ra el
      refine ⟨.inl ⟨rfl, _, .inl (.inl e1)⟩, ?_⟩
      refine ⟨μ1, l, S1, s1, sl.grow g1, Aft.imp (Aft.bind (rel' := RelA G) h1) fun u H2 _ ⟨y, μ2, S2, g2, s2, ry, h2⟩ => ?_⟩
      split at h2
      · rename_i n' xs el2
        split at h2
        · rename_i hz
          have rl : RelA G μ2 H2 (.loc n) (.ref b) := (show RelA G μ1 H1 (.loc n) (.ref b) from ⟨b, hb, rfl⟩).grow g2
          obtain ⟨b', vs', hb', eb, e3, e4⟩ := cell_lst s2 rl el2
          cases eb
          obtain ⟨g3, s3⟩ := cell_write s2 hb' e3 (RelAs.snoc e4 ry)
          exact ⟨b, vs', u, rfl, rfl, e3, by rw [← Paired.length e4, line_eq]; exact hz, h2 _ _ _ g3 s3 .non⟩
        · exact h2.elim
      · exact h2.elim
    · exact h1.elim)⟩
def dPop (d : DE) : DE := fun l S => (d l S).bind fun x S1 => match lstOf x S1 with
  | some (n, xs) => match xs[xs.length - 1]? with
    | some y => .ok y (S1.set n (.lst xs.dropLast))
    | none => .no
  | none => .no
theorem paired_get2 {α β : Type} {R : α → β → Prop} {l₁ : List α} {l₂ : List β} (h : Paired R l₁ l₂) : ∀ {i : Nat} {a : α}, l₁[i]? = some a → ∃ b, l₂[i]? = some b ∧ R a b := paired_get h
theorem paired_dropLast {α β : Type} {R : α → β → Prop} : ∀ {l₁ : List α} {l₂ : List β}, Paired R l₁ l₂ → Paired R l₁.dropLast l₂.dropLast
  | _, _, .nil => .nil
  | _, _, .cons a .nil => .nil
  | _, _, .cons a (.cons b t) => .cons a (paired_dropLast (.cons b t))
theorem paired_reverse {α β : Type} {R : α → β → Prop} : ∀ {l₁ : List α} {l₂ : List β}, Paired R l₁ l₂ → Paired R l₁.reverse l₂.reverse
  | _, _, .nil => .nil
  | _, _, .cons a t => by rw [List.reverse_cons, List.reverse_cons]; exact Paired.snoc (paired_reverse t) a
theorem r_pop (ho : Snd G sc N o de) (hbase : ∀ env, attributeBase o "pop" env (eval o env) = eval o env := by intro _; rfl) (hline : (apos.endLine == pos.line) = true := by rfl) : Snd G sc N (.Call (.Attribute o "pop" apos) [] [] pos) (dPop de) := fun X W st tk =>
  ⟨fun pins s σ H Q I q => (pe_bm0 PySem.F.plainAttrs_list PySem.F.slot_list_pop PySem.F.type_list_pop mt_pop (ho X W st tk) (hbase X.env) hline).run pins s σ H Q I (tR.imp (tR_one (rel1 := RelA G) q) fun v H1 ⟨μ, a, S, ss, ra, h⟩ => by
    split at h
    · rename_i n xs el
      split at h
      · rename_i y hy
        obtain ⟨b, vs, hb, rfl, e1, e2⟩ := cell_lst ss ra el
        obtain ⟨yv, h1, h2⟩ := paired_get2 e2 hy
        obtain ⟨g3, s3⟩ := cell_write ss hb e1 (paired_dropLast e2)
        exact ⟨.inl ⟨rfl, _, .inl (.inl e1)⟩, b, vs, yv, rfl, rfl, e1, by rw [← Paired.length e2]; exact h1, h _ _ _ g3 s3 (h2.grow g3)⟩
      · exact h.elim
    · exact h.elim)⟩
def dReverse (d : DE) : DE := fun l S => (d l S).bind fun x S1 => match lstOf x S1 with
  | some (n, xs) => .ok (.d .none) (S1.set n (.lst xs.reverse))
  | none => .no
theorem r_reverse (ho : Snd G sc N o de) (hbase : ∀ env, attributeBase o "reverse" env (eval o env) = eval o env := by intro _; rfl) (hline : (apos.endLine == pos.line) = true := by rfl) : Snd G sc N (.Call (.Attribute o "reverse" apos) [] [] pos) (dReverse de) := fun X W st tk =>
  ⟨fun pins s σ H Q I q => (pe_bm0 PySem.F.plainAttrs_list PySem.F.slot_list_reverse PySem.F.type_list_reverse mt_reverse (ho X W st tk) (hbase X.env) hline).run pins s σ H Q I (tR.imp (tR_one (rel1 := RelA G) q) fun v H1 ⟨μ, a, S, ss, ra, h⟩ => by
    split at h
    · rename_i n xs el
      obtain ⟨b, vs, hb, rfl, e1, e2⟩ := cell_lst ss ra el
      obtain ⟨g3, s3⟩ := cell_write ss hb e1 (paired_reverse e2)
      exact ⟨.inl ⟨rfl, _, .inl (.inl e1)⟩, b, vs, rfl, rfl, e1, h _ _ _ g3 s3 .non⟩
    · exact h.elim)⟩
end

/-! ### statements -/
inductive RS where
  | nx (l : Loc) (S : Store)
  | rt (a : A) (S : Store)
  | bk (l : Loc) (S : Store)
  | exc (x : Exn) (l : Loc) (S : Store)
  | no
abbrev DS := Loc → Store → RS
def AftS (G : Gl) (W : WX) (D : Ends) (μ : List Addr) (H : Hp) : RS → Prop
  | .nx l' S' => ∀ μ' H' σ', Grow μ μ' H H' → SimS G μ' S' H' → SimL G μ' H' l' σ' → D.nx σ' H'
  | .rt a S' => ∀ μ' H' v, Grow μ μ' H H' → SimS G μ' S' H' → RelA G μ' H' a v → D.rt v H'
  | .bk l' S' => ∀ μ' H' σ', Grow μ μ' H H' → SimS G μ' S' H' → SimL G μ' H' l' σ' → D.bk σ' H'
  | .exc x l' S' => ∀ μ' H' σ' c dd, Grow μ μ' H H' → SimS G μ' S' H' → SimL G μ' H' l' σ' → ExnRel G H' x c dd → W c dd σ' H'
  | .no => False
def tS (G : Gl) (W : WX) (ds : DS) : TS := fun D σ H => ∃ μ l S, SimS G μ S H ∧ SimL G μ H l σ ∧ AftS G W D μ H (ds l S)
/-- where statements stand -/
structure StatS (G : Gl) (sc : Scope) (N : List Str) (X : Cx) : Prop extends Stat G sc N X where
  own : PassesOwn (model X.prog X.w) X.A X.env X.xe
  fn : ∀ x, X.fn x = true
  frm : X.stack = X.env :: X.outer ∧ X.env.frame = some X.env.locals
def SndS (G : Gl) (sc : Scope) (N : List Str) (s : Stmt) (ds : DS) : Prop := ∀ X W, StatS G sc N X → Takes X W → PS X s (tS G W ds)
def SndSs (G : Gl) (sc : Scope) (N : List Str) (s : List Stmt) (ds : DS) : Prop := ∀ X W, StatS G sc N X → Takes X W → PSs X s (tS G W ds)
theorem AftS.grow {G : Gl} {W : WX} {D : Ends} {μ μ1 : List Addr} {H H1 : Hp} {r : RS} (h : AftS G W D μ H r) (g : Grow μ μ1 H H1) : AftS G W D μ1 H1 r := by
  cases r with
  | nx l S => exact fun μ' H' σ' g' => h μ' H' σ' (g.trans g')
  | rt a S => exact fun μ' H' v g' => h μ' H' v (g.trans g')
  | bk l S => exact fun μ' H' σ' g' => h μ' H' σ' (g.trans g')
  | exc x l S => exact fun μ' H' σ' c dd g' => h μ' H' σ' c dd (g.trans g')
  | no => exact h
/-- an expression's result, then a statement's -/
def Res.thenS {α : Type} (r : Res α) (l : Loc) (k : α → Store → RS) : RS := match r with
  | .ok a S => k a S
  | .exc x S => .exc x l S
  | .no => .no
@[simp] theorem Res.ok_thenS {α : Type} (a : α) (S : Store) (l : Loc) (k : α → Store → RS) : (Res.ok a S).thenS l k = k a S := rfl
@[simp] theorem Res.exc_thenS {α : Type} (x : Exn) (S : Store) (l : Loc) (k : α → Store → RS) : (Res.exc x S : Res α).thenS l k = .exc x l S := rfl
@[simp] theorem Res.no_thenS {α : Type} (l : Loc) (k : α → Store → RS) : (Res.no : Res α).thenS l k = .no := rfl
section
variable {G : Gl} {sc : Scope} {N : List Str} {pos p : Pos} {e : Expr} {es : List Expr} {da de : DE} {das : DR (List A)} {x : Str} {st : Stmt} {rest : List Stmt} {a b : DS}
theorem then_read {α β : Type} {rel : List Addr → Hp → α → β → Prop} {W : WX} {σ : L2.St} {H : Hp} {D : Ends} {de : DR α} {k : α → Loc → Store → RS} (h : tS G W (fun l S => (de l S).thenS l fun a S1 => k a l S1) D σ H) :
    tR G W rel de σ H fun v H1 => ∃ μ1 l a S1, SimS G μ1 S1 H1 ∧ SimL G μ1 H1 l σ ∧ rel μ1 H1 a v ∧ AftS G W D μ1 H1 (k a l S1) := by
  obtain ⟨μ, l, S, ss, sl, h⟩ := h
  refine ⟨μ, l, S, ss, sl, ?_⟩
  have h : AftS G W D μ H ((de l S).thenS l fun a S1 => k a l S1) := h
  cases q : de l S with
  | ok a S1 =>
    rw [q] at h
    exact fun μ1 H1 v g s1 r1 => ⟨μ1, l, a, S1, s1, sl.grow g, r1, AftS.grow (r := k a l S1) h g⟩
  | exc x S1 =>
    rw [q] at h
    exact fun μ1 H1 c dd g s1 r1 => h μ1 H1 σ c dd g s1 (sl.grow g) r1
  | no => rw [q] at h; exact h
def dSkip : DS := fun l S => .nx l S
def dSeq (a b : DS) : DS := fun l S => match a l S with
  | .nx l' S' => b l' S'
  | r => r
theorem r_nil : SndSs G sc N [] dSkip := fun X W st tk => ⟨fun pins s σ H D I ⟨μ, l, S, ss, sl, h⟩ => pss_nil.run pins s σ H D I (h μ H σ Grow.refl ss sl)⟩
theorem seq_read {W : WX} {σ : L2.St} {H : Hp} {D : Ends} (h : tS G W (dSeq a b) D σ H) : tS G W a { D with nx := tS G W b D } σ H := by
  obtain ⟨μ, l, S, ss, sl, h⟩ := h
  refine ⟨μ, l, S, ss, sl, ?_⟩
  unfold dSeq at h
  cases q : a l S with
  | nx l' S' =>
    rw [q] at h
    exact fun μ' H' σ' g s1 sl1 => ⟨μ', l', S', s1, sl1, AftS.grow (r := b l' S') h g⟩
  | rt v S' => rw [q] at h; exact h
  | bk l' S' => rw [q] at h; exact h
  | exc x l' S' => rw [q] at h; exact h
  | no => rw [q] at h; exact h
theorem r_cons (h1 : SndS G sc N st a) (h2 : SndSs G sc N rest b) : SndSs G sc N (st :: rest) (dSeq a b) := fun X W s tk =>
  ⟨fun pins ss σ H D I h => (pss_cons (h1 X W s tk) (h2 X W s tk)).run pins ss σ H D I (seq_read h)⟩
theorem r_last (h1 : SndS G sc N st a) : SndSs G sc N [st] a := fun X W s tk => pss_one (h1 X W s tk)
theorem r_pass : SndS G sc N (.Pass pos) dSkip := fun X W st tk => ⟨fun pins s σ H D I ⟨μ, l, S, ss, sl, h⟩ => ps_pass.run pins s σ H D I (h μ H σ Grow.refl ss sl)⟩
def dBreak : DS := fun l S => .bk l S
theorem r_break : SndS G sc N (.Break pos) dBreak := fun X W st tk => ⟨fun pins s σ H D I ⟨μ, l, S, ss, sl, h⟩ => ps_break.run pins s σ H D I (h μ H σ Grow.refl ss sl)⟩
def dRet (d : DE) : DS := fun l S => (d l S).thenS l fun a S1 => .rt a S1
theorem r_ret (h : Snd G sc N e de) : SndS G sc N (.Return (some e) pos) (dRet de) := fun X W st tk =>
  ⟨fun pins s σ H D I q => (ps_ret (h X W st.toStat tk)).run pins s σ H D I (tR.imp (then_read (k := fun a _ S1 => .rt a S1) (rel := RelA G) q) fun v H1 ⟨μ1, l, a, S1, s1, sl1, r1, h1⟩ => h1 μ1 H1 v Grow.refl s1 r1)⟩
def dRetN : DS := fun _ S => .rt (.d .none) S
theorem r_retN : SndS G sc N (.Return none pos) dRetN := fun X W st tk => ⟨fun pins s σ H D I ⟨μ, l, S, ss, sl, h⟩ => ps_retN.run pins s σ H D I (h μ H .non Grow.refl ss .non)⟩
def dExpr (d : DE) : DS := fun l S => (d l S).thenS l fun _ S1 => .nx l S1
theorem r_expr (h : Snd G sc N e de) (hs : ∀ env, swapsWith e none pos.line env = pure false := by intro _; rfl) : SndS G sc N (.Expr e pos) (dExpr de) := fun X W st tk =>
  ⟨fun pins s σ H D I q => (ps_expr (h X W st.toStat tk) (hs X.env)).run pins s σ H D I (tR.imp (then_read (k := fun _ l S1 => .nx l S1) (rel := RelA G) q) fun v H1 ⟨μ1, l, a, S1, s1, sl1, r1, h1⟩ => h1 μ1 H1 σ Grow.refl s1 sl1)⟩
def dIte (t : DR Bool) (a b : DS) : DS := fun l S => (t l S).thenS l fun c S1 => if c = true then a l S1 else b l S1
theorem r_if {c : Expr} {t : DR Bool} {as bs : List Stmt} (hc : SndT G sc N c t) (ha : SndSs G sc N as a) (hb : SndSs G sc N bs b) : SndS G sc N (.If c as bs pos) (dIte t a b) := fun X W st tk =>
  ⟨fun pins s σ H D I q => (ps_if (hc X W st.toStat tk) (ha X W st tk) (hb X W st tk)).run pins s σ H D I (tR.imp (then_read (k := fun c l S1 => if c = true then a l S1 else b l S1) (rel := relB) q) fun v H1 ⟨μ1, l, c', S1, s1, sl1, r1, h1⟩ => by
    have r1 : c' = v := r1
    subst r1
    cases c' with
    | true => exact ⟨μ1, l, S1, s1, sl1, h1⟩
    | false => exact ⟨μ1, l, S1, s1, sl1, h1⟩)⟩

/-! ### targets -/
abbrev DG := A → Loc → Option Loc
/-- no other slots than those at is have changed -/
def Chg (is : List Nat) (σ σ' : L2.St) : Prop := σ'.length = σ.length ∧ ∀ j : Nat, j ∉ is → σ'[j]? = σ[j]?
theorem Chg.refl {is : List Nat} {σ : L2.St} : Chg is σ σ := ⟨rfl, fun _ _ => rfl⟩
theorem Chg.app {is js : List Nat} {σ σ1 σ2 : L2.St} (a : Chg is σ σ1) (b : Chg js σ1 σ2) : Chg (is ++ js) σ σ2 := ⟨b.1.trans a.1, fun j hj => (b.2 j fun z => hj (List.mem_append_right _ z)).trans (a.2 j fun z => hj (List.mem_append_left _ z))⟩
def tG (G : Gl) (is : List Nat) (g : DG) : TG := fun v σ H Q => ∃ μ a l l' S, SimS G μ S H ∧ SimL G μ H l σ ∧ RelA G μ H a v ∧ g a l = some l' ∧ ∀ H' σ', Same H H' → SimL G μ H' l' σ' → Chg is σ σ' → Q σ' H'
/-- the names xs may be stored here -/
def GF (X : Cx) (xs : List Str) : Prop := ∀ x ∈ xs, X.fn x = true ∨ X.env.scope.names.lookup x = some .local
def SndG (G : Gl) (sc : Scope) (N : List Str) (xs : List Str) (is : List Nat) (tg : Expr) (g : DG) : Prop := ∀ X, Stat G sc N X → GF X xs → PG X tg (tG G is g)
def gN (i : Nat) : DG := fun a l => if i < l.length then some (l.set i (some a)) else none
theorem SimL.set {μ : List Addr} {H : Hp} {l : Loc} {σ : L2.St} {i : Nat} {a : A} {v : V} (s : SimL G μ H l σ) (r : RelA G μ H a v) : SimL G μ H (l.set i (some a)) (σ.set i (some v)) := by
  refine ⟨by rw [List.length_set, List.length_set]; exact s.len, fun j b h => ?_⟩
  by_cases hj : i = j
  · subst hj
    by_cases hi : i < l.length
    · rw [List.getElem?_set_self hi] at h
      cases h
      exact ⟨v, by rw [List.getElem?_set_self (by rw [← s.len]; exact hi)], r⟩
    · rw [List.getElem?_eq_none (by rw [List.length_set]; omega)] at h; cases h
  · rw [List.getElem?_set_ne hj] at h
    obtain ⟨w', h1, h2⟩ := s.at_ j b h
    exact ⟨w', by rw [List.getElem?_set_ne hj]; exact h1, h2⟩
def locB (sc : Scope) (x : Str) : Bool := sc.names.lookup x == some .local || sc.names.lookup x == some .cell
theorem loc_of {sc : Scope} {x : Str} (h : locB sc x = true) : L2.Loc sc x := by
  unfold locB at h
  simp only [Bool.or_eq_true, beq_iff_eq] at h
  exact h
theorem g_name {i : Nat} (hi : N[i]? = some x) (hx : locB sc x = true) : SndG G sc N [x] [i] (.Name x pos) (gN i) := fun X st hf =>
  ⟨fun pins s σ H v u Q I r ⟨μ, a, l, l', S, ss, sl, ra, hg, q⟩ => (pg_name (X := X) (i := i) (by rw [st.names]; exact st.nd) (by rw [st.names]; exact hi) (by rw [st.scope]; exact loc_of hx) (hf x (by simp))).run pins s σ H v u Q I r (by
    unfold gN at hg
    split at hg
    · cases hg; exact q H _ (Same.refl _) (sl.set ra) ⟨by rw [List.length_set], fun j hj => List.getElem?_set_ne (fun z => hj (by simp [z]))⟩
    · cases hg)⟩
/-- several targets, from plain data -/
def gAll : List DG → List D → Loc → Option Loc
  | [], [], l => some l
  | g :: gs, d :: ds, l => (g (.d d) l).bind (gAll gs ds)
  | _, _, _ => none
def tGs (G : Gl) (is : List Nat) (gs : List DG) : TGs := fun vs σ H Q => ∃ μ ds l l' S, SimS G μ S H ∧ SimL G μ H l σ ∧ DpFs G.w G.K H vs ds ∧ gAll gs ds l = some l' ∧ ∀ H' σ', Same H H' → SimL G μ H' l' σ' → Chg is σ σ' → Q σ' H'
def SndGs (G : Gl) (sc : Scope) (N : List Str) (xs : List Str) (is : List Nat) (tgs : List Expr) (gs : List DG) : Prop := ∀ X, Stat G sc N X → GF X xs → PGs X tgs (tGs G is gs)
theorem g_nil : SndGs G sc N [] [] [] [] := fun X st hf => ⟨fun pins s σ H vs us Q I r ⟨μ, ds, l, l', S, ss, sl, ra, hg, q⟩ => by
  cases ds with
  | nil => cases ra; cases hg; exact pgs_nil.run pins s σ H [] us Q I r ⟨rfl, q H σ (Same.refl _) sl Chg.refl⟩
  | cons d ds => simp [gAll] at hg⟩
theorem g_cons {tg : Expr} {tgs : List Expr} {g : DG} {gs : List DG} {xs ys : List Str} {is js : List Nat} (h1 : SndG G sc N xs is tg g) (h2 : SndGs G sc N ys js tgs gs) (hs : ∀ env, (assignEach (tg :: tgs) env).map (·.2) = assign tg env :: (assignEach tgs env).map (·.2) := by intro _; rfl) : SndGs G sc N (xs ++ ys) (is ++ js) (tg :: tgs) (g :: gs) := fun X st hf =>
  ⟨fun pins s σ H vs us Q I r ⟨μ, ds, l, l', S, ss, sl, ra, hg, q⟩ => by
    cases ds with
    | nil => simp [gAll] at hg
    | cons d ds =>
      cases ra with
      | cons r1 r2 =>
        simp only [gAll, Option.bind_eq_some_iff] at hg
        obtain ⟨l1, e1, e2⟩ := hg
        refine (pgs_cons (h1 X st fun x h => hf x (List.mem_append_left _ h)) (h2 X st fun x h => hf x (List.mem_append_right _ h)) (hs X.env)).run pins s σ H _ us Q I r ⟨_, _, rfl, μ, .d d, l, l1, S, ss, sl, r1, e1, fun H' σ' sm sl1 c1 => ?_⟩
        exact ⟨μ, ds, l1, l', S, ss.same sm, sl1, r2.mono (Pers.of sm), e2, fun H2 σ2 sm2 sl2 c2 => q H2 σ2 (sm.trans sm2) sl2 (c1.app c2)⟩⟩
def gTup (gs : List DG) : DG := fun a l => match a with
  | .d (.tuple ds) => gAll gs ds l
  | _ => none
theorem gAll_len : ∀ {gs : List DG} {ds : List D} {l l' : Loc}, gAll gs ds l = some l' → gs.length = ds.length
  | [], [], _, _, _ => rfl
  | [], _ :: _, _, _, h => by simp [gAll] at h
  | _ :: _, [], _, _, h => by simp [gAll] at h
  | g :: gs, d :: ds, l, l', h => by
    simp only [gAll, Option.bind_eq_some_iff] at h
    obtain ⟨l1, _, e⟩ := h
    rw [List.length_cons, List.length_cons, gAll_len e]
theorem g_tup {tgs : List Expr} {k : Nat} {gs : List DG} {xs : List Str} {is : List Nat} (h : SndGs G sc N xs is tgs gs) (hn : ∀ env, (assignEach tgs env).length = gs.length := by intro _; rfl) (hst : ∀ env, (assignEach tgs env).findIdx? (·.1) = none := by intro _; rfl) : SndG G sc N xs is (.Tuple tgs k pos) (gTup gs) := fun X st hf =>
  ⟨fun pins s σ H v u Q I r ⟨μ, a, l, l', S, ss, sl, ra, hg, q⟩ => (pg_tup st.calm (h X st hf) (hn X.env) (hst X.env)).run pins s σ H v u Q I r (by
    unfold gTup at hg
    split at hg
    · rename_i ds
      cases ra with
      | tup ha rd => exact ⟨_, _, rfl, by rw [st.K]; exact ha, by rw [rd.length]; exact (gAll_len hg).symm, μ, ds, l, l', S, ss, sl, rd, hg, q⟩
    · cases hg)⟩
theorem StatS.gf {X : Cx} (st : StatS G sc N X) (xs : List Str) : GF X xs := fun x _ => .inl (st.fn x)
def dAsg (g : DG) (d : DE) : DS := fun l S => (d l S).thenS l fun a S1 => match g a l with
  | some l' => .nx l' S1
  | none => .no
theorem asg_read {W : WX} {σ : L2.St} {H : Hp} {D : Ends} {g : DG} {is : List Nat} (h : tS G W (dAsg g de) D σ H) : tAsg (tE G W de) (tG G is g) D σ H := by
  refine tR.imp (then_read (k := fun a l S1 => match g a l with | some l' => .nx l' S1 | none => .no) (rel := RelA G) h) fun v H1 ⟨μ1, l, a, S1, s1, sl1, r1, h1⟩ => ?_
  split at h1
  · rename_i l' e
    exact ⟨μ1, a, l, l', S1, s1, sl1, r1, e, fun H' σ' sm sl' _ => h1 μ1 H' σ' (Grow.same sm) (s1.same sm) sl'⟩
  · exact h1.elim
theorem r_asg {tg : Expr} {g : DG} {xs : List Str} {is : List Nat} (he : Snd G sc N e de) (hg : SndG G sc N xs is tg g) (hs : ∀ env, swapsWithSole [tg] e pos.line env = pure false := by intro _; rfl) (hw : ∀ env, swappedStores [tg] e env = pure none := by intro _; rfl)
    (h1 : ∀ env, (assignEach [tg] env).map (·.2) = [assign tg env] := by intro _; rfl) : SndS G sc N (.Assign [tg] e pos) (dAsg g de) := fun X W st tk =>
  ⟨fun pins s σ H D I q => (ps_asg (he X W st.toStat tk) (hg X st.toStat (st.gf xs)) (hs X.env) (hw X.env) (h1 X.env)).run pins s σ H D I (asg_read q)⟩
theorem gN_read {W : WX} {σ : L2.St} {H : Hp} {D : Ends} {i : Nat} (h : tS G W (dAsg (gN i) de) D σ H) : tAsg (tE G W de) (gName i) D σ H :=
  tR.imp (asg_read (is := [i]) h) fun v H1 ⟨μ, a, l, l', S, ss, sl, ra, hg, q⟩ => by
    unfold gN at hg
    split at hg
    · cases hg; exact q H1 _ (Same.refl _) (sl.set ra) ⟨by rw [List.length_set], fun j hj => List.getElem?_set_ne (fun z => hj (by simp [z]))⟩
    · cases hg
theorem r_set {i : Nat} {p' : Pos} (hi : N[i]? = some x) (hx : locB sc x = true) (he : Snd G sc N e de) (hs : ∀ env, swapsWith e (some (.Name x p')) pos.line env = pure false := by intro _; rfl) : SndS G sc N (.Assign [.Name x p'] e pos) (dAsg (gN i) de) := fun X W st tk =>
  ⟨fun pins s σ H D I q => (ps_set (X := X) (i := i) (by rw [st.names]; exact st.nd) (by rw [st.names]; exact hi) (by rw [st.scope]; exact loc_of hx) (he X W st.toStat tk) (hs X.env) (.inl (st.fn x))).run pins s σ H D I (gN_read q)⟩
/-- o.f = e -/
def setF {α : Type} (f : Str) (a : α) : List (Str × α) → List (Str × α)
  | [] => [(f, a)]
  | (g, b) :: r => if g = f then (g, a) :: r else (g, b) :: setF f a r
theorem setF_rel {μ : List Addr} {H : Hp} {a : A} {v : V} (r : RelA G μ H a v) (f : Str) : ∀ {fs : List (Str × A)} {gs : List (Str × V)}, Paired (fun (p : Str × A) (q : Str × V) => p.1 = q.1 ∧ RelA G μ H p.2 q.2) fs gs → Paired (fun (p : Str × A) (q : Str × V) => p.1 = q.1 ∧ RelA G μ H p.2 q.2) (setF f a fs) (putF f v gs)
  | [], _, .nil => .cons ⟨rfl, r⟩ .nil
  | (k, b) :: fs, (k', w') :: gs, .cons q t => by
    obtain ⟨q1, q2⟩ := q
    have q1 : k = k' := q1
    subst q1
    unfold setF putF
    by_cases h : k = f
    · rw [if_pos h, if_pos h]; exact .cons ⟨rfl, r⟩ t
    · rw [if_neg h, if_neg h]; exact .cons ⟨rfl, q2⟩ (setF_rel r f t)
def dSetF (fl : Nat → List Str) (f : Str) (d dv : DE) : DS := fun l S => (dv l S).thenS l fun a S1 => (d l S1).thenS l fun x S2 => match objOf x S2 with
  | some (n, c, fs) => if (fl c).contains f && decide (fs.length < 1000) then .nx l (S2.set n (.ins c (setF f a fs))) else .no
  | none => .no
theorem r_setF {o : Expr} {f : Str} {p' : Pos} {fl : Nat → List Str} (hC : ∀ c, ClsIs G c (fl c)) (ho : Snd G sc N o da) (he : Snd G sc N e de) (hs : ∀ env, swapsWith e (some (.Attribute o f p')) pos.line env = pure false := by intro _; rfl) : SndS G sc N (.Assign [.Attribute o f p'] e pos) (dSetF fl f da de) := fun X W st tk =>
  ⟨fun pins s σ H D I q => (ps_fld (ho X W st.toStat tk) (he X W st.toStat tk) (hs X.env)).run pins s σ H D I (by
    obtain ⟨μ, l, S, ss, sl, q⟩ := q
    refine ⟨μ, l, S, ss, sl, ?_⟩
    cases e1 : de l S with
    | no => rw [dSetF, e1] at q; exact q
    | exc x S1 => rw [dSetF, e1] at q; exact fun μ1 H1 c dd g s1 r1 => q μ1 H1 σ c dd g s1 (sl.grow g) r1
    | ok a S1 =>
      rw [dSetF, e1] at q
      refine fun μ1 H1 v g1 s1 r1 => ⟨μ1, l, S1, s1, sl.grow g1, ?_⟩
      replace q := AftS.grow q g1
      rw [Res.ok_thenS] at q
      cases e2 : da l S1 with
      | no => rw [e2] at q; exact q
      | exc x S2 => rw [e2] at q; exact fun μ2 H2 c dd g s2 r2 => q μ2 H2 σ c dd g s2 ((sl.grow g1).grow g) r2
      | ok y S2 =>
        rw [e2, Res.ok_thenS] at q
        refine fun μ2 H2 u g2 s2 r2 => ?_
        replace q := AftS.grow q g2
        replace r1 := r1.grow g2
        split at q
        · rename_i n c fs eo
          split at q
          · rename_i hf
            simp only [Bool.and_eq_true, List.contains_eq_mem, decide_eq_true_eq] at hf
            obtain ⟨rfl, hc⟩ := objOf_some eo
            obtain ⟨b, hb, rfl⟩ := r2
            obtain ⟨b', hb', dx, gs, k1, k2⟩ := s2.cells _ _ hc
            rw [hb] at hb'; cases hb'
            have p1 : Pers H2 (upd H2 b (.ins (G.ca c) dx (putF f v gs))) := upd_pers (fun _ z => by rw [k1] at z; cases z) (fun _ _ z => by rw [k1] at z; cases z)
            have g3 : Grow μ2 μ2 H2 (upd H2 b (.ins (G.ca c) dx (putF f v gs))) := Grow.set hb p1
            refine ⟨b, G.ca c, dx, gs, rfl, k1, by rw [st.K]; exact (hC c).cls f hf.1, by rw [st.K]; exact (hC c).no f hf.1, by rw [← Paired.length k2]; exact hf.2, ?_⟩
            exact q μ2 _ σ g3 (s2.set hb p1 ⟨dx, _, upd_same, Paired.mapP (setF_rel r1 f k2) fun p q z => ⟨z.1, z.2.grow g3⟩⟩) (((sl.grow g1).grow g2).grow g3)
          · exact q.elim
        · exact q.elim)⟩
end
end Ev

/-! Ev8: for, while, a def's body, all defs of a text. -/
namespace Ev
open PySem PySem.Spec PyProof.Rows L2

/-! ### what is walked -/
/-- the iterator yields the data ds, whatever else happens -/
def Yields (G : Gl) (H1 : Hp) (ds : List D) (J : It) : Prop := ∀ H', Pers H1 H' → ∀ i : Nat, (∀ d, ds[i]? = some d → J.go i H' ∧ ∀ x H'', J.yld i H' x H'' → Same H' H'' ∧ DpF G.w G.K H'' x d) ∧ (ds.length ≤ i → J.stop i H')
abbrev relI (G : Gl) : List Addr → Hp → List D → It → Prop := fun _ H ds J => Yields G H ds J
def SndI (G : Gl) (sc : Scope) (N : List Str) (tg e : Expr) (di : DR (List D)) : Prop := ∀ X W, Stat G sc N X → Takes X W → PI X tg e (tR G W (relI G) di)
section
variable {G : Gl} {sc : Scope} {N : List Str} {pos p : Pos} {tg e e2 : Expr} {da db de : DE}
/-- the items of a value that is walked -/
def itemsD : D → Option (List D)
  | .list ds => some ds
  | .tuple ds => some ds
  | .str z => some (z.cps.toList.map fun c => .str ⟨#[c]⟩)
  | _ => none
def dItems (d : DE) : DR (List D) := fun l S => (d l S).bind fun a S1 => match a with
  | .d x => match itemsD x with
    | some ds => .ok ds S1
    | none => .no
  | _ => .no
theorem yl_list {H1 : Hp} {a : Addr} {vs : List V} {ds : List D} (fz : FzL G.K H1 a vs) (fs : DpFs G.w G.K H1 vs ds) : Yields G H1 ds (Itl G.K a) := fun H' p i => by
  have sq := (p.fzL fz).sq
  refine ⟨fun d hd => ?_, fun h => ⟨vs, sq, by rw [fs.length]; exact h⟩⟩
  obtain ⟨v, e1, r⟩ := (fs.mono p).get hd
  refine ⟨⟨vs, v, sq, e1⟩, fun x H'' ⟨eH, y⟩ => ?_⟩
  subst eH
  have := y vs sq
  rw [e1] at this; cases this
  exact ⟨Same.refl _, r⟩
theorem yl_tup {H1 : Hp} {a : Addr} {vs : List V} {ds : List D} (sq : SqT G.K H1 a vs) (fs : DpFs G.w G.K H1 vs ds) : Yields G H1 ds (Itt G.K a) := fun H' p i => by
  have sq := p.sqT sq
  refine ⟨fun d hd => ?_, fun h => ⟨vs, sq, by rw [fs.length]; exact h⟩⟩
  obtain ⟨v, e1, r⟩ := (fs.mono p).get hd
  refine ⟨⟨vs, v, sq, e1⟩, fun x H'' ⟨eH, y⟩ => ?_⟩
  subst eH
  have := y vs sq
  rw [e1] at this; cases this
  exact ⟨Same.refl _, r⟩
theorem yl_str {H1 : Hp} (z : Str) : Yields G H1 (z.cps.toList.map fun c => PyData.str ⟨#[c]⟩) (Its z) := fun H' p i => by
  refine ⟨fun d hd => ?_, fun h => ?_⟩
  · rw [List.getElem?_map, Option.map_eq_some_iff] at hd
    obtain ⟨c, hc, rfl⟩ := hd
    have hc' : z.cps[i]? = some c := by rw [← Array.getElem?_toList]; exact hc
    refine ⟨(Array.getElem?_eq_some_iff.mp hc').1, fun x H'' ⟨eH, c', e1, ex⟩ => ?_⟩
    rw [hc'] at e1; cases e1
    subst eH ex
    exact ⟨Same.refl _, .str _⟩
  · rw [List.length_map, Array.length_toList] at h
    exact h
theorem r_items (h : Snd G sc N e de) : SndI G sc N tg e (dItems de) := fun X W st tk => ⟨fun pins s σ H R I q => by
  obtain ⟨μ, l, S, ss, sl, q⟩ := q
  have he := h X W st tk
  unfold dItems at q
  cases e1 : de l S with
  | no => rw [e1] at q; exact q.elim
  | exc x S1 =>
    rw [e1] at q
    exact (pi_list he).run pins s σ H R I ⟨μ, l, S, ss, sl, by rw [e1]; exact q⟩
  | ok a S1 =>
    rw [e1, Res.ok_bind] at q
    cases a with
    | d d =>
      cases d with
      | list ds => exact (pi_list he).run pins s σ H R I ⟨μ, l, S, ss, sl, by
          rw [e1]
          refine fun μ1 H1 v g s1 r1 => ?_
          cases r1 with
          | lst fz fs => exact ⟨_, rfl, ⟨_, by rw [st.K]; exact fz.sq⟩, q μ1 H1 _ g s1 (by rw [st.K]; exact yl_list fz fs)⟩⟩
      | tuple ds => exact (pi_tup he).run pins s σ H R I ⟨μ, l, S, ss, sl, by
          rw [e1]
          refine fun μ1 H1 v g s1 r1 => ?_
          cases r1 with
          | tup sq fs => exact ⟨_, rfl, ⟨_, by rw [st.K]; exact sq⟩, q μ1 H1 _ g s1 (by rw [st.K]; exact yl_tup sq fs)⟩⟩
      | str z => exact (pi_str he).run pins s σ H R I ⟨μ, l, S, ss, sl, by
          rw [e1]
          refine fun μ1 H1 v g s1 r1 => ?_
          cases r1
          exact ⟨z, rfl, q μ1 H1 _ g s1 (yl_str z)⟩⟩
      | _ => exact q.elim
    | _ => exact q.elim⟩
def rgI (a b : D) : Option (List D) := match a, b with
  | .int i, .int j => if rgOk i j = true then some ((rgL i j).map .int) else none
  | _, _ => none
def dRg1 (d : DE) : DR (List D) := fun l S => (d l S).bind fun x S1 => match x with
  | .d b => match rgI (.int 0) b with
    | some ds => .ok ds S1
    | none => .no
  | _ => .no
def dRg2 (d d2 : DE) : DR (List D) := fun l S => (d l S).bind fun x S1 => (d2 l S1).bind fun y S2 => match x, y with
  | .d a, .d b => match rgI a b with
    | some ds => .ok ds S2
    | none => .no
  | _, _ => .no
theorem yl_rng {H1 : Hp} {a b : Int} {n : Nat} (hn : n = (b - a).toNat) : Yields G H1 ((rgL a b).map PyData.int) (Itr a n) := fun H' p i => by
  subst hn
  unfold rgL
  refine ⟨fun d hd => ?_, fun h => ?_⟩
  · rw [List.getElem?_map, List.getElem?_map, Option.map_eq_some_iff] at hd
    obtain ⟨j, hj, rfl⟩ := hd
    rw [Option.map_eq_some_iff] at hj
    obtain ⟨k, hk, rfl⟩ := hj
    obtain ⟨h1, h2⟩ := List.getElem?_eq_some_iff.mp hk
    rw [List.length_range] at h1
    rw [List.getElem_range] at h2
    subst h2
    refine ⟨h1, fun x H'' ⟨eH, ex⟩ => ?_⟩
    subst eH ex
    exact ⟨Same.refl _, .int _⟩
  · rw [List.length_map, List.length_map, List.length_range] at h
    exact h
theorem rgI_some {a b : D} {ds : List D} (h : rgI a b = some ds) : ∃ i j, a = .int i ∧ b = .int j ∧ (-(2 ^ 62) ≤ i ∧ i < 2 ^ 62 ∧ -(2 ^ 62) ≤ j ∧ j < 2 ^ 62) ∧ ds = (rgL i j).map .int := by
  unfold rgI at h
  split at h
  · simp only [Option.ite_none_right_eq_some, Option.some.injEq] at h
    obtain ⟨hc, rfl⟩ := h
    simp only [rgOk, Bool.and_eq_true, decide_eq_true_eq] at hc
    exact ⟨_, _, rfl, rfl, ⟨by omega, by omega, by omega, by omega⟩, rfl⟩
  · cases h
theorem r_rg1 (hg : glB sc "range" = true) (hm : G.mg "range" = none) (ha : Snd G sc N e da) (hs : ∀ env, starEach [e] env = [(false, eval e env)] := by intro _; rfl) (hs2 : ∀ env, starEach (e :: []) env = (false, eval e env) :: starEach [] env := by intro _; rfl) : SndI G sc N tg (.Call (.Name "range" p) [e] [] pos) (dRg1 da) := fun X W st tk => by
  obtain ⟨g1, g2, g3⟩ := gl_of hg
  refine ⟨fun pins s σ H R I q => (pi_range1 (show X.env.scope.names.lookup _ = _ by rw [st.scope]; exact g1) (by rw [st.mg]; exact hm) (pa_cons (ha X W st tk) pa_nil (hs2 X.env)) (hs X.env)).run pins s σ H R I (tR.imp (tR_one (rel1 := RelA G) q) fun v H1 ⟨μ, a, S, ss, ra, h⟩ => ?_)⟩
  split at h
  · split at h
    · rename_i ds e1
      obtain ⟨i, j, ei, rfl, ⟨b1, b2, b3, b4⟩, rfl⟩ := rgI_some e1
      cases ei
      cases ra
      exact ⟨j, rfl, b3, b4, h μ H1 _ Grow.refl ss (yl_rng (by rw [Int.sub_zero]))⟩
    · exact h.elim
  · exact h.elim
theorem r_rg2 (hg : glB sc "range" = true) (hm : G.mg "range" = none) (ha : Snd G sc N e da) (hb : Snd G sc N e2 db) (hs : ∀ env, starEach [e, e2] env = [(false, eval e env), (false, eval e2 env)] := by intro _; rfl) (hs1 : ∀ env, starEach [e2] env = [(false, eval e2 env)] := by intro _; rfl)
    (h2 : ∀ env, starEach (e :: [e2]) env = (false, eval e env) :: starEach [e2] env := by intro _; rfl) (h3 : ∀ env, starEach (e2 :: []) env = (false, eval e2 env) :: starEach [] env := by intro _; rfl) : SndI G sc N tg (.Call (.Name "range" p) [e, e2] [] pos) (dRg2 da db) := fun X W st tk => by
  obtain ⟨g1, g2, g3⟩ := gl_of hg
  refine ⟨fun pins s σ H R I q => (pi_range2 (show X.env.scope.names.lookup _ = _ by rw [st.scope]; exact g1) (by rw [st.mg]; exact hm) (pa_cons (ha X W st tk) (pa_cons (hb X W st tk) pa_nil (h3 X.env)) (h2 X.env)) (hs X.env) (hs1 X.env)).run pins s σ H R I (tR.imp (tR_two (rel1 := RelA G) (rel2 := RelA G) (fun g r => r.grow g) q) fun v H1 h1 => tR.imp h1 fun u H2 ⟨μ, a, b, S, ss, ra, rb, h⟩ => ?_)⟩
  split at h
  · split at h
    · rename_i ds e1
      obtain ⟨i, j, rfl, rfl, bd, rfl⟩ := rgI_some e1
      cases ra
      cases rb
      exact ⟨i, j, rfl, bd, h μ H2 _ Grow.refl ss (yl_rng rfl)⟩
    · exact h.elim
  · exact h.elim

/-! ### for -/
def loopF (g : DG) (body : DS) : List D → DS
  | [], l, S => .nx l S
  | d :: ds, l, S => match g (.d d) l with
    | some l1 => match body l1 S with
      | .nx l2 S2 => loopF g body ds l2 S2
      | .bk l2 S2 => .nx l2 S2
      | r => r
    | none => .no
def dFor (di : DR (List D)) (g : DG) (body : DS) : DS := fun l S => (di l S).thenS l fun ds S1 => loopF g body ds l S1
theorem r_for {g : DG} {xs : List Str} {is : List Nat} {di : DR (List D)} {body : DS} {sts : List Stmt} (hi : SndI G sc N tg e di) (hg : SndG G sc N xs is tg g) (hb : SndSs G sc N sts body) (hs : ∀ env x, foldedSetIterable e env x = pure x := by intro _ _; rfl) : SndS G sc N (.For tg e sts [] pos) (dFor di g body) := fun X W st tk => by
  refine ⟨fun pins s σ H D I q => (ps_for st.own st.calm (hi X W st.toStat tk) (hg X st.toStat (st.gf xs)) (hb X W st tk) (hs X.env)).run pins s σ H D I (tR.imp (then_read (k := fun ds l S1 => loopF g body ds l S1) (rel := relI G) q) fun J H1 ⟨μ1, l1, ds, S1, s1, sl1, yl, h1⟩ => ?_)⟩
  refine ⟨fun i m σ H => m = ds.length - i ∧ i ≤ ds.length ∧ Pers H1 H ∧ ∃ μ l S, SimS G μ S H ∧ SimL G μ H l σ ∧ AftS G W D μ H (loopF g body (ds.drop i) l S), ⟨ds.length, by simp, Nat.zero_le _, Pers.refl _, μ1, l1, S1, s1, sl1, by simpa using h1⟩, ?_⟩
  rintro i m σ2 H2 ⟨rfl, hi, p, μ, l, S, ss, sl, h⟩
  by_cases hlt : i < ds.length
  · obtain ⟨go, yld⟩ := (yl H2 p i).1 ds[i] (List.getElem?_eq_getElem hlt)
    refine .inr ⟨go, fun σ' H' => Pers H1 H' ∧ ∃ μ l S, SimS G μ S H' ∧ SimL G μ H' l σ' ∧ AftS G W D μ H' (loopF g body (ds.drop (i + 1)) l S), fun σ' H' ⟨p', z⟩ => ⟨ds.length - (i + 1), by omega, rfl, hlt, p', z⟩, fun x H' y => ?_⟩
    obtain ⟨sm, rx⟩ := yld x H' y
    rw [List.drop_eq_getElem_cons hlt] at h
    unfold loopF at h
    split at h
    · rename_i l2 eg
      have gr := Grow.same (μ := μ) sm
      refine ⟨μ, .d ds[i], l, l2, S, ss.same sm, sl.grow gr, rx, eg, fun H3 σ3 sm3 sl3 _ => ?_⟩
      have gr3 := Grow.same (μ := μ) sm3
      have s3 := (ss.same sm).same sm3
      have p3 : Pers H1 H3 := (p.trans (Pers.of sm)).trans (Pers.of sm3)
      refine ⟨μ, l2, S, s3, sl3, ?_⟩
      cases eb : body l2 S with
      | nx l4 S4 =>
        rw [eb] at h
        exact fun μ4 H4 σ4 g4 s4 sl4 => ⟨p3.trans g4.pers, μ4, l4, S4, s4, sl4, AftS.grow (r := loopF g body (ds.drop (i + 1)) l4 S4) h ((gr.trans gr3).trans g4)⟩
      | bk l4 S4 =>
        rw [eb] at h
        exact fun μ4 H4 σ4 g4 s4 sl4 => h μ4 H4 σ4 ((gr.trans gr3).trans g4) s4 sl4
      | rt a S4 =>
        rw [eb] at h
        exact fun μ4 H4 v g4 => h μ4 H4 v ((gr.trans gr3).trans g4)
      | exc x l4 S4 =>
        rw [eb] at h
        exact fun μ4 H4 σ4 c dd g4 => h μ4 H4 σ4 c dd ((gr.trans gr3).trans g4)
      | no => rw [eb] at h; exact h.elim
    · exact h.elim
  · have e : i = ds.length := by omega
    subst e
    rw [List.drop_length] at h
    exact .inl ⟨(yl H2 p _).2 (Nat.le_refl _), h μ H2 σ2 Grow.refl ss sl⟩

/-! ### while -/
def loopW (c : DR Bool) (body : DS) : Nat → DS
  | 0, _, _ => .no
  | n + 1, l, S => (c l S).thenS l fun b S1 => if b = true then (match body l S1 with
    | .nx l2 S2 => loopW c body n l2 S2
    | .bk l2 S2 => .nx l2 S2
    | r => r) else .nx l S1
/-- the turns that a while may take -/
def turns : Nat := 1000000000
def dWhile (c : DR Bool) (body : DS) : DS := loopW c body turns
theorem r_while {c : DR Bool} {body : DS} {sts : List Stmt} (hc : SndT G sc N e c) (hb : SndSs G sc N sts body) : SndS G sc N (.While e sts [] pos) (dWhile c body) := fun X W st tk => by
  refine ⟨fun pins s σ H D I q => (ps_while st.own (hc X W st.toStat tk) (hb X W st tk)).run pins s σ H D I ?_⟩
  refine ⟨fun m σ H => ∃ μ l S, SimS G μ S H ∧ SimL G μ H l σ ∧ AftS G W D μ H (loopW c body m l S), ⟨turns, q⟩, ?_⟩
  rintro m σ2 H2 ⟨μ, l, S, ss, sl, h⟩
  cases m with
  | zero => exact h.elim
  | succ n =>
    have q2 : tS G W (fun l S => (c l S).thenS l fun b S1 => if b = true then (match body l S1 with
      | .nx l2 S2 => loopW c body n l2 S2
      | .bk l2 S2 => .nx l2 S2
      | r => r) else .nx l S1) D σ2 H2 := ⟨μ, l, S, ss, sl, h⟩
    refine tR.imp (then_read (k := fun b l S1 => if b = true then (match body l S1 with
      | .nx l2 S2 => loopW c body n l2 S2
      | .bk l2 S2 => .nx l2 S2
      | r => r) else .nx l S1) (rel := relB) q2) fun b H3 ⟨μ3, l3, b', S3, s3, sl3, rb, h3⟩ => ?_
    have rb : b' = b := rb
    subst rb
    cases b' with
    | false => exact h3 μ3 H3 σ2 Grow.refl s3 sl3
    | true =>
      refine ⟨fun σ' H' => ∃ μ l S, SimS G μ S H' ∧ SimL G μ H' l σ' ∧ AftS G W D μ H' (loopW c body n l S), fun σ' H' z => ⟨n, Nat.lt_succ_self n, z⟩, μ3, l3, S3, s3, sl3, ?_⟩
      rw [if_pos rfl] at h3
      cases eb : body l3 S3 with
      | nx l4 S4 =>
        rw [eb] at h3
        exact fun μ4 H4 σ4 g4 s4 sl4 => ⟨μ4, l4, S4, s4, sl4, AftS.grow (r := loopW c body n l4 S4) h3 g4⟩
      | bk l4 S4 => rw [eb] at h3; exact h3
      | rt a S4 => rw [eb] at h3; exact h3
      | exc x l4 S4 => rw [eb] at h3; exact h3
      | no => rw [eb] at h3; exact h3.elim

/-! ### a def by its body -/
/-- the slots at the entry -/
def enter (n : Nat) (as : List A) : Loc := as.map some ++ List.replicate (n - as.length) none
/-- a def's denotation: np parameters, n names -/
def defn (np n : Nat) (body : DS) : List A → Store → Res A := fun as S => if as.length = np then (match body (enter n as) S with
  | .nx _ S' => .ok (.d .none) S'
  | .rt a S' => .ok a S'
  | .exc x _ S' => .exc x S'
  | _ => .no) else .no
theorem enter_sim {μ : List Addr} {H : Hp} {as : List A} {vs : List V} (r : RelAs G μ H as vs) : SimL G μ H (enter N.length as) (L2.start N vs) := by
  have hl := Paired.length r
  refine ⟨by simp [enter, L2.start, hl], fun i a h => ?_⟩
  unfold enter at h
  by_cases hi : i < as.length
  · rw [List.getElem?_append_left (by simpa using hi), List.getElem?_map, Option.map_eq_some_iff] at h
    obtain ⟨b, hb, e⟩ := h
    cases e
    obtain ⟨v, h1, h2⟩ := paired_get r hb
    refine ⟨v, ?_, h2⟩
    unfold L2.start
    rw [List.getElem?_append_left (by rw [List.length_map, ← hl]; exact hi), List.getElem?_map, h1]
    rfl
  · rw [List.getElem?_append_right (by simpa using hi), List.getElem?_replicate] at h
    split at h <;> cases h
/-- a def of the text keeps the promise that its denotation makes -/
theorem fn_good {f : Nat} {x qual : Str} {st : Stmt} {body : DS} {F' : Fns} (hF : Fun G.K x qual st (G.fa f) (G.fd f)) (hS : FnScope N (G.ps f) (defScope st)) (hb : SndSs G (defScope st) N (defBody st) body)
    (he : F' f = defn (G.ps f).length N.length body) : FnG G (G.k + 1) F' f := by
  refine funK hF hS (fun vs H Q E h => h.1) fun cdv A outer s H vs Q E hr ⟨hl, μ, as, S, ss, ra, h⟩ => ?_
  have st' : StatS G (defScope st) N (cxOf (L2.CX G.P G.w) G.P G.w G.K G.mg G.base N qual (defScope st) (G.fa f) cdv A outer s H E) :=
    { prog := rfl, w := rfl, K := rfl, mg := rfl, base := rfl, scope := rfl, names := rfl, nd := hS.nd, calm := rfl, room := hr, own := passes_of rfl, fn := fun _ => rfl, frm := ⟨rfl, rfl⟩ }
  have tk : Takes (cxOf (L2.CX G.P G.w) G.P G.w G.K G.mg G.base N qual (defScope st) (G.fa f) cdv A outer s H E) (fun c dd _ H' => E c dd H') := takes_of rfl rfl rfl rfl
  refine ⟨_, hb _ _ st' tk, μ, enter N.length as, S, ss, enter_sim ra, ?_⟩
  rw [he] at h
  unfold defn at h
  split at h
  · cases e : body (enter N.length as) S with
    | nx l S' => rw [e] at h; exact fun μ' H' σ' g s' sl => h μ' H' .non g s' .non
    | rt a S' => rw [e] at h; exact h
    | exc x l S' => rw [e] at h; exact fun μ' H' σ' c dd g s' sl => h μ' H' c dd g s'
    | bk l S' => rw [e] at h; exact h.elim
    | no => rw [e] at h; exact h.elim
  · exact h.elim
end
end Ev

/-! Ev9: list comprehensions. -/
namespace Ev
open PySem PySem.Spec PyProof.Rows L2

section
variable {G : Gl} {μ μ' : List Addr} {H H' H1 : Hp} {S : Store}
theorem Grow.upd_new {D : Addr} {vs : List V} {o : HO} (g : Grow μ μ' H H') (hn : H D = none) (hd : H' D = some (.lst vs)) : Grow μ μ' H (upd H' D o) := by
  refine ⟨g.ex, fun b ob h hm => ?_, fun b h => ?_, ⟨fun b xs h => ?_, fun b ob u h => ?_⟩⟩
  · rw [upd_ne (ne_of_none h hn)]; exact g.fr b ob h hm
  · by_cases z : b = D
    · rw [z, upd_same]; simp
    · rw [upd_ne z]; exact g.keep b h
  · rw [upd_ne (ne_of_none h hn)]; exact g.pers.tup b xs h
  · rw [upd_ne (ne_of_none h hn)]; exact g.pers.frz b ob u h
theorem pers_aside {D : Addr} {vs : List V} {o : HO} (hd : H D = some (.lst vs)) : Pers H (upd H D o) := upd_pers (fun _ z => by rw [hd] at z; cases z) (fun _ _ z => by rw [hd] at z; cases z)
theorem SimS.aside {D : Addr} {vs : List V} {o : HO} (h : SimS G μ S H) (nd : D ∉ μ) (hd : H D = some (.lst vs)) : SimS G μ S (upd H D o) := by
  refine ⟨h.nd, h.len, fun n c e => ?_, fun a ha => ?_⟩
  · obtain ⟨a, h1, h2⟩ := h.cells n c e
    refine ⟨a, h1, ?_⟩
    have hne : a ≠ D := fun z => nd (z ▸ List.mem_of_getElem? h1)
    simpa using CellOk.mono (pers_aside hd) [] (upd_ne hne) h2
  · rw [upd_ne (fun z : a = D => nd (by rw [← z]; exact ha))]; exact h.there a ha
theorem Grow.notin {D : Addr} {o : HO} (g : Grow μ μ' H H') (hd : H D = some o) (nd : D ∉ μ) : D ∉ μ' ∧ H' D = some o := by
  refine ⟨fun z => ?_, g.fr D o hd nd⟩
  obtain ⟨ν, rfl, hn⟩ := g.ex
  rcases List.mem_append.mp z with z | z
  · exact nd z
  · rw [hn D z] at hd; cases hd
theorem SimL.pers {l : Loc} {σ : L2.St} (p : Pers H H') (s : SimL G μ H l σ) : SimL G μ H' l σ := ⟨s.len, fun i a e => let ⟨v, h1, h2⟩ := s.at_ i a e; ⟨v, h1, by simpa using RelA.mono p [] h2⟩⟩
end

/-! ### a block's context -/
def wipeA (l : Loc) : List Nat → Loc
  | [] => l
  | v :: vs => (wipeA l vs).set v none
theorem wipe_sim {G : Gl} {μ : List Addr} {H : Hp} {l : Loc} {σ : L2.St} (s : SimL G μ H l σ) : ∀ vs : List Nat, SimL G μ H (wipeA l vs) (wipe σ vs)
  | [] => s
  | v :: vs => by
    have ih := wipe_sim s vs
    unfold wipeA wipe
    refine ⟨by rw [List.length_set, List.length_set]; exact ih.len, fun i a h => ?_⟩
    by_cases hv : v = i
    · subst hv
      by_cases hi : v < (wipeA l vs).length
      · rw [List.getElem?_set_self hi] at h; cases h
      · rw [List.getElem?_eq_none (by rw [List.length_set]; omega)] at h; cases h
    · rw [List.getElem?_set_ne hv] at h
      obtain ⟨w', h1, h2⟩ := ih.at_ i a h
      exact ⟨w', by rw [List.getElem?_set_ne hv]; exact h1, h2⟩
theorem wipe_at (σ : L2.St) (j : Nat) : ∀ vs : List Nat, (wipe σ vs)[j]? = if j ∈ vs ∧ j < σ.length then some none else σ[j]?
  | [] => by simp [wipe]
  | v :: vs => by
    unfold wipe
    by_cases h : v = j
    · subst h
      by_cases hl : v < σ.length
      · rw [List.getElem?_set_self (by rw [wipe_length]; exact hl), if_pos ⟨by simp, hl⟩]
      · rw [List.getElem?_eq_none (by rw [List.length_set, wipe_length]; omega), if_neg (fun z => hl z.2), List.getElem?_eq_none (by omega)]
    · rw [List.getElem?_set_ne h, wipe_at σ j vs]
      have e : (j ∈ v :: vs) ↔ j ∈ vs := by simp [Ne.symm h]
      simp [e]
theorem wipe_chg {is vs : List Nat} {σ σ' : L2.St} (hv : ∀ i ∈ is, i ∈ vs) (c : Chg is (wipe σ vs) σ') : wipe σ' vs = wipe σ vs := by
  refine List.ext_getElem? fun j => ?_
  rw [wipe_at, wipe_at]
  have hl := c.1
  rw [wipe_length] at hl
  by_cases h : j ∈ vs
  · by_cases h2 : j < σ.length
    · rw [if_pos ⟨h, by omega⟩, if_pos ⟨h, h2⟩]
    · rw [if_neg (fun z => by omega), if_neg (fun z => h2 z.2), List.getElem?_eq_none (by omega), List.getElem?_eq_none (by omega)]
  · rw [if_neg (fun z => h z.1), if_neg (fun z => h z.1), c.2 j (fun z => h (hv j z)), wipe_at, if_neg (fun z => h z.1)]
/-- the block's own names -/
def ownB (N : List Str) (own : List (Str × Nat)) : Bool := own.all fun p => N[p.2]? == some p.1
def gfB (scope sc' : Scope) (xs : List Str) : Bool := xs.all fun x => scope.names.lookup x == some .cell || sc'.names.lookup x == some .local
section
variable {G : Gl} {sc scope : Scope} {N : List Str} {pos p : Pos} {tg e elt iter tg1 iter1 : Expr} {da db de : DE} {ifs ifs1 : List Expr}
abbrev Wno : WX := fun _ _ _ _ => False
theorem Stat.blk {X : Cx} (st : Stat G sc N X) (s : Shared) (H : Hp) (C : Addr) (cl : List (Str × Addr)) (fp : List Addr) : Stat G (relS scope sc) N (X.blk s H scope (compEnvC scope cl C X.env) fp) := by
  refine { prog := st.prog, w := st.w, K := st.K, mg := st.mg, base := st.base, scope := ?_, names := st.names, nd := st.nd, calm := st.calm, room := st.room }
  show relS scope X.env.scope = _
  rw [st.scope]
theorem gf_blk {X : Cx} {xs : List Str} (st : Stat G sc N X) (h : gfB scope (relS scope sc) xs = true) (s : Shared) (H : Hp) (C : Addr) (cl : List (Str × Addr)) (fp : List Addr) : GF (X.blk s H scope (compEnvC scope cl C X.env) fp) xs := fun x hx => by
  have := List.all_eq_true.mp h x hx
  rw [Bool.or_eq_true] at this
  rcases this with h | h
  · exact .inl h
  · refine .inr ?_
    show (relS scope X.env.scope).names.lookup x = _
    rw [st.scope]
    simpa using h
def dTrue : DR Bool := fun _ S => .ok true S
def SndIf (G : Gl) (sc : Scope) (N : List Str) (ifs : List Expr) (t : DR Bool) : Prop := ∀ X W, Stat G sc N X → Takes X W → PTs X ifs (tT G W t)
theorem if_nil : SndIf G sc N [] dTrue := fun X W st tk => ⟨fun pins s σ H Q I q => pts_nil.run pins s σ H Q I (ret_read q fun _ => rfl)⟩
theorem if_one {c : Expr} {t : DR Bool} (h : SndT G sc N c t) : SndIf G sc N [c] t := fun X W st tk => pts_one (h X W st tk)

/-! ### [elt for tg in iter if ..] -/
/-- the turns of a comprehension; nothing is raised within -/
def compF {β : Type} (g : DG) (t : DR Bool) (k : β → Loc → Store → Res β) (l : Loc) : List D → β → Store → Res β
  | [], acc, S => .ok acc S
  | d :: ds, acc, S => match g (.d d) l with
    | some l1 => match t l1 S with
      | .ok true S2 => match k acc l1 S2 with
        | .ok acc2 S3 => compF g t k l ds acc2 S3
        | _ => .no
      | .ok false S2 => compF g t k l ds acc S2
      | _ => .no
    | none => .no
/-- an element is put behind -/
def putE (d : DE) : List D → Loc → Store → Res (List D) := fun acc l S => match d l S with
  | .ok (.d y) S' => if acc.length < 16777216 then .ok (acc ++ [y]) S' else .no
  | _ => .no
def dLc (di : DR (List D)) (vs : List Nat) (g : DG) (t : DR Bool) (d : DE) : DE := fun l S => (di l S).bind fun ds S1 => (compF g t (putE d) (wipeA l vs) ds [] S1).bind fun acc S2 => .ok (.d (.list acc)) S2
theorem lc_read {W : WX} {σ : L2.St} {H : Hp} {Q : VK} {di : DR (List D)} {vs : List Nat} {g : DG} {t : DR Bool} {d : DE} {X : Cx} {pins : List (Addr × Obj)} {is : List Nat} (hv : ∀ i ∈ is, i ∈ vs) (q : tE G W (dLc di vs g t d) σ H Q) {K : VK} (hk : ∀ v H1, (∀ σ' s', L2.Inv X pins σ' H1 s' → ∃ H2, L2.Inv X pins σ' H2 s' ∧ Q v H2) → K v H1) :
    tLc (tR G W (relI G) di) (tG G is g) (tT G Wno t) (tE G Wno d) vs σ H K := by
  obtain ⟨μ, l, S, ss, sl, q⟩ := q
  refine ⟨μ, l, S, ss, sl, Aft.imp (Aft.bind (rel' := relI G) q) fun J H1 _ ⟨ds, μ1, S1, g1, s1, yl, h1⟩ D hD => ?_⟩
  have sl1 := wipe_sim (sl.grow g1) vs
  have sm0 := same_new (o := HO.lst []) hD
  have nd0 : D ∉ μ1 := fun z => s1.there D z hD
  refine ⟨fun i m H => m = ds.length - i ∧ i ≤ ds.length ∧ ∃ μ2 S2 acc vs2, D ∉ μ2 ∧ H D = some (.lst vs2) ∧ DpFs G.w G.K H vs2 acc ∧ SimS G μ2 S2 H ∧ Grow μ1 μ2 H1 H ∧ Aft G (fun c dd H' => W c dd σ H') (RelA G) μ1 H1 ((compF g t (putE d) (wipeA l vs) (ds.drop i) acc S2).bind fun acc S2 => .ok (.d (.list acc)) S2) Q,
    ⟨ds.length, by simp, Nat.zero_le _, μ1, S1, [], [], nd0, upd_same, .nil, s1.same sm0, Grow.same sm0, by simpa using h1⟩, ?_⟩
  rintro i m H2 ⟨rfl, hi, μ2, S2, acc, vs2, nd, hd, fs, s2, g2, h⟩
  by_cases hlt : i < ds.length
  · obtain ⟨go, yld⟩ := (yl H2 g2.pers i).1 ds[i] (List.getElem?_eq_getElem hlt)
    rw [List.drop_eq_getElem_cons hlt] at h
    unfold compF at h
    split at h
    · rename_i l1 eg
      refine .inr ⟨go, fun H => ∃ μ2 S2 acc vs2, D ∉ μ2 ∧ H D = some (.lst vs2) ∧ DpFs G.w G.K H vs2 acc ∧ SimS G μ2 S2 H ∧ Grow μ1 μ2 H1 H ∧ Aft G (fun c dd H' => W c dd σ H') (RelA G) μ1 H1 ((compF g t (putE d) (wipeA l vs) (ds.drop (i + 1)) acc S2).bind fun acc S2 => .ok (.d (.list acc)) S2) Q,
        fun H' z => ⟨ds.length - (i + 1), by omega, rfl, hlt, z⟩, fun x H3 y => ?_⟩
      obtain ⟨sm, rx⟩ := yld x H3 y
      have gr := Grow.same (μ := μ2) sm
      refine ⟨μ2, .d ds[i], wipeA l vs, l1, S2, s2.same sm, (sl1.grow g2).grow gr, rx, eg, fun H4 σ4 sm4 sl4 ch => ⟨wipe_chg hv ch, ?_⟩⟩
      have gr4 := Grow.same (μ := μ2) sm4
      have s4 := (s2.same sm).same sm4
      have g4 := (g2.trans gr).trans gr4
      have hd4 : H4 D = some (.lst vs2) := sm4 _ _ (sm _ _ hd)
      have fs4 := (fs.mono (Pers.of sm)).mono (Pers.of sm4)
      refine ⟨μ2, l1, S2, s4, sl4, ?_⟩
      split at h
      · rename_i S5 et
        rw [et]
        refine fun μ5 H5 b g5 s5 rb => ?_
        have rb : true = b := rb
        subst rb
        change if true = true then _ else _
        rw [if_pos rfl]
        obtain ⟨nd5, hd5⟩ := g5.notin hd4 nd
        refine ⟨μ5, l1, S5, s5, sl4.grow g5, ?_⟩
        unfold putE at h
        cases ed : d l1 S5 with
        | no => rw [ed] at h; exact h.elim
        | exc x S6 => rw [ed] at h; exact h.elim
        | ok a S6 =>
          rw [ed] at h
          cases a with
          | d y =>
            simp only at h
            refine fun μ6 H6 v g6 s6 rv => ?_
            obtain ⟨nd6, hd6⟩ := g6.notin hd5 nd5
            have fs6 := (fs4.mono g5.pers).mono g6.pers
            split at h
            · rename_i acc2 S7 e7
              split at e7
              · rename_i hz
                cases e7
                refine ⟨vs2, hd6, by rw [fs6.length, line_eq]; exact hz, μ6, _, _, vs2 ++ [v], nd6, upd_same, ?_, s6.aside nd6 hd6, ((g4.trans g5).trans g6).upd_new hD hd6, h⟩
                exact (fs6.append (.cons rv .nil)).mono (pers_aside hd6)
              · cases e7
            · exact h.elim
          | loc n => exact h.elim
          | fn n => exact h.elim
      · rename_i S5 et
        rw [et]
        refine fun μ5 H5 b g5 s5 rb => ?_
        have rb : false = b := rb
        subst rb
        change if false = true then _ else _
        rw [if_neg Bool.false_ne_true]
        obtain ⟨nd5, hd5⟩ := g5.notin hd4 nd
        exact ⟨μ5, S5, acc, vs2, nd5, hd5, fs4.mono g5.pers, s5, g4.trans g5, h⟩
      · exact h.elim
    · exact h.elim
  · have e : i = ds.length := by omega
    subst e
    rw [List.drop_length] at h
    refine .inl ⟨(yl H2 g2.pers _).2 (Nat.le_refl _), hk _ _ fun σ' s' I => ?_⟩
    obtain ⟨ob, I2⟩ := freezeL I hd
    have p2 : Pers H2 (upd H2 D (.frz ob (.lst vs2))) := pers_aside hd
    exact ⟨_, I2, h μ2 _ _ (g2.upd_new hD hd) (s2.aside nd hd) (.lst (.inl ⟨ob, upd_same⟩) (fs.mono p2))⟩
theorem r_lc {own : List (Str × Nat)} {xs : List Str} {is : List Nat} {g : DG} {t : DR Bool} {d : DE} {di : DR (List D)} (hi : SndI G sc N tg iter di) (ok : BlkOk N sc scope own) (hg : SndG G (relS scope sc) N xs is tg g) (hx : gfB scope (relS scope sc) xs = true) (hv : ∀ i ∈ is, i ∈ own.map (·.2))
    (ht : SndIf G (relS scope sc) N ifs t) (he : Snd G (relS scope sc) N elt d) (hs : ∀ env x, foldedSetIterable iter env x = pure x := by intro _ _; rfl) : Snd G sc N (.ListComp elt [⟨tg, iter, ifs, 0⟩] scope pos) (dLc di (own.map (·.2)) g t d) := fun X W st tk =>
  PE_ghost (pe_lc st.calm (by rw [st.names]; exact st.nd) (hi X W st tk) (by rw [st.names, st.scope]; exact ok) (fun s H C cl fp => hg _ (st.blk s H C cl fp) (gf_blk st hx s H C cl fp)) (fun s H C cl fp => ht _ Wno (st.blk s H C cl fp) takes0) (fun s H C cl fp => he _ Wno (st.blk s H C cl fp) takes0) (hs X.env))
    fun pins s σ H Q q => lc_read (X := X) (pins := pins) hv q fun v H1 h s' I => h σ s' I
/-- y = [..] on one line, y a local name -/
theorem r_setLc {i : Nat} {y : Str} {py spos : Pos} {own : List (Str × Nat)} {xs : List Str} {is : List Nat} {g : DG} {t : DR Bool} {d : DE} {di : DR (List D)} (hy : N[i]? = some y) (hyl : sc.names.lookup y = some .local)
    (hl : (py.line == pos.line) = true) (hn : (scope.names.any fun (n, k) => n == y && (k == .local || k == .cell)) = false) (hi : SndI G sc N tg iter di) (ok : BlkOk N sc scope own) (hg : SndG G (relS scope sc) N xs is tg g) (hx : gfB scope (relS scope sc) xs = true) (hv : ∀ i ∈ is, i ∈ own.map (·.2))
    (ht : SndIf G (relS scope sc) N ifs t) (he : Snd G (relS scope sc) N elt d) (hs : ∀ env x, foldedSetIterable iter env x = pure x := by intro _ _; rfl) (hk : sc.kind = .function) : SndS G sc N (.Assign [.Name y py] (.ListComp elt [⟨tg, iter, ifs, 0⟩] scope pos) spos) (dAsg (gN i) (dLc di (own.map (·.2)) g t d)) := fun X W st tk => by
  have hp : PS X (.Assign [.Name y py] (.ListComp elt [⟨tg, iter, ifs, 0⟩] scope pos) spos) (tAsg (tLc (tR G W (relI G) di) (tG G is g) (tT G Wno t) (tE G Wno d) (own.map (·.2))) (gName i)) :=
    ps_setLc st.calm (by rw [st.names]; exact st.nd) (by rw [st.names]; exact hy) (by rw [st.scope]; exact hyl) (sw_true (by rw [st.scope]; exact hk) (by rw [st.scope]; exact hyl) hl hn) (hi X W st.toStat tk) (by rw [st.names, st.scope]; exact ok)
      (fun s H C cl fp => hg _ (st.toStat.blk s H C cl fp) (gf_blk st.toStat hx s H C cl fp)) (fun s H C cl fp => ht _ Wno (st.toStat.blk s H C cl fp) takes0) (fun s H C cl fp => he _ Wno (st.toStat.blk s H C cl fp) takes0) (hs X.env)
  refine ⟨fun pins s σ H D I q => ?_⟩
  -- the ghost step stands behind the store
  refine thn (hp.run pins s σ H { D with nx := fun σ' H' => ∀ s', L2.Inv X pins σ' H' s' → ∃ H2, L2.Inv X pins σ' H2 s' ∧ D.nx σ' H2 } I ?_) fun f s' h => ?_
  · exact lc_read (X := X) (pins := pins) hv (gN_read q : tAsg (tE G W (dLc di (own.map (·.2)) g t d)) (gName i) D σ H) fun v H1 h s' I => h (σ.set i (some v)) s' I
  · cases f with
    | next => obtain ⟨σ', H', I', z⟩ := h; obtain ⟨H2, I2, z2⟩ := z s' I'; exact ⟨σ', H2, I2, z2⟩
    | ret v => exact h
    | brk => exact h
    | cont => exact h
end
end Ev

/-! Ev10: dicts: {}, d[k] = v, d[k], k in d, len(d). -/
namespace Ev
open PySem PySem.Spec PyProof.Rows L2

/-! ### plain -/
def isTup : D → Bool
  | .tuple _ => true
  | _ => false
def keyB : D → Bool
  | .int _ => true
  | .str _ => true
  | .tuple ds => match keyOf (.tuple ds) with
    | some nk => decide (nk.depth ≤ 8)
    | none => false
  | _ => false
/-- the keys are like k -/
def uni (kvs : List (D × A)) (k : D) : Bool := keyB k && kvs.all fun p => isTup p.1 == isTup k
def dGet (kvs : List (D × A)) (k : D) : Option A := (kvs.find? fun p => decide (keyOf p.1 = keyOf k)).map (·.2)
def dPut (kvs : List (D × A)) (k : D) (v : A) : List (D × A) := if (dGet kvs k).isSome = true then kvs.map (fun p => if keyOf p.1 = keyOf k then (p.1, v) else p) else kvs ++ [(k, v)]
theorem keyOf_tup {d : D} {nk : NestedKey} (h : keyOf d = some nk) (ht : isTup d = true) : ∃ ks, nk = .tup ks := by
  cases d with
  | tuple ds =>
    rw [keyOf, Option.map_eq_some_iff] at h
    obtain ⟨ks, _, e⟩ := h
    exact ⟨ks, e.symm⟩
  | _ => simp [isTup] at ht
theorem keyOf_leaf (k : Key) : keyOf (leafD k) = some (match k with | .inl i => .num i | .inr x => .text x) := by
  cases k <;> rfl
theorem leaf_inj {k j : Key} : keyOf (leafD k) = keyOf (leafD j) ↔ k = j := by
  rw [keyOf_leaf, keyOf_leaf]
  cases k <;> cases j <;> simp
theorem papp {α β : Type} {R : α → β → Prop} : ∀ {xs xs' : List α} {ys ys' : List β}, Paired R xs ys → Paired R xs' ys' → Paired R (xs ++ xs') (ys ++ ys')
  | _, _, _, _, .nil, h => h
  | _, _, _, _, .cons r t, h => .cons r (papp t h)
theorem pnil {α β : Type} {R : α → β → Prop} {ys : List β} (h : Paired R [] ys) : ys = [] := by cases h; rfl
theorem pcons {α β : Type} {R : α → β → Prop} {x : α} {xs : List α} {ys : List β} (h : Paired R (x :: xs) ys) : ∃ y t, ys = y :: t ∧ R x y ∧ Paired R xs t := by cases h with | cons r t => exact ⟨_, _, rfl, r, t⟩
theorem nodup_some {α : Type} {l : List α} : (l.map some).Nodup ↔ l.Nodup := by
  induction l with
  | nil => simp
  | cons x l ih => rw [List.map_cons, List.nodup_cons, List.nodup_cons, ih]; simp
section
/-- what is found, in both -/
theorem get_L {R : A → Value → Prop} (k : Key) : ∀ {kvs : List (D × A)} {vs : List (Key × Value)}, Paired (fun p q => p.1 = leafD q.1 ∧ R p.2 q.2) kvs vs → (dGet kvs (leafD k) = none ∧ valueAt vs k = none) ∨ ∃ x u, dGet kvs (leafD k) = some x ∧ valueAt vs k = some u ∧ R x u
  | _, _, .nil => .inl ⟨rfl, rfl⟩
  | (kd, x) :: kvs, (j, u) :: vs, .cons r t => by
    obtain ⟨e, r⟩ := r
    have e : kd = leafD j := e
    subst e
    unfold dGet valueAt
    rw [List.find?_cons, List.find?_cons]
    by_cases h : j = k
    · subst h
      simp only [decide_true]
      exact .inr ⟨x, u, rfl, rfl, r⟩
    · rw [decide_eq_false (fun z => h (leaf_inj.mp z)), decide_eq_false h]
      exact get_L k t
theorem any_at (vs : List (Key × Value)) (k : Key) : (vs.any fun kv => decide (kv.1 = k)) = (valueAt vs k).isSome := by
  unfold valueAt
  rw [Option.isSome_map, List.isSome_find?]
theorem put_L {R : A → Value → Prop} (k : Key) {x : A} {u : Value} (rx : R x u) {kvs : List (D × A)} {vs : List (Key × Value)} (h : Paired (fun p q => p.1 = leafD q.1 ∧ R p.2 q.2) kvs vs) : Paired (fun p q => p.1 = leafD q.1 ∧ R p.2 q.2) (dPut kvs (leafD k) x) (stored vs k u) := by
  have hs : (dGet kvs (leafD k)).isSome = (vs.any fun kv => decide (kv.1 = k)) := by
    rw [any_at]
    rcases get_L k h with ⟨e1, e2⟩ | ⟨_, _, e1, e2, _⟩ <;> rw [e1, e2] <;> rfl
  unfold dPut stored
  rw [hs]
  split
  · rename_i hc
    clear hs hc
    induction h with
    | nil => exact .nil
    | @cons p q _ _ r t ih =>
      rw [List.map_cons, List.map_cons]
      refine .cons ?_ ih
      obtain ⟨kd, y⟩ := p
      obtain ⟨j, z⟩ := q
      obtain ⟨e, r⟩ := r
      have e : kd = leafD j := e
      subst e
      by_cases hj : j = k
      · subst hj; rw [if_pos rfl, if_pos rfl]; exact ⟨rfl, rx⟩
      · rw [if_neg hj, if_neg (fun z => hj (leaf_inj.mp z))]; exact ⟨rfl, r⟩
  · exact papp h (.cons ⟨rfl, rx⟩ .nil)
theorem get_T {R : D × A → NestedKey × Addr × Value → Prop} {k : D} {nk : NestedKey} (hk : keyOf k = some nk) : ∀ {kvs : List (D × A)} {xs : List (NestedKey × Addr × Value)}, Paired (fun p q => keyOf p.1 = some q.1 ∧ R p q) kvs xs →
    (dGet kvs k = none ∧ atKey xs nk = none) ∨ ∃ p q, dGet kvs k = some p.2 ∧ atKey xs nk = some q.2 ∧ R p q
  | _, _, .nil => .inl ⟨rfl, rfl⟩
  | p :: kvs, q :: xs, .cons r t => by
    obtain ⟨e, r⟩ := r
    unfold dGet atKey
    rw [List.find?_cons, List.find?_cons, e, hk]
    by_cases h : q.1 = nk
    · rw [decide_eq_true (by rw [h]), decide_eq_true h]
      exact .inr ⟨p, q, rfl, rfl, r⟩
    · rw [decide_eq_false (fun z => h (Option.some.inj z)), decide_eq_false h, ← hk]
      exact get_T hk t
theorem put_T {R : D × A → NestedKey × Addr × Value → Prop} {k : D} {nk : NestedKey} (hk : keyOf k = some nk) {x : A} {b : Addr} {u : Value} (rn : R (k, x) (nk, b, u)) (ro : ∀ p q, R p q → R (p.1, x) (q.1, q.2.1, u)) {kvs : List (D × A)} {xs : List (NestedKey × Addr × Value)}
    (h : Paired (fun p q => keyOf p.1 = some q.1 ∧ R p q) kvs xs) : Paired (fun p q => keyOf p.1 = some q.1 ∧ R p q) (dPut kvs k x) (storedH xs nk b u) := by
  have hs : (dGet kvs k).isSome = (atKey xs nk).isSome := by
    rcases get_T hk h with ⟨e1, e2⟩ | ⟨_, _, e1, e2, _⟩ <;> rw [e1, e2] <;> rfl
  unfold dPut storedH
  rw [hs]
  split
  · rename_i hc
    clear hs hc
    induction h with
    | nil => exact .nil
    | @cons p q _ _ r t ih =>
      rw [List.map_cons, List.map_cons]
      refine .cons ?_ ih
      obtain ⟨e, r⟩ := r
      unfold putAt
      rw [e, hk]
      by_cases hj : q.1 = nk
      · rw [if_pos hj, if_pos (by rw [hj])]; exact ⟨e, ro _ _ r⟩
      · rw [if_neg hj, if_neg (fun z => hj (Option.some.inj z))]; exact ⟨e, r⟩
  · exact papp h (.cons ⟨hk, rn⟩ .nil)
end

/-! ### in the heap -/
section
variable {G : Gl} {X : Cx} {pins : List (Addr × Obj)} {σ : L2.St} {H : Hp} {s : Shared} {μ : List Addr} {a : Addr} {kvs : List (D × A)}
mutual
theorem nested_of (I : L2.Inv X pins σ H s) (hK : X.K = G.K) : ∀ {d : D} {v : V} {u : Value} {nk : NestedKey}, DpF G.w G.K H v d → RelV v u → keyOf d = some nk → NestedIs s.heap nk u
  | .none, _, _, _, .non, r, h => by cases h; cases r; exact .none
  | .bool b, _, _, _, .bl _, r, h => by cases h; cases r; exact .bool rfl
  | .int i, _, _, _, .int _, r, h => by cases h; obtain ⟨t, rfl⟩ := r; exact .int i t
  | .str x, _, _, _, .str _, r, h => by cases h; obtain ⟨t, rfl⟩ := r; exact .text x t
  | .tuple ds, _, _, _, .tup sq fs, r, h => by
    rw [keyOf, Option.map_eq_some_iff] at h
    obtain ⟨ks, hk, e⟩ := h
    subst e
    cases r
    obtain ⟨its, rv, ⟨ob, e1, e2, n, e3⟩, _⟩ := I.tuple (by rw [hK]; exact sq)
    exact .tup e1 e2 e3 (nesteds_of I hK fs rv hk)
theorem nesteds_of (I : L2.Inv X pins σ H s) (hK : X.K = G.K) : ∀ {ds : List D} {vs : List V} {us : List Value} {ks : List NestedKey}, DpFs G.w G.K H vs ds → Vals vs us → keyOf.keysOf ds = some ks → NestedAll s.heap ks us
  | [], _, _, _, .nil, .nil, h => by cases h; exact .nil
  | d :: ds, _, _, _, .cons a b, .cons r t, h => by
    rw [keyOf.keysOf] at h
    split at h
    · rename_i k ks e1 e2
      cases h
      exact .cons (nested_of I hK a r e1) (nesteds_of I hK b t e2)
    · cases h
end
/-- a dict with int and text keys, in the heap -/
theorem dic_L (I : L2.Inv X pins σ H s) (c : CellOk G μ H a (.dic kvs)) (hk : ∀ p ∈ kvs, isTup p.1 = false) : ∃ vs : List (Key × Value), s.heap.DictOf (mixKind X.prog X.w) a vs ∧ vs.length ≤ sizeLine ∧ (a == sysModules) = false ∧ Paired (fun p q => p.1 = leafD q.1 ∧ ∃ v, RelV v q.2 ∧ RelA G μ H p.2 v) kvs vs := by
  rcases c with ⟨ks, h1, h2⟩ | ⟨ne, o, es, ep, h1, h2, h3, h4, h5, h6, h7⟩
  · obtain ⟨z, lo, vs, rel, dd⟩ := dk_of I.hok h1
    refine ⟨vs, dd, by rw [← rel.length]; exact z, lo, ?_⟩
    clear h1 z dd hk
    induction h2 generalizing vs with
    | nil => cases rel; exact .nil
    | cons r t ih =>
      cases rel with
      | cons r2 t2 =>
        obtain ⟨a1, a2⟩ := r2
        exact .cons ⟨by rw [← a1]; exact r.1, _, a2, r.2⟩ (ih _ t2)
  · cases kvs with
    | nil => exact absurd rfl ne
    | cons p kvs =>
      obtain ⟨e, er, _, r, _⟩ := pcons h7
      · obtain ⟨ks, b, vv, a1, _⟩ := r
        have := hk p (by simp)
        cases hp : p.1 with
        | tuple ds => rw [hp] at this; simp [isTup] at this
        | _ => rw [hp] at a1; simp [keyOf] at a1
abbrev TR (G : Gl) (μ : List Addr) (H : Hp) (p : D × A) (q : NestedKey × Addr × Value) : Prop := (∃ ks, q.1 = .tup ks) ∧ q.1.depth ≤ 8 ∧ DpF G.w G.K H (.ref q.2.1) p.1 ∧ ∃ v, RelV v q.2.2 ∧ RelA G μ H p.2 v
/-- one with tuple keys -/
theorem dic_T (I : L2.Inv X pins σ H s) (hX : Here G X) (c : CellOk G μ H a (.dic kvs)) (hk : ∀ p ∈ kvs, isTup p.1 = true) : ∃ xs : List (NestedKey × Addr × Value), s.heap.DictOfH (nestedKind X.prog X.w) a xs ∧ xs.length ≤ sizeLine ∧ (a == sysModules) = false ∧ Paired (fun p q => keyOf p.1 = some q.1 ∧ TR G μ H p q) kvs xs := by
  rcases c with ⟨ks, h1, h2⟩ | ⟨ne, o, es, ep, h1, h2, h3, h4, h5, h6, h7⟩
  · cases h2 with
    | nil =>
      obtain ⟨z, lo, vs, rel, o, es, ep, g1, g2, g3, g4, g5, g6⟩ := dk_of I.hok h1
      cases rel
      have e : es.toList = [] := by
        generalize es.toList = l at g5
        cases g5; rfl
      exact ⟨[], ⟨o, es, ep, g1, g2, g3, e, fun x hx => (nomatch hx), List.nodup_nil⟩, Nat.zero_le _, lo, .nil⟩
    | @cons p q _ _ r t =>
      have := hk _ (List.mem_cons_self ..)
      rw [r.1] at this
      obtain ⟨q, _⟩ := q
      cases q <;> simp [leafD, isTup] at this
  · have ho : s.heap.get? a = some o := (I.hok a _ h1).1
    have key : ∀ {kvs : List (D × A)} {es : List DictEntry}, Paired (EntR G μ H) kvs es → ∃ xs : List (NestedKey × Addr × Value), es = xs.map (entryOfKey (nestedKind X.prog X.w)) ∧ (∀ x ∈ xs, (nestedKind X.prog X.w).is s.heap x.1 x.2.1) ∧ xs.map (fun x => some x.1) = kvs.map (fun p => keyOf p.1) ∧ Paired (fun p q => keyOf p.1 = some q.1 ∧ TR G μ H p q) kvs xs := by
      intro kvs es h
      induction h with
      | nil => exact ⟨[], rfl, fun x hx => (nomatch hx), rfl, .nil⟩
      | @cons p e _ _ r t ih =>
        obtain ⟨xs, i1, i2, i3, i4⟩ := ih
        obtain ⟨ks, b, vv, a1, a2, a3, a4, a5, a6, a7⟩ := r
        refine ⟨(.tup ks, b, e.val) :: xs, ?_, fun x hx => ?_, ?_, .cons ⟨a1, ⟨ks, rfl⟩, a2, a6, vv, a5, a7⟩ i4⟩
        · rw [List.map_cons, ← i1]
          congr 1
          obtain ⟨eh, ek, ev⟩ := e
          show _ = (⟨(nestedKind X.prog X.w).hash (.tup ks), .ref b, ev⟩ : DictEntry)
          have a3 : eh = _ := a3
          have a4 : ek = _ := a4
          rw [a3, a4, ← hX.w]
          rfl
        · rcases List.mem_cons.mp hx with rfl | hx
          · exact ⟨nested_of I hX.K a6 rfl a1, a2⟩
          · exact i2 x hx
        · rw [List.map_cons, List.map_cons, i3, a1]
    obtain ⟨xs, i1, i2, i3, i4⟩ := key h7
    refine ⟨xs, ⟨o, es, ep, ho, h2, h3, i1, i2, ?_⟩, ?_, h4, i4⟩
    · rw [← i3] at h6
      have e : xs.map (fun x => some x.1) = (xs.map (·.1)).map some := by rw [List.map_map]; rfl
      rw [e] at h6
      exact nodup_some.mp h6
    · have := congrArg List.length i1
      rw [List.length_map, Array.length_toList] at this
      omega
theorem keyB_cases {k : D} (h : keyB k = true) : (∃ j : Key, k = leafD j) ∨ ∃ ds ks, k = .tuple ds ∧ keyOf k = some (.tup ks) ∧ NestedKey.depth (.tup ks) ≤ 8 := by
  cases k with
  | int i => exact .inl ⟨.inl i, rfl⟩
  | str x => exact .inl ⟨.inr x, rfl⟩
  | tuple ds =>
    cases e : keyOf (.tuple ds) with
    | none => simp [keyB, e] at h
    | some nk =>
      obtain ⟨ks, rfl⟩ := keyOf_tup e rfl
      exact .inr ⟨ds, ks, rfl, rfl, by simpa [keyB, e] using h⟩
  | _ => simp [keyB] at h
theorem uni_of {k : D} (h : uni kvs k = true) : keyB k = true ∧ ∀ p ∈ kvs, isTup p.1 = isTup k := by
  unfold uni at h
  rw [Bool.and_eq_true, List.all_eq_true] at h
  exact ⟨h.1, fun p hp => by simpa using h.2 p hp⟩
theorem leaf_rel {j : Key} {y : V} {u : Value} {K : PySem.W.Frag} {w : World} (r : DpF w K H y (leafD j)) (ry : RelV y u) : (mixKind X.prog X.w).is j u = true := by
  cases j with
  | inl i => cases r; exact kV_is (k := .inl i) ry
  | inr x => cases r; exact kV_is (k := .inr x) ry
theorem nest_room (hX : Here G X) : (nestedKind X.prog X.w).room X.A.in1 := by
  have := hX.hu
  show X.A.in1.units + 8 < cLine
  show X.A.units + 1 + 8 < cLine
  omega
/-- d[k] -/
theorem dic_get (I : L2.Inv X pins σ H s) (hX : Here G X) (c : CellOk G μ H a (.dic kvs)) {k : D} {y : V} {u : Value} {x : A} {E : Value → Shared → Prop} {Q : Value → Shared → Prop} (hk : uni kvs k = true) (ry : DpF G.w G.K H y k) (rv : RelV y u) (hx : dGet kvs k = some x)
    (h : ∀ v r s', L2.Inv X pins σ H s' → RelV v r → RelA G μ H x v → Q r s') : wpAny (model X.prog X.w) X.A (getItem (.ref a) u) Q E s := by
  obtain ⟨h1, h2⟩ := uni_of hk
  rcases keyB_cases h1 with ⟨j, rfl⟩ | ⟨ds, ks, rfl, e, dp⟩
  · obtain ⟨vs, dd, z, lo, rel⟩ := dic_L I c fun p hp => by rw [h2 p hp]; cases j <;> rfl
    rcases get_L (R := fun a u => ∃ v, RelV v u ∧ RelA G μ H a v) j rel with ⟨e1, _⟩ | ⟨x', r, e1, e2, v, r1, r2⟩
    · rw [e1] at hx; cases hx
    · rw [e1] at hx; cases hx
      exact wpAny_getItem_of (leaf_rel ry rv) dd.mapOf e2 (h v r _ (I.tok _) r1 r2)
  · obtain ⟨xs, dd, z, lo, rel⟩ := dic_T I hX c h2
    rcases get_T (R := TR G μ H) e rel with ⟨e1, _⟩ | ⟨p, q, e1, e2, _, _, _, v, r1, r2⟩
    · rw [e1] at hx; cases hx
    · rw [e1] at hx; cases hx
      obtain ⟨b, rfl⟩ : ∃ b, y = .ref b := by cases ry; exact ⟨_, rfl⟩
      cases rv
      exact wpAny_getItem_heap (nest_room hX) ⟨nested_of I hX.K ry rfl e, dp⟩ dd e2 (h v _ _ (I.tok _) r1 r2)
/-- k in d, k not in d -/
theorem dic_in (I : L2.Inv X pins σ H s) (hX : Here G X) (c : CellOk G μ H a (.dic kvs)) {k : D} {y : V} {u : Value} {E : Value → Shared → Prop} {Q : Value → Shared → Prop} (hk : uni kvs k = true) (ry : DpF G.w G.K H y k) (rv : RelV y u)
    (h : ∀ s', L2.Inv X pins σ H s' → Q (.bool (dGet kvs k).isSome) s') : wpAny (model X.prog X.w) X.A (compareOp .In u (.ref a)) Q E s := by
  obtain ⟨h1, h2⟩ := uni_of hk
  rcases keyB_cases h1 with ⟨j, rfl⟩ | ⟨ds, ks, rfl, e, dp⟩
  · obtain ⟨vs, dd, z, lo, rel⟩ := dic_L I c fun p hp => by rw [h2 p hp]; cases j <;> rfl
    refine wpAny_in_of (leaf_rel ry rv) lo dd.mapOf ?_
    have e : (dGet kvs (leafD j)).isSome = (valueAt vs j).isSome := by
      rcases get_L (R := fun a u => ∃ v, RelV v u ∧ RelA G μ H a v) j rel with ⟨e1, e2⟩ | ⟨_, _, e1, e2, _⟩ <;> rw [e1, e2] <;> rfl
    rw [← e]
    exact h _ (I.tok _)
  · obtain ⟨xs, dd, z, lo, rel⟩ := dic_T I hX c h2
    obtain ⟨b, rfl⟩ : ∃ b, y = .ref b := by cases ry; exact ⟨_, rfl⟩
    cases rv
    refine wpAny_in_heap (nest_room hX) ⟨nested_of I hX.K ry rfl e, dp⟩ lo dd ?_
    have e : (dGet kvs (.tuple ds)).isSome = (atKey xs (.tup ks)).isSome := by
      rcases get_T (R := TR G μ H) e rel with ⟨e1, e2⟩ | ⟨_, _, e1, e2, _⟩ <;> rw [e1, e2] <;> rfl
    rw [← e]
    exact h _ (I.tok _)
theorem dic_notIn (I : L2.Inv X pins σ H s) (hX : Here G X) (c : CellOk G μ H a (.dic kvs)) {k : D} {y : V} {u : Value} {E : Value → Shared → Prop} {Q : Value → Shared → Prop} (hk : uni kvs k = true) (ry : DpF G.w G.K H y k) (rv : RelV y u)
    (h : ∀ s', L2.Inv X pins σ H s' → Q (.bool (!(dGet kvs k).isSome)) s') : wpAny (model X.prog X.w) X.A (compareOp .NotIn u (.ref a)) Q E s := by
  obtain ⟨h1, h2⟩ := uni_of hk
  rcases keyB_cases h1 with ⟨j, rfl⟩ | ⟨ds, ks, rfl, e, dp⟩
  · obtain ⟨vs, dd, z, lo, rel⟩ := dic_L I c fun p hp => by rw [h2 p hp]; cases j <;> rfl
    refine wpAny_notIn_of (leaf_rel ry rv) lo dd.mapOf ?_
    have e : (dGet kvs (leafD j)).isSome = (valueAt vs j).isSome := by
      rcases get_L (R := fun a u => ∃ v, RelV v u ∧ RelA G μ H a v) j rel with ⟨e1, e2⟩ | ⟨_, _, e1, e2, _⟩ <;> rw [e1, e2] <;> rfl
    rw [← e]
    exact h _ (I.tok _)
  · obtain ⟨xs, dd, z, lo, rel⟩ := dic_T I hX c h2
    obtain ⟨b, rfl⟩ : ∃ b, y = .ref b := by cases ry; exact ⟨_, rfl⟩
    cases rv
    refine wpAny_notIn_heap (nest_room hX) ⟨nested_of I hX.K ry rfl e, dp⟩ lo dd ?_
    have e : (dGet kvs (.tuple ds)).isSome = (atKey xs (.tup ks)).isSome := by
      rcases get_T (R := TR G μ H) e rel with ⟨e1, e2⟩ | ⟨_, _, e1, e2, _⟩ <;> rw [e1, e2] <;> rfl
    rw [← e]
    exact h _ (I.tok _)
theorem pers_dic (c : CellOk G μ H a (.dic kvs)) {o : HO} : Pers H (upd H a o) := by
  rcases c with ⟨ks, h1, h2⟩ | ⟨_, o', es, ep, h1, _⟩
  · exact upd_pers (fun _ z => by rw [h1] at z; cases z) (fun _ _ z => by rw [h1] at z; cases z)
  · exact upd_pers (fun _ z => by rw [h1] at z; cases z) (fun _ _ z => by rw [h1] at z; cases z)
theorem mut_dic (c : CellOk G μ H a (.dic kvs)) : Mut (H a) := by
  rcases c with ⟨ks, h1, h2⟩ | ⟨_, o', es, ep, h1, _⟩ <;> rw [h1] <;> trivial
theorem len_dPut (kvs : List (D × A)) (k : D) (v : A) : (dPut kvs k v).length ≤ kvs.length + 1 := by
  unfold dPut
  split <;> simp
theorem dPut_ne (kvs : List (D × A)) (k : D) (v : A) : dPut kvs k v ≠ [] := by
  unfold dPut
  split
  · rename_i h
    cases kvs with
    | nil => simp [dGet] at h
    | cons p r => simp
  · simp
/-- d[k] = v -/
theorem dic_set (I : L2.Inv X pins σ H s) (hX : Here G X) (c : CellOk G μ H a (.dic kvs)) {k : D} {y z : V} {u r : Value} {x : A} {E : Value → Shared → Prop} {Q : Unit → Shared → Prop} (hk : uni kvs k = true) (hz : kvs.length < 16777216) (ry : DpF G.w G.K H y k) (rv : RelV y u) (rx : RelA G μ H x z) (rz : RelV z r)
    (h : ∀ o s', L2.Inv X pins σ (upd H a o) s' → CellOk G μ (upd H a o) a (.dic (dPut kvs k x)) → Q () s') : wpAny (model X.prog X.w) X.A (setItem (.ref a) u r) Q E s := by
  obtain ⟨h1, h2⟩ := uni_of hk
  have hl : (dPut kvs k x).length ≤ sizeLine := by
    have := len_dPut kvs k x
    rw [line_eq]; omega
  rcases keyB_cases h1 with ⟨j, rfl⟩ | ⟨ds, ks, rfl, e, dp⟩
  · obtain ⟨vs, dd, z', lo, rel⟩ := dic_L I c fun p hp => by rw [h2 p hp]; cases j <;> rfl
    refine wpAny_setItem_pairs (hsz := z') (leaf_rel ry rv) dd fun h' dd' hs => ?_
    have he : ∃ q, h'.get? a = some q := let ⟨q, _, _, hq, _⟩ := dd'; ⟨q, hq⟩
    have rel' := put_L (R := fun a u => ∃ v, RelV v u ∧ RelA G μ H a v) j (x := x) ⟨z, rz, rx⟩ rel
    -- the values
    have mk : ∀ {kvs : List (D × A)} {vs : List (Key × Value)}, Paired (fun p q => p.1 = leafD q.1 ∧ ∃ v, RelV v q.2 ∧ RelA G μ H p.2 v) kvs vs → ∃ ks : List (Key × V), KV ks vs ∧ Paired (LeafR G μ H) kvs ks := by
      intro kvs vs h
      induction h with
      | nil => exact ⟨[], .nil, .nil⟩
      | @cons p q _ _ r t ih =>
        obtain ⟨ks, i1, i2⟩ := ih
        obtain ⟨e1, v, r1, r2⟩ := r
        exact ⟨(q.1, v) :: ks, .cons ⟨rfl, r1⟩ i1, .cons ⟨e1, r2⟩ i2⟩
    obtain ⟨ks, k1, k2⟩ := mk rel'
    refine h (.dK ks) _ (d_write I (mut_dic c) hs he ⟨by rw [← Paired.length k2]; exact hl, lo, _, k1, dd'⟩) (.inl ⟨ks, upd_same, Paired.mapP k2 fun p q t => ⟨t.1, by simpa using RelA.mono (pers_dic c) [] t.2⟩⟩)
  · obtain ⟨xs, dd, z', lo, rel⟩ := dic_T I hX c h2
    obtain ⟨b, rfl⟩ : ∃ b, y = .ref b := by cases ry; exact ⟨_, rfl⟩
    cases rv
    refine wpAny_setItem_heap (hsz := z') (nest_room hX) ⟨nested_of I hX.K ry rfl e, dp⟩ dd fun h' dd' hs => ?_
    obtain ⟨q, es, ep, hq, g2, g3, g4, g5, g6⟩ := dd'
    have rel' := put_T (R := TR G μ H) e (x := x) (b := b) (u := r) ⟨⟨ks, rfl⟩, dp, ry, z, rz, rx⟩ (fun p q t => ⟨t.1, t.2.1, t.2.2.1, z, rz, rx⟩) rel
    have hlen := Paired.length rel'
    refine h (exactly a q) _ (d_write I (mut_dic c) hs ⟨q, hq⟩ ⟨hq, ⟨q, hq⟩, fun h1 h2 t k => k _ t⟩) (.inr ⟨dPut_ne _ _ _, q, es, ep, upd_same, g2, g3, lo, ?_, ?_, ?_⟩)
    · rw [← Array.length_toList, g4, List.length_map, ← hlen]; exact hl
    · have : (dPut kvs (.tuple ds) x).map (fun p => keyOf p.1) = ((storedH xs (.tup ks) b r).map (·.1)).map some := by
        rw [List.map_map]
        clear hlen g4 g5 g6
        generalize dPut kvs (.tuple ds) x = l1 at rel' ⊢
        generalize storedH xs (.tup ks) b r = l2 at rel' ⊢
        induction rel' with
        | nil => rfl
        | cons r t ih => rw [List.map_cons, List.map_cons, ih, r.1]; rfl
      rw [this]
      exact nodup_some.mpr g6
    · rw [g4]
      clear hlen g4 g5 g6
      generalize dPut kvs (.tuple ds) x = l1 at rel' ⊢
      generalize storedH xs (.tup ks) b r = l2 at rel' ⊢
      induction rel' with
      | nil => exact .nil
      | @cons p q _ _ r t ih =>
        obtain ⟨e1, ⟨ks', e2⟩, e3, e4, v, e5, e6⟩ := r
        obtain ⟨qk, qb, qv⟩ := q
        cases e2
        refine .cons ⟨ks', qb, v, e1, e3, by rw [← hX.w]; rfl, rfl, e5, DpF.mono (pers_dic c) e4, by simpa using RelA.mono (pers_dic c) [] e6⟩ ih
end
end Ev

/-! Ev11: rules over dicts: {}, d[k], k in d, d[k] = v, len, sorted; a list times a number. -/
namespace Ev
open PySem PySem.Spec PyProof.Rows L2

section
variable {G : Gl} {sc : Scope} {N : List Str} {pos p' : Pos} {e o i : Expr} {de dd di : DE}
/-- {} -/
def dNewD : DE := fun _ S => .ok (.loc S.length) (S ++ [.dic []])
theorem r_newD : Snd G sc N (.Dict [] [] pos) dNewD := fun X W st tk => ⟨fun pins s σ H Q I ⟨μ, l, S, ss, sl, h⟩ => pe_dnewK.run pins s σ H Q I fun a hn => by
  have sm := same_new (o := .dK []) hn
  have g : Grow μ (μ ++ [a]) H (upd H a (.dK [])) := Grow.new hn sm
  refine h _ _ _ g (ss.new hn sm (by rw [upd_same]; simp) (.inl ⟨[], upd_same, .nil⟩)) ?_
  exact ⟨a, by rw [List.getElem?_append_right (by rw [ss.len]; exact Nat.le_refl _)]; simp [ss.len], rfl⟩⟩
/-- d[k], else as of a sequence -/
def ixU : A → A → Store → Option A := fun a b S => match a with
  | .loc n => match S[n]? with
    | some (.dic kvs) => match b with
      | .d k => if uni kvs k = true then dGet kvs k else none
      | _ => none
    | _ => ixA a b S
  | _ => ixA a b S
theorem dic_type {X : Cx} {pins : List (Addr × Obj)} {σ : L2.St} {H : Hp} {s : Shared} {μ : List Addr} {a : Addr} {kvs : List (D × A)} (I : L2.Inv X pins σ H s) (c : CellOk G μ H a (.dic kvs)) : s.TypeIs (.ref a) "dict" := by
  rcases c with ⟨ks, h1, h2⟩ | ⟨_, o, es, ep, h1, h2, _⟩
  · obtain ⟨_, _, vs, _, dd⟩ := dk_of I.hok h1
    exact dd.typeIs
  · exact ⟨o, (I.hok a _ h1).1, h2.1⟩
theorem ix_U : IxS G ixU := fun X hX value slice pins s σ H x y v u Q I rx ry ⟨μ, a, b, S, r, ss, ra, rb, e, q⟩ hs => by
  unfold ixU at e
  split at e
  · rename_i n
    split at e
    · rename_i kvs hc
      split at e
      · rename_i k
        split at e
        · rename_i hu
          obtain ⟨p, hp, rfl⟩ := ra
          obtain ⟨p', hp', c⟩ := ss.cells n _ hc
          rw [hp] at hp'; cases hp'
          cases rx
          exact tail_any (dic_type I c) PySem.F.slot_dict_getitem.lookup (dic_get I hX c hu rb ry e fun v' r' s' I' r1 r2 => ⟨v', H, I', r1, q H v' (Same.refl _) r2⟩) hs
        · cases e
      · cases e
    · exact ix_A X hX value slice pins s σ H x y v u Q I rx ry ⟨μ, .loc n, b, S, r, ss, ra, rb, e, q⟩ hs
  · exact ix_A X hX value slice pins s σ H x y v u Q I rx ry ⟨μ, a, b, S, r, ss, ra, rb, e, q⟩ hs
/-- k in d, else as of data -/
def inU : A → A → Store → Option A := fun a b S => match a, b with
  | .d k, .loc n => match S[n]? with
    | some (.dic kvs) => if uni kvs k = true then some (.d (.bool (dGet kvs k).isSome)) else none
    | _ => none
  | _, _ => pu2 (boolD inD) a b S
theorem op_inU : OpS G (compareOp .In) inU := fun X hX pins s σ H x y v u Q I rx ry ⟨μ, a, b, S, r, ss, ra, rb, e, q⟩ => by
  unfold inU at e
  split at e
  · rename_i k n
    split at e
    · rename_i kvs hc
      simp only [Option.ite_none_right_eq_some, Option.some.injEq] at e
      obtain ⟨hu, rfl⟩ := e
      obtain ⟨p, hp, rfl⟩ := rb
      obtain ⟨p', hp', c⟩ := ss.cells n _ hc
      rw [hp] at hp'; cases hp'
      cases ry
      exact dic_in I hX c hu ra rx fun s' I' => ⟨.bl _, H, I', rfl, q H _ (Same.refl _) (.bl _)⟩
    · cases e
  · exact op_inDD.s X hX pins s σ H x y v u Q I rx ry ⟨μ, a, b, S, r, ss, ra, rb, e, q⟩
def ninU : A → A → Store → Option A := fun a b S => match a, b with
  | .d k, .loc n => match S[n]? with
    | some (.dic kvs) => if uni kvs k = true then some (.d (.bool (!(dGet kvs k).isSome))) else none
    | _ => none
  | _, _ => pu2 (notD inD) a b S
theorem op_ninU : OpS G (compareOp .NotIn) ninU := fun X hX pins s σ H x y v u Q I rx ry ⟨μ, a, b, S, r, ss, ra, rb, e, q⟩ => by
  unfold ninU at e
  split at e
  · rename_i k n
    split at e
    · rename_i kvs hc
      simp only [Option.ite_none_right_eq_some, Option.some.injEq] at e
      obtain ⟨hu, rfl⟩ := e
      obtain ⟨p, hp, rfl⟩ := rb
      obtain ⟨p', hp', c⟩ := ss.cells n _ hc
      rw [hp] at hp'; cases hp'
      cases ry
      exact dic_notIn I hX c hu ra rx fun s' I' => ⟨.bl _, H, I', rfl, q H _ (Same.refl _) (.bl _)⟩
    · cases e
  · exact op_ninDD.s X hX pins s σ H x y v u Q I rx ry ⟨μ, a, b, S, r, ss, ra, rb, e, q⟩

/-! ### len -/
def lenA : List A → Store → Option A := fun xs S => match xs with
  | [.d (.str z)] => if z.length ≤ 16777216 then some (.d (.int z.length)) else none
  | [.d (.list ds)] => some (.d (.int ds.length))
  | [.d (.tuple ds)] => some (.d (.int ds.length))
  | [.loc n] => match S[n]? with
    | some (.lst as) => some (.d (.int as.length))
    | some (.dic kvs) => some (.d (.int kvs.length))
    | some (.fzn (.list ds)) => some (.d (.int ds.length))
    | _ => none
  | _ => none
theorem call_lenA : CallS G (.builtin "len") lenA := fun X hX pins s σ H xs us Q I r ⟨μ, as, S, rr, ss, ra, e, q⟩ => by
  unfold lenA at e
  split at e
  · simp only [Option.ite_none_right_eq_some, Option.some.injEq] at e
    obtain ⟨hz, rfl⟩ := e
    obtain ⟨v, rfl, rv⟩ := ra.one
    cases rv
    exact call_len_str pins s σ H _ us Q I r ⟨_, rfl, by rw [line_eq]; exact hz, q H _ (Same.refl _) (.int _)⟩
  · cases e
    obtain ⟨v, rfl, rv⟩ := ra.one
    cases rv with
    | lst fz fs => exact call_len_seq pins s σ H _ us Q I r ⟨_, _, rfl, .inl (by rw [hX.K]; exact fz.sq), by rw [fs.length]; exact q H _ (Same.refl _) (.int _)⟩
  · cases e
    obtain ⟨v, rfl, rv⟩ := ra.one
    cases rv with
    | tup sq fs => exact call_len_seq pins s σ H _ us Q I r ⟨_, _, rfl, .inr (by rw [hX.K]; exact sq), by rw [fs.length]; exact q H _ (Same.refl _) (.int _)⟩
  · rename_i n
    obtain ⟨v, rfl, p, hp, rfl⟩ := ra.one
    split at e
    · rename_i as hc
      cases e
      obtain ⟨p', hp', vs, h1, h2⟩ := ss.cells n _ hc
      rw [hp] at hp'; cases hp'
      exact call_len_seq pins s σ H _ us Q I r ⟨_, _, rfl, .inl (.of h1), by rw [← Paired.length h2]; exact q H _ (Same.refl _) (.int _)⟩
    · rename_i kvs hc
      cases e
      obtain ⟨p', hp', c⟩ := ss.cells n _ hc
      rw [hp] at hp'; cases hp'
      obtain ⟨u, rfl, ru⟩ := vals1 r
      cases ru
      rcases id c with ⟨ks, h1, h2⟩ | ⟨ne, _, _, _, _, _, _, _, _, _, h7⟩
      · exact d_len I (.inl h1) fun t s' I' => ⟨.int kvs.length, H, I', ⟨t, by rw [Paired.length h2]⟩, q H _ (Same.refl _) (.int _)⟩
      · have hk : ∀ p ∈ kvs, isTup p.1 = true := fun p hp => by
          have key : ∀ {kvs : List (D × A)} {es : List DictEntry}, Paired (EntR G μ H) kvs es → ∀ p ∈ kvs, isTup p.1 = true := by
            intro kvs es h
            induction h with
            | nil => intro p hp; cases hp
            | @cons a b _ _ r t ih =>
              intro p hp
              rcases List.mem_cons.mp hp with rfl | hp
              · obtain ⟨ks, b, vv, a1, _⟩ := r
                cases hp1 : p.1 with
                | tuple ds => rfl
                | _ => rw [hp1] at a1; simp [keyOf] at a1
              · exact ih p hp
          exact key h7 p hp
        obtain ⟨xs, dd, z, lo, rel⟩ := dic_T I hX c hk
        have hl : kvs.length = xs.length := Paired.length rel
        refine call_len_dictH lo dd (by rw [line_eq] at z; omega) ?_
        rw [← hl]
        exact ⟨.int kvs.length, H, I.tok _, ⟨_, rfl⟩, q H _ (Same.refl _) (.int _)⟩
    · rename_i ds hc
      cases e
      obtain ⟨p', hp', h1⟩ := ss.cells n _ hc
      rw [hp] at hp'; cases hp'
      cases h1 with
      | lst fz fs => exact call_len_seq pins s σ H _ us Q I r ⟨_, _, rfl, .inl (by rw [hX.K]; exact fz.sq), by rw [fs.length]; exact q H _ (Same.refl _) (.int _)⟩
    · cases e
  · cases e

/-! ### o[i] = e -/
def setIx (x y v : A) (S : Store) : Option Store := match x, y with
  | .loc n, .d k => match S[n]? with
    | some (.lst xs) => match k with
      | .int i => (ixN xs.length i).map fun j => S.set n (.lst (xs.set j v))
      | _ => none
    | some (.dic kvs) => if uni kvs k = true ∧ kvs.length < 16777216 then some (S.set n (.dic (dPut kvs k v))) else none
    | _ => none
  | _, _ => none
theorem paired_set {α β : Type} {R : α → β → Prop} {a : α} {b : β} (r : R a b) : ∀ {xs : List α} {ys : List β} (j : Nat), Paired R xs ys → Paired R (xs.set j a) (ys.set j b)
  | _, _, _, .nil => .nil
  | _, _, 0, .cons q t => .cons r t
  | _, _, j + 1, .cons q t => .cons q (paired_set r j t)
def tSt (G : Gl) : V → V → V → Hp → (Hp → Prop) → Prop := fun o i v H Q => ∃ μ S x y z S', SimS G μ S H ∧ RelA G μ H x o ∧ RelA G μ H y i ∧ RelA G μ H z v ∧ setIx x y z S = some S' ∧ ∀ H', Grow μ μ H H' → SimS G μ S' H' → Q H'
theorem set_St {X : Cx} (hX : Here G X) : PSet X (tSt G) := fun pins s σ H o i v ov iv u Q I ro ri rv ⟨μ, S, x, y, z, S', ss, rx, ry, rz, e, q⟩ => by
  unfold setIx at e
  split at e
  · rename_i n k
    obtain ⟨p, hp, rfl⟩ := rx
    split at e
    · rename_i as hc
      split at e
      · rename_i j
        simp only [Option.map_eq_some_iff] at e
        obtain ⟨m, hm, rfl⟩ := e
        obtain ⟨p', hp', vs, h1, h2⟩ := ss.cells n _ hc
        rw [hp] at hp'; cases hp'
        cases ry
        have pe : Pers H (upd H p (.lst (vs.set m v))) := upd_pers (fun _ z => by rw [h1] at z; cases z) (fun _ _ z => by rw [h1] at z; cases z)
        have g : Grow μ μ H (upd H p (.lst (vs.set m v))) := Grow.set hp pe
        refine set_list pins s σ H _ _ v ov iv u Q I ro ri rv ⟨p, vs, j, m, rfl, rfl, h1, by rw [← Paired.length h2]; exact hm, q _ g (ss.set hp pe ⟨_, upd_same, paired_set (rz.grow g) m (RelAs.grow g h2)⟩)⟩
      · cases e
    · rename_i kvs hc
      simp only [Option.ite_none_right_eq_some, Option.some.injEq] at e
      obtain ⟨⟨hu, hz⟩, rfl⟩ := e
      obtain ⟨p', hp', c⟩ := ss.cells n _ hc
      rw [hp] at hp'; cases hp'
      cases ro
      exact dic_set I hX c hu hz ry ri rz rv fun ob s' I' c' => ⟨_, I', q _ (Grow.set hp (pers_dic c)) (ss.set hp (pers_dic c) c')⟩
    · cases e
  · cases e
def dSetI (dv dd di : DE) : DS := fun l S => (dv l S).thenS l fun v S1 => (dd l S1).thenS l fun x S2 => (di l S2).thenS l fun y S3 => match setIx x y v S3 with
  | some S4 => .nx l S4
  | none => .no
theorem r_setI (hv : Snd G sc N e de) (ho : Snd G sc N o dd) (hi : Snd G sc N i di) (hs : ∀ env, swapsWith e (some (.Subscript o i p')) pos.line env = pure false := by intro _; rfl) : SndS G sc N (.Assign [.Subscript o i p'] e pos) (dSetI de dd di) := fun X W st tk => ⟨fun pins s σ H D I q => by
  refine wpAny_Assign_Subscript ?_ (hs X.env)
  refine thn ((hv X W st.toStat tk).run pins s σ H _ I (then_read (rel := RelA G) q)) fun u1 s1 ⟨v, H1, I1, rv, q1⟩ => ?_
  obtain ⟨μ1, l, a, S1, ss1, sl1, r1, q1⟩ := q1
  refine thn ((ho X W st.toStat tk).run pins s1 σ H1 (fun x H2 => ∃ μ2 S2 b, SimS G μ2 S2 H2 ∧ SimL G μ2 H2 l σ ∧ RelA G μ2 H2 a v ∧ RelA G μ2 H2 b x ∧ AftS G W D μ2 H2 ((di l S2).thenS l fun y S3 => match setIx b y a S3 with | some S4 => .nx l S4 | none => .no) ) I1 ?_) fun u2 s2 ⟨x, H2, I2, rx, μ2, S2, b, ss2, sl2, r2, r2', q2⟩ => ?_
  · refine ⟨μ1, l, S1, ss1, sl1, ?_⟩
    cases e2 : dd l S1 with
    | no => rw [e2] at q1; exact q1
    | exc x S2 => rw [e2] at q1; exact fun μ2 H2 c dx g s2 r2 => q1 μ2 H2 σ c dx g s2 (sl1.grow g) r2
    | ok b S2 =>
      rw [e2, Res.ok_thenS] at q1
      exact fun μ2 H2 x g2 s2 r2 => ⟨μ2, S2, b, s2, sl1.grow g2, r1.grow g2, r2, AftS.grow q1 g2⟩
  refine thn ((hi X W st.toStat tk).run pins s2 σ H2 (fun y H3 => ∃ μ3 S3 c, SimS G μ3 S3 H3 ∧ SimL G μ3 H3 l σ ∧ RelA G μ3 H3 a v ∧ RelA G μ3 H3 b x ∧ RelA G μ3 H3 c y ∧ AftS G W D μ3 H3 (match setIx b c a S3 with | some S4 => .nx l S4 | none => .no)) I2 ?_) fun u3 s3 ⟨y, H3, I3, ry, μ3, S3, c, ss3, sl3, r3, r3', r3'', q3⟩ => ?_
  · refine ⟨μ2, l, S2, ss2, sl2, ?_⟩
    cases e3 : di l S2 with
    | no => rw [e3] at q2; exact q2
    | exc x S3 => rw [e3] at q2; exact fun μ3 H3 c dx g s3 r3 => q2 μ3 H3 σ c dx g s3 (sl2.grow g) r3
    | ok c S3 =>
      rw [e3, Res.ok_thenS] at q2
      exact fun μ3 H3 y g3 s3 r3 => ⟨μ3, S3, c, s3, sl2.grow g3, r2.grow g3, r2'.grow g3, r3, AftS.grow q2 g3⟩
  split at q3
  · rename_i S4 e4
    refine thn (set_St st.here pins s3 σ H3 x y v u2 u3 u1 (fun H4 => D.nx σ H4) I3 rx ry rv ⟨μ3, S3, b, c, a, S4, ss3, r3', r3'', r3, e4, fun H4 g s4 => q3 μ3 H4 σ g s4 (sl3.grow g)⟩) fun _ s4 ⟨H4, I4, q4⟩ => ⟨σ, H4, I4, q4⟩
  · exact q3.elim⟩

/-! ### sorted, ints -/
def sortN (ns : List Int) : List Int := ns.mergeSort fun a b => decide (a ≤ b)
theorem sortN_eq {ns ms : List Int} (h : ms.Perm ns) (s : ms.Pairwise (· ≤ ·)) : ms = sortN ns := by
  refine List.Perm.eq_of_pairwise (le := (· ≤ ·)) (fun a b _ _ h1 h2 => Int.le_antisymm h1 h2) s ?_ (h.trans (List.mergeSort_perm ns _).symm)
  exact (List.pairwise_mergeSort (le := fun a b : Int => decide (a ≤ b)) (fun a b c h1 h2 => by simp at h1 h2 ⊢; omega) (fun a b => by simp; omega) ns).imp fun h => by simpa using h
def keysI : List (D × A) → Option (List Int)
  | [] => some []
  | (.int i, _) :: r => (keysI r).map (i :: ·)
  | _ => none
def sortA : List A → Store → Option A := fun xs S => match xs with
  | [.d (.list ds)] => (intsOf ds).map fun ns => .d (.list ((sortN ns).map .int))
  | [.loc n] => match S[n]? with
    | some (.dic kvs) => match keysI kvs with
      | some ns => if ns.length < 64 then some (.d (.list ((sortN ns).map .int))) else none
      | none => none
    | _ => none
  | _ => none
theorem ints_fs {w : World} {K : PySem.W.Frag} {H : Hp} : ∀ ns : List Int, DpFs w K H (ns.map V.int) (ns.map PyData.int)
  | [] => .nil
  | n :: ns => .cons (.int n) (ints_fs ns)
theorem keysI_some {μ : List Addr} {H : Hp} : ∀ {kvs : List (D × A)} {ns : List Int} {ks : List (Key × V)}, keysI kvs = some ns → Paired (LeafR G μ H) kvs ks → ks.map (·.1) = ns.map Sum.inl
  | [], ns, _, h, .nil => by cases h; rfl
  | (d, a) :: kvs, ns, (j, v) :: ks, h, .cons r t => by
    cases d with
    | int i =>
      simp only [keysI, Option.map_eq_some_iff] at h
      obtain ⟨ms, h, rfl⟩ := h
      have r1 : PyData.int i = leafD j := r.1
      cases j with
      | inl i' => cases r1; rw [List.map_cons, List.map_cons, keysI_some h t]
      | inr x => cases r1
    | _ => simp [keysI] at h
theorem call_sortA : CallS G (.builtin "sorted") sortA := fun X hX pins s σ H xs us Q I r ⟨μ, as, S, rr, ss, ra, e, q⟩ => by
  have fin : ∀ (ns ms : List Int) (p : Addr), H p = none → ms.Perm ns → ms.Pairwise (· ≤ ·) → (∀ H' v, Same H H' → RelA G μ H' (.d (.list ((sortN ns).map .int))) v → Q v H') → ∀ s', L2.Inv X pins σ (upd H p (.lst (ms.map V.int))) s' → ∃ H2, L2.Inv X pins σ H2 s' ∧ Q (.ref p) H2 := fun ns ms p hn h1 h2 q s' I' => by
    obtain ⟨H2, I2, sm, fz⟩ := lock_new (K := G.K) I' hn
    refine ⟨H2, I2, q _ _ sm (.lst fz ?_)⟩
    rw [← sortN_eq h1 h2]
    exact ints_fs ms
  have ghost : ∀ {Q1 : VK}, wpAny (model X.prog X.w) X.A (call (.builtin "sorted") us) (EP X pins σ Q1) X.xe s → (∀ v H1 s', L2.Inv X pins σ H1 s' → Q1 v H1 → ∃ H2, L2.Inv X pins σ H2 s' ∧ Q v H2) → wpAny (model X.prog X.w) X.A (call (.builtin "sorted") us) (EP X pins σ Q) X.xe s := fun h g =>
    thn h fun u s' ⟨v, H1, I1, rv, z⟩ => let ⟨H2, I2, q2⟩ := g v H1 s' I1 z; ⟨v, H2, I2, rv, q2⟩
  unfold sortA at e
  split at e
  · simp only [Option.map_eq_some_iff] at e
    obtain ⟨ns, hn, rfl⟩ := e
    obtain ⟨v, rfl, rv⟩ := ra.one
    cases rv with
    | @lst a vs _ fz fs =>
      rw [intsOf_some hn] at fs
      rw [fs_ints fs] at fz
      refine ghost (cr_sortedI pins s σ H _ us (fun v H1 => ∀ s', L2.Inv X pins σ H1 s' → ∃ H2, L2.Inv X pins σ H2 s' ∧ Q v H2) I r ⟨a, ns, rfl, by rw [hX.K]; exact fz.sq, fun ms p h1 h2 hp => fin ns ms p hp h1 h2 q⟩) fun v H1 s' I1 z => z s' I1
  · rename_i n
    obtain ⟨v, rfl, p, hp, rfl⟩ := ra.one
    split at e
    · rename_i kvs hc
      split at e
      · rename_i ns hk
        simp only [Option.ite_none_right_eq_some, Option.some.injEq] at e
        obtain ⟨h64, rfl⟩ := e
        obtain ⟨p', hp', c⟩ := ss.cells n _ hc
        rw [hp] at hp'; cases hp'
        rcases c with ⟨ks, h1, h2⟩ | ⟨ne, o, es, ep, h1, _, _, _, _, _, h7⟩
        · refine ghost (call_sortedDI hX.calm pins s σ H _ us (fun v H1 => ∀ s', L2.Inv X pins σ H1 s' → ∃ H2, L2.Inv X pins σ H2 s' ∧ Q v H2) I r ⟨p, ks, ns, rfl, .inl h1, keysI_some hk h2, h64, fun ms p h1 h2 hp => fin ns ms p hp h1 h2 q⟩) fun v H1 s' I1 z => z s' I1
        · cases kvs with
          | nil => exact absurd rfl ne
          | cons q1 kvs =>
            obtain ⟨e1, _, _, ⟨ks, b, vv, a1, _⟩, _⟩ := pcons h7
            obtain ⟨d, a⟩ := q1
            cases d <;> simp [keysI] at hk
            simp [keyOf] at a1
      · cases e
    · cases e
  · cases e

/-! ### a list times a number; what is new is data -/
def mulA : A → A → Store → Option A := fun a b S => match a, b with
  | .loc n, .d (.int k) => match S[n]? with
    | some (.lst as) => match pures as with
      | some ds => if decide (-4611686018427387904 ≤ k) && decide (k < 4611686018427387904) && decide (ds.length * k.toNat ≤ 16777216) then some (.d (.list (List.replicate k.toNat ds).flatten)) else none
      | none => none
    | _ => none
  | _, _ => pu2 mulD a b S
theorem rep_fs {w : World} {K : PySem.W.Frag} {H : Hp} {vs : List V} {ds : List D} (h : DpFs w K H vs ds) : ∀ k : Nat, DpFs w K H (List.replicate k vs).flatten (List.replicate k ds).flatten
  | 0 => .nil
  | k + 1 => by rw [List.replicate_succ, List.replicate_succ, List.flatten_cons, List.flatten_cons]; exact h.append (rep_fs h k)
theorem op_mulA : OpS G (binaryOp .Mult) mulA := fun X hX pins s σ H x y v u Q I rx ry ⟨μ, a, b, S, r, ss, ra, rb, e, q⟩ => by
  unfold mulA at e
  split at e
  · rename_i n k
    obtain ⟨p, hp, rfl⟩ := ra
    split at e
    · rename_i as hc
      split at e
      · rename_i ds hds
        simp only [Option.ite_none_right_eq_some, Option.some.injEq, Bool.and_eq_true, decide_eq_true_eq] at e
        obtain ⟨⟨⟨b1, b2⟩, b3⟩, rfl⟩ := e
        obtain ⟨p', hp', vs, h1, h2⟩ := ss.cells n _ hc
        rw [hp] at hp'; cases hp'
        cases rb
        have fs := pures_some hds h2
        refine thn (op_rep pins s σ H _ _ v u (fun v H1 => ∀ s', L2.Inv X pins σ H1 s' → ∃ H2, L2.Inv X pins σ H2 s' ∧ Q v H2) I rx ry ⟨p, k, vs, rfl, rfl, h1, by omega, by omega, by rw [fs.length, line_eq]; exact b3, fun a hn s' I' => ?_⟩) fun u s' ⟨v, H1, I1, rv, z⟩ => let ⟨H2, I2, q2⟩ := z s' I1; ⟨v, H2, I2, rv, q2⟩
        obtain ⟨H2, I2, sm, fz⟩ := lock_new (K := G.K) I' hn
        exact ⟨H2, I2, q _ _ sm (.lst fz ((rep_fs fs _).mono (Pers.of sm)))⟩
      · cases e
    · cases e
  · exact op_mulI.s X hX pins s σ H x y v u Q I rx ry ⟨μ, a, b, S, r, ss, ra, rb, e, q⟩
end
end Ev

/-! Ev12: {k: v for t0 in i0 if .. for t1 in i1 if ..}. -/
namespace Ev
open PySem PySem.Spec PyProof.Rows L2

/-! ### the loops of a dict's comprehension of two clauses -/
abbrev Dc2 (kx vx t0 i0 : Expr) (f0 : List Expr) (t1 i1 : Expr) (f1 : List Expr) (scope : Scope) (pos : Pos) : Expr := .DictComp kx vx [⟨t0, i0, f0, 0⟩, ⟨t1, i1, f1, 0⟩] scope pos
def allTrue (fs : List Expr) (env : Env) : Sem Bool := forIn fs true fun c r => if r = true then do let ok ← isTrue c env (eval c env); pure (ForInStep.yield ok) else pure (ForInStep.yield r)
theorem dc2_turn0 (kx vx t0 i0 t1 i1 : Expr) (f0 f1 : List Expr) (scope : Scope) (pos : Pos) (it acc : Value) (env : Env) : compTurn (Dc2 kx vx t0 i0 f0 t1 i1 f1 scope pos) 0 it acc env = (do
    standAt i0.pos
    match ← pyNext it with
    | none => pure (.done .next)
    | some v =>
      letOwnedTupleGo t0 it v
      assign t0 env v
      let ok ← allTrue f0 env
      if ok then
        let x ← eval i1 env
        standAt i1.pos
        let x ← foldedSetIterable i1 env x
        let _ ← runOwn (.compStart (Dc2 kx vx t0 i0 f0 t1 i1 f1 scope pos) 1 (← holding [x] (pyIter x)) acc env) env
      again (.compLoop (Dc2 kx vx t0 i0 f0 t1 i1 f1 scope pos) 0 it acc env)) := by rfl
theorem dc2_turn1 (kx vx t0 i0 t1 i1 : Expr) (f0 f1 : List Expr) (scope : Scope) (pos : Pos) (it : Value) (a : Addr) (env : Env) : compTurn (Dc2 kx vx t0 i0 f0 t1 i1 f1 scope pos) 1 it (.ref a) env = (do
    standAt i1.pos
    match ← pyNext it with
    | none => pure (.done .next)
    | some v =>
      letOwnedTupleGo t1 it v
      assign t1 env v
      let ok ← allTrue f1 env
      if ok then
        (do
          let k ← eval kx env
          let y ← holding [k] (eval vx env)
          standAt { kx.pos with endLine := vx.pos.endLine, endCol := vx.pos.endCol }
          holding [k, y] (dictSet a k y))
      again (.compLoop (Dc2 kx vx t0 i0 f0 t1 i1 f1 scope pos) 1 it (.ref a) env)) := by rfl
section
variable {P : Program} {w : World} {A : Around} {R : Result → Shared → Prop} {s : Shared} {kx vx t0 i0 t1 i1 : Expr} {f0 f1 : List Expr} {scope : Scope} {pos : Pos} {it : Value} {a : Addr} {env : Env}
/-- nothing is raised in this piece -/
abbrev Calm (P : Program) (w : World) (A : Around) {α : Type} (m : Sem α) (Q : α → Shared → Prop) (s : Shared) : Prop := wpAny (model P w) A m Q (fun _ _ => False) s
theorem Calm.any {α : Type} {m : Sem α} {Q : α → Shared → Prop} {E : Value → Shared → Prop} (h : Calm P w A m Q s) : wpAny (model P w) A m Q E s := wpAny_mono h (fun _ _ q => q) fun _ _ q => q.elim
theorem dc2_loop0 (hs : ∀ x, foldedSetIterable i1 env x = pure x) (J : Nat → Shared → Prop)
    (turn : ∀ n s, J n s → Calm P w A (pyNext it) (fun r z => match r with
      | none => R (.ok .next) z
      | some v => Calm P w A (letOwnedTupleGo t0 it v) (fun _ z => Calm P w A (assign t0 env v) (fun _ z => Calm P w A (allTrue f0 env) (fun ok z =>
          if ok = true then Calm P w A (eval i1 env) (fun x z => Calm P w A (pyIter x) (fun j z =>
            codeAny (model P w) A (.compStart (Dc2 kx vx t0 i0 f0 t1 i1 f1 scope pos) 1 j (.ref a) env) (fun r z => match r with
              | .ok _ => ∃ m, m < n ∧ J m z
              | .error _ => False) z) z) z
          else ∃ m, m < n ∧ J m z) z) z) z) s) (n : Nat) (h : J n s) :
    codeAny (model P w) A (.compLoop (Dc2 kx vx t0 i0 f0 t1 i1 f1 scope pos) 0 it (.ref a) env) R s := by
  refine codeAny_loop rfl J (fun n z hJ => ?_) n h
  show wpAny _ A ((compTurn (Dc2 kx vx t0 i0 f0 t1 i1 f1 scope pos) 0 it (.ref a) env).onRaise _) _ _ z
  refine wpAny_noted ?_
  rw [dc2_turn0]
  refine wpAny_bind (wpAny_standAt (wpAny_bind (wpAny_mono (turn n z hJ) (fun r z1 q1 => ?_) fun _ _ q => q.elim)))
  match r, q1 with
  | none, q1 => exact wpAny_pure q1
  | some v, q1 =>
    refine wpAny_bind (wpAny_mono q1 (fun _ z2 q2 => wpAny_bind (wpAny_mono q2 (fun _ z3 q3 => wpAny_bind (wpAny_mono q3 (fun ok z4 q4 => ?_) fun _ _ q => q.elim)) fun _ _ q => q.elim)) fun _ _ q => q.elim)
    cases ok with
    | false => exact wpAny_pure ⟨rfl, q4⟩
    | true =>
      refine wpAny_bind (wpAny_mono q4 (fun x z5 q5 => ?_) fun _ _ q => q.elim)
      refine wpAny_bind (wpAny_standAt (wpAny_bind (wpAny_of_eq (hs x) (wpAny_bind (wpAny_holding (wpAny_mono q5 (fun j z6 q6 => ?_) fun _ _ q => q.elim))))))
      refine wpAny_bind (wpAny_runOwn ?_)
      rw [Around.mark_none]
      refine codeAny_mono q6 fun r z7 q7 => ?_
      cases r with
      | ok f => first | exact wpAny_pure ⟨rfl, q7⟩ | exact wpAny_bind (wpAny_pure (wpAny_pure ⟨rfl, q7⟩))
      | error e => exact q7.elim
theorem dc2_loop1 (J : Nat → Shared → Prop)
    (turn : ∀ n s, J n s → Calm P w A (pyNext it) (fun r z => match r with
      | none => R (.ok .next) z
      | some v => Calm P w A (letOwnedTupleGo t1 it v) (fun _ z => Calm P w A (assign t1 env v) (fun _ z => Calm P w A (allTrue f1 env) (fun ok z =>
          if ok = true then Calm P w A (eval kx env) (fun k z => Calm P w A (eval vx env) (fun y z => Calm P w A (dictSet a k y) (fun _ z => ∃ m, m < n ∧ J m z) z) z) z
          else ∃ m, m < n ∧ J m z) z) z) z) s) (n : Nat) (h : J n s) :
    codeAny (model P w) A (.compLoop (Dc2 kx vx t0 i0 f0 t1 i1 f1 scope pos) 1 it (.ref a) env) R s := by
  refine codeAny_loop rfl J (fun n z hJ => ?_) n h
  show wpAny _ A ((compTurn (Dc2 kx vx t0 i0 f0 t1 i1 f1 scope pos) 1 it (.ref a) env).onRaise _) _ _ z
  refine wpAny_noted ?_
  rw [dc2_turn1]
  refine wpAny_bind (wpAny_standAt (wpAny_bind (wpAny_mono (turn n z hJ) (fun r z1 q1 => ?_) fun _ _ q => q.elim)))
  match r, q1 with
  | none, q1 => exact wpAny_pure q1
  | some v, q1 =>
    refine wpAny_bind (wpAny_mono q1 (fun _ z2 q2 => wpAny_bind (wpAny_mono q2 (fun _ z3 q3 => wpAny_bind (wpAny_mono q3 (fun ok z4 q4 => ?_) fun _ _ q => q.elim)) fun _ _ q => q.elim)) fun _ _ q => q.elim)
    cases ok with
    | false => exact wpAny_pure ⟨rfl, q4⟩
    | true =>
      refine wpAny_bind (wpAny_bind (wpAny_mono q4 (fun k z5 q5 => ?_) fun _ _ q => q.elim))
      refine wpAny_bind (wpAny_holding (wpAny_mono q5 (fun y z6 q6 => ?_) fun _ _ q => q.elim))
      exact wpAny_bind (wpAny_standAt (wpAny_holding (wpAny_mono q6 (fun _ z7 q7 => wpAny_pure ⟨rfl, q7⟩) fun _ _ q => q.elim)))
theorem dc2_start1 (go : codeAny (model P w) A (.compLoop (Dc2 kx vx t0 i0 f0 t1 i1 f1 scope pos) 1 it (.ref a) env) R s)
    (h : wpAny (model P w) A (pyIter it) (fun j z => codeAny (model P w) A (.compLoop (Dc2 kx vx t0 i0 f0 t1 i1 f1 scope pos) 1 j (.ref a) env) R z) (notedBy (model P w) A env fun x z => R (.error x) z) s) :
    codeAny (model P w) A (.compStart (Dc2 kx vx t0 i0 f0 t1 i1 f1 scope pos) 1 it (.ref a) env) R s := by
  refine codeAny_of_tree ?_
  show wpAny _ A ((compStart (Dc2 kx vx t0 i0 f0 t1 i1 f1 scope pos) 1 it (.ref a) env).onRaise _) _ _ s
  refine wpAny_notedAt ?_
  unfold compStart
  show wpAny _ A (ask >>= _) _ _ s
  refine wpAny_bind (wpAny_askSetting (wpAny_ite ?_))
  split
  · first
      | exact wpAny_pure ⟨rfl, go⟩
      | exact wpAny_bind (wpAny_pure (wpAny_pure ⟨rfl, go⟩))
  · first
      | exact wpAny_bind (wpAny_rule (wpAny_bind (wpAny_standAt (wpAny_bind (wpAny_mono h (fun j z q => wpAny_pure ⟨rfl, q⟩) fun _ _ q => q)))))
      | (refine wpAny_bind (wpAny_rule ?_); show wpAny _ A (standAt i1.pos >>= _) _ _ s; exact wpAny_bind (wpAny_standAt (wpAny_bind (wpAny_mono h (fun j z q => wpAny_pure ⟨rfl, q⟩) fun _ _ q => q))))
end

/-! ### the readings of a comprehension's loops -/
/-- more addresses, what stays for ever stays -/
structure Ext (μ μ' : List Addr) (H H' : Hp) : Prop where
  ex : ∃ ν, μ' = μ ++ ν
  pers : Pers H H'
section
variable {G : Gl} {μ μ' μ1 μ2 : List Addr} {H H' H1 H2 : Hp} {S : Store} {l : Loc} {σ : L2.St} {D : Addr}
theorem Ext.refl : Ext μ μ H H := ⟨⟨[], by simp⟩, Pers.refl H⟩
theorem Ext.trans (a : Ext μ μ1 H H1) (b : Ext μ1 μ2 H1 H2) : Ext μ μ2 H H2 := by
  obtain ⟨ν, rfl⟩ := a.ex
  obtain ⟨ν', rfl⟩ := b.ex
  exact ⟨⟨ν ++ ν', by simp⟩, a.pers.trans b.pers⟩
theorem Grow.ext (g : Grow μ μ' H H') : Ext μ μ' H H' := ⟨let ⟨ν, e, _⟩ := g.ex; ⟨ν, e⟩, g.pers⟩
theorem Ext.pers' (p : Pers H H') : Ext μ μ H H' := ⟨⟨[], by simp⟩, p⟩
theorem RelA.ext (g : Ext μ μ' H H') {a : A} {v : V} (h : RelA G μ H a v) : RelA G μ' H' a v := by
  obtain ⟨ν, rfl⟩ := g.ex
  exact RelA.mono g.pers ν h
theorem SimL.ext (g : Ext μ μ' H H') (s : SimL G μ H l σ) : SimL G μ' H' l σ := ⟨s.len, fun i a e => let ⟨v, h1, h2⟩ := s.at_ i a e; ⟨v, h1, h2.ext g⟩⟩
/-- the accumulator's object at D is set -/
theorem Grow.put {o : HO} (g : Grow μ μ' H H') (hn : H D = none) : Grow μ μ' H (upd H' D o) := by
  refine ⟨g.ex, fun b ob h hm => ?_, fun b h => ?_, ⟨fun b xs h => ?_, fun b ob u h => ?_⟩⟩
  · rw [upd_ne (ne_of_none h hn)]; exact g.fr b ob h hm
  · by_cases z : b = D
    · rw [z, upd_same]; simp
    · rw [upd_ne z]; exact g.keep b h
  · rw [upd_ne (ne_of_none h hn)]; exact g.pers.tup b xs h
  · rw [upd_ne (ne_of_none h hn)]; exact g.pers.frz b ob u h
theorem SimS.put {o : HO} (p : Pers H (upd H D o)) (h : SimS G μ S H) (nd : D ∉ μ) : SimS G μ S (upd H D o) := by
  refine ⟨h.nd, h.len, fun n c e => ?_, fun a ha => ?_⟩
  · obtain ⟨a, h1, h2⟩ := h.cells n c e
    refine ⟨a, h1, ?_⟩
    have hne : a ≠ D := fun z => nd (z ▸ List.mem_of_getElem? h1)
    simpa using CellOk.mono p [] (upd_ne hne) h2
  · rw [upd_ne (fun z : a = D => nd (by rw [← z]; exact ha))]; exact h.there a ha
/-- D becomes a cell of the store -/
theorem SimS.adopt {c : Cell} (h : SimS G μ S H) (nd : D ∉ μ) (hd : H D ≠ none) (new : CellOk G (μ ++ [D]) H D c) : SimS G (μ ++ [D]) (S ++ [c]) H := by
  refine ⟨?_, by simp [h.len], fun n c' e => ?_, fun b hb => ?_⟩
  · exact List.nodup_append.mpr ⟨h.nd, by simp, fun x hx y hy => by simp at hy; subst hy; exact fun z => nd (z ▸ hx)⟩
  · by_cases hm : n < S.length
    · rw [List.getElem?_append_left hm] at e
      obtain ⟨b, h1, h2⟩ := h.cells n c' e
      exact ⟨b, get_ext h1, CellOk.mono (Pers.refl H) [D] rfl h2⟩
    · have hn' : n = S.length := by
        have := (List.getElem?_eq_some_iff.mp e).1
        simp at this; omega
      subst hn'
      rw [List.getElem?_append_right (Nat.le_refl _)] at e
      simp at e; subst e
      exact ⟨D, by rw [List.getElem?_append_right (by rw [h.len]; exact Nat.le_refl _)]; simp [h.len], new⟩
  · rcases List.mem_append.mp hb with z | z
    · exact h.there b z
    · simp at z; subst z; exact hd
theorem Grow.adopt (g : Grow μ μ' H H') (hn : H D = none) : Grow μ (μ' ++ [D]) H H' := by
  obtain ⟨ν, rfl, hν⟩ := g.ex
  refine ⟨⟨ν ++ [D], by simp, fun b hb => ?_⟩, g.fr, g.keep, g.pers⟩
  rcases List.mem_append.mp hb with z | z
  · exact hν b z
  · simp at z; subst z; exact hn
end
/-- the store and the accumulator in the midst of a comprehension; (μ1, H1): its beginning -/
structure Mid {β : Type} (G : Gl) (AR : List Addr → Hp → Addr → β → Prop) (μ1 : List Addr) (H1 : Hp) (D : Addr) (acc : β) (S : Store) (μ : List Addr) (H : Hp) : Prop where
  nd : D ∉ μ
  ss : SimS G μ S H
  gr : Grow μ1 μ H1 H
  ar : AR μ H D acc
  hd : H D ≠ none
structure AccOk {β : Type} (AR : List Addr → Hp → Addr → β → Prop) : Prop where
  mono : ∀ {μ μ' : List Addr} {H H' : Hp} {D : Addr} {acc : β}, AR μ H D acc → Ext μ μ' H H' → H' D = H D → AR μ' H' D acc
section
variable {β : Type} {G : Gl} {AR : List Addr → Hp → Addr → β → Prop} {μ1 μ μ' : List Addr} {H1 H H' : Hp} {D : Addr} {acc accE : β} {S SE : Store}
theorem Mid.step (ao : AccOk AR) (m : Mid G AR μ1 H1 D acc S μ H) (h1 : H1 D = none) (g : Grow μ μ' H H') {S' : Store} (ss : SimS G μ' S' H') : Mid G AR μ1 H1 D acc S' μ' H' := by
  cases q : H D with
  | none => exact absurd q m.hd
  | some o =>
    have e : H' D = some o := g.fr D o q m.nd
    refine ⟨fun z => ?_, ss, m.gr.trans g, ao.mono m.ar g.ext (e.trans q.symm), by rw [e]; simp⟩
    obtain ⟨ν, rfl, hn⟩ := g.ex
    rcases List.mem_append.mp z with z | z
    · exact m.nd z
    · rw [hn D z] at q; cases q
/-- the loop of one clause -/
theorem comp_read (ao : AccOk AR) (h1n : H1 D = none) {g : DG} {t : DR Bool} {k : β → Loc → Store → Res β} {l : Loc} {σ : L2.St} {vs is : List Nat} {EM : (Hp → Prop) → L2.St → Hp → Prop} {F : Hp → Prop} {ds : List Ev.D} {J : It} (hv : ∀ i ∈ is, i ∈ vs)
    (hE : ∀ {acc acc' : β} {S S' : Store} {μ : List Addr} {H : Hp} {l' : Loc} {σ' : L2.St} {Nx : Hp → Prop}, Mid G AR μ1 H1 D acc S μ H → SimL G μ H l' σ' → k acc l' S = .ok acc' S' → (∀ μ' H', Ext μ μ' H H' → Mid G AR μ1 H1 D acc' S' μ' H' → Nx H') → EM Nx σ' H)
    (yl : Yields G H ds J) (m : Mid G AR μ1 H1 D acc S μ H) (sl : SimL G μ H l (wipe σ vs)) (h : compF g t k l ds acc S = .ok accE SE) (fin : ∀ μ' H', Ext μ μ' H H' → Mid G AR μ1 H1 D accE SE μ' H' → F H') :
    ∃ W : Nat → Nat → Hp → Prop, (∃ m, W 0 m H) ∧ ∀ i m H, W i m H → (J.stop i H ∧ F H) ∨ (J.go i H ∧ ∃ Nx : Hp → Prop, (∀ H', Nx H' → ∃ m', m' < m ∧ W (i + 1) m' H') ∧ ∀ x H', J.yld i H x H' → tG G is g x (wipe σ vs) H' fun σ2 H2 => wipe σ2 vs = wipe σ vs ∧ tT G Wno t σ2 H2 fun b H3 => if b = true then EM Nx σ2 H3 else Nx H3) := by
  refine ⟨fun i n H' => n = ds.length - i ∧ i ≤ ds.length ∧ ∃ μ' S' acc', Mid G AR μ1 H1 D acc' S' μ' H' ∧ Ext μ μ' H H' ∧ compF g t k l (ds.drop i) acc' S' = .ok accE SE, ⟨ds.length, by simp, Nat.zero_le _, μ, S, acc, m, Ext.refl, by simpa using h⟩, ?_⟩
  rintro i n H2 ⟨rfl, hi, μ2, S2, acc2, m2, x2, h2⟩
  by_cases hlt : i < ds.length
  · obtain ⟨go, yld⟩ := (yl H2 x2.pers i).1 ds[i] (List.getElem?_eq_getElem hlt)
    rw [List.drop_eq_getElem_cons hlt] at h2
    unfold compF at h2
    split at h2
    · rename_i l1 eg
      refine .inr ⟨go, fun H' => ∃ μ' S' acc', Mid G AR μ1 H1 D acc' S' μ' H' ∧ Ext μ μ' H H' ∧ compF g t k l (ds.drop (i + 1)) acc' S' = .ok accE SE, fun H' z => ⟨ds.length - (i + 1), by omega, rfl, hlt, z⟩, fun x H3 y => ?_⟩
      obtain ⟨sm, rx⟩ := yld x H3 y
      have g3 := Grow.same (μ := μ2) sm
      have m3 := m2.step ao h1n g3 (m2.ss.same sm)
      refine ⟨μ2, .d ds[i], l, l1, S2, m3.ss, sl.ext (x2.trans g3.ext), rx, eg, fun H4 σ4 sm4 sl4 ch => ⟨wipe_chg hv ch, ?_⟩⟩
      have g4 := Grow.same (μ := μ2) sm4
      have m4 := m3.step ao h1n g4 (m3.ss.same sm4)
      have x4 := (x2.trans g3.ext).trans g4.ext
      refine ⟨μ2, l1, S2, m4.ss, sl4, ?_⟩
      split at h2
      · rename_i S5 et
        rw [et]
        refine fun μ5 H5 b g5 s5 rb => ?_
        have rb : true = b := rb
        subst rb
        change if true = true then _ else _
        rw [if_pos rfl]
        have m5 := m4.step ao h1n g5 s5
        split at h2
        · rename_i acc6 S6 ek
          exact hE m5 (sl4.grow g5) ek fun μ' H' e' m' => ⟨μ', S6, acc6, m', (x4.trans g5.ext).trans e', h2⟩
        · cases h2
      · rename_i S5 et
        rw [et]
        refine fun μ5 H5 b g5 s5 rb => ?_
        have rb : false = b := rb
        subst rb
        change if false = true then _ else _
        rw [if_neg Bool.false_ne_true]
        exact ⟨μ5, S5, acc2, m4.step ao h1n g5 s5, x4.trans g5.ext, h2⟩
      · cases h2
    · cases h2
  · have e : i = ds.length := by omega
    subst e
    rw [List.drop_length] at h2
    unfold compF at h2
    cases h2
    exact .inl ⟨(yl H2 x2.pers _).2 (Nat.le_refl _), fin μ2 H2 x2 m2⟩
end
end Ev

/-! Ev13: comprehensions of dicts, of two clauses. -/
namespace Ev
open PySem PySem.Spec PyProof.Rows L2

abbrev BlkAll (X : Cx) (scope : Scope) (p : Cx → Prop) : Prop := ∀ (s : Shared) (H : Hp) (C : Addr) (cl : List (Str × Addr)) (fp : List Addr), p (X.blk s H scope (compEnvC scope cl C X.env) fp)
/-- a turn of the second clause -/
abbrev rd1 (J : It) (g : TG) (t : TT) (F : Hp → Prop) (EM : (Hp → Prop) → L2.St → Hp → Prop) (σ : L2.St) (vs : List Nat) (W : Nat → Nat → Hp → Prop) : Prop := ∀ i m H, W i m H → (J.stop i H ∧ F H) ∨ (J.go i H ∧ ∃ Nx : Hp → Prop, (∀ H', Nx H' → ∃ m', m' < m ∧ W (i + 1) m' H') ∧
  ∀ x H', J.yld i H x H' → g x (wipe σ vs) H' fun σ2 H2 => wipe σ2 vs = wipe σ vs ∧ t σ2 H2 fun b H3 => if b = true then EM Nx σ2 H3 else Nx H3)
def emD (tk tv : TE) (D : Addr) (Nx : Hp → Prop) (σ : L2.St) (H : Hp) : Prop := tk σ H fun y H4 => tv σ H4 fun z H5 => ∃ kvs k, y = kV k ∧ H5 D = some (.dK kvs) ∧ kvs.length < sizeLine ∧ Nx (upd H5 D (.dK (putK kvs k z)))
def tDc2 (wi : TI) (g : TG) (t : TT) (wi1 : TI) (g1 : TG) (t1 : TT) (tk tv : TE) (vs vs1 : List Nat) : TE := fun σ H Q => wi σ H fun J H1 => ∀ D, H1 D = none → ∃ W : Nat → Nat → Hp → Prop, (∃ m, W 0 m (upd H1 D (.dK []))) ∧
  rd1 J g t (fun H => Q (.ref D) H) (fun Nx σ2 H3 => wi1 σ2 H3 fun J1 H4 => ∃ W1 : Nat → Nat → Hp → Prop, (∃ m, W1 0 m H4) ∧ rd1 J1 g1 t1 Nx (emD tk tv D) σ2 vs1 W1) σ vs W
section
variable {X : Cx} {kx vx t0 i0 t1 i1 : Expr} {f0 f1 : List Expr} {scope : Scope} {own : List (Str × Nat)} {pos pos' : Pos} {wi wi1 : TI} {g g1 : TG} {t tt1 : TT} {tk tv : TE} {vs1 : List Nat}
theorem dc2_run {pins : List (Addr × Obj)} {s : Shared} {σ : L2.St} {H : Hp} {Q : VK} (calm : X.calm = true) (hN : X.N.Nodup) (I : L2.Inv X pins σ H s) (hi : PI X t0 i0 wi) (ok : BlkOk X.N X.env.scope scope own) (hv : ∀ i ∈ vs1, i ∈ own.map (·.2))
    (hg : BlkAll X scope fun Y => PG Y t0 g) (ht : BlkAll X scope fun Y => PTs Y f0 t) (hi1 : BlkAll X scope fun Y => PI Y t1 i1 wi1) (hg1 : BlkAll X scope fun Y => PG Y t1 g1) (ht1 : BlkAll X scope fun Y => PTs Y f1 tt1)
    (hk : BlkAll X scope fun Y => PE Y kx tk) (he : BlkAll X scope fun Y => PE Y vx tv) (hs : ∀ x, foldedSetIterable i0 X.env x = pure x) (hs1 : ∀ env x, foldedSetIterable i1 env x = pure x) (h : tDc2 wi g t wi1 g1 tt1 tk tv (own.map (·.2)) vs1 σ H Q) :
    wpAny (model X.prog X.w) X.A (eval (Dc2 kx vx t0 i0 f0 t1 i1 f1 scope pos) X.env) (EP X pins σ Q) X.xe s := by
  rw [arm_eval_DictComp]
  have cells : ∀ y ∈ scope.names, y.2 = .free → ∃ c, X.env.cells.lookup y.1 = some c := fun y hy e => (ok.free y hy e).elim (fun k => I.ok.has _ (.inl k)) fun k => I.ok.has _ (.inr k)
  refine wpAny_comprehension_free rfl hs (closure_ok cells) ok.kind (fun y hy e => by rw [ok.uniq y hy, e]) (thn (hi.run pins s σ H _ I h) fun xv sa ha => thn ha fun itv sb hb => ?_)
  obtain ⟨it, fp, tn, J, Hb, rfl, Ib, T, stb, fpb, q⟩ := hb
  refine wpAny_newObj_type (newEnv_comp ?_)
  generalize hD : sb.heap.objs.size = D
  have freeD : Hb D = none := Ib.hok.fresh (Nat.le_of_eq hD)
  obtain ⟨W, ⟨m0, w0⟩, turn⟩ := q D freeD
  generalize esc : ({ sb with heap := sb.heap.push { cls := .type "dict", data := .dict #[] } } : Shared) = sc
  have hsc : sc.heap = sb.heap.push { cls := .type "dict", data := .dict #[] } := by rw [← esc]
  have Ic : L2.Inv X pins σ (upd Hb D (.dK [])) sc := by
    rw [← esc]
    refine Ib.laid (t' := sb.toks) (fun b o z => Heap.get?_push_of_some _ z) (Nat.le_of_eq hD) ?_
    subst hD
    exact dk_empty sb.heap Ib.big
  have fpc : ∀ b ∈ fp, FpOk X pins (upd Hb D (.dK [])) b ∧ b < sc.heap.objs.size := fun b hb => by
    obtain ⟨o, e, _⟩ := T.obj _ _ stb b hb
    have lt := Heap.lt_size e
    refine ⟨⟨(upd_ne (Nat.ne_of_lt (hD ▸ lt))).trans (fpb b hb).1, (fpb b hb).2⟩, by rw [hsc, Heap.size_push]; exact Nat.lt_succ_of_lt lt⟩
  have stc : tn 0 sc.heap := T.keep _ _ _ stb fun b _ o e => by rw [hsc]; exact Heap.get?_push_of_some _ e
  have Id := block_start Ic ok hN fpc
  change codeAny _ _ (.compStart (Dc2 kx vx t0 i0 f0 t1 i1 f1 scope pos) 0 (.ref it) (.ref D) (compEnvC scope (cellsFrom (sc.heap.objs.size + 1) scope.names (cloFrom X.env.cells scope.names [])) sc.heap.objs.size X.env)) (compPost (model X.prog X.w) X.A X.xe none (EP X pins σ Q) (.ref D) sc.heap.objs.size)
    { sc with heap := pushCells (sc.heap.push { cls := .type "dict", data := .dict #[] }) scope.names }
  generalize hcl : cellsFrom (sc.heap.objs.size + 1) scope.names (cloFrom X.env.cells scope.names []) = cl at Id ⊢
  have pg := hg sc (upd Hb D (.dK [])) sc.heap.objs.size cl fp
  have pt := ht sc (upd Hb D (.dK [])) sc.heap.objs.size cl fp
  have pk := hk sc (upd Hb D (.dK [])) sc.heap.objs.size cl fp
  have pv := he sc (upd Hb D (.dK [])) sc.heap.objs.size cl fp
  have pi1 := hi1 sc (upd Hb D (.dK [])) sc.heap.objs.size cl fp
  have pg1 := hg1 sc (upd Hb D (.dK [])) sc.heap.objs.size cl fp
  have pt1 := ht1 sc (upd Hb D (.dK [])) sc.heap.objs.size cl fp
  have clear : ∀ b ∈ fp, (upd Hb D (.dK [])) b = none := fun b hb => (fpc b hb).1.1
  generalize hce : compEnvC scope cl sc.heap.objs.size X.env = ce at Id pg pt pk pv pi1 pg1 pt1 ⊢
  have place : ce.locals = sc.heap.objs.size := by rw [← hce]; rfl
  generalize hHc : upd Hb D (.dK []) = Hc at Ic Id pg pt pk pv pi1 pg1 pt1 w0 clear fpc
  generalize esd : ({ sc with heap := pushCells (sc.heap.push { cls := .type "dict", data := .dict #[] }) scope.names } : Shared) = sd at Id ⊢
  have std : tn 0 sd.heap := T.keep _ _ _ stc fun b _ o e => by rw [← esd]; exact pushCells_keeps _ _ _ _ (Heap.get?_push_of_some _ e)
  let Y : Cx := X.blk sc Hc scope ce fp
  have asFp : ∀ {σ' : L2.St} {H' : Hp} {s' : Shared}, L2.Inv Y [] σ' H' s' → (∀ b ∈ fp, H' b = none) → ∀ b ∈ fp, FpOk Y [] H' b := fun {σ' H' s'} I' hn b hb =>
    ⟨hn b hb, (I'.ok.exf b hb).1, I'.ok.exfs b hb, .inl hb, fun x c e => (I'.ok.exf b hb).2 x c e, fun p hp => absurd (show p ∈ ([] : List (Addr × Obj)) ++ [] from hp) (by simp)⟩
  have loop : codeAny (model X.prog X.w) X.A (.compLoop (Dc2 kx vx t0 i0 f0 t1 i1 f1 scope pos) 0 (.ref it) (.ref D) ce) (compPost (model X.prog X.w) X.A X.xe none (EP X pins σ Q) (.ref D) sc.heap.objs.size) sd := by
    refine dc2_loop0 (hs1 ce) (fun n z => ∃ i H', L2.Inv Y [] (wipe σ (own.map (·.2))) H' z ∧ tn i z.heap ∧ (∀ b ∈ fp, H' b = none) ∧ W i n H') ?_ m0 ⟨0, Hc, Id, std, clear, w0⟩
    rintro n z ⟨i, Hz, Iz, stz, nz, wz⟩
    rcases turn i n Hz wz with ⟨stop, fin⟩ | ⟨go, Nx, hNx, step⟩
    · refine thnF (T.done Y rfl rfl rfl calm i [] z _ Hz (fun _ _ => False) Iz (asFp Iz nz) stz stop) fun r z1 ⟨er, I1⟩ => ?_
      subst er
      have out : L2.Inv X pins σ Hz z1 := Ic.call' (ch := fp) I1.os I1.base I1.hok I1.bare fun b hb => ⟨(fpc b hb).1.2.2.2.1, (fpc b hb).1.2.1, (fpc b hb).1.2.2.2.2.1, (fpc b hb).1.2.2.2.2.2⟩
      have gone : Hz sc.heap.objs.size = none := by
        have y : Hz ce.locals = none := I1.free
        rwa [place] at y
      obtain ⟨m, hn, _⟩ := I1.loc
      have hn : z1.heap.Ns ce.locals m := hn
      rw [place] at hn
      obtain ⟨k0, k1, k2, k3, k4, k5⟩ := Ic.fpOk (Nat.le_refl _) gone
      exact ⟨m, hn, fun h'' same => ⟨.ref D, Hz, out.turned (t' := z1.toks) (fun b o hb e => (same.2 b hb).trans e) k0 k1 k3 k4 k5, rfl, fin⟩⟩
    · refine thnF (T.item Y rfl rfl rfl calm i [] z _ Hz (fun _ _ => False) Iz (asFp Iz nz) stz go) fun r z1 ⟨u, er, q1⟩ => ?_
      subst er
      refine thnF q1 fun _ z2 ⟨x, H2, I2, r2, y2, st2, n2⟩ => ?_
      refine thnF (pg.run _ z2 _ H2 x u _ (I2.pinned (asFp I2 n2) (T.obj _ _ st2)) r2 (step x H2 y2)) fun _ z3 ⟨σ3, H3, I3, hw3, q3⟩ => ?_
      refine thnF (pt.run _ z3 σ3 H3 _ I3 q3) fun b z4 ⟨H4, I4, q4⟩ => ?_
      -- a turn is over
      have over : ∀ {σ' : L2.St} {z' : Shared} {H' : Hp}, L2.Inv Y ([] ++ pinsAt fp z2.heap) σ' H' z' → (wipe σ (own.map (·.2))).length = σ'.length → (∀ (j : Nat) v, (wipe σ (own.map (·.2)))[j]? = some (some v) → σ'[j]? = some (some v)) → Nx H' →
          ∃ m, m < n ∧ ∃ i H', L2.Inv Y [] (wipe σ (own.map (·.2))) H' z' ∧ tn i z'.heap ∧ (∀ b ∈ fp, H' b = none) ∧ W i m H' := fun {σ' z' H'} I' el ew nx => by
        obtain ⟨m', lt, w'⟩ := hNx H' nx
        have held : ∀ b ∈ fp, ∀ o, z2.heap.get? b = some o → z'.heap.get? b = some o ∧ H' b = none := fun b hb o e => by
          have y := I'.pin (b, o) (List.mem_append_right _ (List.mem_append_right _ (mem_pinsAt hb e)))
          exact ⟨y.1, y.2.1⟩
        refine ⟨m', lt, i + 1, H', (I'.unpinned (pins := [])).weak el ew, T.keep _ _ _ st2 fun b hb o e => (held b hb o e).1, fun b hb => ?_, w'⟩
        obtain ⟨o, e, _⟩ := T.obj _ _ st2 b hb
        exact (held b hb o e).2
      have el : (wipe σ (own.map (·.2))).length = σ3.length := by rw [← hw3, wipe_length]
      have old : ∀ (j : Nat) v, (wipe σ (own.map (·.2)))[j]? = some (some v) → σ3[j]? = some (some v) ∧ j ∉ own.map (·.2) := fun j v e => by rw [← hw3] at e; exact wipe_some e
      have old1 : ∀ (j : Nat) v, (wipe σ (own.map (·.2)))[j]? = some (some v) → (wipe σ3 vs1)[j]? = some (some v) := fun j v e => by
        rw [wipe_out fun y => (old j v e).2 (hv j y)]
        exact (old j v e).1
      cases b with
      | false => exact over I4 el (fun j v e => (old j v e).1) q4
      | true =>
        refine thnF (pi1.run _ z4 σ3 H4 _ I4 q4) fun xv z5 hx => thnF hx fun jv z6 h6 => ?_
        obtain ⟨j1, fp1, tn1, J1, H6, rfl, I6, T1, st6, f6, W1, ⟨m1, w1⟩, turn1⟩ := h6
        have asFp1 : ∀ {H' : Hp}, (∀ b ∈ fp1, H' b = none) → ∀ b ∈ fp1, FpOk Y ([] ++ pinsAt fp z2.heap) H' b := fun hn b hb => ⟨hn b hb, (f6 b hb).2⟩
        have inner : codeAny (model X.prog X.w) X.A (.compLoop (Dc2 kx vx t0 i0 f0 t1 i1 f1 scope pos) 1 (.ref j1) (.ref D) ce)
            (fun r z' => match r with
              | .ok _ => ∃ m, m < n ∧ ∃ i H', L2.Inv Y [] (wipe σ (own.map (·.2))) H' z' ∧ tn i z'.heap ∧ (∀ b ∈ fp, H' b = none) ∧ W i m H'
              | .error _ => False) z6 := by
          refine dc2_loop1 (fun k z' => ∃ j H', L2.Inv Y ([] ++ pinsAt fp z2.heap) (wipe σ3 vs1) H' z' ∧ tn1 j z'.heap ∧ (∀ b ∈ fp1, H' b = none) ∧ W1 j k H') ?_ m1 ⟨0, H6, I6.weak (wipe_length _ _) (fun j v e => (wipe_some e).1), st6, fun b hb => (f6 b hb).1, w1⟩
          rintro k z7 ⟨j, H7, I7, st7, n7, w7⟩
          rcases turn1 j k H7 w7 with ⟨stop1, nx1⟩ | ⟨go1, Nx1, hNx1, step1⟩
          · refine thnF (T1.done Y rfl rfl rfl calm j _ z7 (wipe σ3 vs1) H7 (fun _ _ => False) I7 (asFp1 n7) st7 stop1) fun r z8 ⟨er, I8⟩ => ?_
            subst er
            exact over I8 (el.trans (wipe_length σ3 vs1).symm) old1 nx1
          · refine thnF (T1.item Y rfl rfl rfl calm j _ z7 (wipe σ3 vs1) H7 (fun _ _ => False) I7 (asFp1 n7) st7 go1) fun r z8 ⟨u1, er, q8⟩ => ?_
            subst er
            refine thnF q8 fun _ z9 ⟨x1, H9, I9, r9, y9, st9, n9⟩ => ?_
            refine thnF (pg1.run _ z9 (wipe σ3 vs1) H9 x1 u1 _ (I9.pinned (asFp1 n9) (T1.obj _ _ st9)) r9 (step1 x1 H9 y9)) fun _ za ⟨σa, Ha, Ia, hwa, qa⟩ => ?_
            refine thnF (pt1.run _ za σa Ha _ Ia qa) fun b1 zb ⟨Hb', Ib', qb⟩ => ?_
            have over1 : ∀ {z' : Shared} {H' : Hp}, L2.Inv Y (([] ++ pinsAt fp z2.heap) ++ pinsAt fp1 z9.heap) σa H' z' → Nx1 H' → ∃ m, m < k ∧ ∃ j H', L2.Inv Y ([] ++ pinsAt fp z2.heap) (wipe σ3 vs1) H' z' ∧ tn1 j z'.heap ∧ (∀ b ∈ fp1, H' b = none) ∧ W1 j m H' := fun {z' H'} I' nx => by
              obtain ⟨m', lt, w'⟩ := hNx1 H' nx
              have held : ∀ b ∈ fp1, ∀ o, z9.heap.get? b = some o → z'.heap.get? b = some o ∧ H' b = none := fun b hb o e => by
                have y := I'.pin (b, o) (List.mem_append_right _ (List.mem_append_right _ (mem_pinsAt hb e)))
                exact ⟨y.1, y.2.1⟩
              refine ⟨m', lt, j + 1, H', I'.unpinned.weak (by rw [← hwa, wipe_length]) (fun j v e => by rw [← hwa] at e; exact (wipe_some e).1), T1.keep _ _ _ st9 fun b hb o e => (held b hb o e).1, fun b hb => ?_, w'⟩
              obtain ⟨o, e, _⟩ := T1.obj _ _ st9 b hb
              exact (held b hb o e).2
            cases b1 with
            | false => exact over1 Ib' qb
            | true =>
              refine thnF (pk.run _ zb σa Hb' _ Ib' qb) fun kv zc ⟨yk, Hc', Ic', rc, qc⟩ => ?_
              refine thnF (pv.run _ zc σa Hc' _ Ic' qc) fun vv zd ⟨yv, Hd, Id', rd, kvs, kk, ek, hdD, hz, nx⟩ => ?_
              subst ek
              exact d_dictSet (X := Y) Id' hdD hz rc rd fun ze Ie => over1 Ie nx
        exact dc2_start1 inner (T1.self X.A 0 _ _ _ st6 inner)
  exact codeAny_compStart_dict loop (T.self X.A 0 _ _ _ std loop)
end
end Ev

/-! Ev14: rules of comprehensions: dicts, two clauses. -/
namespace Ev
open PySem PySem.Spec PyProof.Rows L2

/-! ### accumulators -/
def ArL (G : Gl) (_ : List Addr) (H : Hp) (p : Addr) (acc : List D) : Prop := ∃ vs, H p = some (.lst vs) ∧ DpFs G.w G.K H vs acc
def ArD (G : Gl) (μ : List Addr) (H : Hp) (p : Addr) (acc : List (D × A)) : Prop := ∃ ks : List (Key × V), H p = some (.dK ks) ∧ Paired (LeafR G μ H) acc ks
theorem arL_ok (G : Gl) : AccOk (ArL G) := ⟨fun ⟨vs, h1, h2⟩ x e => ⟨vs, e.trans h1, h2.mono x.pers⟩⟩
theorem arD_ok (G : Gl) : AccOk (ArD G) := ⟨fun ⟨ks, h1, h2⟩ x e => ⟨ks, e.trans h1, Paired.mapP h2 fun _ _ q => ⟨q.1, q.2.ext x⟩⟩⟩
theorem compF_exc {β : Type} {g : DG} {t : DR Bool} {k : β → Loc → Store → Res β} {l : Loc} {x : Exn} {S' : Store} : ∀ {ds : List D} {acc : β} {S : Store}, compF g t k l ds acc S ≠ .exc x S'
  | [], _, _ => fun h => nomatch h
  | d :: ds, acc, S => by
    unfold compF
    split
    · split
      · split
        · exact compF_exc
        · exact fun h => nomatch h
      · exact compF_exc
      · exact fun h => nomatch h
    · exact fun h => nomatch h
/-- the second clause -/
def innerK {β : Type} (di : DR (List D)) (vs : List Nat) (g : DG) (t : DR Bool) (k : β → Loc → Store → Res β) : β → Loc → Store → Res β := fun acc l S => match di l S with
  | .ok ds S1 => compF g t k (wipeA l vs) ds acc S1
  | _ => .no
def leafB : D → Bool
  | .int _ => true
  | .str _ => true
  | _ => false
def putD (dk dv : DE) : List (D × A) → Loc → Store → Res (List (D × A)) := fun acc l S => match dk l S with
  | .ok (.d k) S1 => match dv l S1 with
    | .ok y S2 => if leafB k = true ∧ acc.length < 16777216 then .ok (dPut acc k y) S2 else .no
    | _ => .no
  | _ => .no
section
variable {G : Gl} {sc scope : Scope} {N : List Str} {pos : Pos} {tg tg1 elt kx vx iter iter1 : Expr} {ifs ifs1 : List Expr}
theorem put_K {μ : List Addr} {H : Hp} (k : Key) {x : A} {u : V} (rx : RelA G μ H x u) {kvs : List (D × A)} {vs : List (Key × V)} (h : Paired (LeafR G μ H) kvs vs) : Paired (LeafR G μ H) (dPut kvs (leafD k) x) (putK vs k u) := by
  have hs : (dGet kvs (leafD k)).isSome = (vs.any fun kv => decide (kv.1 = k)) := by
    induction h with
    | nil => rfl
    | @cons p q _ _ r t ih =>
      rw [List.any_cons, ← ih]
      unfold dGet
      rw [List.find?_cons, r.1]
      by_cases e : q.1 = k
      · rw [decide_eq_true (by rw [e]), decide_eq_true e]; rfl
      · rw [decide_eq_false (fun z => e (leaf_inj.mp z)), decide_eq_false e, Bool.false_or]
  unfold dPut putK
  rw [hs]
  split
  · rename_i hc
    clear hs hc
    induction h with
    | nil => exact .nil
    | @cons p q _ _ r t ih =>
      rw [List.map_cons, List.map_cons]
      refine .cons ?_ ih
      obtain ⟨kd, y⟩ := p
      obtain ⟨j, z⟩ := q
      obtain ⟨e, r⟩ := r
      have e : kd = leafD j := e
      subst e
      by_cases hj : j = k
      · subst hj; rw [if_pos rfl, if_pos rfl]; exact ⟨rfl, rx⟩
      · rw [if_neg hj, if_neg (fun z => hj (leaf_inj.mp z))]; exact ⟨rfl, r⟩
  · exact papp h (.cons ⟨rfl, rx⟩ .nil)
variable {μ1 : List Addr} {H1 : Hp} {p : Addr}
/-- an element put behind -/
theorem em_L (hp : H1 p = none) {d : DE} {acc acc' : List D} {S S' : Store} {μ : List Addr} {H : Hp} {l : Loc} {σ : L2.St} {Nx : Hp → Prop} (m : Mid G (ArL G) μ1 H1 p acc S μ H) (sl : SimL G μ H l σ) (h : putE d acc l S = .ok acc' S')
    (nx : ∀ μ' H', Ext μ μ' H H' → Mid G (ArL G) μ1 H1 p acc' S' μ' H' → Nx H') : tE G Wno d σ H fun y H7 => ∃ xs, H7 p = some (.lst xs) ∧ xs.length < sizeLine ∧ Nx (upd H7 p (.lst (xs ++ [y]))) := by
  refine ⟨μ, l, S, m.ss, sl, ?_⟩
  unfold putE at h
  split at h
  · rename_i y S5 e
    rw [e]
    split at h
    · rename_i hz
      cases h
      refine fun μ5 H5 v g5 s5 rv => ?_
      have m5 := m.step (arL_ok G) hp g5 s5
      obtain ⟨xs, h1, h2⟩ := m5.ar
      have pe : Pers H5 (upd H5 p (.lst (xs ++ [v]))) := upd_pers (fun _ z => by rw [h1] at z; cases z) (fun _ _ z => by rw [h1] at z; cases z)
      refine ⟨xs, h1, by rw [h2.length, line_eq]; exact hz, nx μ5 _ (g5.ext.trans (Ext.pers' pe)) ⟨m5.nd, s5.put pe m5.nd, m5.gr.put hp, ⟨_, upd_same, ?_⟩, by rw [upd_same]; simp⟩⟩
      exact (h2.append (.cons rv .nil)).mono pe
    · cases h
  · cases h
/-- a key and a value put in -/
theorem em_D (hp : H1 p = none) {dk dv : DE} {acc acc' : List (D × A)} {S S' : Store} {μ : List Addr} {H : Hp} {l : Loc} {σ : L2.St} {Nx : Hp → Prop} (m : Mid G (ArD G) μ1 H1 p acc S μ H) (sl : SimL G μ H l σ) (h : putD dk dv acc l S = .ok acc' S')
    (nx : ∀ μ' H', Ext μ μ' H H' → Mid G (ArD G) μ1 H1 p acc' S' μ' H' → Nx H') : emD (tE G Wno dk) (tE G Wno dv) p Nx σ H := by
  unfold putD at h
  split at h
  · rename_i k S4 ek
    split at h
    · rename_i y S5 ev
      split at h
      · rename_i hz
        cases h
        refine ⟨μ, l, S, m.ss, sl, ?_⟩
        rw [ek]
        refine fun μ4 H4 kv g4 s4 r4 => ⟨μ4, l, S4, s4, sl.grow g4, ?_⟩
        rw [ev]
        refine fun μ5 H5 vv g5 s5 r5 => ?_
        have m5 := (m.step (arD_ok G) hp g4 s4).step (arD_ok G) hp g5 s5
        obtain ⟨ks, h1, h2⟩ := m5.ar
        have pe : ∀ o, Pers H5 (upd H5 p o) := fun o => upd_pers (fun _ z => by rw [h1] at z; cases z) (fun _ _ z => by rw [h1] at z; cases z)
        obtain ⟨j, rfl, rfl⟩ : ∃ j : Key, k = leafD j ∧ kv = kV j := by
          cases k with
          | int i => cases r4; exact ⟨.inl i, rfl, rfl⟩
          | str x => cases r4; exact ⟨.inr x, rfl, rfl⟩
          | _ => simp [leafB] at hz
        refine ⟨ks, j, rfl, h1, by rw [← Paired.length h2, line_eq]; exact hz.2, nx μ5 _ ((g4.ext.trans g5.ext).trans (Ext.pers' (pe _))) ⟨m5.nd, s5.put (pe _) m5.nd, m5.gr.put hp, ⟨_, upd_same, ?_⟩, by rw [upd_same]; simp⟩⟩
        exact Paired.mapP (put_K j r5 h2) fun _ _ q => ⟨q.1, q.2.ext (Ext.pers' (pe _))⟩
      · cases h
    · cases h
  · cases h
/-- the second clause as an emission -/
theorem em_in {β : Type} {AR : List Addr → Hp → Addr → β → Prop} (ao : AccOk AR) (hp : H1 p = none) {di : DR (List D)} {g : DG} {t : DR Bool} {k : β → Loc → Store → Res β} {vs is : List Nat} {EM : (Hp → Prop) → L2.St → Hp → Prop} (hv : ∀ i ∈ is, i ∈ vs)
    (hE : ∀ {acc acc' : β} {S S' : Store} {μ : List Addr} {H : Hp} {l' : Loc} {σ' : L2.St} {Nx : Hp → Prop}, Mid G AR μ1 H1 p acc S μ H → SimL G μ H l' σ' → k acc l' S = .ok acc' S' → (∀ μ' H', Ext μ μ' H H' → Mid G AR μ1 H1 p acc' S' μ' H' → Nx H') → EM Nx σ' H)
    {acc acc' : β} {S S' : Store} {μ : List Addr} {H : Hp} {l : Loc} {σ : L2.St} {Nx : Hp → Prop} (m : Mid G AR μ1 H1 p acc S μ H) (sl : SimL G μ H l σ) (h : innerK di vs g t k acc l S = .ok acc' S') (nx : ∀ μ' H', Ext μ μ' H H' → Mid G AR μ1 H1 p acc' S' μ' H' → Nx H') :
    tR G Wno (relI G) di σ H fun J1 H4 => ∃ W1 : Nat → Nat → Hp → Prop, (∃ m, W1 0 m H4) ∧ rd1 J1 (tG G is g) (tT G Wno t) Nx EM σ vs W1 := by
  refine ⟨μ, l, S, m.ss, sl, ?_⟩
  unfold innerK at h
  split at h
  · rename_i ds S4 e
    rw [e]
    exact fun μ4 H4 J g4 s4 yl => comp_read ao hp hv hE yl (m.step ao hp g4 s4) (wipe_sim (sl.grow g4) vs) h fun μ' H' x m' => nx μ' H' (g4.ext.trans x) m'
  · cases h
/-! ### the rules -/
abbrev dFin (acc : List (D × A)) (S : Store) : Res A := .ok (.loc S.length) (S ++ [.dic acc])
theorem fin_D {W : XK} {Q : VK} {acc : List (D × A)} {S : Store} (hp : H1 p = none) (q : Aft G W (RelA G) μ1 H1 (dFin acc S) Q) {μ : List Addr} {H : Hp} (m : Mid G (ArD G) μ1 H1 p acc S μ H) : Q (.ref p) H := by
  obtain ⟨ks, h1, h2⟩ := m.ar
  have x : Ext μ (μ ++ [p]) H H := ⟨⟨[p], rfl⟩, Pers.refl H⟩
  refine q (μ ++ [p]) H (.ref p) (m.gr.adopt hp) (m.ss.adopt m.nd m.hd (.inl ⟨ks, h1, Paired.mapP h2 fun _ _ q => ⟨q.1, q.2.ext x⟩⟩)) ?_
  exact ⟨p, by rw [List.getElem?_append_right (by rw [m.ss.len]; exact Nat.le_refl _)]; simp [m.ss.len], rfl⟩
def dDc (di : DR (List D)) (vs : List Nat) (g : DG) (t : DR Bool) (dk dv : DE) : DE := fun l S => (di l S).bind fun ds S1 => (compF g t (putD dk dv) (wipeA l vs) ds [] S1).bind dFin
def dDc2 (di : DR (List D)) (vs : List Nat) (g : DG) (t : DR Bool) (di1 : DR (List D)) (vs1 : List Nat) (g1 : DG) (t1 : DR Bool) (dk dv : DE) : DE := fun l S => (di l S).bind fun ds S1 => (compF g t (innerK di1 vs1 g1 t1 (putD dk dv)) (wipeA l vs) ds [] S1).bind dFin
def dLc2 (di : DR (List D)) (vs : List Nat) (g : DG) (t : DR Bool) (di1 : DR (List D)) (vs1 : List Nat) (g1 : DG) (t1 : DR Bool) (d : DE) : DE := fun l S => (di l S).bind fun ds S1 => (compF g t (innerK di1 vs1 g1 t1 (putE d)) (wipeA l vs) ds [] S1).bind fun acc S2 => .ok (.d (.list acc)) S2
theorem mid0_D {S : Store} (hp : H1 p = none) (ss : SimS G μ1 S H1) : Mid G (ArD G) μ1 H1 p [] S μ1 (upd H1 p (.dK [])) := by
  have sm := same_new (o := HO.dK []) hp
  exact ⟨fun z => ss.there p z hp, ss.same sm, Grow.same sm, ⟨[], upd_same, .nil⟩, by rw [upd_same]; simp⟩
theorem mid0_L {S : Store} (hp : H1 p = none) (ss : SimS G μ1 S H1) : Mid G (ArL G) μ1 H1 p [] S μ1 (upd H1 p (.lst [])) := by
  have sm := same_new (o := HO.lst []) hp
  exact ⟨fun z => ss.there p z hp, ss.same sm, Grow.same sm, ⟨[], upd_same, .nil⟩, by rw [upd_same]; simp⟩
theorem Yields.same {ds : List D} {J : It} {H H' : Hp} (y : Yields G H ds J) (s : Same H H') : Yields G H' ds J := fun H2 p2 => y H2 ((Pers.of s).trans p2)
/-- the result of the loop, where there's one -/
theorem comp_ok {β : Type} {W : XK} {g : DG} {t : DR Bool} {k : β → Loc → Store → Res β} {l : Loc} {ds : List D} {acc : β} {S : Store} {f : β → Store → Res A} {μ : List Addr} {H : Hp} {Q : VK} (h : Aft G W (RelA G) μ H ((compF g t k l ds acc S).bind f) Q) : ∃ accE SE, compF g t k l ds acc S = .ok accE SE ∧ Aft G W (RelA G) μ H (f accE SE) Q := by
  cases e : compF g t k l ds acc S with
  | ok a S' => rw [e] at h; exact ⟨a, S', rfl, h⟩
  | exc x S' => exact absurd e compF_exc
  | no => rw [e] at h; exact h.elim
section
variable {own : List (Str × Nat)} {xs xs1 : List Str} {is is1 vs1 : List Nat} {g g1 : DG} {t t1 : DR Bool} {d dk dv : DE} {di di1 : DR (List D)}
theorem r_dc (hi : SndI G sc N tg iter di) (ok : BlkOk N sc scope own) (hg : SndG G (relS scope sc) N xs is tg g) (hx : gfB scope (relS scope sc) xs = true) (hv : ∀ i ∈ is, i ∈ own.map (·.2)) (ht : SndIf G (relS scope sc) N ifs t) (hk : Snd G (relS scope sc) N kx dk) (he : Snd G (relS scope sc) N vx dv)
    (hs : ∀ env x, foldedSetIterable iter env x = pure x := by intro _ _; rfl) : Snd G sc N (.DictComp kx vx [⟨tg, iter, ifs, 0⟩] scope pos) (dDc di (own.map (·.2)) g t dk dv) := fun X W st tk =>
  ⟨fun pins s σ H Q I q => (pe_dc st.calm (by rw [st.names]; exact st.nd) (hi X W st tk) (by rw [st.names, st.scope]; exact ok) (fun s H C cl fp => hg _ (st.blk s H C cl fp) (gf_blk st hx s H C cl fp)) (fun s H C cl fp => ht _ Wno (st.blk s H C cl fp) takes0) (fun s H C cl fp => hk _ Wno (st.blk s H C cl fp) takes0) (fun s H C cl fp => he _ Wno (st.blk s H C cl fp) takes0) (hs X.env)).run pins s σ H Q I (by
    obtain ⟨μ, l, S, ss, sl, q⟩ := q
    refine ⟨μ, l, S, ss, sl, Aft.imp (Aft.bind (rel' := relI G) q) fun J H1 _ ⟨ds, μ1, S1, g1, s1, yl, h1⟩ p hp => ?_⟩
    obtain ⟨accE, SE, e, h2⟩ := comp_ok h1
    have sm := same_new (o := HO.dK []) hp
    exact comp_read (arD_ok G) hp hv (fun m sl h nx => em_D hp m sl h nx) (yl.same sm) (mid0_D hp s1) (wipe_sim ((sl.grow g1).grow (Grow.same sm)) _) e fun μ' H' _ m => fin_D hp h2 m)⟩
theorem r_dc2 (hi : SndI G sc N tg iter di) (ok : BlkOk N sc scope own) (hg : SndG G (relS scope sc) N xs is tg g) (hx : gfB scope (relS scope sc) xs = true) (hv : ∀ i ∈ is, i ∈ own.map (·.2)) (ht : SndIf G (relS scope sc) N ifs t)
    (hi1 : SndI G (relS scope sc) N tg1 iter1 di1) (hg1 : SndG G (relS scope sc) N xs1 is1 tg1 g1) (hx1 : gfB scope (relS scope sc) xs1 = true) (hv1 : ∀ i ∈ is1, i ∈ vs1) (hw : ∀ i ∈ vs1, i ∈ own.map (·.2)) (ht1 : SndIf G (relS scope sc) N ifs1 t1) (hk : Snd G (relS scope sc) N kx dk) (he : Snd G (relS scope sc) N vx dv)
    (hs : ∀ env x, foldedSetIterable iter env x = pure x := by intro _ _; rfl) (hs1 : ∀ env x, foldedSetIterable iter1 env x = pure x := by intro _ _; rfl) : Snd G sc N (.DictComp kx vx [⟨tg, iter, ifs, 0⟩, ⟨tg1, iter1, ifs1, 0⟩] scope pos) (dDc2 di (own.map (·.2)) g t di1 vs1 g1 t1 dk dv) := fun X W st tk =>
  ⟨fun pins s σ H Q I q => dc2_run st.calm (by rw [st.names]; exact st.nd) I (hi X W st tk) (by rw [st.names, st.scope]; exact ok) hw (fun s H C cl fp => hg _ (st.blk s H C cl fp) (gf_blk st hx s H C cl fp)) (fun s H C cl fp => ht _ Wno (st.blk s H C cl fp) takes0)
    (fun s H C cl fp => hi1 _ Wno (st.blk s H C cl fp) takes0) (fun s H C cl fp => hg1 _ (st.blk s H C cl fp) (gf_blk st hx1 s H C cl fp)) (fun s H C cl fp => ht1 _ Wno (st.blk s H C cl fp) takes0) (fun s H C cl fp => hk _ Wno (st.blk s H C cl fp) takes0) (fun s H C cl fp => he _ Wno (st.blk s H C cl fp) takes0) (hs X.env) hs1 (by
    obtain ⟨μ, l, S, ss, sl, q⟩ := q
    refine ⟨μ, l, S, ss, sl, Aft.imp (Aft.bind (rel' := relI G) q) fun J H1 _ ⟨ds, μ1, S1, gr, s1, yl, h1⟩ p hp => ?_⟩
    obtain ⟨accE, SE, e, h2⟩ := comp_ok h1
    have sm := same_new (o := HO.dK []) hp
    exact comp_read (arD_ok G) hp hv (fun m sl h nx => em_in (arD_ok G) hp hv1 (fun m sl h nx => em_D hp m sl h nx) m sl h nx) (yl.same sm) (mid0_D hp s1) (wipe_sim ((sl.grow gr).grow (Grow.same sm)) _) e fun μ' H' _ m => fin_D hp h2 m)⟩
theorem lc2_read {X : Cx} {pins : List (Addr × Obj)} {σ : L2.St} {H : Hp} {W : WX} {Q K : VK} {vs : List Nat} (hv : ∀ i ∈ is, i ∈ vs) (hv1 : ∀ i ∈ is1, i ∈ vs1) (q : tE G W (dLc2 di vs g t di1 vs1 g1 t1 d) σ H Q) (hk : ∀ v H1, (∀ σ' s', L2.Inv X pins σ' H1 s' → ∃ H2, L2.Inv X pins σ' H2 s' ∧ Q v H2) → K v H1) :
    tLc2 (tR G W (relI G) di) (tG G is g) (tT G Wno t) (tR G Wno (relI G) di1) (tG G is1 g1) (tT G Wno t1) (tE G Wno d) vs vs1 σ H K := by
  obtain ⟨μ, l, S, ss, sl, q⟩ := q
  refine ⟨μ, l, S, ss, sl, Aft.imp (Aft.bind (rel' := relI G) q) fun J H1 _ ⟨ds, μ1, S1, gr, s1, yl, h1⟩ p hp => ?_⟩
  obtain ⟨accE, SE, e, h2⟩ := comp_ok h1
  have sm := same_new (o := HO.lst []) hp
  refine comp_read (arL_ok G) hp hv (fun m sl h nx => em_in (arL_ok G) hp hv1 (fun m sl h nx => em_L hp m sl h nx) m sl h nx) (yl.same sm) (mid0_L hp s1) (wipe_sim ((sl.grow gr).grow (Grow.same sm)) _) e fun μ' H' _ m => hk _ _ fun σ' s' I => ?_
  obtain ⟨vs2, hd, fs⟩ := m.ar
  obtain ⟨ob, I2⟩ := freezeL I hd
  have p2 : Pers H' (upd H' p (.frz ob (.lst vs2))) := pers_aside hd
  exact ⟨_, I2, h2 μ' _ _ (m.gr.put hp) (m.ss.put p2 m.nd) (.lst (.inl ⟨ob, upd_same⟩) (fs.mono p2))⟩
theorem r_lc2 (hi : SndI G sc N tg iter di) (ok : BlkOk N sc scope own) (hg : SndG G (relS scope sc) N xs is tg g) (hx : gfB scope (relS scope sc) xs = true) (hv : ∀ i ∈ is, i ∈ own.map (·.2)) (ht : SndIf G (relS scope sc) N ifs t)
    (hi1 : SndI G (relS scope sc) N tg1 iter1 di1) (hg1 : SndG G (relS scope sc) N xs1 is1 tg1 g1) (hx1 : gfB scope (relS scope sc) xs1 = true) (hv1 : ∀ i ∈ is1, i ∈ vs1) (hw : ∀ i ∈ vs1, i ∈ own.map (·.2)) (ht1 : SndIf G (relS scope sc) N ifs1 t1) (he : Snd G (relS scope sc) N elt d)
    (hs : ∀ env x, foldedSetIterable iter env x = pure x := by intro _ _; rfl) (hs1 : ∀ env x, foldedSetIterable iter1 env x = pure x := by intro _ _; rfl) : Snd G sc N (.ListComp elt [⟨tg, iter, ifs, 0⟩, ⟨tg1, iter1, ifs1, 0⟩] scope pos) (dLc2 di (own.map (·.2)) g t di1 vs1 g1 t1 d) := fun X W st tk =>
  PE_ghost (pe_lc2 st.calm (by rw [st.names]; exact st.nd) (hi X W st tk) (by rw [st.names, st.scope]; exact ok) hw (fun s H C cl fp => hg _ (st.blk s H C cl fp) (gf_blk st hx s H C cl fp)) (fun s H C cl fp => ht _ Wno (st.blk s H C cl fp) takes0)
    (fun s H C cl fp => hi1 _ Wno (st.blk s H C cl fp) takes0) (fun s H C cl fp => hg1 _ (st.blk s H C cl fp) (gf_blk st hx1 s H C cl fp)) (fun s H C cl fp => ht1 _ Wno (st.blk s H C cl fp) takes0) (fun s H C cl fp => he _ Wno (st.blk s H C cl fp) takes0) (hs X.env) hs1)
    fun pins s σ H Q q => lc2_read (X := X) (pins := pins) hv hv1 q fun v H1 h s' I => h σ s' I
theorem r_setLc2 {i : Nat} {y : Str} {py spos : Pos} (hy : N[i]? = some y) (hyl : sc.names.lookup y = some .local) (hl : (py.line == pos.line) = true) (hn : (scope.names.any fun (n, k) => n == y && (k == .local || k == .cell)) = false)
    (hi : SndI G sc N tg iter di) (ok : BlkOk N sc scope own) (hg : SndG G (relS scope sc) N xs is tg g) (hx : gfB scope (relS scope sc) xs = true) (hv : ∀ i ∈ is, i ∈ own.map (·.2)) (ht : SndIf G (relS scope sc) N ifs t)
    (hi1 : SndI G (relS scope sc) N tg1 iter1 di1) (hg1 : SndG G (relS scope sc) N xs1 is1 tg1 g1) (hx1 : gfB scope (relS scope sc) xs1 = true) (hv1 : ∀ i ∈ is1, i ∈ vs1) (hw : ∀ i ∈ vs1, i ∈ own.map (·.2)) (ht1 : SndIf G (relS scope sc) N ifs1 t1) (he : Snd G (relS scope sc) N elt d)
    (hs : ∀ env x, foldedSetIterable iter env x = pure x := by intro _ _; rfl) (hs1 : ∀ env x, foldedSetIterable iter1 env x = pure x := by intro _ _; rfl) (hk : sc.kind = .function) : SndS G sc N (.Assign [.Name y py] (.ListComp elt [⟨tg, iter, ifs, 0⟩, ⟨tg1, iter1, ifs1, 0⟩] scope pos) spos) (dAsg (gN i) (dLc2 di (own.map (·.2)) g t di1 vs1 g1 t1 d)) := fun X W st tk => by
  have sv := st.toStat
  have hp : PS X (.Assign [.Name y py] (.ListComp elt [⟨tg, iter, ifs, 0⟩, ⟨tg1, iter1, ifs1, 0⟩] scope pos) spos) (tAsg (tLc2 (tR G W (relI G) di) (tG G is g) (tT G Wno t) (tR G Wno (relI G) di1) (tG G is1 g1) (tT G Wno t1) (tE G Wno d) (own.map (·.2)) vs1) (gName i)) :=
    ps_setLc2 st.calm (by rw [st.names]; exact st.nd) (by rw [st.names]; exact hy) (by rw [st.scope]; exact hyl) (sw_true (by rw [st.scope]; exact hk) (by rw [st.scope]; exact hyl) hl hn) (hi X W sv tk) (by rw [st.names, st.scope]; exact ok) hw
      (fun s H C cl fp => hg _ (sv.blk s H C cl fp) (gf_blk sv hx s H C cl fp)) (fun s H C cl fp => ht _ Wno (sv.blk s H C cl fp) takes0) (fun s H C cl fp => hi1 _ Wno (sv.blk s H C cl fp) takes0) (fun s H C cl fp => hg1 _ (sv.blk s H C cl fp) (gf_blk sv hx1 s H C cl fp)) (fun s H C cl fp => ht1 _ Wno (sv.blk s H C cl fp) takes0)
      (fun s H C cl fp => he _ Wno (sv.blk s H C cl fp) takes0) (hs X.env) hs1
  refine ⟨fun pins s σ H D I q => ?_⟩
  refine thn (hp.run pins s σ H { D with nx := fun σ' H' => ∀ s', L2.Inv X pins σ' H' s' → ∃ H2, L2.Inv X pins σ' H2 s' ∧ D.nx σ' H2 } I ?_) fun f s' h => ?_
  · exact lc2_read (X := X) (pins := pins) hv hv1 (gN_read q : tAsg (tE G W _) (gName i) D σ H) fun v H1 h s' I => h (σ.set i (some v)) s' I
  · cases f with
    | next => obtain ⟨σ', H', I', z⟩ := h; obtain ⟨H2, I2, z2⟩ := z s' I'; exact ⟨σ', H2, I2, z2⟩
    | ret v => exact h
    | brk => exact h
    | cont => exact h
end
end
end Ev

/-! Ev15: all defs of a text, level by level; what a head gives. -/
namespace Ev
open PySem PySem.Spec PyProof.Rows L2

/-- a text at a depth of calls -/
def Gl.lv (G : Gl) (cd cm : Nat → Fns) (k : Nat) : Gl := { G with F := cd k, Fm := cm k, k := k + 2 }
section
variable {G : Gl} {cd cm : Nat → Fns} {k : Nat}
theorem rel_lv : RelA (G.lv cd cm k) = RelA G := by
  funext μ H a v
  cases a <;> rfl
theorem leaf_lv : LeafR (G.lv cd cm k) = LeafR G := by
  funext μ H p q
  simp only [LeafR, rel_lv]
theorem ent_lv : EntR (G.lv cd cm k) = EntR G := by
  funext μ H p q
  simp only [EntR, rel_lv]
  rfl
theorem cell_lv : CellOk (G.lv cd cm k) = CellOk G := by
  funext μ H a c
  cases c with
  | lst xs => simp only [CellOk, RelAs, rel_lv]
  | dic kvs => simp only [CellOk, leaf_lv, ent_lv]
  | ins c fs => simp only [CellOk, rel_lv]; rfl
  | fzn x => rfl
theorem sim_lv {μ : List Addr} {S : Store} {H : Hp} : SimS (G.lv cd cm k) μ S H ↔ SimS G μ S H :=
  ⟨fun h => ⟨h.nd, h.len, fun n c e => by rw [← cell_lv (G := G) (cd := cd) (cm := cm) (k := k)]; exact h.cells n c e, h.there⟩, fun h => ⟨h.nd, h.len, fun n c e => by rw [cell_lv]; exact h.cells n c e, h.there⟩⟩
theorem aft_lv {W : XK} {μ : List Addr} {H : Hp} {r : Res A} {Q : VK} : Aft (G.lv cd cm k) W (RelA G) μ H r Q ↔ Aft G W (RelA G) μ H r Q := by
  cases r with
  | ok a S => simp only [Aft, sim_lv]
  | exc x S =>
    simp only [Aft, sim_lv]
    exact Iff.rfl
  | no => exact Iff.rfl
theorem sp_lv {F : Fns} {f : Nat} : spOf (G.lv cd cm k) F f = spOf G F f := by
  funext vs H Q E
  unfold spOf
  simp only [sim_lv, aft_lv, RelAs, rel_lv]
  rfl
theorem fnG_lv {j : Nat} {F : Fns} {f : Nat} : FnG (G.lv cd cm k) j F f ↔ FnG G j F f := by
  unfold FnG
  rw [sp_lv]
  exact Iff.rfl
end
/-- the base heap is of no matter -/
theorem sp_lv_base {P : Program} {w : World} {K : PySem.W.Frag} {mg : Str → Option Value} {b b' : Heap} {ca fa : Nat → Addr} {fd : Nat → FuncData} {ps : Nat → List Str} {F1 F2 F : Fns} {k f : Nat} :
    spOf { P := P, w := w, K := K, mg := mg, base := b, ca := ca, fa := fa, fd := fd, ps := ps, F := F1, Fm := F2, k := k } F f = spOf { P := P, w := w, K := K, mg := mg, base := b', ca := ca, fa := fa, fd := fd, ps := ps, F := F1, Fm := F2, k := k } F f := by
  have rel : RelA { P := P, w := w, K := K, mg := mg, base := b, ca := ca, fa := fa, fd := fd, ps := ps, F := F1, Fm := F2, k := k } = RelA { P := P, w := w, K := K, mg := mg, base := b', ca := ca, fa := fa, fd := fd, ps := ps, F := F1, Fm := F2, k := k } := by
    funext μ H a v; cases a <;> rfl
  have leaf : LeafR { P := P, w := w, K := K, mg := mg, base := b, ca := ca, fa := fa, fd := fd, ps := ps, F := F1, Fm := F2, k := k } = LeafR { P := P, w := w, K := K, mg := mg, base := b', ca := ca, fa := fa, fd := fd, ps := ps, F := F1, Fm := F2, k := k } := by
    funext μ H p q
    simp only [LeafR, rel]
  have ent : EntR { P := P, w := w, K := K, mg := mg, base := b, ca := ca, fa := fa, fd := fd, ps := ps, F := F1, Fm := F2, k := k } = EntR { P := P, w := w, K := K, mg := mg, base := b', ca := ca, fa := fa, fd := fd, ps := ps, F := F1, Fm := F2, k := k } := by
    funext μ H p q
    simp only [EntR, rel]
  have cell : CellOk { P := P, w := w, K := K, mg := mg, base := b, ca := ca, fa := fa, fd := fd, ps := ps, F := F1, Fm := F2, k := k } = CellOk { P := P, w := w, K := K, mg := mg, base := b', ca := ca, fa := fa, fd := fd, ps := ps, F := F1, Fm := F2, k := k } := by
    funext μ H a c
    cases c with
    | lst xs => simp only [CellOk, RelAs, rel]
    | dic kvs => simp only [CellOk, leaf, ent]
    | ins c fs => simp only [CellOk, rel]
    | fzn x => rfl
  have sim : ∀ {μ S H}, SimS { P := P, w := w, K := K, mg := mg, base := b, ca := ca, fa := fa, fd := fd, ps := ps, F := F1, Fm := F2, k := k } μ S H ↔ SimS { P := P, w := w, K := K, mg := mg, base := b', ca := ca, fa := fa, fd := fd, ps := ps, F := F1, Fm := F2, k := k } μ S H := fun {μ S H} =>
    ⟨fun h => ⟨h.nd, h.len, fun n c e => by rw [← cell]; exact h.cells n c e, h.there⟩, fun h => ⟨h.nd, h.len, fun n c e => by rw [cell]; exact h.cells n c e, h.there⟩⟩
  have aft : ∀ {W : XK} {μ : List Addr} {H : Hp} {r : Res A} {Q : VK} {R : List Addr → Hp → A → V → Prop}, Aft { P := P, w := w, K := K, mg := mg, base := b, ca := ca, fa := fa, fd := fd, ps := ps, F := F1, Fm := F2, k := k } W R μ H r Q ↔ Aft { P := P, w := w, K := K, mg := mg, base := b', ca := ca, fa := fa, fd := fd, ps := ps, F := F1, Fm := F2, k := k } W R μ H r Q := fun {W μ H r Q R} => by
    cases r with
    | ok a S => simp only [Aft, sim]
    | exc x S => simp only [Aft, sim]; exact Iff.rfl
    | no => exact Iff.rfl
  funext vs H Q E
  unfold spOf
  simp only [sim, aft, RelAs, rel]
/-- all defs keep their promises, at every depth -/
theorem all_good {G : Gl} {cd cm : Nat → Fns} {n : Nat} (h0 : ∀ f as S, cd 0 f as S = .no) (hs : ∀ k, (∀ j, j ≤ k → ∀ f, f < n → FnG G (j + 2) (cd j) f) → ∀ f, f < n → FnG (G.lv cd cm k) (k + 1 + 2) (cd (k + 1)) f) : ∀ k, ∀ j, j ≤ k → ∀ f, f < n → FnG G (j + 2) (cd j) f := by
  intro k
  induction k with
  | zero =>
    intro j hj f hf
    have e : j = 0 := Nat.le_zero.mp hj
    subst e
    have no : ∀ {vs H Q E}, ¬ spOf G (cd 0) f vs H Q E := fun {vs H Q E} ⟨_, μ, as, S, _, _, z⟩ => by rw [h0] at z; exact z
    exact ⟨fun vs H Q E z => absurd z no, fun A outer s H args us vs Q E _ _ _ _ z => absurd z no⟩
  | succ k ih =>
    intro j hj f hf
    by_cases h : j ≤ k
    · exact ih j h f hf
    · have e : j = k + 1 := by omega
      subst e
      exact fnG_lv.mp (hs k ih f hf)
/-- the class's maker at this depth -/
theorem room_lv {G : Gl} {cd cm : Nat → Fns} {n k f : Nat} (h0 : ∀ f as S, cm 0 f as S = .no) (h1 : ∀ j, cm (j + 1) = cd j) (ih : ∀ j, j ≤ k → ∀ f, f < n → FnG G (j + 2) (cd j) f) (hf : f < n) : (∀ as S, (G.lv cd cm k).Fm f as S = .no) ∨ ∃ j, (G.lv cd cm k).k = j + 1 ∧ FnG (G.lv cd cm k) j (G.lv cd cm k).Fm f := by
  cases k with
  | zero => exact .inl fun as S => h0 f as S
  | succ j => exact .inr ⟨j + 2, rfl, fnG_lv.mpr (by show FnG G (j + 2) (cm (j + 1)) f; rw [h1]; exact ih j (Nat.le_succ j) f hf)⟩
theorem defn_len {np n : Nat} {b : DS} {as : List A} {S : Store} : defn np n b as S = .no ∨ as.length = np := by
  unfold defn
  by_cases h : as.length = np
  · exact .inr h
  · exact .inl (if_neg h)
/-- what a head tells of a def -/
theorem fun_of {K : PySem.W.Frag} {x qual : Str} {st : Stmt} {f : Addr} (kp : PySem.W.keepIn K (.ref f) = true)
    (h : ∃ oc od osl kV doc pm an cdv ct, K.lookup f = some ⟨oc, od, .func (PySem.W.fnOf x qual (defArgs st) (defBody st) (defScope st) .none kV doc pm an cdv ct), osl⟩ ∧ PySem.W.codeIn K cdv qual = true) : ∃ fd, Fun K x qual st f fd := by
  obtain ⟨oc, od, osl, kV, doc, pm, an, cdv, ct, h1, h2⟩ := h
  exact ⟨_, ⟨oc, od, kV, doc, pm, an, cdv, ct, osl, rfl, h1, h2⟩, kp⟩
/-- a name that a comprehension of its own block reads is stored so -/
theorem sw_cell {e : Expr} {y : Str} {py : Pos} {l : Nat} {env : Env} (hy : env.scope.names.lookup y = some .cell) : swapsWith e (some (.Name y py)) l env = pure false := by
  have ky : env.kindOf y = some .cell := hy
  have hc : (env.kindOf y == some NameKind.local) = false := by rw [ky]; rfl
  unfold swapsWith
  split
  · simp only [hc]
    simp
  · rfl
section
variable {G : Gl} {sc : Scope} {N : List Str} {pos p' : Pos} {e : Expr} {x : Str} {de : DE}
theorem r_setC {i : Nat} (hi : N[i]? = some x) (hc : sc.names.lookup x = some .cell) (he : Snd G sc N e de) : SndS G sc N (.Assign [.Name x p'] e pos) (dAsg (gN i) de) := fun X W st tk =>
  ⟨fun pins s σ H D I q => (ps_set (X := X) (i := i) (by rw [st.names]; exact st.nd) (by rw [st.names]; exact hi) (by rw [st.scope]; exact .inr hc) (he X W st.toStat tk) (sw_cell (by rw [st.scope]; exact hc)) (.inl (st.fn x))).run pins s σ H D I (gN_read q)⟩
end
/-- the script, as it is handed -/
theorem only_sim {G : Gl} {H : Hp} : SimS G [] [] H := ⟨List.nodup_nil, rfl, fun n c e => by simp at e, fun a h => nomatch h⟩
theorem only_rel {G : Gl} {H : Hp} {a : Addr} {ns : List Int} (hO : Only H) (hS : SqL G.K H a (ns.map V.int)) : RelA G [] H (.d (.list (ns.map .int))) (.ref a) := by
  refine .lst ?_ (ints_fs ns)
  rcases hS with h | h
  · rcases h with h | ⟨o, h⟩
    · rcases hO a with e | ⟨o, xs, e⟩
      · rw [e] at h; cases h
      · rw [e] at h; cases h
    · exact .inl ⟨o, h⟩
  · exact .inr h
/-- nothing flies out of a law -/
theorem none_out {P : Program} {w : World} {H : Hp} {s s' : Shared} {e : Value} (h : L2.CX P w [] H s (fun _ _ _ => False) e s') : False := by
  unfold L2.CX at h
  obtain ⟨_, _, _, _, _, _, _, _, _, _, _, _, z⟩ := h
  exact z
/-- the law's def, called with a script: nothing else is tracked -/
theorem law_run {P : Program} {w : World} {K : PySem.W.Frag} {mg mb : Str → Option Value} {k : Nat} {fa a : Addr} {fd : FuncData} {x : Str} {sp : Sp} {s₁ : Shared} {vs : List Value} {ns : List Int}
    (inK : K.In s₁.heap) (gl : s₁.heap.Ns mainGlobals mg) (bl : s₁.heap.Ns builtinsNs mb) (bb : ∀ x : Str, x ≠ "__name__" → mb x = bootBuiltins x) (nl : s₁.heap.NoLimit) (gens : s₁.gens = #[])
    (script : s₁.heap.get? a = some { cls := .type "list", data := .seq vs.toArray }) (isI : IntsAre vs ns) (short : ns.length ≤ sizeLine) (room : Rm k callerA)
    (F : ∀ base : Heap, K.In base → base.Ns mainGlobals mg → FnK P w K mg base (L2.CX P w) k fa fd [x] sp) (bd : ∀ (s : Shared) (u : Value), BindsTo s fd ⟨[u], []⟩ [(x, u)])
    (ask : ∀ H : Hp, Only H → SqL K H a (ns.map V.int) → sp [.ref a] H (fun v _ => v = .bl true) fun _ _ _ => False) :
    codeAny (model P w) callerA (.call (.ref fa) ⟨[.ref a], []⟩) (fun r s' => r = .ok (.ret (.bool true)) ∧ OldK s₁.heap s'.heap ∧ s'.os = s₁.os ∧ AllBare s'.gens) s₁ := by
  have vals := vals_ints isI
  have main : ∀ H : Hp, Only H → SqL K H a (ns.map V.int) → HOk P w H s₁.heap → (∀ b, H b ≠ none → b = a ∧ K.lookup a = none) →
      codeAny (model P w) callerA (.call (.ref fa) ⟨[.ref a], []⟩) (fun r s' => r = .ok (.ret (.bool true)) ∧ OldK s₁.heap s'.heap ∧ s'.os = s₁.os ∧ AllBare s'.gens) s₁ := by
    intro H only sq hok own
    have free : ∀ {b : Addr}, b ≠ a → H b = none := fun {b} ne => by
      cases q : H b with
      | none => rfl
      | some u => exact absurd (own b (by simp [q])).1 ne
    have notA : ∀ {b : Addr} {o : Obj}, s₁.heap.get? b = some o → (∀ it n, o.data ≠ .seq it n) → b ≠ a := fun {b o} e d z => by
      subst z
      have y := Option.some.inj (e.symm.trans script)
      exact d _ _ (by rw [y])
    have ns2 : ∀ {b : Addr} {m : Str → Option Value}, s₁.heap.Ns b m → (hidT s₁.heap H).Ns b m := fun {b m} z => by
      obtain ⟨o, es, ep, e, d, r⟩ := z
      exact ⟨o, es, ep, hidT_get e (free (notA e fun it n z => by rw [d] at z; cases z)), d, r⟩
    have kin : K.In (hidT s₁.heap H) := fun b o e => hidT_get (inK b o e) (by
      cases q : H b with
      | none => rfl
      | some u =>
        obtain ⟨z1, z2⟩ := own b (by simp [q])
        rw [z1, z2] at e; cases e)
    have md : Mod K mg (hidT s₁.heap H) := ⟨kin, ns2 gl, ⟨mb, ns2 bl, bb⟩, nl.imp fun mc z => ⟨ns2 z.1, z.2⟩⟩
    have e0 : Env0 P w K mg (hidT s₁.heap H) callerA [] s₁ H := { frames := rfl, mod := md, bs := fun b o e => of_hidT e, bsz := Nat.le_of_eq (hidT_size _ _), funs := trivial, frf := fun b z => absurd (show b ∈ ([] : List Addr) from z) List.not_mem_nil, hok := hok, bare := .of_eq gens }
    refine codeAny_mono ((F _ kin (ns2 gl)).go callerA [] s₁ H ⟨[.ref a], []⟩ [.ref a] [.ref a] _ _ room e0 (bd s₁ (.ref a)) (.cons rfl .nil) (ask H only sq)) fun res s' after => ?_
    match res, after with
    | .error e, z => exact (none_out z).elim
    | .ok .next, z => exact z.elim
    | .ok .brk, z => exact z.elim
    | .ok .cont, z => exact z.elim
    | .ok (.ret u), ⟨v, H', os, bare, un, hok', ru, ev⟩ =>
      have ev : v = .bl true := ev
      subst ev
      have eu : u = Value.bool true := ru
      subst eu
      refine ⟨rfl, OldK.of_keep fun b o e => ?_, os, bare⟩
      rcases only b with z | ⟨ob, xs, z⟩
      · exact un.keep b o e z (fun y => absurd (show b ∈ ([] : List Addr) from y) List.not_mem_nil) List.not_mem_nil
      · have before := (hok b _ z).1
        have behind := (hok' b _ (un.frzs b ob _ z)).1
        exact behind.trans (before.symm.trans e)
  cases known : K.lookup a with
  | some o =>
    have eo : o = { cls := .type "list", data := .seq vs.toArray } := Option.some.inj ((inK a o known).symm.trans script)
    subst eo
    exact main (fun _ => none) (fun _ => .inl rfl) (.inr ⟨_, vs.toArray, _, known, rfl, rfl, rfl, by rw [List.size_toArray, isI.length]; exact short, by simpa using vals⟩) (fun b u z => absurd (show (none : Option HO) = some u from z) nofun) fun b z => absurd rfl z
  | none =>
    have at_ : ∀ b, (if b = a then some (HO.frz { cls := .type "list", data := .seq vs.toArray } (.lst (ns.map V.int))) else none) ≠ none → b = a := fun b z => Classical.byContradiction fun y => z (if_neg y)
    refine main (fun b => if b = a then some (.frz { cls := .type "list", data := .seq vs.toArray } (.lst (ns.map V.int))) else none) (fun b => ?_) (.inl (.inr ⟨_, if_pos rfl⟩)) (fun b u z => ?_) fun b z => ⟨at_ b z, known⟩
    · by_cases y : b = a
      · exact .inr ⟨_, _, if_pos y⟩
      · exact .inl (if_neg y)
    · have y : b = a := at_ b (by rw [show (if b = a then _ else none) = some u from z]; simp)
      subst y
      have eu := (show (if b = b then some (HO.frz { cls := .type "list", data := .seq vs.toArray } (.lst (ns.map V.int))) else none) = some u from z)
      rw [if_pos rfl] at eu
      have eu := Option.some.inj eu
      subst eu
      exact ⟨script, by rw [List.length_map]; exact short, vs, _, vals, script⟩
/-- the end: what the law's def gives for each written part -/
theorem end_of {l : PySem.W.OpenLaw} {k : Nat} {q : Program} {loose : List Str} {XP : (Str → Option Value) → Heap → Prop} {YP : World → Heap → Prop} {d : DefRec} {x : Str} (hn : l.most = some 63) (hd : d.params.defaults = []) (room : Rm k callerA)
    (F : ∀ (w : World) (mg : Str → Option Value) (f : Addr) (h : Heap), YP w h → h.Ns mainGlobals mg → mg d.name = some (.ref f) → ∃ (K : PySem.W.Frag) (fd : FuncData) (sp : Sp), K.In h ∧ (∀ (s : Shared) (u : Value), BindsTo s fd ⟨[u], []⟩ [(x, u)]) ∧
      (∀ (H : Hp) (a : Addr) (ns : List Int), ns.length ≤ 63 → Only H → SqL K H a (ns.map V.int) → sp [.ref a] H (fun v _ => v = .bl true) fun _ _ _ => False) ∧ ∀ base : Heap, K.In base → base.Ns mainGlobals mg → FnK l.prog w K mg base (L2.CX l.prog w) k f fd [x] sp) :
    PySem.W.WalkO q loose XP YP l.row.toRowW d [] fun f vs => PySem.call f vs := by
  refine Att.attach_call hn hd fun w sa sb mg mb f o pm cd doc a vs ns T Y ho h1 h2 hm hob hi hlen gens => ?_
  obtain ⟨K, fd, sp, inK, hb, hs, ok⟩ := F w mg f _ Y T.T.g hm
  exact law_run inK T.T.g T.T.b T.T.builtins T.T.nolimit gens hob hi (Nat.le_trans hlen (by decide)) room ok hb fun H only sq => hs H a ns hlen only sq
/-- a def whose answer is True keeps the law's promise -/
theorem law_sp {G : Gl} {F : Fns} {f : Nat} (hp : (G.ps f).length = 1) (h : ∀ ns : List Int, ns.length ≤ 63 → ∃ S, F f [.d (.list (ns.map .int))] [] = .ok (.d (.bool true)) S) {H : Hp} {a : Addr} {ns : List Int} (hl : ns.length ≤ 63) (hO : Only H) (hS : SqL G.K H a (ns.map V.int)) :
    spOf G F f [.ref a] H (fun v _ => v = .bl true) fun _ _ _ => False := by
  obtain ⟨S, e⟩ := h ns hl
  refine ⟨hp.symm, [], [.d (.list (ns.map .int))], [], only_sim, .cons (only_rel hO hS) .nil, ?_⟩
  rw [e]
  intro μ' H' v _ _ r
  cases r
  rfl
end Ev

/-! Ev16: how denotations are reckoned (simp). -/
namespace Ev
open PySem PySem.Spec PyProof.Rows L2

theorem Res.bind_con {α β : Type} {r r' : Res α} {f : α → Store → Res β} (h : r = r') : r.bind f = r'.bind f := by rw [h]
theorem Res.then_con {α : Type} {r r' : Res α} {l : Loc} {k : α → Store → RS} (h : r = r') : r.thenS l k = r'.thenS l k := by rw [h]

/-- behind a statement -/
def RS.to (r : RS) (b : DS) : RS := match r with
  | .nx l S => b l S
  | r => r
theorem RS.to_con {r r' : RS} {b : DS} (h : r = r') : r.to b = r'.to b := by rw [h]

@[simp] theorem to_nx (l : Loc) (S : Store) (b : DS) : (RS.nx l S).to b = b l S := rfl
@[simp] theorem to_rt (a : A) (S : Store) (b : DS) : (RS.rt a S).to b = .rt a S := rfl
@[simp] theorem to_bk (l : Loc) (S : Store) (b : DS) : (RS.bk l S).to b = .bk l S := rfl
@[simp] theorem to_exc (x : Exn) (l : Loc) (S : Store) (b : DS) : (RS.exc x l S).to b = .exc x l S := rfl
@[simp] theorem to_no (b : DS) : (RS.no).to b = .no := rfl
@[simp] theorem ev_seq (a b : DS) (l : Loc) (S : Store) : dSeq a b l S = (a l S).to b := by unfold dSeq RS.to; rfl
@[simp] theorem ev_skip (l : Loc) (S : Store) : dSkip l S = .nx l S := rfl
@[simp] theorem ev_break (l : Loc) (S : Store) : dBreak l S = .bk l S := rfl
@[simp] theorem ev_ret (d : DE) (l : Loc) (S : Store) : dRet d l S = (d l S).thenS l fun a S1 => .rt a S1 := rfl
@[simp] theorem ev_retN (l : Loc) (S : Store) : dRetN l S = .rt (.d .none) S := rfl
@[simp] theorem ev_expr (d : DE) (l : Loc) (S : Store) : dExpr d l S = (d l S).thenS l fun _ S1 => .nx l S1 := rfl
@[simp] theorem ev_ite (t : DR Bool) (a b : DS) (l : Loc) (S : Store) : dIte t a b l S = (t l S).thenS l fun c S1 => if c = true then a l S1 else b l S1 := rfl
/-- a target's new slots -/
def nxO (o : Option Loc) (S : Store) : RS := match o with
  | some l' => .nx l' S
  | none => .no
@[simp] theorem nxO_some (l : Loc) (S : Store) : nxO (some l) S = .nx l S := rfl
@[simp] theorem ev_asg (g : DG) (d : DE) (l : Loc) (S : Store) : dAsg g d l S = (d l S).thenS l fun a S1 => nxO (g a l) S1 := rfl
@[simp] theorem ev_gN (i : Nat) (a : A) (l : Loc) : gN i a l = if i < l.length then some (l.set i (some a)) else none := rfl
@[simp] theorem ev_gTup (gs : List DG) (ds : List D) (l : Loc) : gTup gs (.d (.tuple ds)) l = gAll gs ds l := rfl
@[simp] theorem ev_gAll0 (l : Loc) : gAll [] [] l = some l := rfl
@[simp] theorem ev_gAll (g : DG) (gs : List DG) (d : D) (ds : List D) (l : Loc) : gAll (g :: gs) (d :: ds) l = (g (.d d) l).bind (gAll gs ds) := rfl
@[simp] theorem ev_val (x : D) (l : Loc) (S : Store) : dVal x l S = .ok (.d x) S := rfl
def okO (o : Option (Option A)) (S : Store) : Res A := match o with
  | some (some a) => .ok a S
  | _ => .no
@[simp] theorem okO_some (a : A) (S : Store) : okO (some (some a)) S = .ok a S := rfl
@[simp] theorem ev_name (i : Nat) (l : Loc) (S : Store) : dName i l S = okO (l[i]?) S := by
  unfold dName okO
  cases l[i]? with
  | none => rfl
  | some o => cases o <;> rfl
@[simp] theorem ev_op2 (f : A → A → Store → Option A) (da db : DE) (l : Loc) (S : Store) : dOp2 f da db l S = (da l S).bind fun x S1 => (db l S1).bind fun y S2 => opt (f x y S2) S2 := rfl
@[simp] theorem ev_op1 (f : A → Store → Option A) (da : DE) (l : Loc) (S : Store) : dOp1 f da l S = (da l S).bind fun x S1 => opt (f x S1) S1 := rfl
@[simp] theorem opt_some (a : A) (S : Store) : opt (some a) S = .ok a S := rfl
@[simp] theorem opt_none (S : Store) : opt none S = .no := rfl
@[simp] theorem ev_pu2 (g : D → D → Option D) (x y : D) (S : Store) : pu2 g (.d x) (.d y) S = (g x y).map .d := rfl
@[simp] theorem ev_pu1 (g : D → Option D) (x : D) (S : Store) : pu1 g (.d x) S = (g x).map .d := rfl
@[simp] theorem ev_toB (d : DE) (l : Loc) (S : Store) : toB d l S = (d l S).bind fun a S1 => match a with
  | .d (.bool b) => .ok b S1
  | _ => .no := rfl
@[simp] theorem ev_notT (t : DR Bool) (l : Loc) (S : Store) : dNotT t l S = (t l S).bind fun b S1 => .ok (!b) S1 := rfl
@[simp] theorem ev_andT (t u : DR Bool) (l : Loc) (S : Store) : dAndT t u l S = (t l S).bind fun b S1 => if b = true then u l S1 else .ok false S1 := rfl
@[simp] theorem ev_orT (t u : DR Bool) (l : Loc) (S : Store) : dOrT t u l S = (t l S).bind fun b S1 => if b = true then .ok true S1 else u l S1 := rfl
@[simp] theorem ev_if {α : Type} (t : DR Bool) (u v : DR α) (l : Loc) (S : Store) : dIf t u v l S = (t l S).bind fun b S1 => if b = true then u l S1 else v l S1 := rfl
@[simp] theorem ev_andV (a b : DE) (l : Loc) (S : Store) : dAndV a b l S = dIf (toB a) b (dVal (.bool false)) l S := rfl
@[simp] theorem ev_orV (a b : DE) (l : Loc) (S : Store) : dOrV a b l S = dIf (toB a) (dVal (.bool true)) b l S := rfl
@[simp] theorem ev_notV (a : DE) (l : Loc) (S : Store) : dNotV a l S = (toB a l S).bind fun b S1 => .ok (.d (.bool (!b))) S1 := by
  unfold dNotV ofB
  show (dNotT (toB a) l S).bind _ = _
  rw [ev_notT]
  cases toB a l S <;> rfl
@[simp] theorem ev_chain (f f' : A → A → Store → Option A) (da db dc : DE) (l : Loc) (S : Store) : dChain f f' da db dc l S = (da l S).bind fun x S1 => (db l S1).bind fun y S2 => match f x y S2 with
  | some (.d (.bool true)) => (dc l S2).bind fun z S3 => opt (f' y z S3) S3
  | some (.d (.bool false)) => .ok (.d (.bool false)) S2
  | _ => .no := rfl
@[simp] theorem ev_nil (l : Loc) (S : Store) : dNil l S = .ok [] S := rfl
@[simp] theorem ev_cons (d : DE) (r : DR (List A)) (l : Loc) (S : Store) : dCons d r l S = (d l S).bind fun x S1 => (r l S1).bind fun xs S2 => .ok (x :: xs) S2 := rfl
@[simp] theorem pures_nil : pures [] = some [] := rfl
@[simp] theorem pures_d (x : D) (xs : List A) : pures (.d x :: xs) = (pures xs).map (x :: ·) := rfl
@[simp] theorem ev_tup (da : DR (List A)) (l : Loc) (S : Store) : dTup da l S = (da l S).bind (mkD .tuple) := rfl
@[simp] theorem ev_lst (da : DR (List A)) (l : Loc) (S : Store) : dLst da l S = (da l S).bind (mkD .list) := rfl
@[simp] theorem ev_lstM (da : DR (List A)) (l : Loc) (S : Store) : dLstM da l S = (da l S).bind fun xs S1 => if xs.length ≤ 16777216 then .ok (.loc S1.length) (S1 ++ [.lst xs]) else .no := rfl
@[simp] theorem ev_callB (f : List A → Store → Option A) (da : DR (List A)) (l : Loc) (S : Store) : dCallB f da l S = (da l S).bind fun xs S1 => opt (f xs S1) S1 := rfl
@[simp] theorem ev_pf1 (g : D → Option D) (x : D) (S : Store) : pf1 g [.d x] S = (g x).map .d := rfl
@[simp] theorem ev_pf2 (g : D → D → Option D) (x y : D) (S : Store) : pf2 g [.d x, .d y] S = (g x y).map .d := rfl
@[simp] theorem ev_call (F : Fns) (f : Nat) (da : DR (List A)) (l : Loc) (S : Store) : dCall F f da l S = (da l S).bind fun as S1 => F f as S1 := rfl
@[simp] theorem ev_make (F : Fns) (c f : Nat) (da : DR (List A)) (l : Loc) (S : Store) : dMake F c f da l S = (da l S).bind fun as S1 => (F f (.loc S1.length :: as) (S1 ++ [.ins c []])).bind fun r S2 => match r with
  | .d .none => .ok (.loc S1.length) S2
  | _ => .no := rfl
@[simp] theorem ev_isI (T : String) (d : DE) (l : Loc) (S : Store) : dIsI T d l S = dOp1 (pu1 (isI T)) d l S := rfl
@[simp] theorem ev_frz (d : DE) (l : Loc) (S : Store) : dFrz d l S = (d l S).bind frzA := rfl
@[simp] theorem ev_frzD (x : D) (S : Store) : frzA (.d x) S = .ok (.d x) S := rfl
@[simp] theorem ev_items (d : DE) (l : Loc) (S : Store) : dItems d l S = (d l S).bind fun a S1 => match a with
  | .d x => match itemsD x with
    | some ds => .ok ds S1
    | none => .no
  | _ => .no := rfl
@[simp] theorem ev_for (di : DR (List D)) (g : DG) (body : DS) (l : Loc) (S : Store) : dFor di g body l S = (di l S).thenS l fun ds S1 => loopF g body ds l S1 := rfl
@[simp] theorem ev_rg1 (d : DE) (l : Loc) (S : Store) : dRg1 d l S = (d l S).bind fun x S1 => match x with
  | .d b => match rgI (.int 0) b with
    | some ds => .ok ds S1
    | none => .no
  | _ => .no := rfl
@[simp] theorem ev_rg2 (d d2 : DE) (l : Loc) (S : Store) : dRg2 d d2 l S = (d l S).bind fun x S1 => (d2 l S1).bind fun y S2 => match x, y with
  | .d a, .d b => match rgI a b with
    | some ds => .ok ds S2
    | none => .no
  | _, _ => .no := rfl
@[simp] theorem ev_true (l : Loc) (S : Store) : dTrue l S = .ok true S := rfl
@[simp] theorem mkD_tup (xs : List A) (S : Store) : mkD .tuple xs S = (match pures xs with
  | some ds => if ds.length ≤ 16777216 then .ok (.d (.tuple ds)) S else .no
  | none => .no) := rfl
@[simp] theorem mkD_lst (xs : List A) (S : Store) : mkD .list xs S = (match pures xs with
  | some ds => if ds.length ≤ 16777216 then .ok (.d (.list ds)) S else .no
  | none => .no) := rfl
/-- a def's result from its body's -/
def defR (r : RS) : Res A := match r with
  | .nx _ S' => .ok (.d .none) S'
  | .rt a S' => .ok a S'
  | .exc x _ S' => .exc x S'
  | _ => .no
theorem defR_con {r r' : RS} (h : r = r') : defR r = defR r' := by rw [h]

@[simp] theorem defR_nx (l : Loc) (S : Store) : defR (.nx l S) = .ok (.d .none) S := rfl
@[simp] theorem defR_rt (a : A) (S : Store) : defR (.rt a S) = .ok a S := rfl
@[simp] theorem defR_exc (x : Exn) (l : Loc) (S : Store) : defR (.exc x l S) = .exc x S := rfl
theorem ev_defn {np n : Nat} {b : DS} {as : List A} {S : Store} (h : as.length = np) : defn np n b as S = defR (b (enter n as) S) := by
  unfold defn defR
  rw [if_pos h] <;> (cases b (enter n as) S <;> rfl)
@[simp] theorem ev_enter (n : Nat) (as : List A) : enter n as = as.map some ++ List.replicate (n - as.length) none := rfl

/-! ### arithmetic -/
@[simp] theorem ev_addI (i j : Int) : addD (.int i) (.int j) = some (.int (i + j)) := rfl
@[simp] theorem ev_subI (i j : Int) : subD (.int i) (.int j) = some (.int (i - j)) := rfl
@[simp] theorem ev_negI (i : Int) : negD (.int i) = some (.int (-i)) := rfl
@[simp] theorem ev_mulA (x y : D) (S : Store) : mulA (.d x) (.d y) S = (mulD x y).map .d := rfl
theorem ev_mulI {i j : Int} (h : mulIntOk i j = true) : mulD (.int i) (.int j) = some (.int (i * j)) := if_pos h
theorem ev_divI {i j : Int} (h : 0 < j) (h2 : j < 1073741824) : divD (.int i) (.int j) = some (.int (i / j)) := if_pos ⟨h, h2⟩
theorem ev_modI {i j : Int} (h : 0 < j) : modD (.int i) (.int j) = some (.int (i % j)) := if_pos h
@[simp] theorem ev_eqI (i j : Int) : eqD (.int i) (.int j) = some (decide (i = j)) := rfl
@[simp] theorem ev_eqS (i j : Str) : eqD (.str i) (.str j) = some (decide (i = j)) := rfl
@[simp] theorem ev_eqB (i j : Bool) : eqD (.bool i) (.bool j) = some (decide (i = j)) := rfl
@[simp] theorem ev_boolD (g : D → D → Option Bool) (d e : D) : boolD g d e = (g d e).map .bool := rfl
@[simp] theorem ev_notD (g : D → D → Option Bool) (d e : D) : notD g d e = (g d e).map fun b => .bool !b := rfl
@[simp] theorem ev_ltI (i j : Int) : ltD (.int i) (.int j) = some (decide (i < j)) := rfl
@[simp] theorem ev_leI (i j : Int) : leD (.int i) (.int j) = some (decide (i ≤ j)) := rfl
@[simp] theorem ev_gtI (i j : Int) : gtD (.int i) (.int j) = some (decide (j < i)) := rfl
@[simp] theorem ev_geI (i j : Int) : geD (.int i) (.int j) = some (decide (j ≤ i)) := rfl
@[simp] theorem ev_lenL (ds : List D) (S : Store) : lenA [.d (.list ds)] S = some (.d (.int ds.length)) := rfl
@[simp] theorem ev_lenT (ds : List D) (S : Store) : lenA [.d (.tuple ds)] S = some (.d (.int ds.length)) := rfl
@[simp] theorem ev_ixL (ds : List D) (i : Int) (S : Store) : ixU (.d (.list ds)) (.d (.int i)) S = (atI ds i).map .d := rfl
@[simp] theorem ev_ixT (ds : List D) (i : Int) (S : Store) : ixU (.d (.tuple ds)) (.d (.int i)) S = (atI ds i).map .d := rfl
theorem atI_n {α : Type} {xs : List α} {i : Nat} (h : i < xs.length) : atI xs (i : Int) = xs[i]? := by
  unfold atI ixN
  simp [h]
@[simp] theorem ev_itL (ds : List D) : itemsD (.list ds) = some ds := rfl
@[simp] theorem ev_itT (ds : List D) : itemsD (.tuple ds) = some ds := rfl
theorem ev_rgI {a b : Int} (h : rgOk a b = true) : rgI (.int a) (.int b) = some ((rgL a b).map .int) := if_pos h

/-! ### loops of comprehensions, of for -/
/-- what one element gives: none: left out -/
theorem comp_pure {g : DG} {t : DR Bool} {d : DE} {l : Loc} {S : Store} {f : D → Option D} : ∀ (ds acc : List D), acc.length + ds.length ≤ 16777216 → (∀ x ∈ ds, ∃ l1, g (.d x) l = some l1 ∧ ((t l1 S = .ok true S ∧ ∃ y, f x = some y ∧ d l1 S = .ok (.d y) S) ∨ (t l1 S = .ok false S ∧ f x = none))) →
    compF g t (putE d) l ds acc S = .ok (acc ++ ds.filterMap f) S
  | [], acc, _, _ => by simp [compF]
  | x :: ds, acc, hz, h => by
    obtain ⟨l1, e1, h1⟩ := h x (by simp)
    have hz' : acc.length + (ds.length + 1) ≤ 16777216 := by simpa using hz
    unfold compF
    rw [e1]
    rcases h1 with ⟨e2, y, e3, e4⟩ | ⟨e2, e3⟩
    · simp only [e2]
      have e5 : putE d acc l1 S = .ok (acc ++ [y]) S := by
        unfold putE
        rw [e4]
        exact if_pos (by omega)
      simp only [e5]
      rw [comp_pure ds (acc ++ [y]) (by simp; omega) fun x hx => h x (List.mem_cons_of_mem _ hx), List.filterMap_cons, e3]
      simp
    · simp only [e2]
      rw [comp_pure ds acc (by omega) fun x hx => h x (List.mem_cons_of_mem _ hx), List.filterMap_cons, e3]
/-- [d for g in di if t] -/
theorem ev_lc {di : DR (List D)} {vs : List Nat} {g : DG} {t : DR Bool} {d : DE} {l : Loc} {S S1 : Store} {ds : List D} (f : D → Option D) (hi : di l S = .ok ds S1) (hz : ds.length ≤ 16777216)
    (h : ∀ x ∈ ds, ∃ l1, g (.d x) (wipeA l vs) = some l1 ∧ ((t l1 S1 = .ok true S1 ∧ ∃ y, f x = some y ∧ d l1 S1 = .ok (.d y) S1) ∨ (t l1 S1 = .ok false S1 ∧ f x = none))) : dLc di vs g t d l S = .ok (.d (.list (ds.filterMap f))) S1 := by
  unfold dLc
  rw [hi, Res.ok_bind, comp_pure ds [] (by simpa using hz) h]
  simp
/-- without a test -/
theorem ev_lcM {di : DR (List D)} {vs : List Nat} {g : DG} {d : DE} {l : Loc} {S S1 : Store} {ds : List D} (f : D → D) (hi : di l S = .ok ds S1) (hz : ds.length ≤ 16777216) (h : ∀ x ∈ ds, ∃ l1, g (.d x) (wipeA l vs) = some l1 ∧ d l1 S1 = .ok (.d (f x)) S1) :
    dLc di vs g dTrue d l S = .ok (.d (.list (ds.map f))) S1 := by
  have e : ds.map f = ds.filterMap fun x => some (f x) := by simp
  rw [e]
  exact ev_lc _ hi hz fun x hx => let ⟨l1, h1, h2⟩ := h x hx; ⟨l1, h1, .inl ⟨rfl, _, rfl, h2⟩⟩
@[simp] theorem wipeA_nil (l : Loc) : wipeA l [] = l := rfl
@[simp] theorem wipeA_cons (l : Loc) (v : Nat) (vs : List Nat) : wipeA l (v :: vs) = (wipeA l vs).set v none := rfl
end Ev

/-! Ev17: own exceptions: an __init__ that says super().__init__(..) and keeps its parameters. -/
namespace Ev
open PySem PySem.Spec PyProof.Rows L2 PySem.W

/-- the scope of such an __init__: its names are its parameters -/
structure InitSc (P : List Str) (sc : Scope) : Prop where
  kind : sc.kind = .function
  co : sc.isCoroutine = false
  gen : sc.isGenerator = false
  nd : P.Nodup
  par : ∀ x ∈ P, sc.names.lookup x = some .local
  nocell : ∀ y ∈ sc.names, y.2 ≠ .cell
  free : ∀ y ∈ sc.names, y.2 = .free → y.1 = "__class__"
  cls : sc.names.lookup ("__class__" : Str) = some .free
  sup : sc.names.lookup ("super" : Str) = some .globalImplicit
theorem lookup_in : ∀ {l : List (Str × Value)} {x : Str} {u : Value}, (l.map (·.1)).Nodup → (x, u) ∈ l → l.lookup x = some u
  | [], _, _, _, h => nomatch h
  | (y, v) :: l, x, u, nd, h => by
    rw [List.map_cons, List.nodup_cons] at nd
    rcases List.mem_cons.mp h with e | h
    · cases e; rw [List.lookup_cons, beq_self_eq_true]
    · have hne : (x == y) = false := by
        refine beq_eq_false_iff_ne.mpr fun z => nd.1 ?_
        rw [← z]; exact List.mem_map.mpr ⟨_, h, rfl⟩
      rw [List.lookup_cons, hne]
      exact lookup_in nd.2 h
theorem zip_keys : ∀ {ps : List Str} {us : List Value}, us.length = ps.length → (ps.zip us).map (·.1) = ps
  | [], [], _ => rfl
  | [], _ :: _, h => by cases h
  | _ :: _, [], h => by cases h
  | p :: ps, u :: us, h => by rw [List.zip_cons_cons, List.map_cons, zip_keys (by simpa using h)]
theorem rev_lookup {ps : List Str} {us : List Value} {i : Nat} {x : Str} {u : Value} (nd : ps.Nodup) (hl : us.length = ps.length) (h1 : ps[i]? = some x) (h2 : us[i]? = some u) : (ps.zip us).reverse.lookup x = some u := by
  refine lookup_in (by rw [List.map_reverse, zip_keys hl]; exact List.pairwise_reverse.mpr (nd.imp Ne.symm)) (List.mem_reverse.mpr ?_)
  refine List.mem_of_getElem? (i := i) ?_
  rw [List.getElem?_zip_eq_some]
  exact ⟨h1, h2⟩

/-- the context of such a body -/
def cxC (P : Program) (w : World) (K : Frag) (mg : Str → Option Value) (base : Heap) (N : List Str) (qual : Str) (scope : Scope) (f : Addr) (cdv : Value) (cc : Addr) (A : Around) (outer : List Env) (s : Shared) (H : Hp) (E : XK) : Cx where
  prog := P
  w := w
  K := K
  mg := mg
  base := base
  A := A.deeper (ksEnv qual scope s.heap.objs.size f cdv cc)
  N := N
  s_0 := s
  H_0 := H
  env := ksEnv qual scope s.heap.objs.size f cdv cc
  outer := outer
  stack := ksEnv qual scope s.heap.objs.size f cdv cc :: outer
  ex := []
  calm := true
  fn := fun x => !(x == ("__class__" : Str))
  pn := []
  xe := fun e s' => wpAny (model P w) (A.deeper (ksEnv qual scope s.heap.objs.size f cdv cc)) (leaving (ksEnv qual scope s.heap.objs.size f cdv cc) e) (fun _ s'' => L2.CX P w outer H s E e s'') (fun e' s'' => L2.CX P w outer H s E e' s'') s'
section
variable {P : Program} {w : World} {K : Frag} {mg : Str → Option Value} {base : Heap} {ps : List Str} {qual : Str} {scope : Scope} {f cc : Addr} {cdv : Value} {A : Around} {outer : List Env} {s : Shared} {H : Hp} {E : XK} {us : List Value} {vs : List V}
theorem invC_start (S : InitSc ps scope) (hd : A.handled = none) (e0 : Env0 P w K mg base A outer s H) (hl : vs.length = ps.length) (r : Vals vs us) {cl : Value} {cld : Option Addr} {v0 : Option Value} {csl : Array (Option Value)}
    (hcc : K.lookup cc = some ⟨cl, cld, .cell v0, csl⟩) {h₀ : Heap} {tk : Nat} (hns : h₀.Ns s.heap.objs.size (fun x => (ps.zip us).reverse.lookup x)) (hk : ∀ b o, s.heap.get? b = some o → h₀.get? b = some o) :
    Inv (cxC P w K mg base ps qual scope f cdv cc A outer s H E) [] (L2.start ps vs) H { s with heap := h₀, toks := tk } := by
  have noA : ∀ b : Addr, b ∉ (cxC P w K mg base ps qual scope f cdv cc A outer s H E).ex := fun b z => absurd (show b ∈ ([] : List Addr) from z) (by simp)
  have kb := e0.mod.kin _ _ hcc
  have cells : ∀ {x : Str} {c : Addr}, List.lookup x [(("__class__" : Str), cc)] = some c → x = "__class__" ∧ c = cc := fun {x c} h => by
    rw [List.lookup_cons] at h
    by_cases e : x = "__class__"
    · subst e
      rw [beq_self_eq_true] at h
      exact ⟨rfl, (Option.some.inj h).symm⟩
    · rw [beq_eq_false_iff_ne.mpr e] at h; cases h
  refine ⟨⟨e0.mod, S.kind, rfl, rfl, Nat.le_refl _, fun y z c h1 h2 => ?_, fun y hy => ?_, fun y c h1 h => ?_, fun _ => hd, Around.frames_deeper e0.frames, .inr ⟨rfl, rfl⟩, fun b z => absurd z (noA b), e0.bs, e0.bsz, fun b _ _ => noA b, fun b z => absurd z (noA b), e0.funs, e0.frf⟩,
    rfl, e0.bare, Un.kept hk, ⟨_, hns, fun i y v h1 h2 h3 => ?_⟩, fun y c h => ?_, e0.hok.fresh (Nat.le_refl _), fun y c h => ?_, fun p hp => absurd (show p ∈ ([] : List (Addr × Obj)) from hp) (by simp), e0.hok.kept hk, ?_⟩
  · exact (cells h1).1.trans (cells h2).1.symm
  · have hy : scope.names.lookup y = some .cell ∨ scope.names.lookup y = some .free := hy
    rcases hy with hy | hy
    · exact absurd rfl (S.nocell _ (PySem.mem_of_lookup hy))
    · have e := S.free _ (PySem.mem_of_lookup hy) rfl
      have e : y = "__class__" := e
      subst e
      exact ⟨cc, by show List.lookup _ [_] = _; rw [List.lookup_cons, beq_self_eq_true]⟩
  · obtain ⟨rfl, _⟩ := cells h
    have h1 : (!(("__class__" : Str) == ("__class__" : Str))) = true := h1
    simp at h1
  · have hi : i < vs.length := by
      unfold L2.start at h2
      by_cases hi : i < vs.length
      · exact hi
      · rw [List.getElem?_append_right (by simpa using hi)] at h2
        rw [List.getElem?_replicate] at h2
        split at h2 <;> cases h2
    have ha : vs[i]? = some v := by
      unfold L2.start at h2
      rw [List.getElem?_append_left (by simpa using hi), List.getElem?_map] at h2
      cases e : vs[i]? with
      | none => rw [e] at h2; cases h2
      | some a => rw [e] at h2; cases h2; rfl
    obtain ⟨u, hu, rv⟩ := r.get ha
    exact ⟨u, rv, .inl ⟨S.par y (List.mem_of_getElem? h1), rev_lookup S.nd (r.length.symm.trans hl) h1 hu⟩⟩
  · obtain ⟨_, rfl⟩ := cells h
    exact ⟨v0, _, hk _ _ (e0.bs _ _ kb).1, rfl⟩
  · obtain ⟨_, rfl⟩ := cells h
    exact (e0.bs _ _ kb).2
  · unfold L2.start
    show _ = ps.length
    rw [List.length_append, List.length_map, List.length_replicate]
    omega
end
/-! ### the walk -/
/-- what the written part says of such a class and its __init__ -/
structure IniOk (P : Program) (K : Frag) (mg : Str → Option Value) (C f cc cda : Addr) (qual slf : Str) (params : Arguments) (fd : FuncData) (body : List Stmt) (scope : Scope) : Prop where
  lk : ∃ oc od dV kV doc pm an ct osl, fd = ksFn "__init__" qual params body scope dV kV doc pm an (.ref cda) ct cc ∧ K.lookup f = some ⟨oc, od, .func fd, osl⟩
  code : codeIn K (.ref cda) qual = true
  cobj : ∃ ccl cdd vs ccs file tf, K.lookup cda = some ⟨ccl, cdd, .fields vs, ccs⟩ ∧ vs[2]? = some (.str file tf) ∧ ((P.main.file : Str) == file) = true
  cell : ∃ cl cld csl, K.lookup cc = some ⟨cl, cld, .cell (some (.ref C)), csl⟩
  hd : ∃ ar, (params.posonlyargs ++ params.args).head? = some ar ∧ ar.arg = slf
  oex : OexC K C
  sup : ks_superIn K C C "__init__" = some (some (.builtin "ValueError.__init__"))
  sub : subIn K (.ref C) (.type "ValueError") = some true
  own : mroIn K C (.ref C) = some true
  opq : nsIn K cStatics "thirdparty.any" = some none
  top : (P.main.scope.names.lookup ("super" : Str)).isSome = false
  nos : mg "super" = none
section
variable {X : Cx} {pins : List (Addr × Obj)} {σ : L2.St} {H : Hp} {s : Shared} {a C : Addr}
/-- the bound __init__ of ValueError, called: nothing of it is told -/
theorem mw_call {us : List Value} {Q : Value → Shared → Prop} {E : Value → Shared → Prop} {A : Around} {u : Addr} (T : OexC X.K C) (I : Inv X pins σ H s) (e : H a = some (exo a C none)) (hu : s.heap.get? u = some (kxs_mw "ValueError.__init__" a)) (hl : us.length ≤ sizeLine) (h : ∀ s', Inv X pins σ H s' → Q .none s') :
    wpAny (model X.prog X.w) A (call (.ref u) us) Q E s := by
  obtain ⟨nm, q, N, bs, bm, sn, sub, ab, col, dd, k0, k1, k2, k3, k5, hC, hbm⟩ := T.cls
  obtain ⟨t1, ho⟩ := exo_at I.hok e
  have hCC := I.kIn _ _ hC
  obtain ⟨hp, g, d, t, os⟩ := s
  refine wpAny_call (codeAny_of_tree ?_)
  show wpAny _ A.in1 (callAny (.ref u) ⟨us, []⟩) _ _ _
  simp only [callAny]
  refine wpAny_bind (wpAny_load hu ?_)
  simp only [kxs_mw, show (Value.type "method-wrapper" == Value.type "method" || Value.type "method-wrapper" == Value.type "builtin_function_or_method" || Value.type "method-wrapper" == Value.type "method-wrapper") = true by decide, if_true]
  refine KFB.if_so (by decide) ?_
  refine wpAny_bind (check_bound_init F.excBase_ValueError.toExcCallFacts hCC ho rfl ?_)
  refine wpAny_bind (wpAny_pure (wpAny_pure ?_))
  refine ⟨plainId_quiet F.excBase_ValueError.init.plain _, codeAny_builtin F.excBase_ValueError.initEntry ?_⟩
  refine exc_init_tree (cls := .ref C) (t0 := t1) (dv := none) (c2 := .none) (c3 := .none) (b4 := .bool false) ho hl fun h' k hx _ => ?_
  have J := I.write (t' := t) (x := a) (e := a) (o := exo a C none) (by rw [e]; exact True.intro) (.inl rfl) k ⟨_, hx⟩ (exo_ok hx)
  have eu : upd H a (exo a C none) = H := by
    funext b
    by_cases hb : b = a
    · rw [hb, upd_same, e]
    · rw [upd_ne hb]
  rw [eu] at J
  exact h _ J
end
section
variable {P : Program} {w : World} {K : Frag} {mg : Str → Option Value} {base : Heap} {ps : List Str} {qual self : Str} {scope : Scope} {f cc cda C : Addr} {A : Around} {outer : List Env} {s : Shared} {H : Hp} {E : XK} {params : Arguments} {fd : FuncData} {body : List Stmt}
theorem ini_walk (T : IniOk P K mg C f cc cda qual self params fd body scope) (S : InitSc (self :: ps) scope) {rest : List Stmt} {e : Expr} {es : List Expr} {p0 p1 apos pos pos' : Pos} (hb : body = .Expr (.Call (.Attribute (.Call (.Name "super" p0) [] [] p1) "__init__" apos) (e :: es) [] pos) pos' :: rest)
    {ta : TA} {t : TS} (ha : PA (cxC P w K mg base (self :: ps) qual scope f (.ref cda) cc A outer s H E) (e :: es) ta) (ht : PSs (cxC P w K mg base (self :: ps) qual scope f (.ref cda) cc A outer s H E) rest t)
    {σ : L2.St} {H1 : Hp} {s1 : Shared} {D : Ends} {a : Addr} (I : Inv (cxC P w K mg base (self :: ps) qual scope f (.ref cda) cc A outer s H E) [] σ H1 s1) (hσ : σ[0]? = some (some (.ref a))) (ea : H1 a = some (exo a C none))
    (hta : ta σ H1 fun vs H2 => vs.length ≤ 1000 ∧ H2 = H1) (htt : t D σ H1) (he : starEach (e :: es) (cxC P w K mg base (self :: ps) qual scope f (.ref cda) cc A outer s H E).env = (false, eval e (cxC P w K mg base (self :: ps) qual scope f (.ref cda) cc A outer s H E).env) :: starEach es (cxC P w K mg base (self :: ps) qual scope f (.ref cda) cc A outer s H E).env)
    (hpl : (backTo pos (starEach es (cxC P w K mg base (self :: ps) qual scope f (.ref cda) cc A outer s H E).env)).any (·.1) = false) (hsw : swapsWith (.Call (.Attribute (.Call (.Name "super" p0) [] [] p1) "__init__" apos) (e :: es) [] pos) none pos'.line (cxC P w K mg base (self :: ps) qual scope f (.ref cda) cc A outer s H E).env = pure false)
    {pl : Sem Bool} (hc : eval (.Call (.Attribute (.Call (.Name "super" p0) [] [] p1) "__init__" apos) (e :: es) [] pos) (cxC P w K mg base (self :: ps) qual scope f (.ref cda) cc A outer s H E).env = (do
      let ov ← attributeBase (.Call (.Name "super" p0) [] [] p1) "__init__" (cxC P w K mg base (self :: ps) qual scope f (.ref cda) cc A outer s H E).env (eval (.Call (.Name "super" p0) [] [] p1) (cxC P w K mg base (self :: ps) qual scope f (.ref cda) cc A outer s H E).env)
      standAt apos.atName
      let (fx, first) ← holding [ov] (getMethod ov "__init__" pl)
      callWith pos fx first (backTo pos (starEach (e :: es) (cxC P w K mg base (self :: ps) qual scope f (.ref cda) cc A outer s H E).env)) [])) :
    PySem.wpAt (model P w) (cxC P w K mg base (self :: ps) qual scope f (.ref cda) cc A outer s H E).A (.func body (ksEnv qual scope s.heap.objs.size f (.ref cda) cc)) (execs body (ksEnv qual scope s.heap.objs.size f (.ref cda) cc))
      (SP (cxC P w K mg base (self :: ps) qual scope f (.ref cda) cc A outer s H E) [] D) (cxC P w K mg base (self :: ps) qual scope f (.ref cda) cc A outer s H E).xe s1 := by
  obtain ⟨oc, od, dV, kV, doc, pm, an, ct, osl, efd, lf⟩ := T.lk
  obtain ⟨ccl, cdd, fvs, ccs, file, tf, lcd, hvs, hfile⟩ := T.cobj
  obtain ⟨cl, cld, csl, lcc⟩ := T.cell
  obtain ⟨ar, har, hself⟩ := T.hd
  obtain ⟨nm, q, N, bs, bm, sn, sub, ab, col, dd, k0, k1, k2, k3, k5, hC, hbm⟩ := T.oex.cls
  have hcl : clsIn K C = some { name := nm, bases := bs, mro := .ref C :: bm, ns := N, qualname := q, hasDict := true, slotNames := sn, subclasses := sub, abstract := ab, collection := col, hasDel := false } := by unfold clsIn; rw [hC] <;> rfl
  generalize eX : cxC P w K mg base (self :: ps) qual scope f (.ref cda) cc A outer s H E = X at *
  have XK : X.K = K := by rw [← eX]; rfl
  have Xp : X.prog = P := by rw [← eX]; rfl
  have Xw : X.w = w := by rw [← eX]; rfl
  have Xe : X.env = ksEnv qual scope s.heap.objs.size f (.ref cda) cc := by rw [← eX]; rfl
  have Xm : X.mg = mg := by rw [← eX]; rfl
  rw [← Xe, ← Xp, ← Xw]
  have X1 : K.In s1.heap := by rw [← XK]; exact I.kIn
  obtain ⟨t1, ho⟩ := exo_at I.hok ea
  subst hb
  have sup : PySem.wpAny (model X.prog X.w) X.A (loadName X.env "super") (fun g s₁ => g = .type "super" ∧ s₁ = s1) X.xe s1 := by
    obtain ⟨mb, h1, h2⟩ := I.ok.mod.blt
    refine ks_loadName_global I.ok.kind (by rw [Xe]; exact S.sup) ?_
    exact Calls.loadGlobal_builtin (by rw [I.ok.glob]; exact I.ok.mod.glob.keeps I.bk) (by rw [Xm]; exact T.nos) (by rw [I.ok.blt]; exact h1.keeps I.bk) ((h2 _ (by decide +kernel)).trans (show bootBuiltins "super" = some (.type "super") from by decide +kernel)) ⟨rfl, rfl⟩
  refine ks_wpAt_execs_cons (ks_wpAt_Expr_any (ks_wpAt_MethodCall (pl := pl) ?_ hc) I.quiet hsw)
  refine ks_wpAt_super_base (f := f) (cc := cda) (by rw [Xe]; exact S.sup) (by rw [Xe]; exact S.cls) (by decide +kernel) (by rw [Xe] <;> rfl) (X1 _ _ lf) rfl (by rw [efd]; exact har) (by rw [Xe] <;> rfl) (X1 _ _ lcd) rfl hvs (by rw [Xp]; exact hfile) (by rw [Xp]; exact T.top) ?_
  refine wpAny_mono sup (fun g s₁ z => ⟨z.1, ?_⟩) fun _ _ z => z
  obtain ⟨_, rfl⟩ := z
  refine wpAny_loadName_free I.ok.kind (by rw [Xe]; exact S.cls) (by rw [Xe] <;> rfl) ⟨_, X1 _ _ lcc, rfl⟩ ?_
  have slf : ∃ m, s₁.heap.Ns X.env.locals m ∧ m self = some (.ref a) := by
    obtain ⟨m, h1, h2⟩ := I.loc
    obtain ⟨u, ru, lk⟩ := h2 0 self (.ref a) (by rw [← eX] <;> rfl) hσ (.inl (by rw [Xe]; exact S.par _ List.mem_cons_self))
    cases ru
    rcases lk with ⟨_, z⟩ | ⟨z, _⟩
    · exact ⟨m, h1, z⟩
    · have y : X.env.kindOf self = some .local := by rw [Xe]; exact S.par _ List.mem_cons_self
      rw [y] at z
      rcases z with z | z <;> cases z
  obtain ⟨m, hns, hm⟩ := slf
  rw [hself]
  refine wpAny_loadName_local I.ok.kind (by rw [Xe]; exact S.par _ List.mem_cons_self) hns hm ?_
  have hD1 := X1 _ _ hC
  have ins : InstAt s₁.heap a { cls := .ref C, dict := none, data := .fields #[.ref t1, .none, .none, .none, .bool false, .none] } C none := ⟨ho, rfl, rfl, trivial⟩
  obtain ⟨hp, g, d, tk, os⟩ := s₁
  refine ks_wpAny_isType_cls hD1 rfl ⟨rfl, ?_⟩
  refine ks_wpAny_call_super hD1 rfl ho rfl (fun c e => by cases e) (looks_mroIn X1 T.own) (fun h' e2 k2 => ?_)
  have I2 := I.kept (t' := tk) k2
  have X2 : K.In h' := by rw [← XK]; exact I2.kIn
  have ins2 : InstAt h' a { cls := .ref C, dict := none, data := .fields #[.ref t1, .none, .none, .none, .bool false, .none] } C none := ⟨k2 _ _ ho, rfl, rfl, trivial⟩
  have hsup := T.sup
  unfold ks_superIn at hsup
  rw [hcl] at hsup
  refine kxs_getMethod kxs_ValueError e2 (looks_opaque X2 T.opq) (l₀ := .ref C :: bm) (fun A Q E s k q => wpAny_bind ((looks_clsIn X2 hcl) A _ E s k (wpAny_pure q))) rfl X2 hsup (ins2.type.andThen (looks_subIn X2 T.sub)) (ks_ne X2 ins2 hcl) (by decide +kernel) ?_
  have k3 : ∀ b o, h'.get? b = some o → (h'.push (kxs_mw "ValueError.__init__" a)).get? b = some o := fun b o q => Heap.get?_push_of_some _ q
  have hu : (h'.push (kxs_mw "ValueError.__init__" a)).get? h'.objs.size = some (kxs_mw "ValueError.__init__" a) := Heap.get?_push_at rfl rfl
  have I3 := I2.kept (t' := tk + 1) k3
  have I4 : Inv X [(h'.objs.size, kxs_mw "ValueError.__init__" a)] σ H1 ⟨h'.push (kxs_mw "ValueError.__init__" a), g, d, tk + 1, os⟩ := I3.pins_of fun p hp => by
    have ep : p = (h'.objs.size, kxs_mw "ValueError.__init__" a) := by simpa using hp
    rw [ep]
    exact ⟨hu, I2.hok.fresh (Nat.le_refl _), Nat.ne_of_gt I2.lt, I2.nofs (Nat.le_refl _), fun v z => by cases z⟩
  show PySem.wpAny _ X.A (callWith pos (.ref h'.objs.size) [] (backTo pos (starEach (e :: es) X.env)) []) _ X.xe _
  rw [he]
  have e5 : backTo pos ((false, eval e X.env) :: starEach es X.env) = backTo pos (starEach (e :: es) X.env) := by rw [he]
  refine kxs_callWith (i := "ValueError.__init__") (x := a) (by rw [e5, he]; show (false || (backTo pos (starEach es X.env)).any (·.1)) = false; rw [hpl]; rfl) ?_
  rw [e5]
  have run := ha.run pos _ _ σ H1 _ I4 hta
  rw [he] at run
  rw [he]
  refine Calls.evalArgs_plain (wpAny_mono run (fun us s5 ⟨vs, H5, I5, r5, hz, eH⟩ => ?_) fun _ _ z => z)
  subst eH
  have hu5 : s5.heap.get? h'.objs.size = some (kxs_mw "ValueError.__init__" a) := (I5.pin _ (List.mem_append_right _ List.mem_cons_self)).1
  refine ⟨hu5, ?_⟩
  show PySem.wpAny _ X.A (call (.ref h'.objs.size) us) _ X.xe s5
  refine mw_call (by rw [XK]; exact T.oex) I5 ea hu5 (by rw [← Paired.length r5, sizeLine_eq]; omega) fun s6 I6 => ?_
  have I7 : Inv X [] σ H5 s6 := I6.pins_of fun p hp => nomatch hp
  exact wpAt_of_wpAny (ht.run [] s6 σ H5 D I7 htt)
end
/-- what such an __init__ leaves: the parameters as fields -/
def spI (C : Addr) (fls : List Str) : Sp := fun vs H Q _ => ∃ (a : Addr) (ws : List V), vs = .ref a :: ws ∧ ws.length = fls.length ∧ H a = some (exo a C none) ∧
  ∀ dx H', H dx = none → dx ≠ a → H' a = some (exo a C (some dx)) → H' dx = some (exd dx (fls.zip ws).reverse) → (∀ b, b ≠ a → b ≠ dx → H' b = H b) → Q .non H'
theorem visL {sc : Scope} {x : Str} (h : sc.names.lookup x = some .local) : Vis sc x := .inl h
section
variable {P : Program} {w : World} {K : Frag} {mg : Str → Option Value} {base : Heap} {qual self : Str} {scope : Scope} {f cc cda C : Addr} {params : Arguments} {fd : FuncData} {body : List Stmt} {fls : List Str}
theorem fn_ini (T : IniOk P K mg C f cc cda qual self params fd body scope) (S : InitSc (self :: fls) scope)
    (go : ∀ (A : Around) (outer : List Env) (s : Shared) (H : Hp) (E : XK) (s1 : Shared) (D : Ends) (a : Addr) (ws : List V), ws.length = fls.length → H a = some (exo a C none) → Inv (cxC P w K mg base (self :: fls) qual scope f (.ref cda) cc A outer s H E) [] (L2.start (self :: fls) (.ref a :: ws)) H s1 →
      (∀ σ' dx H', H dx = none → dx ≠ a → H' a = some (exo a C (some dx)) → H' dx = some (exd dx (fls.zip ws).reverse) → (∀ b, b ≠ a → b ≠ dx → H' b = H b) → D.nx σ' H') →
      PySem.wpAt (model P w) (cxC P w K mg base (self :: fls) qual scope f (.ref cda) cc A outer s H E).A (.func body (ksEnv qual scope s.heap.objs.size f (.ref cda) cc)) (execs body (ksEnv qual scope s.heap.objs.size f (.ref cda) cc))
        (SP (cxC P w K mg base (self :: fls) qual scope f (.ref cda) cc A outer s H E) [] D) (cxC P w K mg base (self :: fls) qual scope f (.ref cda) cc A outer s H E).xe s1) :
    FnOk P w K mg base (L2.CX P w) 1 f fd (self :: fls) (spI C fls) := by
  refine ⟨fun vs H Q E ⟨a, ws, e, hl, _⟩ => by rw [e]; simp [hl], fun A outer s H args us vs Q E hr e0 hb r hsp => ?_⟩
  obtain ⟨a, ws, rfl, hl, ea, q⟩ := hsp
  obtain ⟨oc, od, dV, kV, doc, pm, an, ct, osl, efd, lf⟩ := T.lk
  obtain ⟨cl, cld, csl, lcc⟩ := T.cell
  subst efd
  have KX : K.In s.heap := e0.mod.kin.keeps fun b o e => (e0.bs b o e).1
  have lim : s.heap.NoLimit := e0.mod.nolimit.keeps fun b o e => (e0.bs b o e).1
  refine ks_codeAny_call_defAt (body := body) hr.depth (KX _ _ lf) rfl lim (codeRec_of KX T.code) rfl hb S.nocell (fun y hy => S.par _ (List.of_mem_zip hy).1) (fun h₀ hns hk => ?_) S.co S.gen S.kind
  have I : Inv (cxC P w K mg base (self :: fls) qual scope f (.ref cda) cc A outer s H E) [] (L2.start (self :: fls) (.ref a :: ws)) H { s with heap := h₀, toks := s.toks + ((self :: fls).zip us).length } :=
    invC_start S hr.hd e0 (by simp [hl]) r lcc hns hk
  refine ks_wpAt_mono (go A outer s H E _ { nx := fun _ H' => Q .non H', rt := Q } a ws hl ea I fun _ dx H' h1 h2 h3 h4 h5 => q dx H' h1 h2 h3 h4 h5) (fun fl s' hs => ?_) fun _ _ z => z
  cases fl with
  | ret u =>
    obtain ⟨v, σ', H', J, rv, q⟩ := hs
    exact ⟨v, H', J.os, J.bare, J.base, J.hok, rv, q⟩
  | next =>
    obtain ⟨σ', H', J, q⟩ := hs
    exact ⟨V.non, H', J.os, J.bare, J.base, J.hok, rfl, q⟩
  | brk =>
    obtain ⟨_, _, _, q⟩ := hs
    exact False.elim q
  | cont =>
    obtain ⟨_, _, _, q⟩ := hs
    exact False.elim q
/-- one field -/
theorem fn_ini1 {x : Str} {p0 p1 p2 p3 p4 p5 p6 p7 p8 p9 : Pos} (T : IniOk P K mg C f cc cda qual self params fd body scope) (S : InitSc [self, x] scope) (hx : visB scope x = true) (hs : visB scope self = true) (nx : findIn K (.ref C) x = some none)
    (hb : body = [.Expr (.Call (.Attribute (.Call (.Name "super" p0) [] [] p1) "__init__" p2) [.Name x p3] [] p4) p5, .Assign [.Attribute (.Name self p6) x p7] (.Name x p8) p9])
    (pl : Env → Sem Bool) (hc : ∀ env, eval (.Call (.Attribute (.Call (.Name "super" p0) [] [] p1) "__init__" p2) [.Name x p3] [] p4) env = (do
      let ov ← attributeBase (.Call (.Name "super" p0) [] [] p1) "__init__" env (eval (.Call (.Name "super" p0) [] [] p1) env)
      standAt p2.atName
      let (fx, first) ← holding [ov] (getMethod ov "__init__" (pl env))
      callWith p4 fx first (backTo p4 (starEach [.Name x p3] env)) [])) :
    FnOk P w K mg base (L2.CX P w) 1 f fd [self, x] (spI C [x]) := by
  obtain ⟨x1, x2, x3⟩ := vis_of hx
  obtain ⟨y1, y2, y3⟩ := vis_of hs
  refine fn_ini T S fun A outer s H E s1 D a ws hl ea I h => ?_
  match ws, hl with
  | [v], _ =>
    subst hb
    refine ini_walk T S (pl := pl _) rfl (pa_cons (pe_var (i := 1) rfl x1 x2 x3) pa_nil (by rfl)) (pss_one (ps_ost (pe_var (i := 0) rfl y1 y2 y3) (pe_var (i := 1) rfl x1 x2 x3) (by rfl))) I rfl ea ⟨v, rfl, by simp, rfl⟩ ?_ (by rfl) (by rfl) (by rfl) (hc _)
    refine ⟨v, rfl, .ref a, rfl, a, C, rfl, T.oex, nx, .inl ⟨ea, fun dx hd hne => ?_⟩⟩
    exact h _ dx _ hd hne upd_same (by rw [upd_ne hne, upd_same]; rfl) fun b h1 h2 => by rw [upd_ne h1, upd_ne h2]
/-- two fields -/
theorem fn_ini2 {x y : Str} {p0 p1 p2 p3 q3 p4 p5 p6 p7 p8 p9 q6 q7 q8 q9 : Pos} (T : IniOk P K mg C f cc cda qual self params fd body scope) (S : InitSc [self, x, y] scope) (hx : visB scope x = true) (hy : visB scope y = true) (hs : visB scope self = true) (nx : findIn K (.ref C) x = some none) (ny : findIn K (.ref C) y = some none)
    (hb : body = [.Expr (.Call (.Attribute (.Call (.Name "super" p0) [] [] p1) "__init__" p2) [.Name x p3, .Name y q3] [] p4) p5, .Assign [.Attribute (.Name self p6) x p7] (.Name x p8) p9, .Assign [.Attribute (.Name self q6) y q7] (.Name y q8) q9])
    (pl : Env → Sem Bool) (hc : ∀ env, eval (.Call (.Attribute (.Call (.Name "super" p0) [] [] p1) "__init__" p2) [.Name x p3, .Name y q3] [] p4) env = (do
      let ov ← attributeBase (.Call (.Name "super" p0) [] [] p1) "__init__" env (eval (.Call (.Name "super" p0) [] [] p1) env)
      standAt p2.atName
      let (fx, first) ← holding [ov] (getMethod ov "__init__" (pl env))
      callWith p4 fx first (backTo p4 (starEach [.Name x p3, .Name y q3] env)) [])) :
    FnOk P w K mg base (L2.CX P w) 1 f fd [self, x, y] (spI C [x, y]) := by
  obtain ⟨x1, x2, x3⟩ := vis_of hx
  obtain ⟨z1, z2, z3⟩ := vis_of hy
  obtain ⟨y1, y2, y3⟩ := vis_of hs
  refine fn_ini T S fun A outer s H E s1 D a ws hl ea I h => ?_
  match ws, hl with
  | [v, u], _ =>
    subst hb
    refine ini_walk T S (pl := pl _) rfl (pa_cons (pe_var (i := 1) rfl x1 x2 x3) (pa_cons (pe_var (i := 2) rfl z1 z2 z3) pa_nil (by rfl)) (by rfl)) (pss_cons (ps_ost (pe_var (i := 0) rfl y1 y2 y3) (pe_var (i := 1) rfl x1 x2 x3) (by rfl)) (pss_one (ps_ost (pe_var (i := 0) rfl y1 y2 y3) (pe_var (i := 2) rfl z1 z2 z3) (by rfl)))) I rfl ea ⟨v, rfl, u, rfl, by simp, rfl⟩ ?_ (by rfl) (by rfl) (by rfl) (hc _)
    refine ⟨v, rfl, .ref a, rfl, a, C, rfl, T.oex, nx, .inl ⟨ea, fun dx hd hne => ?_⟩⟩
    refine ⟨u, rfl, .ref a, rfl, a, C, rfl, T.oex, ny, .inr ⟨dx, [(x, v)], upd_same, by rw [upd_ne hne, upd_same], by simp, ?_⟩⟩
    exact h _ dx _ hd hne (by rw [upd_ne (Ne.symm hne), upd_same]) (by rw [upd_same]; rfl) fun b h1 h2 => by rw [upd_ne h2, upd_ne h1, upd_ne h2]
end
end Ev

/-! Ev18: raise, try .. except. -/
namespace Ev
open PySem PySem.Spec PyProof.Rows L2

/-- an own exception class with an __init__: its fields are its parameters -/
structure ExI (G : Gl) (c : Nat) (x : Str) (fls : List Str) : Prop where
  mg : G.mg x = some (.ref (G.ca c))
  oex : OexC G.K (G.ca c)
  init : ∃ fI fd slf, PySem.W.findIn G.K (.ref (G.ca c)) "__init__" = some (some (.ref fI)) ∧ PySem.W.typeIn G.K (.ref fI) = some (.type "function") ∧ FnOk G.P G.w G.K G.mg G.base (L2.CX G.P G.w) 1 fI fd (slf :: fls) (spI (G.ca c) fls) ∧ Binds G.K fd (slf :: fls) []
def dRaise (c : Nat) (fls : List Str) (das : DR (List A)) : DS := fun l S => (das l S).thenS l fun as S1 => match pures as with
  | some ds => if ds.length = fls.length then .exc ⟨c, (fls.zip ds).reverse⟩ l S1 else .no
  | none => .no
theorem cx_no {P : Program} {w : World} {o : List Env} {H : Hp} {s s' : Shared} {e : Value} (h : L2.CX P w o H s (fun _ _ _ => False) e s') : False := by
  unfold L2.CX at h
  obtain ⟨_, _, _, _, _, _, _, _, _, _, _, _, z⟩ := h
  exact z
section
variable {G : Gl} {sc : Scope} {N : List Str} {pos p pos' : Pos} {e : Expr} {es : List Expr} {das : DR (List A)} {x : Str}
theorem zip_rel {H : Hp} : ∀ {fls : List Str} {vs : List V} {ds : List D}, DpFs G.w G.K H vs ds → ds.length = fls.length → Paired (fun (p : Str × D) (q : Str × V) => p.1 = q.1 ∧ DpF G.w G.K H q.2 p.2) (fls.zip ds) (fls.zip vs)
  | [], [], [], _, _ => .nil
  | [], _, _ :: _, _, h => by cases h
  | [], _ :: _, [], h, _ => by cases h
  | _ :: _, _, [], _, h => by cases h
  | f :: fls, _, d :: ds, .cons a b, h => .cons ⟨rfl, a⟩ (zip_rel b (by simpa using h))
theorem r_raise {c : Nat} {fls : List Str} (hx : ExI G c x fls) (hg : glB sc x = true) (ha : SndA G sc N (e :: es) das) (hl : fls.length ≤ 1000 := by decide) (he : ∀ env, starEach (e :: es) env = (false, eval e env) :: starEach es env := by intro _; rfl) (hpl : ∀ env, (backTo pos (starEach es env)).any (·.1) = false := by intro _; rfl) :
    SndS G sc N (.Raise (some (.Call (.Name x p) (e :: es) [] pos)) none pos') (dRaise c fls das) := fun X W st tk => by
  obtain ⟨g1, g2, g3⟩ := gl_of hg
  obtain ⟨fI, fd, slf, i1, i2, F, bd⟩ := hx.init
  rw [← st.prog, ← st.w, ← st.K, ← st.mg, ← st.base] at F
  rw [← st.K] at i1 i2 bd
  have T := hx.oex
  rw [← st.K] at T
  refine ⟨fun pins s σ H D I q => (ps_raise st.calm tk (pmk_oex (dvs := []) (ds := []) T i1 i2 F ((st.room.less (Nat.zero_le _)).two) bd .nil (fun _ _ _ _ _ _ _ z => (cx_no z).elim) (show X.env.scope.names.lookup x = _ by rw [st.scope]; exact g1) (by rw [st.mg]; exact hx.mg) (ha X W st.toStat tk) g2 (he X.env) (hpl X.env))).run pins s σ H D I ?_⟩
  refine tR.imp (then_read (k := fun as l S1 => match pures as with
    | some ds => if ds.length = fls.length then .exc ⟨c, (fls.zip ds).reverse⟩ l S1 else .no
    | none => .no) (rel := RelAs G) q) fun vs H1 ⟨μ1, l, as, S1, s1, sl1, ra, h⟩ => ?_
  split at h
  · rename_i ds ep
    split at h
    · rename_i hn
      have fs := pures_some ep ra
      refine ⟨by rw [fs.length, hn]; exact hl, fun a ha => ⟨a, vs ++ [], rfl, by rw [List.append_nil, fs.length, hn], upd_same, fun dx H' hd hne ea ed rest => ⟨rfl, dx, _, ea, ed, ?_, ?_⟩⟩⟩
      · rw [upd_ne hne] at hd; exact hd
      · rw [upd_ne hne] at hd
        have eH : upd (del H' a) dx (.xd (fls.zip (vs ++ [])).reverse) = upd H1 dx (.xd (fls.zip (vs ++ [])).reverse) := by
          funext b
          by_cases b1 : b = dx
          · rw [b1, upd_same, upd_same]
          · rw [upd_ne b1, upd_ne b1]
            by_cases b2 : b = a
            · rw [b2, del_same, ha]
            · rw [del_ne b2, rest b b2 b1, upd_ne b2]
        rw [eH, List.append_nil]
        have sm := same_new (o := HO.xd (fls.zip vs).reverse) hd
        refine h μ1 _ σ _ _ (Grow.same sm) (s1.same sm) (sl1.grow (Grow.same sm)) ⟨rfl, _, upd_same, ?_⟩
        exact paired_reverse (zip_rel (fs.mono (Pers.of sm)) hn)
    · exact h.elim
  · exact h.elim
end
end Ev

/-! Ev19: except suites: what they say of the exception. -/
namespace Ev
open PySem PySem.Spec PyProof.Rows L2

/-! ### isinstance of a caught exception, with or without fields -/
section
open PySem.W PySem.Calls
variable {prog : Program} {w : World} {A : Around} {E : Value → Shared → Prop} {s : Shared} {K : Frag} {x D : Addr} {ox : Obj} {od : Option Obj}
theorem found_class {C : Addr} {name : Str} {a g : Value} (hc : (clsIn K C).isSome = true) (ha : findIn K (.ref C) name = some (some a)) (hg : specialIn K a "__get__" = some (some g)) (ht : takesIn K a = some true) : findObj K C od name = some (.bind g a) := by
  obtain ⟨cd, e⟩ := Option.isSome_iff_exists.mp hc
  unfold findObj
  rw [e, Option.bind_some, ha, Option.bind_some]
  simp [hg, ht]
theorem class_of_exc {Q : Option Value → Shared → Prop} (C : ExcC K D) (X : K.In s.heap) (I : InstAt s.heap x ox D od) (h : Q (some (.ref D)) { s with toks := s.toks + 1 }) : wpAny (model prog w) A (getAttr? (.ref x) "__class__") Q E s := by
  have hf : findObj K D od "__class__" = some (.bind (.builtin "getset_descriptor.__get__") (.builtin "object.__class__")) := found_class (by obtain ⟨cd, hc, _⟩ := any_some C.hd; rw [hc]; rfl) C.ha C.hn C.ht
  obtain ⟨hp, g, d, t, os⟩ := s
  have ty := I.type (M := model prog w)
  have ga := looks_findIn (M := model prog w) X C.hg
  have gt := looks_findIn (M := model prog w) X C.hk
  have fd := looks_find (M := model prog w) X I hf
  have sub : Looks (model prog w) hp (isInstance (.ref x) (.type "BaseException")) true := ty.andThen (looks_subIn X C.hs)
  have n0 : (Value.builtin "BaseException.__getattribute__" == Value.builtin "object.__getattribute__") = false := by decide +kernel
  have n1 : (onTheHeap (Value.ref D) && Value.builtin "BaseException.__getattribute__" == Value.builtin "object.__getattribute__") = false := by rw [n0]; rfl
  unfold getAttr? getAttrBy? getAttrBy
  refine wpAny_bind (wpAny_mkText (wpAny_bind (wpAny_attempt (wpAny_holding (wpAny_bind (ty.at (wpAny_bind (ga.at ?_))))))))
  show wpAny _ _ (if (onTheHeap (Value.ref D) && Value.builtin "BaseException.__getattribute__" == Value.builtin "object.__getattribute__") = true then _ else _) _ _ _
  rw [n1, if_neg Bool.false_ne_true]
  unfold getAttrByItsOwn hookBefore
  refine wpAny_bind ?_
  rw [if_pos (show onTheHeap (Value.ref D) = true from rfl)]
  refine gt.at ?_
  refine wpAny_bind (wpAny_attempt (wpAny_holding ?_))
  unfold callGetattribute
  rw [show (false && onTheHeap (Value.builtin "BaseException.__getattribute__")) = false from rfl, if_neg Bool.false_ne_true]
  unfold boundAndCalled
  rw [PySem.F.excAttr_ValueError.ga.bind (.ref x)]
  refine wpAny_bind (wpAny_pure ?_)
  show wpAny _ _ (call (.builtin "BaseException.__getattribute__") [.ref x, .str "__class__" t]) _ _ _
  refine wpAny_call (codeAny_call_builtin PySem.F.excAttr_ValueError.ga.plain PySem.F.entry_bexc_ga ?_)
  refine @check_slot (model prog w) _ _ ⟨hp, g, d, t + 1, os⟩ "BaseException.__getattribute__" "BaseException" "__getattribute__" (.ref x) [.str "__class__" t] [] _ (by decide +kernel) (by decide +kernel) sub (PySem.F.args_bexc_ga (.ref x) (.str "__class__" t)) ?_
  unfold Builtin.«object.__getattribute__»
  refine wpAny_bind (wpAny_of_eq (a := ((Value.ref x : Value), [Value.str "__class__" t])) (by first | rfl | (simp only [slotArgs]; rfl)) ?_)
  refine wpAny_bind (wpAny_pure (wpAny_bind (ty.at (wpAny_bind (fd.at ?_)))))
  show wpAny _ _ (holding [Value.builtin "object.__class__"] (call (.builtin "getset_descriptor.__get__") [.builtin "object.__class__", .ref x, .ref D]) >>= ret) _ _ _
  refine wpAny_bind (wpAny_holding (wpAny_call (class_get (s := ⟨hp, g, d, t + 1, os⟩) (ox := ox) (od := od) X I C.hm ?_)))
  refine wpAny_pure ?_
  show wpAny _ _ (handedOut (.ref D)) _ _ _
  rw [handedOut_of (v := .ref D) rfl]
  first
    | exact wpAny_pure (wpAny_pure h)
    | exact wpAny_pure h
    | exact wpAny_pure (wpAny_bind (wpAny_pure (wpAny_pure h)))
theorem kit_exc (C : ExcC K D) : KitX K (.ref x) (.ref D) (fun h => InstAt h x ox D od) where
  ty := fun _ _ _ I => I.type
  it := fun _ _ X _ => by
    obtain ⟨cdD, hcD, _⟩ := any_some C.hd
    unfold clsIn at hcD
    split at hcD
    · rename_i c' d' cd' sl' ho
      intro A' Q' E' s' k q
      unfold isType loadHead
      exact wpAny_bind (wpAny_loadPart (k _ _ (X _ _ ho)) (wpAny_pure q))
    · cases hcD
  ne := fun h tp dd its n sl X htp => by
    obtain ⟨cdD, hcD, _⟩ := any_some C.hd
    refine Bool.eq_false_iff.mpr fun q => ?_
    have e : D = tp := Value.ref.inj (beq_iff_eq.mp q)
    subst e
    unfold clsIn at hcD
    split at hcD
    · rename_i c' d' cd' sl' ho
      have z := (X _ _ ho).symm.trans htp
      cases z
    · cases hcD
  ca := fun X I k => class_of_exc C X I k
end

/-! ### what a suite's expression is, plainly -/
/-- the exception's dict, where it has one -/
def OdOk (H : Hp) (d : Option Addr) : Prop := match d with
  | none => True
  | some dd => ∃ fs, H dd = some (.xd fs)
theorem ExnRel.od {G : Gl} {H : Hp} {x : Exn} {c : Value} {d : Option Addr} (h : ExnRel G H x c d) : OdOk H d := by
  obtain ⟨_, h⟩ := h
  cases d with
  | none => trivial
  | some dd => obtain ⟨gs, e, _⟩ := h; exact ⟨gs, e⟩
theorem ExnRel.same {G : Gl} {H H' : Hp} {x : Exn} {c : Value} {d : Option Addr} (h : ExnRel G H x c d) (s : Same H H') : ExnRel G H' x c d := by
  obtain ⟨h1, h⟩ := h
  refine ⟨h1, ?_⟩
  cases d with
  | none => exact h
  | some dd =>
    obtain ⟨gs, e, p⟩ := h
    exact ⟨gs, s _ _ e, Paired.mapP p fun _ _ z => ⟨z.1, z.2.mono (Pers.of s)⟩⟩
/-- the place of a suite -/
structure Hot (G : Gl) (i : Nat) (a : Addr) (cls : Value) (d : Option Addr) (x : Exn) (l : Loc) (σ : L2.St) (H : Hp) : Prop where
  ex : ExnRel G H x cls d
  at_ : σ[i]? = some (some (.ref a))
  sim : ∃ μ S, SimS G μ S H ∧ SimL G μ H l σ
abbrev DX := Exn → Loc → Option D
def tXp (G : Gl) (i : Nat) (a : Addr) (cls : Value) (d : Option Addr) (dx : DX) : TE := fun σ H Q => ∃ x l v, Hot G i a cls d x l σ H ∧ dx x l = some v ∧ ∀ H' u, Same H H' → DpF G.w G.K H' u v → Q u H'
abbrev DXs := Exn → Loc → Option (List D)
def tXs (G : Gl) (i : Nat) (a : Addr) (cls : Value) (d : Option Addr) (dx : DXs) : TA := fun σ H Q => ∃ x l vs, Hot G i a cls d x l σ H ∧ dx x l = some vs ∧ ∀ H' us, Same H H' → DpFs G.w G.K H' us vs → Q us H'
theorem Hot.same {G : Gl} {i : Nat} {a : Addr} {cls : Value} {d : Option Addr} {x : Exn} {l : Loc} {σ : L2.St} {H H' : Hp} (h : Hot G i a cls d x l σ H) (s : Same H H') : Hot G i a cls d x l σ H' := by
  obtain ⟨h1, h2, μ, S, h3, h4⟩ := h
  exact ⟨h1.same s, h2, μ, S, h3.same s, h4.grow (Grow.same s)⟩
structure HotX (G : Gl) (sc : Scope) (N : List Str) (X : Cx) : Prop where
  stat : StatS G sc N X
def SndX (G : Gl) (sc : Scope) (N : List Str) (i : Nat) (e : Expr) (dx : DX) : Prop := ∀ (X : Cx) (a : Addr) (oe : Obj) (cls : Value) (d : Option Addr) (pn : List (Addr × Obj)), StatS G sc N X → Zc cls d oe → (∃ vs, oe.data = .fields vs) → PE (X.suite a ((a, oe) :: pn)) e (tXp G i a cls d dx)
def SndXs (G : Gl) (sc : Scope) (N : List Str) (i : Nat) (es : List Expr) (dx : DXs) : Prop := ∀ (X : Cx) (a : Addr) (oe : Obj) (cls : Value) (d : Option Addr) (pn : List (Addr × Obj)), StatS G sc N X → Zc cls d oe → (∃ vs, oe.data = .fields vs) → PA (X.suite a ((a, oe) :: pn)) es (tXs G i a cls d dx)
section
variable {G : Gl} {sc : Scope} {N : List Str} {i : Nat} {pos p p2 p3 : Pos} {e b c : Expr} {es : List Expr} {n f C : Str} {dx dy dz : DX} {dxs : DXs}
def xVal (v : D) : DX := fun _ _ => some v
theorem h_const {v : V} {y : D} (hp : ∀ X, PE X e (tC v)) (hr : ∀ K w H, DpF w K H v y) : SndX G sc N i e (xVal y) := fun X a oe cls d pn st hz hf =>
  ⟨fun pins s σ H Q I ⟨x, l, u, hot, ev, q⟩ => (hp _).run pins s σ H Q I (by cases ev; exact q H _ (Same.refl _) (hr _ _ _))⟩
theorem h_int {k j} : SndX G sc N i (.Constant (.int k) j pos) (xVal (.int k)) := h_const (fun _ => pe_int) fun _ _ _ => .int k
theorem h_bool {k j} : SndX G sc N i (.Constant (.bool k) j pos) (xVal (.bool k)) := h_const (fun _ => pe_bl) fun _ _ _ => .bl k
theorem h_none {j} : SndX G sc N i (.Constant .none j pos) (xVal .none) := h_const (fun _ => pe_non) fun _ _ _ => .non
theorem h_str {y j} : SndX G sc N i (.Constant (.str y) j pos) (xVal (.str y)) := h_const (fun _ => pe_str) fun _ _ _ => .str y
def xName (j : Nat) : DX := fun _ l => match l[j]? with
  | some (some (.d v)) => some v
  | _ => none
theorem h_name {j : Nat} {y : Str} (hN : N[j]? = some y) (hv : visB sc y = true) : SndX G sc N i (.Name y pos) (xName j) := fun X a oe cls d pn st hz hf => by
  obtain ⟨v1, v2, v3⟩ := vis_of hv
  refine ⟨fun pins s σ H Q I ⟨x, l, u, hot, ev, q⟩ => (pe_var (X := X.suite a ((a, oe) :: pn)) (i := j) (by show X.N[j]? = _; rw [st.names]; exact hN) (by show Vis X.env.scope y; rw [st.scope]; exact v1) v2 v3).run pins s σ H Q I ?_⟩
  obtain ⟨μ, S, ss, sl⟩ := hot.sim
  unfold xName at ev
  split at ev
  · rename_i v hl
    cases ev
    obtain ⟨v2, e1, r⟩ := sl.at_ j _ hl
    exact ⟨v2, e1, q H _ (Same.refl _) r⟩
  · cases ev
/-- the fields that each class's instances have -/
structure XfIs (G : Gl) (xf : Nat → List Str) : Prop where
  get : ∀ c, ∀ f ∈ xf c, XfC G.K (G.ca c) ∧ PySem.W.findIn G.K (.ref (G.ca c)) f = some none
def xFld (xf : Nat → List Str) (f : Str) : DX := fun x _ => if (xf x.cls).contains f then x.fs.lookup f else none
theorem lookup_fs {H : Hp} : ∀ {fs : List (Str × D)} {gs : List (Str × V)}, Paired (fun (p : Str × D) (q : Str × V) => p.1 = q.1 ∧ DpF G.w G.K H q.2 p.2) fs gs → ∀ {f v}, fs.lookup f = some v → ∃ u, gs.lookup f = some u ∧ DpF G.w G.K H u v
  | _, _, .nil, _, _, h => by cases h
  | (g, y) :: fs, (g', u) :: gs, .cons ⟨r1, r2⟩ t, f, v, h => by
    have r1 : g = g' := r1
    subst r1
    rw [List.lookup_cons] at h ⊢
    cases z : f == g with
    | true => rw [z] at h; cases h; exact ⟨u, rfl, r2⟩
    | false => rw [z] at h; exact lookup_fs t h
theorem h_fld {xf : Nat → List Str} (hX : XfIs G xf) (hN : N[i]? = some n) (hv : visB sc n = true) (hb : ∀ env, attributeBase (.Name n p) f env (eval (.Name n p) env) = eval (.Name n p) env := by intro _; rfl) : SndX G sc N i (.Attribute (.Name n p) f pos) (xFld xf f) := fun X a oe cls d pn st hz hf => by
  obtain ⟨v1, v2, v3⟩ := vis_of hv
  refine ⟨fun pins s σ H Q I ⟨x, l, u, hot, ev, q⟩ => ?_⟩
  unfold xFld at ev
  split at ev
  · rename_i hc
    obtain ⟨T, no⟩ := hX.get x.cls f (by simpa using hc)
    rw [← st.K] at T no
    refine (pe_xf (X := X) T no hz hf (pe_var (X := X.suite a ((a, oe) :: pn)) (i := i) (by show X.N[i]? = _; rw [st.names]; exact hN) (by show Vis X.env.scope n; rw [st.scope]; exact v1) v2 v3) (hb X.env)).run pins s σ H Q I ?_
    obtain ⟨ec, ed⟩ := hot.ex
    refine ⟨.ref a, hot.at_, rfl, ec, ?_⟩
    cases d with
    | none => rw [show x.fs = [] from ed] at ev; cases ev
    | some dd =>
      obtain ⟨gs, e1, r⟩ := ed
      obtain ⟨v, e2, rv⟩ := lookup_fs r ev
      exact ⟨dd, gs, v, rfl, e1, e2, q H _ (Same.refl _) rv⟩
  · cases ev
/-- which class is a subclass of which -/
structure SubIs (G : Gl) (sub : Nat → Nat → Option Bool) : Prop where
  get : ∀ c k b, sub c k = some b → ExcC G.K (G.ca c) ∧ PySem.W.kitOne G.K (.ref (G.ca c)) (.ref (G.ca k)) = some b ∧ PySem.W.exmOne G.K (.ref (G.ca c)) (.ref (G.ca k)) = some b
def xIs (sub : Nat → Nat → Option Bool) (k : Nat) : DX := fun x _ => (sub x.cls k).map .bool
theorem call_isX {X : Cx} {a : Addr} {oe : Obj} {cls : Value} {d : Option Addr} {pn : List (Addr × Obj)} (hz : Zc cls d oe) (hf : ∃ vs, oe.data = .fields vs) :
    CallR (X.suite a ((a, oe) :: pn)) (.builtin "isinstance") (fun xs H Q => ∃ (C k : Addr) (b : Bool), xs = [.ref a, .ref k] ∧ cls = .ref C ∧ ExcC X.K C ∧ OdOk H d ∧ PySem.W.kitOne X.K (.ref C) (.ref k) = some b ∧ Q (.bl b) H) := by
  intro pins s σ H xs us Q I r h
  obtain ⟨C, k, b, rfl, ec, T, ok, e, q⟩ := h
  subst ec
  obtain ⟨u, v, rfl, ru, rv⟩ := vals2 r
  cases ru
  cases rv
  obtain ⟨hget, _⟩ := I.pin (a, oe) (List.mem_append.mpr (.inl List.mem_cons_self))
  obtain ⟨fv, hv⟩ := hf
  obtain ⟨h1, h2⟩ := hz
  have J : ∃ od, PySem.W.InstAt s.heap a oe C od := by
    have nc : PySem.W.notCls oe = true := by unfold PySem.W.notCls; rw [hv] <;> rfl
    cases d with
    | none => exact ⟨none, hget, h1, nc, by rw [h2]; trivial⟩
    | some dd =>
      obtain ⟨fs, hd⟩ := ok
      obtain ⟨⟨mA, hns, hr⟩, _⟩ : ObjOk X.prog X.w H s.heap dd (.xd fs) ∧ True := ⟨I.hok dd _ hd, trivial⟩
      obtain ⟨od, ho, _⟩ := lookIn_ns hns
      exact ⟨some od, hget, h1, nc, by rw [h2]; exact ho⟩
  obtain ⟨od, J⟩ := J
  exact PySem.W.kia_one (kit_exc (ox := oe) (od := od) T) I.kIn J e (fun z => nomatch z) fun tk => ⟨.bl b, H, I.kept (t' := tk) fun _ _ z => z, rfl, q⟩
theorem h_is {sub : Nat → Nat → Option Bool} {k : Nat} (hS : SubIs G sub) (hN : N[i]? = some n) (hv : visB sc n = true) (hg : glB sc "isinstance" = true) (hm : G.mg "isinstance" = none) (hC : glB sc C = true) (hmC : G.mg C = some (.ref (G.ca k)))
    (he : ∀ env, starEach (.Name n p2 :: [.Name C p3]) env = (false, eval (.Name n p2) env) :: starEach [.Name C p3] env := by intro _; rfl) (he2 : ∀ env, starEach (.Name C p3 :: []) env = (false, eval (.Name C p3) env) :: starEach [] env := by intro _; rfl)
    (hpl : ∀ env, (backTo pos (starEach [.Name C p3] env)).any (·.1) = false := by intro _; rfl) : SndX G sc N i (.Call (.Name "isinstance" p) [.Name n p2, .Name C p3] [] pos) (xIs sub k) := fun X a oe cls d pn st hz hf => by
  obtain ⟨v1, v2, v3⟩ := vis_of hv
  obtain ⟨g1, g2, g3⟩ := gl_of hg
  obtain ⟨c1, c2, c3⟩ := gl_of hC
  have pn1 : PE (X.suite a ((a, oe) :: pn)) (.Name n p2) _ := pe_var (X := X.suite a ((a, oe) :: pn)) (i := i) (by show X.N[i]? = _; rw [st.names]; exact hN) (by show Vis X.env.scope n; rw [st.scope]; exact v1) v2 v3
  have pC : PE (X.suite a ((a, oe) :: pn)) (.Name C p3) (tC (.ref (G.ca k))) := pe_glob (show X.env.scope.names.lookup C = _ by rw [st.scope]; exact c1) (show X.mg C = _ by rw [st.mg]; exact hmC) rfl c2
  refine ⟨fun pins s σ H Q I ⟨x, l, u, hot, ev, q⟩ => (pe_callB (call_isX (X := X) hz hf) (show X.env.scope.names.lookup _ = _ by rw [st.scope]; exact g1) (show X.mg _ = _ by rw [st.mg]; exact hm) (by decide +kernel) (pa_cons pn1 (pa_cons pC pa_nil (he2 X.env)) (he X.env)) g3 g2 (he X.env) (hpl X.env)).run pins s σ H Q I ?_⟩
  unfold xIs at ev
  rw [Option.map_eq_some_iff] at ev
  obtain ⟨b, eb, rfl⟩ := ev
  obtain ⟨T, k1, _⟩ := hS.get _ _ _ eb
  refine ⟨.ref a, hot.at_, G.ca x.cls, G.ca k, b, rfl, hot.ex.1, by rw [show (X.suite a ((a, oe) :: pn)).K = G.K from st.K] <;> exact T, hot.ex.od, by rw [show X.K = G.K from st.K]; exact k1, q H _ (Same.refl _) (.bl b)⟩
end
end Ev

/-! Ev20: suites, try. -/
namespace Ev
open PySem PySem.Spec PyProof.Rows L2

section
variable {G : Gl} {sc : Scope} {N : List Str} {i : Nat} {pos p p2 p3 : Pos} {e b c : Expr} {es : List Expr} {n f C : Str} {dx dy dz : DX} {dxs : DXs}
def xNil : DXs := fun _ _ => some []
def xCons (dx : DX) (dxs : DXs) : DXs := fun x l => (dx x l).bind fun v => (dxs x l).map (v :: ·)
theorem h_anil : SndXs G sc N i [] xNil := fun X a oe cls d pn st hz hf => ⟨fun pos pins s σ H Q I ⟨x, l, us, hot, ev, q⟩ => pa_nil.run pos pins s σ H Q I (by cases ev; exact q H _ (Same.refl _) .nil)⟩
theorem h_acons (h : SndX G sc N i e dx) (hr : SndXs G sc N i es dxs) (hs : ∀ env, starEach (e :: es) env = (false, eval e env) :: starEach es env := by intro _; rfl) : SndXs G sc N i (e :: es) (xCons dx dxs) := fun X a oe cls d pn st hz hf =>
  ⟨fun pos pins s σ H Q I ⟨x, l, us, hot, ev, q⟩ => (pa_cons (h X a oe cls d pn st hz hf) (hr X a oe cls d pn st hz hf) (hs X.env)).run pos pins s σ H Q I (by
    unfold xCons at ev
    rw [Option.bind_eq_some_iff] at ev
    obtain ⟨v, e1, e2⟩ := ev
    rw [Option.map_eq_some_iff] at e2
    obtain ⟨vs, e3, rfl⟩ := e2
    refine ⟨x, l, v, hot, e1, fun H1 u s1 r1 => ⟨x, l, vs, hot.same s1, e3, fun H2 us s2 r2 => q H2 _ (s1.trans s2) (.cons (r1.mono (Pers.of s2)) r2)⟩⟩)⟩
def xTup (dxs : DXs) : DX := fun x l => (dxs x l).bind fun vs => if vs.length ≤ 16777216 then some (.tuple vs) else none
def xLst (dxs : DXs) : DX := fun x l => (dxs x l).bind fun vs => if vs.length ≤ 16777216 then some (.list vs) else none
theorem h_tup {x1} (h : SndXs G sc N i es dxs) : SndX G sc N i (.Tuple es x1 pos) (xTup dxs) := fun X a oe cls d pn st hz hf =>
  ⟨fun pins s σ H Q I ⟨x, l, u, hot, ev, q⟩ => (pe_tup (h X a oe cls d pn st hz hf)).run pins s σ H Q I (by
    unfold xTup at ev
    rw [Option.bind_eq_some_iff] at ev
    obtain ⟨vs, e1, e2⟩ := ev
    split at e2
    · rename_i hz
      cases e2
      exact ⟨x, l, vs, hot, e1, fun H1 us s1 r1 => ⟨by rw [r1.length, line_eq]; exact hz, fun b hn => q _ _ (s1.trans (same_new hn)) (.tup tup_new (r1.mono (Pers.of (same_new hn))))⟩⟩
    · cases e2)⟩
theorem h_lst (h : SndXs G sc N i es dxs) : SndX G sc N i (.List es pos) (xLst dxs) := fun X a oe cls d pn st hz hf =>
  PE_ghost (pe_lst (h X a oe cls d pn st hz hf)) fun pins s σ H Q ⟨x, l, u, hot, ev, q⟩ => by
    unfold xLst at ev
    rw [Option.bind_eq_some_iff] at ev
    obtain ⟨vs, e1, e2⟩ := ev
    split at e2
    · rename_i hz
      cases e2
      refine ⟨x, l, vs, hot, e1, fun H1 us s1 r1 => ⟨by rw [r1.length, line_eq]; exact hz, fun b hn s' I' => ?_⟩⟩
      obtain ⟨H2, I2, sm, fz⟩ := lock_new (K := G.K) I' hn
      exact ⟨H2, I2, q _ _ (s1.trans sm) (.lst fz (r1.mono (Pers.of sm)))⟩
    · cases e2
/-- as a test -/
def SndXT (G : Gl) (sc : Scope) (N : List Str) (i : Nat) (e : Expr) (dx : DX) : Prop := ∀ (X : Cx) (a : Addr) (oe : Obj) (cls : Value) (d : Option Addr) (pn : List (Addr × Obj)), StatS G sc N X → Zc cls d oe → (∃ vs, oe.data = .fields vs) →
  PT (X.suite a ((a, oe) :: pn)) e (fun σ H Q => ∃ x l b, Hot G i a cls d x l σ H ∧ dx x l = some (.bool b) ∧ ∀ H', Same H H' → Q b H')
theorem h_tval (he : ∀ (env : Env) whole, isTrue e env whole = (do let v ← whole; standAt e.pos; holding [v] (truthy v)) := by intro _ _; rfl) (h : SndX G sc N i e dx) : SndXT G sc N i e dx := fun X a oe cls d pn st hz hf =>
  ⟨fun pins s σ H Q I ⟨x, l, b, hot, ev, q⟩ => (pt_val (h X a oe cls d pn st hz hf) (he X.env)).run pins s σ H Q I ⟨x, l, .bool b, hot, ev, fun H' u s1 r => by cases r; exact ⟨b, rfl, q H' s1⟩⟩⟩
def xIf (dt da db : DX) : DX := fun x l => match dt x l with
  | some (.bool true) => da x l
  | some (.bool false) => db x l
  | _ => none
theorem h_ifexp (ht : SndXT G sc N i c dx) (ha : SndX G sc N i e dy) (hb : SndX G sc N i b dz) : SndX G sc N i (.IfExp c e b pos) (xIf dx dy dz) := fun X a oe cls d pn st hz hf =>
  ⟨fun pins s σ H Q I ⟨x, l, u, hot, ev, q⟩ => (pe_ifExp (ht X a oe cls d pn st hz hf) (ha X a oe cls d pn st hz hf) (hb X a oe cls d pn st hz hf)).run pins s σ H Q I (by
    unfold xIf at ev
    split at ev
    · rename_i et
      refine ⟨x, l, true, hot, et, fun H1 s1 => ?_⟩
      show tXp G i a cls d dy σ H1 Q
      exact ⟨x, l, u, hot.same s1, ev, fun H2 v s2 r => q H2 v (s1.trans s2) r⟩
    · rename_i et
      refine ⟨x, l, false, hot, et, fun H1 s1 => ?_⟩
      show tXp G i a cls d dz σ H1 Q
      exact ⟨x, l, u, hot.same s1, ev, fun H2 v s2 r => q H2 v (s1.trans s2) r⟩
    · cases ev)⟩
def xAnd (da db : DX) : DX := fun x l => match da x l with
  | some (.bool true) => db x l
  | some (.bool false) => some (.bool false)
  | _ => none
theorem h_one {op} (h : SndX G sc N i e dx) : SndX G sc N i (.BoolOp op [e] pos) dx := fun X a oe cls d pn st hz hf => pe_one (h X a oe cls d pn st hz hf)
theorem h_and (ha : SndX G sc N i e dx) (hb : SndX G sc N i (.BoolOp .And (b :: es) pos) dy) : SndX G sc N i (.BoolOp .And (e :: b :: es) pos) (xAnd dx dy) := fun X a oe cls d pn st hz hf =>
  ⟨fun pins s σ H Q I ⟨x, l, u, hot, ev, q⟩ => (pe_and (ha X a oe cls d pn st hz hf) (hb X a oe cls d pn st hz hf)).run pins s σ H Q I (by
    unfold xAnd at ev
    split at ev
    · rename_i et
      refine ⟨x, l, _, hot, et, fun H1 v s1 r => ?_⟩
      cases r
      refine ⟨true, rfl, ?_⟩
      exact ⟨x, l, u, hot.same s1, ev, fun H2 v s2 r => q H2 v (s1.trans s2) r⟩
    · rename_i et
      cases ev
      refine ⟨x, l, _, hot, et, fun H1 v s1 r => ?_⟩
      cases r
      exact ⟨false, rfl, q H1 _ s1 (.bl false)⟩
    · cases ev)⟩
/-- of texts, ints -/
def xEq (da db : DX) : DX := fun x l => match da x l, db x l with
  | some (.str y), some (.str z) => some (.bool (decide (y = z)))
  | some (.int y), some (.int z) => some (.bool (decide (y = z)))
  | _, _ => none
theorem h_eq (ha : SndX G sc N i e dx) (hb : SndX G sc N i b dy) (hm : behindInMarks .Eq b = false := by rfl) : SndX G sc N i (.Compare e [.Eq] [b] pos) (xEq dx dy) := fun X a oe cls d pn st hz hf =>
  ⟨fun pins s σ H Q I ⟨x, l, u, hot, ev, q⟩ => (pe_cmpR op_eq (ha X a oe cls d pn st hz hf) (hb X a oe cls d pn st hz hf) hm).run pins s σ H Q I (by
    unfold xEq at ev
    split at ev
    · rename_i y z e1 e2
      cases ev
      refine ⟨x, l, _, hot, e1, fun H1 v s1 r1 => ⟨x, l, _, hot.same s1, e2, fun H2 v2 s2 r2 => ?_⟩⟩
      cases r1; cases r2
      exact ⟨rfl, by simpa using q H2 _ (s1.trans s2) (.bl _)⟩
    · rename_i y z e1 e2
      cases ev
      refine ⟨x, l, _, hot, e1, fun H1 v s1 r1 => ⟨x, l, _, hot.same s1, e2, fun H2 v2 s2 r2 => ?_⟩⟩
      cases r1; cases r2
      exact ⟨rfl, by simpa using q H2 _ (s1.trans s2) (.bl _)⟩
    · cases ev)⟩
end

/-! ### suites -/
abbrev DXS := Exn → DS
def tSu (G : Gl) (i : Nat) (a : Addr) (cls : Value) (d : Option Addr) (dx : DXS) : TS := fun D σ H => ∃ x μ l S, ExnRel G H x cls d ∧ σ[i]? = some (some (.ref a)) ∧ SimS G μ S H ∧ SimL G μ H l σ ∧ AftS G (fun _ _ _ _ => False) D μ H (dx x l S)
def SndSu (G : Gl) (sc : Scope) (N : List Str) (i : Nat) (sts : List Stmt) (dx : DXS) : Prop := ∀ (X : Cx) (a : Addr) (oe : Obj) (cls : Value) (d : Option Addr) (pn : List (Addr × Obj)), StatS G sc N X → Zc cls d oe → (∃ vs, oe.data = .fields vs) → PSs (X.suite a ((a, oe) :: pn)) sts (tSu G i a cls d dx)
def xRet (dx : DX) : DXS := fun x l S => match dx x l with
  | some v => .rt (.d v) S
  | none => .no
section
variable {G : Gl} {sc : Scope} {N : List Str} {i : Nat} {pos pos' np : Pos} {e : Expr} {dx : DX} {n x : Str}
theorem hs_ret (h : SndX G sc N i e dx) : SndSu G sc N i [.Return (some e) pos] (xRet dx) := fun X a oe cls d pn st hz hf =>
  pss_one ⟨fun pins s σ H D I ⟨x, μ, l, S, er, ha, ss, sl, q⟩ => (ps_ret (h X a oe cls d pn st hz hf)).run pins s σ H D I (by
    unfold xRet at q
    split at q
    · rename_i v ev
      exact ⟨x, l, v, ⟨er, ha, μ, S, ss, sl⟩, ev, fun H' u s1 r => q μ H' u (Grow.same s1) (ss.same s1) r⟩
    · exact q.elim)⟩
/-! ### try: body, except x as n: suite -/
def dTryAs (sub : Nat → Option Bool) (i : Nat) (body : DS) (suite : DXS) : DS := fun l S => match body l S with
  | .exc x l1 S1 => match sub x.cls with
    | some true => if i < l1.length then (match suite x (l1.set i none) S1 with
      | .nx l2 S2 => .nx (l2.set i none) S2
      | .bk l2 S2 => .bk (l2.set i none) S2
      | .rt a S2 => .rt a S2
      | _ => .no) else .no
    | some false => .exc x l1 S1
    | none => .no
  | r => r
theorem SimL.out {μ : List Addr} {H : Hp} {l : Loc} {σ : L2.St} {i : Nat} {o : Option V} (s : SimL G μ H l σ) : SimL G μ H (l.set i none) (σ.set i o) := by
  refine ⟨by rw [List.length_set, List.length_set]; exact s.len, fun j b h => ?_⟩
  by_cases hj : i = j
  · subst hj
    by_cases hi : i < l.length
    · rw [List.getElem?_set_self hi] at h; cases h
    · rw [List.getElem?_eq_none (by rw [List.length_set]; omega)] at h; cases h
  · rw [List.getElem?_set_ne hj] at h
    obtain ⟨w', h1, h2⟩ := s.at_ j b h
    exact ⟨w', by rw [List.getElem?_set_ne hj]; exact h1, h2⟩
theorem r_tryAs {sub : Nat → Nat → Option Bool} {k : Nat} {body : List Stmt} {b₀ : Stmt} {suite : List Stmt} {db : DS} {dsu : DXS} (hS : SubIs G sub) (hN : N[i]? = some n) (hl : sc.names.lookup n = some .local) (hg : glB sc x = true) (hm : G.mg x = some (.ref (G.ca k)))
    (hb : SndSs G sc N body db) (hsu : SndSu G sc N i (b₀ :: suite) dsu) : SndS G sc N (.Try body [.ExceptHandler (some (.Name x np)) (some n) (b₀ :: suite) pos'] [] [] pos) (dTryAs (fun c => sub c k) i db dsu) := fun X W st tk => by
  obtain ⟨g1, g2, g3⟩ := gl_of hg
  refine ⟨fun pins s σ H D I q => ?_⟩
  have hs : X.stack = X.env :: X.outer ∧ X.env.frame = some X.env.locals := st.frm
  refine (ps_try_as (X := X) (i := i) (x := x) (n := n) (c := .ref (G.ca k)) (Wout := W) (tb := fun W' => tS G W' db) (ts := fun a cls d => tSu G i a cls d dsu) hs.1 hs.2 (by rw [st.names]; exact st.nd) (by rw [st.names]; exact hN) (show X.env.scope.names.lookup n = _ by rw [st.scope]; exact hl)
    ⟨show X.env.scope.names.lookup x = _ by rw [st.scope]; exact g1, g2, .inl (by rw [st.mg]; exact hm)⟩ tk (fun W' pn xe tk' own => hb (X.tr pn xe) W' ⟨⟨st.prog, st.w, st.K, st.mg, st.base, st.scope, st.names, st.nd, st.calm, st.room⟩, own, st.fn, st.frm⟩ tk') (fun a oe cls d pn hz hf => hsu X a oe cls d pn st hz hf)).run pins s σ H D I ?_
  obtain ⟨μ, l, S, ss, sl, q⟩ := q
  refine ⟨μ, l, S, ss, sl, ?_⟩
  unfold dTryAs at q
  cases eb : db l S with
  | nx l' S' => rw [eb] at q; exact q
  | rt v S' => rw [eb] at q; exact q
  | bk l' S' => rw [eb] at q; exact q
  | no => rw [eb] at q; exact q
  | exc y l1 S1 =>
    rw [eb] at q
    refine fun μ1 H1 σ1 c dd g1 s1 sl1 er => ?_
    simp only at q
    have ec := er.1
    subst ec
    have q1 := AftS.grow q g1
    cases es : sub y.cls k with
    | none => rw [es] at q1; exact q1.elim
    | some b =>
      rw [es] at q1
      refine ⟨b, by rw [st.K]; exact (hS.get _ _ _ es).2.2, fun eb a ha => ?_, fun eb => ?_⟩
      · subst eb
        simp only at q1
        split at q1
        case isFalse => exact q1.elim
        rename_i hlt
        have hli : i < σ1.length := by rw [← sl1.len]; exact hlt
        refine ⟨y, μ1, l1.set i none, S1, er, by rw [List.getElem?_set_self hli], s1, sl1.out, ?_⟩
        cases e2 : dsu y (l1.set i none) S1 with
        | nx l2 S2 => rw [e2] at q1; exact fun μ2 H2 σ2 g2 s2 sl2 => q1 μ2 H2 _ g2 s2 sl2.out
        | bk l2 S2 => rw [e2] at q1; exact fun μ2 H2 σ2 g2 s2 sl2 => q1 μ2 H2 _ g2 s2 sl2.out
        | rt v S2 => rw [e2] at q1; exact q1
        | exc z l2 S2 => rw [e2] at q1; exact q1.elim
        | no => rw [e2] at q1; exact q1.elim
      · subst eb
        exact q1 μ1 H1 σ1 _ dd Grow.refl s1 sl1 er
end
end Ev

/-! Ev21: the module's constants; methods of texts, lists, tuples that change nothing. -/
namespace Ev
open PySem PySem.Spec PyProof.Rows L2

/-- a name of the module that stands for plain data -/
def ConIs (G : Gl) (x : Str) (d : D) : Prop := ∃ u v, G.mg x = some u ∧ RelV v u ∧ ∀ H, DpF G.w G.K H v d
section
variable {G : Gl} {sc : Scope} {N : List Str} {pos p apos : Pos} {e o : Expr} {es : List Expr} {da de : DE} {das : DR (List A)} {x m : Str}
theorem r_glob {d : D} (h : ConIs G x d) (hg : glB sc x = true) : Snd G sc N (.Name x pos) (dVal d) := fun X W st tk => by
  obtain ⟨g1, g2, g3⟩ := gl_of hg
  obtain ⟨u, v, h1, h2, h3⟩ := h
  exact ⟨fun pins s σ H Q I h => (pe_glob (show X.env.scope.names.lookup x = _ by rw [st.scope]; exact g1) (by rw [st.mg]; exact h1) h2 g2).run pins s σ H Q I (by obtain ⟨μ, l, S, ss, sl, h⟩ := h; exact h.here ss (h3 _))⟩

/-! ### methods -/
def tyB (T : String) : D → Bool
  | .str _ => T == "str"
  | .list _ => T == "list"
  | _ => false
theorem ty_ok {X : Cx} {pins : List (Addr × Obj)} {σ : L2.St} {H : Hp} {s : Shared} {T : String} {x : V} {v : Value} {d : D} (hK : X.K = G.K) (I : L2.Inv X pins σ H s) (r : RelV x v) (hd : DpF G.w G.K H x d) (hT : tyB T d = true) :
    s.TypeIs v T ∧ ∀ a, v = .ref a → ∃ ob, s.heap.get? a = some ob ∧ ob.dict = none := by
  cases hd with
  | str z =>
    have e : T = "str" := by simpa [tyB] using hT
    subst e
    obtain ⟨t, rfl⟩ := r
    exact ⟨typeIs_str s z t, fun _ e => nomatch e⟩
  | @lst a vs ds ha ra =>
    have e : T = "list" := by simpa [tyB] using hT
    subst e
    cases r
    obtain ⟨its, _, ⟨ob, n, e, c, dd, _⟩, _⟩ := I.list (by rw [hK]; exact ha.sq)
    exact ⟨⟨ob, e, c⟩, fun b z => by cases z; exact ⟨ob, e, dd⟩⟩
  | _ => simp [tyB] at hT
def mthA (f : D → List D → Option D) (x : D) (ys : List A) : Option A := match pures ys with
  | some es => (f x es).map .d
  | none => none
def dMth (T : String) (f : D → List D → Option D) (d : DE) (das : DR (List A)) : DE := fun l S => (d l S).bind fun x S1 => match x with
  | .d x => if tyB T x = true then (das l S1).bind fun ys S2 => opt (mthA f x ys) S2 else .no
  | _ => .no
/-- what a built-in method does with plain data; a new list is locked -/
def MtD (G : Gl) (id : String) (f : D → List D → Option D) : Prop := ∀ X, Here G X → ∀ (pins : List (Addr × Obj)) (s : Shared) (σ : L2.St) (H : Hp) (x : V) (xs : List V) (v : Value) (us : List Value) (Q : VK) (d : D) (ds : List D) (z : D), L2.Inv X pins σ H s → RelV x v → Vals xs us →
  DpF G.w G.K H x d → DpFs G.w G.K H xs ds → f d ds = some z → (∀ H' v, Same H H' → DpF G.w G.K H' v z → Q v H') → wpAny (model X.prog X.w) X.A (call (.builtin id) (v :: us)) (EP X pins σ Q) X.xe s
theorem r_mth {T id : String} {f : D → List D → Option D} (pa : PlainAttrs T) (slot : Slot T m id) (hty : typeOf (.builtin id) = pure (.type "method_descriptor")) (hm : MtD G id f) (ho : Snd G sc N o de) (ha : SndA G sc N (e :: es) das)
    (hbase : ∀ env, attributeBase o m env (eval o env) = eval o env := by intro _; rfl)
    (hfew : ∀ env, ((backTo pos (starEach (e :: es) env)).all (fun x => !x.1) && (backToKw pos (keywordEach [] env)).all (fun x => x.1.isSome) && decide ((e :: es).length + ([] : List Keyword).length + (if ([] : List Keyword).isEmpty then 0 else 1) < 30)) = true := by intro _; rfl)
    (hline : (apos.endLine == pos.line) = true := by rfl) (hs : ∀ env, starEach (e :: es) env = (false, eval e env) :: starEach es env := by intro _; rfl) (hplain : ∀ env, (backTo pos (starEach es env)).any (·.1) = false := by intro _; rfl) :
    Snd G sc N (.Call (.Attribute o m apos) (e :: es) [] pos) (dMth T f de das) := fun X W st tk => ⟨fun pins s σ H Q I ⟨μ, l, S, ss, sl, q⟩ => by
  refine wpAny_Call_method_late (hbase X.env) (hfew X.env) hline rfl (thn ((ho X W st tk).run pins s σ H _ I ⟨μ, l, S, ss, sl, Aft.imp (Aft.bind (rel' := RelA G) q) fun v H1 _ z => z⟩) fun v s1 ⟨x, H1, I1, r1, a, μ1, S1, g1, ss1, ra, q1⟩ => ?_)
  cases a with
  | d d =>
    simp only at q1
    split at q1
    · rename_i hT
      obtain ⟨h1, h2⟩ := ty_ok st.K I1 r1 ra hT
      refine ⟨T, id, pa, slot, hty, h1, h2, ?_⟩
      have hA := (ha X W st tk).run pos pins s1 σ H1 _ I1 ⟨μ1, l, S1, ss1, sl.grow g1, Aft.imp (Aft.bind (rel' := RelAs G) q1) fun v H1 _ z => z⟩
      rw [hs X.env] at hA ⊢
      refine Calls.callWith_builtin (by show (false || (backTo pos (starEach es X.env)).any (·.1)) = false; rw [hplain X.env] <;> rfl) (Calls.evalArgs_plain ?_)
      refine thn hA fun us s2 ⟨vs, H2, I2, r2, as, μ2, S2, g2, ss2, ras, q2⟩ => ?_
      unfold opt mthA at q2
      cases ep : pures as with
      | none => rw [ep] at q2; exact q2.elim
      | some ds =>
        rw [ep] at q2
        simp only at q2
        cases ez : f d ds with
        | none => simp only [ez, Option.map_none] at q2; exact q2.elim
        | some z =>
          simp only [ez, Option.map_some] at q2
          exact hm X st.here pins s2 σ H2 x vs v us Q d ds z I2 r1 r2 (DpF.mono g2.pers ra) (pures_some ep ras) ez fun H' u sm ru => q2 μ2 H' u (Grow.same sm) (ss2.same sm) ru
    · exact q1.elim
  | loc n => exact q1.elim
  | fn f => exact q1.elim⟩
theorem r_mth0 {T id : String} {f : D → List D → Option D} (pa : PlainAttrs T) (slot : Slot T m id) (hty : typeOf (.builtin id) = pure (.type "method_descriptor")) (hm : MtD G id f) (ho : Snd G sc N o de)
    (hbase : ∀ env, attributeBase o m env (eval o env) = eval o env := by intro _; rfl) (hline : (apos.endLine == pos.line) = true := by rfl) :
    Snd G sc N (.Call (.Attribute o m apos) [] [] pos) (dMth T f de dNil) := fun X W st tk => ⟨fun pins s σ H Q I ⟨μ, l, S, ss, sl, q⟩ => by
  refine wpAny_Call_method0_late (hbase X.env) hline (thn ((ho X W st tk).run pins s σ H _ I ⟨μ, l, S, ss, sl, Aft.imp (Aft.bind (rel' := RelA G) q) fun v H1 _ z => z⟩) fun v s1 ⟨x, H1, I1, r1, a, μ1, S1, g1, ss1, ra, q1⟩ => ?_)
  cases a with
  | d d =>
    simp only at q1
    split at q1
    · rename_i hT
      obtain ⟨h1, h2⟩ := ty_ok st.K I1 r1 ra hT
      refine ⟨T, id, pa, slot, hty, h1, h2, Calls.callWith_builtin rfl (PySem.evalArgs_none ?_)⟩
      have q2 : Aft G (fun c dd H' => W c dd σ H') (RelA G) μ1 H1 (opt (mthA f d []) S1) Q := q1
      unfold opt mthA at q2
      cases ez : f d [] with
      | none => simp only [pures, ez] at q2; exact q2.elim
      | some z =>
        simp only [pures, ez] at q2
        exact hm X st.here pins s1 σ H1 x [] v [] Q d [] z I1 r1 .nil ra .nil ez fun H' u sm ru => q2 μ1 H' u (Grow.same sm) (ss1.same sm) ru
    · exact q1.elim
  | loc n => exact q1.elim
  | fn f => exact q1.elim⟩
/-! ### texts -/
def strsOf : List D → Option (List Str)
  | [] => some []
  | .str x :: r => (strsOf r).map (x :: ·)
  | _ :: _ => none
@[simp] theorem strsOf_map (xs : List Str) : strsOf (xs.map PyData.str) = some xs := by
  induction xs with
  | nil => rfl
  | cons x xs ih => simp [strsOf, ih]
theorem strsOf_some : ∀ {ds : List D} {xs : List Str}, strsOf ds = some xs → ds = xs.map PyData.str
  | [], xs, e => by simp [strsOf] at e; subst e; rfl
  | d :: ds, xs, e => by
    cases d with
    | str x =>
      simp only [strsOf, Option.map_eq_some_iff] at e
      obtain ⟨r, e', rfl⟩ := e
      rw [strsOf_some e']; rfl
    | _ => simp [strsOf] at e
theorem fs_strs {w : World} {K : PySem.W.Frag} {H : Hp} : ∀ {xs : List Str} {vs : List V}, DpFs w K H vs (xs.map PyData.str) → vs = xs.map V.str
  | [], _, h => by cases h; rfl
  | x :: xs, _, h => by cases h with | cons a b => cases a; rw [fs_strs b]; rfl
theorem strs_fs {w : World} {K : PySem.W.Frag} {H : Hp} : ∀ xs : List Str, DpFs w K H (xs.map V.str) (xs.map PyData.str)
  | [] => .nil
  | x :: xs => .cons (.str x) (strs_fs xs)
theorem fs1 {w : World} {K : PySem.W.Frag} {H : Hp} {vs : List V} {d : D} (h : DpFs w K H vs [d]) : ∃ v, vs = [v] ∧ DpF w K H v d := by
  cases h with | cons a b => cases b; exact ⟨_, rfl, a⟩
def joinD : D → List D → Option D
  | .str a, [.list ds] => (strsOf ds).bind fun ys => if (ys.map (·.length)).sum + ys.length * a.length ≤ 16777216 then some (.str (Txt.join a ys)) else none
  | .str a, [.tuple ds] => (strsOf ds).bind fun ys => if (ys.map (·.length)).sum + ys.length * a.length ≤ 16777216 then some (.str (Txt.join a ys)) else none
  | _, _ => none
theorem mt_joinD : MtD G "str.join" joinD := fun X hX pins s σ H x xs v us Q d ds z I rx rs hd hs hz q => by
  unfold joinD at hz
  split at hz
  · rename_i a ds
    rw [Option.bind_eq_some_iff] at hz
    obtain ⟨ys, ey, hz⟩ := hz
    split at hz
    · rename_i hl
      cases hz
      have e := strsOf_some ey
      subst e
      obtain ⟨y, rfl, hy⟩ := fs1 hs
      cases hd
      cases hy with
      | lst fz fs =>
        rw [fs_strs fs] at fz
        exact mt_join pins s σ H _ _ v us Q I rx rs ⟨a, _, ys, rfl, rfl, .inl (by rw [hX.K]; exact fz.sq), hl, q H _ (Same.refl _) (.str _)⟩
    · cases hz
  · rename_i a ds
    rw [Option.bind_eq_some_iff] at hz
    obtain ⟨ys, ey, hz⟩ := hz
    split at hz
    · rename_i hl
      cases hz
      have e := strsOf_some ey
      subst e
      obtain ⟨y, rfl, hy⟩ := fs1 hs
      cases hd
      cases hy with
      | tup sq fs =>
        rw [fs_strs fs] at sq
        exact mt_join pins s σ H _ _ v us Q I rx rs ⟨a, _, ys, rfl, rfl, .inr (by rw [hX.K]; exact sq), hl, q H _ (Same.refl _) (.str _)⟩
    · cases hz
  · cases hz
def splitD : D → List D → Option D
  | .str a, [.str b] => if (b.length == 0) = false ∧ a.length + 2 ≤ 16777216 then some (.list ((Txt.split a b).map .str)) else none
  | _, _ => none
theorem mt_splitD : MtD G "str.split" splitD := fun X hX pins s σ H x xs v us Q d ds z I rx rs hd hs hz q => by
  unfold splitD at hz
  split at hz
  · rename_i a b
    split at hz
    · rename_i hl
      cases hz
      obtain ⟨y, rfl, hy⟩ := fs1 hs
      cases hd
      cases hy
      refine thn (mt_split pins s σ H _ _ v us (fun v H1 => ∀ s', L2.Inv X pins σ H1 s' → ∃ H2, L2.Inv X pins σ H2 s' ∧ Q v H2) I rx rs ⟨a, b, rfl, rfl, hl.1, by rw [line_eq]; exact hl.2, fun p hn s' I' => ?_⟩) fun u s' ⟨v, H1, I1, rv, z⟩ => let ⟨H2, I2, q2⟩ := z s' I1; ⟨v, H2, I2, rv, q2⟩
      obtain ⟨H2, I2, sm, fz⟩ := lock_new (K := G.K) I' hn
      exact ⟨H2, I2, q _ _ sm (.lst fz (strs_fs _))⟩
    · cases hz
  · cases hz
/-- a text by itself -/
def mth0 (C : Str → Bool) (g : Str → D) : D → List D → Option D
  | .str a, [] => if C a = true then some (g a) else none
  | _, _ => none
def upperD := mth0 (fun a => decide (a.length ≤ 5592405)) fun a => .str (Txt.upper a)
def lowerD := mth0 (fun a => decide (a.length ≤ 5592405)) fun a => .str (Txt.lower a)
def isdigitD := mth0 (fun _ => true) fun a => .bool (Txt.isdigit a)
theorem mt0D {id : String} {C : Str → Bool} {g : Str → D} {gv : Str → V} {Cp : Str → Prop} (h : ∀ X, MtR X id (fun x xs H Q => ∃ a, x = .str a ∧ xs = [] ∧ Cp a ∧ Q (gv a) H)) (hC : ∀ a, C a = true → Cp a) (hg : ∀ H a, DpF G.w G.K H (gv a) (g a)) : MtD G id (mth0 C g) := fun X hX pins s σ H x xs v us Q d ds z I rx rs hd hs hz q => by
  unfold mth0 at hz
  split at hz
  · rename_i a
    split at hz
    · rename_i hc
      cases hz
      cases hd
      cases hs
      exact h X pins s σ H _ _ v us Q I rx rs ⟨a, rfl, rfl, hC a hc, q H _ (Same.refl _) (hg H a)⟩
    · cases hz
  · cases hz
theorem mt_upperD : MtD G "str.upper" upperD := mt0D (fun X => mt_upper) (fun a h => of_decide_eq_true h) fun H a => .str _
theorem mt_lowerD : MtD G "str.lower" lowerD := mt0D (fun X => mt_lower) (fun a h => of_decide_eq_true h) fun H a => .str _
theorem mt_isdigitD : MtD G "str.isdigit" isdigitD := mt0D (Cp := fun _ => True) (fun X => mt_isdigit) (fun _ _ => trivial) fun H a => .bl _
/-- the place of a text in a text -/
def sindexD : D → List D → Option D
  | .str a, [.str b] => match Builtin.Str.occurrences a b 0 a.length 1 with
    | i :: _ => some (.int (i : Nat))
    | [] => none
  | _, _ => none
theorem mt_sindexD : MtD G "str.index" sindexD := fun X hX pins s σ H x xs v us Q d ds z I rx rs hd hs hz q => by
  unfold sindexD at hz
  split at hz
  · rename_i a b
    split at hz
    · rename_i i rest ho
      cases hz
      obtain ⟨y, rfl, hy⟩ := fs1 hs
      cases hd
      cases hy
      exact mt_sindex pins s σ H _ _ v us Q I rx rs ⟨a, b, i, rest, rfl, rfl, ho, q H _ (Same.refl _) (.int _)⟩
    · cases hz
  · cases hz
/-- the place of a thing in a list -/
def findEq (d : D) : List D → Nat → Option Nat
  | [], _ => none
  | z :: zs, i => if PyData.eqv z d = true then some i else findEq d zs (i + 1)
theorem findEq_some {d : D} : ∀ {zs : List D} {k i : Nat}, findEq d zs k = some i → ∃ j z, i = k + j ∧ zs[j]? = some z ∧ PyData.eqv z d = true ∧ ∀ (m : Nat) z', m < j → zs[m]? = some z' → PyData.eqv z' d = false
  | [], _, _, h => by cases h
  | z :: zs, k, i, h => by
    unfold findEq at h
    split at h
    · rename_i e
      cases h
      exact ⟨0, z, rfl, rfl, e, fun m z' h => absurd h (Nat.not_lt_zero m)⟩
    · rename_i e
      obtain ⟨j, y, h1, h2, h3, h4⟩ := findEq_some h
      refine ⟨j + 1, y, by omega, h2, h3, fun m z' hm hz => ?_⟩
      cases m with
      | zero => simp at hz; subst hz; simpa using e
      | succ m => exact h4 m z' (by omega) hz
def lindexD : D → List D → Option D
  | .list ds, [d] => if eqOk (.list ds) && eqOk d then (findEq d ds 0).map fun i => .int (i : Nat) else none
  | _, _ => none
theorem mt_lindexD : MtD G "list.index" lindexD := fun X hX pins s σ H x xs v us Q d ds z I rx rs hd hs hz q => by
  unfold lindexD at hz
  split at hz
  · rename_i zs e
    split at hz
    · rename_i hc
      simp only [eqOk, Bool.and_eq_true] at hc
      rw [Option.map_eq_some_iff] at hz
      obtain ⟨i, hi, rfl⟩ := hz
      obtain ⟨j, y, h1, h2, h3, h4⟩ := findEq_some hi
      have h1 : i = j := by omega
      subst h1
      obtain ⟨u, rfl, hu⟩ := fs1 hs
      cases hd with
      | lst fz fs =>
        refine mt_indexD (hu65 hX) pins s σ H _ _ v us Q I rx rs ⟨_, _, e, zs, i, y, rfl, rfl, ?_, ?_, hc.1.1, hc.2.1, h2, h3, h4, q H _ (Same.refl _) (.int _)⟩
        · rw [hX.K]; exact (DpF.lst fz fs).dp hc.1.2
        · rw [hX.K]; exact hu.dp hc.2.2
    · cases hz
  · cases hz
end
end Ev

/-! Ev22: truth, defs as values, parallel assignment, displays of dicts. -/
namespace Ev
open PySem PySem.Spec PyProof.Rows L2

/-! ### truth -/
def truD : D → Option Bool
  | .none => some false
  | .bool b => some b
  | .int i => some (i != 0)
  | .str y => if y.length ≤ 16777216 then some ((y.length : Int) != 0) else none
  | .list xs => some (!xs.isEmpty)
  | .tuple xs => some (!xs.isEmpty)
  | .dict _ => none
def truA : A → Store → Option Bool := fun a S => match a with
  | .d d => truD d
  | .loc n => match S[n]? with
    | some (.lst xs) => some (!xs.isEmpty)
    | some (.fzn d) => truD d
    | _ => none
  | .fn _ => none
section
variable {G : Gl} {sc : Scope} {N : List Str} {pos p apos : Pos} {a b c e o : Expr} {rest es : List Expr} {da db dc de : DE} {das : DR (List A)} {ta tb tc : DR Bool} {x m : Str}
theorem emp_eq {α β : Type} {R : α → β → Prop} {xs : List α} {ys : List β} (h : Paired R xs ys) : xs.isEmpty = ys.isEmpty := by cases h <;> rfl
theorem tru_D {X : Cx} (hK : X.K = G.K) {H : Hp} {x : V} {d : D} {k : Bool} (r : DpF G.w G.K H x d) (h : truD d = some k) : TruV X.K x H k := by
  cases r with
  | non => cases h; rfl
  | bl b => cases h; rfl
  | int i => cases h; rfl
  | str y =>
    simp only [truD] at h
    split at h
    · rename_i hz
      cases h
      exact ⟨by rw [line_eq]; exact hz, rfl⟩
    · cases h
  | lst fz fs => cases h; exact .inl ⟨_, by rw [hK]; exact fz.sq, by rw [emp_eq fs.paired]⟩
  | tup sq fs => cases h; exact .inr (.inl ⟨_, by rw [hK]; exact sq, by rw [emp_eq fs.paired]⟩)
  | dic => simp [truD] at h
theorem tru_A {X : Cx} (hK : X.K = G.K) {μ : List Addr} {S : Store} {H : Hp} {x : V} {a : A} {k : Bool} (ss : SimS G μ S H) (r : RelA G μ H a x) (h : truA a S = some k) : TruV X.K x H k := by
  unfold truA at h
  split at h
  · exact tru_D hK r h
  · rename_i n
    obtain ⟨p, hp, rfl⟩ := r
    split at h
    · rename_i xs hc
      cases h
      obtain ⟨p', hp', vs, e1, e2⟩ := ss.cells n _ hc
      rw [hp] at hp'; cases hp'
      exact .inl ⟨vs, .inl (.inl e1), by rw [emp_eq e2]⟩
    · rename_i d hc
      obtain ⟨p', hp', e1⟩ := ss.cells n _ hc
      rw [hp] at hp'; cases hp'
      exact tru_D hK e1 h
    · cases h
  · cases h
def optB (o : Option Bool) (S : Store) : Res Bool := match o with
  | some b => .ok b S
  | none => .no
def dTru (de : DE) : DR Bool := fun l S => (de l S).bind fun a S1 => optB (truA a S1) S1
theorem r_ttru (he : ∀ env whole, isTrue e env whole = (do let v ← whole; standAt e.pos; holding [v] (truthy v)) := by intro _ _; rfl) (h : Snd G sc N e de) : SndT G sc N e (dTru de) := fun X W st tk =>
  ⟨fun pins s σ H Q I q => (pt_truth (h X W st tk) (he X.env)).run pins s σ H Q I (tR.imp (tR_one (rel1 := RelA G) q) fun v H1 ⟨μ1, a, S1, s1, ra, h1⟩ => by
    unfold optB at h1
    split at h1
    · rename_i k ek
      exact ⟨k, tru_A st.K s1 ra ek, h1.here s1 rfl⟩
    · exact h1.elim)⟩
/-- x or y, x and y by truth -/
def dOrU (da db : DE) : DE := fun l S => (da l S).bind fun a S1 => match truA a S1 with
  | some true => .ok a S1
  | some false => db l S1
  | none => .no
def dAndU (da db : DE) : DE := fun l S => (da l S).bind fun a S1 => match truA a S1 with
  | some true => db l S1
  | some false => .ok a S1
  | none => .no
theorem r_orU (ha : Snd G sc N a da) (hb : Snd G sc N (.BoolOp .Or (b :: rest) pos) db) : Snd G sc N (.BoolOp .Or (a :: b :: rest) pos) (dOrU da db) := fun X W st tk =>
  ⟨fun pins s σ H Q I ⟨μ, l, S, ss, sl, q⟩ => (pe_orT (ha X W st tk) (hb X W st tk)).run pins s σ H Q I ⟨μ, l, S, ss, sl, Aft.imp (Aft.bind (rel' := RelA G) q) fun v H1 _ ⟨a, μ1, S1, g1, s1, ra, h1⟩ => by
    split at h1
    · rename_i ek
      exact ⟨true, tru_A st.K s1 ra ek, by rw [if_pos rfl]; exact h1.here s1 ra⟩
    · rename_i ek
      exact ⟨false, tru_A st.K s1 ra ek, by rw [if_neg Bool.false_ne_true]; exact ⟨μ1, l, S1, s1, sl.grow g1, h1⟩⟩
    · exact h1.elim⟩⟩
theorem r_andU (ha : Snd G sc N a da) (hb : Snd G sc N (.BoolOp .And (b :: rest) pos) db) : Snd G sc N (.BoolOp .And (a :: b :: rest) pos) (dAndU da db) := fun X W st tk =>
  ⟨fun pins s σ H Q I ⟨μ, l, S, ss, sl, q⟩ => (pe_andT (ha X W st tk) (hb X W st tk)).run pins s σ H Q I ⟨μ, l, S, ss, sl, Aft.imp (Aft.bind (rel' := RelA G) q) fun v H1 _ ⟨a, μ1, S1, g1, s1, ra, h1⟩ => by
    split at h1
    · rename_i ek
      exact ⟨true, tru_A st.K s1 ra ek, by rw [if_pos rfl]; exact ⟨μ1, l, S1, s1, sl.grow g1, h1⟩⟩
    · rename_i ek
      exact ⟨false, tru_A st.K s1 ra ek, by rw [if_neg Bool.false_ne_true]; exact h1.here s1 ra⟩
    · exact h1.elim⟩⟩
/-- a if c else b, as a test -/
theorem r_tif (hc : SndT G sc N c tc) (ha : SndT G sc N a ta) (hb : SndT G sc N b tb) : SndT G sc N (.IfExp c a b pos) (dIf tc ta tb) := fun X W st tk =>
  ⟨fun pins s σ H Q I q => by
    have e : isTrue (.IfExp c a b pos) X.env (eval (.IfExp c a b pos) X.env) = (isTrue c X.env (eval c X.env) >>= fun k => if k = true then isTrue a X.env (eval a X.env) else isTrue b X.env (eval b X.env)) := rfl
    rw [e]
    refine wpAny_bind (thn ((hc X W st tk).run pins s σ H _ I (if_read q)) fun k s1 ⟨H1, I1, z⟩ => ?_)
    cases k with
    | true => exact (ha X W st tk).run pins s1 σ H1 Q I1 z
    | false => exact (hb X W st tk).run pins s1 σ H1 Q I1 z⟩

/-! ### a def as a value -/
def dFn (f : Nat) : DE := fun _ S => .ok (.fn f) S
theorem r_fn {f : Nat} (hg : glB sc x = true) (hm : G.mg x = some (.ref (G.fa f))) : Snd G sc N (.Name x pos) (dFn f) := fun X W st tk => by
  obtain ⟨g1, g2, g3⟩ := gl_of hg
  exact ⟨fun pins s σ H Q I h => (pe_glob (v := .ref (G.fa f)) (show X.env.scope.names.lookup x = _ by rw [st.scope]; exact g1) (by rw [st.mg]; exact hm) rfl g2).run pins s σ H Q I (by obtain ⟨μ, l, S, ss, sl, h⟩ := h; exact h.here ss rfl)⟩
/-- one(..), one a local name that holds a def -/
def dCallL (n : Nat) (F : Fns) (i : Nat) (das : DR (List A)) : DE := fun l S => match l[i]? with
  | some (some (.fn f)) => if f < n then dCall F f das l S else .no
  | _ => .no
theorem r_callL {i n : Nat} (hf : ∀ f, f < n → FnIs G f) (hl : ∀ f, f < n → FnLen G f) (hN : N[i]? = some x) (hv : visB sc x = true) (ha : SndA G sc N (e :: es) das)
    (he : ∀ env, starEach (e :: es) env = (false, eval e env) :: starEach es env := by intro _; rfl) (hpl : ∀ env, (backTo pos (starEach es env)).any (·.1) = false := by intro _; rfl) : Snd G sc N (.Call (.Name x p) (e :: es) [] pos) (dCallL n G.F i das) := fun X W st tk => by
  obtain ⟨v1, v2, v3⟩ := vis_of hv
  refine ⟨fun pins s σ H Q I ⟨μ, l, S, ss, sl, q⟩ => ?_⟩
  unfold dCallL at q
  split at q
  · rename_i f hli
    split at q
    · rename_i hlt
      obtain ⟨v, e1, rv⟩ := sl.at_ i _ hli
      have rv : v = .ref (G.fa f) := rv
      subst rv
      refine wpAny_Call_Name_kw (thn ((pe_var (pos := p) (X := X) (i := i) (by rw [st.names]; exact hN) (by rw [st.scope]; exact v1) v2 v3).run pins s σ H (fun v H1 => v = .ref (G.fa f) ∧ H1 = H) I ⟨_, e1, rfl, rfl⟩) fun u s1 ⟨v, H1, I1, r1, q1⟩ => ?_)
      obtain ⟨rfl, rfl⟩ := q1
      cases r1
      refine PySem.W.callWith_K (h₀ := X.base) I1.ok.mod.kin (by rw [st.K]; exact (hf f hlt).kp) (thn ((ha X W st tk).run pos pins s1 σ _ _ I1 (call_read (hl f hlt) ⟨μ, l, S, ss, sl, q⟩)) fun us s2 ⟨vs, H2, I2, r, q2⟩ => ⟨I2.kIn, ?_⟩) (he X.env) (hpl X.env)
      exact call_run (hf f hlt) st tk I2 r q2
    · exact q.elim
  · exact q.elim

/-! ### a, b = x, y -/
def dPar (i j : Nat) (das : DR (List A)) : DS := fun l S => (das l S).thenS l fun as S1 => match as with
  | [x, y] => if i < l.length ∧ j < l.length then .nx ((l.set i (some x)).set j (some y)) S1 else .no
  | _ => .no
theorem r_par {i j : Nat} {y : Str} {px py pt : Pos} {kt k2 pt2} (hi : N[i]? = some x) (hj : N[j]? = some y) (hij : i ≠ j) (hx : sc.names.lookup x = some .local) (hy : sc.names.lookup y = some .local) (ha : SndA G sc N [a, b] das) (hk : sc.kind = .function)
    (hw : ∀ env, env.scope = sc → swappedStores [.Tuple [.Name x px, .Name y py] kt pt] (.Tuple [a, b] k2 pt2) env = pure (some [x, y])) (hs : ∀ env, swapsWithSole [.Tuple [.Name x px, .Name y py] kt pt] (.Tuple [a, b] k2 pt2) pos.line env = pure false := by intro _; rfl) :
    SndS G sc N (.Assign [.Tuple [.Name x px, .Name y py] kt pt] (.Tuple [a, b] k2 pt2) pos) (dPar i j das) := fun X W st tk =>
  ⟨fun pins s σ H D I q => (ps_par st.calm (by rw [st.names]; exact st.nd) (by rw [st.names]; exact hi) (by rw [st.names]; exact hj) hij (by rw [st.scope]; exact hx) (by rw [st.scope]; exact hy) (ha X W st.toStat tk) (hw X.env st.scope) (hs X.env)).run pins s σ H D I
    (tR.imp (then_read (k := fun as l S1 => match as with
      | [x, y] => if i < l.length ∧ j < l.length then .nx ((l.set i (some x)).set j (some y)) S1 else .no
      | _ => .no) (rel := RelAs G) q) fun vs H1 ⟨μ1, l, as, S1, s1, sl1, ra, h⟩ => by
      split at h
      · obtain ⟨v, u, rfl, rv, ru⟩ := ra.two
        split at h
        · exact ⟨v, u, rfl, h μ1 H1 _ Grow.refl s1 ((sl1.set rv).set ru)⟩
        · exact h.elim
      · exact h.elim)⟩
end
end Ev

/-! Ev23: displays of dicts; d.get(k, x). -/
namespace Ev
open PySem PySem.Spec PyProof.Rows L2

def dPairs : List (DE × DE) → DR (List (A × A))
  | [] => fun _ S => .ok [] S
  | (dk, dv) :: r => fun l S => (dk l S).bind fun x S1 => (dv l S1).bind fun y S2 => (dPairs r l S2).bind fun ps S3 => .ok ((x, y) :: ps) S3
def leaves : List (A × A) → Option (List (D × A))
  | [] => some []
  | (.d k, y) :: r => if leafB k = true then (leaves r).map ((k, y) :: ·) else none
  | _ :: _ => none
def putAll (kvs acc : List (D × A)) : List (D × A) := kvs.foldl (fun acc kv => dPut acc kv.1 kv.2) acc
def dDisp (ps : List (DE × DE)) : DE := fun l S => (dPairs ps l S).bind fun kvs S1 => match leaves kvs with
  | some ks => if ks.length ≤ 15 then .ok (.loc S1.length) (S1 ++ [.dic (putAll ks [])]) else .no
  | none => .no
abbrev relPs (G : Gl) (μ : List Addr) (H : Hp) : List (A × A) → List (V × V) → Prop := Paired fun p q => RelA G μ H p.1 q.1 ∧ RelA G μ H p.2 q.2
def SndPs (G : Gl) (sc : Scope) (N : List Str) (pos : Pos) (ks : List (Option Expr)) (vs : List Expr) (ps : List (DE × DE)) : Prop := ∀ X W, Stat G sc N X → Takes X W → ∃ trs, PPs X pos ks vs trs ∧ ∀ σ H Q, tR G W (relPs G) (dPairs ps) σ H Q → tPairs trs σ H Q
section
variable {G : Gl} {sc : Scope} {N : List Str} {pos p apos : Pos} {k v e o f : Expr} {ks : List (Option Expr)} {vs : List Expr} {dk dv da db de : DE} {ps : List (DE × DE)}
theorem ps_nil : SndPs G sc N pos [] [] [] := fun X W st tk => ⟨[], pps_nil, fun σ H Q q => ret_read (x := ([] : List (A × A))) q fun _ => .nil⟩
theorem ps_cons (hk : Snd G sc N k dk) (hv : Snd G sc N v dv) (hr : SndPs G sc N pos ks vs ps) : SndPs G sc N pos (some k :: ks) (v :: vs) ((dk, dv) :: ps) := fun X W st tk => by
  obtain ⟨trs, h1, h2⟩ := hr X W st tk
  refine ⟨_, pps_cons (hk X W st tk) (hv X W st tk) h1, fun σ H Q ⟨μ, l, S, ss, sl, q⟩ => ?_⟩
  refine ⟨μ, l, S, ss, sl, Aft.imp (Aft.bind (rel' := RelA G) q) fun x H1 _ ⟨a, μ1, S1, g1, s1, ra, q1⟩ => ?_⟩
  refine ⟨μ1, l, S1, s1, sl.grow g1, Aft.imp (Aft.bind (rel' := RelA G) q1) fun y H2 _ ⟨b, μ2, S2, g2, s2, rb, q2⟩ => ?_⟩
  refine h2 σ H2 _ ⟨μ2, l, S2, s2, (sl.grow g1).grow g2, Aft.imp (Aft.bind (rel' := relPs G) q2) fun zs H3 _ ⟨cs, μ3, S3, g3, s3, rc, q3⟩ => ?_⟩
  exact q3.here s3 (.cons ⟨(ra.grow g2).grow g3, rb.grow g3⟩ rc)
theorem leaves_rel {μ : List Addr} {H : Hp} : ∀ {kvs : List (A × A)} {ks : List (D × A)} {ws : List (V × V)}, leaves kvs = some ks → relPs G μ H kvs ws → ∃ zs : List (Key × V), ws = zs.map (fun kv => (kV kv.1, kv.2)) ∧ Paired (LeafR G μ H) ks zs
  | [], _, _, h, .nil => by cases h; exact ⟨[], rfl, .nil⟩
  | (x, y) :: kvs, ks, (u, w') :: ws, h, .cons ⟨r1, r2⟩ t => by
    cases x with
    | d k =>
      simp only [leaves] at h
      split at h
      · rename_i hb
        rw [Option.map_eq_some_iff] at h
        obtain ⟨ks', h', rfl⟩ := h
        obtain ⟨zs, e1, e2⟩ := leaves_rel h' t
        subst e1
        cases k with
        | int i => cases r1; exact ⟨(.inl i, w') :: zs, rfl, .cons ⟨rfl, r2⟩ e2⟩
        | str z => cases r1; exact ⟨(.inr z, w') :: zs, rfl, .cons ⟨rfl, r2⟩ e2⟩
        | _ => simp [leafB] at hb
      · cases h
    | _ => simp [leaves] at h
theorem put_all {μ : List Addr} {H : Hp} : ∀ {ks : List (D × A)} {zs : List (Key × V)} {acc : List (D × A)} {acc' : List (Key × V)}, Paired (LeafR G μ H) ks zs → Paired (LeafR G μ H) acc acc' → Paired (LeafR G μ H) (putAll ks acc) (mergeK acc' zs)
  | [], _, _, _, .nil, h => h
  | (k, y) :: ks, (j, w') :: zs, acc, acc', .cons r t, h => by
    have r1 : k = leafD j := r.1
    subst r1
    show Paired (LeafR G μ H) (putAll ks (dPut acc (leafD j) y)) (mergeK (putK acc' j w') zs)
    exact put_all t (put_K j r.2 h)
theorem r_disp (hp : SndPs G sc N pos ks vs ps) (hall : ks.all (·.isSome) = true := by rfl) (hl : ks.length = vs.length := by rfl) (h0 : ks ≠ [] := by exact List.cons_ne_nil _ _) (h15 : ks.length ≤ 15 := by decide) : Snd G sc N (.Dict ks vs pos) (dDisp ps) := fun X W st tk => by
  obtain ⟨trs, h1, h2⟩ := hp X W st tk
  refine ⟨fun pins s σ H Q I ⟨μ, l, S, ss, sl, q⟩ => (pe_disp h1 hall hl h0 h15).run pins s σ H Q I fun p hn => ?_⟩
  have sm := same_new (o := HO.dK []) hn
  have gr := Grow.same (μ := μ) sm
  refine h2 σ _ _ ⟨μ, l, S, ss.same sm, sl.grow gr, ?_⟩
  unfold dDisp at q
  cases e : dPairs ps l S with
  | no => rw [e] at q; exact q
  | exc x S1 => rw [e] at q; exact fun μ' H' c dd g s' er => q μ' H' c dd (gr.trans g) s' er
  | ok kvs S1 =>
    rw [e] at q
    refine fun μ1 H1 ws g1 s1 rw_ => ?_
    have np : p ∉ μ := fun z => ss.there p z hn
    obtain ⟨n1, h1p⟩ := g1.notin upd_same np
    rw [Res.ok_bind] at q
    cases el : leaves kvs with
    | none => simp only [el] at q; exact q.elim
    | some kk =>
      simp only [el] at q
      split at q
      · rename_i hz
        obtain ⟨zs, e1, e2⟩ := leaves_rel el rw_
        refine ⟨h1p, zs, e1, by rw [← Paired.length e2]; exact hz, ?_⟩
        have pe : Pers H1 (upd H1 p (.dK (mergeK [] zs))) := upd_pers (fun _ z => by rw [h1p] at z; cases z) (fun _ _ z => by rw [h1p] at z; cases z)
        have g2 : Grow μ μ1 H (upd H1 p (.dK (mergeK [] zs))) := (gr.trans g1).put hn
        have s2 := s1.put pe n1
        have g3 := g2.adopt hn
        have x : Ext μ1 (μ1 ++ [p]) H1 (upd H1 p (.dK (mergeK [] zs))) := ⟨⟨[p], rfl⟩, pe⟩
        refine q _ _ _ g3 (s2.adopt n1 (by rw [upd_same]; simp) (.inl ⟨mergeK [] zs, upd_same, put_all (Paired.mapP e2 fun _ _ z => ⟨z.1, z.2.ext x⟩) .nil⟩)) ?_
        exact ⟨p, by rw [List.getElem?_append_right (by rw [s1.len]; exact Nat.le_refl _)]; simp [s1.len], rfl⟩
      · exact q.elim
end
end Ev

/-! Ev24: what a head tells: constants, exceptions. -/
namespace Ev
open PySem PySem.Spec PyProof.Rows L2 PySem.W

/-! ### constants -/
mutual
def dpB (K : Frag) : Value → D → Bool
  | u, .none => (match u with | .none => true | _ => false)
  | u, .bool b => (match u with | .bool c => b == c | _ => false)
  | u, .int i => (match u with | .int j _ => decide (j = i) | _ => false)
  | u, .str x => (match u with | .str y _ => decide (y = x) | _ => false)
  | u, .tuple ds => (match u with
    | .ref a => (match K.lookup a with
      | some ⟨.type c, none, .seq its _, _⟩ => decide (c = "tuple") && decide (its.size ≤ sizeLine) && dpsB K its.toList ds
      | _ => false)
    | _ => false)
  | u, .list ds => (match u with
    | .ref a => (match K.lookup a with
      | some ⟨.type c, none, .seq its _, _⟩ => decide (c = "list") && decide (its.size ≤ sizeLine) && dpsB K its.toList ds
      | _ => false)
    | _ => false)
  | _, .dict _ => false
def dpsB (K : Frag) : List Value → List D → Bool
  | us, [] => us.isEmpty
  | us, d :: ds => (match us with
    | u :: r => dpB K u d && dpsB K r ds
    | [] => false)
end
mutual
theorem dpB_ok {K : Frag} : ∀ {d : D} {u : Value}, dpB K u d = true → ∃ v, RelV v u ∧ ∀ w H, DpF w K H v d
  | .none, u, h => by
    cases u with
    | none => exact ⟨.non, rfl, fun _ _ => .non⟩
    | _ => simp [dpB] at h
  | .bool b, u, h => by
    cases u with
    | bool c =>
      have e : b = c := by simpa [dpB] using h
      subst e
      exact ⟨.bl b, rfl, fun _ _ => .bl b⟩
    | _ => simp [dpB] at h
  | .int i, u, h => by
    cases u with
    | int j t =>
      have e : j = i := by simpa [dpB] using h
      subst e
      exact ⟨.int j, ⟨t, rfl⟩, fun _ _ => .int j⟩
    | _ => simp [dpB] at h
  | .str x, u, h => by
    cases u with
    | str y t =>
      have e : y = x := by simpa [dpB] using h
      subst e
      exact ⟨.str y, ⟨t, rfl⟩, fun _ _ => .str y⟩
    | _ => simp [dpB] at h
  | .tuple ds, u, h => by
    cases u with
    | ref a =>
      simp only [dpB] at h
      split at h
      · rename_i c its n sl hk
        simp only [Bool.and_eq_true, decide_eq_true_eq] at h
        obtain ⟨⟨h1, h2⟩, h3⟩ := h
        subst h1
        obtain ⟨vs, rv, fs⟩ := dpsB_ok h3
        exact ⟨.ref a, rfl, fun w H => .tup (.inr ⟨_, its, n, hk, rfl, rfl, h2, rv⟩) (fs w H)⟩
      · cases h
    | _ => simp [dpB] at h
  | .list ds, u, h => by
    cases u with
    | ref a =>
      simp only [dpB] at h
      split at h
      · rename_i c its n sl hk
        simp only [Bool.and_eq_true, decide_eq_true_eq] at h
        obtain ⟨⟨h1, h2⟩, h3⟩ := h
        subst h1
        obtain ⟨vs, rv, fs⟩ := dpsB_ok h3
        exact ⟨.ref a, rfl, fun w H => .lst (.inr ⟨_, its, n, hk, rfl, rfl, rfl, h2, rv⟩) (fs w H)⟩
      · cases h
    | _ => simp [dpB] at h
  | .dict _, u, h => by simp [dpB] at h
theorem dpsB_ok {K : Frag} : ∀ {ds : List D} {us : List Value}, dpsB K us ds = true → ∃ vs, Vals vs us ∧ ∀ w H, DpFs w K H vs ds
  | [], us, h => by
    cases us with
    | nil => exact ⟨[], .nil, fun _ _ => .nil⟩
    | cons u r => simp [dpsB] at h
  | d :: ds, us, h => by
    cases us with
    | nil => simp [dpsB] at h
    | cons u r =>
      rw [dpsB] at h
      simp only [Bool.and_eq_true] at h
      obtain ⟨v, h1, h2⟩ := dpB_ok h.1
      obtain ⟨vs, h3, h4⟩ := dpsB_ok h.2
      exact ⟨v :: vs, .cons h1 h3, fun w H => .cons (h2 w H) (h4 w H)⟩
end
def conB (K : Frag) (x : Str) (d : D) : Bool := match nsIn K mainGlobals x with
  | some (some u) => dpB K u d
  | _ => false
theorem con_of {G : Gl} {x : Str} {d : D} {h : Heap} (X : G.K.In h) (gn : h.Ns mainGlobals G.mg) (c : conB G.K x d = true) : ConIs G x d := by
  unfold conB at c
  split at c
  · rename_i u hn
    obtain ⟨v, h1, h2⟩ := dpB_ok c
    exact ⟨u, v, mg_of X gn hn, h1, fun H => h2 _ H⟩
  · cases c
/-- a constant tuple's place -/
def conTB (K : Frag) (x : Str) : Bool := match nsIn K mainGlobals x with
  | some (some (.ref a)) => (match K.lookup a with
    | some ⟨.type c, none, .seq _ _, _⟩ => decide (c = "tuple")
    | _ => false)
  | _ => false

/-! ### exceptions -/
def oexB (K : Frag) (C : Addr) : Bool := match K.lookup C with
  | some ⟨.type c, _, .cls cd, sl⟩ => (match cd.mro, sl.toList with
    | .ref C' :: bm, [_, _, _, _, some (.builtin n), _] => decide (c = "type") && (C' == C && (n == "ValueError.__new__" && (!cd.hasDel && (cd.hasDict && HandSPX.refsVE bm))))
    | _, _ => false)
  | _ => false
theorem oexB_ok {K : Frag} {C : Addr} (q : oexB K C = true) : ∃ nm q N bs bm sn sub ab col dd k0 k1 k2 k3 k5, K.lookup C = some (excClassObj nm q C N bs bm true sn sub ab col dd k0 k1 k2 k3 k5 "ValueError.__new__") ∧ HandSPX.refsVE bm = true := by
  unfold oexB at q
  split at q
  · rename_i c dd cd sl ho
    split at q
    · rename_i C' bm k0 k1 k2 k3 n k5 hm hs
      simp only [Bool.and_eq_true, beq_iff_eq, Bool.not_eq_true', decide_eq_true_eq] at q
      obtain ⟨rfl, rfl, rfl, hdel, hdict, ht⟩ := q
      obtain ⟨nm, bs, mro, ns, qn, hd, sn, sub, ab, col, del⟩ := cd
      dsimp only at hm hdel hdict
      subst hm hdel hdict
      have hsl : sl = #[k0, k1, k2, k3, some (.builtin "ValueError.__new__"), k5] := by
        obtain ⟨l⟩ := sl
        simp only at hs
        rw [hs]
      subst hsl
      exact ⟨nm, qn, ns, bs, bm, sn, sub, ab, col, dd, k0, k1, k2, k3, k5, ho, ht⟩
    · cases q
  · cases q
def iniA (K : Frag) (C : Addr) : Addr := He.ma K C "__init__"
def eqV (a b : Option (Option Value)) : Bool := decide (a = b)
/-- the class's own facts -/
def excB (K : Frag) (x : Str) (fls : List Str) : Bool :=
  let C := He.ga K x
  He.eqO (nsIn K mainGlobals x) (some (some (.ref C))) && (oexB K C && (He.eqO (findIn K (.ref C) "__setattr__") (some (some (.builtin "object.__setattr__"))) && (decide (subIn K (.ref C) (.type "BaseException") = some true) && (decide (typeIn K (.ref C) = some (.type "type")) && (keepIn K (.ref C) &&
  (He.eqO (findIn K (.ref C) "__getattribute__") (some (some (.builtin "BaseException.__getattribute__"))) && (He.eqO (findIn K (.ref C) "__getattr__") (some none) && (hasDictIn K C && (He.eqO (findIn K (.ref C) "__class__") (some (some (.builtin "object.__class__"))) &&
  (He.eqO (specialIn K (.builtin "object.__class__") "__get__") (some (some (.builtin "getset_descriptor.__get__"))) && (decide (takesIn K (.builtin "object.__class__") = some true) && (decide (mroIn K C (.type "object") = some true) && fls.all fun f => He.eqO (findIn K (.ref C) f) (some none)))))))))))))
structure ExcOk (K : Frag) (x : Str) (C : Addr) (fls : List Str) : Prop where
  at_ : nsIn K mainGlobals x = some (some (.ref C))
  oex : OexC K C
  exc : ExcC K C
  xf : XfC K C
  no : ∀ f ∈ fls, findIn K (.ref C) f = some none
theorem excB_ok {K : Frag} {x : Str} {fls : List Str} (h : excB K x fls = true) : ExcOk K x (He.ga K x) fls := by
  unfold excB at h
  simp only [Bool.and_eq_true, decide_eq_true_eq, List.all_eq_true] at h
  obtain ⟨h1, h2, h3, h4, h5, h6, h7, h8, h9, h10, h11, h12, h13, h14⟩ := h
  exact ⟨He.eqO_ok h1, ⟨oexB_ok h2, He.eqO_ok h3, h4, h5, h6⟩, ⟨He.eqO_ok h7, He.eqO_ok h8, h4, h9, He.eqO_ok h10, He.eqO_ok h11, h12, h13⟩, ⟨He.eqO_ok h7, He.eqO_ok h8, h4, h9⟩, fun f hf => He.eqO_ok (h14 f hf)⟩
/-- the __init__'s own facts -/
def iniB (K : Frag) (x file qual : Str) : Bool :=
  let C := He.ga K x
  He.eqO (findIn K (.ref C) "__init__") (some (some (.ref (iniA K C)))) && (decide (typeIn K (.ref (iniA K C)) = some (.type "function")) && (decide (ks_superIn K C C "__init__" = some (some (.builtin "ValueError.__init__"))) && (decide (subIn K (.ref C) (.type "ValueError") = some true) &&
  (decide (mroIn K C (.ref C) = some true) && (He.eqO (nsIn K cStatics "thirdparty.any") (some none) && (match K.lookup (iniA K C) with
    | some ⟨_, _, .func fd, _⟩ => codeIn K fd.code qual && ((match fd.closure with
      | [(_, cc)] => (match K.lookup cc with
        | some ⟨_, _, .cell (some (.ref D)), _⟩ => D == C
        | _ => false)
      | _ => false) && (match fd.code with
      | .ref cda => (match K.lookup cda with
        | some ⟨_, _, .fields vs, _⟩ => (match (vs[2]? : Option Value) with
          | some (.str f _) => decide (f = file)
          | _ => false)
        | _ => false)
      | _ => false))
    | _ => false))))))
abbrev FnC : Type := Option (Str × Str × Arguments × FuncBody × Scope × Addr × List Str × Value × Addr)
def obsC (K : Frag) (x : Str) : FnC := match K.lookup (iniA K (He.ga K x)) with
  | some ⟨_, _, .func fd, _⟩ => some (fd.name, fd.qualname, fd.params, fd.body, fd.scope, fd.globals, fd.closure.map (·.1), fd.defaults, fd.builtins)
  | _ => none
structure IniD where
  cls : Str
  qual : Str
  file : Str
  params : Arguments
  body : List Stmt
  scope : Scope
def IniD.val (d : IniD) : FnC := some ("__init__", d.qual, d.params, .stmts d.body, d.scope, mainGlobals, ["__class__"], .none, builtinsNs)
theorem ini_ok {P : Program} {K : Frag} {mg : Str → Option Value} {d : IniD} {fls : List Str} {slf : Str} (e : obsC K d.cls = d.val) (c : iniB K d.cls d.file d.qual = true) (T : ExcOk K d.cls (He.ga K d.cls) fls)
    (hd : ∃ ar, (d.params.posonlyargs ++ d.params.args).head? = some ar ∧ ar.arg = slf) (top : (P.main.scope.names.lookup ("super" : Str)).isSome = false) (nos : mg "super" = none) (file : ((P.main.file : Str) == d.file) = true)
    (bd : ∀ fd : FuncData, (fd.defaults, fd.params, fd.scope) = (.none, d.params, d.scope) → Binds K fd (slf :: fls) []) :
    findIn K (.ref (He.ga K d.cls)) "__init__" = some (some (.ref (iniA K (He.ga K d.cls)))) ∧ typeIn K (.ref (iniA K (He.ga K d.cls))) = some (.type "function") ∧
    ∃ cc cda fd, IniOk P K mg (He.ga K d.cls) (iniA K (He.ga K d.cls)) cc cda d.qual slf d.params fd d.body d.scope ∧ Binds K fd (slf :: fls) [] := by
  unfold iniB at c
  simp only [Bool.and_eq_true, decide_eq_true_eq] at c
  obtain ⟨c1, c2, c3, c4, c5, c6, c7⟩ := c
  refine ⟨He.eqO_ok c1, c2, ?_⟩
  unfold obsC at e
  cases q : K.lookup (iniA K (He.ga K d.cls)) with
  | none => rw [q] at c7; cases c7
  | some o =>
    obtain ⟨oc, od, dt, osl⟩ := o
    rw [q] at c7 e
    cases dt with
    | func fd =>
      simp only at c7 e
      simp only [Bool.and_eq_true] at c7
      obtain ⟨k1, k2, k3⟩ := c7
      obtain ⟨n1, n2, n3, n4, n5, n6, n7, n8, n9, n10, n11, n12, n13, n14, n15⟩ := fd
      simp only at k1 k2 k3 e
      have e2 : (some (n1, n2, n3, n4, n5, n6, n7.map (·.1), n8, n15) : FnC) = (some (("__init__" : Str), d.qual, d.params, FuncBody.stmts d.body, d.scope, mainGlobals, [("__class__" : Str)], .none, builtinsNs) : FnC) := e
      simp only [Option.some.injEq, Prod.mk.injEq] at e2
      obtain ⟨h1, h2, h3, h4, h5, h6, h7, h8, h9⟩ := e2
      subst h1 h2 h3 h4 h5 h6 h8 h9
      split at k2
      · rename_i y cc
        have h7 : [y] = [("__class__" : Str)] := h7
        have ey : y = "__class__" := by simpa using h7
        subst ey
        split at k2
        · rename_i cl cld D csl hcc
          have eD : D = He.ga K d.cls := by simpa using k2
          subst eD
          split at k3
          · rename_i cda
            split at k3
            · rename_i ccl cdd vs ccs hcd
              split at k3
              · rename_i f tf hv
                have ef : f = d.file := by simpa using k3
                subst ef
                refine ⟨cc, cda, _, { lk := ⟨oc, od, _, n9, n10, n11, n12, n14, osl, rfl, q⟩, code := k1, cobj := ⟨ccl, cdd, vs, ccs, d.file, tf, hcd, hv, file⟩, cell := ⟨cl, cld, csl, hcc⟩, hd := hd, oex := T.oex, sup := c3, sub := c4, own := c5, opq := He.eqO_ok c6, top := top, nos := nos }, bd _ rfl⟩
              · cases k3
            · cases k3
          · cases k3
        · cases k2
      · cases k2
    | _ => cases c7
end Ev

/-! Ev25: the head's hook. -/
namespace Ev
open PySem PySem.Spec PyProof.Rows L2 PySem.W

structure Fcts where
  fa : List He.Fa
  fn : List He.FnD
  con : List (Str × D)
  exc : List (Str × List Str)
  ini : List IniD
  sub : List (Str × Str × Bool)
def subB (K : Frag) (q : Str × Str × Bool) : Bool := decide (kitOne K (.ref (He.ga K q.1)) (.ref (He.ga K q.2.1)) = some q.2.2) && decide (exmOne K (.ref (He.ga K q.1)) (.ref (He.ga K q.2.1)) = some q.2.2)
abbrev AlF : Type := Bool × List He.FnV × List FnC
def okF (F : Fcts) (K : Frag) : Bool := F.fa.all (fun f => f.ok K) && (F.fn.all (fun d => (He.Fa.code d.at_ d.qual).ok K) && (F.con.all (fun c => conB K c.1 c.2) && (F.exc.all (fun c => excB K c.1 c.2) && (F.ini.all (fun d => iniB K d.cls d.file d.qual) && F.sub.all (subB K)))))
def obsF (F : Fcts) (K : Frag) : AlF := (okF F K, F.fn.map fun d => He.fnObs K d.at_, F.ini.map fun d => obsC K d.cls)
def valF (F : Fcts) : AlF := (true, F.fn.map He.FnD.val, F.ini.map IniD.val)
def SaysF (F : Fcts) (K : Frag) : Prop := obsF F K = valF F
def refsX (o : Obj) : List Addr := He.refsO o ++ match o.data with
  | .func fd => fd.closure.map (·.2)
  | .cell (some v) => He.refV v
  | _ => []
def growX (g : Addr → Option Obj) (as : List Addr) : List Addr := (as ++ as.flatMap fun a => match g a with
  | some o => refsX o
  | none => []).eraseDups
def asX (g : Addr → Option Obj) : Nat → List Addr
  | 0 => [mainGlobals]
  | n + 1 => growX g (asX g n)
def frX (g : Addr → Option Obj) (n : Nat) : Frag := He.frG g (cStatics :: asX g n)
def obsX (n : Nat) (F : Fcts) (g : Addr → Option Obj) : AlF := obsF F (frX g n)
def hookF (n : Nat) (F : Fcts) : Hook where
  α := AlF
  obs := fun s => obsX n F s.heap.get?
  val := fun _ => valF F
  says := fun _ h => ∃ K : Frag, K.In h ∧ SaysF F K
  of := fun _ _ e => ⟨_, He.frG_in, e⟩
  keeps := fun _ _ _ ⟨K, hK, c⟩ k => ⟨K, Frag.In.keeps hK k, c⟩
theorem obsX_eq {n : Nat} {F : Fcts} {g : Addr → Option Obj} {s : Shared} (h : ∀ a, g a = s.heap.get? a) : obsX n F g = (hookF n F).obs s := by
  have e : g = s.heap.get? := funext h
  rw [e] <;> rfl
section
variable {F : Fcts} {K : Frag}
theorem SaysF.all (c : SaysF F K) : okF F K = true := congrArg (fun z : AlF => z.1) c
theorem SaysF.fact (c : SaysF F K) (i : Nat) {f : He.Fa} (h : F.fa[i]? = some f) : f.ok K = true := by
  have c1 := c.all
  unfold okF at c1
  simp only [Bool.and_eq_true, List.all_eq_true] at c1
  exact c1.1 f (List.mem_of_getElem? h)
theorem SaysF.con_ (c : SaysF F K) (i : Nat) {f : Str × D} (h : F.con[i]? = some f) : conB K f.1 f.2 = true := by
  have c1 := c.all
  unfold okF at c1
  simp only [Bool.and_eq_true, List.all_eq_true] at c1
  exact c1.2.2.1 f (List.mem_of_getElem? h)
theorem SaysF.exc_ (c : SaysF F K) (i : Nat) {f : Str × List Str} (h : F.exc[i]? = some f) : ExcOk K f.1 (He.ga K f.1) f.2 := by
  have c1 := c.all
  unfold okF at c1
  simp only [Bool.and_eq_true, List.all_eq_true] at c1
  exact excB_ok (c1.2.2.2.1 f (List.mem_of_getElem? h))
theorem SaysF.ini_ (c : SaysF F K) (i : Nat) {d : IniD} (h : F.ini[i]? = some d) : obsC K d.cls = d.val ∧ iniB K d.cls d.file d.qual = true := by
  have c1 := c.all
  unfold okF at c1
  simp only [Bool.and_eq_true, List.all_eq_true] at c1
  refine ⟨?_, c1.2.2.2.2.1 d (List.mem_of_getElem? h)⟩
  have e : F.ini.map (fun d => obsC K d.cls) = F.ini.map IniD.val := congrArg (fun z : AlF => z.2.2) c
  have e2 : (F.ini.map fun d => obsC K d.cls)[i]? = (F.ini.map IniD.val)[i]? := by rw [e]
  rw [List.getElem?_map, List.getElem?_map, h] at e2
  exact Option.some.inj e2
theorem SaysF.sub_ (c : SaysF F K) {q : Str × Str × Bool} (h : q ∈ F.sub) : kitOne K (.ref (He.ga K q.1)) (.ref (He.ga K q.2.1)) = some q.2.2 ∧ exmOne K (.ref (He.ga K q.1)) (.ref (He.ga K q.2.1)) = some q.2.2 := by
  have c1 := c.all
  unfold okF at c1
  simp only [Bool.and_eq_true, List.all_eq_true] at c1
  have z := c1.2.2.2.2.2 q h
  unfold subB at z
  simp only [Bool.and_eq_true, decide_eq_true_eq] at z
  exact z
theorem SaysF.def_ (c : SaysF F K) (i : Nat) {d : He.FnD} (h : F.fn[i]? = some d) :
    ∃ oc od osl kV doc pm an cdv ct, K.lookup (He.fAd K d.at_) = some ⟨oc, od, .func (fnOf d.name d.qual d.params d.body d.scope .none kV doc pm an cdv ct), osl⟩ ∧ codeIn K cdv d.qual = true := by
  have c1 := c.all
  unfold okF at c1
  simp only [Bool.and_eq_true, List.all_eq_true] at c1
  have e : F.fn.map (fun d => He.fnObs K d.at_) = F.fn.map He.FnD.val := congrArg (fun z : AlF => z.2.1) c
  have e2 : (F.fn.map fun d => He.fnObs K d.at_)[i]? = (F.fn.map He.FnD.val)[i]? := by rw [e]
  rw [List.getElem?_map, List.getElem?_map, h] at e2
  exact He.fn_ok (Option.some.inj e2) (c1.2.1 d (List.mem_of_getElem? h))
end
end Ev

/-! Ev26: the place in a constant tuple; tables of a head. -/
namespace Ev
open PySem PySem.Spec PyProof.Rows L2

def ConT (G : Gl) (x : Str) : Prop := ∃ a o, G.mg x = some (.ref a) ∧ G.K.lookup a = some o ∧ o.cls = .type "tuple" ∧ o.dict = none
theorem cont_of {G : Gl} {x : Str} {h : Heap} (X : G.K.In h) (gn : h.Ns mainGlobals G.mg) (c : conTB G.K x = true) : ConT G x := by
  unfold conTB at c
  split at c
  · rename_i a hn
    split at c
    · rename_i c' its n sl hk
      have e : c' = "tuple" := by simpa using c
      subst e
      exact ⟨a, _, PySem.W.mg_of X gn hn, hk, rfl, rfl⟩
    · cases c
  · cases c
theorem cont_of2 {G : Gl} {x : Str} {ds : List D} {h : Heap} (X : G.K.In h) (gn : h.Ns mainGlobals G.mg) (c : conB G.K x (.tuple ds) = true) : ConT G x := by
  unfold conB at c
  split at c
  · rename_i u hn
    cases u with
    | ref a =>
      simp only [dpB] at c
      split at c
      · rename_i c' its n sl hk
        simp only [Bool.and_eq_true, decide_eq_true_eq] at c
        have e := c.1.1
        subst e
        exact ⟨a, _, PySem.W.mg_of X gn hn, hk, rfl, rfl⟩
      · cases c
    | _ => simp [dpB] at c
  · cases c
def findS (z : Str) : List Str → Option Nat
  | [] => none
  | y :: ys => if y = z then some 0 else (findS z ys).map (· + 1)
theorem findS_some {z : Str} : ∀ {ys : List Str} {j : Nat}, findS z ys = some j → ys[j]? = some z ∧ ∀ m, m < j → ys[m]? ≠ some z
  | [], _, h => by cases h
  | y :: ys, j, h => by
    unfold findS at h
    split at h
    · rename_i e
      cases h
      exact ⟨by simp [e], fun m hm => absurd hm (Nat.not_lt_zero m)⟩
    · rename_i e
      rw [Option.map_eq_some_iff] at h
      obtain ⟨i, hi, rfl⟩ := h
      obtain ⟨h1, h2⟩ := findS_some hi
      refine ⟨by simpa using h1, fun m hm => ?_⟩
      cases m with
      | zero => simpa using e
      | succ m => simpa using h2 m (by omega)
def tixD (d : D) (a : A) : Option A := match d, a with
  | .tuple ds, .d (.str z) => (strsOf ds).bind fun ys => (findS z ys).map fun j => .d (.int (j : Nat))
  | _, _ => none
def dTix (d : D) (da : DE) : DE := fun l S => (da l S).bind fun a S1 => opt (tixD d a) S1
section
variable {G : Gl} {sc : Scope} {N : List Str} {pos p apos : Pos} {e : Expr} {da : DE} {x : Str}
theorem r_tix {d : D} (h : ConIs G x d) (ht : ConT G x) (hg : glB sc x = true) (ha : Snd G sc N e da) (hbase : ∀ env, attributeBase (.Name x p) "index" env (eval (.Name x p) env) = eval (.Name x p) env := by intro _; rfl)
    (hfew : ∀ env, ((backTo pos (starEach [e] env)).all (fun x => !x.1) && (backToKw pos (keywordEach [] env)).all (fun x => x.1.isSome) && decide (([e] : List Expr).length + ([] : List Keyword).length + (if ([] : List Keyword).isEmpty then 0 else 1) < 30)) = true := by intro _; rfl)
    (hline : (apos.endLine == pos.line) = true := by rfl) (hs : ∀ env, starEach [e] env = (false, eval e env) :: starEach [] env := by intro _; rfl) :
    Snd G sc N (.Call (.Attribute (.Name x p) "index" apos) [e] [] pos) (dTix d da) := fun X W st tk => by
  obtain ⟨g1, g2, g3⟩ := gl_of hg
  obtain ⟨u, v, h1, h2, h3⟩ := h
  obtain ⟨a, o, k1, k2, k3, k4⟩ := ht
  have eu : u = .ref a := Option.some.inj (h1.symm.trans k1)
  subst eu
  have ev : v = .ref a := by
    cases v with
    | ref b => have z : Value.ref a = Value.ref b := h2; cases z; rfl
    | int i => obtain ⟨t, z⟩ := h2; cases z
    | str i => obtain ⟨t, z⟩ := h2; cases z
    | non => cases h2
    | bl b => cases h2
    | _ => first | (obtain ⟨t, z⟩ := h2; cases z; done) | (cases h2; done)
  subst ev
  refine ⟨fun pins s σ H Q I q => (pe_bm PySem.F.plainAttrs_tuple PySem.F.slot_tuple_index PySem.F.type_tuple_index mt_tup_index (pe_glob (v := .ref a) (show X.env.scope.names.lookup x = _ by rw [st.scope]; exact g1) (by rw [st.mg]; exact k1) rfl g2) (pa_cons (ha X W st tk) pa_nil (hs X.env)) (hbase X.env) (hfew X.env) hline (hs X.env) (by rfl)).run pins s σ H Q I ⟨.inr (.inl ⟨rfl, o, by rw [st.K]; exact k2, k3, k4⟩), ?_⟩⟩
  refine tR.imp (tR_one (rel1 := RelA G) q) fun y H1 ⟨μ1, b, S1, s1, rb, h4⟩ => ?_
  unfold opt at h4
  split at h4
  · rename_i r er
    unfold tixD at er
    split at er
    · rename_i ds z _
      rw [Option.bind_eq_some_iff] at er
      obtain ⟨ys, ey, er⟩ := er
      rw [Option.map_eq_some_iff] at er
      obtain ⟨j, ej, rfl⟩ := er
      have e5 := strsOf_some ey
      subst e5
      obtain ⟨f1, f2⟩ := findS_some ej
      cases rb
      cases h3 H1 with
      | tup sq fs =>
        rw [fs_strs fs] at sq
        exact ⟨a, ys, z, j, rfl, rfl, by rw [st.K]; exact sq, f1, f2, h4.here s1 (.int _)⟩
    · cases er
  · exact h4.elim
/-- a, b = x, y: the stores are swapped as two plain locals' -/
def parB (sc : Scope) (x y : Str) (px py : Pos) (a b : Expr) : Bool :=
  sc.names.lookup x == some .local && (sc.names.lookup y == some .local && (py.line == px.line && (!(x == y) && ((sc.kind == .function) && (!([a, b].any fun | .Starred .. => true | _ => false) && (!([a, b].all (foldedForSure 8)) && !([a, b].all (constantsAlone 8))))))))
end
theorem sub_tab {G : Gl} {L : List (Nat × Nat × Bool)} (h : ∀ q ∈ L, ExcC G.K (G.ca q.1) ∧ PySem.W.kitOne G.K (.ref (G.ca q.1)) (.ref (G.ca q.2.1)) = some q.2.2 ∧ PySem.W.exmOne G.K (.ref (G.ca q.1)) (.ref (G.ca q.2.1)) = some q.2.2) :
    SubIs G (fun c k => (L.find? fun q => q.1 == c && q.2.1 == k).map (·.2.2)) := ⟨fun c k b e => by
  rw [Option.map_eq_some_iff] at e
  obtain ⟨q, hq, rfl⟩ := e
  have h1 := List.find?_some hq
  simp only [Bool.and_eq_true, beq_iff_eq] at h1
  obtain ⟨rfl, rfl⟩ := h1
  exact h q (List.mem_of_find?_eq_some hq)⟩
theorem xf_tab {G : Gl} {L : List (Nat × List Str)} (h : ∀ q ∈ L, ∀ f ∈ q.2, XfC G.K (G.ca q.1) ∧ PySem.W.findIn G.K (.ref (G.ca q.1)) f = some none) : XfIs G (fun c => ((L.find? fun q => q.1 == c).map (·.2)).getD []) := ⟨fun c f hf => by
  cases e : L.find? fun q => q.1 == c with
  | none => rw [e] at hf; simp at hf
  | some q =>
    rw [e] at hf
    have h1 := List.find?_some e
    have h1 : q.1 = c := by simpa using h1
    subst h1
    exact h q (List.mem_of_find?_eq_some e) f (by simpa using hf)⟩

section
variable {G : Gl} {sc : Scope} {N : List Str} {pos : Pos} {e : Expr} {de : DE}
/-- a tuple's parts stored, some into cells -/
theorem r_asgS {tg : Expr} {g : DG} {xs : List Str} {is : List Nat} (he : Snd G sc N e de) (hg : SndG G sc N xs is tg g) (hw : ∀ env : Env, env.scope = sc → swappedStores [tg] e env = pure none) (hs : ∀ env, swapsWithSole [tg] e pos.line env = pure false := by intro _; rfl)
    (h1 : ∀ env, (assignEach [tg] env).map (·.2) = [assign tg env] := by intro _; rfl) : SndS G sc N (.Assign [tg] e pos) (dAsg g de) := fun X W st tk =>
  ⟨fun pins s σ H D I q => (ps_asg (he X W st.toStat tk) (hg X st.toStat (st.gf xs)) (hs X.env) (hw X.env st.scope) (h1 X.env)).run pins s σ H D I (asg_read q)⟩
end
end Ev

/-! Ev27: tuple * int, for every int. -/
namespace Ev
open PySem PySem.Spec PyProof.Rows L2

theorem tup_times_one (l : Addr) (items : Array Value) (n : Nat) (dd : Option Addr) (sl : Array (Option Value)) (x : Int) (u : Tok) (c0 : (decide (x < -(2 ^ 63)) || decide (x ≥ 2 ^ 63)) = false) (c1 : (items.isEmpty || x == 1) = true) :
    Meets (Builtin.«tuple.__mul__» ⟨[.ref l, .int x u], []⟩) (fun _ R s => s.heap.get? l = some { cls := .type "tuple", dict := dd, data := .seq items n, slots := sl } ∧ R (.ok (.ret (.ref l))) s) :=
  .of_wp fun prog w A R s h => by
    obtain ⟨hp, g, d, tk, os⟩ := s
    obtain ⟨hl, h⟩ := h
    have f1 := AutoSeq1.idx_int
    wp_walk using wpAny_loadPart' hl
    repeat (first
      | (refine wpAny_ite_false (decide_eq_false (by rw [c0]; exact Bool.false_ne_true)) ?_; wp_walk using wpAny_loadPart' hl)
      | (refine wpAny_ite_true (decide_eq_true c1) ?_; wp_walk using wpAny_loadPart' hl))
    exact ⟨_, rfl, h⟩
theorem tup_times_none (l : Addr) (items : Array Value) (n : Nat) (dd : Option Addr) (sl : Array (Option Value)) (x : Int) (u : Tok) (c0 : (decide (x < -(2 ^ 63)) || decide (x ≥ 2 ^ 63)) = false) (c1 : (items.isEmpty || x == 1) = false) (c2 : (decide (x ≤ 0) || items.isEmpty) = true) :
    Meets (Builtin.«tuple.__mul__» ⟨[.ref l, .int x u], []⟩) (fun _ R s => s.heap.get? l = some { cls := .type "tuple", dict := dd, data := .seq items n, slots := sl } ∧ R (.ok (.ret (Value.ref s.heap.objs.size))) { s with heap := s.heap.push { cls := Value.type "tuple", data := Data.seq #[] } }) :=
  .of_wp fun prog w A R s h => by
    obtain ⟨hp, g, d, tk, os⟩ := s
    obtain ⟨hl, h⟩ := h
    have f1 := AutoSeq1.idx_int
    wp_walk using wpAny_loadPart' hl
    repeat (first
      | (refine wpAny_ite_false (decide_eq_false (by rw [c0]; exact Bool.false_ne_true)) ?_; wp_walk using wpAny_loadPart' hl)
      | (refine wpAny_ite_false (decide_eq_false (by rw [c1]; exact Bool.false_ne_true)) ?_; wp_walk using wpAny_loadPart' hl)
      | (refine wpAny_ite_true (decide_eq_true c2) ?_; wp_walk using wpAny_loadPart' hl))
    exact ⟨_, rfl, h⟩

def mulTD : D → D → Option D
  | .tuple ds, .int k => if -1000 ≤ k ∧ k ≤ 1000 ∧ ds.length ≤ 1000 then some (.tuple (List.replicate k.toNat ds).flatten) else none
  | _, _ => none
section
variable {G : Gl}
theorem flat_nil {α : Type} : ∀ n : Nat, (List.replicate n ([] : List α)).flatten = []
  | 0 => rfl
  | n + 1 => by rw [List.replicate_succ, List.flatten_cons, flat_nil n]; rfl
theorem op_mulTD : OpD G (binaryOp .Mult) mulTD := fun X hX pins s σ H x y v u Q I rx ry ⟨d, e, z, hd, he, hz, q⟩ => by
  unfold mulTD at hz
  split at hz
  · rename_i ds k
    split at hz
    · rename_i hc
      cases hz
      cases he
      cases hd with
      | @tup a xs _ sq fs =>
        have hlen := fs.length
        by_cases h2 : 2 ≤ k ∧ xs ≠ []
        · refine op_repT pins s σ H _ _ v u Q I rx ry ⟨a, k, xs, rfl, rfl, by rw [hX.K]; exact sq, h2.2, h2.1, hc.2.1, by omega, fun p hn => ?_⟩
          have sm := same_new (o := HO.tup (List.replicate k.toNat xs).flatten) hn
          exact q _ _ sm (.tup tup_new ((rep_fs fs _).mono (Pers.of sm)))
        · cases rx
          obtain ⟨t, rfl⟩ := ry
          obtain ⟨its, r, ⟨⟨cls, dd, data, sl⟩, ho, hcl, n, hda⟩, hs⟩ := I.tuple (by rw [hX.K]; exact sq)
          simp only at hcl hda
          subst hcl hda
          have hle : its.length = xs.length := r.length.symm
          have c0 : (decide (k < -(2 ^ 63)) || decide (k ≥ 2 ^ 63)) = false := by
            rw [decide_eq_false (by omega), decide_eq_false (by omega)] <;> rfl
          have run : ∀ {Q' : Value → Shared → Prop}, wpAny (model X.prog X.w) X.A (call (.builtin "tuple.__mul__") [.ref a, .int k t]) Q' X.xe s → wpAny (model X.prog X.w) X.A (binaryOp .Mult (.ref a) (.int k t)) Q' X.xe s := fun {Q'} z => by
            exact wpAny_binaryOp_repeat_ref (T := "tuple") (U := "int") (by decide) ⟨_, ho, rfl⟩ (fun s' => typeIs_int s' k t) noFill_tuple_mul F.fills_int_mul F.slot_int_rmul repeat_tuple F.slot_int_index.lookup
              (call_meets F.slot_int_rmul (typeIs_int s k t) F.entry_int_rmul (F.args_int_rmul_2 _ _) (int_rmul_tuple k t a its.toArray n dd sl) ⟨ho, rfl, ⟨_, ho, rfl⟩, z⟩)
          by_cases h1 : k = 1 ∨ xs = []
          · refine run (call_meets PySem.F.slot_tuple_mul ⟨_, ho, rfl⟩ PySem.F.entry_tuple_mul (PySem.F.args_tuple_mul_2 _ _) (tup_times_one a its.toArray n dd sl k t c0 ?_) ⟨ho, ?_⟩)
            · rcases h1 with h1 | h1
              · subst h1; simp
              · subst h1
                cases its with
                | nil => rfl
                | cons b c => simp at hle
            · have ed : (List.replicate k.toNat ds).flatten = ds := by
                rcases h1 with h1 | h1
                · subst h1; simp
                · subst h1
                  cases fs
                  exact flat_nil _
              rw [ed] at q
              exact ⟨.ref a, H, I, rfl, q H _ (Same.refl _) (.tup sq fs)⟩
          · have hx : xs ≠ [] := fun z => h1 (.inr z)
            have hk1 : k ≠ 1 := fun z => h1 (.inl z)
            have hk : k ≤ 0 := by
              by_cases h3 : 2 ≤ k
              · exact absurd ⟨h3, hx⟩ h2
              · omega
            have hi : its.toArray.isEmpty = false := by
              cases its with
              | nil => exact absurd (List.eq_nil_of_length_eq_zero hle.symm) hx
              | cons b c => rfl
            refine run (call_meets PySem.F.slot_tuple_mul ⟨_, ho, rfl⟩ PySem.F.entry_tuple_mul (PySem.F.args_tuple_mul_2 _ _) (tup_times_none a its.toArray n dd sl k t c0 ?_ ?_) ⟨ho, ?_⟩)
            · rw [hi, Bool.false_or]; exact beq_eq_false_iff_ne.mpr hk1
            · rw [decide_eq_true hk, Bool.true_or]
            · have ed : (List.replicate k.toNat ds).flatten = [] := by
                have e0 : k.toNat = 0 := by omega
                rw [e0]; rfl
              rw [ed] at q
              have hn := I.hok.fresh (Nat.le_refl s.heap.objs.size)
              refine ⟨.ref s.heap.objs.size, _, I.laid (t' := s.toks) (o := .tup []) (fun b ob q => Heap.get?_push_of_some _ q) (Nat.le_refl _) ?_, rfl, q _ _ (same_new hn) (.tup tup_new .nil)⟩
              exact ⟨Nat.zero_le _, [], .nil, IsTup.new _ _⟩
    · cases hz
  · cases hz
/-- *, of ints, of a list or a tuple by an int -/
def mulU : A → A → Store → Option A := fun a b S => match a, b with
  | .d (.tuple ds), .d (.int k) => (mulTD (.tuple ds) (.int k)).map .d
  | a, b => mulA a b S
theorem op_mulU : OpS G (binaryOp .Mult) mulU := fun X hX pins s σ H x y v u Q I rx ry ⟨μ, a, b, S, r, ss, ra, rb, e, q⟩ => by
  unfold mulU at e
  split at e
  · exact op_mulTD.s X hX pins s σ H x y v u Q I rx ry ⟨μ, _, _, S, r, ss, ra, rb, e, q⟩
  · exact op_mulA X hX pins s σ H x y v u Q I rx ry ⟨μ, a, b, S, r, ss, ra, rb, e, q⟩
end
@[simp] theorem ev_mulUI (i j : Int) (S : Store) : mulU (.d (.int i)) (.d (.int j)) S = (mulD (.int i) (.int j)).map .d := rfl
end Ev

/-! Ev28: list(text). -/
namespace Ev
open PySem PySem.Spec PyProof.Rows L2
variable {G : Gl}
def strLs (x : Str) : List D := x.cps.toList.map fun c => (.str ⟨#[c]⟩ : D)
def listE : D → Option D
  | .str x => if x.cps.size ≤ 4096 then some (.list (strLs x)) else none
  | d => listD d
theorem vals_signs {x : Str} {acc : Array Value} (h : ItemsOf (SignAt x) acc x.cps.size) : Vals (x.cps.toList.map fun c => V.str ⟨#[c]⟩) acc.toList := by
  refine vals_of_at (by rw [List.length_map, Array.length_toList, Array.length_toList, h.1]) fun j a u h1 h2 => ?_
  obtain ⟨c, t, e, rfl⟩ := h.2 j u (by rw [← Array.getElem?_toList]; exact h2)
  rw [List.getElem?_map, Array.getElem?_toList, e] at h1
  cases h1
  exact ⟨t, rfl⟩
theorem strs_signs {H : Hp} : ∀ l : List Nat, DpFs G.w G.K H (l.map fun c => V.str ⟨#[c]⟩) (l.map fun c => (.str ⟨#[c]⟩ : D))
  | [] => .nil
  | c :: l => .cons (.str _) (strs_signs l)
theorem call_list_raw {X : Cx} (hX : Here G X) : CallR X (.type "list") (fun xs H Q => ∃ x d z, xs = [x] ∧ DpF G.w G.K H x d ∧ listD d = some z ∧ ∀ H' v, Same H H' → DpF G.w G.K H' v z → Q v H') := ghost_call call_list_of fun pins s σ xs H Q ⟨x, d, z, e, hd, hz, q⟩ => by
  have go : ∀ {a : Addr} {vs : List V} {ds : List D}, x = .ref a → (SqL X.K H a vs ∨ SqT X.K H a vs) → DpFs G.w G.K H vs ds → z = .list ds → ∃ p ys, xs = [.ref p] ∧ (SqL X.K H p ys ∨ SqT X.K H p ys) ∧ ∀ l, H l = none → ∀ s', L2.Inv X pins σ (upd H l (.lst ys)) s' → ∃ H2, L2.Inv X pins σ H2 s' ∧ Q (.ref l) H2 := fun {a vs ds} e1 sq ra ez => by
    subst e1 ez
    refine ⟨a, vs, e, sq, fun l hn s' I' => ?_⟩
    obtain ⟨H2, I2, sm, fz⟩ := lock_new (K := G.K) I' hn
    exact ⟨H2, I2, q _ _ sm (.lst fz (ra.mono (Pers.of sm)))⟩
  cases hd with
  | lst ha ra => cases hz; exact go rfl (.inl (by rw [hX.K]; exact ha.sq)) ra rfl
  | tup ha ra => cases hz; exact go rfl (.inr (by rw [hX.K]; exact ha)) ra rfl
  | _ => simp [listD] at hz
theorem call_listE : CallS G (.type "list") (pf1 listE) := call1 fun X hX pins s σ H xs us Q I r h => by
  obtain ⟨x, d, z, e, hd, hz, q⟩ := h
  by_cases hstr : ∃ x, d = .str x
  · obtain ⟨x, rfl⟩ := hstr
    cases hd
    simp only [listE] at hz
    split at hz
    · rename_i hx
      cases hz
      subst e
      obtain ⟨u, rfl, t, rfl⟩ := vals1 r
      have hs : x.cps.size ≤ sizeLine := by rw [sizeLine_eq]; omega
      refine PySem.call_list_str (hn := hs) (I.ok.hd hX.calm) x t fun h' tk acc' c' kp e hi => ?_
      have I' : L2.Inv X pins σ (upd H s.heap.objs.size (.lst (x.cps.toList.map fun c => V.str ⟨#[c]⟩))) { s with heap := h', toks := tk } :=
        I.laid kp (Nat.le_refl _) (show ObjOk X.prog X.w _ h' _ (.lst (x.cps.toList.map fun c => V.str ⟨#[c]⟩)) from ⟨by rw [List.length_map, Array.length_toList]; exact hs, acc'.toList, c', vals_signs hi, by rw [Array.toArray_toList]; exact e⟩)
      obtain ⟨H2, I2, sm, fz⟩ := lock_new (K := G.K) I' (I.hok.fresh (Nat.le_refl _))
      exact ⟨.ref s.heap.objs.size, H2, I2, rfl, q H2 _ sm (.lst fz (strs_signs _))⟩
    · cases hz
  · have el : listE d = listD d := by cases d <;> first | rfl | exact absurd ⟨_, rfl⟩ hstr
    exact call_list_raw hX pins s σ H xs us Q I r ⟨x, d, z, e, hd, el ▸ hz, q⟩
end Ev

/-! Ev29: range with a step. -/
namespace Ev
open PySem PySem.Spec PyProof.Rows L2
theorem tR_three {α β γ δ : Type} {G : Gl} {W : WX} {σ : L2.St} {H : Hp} {rel : List Addr → Hp → α → β → Prop} {rel1 : List Addr → Hp → γ → δ → Prop} {da db dc : DR γ} {f : γ → γ → γ → Store → Res α} {Q : β → Hp → Prop}
    (rg : ∀ {μ μ' : List Addr} {H H' : Hp} {a v}, Grow μ μ' H H' → rel1 μ H a v → rel1 μ' H' a v)
    (h : tR G W rel (fun l S => (da l S).bind fun x S1 => (db l S1).bind fun y S2 => (dc l S2).bind fun z S3 => f x y z S3) σ H Q) :
    tR G W rel1 da σ H fun x H1 => tR G W rel1 db σ H1 fun y H2 => tR G W rel1 dc σ H2 fun z H3 => ∃ μ3 a b c S3, SimS G μ3 S3 H3 ∧ rel1 μ3 H3 a x ∧ rel1 μ3 H3 b y ∧ rel1 μ3 H3 c z ∧ Aft G (fun c dd H' => W c dd σ H') rel μ3 H3 (f a b c S3) Q := by
  obtain ⟨μ, l, S, s, sl, h⟩ := h
  refine ⟨μ, l, S, s, sl, ?_⟩
  refine Aft.imp (Aft.bind (rel' := rel1) h) fun v H1 _ ⟨a, μ1, S1, g1, s1, r1, h1⟩ => ?_
  refine ⟨μ1, l, S1, s1, sl.grow g1, ?_⟩
  refine Aft.imp (Aft.bind (rel' := rel1) h1) fun u H2 _ ⟨b, μ2, S2, g2, s2, r2, h2⟩ => ?_
  refine ⟨μ2, l, S2, s2, (sl.grow g1).grow g2, ?_⟩
  exact Aft.imp (Aft.bind (rel' := rel1) h2) fun w H3 _ ⟨c, μ3, S3, g3, s3, r3, h3⟩ => ⟨μ3, a, b, c, S3, s3, rg g3 (rg g2 r1), rg g3 r2, r3, h3⟩
def rgC (a b c : D) : Option (List D) := match a, b, c with
  | .int i, .int j, .int k => if k ≠ 0 ∧ k.natAbs < 1073741824 ∧ Builtin.Range.small i j k = true ∧ 0 ≤ Builtin.Range.rangeSize i j k then some ((List.range (Builtin.Range.rangeSize i j k).toNat).map fun n : Nat => .int (i + (n : Int) * k)) else none
  | _, _, _ => none
def dRg3 (d d2 d3 : DE) : DR (List D) := fun l S => (d l S).bind fun x S1 => (d2 l S1).bind fun y S2 => (d3 l S2).bind fun z S3 => match x, y, z with
  | .d a, .d b, .d c => match rgC a b c with
    | some ds => .ok ds S3
    | none => .no
  | _, _, _ => .no
section
variable {G : Gl} {sc : Scope} {N : List Str} {pos p : Pos} {tg e e2 e3 : Expr} {da db dc : DE}
theorem yl_rngC {H1 : Hp} {i k : Int} {n : Nat} : Yields G H1 ((List.range n).map fun m : Nat => PyData.int (i + (m : Int) * k)) (Itc i k n) := fun H' p I => by
  refine ⟨fun d hd => ?_, fun h => ?_⟩
  · rw [List.getElem?_map, Option.map_eq_some_iff] at hd
    obtain ⟨m, hm, rfl⟩ := hd
    obtain ⟨h1, h2⟩ := List.getElem?_eq_some_iff.mp hm
    rw [List.length_range] at h1
    rw [List.getElem_range] at h2
    subst h2
    refine ⟨h1, fun x H'' ⟨eH, ex⟩ => ?_⟩
    subst eH ex
    exact ⟨Same.refl _, .int _⟩
  · rw [List.length_map, List.length_range] at h
    exact h
theorem r_rg3 (hg : glB sc "range" = true) (hm : G.mg "range" = none) (ha : Snd G sc N e da) (hb : Snd G sc N e2 db) (hc : Snd G sc N e3 dc)
    (h1 : ∀ env, starEach [e, e2, e3] env = (false, eval e env) :: starEach [e2, e3] env := by intro _; rfl) (h2 : ∀ env, starEach [e2, e3] env = (false, eval e2 env) :: starEach [e3] env := by intro _; rfl) (h3 : ∀ env, starEach [e3] env = (false, eval e3 env) :: starEach [] env := by intro _; rfl)
    (hpl : ∀ env, (backTo pos (starEach [e2, e3] env)).any (·.1) = false := by intro _; rfl) : SndI G sc N tg (.Call (.Name "range" p) [e, e2, e3] [] pos) (dRg3 da db dc) := fun X W st tk => by
  obtain ⟨g1, g2, g3⟩ := gl_of hg
  refine ⟨fun pins s σ H R I q => (pi_range3 (show X.env.scope.names.lookup _ = _ by rw [st.scope]; exact g1) (by rw [st.mg]; exact hm) (pa_cons (ha X W st tk) (pa_cons (hb X W st tk) (pa_cons (hc X W st tk) pa_nil (h3 X.env)) (h2 X.env)) (h1 X.env)) (h1 X.env) (hpl X.env)).run pins s σ H R I (tR.imp (tR_three (rel1 := RelA G) (fun g r => r.grow g) q) fun v H1 q1 => tR.imp q1 fun u H2 q2 => tR.imp q2 fun w H3 ⟨μ, a, b, c, S, ss, ra, rb, rc, h⟩ => ?_)⟩
  split at h
  · split at h
    · rename_i ds e1
      unfold rgC at e1
      split at e1
      · split at e1
        · rename_i i j k hk
          cases e1
          cases ra
          cases rb
          cases rc
          exact ⟨i, j, k, (Builtin.Range.rangeSize i j k).toNat, rfl, ⟨hk.1, hk.2.1, hk.2.2.1, by have := hk.2.2.2; omega⟩, h μ H3 _ Grow.refl ss yl_rngC⟩
        · cases e1
      · cases e1
    · exact h.elim
  · exact h.elim
end
end Ev

/-! Lw: what all laws say: draws, picks, sameness. -/
namespace Lw
open PySem PySem.Spec L2 Ev
theorem mulOk_r {i j : Int} (h : -(2 ^ 64) < j ∧ j < 2 ^ 64) : mulIntOk i j = true := by
  unfold mulIntOk
  simp only [Bool.or_eq_true, Bool.and_eq_true, decide_eq_true_eq]
  exact .inr h
theorem mulOk_l {i j : Int} (h : -(2 ^ 64) < i ∧ i < 2 ^ 64) : mulIntOk i j = true := by
  unfold mulIntOk
  simp only [Bool.or_eq_true, Bool.and_eq_true, decide_eq_true_eq]
  exact .inl h
theorem mul_r (i : Int) {j : Int} (h : -(2 ^ 64) < j ∧ j < 2 ^ 64) : mulD (.int i) (.int j) = some (.int (i * j)) := ev_mulI (mulOk_r h)
theorem mul_l {i : Int} (j : Int) (h : -(2 ^ 64) < i ∧ i < 2 ^ 64) : mulD (.int i) (.int j) = some (.int (i * j)) := ev_mulI (mulOk_l h)
/-- numbers as data -/
def nI (ns : List Nat) : List PyData := ns.map fun n : Nat => PyData.int n
theorem len_nI (ns : List Nat) : (nI ns).length = ns.length := by simp [nI]
theorem rg_nI (m : Nat) : (rgL 0 (m : Int)).map PyData.int = nI (List.range m) := by
  unfold rgL nI
  rw [List.map_map]
  have e : ((m : Int) - 0).toNat = m := by omega
  rw [e]
  refine List.map_congr_left fun i _ => ?_
  show PyData.int (0 + (i : Int)) = _
  rw [Int.zero_add]
theorem rg_ok {c : Nat} (h : c ≤ 1000000) : rgI (.int 0) (.int (c : Int)) = some (nI (List.range c)) := by
  rw [← rg_nI]
  exact ev_rgI (by simp [rgOk]; omega)
/-! ### isinstance -/
@[simp] theorem is_bool_n : isI "bool" .none = some (.bool false) := by first | rfl | kernel_rfl
@[simp] theorem is_bool_b (b : Bool) : isI "bool" (.bool b) = some (.bool true) := by first | rfl | kernel_rfl
@[simp] theorem is_bool_i (i : Int) : isI "bool" (.int i) = some (.bool false) := by first | rfl | kernel_rfl
@[simp] theorem is_bool_s (z : Str) : isI "bool" (.str z) = some (.bool false) := by first | rfl | kernel_rfl
@[simp] theorem is_bool_l (ds : List PyData) : isI "bool" (.list ds) = some (.bool false) := by first | rfl | kernel_rfl
@[simp] theorem is_bool_t (ds : List PyData) : isI "bool" (.tuple ds) = some (.bool false) := by first | rfl | kernel_rfl
@[simp] theorem is_int_n : isI "int" .none = some (.bool false) := by first | rfl | kernel_rfl
@[simp] theorem is_int_b (b : Bool) : isI "int" (.bool b) = some (.bool true) := by first | rfl | kernel_rfl
@[simp] theorem is_int_i (i : Int) : isI "int" (.int i) = some (.bool true) := by first | rfl | kernel_rfl
@[simp] theorem is_int_s (z : Str) : isI "int" (.str z) = some (.bool false) := by first | rfl | kernel_rfl
@[simp] theorem is_int_l (ds : List PyData) : isI "int" (.list ds) = some (.bool false) := by first | rfl | kernel_rfl
@[simp] theorem is_int_t (ds : List PyData) : isI "int" (.tuple ds) = some (.bool false) := by first | rfl | kernel_rfl
@[simp] theorem is_str_n : isI "str" .none = some (.bool false) := by first | rfl | kernel_rfl
@[simp] theorem is_str_b (b : Bool) : isI "str" (.bool b) = some (.bool false) := by first | rfl | kernel_rfl
@[simp] theorem is_str_i (i : Int) : isI "str" (.int i) = some (.bool false) := by first | rfl | kernel_rfl
@[simp] theorem is_str_s (z : Str) : isI "str" (.str z) = some (.bool true) := by first | rfl | kernel_rfl
@[simp] theorem is_str_l (ds : List PyData) : isI "str" (.list ds) = some (.bool false) := by first | rfl | kernel_rfl
@[simp] theorem is_str_t (ds : List PyData) : isI "str" (.tuple ds) = some (.bool false) := by first | rfl | kernel_rfl
@[simp] theorem is_list_n : isI "list" .none = some (.bool false) := by first | rfl | kernel_rfl
@[simp] theorem is_list_b (b : Bool) : isI "list" (.bool b) = some (.bool false) := by first | rfl | kernel_rfl
@[simp] theorem is_list_i (i : Int) : isI "list" (.int i) = some (.bool false) := by first | rfl | kernel_rfl
@[simp] theorem is_list_s (z : Str) : isI "list" (.str z) = some (.bool false) := by first | rfl | kernel_rfl
@[simp] theorem is_list_l (ds : List PyData) : isI "list" (.list ds) = some (.bool true) := by first | rfl | kernel_rfl
@[simp] theorem is_list_t (ds : List PyData) : isI "list" (.tuple ds) = some (.bool false) := by first | rfl | kernel_rfl
@[simp] theorem is_tuple_n : isI "tuple" .none = some (.bool false) := by first | rfl | kernel_rfl
@[simp] theorem is_tuple_b (b : Bool) : isI "tuple" (.bool b) = some (.bool false) := by first | rfl | kernel_rfl
@[simp] theorem is_tuple_i (i : Int) : isI "tuple" (.int i) = some (.bool false) := by first | rfl | kernel_rfl
@[simp] theorem is_tuple_s (z : Str) : isI "tuple" (.str z) = some (.bool false) := by first | rfl | kernel_rfl
@[simp] theorem is_tuple_l (ds : List PyData) : isI "tuple" (.list ds) = some (.bool false) := by first | rfl | kernel_rfl
@[simp] theorem is_tuple_t (ds : List PyData) : isI "tuple" (.tuple ds) = some (.bool true) := by first | rfl | kernel_rfl
/-! ### _law_number -/
def bNumber : DS :=
  (dSeq (dAsg (gN 2) (dOp2 (pu2 addD) (dOp2 mulU (dCallB (pf1 sumD) (dCons (dName 0) dNil)) (dVal (.int 31))) (dOp2 mulU (dVal (.int 1000003)) (dOp2 (pu2 addD) (dName 1) (dVal (.int 1))))))
    (dSeq (dIte (toB (dOp2 (pu2 (boolD ltD)) (dName 1) (dCallB lenA (dCons (dName 0) dNil)))) (dAsg (gN 2) (dOp2 ixU (dName 0) (dName 1))) dSkip)
    (dRet (dCallB (pf1 absD) (dCons (dName 2) dNil)))))
theorem number (S : Store) (ns : List Int) (a : Nat) : ∃ z : Int, 0 ≤ z ∧ defR (bNumber (enter 3 [.d (.list (ns.map .int)), .d (.int a)]) S) = .ok (.d (.int z)) S := by
  have hs : sumD (.list (ns.map PyData.int)) = some (.int ns.sum) := by
    show (intsOf (ns.map PyData.int)).map _ = _
    rw [intsOf_map]; rfl
  have m1 : mulD (.int ns.sum) (.int 31) = some (.int (ns.sum * 31)) := mul_r _ (by decide)
  have m2 : mulD (.int 1000003) (.int ((a : Int) + 1)) = some (.int (1000003 * ((a : Int) + 1))) := mul_l _ (by decide)
  have ab : ∀ z : Int, ∃ y : Int, 0 ≤ y ∧ absD (.int z) = some (.int y) := fun z => ⟨if z < 0 then -z else z, by split <;> omega, rfl⟩
  unfold bNumber
  by_cases hl : a < ns.length
  · have hx : atI (ns.map PyData.int) (a : Int) = some (.int ns[a]) := by
      rw [atI_n (by simpa using hl), List.getElem?_map, List.getElem?_eq_getElem hl]; rfl
    obtain ⟨y, h0, hy⟩ := ab ns[a]
    have hd : ((a : Int) < (ns.length : Int)) := by omega
    exact ⟨y, h0, by simp -implicitDefEqProofs [-Int.natCast_ediv, -Int.natCast_add, -Int.natCast_emod, -Int.natCast_mul, hs, m1, m2, hd, hx, hy]⟩
  · have hd : ¬ ((a : Int) < (ns.length : Int)) := by omega
    obtain ⟨y, h0, hy⟩ := ab (ns.sum * 31 + 1000003 * ((a : Int) + 1))
    exact ⟨y, h0, by simp -implicitDefEqProofs [-Int.natCast_ediv, -Int.natCast_add, -Int.natCast_emod, -Int.natCast_mul, hs, m1, m2, hd, hy]⟩
/-! ### _law_draws -/
def cellI (zs : List Int) : Cell := .lst (zs.map fun z => .d (.int z))
theorem app_cell {S : Store} {zs : List Int} {l : Ev.Loc} {d e : DE} {z : Int} (hz : zs.length < 1000) (hd : d l (S ++ [cellI zs]) = .ok (.loc S.length) (S ++ [cellI zs])) (he : e l (S ++ [cellI zs]) = .ok (.d (.int z)) (S ++ [cellI zs])) : dAppend d e l (S ++ [cellI zs]) = .ok (.d .none) (S ++ [cellI (zs ++ [z])]) := by
  have g : (S ++ [cellI zs])[S.length]? = some (cellI zs) := by simp
  have lo : lstOf (.loc S.length) (S ++ [cellI zs]) = some (S.length, zs.map fun z => A.d (.int z)) := by
    show (match (S ++ [cellI zs])[S.length]? with | some (.lst xs) => some (S.length, xs) | _ => none) = _
    rw [g]; rfl
  unfold dAppend
  rw [hd, Res.ok_bind, lo]
  show (e l (S ++ [cellI zs])).bind _ = _
  rw [he, Res.ok_bind, lo]
  show (if (zs.map fun z => A.d (.int z)).length < 16777216 then _ else _) = _
  rw [if_pos (by rw [List.length_map]; omega), List.set_append_right _ _ (Nat.le_refl _), Nat.sub_self]
  unfold cellI
  simp
def InR (m : Int) (zs : List Int) : Prop := ∀ z ∈ zs, 0 ≤ z ∧ z < m
theorem InR.snoc {m z : Int} {zs : List Int} (h : InR m zs) (h0 : 0 ≤ z) (h1 : z < m) : InR m (zs ++ [z]) := fun y hy => by
  rcases List.mem_append.mp hy with hy | hy
  · exact h y hy
  · simp at hy; subst hy; exact ⟨h0, h1⟩
/-- the two loops -/
theorem dr_loop1 {S : Store} {m : Int} (hm : 0 < m) (hm2 : m < 1073741824) {x0 x1 x2 x7 x8 : Option A} : ∀ (ds : List PyData) (zs : List Int) (n : Int) (x6 : Option A), InR m zs → zs.length + ds.length < 1000 →
    ∃ zs' n' y6, loopF (gN 6) (dSeq (dExpr (dAppend (dName 5) (dOp2 (pu2 modD) (dName 4) (dName 3)))) (dAsg (gN 4) (dOp2 (pu2 divD) (dName 4) (dName 3)))) ds [x0, x1, x2, some (.d (.int m)), some (.d (.int n)), some (.loc S.length), x6, x7, x8] (S ++ [cellI zs]) =
      .nx [x0, x1, x2, some (.d (.int m)), some (.d (.int n')), some (.loc S.length), y6, x7, x8] (S ++ [cellI zs']) ∧ InR m zs' ∧ zs'.length = zs.length + ds.length
  | [], zs, n, x6, h, _ => ⟨zs, n, x6, rfl, h, rfl⟩
  | d :: ds, zs, n, x6, h, hl => by
    rw [List.length_cons] at hl
    have m0 := Int.emod_nonneg n (show m ≠ 0 by omega)
    have m1 := Int.emod_lt_of_pos n hm
    obtain ⟨zs', n', y6, e, h', hl'⟩ := dr_loop1 hm hm2 (x0 := x0) (x1 := x1) (x2 := x2) (x7 := x7) (x8 := x8) ds (zs ++ [n % m]) (n / m) (some (.d d)) (h.snoc m0 m1) (by simp; omega)
    refine ⟨zs', n', y6, ?_, h', by rw [hl', List.length_append, List.length_cons]; simp; omega⟩
    unfold loopF
    have eg : gN 6 (.d d) [x0, x1, x2, some (.d (.int m)), some (.d (.int n)), some (.loc S.length), x6, x7, x8] = some [x0, x1, x2, some (.d (.int m)), some (.d (.int n)), some (.loc S.length), some (.d d), x7, x8] := rfl
    rw [eg]
    have ap := app_cell (S := S) (zs := zs) (l := [x0, x1, x2, some (A.d (.int m)), some (A.d (.int n)), some (A.loc S.length), some (A.d d), x7, x8]) (d := dName 5) (e := dOp2 (pu2 modD) (dName 4) (dName 3)) (z := n % m) (by omega) (by simp -implicitDefEqProofs [-Int.natCast_ediv, -Int.natCast_add, -Int.natCast_emod, -Int.natCast_mul]) (by simp -implicitDefEqProofs [-Int.natCast_ediv, -Int.natCast_add, -Int.natCast_emod, -Int.natCast_mul, ev_modI hm])
    have eb : dSeq (dExpr (dAppend (dName 5) (dOp2 (pu2 modD) (dName 4) (dName 3)))) (dAsg (gN 4) (dOp2 (pu2 divD) (dName 4) (dName 3))) [x0, x1, x2, some (.d (.int m)), some (.d (.int n)), some (.loc S.length), some (.d d), x7, x8] (S ++ [cellI zs]) = .nx [x0, x1, x2, some (.d (.int m)), some (.d (.int (n / m))), some (.loc S.length), some (.d d), x7, x8] (S ++ [cellI (zs ++ [n % m])]) := by
      simp -implicitDefEqProofs [-Int.natCast_ediv, -Int.natCast_add, -Int.natCast_emod, -Int.natCast_mul, ap, ev_divI hm hm2]
    simp only [eb]
    exact e
theorem dr_loop2 {S : Store} {m : Int} (hm : 0 < m) {x0 x1 x2 x4 : Option A} : ∀ (is : List Nat) (zs : List Int) (st : Int) (x6 x8 : Option A), InR m zs → zs.length + is.length < 1000 → 0 ≤ st → st < 4294967296 → (∀ i ∈ is, i < 1000) →
    ∃ zs' st' y6 y8, loopF (gN 6) (dSeq (dAsg (gN 7) (dOp2 (pu2 modD) (dOp2 (pu2 addD) (dOp2 (pu2 addD) (dOp2 mulU (dName 7) (dVal (.int 48271))) (dOp2 mulU (dVal (.int 11)) (dName 6))) (dVal (.int 7))) (dVal (.int 2147483647))))
    (dSeq (dAsg (gN 8) (dOp2 (pu2 modD) (dOp2 (pu2 addD) (dOp2 (pu2 addD) (dOp2 mulU (dName 7) (dName 7)) (dOp2 mulU (dVal (.int 69621)) (dName 6))) (dVal (.int 5))) (dVal (.int 2147483629))))
    (dExpr (dAppend (dName 5) (dOp2 (pu2 modD) (dOp2 (pu2 divD) (dName 8) (dVal (.int 64))) (dName 3)))))) (nI is) [x0, x1, x2, some (.d (.int m)), x4, some (.loc S.length), x6, some (.d (.int st)), x8] (S ++ [cellI zs]) =
      .nx [x0, x1, x2, some (.d (.int m)), x4, some (.loc S.length), y6, some (.d (.int st')), y8] (S ++ [cellI zs']) ∧ InR m zs' ∧ zs'.length = zs.length + is.length
  | [], zs, st, x6, x8, h, _, _, _, _ => ⟨zs, st, x6, x8, rfl, h, rfl⟩
  | i :: is, zs, st, x6, x8, h, hl, s0, s1, hi => by
    rw [List.length_cons] at hl
    have i1 := hi i (by simp)
    obtain ⟨st2, es⟩ : ∃ st2, st2 = (st * 48271 + 11 * (i : Int) + 7) % 2147483647 := ⟨_, rfl⟩
    have t0 : 0 ≤ st2 := by rw [es]; exact Int.emod_nonneg _ (by decide)
    have t1 : st2 < 2147483647 := by rw [es]; exact Int.emod_lt_of_pos _ (by decide)
    obtain ⟨an, ea⟩ : ∃ an, an = (st2 * st2 + 69621 * (i : Int) + 5) % 2147483629 := ⟨_, rfl⟩
    have m0 := Int.emod_nonneg (an / 64) (show m ≠ 0 by omega)
    have m1 := Int.emod_lt_of_pos (an / 64) hm
    obtain ⟨zs', st', y6, y8, e, h', hl'⟩ := dr_loop2 hm (x0 := x0) (x1 := x1) (x2 := x2) (x4 := x4) is (zs ++ [an / 64 % m]) st2 (some (.d (.int i))) (some (.d (.int an))) (h.snoc m0 m1) (by simp; omega) t0 (by omega) (fun j hj => hi j (List.mem_cons_of_mem _ hj))
    refine ⟨zs', st', y6, y8, ?_, h', by rw [hl', List.length_append, List.length_cons]; simp; omega⟩
    show loopF _ _ (.int i :: nI is) _ _ = _
    unfold loopF
    have eg : gN 6 (.d (.int i)) [x0, x1, x2, some (.d (.int m)), x4, some (.loc S.length), x6, some (.d (.int st)), x8] = some [x0, x1, x2, some (.d (.int m)), x4, some (.loc S.length), some (.d (.int i)), some (.d (.int st)), x8] := rfl
    rw [eg]
    have k1 : mulD (.int st) (.int 48271) = some (.int (st * 48271)) := mul_r _ (by decide)
    have k2 : mulD (.int 11) (.int (i : Int)) = some (.int (11 * (i : Int))) := mul_l _ (by decide)
    have k3 : mulD (.int st2) (.int st2) = some (.int (st2 * st2)) := mul_r _ (by omega)
    have k4 : mulD (.int 69621) (.int (i : Int)) = some (.int (69621 * (i : Int))) := mul_l _ (by decide)
    have k5 : modD (.int (st * 48271 + 11 * (i : Int) + 7)) (.int 2147483647) = some (.int st2) := by rw [es]; exact ev_modI (by decide)
    have k6 : modD (.int (st2 * st2 + 69621 * (i : Int) + 5)) (.int 2147483629) = some (.int an) := by rw [ea]; exact ev_modI (by decide)
    have k7 : divD (.int an) (.int 64) = some (.int (an / 64)) := ev_divI (by decide) (by decide)
    have ap := app_cell (S := S) (zs := zs) (l := [x0, x1, x2, some (A.d (.int m)), x4, some (A.loc S.length), some (A.d (.int i)), some (A.d (.int st2)), some (A.d (.int an))]) (d := dName 5) (e := dOp2 (pu2 modD) (dOp2 (pu2 divD) (dName 8) (dVal (.int 64))) (dName 3)) (z := an / 64 % m) (by omega) (by simp -implicitDefEqProofs [-Int.natCast_ediv, -Int.natCast_add, -Int.natCast_emod, -Int.natCast_mul]) (by simp -implicitDefEqProofs [-Int.natCast_ediv, -Int.natCast_add, -Int.natCast_emod, -Int.natCast_mul, k7, ev_modI hm])
    have eb : dSeq (dAsg (gN 7) (dOp2 (pu2 modD) (dOp2 (pu2 addD) (dOp2 (pu2 addD) (dOp2 mulU (dName 7) (dVal (.int 48271))) (dOp2 mulU (dVal (.int 11)) (dName 6))) (dVal (.int 7))) (dVal (.int 2147483647))))
        (dSeq (dAsg (gN 8) (dOp2 (pu2 modD) (dOp2 (pu2 addD) (dOp2 (pu2 addD) (dOp2 mulU (dName 7) (dName 7)) (dOp2 mulU (dVal (.int 69621)) (dName 6))) (dVal (.int 5))) (dVal (.int 2147483629))))
        (dExpr (dAppend (dName 5) (dOp2 (pu2 modD) (dOp2 (pu2 divD) (dName 8) (dVal (.int 64))) (dName 3))))) [x0, x1, x2, some (.d (.int m)), x4, some (.loc S.length), some (.d (.int i)), some (.d (.int st)), x8] (S ++ [cellI zs]) = .nx [x0, x1, x2, some (.d (.int m)), x4, some (.loc S.length), some (.d (.int i)), some (.d (.int st2)), some (.d (.int an))] (S ++ [cellI (zs ++ [an / 64 % m])]) := by
      simp -implicitDefEqProofs [-Int.natCast_ediv, -Int.natCast_add, -Int.natCast_emod, -Int.natCast_mul, k1, k2, k3, k4, k5, k6, ap]
    simp only [eb]
    exact e
def bDraws (F : Fns) (j : Nat) : DS :=
  (dSeq (dAsg (gN 4) (dCall F j (dCons (dName 0) (dCons (dName 1) dNil))))
    (dSeq (dAsg (gN 5) (dLstM dNil))
    (dSeq (dIte (toB (dOp2 (pu2 (boolD geD)) (dName 4) (dOp2 (pu2 powD) (dVal (.int 10)) (dVal (.int 18))))) (dSeq (dAsg (gN 4) (dOp2 (pu2 subD) (dName 4) (dOp2 (pu2 powD) (dVal (.int 10)) (dVal (.int 18)))))
    (dSeq (dFor (dRg1 (dName 2)) (gN 6) (dSeq (dExpr (dAppend (dName 5) (dOp2 (pu2 modD) (dName 4) (dName 3))))
    (dAsg (gN 4) (dOp2 (pu2 divD) (dName 4) (dName 3)))))
    (dRet (dName 5)))) dSkip)
    (dSeq (dAsg (gN 7) (dOp2 (pu2 addD) (dOp2 (pu2 modD) (dName 4) (dVal (.int 2147483647))) (dVal (.int 1))))
    (dSeq (dFor (dRg1 (dName 2)) (gN 6) (dSeq (dAsg (gN 7) (dOp2 (pu2 modD) (dOp2 (pu2 addD) (dOp2 (pu2 addD) (dOp2 mulU (dName 7) (dVal (.int 48271))) (dOp2 mulU (dVal (.int 11)) (dName 6))) (dVal (.int 7))) (dVal (.int 2147483647))))
    (dSeq (dAsg (gN 8) (dOp2 (pu2 modD) (dOp2 (pu2 addD) (dOp2 (pu2 addD) (dOp2 mulU (dName 7) (dName 7)) (dOp2 mulU (dVal (.int 69621)) (dName 6))) (dVal (.int 5))) (dVal (.int 2147483629))))
    (dExpr (dAppend (dName 5) (dOp2 (pu2 modD) (dOp2 (pu2 divD) (dName 8) (dVal (.int 64))) (dName 3)))))))
    (dRet (dName 5)))))))
/-- a def that tells a number that is not negative -/
def NumOk (F : Fns) (j : Nat) (ns : List Int) : Prop := ∀ (S : Store) (a : Nat), ∃ z : Int, 0 ≤ z ∧ F j [.d (.list (ns.map .int)), .d (.int a)] S = .ok (.d (.int z)) S
theorem draws {F : Fns} {j : Nat} {ns : List Int} (hn_ : NumOk F j ns) (S : Store) (a c m : Nat) (hc : c < 900) (hm : 0 < m) (hm2 : m < 1073741824) : ∃ zs : List Int, defR (bDraws F j (enter 9 [.d (.list (ns.map .int)), .d (.int a), .d (.int c), .d (.int m)]) S) = .ok (.loc S.length) (S ++ [cellI zs]) ∧ InR m zs ∧ zs.length = c := by
  obtain ⟨n, n0, en⟩ := hn_ S a
  have hr : rgI (.int 0) (.int (c : Int)) = some (nI (List.range c)) := rg_ok (by omega)
  have pw : powD (.int 10) (.int 18) = some (.int 1000000000000000000) := by
    show (if 0 ≤ (18 : Int) ∧ (18 : Int) ≤ 1000000 ∧ (10 : Int).natAbs < 2 ^ 64 then some (PyData.int (10 ^ (18 : Int).toNat)) else none) = _
    rw [if_pos (by decide)]
    rfl
  have e0 : (Cell.lst []) = cellI [] := rfl
  have r0 : InR (m : Int) [] := fun z hz => nomatch hz
  unfold bDraws
  by_cases hn : 1000000000000000000 ≤ n
  · obtain ⟨zs, n', y6, e, h1, h2⟩ := dr_loop1 (S := S) (m := m) (by omega) (by omega) (x0 := some (A.d (.list (ns.map .int)))) (x1 := some (A.d (.int a))) (x2 := some (A.d (.int c))) (x7 := none) (x8 := none) (nI (List.range c)) [] (n - 1000000000000000000) none r0 (by rw [len_nI, List.length_range]; simp; omega)
    refine ⟨zs, ?_, h1, by rw [h2, len_nI, List.length_range]; simp⟩
    rw [← e0] at e
    simp -implicitDefEqProofs [-Int.natCast_ediv, -Int.natCast_add, -Int.natCast_emod, -Int.natCast_mul, en, pw, hn, hr, e]
  · obtain ⟨zs, n', y6, y8, e, h1, h2⟩ := dr_loop2 (S := S) (m := m) (by omega) (x0 := some (A.d (.list (ns.map .int)))) (x1 := some (A.d (.int a))) (x2 := some (A.d (.int c))) (x4 := some (A.d (.int n))) (List.range c) [] (n % 2147483647 + 1) none none r0 (by rw [List.length_range]; simp; omega) (by have := Int.emod_nonneg n (show (2147483647 : Int) ≠ 0 by decide); omega) (by have := Int.emod_lt_of_pos n (show (0 : Int) < 2147483647 by decide); omega) (fun i hi => by have := List.mem_range.mp hi; omega)
    refine ⟨zs, ?_, h1, by rw [h2, List.length_range]; simp⟩
    rw [← e0] at e
    simp -implicitDefEqProofs [-Int.natCast_ediv, -Int.natCast_add, -Int.natCast_emod, -Int.natCast_mul, en, pw, hn, hr, e, ev_modI (show (0 : Int) < 2147483647 by decide)]
/-! ### _law_pick, _law_picks -/
def bPick : DS :=
  (dSeq (dIte (toB (dOp2 (pu2 (boolD eqD)) (dCallB lenA (dCons (dName 0) dNil)) (dVal (.int 0)))) (dRet (dVal (.int 0))) dSkip)
    (dRet (dPop (dName 0))))
theorem pick {S : Store} {p : Nat} {zs : List Int} (h : S[p]? = some (cellI zs)) : defR (bPick (enter 1 [.loc p]) S) = .ok (.d (.int (zs.getLastD 0))) (S.set p (cellI zs.dropLast)) := by
  have hl : lenA [.loc p] S = some (.d (.int zs.length)) := by
    unfold lenA
    simp only [h, cellI, List.length_map]
  have lo : lstOf (.loc p) S = some (p, zs.map fun z => A.d (.int z)) := by
    show (match S[p]? with | some (.lst xs) => some (p, xs) | _ => none) = _
    rw [h]; rfl
  unfold bPick
  cases zs with
  | nil =>
    have es : S.set p (cellI []) = S := by
      refine List.ext_getElem? fun i => ?_
      by_cases hi : p = i
      · subst hi
        rw [List.getElem?_set_self (List.getElem?_eq_some_iff.mp h).1, h]
      · rw [List.getElem?_set_ne hi]
    simp -implicitDefEqProofs [-Int.natCast_ediv, -Int.natCast_add, -Int.natCast_emod, -Int.natCast_mul, hl, es]
  | cons z zs =>
    have hn : ¬ ((zs.length : Int) + 1 = 0) := by omega
    have pp : dPop (dName 0) [some (A.loc p)] S = .ok (.d (.int ((z :: zs).getLastD 0))) (S.set p (cellI (z :: zs).dropLast)) := by
      unfold dPop
      rw [ev_name]
      show (match lstOf (.loc p) S with | some (n, xs) => _ | none => _) = _
      rw [lo]
      have hx : ((z :: zs).map fun z => A.d (.int z))[((z :: zs).map fun z => A.d (.int z)).length - 1]? = some (.d (.int ((z :: zs).getLastD 0))) := by
        rw [List.getElem?_map, List.length_map, ← List.getLast?_eq_getElem?]
        cases e : (z :: zs).getLast? with
        | none => simp at e
        | some y =>
          have e2 : (z :: zs).getLastD 0 = y := by rw [List.getLastD_eq_getLast?, e]; rfl
          rw [e2]; rfl
      simp only [hx]
      have hd : ((z :: zs).map fun z => A.d (.int z)).dropLast = (z :: zs).dropLast.map fun z => A.d (.int z) := by
        rw [List.map_dropLast]
      rw [hd]
      rfl
    simp -implicitDefEqProofs [-Int.natCast_ediv, -Int.natCast_add, -Int.natCast_emod, -Int.natCast_mul, hl, hn, pp]
def bPicks (F : Fns) (j : Nat) : DS :=
  (dSeq (dAsg (gN 3) (dCall F j (dCons (dName 0) (dCons (dName 1) (dCons (dName 2) (dCons (dVal (.int 5040)) dNil))))))
    (dSeq (dExpr (dReverse (dName 3)))
    (dRet (dName 3))))
def DrOk (F : Fns) (j : Nat) (ns : List Int) : Prop := ∀ (S : Store) (a c m : Nat), c < 900 → 0 < m → m < 1073741824 → ∃ zs : List Int, F j [.d (.list (ns.map .int)), .d (.int a), .d (.int c), .d (.int m)] S = .ok (.loc S.length) (S ++ [cellI zs]) ∧ InR m zs ∧ zs.length = c
theorem picks {F : Fns} {j : Nat} {ns : List Int} (h : DrOk F j ns) (S : Store) (a c : Nat) (hc : c < 900) : ∃ zs : List Int, defR (bPicks F j (enter 4 [.d (.list (ns.map .int)), .d (.int a), .d (.int c)]) S) = .ok (.loc S.length) (S ++ [cellI zs]) ∧ InR 5040 zs ∧ zs.length = c := by
  obtain ⟨zs, e, h1, h2⟩ := h S a c 5040 hc (by decide) (by decide)
  have lo : lstOf (.loc S.length) (S ++ [cellI zs]) = some (S.length, zs.map fun z => A.d (.int z)) := by
    show (match (S ++ [cellI zs])[S.length]? with | some (.lst xs) => some (S.length, xs) | _ => none) = _
    simp [cellI]
  have rv : ∀ x0 x1 x2 : Option A, dReverse (dName 3) [x0, x1, x2, some (A.loc S.length)] (S ++ [cellI zs]) = .ok (.d .none) (S ++ [cellI zs.reverse]) := fun x0 x1 x2 => by
    unfold dReverse
    rw [ev_name]
    show (match lstOf (.loc S.length) (S ++ [cellI zs]) with | some (n, xs) => _ | none => _) = _
    rw [lo]
    show Res.ok _ (List.set _ _ _) = _
    rw [List.set_append_right _ _ (Nat.le_refl _), Nat.sub_self]
    unfold cellI
    simp
  refine ⟨zs.reverse, ?_, fun z hz => h1 z (List.mem_reverse.mp hz), by simpa using h2⟩
  unfold bPicks
  have e' : F j [.d (.list (ns.map .int)), .d (.int a), .d (.int c), .d (.int 5040)] S = .ok (.loc S.length) (S ++ [cellI zs]) := e
  simp -implicitDefEqProofs [-Int.natCast_ediv, -Int.natCast_add, -Int.natCast_emod, -Int.natCast_mul, e', rv]
/-! ### _law_same -/
def bSame (F : Fns) (i : Nat) : DS :=
  (dSeq (dIte (dOrT (toB (dIsI "bool" (dName 1))) (toB (dIsI "bool" (dName 0)))) (dRet (dAndV (dIsI "bool" (dName 1)) (dAndV (dIsI "bool" (dName 0)) (dOp2 (pu2 (boolD eqD)) (dName 0) (dName 1))))) dSkip)
    (dSeq (dIte (dOrT (toB (dOp2 isA (dName 1) (dVal .none))) (toB (dIsI "int" (dName 1)))) (dRet (dAndV (dOp2 (pu2 (boolD eqD)) (dName 0) (dName 1)) (dOrV (dOp2 isA (dName 1) (dVal .none)) (dIsI "int" (dName 0))))) dSkip)
    (dSeq (dIte (toB (dIsI "str" (dName 1))) (dRet (dAndV (dIsI "str" (dName 0)) (dOp2 (pu2 (boolD eqD)) (dName 0) (dName 1)))) dSkip)
    (dSeq (dIte (dOrT (toB (dOp2 (pu2 (notD eqD)) (dIsI "list" (dName 1)) (dIsI "list" (dName 0)))) (toB (dOp2 (pu2 (notD eqD)) (dIsI "tuple" (dName 1)) (dIsI "tuple" (dName 0))))) (dRet (dVal (.bool false))) dSkip)
    (dSeq (dIte (toB (dOp2 (pu2 (notD eqD)) (dCallB lenA (dCons (dName 0) dNil)) (dCallB lenA (dCons (dName 1) dNil)))) (dRet (dVal (.bool false))) dSkip)
    (dSeq (dFor (dRg1 (dCallB lenA (dCons (dName 1) dNil))) (gN 2) (dIte (dNotT (toB (dCall F i (dCons (dOp2 ixU (dName 0) (dName 2)) (dCons (dOp2 ixU (dName 1) (dName 2)) dNil))))) (dRet (dVal (.bool false))) dSkip))
    (dRet (dVal (.bool true)))))))))
/-- data without dicts, n deep at most -/
def Lf (d : PyData) : Prop := d = .none ∨ (∃ b, d = .bool b) ∨ (∃ i, d = .int i) ∨ ∃ s, d = .str s
def Pl : Nat → PyData → Prop
  | 0, d => Lf d
  | n + 1, d => Lf d ∨ ∃ xs, (d = .list xs ∨ d = .tuple xs) ∧ xs.length ≤ 1000000 ∧ ∀ x ∈ xs, Pl n x
theorem Pl.up : ∀ {n : Nat} {d : PyData}, Pl n d → Pl (n + 1) d
  | 0, _, h => .inl h
  | n + 1, _, .inl h => .inl h
  | n + 1, _, .inr ⟨xs, h1, h2, h3⟩ => .inr ⟨xs, h1, h2, fun x hx => Pl.up (h3 x hx)⟩
theorem same_leaf {F : Fns} {i : Nat} {S : Store} {d : PyData} (h : Lf d) : defR (bSame F i (enter 3 [.d d, .d d]) S) = .ok (.d (.bool true)) S := by
  unfold bSame
  rcases h with rfl | ⟨b, rfl⟩ | ⟨j, rfl⟩ | ⟨s, rfl⟩
  · have en : isA (.d .none) (.d .none) S = some (.d (.bool true)) := rfl
    have q : eqD .none .none = some true := rfl
    simp -implicitDefEqProofs [-Int.natCast_ediv, -Int.natCast_add, -Int.natCast_emod, -Int.natCast_mul, en, q]
  · simp -implicitDefEqProofs [-Int.natCast_ediv, -Int.natCast_add, -Int.natCast_emod, -Int.natCast_mul]
  · have en : isA (.d (.int j)) (.d .none) S = some (.d (.bool false)) := rfl
    simp -implicitDefEqProofs [-Int.natCast_ediv, -Int.natCast_add, -Int.natCast_emod, -Int.natCast_mul, en]
  · have en : isA (.d (.str s)) (.d .none) S = some (.d (.bool false)) := rfl
    simp -implicitDefEqProofs [-Int.natCast_ediv, -Int.natCast_add, -Int.natCast_emod, -Int.natCast_mul, en]
theorem same_loop {F : Fns} {i : Nat} {S : Store} {d : PyData} {xs : List PyData} (hix : ∀ i : Nat, ixU (.d d) (.d (.int i)) S = (atI xs i).map .d) (h : ∀ x ∈ xs, F i [.d x, .d x] S = .ok (.d (.bool true)) S) : ∀ (is : List Nat), (∀ i ∈ is, i < xs.length) → ∀ x2 : Option A,
    ∃ y, loopF (gN 2) (dIte (dNotT (toB (dCall F i (dCons (dOp2 ixU (dName 0) (dName 2)) (dCons (dOp2 ixU (dName 1) (dName 2)) dNil))))) (dRet (dVal (.bool false))) dSkip) (nI is) [some (.d d), some (.d d), x2] S = .nx [some (.d d), some (.d d), y] S
  | [], _, x2 => ⟨x2, rfl⟩
  | j :: is, hi, x2 => by
    obtain ⟨y, e⟩ := same_loop hix h is (fun j hj => hi j (List.mem_cons_of_mem _ hj)) (some (.d (.int j)))
    refine ⟨y, ?_⟩
    show loopF _ _ (.int j :: nI is) _ _ = _
    unfold loopF
    have g : gN 2 (.d (.int j)) [some (.d d), some (.d d), x2] = some [some (.d d), some (.d d), some (.d (.int j))] := rfl
    have hl := hi j (by simp)
    have hx : ixU (.d d) (.d (.int j)) S = some (.d xs[j]) := by rw [hix, atI_n hl, List.getElem?_eq_getElem hl]; rfl
    have hf := h xs[j] (List.getElem_mem hl)
    have eb : dIte (dNotT (toB (dCall F i (dCons (dOp2 ixU (dName 0) (dName 2)) (dCons (dOp2 ixU (dName 1) (dName 2)) dNil))))) (dRet (dVal (.bool false))) dSkip [some (.d d), some (.d d), some (.d (.int j))] S = .nx [some (.d d), some (.d d), some (.d (.int j))] S := by
      simp -implicitDefEqProofs [-Int.natCast_ediv, -Int.natCast_add, -Int.natCast_emod, -Int.natCast_mul, hx, hf]
    rw [g]
    simp only [eb]
    exact e
/-- a thing is the same as itself -/
theorem same {cd : Nat → Fns} {i : Nat} (hv : ∀ k d S, cd (k + 1) i [.d d, .d d] S = defR (bSame (cd k) i (enter 3 [.d d, .d d]) S)) (k : Nat) (S : Store) : ∀ (n : Nat) (d : PyData), Pl n d → cd (k + n + 1) i [.d d, .d d] S = .ok (.d (.bool true)) S := by
  intro n
  induction n with
  | zero => intro d h; rw [hv]; exact same_leaf h
  | succ n ih =>
    intro d h
    rcases h with h | ⟨xs, hd, hl, hx⟩
    · rw [hv]; exact same_leaf h
    · have h16 : ∀ x ∈ xs, cd (k + n + 1) i [.d x, .d x] S = .ok (.d (.bool true)) S := fun x m => ih x (hx x m)
      have e : k + (n + 1) + 1 = (k + n + 1) + 1 := by omega
      rw [e, hv]
      generalize cd (k + n + 1) = F at *
      have hr : rgI (.int 0) (.int (xs.length : Int)) = some (nI (List.range xs.length)) := rg_ok hl
      have hlt : ∀ i ∈ List.range xs.length, i < xs.length := fun i hi => List.mem_range.mp hi
      unfold bSame
      rcases hd with rfl | rfl
      · have en : isA (.d (.list xs)) (.d .none) S = some (.d (.bool false)) := rfl
        obtain ⟨y, el⟩ := same_loop (F := F) (d := .list xs) (fun i => rfl) h16 (List.range xs.length) hlt none
        simp -implicitDefEqProofs [-Int.natCast_ediv, -Int.natCast_add, -Int.natCast_emod, -Int.natCast_mul, en, hr, el]
      · have en : isA (.d (.tuple xs)) (.d .none) S = some (.d (.bool false)) := rfl
        obtain ⟨y, el⟩ := same_loop (F := F) (d := .tuple xs) (fun i => rfl) h16 (List.range xs.length) hlt none
        simp -implicitDefEqProofs [-Int.natCast_ediv, -Int.natCast_add, -Int.natCast_emod, -Int.natCast_mul, en, hr, el]
end Lw

/-! Lx: loops whose turns may lay new cells; stores that grow. -/
namespace Lx
open PySem PySem.Spec L2 Ev
theorem set_last {S : Store} {c d : Cell} : (S ++ [c]).set S.length d = S ++ [d] := by
  rw [List.set_append_right _ _ (Nat.le_refl _), Nat.sub_self]; rfl
theorem get_last {S : Store} {c : Cell} : (S ++ [c])[S.length]? = some c := by simp
/-- an answer that only lays cells behind -/
def Gr (r : Store → Res A) (v : A) : Prop := ∀ S, ∃ T, r S = .ok v (S ++ T)
theorem Gr.of {r : Store → Res A} {v : A} (h : ∀ S, r S = .ok v S) : Gr r v := fun S => ⟨[], by rw [h, List.append_nil]⟩
theorem comp_grow {g : DG} {d : DE} {l : Ev.Loc} {f : D → D} : ∀ (ds acc : List D), acc.length + ds.length ≤ 16777216 → (∀ x ∈ ds, ∃ l1, g (.d x) l = some l1 ∧ Gr (d l1) (.d (f x))) →
    ∀ S, ∃ T, compF g dTrue (putE d) l ds acc S = .ok (acc ++ ds.map f) (S ++ T)
  | [], acc, _, _, S => ⟨[], by simp [compF]⟩
  | x :: ds, acc, hz, h, S => by
    obtain ⟨l1, e1, h1⟩ := h x (by simp)
    have hz' : acc.length + (ds.length + 1) ≤ 16777216 := by simpa using hz
    obtain ⟨T, e2⟩ := h1 S
    obtain ⟨T2, e3⟩ := comp_grow ds (acc ++ [f x]) (by simp; omega) (fun x hx => h x (List.mem_cons_of_mem _ hx)) (S ++ T)
    refine ⟨T ++ T2, ?_⟩
    unfold compF
    rw [e1]
    have et : dTrue l1 S = .ok true S := rfl
    have e5 : putE d acc l1 S = .ok (acc ++ [f x]) (S ++ T) := by
      unfold putE
      rw [e2]
      exact if_pos (by omega)
    simp only [et, e5]
    rw [e3]
    simp
theorem ev_lcG {di : DR (List D)} {vs : List Nat} {g : DG} {d : DE} {l : Ev.Loc} {S : Store} {ds : List D} (f : D → D) (hi : di l S = .ok ds S) (hz : ds.length ≤ 16777216) (h : ∀ x ∈ ds, ∃ l1, g (.d x) (wipeA l vs) = some l1 ∧ Gr (d l1) (.d (f x))) :
    ∃ T, dLc di vs g dTrue d l S = .ok (.d (.list (ds.map f))) (S ++ T) := by
  obtain ⟨T, e⟩ := comp_grow (g := g) (d := d) (l := wipeA l vs) (f := f) ds [] (by simpa using hz) h S
  refine ⟨T, ?_⟩
  unfold dLc
  rw [hi, Res.ok_bind, e]
  simp
/-- a for whose turns change no slot that counts -/
theorem loop_inv {g : DG} {body : DS} (P : Ev.Loc → Prop) : ∀ (ds : List D), (∀ x ∈ ds, ∀ l, P l → ∀ S, ∃ l1 l2 T, g (.d x) l = some l1 ∧ body l1 S = .nx l2 (S ++ T) ∧ P l2) → ∀ l, P l → ∀ S, ∃ l2 T, loopF g body ds l S = .nx l2 (S ++ T) ∧ P l2
  | [], _, l, hl, S => ⟨l, [], by simp [loopF], hl⟩
  | x :: ds, h, l, hl, S => by
    obtain ⟨l1, l2, T, e1, e2, p2⟩ := h x (by simp) l hl S
    obtain ⟨l3, T2, e3, p3⟩ := loop_inv P ds (fun x hx => h x (List.mem_cons_of_mem _ hx)) l2 p2 (S ++ T)
    refine ⟨l3, T ++ T2, ?_, p3⟩
    unfold loopF
    rw [e1]
    simp only [e2]
    rw [e3, List.append_assoc]
/-- a for that keeps a property of slots and store -/
theorem loop_P {g : DG} {body : DS} (P : Ev.Loc → Store → Prop) : ∀ (ds : List D), (∀ x ∈ ds, ∀ l S, P l S → ∃ l1 l2 S2, g (.d x) l = some l1 ∧ body l1 S = .nx l2 S2 ∧ P l2 S2) → ∀ l S, P l S → ∃ l2 S2, loopF g body ds l S = .nx l2 S2 ∧ P l2 S2
  | [], _, l, S, hl => ⟨l, S, by simp [loopF], hl⟩
  | x :: ds, h, l, S, hl => by
    obtain ⟨l1, l2, S2, e1, e2, p2⟩ := h x (by simp) l S hl
    obtain ⟨l3, S3, e3, p3⟩ := loop_P P ds (fun x hx => h x (List.mem_cons_of_mem _ hx)) l2 S2 p2
    refine ⟨l3, S3, ?_, p3⟩
    unfold loopF
    rw [e1]
    simp only [e2]
    exact e3
/-- xs.append(x) at the last cell -/
theorem app_last {S : Store} {as : List A} {l : Ev.Loc} {d e : DE} {a : A} (hz : as.length < 16777216) (hd : d l (S ++ [.lst as]) = .ok (.loc S.length) (S ++ [.lst as])) (he : e l (S ++ [.lst as]) = .ok a (S ++ [.lst as])) : dAppend d e l (S ++ [.lst as]) = .ok (.d .none) (S ++ [.lst (as ++ [a])]) := by
  have g : (S ++ [Cell.lst as])[S.length]? = some (.lst as) := get_last
  have lo : lstOf (.loc S.length) (S ++ [Cell.lst as]) = some (S.length, as) := by
    show (match (S ++ [Cell.lst as])[S.length]? with | some (.lst xs) => some (S.length, xs) | _ => none) = _
    rw [g]
  unfold dAppend
  rw [hd, Res.ok_bind, lo]
  show (e l (S ++ [.lst as])).bind _ = _
  rw [he, Res.ok_bind, lo]
  show (if as.length < 16777216 then _ else _) = _
  rw [if_pos (by omega), set_last]
/-- the last of numbers in a range -/
theorem last_rng {m : Int} {zs : List Int} (h : Lw.InR m zs) (hm : 0 < m) : 0 ≤ zs.getLastD 0 ∧ zs.getLastD 0 < m := by
  cases e : zs.getLast? with
  | none => rw [List.getLastD_eq_getLast?, e]; exact ⟨Int.le_refl _, hm⟩
  | some y =>
    rw [List.getLastD_eq_getLast?, e]
    exact h y (List.mem_of_getLast? e)
theorem InR_drop {m : Int} {zs : List Int} (h : Lw.InR m zs) : Lw.InR m zs.dropLast := fun z hz => h z ((List.dropLast_sublist zs).mem hz)
theorem app_get {S T : Store} {i : Nat} {c : Cell} (h : S[i]? = some c) : (S ++ T)[i]? = some c := by
  rw [List.getElem?_append_left (List.getElem?_eq_some_iff.mp h).1]; exact h
theorem frz_last {S : Store} {ds : List D} : frzA (.loc S.length) (S ++ [.lst (ds.map .d)]) = .ok (.d (.list ds)) (S ++ [.fzn (.list ds)]) := by
  unfold frzA
  simp only [get_last, pures_map, set_last]
end Lx

/-! Ly: objects, methods, lists at any cell, slices, loops that look for one. -/
namespace Ly
open PySem PySem.Spec L2 Ev Lx
theorem ev_methAt {F : Fns} {mt : MTab} {m : Str} {d : DE} {das : DR (List A)} {l : Ev.Loc} {S S1 : Store} {p c f : Nat} {fs : List (Str × A)} (hd : d l S = .ok (.loc p) S1) (ho : S1[p]? = some (.ins c fs)) (hm : mt c = some f) (hl : fs.lookup m = none) :
    dMeth F mt m d das l S = (das l S1).bind fun as S2 => F f (.loc p :: as) S2 := by
  have e : objOf (.loc p) S1 = some (p, c, fs) := by
    unfold objOf
    simp only [ho]
  unfold dMeth
  rw [hd, Res.ok_bind, e]
  simp only [hm, hl]
theorem ev_setAt {fl : Nat → List Str} {f : Str} {d dv : DE} {l : Ev.Loc} {S S1 S2 : Store} {a : A} {p c : Nat} {fs : List (Str × A)} (h1 : dv l S = .ok a S1) (h2 : d l S1 = .ok (.loc p) S2) (ho : S2[p]? = some (.ins c fs)) (hc : (fl c).contains f = true) (hl : fs.length < 1000) :
    dSetF fl f d dv l S = .nx l (S2.set p (.ins c (setF f a fs))) := by
  have e : objOf (.loc p) S2 = some (p, c, fs) := by
    unfold objOf
    simp only [ho]
  unfold dSetF
  rw [h1, Res.ok_thenS, h2, Res.ok_thenS, e]
  simp only [hc, hl, decide_true, Bool.and_self, if_true]
theorem fld_at {fl : Nat → List Str} {f : Str} {S : Store} {p c : Nat} {fs : List (Str × A)} (ho : S[p]? = some (.ins c fs)) (hc : (fl c).contains f = true) : fldA fl f (.loc p) S = fs.lookup f := by
  have e : objOf (.loc p) S = some (p, c, fs) := by
    unfold objOf
    simp only [ho]
  unfold fldA
  rw [e]
  simp only [hc, if_true]
theorem app_at {S S1 S2 : Store} {n : Nat} {as bs : List A} {l : Ev.Loc} {d e : DE} {a : A} (hd : d l S = .ok (.loc n) S1) (h1 : S1[n]? = some (.lst as)) (he : e l S1 = .ok a S2) (h2 : S2[n]? = some (.lst bs)) (hz : bs.length < 16777216) :
    dAppend d e l S = .ok (.d .none) (S2.set n (.lst (bs ++ [a]))) := by
  have lo : lstOf (.loc n) S1 = some (n, as) := by
    show (match S1[n]? with | some (.lst xs) => some (n, xs) | _ => none) = _
    rw [h1]
  have lo2 : lstOf (.loc n) S2 = some (n, bs) := by
    show (match S2[n]? with | some (.lst xs) => some (n, xs) | _ => none) = _
    rw [h2]
  unfold dAppend
  rw [hd, Res.ok_bind, lo]
  show (e l S1).bind _ = _
  rw [he, Res.ok_bind, lo2]
  show (if bs.length < 16777216 then _ else _) = _
  rw [if_pos hz]
theorem frz_at {S : Store} {n : Nat} {ds : List D} (h : S[n]? = some (.lst (ds.map .d))) : frzA (.loc n) S = .ok (.d (.list ds)) (S.set n (.fzn (.list ds))) := by
  unfold frzA
  simp only [h, pures_map]
/-- what an append's argument raises -/
theorem app_exc {S S1 S2 : Store} {n : Nat} {as : List A} {l : Ev.Loc} {d e : DE} {x : Exn} (hd : d l S = .ok (.loc n) S1) (h1 : S1[n]? = some (.lst as)) (he : e l S1 = .exc x S2) : dAppend d e l S = .exc x S2 := by
  have lo : lstOf (.loc n) S1 = some (n, as) := by
    show (match S1[n]? with | some (.lst xs) => some (n, xs) | _ => none) = _
    rw [h1]
  unfold dAppend
  rw [hd, Res.ok_bind, lo]
  show (e l S1).bind _ = _
  rw [he]
  rfl
theorem cut_from {α : Type} (xs : List α) (k : Nat) : cutL xs (some (k : Int)) none = xs.drop k := by
  unfold cutL
  rw [HT.sIx_nat, HT.sIx_none]
  by_cases h : k ≤ xs.length
  · rw [Nat.min_eq_left h, List.take_of_length_le (by rw [List.length_drop]; exact Nat.le_refl _)]
  · rw [Nat.min_eq_right (by omega), List.drop_of_length_le (Nat.le_refl _), List.drop_of_length_le (by omega)]
    simp
theorem cut_to {α : Type} (xs : List α) (k : Nat) : cutL xs none (some (k : Int)) = xs.take k := by
  unfold cutL
  rw [HT.sIx_nat, HT.sIx_none, List.drop_zero, Nat.sub_zero]
  by_cases h : k ≤ xs.length
  · rw [Nat.min_eq_left h]
  · rw [Nat.min_eq_right (by omega), List.take_of_length_le (Nat.le_refl _), List.take_of_length_le (by omega)]
theorem cut_mid {α : Type} (xs : List α) (i j : Nat) (hi : i ≤ xs.length) : cutL xs (some (i : Int)) (some (j : Int)) = (xs.drop i).take (j - i) := by
  unfold cutL
  rw [HT.sIx_nat, HT.sIx_nat, Nat.min_eq_left hi]
  by_cases h : j ≤ xs.length
  · rw [Nat.min_eq_left h]
  · rw [Nat.min_eq_right (by omega), List.take_of_length_le (by rw [List.length_drop]; exact Nat.le_refl _), List.take_of_length_le (by rw [List.length_drop]; omega)]
/-- a for that leaves at the first x of its kind -/
theorem loop_find {g : DG} {body : DS} (Lq : Option A → Ev.Loc) (b : D → Bool) (r : D → RS) {S : Store} (hr : ∀ x, b x = true → (∀ l S', r x ≠ .nx l S') ∧ ∀ l S', r x ≠ .bk l S') : ∀ (ds : List D), (∀ x ∈ ds, ∀ o, g (.d x) (Lq o) = some (Lq (some (.d x))) ∧ body (Lq (some (.d x))) S = if b x = true then r x else .nx (Lq (some (.d x))) S) →
    ∀ o, (match ds.find? b with
      | some x => loopF g body ds (Lq o) S = r x
      | none => ∃ o', loopF g body ds (Lq o) S = .nx (Lq o') S)
  | [], _, o => ⟨o, rfl⟩
  | x :: ds, h, o => by
    obtain ⟨e1, e2⟩ := h x (by simp) o
    have ih := loop_find Lq b r hr ds (fun y hy => h y (List.mem_cons_of_mem _ hy)) (some (.d x))
    rw [List.find?_cons]
    cases hb : b x with
    | true =>
      rw [hb, if_pos rfl] at e2
      show loopF g body (x :: ds) (Lq o) S = r x
      unfold loopF
      rw [e1]
      simp only [e2]
      obtain ⟨n1, n2⟩ := hr x hb
      cases hx : r x with
      | nx l S' => exact absurd hx (n1 l S')
      | bk l S' => exact absurd hx (n2 l S')
      | _ => rfl
    | false =>
      rw [hb, if_neg (by decide)] at e2
      have e3 : loopF g body (x :: ds) (Lq o) S = loopF g body ds (Lq (some (.d x))) S := by
        conv => lhs; unfold loopF
        rw [e1]
        simp only [e2]
      simp only [e3]
      exact ih
/-- a store that another grows out of, but for one cell -/
def Kp (p : Nat) (S S' : Store) : Prop := S.length ≤ S'.length ∧ ∀ i, i < S.length → i ≠ p → S'[i]? = S[i]?
theorem Kp.refl (p : Nat) (S : Store) : Kp p S S := ⟨Nat.le_refl _, fun _ _ _ => rfl⟩
theorem Kp.trans {p : Nat} {S S1 S2 : Store} (h : Kp p S S1) (k : Kp p S1 S2) : Kp p S S2 := ⟨Nat.le_trans h.1 k.1, fun i hi hp => (k.2 i (Nat.lt_of_lt_of_le hi h.1) hp).trans (h.2 i hi hp)⟩
theorem Kp.app (p : Nat) (S T : Store) : Kp p S (S ++ T) := ⟨by simp, fun i hi _ => by rw [List.getElem?_append_left hi]⟩
theorem Kp.set (p : Nat) (S : Store) (c : Cell) : Kp p S (S.set p c) := ⟨by simp, fun i _ hp => List.getElem?_set_ne (Ne.symm hp)⟩
theorem Kp.new {p n : Nat} {S S1 : Store} (h : Kp p S S1) (hn : S.length ≤ n) (c : Cell) : Kp p S (S1.set n c) := ⟨by rw [List.length_set]; exact h.1, fun i hi hp => by rw [List.getElem?_set_ne (by omega)]; exact h.2 i hi hp⟩
theorem Kp.get {p i : Nat} {S S1 : Store} {c : Cell} (h : Kp p S S1) (hi : i ≠ p) (e : S[i]? = some c) : S1[i]? = some c := by
  rw [h.2 i (List.getElem?_eq_some_iff.mp e).1 hi]; exact e
end Ly

/-! Pv0: denotations without a store: what is changed stands in the slots themselves. The relation to store and slots. -/
namespace Pv
open PySem PySem.Spec L2 Ev
inductive PV where
  | d (x : D)
  | fz (x : D)
  | fn (f : Nat)
  | lst (xs : List PV)
  | dic (kvs : List (D × PV))
  | ins (c : Nat) (fs : List (Str × PV))
abbrev PL := List (Option PV)
inductive PR (α : Type) where
  | ok (a : α) (l : PL)
  | exc (x : Exn) (l : PL)
  | no
def PR.bind {α β : Type} (r : PR α) (f : α → PL → PR β) : PR β := match r with
  | .ok a l => f a l
  | .exc x l => .exc x l
  | .no => .no
@[simp] theorem PR.ok_bind {α β : Type} (a : α) (l : PL) (f : α → PL → PR β) : (PR.ok a l).bind f = f a l := rfl
@[simp] theorem PR.exc_bind {α β : Type} (x : Exn) (l : PL) (f : α → PL → PR β) : (PR.exc x l : PR α).bind f = .exc x l := rfl
@[simp] theorem PR.no_bind {α β : Type} (f : α → PL → PR β) : (PR.no : PR α).bind f = .no := rfl
abbrev PX (α : Type) := PL → PR α
abbrev FP := Nat → Prop
/-- what a value of the store is, held by itself: m holds the cells that are its own -/
inductive RV (S : Store) : A → PV → FP → Prop
  | d (x : D) (m : FP) : RV S (.d x) (.d x) m
  | fn (f : Nat) (m : FP) : RV S (.fn f) (.fn f) m
  | fz {n : Nat} {x : D} {m : FP} : S[n]? = some (.fzn x) → m n → RV S (.loc n) (.fz x) m
  | lst {n : Nat} {as : List A} {vs : List PV} {m : FP} (fp : Nat → FP) : S[n]? = some (.lst as) → m n → as.length = vs.length → (∀ (j : Nat) a v, as[j]? = some a → vs[j]? = some v → RV S a v (fp j)) → (∀ j i, fp j i → m i ∧ i ≠ n) → (∀ j k i, fp j i → fp k i → j = k) → RV S (.loc n) (.lst vs) m
  | dic {n : Nat} {as : List (D × A)} {vs : List (D × PV)} {m : FP} (fp : Nat → FP) : S[n]? = some (.dic as) → m n → as.map Prod.fst = vs.map Prod.fst → (∀ (j : Nat) a v, as[j]? = some a → vs[j]? = some v → RV S a.2 v.2 (fp j)) → (∀ j i, fp j i → m i ∧ i ≠ n) → (∀ j k i, fp j i → fp k i → j = k) → RV S (.loc n) (.dic vs) m
  | ins {n c : Nat} {as : List (Str × A)} {vs : List (Str × PV)} {m : FP} (fp : Nat → FP) : S[n]? = some (.ins c as) → m n → as.map Prod.fst = vs.map Prod.fst → (∀ (j : Nat) a v, as[j]? = some a → vs[j]? = some v → RV S a.2 v.2 (fp j)) → (∀ j i, fp j i → m i ∧ i ≠ n) → (∀ j k i, fp j i → fp k i → j = k) → RV S (.loc n) (.ins c vs) m
theorem RV.stay {S S' : Store} {a : A} {v : PV} {m : FP} (h : RV S a v m) : (∀ i, m i → S'[i]? = S[i]?) → RV S' a v m := by
  induction h with
  | d x m => exact fun _ => .d x m
  | fn f m => exact fun _ => .fn f m
  | fz e hm => exact fun k => .fz ((k _ hm).trans e) hm
  | lst fp e hm hl hr h1 h2 ih => exact fun k => .lst fp ((k _ hm).trans e) hm hl (fun j a v ea ev => ih j a v ea ev fun i hi => k i (h1 j i hi).1) h1 h2
  | dic fp e hm hl hr h1 h2 ih => exact fun k => .dic fp ((k _ hm).trans e) hm hl (fun j a v ea ev => ih j a v ea ev fun i hi => k i (h1 j i hi).1) h1 h2
  | ins fp e hm hl hr h1 h2 ih => exact fun k => .ins fp ((k _ hm).trans e) hm hl (fun j a v ea ev => ih j a v ea ev fun i hi => k i (h1 j i hi).1) h1 h2
theorem RV.mono {S : Store} {a : A} {v : PV} {m m' : FP} (h : RV S a v m) (k : ∀ i, m i → m' i) : RV S a v m' := by
  cases h with
  | d x m => exact .d x _
  | fn f m => exact .fn f _
  | fz e hm => exact .fz e (k _ hm)
  | lst fp e hm hl hr h1 h2 => exact .lst fp e (k _ hm) hl hr (fun j i hi => ⟨k i (h1 j i hi).1, (h1 j i hi).2⟩) h2
  | dic fp e hm hl hr h1 h2 => exact .dic fp e (k _ hm) hl hr (fun j i hi => ⟨k i (h1 j i hi).1, (h1 j i hi).2⟩) h2
  | ins fp e hm hl hr h1 h2 => exact .ins fp e (k _ hm) hl hr (fun j i hi => ⟨k i (h1 j i hi).1, (h1 j i hi).2⟩) h2
/-- slots and store stand for slots that hold all -/
structure St (S : Store) (l : Ev.Loc) (pl : PL) (fp : Nat → FP) : Prop where
  len : l.length = pl.length
  at_ : ∀ (j : Nat) v, pl[j]? = some (some v) → ∃ a, l[j]? = some (some a) ∧ RV S a v (fp j)
  dj : ∀ j k i, fp j i → fp k i → j = k
  bd : ∀ j i, fp j i → i < S.length
/-- from S to S': what is nobody's stays -/
structure Nw (S : Store) (fp : Nat → FP) (S' : Store) (fp' : Nat → FP) (m : FP) : Prop where
  le : S.length ≤ S'.length
  fr : ∀ i, i < S.length → (∀ j, ¬ fp j i) → S'[i]? = S[i]?
  sub : ∀ j i, fp' j i → (∃ k, fp k i) ∨ S.length ≤ i
  vb : ∀ i, m i → i < S'.length
  vd : ∀ i j, m i → fp' j i → False
  vs : ∀ i, m i → (∃ k, fp k i) ∨ S.length ≤ i
abbrev Em : FP := fun _ => False
section
variable {S S1 S2 : Store} {fp fp1 fp2 : Nat → FP} {m m1 m2 : FP}
theorem Nw.refl (S : Store) (fp : Nat → FP) : Nw S fp S fp Em := ⟨Nat.le_refl _, fun _ _ _ => rfl, fun j i h => .inl ⟨j, h⟩, fun _ h => h.elim, fun _ _ h => h.elim, fun _ h => h.elim⟩
theorem Nw.trans (a : Nw S fp S1 fp1 m1) (b : Nw S1 fp1 S2 fp2 m2) : Nw S fp S2 fp2 m2 := by
  have up : ∀ i, (∃ k, fp1 k i) ∨ S1.length ≤ i → (∃ k, fp k i) ∨ S.length ≤ i := fun i h => by
    rcases h with ⟨k, h⟩ | h
    · exact a.sub k i h
    · exact .inr (Nat.le_trans a.le h)
  refine ⟨Nat.le_trans a.le b.le, fun i hi hn => ?_, fun j i h => up i (b.sub j i h), b.vb, b.vd, fun i h => up i (b.vs i h)⟩
  refine (b.fr i (Nat.lt_of_lt_of_le hi a.le) fun j hj => ?_).trans (a.fr i hi hn)
  rcases a.sub j i hj with ⟨k, h⟩ | h
  · exact hn k h
  · exact absurd hi (Nat.not_lt.mpr h)
/-- the first value stays as the second comes -/
theorem Nw.keep (a : Nw S fp S1 fp1 m1) (b : Nw S1 fp1 S2 fp2 m2) : ∀ i, m1 i → S2[i]? = S1[i]? := fun i h => b.fr i (a.vb i h) fun j hj => a.vd i j h hj
theorem Nw.apart (a : Nw S fp S1 fp1 m1) (b : Nw S1 fp1 S2 fp2 m2) : ∀ i, m1 i → m2 i → False := fun i h1 h2 => by
  rcases b.vs i h2 with ⟨k, h⟩ | h
  · exact a.vd i k h1 h
  · exact absurd (a.vb i h1) (Nat.not_lt.mpr h)
theorem Nw.both (a : Nw S fp S1 fp1 m1) (b : Nw S1 fp1 S2 fp2 m2) : Nw S fp S2 fp2 (fun i => m1 i ∨ m2 i) := by
  have t := a.trans b
  refine ⟨t.le, t.fr, t.sub, fun i h => ?_, fun i j h hf => ?_, fun i h => ?_⟩
  · rcases h with h | h
    · exact Nat.lt_of_lt_of_le (a.vb i h) b.le
    · exact t.vb i h
  · rcases h with h | h
    · rcases b.sub j i hf with ⟨k, q⟩ | q
      · exact a.vd i k h q
      · exact absurd (a.vb i h) (Nat.not_lt.mpr q)
    · exact t.vd i j h hf
  · rcases h with h | h
    · exact a.vs i h
    · exact t.vs i h
theorem Nw.drop (a : Nw S fp S1 fp1 m1) : Nw S fp S1 fp1 Em := ⟨a.le, a.fr, a.sub, fun _ h => h.elim, fun _ _ h => h.elim, fun _ h => h.elim⟩
end
abbrev Rl (α β : Type) := Store → α → β → FP → Prop
/-- what a result stands for -/
def Out {α β : Type} (rel : Rl α β) (S : Store) (fp : Nat → FP) (l : Ev.Loc) (r : Res α) : PR β → Prop
  | .ok v pl' => ∃ a S' fp' m, r = .ok a S' ∧ St S' l pl' fp' ∧ rel S' a v m ∧ Nw S fp S' fp' m
  | .exc x pl' => ∃ S' fp', r = .exc x S' ∧ St S' l pl' fp' ∧ Nw S fp S' fp' Em
  | .no => True
def Sim {α β : Type} (rel : Rl α β) (d : DR α) (p : PX β) : Prop := ∀ l S pl fp, St S l pl fp → Out rel S fp l (d l S) (p pl)
abbrev relE {α β : Type} (e : β → α) : Rl α β := fun _ a v _ => a = e v
abbrev SimD : DE → PX D → Prop := Sim (relE A.d)
abbrev SimT : DR Bool → PX Bool → Prop := Sim (relE id)
abbrev SimI : DR (List D) → PX (List D) → Prop := Sim (relE id)
abbrev SimO : DR (Option Int) → PX (Option Int) → Prop := Sim (relE id)
abbrev SimL : DR (List A) → PX (List D) → Prop := Sim (relE (List.map A.d))
abbrev SimE : DE → PX PV → Prop := Sim RV
theorem sim_bind {α β γ δ : Type} {e : β → α} {rel : Rl γ δ} {d : DR α} {p : PX β} {k : α → DR γ} {pk : β → PX δ} (h1 : Sim (relE e) d p) (h2 : ∀ v, Sim rel (k (e v)) (pk v)) : Sim rel (fun l S => (d l S).bind fun a S1 => k a l S1) (fun pl => (p pl).bind fun v pl1 => pk v pl1) := fun l S pl fp st => by
  have q := h1 l S pl fp st
  show Out rel S fp l ((d l S).bind fun a S1 => k a l S1) ((p pl).bind fun v pl1 => pk v pl1)
  cases hp : p pl with
  | no => trivial
  | exc x pl1 =>
    rw [hp] at q
    obtain ⟨S1, fp1, e1, st1, n1⟩ := q
    exact ⟨S1, fp1, by rw [e1]; rfl, st1, n1⟩
  | ok v pl1 =>
    rw [hp] at q
    obtain ⟨a, S1, fp1, m1, e1, st1, rfl, n1⟩ := q
    have q2 := h2 v l S1 pl1 fp1 st1
    rw [PR.ok_bind, e1, Res.ok_bind]
    cases hk : pk v pl1 with
    | no => trivial
    | exc x pl2 =>
      rw [hk] at q2
      obtain ⟨S2, fp2, e2, st2, n2⟩ := q2
      exact ⟨S2, fp2, e2, st2, n1.trans n2⟩
    | ok w pl2 =>
      rw [hk] at q2
      obtain ⟨b, S2, fp2, m2, e2, st2, r2, n2⟩ := q2
      exact ⟨b, S2, fp2, m2, e2, st2, r2, n1.trans n2⟩
theorem sim_pure {α β : Type} {e : β → α} {v : β} : Sim (relE e) (fun _ S => .ok (e v) S) (fun pl => .ok v pl) := fun l S pl fp st => ⟨_, S, fp, Em, rfl, st, rfl, Nw.refl S fp⟩
theorem sim_no {α β : Type} {rel : Rl α β} {d : DR α} : Sim rel d (fun _ => .no) := fun _ _ _ _ _ => trivial
def optP {β : Type} (o : Option β) (pl : PL) : PR β := match o with
  | some v => .ok v pl
  | none => .no
@[simp] theorem optP_some {β : Type} (v : β) (pl : PL) : optP (some v) pl = .ok v pl := rfl
@[simp] theorem optP_none {β : Type} (pl : PL) : optP (none : Option β) pl = .no := rfl
theorem sim_opt {β : Type} {e : β → A} {f : Store → Option A} {o : Option β} (h : ∀ S v, o = some v → f S = some (e v)) : Sim (relE e) (fun _ S => opt (f S) S) (fun pl => optP o pl) := fun l S pl fp st => by
  cases o with
  | none => trivial
  | some v => exact ⟨_, S, fp, Em, by show opt (f S) S = _; rw [h S v rfl]; rfl, st, rfl, Nw.refl S fp⟩
/-! ### expressions of plain data -/
def pVal (x : D) : PX D := fun pl => .ok x pl
theorem sVal (x : D) : SimD (dVal x) (pVal x) := sim_pure
def datO (o : Option (Option PV)) (pl : PL) : PR D := match o with
  | some (some (.d x)) => .ok x pl
  | _ => .no
@[simp] theorem datO_d (x : D) (pl : PL) : datO (some (some (.d x))) pl = .ok x pl := rfl
def pName (i : Nat) : PX D := fun pl => datO (pl[i]?) pl
theorem sName (i : Nat) : SimD (dName i) (pName i) := fun l S pl fp st => by
  show Out _ S fp l (dName i l S) (datO (pl[i]?) pl)
  unfold datO
  split
  · rename_i x hx
    obtain ⟨a, h1, h2⟩ := st.at_ i _ hx
    cases h2
    refine ⟨_, S, fp, Em, ?_, st, rfl, Nw.refl S fp⟩
    unfold dName
    rw [h1]
  · trivial
def pOp2 (g : D → D → Option D) (a b : PX D) : PX D := fun pl => (a pl).bind fun x pl1 => (b pl1).bind fun y pl2 => optP (g x y) pl2
theorem sOp2 {f : A → A → Store → Option A} {g : D → D → Option D} {da db : DE} {pa pb : PX D} (hf : ∀ x y S z, g x y = some z → f (.d x) (.d y) S = some (.d z)) (ha : SimD da pa) (hb : SimD db pb) : SimD (dOp2 f da db) (pOp2 g pa pb) :=
  sim_bind ha fun x => sim_bind hb fun y => sim_opt fun S z h => hf x y S z h
def pOp1 (g : D → Option D) (a : PX D) : PX D := fun pl => (a pl).bind fun x pl1 => optP (g x) pl1
theorem sOp1 {f : A → Store → Option A} {g : D → Option D} {da : DE} {pa : PX D} (hf : ∀ x S z, g x = some z → f (.d x) S = some (.d z)) (ha : SimD da pa) : SimD (dOp1 f da) (pOp1 g pa) :=
  sim_bind ha fun x => sim_opt fun S z h => hf x S z h
def boolOf : D → PL → PR Bool := fun d pl => match d with
  | .bool b => .ok b pl
  | _ => .no
@[simp] theorem boolOf_b (b : Bool) (pl : PL) : boolOf (.bool b) pl = .ok b pl := rfl
def pToB (a : PX D) : PX Bool := fun pl => (a pl).bind boolOf
theorem sToB {da : DE} {pa : PX D} (ha : SimD da pa) : SimT (toB da) (pToB pa) :=
  sim_bind ha fun x => by
    cases x with
    | bool b => exact sim_pure (e := id)
    | _ => exact sim_no
def pTru (a : PX D) : PX Bool := fun pl => (a pl).bind fun x pl1 => optP (truD x) pl1
theorem sTru {da : DE} {pa : PX D} (ha : SimD da pa) : SimT (dTru da) (pTru pa) :=
  sim_bind ha fun x l S pl fp st => by
    show Out _ S fp l (optB (truD x) S) (optP (truD x) pl)
    cases truD x with
    | none => trivial
    | some b => exact ⟨_, S, fp, Em, rfl, st, rfl, Nw.refl S fp⟩
def pNotT (t : PX Bool) : PX Bool := fun pl => (t pl).bind fun b pl1 => .ok (!b) pl1
theorem sNotT {t : DR Bool} {p : PX Bool} (h : SimT t p) : SimT (dNotT t) (pNotT p) := sim_bind h fun b => sim_pure (e := id) (v := !b)
def pIf {β : Type} (t : PX Bool) (u v : PX β) : PX β := fun pl => (t pl).bind fun b pl1 => if b = true then u pl1 else v pl1
theorem sIf {α β : Type} {rel : Rl α β} {t : DR Bool} {pt : PX Bool} {u v : DR α} {pu pv : PX β} (ht : SimT t pt) (hu : Sim rel u pu) (hv : Sim rel v pv) : Sim rel (dIf t u v) (pIf pt pu pv) :=
  sim_bind ht fun b => by
    cases b with
    | true => exact hu
    | false => exact hv
def pAndT (t u : PX Bool) : PX Bool := fun pl => (t pl).bind fun b pl1 => if b = true then u pl1 else .ok false pl1
theorem sAndT {t u : DR Bool} {pt pu : PX Bool} (ht : SimT t pt) (hu : SimT u pu) : SimT (dAndT t u) (pAndT pt pu) :=
  sim_bind ht fun b => by
    cases b with
    | true => exact hu
    | false => exact sim_pure (e := id)
def pOrT (t u : PX Bool) : PX Bool := fun pl => (t pl).bind fun b pl1 => if b = true then .ok true pl1 else u pl1
theorem sOrT {t u : DR Bool} {pt pu : PX Bool} (ht : SimT t pt) (hu : SimT u pu) : SimT (dOrT t u) (pOrT pt pu) :=
  sim_bind ht fun b => by
    cases b with
    | true => exact sim_pure (e := id)
    | false => exact hu
def pAndV (a b : PX D) : PX D := pIf (pToB a) b (pVal (.bool false))
theorem sAndV {da db : DE} {pa pb : PX D} (ha : SimD da pa) (hb : SimD db pb) : SimD (dAndV da db) (pAndV pa pb) := sIf (sToB ha) hb (sVal _)
def pOrV (a b : PX D) : PX D := pIf (pToB a) (pVal (.bool true)) b
theorem sOrV {da db : DE} {pa pb : PX D} (ha : SimD da pa) (hb : SimD db pb) : SimD (dOrV da db) (pOrV pa pb) := sIf (sToB ha) (sVal _) hb
def pOfB (t : PX Bool) : PX D := fun pl => (t pl).bind fun b pl1 => .ok (.bool b) pl1
theorem sOfB {t : DR Bool} {p : PX Bool} (h : SimT t p) : SimD (ofB t) (pOfB p) := sim_bind h fun b => sim_pure
def pNotV (a : PX D) : PX D := pOfB (pNotT (pToB a))
theorem sNotV {da : DE} {pa : PX D} (ha : SimD da pa) : SimD (dNotV da) (pNotV pa) := sOfB (sNotT (sToB ha))
def pOrU (a b : PX D) : PX D := fun pl => (a pl).bind fun x pl1 => (optP (truD x) pl1).bind fun c pl2 => if c = true then .ok x pl2 else b pl2
theorem sOrU {da db : DE} {pa pb : PX D} (ha : SimD da pa) (hb : SimD db pb) : SimD (dOrU da db) (pOrU pa pb) :=
  sim_bind ha fun x l S pl fp st => by
    show Out _ S fp l (match truD x with | some true => Res.ok (A.d x) S | some false => db l S | none => .no) ((optP (truD x) pl).bind (fun c pl2 => if c = true then PR.ok x pl2 else pb pl2))
    cases truD x with
    | none => trivial
    | some b =>
      cases b with
      | true => exact ⟨_, S, fp, Em, rfl, st, rfl, Nw.refl S fp⟩
      | false => exact hb l S pl fp st
def pAndU (a b : PX D) : PX D := fun pl => (a pl).bind fun x pl1 => (optP (truD x) pl1).bind fun c pl2 => if c = true then b pl2 else .ok x pl2
theorem sAndU {da db : DE} {pa pb : PX D} (ha : SimD da pa) (hb : SimD db pb) : SimD (dAndU da db) (pAndU pa pb) :=
  sim_bind ha fun x l S pl fp st => by
    show Out _ S fp l (match truD x with | some true => db l S | some false => Res.ok (A.d x) S | none => .no) ((optP (truD x) pl).bind (fun c pl2 => if c = true then pb pl2 else PR.ok x pl2))
    cases truD x with
    | none => trivial
    | some b =>
      cases b with
      | false => exact ⟨_, S, fp, Em, rfl, st, rfl, Nw.refl S fp⟩
      | true => exact hb l S pl fp st
def pChain (g g' : D → D → Option D) (a b c : PX D) : PX D := fun pl => (a pl).bind fun x pl1 => (b pl1).bind fun y pl2 => (optP (g x y) pl2).bind fun r pl3 => (boolOf r pl3).bind fun k pl4 => if k = true then (c pl4).bind fun z pl5 => optP (g' y z) pl5 else .ok (.bool false) pl4
theorem sChain {f f' : A → A → Store → Option A} {g g' : D → D → Option D} {da db dc : DE} {pa pb pc : PX D} (hf : ∀ x y S z, g x y = some z → f (.d x) (.d y) S = some (.d z)) (hf' : ∀ x y S z, g' x y = some z → f' (.d x) (.d y) S = some (.d z)) (ha : SimD da pa) (hb : SimD db pb) (hc : SimD dc pc) : SimD (dChain f f' da db dc) (pChain g g' pa pb pc) :=
  sim_bind ha fun x => sim_bind hb fun y => by
    cases hg : g x y with
    | none => exact sim_no
    | some r =>
      have e : ∀ S, f (.d x) (.d y) S = some (.d r) := fun S => hf x y S r hg
      cases r with
      | bool k =>
        cases k with
        | true => intro l S pl fp st; simp only [e]; exact sim_bind (k := fun z l S3 => opt (f' (.d y) z S3) S3) (pk := fun z pl5 => optP (g' y z) pl5) hc (fun z => sim_opt fun S w h => hf' y z S w h) l S pl fp st
        | false => intro l S pl fp st; simp only [e]; exact ⟨_, S, fp, Em, rfl, st, rfl, Nw.refl S fp⟩
      | _ => exact sim_no
def pNil : PX (List D) := fun pl => .ok [] pl
theorem sNil : SimL dNil pNil := sim_pure (e := List.map A.d) (v := [])
def pCons (a : PX D) (r : PX (List D)) : PX (List D) := fun pl => (a pl).bind fun x pl1 => (r pl1).bind fun xs pl2 => .ok (x :: xs) pl2
theorem sCons {da : DE} {dr : DR (List A)} {pa : PX D} {pr : PX (List D)} (ha : SimD da pa) (hr : SimL dr pr) : SimL (dCons da dr) (pCons pa pr) := sim_bind ha fun x => sim_bind hr fun xs => sim_pure (e := List.map A.d) (v := x :: xs)
theorem pures_mapD (xs : List D) : pures (xs.map .d) = some xs := by
  induction xs with
  | nil => rfl
  | cons x xs ih => simp [ih]
def mkP (f : List D → D) (xs : List D) (pl : PL) : PR D := if xs.length ≤ 16777216 then .ok (f xs) pl else .no
theorem sim_mk {f : List D → D} (xs : List D) : SimD (fun _ S => mkD f (xs.map .d) S) (fun pl => mkP f xs pl) := fun l S pl fp st => by
  show Out _ S fp l (mkD f (xs.map .d) S) (mkP f xs pl)
  unfold mkP mkD
  rw [pures_mapD]
  by_cases hz : xs.length ≤ 16777216
  · rw [if_pos hz]
    exact ⟨_, S, fp, Em, if_pos hz, st, rfl, Nw.refl S fp⟩
  · rw [if_neg hz]; trivial
def pTup (a : PX (List D)) : PX D := fun pl => (a pl).bind (mkP .tuple)
def pLst (a : PX (List D)) : PX D := fun pl => (a pl).bind (mkP .list)
theorem sTup {da : DR (List A)} {pa : PX (List D)} (h : SimL da pa) : SimD (dTup da) (pTup pa) := sim_bind h fun xs => sim_mk xs
theorem sLst {da : DR (List A)} {pa : PX (List D)} (h : SimL da pa) : SimD (dLst da) (pLst pa) := sim_bind h fun xs => sim_mk xs
def pCallB (g : List D → Option D) (a : PX (List D)) : PX D := fun pl => (a pl).bind fun xs pl1 => optP (g xs) pl1
theorem sCallB {f : List A → Store → Option A} {g : List D → Option D} {da : DR (List A)} {pa : PX (List D)} (hf : ∀ xs S z, g xs = some z → f (xs.map .d) S = some (.d z)) (h : SimL da pa) : SimD (dCallB f da) (pCallB g pa) := sim_bind h fun xs => sim_opt fun S z e => hf xs S z e
def pMth (T : String) (f : D → List D → Option D) (a : PX D) (as : PX (List D)) : PX D := fun pl => (a pl).bind fun x pl1 => if tyB T x = true then (as pl1).bind fun ys pl2 => optP (f x ys) pl2 else .no
theorem sMth {T : String} {f : D → List D → Option D} {da : DE} {das : DR (List A)} {pa : PX D} {pas : PX (List D)} (ha : SimD da pa) (has : SimL das pas) : SimD (dMth T f da das) (pMth T f pa pas) := sim_bind ha fun x => by
  by_cases ht : tyB T x = true
  · intro l S pl fp st
    simp only [ht, if_true]
    exact sim_bind (k := fun ys l S2 => opt (mthA f x ys) S2) (pk := fun ys pl2 => optP (f x ys) pl2) has (fun ys => sim_opt fun S z e => by unfold mthA; rw [pures_mapD]; simp [e]) l S pl fp st
  · intro l S pl fp st
    simp only [ht]
    trivial
def intOf : D → PL → PR (Option Int) := fun d pl => match d with
  | .int i => .ok (some i) pl
  | _ => .no
@[simp] theorem intOf_i (i : Int) (pl : PL) : intOf (.int i) pl = .ok (some i) pl := rfl
def pPart (d : Option (PX D)) : PX (Option Int) := match d with
  | none => fun pl => .ok none pl
  | some p => fun pl => (p pl).bind intOf
theorem sPart0 : SimO (dPart none) (pPart none) := sim_pure (e := id)
theorem sPart1 {da : DE} {pa : PX D} (ha : SimD da pa) : SimO (dPart (some da)) (pPart (some pa)) := sim_bind ha fun x => by
  cases x with
  | int i => exact sim_pure (e := id)
  | _ => exact sim_no
def pSl (a : PX D) (lo hi : PX (Option Int)) : PX D := fun pl => (a pl).bind fun x pl1 => (lo pl1).bind fun i pl2 => (hi pl2).bind fun j pl3 => optP (slD x i j) pl3
theorem sSl {da : DE} {pa : PX D} {dl dh : DR (Option Int)} {ql qh : PX (Option Int)} (ha : SimD da pa) (hl : SimO dl ql) (hh : SimO dh qh) : SimD (dSl da dl dh) (pSl pa ql qh) :=
  sim_bind ha fun x => sim_bind hl fun i => sim_bind hh fun j => sim_opt fun S z e => by
    show (slD x i j).map A.d = _
    rw [e]; rfl
def pItems (a : PX D) : PX (List D) := fun pl => (a pl).bind fun x pl1 => optP (itemsD x) pl1
theorem sItems {da : DE} {pa : PX D} (ha : SimD da pa) : SimI (dItems da) (pItems pa) := sim_bind ha fun x l S pl fp st => by
  show Out _ S fp l (match itemsD x with | some ds => Res.ok ds S | none => .no) (optP (itemsD x) pl)
  cases itemsD x with
  | none => trivial
  | some b => exact ⟨_, S, fp, Em, rfl, st, rfl, Nw.refl S fp⟩
theorem sim_rg {o : Option (List D)} : SimI (fun _ S => match o with | some ds => .ok ds S | none => .no) (fun pl => optP o pl) := fun l S pl fp st => by
  cases o with
  | none => trivial
  | some b => exact ⟨_, S, fp, Em, rfl, st, rfl, Nw.refl S fp⟩
def pRg1 (a : PX D) : PX (List D) := fun pl => (a pl).bind fun x pl1 => optP (rgI (.int 0) x) pl1
theorem sRg1 {da : DE} {pa : PX D} (ha : SimD da pa) : SimI (dRg1 da) (pRg1 pa) := sim_bind ha fun x => sim_rg
def pRg2 (a b : PX D) : PX (List D) := fun pl => (a pl).bind fun x pl1 => (b pl1).bind fun y pl2 => optP (rgI x y) pl2
theorem sRg2 {da db : DE} {pa pb : PX D} (ha : SimD da pa) (hb : SimD db pb) : SimI (dRg2 da db) (pRg2 pa pb) := sim_bind ha fun x => sim_bind hb fun y => sim_rg
def pRg3 (a b c : PX D) : PX (List D) := fun pl => (a pl).bind fun x pl1 => (b pl1).bind fun y pl2 => (c pl2).bind fun z pl3 => optP (rgC x y z) pl3
theorem sRg3 {da db dc : DE} {pa pb pc : PX D} (ha : SimD da pa) (hb : SimD db pb) (hc : SimD dc pc) : SimI (dRg3 da db dc) (pRg3 pa pb pc) := sim_bind ha fun x => sim_bind hb fun y => sim_bind hc fun z => sim_rg
def pTrue : PX Bool := fun pl => .ok true pl
theorem sTrue : SimT dTrue pTrue := sim_pure (e := id)
def pIsI (T : String) (a : PX D) : PX D := pOp1 (isI T) a
theorem sIsI {T : String} {da : DE} {pa : PX D} (ha : SimD da pa) : SimD (dIsI T da) (pIsI T pa) := sOp1 (fun x S z h => by show (isI T x).map A.d = _; rw [h]; rfl) ha
def tixP (d x : D) : Option D := match tixD d (.d x) with
  | some (.d z) => some z
  | _ => none
def pTix (d : D) (a : PX D) : PX D := fun pl => (a pl).bind fun x pl1 => optP (tixP d x) pl1
theorem sTix {d : D} {da : DE} {pa : PX D} (ha : SimD da pa) : SimD (dTix d da) (pTix d pa) := sim_bind ha fun x => sim_opt fun S z h => by
  unfold tixP at h
  split at h
  · rename_i e; cases h; exact e
  · cases h
end Pv

/-! Pv1: what is read out of slots; values that are held by themselves; lists that are changed. -/
namespace Pv
open PySem PySem.Spec L2 Ev
/-! ### expressions that change nothing at all -/
def SimQ (d : DE) (p : PX D) : Prop := ∀ l S pl fp, St S l pl fp → ∀ v pl', p pl = .ok v pl' → pl' = pl ∧ d l S = .ok (.d v) S
def SimQT (d : DR Bool) (p : PX Bool) : Prop := ∀ l S pl fp, St S l pl fp → ∀ v pl', p pl = .ok v pl' → pl' = pl ∧ d l S = .ok v S
def SimQL (d : DR (List A)) (p : PX (List D)) : Prop := ∀ l S pl fp, St S l pl fp → ∀ v pl', p pl = .ok v pl' → pl' = pl ∧ d l S = .ok (v.map .d) S
theorem pbind_ok {α β : Type} {r : PR α} {f : α → PL → PR β} {v : β} {pl' : PL} (h : r.bind f = .ok v pl') : ∃ a pl1, r = .ok a pl1 ∧ f a pl1 = .ok v pl' := by
  cases r with
  | ok a pl1 => exact ⟨a, pl1, rfl, h⟩
  | exc x pl1 => cases h
  | no => cases h
theorem opt_ok {β : Type} {o : Option β} {pl pl' : PL} {v : β} (h : optP o pl = .ok v pl') : o = some v ∧ pl' = pl := by
  cases o with
  | none => cases h
  | some w => cases h; exact ⟨rfl, rfl⟩
theorem qVal (x : D) : SimQ (dVal x) (pVal x) := fun l S pl fp st v pl' h => by cases h; exact ⟨rfl, rfl⟩
theorem qName (i : Nat) : SimQ (dName i) (pName i) := fun l S pl fp st v pl' h => by
  unfold pName datO at h
  split at h
  · rename_i x hx
    cases h
    obtain ⟨a, h1, h2⟩ := st.at_ i _ hx
    cases h2
    refine ⟨rfl, ?_⟩
    unfold dName
    rw [h1]
  · cases h
theorem qOp2 {f : A → A → Store → Option A} {g : D → D → Option D} {da db : DE} {pa pb : PX D} (hf : ∀ x y S z, g x y = some z → f (.d x) (.d y) S = some (.d z)) (ha : SimQ da pa) (hb : SimQ db pb) : SimQ (dOp2 f da db) (pOp2 g pa pb) := fun l S pl fp st v pl' h => by
  obtain ⟨x, pl1, e1, h1⟩ := pbind_ok h
  obtain ⟨y, pl2, e2, h2⟩ := pbind_ok h1
  obtain ⟨rfl, a1⟩ := ha l S pl fp st x pl1 e1
  obtain ⟨rfl, a2⟩ := hb l S _ fp st y pl2 e2
  obtain ⟨e3, rfl⟩ := opt_ok h2
  refine ⟨rfl, ?_⟩
  show (da l S).bind _ = _
  rw [a1, Res.ok_bind, a2, Res.ok_bind, hf x y S v e3]
  rfl
theorem qOp1 {f : A → Store → Option A} {g : D → Option D} {da : DE} {pa : PX D} (hf : ∀ x S z, g x = some z → f (.d x) S = some (.d z)) (ha : SimQ da pa) : SimQ (dOp1 f da) (pOp1 g pa) := fun l S pl fp st v pl' h => by
  obtain ⟨x, pl1, e1, h1⟩ := pbind_ok h
  obtain ⟨rfl, a1⟩ := ha l S pl fp st x pl1 e1
  obtain ⟨e3, rfl⟩ := opt_ok h1
  refine ⟨rfl, ?_⟩
  show (da l S).bind _ = _
  rw [a1, Res.ok_bind, hf x S v e3]
  rfl
theorem qNil : SimQL dNil pNil := fun l S pl fp st v pl' h => by cases h; exact ⟨rfl, rfl⟩
theorem qCons {da : DE} {dr : DR (List A)} {pa : PX D} {pr : PX (List D)} (ha : SimQ da pa) (hr : SimQL dr pr) : SimQL (dCons da dr) (pCons pa pr) := fun l S pl fp st v pl' h => by
  obtain ⟨x, pl1, e1, h1⟩ := pbind_ok h
  obtain ⟨y, pl2, e2, h2⟩ := pbind_ok h1
  obtain ⟨rfl, a1⟩ := ha l S pl fp st x pl1 e1
  obtain ⟨rfl, a2⟩ := hr l S _ fp st y pl2 e2
  cases h2
  refine ⟨rfl, ?_⟩
  show (da l S).bind _ = _
  rw [a1, Res.ok_bind, a2, Res.ok_bind]
  rfl
theorem qMk {f : List D → D} {da : DR (List A)} {pa : PX (List D)} (h : SimQL da pa) : SimQ (fun l S => (da l S).bind (mkD f)) (fun pl => (pa pl).bind (mkP f)) := fun l S pl fp st v pl' h2 => by
  obtain ⟨x, pl1, e1, h3⟩ := pbind_ok h2
  clear h2
  obtain ⟨rfl, a1⟩ := h l S pl fp st x pl1 e1
  unfold mkP at h3
  by_cases hz : x.length ≤ 16777216
  · rw [if_pos hz] at h3
    cases h3
    refine ⟨rfl, ?_⟩
    show (da l S).bind (mkD f) = _
    rw [a1, Res.ok_bind]
    unfold mkD
    rw [pures_mapD]
    exact if_pos hz
  · rw [if_neg hz] at h3; cases h3
theorem qTup {da : DR (List A)} {pa : PX (List D)} (h : SimQL da pa) : SimQ (dTup da) (pTup pa) := qMk h
theorem qLst {da : DR (List A)} {pa : PX (List D)} (h : SimQL da pa) : SimQ (dLst da) (pLst pa) := qMk h
theorem qCallB {f : List A → Store → Option A} {g : List D → Option D} {da : DR (List A)} {pa : PX (List D)} (hf : ∀ xs S z, g xs = some z → f (xs.map .d) S = some (.d z)) (h : SimQL da pa) : SimQ (dCallB f da) (pCallB g pa) := fun l S pl fp st v pl' h2 => by
  obtain ⟨x, pl1, e1, h3⟩ := pbind_ok h2
  obtain ⟨rfl, a1⟩ := h l S pl fp st x pl1 e1
  obtain ⟨e3, rfl⟩ := opt_ok h3
  refine ⟨rfl, ?_⟩
  show (da l S).bind _ = _
  rw [a1, Res.ok_bind, hf x S v e3]
  rfl
theorem qMth {T : String} {f : D → List D → Option D} {da : DE} {das : DR (List A)} {pa : PX D} {pas : PX (List D)} (ha : SimQ da pa) (has : SimQL das pas) : SimQ (dMth T f da das) (pMth T f pa pas) := fun l S pl fp st v pl' h => by
  obtain ⟨x, pl1, e1, h1⟩ := pbind_ok h
  clear h
  obtain ⟨rfl, a1⟩ := ha l S pl fp st x pl1 e1
  by_cases ht : tyB T x = true
  · rw [if_pos ht] at h1
    obtain ⟨ys, pl2, e2, h2⟩ := pbind_ok h1
    obtain ⟨rfl, a2⟩ := has l S _ fp st ys pl2 e2
    obtain ⟨e3, rfl⟩ := opt_ok h2
    refine ⟨rfl, ?_⟩
    unfold dMth
    rw [a1, Res.ok_bind]
    show (if tyB T x = true then _ else _) = _
    rw [if_pos ht, a2, Res.ok_bind]
    unfold mthA
    rw [pures_mapD]
    simp [e3]
  · rw [if_neg ht] at h1; cases h1
/-! ### paths -/
abbrev Pa := PL → Option PV
def SimR (d : DE) (r : Pa) : Prop := ∀ l S pl fp, St S l pl fp → ∀ v, r pl = some v → ∃ a m, d l S = .ok a S ∧ RV S a v m
def getO (o : Option (Option PV)) : Option PV := match o with
  | some o => o
  | none => none
@[simp] theorem getO_some (o : Option PV) : getO (some o) = o := rfl
def rName (i : Nat) : Pa := fun pl => getO (pl[i]?)
theorem rName_ok (i : Nat) : SimR (dName i) (rName i) := fun l S pl fp st v h => by
  have e : pl[i]? = some (some v) := by
    unfold rName getO at h
    split at h
    · rename_i o e; rw [e, h]
    · cases h
  obtain ⟨a, h1, h2⟩ := st.at_ i v e
  refine ⟨a, _, ?_, h2⟩
  unfold dName
  rw [h1]
theorem rName_at {i : Nat} {pl : PL} {v : PV} (h : rName i pl = some v) : pl[i]? = some (some v) := by
  unfold rName getO at h
  split at h
  · rename_i o e; rw [e, h]
  · cases h
theorem keys_look {β γ : Type} {f : Str} : ∀ {as : List (Str × β)} {vs : List (Str × γ)} {v : γ}, as.map Prod.fst = vs.map Prod.fst → vs.lookup f = some v → ∃ (j : Nat) (p : Str × β) (q : Str × γ), as[j]? = some p ∧ vs[j]? = some q ∧ q.2 = v ∧ as.lookup f = some p.2
  | [], [], _, _, h => nomatch h
  | [], _ :: _, _, k, _ => nomatch k
  | _ :: _, [], _, k, _ => nomatch k
  | (x, a) :: as, (y, b) :: vs, v, k, h => by
    simp only [List.map_cons, List.cons.injEq] at k
    obtain ⟨k1, k2⟩ := k
    subst k1
    rw [List.lookup_cons] at h
    by_cases hx : (f == x) = true
    · rw [hx] at h
      cases h
      exact ⟨0, _, _, rfl, rfl, rfl, by rw [List.lookup_cons, hx]⟩
    · have hx' : (f == x) = false := by simpa using hx
      rw [hx'] at h
      obtain ⟨j, p, q, e1, e2, e3, e4⟩ := keys_look k2 h
      exact ⟨j + 1, p, q, by simpa using e1, by simpa using e2, e3, by rw [List.lookup_cons, hx']; exact e4⟩
def fldP (fl : Nat → List Str) (f : Str) : PV → Option PV
  | .ins c fs => if (fl c).contains f then fs.lookup f else none
  | _ => none
@[simp] theorem fldP_ins (fl : Nat → List Str) (f : Str) (c : Nat) (fs : List (Str × PV)) : fldP fl f (.ins c fs) = if (fl c).contains f then fs.lookup f else none := rfl
theorem fldP_ok {fl : Nat → List Str} {f : Str} {S : Store} {a : A} {v w : PV} {m : FP} (r : RV S a v m) (h : fldP fl f v = some w) : ∃ b k, fldA fl f a S = some b ∧ RV S b w k := by
  cases r with
  | ins fp e hm hk hr h1 h2 =>
    rw [fldP_ins] at h
    split at h
    · rename_i hf
      obtain ⟨j, p, q, e1, e2, rfl, e4⟩ := keys_look hk h
      refine ⟨p.2, _, ?_, hr j p q e1 e2⟩
      unfold fldA objOf
      simp only [e, hf, if_true, e4]
    · cases h
  | _ => cases h
def rFld (fl : Nat → List Str) (f : Str) (r : Pa) : Pa := fun pl => (r pl).bind (fldP fl f)
theorem rFld_ok {fl : Nat → List Str} {f : Str} {d : DE} {r : Pa} (h : SimR d r) : SimR (dOp1 (fldA fl f) d) (rFld fl f r) := fun l S pl fp st v e => by
  unfold rFld at e
  obtain ⟨x, hx, e⟩ := Option.bind_eq_some_iff.mp e
  obtain ⟨a, m, e1, r1⟩ := h l S pl fp st x hx
  obtain ⟨b, k, e2, r2⟩ := fldP_ok r1 e
  refine ⟨b, k, ?_, r2⟩
  show (d l S).bind _ = _
  rw [e1, Res.ok_bind, e2]
  rfl
def uniP (kvs : List (D × PV)) (k : D) : Bool := keyB k && kvs.all fun p => isTup p.1 == isTup k
def dGetP (kvs : List (D × PV)) (k : D) : Option PV := (kvs.find? fun p => decide (Ev.keyOf p.1 = Ev.keyOf k)).map (·.2)
theorem all_keys {β γ : Type} (f : D → Bool) : ∀ {as : List (D × β)} {vs : List (D × γ)}, as.map Prod.fst = vs.map Prod.fst → (as.all fun p => f p.1) = vs.all fun p => f p.1
  | [], [], _ => rfl
  | [], _ :: _, k => nomatch k
  | _ :: _, [], k => nomatch k
  | a :: as, b :: vs, k => by
    simp only [List.map_cons, List.cons.injEq] at k
    simp only [List.all_cons, k.1, all_keys f k.2]
theorem uni_eq {as : List (D × A)} {vs : List (D × PV)} (h : as.map Prod.fst = vs.map Prod.fst) (k : D) : uni as k = uniP vs k := by
  unfold uni uniP
  rw [all_keys (fun x => isTup x == isTup k) h]
theorem find_keys {β γ : Type} (f : D → Bool) : ∀ {as : List (D × β)} {vs : List (D × γ)}, as.map Prod.fst = vs.map Prod.fst → (as.find? (fun p => f p.1) = none ∧ vs.find? (fun p => f p.1) = none) ∨ ∃ (j : Nat) (p : D × β) (q : D × γ), as[j]? = some p ∧ vs[j]? = some q ∧ as.find? (fun p => f p.1) = some p ∧ vs.find? (fun p => f p.1) = some q
  | [], [], _ => .inl ⟨rfl, rfl⟩
  | [], _ :: _, k => nomatch k
  | _ :: _, [], k => nomatch k
  | a :: as, b :: vs, k => by
    simp only [List.map_cons, List.cons.injEq] at k
    by_cases hf : f a.1 = true
    · exact .inr ⟨0, a, b, rfl, rfl, by simp [List.find?_cons, hf], by simp [List.find?_cons, ← k.1, hf]⟩
    · have hf' : f a.1 = false := by simpa using hf
      rcases find_keys f k.2 with ⟨e1, e2⟩ | ⟨j, p, q, e1, e2, e3, e4⟩
      · exact .inl ⟨by simp [List.find?_cons, hf', e1], by simp [List.find?_cons, ← k.1, hf', e2]⟩
      · exact .inr ⟨j + 1, p, q, by simpa using e1, by simpa using e2, by simp [List.find?_cons, hf', e3], by simp [List.find?_cons, ← k.1, hf', e4]⟩
def ixP : PV → D → Option PV
  | .d x, k => (ixD x k).map .d
  | .fz x, .int i => (ixD x (.int i)).map .d
  | .lst vs, .int i => atI vs i
  | .dic kvs, k => if uniP kvs k = true then dGetP kvs k else none
  | _, _ => none
theorem ixP_d (x k : D) : ixP (.d x) k = (ixD x k).map .d := rfl
@[simp] theorem ixP_dl (ds : List D) (i : Int) : ixP (.d (.list ds)) (.int i) = (atI ds i).map .d := rfl
@[simp] theorem ixP_dt (ds : List D) (i : Int) : ixP (.d (.tuple ds)) (.int i) = (atI ds i).map .d := rfl
@[simp] theorem ixP_l (vs : List PV) (i : Int) : ixP (.lst vs) (.int i) = atI vs i := rfl
@[simp] theorem ixP_dic (kvs : List (D × PV)) (k : D) : ixP (.dic kvs) k = if uniP kvs k = true then dGetP kvs k else none := rfl
theorem atI_rel {as : List A} {vs : List PV} {i : Int} {v : PV} (hl : as.length = vs.length) (h : atI vs i = some v) : ∃ (j : Nat) (a : A), as[j]? = some a ∧ vs[j]? = some v ∧ atI as i = some a := by
  unfold atI at h ⊢
  rw [hl]
  obtain ⟨j, e1, e2⟩ := Option.bind_eq_some_iff.mp h
  have hj : j < as.length := by rw [hl]; exact (List.getElem?_eq_some_iff.mp e2).1
  exact ⟨j, as[j], List.getElem?_eq_getElem hj, e2, by rw [e1]; exact List.getElem?_eq_getElem hj⟩
theorem ixP_ok {S : Store} {a : A} {v w : PV} {k : D} {m : FP} (r : RV S a v m) (h : ixP v k = some w) : ∃ b n, ixU a (.d k) S = some b ∧ RV S b w n := by
  cases r with
  | d x m =>
    obtain ⟨z, hz, rfl⟩ := Option.map_eq_some_iff.mp (show (ixD x k).map PV.d = some w from h)
    refine ⟨.d z, Em, ?_, .d z _⟩
    show (ixD x k).map A.d = _
    rw [hz]; rfl
  | fz e hm =>
    rename_i n x
    cases k with
    | int i =>
      obtain ⟨z, hz, rfl⟩ := Option.map_eq_some_iff.mp (show (ixD x (.int i)).map PV.d = some w from h)
      refine ⟨.d z, Em, ?_, .d z _⟩
      unfold ixU ixA
      simp only [e, hz]
      rfl
    | _ => cases h
  | lst fp e hm hl hr h1 h2 =>
    cases k with
    | int i =>
      obtain ⟨j, b, e1, e2, e3⟩ := atI_rel hl (show atI _ i = some w from h)
      refine ⟨b, _, ?_, hr j b w e1 e2⟩
      unfold ixU ixA
      simp only [e, e3]
    | _ => cases h
  | dic fp e hm hk hr h1 h2 =>
    rename_i n as vs
    rw [ixP_dic] at h
    split at h
    · rename_i hu
      rcases find_keys (fun x => decide (Ev.keyOf x = Ev.keyOf k)) hk with ⟨e1, e2⟩ | ⟨j, p, q, e1, e2, e3, e4⟩
      · unfold dGetP at h; rw [e2] at h; cases h
      · unfold dGetP at h
        rw [e4] at h
        cases h
        refine ⟨p.2, _, ?_, hr j p q e1 e2⟩
        unfold ixU
        simp only [e, uni_eq hk k, hu, if_true]
        unfold dGet
        rw [e3]
        rfl
    · cases h
  | _ => cases h
def pureV {α : Type} (r : PR α) : Option α := match r with
  | .ok v _ => some v
  | _ => none
@[simp] theorem pureV_ok {α : Type} (v : α) (pl : PL) : pureV (.ok v pl) = some v := rfl
def rIx (r : Pa) (s : PX D) : Pa := fun pl => (pureV (s pl)).bind fun k => (r pl).bind fun x => ixP x k
theorem rIx_ok {d e : DE} {r : Pa} {s : PX D} (h : SimR d r) (hs : SimQ e s) : SimR (dOp2 ixU d e) (rIx r s) := fun l S pl fp st v q => by
  unfold rIx at q
  obtain ⟨k, hk, q⟩ := Option.bind_eq_some_iff.mp q
  obtain ⟨x, hx, q⟩ := Option.bind_eq_some_iff.mp q
  cases hp : s pl with
  | ok y pl' =>
    rw [hp] at hk; cases hk
    obtain ⟨_, e2⟩ := hs l S pl fp st k pl' hp
    obtain ⟨a, m, e1, r1⟩ := h l S pl fp st x hx
    obtain ⟨b, n, e3, r3⟩ := ixP_ok r1 q
    refine ⟨b, n, ?_, r3⟩
    show (d l S).bind _ = _
    rw [e1, Res.ok_bind, e2, Res.ok_bind, e3]
    rfl
  | _ => rw [hp] at hk; cases hk
/-! ### plain data out of paths -/
def pRd (r : Pa) : PX D := fun pl => datO (some (r pl)) pl
theorem datO_ok {o : Option (Option PV)} {pl pl' : PL} {v : D} (h : datO o pl = .ok v pl') : o = some (some (.d v)) ∧ pl' = pl := by
  unfold datO at h
  split at h
  · cases h; exact ⟨rfl, rfl⟩
  · cases h
theorem qRd {d : DE} {r : Pa} (h : SimR d r) : SimQ d (pRd r) := fun l S pl fp st v pl' e => by
  obtain ⟨e1, rfl⟩ := datO_ok e
  obtain ⟨a, m, e2, r2⟩ := h l S _ fp st _ (Option.some.inj e1)
  cases r2
  exact ⟨rfl, e2⟩
theorem SimQ.sim {d : DE} {p : PX D} (h : SimQ d p) (hx : ∀ pl, ∀ x pl', p pl ≠ .exc x pl') : SimD d p := fun l S pl fp st => by
  cases hp : p pl with
  | no => trivial
  | exc x pl' => exact absurd hp (hx pl x pl')
  | ok v pl' =>
    obtain ⟨rfl, e⟩ := h l S pl fp st v pl' hp
    exact ⟨_, S, fp, Em, e, st, rfl, Nw.refl S fp⟩
theorem sRd {d : DE} {r : Pa} (h : SimR d r) : SimD d (pRd r) := (qRd h).sim fun pl x pl' e => by
  unfold pRd datO at e
  split at e <;> cases e
def lenP : PV → Option D
  | .d (.str z) => if z.length ≤ 16777216 then some (.int z.length) else none
  | .d (.list ds) => some (.int ds.length)
  | .d (.tuple ds) => some (.int ds.length)
  | .lst vs => some (.int vs.length)
  | .dic kvs => some (.int kvs.length)
  | .fz (.list ds) => some (.int ds.length)
  | _ => none
@[simp] theorem lenP_dl (ds : List D) : lenP (.d (.list ds)) = some (.int ds.length) := rfl
@[simp] theorem lenP_dt (ds : List D) : lenP (.d (.tuple ds)) = some (.int ds.length) := rfl
@[simp] theorem lenP_l (vs : List PV) : lenP (.lst vs) = some (.int vs.length) := rfl
@[simp] theorem lenP_dic (vs : List (D × PV)) : lenP (.dic vs) = some (.int vs.length) := rfl
theorem lenP_ok {S : Store} {a : A} {v : PV} {m : FP} {z : D} (r : RV S a v m) (h : lenP v = some z) : lenA [a] S = some (.d z) := by
  cases r with
  | d x m =>
    cases x with
    | str s =>
      have h : (if s.length ≤ 16777216 then some (PyData.int s.length) else none) = some z := h
      split at h
      · rename_i hz
        cases h
        exact if_pos hz
      · cases h
    | list ds => cases h; rfl
    | tuple ds => cases h; rfl
    | _ => cases h
  | fz e hm =>
    rename_i n x
    cases x with
    | list ds => cases h; unfold lenA; simp only [e]
    | _ => cases h
  | lst fp e hm hl hr h1 h2 => cases h; unfold lenA; simp only [e, hl]
  | dic fp e hm hk hr h1 h2 =>
    cases h
    have hl := congrArg List.length hk
    simp only [List.length_map] at hl
    unfold lenA
    simp only [e, hl]
  | _ => cases h
def pLen (r : Pa) : PX D := fun pl => optP ((r pl).bind lenP) pl
theorem qLen {d : DE} {r : Pa} (h : SimR d r) : SimQ (dCallB lenA (dCons d dNil)) (pLen r) := fun l S pl fp st v pl' e => by
  obtain ⟨e1, rfl⟩ := opt_ok e
  obtain ⟨x, hx, e1⟩ := Option.bind_eq_some_iff.mp e1
  obtain ⟨a, m, e2, r2⟩ := h l S _ fp st x hx
  refine ⟨rfl, ?_⟩
  show ((d l S).bind _).bind _ = _
  rw [e2, Res.ok_bind]
  show opt (lenA [a] S) S = _
  rw [lenP_ok r2 e1]
  rfl
theorem sLen {d : DE} {r : Pa} (h : SimR d r) : SimD (dCallB lenA (dCons d dNil)) (pLen r) := (qLen h).sim fun pl x pl' e => by
  unfold pLen optP at e
  split at e <;> cases e
/-- len of what is told by an expression -/
def lenDP (xs : List D) : Option D := match xs with
  | [x] => lenP (.d x)
  | _ => none
@[simp] theorem lenDP_1 (x : D) : lenDP [x] = lenP (.d x) := rfl
theorem lenDP_ok (xs : List D) (S : Store) (z : D) (h : lenDP xs = some z) : lenA (xs.map .d) S = some (.d z) := by
  unfold lenDP at h
  split at h
  · exact lenP_ok (RV.d _ Em) h
  · cases h
/-- d[k], r a path, b whatever tells k; r a name, or b without change -/
def pIx (r : Pa) (b : PX D) : PX D := fun pl => if (r pl).isSome = true then (b pl).bind fun k pl1 => datO (some ((r pl1).bind fun x => ixP x k)) pl1 else .no
/-- a name's value, whatever comes behind -/
theorem name_first {γ δ : Type} {rel : Rl γ δ} {i : Nat} {p : PX δ} {k : A → DR γ} (h : ∀ l S pl fp, St S l pl fp → ∀ a, l[i]? = some (some a) → Out rel S fp l (k a l S) (p pl)) : Sim rel (fun l S => (dName i l S).bind fun a S1 => k a l S1) (fun pl => if (rName i pl).isSome = true then p pl else .no) := fun l S pl fp st => by
  show Out rel S fp l ((dName i l S).bind fun a S1 => k a l S1) (if (rName i pl).isSome = true then p pl else .no)
  by_cases hs : (rName i pl).isSome = true
  · obtain ⟨v, hv⟩ := Option.isSome_iff_exists.mp hs
    obtain ⟨a, ha, _⟩ := st.at_ i v (rName_at hv)
    have e0 : dName i l S = .ok a S := by unfold dName; rw [ha]
    rw [if_pos hs, e0, Res.ok_bind]
    exact h l S pl fp st a ha
  · rw [if_neg hs]; trivial
theorem sIxN {i : Nat} {db : DE} {pb : PX D} (hb : SimD db pb) : SimD (dOp2 ixU (dName i) db) (pIx (rName i) pb) := name_first fun l S pl fp st a ha => by
  have q := hb l S pl fp st
  show Out _ S fp l ((db l S).bind fun y S2 => opt (ixU a y S2) S2) ((pb pl).bind _)
  cases hp : pb pl with
  | no => trivial
  | exc x pl1 =>
    rw [hp] at q
    obtain ⟨S1, fp1, e1, st1, n1⟩ := q
    exact ⟨S1, fp1, by rw [e1]; rfl, st1, n1⟩
  | ok k pl1 =>
    rw [hp] at q
    obtain ⟨_, S1, fp1, m1, e1, st1, rfl, n1⟩ := q
    rw [PR.ok_bind]
    cases hr : (rName i pl1).bind fun x => ixP x k with
    | none => trivial
    | some w =>
      cases w with
      | d z =>
        obtain ⟨x, hx, e2⟩ := Option.bind_eq_some_iff.mp hr
        obtain ⟨b, hb1, rb⟩ := st1.at_ i x (rName_at hx)
        rw [ha] at hb1; cases hb1
        obtain ⟨c, n, e3, r3⟩ := ixP_ok rb e2
        cases r3
        exact ⟨_, S1, fp1, m1, by rw [e1, Res.ok_bind, e3]; rfl, st1, rfl, n1⟩
      | _ => trivial
theorem qIx {d e : DE} {r : Pa} {b : PX D} (h : SimR d r) (hb : SimQ e b) : SimQ (dOp2 ixU d e) (pIx r b) := fun l S pl fp st v pl' q => by
  unfold pIx at q
  split at q
  · obtain ⟨k, pl1, e1, q1⟩ := pbind_ok q
    clear q
    obtain ⟨rfl, a1⟩ := hb l S pl fp st k pl1 e1
    obtain ⟨q2, rfl⟩ := datO_ok q1
    obtain ⟨x, hx, e2⟩ := Option.bind_eq_some_iff.mp (Option.some.inj q2)
    obtain ⟨a, m, e3, r1⟩ := h l S _ fp st x hx
    obtain ⟨c, n, e4, r3⟩ := ixP_ok r1 e2
    cases r3
    refine ⟨rfl, ?_⟩
    show (d l S).bind _ = _
    rw [e3, Res.ok_bind, a1, Res.ok_bind, e4]
    rfl
  · cases q
/-! ### in, not in -/
def inP (x : D) : PV → Option Bool
  | .d y => inD x y
  | .dic kvs => if uniP kvs x = true then some (dGetP kvs x).isSome else none
  | _ => none
@[simp] theorem inP_d (x y : D) : inP x (.d y) = inD x y := rfl
@[simp] theorem inP_dic (x : D) (kvs : List (D × PV)) : inP x (.dic kvs) = if uniP kvs x = true then some (dGetP kvs x).isSome else none := rfl
theorem inP_ok {S : Store} {a : A} {v : PV} {x : D} {m : FP} {b : Bool} (r : RV S a v m) (h : inP x v = some b) : inU (.d x) a S = some (.d (.bool b)) ∧ ninU (.d x) a S = some (.d (.bool !b)) := by
  cases r with
  | d y m =>
    have h : inD x y = some b := h
    constructor
    · show (boolD inD x y).map A.d = _
      unfold boolD
      rw [h]; rfl
    · show (notD inD x y).map A.d = _
      unfold notD
      rw [h]; rfl
  | dic fp e hm hk hr h1 h2 =>
    rename_i n as vs
    rw [inP_dic] at h
    split at h
    · rename_i hu
      cases h
      have es : (dGet as x).isSome = (dGetP vs x).isSome := by
        unfold dGet dGetP
        rcases find_keys (fun z => decide (Ev.keyOf z = Ev.keyOf x)) hk with ⟨e1, e2⟩ | ⟨j, p, q, e1, e2, e3, e4⟩
        · rw [e1, e2]; rfl
        · rw [e3, e4]; rfl
      unfold inU ninU
      simp only [e, uni_eq hk x, hu, if_true, es, and_self]
    · cases h
  | _ => cases h
/-- x in path; the path a name, or x without change -/
def pIn (n : Bool) (a : PX D) (r : Pa) : PX D := fun pl => (a pl).bind fun x pl1 => optP (((r pl1).bind (inP x)).map fun b => .bool (b != n)) pl1
theorem inP_op {S : Store} {a : A} {v : PV} {x : D} {m : FP} {b : Bool} (r : RV S a v m) (h : inP x v = some b) (n : Bool) : (if n then ninU else inU) (.d x) a S = some (.d (.bool (b != n))) := by
  obtain ⟨h1, h2⟩ := inP_ok r h
  cases n with
  | true => rw [if_pos rfl, h2]; simp
  | false => rw [if_neg (by decide), h1]; simp
theorem sIn (n : Bool) {i : Nat} {da : DE} {pa : PX D} (ha : SimD da pa) : SimD (dOp2 (if n then ninU else inU) da (dName i)) (pIn n pa (rName i)) := sim_bind ha fun x l S pl fp st => by
  show Out _ S fp l ((dName i l S).bind fun y S2 => opt ((if n then ninU else inU) (.d x) y S2) S2) (optP (((rName i pl).bind (inP x)).map fun b => PyData.bool (b != n)) pl)
  cases hr : (rName i pl).bind (inP x) with
  | none => trivial
  | some b =>
    obtain ⟨v, hv, e2⟩ := Option.bind_eq_some_iff.mp hr
    obtain ⟨a, h1, h2⟩ := st.at_ i v (rName_at hv)
    have e0 : dName i l S = .ok a S := by unfold dName; rw [h1]
    refine ⟨_, S, fp, Em, ?_, st, rfl, Nw.refl S fp⟩
    rw [e0, Res.ok_bind, inP_op h2 e2]
    rfl
theorem qIn (n : Bool) {da d : DE} {pa : PX D} {r : Pa} (ha : SimQ da pa) (h : SimR d r) : SimQ (dOp2 (if n then ninU else inU) da d) (pIn n pa r) := fun l S pl fp st v pl' q => by
  unfold pIn at q
  obtain ⟨k, pl1, e1, q1⟩ := pbind_ok q
  clear q
  obtain ⟨rfl, a1⟩ := ha l S pl fp st k pl1 e1
  obtain ⟨q2, rfl⟩ := opt_ok q1
  obtain ⟨b, hb, rfl⟩ := Option.map_eq_some_iff.mp q2
  obtain ⟨x, hx, e2⟩ := Option.bind_eq_some_iff.mp hb
  obtain ⟨a, m, e3, r1⟩ := h l S _ fp st x hx
  refine ⟨rfl, ?_⟩
  show (da l S).bind _ = _
  rw [a1, Res.ok_bind, e3, Res.ok_bind, inP_op r1 e2]
  rfl
/-- is None, of whatever a path holds -/
def isNP (n : Bool) : PV → D := fun v => match v with
  | .d .none => .bool (!n)
  | _ => .bool n
def pIsN (n : Bool) (r : Pa) : PX D := fun pl => optP ((r pl).map (isNP n)) pl
theorem isN_ok {S : Store} {a : A} {v : PV} {m : FP} (r : RV S a v m) (n : Bool) : (if n then isnA else isA) a (.d .none) S = some (.d (isNP n v)) := by
  cases r with
  | d x m => cases x <;> cases n <;> rfl
  | _ => cases n <;> rfl
theorem qIsN (n : Bool) {d : DE} {r : Pa} (h : SimR d r) : SimQ (dOp2 (if n then isnA else isA) d (dVal .none)) (pIsN n r) := fun l S pl fp st v pl' q => by
  obtain ⟨q2, rfl⟩ := opt_ok q
  obtain ⟨x, hx, rfl⟩ := Option.map_eq_some_iff.mp q2
  obtain ⟨a, m, e3, r1⟩ := h l S _ fp st x hx
  refine ⟨rfl, ?_⟩
  show (d l S).bind _ = _
  rw [e3, Res.ok_bind]
  show opt ((if n then isnA else isA) a (.d .none) S) S = _
  rw [isN_ok r1]
  rfl
theorem sIsN (n : Bool) {d : DE} {r : Pa} (h : SimR d r) : SimD (dOp2 (if n then isnA else isA) d (dVal .none)) (pIsN n r) := (qIsN n h).sim fun pl x pl' e => by
  unfold pIsN optP at e
  split at e <;> cases e
/-! ### data of operations -/
def op_pu2 {g : D → D → Option D} (x y : D) (S : Store) (z : D) (h : g x y = some z) : pu2 g (.d x) (.d y) S = some (.d z) := by
  show (g x y).map A.d = _
  rw [h]; rfl
def op_pu1 {g : D → Option D} (x : D) (S : Store) (z : D) (h : g x = some z) : pu1 g (.d x) S = some (.d z) := by
  show (g x).map A.d = _
  rw [h]; rfl
def p1 (g : D → Option D) : List D → Option D := fun xs => match xs with
  | [x] => g x
  | _ => none
def p2 (g : D → D → Option D) : List D → Option D := fun xs => match xs with
  | [x, y] => g x y
  | _ => none
@[simp] theorem p1_1 (g : D → Option D) (x : D) : p1 g [x] = g x := rfl
@[simp] theorem p2_2 (g : D → D → Option D) (x y : D) : p2 g [x, y] = g x y := rfl
theorem op_pf1 {g : D → Option D} (xs : List D) (S : Store) (z : D) (h : p1 g xs = some z) : pf1 g (xs.map .d) S = some (.d z) := by
  unfold p1 at h
  split at h
  · show (g _).map A.d = _
    rw [h]; rfl
  · cases h
theorem op_pf2 {g : D → D → Option D} (xs : List D) (S : Store) (z : D) (h : p2 g xs = some z) : pf2 g (xs.map .d) S = some (.d z) := by
  unfold p2 at h
  split at h
  · show (g _ _).map A.d = _
    rw [h]; rfl
  · cases h
theorem op_ixD (x y : D) (S : Store) (z : D) (h : ixD x y = some z) : ixU (.d x) (.d y) S = some (.d z) := by
  show (ixD x y).map A.d = _
  rw [h]; rfl
def mulP (x y : D) : Option D := match mulU (.d x) (.d y) [] with
  | some (.d z) => some z
  | _ => none
theorem mul_same (x y : D) (S : Store) : mulU (.d x) (.d y) S = mulU (.d x) (.d y) [] := by
  unfold mulU
  split <;> first | rfl | (unfold mulA; split <;> first | rfl | simp_all)
theorem op_mul (x y : D) (S : Store) (z : D) (h : mulP x y = some z) : mulU (.d x) (.d y) S = some (.d z) := by
  unfold mulP at h
  rw [mul_same]
  split at h
  · rename_i e; cases h; exact e
  · cases h
theorem op_is (x : D) (k : D) (S : Store) (z : D) (h : isA (.d x) (.d k) [] = some (.d z)) : isA (.d x) (.d k) S = some (.d z) := h
def sortP (xs : List D) : Option D := match xs with
  | [.list ds] => (intsOf ds).map fun ns => .list ((sortN ns).map .int)
  | _ => none
theorem op_sort (xs : List D) (S : Store) (z : D) (h : sortP xs = some z) : sortA (xs.map .d) S = some (.d z) := by
  unfold sortP at h
  split at h
  · obtain ⟨ns, h1, rfl⟩ := Option.map_eq_some_iff.mp h
    show (intsOf _).map _ = _
    rw [h1]; rfl
  · cases h
end Pv

/-! Pv2: what slots hold by themselves is made, changed, moved. -/
namespace Pv
open PySem PySem.Spec L2 Ev
/-- slot j's footprint is m -/
def pin (fp : Nat → FP) (j : Nat) (m : FP) : Nat → FP := fun k i => (k = j ∧ m i) ∨ (k ≠ j ∧ fp k i)
theorem pin_same {fp : Nat → FP} {j i : Nat} {m : FP} : pin fp j m j i ↔ m i := by simp [pin]
theorem pin_ne {fp : Nat → FP} {j k i : Nat} {m : FP} (h : k ≠ j) : pin fp j m k i ↔ fp k i := by simp [pin, h]
theorem RV.pinS {S : Store} {a : A} {v : PV} {m : FP} {fp : Nat → FP} {j : Nat} (h : RV S a v m) : RV S a v (pin fp j m j) := h.mono fun i hi => pin_same.mpr hi
theorem RV.pinN {S : Store} {a : A} {v : PV} {m : FP} {fp : Nat → FP} {j k : Nat} (h : RV S a v (fp k)) (hk : k ≠ j) : RV S a v (pin fp j m k) := h.mono fun i hi => (pin_ne hk).mpr hi
/-- slot j gets other content -/
theorem St.put {S S' : Store} {l l' : Ev.Loc} {pl : PL} {fp : Nat → FP} {j : Nat} {w : PV} {a : A} {m : FP} (st : St S l pl fp) (hj : j < pl.length) (hl : l'.length = l.length) (ha : l'[j]? = some (some a)) (hn : ∀ k, k ≠ j → l'[k]? = l[k]?) (r : RV S' a w m) (keep : ∀ k i, k ≠ j → fp k i → S'[i]? = S[i]?) (le : S.length ≤ S'.length) (bd : ∀ i, m i → i < S'.length) (dis : ∀ k i, k ≠ j → fp k i → m i → False) :
    St S' l' (pl.set j (some w)) (pin fp j m) := by
  refine ⟨by rw [hl, List.length_set]; exact st.len, fun k v hk => ?_, fun x y i hx hy => ?_, fun k i hk => ?_⟩
  · by_cases e : k = j
    · subst e
      rw [List.getElem?_set_self hj] at hk
      cases hk
      exact ⟨a, ha, r.pinS⟩
    · rw [List.getElem?_set_ne (Ne.symm e)] at hk
      obtain ⟨b, h1, h2⟩ := st.at_ k v hk
      exact ⟨b, by rw [hn k e]; exact h1, (h2.stay fun i hi => keep k i e hi).pinN e⟩
  · rcases hx with ⟨rfl, hx⟩ | ⟨ex, hx⟩
    · rcases hy with ⟨rfl, hy⟩ | ⟨ey, hy⟩
      · rfl
      · exact (dis y i ey hy hx).elim
    · rcases hy with ⟨rfl, hy⟩ | ⟨ey, hy⟩
      · exact (dis x i ex hx hy).elim
      · exact st.dj x y i hx hy
  · rcases hk with ⟨rfl, hk⟩ | ⟨e, hk⟩
    · exact bd i hk
    · exact Nat.lt_of_lt_of_le (st.bd k i hk) le
/-- slot j is left -/
theorem St.leave {S : Store} {l : Ev.Loc} {pl : PL} {fp : Nat → FP} {j : Nat} (st : St S l pl fp) (hj : j < pl.length) : St S l (pl.set j none) (pin fp j Em) := by
  refine ⟨by rw [List.length_set]; exact st.len, fun k v hk => ?_, fun x y i hx hy => ?_, fun k i hk => ?_⟩
  · by_cases e : k = j
    · subst e
      rw [List.getElem?_set_self hj] at hk
      cases hk
    · rw [List.getElem?_set_ne (Ne.symm e)] at hk
      obtain ⟨b, h1, h2⟩ := st.at_ k v hk
      exact ⟨b, h1, h2.pinN e⟩
  · rcases hx with ⟨_, hx⟩ | ⟨ex, hx⟩
    · exact hx.elim
    · rcases hy with ⟨_, hy⟩ | ⟨ey, hy⟩
      · exact hy.elim
      · exact st.dj x y i hx hy
  · rcases hk with ⟨_, hk⟩ | ⟨e, hk⟩
    · exact hk.elim
    · exact st.bd k i hk
/-- a cell that is a slot's is written -/
theorem Nw.upd {S S1 : Store} {fp fp1 fp2 : Nat → FP} {m m2 : FP} {n : Nat} {c : Cell} (a : Nw S fp S1 fp1 m) (hn : (∃ j, fp1 j n) ∨ m n) (h2 : ∀ k i, fp2 k i → (∃ j, fp1 j i) ∨ m i) (h3 : ∀ i, m2 i → (∃ j, fp1 j i) ∨ m i) (h4 : ∀ i k, m2 i → fp2 k i → False) (bd : ∀ j i, fp1 j i → i < S1.length) : Nw S fp (S1.set n c) fp2 m2 := by
  have up : ∀ i, (∃ k, fp1 k i) ∨ m i → (∃ k, fp k i) ∨ S.length ≤ i := fun i h => by
    rcases h with ⟨k, h⟩ | h
    · exact a.sub k i h
    · exact a.vs i h
  refine ⟨by rw [List.length_set]; exact a.le, fun i hi hk => ?_, fun j i h => up i (h2 j i h), fun i h => ?_, h4, fun i h => up i (h3 i h)⟩
  · rw [List.getElem?_set_ne]
    · exact a.fr i hi hk
    · rintro rfl
      rcases up n hn with ⟨k, h⟩ | h
      · exact hk k h
      · exact absurd hi (Nat.not_lt.mpr h)
  · rw [List.length_set]
    rcases h3 i h with ⟨k, h⟩ | h
    · exact bd k i h
    · exact a.vb i h
/-! ### a value that is one's own -/
/-- plain data -/
def pD (p : PX D) : PX PV := fun pl => (p pl).bind fun x pl1 => .ok (.d x) pl1
theorem sD {d : DE} {p : PX D} (h : SimD d p) : SimE d (pD p) := fun l S pl fp st => by
  have q := h l S pl fp st
  show Out _ S fp l (d l S) ((p pl).bind _)
  cases hp : p pl with
  | no => trivial
  | exc x pl1 => rw [hp] at q; exact q
  | ok v pl1 =>
    rw [hp] at q
    obtain ⟨_, S1, fp1, m1, e1, st1, rfl, n1⟩ := q
    exact ⟨_, S1, fp1, Em, e1, st1, .d v _, n1.drop⟩
/-- what a name holds moves -/
def pMove (i : Nat) : PX PV := fun pl => match pl[i]? with
  | some (some v) => .ok v (pl.set i none)
  | _ => .no
theorem sMove (i : Nat) : SimE (dName i) (pMove i) := fun l S pl fp st => by
  show Out _ S fp l (dName i l S) (match pl[i]? with | some (some v) => .ok v (pl.set i none) | _ => .no)
  split
  · rename_i v hv
    obtain ⟨a, h1, h2⟩ := st.at_ i v hv
    have hi := (List.getElem?_eq_some_iff.mp hv).1
    refine ⟨a, S, pin fp i Em, fp i, ?_, st.leave hi, h2, Nat.le_refl _, fun _ _ _ => rfl, fun j k h => ?_, fun k h => st.bd i k h, fun k j h h' => ?_, fun k h => .inl ⟨i, h⟩⟩
    · unfold dName; rw [h1]
    · rcases h with ⟨_, h⟩ | ⟨_, h⟩
      · exact h.elim
      · exact .inl ⟨j, h⟩
    · rcases h' with ⟨_, h'⟩ | ⟨e, h'⟩
      · exact h'
      · exact e (st.dj j i k h' h)
  · trivial
/-- a new cell -/
theorem new_cell {S : Store} {l : Ev.Loc} {pl : PL} {fp : Nat → FP} {c : Cell} (st : St S l pl fp) : St (S ++ [c]) l pl fp ∧ Nw S fp (S ++ [c]) fp (fun i => i = S.length) := by
  have k : ∀ i, i < S.length → (S ++ [c])[i]? = S[i]? := fun i hi => List.getElem?_append_left hi
  refine ⟨⟨st.len, fun j v hv => ?_, st.dj, fun j i h => by rw [List.length_append]; exact Nat.lt_add_right _ (st.bd j i h)⟩, by simp, fun i hi _ => k i hi, fun j i h => .inl ⟨j, h⟩, fun i h => by subst h; simp, fun i j h h' => ?_, fun i h => .inr (by omega)⟩
  · obtain ⟨a, h1, h2⟩ := st.at_ j v hv
    exact ⟨a, h1, h2.stay fun i hi => k i (st.bd j i hi)⟩
  · subst h
    exact absurd (st.bd j _ h') (Nat.lt_irrefl _)
/-- a list of plain data that may be changed -/
def pLstM (a : PX (List D)) : PX PV := fun pl => (a pl).bind fun xs pl1 => if xs.length ≤ 16777216 then .ok (.lst (xs.map .d)) pl1 else .no
theorem rv_data {S : Store} {n : Nat} {xs : List D} {m : FP} (h : S[n]? = some (.lst (xs.map .d))) (hm : m n) : RV S (.loc n) (.lst (xs.map .d)) m := by
  refine .lst (fun _ => Em) h hm (by simp) (fun j a v ha hv => ?_) (fun j i h => h.elim) (fun j k i h => h.elim)
  rw [List.getElem?_map] at ha hv
  cases hx : xs[j]? with
  | none => rw [hx] at ha; cases ha
  | some x => rw [hx] at ha hv; cases ha; cases hv; exact .d x _
theorem sLstM {da : DR (List A)} {pa : PX (List D)} (h : SimL da pa) : SimE (dLstM da) (pLstM pa) := sim_bind h fun xs l S pl fp st => by
  show Out _ S fp l (if (xs.map A.d).length ≤ 16777216 then Res.ok (A.loc S.length) (S ++ [Cell.lst (xs.map A.d)]) else .no) (if xs.length ≤ 16777216 then PR.ok (PV.lst (xs.map PV.d)) pl else .no)
  rw [List.length_map]
  by_cases hz : xs.length ≤ 16777216
  · rw [if_pos hz, if_pos hz]
    obtain ⟨s1, n1⟩ := new_cell (c := .lst (xs.map .d)) st
    exact ⟨_, _, fp, fun i => i = S.length, rfl, s1, rv_data (by simp) rfl, n1⟩
  · rw [if_neg hz, if_neg hz]; trivial
def pNewD : PX PV := fun pl => .ok (.dic []) pl
theorem sNewD : SimE dNewD pNewD := fun l S pl fp st => by
  obtain ⟨s1, n1⟩ := new_cell (c := .dic []) st
  exact ⟨_, _, fp, fun i => i = S.length, rfl, s1, .dic (as := []) (fun _ => Em) (by simp) rfl rfl (fun j a v h => by simp at h) (fun j i h => h.elim) (fun j k i h => h.elim), n1⟩
/-- [..] * n -/
def pRep (a : PX (List D)) (b : PX D) : PX D := fun pl => (a pl).bind fun xs pl1 => if xs.length ≤ 16777216 then (b pl1).bind fun k pl2 => optP (repP xs k) pl2 else .no
where repP (xs : List D) : D → Option D
  | .int k => if decide (-4611686018427387904 ≤ k) && decide (k < 4611686018427387904) && decide (xs.length * k.toNat ≤ 16777216) then some (.list (List.replicate k.toNat xs).flatten) else none
  | _ => none
theorem sRep {da : DR (List A)} {db : DE} {pa : PX (List D)} {pb : PX D} (ha : SimL da pa) (hb : SimD db pb) : SimD (dOp2 mulU (dLstM da) db) (pRep pa pb) := by
  have e : dOp2 mulU (dLstM da) db = fun l S => (da l S).bind fun xs S1 => (if xs.length ≤ 16777216 then Res.ok (.loc S1.length) (S1 ++ [.lst xs]) else .no).bind fun x S2 => (db l S2).bind fun y S3 => opt (mulU x y S3) S3 := by
    funext l S
    show ((da l S).bind _).bind _ = _
    cases da l S <;> rfl
  rw [e]
  refine sim_bind (k := fun (xs : List A) l S1 => (if xs.length ≤ 16777216 then Res.ok (.loc S1.length) (S1 ++ [.lst xs]) else .no).bind fun x S2 => (db l S2).bind fun y S3 => opt (mulU x y S3) S3) ha fun xs l S pl fp st => ?_
  show Out _ S fp l ((if (xs.map A.d).length ≤ 16777216 then Res.ok (.loc S.length) (S ++ [.lst (xs.map .d)]) else .no).bind fun x S2 => (db l S2).bind fun y S3 => opt (mulU x y S3) S3) (if xs.length ≤ 16777216 then (pb pl).bind fun k pl2 => optP (pRep.repP xs k) pl2 else .no)
  rw [List.length_map]
  by_cases hz : xs.length ≤ 16777216
  · rw [if_pos hz, if_pos hz, Res.ok_bind]
    obtain ⟨s1, n1⟩ := new_cell (c := .lst (xs.map .d)) st
    have q := hb l _ pl fp s1
    cases hp : pb pl with
    | no => trivial
    | exc x pl1 =>
      rw [hp] at q
      obtain ⟨S2, fp2, e2, st2, n2⟩ := q
      exact ⟨S2, fp2, by rw [e2]; rfl, st2, n1.trans n2⟩
    | ok k pl1 =>
      rw [hp] at q
      obtain ⟨_, S2, fp2, m2, e2, st2, rfl, n2⟩ := q
      rw [PR.ok_bind, e2, Res.ok_bind]
      cases hr : pRep.repP xs k with
      | none => trivial
      | some z =>
        have hc : S2[S.length]? = some (.lst (xs.map .d)) := by rw [n1.keep n2 _ rfl]; simp
        refine ⟨_, S2, fp2, Em, ?_, st2, rfl, (n1.trans n2).drop⟩
        cases k with
        | int i =>
          have hr : (if (decide (-4611686018427387904 ≤ i) && decide (i < 4611686018427387904) && decide (xs.length * i.toNat ≤ 16777216)) = true then some (PyData.list (List.replicate i.toNat xs).flatten) else none) = some z := hr
          by_cases hi : (decide (-4611686018427387904 ≤ i) && decide (i < 4611686018427387904) && decide (xs.length * i.toNat ≤ 16777216)) = true
          · rw [if_pos hi] at hr
            cases hr
            have em : mulU (.loc S.length) (.d (.int i)) S2 = some (.d (.list (List.replicate i.toNat xs).flatten)) := by
              show mulA (.loc S.length) (.d (.int i)) S2 = _
              unfold mulA
              simp only [hc, pures_mapD, hi, if_true]
            rw [em]; rfl
          · rw [if_neg hi] at hr; cases hr
        | _ => cases hr
  · rw [if_neg hz, if_neg hz]; trivial
/-! ### lists in slots -/
theorem loc_of {l : Ev.Loc} {i : Nat} {a : A} {S : Store} (h : l[i]? = some (some a)) : dName i l S = .ok a S := by unfold dName; rw [h]
theorem lst_inv {S : Store} {a : A} {vs : List PV} {m : FP} (r : RV S a (.lst vs) m) : ∃ (n : Nat) (as : List A) (fp : Nat → FP), a = .loc n ∧ S[n]? = some (.lst as) ∧ m n ∧ as.length = vs.length ∧ (∀ (j : Nat) a v, as[j]? = some a → vs[j]? = some v → RV S a v (fp j)) ∧ (∀ j i, fp j i → m i ∧ i ≠ n) ∧ (∀ j k i, fp j i → fp k i → j = k) ∧ lstOf a S = some (n, as) := by
  cases r with
  | lst fp e hm hl hr h1 h2 => exact ⟨_, _, fp, rfl, e, hm, hl, hr, h1, h2, by unfold lstOf; simp only [e]⟩
def lstO (o : Option (Option PV)) : Option (List PV) := match o with
  | some (some (.lst vs)) => some vs
  | _ => none
@[simp] theorem lstO_l (vs : List PV) : lstO (some (some (.lst vs))) = some vs := rfl
theorem lstO_some {o : Option (Option PV)} {vs : List PV} (h : lstO o = some vs) : o = some (some (.lst vs)) := by
  unfold lstO at h
  split at h
  · cases h; rfl
  · cases h
def appP (j : Nat) (y : PV) (pl : PL) : Option (List PV) → PR D
  | some vs => if vs.length < 16777216 then .ok .none (pl.set j (some (.lst (vs ++ [y])))) else .no
  | none => .no
@[simp] theorem appP_some (j : Nat) (y : PV) (pl : PL) (vs : List PV) : appP j y pl (some vs) = if vs.length < 16777216 then .ok .none (pl.set j (some (.lst (vs ++ [y])))) else .no := rfl
def pAppend (j : Nat) (a : PX PV) : PX D := fun pl => if (lstO (pl[j]?)).isSome = true then (a pl).bind fun y pl1 => appP j y pl1 (lstO (pl1[j]?)) else .no
theorem sAppend {j : Nat} {da : DE} {pa : PX PV} (h : SimE da pa) : SimD (dAppend (dName j) da) (pAppend j pa) := fun l S pl fp st => by
  unfold pAppend
  by_cases hs : (lstO (pl[j]?)).isSome = true
  · rw [if_pos hs]
    obtain ⟨vs0, hs⟩ := Option.isSome_iff_exists.mp hs
    have h0 := lstO_some hs
    obtain ⟨a0, ha0, r0⟩ := st.at_ j _ h0
    obtain ⟨n, as0, _, rfl, _, _, _, _, _, _, lo⟩ := lst_inv r0
    have q := h l S pl fp st
    unfold dAppend
    rw [loc_of ha0, Res.ok_bind, lo]
    show Out _ S fp l ((da l S).bind _) ((pa pl).bind _)
    cases hp : pa pl with
    | no => trivial
    | exc x pl1 =>
      rw [hp] at q
      obtain ⟨S1, fp1, e1, st1, n1⟩ := q
      exact ⟨S1, fp1, by rw [e1]; rfl, st1, n1⟩
    | ok y pl1 =>
      rw [hp] at q
      obtain ⟨b, S1, fp1, m1, e1, st1, r1, n1⟩ := q
      rw [PR.ok_bind, e1, Res.ok_bind]
      cases ho : lstO (pl1[j]?) with
      | none => trivial
      | some vs =>
        have hv := lstO_some ho
        rw [appP_some]
        obtain ⟨a1, ha1, rv⟩ := st1.at_ j _ hv
        rw [ha0] at ha1; cases ha1
        obtain ⟨n', as, fpv, en, e2, hm, hl, hr, k1, k2, lo2⟩ := lst_inv rv
        cases en
        by_cases hz : vs.length < 16777216
        · rw [if_pos hz]
          have hj := (List.getElem?_eq_some_iff.mp hv).1
          have hn : n < S1.length := st1.bd j n hm
          have st2 : St (S1.set n (.lst (as ++ [b]))) l (pl1.set j (some (.lst (vs ++ [y])))) (pin fp1 j (fun i => fp1 j i ∨ m1 i)) := by
            refine st1.put hj rfl ha0 (fun _ _ => rfl) ?_ (fun k i hk hi => List.getElem?_set_ne (by rintro rfl; exact hk (st1.dj k j _ hi hm))) (by simp) (fun i hi => ?_) (fun k i hk hi hm' => ?_)
            · refine .lst (pin fpv as.length m1) (List.getElem?_set_self hn) (.inl hm) (by simp [hl]) (fun k a v ea ev => ?_) (fun k i hi => ?_) (fun x y i hx hy => ?_)
              · by_cases hk : k < as.length
                · rw [List.getElem?_append_left hk] at ea
                  rw [List.getElem?_append_left (by omega)] at ev
                  exact ((hr k a v ea ev).stay fun i hi => List.getElem?_set_ne (Ne.symm (k1 k i hi).2)).pinN (by omega)
                · have ek : k = as.length := by
                    have := (List.getElem?_eq_some_iff.mp ea).1
                    simp at this
                    omega
                  subst ek
                  have e3 : vs ++ [y] = vs ++ [y] := rfl
                  rw [List.getElem?_append_right (Nat.le_refl _), Nat.sub_self] at ea
                  rw [hl, List.getElem?_append_right (Nat.le_refl _), Nat.sub_self] at ev
                  cases ea; cases ev
                  exact (r1.stay fun i hi => List.getElem?_set_ne (by rintro rfl; exact n1.vd _ j hi hm)).pinS
              · rcases hi with ⟨_, hi⟩ | ⟨_, hi⟩
                · exact ⟨.inr hi, by rintro rfl; exact n1.vd _ j hi hm⟩
                · exact ⟨.inl (k1 k i hi).1, (k1 k i hi).2⟩
              · rcases hx with ⟨ex, hx⟩ | ⟨ex, hx⟩
                · rcases hy with ⟨ey, hy⟩ | ⟨ey, hy⟩
                  · rw [ex, ey]
                  · exact (n1.vd _ j hx (k1 _ _ hy).1).elim
                · rcases hy with ⟨ey, hy⟩ | ⟨ey, hy⟩
                  · exact (n1.vd _ j hy (k1 _ _ hx).1).elim
                  · exact k2 _ _ i hx hy
            · rw [List.length_set]
              rcases hi with hi | hi
              · exact st1.bd j i hi
              · exact n1.vb i hi
            · rcases hm' with hm' | hm'
              · exact hk (st1.dj k j i hi hm')
              · exact n1.vd i k hm' hi
          refine ⟨_, _, _, Em, ?_, st2, rfl, n1.upd (.inl ⟨j, hm⟩) (fun k i hi => ?_) (fun _ h => h.elim) (fun _ _ h => h.elim) st1.bd⟩
          · rw [lo2]
            show (if as.length < 16777216 then _ else _) = _
            rw [if_pos (by omega)]
          · rcases hi with ⟨_, hi | hi⟩ | ⟨_, hi⟩
            · exact .inl ⟨j, hi⟩
            · exact .inr hi
            · exact .inl ⟨k, hi⟩
        · rw [if_neg hz]; trivial
  · rw [if_neg hs]; trivial
theorem seen {S : Store} {l : Ev.Loc} {pl : PL} {fp : Nat → FP} {j : Nat} {n : Nat} {w : PV} {c : Cell} {m m2 : FP} (st : St S l pl fp) (hj : j < pl.length) (ha : l[j]? = some (some (.loc n))) (hm : fp j n) (r : RV (S.set n c) (.loc n) w m) (sub : ∀ i, m i → fp j i) (sub2 : ∀ i, m2 i → fp j i) (dis : ∀ i, m i → m2 i → False) :
    St (S.set n c) l (pl.set j (some w)) (pin fp j m) ∧ Nw S fp (S.set n c) (pin fp j m) m2 := by
  refine ⟨st.put hj rfl ha (fun _ _ => rfl) r (fun k i hk hi => List.getElem?_set_ne (by rintro rfl; exact hk (st.dj k j _ hi hm))) (by simp) (fun i hi => by rw [List.length_set]; exact st.bd j i (sub i hi)) (fun k i hk hi hm' => hk (st.dj k j i hi (sub i hm'))), ?_⟩
  refine (Nw.refl S fp).upd (.inl ⟨j, hm⟩) (fun k i hi => ?_) (fun i hi => .inl ⟨j, sub2 i hi⟩) (fun i k hi hk => ?_) st.bd
  · rcases hi with ⟨_, hi⟩ | ⟨_, hi⟩
    · exact .inl ⟨j, sub i hi⟩
    · exact .inl ⟨k, hi⟩
  · rcases hk with ⟨_, hk⟩ | ⟨e, hk⟩
    · exact dis i hk hi
    · exact e (st.dj k j i hk (sub2 i hi))
def popP (j : Nat) (pl : PL) (vs : List PV) : Option PV → PR PV
  | some v => .ok v (pl.set j (some (.lst vs.dropLast)))
  | none => .no
@[simp] theorem popP_some (j : Nat) (pl : PL) (vs : List PV) (v : PV) : popP j pl vs (some v) = .ok v (pl.set j (some (.lst vs.dropLast))) := rfl
def pPop (j : Nat) : PX PV := fun pl => (optP (lstO (pl[j]?)) pl).bind fun vs pl1 => popP j pl1 vs (vs[vs.length - 1]?)
theorem sPop {j : Nat} : SimE (dPop (dName j)) (pPop j) := fun l S pl fp st => by
  unfold pPop
  cases ho : lstO (pl[j]?) with
  | none => trivial
  | some vs =>
    have h0 := lstO_some ho
    rw [optP_some, PR.ok_bind]
    cases hv : vs[vs.length - 1]? with
    | none => trivial
    | some v =>
      rw [popP_some]
      obtain ⟨a, ha, r0⟩ := st.at_ j _ h0
      obtain ⟨n, as, fpv, rfl, e, hm, hl, hr, k1, k2, lo⟩ := lst_inv r0
      have hj := (List.getElem?_eq_some_iff.mp h0).1
      have hlt : as.length - 1 < as.length := by have := (List.getElem?_eq_some_iff.mp hv).1; omega
      have hx : as[as.length - 1]? = some as[as.length - 1] := List.getElem?_eq_getElem hlt
      have hv' : vs[as.length - 1]? = some v := by rw [hl]; exact hv
      have hn := st.bd j n hm
      have keep : ∀ k i, fpv k i → (S.set n (.lst as.dropLast))[i]? = S[i]? := fun k i hi => List.getElem?_set_ne (Ne.symm (k1 k i hi).2)
      obtain ⟨s2, n2⟩ := seen (c := .lst as.dropLast) (w := .lst vs.dropLast) (m := fun i => fp j i ∧ ¬ fpv (as.length - 1) i) (m2 := fpv (as.length - 1)) st hj ha hm (by
        refine .lst (fun k i => k < as.length - 1 ∧ fpv k i) (List.getElem?_set_self hn) ⟨hm, fun z => (k1 _ _ z).2 rfl⟩ (by simp [hl]) (fun k a v ea ev => ?_) (fun k i hi => ⟨⟨(k1 k i hi.2).1, fun z => ?_⟩, (k1 k i hi.2).2⟩) (fun x y i hx hy => k2 x y i hx.2 hy.2)
        · have hk : k < as.length - 1 := by have := (List.getElem?_eq_some_iff.mp ea).1; simpa using this
          rw [List.getElem?_dropLast, if_pos hk] at ea
          rw [List.getElem?_dropLast, if_pos (by omega)] at ev
          exact ((hr k a v ea ev).stay (keep k)).mono fun i hi => ⟨hk, hi⟩
        · have := k2 _ _ i hi.2 z
          omega) (fun i hi => hi.1) (fun i hi => (k1 _ i hi).1) (fun i h1 h2 => h1.2 h2)
      refine ⟨as[as.length - 1], _, _, fpv (as.length - 1), ?_, s2, (hr _ _ _ hx hv').stay (keep _), n2⟩
      unfold dPop
      rw [loc_of ha, Res.ok_bind, lo]
      simp only [hx]
def pReverse (j : Nat) : PX D := fun pl => (optP (lstO (pl[j]?)) pl).bind fun vs pl1 => .ok .none (pl1.set j (some (.lst vs.reverse)))
theorem sReverse {j : Nat} : SimD (dReverse (dName j)) (pReverse j) := fun l S pl fp st => by
  unfold pReverse
  cases ho : lstO (pl[j]?) with
  | none => trivial
  | some vs =>
    have h0 := lstO_some ho
    rw [optP_some, PR.ok_bind]
    obtain ⟨a, ha, r0⟩ := st.at_ j _ h0
    obtain ⟨n, as, fpv, rfl, e, hm, hl, hr, k1, k2, lo⟩ := lst_inv r0
    have hj := (List.getElem?_eq_some_iff.mp h0).1
    have hn := st.bd j n hm
    obtain ⟨s2, n2⟩ := seen (c := .lst as.reverse) (w := .lst vs.reverse) (m := fp j) (m2 := Em) st hj ha hm (by
      refine .lst (fun k i => k < as.length ∧ fpv (as.length - 1 - k) i) (List.getElem?_set_self hn) hm (by simp [hl]) (fun k a v ea ev => ?_) (fun k i hi => k1 _ i hi.2) (fun x y i hx hy => by have := k2 _ _ i hx.2 hy.2; omega)
      have hk : k < as.length := by have := (List.getElem?_eq_some_iff.mp ea).1; simpa using this
      rw [List.getElem?_reverse hk] at ea
      rw [List.getElem?_reverse (by omega), ← hl] at ev
      exact ((hr _ a v ea ev).stay fun i hi => List.getElem?_set_ne (Ne.symm (k1 _ i hi).2)).mono fun i hi => ⟨hk, hi⟩) (fun i hi => hi) (fun i hi => hi.elim) (fun i _ h => h)
    refine ⟨_, _, _, Em, ?_, s2, rfl, n2⟩
    unfold dReverse
    rw [loc_of ha, Res.ok_bind, lo]
/-- a list is locked -/
def dats : List PV → Option (List D)
  | [] => some []
  | .d x :: r => (dats r).map (x :: ·)
  | _ :: _ => none
@[simp] theorem dats_map (xs : List D) : dats (xs.map .d) = some xs := by
  induction xs with
  | nil => rfl
  | cons x xs ih => simp [dats, ih]
theorem dats_some : ∀ {vs : List PV} {xs : List D}, dats vs = some xs → vs = xs.map .d
  | [], xs, h => by cases h; rfl
  | .d x :: r, xs, h => by
    obtain ⟨ys, h1, rfl⟩ := Option.map_eq_some_iff.mp (show (dats r).map (x :: ·) = some xs from h)
    rw [dats_some h1]; rfl
  | .fz _ :: _, _, h => nomatch h
  | .fn _ :: _, _, h => nomatch h
  | .lst _ :: _, _, h => nomatch h
  | .dic _ :: _, _, h => nomatch h
  | .ins _ _ :: _, _, h => nomatch h
theorem rel_data {S : Store} {as : List A} {xs : List D} {fp : Nat → FP} (hl : as.length = (xs.map PV.d).length) (hr : ∀ (j : Nat) a v, as[j]? = some a → (xs.map PV.d)[j]? = some v → RV S a v (fp j)) : as = xs.map .d := by
  refine List.ext_getElem? fun j => ?_
  rw [List.length_map] at hl
  rw [List.getElem?_map]
  by_cases hj : j < as.length
  · have hx : j < xs.length := by omega
    have := hr j as[j] (.d xs[j]) (List.getElem?_eq_getElem hj) (by rw [List.getElem?_map, List.getElem?_eq_getElem hx]; rfl)
    rw [List.getElem?_eq_getElem hj, List.getElem?_eq_getElem hx]
    generalize as[j] = b at *
    cases this
    rfl
  · rw [List.getElem?_eq_none (by omega), List.getElem?_eq_none (by omega)]; rfl
def frzP (j : Nat) (pl : PL) : Option (Option PV) → PR D
  | some (some (.lst vs)) => (optP (dats vs) pl).bind fun xs pl1 => .ok (.list xs) (pl1.set j (some (.fz (.list xs))))
  | some (some (.fz x)) => .ok x pl
  | some (some (.d x)) => .ok x pl
  | _ => .no
@[simp] theorem frzP_l (j : Nat) (pl : PL) (vs : List PV) : frzP j pl (some (some (.lst vs))) = (optP (dats vs) pl).bind fun xs pl1 => .ok (.list xs) (pl1.set j (some (.fz (.list xs)))) := rfl
@[simp] theorem frzP_f (j : Nat) (pl : PL) (x : D) : frzP j pl (some (some (.fz x))) = .ok x pl := rfl
@[simp] theorem frzP_d (j : Nat) (pl : PL) (x : D) : frzP j pl (some (some (.d x))) = .ok x pl := rfl
def pFrz (j : Nat) : PX D := fun pl => frzP j pl (pl[j]?)
theorem sFrz {j : Nat} : SimD (dFrz (dName j)) (pFrz j) := fun l S pl fp st => by
  unfold pFrz frzP
  split
  · rename_i vs h0
    cases hd : dats vs with
    | none => trivial
    | some xs =>
      have := dats_some hd
      subst this
      obtain ⟨a, ha, r0⟩ := st.at_ j _ h0
      obtain ⟨n, as, fpv, rfl, e, hm, hl, hr, k1, k2, lo⟩ := lst_inv r0
      have ea := rel_data hl hr
      subst ea
      have hj := (List.getElem?_eq_some_iff.mp h0).1
      have hn := st.bd j n hm
      obtain ⟨s2, n2⟩ := seen (c := .fzn (.list xs)) (w := .fz (.list xs)) (m := fp j) (m2 := Em) st hj ha hm (.fz (List.getElem?_set_self hn) hm) (fun i hi => hi) (fun i hi => hi.elim) (fun i _ h => h)
      refine ⟨_, _, _, Em, ?_, s2, rfl, n2⟩
      unfold dFrz
      rw [loc_of ha, Res.ok_bind]
      unfold frzA
      simp only [e, pures_mapD]
  · rename_i x h0
    obtain ⟨a, ha, r0⟩ := st.at_ j _ h0
    cases r0 with
    | fz e hm =>
      refine ⟨_, S, fp, Em, ?_, st, rfl, Nw.refl S fp⟩
      unfold dFrz
      rw [loc_of ha, Res.ok_bind]
      unfold frzA
      simp only [e]
  · rename_i x h0
    obtain ⟨a, ha, r0⟩ := st.at_ j _ h0
    cases r0
    refine ⟨_, S, fp, Em, ?_, st, rfl, Nw.refl S fp⟩
    unfold dFrz
    rw [loc_of ha]
    rfl
  · trivial
end Pv

/-! Pv3: statements, targets, loops, comprehensions. -/
namespace Pv
open PySem PySem.Spec L2 Ev
inductive PS where
  | nx (l : PL)
  | rt (v : PV) (l : PL)
  | bk (l : PL)
  | exc (x : Exn) (l : PL)
  | no
abbrev PT := PL → PS
def isDat (o : Option (Option PV)) : Bool := match o with
  | some (some (.d _)) => true
  | _ => false
@[simp] theorem isDat_d (x : D) : isDat (some (some (.d x))) = true := rfl
@[simp] theorem isDat_n : isDat (some none) = false := rfl
theorem isDat_some {o : Option (Option PV)} (h : isDat o = true) : ∃ x, o = some (some (.d x)) := by
  unfold isDat at h
  split at h
  · exact ⟨_, rfl⟩
  · cases h
/-- the cell that a parameter is, it stays -/
def Pp (np : Nat) (l l' : Ev.Loc) : Prop := ∀ j, j < np → ∀ n, l[j]? = some (some (.loc n)) → l'[j]? = some (some (.loc n))
theorem Pp.refl (np : Nat) (l : Ev.Loc) : Pp np l l := fun j _ n h => h
theorem Pp.trans {np : Nat} {l l1 l2 : Ev.Loc} (a : Pp np l l1) (b : Pp np l1 l2) : Pp np l l2 := fun j h n e => b j h n (a j h n e)
def OutS (np : Nat) (S : Store) (fp : Nat → FP) (l : Ev.Loc) (r : RS) : PS → Prop
  | .nx pl' => ∃ l' S' fp', r = .nx l' S' ∧ St S' l' pl' fp' ∧ Nw S fp S' fp' Em ∧ Pp np l l'
  | .bk pl' => ∃ l' S' fp', r = .bk l' S' ∧ St S' l' pl' fp' ∧ Nw S fp S' fp' Em ∧ Pp np l l'
  | .rt v pl' => ∃ a l' S' fp' m, r = .rt a S' ∧ St S' l' pl' fp' ∧ RV S' a v m ∧ Nw S fp S' fp' m ∧ Pp np l l'
  | .exc x pl' => ∃ l' S' fp', r = .exc x l' S' ∧ St S' l' pl' fp' ∧ Nw S fp S' fp' Em ∧ Pp np l l'
  | .no => True
def SimS (np : Nat) (d : DS) (p : PT) : Prop := ∀ l S pl fp, St S l pl fp → OutS np S fp l (d l S) (p pl)
theorem OutS.after {np : Nat} {S S1 : Store} {fp fp1 : Nat → FP} {l l1 : Ev.Loc} {m : FP} {r : RS} {p : PS} (n : Nw S fp S1 fp1 m) (q : Pp np l l1) (h : OutS np S1 fp1 l1 r p) : OutS np S fp l r p := by
  cases p with
  | nx pl' => obtain ⟨l', S', fp', e, st, nw, pp⟩ := h; exact ⟨l', S', fp', e, st, n.trans nw, q.trans pp⟩
  | bk pl' => obtain ⟨l', S', fp', e, st, nw, pp⟩ := h; exact ⟨l', S', fp', e, st, n.trans nw, q.trans pp⟩
  | rt v pl' => obtain ⟨a, l', S', fp', m', e, st, rv, nw, pp⟩ := h; exact ⟨a, l', S', fp', m', e, st, rv, n.trans nw, q.trans pp⟩
  | exc x pl' => obtain ⟨l', S', fp', e, st, nw, pp⟩ := h; exact ⟨l', S', fp', e, st, n.trans nw, q.trans pp⟩
  | no => trivial
def PR.thenP {α : Type} (r : PR α) (k : α → PL → PS) : PS := match r with
  | .ok a l => k a l
  | .exc x l => .exc x l
  | .no => .no
@[simp] theorem PR.ok_thenP {α : Type} (a : α) (l : PL) (k : α → PL → PS) : (PR.ok a l).thenP k = k a l := rfl
@[simp] theorem PR.exc_thenP {α : Type} (x : Exn) (l : PL) (k : α → PL → PS) : (PR.exc x l : PR α).thenP k = .exc x l := rfl
@[simp] theorem PR.no_thenP {α : Type} (k : α → PL → PS) : (PR.no : PR α).thenP k = .no := rfl
/-- an expression, then a statement -/
theorem sim_then {α β : Type} {rel : Rl α β} {np : Nat} {d : DR α} {p : PX β} {k : α → Ev.Loc → Store → RS} {pk : β → PL → PS} (h : Sim rel d p)
    (h2 : ∀ a v l S pl fp S0 fp0 m, St S l pl fp → rel S a v m → Nw S0 fp0 S fp m → OutS np S0 fp0 l (k a l S) (pk v pl)) : SimS np (fun l S => (d l S).thenS l fun a S1 => k a l S1) (fun pl => (p pl).thenP fun v pl1 => pk v pl1) := fun l S pl fp st => by
  have q := h l S pl fp st
  show OutS np S fp l ((d l S).thenS l fun a S1 => k a l S1) ((p pl).thenP fun v pl1 => pk v pl1)
  cases hp : p pl with
  | no => trivial
  | exc x pl1 =>
    rw [hp] at q
    obtain ⟨S1, fp1, e1, st1, n1⟩ := q
    exact ⟨l, S1, fp1, by rw [e1]; rfl, st1, n1, Pp.refl np l⟩
  | ok v pl1 =>
    rw [hp] at q
    obtain ⟨a, S1, fp1, m1, e1, st1, r1, n1⟩ := q
    rw [PR.ok_thenP, e1]
    exact h2 a v l S1 pl1 fp1 S fp m1 st1 r1 n1
def pSkip : PT := fun pl => .nx pl
theorem sSkip {np : Nat} : SimS np dSkip pSkip := fun l S pl fp st => ⟨l, S, fp, rfl, st, Nw.refl S fp, Pp.refl np l⟩
def pBreak : PT := fun pl => .bk pl
theorem sBreak {np : Nat} : SimS np dBreak pBreak := fun l S pl fp st => ⟨l, S, fp, rfl, st, Nw.refl S fp, Pp.refl np l⟩
def PS.to (r : PS) (b : PT) : PS := match r with
  | .nx l => b l
  | r => r
@[simp] theorem pto_nx (l : PL) (b : PT) : (PS.nx l).to b = b l := rfl
@[simp] theorem pto_rt (a : PV) (l : PL) (b : PT) : (PS.rt a l).to b = .rt a l := rfl
@[simp] theorem pto_bk (l : PL) (b : PT) : (PS.bk l).to b = .bk l := rfl
@[simp] theorem pto_exc (x : Exn) (l : PL) (b : PT) : (PS.exc x l).to b = .exc x l := rfl
@[simp] theorem pto_no (b : PT) : (PS.no).to b = .no := rfl
def pSeq (a b : PT) : PT := fun pl => (a pl).to b
theorem sSeq {np : Nat} {a b : DS} {pa pb : PT} (ha : SimS np a pa) (hb : SimS np b pb) : SimS np (dSeq a b) (pSeq pa pb) := fun l S pl fp st => by
  have q := ha l S pl fp st
  show OutS np S fp l (match a l S with | .nx l' S' => b l' S' | r => r) ((pa pl).to pb)
  cases hp : pa pl with
  | no => trivial
  | nx pl1 =>
    rw [hp] at q
    obtain ⟨l1, S1, fp1, e1, st1, n1, p1⟩ := q
    rw [e1]
    exact (hb l1 S1 pl1 fp1 st1).after n1 p1
  | bk pl1 =>
    rw [hp] at q
    obtain ⟨l1, S1, fp1, e1, st1, n1, p1⟩ := q
    rw [e1]
    exact ⟨l1, S1, fp1, rfl, st1, n1, p1⟩
  | rt v pl1 =>
    rw [hp] at q
    obtain ⟨a1, l1, S1, fp1, m1, e1, st1, r1, n1, p1⟩ := q
    rw [e1]
    exact ⟨a1, l1, S1, fp1, m1, rfl, st1, r1, n1, p1⟩
  | exc x pl1 =>
    rw [hp] at q
    obtain ⟨l1, S1, fp1, e1, st1, n1, p1⟩ := q
    rw [e1]
    exact ⟨l1, S1, fp1, rfl, st1, n1, p1⟩
def pRet (p : PX PV) : PT := fun pl => (p pl).thenP fun v pl1 => .rt v pl1
theorem sRet {np : Nat} {d : DE} {p : PX PV} (h : SimE d p) : SimS np (dRet d) (pRet p) := sim_then h fun a v l S pl fp S0 fp0 m st r n => ⟨a, l, S, fp, m, rfl, st, r, n, Pp.refl np l⟩
def pRetN : PT := fun pl => .rt (.d .none) pl
theorem sRetN {np : Nat} : SimS np dRetN pRetN := fun l S pl fp st => ⟨_, l, S, fp, Em, rfl, st, .d _ _, Nw.refl S fp, Pp.refl np l⟩
def pExpr {β : Type} (p : PX β) : PT := fun pl => (p pl).thenP fun _ pl1 => .nx pl1
theorem sExpr {β : Type} {rel : Rl A β} {np : Nat} {d : DE} {p : PX β} (h : Sim rel d p) : SimS np (dExpr d) (pExpr p) := sim_then h fun a v l S pl fp S0 fp0 m st r n => ⟨l, S, fp, rfl, st, n.drop, Pp.refl np l⟩
def pIte (t : PX Bool) (a b : PT) : PT := fun pl => (t pl).thenP fun c pl1 => if c = true then a pl1 else b pl1
theorem sIte {np : Nat} {t : DR Bool} {a b : DS} {pt : PX Bool} {pa pb : PT} (ht : SimT t pt) (ha : SimS np a pa) (hb : SimS np b pb) : SimS np (dIte t a b) (pIte pt pa pb) := sim_then ht fun c v l S pl fp S0 fp0 m st r n => by
  have r : c = v := r
  subst r
  cases c with
  | true => exact (ha l S pl fp st).after n (Pp.refl np l)
  | false => exact (hb l S pl fp st).after n (Pp.refl np l)
/-! ### targets -/
abbrev PG := D → PL → Option PL
def okT (np i : Nat) (pl : PL) : Bool := decide (np ≤ i) || isDat (pl[i]?)
def pgN (np i : Nat) : PG := fun x pl => if i < pl.length ∧ okT np i pl = true then some (pl.set i (some (.d x))) else none
structure GOut (np : Nat) (is : List Nat) (S : Store) (fp : Nat → FP) (l : Ev.Loc) (l' : Ev.Loc) (pl' : PL) : Prop where
  st : St S l' pl' fp
  len : l'.length = l.length
  ne : ∀ j, j ∉ is → l'[j]? = l[j]?
  pp : Pp np l l'
def SimG (np : Nat) (is : List Nat) (g : DG) (pg : PG) : Prop := ∀ x l S pl fp, St S l pl fp → ∀ pl', pg x pl = some pl' → ∃ l', g (.d x) l = some l' ∧ GOut np is S fp l l' pl'
/-- slot i gets plain data or nothing -/
theorem St.data {S : Store} {l : Ev.Loc} {pl : PL} {fp : Nat → FP} (st : St S l pl fp) (i : Nat) (x : D) (hi : i < l.length) : St S (l.set i (some (.d x))) (pl.set i (some (.d x))) fp := by
  refine ⟨by rw [List.length_set, List.length_set]; exact st.len, fun k v hk => ?_, st.dj, st.bd⟩
  by_cases e : k = i
  · subst e
    rw [List.getElem?_set_self (by rw [← st.len]; exact hi)] at hk
    cases hk
    exact ⟨_, List.getElem?_set_self hi, .d x _⟩
  · rw [List.getElem?_set_ne (Ne.symm e)] at hk
    obtain ⟨a, h1, h2⟩ := st.at_ k v hk
    exact ⟨a, by rw [List.getElem?_set_ne (Ne.symm e)]; exact h1, h2⟩
theorem okT_no {np i : Nat} {S : Store} {l : Ev.Loc} {pl : PL} {fp : Nat → FP} (st : St S l pl fp) (h : okT np i pl = true) {n : Nat} (hi : i < np) (hl : l[i]? = some (some (.loc n))) : False := by
  unfold okT at h
  rw [Bool.or_eq_true] at h
  rcases h with h | h
  · have := of_decide_eq_true h; omega
  · obtain ⟨x, hx⟩ := isDat_some h
    obtain ⟨a, h1, h2⟩ := st.at_ i _ hx
    cases h2
    rw [hl] at h1; cases h1
theorem Pp.set {np i : Nat} {S : Store} {l : Ev.Loc} {pl : PL} {fp : Nat → FP} (st : St S l pl fp) (h : okT np i pl = true) (o : Option A) : Pp np l (l.set i o) := fun j hj n e => by
  by_cases k : j = i
  · subst k; exact (okT_no st h hj e).elim
  · rw [List.getElem?_set_ne (Ne.symm k)]; exact e
theorem sgN (np i : Nat) : SimG np [i] (gN i) (pgN np i) := fun x l S pl fp st pl' h => by
  unfold pgN at h
  split at h
  · rename_i hi
    cases h
    have hl : i < l.length := by rw [st.len]; exact hi.1
    refine ⟨_, if_pos hl, st.data i x hl, by rw [List.length_set], fun j hj => List.getElem?_set_ne (by rintro rfl; simp at hj), Pp.set st hi.2 _⟩
  · cases h
def pgAll : List PG → List D → PL → Option PL
  | [], [], pl => some pl
  | g :: gs, d :: ds, pl => (g d pl).bind (pgAll gs ds)
  | _, _, _ => none
def SimGs (np : Nat) (is : List Nat) (gs : List DG) (pgs : List PG) : Prop := ∀ ds l S pl fp, St S l pl fp → ∀ pl', pgAll pgs ds pl = some pl' → ∃ l', gAll gs ds l = some l' ∧ GOut np is S fp l l' pl'
theorem sgNil {np : Nat} : SimGs np [] [] [] := fun ds l S pl fp st pl' h => by
  cases ds with
  | nil => cases h; exact ⟨l, rfl, st, rfl, fun _ _ => rfl, Pp.refl np l⟩
  | cons d ds => cases h
theorem sgCons {np : Nat} {is js : List Nat} {g : DG} {gs : List DG} {pg : PG} {pgs : List PG} (h : SimG np is g pg) (hs : SimGs np js gs pgs) : SimGs np (is ++ js) (g :: gs) (pg :: pgs) := fun ds l S pl fp st pl' e => by
  cases ds with
  | nil => cases e
  | cons d ds =>
    obtain ⟨pl1, e1, e2⟩ := Option.bind_eq_some_iff.mp (show (pg d pl).bind (pgAll pgs ds) = some pl' from e)
    obtain ⟨l1, f1, o1⟩ := h d l S pl fp st pl1 e1
    obtain ⟨l2, f2, o2⟩ := hs ds l1 S pl1 fp o1.st pl' e2
    refine ⟨l2, ?_, o2.st, o2.len.trans o1.len, fun j hj => ?_, o1.pp.trans o2.pp⟩
    · show (g (.d d) l).bind _ = _
      rw [f1]; exact f2
    · simp only [List.mem_append, not_or] at hj
      exact (o2.ne j hj.2).trans (o1.ne j hj.1)
def pgTup (gs : List PG) : PG := fun x pl => match x with
  | .tuple ds => pgAll gs ds pl
  | _ => none
@[simp] theorem pgTup_t (gs : List PG) (ds : List D) (pl : PL) : pgTup gs (.tuple ds) pl = pgAll gs ds pl := rfl
theorem sgTup {np : Nat} {is : List Nat} {gs : List DG} {pgs : List PG} (h : SimGs np is gs pgs) : SimG np is (gTup gs) (pgTup pgs) := fun x l S pl fp st pl' e => by
  cases x with
  | tuple ds => exact h ds l S pl fp st pl' e
  | _ => cases e
def nxP (o : Option PL) : PS := match o with
  | some pl => .nx pl
  | none => .no
@[simp] theorem nxP_some (pl : PL) : nxP (some pl) = .nx pl := rfl
def pAsg (g : PG) (p : PX D) : PT := fun pl => (p pl).thenP fun x pl1 => nxP (g x pl1)
theorem sAsg {np : Nat} {is : List Nat} {g : DG} {pg : PG} {d : DE} {p : PX D} (hg : SimG np is g pg) (h : SimD d p) : SimS np (dAsg g d) (pAsg pg p) := sim_then h fun a v l S pl fp S0 fp0 m st r n => by
  have r : a = .d v := r
  subst r
  cases e : pg v pl with
  | none => trivial
  | some pl' =>
    obtain ⟨l', e1, o⟩ := hg v l S pl fp st pl' e
    rw [nxP_some]
    exact ⟨l', S, fp, by rw [e1], o.st, n.drop, o.pp⟩
/-- a value of its own is put into a slot -/
def pAsgO (np i : Nat) (p : PX PV) : PT := fun pl => (p pl).thenP fun v pl1 => if i < pl1.length ∧ okT np i pl1 = true then .nx (pl1.set i (some v)) else .no
theorem own_put {S0 S : Store} {l : Ev.Loc} {pl : PL} {fp fp0 : Nat → FP} {m : FP} {a : A} {v : PV} {i : Nat} (st : St S l pl fp) (n : Nw S0 fp0 S fp m) (r : RV S a v m) (hi : i < pl.length) : St S (l.set i (some a)) (pl.set i (some v)) (pin fp i m) ∧ Nw S0 fp0 S (pin fp i m) Em := by
  refine ⟨st.put hi (by rw [List.length_set]) (List.getElem?_set_self (by rw [st.len]; exact hi)) (fun k hk => List.getElem?_set_ne (Ne.symm hk)) r (fun _ _ _ _ => rfl) (Nat.le_refl _) n.vb (fun k j _ h h' => n.vd j k h' h), n.le, n.fr, fun j k h => ?_, fun _ h => h.elim, fun _ _ h => h.elim, fun _ h => h.elim⟩
  rcases h with ⟨_, h⟩ | ⟨_, h⟩
  · exact n.vs k h
  · exact n.sub j k h
theorem sAsgO {np i : Nat} {d : DE} {p : PX PV} (h : SimE d p) : SimS np (dAsg (gN i) d) (pAsgO np i p) := sim_then h fun a v l S pl fp S0 fp0 m st r n => by
  by_cases hi : i < pl.length ∧ okT np i pl = true
  · rw [if_pos hi]
    have hl : i < l.length := by rw [st.len]; exact hi.1
    obtain ⟨s2, n2⟩ := own_put st n r hi.1
    refine ⟨_, S, _, ?_, s2, n2, Pp.set st hi.2 _⟩
    unfold gN
    rw [if_pos hl]
  · rw [if_neg hi]; trivial
/-- x, y = .., .. -/
def pPar (np i j : Nat) (p q : PX PV) : PT := fun pl => (p pl).thenP fun v pl1 => (q pl1).thenP fun w pl2 => if (i < pl2.length ∧ okT np i pl2 = true) ∧ (j < pl2.length ∧ okT np j pl2 = true) ∧ i ≠ j then .nx ((pl2.set i (some v)).set j (some w)) else .no
theorem sPar {np i j : Nat} {d e : DE} {p q : PX PV} (h : SimE d p) (h2 : SimE e q) : SimS np (dPar i j (dCons d (dCons e dNil))) (pPar np i j p q) := fun l S pl fp st => by
  have z := h l S pl fp st
  have ed : dPar i j (dCons d (dCons e dNil)) l S = (d l S).thenS l fun a S1 => (e l S1).thenS l fun b S2 => if i < l.length ∧ j < l.length then .nx ((l.set i (some a)).set j (some b)) S2 else .no := by
    unfold dPar dCons
    cases d l S with
    | ok a S1 =>
      show (((e l S1).bind _).bind _).thenS l _ = (e l S1).thenS l _
      cases e l S1 <;> rfl
    | exc x S1 => rfl
    | no => rfl
  rw [ed]
  show OutS np S fp l ((d l S).thenS l _) ((p pl).thenP _)
  cases hp : p pl with
  | no => trivial
  | exc x pl1 =>
    rw [hp] at z
    obtain ⟨S1, fp1, e1, st1, n1⟩ := z
    exact ⟨l, S1, fp1, by rw [e1]; rfl, st1, n1, Pp.refl np l⟩
  | ok v pl1 =>
    rw [hp] at z
    obtain ⟨a, S1, fp1, m1, e1, st1, r1, n1⟩ := z
    rw [PR.ok_thenP, e1]
    show OutS np S fp l ((e l S1).thenS l _) ((q pl1).thenP _)
    have z2 := h2 l S1 pl1 fp1 st1
    cases hq : q pl1 with
    | no => trivial
    | exc x pl2 =>
      rw [hq] at z2
      obtain ⟨S2, fp2, e2, st2, n2⟩ := z2
      exact ⟨l, S2, fp2, by rw [e2]; rfl, st2, n1.trans n2, Pp.refl np l⟩
    | ok w pl2 =>
      rw [hq] at z2
      obtain ⟨b, S2, fp2, m2, e2, st2, r2, n2⟩ := z2
      rw [PR.ok_thenP, e2]
      by_cases hi : (i < pl2.length ∧ okT np i pl2 = true) ∧ (j < pl2.length ∧ okT np j pl2 = true) ∧ i ≠ j
      · rw [if_pos hi]
        have hl := st2.len
        obtain ⟨hi1, hi2, hij⟩ := hi
        have r1' : RV S2 a v m1 := r1.stay (n1.keep n2)
        have nb := n1.both n2
        have n12 : Nw S fp S2 fp2 m1 := ⟨nb.le, nb.fr, nb.sub, fun i h => nb.vb i (.inl h), fun i j h => nb.vd i j (.inl h), fun i h => nb.vs i (.inl h)⟩
        have n22 := n1.trans n2
        obtain ⟨s3, n3⟩ := own_put (i := i) st2 n12 r1' hi1.1
        have n4 : Nw S fp S2 (pin fp2 i m1) m2 := ⟨n3.le, n3.fr, n3.sub, n22.vb, fun k x h h' => by
          rcases h' with ⟨_, h'⟩ | ⟨_, h'⟩
          · exact n1.apart n2 k h' h
          · exact n22.vd k x h h', n22.vs⟩
        obtain ⟨s5, n5⟩ := own_put (i := j) s3 n4 r2 (by rw [List.length_set]; exact hi2.1)
        refine ⟨_, S2, _, ?_, s5, n5, ?_⟩
        · show (if i < l.length ∧ j < l.length then _ else _) = _
          rw [if_pos ⟨by omega, by omega⟩]
        · intro k hk nn ek
          have k1 : k ≠ i := by rintro rfl; exact okT_no st2 hi1.2 hk ek
          have k2 : k ≠ j := by rintro rfl; exact okT_no st2 hi2.2 hk ek
          rw [List.getElem?_set_ne (Ne.symm k2), List.getElem?_set_ne (Ne.symm k1)]
          exact ek
      · rw [if_neg hi]; trivial
/-! ### an object's field -/
def kix (f : Str) : List Str → Nat
  | [] => 0
  | g :: r => if g = f then 0 else kix f r + 1
theorem setF_get {β : Type} (f : Str) (b : β) : ∀ (xs : List (Str × β)) (j : Nat), (setF f b xs)[j]? = if j = kix f (xs.map Prod.fst) then some (f, b) else xs[j]?
  | [], j => by
    unfold setF kix
    cases j with
    | zero => rfl
    | succ j => simp
  | (g, c) :: r, j => by
    have e : kix f (((g, c) :: r).map Prod.fst) = if g = f then 0 else kix f (r.map Prod.fst) + 1 := rfl
    rw [e]
    unfold setF
    by_cases h : g = f
    · rw [if_pos h, if_pos h]
      cases j with
      | zero => simp [h]
      | succ j => simp
    · rw [if_neg h, if_neg h]
      cases j with
      | zero => simp
      | succ j =>
        rw [List.getElem?_cons_succ, setF_get f b r j, List.getElem?_cons_succ]
        by_cases hj : j = kix f (r.map Prod.fst)
        · rw [if_pos hj, if_pos (by omega)]
        · rw [if_neg hj, if_neg (by omega)]
theorem setF_keys {β γ : Type} (f : Str) (b : β) (c : γ) : ∀ {xs : List (Str × β)} {ys : List (Str × γ)}, xs.map Prod.fst = ys.map Prod.fst → (setF f b xs).map Prod.fst = (setF f c ys).map Prod.fst
  | [], [], _ => rfl
  | [], _ :: _, h => nomatch h
  | _ :: _, [], h => nomatch h
  | (g, x) :: xs, (k, y) :: ys, h => by
    simp only [List.map_cons, List.cons.injEq] at h
    obtain ⟨rfl, h⟩ := h
    unfold setF
    by_cases e : g = f
    · rw [if_pos e, if_pos e]; simp [h]
    · rw [if_neg e, if_neg e]; simp [setF_keys f b c h]
def insO (o : Option (Option PV)) : Option (Nat × List (Str × PV)) := match o with
  | some (some (.ins c fs)) => some (c, fs)
  | _ => none
@[simp] theorem insO_i (c : Nat) (fs : List (Str × PV)) : insO (some (some (.ins c fs))) = some (c, fs) := rfl
theorem insO_some {o : Option (Option PV)} {c : Nat} {fs : List (Str × PV)} (h : insO o = some (c, fs)) : o = some (some (.ins c fs)) := by
  unfold insO at h
  split at h
  · cases h; rfl
  · cases h
def setP (fl : Nat → List Str) (f : Str) (j : Nat) (v : PV) (pl : PL) : Option (Nat × List (Str × PV)) → PS
  | some (c, fs) => if ((fl c).contains f && decide (fs.length < 1000)) = true then .nx (pl.set j (some (.ins c (setF f v fs)))) else .no
  | none => .no
@[simp] theorem setP_some (fl : Nat → List Str) (f : Str) (j : Nat) (v : PV) (pl : PL) (c : Nat) (fs : List (Str × PV)) : setP fl f j v pl (some (c, fs)) = if ((fl c).contains f && decide (fs.length < 1000)) = true then .nx (pl.set j (some (.ins c (setF f v fs)))) else .no := rfl
def pSetF (fl : Nat → List Str) (f : Str) (j : Nat) (p : PX PV) : PT := fun pl => (p pl).thenP fun v pl1 => setP fl f j v pl1 (insO (pl1[j]?))
theorem sSetF {np : Nat} {fl : Nat → List Str} {f : Str} {j : Nat} {d : DE} {p : PX PV} (h : SimE d p) : SimS np (dSetF fl f (dName j) d) (pSetF fl f j p) := sim_then h fun a v l S pl fp S0 fp0 m st r n => by
  cases ho : insO (pl[j]?) with
  | none => trivial
  | some q =>
    obtain ⟨c, fs⟩ := q
    have hv := insO_some ho
    obtain ⟨b, hb, rv⟩ := st.at_ j _ hv
    have hj := (List.getElem?_eq_some_iff.mp hv).1
    rw [setP_some]
    cases rv with
    | ins fpv e hm hk hr k1 k2 =>
      rename_i nn as
      have hn := st.bd j nn hm
      have hlen : as.length = fs.length := by simpa using congrArg List.length hk
      by_cases hc : ((fl c).contains f && decide (fs.length < 1000)) = true
      · rw [if_pos hc]
        have hx : (setF f a as).map Prod.fst = (setF f v fs).map Prod.fst := setF_keys f a v hk
        have s2 : St (S.set nn (.ins c (setF f a as))) l (pl.set j (some (.ins c (setF f v fs)))) (pin fp j (fun i => fp j i ∨ m i)) := by
          refine st.put hj rfl hb (fun _ _ => rfl) ?_ (fun k i hk hi => List.getElem?_set_ne (by rintro rfl; exact hk (st.dj k j _ hi hm))) (by simp) (fun i hi => ?_) (fun k i hk hi hm' => ?_)
          · refine .ins (pin fpv (kix f (as.map Prod.fst)) m) (List.getElem?_set_self hn) (.inl hm) hx (fun k a' v' ea ev => ?_) (fun k i hi => ?_) (fun x y i hx hy => ?_)
            · rw [setF_get] at ea ev
              rw [← hk] at ev
              by_cases e1 : k = kix f (as.map Prod.fst)
              · rw [if_pos e1] at ea ev
                cases ea; cases ev
                subst e1
                exact (r.stay fun i hi => List.getElem?_set_ne (by rintro rfl; exact n.vd _ j hi hm)).pinS
              · rw [if_neg e1] at ea ev
                exact ((hr k a' v' ea ev).stay fun i hi => List.getElem?_set_ne (Ne.symm (k1 k i hi).2)).pinN e1
            · rcases hi with ⟨_, hi⟩ | ⟨_, hi⟩
              · exact ⟨.inr hi, by rintro rfl; exact n.vd _ j hi hm⟩
              · exact ⟨.inl (k1 k i hi).1, (k1 k i hi).2⟩
            · rcases hx with ⟨ex, hx⟩ | ⟨ex, hx⟩
              · rcases hy with ⟨ey, hy⟩ | ⟨ey, hy⟩
                · rw [ex, ey]
                · exact (n.vd _ j hx (k1 _ _ hy).1).elim
              · rcases hy with ⟨ey, hy⟩ | ⟨ey, hy⟩
                · exact (n.vd _ j hy (k1 _ _ hx).1).elim
                · exact k2 _ _ i hx hy
          · rw [List.length_set]
            rcases hi with hi | hi
            · exact st.bd j i hi
            · exact n.vb i hi
          · rcases hm' with hm' | hm'
            · exact hk (st.dj k j i hi hm')
            · exact n.vd i k hm' hi
        refine ⟨l, _, _, ?_, s2, n.upd (.inl ⟨j, hm⟩) (fun k i hi => ?_) (fun _ h => h.elim) (fun _ _ h => h.elim) st.bd, Pp.refl np l⟩
        · rw [loc_of hb]
          show (match objOf (.loc nn) S with | some (n, c, fs) => _ | none => _) = _
          have eo : objOf (.loc nn) S = some (nn, c, as) := by unfold objOf; simp only [e]
          rw [eo]
          show (if ((fl c).contains f && decide (as.length < 1000)) = true then _ else _) = _
          rw [if_pos (by rw [hlen]; exact hc)]
        · rcases hi with ⟨_, hi | hi⟩ | ⟨_, hi⟩
          · exact .inl ⟨j, hi⟩
          · exact .inr hi
          · exact .inl ⟨k, hi⟩
      · rw [if_neg hc]; trivial
/-! ### loops -/
def ploopF (g : PG) (body : PT) : List D → PT
  | [], pl => .nx pl
  | d :: ds, pl => match g d pl with
    | some pl1 => match body pl1 with
      | .nx pl2 => ploopF g body ds pl2
      | .bk pl2 => .nx pl2
      | r => r
    | none => .no
theorem sim_loop {np : Nat} {is : List Nat} {g : DG} {pg : PG} {body : DS} {pb : PT} (hg : SimG np is g pg) (hb : SimS np body pb) : ∀ ds, SimS np (loopF g body ds) (ploopF pg pb ds)
  | [], l, S, pl, fp, st => ⟨l, S, fp, rfl, st, Nw.refl S fp, Pp.refl np l⟩
  | d :: ds, l, S, pl, fp, st => by
    unfold ploopF
    cases e : pg d pl with
    | none => trivial
    | some pl1 =>
      obtain ⟨l1, e1, o⟩ := hg d l S pl fp st pl1 e
      have q := (hb l1 S pl1 fp o.st).after (Nw.refl S fp) o.pp
      unfold loopF
      rw [e1]
      show OutS np S fp l (match body l1 S with | .nx l2 S2 => loopF g body ds l2 S2 | .bk l2 S2 => .nx l2 S2 | r => r) (match pb pl1 with | .nx pl2 => ploopF pg pb ds pl2 | .bk pl2 => .nx pl2 | r => r)
      cases hp : pb pl1 with
      | no => trivial
      | nx pl2 =>
        rw [hp] at q
        obtain ⟨l2, S2, fp2, e2, st2, n2, p2⟩ := q
        rw [e2]
        exact (sim_loop hg hb ds l2 S2 pl2 fp2 st2).after n2 p2
      | bk pl2 =>
        rw [hp] at q
        obtain ⟨l2, S2, fp2, e2, st2, n2, p2⟩ := q
        rw [e2]
        exact ⟨l2, S2, fp2, rfl, st2, n2, p2⟩
      | rt v pl2 =>
        rw [hp] at q
        obtain ⟨a, l2, S2, fp2, m2, e2, r⟩ := q
        rw [e2]
        exact ⟨a, l2, S2, fp2, m2, rfl, r⟩
      | exc x pl2 =>
        rw [hp] at q
        obtain ⟨l2, S2, fp2, e2, r⟩ := q
        rw [e2]
        exact ⟨l2, S2, fp2, rfl, r⟩
def pFor (di : PX (List D)) (g : PG) (body : PT) : PT := fun pl => (di pl).thenP fun ds pl1 => ploopF g body ds pl1
theorem sFor {np : Nat} {is : List Nat} {di : DR (List D)} {pdi : PX (List D)} {g : DG} {pg : PG} {body : DS} {pb : PT} (hi : SimI di pdi) (hg : SimG np is g pg) (hb : SimS np body pb) : SimS np (dFor di g body) (pFor pdi pg pb) := sim_then hi fun a v l S pl fp S0 fp0 m st r n => by
  have r : a = v := r
  subst r
  exact (sim_loop hg hb a l S pl fp st).after n (Pp.refl np l)
def ploopW (c : PX Bool) (body : PT) : Nat → PT
  | 0, _ => .no
  | n + 1, pl => (c pl).thenP fun b pl1 => if b = true then (match body pl1 with
    | .nx pl2 => ploopW c body n pl2
    | .bk pl2 => .nx pl2
    | r => r) else .nx pl1
theorem sim_loopW {np : Nat} {c : DR Bool} {pc : PX Bool} {body : DS} {pb : PT} (hc : SimT c pc) (hb : SimS np body pb) : ∀ n, SimS np (loopW c body n) (ploopW pc pb n)
  | 0, l, S, pl, fp, st => trivial
  | n + 1, l, S, pl, fp, st => sim_then (k := fun b l S1 => if b = true then (match body l S1 with
      | .nx l2 S2 => loopW c body n l2 S2
      | .bk l2 S2 => .nx l2 S2
      | r => r) else .nx l S1) (pk := fun b pl1 => if b = true then (match pb pl1 with
      | .nx pl2 => ploopW pc pb n pl2
      | .bk pl2 => .nx pl2
      | r => r) else .nx pl1) hc (fun a v l S pl fp S0 fp0 m st r nw => by
    have r : a = v := r
    subst r
    cases a with
    | false => exact ⟨l, S, fp, rfl, st, nw.drop, Pp.refl np l⟩
    | true =>
      have q := (hb l S pl fp st).after nw (Pp.refl np l)
      show OutS np S0 fp0 l (match body l S with | .nx l2 S2 => loopW c body n l2 S2 | .bk l2 S2 => .nx l2 S2 | r => r) (match pb pl with | .nx pl2 => ploopW pc pb n pl2 | .bk pl2 => .nx pl2 | r => r)
      cases hp : pb pl with
      | no => trivial
      | nx pl2 =>
        rw [hp] at q
        obtain ⟨l2, S2, fp2, e2, st2, n2, p2⟩ := q
        rw [e2]
        exact (sim_loopW hc hb n l2 S2 pl2 fp2 st2).after n2 p2
      | bk pl2 =>
        rw [hp] at q
        obtain ⟨l2, S2, fp2, e2, st2, n2, p2⟩ := q
        rw [e2]
        exact ⟨l2, S2, fp2, rfl, st2, n2, p2⟩
      | rt v pl2 =>
        rw [hp] at q
        obtain ⟨a, l2, S2, fp2, m2, e2, r⟩ := q
        rw [e2]
        exact ⟨a, l2, S2, fp2, m2, rfl, r⟩
      | exc x pl2 =>
        rw [hp] at q
        obtain ⟨l2, S2, fp2, e2, r⟩ := q
        rw [e2]
        exact ⟨l2, S2, fp2, rfl, r⟩) l S pl fp st
def pWhile (c : PX Bool) (body : PT) : PT := ploopW c body turns
theorem sWhile {np : Nat} {c : DR Bool} {pc : PX Bool} {body : DS} {pb : PT} (hc : SimT c pc) (hb : SimS np body pb) : SimS np (dWhile c body) (pWhile pc pb) := sim_loopW hc hb turns
/-! ### errors -/
def raiseP (c : Nat) (fls : List Str) (ds : List D) (pl : PL) : PS := if ds.length = fls.length then .exc ⟨c, (fls.zip ds).reverse⟩ pl else .no
def pRaise (c : Nat) (fls : List Str) (p : PX (List D)) : PT := fun pl => (p pl).thenP fun ds pl1 => raiseP c fls ds pl1
theorem sRaise {np c : Nat} {fls : List Str} {das : DR (List A)} {p : PX (List D)} (h : SimL das p) : SimS np (dRaise c fls das) (pRaise c fls p) := sim_then h fun a v l S pl fp S0 fp0 m st r n => by
  have r : a = v.map .d := r
  subst r
  rw [pures_mapD]
  unfold raiseP
  by_cases e : v.length = fls.length
  · rw [if_pos e]
    exact ⟨l, S, fp, if_pos e, st, n.drop, Pp.refl np l⟩
  · rw [if_neg e]; trivial
/-- try: .. except X as e: return what the error's fields tell -/
def catchP (sub : Nat → Option Bool) (i : Nat) (dx : DX) : PS → PS
  | .exc x pl => match sub x.cls with
    | some true => if i < pl.length then (match dx x [] with
      | some v => .rt (.d v) (pl.set i none)
      | none => .no) else .no
    | some false => .exc x pl
    | none => .no
  | r => r
def pTryAs (sub : Nat → Option Bool) (i : Nat) (body : PT) (dx : DX) : PT := fun pl => catchP sub i dx (body pl)
theorem sTryAs {np : Nat} {sub : Nat → Option Bool} {i : Nat} {body : DS} {pb : PT} {dx : DX} (hx : ∀ x l, dx x l = dx x []) (h : SimS np body pb) : SimS np (dTryAs sub i body (xRet dx)) (pTryAs sub i pb dx) := fun l S pl fp st => by
  have q := h l S pl fp st
  show OutS np S fp l (dTryAs sub i body (xRet dx) l S) (catchP sub i dx (pb pl))
  unfold dTryAs
  cases hp : pb pl with
  | no => trivial
  | nx pl2 =>
    rw [hp] at q
    obtain ⟨l2, S2, fp2, e2, r⟩ := q
    rw [e2]
    exact ⟨l2, S2, fp2, rfl, r⟩
  | bk pl2 =>
    rw [hp] at q
    obtain ⟨l2, S2, fp2, e2, r⟩ := q
    rw [e2]
    exact ⟨l2, S2, fp2, rfl, r⟩
  | rt v pl2 =>
    rw [hp] at q
    obtain ⟨a, l2, S2, fp2, m2, e2, r⟩ := q
    rw [e2]
    exact ⟨a, l2, S2, fp2, m2, rfl, r⟩
  | exc x pl2 =>
    rw [hp] at q
    obtain ⟨l2, S2, fp2, e2, st2, n2, p2⟩ := q
    rw [e2]
    cases hs : sub x.cls with
    | none => simp only [catchP, hs]; trivial
    | some b =>
      cases b with
      | false => simp only [catchP, hs]; exact ⟨l2, S2, fp2, rfl, st2, n2, p2⟩
      | true =>
        by_cases hi : i < pl2.length
        · cases hd : dx x [] with
          | none => simp only [catchP, hs, hi, hd, if_true]; trivial
          | some v =>
            have s3 : St S2 l2 (pl2.set i none) fp2 := by
              refine ⟨by rw [List.length_set]; exact st2.len, fun k w hk => ?_, st2.dj, st2.bd⟩
              by_cases e : k = i
              · subst e; rw [List.getElem?_set_self hi] at hk; cases hk
              · rw [List.getElem?_set_ne (Ne.symm e)] at hk; exact st2.at_ k w hk
            have hl : i < l2.length := by rw [st2.len]; exact hi
            simp only [catchP, hs, hi, hd, hl, if_true]
            refine ⟨.d v, l2, S2, fp2, Em, ?_, s3, .d v _, n2, p2⟩
            unfold xRet
            rw [hx, hd]
        · simp only [catchP, hs, hi, if_false]; trivial
/-! ### comprehensions -/
def pwipe (pl : PL) : List Nat → PL
  | [] => pl
  | v :: vs => (pwipe pl vs).set v none
def datOf (o : Option (Option PV)) : Option PV := match o with
  | some (some (.d x)) => some (.d x)
  | _ => none
@[simp] theorem datOf_d (x : D) : datOf (some (some (.d x))) = some (.d x) := rfl
@[simp] theorem datOf_n : datOf (some none) = none := rfl
def prest (pl0 : PL) (pl : PL) : List Nat → PL
  | [] => pl
  | v :: vs => (prest pl0 pl vs).set v (datOf (pl0[v]?))
@[simp] theorem pwipe_nil (pl : PL) : pwipe pl [] = pl := rfl
@[simp] theorem pwipe_cons (pl : PL) (v : Nat) (vs : List Nat) : pwipe pl (v :: vs) = (pwipe pl vs).set v none := rfl
@[simp] theorem prest_nil (pl0 pl : PL) : prest pl0 pl [] = pl := rfl
@[simp] theorem prest_cons (pl0 pl : PL) (v : Nat) (vs : List Nat) : prest pl0 pl (v :: vs) = (prest pl0 pl vs).set v (datOf (pl0[v]?)) := rfl
theorem wipeA_len (l : Ev.Loc) : ∀ vs, (wipeA l vs).length = l.length
  | [] => rfl
  | v :: vs => by unfold wipeA; rw [List.length_set, wipeA_len l vs]
theorem pwipe_len (pl : PL) : ∀ vs, (pwipe pl vs).length = pl.length
  | [] => rfl
  | v :: vs => by unfold pwipe; rw [List.length_set, pwipe_len pl vs]
theorem prest_len (pl0 pl : PL) : ∀ vs, (prest pl0 pl vs).length = pl.length
  | [] => rfl
  | v :: vs => by unfold prest; rw [List.length_set, prest_len pl0 pl vs]
theorem wipeA_ne (l : Ev.Loc) {j : Nat} : ∀ {vs : List Nat}, j ∉ vs → (wipeA l vs)[j]? = l[j]?
  | [], _ => rfl
  | v :: vs, h => by
    simp only [List.mem_cons, not_or] at h
    unfold wipeA
    rw [List.getElem?_set_ne (Ne.symm h.1), wipeA_ne l h.2]
theorem pwipe_at (pl : PL) {j : Nat} {v : PV} : ∀ {vs : List Nat}, (pwipe pl vs)[j]? = some (some v) → j ∉ vs ∧ pl[j]? = some (some v)
  | [], h => ⟨by simp, h⟩
  | w :: vs, h => by
    unfold pwipe at h
    by_cases e : j = w
    · subst e
      have hj := (List.getElem?_eq_some_iff.mp h).1
      rw [List.length_set] at hj
      rw [List.getElem?_set_self hj] at h
      cases h
    · rw [List.getElem?_set_ne (Ne.symm e)] at h
      obtain ⟨h1, h2⟩ := pwipe_at pl h
      exact ⟨by simp [e, h1], h2⟩
theorem prest_at (pl0 pl : PL) {j : Nat} {v : PV} : ∀ {vs : List Nat}, (prest pl0 pl vs)[j]? = some (some v) → (j ∈ vs ∧ pl0[j]? = some (some v) ∧ ∃ x, v = .d x) ∨ (j ∉ vs ∧ pl[j]? = some (some v))
  | [], h => .inr ⟨by simp, h⟩
  | w :: vs, h => by
    unfold prest at h
    by_cases e : j = w
    · subst e
      have hj := (List.getElem?_eq_some_iff.mp h).1
      rw [List.length_set] at hj
      rw [List.getElem?_set_self hj] at h
      have h : datOf (pl0[j]?) = some v := Option.some.inj h
      unfold datOf at h
      split at h
      · rename_i x hx
        cases h
        exact .inl ⟨by simp, hx, x, rfl⟩
      · cases h
    · rw [List.getElem?_set_ne (Ne.symm e)] at h
      rcases prest_at pl0 pl h with ⟨h1, h2⟩ | ⟨h1, h2⟩
      · exact .inl ⟨by simp [h1], h2⟩
      · exact .inr ⟨by simp [e, h1], h2⟩
def pcompF {β : Type} (vs : List Nat) (g : PG) (t : PX Bool) (k : β → PX β) : List D → β → PX β
  | [], acc, pl => .ok acc pl
  | d :: ds, acc, pl => match g d pl with
    | some pl1 => match t pl1 with
      | .ok true pl2 => match k acc pl2 with
        | .ok acc2 pl3 => pcompF vs g t k ds acc2 (pwipe pl3 vs)
        | _ => .no
      | .ok false pl2 => pcompF vs g t k ds acc (pwipe pl2 vs)
      | _ => .no
    | none => .no
/-- behind a turn the slots are as before it -/
theorem St.wiped {S : Store} {l l1 : Ev.Loc} {pl : PL} {fp : Nat → FP} {is vs : List Nat} (st : St S l1 pl fp) (hl : l1.length = l.length) (ne : ∀ j, j ∉ is → l1[j]? = (wipeA l vs)[j]?) (sub : ∀ i ∈ is, i ∈ vs) : St S (wipeA l vs) (pwipe pl vs) fp := by
  refine ⟨by rw [wipeA_len, pwipe_len, ← hl]; exact st.len, fun j v h => ?_, st.dj, st.bd⟩
  obtain ⟨h1, h2⟩ := pwipe_at pl h
  obtain ⟨a, h3, h4⟩ := st.at_ j v h2
  exact ⟨a, by rw [← ne j fun z => h1 (sub j z)]; exact h3, h4⟩
theorem sim_comp {α β : Type} {rel : β → α → Prop} {is vs : List Nat} {g : DG} {pg : PG} {t : DR Bool} {pt : PX Bool} {k : α → Ev.Loc → Store → Res α} {pk : β → PX β} (hg : SimG 0 is g pg) (sub : ∀ i ∈ is, i ∈ vs) (ht : SimT t pt) (hk : ∀ a b, rel b a → Sim (fun _ a b _ => rel b a) (k a) (pk b)) {l : Ev.Loc} : ∀ (ds : List D) (a : α) (b : β), rel b a → ∀ S pl fp, St S (wipeA l vs) pl fp → match pcompF vs pg pt pk ds b pl with
    | .ok b' pl' => ∃ a' S' fp', compF g t k (wipeA l vs) ds a S = .ok a' S' ∧ rel b' a' ∧ St S' (wipeA l vs) pl' fp' ∧ Nw S fp S' fp' Em
    | .exc _ _ => False
    | .no => True
  | [], a, b, hab, S, pl, fp, st => ⟨a, S, fp, rfl, hab, st, Nw.refl S fp⟩
  | d :: ds, a, b, hab, S, pl, fp, st => by
    unfold pcompF
    cases e : pg d pl with
    | none => trivial
    | some pl1 =>
      obtain ⟨l1, e1, o⟩ := hg d _ S pl fp st pl1 e
      have hl : l1.length = l.length := o.len.trans (wipeA_len l vs)
      have q := ht l1 S pl1 fp o.st
      unfold compF
      rw [e1]
      simp only
      cases hp : pt pl1 with
      | no => trivial
      | exc x pl2 => trivial
      | ok c pl2 =>
        rw [hp] at q
        obtain ⟨c', S2, fp2, m2, e2, st2, ec, n2⟩ := q
        have ec : c' = c := ec
        subst ec
        cases c' with
        | false =>
          simp only [e2, id]
          have s3 := st2.wiped hl o.ne sub
          have z := sim_comp hg sub ht hk ds a b hab S2 _ fp2 s3
          revert z
          cases pcompF vs pg pt pk ds b (pwipe pl2 vs) with
          | no => exact fun _ => trivial
          | exc x pl3 => exact fun h => h.elim
          | ok b' pl3 => exact fun ⟨a', S', fp', f1, f2, f3, f4⟩ => ⟨a', S', fp', f1, f2, f3, n2.trans f4⟩
        | true =>
          simp only [e2, id]
          have q3 := hk a b hab l1 S2 pl2 fp2 st2
          cases hp3 : pk b pl2 with
          | no => trivial
          | exc x pl3 => trivial
          | ok b2 pl3 =>
            rw [hp3] at q3
            obtain ⟨a2, S3, fp3, m3, e3, st3, r3, n3⟩ := q3
            simp only [e3]
            have s4 := st3.wiped hl o.ne sub
            have z := sim_comp hg sub ht hk ds a2 b2 r3 S3 _ fp3 s4
            revert z
            cases pcompF vs pg pt pk ds b2 (pwipe pl3 vs) with
            | no => exact fun _ => trivial
            | exc x pl4 => exact fun h => h.elim
            | ok b' pl4 => exact fun ⟨a', S', fp', f1, f2, f3, f4⟩ => ⟨a', S', fp', f1, f2, f3, (n2.trans n3).trans f4⟩
theorem St.start {S : Store} {l : Ev.Loc} {pl : PL} {fp : Nat → FP} (st : St S l pl fp) (vs : List Nat) : St S (wipeA l vs) (pwipe pl vs) fp := st.wiped (is := vs) rfl (fun j hj => (wipeA_ne l hj).symm) fun i h => h
theorem St.rest {S S0 : Store} {l : Ev.Loc} {pl pl0 : PL} {fp fp0 : Nat → FP} {vs : List Nat} (st0 : St S0 l pl0 fp0) (st : St S (wipeA l vs) pl fp) : St S l (prest pl0 pl vs) fp := by
  refine ⟨by rw [prest_len, ← wipeA_len l vs]; exact st.len, fun j v h => ?_, st.dj, st.bd⟩
  rcases prest_at pl0 pl h with ⟨_, h2, x, rfl⟩ | ⟨h1, h2⟩
  · obtain ⟨a, h3, h4⟩ := st0.at_ j _ h2
    cases h4
    exact ⟨_, h3, .d x _⟩
  · obtain ⟨a, h3, h4⟩ := st.at_ j v h2
    exact ⟨a, by rw [← wipeA_ne l h1]; exact h3, h4⟩
def PR.strict {α β : Type} (r : PR α) (f : α → PL → PR β) : PR β := match r with
  | .ok a l => f a l
  | _ => .no
@[simp] theorem PR.ok_strict {α β : Type} (a : α) (l : PL) (f : α → PL → PR β) : (PR.ok a l).strict f = f a l := rfl
def pputE (d : PX D) (acc : List D) : PX (List D) := fun pl => (d pl).strict fun y pl1 => if acc.length < 16777216 then .ok (acc ++ [y]) pl1 else .no
def pLc (di : PX (List D)) (vs : List Nat) (g : PG) (t : PX Bool) (d : PX D) : PX D := fun pl => (di pl).bind fun ds pl1 => (pcompF vs g t (pputE d) ds [] (pwipe pl1 vs)).bind fun acc pl2 => .ok (.list acc) (prest pl1 pl2 vs)
theorem sLc {is vs : List Nat} {di : DR (List D)} {pdi : PX (List D)} {g : DG} {pg : PG} {t : DR Bool} {pt : PX Bool} {d : DE} {p : PX D} (hi : SimI di pdi) (hg : SimG 0 is g pg) (sub : ∀ i ∈ is, i ∈ vs) (ht : SimT t pt) (h : SimD d p) : SimD (dLc di vs g t d) (pLc pdi vs pg pt p) := by
  refine sim_bind (k := fun ds l S1 => (compF g t (putE d) (wipeA l vs) ds [] S1).bind fun acc S2 => Res.ok (A.d (.list acc)) S2) (pk := fun ds pl1 => (pcompF vs pg pt (pputE p) ds [] (pwipe pl1 vs)).bind fun acc pl2 => PR.ok (PyData.list acc) (prest pl1 pl2 vs)) hi fun ds l S pl fp st => ?_
  have z := sim_comp (rel := Eq) (k := putE d) (pk := pputE p) hg sub ht (fun a b hab => by
    subst hab
    intro l S pl fp st
    have q := h l S pl fp st
    show Out _ S fp l (putE d b l S) ((p pl).strict _)
    cases hp : p pl with
    | no => trivial
    | exc x pl1 => trivial
    | ok y pl1 =>
      rw [hp] at q
      obtain ⟨_, S1, fp1, m1, e1, st1, rfl, n1⟩ := q
      rw [PR.ok_strict]
      by_cases hz : b.length < 16777216
      · rw [if_pos hz]
        refine ⟨_, S1, fp1, m1, ?_, st1, rfl, n1⟩
        unfold putE
        rw [e1]
        exact if_pos hz
      · rw [if_neg hz]; trivial) ds [] [] rfl S _ fp (st.start vs)
  show Out _ S fp l ((compF g t (putE d) (wipeA l vs) ds [] S).bind _) ((pcompF vs pg pt (pputE p) ds [] (pwipe pl vs)).bind _)
  revert z
  cases pcompF vs pg pt (pputE p) ds [] (pwipe pl vs) with
  | no => exact fun _ => trivial
  | exc x pl3 => exact fun h => h.elim
  | ok b' pl3 =>
    intro ⟨a', S', fp', f1, f2, f3, f4⟩
    subst f2
    exact ⟨_, S', fp', Em, by rw [f1]; rfl, st.rest f3, rfl, f4⟩
end Pv

/-! Pv4: calls, methods, new objects, whole defs. -/
namespace Pv
open PySem PySem.Spec L2 Ev
/-- an argument: a value, or a slot -/
inductive AV where
  | v (x : PV)
  | s (j : Nat)
inductive FR where
  | ok (v : PV) (vs : List PV)
  | exc (x : Exn) (vs : List PV)
  | no
abbrev PFns := Nat → List PV → FR
theorem Nw.weak {S S' : Store} {fp fp' : Nat → FP} {m m' : FP} (a : Nw S fp S' fp' m) (h : ∀ i, m' i → m i) : Nw S fp S' fp' m' := ⟨a.le, a.fr, a.sub, fun i k => a.vb i (h i k), fun i j k => a.vd i j (h i k), fun i k => a.vs i (h i k)⟩
def avOk (l : Ev.Loc) (S : Store) (a : A) (m : FP) : AV → Prop
  | .v x => RV S a x m
  | .s j => l[j]? = some (some a)
structure ArgsOk (l : Ev.Loc) (S : Store) (as : List A) (avs : List AV) (ma : Nat → FP) (m : FP) : Prop where
  len : as.length = avs.length
  at_ : ∀ (k : Nat) a av, as[k]? = some a → avs[k]? = some av → avOk l S a (ma k) av
  sub : ∀ k i, ma k i → m i
  dj : ∀ j k i, ma j i → ma k i → j = k
def relAs (l : Ev.Loc) : Rl (List A) (List AV) := fun S as avs m => ∃ ma, ArgsOk l S as avs ma m
def SimAs (d : DR (List A)) (p : PX (List AV)) : Prop := ∀ l S pl fp, St S l pl fp → Out (relAs l) S fp l (d l S) (p pl)
def pANil : PX (List AV) := fun pl => .ok [] pl
theorem sANil : SimAs dNil pANil := fun l S pl fp st => ⟨[], S, fp, Em, rfl, st, ⟨fun _ => Em, rfl, fun k a av h => by simp at h, fun k i h => h, fun j k i h => h.elim⟩, Nw.refl S fp⟩
def pAVal (p : PX PV) (r : PX (List AV)) : PX (List AV) := fun pl => (p pl).bind fun x pl1 => (r pl1).bind fun avs pl2 => .ok (.v x :: avs) pl2
def shiftF (m : FP) (ma : Nat → FP) : Nat → FP := fun k => match k with
  | 0 => m
  | k + 1 => ma k
theorem sAVal {d : DE} {das : DR (List A)} {p : PX PV} {r : PX (List AV)} (h : SimE d p) (h2 : SimAs das r) : SimAs (dCons d das) (pAVal p r) := fun l S pl fp st => by
  have q := h l S pl fp st
  show Out (relAs l) S fp l ((d l S).bind fun x S1 => (das l S1).bind fun xs S2 => .ok (x :: xs) S2) ((p pl).bind fun x pl1 => (r pl1).bind fun avs pl2 => .ok (.v x :: avs) pl2)
  cases hp : p pl with
  | no => trivial
  | exc x pl1 =>
    rw [hp] at q
    obtain ⟨S1, fp1, e1, st1, n1⟩ := q
    exact ⟨S1, fp1, by rw [e1]; rfl, st1, n1⟩
  | ok v pl1 =>
    rw [hp] at q
    obtain ⟨a, S1, fp1, m1, e1, st1, r1, n1⟩ := q
    rw [PR.ok_bind, e1, Res.ok_bind]
    have q2 := h2 l S1 pl1 fp1 st1
    cases hr : r pl1 with
    | no => trivial
    | exc x pl2 =>
      rw [hr] at q2
      obtain ⟨S2, fp2, e2, st2, n2⟩ := q2
      exact ⟨S2, fp2, by rw [e2]; rfl, st2, n1.trans n2⟩
    | ok avs pl2 =>
      rw [hr] at q2
      obtain ⟨as, S2, fp2, m2, e2, st2, ⟨ma, ok⟩, n2⟩ := q2
      refine ⟨a :: as, S2, fp2, _, by rw [e2]; rfl, st2, ⟨shiftF m1 ma, by simp [ok.len], fun k b av eb ev => ?_, fun k i hk => ?_, fun j k i hj hk => ?_⟩, n1.both n2⟩
      · cases k with
        | zero => cases eb; cases ev; exact r1.stay (n1.keep n2)
        | succ k => exact ok.at_ k b av (by simpa using eb) (by simpa using ev)
      · cases k with
        | zero => exact .inl hk
        | succ k => exact .inr (ok.sub k i hk)
      · cases j with
        | zero =>
          cases k with
          | zero => rfl
          | succ k => exact (n1.apart n2 i hj (ok.sub k i hk)).elim
        | succ j =>
          cases k with
          | zero => exact (n1.apart n2 i hk (ok.sub j i hj)).elim
          | succ k => rw [ok.dj j k i hj hk]
def pASlot (j : Nat) (r : PX (List AV)) : PX (List AV) := fun pl => if (rName j pl).isSome = true then (r pl).bind fun avs pl1 => .ok (.s j :: avs) pl1 else .no
theorem sASlot {j : Nat} {das : DR (List A)} {r : PX (List AV)} (h2 : SimAs das r) : SimAs (dCons (dName j) das) (pASlot j r) := fun l S pl fp st => by
  show Out (relAs l) S fp l ((dName j l S).bind fun x S1 => (das l S1).bind fun xs S2 => .ok (x :: xs) S2) (if (rName j pl).isSome = true then (r pl).bind fun avs pl1 => .ok (.s j :: avs) pl1 else .no)
  by_cases hs : (rName j pl).isSome = true
  · obtain ⟨v, hv⟩ := Option.isSome_iff_exists.mp hs
    obtain ⟨a, ha, _⟩ := st.at_ j v (rName_at hv)
    rw [if_pos hs, loc_of ha, Res.ok_bind]
    have q2 := h2 l S pl fp st
    cases hr : r pl with
    | no => trivial
    | exc x pl2 =>
      rw [hr] at q2
      obtain ⟨S2, fp2, e2, st2, n2⟩ := q2
      exact ⟨S2, fp2, by rw [e2]; rfl, st2, n2⟩
    | ok avs pl2 =>
      rw [hr] at q2
      obtain ⟨as, S2, fp2, m2, e2, st2, ⟨ma, ok⟩, n2⟩ := q2
      refine ⟨a :: as, S2, fp2, m2, by rw [e2]; rfl, st2, ⟨shiftF Em ma, by simp [ok.len], fun k b av eb ev => ?_, fun k i hk => ?_, fun j k i hj hk => ?_⟩, n2⟩
      · cases k with
        | zero => cases eb; cases ev; exact ha
        | succ k => exact ok.at_ k b av (by simpa using eb) (by simpa using ev)
      · cases k with
        | zero => exact hk.elim
        | succ k => exact ok.sub k i hk
      · cases j with
        | zero => exact hj.elim
        | succ j =>
          cases k with
          | zero => exact hk.elim
          | succ k => rw [ok.dj j k i hj hk]
  · rw [if_neg hs]; trivial
/-! ### what is handed over -/
def gather : List AV → PL → Option (List PV)
  | [], _ => some []
  | .v x :: r, pl => (gather r pl).map (x :: ·)
  | .s j :: r, pl => match getO (pl[j]?) with
    | some (.d x) => (gather r pl).map (.d x :: ·)
    | some v => (gather r (pl.set j none)).map (v :: ·)
    | none => none
def scatter : List AV → List PV → PL → PL
  | .v _ :: r, _ :: ws, pl => scatter r ws pl
  | .s j :: r, w :: ws, pl => if isDat (pl[j]?) = true then scatter r ws pl else scatter r ws (pl.set j (some w))
  | _, _, pl => pl
theorem isDat_iff {pl : PL} {j : Nat} {v : PV} (h : pl[j]? = some (some v)) (hd : isDat (pl[j]?) = false) : ∀ x, v ≠ .d x := by
  rintro x rfl
  rw [h] at hd; cases hd
structure GaOk (avs : List AV) (pl : PL) (vs : List PV) : Prop where
  len : vs.length = avs.length
  v : ∀ (k : Nat) x, avs[k]? = some (.v x) → vs[k]? = some x
  s : ∀ (k j : Nat), avs[k]? = some (.s j) → ∃ v, vs[k]? = some v ∧ pl[j]? = some (some v)
  one : ∀ (k k' j : Nat), avs[k]? = some (.s j) → avs[k']? = some (.s j) → isDat (pl[j]?) = false → k = k'
theorem getO_at {o : Option (Option PV)} {v : PV} (h : getO o = some v) : o = some (some v) := by
  unfold getO at h
  split at h
  · rw [h]
  · cases h
theorem gather_ok : ∀ {avs : List AV} {pl : PL} {vs : List PV}, gather avs pl = some vs → GaOk avs pl vs
  | [], pl, vs, h => by cases h; exact ⟨rfl, fun k x h => by simp at h, fun k j h => by simp at h, fun k k' j h => by simp at h⟩
  | .v x :: r, pl, vs, h => by
    obtain ⟨ws, h1, rfl⟩ := Option.map_eq_some_iff.mp (show (gather r pl).map (x :: ·) = some vs from h)
    have ih := gather_ok h1
    refine ⟨by simp [ih.len], fun k y hk => ?_, fun k j hk => ?_, fun k k' j hk hk' hd => ?_⟩
    · cases k with
      | zero => cases hk; rfl
      | succ k => simpa using ih.v k y (by simpa using hk)
    · cases k with
      | zero => cases hk
      | succ k => simpa using ih.s k j (by simpa using hk)
    · cases k with
      | zero => cases hk
      | succ k =>
        cases k' with
        | zero => cases hk'
        | succ k' => rw [ih.one k k' j (by simpa using hk) (by simpa using hk') hd]
  | .s j :: r, pl, vs, h => by
    unfold gather at h
    split at h
    · rename_i x hx
      obtain ⟨ws, h1, rfl⟩ := Option.map_eq_some_iff.mp h
      have ih := gather_ok h1
      have hp := getO_at hx
      refine ⟨by simp [ih.len], fun k y hk => ?_, fun k i hk => ?_, fun k k' i hk hk' hd => ?_⟩
      · cases k with
        | zero => cases hk
        | succ k => simpa using ih.v k y (by simpa using hk)
      · cases k with
        | zero => cases hk; exact ⟨_, rfl, hp⟩
        | succ k => simpa using ih.s k i (by simpa using hk)
      · cases k with
        | zero =>
          cases hk
          rw [hp] at hd; cases hd
        | succ k =>
          cases k' with
          | zero => cases hk'; rw [hp] at hd; cases hd
          | succ k' => rw [ih.one k k' i (by simpa using hk) (by simpa using hk') hd]
    · rename_i v hx hv
      obtain ⟨ws, h1, rfl⟩ := Option.map_eq_some_iff.mp h
      have ih := gather_ok h1
      have hp := getO_at hv
      have hj := (List.getElem?_eq_some_iff.mp hp).1
      have no : ∀ k : Nat, r[k]? = some (.s j) → False := fun k hk => by
        obtain ⟨v', _, e⟩ := ih.s k j hk
        rw [List.getElem?_set_self hj] at e
        cases e
      refine ⟨by simp [ih.len], fun k y hk => ?_, fun k i hk => ?_, fun k k' i hk hk' hd => ?_⟩
      · cases k with
        | zero => cases hk
        | succ k => simpa using ih.v k y (by simpa using hk)
      · cases k with
        | zero => cases hk; exact ⟨_, rfl, hp⟩
        | succ k =>
          have hk : r[k]? = some (.s i) := by simpa using hk
          obtain ⟨v', e1, e2⟩ := ih.s k i hk
          have hij : j ≠ i := by rintro rfl; exact no k hk
          rw [List.getElem?_set_ne hij] at e2
          exact ⟨v', by simpa using e1, e2⟩
      · cases k with
        | zero =>
          cases hk
          cases k' with
          | zero => rfl
          | succ k' => exact (no k' (by simpa using hk')).elim
        | succ k =>
          cases k' with
          | zero => cases hk'; exact (no k (by simpa using hk)).elim
          | succ k' =>
            have hk : r[k]? = some (.s i) := by simpa using hk
            have hij : j ≠ i := by rintro rfl; exact no k hk
            rw [ih.one k k' i hk (by simpa using hk') (by rw [List.getElem?_set_ne hij]; exact hd)]
    · cases h
theorem scatter_len : ∀ (avs : List AV) (ws : List PV) (pl : PL), (scatter avs ws pl).length = pl.length
  | [], _, _ => rfl
  | .v _ :: r, [], _ => rfl
  | .s _ :: r, [], _ => rfl
  | .v _ :: r, _ :: ws, pl => scatter_len r ws pl
  | .s j :: r, w :: ws, pl => by
    unfold scatter
    split
    · exact scatter_len r ws pl
    · rw [scatter_len r ws, List.length_set]
/-- where a slot was handed over its new content stands, else the old one -/
theorem scatter_at : ∀ (avs : List AV) (ws : List PV) (pl : PL), avs.length = ws.length → (∀ (k j : Nat), avs[k]? = some (AV.s j) → ∃ v, pl[j]? = some (some v)) → (∀ (k : Nat) w, ws[k]? = some w → ∀ j, avs[k]? = some (AV.s j) → isDat (pl[j]?) = false → ∀ x, w ≠ .d x) → (∀ (k k' j : Nat), avs[k]? = some (AV.s j) → avs[k']? = some (AV.s j) → isDat (pl[j]?) = false → k = k') → ∀ j v, (scatter avs ws pl)[j]? = some (some v) →
    (∃ k : Nat, avs[k]? = some (AV.s j) ∧ isDat (pl[j]?) = false ∧ ws[k]? = some v) ∨ ((∀ k : Nat, avs[k]? = some (AV.s j) → isDat (pl[j]?) = true) ∧ pl[j]? = some (some v))
  | [], _, pl, _, _, _, _, j, v, h => .inr ⟨fun k h => by simp at h, h⟩
  | .v _ :: r, [], pl, hl, _, _, _, _, _, _ => by simp at hl
  | .s _ :: r, [], pl, hl, _, _, _, _, _, _ => by simp at hl
  | .v y :: r, w :: ws, pl, hl, hs, hw, h1, j, v, h => by
    rcases scatter_at r ws pl (by simpa using hl) (fun k j hk => hs (k + 1) j (by simpa using hk)) (fun k w hk j hj => hw (k + 1) w (by simpa using hk) j (by simpa using hj)) (fun k k' j hk hk' hd => by have := h1 (k + 1) (k' + 1) j (by simpa using hk) (by simpa using hk') hd; omega) j v h with ⟨k, e1, e2, e3⟩ | ⟨e1, e2⟩
    · exact .inl ⟨k + 1, by simpa using e1, e2, by simpa using e3⟩
    · refine .inr ⟨fun k hk => ?_, e2⟩
      cases k with
      | zero => cases hk
      | succ k => exact e1 k (by simpa using hk)
  | .s i :: r, w :: ws, pl, hl, hs, hw, h1, j, v, h => by
    unfold scatter at h
    by_cases hd : isDat (pl[i]?) = true
    · rw [if_pos hd] at h
      rcases scatter_at r ws pl (by simpa using hl) (fun k j hk => hs (k + 1) j (by simpa using hk)) (fun k w hk j hj => hw (k + 1) w (by simpa using hk) j (by simpa using hj)) (fun k k' j hk hk' hd => by have := h1 (k + 1) (k' + 1) j (by simpa using hk) (by simpa using hk') hd; omega) j v h with ⟨k, e1, e2, e3⟩ | ⟨e1, e2⟩
      · exact .inl ⟨k + 1, by simpa using e1, e2, by simpa using e3⟩
      · refine .inr ⟨fun k hk => ?_, e2⟩
        cases k with
        | zero => cases hk; exact hd
        | succ k => exact e1 k (by simpa using hk)
    · rw [if_neg hd] at h
      have hd' : isDat (pl[i]?) = false := by simpa using hd
      have nor : ∀ k : Nat, r[k]? = some (.s i) → False := fun k hk => by
        have := h1 0 (k + 1) i rfl (by simpa using hk) hd'
        omega
      have hil : i < pl.length := by
        obtain ⟨v, e⟩ := hs 0 i rfl
        exact (List.getElem?_eq_some_iff.mp e).1
      have neq : ∀ k i', r[k]? = some (AV.s i') → i ≠ i' := fun k i' hk => by rintro rfl; exact nor k hk
      rcases scatter_at r ws (pl.set i (some w)) (by simpa using hl) (fun k j hk => by rw [List.getElem?_set_ne (neq k j hk)]; exact hs (k + 1) j (by simpa using hk)) (fun k w hk j hj hd => by rw [List.getElem?_set_ne (neq k j hj)] at hd; exact hw (k + 1) w (by simpa using hk) j (by simpa using hj) hd) (fun k k' j hk hk' hd => by rw [List.getElem?_set_ne (neq k j hk)] at hd; have := h1 (k + 1) (k' + 1) j (by simpa using hk) (by simpa using hk') hd; omega) j v h with ⟨k, e1, e2, e3⟩ | ⟨e1, e2⟩
      · rw [List.getElem?_set_ne (neq k j e1)] at e2
        exact .inl ⟨k + 1, by simpa using e1, e2, by simpa using e3⟩
      · by_cases hij : i = j
        · subst hij
          rw [List.getElem?_set_self hil] at e2
          cases e2
          exact .inl ⟨0, rfl, hd', rfl⟩
        · rw [List.getElem?_set_ne hij] at e2
          refine .inr ⟨fun k hk => ?_, e2⟩
          cases k with
          | zero => cases hk; exact absurd rfl hij
          | succ k =>
            have := e1 k (by simpa using hk)
            rw [List.getElem?_set_ne hij] at this
            exact this
/-! ### defs -/
structure VsOk (S : Store) (as : List A) (vs : List PV) (fp : Nat → FP) : Prop where
  len : vs.length = as.length
  at_ : ∀ (j : Nat) a v, as[j]? = some a → vs[j]? = some v → RV S a v (fp j)
  dj : ∀ j k i, fp j i → fp k i → j = k
  bd : ∀ j i, fp j i → i < S.length
/-- what is handed over of plain data stays so, other things stay other things -/
def Like : List PV → List PV → Prop := fun vs ws => ∀ (j : Nat) v w, vs[j]? = some v → ws[j]? = some w → (∀ x, v ≠ .d x) → ∀ x, w ≠ .d x
def OutF (S : Store) (as : List A) (vs : List PV) (fp : Nat → FP) (r : Res A) : FR → Prop
  | .ok v ws => ∃ a S' fp' m, r = .ok a S' ∧ VsOk S' as ws fp' ∧ Like vs ws ∧ RV S' a v m ∧ Nw S fp S' fp' m
  | .exc x ws => ∃ S' fp', r = .exc x S' ∧ VsOk S' as ws fp' ∧ Like vs ws ∧ Nw S fp S' fp' Em
  | .no => True
def SimF (f : List A → Store → Res A) (p : List PV → FR) : Prop := ∀ as S vs fp, VsOk S as vs fp → OutF S as vs fp (f as S) (p vs)
def SimFs (F : Fns) (P : PFns) : Prop := ∀ i, SimF (F i) (P i)
/-- the footprints of what is handed over -/
def avF (pl : PL) (fp : Nat → FP) (m : FP) (i : Nat) : AV → Prop
  | .v _ => m i
  | .s j => isDat (pl[j]?) = false ∧ fp j i
def hFp (avs : List AV) (pl : PL) (ma fp : Nat → FP) : Nat → FP := fun k i => ∃ av, avs[k]? = some av ∧ avF pl fp (ma k) i av
/-- behind a call -/
structure Back (S : Store) (fp : Nat → FP) (l : Ev.Loc) (as : List A) (avs : List AV) (ws : List PV) (S2 : Store) (fp2 : Nat → FP) (pl2 : PL) (fpa : Nat → FP) (m : FP) : Prop where
  st : St S2 l pl2 fp2
  nw : Nw S fp S2 fp2 (fun i => m i ∨ ∃ (k : Nat) (x : PV), avs[k]? = some (AV.v x) ∧ fpa k i)
theorem back {S S1 S2 : Store} {fp fp1 : Nat → FP} {l : Ev.Loc} {pl1 : PL} {as : List A} {avs : List AV} {vs ws : List PV} {ma fpa : Nat → FP} {mm m : FP} (st1 : St S1 l pl1 fp1) (n1 : Nw S fp S1 fp1 mm) (ok : ArgsOk l S1 as avs ma mm) (g : GaOk avs pl1 vs)
    (vo : VsOk S2 as ws fpa) (lk : Like vs ws) (n2 : Nw S1 (hFp avs pl1 ma fp1) S2 fpa m) : ∃ fp2, Back S fp l as avs ws S2 fp2 (scatter avs ws pl1) fpa m := by
  have up : ∀ i, (∃ k, hFp avs pl1 ma fp1 k i) ∨ S1.length ≤ i → (∃ k, fp k i) ∨ S.length ≤ i := fun i h => by
    rcases h with ⟨k, av, _, h⟩ | h
    · cases av with
      | v x => exact n1.vs i (ok.sub k i h)
      | s j => exact n1.sub j i h.2
    · exact .inr (Nat.le_trans n1.le h)
  -- a slot not handed over
  have own : ∀ j i, fp1 j i → (∀ k, avs[k]? = some (AV.s j) → isDat (pl1[j]?) = true) → ∀ k av, avs[k]? = some av → ¬ avF pl1 fp1 (ma k) i av := fun j i hj hn k av hk h => by
    cases av with
    | v x => exact n1.vd i j (ok.sub k i h) hj
    | s j' =>
      have e := st1.dj j' j i h.2 hj
      subst e
      have h1 : isDat (pl1[j']?) = false := h.1
      rw [hn k hk] at h1
      exact absurd h1 (by decide)
  have lw : avs.length = ws.length := by rw [vo.len, ok.len]
  refine ⟨fun (j i : Nat) => (∃ k : Nat, avs[k]? = some (AV.s j) ∧ isDat (pl1[j]?) = false ∧ fpa k i) ∨ ((∀ k : Nat, avs[k]? = some (AV.s j) → isDat (pl1[j]?) = true) ∧ fp1 j i), ⟨by rw [scatter_len]; exact st1.len, fun j v hv => ?_, fun j j' i h h' => ?_, fun j i h => ?_⟩, Nat.le_trans n1.le n2.le, fun i hi hn => ?_, fun j i h => ?_, fun i h => ?_, fun i j h h' => ?_, fun i h => ?_⟩
  · rcases scatter_at avs ws pl1 lw (fun k j hk => let ⟨v, _, e⟩ := g.s k j hk; ⟨v, e⟩) (fun k w hw j hj hd => by
      obtain ⟨v, e1, e2⟩ := g.s k j hj
      exact lk k v w e1 hw (isDat_iff e2 hd)) (fun k k' j => g.one k k' j) j v hv with ⟨k, e1, e2, e3⟩ | ⟨e1, e2⟩
    · have hk : k < as.length := by rw [ok.len]; exact (List.getElem?_eq_some_iff.mp e1).1
      have ha : as[k]? = some as[k] := List.getElem?_eq_getElem hk
      have q := ok.at_ k _ _ ha e1
      exact ⟨as[k], q, (vo.at_ k _ v ha e3).mono fun i hi => .inl ⟨k, e1, e2, hi⟩⟩
    · obtain ⟨a, h1, h2⟩ := st1.at_ j v e2
      exact ⟨a, h1, (h2.stay fun i hi => n2.fr i (st1.bd j i hi) fun k ⟨av, q1, q2⟩ => own j i hi e1 k av q1 q2).mono fun i hi => .inr ⟨e1, hi⟩⟩
  · rcases h with ⟨k, e1, e2, e3⟩ | ⟨e1, e2⟩
    · rcases h' with ⟨k', f1, f2, f3⟩ | ⟨f1, f2⟩
      · have := vo.dj k k' i e3 f3
        subst this
        rw [e1] at f1; cases f1; rfl
      · rcases n2.sub k i e3 with ⟨k', av, q1, q2⟩ | q
        · exact (own j' i f2 f1 k' av q1 q2).elim
        · exact absurd (st1.bd j' i f2) (Nat.not_lt.mpr q)
    · rcases h' with ⟨k', f1, f2, f3⟩ | ⟨f1, f2⟩
      · rcases n2.sub k' i f3 with ⟨k, av, q1, q2⟩ | q
        · exact (own j i e2 e1 k av q1 q2).elim
        · exact absurd (st1.bd j i e2) (Nat.not_lt.mpr q)
      · exact st1.dj j j' i e2 f2
  · rcases h with ⟨k, e1, e2, e3⟩ | ⟨e1, e2⟩
    · exact vo.bd k i e3
    · exact Nat.lt_of_lt_of_le (st1.bd j i e2) n2.le
  · refine (n2.fr i (Nat.lt_of_lt_of_le hi n1.le) fun k hk => ?_).trans (n1.fr i hi hn)
    rcases up i (.inl ⟨k, hk⟩) with ⟨k, h⟩ | h
    · exact hn k h
    · exact absurd hi (Nat.not_lt.mpr h)
  · rcases h with ⟨k, e1, e2, e3⟩ | ⟨e1, e2⟩
    · exact up i (n2.sub k i e3)
    · exact n1.sub j i e2
  · rcases h with h | ⟨k, x, hk, h⟩
    · exact n2.vb i h
    · exact vo.bd k i h
  · rcases h with h | ⟨k, x, hk, h⟩
    · rcases h' with ⟨k', f1, f2, f3⟩ | ⟨f1, f2⟩
      · exact n2.vd i k' h f3
      · rcases n2.vs i h with ⟨k, av, q1, q2⟩ | q
        · exact own j i f2 f1 k av q1 q2
        · exact absurd (st1.bd j i f2) (Nat.not_lt.mpr q)
    · rcases h' with ⟨k', f1, f2, f3⟩ | ⟨f1, f2⟩
      · have := vo.dj k k' i h f3
        subst this
        rw [hk] at f1; cases f1
      · rcases n2.sub k i h with ⟨k, av, q1, q2⟩ | q
        · exact own j i f2 f1 k av q1 q2
        · exact absurd (st1.bd j i f2) (Nat.not_lt.mpr q)
  · rcases h with h | ⟨k, x, hk, h⟩
    · exact up i (n2.vs i h)
    · exact up i (n2.sub k i h)
/-- what is handed over stands for what it is -/
theorem handed {S1 : Store} {fp1 : Nat → FP} {l : Ev.Loc} {pl1 : PL} {as : List A} {avs : List AV} {vs : List PV} {ma : Nat → FP} {S : Store} {fp : Nat → FP} {mm : FP} (st1 : St S1 l pl1 fp1) (n1 : Nw S fp S1 fp1 mm) (ok : ArgsOk l S1 as avs ma mm) (g : GaOk avs pl1 vs) :
    VsOk S1 as vs (hFp avs pl1 ma fp1) := by
  refine ⟨by rw [g.len, ok.len], fun k a v ha hv => ?_, fun j k i ⟨av, h1, h2⟩ ⟨av', h3, h4⟩ => ?_, fun k i ⟨av, h1, h2⟩ => ?_⟩
  · have hk : k < avs.length := by rw [← ok.len]; exact (List.getElem?_eq_some_iff.mp ha).1
    have e : avs[k]? = some avs[k] := List.getElem?_eq_getElem hk
    have q := ok.at_ k a _ ha e
    generalize avs[k] = av at *
    cases av with
    | v x =>
      rw [g.v k x e] at hv; cases hv
      exact RV.mono q fun i hi => ⟨_, e, hi⟩
    | s j =>
      obtain ⟨v', e1, e2⟩ := g.s k j e
      rw [e1] at hv; cases hv
      obtain ⟨a', h1, h2⟩ := st1.at_ j _ e2
      have q : l[j]? = some (some a) := q
      rw [q] at h1; cases h1
      cases hd : isDat (pl1[j]?) with
      | true =>
        obtain ⟨x, hx⟩ := isDat_some hd
        rw [hx] at e2; cases e2; cases h2
        exact .d x _
      | false => exact h2.mono fun i hi => ⟨_, e, hd, hi⟩
  · cases av with
    | v x =>
      cases av' with
      | v y => exact ok.dj j k i h2 h4
      | s y => exact (n1.vd i y (ok.sub j i h2) h4.2).elim
    | s x =>
      cases av' with
      | v y => exact (n1.vd i x (ok.sub k i h4) h2.2).elim
      | s y =>
        have e := st1.dj x y i h2.2 h4.2
        subst e
        exact g.one j k x h1 h3 h2.1
  · cases av with
    | v x => exact n1.vb i (ok.sub k i h2)
    | s x => exact st1.bd x i h2.2
def frBack (avs : List AV) (pl : PL) : FR → PR PV
  | .ok v ws => .ok v (scatter avs ws pl)
  | .exc x ws => .exc x (scatter avs ws pl)
  | .no => .no
@[simp] theorem frBack_ok (avs : List AV) (pl : PL) (v : PV) (ws : List PV) : frBack avs pl (.ok v ws) = .ok v (scatter avs ws pl) := rfl
@[simp] theorem frBack_exc (avs : List AV) (pl : PL) (x : Exn) (ws : List PV) : frBack avs pl (.exc x ws) = .exc x (scatter avs ws pl) := rfl
def pCall (P : PFns) (f : Nat) (p : PX (List AV)) : PX PV := fun pl => (p pl).bind fun avs pl1 => (optP (gather avs pl1) pl1).bind fun vs pl2 => frBack avs pl2 (P f vs)
theorem sCall {F : Fns} {P : PFns} {f : Nat} {das : DR (List A)} {p : PX (List AV)} (hF : SimF (F f) (P f)) (h : SimAs das p) : SimE (dCall F f das) (pCall P f p) := fun l S pl fp st => by
  have q := h l S pl fp st
  show Out RV S fp l ((das l S).bind fun as S1 => F f as S1) ((p pl).bind _)
  cases hp : p pl with
  | no => trivial
  | exc x pl1 =>
    rw [hp] at q
    obtain ⟨S1, fp1, e1, st1, n1⟩ := q
    exact ⟨S1, fp1, by rw [e1]; rfl, st1, n1⟩
  | ok avs pl1 =>
    rw [hp] at q
    obtain ⟨as, S1, fp1, m1, e1, st1, ⟨ma, ok⟩, n1⟩ := q
    rw [PR.ok_bind, e1, Res.ok_bind]
    cases hg : gather avs pl1 with
    | none => trivial
    | some vs =>
      have g := gather_ok hg
      have hv := handed st1 n1 ok g
      have z := hF as S1 vs _ hv
      rw [optP_some, PR.ok_bind]
      cases hr : P f vs with
      | no => trivial
      | exc x ws =>
        rw [hr] at z
        obtain ⟨S2, fpa, e2, vo, lk, n2⟩ := z
        obtain ⟨fp2, b⟩ := back st1 n1 ok g vo lk n2
        exact ⟨S2, fp2, e2, b.st, b.nw.drop⟩
      | ok v ws =>
        rw [hr] at z
        obtain ⟨a, S2, fpa, m, e2, vo, lk, rv, n2⟩ := z
        obtain ⟨fp2, b⟩ := back st1 n1 ok g vo lk n2
        exact ⟨a, S2, fp2, m, e2, b.st, rv, b.nw.weak fun i hi => .inl hi⟩
/-- a value that is plain data -/
def datP (v : PV) (pl : PL) : PR D := match v with
  | .d x => .ok x pl
  | _ => .no
@[simp] theorem datP_d (x : D) (pl : PL) : datP (.d x) pl = .ok x pl := rfl
def pDat (p : PX PV) : PX D := fun pl => (p pl).bind datP
theorem sDat {d : DE} {p : PX PV} (h : SimE d p) : SimD d (pDat p) := fun l S pl fp st => by
  have q := h l S pl fp st
  show Out _ S fp l (d l S) ((p pl).bind datP)
  cases hp : p pl with
  | no => trivial
  | exc x pl1 => rw [hp] at q; exact q
  | ok v pl1 =>
    rw [hp] at q
    obtain ⟨a, S1, fp1, m1, e1, st1, rv, n1⟩ := q
    cases v with
    | d x => cases rv; exact ⟨_, S1, fp1, Em, e1, st1, rfl, n1.drop⟩
    | _ => trivial
def methP1 (P : PFns) (j : Nat) (p : PX (List AV)) (pl : PL) : Option Nat → Option PV → PR PV
  | some f, none => pCall P f (pASlot j p) pl
  | _, _ => .no
@[simp] theorem methP1_ok (P : PFns) (j : Nat) (p : PX (List AV)) (pl : PL) (f : Nat) : methP1 P j p pl (some f) none = pCall P f (pASlot j p) pl := rfl
def methP (P : PFns) (mt : MTab) (m : Str) (j : Nat) (p : PX (List AV)) (pl : PL) : Option (Nat × List (Str × PV)) → PR PV
  | some (c, fs) => methP1 P j p pl (mt c) (fs.lookup m)
  | none => .no
@[simp] theorem methP_some (P : PFns) (mt : MTab) (m : Str) (j : Nat) (p : PX (List AV)) (pl : PL) (c : Nat) (fs : List (Str × PV)) : methP P mt m j p pl (some (c, fs)) = methP1 P j p pl (mt c) (fs.lookup m) := rfl
def pMeth (P : PFns) (mt : MTab) (m : Str) (j : Nat) (p : PX (List AV)) : PX PV := fun pl => methP P mt m j p pl (insO (pl[j]?))
theorem look_none {β γ : Type} {f : Str} : ∀ {as : List (Str × β)} {vs : List (Str × γ)}, as.map Prod.fst = vs.map Prod.fst → vs.lookup f = none → as.lookup f = none
  | [], [], _, _ => rfl
  | [], _ :: _, k, _ => nomatch k
  | _ :: _, [], k, _ => nomatch k
  | (x, a) :: as, (y, b) :: vs, k, h => by
    simp only [List.map_cons, List.cons.injEq] at k
    obtain ⟨rfl, k2⟩ := k
    rw [List.lookup_cons] at h ⊢
    split at h
    · cases h
    · exact look_none k2 h
theorem sMeth {F : Fns} {P : PFns} {mt : MTab} {m : Str} {j : Nat} {das : DR (List A)} {p : PX (List AV)} (hF : SimFs F P) (h : SimAs das p) : SimE (dMeth F mt m (dName j) das) (pMeth P mt m j p) := fun l S pl fp st => by
  show Out RV S fp l _ (methP P mt m j p pl (insO (pl[j]?)))
  cases ho : insO (pl[j]?) with
  | none => trivial
  | some q =>
    obtain ⟨c, fs⟩ := q
    obtain ⟨a, ha, rv⟩ := st.at_ j _ (insO_some ho)
    rw [methP_some]
    cases hm : mt c with
    | none => trivial
    | some f =>
      cases hl : fs.lookup m with
      | some v => trivial
      | none =>
        have z := sCall (hF f) (sASlot (j := j) h) l S pl fp st
        have e : dMeth F mt m (dName j) das l S = dCall F f (dCons (dName j) das) l S := by
          cases rv with
          | ins fpv e hn hk hr k1 k2 =>
            unfold dMeth dCall dCons
            rw [loc_of ha, Res.ok_bind, Res.ok_bind]
            have eo : ∀ n as, S[n]? = some (.ins c as) → objOf (.loc n) S = some (n, c, as) := fun n as h => by unfold objOf; simp only [h]
            rw [eo _ _ e]
            simp only [hm, look_none hk hl]
            cases das l S <;> rfl
        rw [e, methP1_ok]
        exact z
def makeP (avs : List AV) (pl : PL) : FR → PR PV
  | .ok (.d .none) (w :: ws) => .ok w (scatter avs ws pl)
  | .exc x (_ :: ws) => .exc x (scatter avs ws pl)
  | _ => .no
@[simp] theorem makeP_ok (avs : List AV) (pl : PL) (w : PV) (ws : List PV) : makeP avs pl (.ok (.d .none) (w :: ws)) = .ok w (scatter avs ws pl) := rfl
@[simp] theorem makeP_exc (avs : List AV) (pl : PL) (x : Exn) (w : PV) (ws : List PV) : makeP avs pl (.exc x (w :: ws)) = .exc x (scatter avs ws pl) := rfl
def pMake (P : PFns) (c f : Nat) (p : PX (List AV)) : PX PV := fun pl => (p pl).bind fun avs pl1 => (optP (gather avs pl1) pl1).bind fun vs pl2 => makeP avs pl2 (P f (.ins c [] :: vs))
theorem sMake {F : Fns} {P : PFns} {c f : Nat} {das : DR (List A)} {p : PX (List AV)} (hF : SimF (F f) (P f)) (h : SimAs das p) : SimE (dMake F c f das) (pMake P c f p) := fun l S pl fp st => by
  have q := h l S pl fp st
  show Out RV S fp l ((das l S).bind _) ((p pl).bind _)
  cases hp : p pl with
  | no => trivial
  | exc x pl1 =>
    rw [hp] at q
    obtain ⟨S1, fp1, e1, st1, n1⟩ := q
    exact ⟨S1, fp1, by rw [e1]; rfl, st1, n1⟩
  | ok avs pl1 =>
    rw [hp] at q
    obtain ⟨as, S1, fp1, m1, e1, st1, ⟨ma, ok⟩, n1⟩ := q
    rw [PR.ok_bind, e1, Res.ok_bind]
    cases hg : gather avs pl1 with
    | none => trivial
    | some vs =>
      obtain ⟨st2, n2⟩ := new_cell (c := .ins c []) st1
      have rn : RV (S1 ++ [Cell.ins c []]) (.loc S1.length) (.ins c []) (fun i => i = S1.length) := .ins (as := []) (fun _ => Em) (by simp) rfl rfl (fun j a v h => by simp at h) (fun j i h => h.elim) (fun j k i h => h.elim)
      have nn := n1.both n2
      have keep := n1.keep n2
      -- the new object is the first argument
      have ok2 : ArgsOk l (S1 ++ [Cell.ins c []]) (.loc S1.length :: as) (.v (.ins c []) :: avs) (shiftF (fun i => i = S1.length) ma) (fun i => m1 i ∨ i = S1.length) := by
        refine ⟨by simp [ok.len], fun k b av eb ev => ?_, fun k i hk => ?_, fun j k i hj hk => ?_⟩
        · cases k with
          | zero => cases eb; cases ev; exact rn
          | succ k =>
            have q := ok.at_ k b av (by simpa using eb) (by simpa using ev)
            cases av with
            | v x => exact RV.stay q fun i hi => keep i (ok.sub k i hi)
            | s j => exact q
        · cases k with
          | zero => exact .inr hk
          | succ k => exact .inl (ok.sub k i hk)
        · cases j with
          | zero =>
            cases k with
            | zero => rfl
            | succ k => exact (n1.apart n2 i (ok.sub k i hk) hj).elim
          | succ j =>
            cases k with
            | zero => exact (n1.apart n2 i (ok.sub j i hj) hk).elim
            | succ k => rw [ok.dj j k i hj hk]
      have g2 : GaOk (.v (.ins c []) :: avs) pl1 (.ins c [] :: vs) := gather_ok (show (gather avs pl1).map _ = _ by rw [hg]; rfl)
      have hv := handed st2 nn ok2 g2
      have z := hF _ _ _ _ hv
      rw [optP_some, PR.ok_bind]
      cases hr : P f (.ins c [] :: vs) with
      | no => trivial
      | exc x ws =>
        rw [hr] at z
        obtain ⟨S2, fpa, e2, vo, lk, n3⟩ := z
        obtain ⟨fp2, b⟩ := back st2 nn ok2 g2 vo lk n3
        cases ws with
        | nil => have := vo.len; simp at this
        | cons w ws => exact ⟨S2, fp2, by rw [e2]; rfl, b.st, b.nw.drop⟩
      | ok v ws =>
        rw [hr] at z
        obtain ⟨a, S2, fpa, m, e2, vo, lk, rv, n3⟩ := z
        obtain ⟨fp2, b⟩ := back st2 nn ok2 g2 vo lk n3
        cases ws with
        | nil => have := vo.len; simp at this
        | cons w ws =>
          cases v with
          | d x =>
            cases x with
            | none =>
              cases rv
              exact ⟨.loc S1.length, S2, fp2, fpa 0, by rw [e2]; rfl, b.st, vo.at_ 0 _ w rfl rfl, b.nw.weak fun i hi => .inr ⟨0, _, rfl, hi⟩⟩
            | _ => trivial
          | _ => trivial
/-! ### a def's body -/
def penter (n : Nat) (vs : List PV) : PL := vs.map some ++ List.replicate (n - vs.length) none
/-- what the parameters hold behind the body; plain data as it was -/
def outs : List PV → PL → Option (List PV)
  | [], _ => some []
  | .d x :: vs, _ :: pl => (outs vs pl).map (.d x :: ·)
  | .fn x :: vs, _ :: pl => (outs vs pl).map (.fn x :: ·)
  | _ :: vs, some w :: pl => (outs vs pl).map (w :: ·)
  | _, _ => none
def okF (v : PV) : Option (List PV) → FR
  | some ws => .ok v ws
  | none => .no
def excF (x : Exn) : Option (List PV) → FR
  | some ws => .exc x ws
  | none => .no
@[simp] theorem okF_some (v : PV) (ws : List PV) : okF v (some ws) = .ok v ws := rfl
@[simp] theorem excF_some (x : Exn) (ws : List PV) : excF x (some ws) = .exc x ws := rfl
def finP (vs : List PV) : PS → FR
  | .nx pl => okF (.d .none) (outs vs pl)
  | .rt v pl => okF v (outs vs pl)
  | .exc x pl => excF x (outs vs pl)
  | _ => .no
@[simp] theorem finP_nx (vs : List PV) (pl : PL) : finP vs (.nx pl) = okF (.d .none) (outs vs pl) := rfl
@[simp] theorem finP_rt (vs : List PV) (v : PV) (pl : PL) : finP vs (.rt v pl) = okF v (outs vs pl) := rfl
@[simp] theorem finP_exc (vs : List PV) (x : Exn) (pl : PL) : finP vs (.exc x pl) = excF x (outs vs pl) := rfl
def pdefn (np n : Nat) (body : PT) : List PV → FR := fun vs => if vs.length = np then finP vs (body (penter n vs)) else .no
structure OuOk (vs : List PV) (pl : PL) (ws : List PV) : Prop where
  len : ws.length = vs.length
  at_ : ∀ (j : Nat) v w, vs[j]? = some v → ws[j]? = some w → (w = v ∧ ((∃ x, v = .d x) ∨ ∃ x, v = .fn x)) ∨ ((∀ x, v ≠ .d x) ∧ (∀ x, v ≠ .fn x) ∧ pl[j]? = some (some w))
theorem outs_cons {v : PV} {vs : List PV} {o : Option PV} {pl : PL} {ws : List PV} (h : outs (v :: vs) (o :: pl) = some ws) : ∃ w us, ws = w :: us ∧ outs vs pl = some us ∧ ((w = v ∧ ((∃ x, v = .d x) ∨ ∃ x, v = .fn x)) ∨ ((∀ x, v ≠ .d x) ∧ (∀ x, v ≠ .fn x) ∧ o = some w)) := by
  cases v with
  | d x =>
    obtain ⟨us, h1, rfl⟩ := Option.map_eq_some_iff.mp (show (outs vs pl).map (PV.d x :: ·) = some ws from h)
    exact ⟨_, us, rfl, h1, .inl ⟨rfl, .inl ⟨x, rfl⟩⟩⟩
  | fn x =>
    obtain ⟨us, h1, rfl⟩ := Option.map_eq_some_iff.mp (show (outs vs pl).map (PV.fn x :: ·) = some ws from h)
    exact ⟨_, us, rfl, h1, .inl ⟨rfl, .inr ⟨x, rfl⟩⟩⟩
  | fz x =>
    cases o with
    | none => cases h
    | some w =>
      obtain ⟨us, h1, rfl⟩ := Option.map_eq_some_iff.mp (show (outs vs pl).map (w :: ·) = some ws from h)
      exact ⟨_, us, rfl, h1, .inr ⟨fun _ z => (nomatch z), fun _ z => (nomatch z), rfl⟩⟩
  | lst x =>
    cases o with
    | none => cases h
    | some w =>
      obtain ⟨us, h1, rfl⟩ := Option.map_eq_some_iff.mp (show (outs vs pl).map (w :: ·) = some ws from h)
      exact ⟨_, us, rfl, h1, .inr ⟨fun _ z => (nomatch z), fun _ z => (nomatch z), rfl⟩⟩
  | dic x =>
    cases o with
    | none => cases h
    | some w =>
      obtain ⟨us, h1, rfl⟩ := Option.map_eq_some_iff.mp (show (outs vs pl).map (w :: ·) = some ws from h)
      exact ⟨_, us, rfl, h1, .inr ⟨fun _ z => (nomatch z), fun _ z => (nomatch z), rfl⟩⟩
  | ins c x =>
    cases o with
    | none => cases h
    | some w =>
      obtain ⟨us, h1, rfl⟩ := Option.map_eq_some_iff.mp (show (outs vs pl).map (w :: ·) = some ws from h)
      exact ⟨_, us, rfl, h1, .inr ⟨fun _ z => (nomatch z), fun _ z => (nomatch z), rfl⟩⟩
theorem outs_nil {v : PV} {vs : List PV} : outs (v :: vs) [] = none := by cases v <;> rfl
theorem outs_ok : ∀ {vs : List PV} {pl : PL} {ws : List PV}, outs vs pl = some ws → OuOk vs pl ws
  | [], pl, ws, h => by cases h; exact ⟨rfl, fun j v w h => by simp at h⟩
  | v :: vs, [], ws, h => by rw [outs_nil] at h; cases h
  | v :: vs, o :: pl, ws, h => by
    obtain ⟨w, us, rfl, h1, h2⟩ := outs_cons h
    have ih := outs_ok h1
    refine ⟨by simp [ih.len], fun j v' w' hv hw => ?_⟩
    cases j with
    | zero =>
      cases hv; cases hw
      rcases h2 with h2 | ⟨a, b, c⟩
      · exact .inl h2
      · exact .inr ⟨a, b, by rw [c]; rfl⟩
    | succ j => exact ih.at_ j v' w' (by simpa using hv) (by simpa using hw)
/-- what is handed over, in a body's slots -/
def cutF (np : Nat) (vs : List PV) (fp : Nat → FP) : Nat → FP := fun k i => k < np ∧ fp k i
theorem sim_defn {np n : Nat} {body : DS} {pb : PT} (h : SimS np body pb) : SimF (defn np n body) (pdefn np n pb) := fun as S vs fp vo => by
  unfold pdefn
  by_cases hn : vs.length = np
  · rw [if_pos hn]
    have ha : as.length = np := by rw [← vo.len]; exact hn
    rw [ev_defn ha]
    have st : St S (enter n as) (penter n vs) (fun k i => k < np ∧ fp k i) := by
      refine ⟨by simp [enter, penter, vo.len], fun j v hv => ?_, fun j k i hj hk => vo.dj j k i hj.2 hk.2, fun j i hj => vo.bd j i hj.2⟩
      unfold penter at hv
      by_cases hj : j < vs.length
      · rw [List.getElem?_append_left (by simpa using hj), List.getElem?_map, List.getElem?_eq_getElem hj] at hv
        have hj' : j < as.length := by omega
        have e : as[j]? = some as[j] := List.getElem?_eq_getElem hj'
        refine ⟨as[j], ?_, (vo.at_ j _ v e (by rw [List.getElem?_eq_getElem hj]; simpa using hv)).mono fun i hi => ⟨by omega, hi⟩⟩
        unfold enter
        rw [List.getElem?_append_left (by simpa using hj'), List.getElem?_map, e]
        rfl
      · rw [List.getElem?_append_right (by simp; omega), List.getElem?_replicate] at hv
        split at hv <;> cases hv
    have el : ∀ (j : Nat) a, as[j]? = some a → (enter n as)[j]? = some (some a) := fun j a e => by
      have hj' := (List.getElem?_eq_some_iff.mp e).1
      unfold enter
      rw [List.getElem?_append_left (by simpa using hj'), List.getElem?_map, e]
      rfl
    have q := h _ S _ _ st
    -- what stands in the slots of the parameters at the end
    have fin : ∀ {l' : Ev.Loc} {S' : Store} {pl' : PL} {fp' : Nat → FP} {m : FP} {ws : List PV}, St S' l' pl' fp' → Nw S (fun k i => k < np ∧ fp k i) S' fp' m → Pp np (enter n as) l' → outs vs pl' = some ws →
        ∃ fq, VsOk S' as ws fq ∧ Like vs ws ∧ Nw S fp S' fq m := fun {l' S' pl' fp' m ws} s1 n1 pp ho => by
      have ou := outs_ok ho
      refine ⟨fun j i => j < np ∧ fp' j i, ⟨by rw [ou.len, vo.len], fun j a w ea ew => ?_, fun j k i hj hk => s1.dj j k i hj.2 hk.2, fun j i hj => s1.bd j i hj.2⟩, fun j v w ev ew hv => ?_, n1.le, fun i hi hk => n1.fr i hi fun j hj => hk j hj.2, fun j i hj => ?_, n1.vb, fun i j h1 h2 => n1.vd i j h1 h2.2, fun i hi => ?_⟩
      · have hj : j < vs.length := by rw [← ou.len]; exact (List.getElem?_eq_some_iff.mp ew).1
        have ev : vs[j]? = some vs[j] := List.getElem?_eq_getElem hj
        have r0 := vo.at_ j a _ ea ev
        rcases ou.at_ j _ w ev ew with ⟨e1, e2⟩ | ⟨e1, e2, e3⟩
        · rw [← e1] at r0 e2
          rcases e2 with ⟨x, rfl⟩ | ⟨x, rfl⟩
          · cases r0; exact .d x _
          · cases r0; exact .fn x _
        · have hl : ∃ nn, a = .loc nn := by
            generalize vs[j] = v at *
            cases r0 with
            | d x => exact absurd rfl (e1 x)
            | fn x => exact absurd rfl (e2 x)
            | _ => exact ⟨_, rfl⟩
          obtain ⟨nn, rfl⟩ := hl
          obtain ⟨b, h1, h2⟩ := s1.at_ j w e3
          rw [pp j (by omega) nn (el j _ ea)] at h1
          cases h1
          exact h2.mono fun i hi => ⟨by omega, hi⟩
      · rcases ou.at_ j v w ev ew with ⟨e1, e2⟩ | ⟨e1, e2, e3⟩
        · rw [e1]; exact hv
        · rintro x rfl
          have hj : j < vs.length := (List.getElem?_eq_some_iff.mp ev).1
          have hj' : j < as.length := by omega
          have ea : as[j]? = some as[j] := List.getElem?_eq_getElem hj'
          have r0 := vo.at_ j _ v ea ev
          have hl : ∃ nn, as[j] = .loc nn := by
            generalize as[j] = a at *
            cases r0 with
            | d x => exact absurd rfl (e1 x)
            | fn x => exact absurd rfl (e2 x)
            | _ => exact ⟨_, rfl⟩
          obtain ⟨nn, hl⟩ := hl
          obtain ⟨b, h1, h2⟩ := s1.at_ j _ e3
          rw [pp j (by omega) nn (by rw [el j _ ea, hl])] at h1
          cases h1
          cases h2
      · rcases n1.sub j i hj.2 with ⟨k, h⟩ | h
        · exact .inl ⟨k, h.2⟩
        · exact .inr h
      · rcases n1.vs i hi with ⟨k, h⟩ | h
        · exact .inl ⟨k, h.2⟩
        · exact .inr h
    cases hp : pb (penter n vs) with
    | no => trivial
    | bk pl' => trivial
    | nx pl' =>
      rw [hp] at q
      obtain ⟨l', S', fp', e, s1, n1, pp⟩ := q
      rw [finP_nx]
      cases ho : outs vs pl' with
      | none => trivial
      | some ws =>
        obtain ⟨fq, v1, lk, nq⟩ := fin s1 n1 pp ho
        exact ⟨_, S', fq, Em, by rw [e]; rfl, v1, lk, .d _ _, nq⟩
    | rt v pl' =>
      rw [hp] at q
      obtain ⟨a, l', S', fp', m, e, s1, rv, n1, pp⟩ := q
      rw [finP_rt]
      cases ho : outs vs pl' with
      | none => trivial
      | some ws =>
        obtain ⟨fq, v1, lk, nq⟩ := fin s1 n1 pp ho
        exact ⟨a, S', fq, m, by rw [e]; rfl, v1, lk, rv, nq⟩
    | exc x pl' =>
      rw [hp] at q
      obtain ⟨l', S', fp', e, s1, n1, pp⟩ := q
      rw [finP_exc]
      cases ho : outs vs pl' with
      | none => trivial
      | some ws =>
        obtain ⟨fq, v1, lk, nq⟩ := fin s1 n1 pp ho
        exact ⟨S', fq, by rw [e]; rfl, v1, lk, nq⟩
  · rw [if_neg hn]; trivial
theorem sim_noF {p : List A → Store → Res A} : SimF p (fun _ => .no) := fun _ _ _ _ _ => trivial
/-- the law's call -/
theorem law_run {F : Fns} {P : PFns} {i : Nat} {d : D} {ws : List PV} (h : SimFs F P) (e : P i [.d d] = .ok (.d (.bool true)) ws) : ∃ S, F i [.d d] [] = .ok (.d (.bool true)) S := by
  have q := h i [.d d] [] [.d d] (fun _ => Em) ⟨rfl, fun j a v ha hv => by
    cases j with
    | zero => cases ha; cases hv; exact .d d _
    | succ j => simp at ha, fun j k i h => h.elim, fun j i h => h.elim⟩
  rw [e] at q
  obtain ⟨a, S', fp', m, e1, _, _, rv, _⟩ := q
  cases rv
  exact ⟨S', e1⟩
end Pv

/-! Pv5: what never raises; names of either kind; how it is reckoned (simp). -/
namespace Pv
open PySem PySem.Spec L2 Ev
def NoX {α : Type} (p : PX α) : Prop := ∀ pl x pl', p pl ≠ .exc x pl'
theorem nx_opt {α : Type} {o : PL → Option α} : NoX (fun pl => optP (o pl) pl) := fun pl x pl' e => by
  show False
  have e : optP (o pl) pl = .exc x pl' := e
  unfold optP at e
  split at e <;> cases e
theorem nx_bind {α β : Type} {p : PX α} {k : α → PX β} (h : NoX p) (h2 : ∀ v, NoX (k v)) : NoX (fun pl => (p pl).bind fun v pl1 => k v pl1) := fun pl x pl' e => by
  have e : (p pl).bind (fun v pl1 => k v pl1) = .exc x pl' := e
  cases hp : p pl with
  | ok v pl1 => rw [hp] at e; exact h2 v pl1 x pl' e
  | exc y pl1 => exact h pl y pl1 hp
  | no => rw [hp] at e; cases e
theorem nVal (x : D) : NoX (pVal x) := fun pl y pl' e => by cases e
theorem nDat {o : PL → Option (Option PV)} : NoX (fun pl => datO (o pl) pl) := fun pl x pl' e => by
  have e : datO (o pl) pl = .exc x pl' := e
  unfold datO at e
  split at e <;> cases e
theorem nName (i : Nat) : NoX (pName i) := nDat
theorem nOp2 {g : D → D → Option D} {a b : PX D} (ha : NoX a) (hb : NoX b) : NoX (pOp2 g a b) := nx_bind ha fun x => nx_bind hb fun y => nx_opt (o := fun _ => g x y)
theorem nOp1 {g : D → Option D} {a : PX D} (ha : NoX a) : NoX (pOp1 g a) := nx_bind ha fun x => nx_opt (o := fun _ => g x)
theorem nNil : NoX pNil := fun pl y pl' e => by cases e
theorem nCons {a : PX D} {r : PX (List D)} (ha : NoX a) (hr : NoX r) : NoX (pCons a r) := nx_bind ha fun x => nx_bind hr fun xs => fun pl y pl' e => by cases e
theorem nMk {f : List D → D} (xs : List D) : NoX (mkP f xs) := fun pl x pl' e => by
  unfold mkP at e
  split at e <;> cases e
theorem nTup {a : PX (List D)} (ha : NoX a) : NoX (pTup a) := nx_bind ha fun xs => nMk xs
theorem nLst {a : PX (List D)} (ha : NoX a) : NoX (pLst a) := nx_bind ha fun xs => nMk xs
theorem nCallB {g : List D → Option D} {a : PX (List D)} (ha : NoX a) : NoX (pCallB g a) := nx_bind ha fun xs => nx_opt (o := fun _ => g xs)
theorem nRd (r : Pa) : NoX (pRd r) := nDat (o := fun pl => some (r pl))
theorem nLen (r : Pa) : NoX (pLen r) := nx_opt (o := fun pl => (r pl).bind lenP)
theorem nIx {r : Pa} {b : PX D} (hb : NoX b) : NoX (pIx r b) := fun pl x pl' e => by
  have e : (if (r pl).isSome = true then (b pl).bind fun k pl1 => datO (some ((r pl1).bind fun x => ixP x k)) pl1 else .no) = .exc x pl' := e
  split at e
  · exact nx_bind hb (fun k => nDat (o := fun pl1 => some ((r pl1).bind fun x => ixP x k))) pl x pl' e
  · cases e
theorem nIn {n : Bool} {a : PX D} {r : Pa} (ha : NoX a) : NoX (pIn n a r) := nx_bind ha fun x => nx_opt (o := fun pl1 => ((r pl1).bind (inP x)).map fun b => PyData.bool (b != n))
theorem nIsN {n : Bool} {r : Pa} : NoX (pIsN n r) := nx_opt (o := fun pl => (r pl).map (isNP n))
theorem sIxQ {d e : DE} {r : Pa} {b : PX D} (h : SimR d r) (hb : SimQ e b) (hn : NoX b) : SimD (dOp2 ixU d e) (pIx r b) := (qIx h hb).sim (nIx hn)
theorem sInN {i : Nat} {da : DE} {pa : PX D} (ha : SimD da pa) : SimD (dOp2 inU da (dName i)) (pIn false pa (rName i)) := sIn false ha
theorem sNinN {i : Nat} {da : DE} {pa : PX D} (ha : SimD da pa) : SimD (dOp2 ninU da (dName i)) (pIn true pa (rName i)) := sIn true ha
theorem qInF {da d : DE} {pa : PX D} {r : Pa} (ha : SimQ da pa) (h : SimR d r) : SimQ (dOp2 inU da d) (pIn false pa r) := qIn false ha h
theorem qInT {da d : DE} {pa : PX D} {r : Pa} (ha : SimQ da pa) (h : SimR d r) : SimQ (dOp2 ninU da d) (pIn true pa r) := qIn true ha h
theorem sInQ {da d : DE} {pa : PX D} {r : Pa} (ha : SimQ da pa) (hn : NoX pa) (h : SimR d r) : SimD (dOp2 inU da d) (pIn false pa r) := (qIn false ha h).sim (nIn hn)
theorem sNinQ {da d : DE} {pa : PX D} {r : Pa} (ha : SimQ da pa) (hn : NoX pa) (h : SimR d r) : SimD (dOp2 ninU da d) (pIn true pa r) := (qIn true ha h).sim (nIn hn)
theorem sIs {d : DE} {r : Pa} (h : SimR d r) : SimD (dOp2 isA d (dVal .none)) (pIsN false r) := sIsN false h
theorem sIsn {d : DE} {r : Pa} (h : SimR d r) : SimD (dOp2 isnA d (dVal .none)) (pIsN true r) := sIsN true h
def datR2 (f : A → A → Store → Option A) (x y : D) : Option D := match f (.d x) (.d y) [] with
  | some (.d z) => some z
  | _ => none
theorem op_in (x y : D) (S : Store) (z : D) (h : boolD inD x y = some z) : inU (.d x) (.d y) S = some (.d z) := by
  show (boolD inD x y).map A.d = _
  rw [h]; rfl
theorem op_nin (x y : D) (S : Store) (z : D) (h : notD inD x y = some z) : ninU (.d x) (.d y) S = some (.d z) := by
  show (notD inD x y).map A.d = _
  rw [h]; rfl
def isD (x y : D) : Option D := datR2 isA x y
def isnD (x y : D) : Option D := datR2 isnA x y
theorem op_isD (x y : D) (S : Store) (z : D) (h : isD x y = some z) : isA (.d x) (.d y) S = some (.d z) := by
  unfold isD datR2 at h
  split at h
  · rename_i e; cases h; exact e
  · cases h
theorem op_isnD (x y : D) (S : Store) (z : D) (h : isnD x y = some z) : isnA (.d x) (.d y) S = some (.d z) := by
  unfold isnD datR2 at h
  split at h
  · rename_i e; cases h; exact e
  · cases h
/-- a name's value: plain data stays, what is held moves -/
def anyP (i : Nat) (pl : PL) : Option (Option PV) → PR PV
  | some (some (.d x)) => .ok (.d x) pl
  | some (some v) => .ok v (pl.set i none)
  | _ => .no
@[simp] theorem anyP_d (i : Nat) (pl : PL) (x : D) : anyP i pl (some (some (.d x))) = .ok (.d x) pl := rfl
@[simp] theorem anyP_l (i : Nat) (pl : PL) (x : List PV) : anyP i pl (some (some (.lst x))) = .ok (.lst x) (pl.set i none) := rfl
@[simp] theorem anyP_dic (i : Nat) (pl : PL) (x : List (D × PV)) : anyP i pl (some (some (.dic x))) = .ok (.dic x) (pl.set i none) := rfl
@[simp] theorem anyP_ins (i : Nat) (pl : PL) (c : Nat) (x : List (Str × PV)) : anyP i pl (some (some (.ins c x))) = .ok (.ins c x) (pl.set i none) := rfl
def pAny (i : Nat) : PX PV := fun pl => anyP i pl (pl[i]?)
theorem sAny (i : Nat) : SimE (dName i) (pAny i) := fun l S pl fp st => by
  have q := sMove i l S pl fp st
  have q2 := sD (sName i) l S pl fp st
  show Out RV S fp l (dName i l S) (anyP i pl (pl[i]?))
  unfold pMove at q
  unfold pD pName at q2
  cases h : pl[i]? with
  | none => trivial
  | some o =>
    cases o with
    | none => trivial
    | some v =>
      rw [h] at q q2
      cases v with
      | d x => exact q2
      | _ => exact q
/-! ### reckoning -/
@[simp] theorem pv_val (x : D) (pl : PL) : pVal x pl = .ok x pl := rfl
@[simp] theorem pv_name (i : Nat) (pl : PL) : pName i pl = datO (pl[i]?) pl := rfl
@[simp] theorem pv_op2 (g : D → D → Option D) (a b : PX D) (pl : PL) : pOp2 g a b pl = (a pl).bind fun x pl1 => (b pl1).bind fun y pl2 => optP (g x y) pl2 := rfl
@[simp] theorem pv_op1 (g : D → Option D) (a : PX D) (pl : PL) : pOp1 g a pl = (a pl).bind fun x pl1 => optP (g x) pl1 := rfl
@[simp] theorem pv_toB (a : PX D) (pl : PL) : pToB a pl = (a pl).bind boolOf := rfl
@[simp] theorem pv_tru (a : PX D) (pl : PL) : pTru a pl = (a pl).bind fun x pl1 => optP (truD x) pl1 := rfl
@[simp] theorem pv_notT (t : PX Bool) (pl : PL) : pNotT t pl = (t pl).bind fun b pl1 => .ok (!b) pl1 := rfl
@[simp] theorem pv_if {β : Type} (t : PX Bool) (u v : PX β) (pl : PL) : pIf t u v pl = (t pl).bind fun b pl1 => if b = true then u pl1 else v pl1 := rfl
@[simp] theorem pv_andT (t u : PX Bool) (pl : PL) : pAndT t u pl = (t pl).bind fun b pl1 => if b = true then u pl1 else .ok false pl1 := rfl
@[simp] theorem pv_orT (t u : PX Bool) (pl : PL) : pOrT t u pl = (t pl).bind fun b pl1 => if b = true then .ok true pl1 else u pl1 := rfl
@[simp] theorem pv_andV (a b : PX D) (pl : PL) : pAndV a b pl = pIf (pToB a) b (pVal (.bool false)) pl := rfl
@[simp] theorem pv_orV (a b : PX D) (pl : PL) : pOrV a b pl = pIf (pToB a) (pVal (.bool true)) b pl := rfl
@[simp] theorem pv_ofB (t : PX Bool) (pl : PL) : pOfB t pl = (t pl).bind fun b pl1 => .ok (.bool b) pl1 := rfl
@[simp] theorem pv_notV (a : PX D) (pl : PL) : pNotV a pl = pOfB (pNotT (pToB a)) pl := rfl
@[simp] theorem pv_orU (a b : PX D) (pl : PL) : pOrU a b pl = (a pl).bind fun x pl1 => (optP (truD x) pl1).bind fun c pl2 => if c = true then .ok x pl2 else b pl2 := rfl
@[simp] theorem pv_andU (a b : PX D) (pl : PL) : pAndU a b pl = (a pl).bind fun x pl1 => (optP (truD x) pl1).bind fun c pl2 => if c = true then b pl2 else .ok x pl2 := rfl
@[simp] theorem pv_chain (g g' : D → D → Option D) (a b c : PX D) (pl : PL) : pChain g g' a b c pl = (a pl).bind fun x pl1 => (b pl1).bind fun y pl2 => (optP (g x y) pl2).bind fun r pl3 => (boolOf r pl3).bind fun k pl4 => if k = true then (c pl4).bind fun z pl5 => optP (g' y z) pl5 else .ok (.bool false) pl4 := rfl
@[simp] theorem pv_nil (pl : PL) : pNil pl = .ok [] pl := rfl
@[simp] theorem pv_cons (a : PX D) (r : PX (List D)) (pl : PL) : pCons a r pl = (a pl).bind fun x pl1 => (r pl1).bind fun xs pl2 => .ok (x :: xs) pl2 := rfl
@[simp] theorem pv_tup (a : PX (List D)) (pl : PL) : pTup a pl = (a pl).bind (mkP .tuple) := rfl
@[simp] theorem pv_lst (a : PX (List D)) (pl : PL) : pLst a pl = (a pl).bind (mkP .list) := rfl
@[simp] theorem pv_mk (f : List D → D) (xs : List D) (pl : PL) : mkP f xs pl = if xs.length ≤ 16777216 then .ok (f xs) pl else .no := rfl
@[simp] theorem pv_callB (g : List D → Option D) (a : PX (List D)) (pl : PL) : pCallB g a pl = (a pl).bind fun xs pl1 => optP (g xs) pl1 := rfl
@[simp] theorem pv_mth (T : String) (f : D → List D → Option D) (a : PX D) (as : PX (List D)) (pl : PL) : pMth T f a as pl = (a pl).bind fun x pl1 => if tyB T x = true then (as pl1).bind fun ys pl2 => optP (f x ys) pl2 else .no := rfl
@[simp] theorem pv_part0 (pl : PL) : pPart none pl = .ok none pl := rfl
@[simp] theorem pv_part1 (p : PX D) (pl : PL) : pPart (some p) pl = (p pl).bind intOf := rfl
@[simp] theorem pv_sl (a : PX D) (lo hi : PX (Option Int)) (pl : PL) : pSl a lo hi pl = (a pl).bind fun x pl1 => (lo pl1).bind fun i pl2 => (hi pl2).bind fun j pl3 => optP (slD x i j) pl3 := rfl
@[simp] theorem pv_items (a : PX D) (pl : PL) : pItems a pl = (a pl).bind fun x pl1 => optP (itemsD x) pl1 := rfl
@[simp] theorem pv_rg1 (a : PX D) (pl : PL) : pRg1 a pl = (a pl).bind fun x pl1 => optP (rgI (.int 0) x) pl1 := rfl
@[simp] theorem pv_rg2 (a b : PX D) (pl : PL) : pRg2 a b pl = (a pl).bind fun x pl1 => (b pl1).bind fun y pl2 => optP (rgI x y) pl2 := rfl
@[simp] theorem pv_rg3 (a b c : PX D) (pl : PL) : pRg3 a b c pl = (a pl).bind fun x pl1 => (b pl1).bind fun y pl2 => (c pl2).bind fun z pl3 => optP (rgC x y z) pl3 := rfl
@[simp] theorem pv_true (pl : PL) : pTrue pl = .ok true pl := rfl
@[simp] theorem pv_isI (T : String) (a : PX D) (pl : PL) : pIsI T a pl = pOp1 (isI T) a pl := rfl
@[simp] theorem pv_tix (d : D) (a : PX D) (pl : PL) : pTix d a pl = (a pl).bind fun x pl1 => optP (tixP d x) pl1 := rfl
@[simp] theorem pv_rname (i : Nat) (pl : PL) : rName i pl = getO (pl[i]?) := rfl
@[simp] theorem pv_rfld (fl : Nat → List Str) (f : Str) (r : Pa) (pl : PL) : rFld fl f r pl = (r pl).bind (fldP fl f) := rfl
@[simp] theorem pv_rix (r : Pa) (s : PX D) (pl : PL) : rIx r s pl = (pureV (s pl)).bind fun k => (r pl).bind fun x => ixP x k := rfl
@[simp] theorem pv_rd (r : Pa) (pl : PL) : pRd r pl = datO (some (r pl)) pl := rfl
@[simp] theorem pv_len (r : Pa) (pl : PL) : pLen r pl = optP ((r pl).bind lenP) pl := rfl
@[simp] theorem pv_ix (r : Pa) (b : PX D) (pl : PL) : pIx r b pl = if (r pl).isSome = true then (b pl).bind fun k pl1 => datO (some ((r pl1).bind fun x => ixP x k)) pl1 else .no := rfl
@[simp] theorem pv_in (n : Bool) (a : PX D) (r : Pa) (pl : PL) : pIn n a r pl = (a pl).bind fun x pl1 => optP (((r pl1).bind (inP x)).map fun b => .bool (b != n)) pl1 := rfl
@[simp] theorem pv_isN (n : Bool) (r : Pa) (pl : PL) : pIsN n r pl = optP ((r pl).map (isNP n)) pl := rfl
@[simp] theorem isNP_none (n : Bool) : isNP n (.d .none) = .bool (!n) := rfl
@[simp] theorem isNP_int (n : Bool) (i : Int) : isNP n (.d (.int i)) = .bool n := rfl
@[simp] theorem isNP_str (n : Bool) (i : Str) : isNP n (.d (.str i)) = .bool n := rfl
@[simp] theorem isNP_bool (n : Bool) (i : Bool) : isNP n (.d (.bool i)) = .bool n := rfl
@[simp] theorem isNP_list (n : Bool) (i : List D) : isNP n (.d (.list i)) = .bool n := rfl
@[simp] theorem isNP_tuple (n : Bool) (i : List D) : isNP n (.d (.tuple i)) = .bool n := rfl
@[simp] theorem pv_D (p : PX D) (pl : PL) : pD p pl = (p pl).bind fun x pl1 => .ok (.d x) pl1 := rfl
@[simp] theorem pv_any (i : Nat) (pl : PL) : pAny i pl = anyP i pl (pl[i]?) := rfl
@[simp] theorem pv_lstM (a : PX (List D)) (pl : PL) : pLstM a pl = (a pl).bind fun xs pl1 => if xs.length ≤ 16777216 then .ok (.lst (xs.map .d)) pl1 else .no := rfl
@[simp] theorem pv_newD (pl : PL) : pNewD pl = .ok (.dic []) pl := rfl
@[simp] theorem pv_rep (a : PX (List D)) (b : PX D) (pl : PL) : pRep a b pl = (a pl).bind fun xs pl1 => if xs.length ≤ 16777216 then (b pl1).bind fun k pl2 => optP (pRep.repP xs k) pl2 else .no := rfl
@[simp] theorem pv_append (j : Nat) (a : PX PV) (pl : PL) : pAppend j a pl = if (lstO (pl[j]?)).isSome = true then (a pl).bind fun y pl1 => appP j y pl1 (lstO (pl1[j]?)) else .no := rfl
@[simp] theorem pv_pop (j : Nat) (pl : PL) : pPop j pl = (optP (lstO (pl[j]?)) pl).bind fun vs pl1 => popP j pl1 vs (vs[vs.length - 1]?) := rfl
@[simp] theorem pv_reverse (j : Nat) (pl : PL) : pReverse j pl = (optP (lstO (pl[j]?)) pl).bind fun vs pl1 => .ok .none (pl1.set j (some (.lst vs.reverse))) := rfl
@[simp] theorem pv_frz (j : Nat) (pl : PL) : pFrz j pl = frzP j pl (pl[j]?) := rfl
@[simp] theorem pv_skip (pl : PL) : pSkip pl = .nx pl := rfl
@[simp] theorem pv_break (pl : PL) : pBreak pl = .bk pl := rfl
@[simp] theorem pv_seq (a b : PT) (pl : PL) : pSeq a b pl = (a pl).to b := rfl
@[simp] theorem pv_ret (p : PX PV) (pl : PL) : pRet p pl = (p pl).thenP fun v pl1 => .rt v pl1 := rfl
@[simp] theorem pv_retN (pl : PL) : pRetN pl = .rt (.d .none) pl := rfl
@[simp] theorem pv_expr {β : Type} (p : PX β) (pl : PL) : pExpr p pl = (p pl).thenP fun _ pl1 => .nx pl1 := rfl
@[simp] theorem pv_ite (t : PX Bool) (a b : PT) (pl : PL) : pIte t a b pl = (t pl).thenP fun c pl1 => if c = true then a pl1 else b pl1 := rfl
theorem pv_gN (np i : Nat) (x : D) (pl : PL) : pgN np i x pl = if i < pl.length ∧ okT np i pl = true then some (pl.set i (some (.d x))) else none := rfl
@[simp] theorem pv_gN' (np i : Nat) (x : D) (pl : PL) : pgN np i x pl = if decide (i < pl.length) && (decide (np ≤ i) || isDat (pl[i]?)) then some (pl.set i (some (.d x))) else none := by
  rw [pv_gN]
  unfold okT
  by_cases h : i < pl.length <;> simp [h]
@[simp] theorem pv_all0 (pl : PL) : pgAll [] [] pl = some pl := rfl
@[simp] theorem pv_all (g : PG) (gs : List PG) (d : D) (ds : List D) (pl : PL) : pgAll (g :: gs) (d :: ds) pl = (g d pl).bind (pgAll gs ds) := rfl
@[simp] theorem pv_asg (g : PG) (p : PX D) (pl : PL) : pAsg g p pl = (p pl).thenP fun x pl1 => nxP (g x pl1) := rfl
@[simp] theorem pv_asgO (np i : Nat) (p : PX PV) (pl : PL) : pAsgO np i p pl = (p pl).thenP fun v pl1 => if decide (i < pl1.length) && (decide (np ≤ i) || isDat (pl1[i]?)) then .nx (pl1.set i (some v)) else .no := by
  unfold pAsgO okT
  congr 1
  funext v pl1
  by_cases h : i < pl1.length <;> simp [h]
@[simp] theorem pv_par (np i j : Nat) (p q : PX PV) (pl : PL) : pPar np i j p q pl = (p pl).thenP fun v pl1 => (q pl1).thenP fun w pl2 => if (decide (i < pl2.length) && (decide (np ≤ i) || isDat (pl2[i]?))) && (decide (j < pl2.length) && (decide (np ≤ j) || isDat (pl2[j]?))) && decide (i ≠ j) then .nx ((pl2.set i (some v)).set j (some w)) else .no := by
  unfold pPar okT
  congr 1
  funext v pl1
  congr 1
  funext w pl2
  by_cases h : i < pl2.length <;> by_cases h2 : j < pl2.length <;> simp [h, h2, and_assoc]
@[simp] theorem pv_setF (fl : Nat → List Str) (f : Str) (j : Nat) (p : PX PV) (pl : PL) : pSetF fl f j p pl = (p pl).thenP fun v pl1 => setP fl f j v pl1 (insO (pl1[j]?)) := rfl
@[simp] theorem setF_nil {α : Type} (f : Str) (a : α) : setF f a [] = [(f, a)] := rfl
@[simp] theorem setF_cons {α : Type} (f : Str) (a : α) (g : Str) (b : α) (r : List (Str × α)) : setF f a ((g, b) :: r) = if g = f then (g, a) :: r else (g, b) :: setF f a r := rfl
@[simp] theorem pv_for (di : PX (List D)) (g : PG) (body : PT) (pl : PL) : pFor di g body pl = (di pl).thenP fun ds pl1 => ploopF g body ds pl1 := rfl
@[simp] theorem pv_raise (c : Nat) (fls : List Str) (p : PX (List D)) (pl : PL) : pRaise c fls p pl = (p pl).thenP fun ds pl1 => raiseP c fls ds pl1 := rfl
@[simp] theorem raiseP_eq (c : Nat) (fls : List Str) (ds : List D) (pl : PL) : raiseP c fls ds pl = if ds.length = fls.length then .exc ⟨c, (fls.zip ds).reverse⟩ pl else .no := rfl
@[simp] theorem pv_tryAs (sub : Nat → Option Bool) (i : Nat) (body : PT) (dx : DX) (pl : PL) : pTryAs sub i body dx pl = catchP sub i dx (body pl) := rfl
@[simp] theorem catch_nx (sub : Nat → Option Bool) (i : Nat) (dx : DX) (pl : PL) : catchP sub i dx (.nx pl) = .nx pl := rfl
@[simp] theorem catch_rt (sub : Nat → Option Bool) (i : Nat) (dx : DX) (v : PV) (pl : PL) : catchP sub i dx (.rt v pl) = .rt v pl := rfl
@[simp] theorem pv_lc (di : PX (List D)) (vs : List Nat) (g : PG) (t : PX Bool) (d : PX D) (pl : PL) : pLc di vs g t d pl = (di pl).bind fun ds pl1 => (pcompF vs g t (pputE d) ds [] (pwipe pl1 vs)).bind fun acc pl2 => .ok (.list acc) (prest pl1 pl2 vs) := rfl
@[simp] theorem pv_anil (pl : PL) : pANil pl = .ok [] pl := rfl
@[simp] theorem pv_aval (p : PX PV) (r : PX (List AV)) (pl : PL) : pAVal p r pl = (p pl).bind fun x pl1 => (r pl1).bind fun avs pl2 => .ok (.v x :: avs) pl2 := rfl
@[simp] theorem pv_aslot (j : Nat) (r : PX (List AV)) (pl : PL) : pASlot j r pl = if (rName j pl).isSome = true then (r pl).bind fun avs pl1 => .ok (.s j :: avs) pl1 else .no := rfl
@[simp] theorem ga_nil (pl : PL) : gather [] pl = some [] := rfl
@[simp] theorem ga_v (x : PV) (r : List AV) (pl : PL) : gather (.v x :: r) pl = (gather r pl).map (x :: ·) := rfl
def gaS (j : Nat) (r : List AV) (pl : PL) : Option PV → Option (List PV)
  | some (.d x) => (gather r pl).map (.d x :: ·)
  | some v => (gather r (pl.set j none)).map (v :: ·)
  | none => none
@[simp] theorem ga_s (j : Nat) (r : List AV) (pl : PL) : gather (.s j :: r) pl = gaS j r pl (getO (pl[j]?)) := by
  show (match getO (pl[j]?) with | some (.d x) => _ | some v => _ | none => _) = _
  cases getO (pl[j]?) with
  | none => rfl
  | some v => cases v <;> rfl
@[simp] theorem gaS_d (j : Nat) (r : List AV) (pl : PL) (x : D) : gaS j r pl (some (.d x)) = (gather r pl).map (.d x :: ·) := rfl
@[simp] theorem gaS_l (j : Nat) (r : List AV) (pl : PL) (x : List PV) : gaS j r pl (some (.lst x)) = (gather r (pl.set j none)).map (.lst x :: ·) := rfl
@[simp] theorem gaS_dic (j : Nat) (r : List AV) (pl : PL) (x : List (D × PV)) : gaS j r pl (some (.dic x)) = (gather r (pl.set j none)).map (.dic x :: ·) := rfl
@[simp] theorem gaS_ins (j : Nat) (r : List AV) (pl : PL) (c : Nat) (x : List (Str × PV)) : gaS j r pl (some (.ins c x)) = (gather r (pl.set j none)).map (.ins c x :: ·) := rfl
@[simp] theorem sc_nil (ws : List PV) (pl : PL) : scatter [] ws pl = pl := rfl
@[simp] theorem sc_v (x : PV) (r : List AV) (w : PV) (ws : List PV) (pl : PL) : scatter (.v x :: r) (w :: ws) pl = scatter r ws pl := rfl
@[simp] theorem sc_s (j : Nat) (r : List AV) (w : PV) (ws : List PV) (pl : PL) : scatter (.s j :: r) (w :: ws) pl = if isDat (pl[j]?) = true then scatter r ws pl else scatter r ws (pl.set j (some w)) := rfl
@[simp] theorem pv_call (P : PFns) (f : Nat) (p : PX (List AV)) (pl : PL) : pCall P f p pl = (p pl).bind fun avs pl1 => (optP (gather avs pl1) pl1).bind fun vs pl2 => frBack avs pl2 (P f vs) := rfl
@[simp] theorem pv_dat (p : PX PV) (pl : PL) : pDat p pl = (p pl).bind datP := rfl
@[simp] theorem pv_meth (P : PFns) (mt : MTab) (m : Str) (j : Nat) (p : PX (List AV)) (pl : PL) : pMeth P mt m j p pl = methP P mt m j p pl (insO (pl[j]?)) := rfl
@[simp] theorem pv_make (P : PFns) (c f : Nat) (p : PX (List AV)) (pl : PL) : pMake P c f p pl = (p pl).bind fun avs pl1 => (optP (gather avs pl1) pl1).bind fun vs pl2 => makeP avs pl2 (P f (.ins c [] :: vs)) := rfl
@[simp] theorem isDat_l (x : List PV) : isDat (some (some (.lst x))) = false := rfl
@[simp] theorem isDat_dic (x : List (D × PV)) : isDat (some (some (.dic x))) = false := rfl
@[simp] theorem isDat_ins (c : Nat) (x : List (Str × PV)) : isDat (some (some (.ins c x))) = false := rfl
@[simp] theorem isDat_fz (x : D) : isDat (some (some (.fz x))) = false := rfl
@[simp] theorem pv_enter (n : Nat) (vs : List PV) : penter n vs = vs.map some ++ List.replicate (n - vs.length) none := rfl
@[simp] theorem ou_nil (pl : PL) : outs [] pl = some [] := rfl
@[simp] theorem ou_d (x : D) (vs : List PV) (o : Option PV) (pl : PL) : outs (.d x :: vs) (o :: pl) = (outs vs pl).map (.d x :: ·) := rfl
@[simp] theorem ou_l (x : List PV) (vs : List PV) (w : PV) (pl : PL) : outs (.lst x :: vs) (some w :: pl) = (outs vs pl).map (w :: ·) := rfl
@[simp] theorem ou_dic (x : List (D × PV)) (vs : List PV) (w : PV) (pl : PL) : outs (.dic x :: vs) (some w :: pl) = (outs vs pl).map (w :: ·) := rfl
@[simp] theorem ou_ins (c : Nat) (x : List (Str × PV)) (vs : List PV) (w : PV) (pl : PL) : outs (.ins c x :: vs) (some w :: pl) = (outs vs pl).map (w :: ·) := rfl
theorem pv_defn {np n : Nat} {body : PT} {vs : List PV} (h : vs.length = np) : pdefn np n body vs = finP vs (body (penter n vs)) := if_pos h
end Pv

/-! Lp: loops, comprehensions; what all laws say: draws, picks, sameness. -/
namespace Lp
open PySem PySem.Spec L2 Ev Pv Lx
/-! ### loops -/
/-- a loop whose turns go on or leave -/
def run {σ : Type} (f : σ → D → Sum σ PS) : σ → List D → Sum σ PS
  | s, [] => .inl s
  | s, d :: ds => match f s d with
    | .inl s' => run f s' ds
    | .inr r => .inr r
@[simp] theorem run_nil {σ : Type} (f : σ → D → Sum σ PS) (s : σ) : run f s [] = .inl s := rfl
theorem run_cons {σ : Type} (f : σ → D → Sum σ PS) (s : σ) (d : D) (ds : List D) : run f s (d :: ds) = match f s d with
    | .inl s' => run f s' ds
    | .inr r => .inr r := rfl
/-- what a turn's result is -/
def turnP {σ : Type} (L : σ → PL) : Sum σ PS → PS
  | .inl s => .nx (L s)
  | .inr r => r
def leaves : PS → Bool
  | .nx _ => false
  | .bk _ => false
  | _ => true
theorem loop_run {σ : Type} {g : PG} {body : PT} (L : σ → PL) (f : σ → D → Sum σ PS) (I : σ → List D → Prop) : ∀ (ds : List D) (s : σ), I s ds → (∀ s d ds, I s (d :: ds) → (∃ pl1, g d (L s) = some pl1 ∧ body pl1 = turnP L (f s d)) ∧ (∀ r, f s d = .inr r → leaves r = true) ∧ ∀ s', f s d = .inl s' → I s' ds) → ploopF g body ds (L s) = turnP L (run f s ds)
  | [], s, _, _ => rfl
  | d :: ds, s, hI, h => by
    obtain ⟨⟨pl1, e1, e2⟩, hr, hn⟩ := h s d ds hI
    unfold ploopF
    rw [e1]
    simp only [e2]
    rw [run_cons]
    cases hf : f s d with
    | inl s' =>
      simp only [turnP]
      exact loop_run L f I ds s' (hn s' hf) h
    | inr r =>
      have := hr r hf
      cases r with
      | nx l => cases this
      | bk l => cases this
      | _ => rfl
/-- a loop that goes through all -/
theorem loop_all {σ : Type} {g : PG} {body : PT} (L : σ → PL) (f : σ → D → σ) (I : σ → List D → Prop) : ∀ (ds : List D) (s : σ), I s ds → (∀ s d ds, I s (d :: ds) → (∃ pl1, g d (L s) = some pl1 ∧ body pl1 = .nx (L (f s d))) ∧ I (f s d) ds) → ploopF g body ds (L s) = .nx (L (ds.foldl f s))
  | [], s, _, _ => rfl
  | d :: ds, s, hI, h => by
    obtain ⟨⟨pl1, e1, e2⟩, hn⟩ := h s d ds hI
    unfold ploopF
    rw [e1]
    simp only [e2]
    exact loop_all L f I ds (f s d) hn h
/-- a loop with a promise alone -/
theorem loop_some {g : PG} {body : PT} (I : PL → List D → Prop) : ∀ (ds : List D) (pl : PL), I pl ds → (∀ pl d ds, I pl (d :: ds) → ∃ pl1 pl2, g d pl = some pl1 ∧ body pl1 = .nx pl2 ∧ I pl2 ds) → ∃ pl', ploopF g body ds pl = .nx pl' ∧ I pl' []
  | [], pl, hI, _ => ⟨pl, rfl, hI⟩
  | d :: ds, pl, hI, h => by
    obtain ⟨pl1, pl2, e1, e2, hn⟩ := h pl d ds hI
    obtain ⟨pl', e3, hl⟩ := loop_some I ds pl2 hn h
    refine ⟨pl', ?_, hl⟩
    unfold ploopF
    rw [e1]
    simp only [e2]
    exact e3
/-- while, by what is left to do -/
theorem while_go {c : PX Bool} {body : PT} {pl pl1 pl2 : PL} {n : Nat} (hc : c pl = .ok true pl1) (hb : body pl1 = .nx pl2) : ploopW c body (n + 1) pl = ploopW c body n pl2 := by
  show (c pl).thenP _ = _
  rw [hc, PR.ok_thenP, if_pos rfl, hb]
theorem while_end {c : PX Bool} {body : PT} {pl pl1 : PL} {n : Nat} (hc : c pl = .ok false pl1) : ploopW c body (n + 1) pl = .nx pl1 := by
  show (c pl).thenP _ = _
  rw [hc, PR.ok_thenP, if_neg (by decide)]
theorem while_out {c : PX Bool} {body : PT} {pl pl1 : PL} {n : Nat} {r : PS} (hc : c pl = .ok true pl1) (hb : body pl1 = r) (hr : leaves r = true) : ploopW c body (n + 1) pl = r := by
  show (c pl).thenP _ = _
  rw [hc, PR.ok_thenP, if_pos rfl, hb]
  cases r with
  | nx l => cases hr
  | bk l => cases hr
  | _ => rfl
theorem while_bk {c : PX Bool} {body : PT} {pl pl1 pl2 : PL} {n : Nat} (hc : c pl = .ok true pl1) (hb : body pl1 = .bk pl2) : ploopW c body (n + 1) pl = .nx pl2 := by
  show (c pl).thenP _ = _
  rw [hc, PR.ok_thenP, if_pos rfl, hb]
/-! ### comprehensions -/
/-- what one element gives: none: left out -/
theorem comp_filter {vs : List Nat} {g : PG} {t : PX Bool} {d : PX D} {pl : PL} {f : D → Option D} : ∀ (ds acc : List D), acc.length + ds.length ≤ 16777216 → (∀ x ∈ ds, ∃ pl1, g x pl = some pl1 ∧ pwipe pl1 vs = pl ∧ ((t pl1 = .ok true pl1 ∧ ∃ y, f x = some y ∧ d pl1 = .ok y pl1) ∨ (t pl1 = .ok false pl1 ∧ f x = none))) →
    pcompF vs g t (pputE d) ds acc pl = .ok (acc ++ ds.filterMap f) pl
  | [], acc, _, _ => by simp [pcompF]
  | x :: ds, acc, hz, h => by
    obtain ⟨pl1, e1, ew, h1⟩ := h x (by simp)
    have hz' : acc.length + (ds.length + 1) ≤ 16777216 := by simpa using hz
    unfold pcompF
    rw [e1]
    rcases h1 with ⟨e2, y, e3, e4⟩ | ⟨e2, e3⟩
    · simp only [e2]
      have e5 : pputE d acc pl1 = .ok (acc ++ [y]) pl1 := by
        unfold pputE
        rw [e4, PR.ok_strict, if_pos (by omega)]
      simp only [e5, ew]
      rw [comp_filter ds (acc ++ [y]) (by simp; omega) fun x hx => h x (List.mem_cons_of_mem _ hx), List.filterMap_cons, e3]
      simp
    · simp only [e2, ew]
      rw [comp_filter ds acc (by omega) fun x hx => h x (List.mem_cons_of_mem _ hx), List.filterMap_cons, e3]
theorem comp_map {vs : List Nat} {g : PG} {d : PX D} {pl : PL} (f : D → D) (ds : List D) (hz : ds.length ≤ 16777216) (h : ∀ x ∈ ds, ∃ pl1, g x pl = some pl1 ∧ pwipe pl1 vs = pl ∧ d pl1 = .ok (f x) pl1) : pcompF vs g pTrue (pputE d) ds [] pl = .ok (ds.map f) pl := by
  have e := comp_filter (vs := vs) (g := g) (t := pTrue) (d := d) (pl := pl) (f := fun x => some (f x)) ds [] (by simpa using hz) fun x hx => let ⟨pl1, h1, h2, h3⟩ := h x hx; ⟨pl1, h1, h2, .inl ⟨rfl, _, rfl, h3⟩⟩
  rw [e]
  simp
/-- typed: the items are told by e -/
theorem comp_mapE {α : Type} {vs : List Nat} {g : PG} {d : PX D} {pl : PL} (e : α → D) (f : α → D) (xs : List α) (hz : xs.length ≤ 16777216) (h : ∀ x ∈ xs, ∃ pl1, g (e x) pl = some pl1 ∧ pwipe pl1 vs = pl ∧ d pl1 = .ok (f x) pl1) : pcompF vs g pTrue (pputE d) (xs.map e) [] pl = .ok (xs.map f) pl := by
  have go : ∀ (xs : List α) (acc : List D), acc.length + xs.length ≤ 16777216 → (∀ x ∈ xs, ∃ pl1, g (e x) pl = some pl1 ∧ pwipe pl1 vs = pl ∧ d pl1 = .ok (f x) pl1) → pcompF vs g pTrue (pputE d) (xs.map e) acc pl = .ok (acc ++ xs.map f) pl := by
    intro xs
    induction xs with
    | nil => intro acc _ _; simp [pcompF]
    | cons x xs ih =>
      intro acc hz h
      obtain ⟨pl1, e1, ew, e4⟩ := h x (by simp)
      have hz' : acc.length + (xs.length + 1) ≤ 16777216 := by simpa using hz
      rw [List.map_cons]
      unfold pcompF
      rw [e1]
      have et : pTrue pl1 = .ok true pl1 := rfl
      have e5 : pputE d acc pl1 = .ok (acc ++ [f x]) pl1 := by
        unfold pputE
        rw [e4, PR.ok_strict, if_pos (by omega)]
      simp only [et, e5, ew]
      rw [ih (acc ++ [f x]) (by simp; omega) fun x hx => h x (List.mem_cons_of_mem _ hx)]
      simp
  have := go xs [] (by simpa using hz) h
  simpa using this
theorem comp_filE {α : Type} {vs : List Nat} {g : PG} {t : PX Bool} {d : PX D} {pl : PL} (e : α → D) (p : α → Bool) (f : α → D) (xs : List α) (hz : xs.length ≤ 16777216) (h : ∀ x ∈ xs, ∃ pl1, g (e x) pl = some pl1 ∧ pwipe pl1 vs = pl ∧ t pl1 = .ok (p x) pl1 ∧ (p x = true → d pl1 = .ok (f x) pl1)) : pcompF vs g t (pputE d) (xs.map e) [] pl = .ok ((xs.filter p).map f) pl := by
  have go : ∀ (xs : List α) (acc : List D), acc.length + xs.length ≤ 16777216 → (∀ x ∈ xs, ∃ pl1, g (e x) pl = some pl1 ∧ pwipe pl1 vs = pl ∧ t pl1 = .ok (p x) pl1 ∧ (p x = true → d pl1 = .ok (f x) pl1)) → pcompF vs g t (pputE d) (xs.map e) acc pl = .ok (acc ++ (xs.filter p).map f) pl := by
    intro xs
    induction xs with
    | nil => intro acc _ _; simp [pcompF]
    | cons x xs ih =>
      intro acc hz h
      obtain ⟨pl1, e1, ew, et, e4⟩ := h x (by simp)
      have hz' : acc.length + (xs.length + 1) ≤ 16777216 := by simpa using hz
      rw [List.map_cons]
      unfold pcompF
      rw [e1]
      cases hp : p x with
      | true =>
        rw [hp] at et
        have e5 : pputE d acc pl1 = .ok (acc ++ [f x]) pl1 := by
          unfold pputE
          rw [e4 hp, PR.ok_strict, if_pos (by omega)]
        simp only [et, e5, ew]
        rw [ih (acc ++ [f x]) (by simp; omega) fun x hx => h x (List.mem_cons_of_mem _ hx), List.filter_cons_of_pos hp]
        simp
      | false =>
        rw [hp] at et
        simp only [et, ew]
        rw [ih acc (by omega) fun x hx => h x (List.mem_cons_of_mem _ hx), List.filter_cons_of_neg (by simp [hp])]
  have := go xs [] (by simpa using hz) h
  simpa using this
/-! ### _law_number, _law_draws, _law_pick, _law_picks -/
def vI (zs : List Int) : List PV := zs.map fun z => .d (.int z)
@[simp] theorem len_vI (zs : List Int) : (vI zs).length = zs.length := by simp [vI]
@[simp] theorem vI_nil : vI [] = [] := rfl
theorem vI_snoc (zs : List Int) (z : Int) : vI zs ++ [.d (.int z)] = vI (zs ++ [z]) := by simp [vI]
theorem vI_rev (zs : List Int) : (vI zs).reverse = vI zs.reverse := by simp [vI]
theorem vI_drop (zs : List Int) : (vI zs).dropLast = vI zs.dropLast := by simp [vI, List.map_dropLast]
theorem mulP_r (i : Int) {j : Int} (h : -(2 ^ 64) < j ∧ j < 2 ^ 64) : mulP (.int i) (.int j) = some (.int (i * j)) := by
  have e : mulU (.d (.int i)) (.d (.int j)) [] = some (.d (.int (i * j))) := by
    show (mulD (.int i) (.int j)).map A.d = _
    rw [Lw.mul_r i h]; rfl
  unfold mulP
  rw [e]
theorem mulP_l {i : Int} (j : Int) (h : -(2 ^ 64) < i ∧ i < 2 ^ 64) : mulP (.int i) (.int j) = some (.int (i * j)) := by
  have e : mulU (.d (.int i)) (.d (.int j)) [] = some (.d (.int (i * j))) := by
    show (mulD (.int i) (.int j)).map A.d = _
    rw [Lw.mul_l j h]; rfl
  unfold mulP
  rw [e]
theorem ev_ixDl (ds : List D) (i : Int) : ixD (.list ds) (.int i) = atI ds i := rfl
def qNumber : PT :=
  (pSeq (pAsg (pgN 2 2) (pOp2 addD (pOp2 mulP (pCallB (p1 sumD) (pCons (pName 0) pNil)) (pVal (.int 31))) (pOp2 mulP (pVal (.int 1000003)) (pOp2 addD (pName 1) (pVal (.int 1))))))
    (pSeq (pIte (pToB (pOp2 (boolD ltD) (pName 1) (pLen (rName 0)))) (pAsg (pgN 2 2) (pIx (rName 0) (pName 1))) pSkip)
    (pRet (pD (pCallB (p1 absD) (pCons (pName 2) pNil))))))
theorem number (ns : List Int) (a : Nat) : ∃ z : Int, 0 ≤ z ∧ finP [.d (.list (ns.map .int)), .d (.int a)] (qNumber (penter 3 [.d (.list (ns.map .int)), .d (.int a)])) = .ok (.d (.int z)) [.d (.list (ns.map .int)), .d (.int a)] := by
  have hs : sumD (.list (ns.map PyData.int)) = some (.int ns.sum) := by
    show (intsOf (ns.map PyData.int)).map _ = _
    rw [intsOf_map]; rfl
  have m1 : mulP (.int ns.sum) (.int 31) = some (.int (ns.sum * 31)) := mulP_r _ (by decide)
  have m2 : mulP (.int 1000003) (.int ((a : Int) + 1)) = some (.int (1000003 * ((a : Int) + 1))) := mulP_l _ (by decide)
  have ab : ∀ z : Int, ∃ y : Int, 0 ≤ y ∧ absD (.int z) = some (.int y) := fun z => ⟨if z < 0 then -z else z, by split <;> omega, rfl⟩
  unfold qNumber
  by_cases hl : a < ns.length
  · have hx : atI (ns.map PyData.int) (a : Int) = some (.int ns[a]) := by
      rw [atI_n (by simpa using hl), List.getElem?_map, List.getElem?_eq_getElem hl]; rfl
    obtain ⟨y, h0, hy⟩ := ab ns[a]
    have hd : ((a : Int) < (ns.length : Int)) := by omega
    refine ⟨y, h0, ?_⟩
    generalize ns[a] = na at *
    simp -implicitDefEqProofs [-Int.natCast_ediv, -Int.natCast_add, -Int.natCast_emod, -Int.natCast_mul, hs, m1, m2, hd, hx, hy]
  · have hd : ¬ ((a : Int) < (ns.length : Int)) := by omega
    obtain ⟨y, h0, hy⟩ := ab (ns.sum * 31 + 1000003 * ((a : Int) + 1))
    exact ⟨y, h0, by simp -implicitDefEqProofs [-Int.natCast_ediv, -Int.natCast_add, -Int.natCast_emod, -Int.natCast_mul, hs, m1, m2, hd, hy]⟩
def NumOk (P : PFns) (j : Nat) (ns : List Int) : Prop := ∀ (a : Nat), ∃ z : Int, 0 ≤ z ∧ P j [.d (.list (ns.map .int)), .d (.int a)] = .ok (.d (.int z)) [.d (.list (ns.map .int)), .d (.int a)]
def qDraws (P : PFns) (j : Nat) : PT :=
  (pSeq (pAsgO 4 4 (pCall P j (pASlot 0 (pASlot 1 pANil))))
    (pSeq (pAsgO 4 5 (pLstM pNil))
    (pSeq (pIte (pToB (pOp2 (boolD geD) (pName 4) (pOp2 powD (pVal (.int 10)) (pVal (.int 18))))) (pSeq (pAsg (pgN 4 4) (pOp2 subD (pName 4) (pOp2 powD (pVal (.int 10)) (pVal (.int 18)))))
    (pSeq (pFor (pRg1 (pName 2)) (pgN 4 6) (pSeq (pExpr (pAppend 5 (pD (pOp2 modD (pName 4) (pName 3)))))
    (pAsg (pgN 4 4) (pOp2 divD (pName 4) (pName 3)))))
    (pRet (pAny 5)))) pSkip)
    (pSeq (pAsg (pgN 4 7) (pOp2 addD (pOp2 modD (pName 4) (pVal (.int 2147483647))) (pVal (.int 1))))
    (pSeq (pFor (pRg1 (pName 2)) (pgN 4 6) (pSeq (pAsg (pgN 4 7) (pOp2 modD (pOp2 addD (pOp2 addD (pOp2 mulP (pName 7) (pVal (.int 48271))) (pOp2 mulP (pVal (.int 11)) (pName 6))) (pVal (.int 7))) (pVal (.int 2147483647))))
    (pSeq (pAsg (pgN 4 8) (pOp2 modD (pOp2 addD (pOp2 addD (pOp2 mulP (pName 7) (pName 7)) (pOp2 mulP (pVal (.int 69621)) (pName 6))) (pVal (.int 5))) (pVal (.int 2147483629))))
    (pExpr (pAppend 5 (pD (pOp2 modD (pOp2 divD (pName 8) (pVal (.int 64))) (pName 3))))))))
    (pRet (pAny 5)))))))
theorem draws {P : PFns} {j : Nat} {ns : List Int} (hn_ : NumOk P j ns) (a c m : Nat) (hc : c < 900) (hm : 0 < m) (hm2 : m < 1073741824) : ∃ zs : List Int, finP [.d (.list (ns.map .int)), .d (.int a), .d (.int c), .d (.int m)] (qDraws P j (penter 9 [.d (.list (ns.map .int)), .d (.int a), .d (.int c), .d (.int m)])) = .ok (.lst (vI zs)) [.d (.list (ns.map .int)), .d (.int a), .d (.int c), .d (.int m)] ∧ Lw.InR m zs ∧ zs.length = c := by
  obtain ⟨n, n0, en⟩ := hn_ a
  have hr : rgI (.int 0) (.int (c : Int)) = some (Lw.nI (List.range c)) := Lw.rg_ok (by omega)
  have pw : powD (.int 10) (.int 18) = some (.int 1000000000000000000) := by
    show (if 0 ≤ (18 : Int) ∧ (18 : Int) ≤ 1000000 ∧ (10 : Int).natAbs < 2 ^ 64 then some (PyData.int (10 ^ (18 : Int).toNat)) else none) = _
    rw [if_pos (by decide)]
    rfl
  have r0 : Lw.InR (m : Int) [] := fun z hz => nomatch hz
  have mm : (0 : Int) < (m : Int) := by omega
  have mm2 : (m : Int) < 1073741824 := by omega
  unfold qDraws
  by_cases hn : 1000000000000000000 ≤ n
  · have key : ∀ (k : List Nat) (zs : List Int) (n : Int) (x6 : Option PV), Lw.InR m zs → zs.length + k.length < 1000 → ∃ zs' n' y6, ploopF (pgN 4 6) (pSeq (pExpr (pAppend 5 (pD (pOp2 modD (pName 4) (pName 3))))) (pAsg (pgN 4 4) (pOp2 divD (pName 4) (pName 3)))) (Lw.nI k) [some (.d (.list (ns.map .int))), some (.d (.int a)), some (.d (.int c)), some (.d (.int m)), some (.d (.int n)), some (.lst (vI zs)), x6, none, none] =
        .nx [some (.d (.list (ns.map .int))), some (.d (.int a)), some (.d (.int c)), some (.d (.int m)), some (.d (.int n')), some (.lst (vI zs')), y6, none, none] ∧ Lw.InR m zs' ∧ zs'.length = zs.length + k.length := by
      intro k
      induction k with
      | nil => intro zs n x6 h _; exact ⟨zs, n, x6, rfl, h, rfl⟩
      | cons i k ih =>
        intro zs n x6 h hl
        rw [List.length_cons] at hl
        have m0 := Int.emod_nonneg n (show (m : Int) ≠ 0 by omega)
        have m1 := Int.emod_lt_of_pos n mm
        obtain ⟨zs', n', y6, e, h', hl'⟩ := ih (zs ++ [n % m]) (n / m) (some (.d (.int i))) (h.snoc m0 m1) (by simp; omega)
        refine ⟨zs', n', y6, ?_, h', by rw [hl', List.length_append, List.length_cons]; simp; omega⟩
        show ploopF _ _ (PyData.int i :: Lw.nI k) _ = _
        unfold ploopF
        have hz : zs.length < 16777216 := by omega
        simp -implicitDefEqProofs [-Int.natCast_ediv, -Int.natCast_add, -Int.natCast_emod, -Int.natCast_mul, ev_modI mm, ev_divI mm mm2, hz, vI_snoc]
        exact e
    obtain ⟨zs, n', y6, e, h1, h2⟩ := key (List.range c) [] (n - 1000000000000000000) none r0 (by rw [List.length_range]; simp; omega)
    refine ⟨zs, ?_, h1, by rw [h2, List.length_range]; simp⟩
    rw [vI_nil] at e
    simp -implicitDefEqProofs [-Int.natCast_ediv, -Int.natCast_add, -Int.natCast_emod, -Int.natCast_mul, en, pw, hn, hr, e]
  · have key : ∀ (k : List Nat) (zs : List Int) (s : Int) (x6 x8 : Option PV), Lw.InR m zs → zs.length + k.length < 1000 → 0 ≤ s → s < 2147483648 → (∀ i ∈ k, i < 1000) → ∃ zs' s' y6 y8, ploopF (pgN 4 6) (pSeq (pAsg (pgN 4 7) (pOp2 modD (pOp2 addD (pOp2 addD (pOp2 mulP (pName 7) (pVal (.int 48271))) (pOp2 mulP (pVal (.int 11)) (pName 6))) (pVal (.int 7))) (pVal (.int 2147483647))))
    (pSeq (pAsg (pgN 4 8) (pOp2 modD (pOp2 addD (pOp2 addD (pOp2 mulP (pName 7) (pName 7)) (pOp2 mulP (pVal (.int 69621)) (pName 6))) (pVal (.int 5))) (pVal (.int 2147483629))))
    (pExpr (pAppend 5 (pD (pOp2 modD (pOp2 divD (pName 8) (pVal (.int 64))) (pName 3))))))) (Lw.nI k) [some (.d (.list (ns.map .int))), some (.d (.int a)), some (.d (.int c)), some (.d (.int m)), some (.d (.int n)), some (.lst (vI zs)), x6, some (.d (.int s)), x8] =
        .nx [some (.d (.list (ns.map .int))), some (.d (.int a)), some (.d (.int c)), some (.d (.int m)), some (.d (.int n)), some (.lst (vI zs')), y6, some (.d (.int s')), y8] ∧ Lw.InR m zs' ∧ zs'.length = zs.length + k.length := by
      intro k
      induction k with
      | nil => intro zs s x6 x8 h _ _ _ _; exact ⟨zs, s, x6, x8, rfl, h, rfl⟩
      | cons i k ih =>
        intro zs s x6 x8 h hl s0 s1 hi
        rw [List.length_cons] at hl
        have hi0 := hi i (by simp)
        obtain ⟨s2, es⟩ : ∃ s2, s2 = (s * 48271 + 11 * (i : Int) + 7) % 2147483647 := ⟨_, rfl⟩
        obtain ⟨an, ea⟩ : ∃ an, an = (s2 * s2 + 69621 * (i : Int) + 5) % 2147483629 := ⟨_, rfl⟩
        have b0 : 0 ≤ s2 := by omega
        have b1 : s2 < 2147483648 := by omega
        have m0 := Int.emod_nonneg (an / 64) (show (m : Int) ≠ 0 by omega)
        have m1 := Int.emod_lt_of_pos (an / 64) mm
        obtain ⟨zs', s', y6, y8, e, h', hl'⟩ := ih (zs ++ [an / 64 % m]) s2 (some (.d (.int i))) (some (.d (.int an))) (h.snoc m0 m1) (by simp; omega) b0 b1 (fun j hj => hi j (List.mem_cons_of_mem _ hj))
        refine ⟨zs', s', y6, y8, ?_, h', by rw [hl', List.length_append, List.length_cons]; simp; omega⟩
        show ploopF _ _ (PyData.int i :: Lw.nI k) _ = _
        unfold ploopF
        have hz : zs.length < 16777216 := by omega
        have k1 : mulP (.int s) (.int 48271) = some (.int (s * 48271)) := mulP_r _ (by decide)
        have k2 : mulP (.int 11) (.int (i : Int)) = some (.int (11 * (i : Int))) := mulP_l _ (by decide)
        have k3 : mulP (.int s2) (.int s2) = some (.int (s2 * s2)) := mulP_r _ (by omega)
        have k4 : mulP (.int 69621) (.int (i : Int)) = some (.int (69621 * (i : Int))) := mulP_l _ (by decide)
        have k5 : modD (.int (s * 48271 + 11 * (i : Int) + 7)) (.int 2147483647) = some (.int s2) := by rw [es]; exact ev_modI (by decide)
        have k6 : modD (.int (s2 * s2 + 69621 * (i : Int) + 5)) (.int 2147483629) = some (.int an) := by rw [ea]; exact ev_modI (by decide)
        have k7 : divD (.int an) (.int 64) = some (.int (an / 64)) := ev_divI (by decide) (by decide)
        simp -implicitDefEqProofs [-Int.natCast_ediv, -Int.natCast_add, -Int.natCast_emod, -Int.natCast_mul, k1, k2, k3, k4, k5, k6, k7, ev_modI mm, hz, vI_snoc]
        exact e
    obtain ⟨zs, n', y6, y8, e, h1, h2⟩ := key (List.range c) [] (n % 2147483647 + 1) none none r0 (by rw [List.length_range]; simp; omega) (by omega) (by omega) (fun i hi => by have := List.mem_range.mp hi; omega)
    refine ⟨zs, ?_, h1, by rw [h2, List.length_range]; simp⟩
    rw [vI_nil] at e
    simp -implicitDefEqProofs [-Int.natCast_ediv, -Int.natCast_add, -Int.natCast_emod, -Int.natCast_mul, en, pw, hn, hr, e, ev_modI (show (0 : Int) < 2147483647 by decide)]
def qPick : PT :=
  (pSeq (pIte (pToB (pOp2 (boolD eqD) (pLen (rName 0)) (pVal (.int 0)))) (pRet (pD (pVal (.int 0)))) pSkip)
    (pRet (pPop 0)))
theorem pick (zs : List Int) : finP [.lst (vI zs)] (qPick (penter 1 [.lst (vI zs)])) = .ok (.d (.int (zs.getLastD 0))) [.lst (vI zs.dropLast)] := by
  unfold qPick
  cases zs with
  | nil => simp -implicitDefEqProofs [-Int.natCast_ediv, -Int.natCast_add, -Int.natCast_emod, -Int.natCast_mul]
  | cons z zs =>
    have hn : ¬ ((zs.length : Int) + 1 = 0) := by omega
    have hx : (vI (z :: zs))[zs.length]? = some (.d (.int ((z :: zs).getLastD 0))) := by
      have e1 : (z :: zs)[zs.length]? = (z :: zs).getLast? := by rw [List.getLast?_eq_getElem?]; rfl
      unfold vI
      rw [List.getElem?_map, e1]
      cases e : (z :: zs).getLast? with
      | none => simp at e
      | some y =>
        have e2 : (z :: zs).getLastD 0 = y := by rw [List.getLastD_eq_getLast?, e]; rfl
        rw [e2]; rfl
    have hl : (vI (z :: zs)).length = zs.length + 1 := by simp
    have hd := vI_drop (z :: zs)
    generalize vI (z :: zs) = vs at *
    generalize (z :: zs).getLastD 0 = y at *
    generalize (z :: zs).dropLast = w at *
    have hx2 : ∀ h, vs[zs.length]'h = .d (.int y) := fun h => by rw [List.getElem?_eq_getElem h] at hx; exact Option.some.inj hx
    simp -implicitDefEqProofs [-Int.natCast_ediv, -Int.natCast_add, -Int.natCast_emod, -Int.natCast_mul, hl, hn, hx2, hd]
def DrOk (P : PFns) (j : Nat) (ns : List Int) : Prop := ∀ (a c m : Nat), c < 900 → 0 < m → m < 1073741824 → ∃ zs : List Int, P j [.d (.list (ns.map .int)), .d (.int a), .d (.int c), .d (.int m)] = .ok (.lst (vI zs)) [.d (.list (ns.map .int)), .d (.int a), .d (.int c), .d (.int m)] ∧ Lw.InR m zs ∧ zs.length = c
def qPicks (P : PFns) (j : Nat) : PT :=
  (pSeq (pAsgO 3 3 (pCall P j (pASlot 0 (pASlot 1 (pASlot 2 (pAVal (pD (pVal (.int 5040))) pANil))))))
    (pSeq (pExpr (pReverse 3))
    (pRet (pAny 3))))
theorem picks {P : PFns} {j : Nat} {ns : List Int} (h : DrOk P j ns) (a c : Nat) (hc : c < 900) : ∃ zs : List Int, finP [.d (.list (ns.map .int)), .d (.int a), .d (.int c)] (qPicks P j (penter 4 [.d (.list (ns.map .int)), .d (.int a), .d (.int c)])) = .ok (.lst (vI zs)) [.d (.list (ns.map .int)), .d (.int a), .d (.int c)] ∧ Lw.InR 5040 zs ∧ zs.length = c := by
  obtain ⟨zs, e, h1, h2⟩ := h a c 5040 hc (by decide) (by decide)
  refine ⟨zs.reverse, ?_, fun z hz => h1 z (List.mem_reverse.mp hz), by simpa using h2⟩
  unfold qPicks
  have e' : P j [.d (.list (ns.map .int)), .d (.int a), .d (.int c), .d (.int 5040)] = .ok (.lst (vI zs)) [.d (.list (ns.map .int)), .d (.int a), .d (.int c), .d (.int 5040)] := e
  simp -implicitDefEqProofs [-Int.natCast_ediv, -Int.natCast_add, -Int.natCast_emod, -Int.natCast_mul, e', vI_rev]
/-! ### _law_same -/
def qSame (P : PFns) (i : Nat) : PT :=
  (pSeq (pIte (pOrT (pToB (pIsI "bool" (pName 1))) (pToB (pIsI "bool" (pName 0)))) (pRet (pD (pAndV (pIsI "bool" (pName 1)) (pAndV (pIsI "bool" (pName 0)) (pOp2 (boolD eqD) (pName 0) (pName 1)))))) pSkip)
    (pSeq (pIte (pOrT (pToB (pIsN false (rName 1))) (pToB (pIsI "int" (pName 1)))) (pRet (pD (pAndV (pOp2 (boolD eqD) (pName 0) (pName 1)) (pOrV (pIsN false (rName 1)) (pIsI "int" (pName 0)))))) pSkip)
    (pSeq (pIte (pToB (pIsI "str" (pName 1))) (pRet (pD (pAndV (pIsI "str" (pName 0)) (pOp2 (boolD eqD) (pName 0) (pName 1))))) pSkip)
    (pSeq (pIte (pOrT (pToB (pOp2 (notD eqD) (pIsI "list" (pName 1)) (pIsI "list" (pName 0)))) (pToB (pOp2 (notD eqD) (pIsI "tuple" (pName 1)) (pIsI "tuple" (pName 0))))) (pRet (pD (pVal (.bool false)))) pSkip)
    (pSeq (pIte (pToB (pOp2 (notD eqD) (pLen (rName 0)) (pLen (rName 1)))) (pRet (pD (pVal (.bool false)))) pSkip)
    (pSeq (pFor (pRg1 (pLen (rName 1))) (pgN 2 2) (pIte (pNotT (pToB (pDat (pCall P i (pAVal (pD (pIx (rName 0) (pName 2))) (pAVal (pD (pIx (rName 1) (pName 2))) pANil)))))) (pRet (pD (pVal (.bool false)))) pSkip))
    (pRet (pD (pVal (.bool true))))))))))
theorem same_leaf {P : PFns} {i : Nat} {d : D} (h : Lw.Lf d) : finP [.d d, .d d] (qSame P i (penter 3 [.d d, .d d])) = .ok (.d (.bool true)) [.d d, .d d] := by
  unfold qSame
  rcases h with rfl | ⟨b, rfl⟩ | ⟨j, rfl⟩ | ⟨s, rfl⟩
  · have q : eqD .none .none = some true := rfl
    simp -implicitDefEqProofs [-Int.natCast_ediv, -Int.natCast_add, -Int.natCast_emod, -Int.natCast_mul, q]
  · simp -implicitDefEqProofs [-Int.natCast_ediv, -Int.natCast_add, -Int.natCast_emod, -Int.natCast_mul]
  · simp -implicitDefEqProofs [-Int.natCast_ediv, -Int.natCast_add, -Int.natCast_emod, -Int.natCast_mul]
  · simp -implicitDefEqProofs [-Int.natCast_ediv, -Int.natCast_add, -Int.natCast_emod, -Int.natCast_mul]
theorem same_loop {P : PFns} {i : Nat} {d : D} {xs : List D} (hd : ∃ ys, d = .list ys ∨ d = .tuple ys) (hix : ∀ i : Nat, ixP (.d d) (.int i) = (atI xs i).map .d) (h : ∀ x ∈ xs, P i [.d x, .d x] = .ok (.d (.bool true)) [.d x, .d x]) : ∀ (is : List Nat), (∀ i ∈ is, i < xs.length) → ∀ x2 : Option PV,
    ∃ y, ploopF (pgN 2 2) (pIte (pNotT (pToB (pDat (pCall P i (pAVal (pD (pIx (rName 0) (pName 2))) (pAVal (pD (pIx (rName 1) (pName 2))) pANil)))))) (pRet (pD (pVal (.bool false)))) pSkip) (Lw.nI is) [some (.d d), some (.d d), x2] = .nx [some (.d d), some (.d d), y]
  | [], _, x2 => ⟨x2, rfl⟩
  | j :: is, hi, x2 => by
    obtain ⟨y, e⟩ := same_loop hd hix h is (fun j hj => hi j (List.mem_cons_of_mem _ hj)) (some (.d (.int j)))
    refine ⟨y, ?_⟩
    show ploopF _ _ (.int j :: Lw.nI is) _ = _
    unfold ploopF
    have hl := hi j (by simp)
    have hx : ixP (.d d) (.int (j : Int)) = some (.d xs[j]) := by rw [hix, atI_n hl, List.getElem?_eq_getElem hl]; rfl
    have hf := h xs[j] (List.getElem_mem hl)
    generalize xs[j] = x at *
    rcases hd with ⟨ys, rfl | rfl⟩
    · rw [ixP_dl] at hx
      simp -implicitDefEqProofs [-Int.natCast_ediv, -Int.natCast_add, -Int.natCast_emod, -Int.natCast_mul, hx, hf]
      exact e
    · rw [ixP_dt] at hx
      simp -implicitDefEqProofs [-Int.natCast_ediv, -Int.natCast_add, -Int.natCast_emod, -Int.natCast_mul, hx, hf]
      exact e
/-- a thing is the same as itself -/
theorem same {pd : Nat → PFns} {i : Nat} (hv : ∀ k d, pd (k + 1) i [.d d, .d d] = finP [.d d, .d d] (qSame (pd k) i (penter 3 [.d d, .d d]))) (k : Nat) : ∀ (n : Nat) (d : D), Lw.Pl n d → pd (k + n + 1) i [.d d, .d d] = .ok (.d (.bool true)) [.d d, .d d] := by
  intro n
  induction n with
  | zero => intro d h; rw [hv]; exact same_leaf h
  | succ n ih =>
    intro d h
    rcases h with h | ⟨xs, hd, hl, hx⟩
    · rw [hv]; exact same_leaf h
    · have h16 : ∀ x ∈ xs, pd (k + n + 1) i [.d x, .d x] = .ok (.d (.bool true)) [.d x, .d x] := fun x m => ih x (hx x m)
      have e : k + (n + 1) + 1 = (k + n + 1) + 1 := by omega
      rw [e, hv]
      generalize pd (k + n + 1) = P at *
      have hr : rgI (.int 0) (.int (xs.length : Int)) = some (Lw.nI (List.range xs.length)) := Lw.rg_ok hl
      have hlt : ∀ i ∈ List.range xs.length, i < xs.length := fun i hi => List.mem_range.mp hi
      unfold qSame
      rcases hd with rfl | rfl
      · obtain ⟨y, el⟩ := same_loop (P := P) (d := .list xs) ⟨xs, .inl rfl⟩ (fun i => rfl) h16 (List.range xs.length) hlt none
        simp -implicitDefEqProofs [-Int.natCast_ediv, -Int.natCast_add, -Int.natCast_emod, -Int.natCast_mul, hr, el]
      · obtain ⟨y, el⟩ := same_loop (P := P) (d := .tuple xs) ⟨xs, .inr rfl⟩ (fun i => rfl) h16 (List.range xs.length) hlt none
        simp -implicitDefEqProofs [-Int.natCast_ediv, -Int.natCast_add, -Int.natCast_emod, -Int.natCast_mul, hr, el]
end Lp
namespace Lp
open PySem PySem.Spec L2 Ev Pv Lx
/-- a for that leaves at the first x of its kind -/
theorem loop_find {g : PG} {body : PT} (Lq : Option PV → PL) (b : D → Bool) (r : D → PS) (hr : ∀ x, leaves (r x) = true) : ∀ (ds : List D), (∀ x ∈ ds, ∀ o, ∃ pl1, g x (Lq o) = some pl1 ∧ body pl1 = if b x = true then r x else .nx (Lq (some (.d x)))) →
    ∀ o, (match ds.find? b with
      | some x => ploopF g body ds (Lq o) = r x
      | none => ∃ o', ploopF g body ds (Lq o) = .nx (Lq o'))
  | [], _, o => ⟨o, rfl⟩
  | x :: ds, h, o => by
    obtain ⟨pl1, e1, e2⟩ := h x (by simp) o
    have ih := loop_find Lq b r hr ds (fun y hy => h y (List.mem_cons_of_mem _ hy)) (some (.d x))
    rw [List.find?_cons]
    cases hb : b x with
    | true =>
      rw [hb, if_pos rfl] at e2
      show ploopF g body (x :: ds) (Lq o) = r x
      unfold ploopF
      rw [e1]
      simp only [e2]
      have := hr x
      cases hx : r x with
      | nx l => rw [hx] at this; cases this
      | bk l => rw [hx] at this; cases this
      | _ => rfl
    | false =>
      rw [hb, if_neg (by decide)] at e2
      have e3 : ploopF g body (x :: ds) (Lq o) = ploopF g body ds (Lq (some (.d x))) := by
        conv => lhs; unfold ploopF
        rw [e1]
        simp only [e2]
      simp only [e3]
      exact ih
end Lp
namespace Lp
open Ev
theorem turns_eq : turns = 1000000000 := rfl
theorem turns_split (n : Nat) (h : n ≤ 999999) : ∃ tn, turns = tn + n + 3 := by
  rw [turns_eq]
  exact ⟨1000000000 - (n + 3), by omega⟩
end Lp
namespace Lp
open PySem PySem.Spec L2 Ev Pv Lx
/-! ### picks, one behind the other -/
def tipZ (zs : List Int) : Int := zs.getLastD 0
def restZ (zs : List Int) : List Int := zs.dropLast
theorem top_rng {m : Int} {zs : List Int} (h : Lw.InR m zs) (hm : 0 < m) : 0 ≤ tipZ zs ∧ tipZ zs < m := Lx.last_rng h hm
theorem rest_InR {m : Int} {zs : List Int} (h : Lw.InR m zs) : Lw.InR m (restZ zs) := Lx.InR_drop h
/-- def j tells the next pick -/
def Pk (P : PFns) (j : Nat) : Prop := ∀ zs : List Int, P j [.lst (vI zs)] = .ok (.d (.int (tipZ zs))) [.lst (vI (restZ zs))]
theorem pcomp_cons {β : Type} (vs : List Nat) (g : PG) (t : PX Bool) (k : β → PX β) (d : D) (ds : List D) (acc : β) (pl : PL) : pcompF vs g t k (d :: ds) acc pl = match g d pl with
    | some pl1 => match t pl1 with
      | .ok true pl2 => match k acc pl2 with
        | .ok acc2 pl3 => pcompF vs g t k ds acc2 (pwipe pl3 vs)
        | _ => .no
      | .ok false pl2 => pcompF vs g t k ds acc (pwipe pl2 vs)
      | _ => .no
    | none => .no := rfl
theorem pcomp_nil {β : Type} (vs : List Nat) (g : PG) (t : PX Bool) (k : β → PX β) (acc : β) (pl : PL) : pcompF vs g t k [] acc pl = .ok acc pl := rfl
theorem putE_eq (d : PX D) (acc : List D) (pl : PL) : pputE d acc pl = (d pl).strict fun y pl1 => if acc.length < 16777216 then .ok (acc ++ [y]) pl1 else .no := rfl
theorem ploop_cons (g : PG) (body : PT) (d : D) (ds : List D) (pl : PL) : ploopF g body (d :: ds) pl = match g d pl with
    | some pl1 => match body pl1 with
      | .nx pl2 => ploopF g body ds pl2
      | .bk pl2 => .nx pl2
      | r => r
    | none => .no := rfl
theorem ploop_nil (g : PG) (body : PT) (pl : PL) : ploopF g body [] pl = .nx pl := rfl
end Lp

/-! what the text says: each def as a function over the store -/
namespace K67
open PySem PySem.Spec L2 Ev
abbrev prog : Program := PySem.Challenge.pw_stretchways_k67_texts_of_bars
def top (i : Nat) : Stmt := prog.main.body.getD i (.Pass ⟨0, 0, 0, 0⟩)
def fl : Nat → List Str := fun c => match c with | 2 => ["lines", "at"] | _ => []
abbrev c_FIGURES : PyData := .str "0123456789"
abbrev c_LETTERS : PyData := .str "abcdefghijklmnopqrstuvwxyz"
abbrev c_MOST_DEEP : PyData := .int (100)
def subL : List (Nat × Nat × Bool) := [(1, 1, true), (1, 0, true)]
def sub : Nat → Nat → Option Bool := fun c k => (subL.find? fun q => q.1 == c && q.2.1 == k).map (·.2.2)
def xfL : List (Nat × List Str) := [(1, ["line", "word"])]
def xf : Nat → List Str := fun c => ((xfL.find? fun q => q.1 == c).map (·.2)).getD []
def mt_step : MTab := fun c => match c with | 2 => some 4 | _ => none
def mt_steps : MTab := fun c => match c with | 2 => some 5 | _ => none
def mt_cases : MTab := fun c => match c with | 2 => some 6 | _ => none
def mt_bar : MTab := fun c => match c with | 2 => some 7 | _ => none
abbrev s0 : Stmt := top 7
abbrev N0 : List Str := ["bar", "steps", "found", "way", "inner", "step"]
/-- bar_lines -/
def b0 (F Fm : Fns) : DS :=
  (dSeq (dIte (toB (dOp2 (pu2 (boolD eqD)) (dOp2 ixU (dName 0) (dVal (.int 0))) (dVal (.str "steps")))) (dSeq (dAsg (gN 1) (dMth "str" joinD (dVal (.str " ; ")) (dCons (dLc (dItems (dOp2 ixU (dName 0) (dVal (.int 1)))) [5] (gN 5) dTrue (dMth "str" joinD (dVal (.str " ")) (dCons (dName 5) dNil))) dNil)))
    (dRet (dLst (dCons (dIf (toB (dOp2 (pu2 (boolD gtD)) (dCallB lenA (dCons (dOp2 ixU (dName 0) (dVal (.int 1))) dNil)) (dVal (.int 0)))) (dOp2 (pu2 addD) (dVal (.str "steps ")) (dName 1)) (dVal (.str "steps"))) dNil)))) dSkip)
    (dSeq (dAsg (gN 2) (dLst (dCons (dMth "str" joinD (dVal (.str " ")) (dCons (dOp2 (pu2 addD) (dLst (dCons (dVal (.str "cases")) (dCons (dOp2 ixU (dName 0) (dVal (.int 1))) (dCons (dOp2 ixU (dName 0) (dVal (.int 2))) dNil)))) (dLc (dItems (dOp2 ixU (dName 0) (dVal (.int 3)))) [3, 4] (gTup [(gN 3), (gN 4)]) dTrue (dName 3))) dNil)) dNil)))
    (dSeq (dFor (dItems (dOp2 ixU (dName 0) (dVal (.int 3)))) (gTup [(gN 3), (gN 4)]) (dAsg (gN 2) (dOp2 (pu2 addD) (dName 2) (dCall F 0 (dCons (dName 4) dNil)))))
    (dRet (dName 2)))))
abbrev s1 : Stmt := top 8
abbrev N1 : List Str := ["bar"]
/-- bar_text -/
def b1 (F Fm : Fns) : DS :=
  (dRet (dMth "str" joinD (dVal (.str "\n")) (dCons (dCall F 0 (dCons (dName 0) dNil)) dNil)))
abbrev s2 : Stmt := top 9
abbrev N2 : List Str := ["word", "signs", "sign"]
/-- is_plain_word -/
def b2 (F Fm : Fns) : DS :=
  (dSeq (dAsg (gN 1) (dOp2 (pu2 addD) (dOp2 (pu2 addD) (dVal c_LETTERS) (dMth "str" upperD (dVal c_LETTERS) dNil)) (dVal c_FIGURES)))
    (dRet (dAndV (dOp2 (pu2 (notD eqD)) (dName 0) (dVal (.str ""))) (dOp2 (pu2 (boolD eqD)) (dCallB lenA (dCons (dLc (dItems (dName 0)) [2] (gN 2) (toB (dOp2 ninU (dName 2) (dName 1))) (dName 2)) dNil)) (dVal (.int 0))))))
abbrev s3 : Stmt := inClass (top 10) 0
abbrev N3 : List Str := ["self", "text", "line"]
/-- BarLines.__init__ -/
def b3 (F Fm : Fns) : DS :=
  (dSeq (dSetF fl "lines" (dName 0) (dLc (dItems (dMth "str" splitD (dName 1) (dCons (dVal (.str "\n")) dNil))) [2] (gN 2) dTrue (dMth "str" splitD (dName 2) (dCons (dVal (.str " ")) dNil))))
    (dSetF fl "at" (dName 0) (dVal (.int 0))))
abbrev s4 : Stmt := inClass (top 10) 1
abbrev N4 : List Str := ["self", "words", "at", "place"]
/-- BarLines.step -/
def b4 (F Fm : Fns) : DS :=
  (dSeq (dFor (dRg2 (dName 2) (dOp2 (pu2 addD) (dName 2) (dVal (.int 3)))) (gN 3) (dIte (dOrT (toB (dOp2 (pu2 (boolD geD)) (dName 3) (dCallB lenA (dCons (dName 1) dNil)))) (dNotT (toB (dCall F 2 (dCons (dOp2 ixU (dName 1) (dName 3)) dNil))))) (dRaise 1 ["line", "word"] (dCons (dOp1 (fldA fl "at") (dName 0)) (dCons (dName 3) dNil))) dSkip))
    (dRet (dTup (dCons (dOp2 ixU (dName 1) (dName 2)) (dCons (dOp2 ixU (dName 1) (dOp2 (pu2 addD) (dName 2) (dVal (.int 1)))) (dCons (dOp2 ixU (dName 1) (dOp2 (pu2 addD) (dName 2) (dVal (.int 2)))) dNil))))))
abbrev s5 : Stmt := inClass (top 10) 2
abbrev N5 : List Str := ["self", "words", "found", "at"]
/-- BarLines.steps -/
def b5 (F Fm : Fns) : DS :=
  (dSeq (dAsg (gN 2) (dLstM dNil))
    (dSeq (dAsg (gN 3) (dVal (.int 1)))
    (dSeq (dWhile (toB (dOp2 (pu2 (boolD ltD)) (dName 3) (dCallB lenA (dCons (dName 1) dNil)))) (dSeq (dIte (toB (dOp2 (pu2 (boolD gtD)) (dCallB lenA (dCons (dName 2) dNil)) (dVal (.int 0)))) (dSeq (dIte (toB (dOp2 (pu2 (notD eqD)) (dOp2 ixU (dName 1) (dName 3)) (dVal (.str ";")))) (dRaise 1 ["line", "word"] (dCons (dOp1 (fldA fl "at") (dName 0)) (dCons (dName 3) dNil))) dSkip)
    (dAsg (gN 3) (dOp2 (pu2 addD) (dName 3) (dVal (.int 1))))) dSkip)
    (dSeq (dExpr (dAppend (dName 2) (dMeth F mt_step "step" (dName 0) (dCons (dName 1) (dCons (dName 3) dNil)))))
    (dAsg (gN 3) (dOp2 (pu2 addD) (dName 3) (dVal (.int 3)))))))
    (dRet (dFrz (dName 2))))))
abbrev s6 : Stmt := inClass (top 10) 3
abbrev N6 : List Str := ["self", "words", "deep", "at", "found", "way"]
/-- BarLines.cases -/
def b6 (F Fm : Fns) : DS :=
  (dSeq (dFor (dRg2 (dVal (.int 1)) (dCallB lenA (dCons (dName 1) dNil))) (gN 3) (dIte (dNotT (toB (dCall F 2 (dCons (dOp2 ixU (dName 1) (dName 3)) dNil)))) (dRaise 1 ["line", "word"] (dCons (dOp1 (fldA fl "at") (dName 0)) (dCons (dName 3) dNil))) dSkip))
    (dSeq (dIte (toB (dOp2 (pu2 (boolD ltD)) (dCallB lenA (dCons (dName 1) dNil)) (dVal (.int 4)))) (dRaise 1 ["line", "word"] (dCons (dOp1 (fldA fl "at") (dName 0)) (dCons (dCallB lenA (dCons (dName 1) dNil)) dNil))) dSkip)
    (dSeq (dSetF fl "at" (dName 0) (dOp2 (pu2 addD) (dOp1 (fldA fl "at") (dName 0)) (dVal (.int 1))))
    (dSeq (dAsg (gN 4) (dLstM dNil))
    (dSeq (dFor (dItems (dSl (dName 1) (dPart (some (dVal (.int 3)))) (dPart none))) (gN 5) (dExpr (dAppend (dName 4) (dTup (dCons (dName 5) (dCons (dMeth F mt_bar "bar" (dName 0) (dCons (dOp2 (pu2 addD) (dName 2) (dVal (.int 1))) dNil)) dNil))))))
    (dRet (dTup (dCons (dVal (.str "cases")) (dCons (dOp2 ixU (dName 1) (dVal (.int 1))) (dCons (dOp2 ixU (dName 1) (dVal (.int 2))) (dCons (dFrz (dName 4)) dNil)))))))))))
abbrev s7 : Stmt := inClass (top 10) 4
abbrev N7 : List Str := ["self", "deep", "words", "found"]
/-- BarLines.bar -/
def b7 (F Fm : Fns) : DS :=
  (dSeq (dIte (toB (dOp2 (pu2 (boolD geD)) (dOp1 (fldA fl "at") (dName 0)) (dCallB lenA (dCons (dOp1 (fldA fl "lines") (dName 0)) dNil)))) (dRaise 1 ["line", "word"] (dCons (dCallB lenA (dCons (dOp1 (fldA fl "lines") (dName 0)) dNil)) (dCons (dVal (.int 0)) dNil))) dSkip)
    (dSeq (dAsg (gN 2) (dOp2 ixU (dOp1 (fldA fl "lines") (dName 0)) (dOp1 (fldA fl "at") (dName 0))))
    (dSeq (dIte (dOrT (toB (dOp2 (pu2 (boolD geD)) (dName 1) (dVal c_MOST_DEEP))) (toB (dOp2 ninU (dOp2 ixU (dName 2) (dVal (.int 0))) (dTup (dCons (dVal (.str "steps")) (dCons (dVal (.str "cases")) dNil)))))) (dRaise 1 ["line", "word"] (dCons (dOp1 (fldA fl "at") (dName 0)) (dCons (dVal (.int 0)) dNil))) dSkip)
    (dSeq (dIte (toB (dOp2 (pu2 (boolD eqD)) (dOp2 ixU (dName 2) (dVal (.int 0))) (dVal (.str "cases")))) (dRet (dMeth F mt_cases "cases" (dName 0) (dCons (dName 2) (dCons (dName 1) dNil)))) dSkip)
    (dSeq (dAsg (gN 3) (dMeth F mt_steps "steps" (dName 0) (dCons (dName 2) dNil)))
    (dSeq (dSetF fl "at" (dName 0) (dOp2 (pu2 addD) (dOp1 (fldA fl "at") (dName 0)) (dVal (.int 1))))
    (dRet (dTup (dCons (dVal (.str "steps")) (dCons (dName 3) dNil))))))))))
abbrev s8 : Stmt := top 11
abbrev N8 : List Str := ["text", "lines", "found"]
/-- read_bar -/
def b8 (F Fm : Fns) : DS :=
  (dSeq (dAsg (gN 1) (dMake Fm 2 3 (dCons (dName 0) dNil)))
    (dSeq (dAsg (gN 2) (dMeth F mt_bar "bar" (dName 1) (dCons (dVal (.int 0)) dNil)))
    (dSeq (dIte (toB (dOp2 (pu2 (boolD ltD)) (dOp1 (fldA fl "at") (dName 1)) (dCallB lenA (dCons (dOp1 (fldA fl "lines") (dName 1)) dNil)))) (dRaise 1 ["line", "word"] (dCons (dOp1 (fldA fl "at") (dName 1)) (dCons (dVal (.int 0)) dNil))) dSkip)
    (dRet (dName 2)))))
abbrev s9 : Stmt := top 13
abbrev N9 : List Str := ["tells", "due", "k"]
/-- _law_same -/
def b9 (F Fm : Fns) : DS :=
  (dSeq (dIte (dOrT (toB (dIsI "bool" (dName 1))) (toB (dIsI "bool" (dName 0)))) (dRet (dAndV (dIsI "bool" (dName 1)) (dAndV (dIsI "bool" (dName 0)) (dOp2 (pu2 (boolD eqD)) (dName 0) (dName 1))))) dSkip)
    (dSeq (dIte (dOrT (toB (dOp2 isA (dName 1) (dVal .none))) (toB (dIsI "int" (dName 1)))) (dRet (dAndV (dOp2 (pu2 (boolD eqD)) (dName 0) (dName 1)) (dOrV (dOp2 isA (dName 1) (dVal .none)) (dIsI "int" (dName 0))))) dSkip)
    (dSeq (dIte (toB (dIsI "str" (dName 1))) (dRet (dAndV (dIsI "str" (dName 0)) (dOp2 (pu2 (boolD eqD)) (dName 0) (dName 1)))) dSkip)
    (dSeq (dIte (dOrT (toB (dOp2 (pu2 (notD eqD)) (dIsI "list" (dName 1)) (dIsI "list" (dName 0)))) (toB (dOp2 (pu2 (notD eqD)) (dIsI "tuple" (dName 1)) (dIsI "tuple" (dName 0))))) (dRet (dVal (.bool false))) dSkip)
    (dSeq (dIte (toB (dOp2 (pu2 (notD eqD)) (dCallB lenA (dCons (dName 0) dNil)) (dCallB lenA (dCons (dName 1) dNil)))) (dRet (dVal (.bool false))) dSkip)
    (dSeq (dFor (dRg1 (dCallB lenA (dCons (dName 1) dNil))) (gN 2) (dIte (dNotT (toB (dCall F 9 (dCons (dOp2 ixU (dName 0) (dName 2)) (dCons (dOp2 ixU (dName 1) (dName 2)) dNil))))) (dRet (dVal (.bool false))) dSkip))
    (dRet (dVal (.bool true)))))))))
abbrev s10 : Stmt := top 14
abbrev N10 : List Str := ["script", "k", "number"]
/-- _law_number -/
def b10 (F Fm : Fns) : DS :=
  (dSeq (dAsg (gN 2) (dOp2 (pu2 addD) (dOp2 mulU (dCallB (pf1 sumD) (dCons (dName 0) dNil)) (dVal (.int 31))) (dOp2 mulU (dVal (.int 1000003)) (dOp2 (pu2 addD) (dName 1) (dVal (.int 1))))))
    (dSeq (dIte (toB (dOp2 (pu2 (boolD ltD)) (dName 1) (dCallB lenA (dCons (dName 0) dNil)))) (dAsg (gN 2) (dOp2 ixU (dName 0) (dName 1))) dSkip)
    (dRet (dCallB (pf1 absD) (dCons (dName 2) dNil)))))
abbrev s11 : Stmt := top 15
abbrev N11 : List Str := ["script", "k", "count", "many", "number", "found", "at", "state", "another"]
/-- _law_draws -/
def b11 (F Fm : Fns) : DS :=
  (dSeq (dAsg (gN 4) (dCall F 10 (dCons (dName 0) (dCons (dName 1) dNil))))
    (dSeq (dAsg (gN 5) (dLstM dNil))
    (dSeq (dIte (toB (dOp2 (pu2 (boolD geD)) (dName 4) (dOp2 (pu2 powD) (dVal (.int 10)) (dVal (.int 18))))) (dSeq (dAsg (gN 4) (dOp2 (pu2 subD) (dName 4) (dOp2 (pu2 powD) (dVal (.int 10)) (dVal (.int 18)))))
    (dSeq (dFor (dRg1 (dName 2)) (gN 6) (dSeq (dExpr (dAppend (dName 5) (dOp2 (pu2 modD) (dName 4) (dName 3))))
    (dAsg (gN 4) (dOp2 (pu2 divD) (dName 4) (dName 3)))))
    (dRet (dName 5)))) dSkip)
    (dSeq (dAsg (gN 7) (dOp2 (pu2 addD) (dOp2 (pu2 modD) (dName 4) (dVal (.int 2147483647))) (dVal (.int 1))))
    (dSeq (dFor (dRg1 (dName 2)) (gN 6) (dSeq (dAsg (gN 7) (dOp2 (pu2 modD) (dOp2 (pu2 addD) (dOp2 (pu2 addD) (dOp2 mulU (dName 7) (dVal (.int 48271))) (dOp2 mulU (dVal (.int 11)) (dName 6))) (dVal (.int 7))) (dVal (.int 2147483647))))
    (dSeq (dAsg (gN 8) (dOp2 (pu2 modD) (dOp2 (pu2 addD) (dOp2 (pu2 addD) (dOp2 mulU (dName 7) (dName 7)) (dOp2 mulU (dVal (.int 69621)) (dName 6))) (dVal (.int 5))) (dVal (.int 2147483629))))
    (dExpr (dAppend (dName 5) (dOp2 (pu2 modD) (dOp2 (pu2 divD) (dName 8) (dVal (.int 64))) (dName 3)))))))
    (dRet (dName 5)))))))
abbrev s12 : Stmt := top 16
abbrev N12 : List Str := ["picks"]
/-- _law_pick -/
def b12 (F Fm : Fns) : DS :=
  (dSeq (dIte (toB (dOp2 (pu2 (boolD eqD)) (dCallB lenA (dCons (dName 0) dNil)) (dVal (.int 0)))) (dRet (dVal (.int 0))) dSkip)
    (dRet (dPop (dName 0))))
abbrev s13 : Stmt := top 17
abbrev N13 : List Str := ["script", "k", "count", "picks"]
/-- _law_picks -/
def b13 (F Fm : Fns) : DS :=
  (dSeq (dAsg (gN 3) (dCall F 11 (dCons (dName 0) (dCons (dName 1) (dCons (dName 2) (dCons (dVal (.int 5040)) dNil))))))
    (dSeq (dExpr (dReverse (dName 3)))
    (dRet (dName 3))))
abbrev s14 : Stmt := top 18
abbrev N14 : List Str := ["picks", "deep", "words", "steps", "k", "rows", "j"]
/-- _law_bar -/
def b14 (F Fm : Fns) : DS :=
  (dSeq (dAsg (gN 2) (dTup (dCons (dVal (.str "x")) (dCons (dVal (.str "y")) (dCons (dVal (.str "a1")) (dCons (dVal (.str "m")) (dCons (dVal (.str "WW")) (dCons (dVal (.str "ii")) (dCons (dVal (.str "OO")) dNil)))))))))
    (dSeq (dIte (dOrT (toB (dOp2 (pu2 (boolD leD)) (dName 1) (dVal (.int 0)))) (toB (dOp2 (pu2 (boolD eqD)) (dOp2 (pu2 modD) (dCall F 12 (dCons (dName 0) dNil)) (dVal (.int 3))) (dVal (.int 0))))) (dSeq (dAsg (gN 3) (dLstM dNil))
    (dSeq (dFor (dRg1 (dOp2 (pu2 modD) (dCall F 12 (dCons (dName 0) dNil)) (dVal (.int 4)))) (gN 4) (dExpr (dAppend (dName 3) (dCallB (pf1 tupleD) (dCons (dLc (dRg1 (dVal (.int 3))) [6] (gN 6) dTrue (dOp2 ixU (dName 2) (dOp2 (pu2 modD) (dCall F 12 (dCons (dName 0) dNil)) (dVal (.int 7))))) dNil)))))
    (dRet (dTup (dCons (dVal (.str "steps")) (dCons (dFrz (dName 3)) dNil)))))) dSkip)
    (dSeq (dAsg (gN 5) (dLc (dRg1 (dOp2 (pu2 addD) (dVal (.int 1)) (dOp2 (pu2 modD) (dCall F 12 (dCons (dName 0) dNil)) (dVal (.int 3))))) [4] (gN 4) dTrue (dTup (dCons (dOp2 ixU (dName 2) (dOp2 (pu2 modD) (dCall F 12 (dCons (dName 0) dNil)) (dVal (.int 7)))) (dCons (dCall F 14 (dCons (dName 0) (dCons (dOp2 (pu2 subD) (dName 1) (dVal (.int 1))) dNil))) dNil)))))
    (dRet (dTup (dCons (dVal (.str "cases")) (dCons (dOp2 ixU (dName 2) (dOp2 (pu2 modD) (dCall F 12 (dCons (dName 0) dNil)) (dVal (.int 3)))) (dCons (dOp2 ixU (dName 2) (dOp2 (pu2 modD) (dCall F 12 (dCons (dName 0) dNil)) (dVal (.int 3)))) (dCons (dName 5) dNil)))))))))
abbrev s15 : Stmt := top 19
abbrev N15 : List Str := ["bar", "words", "at", "found", "row"]
/-- _law_lines -/
def b15 (F Fm : Fns) : DS :=
  (dSeq (dIte (toB (dOp2 (pu2 (boolD eqD)) (dOp2 ixU (dName 0) (dVal (.int 0))) (dVal (.str "steps")))) (dSeq (dAsg (gN 1) (dLst (dCons (dVal (.str "steps")) dNil)))
    (dSeq (dFor (dRg1 (dCallB lenA (dCons (dOp2 ixU (dName 0) (dVal (.int 1))) dNil))) (gN 2) (dAsg (gN 1) (dOp2 (pu2 addD) (dOp2 (pu2 addD) (dName 1) (dOp2 mulU (dLstM (dCons (dVal (.str ";")) dNil)) (dCallB (pf1 intD) (dCons (dOp2 (pu2 (boolD gtD)) (dName 2) (dVal (.int 0))) dNil)))) (dCallB (pf1 listE) (dCons (dOp2 ixU (dOp2 ixU (dName 0) (dVal (.int 1))) (dName 2)) dNil)))))
    (dRet (dLst (dCons (dName 1) dNil))))) dSkip)
    (dSeq (dAsg (gN 3) (dLst (dCons (dOp2 (pu2 addD) (dLst (dCons (dVal (.str "cases")) (dCons (dOp2 ixU (dName 0) (dVal (.int 1))) (dCons (dOp2 ixU (dName 0) (dVal (.int 2))) dNil)))) (dLc (dItems (dOp2 ixU (dName 0) (dVal (.int 3)))) [4] (gN 4) dTrue (dOp2 ixU (dName 4) (dVal (.int 0))))) dNil)))
    (dSeq (dFor (dItems (dOp2 ixU (dName 0) (dVal (.int 3)))) (gN 4) (dAsg (gN 3) (dOp2 (pu2 addD) (dName 3) (dCall F 15 (dCons (dOp2 ixU (dName 4) (dVal (.int 1))) dNil)))))
    (dRet (dName 3)))))
abbrev s16 : Stmt := top 20
abbrev N16 : List Str := ["word", "letters", "sign"]
/-- _law_is_word -/
def b16 (F Fm : Fns) : DS :=
  (dSeq (dAsg (gN 1) (dVal (.str "abcdefghijklmnopqrstuvwxyz")))
    (dRet (dAndV (dOp2 (pu2 (notD eqD)) (dName 0) (dVal (.str ""))) (dOp2 (pu2 (boolD eqD)) (dCallB lenA (dCons (dLc (dItems (dName 0)) [2] (gN 2) (dAndT (toB (dOp2 ninU (dName 2) (dName 1))) (dAndT (toB (dOp2 ninU (dName 2) (dMth "str" upperD (dName 1) dNil))) (toB (dOp2 ninU (dName 2) (dVal (.str "0123456789")))))) (dName 2)) dNil)) (dVal (.int 0))))))
abbrev s17 : Stmt := top 21
abbrev N17 : List Str := ["lines", "at", "deep", "words", "spot", "rows", "way", "inner"]
/-- _law_read -/
def b17 (F Fm : Fns) : DS :=
  (dSeq (dIte (toB (dOp2 (pu2 (boolD geD)) (dName 1) (dCallB lenA (dCons (dName 0) dNil)))) (dRet (dTup (dCons (dVal .none) (dCons (dLst (dCons (dCallB lenA (dCons (dName 0) dNil)) (dCons (dVal (.int 0)) dNil))) dNil)))) dSkip)
    (dSeq (dAsg (gN 3) (dOp2 ixU (dName 0) (dName 1)))
    (dSeq (dIte (dOrT (toB (dOp2 (pu2 (boolD geD)) (dName 2) (dVal (.int 100)))) (toB (dOp2 ninU (dOp2 ixU (dName 3) (dVal (.int 0))) (dTup (dCons (dVal (.str "steps")) (dCons (dVal (.str "cases")) dNil)))))) (dRet (dTup (dCons (dVal .none) (dCons (dLst (dCons (dName 1) (dCons (dVal (.int 0)) dNil))) dNil)))) dSkip)
    (dSeq (dIte (toB (dOp2 (pu2 (boolD eqD)) (dOp2 ixU (dName 3) (dVal (.int 0))) (dVal (.str "steps")))) (dSeq (dFor (dRg2 (dVal (.int 1)) (dCallB lenA (dCons (dName 3) dNil))) (gN 4) (dIte (dIf (toB (dOp2 (pu2 (boolD eqD)) (dOp2 (pu2 modD) (dName 4) (dVal (.int 4))) (dVal (.int 0)))) (toB (dOp2 (pu2 (notD eqD)) (dOp2 ixU (dName 3) (dName 4)) (dVal (.str ";")))) (dNotT (toB (dCall F 16 (dCons (dOp2 ixU (dName 3) (dName 4)) dNil))))) (dRet (dTup (dCons (dVal .none) (dCons (dLst (dCons (dName 1) (dCons (dName 4) dNil))) dNil)))) dSkip))
    (dSeq (dIte (dAndT (toB (dOp2 (pu2 (boolD gtD)) (dCallB lenA (dCons (dName 3) dNil)) (dVal (.int 1)))) (toB (dOp2 (pu2 (notD eqD)) (dOp2 (pu2 modD) (dCallB lenA (dCons (dName 3) dNil)) (dVal (.int 4))) (dVal (.int 0))))) (dRet (dTup (dCons (dVal .none) (dCons (dLst (dCons (dName 1) (dCons (dCallB lenA (dCons (dName 3) dNil)) dNil))) dNil)))) dSkip)
    (dRet (dTup (dCons (dTup (dCons (dVal (.str "steps")) (dCons (dLc (dRg3 (dVal (.int 1)) (dCallB lenA (dCons (dName 3) dNil)) (dVal (.int 4))) [4] (gN 4) dTrue (dCallB (pf1 tupleD) (dCons (dSl (dName 3) (dPart (some (dName 4))) (dPart (some (dOp2 (pu2 addD) (dName 4) (dVal (.int 3)))))) dNil))) dNil))) (dCons (dOp2 (pu2 addD) (dName 1) (dVal (.int 1))) dNil)))))) dSkip)
    (dSeq (dFor (dRg2 (dVal (.int 1)) (dCallB lenA (dCons (dName 3) dNil))) (gN 4) (dIte (dNotT (toB (dCall F 16 (dCons (dOp2 ixU (dName 3) (dName 4)) dNil)))) (dRet (dTup (dCons (dVal .none) (dCons (dLst (dCons (dName 1) (dCons (dName 4) dNil))) dNil)))) dSkip))
    (dSeq (dIte (toB (dOp2 (pu2 (boolD ltD)) (dCallB lenA (dCons (dName 3) dNil)) (dVal (.int 4)))) (dRet (dTup (dCons (dVal .none) (dCons (dLst (dCons (dName 1) (dCons (dCallB lenA (dCons (dName 3) dNil)) dNil))) dNil)))) dSkip)
    (dSeq (dPar 5 1 (dCons (dLstM dNil) (dCons (dOp2 (pu2 addD) (dName 1) (dVal (.int 1))) dNil)))
    (dSeq (dFor (dItems (dSl (dName 3) (dPart (some (dVal (.int 3)))) (dPart none))) (gN 6) (dSeq (dAsg (gTup [(gN 7), (gN 1)]) (dCall F 17 (dCons (dName 0) (dCons (dName 1) (dCons (dOp2 (pu2 addD) (dName 2) (dVal (.int 1))) dNil)))))
    (dSeq (dIte (toB (dOp2 isA (dName 7) (dVal .none))) (dRet (dTup (dCons (dVal .none) (dCons (dName 1) dNil)))) dSkip)
    (dExpr (dAppend (dName 5) (dTup (dCons (dName 6) (dCons (dName 7) dNil))))))))
    (dRet (dTup (dCons (dTup (dCons (dVal (.str "cases")) (dCons (dOp2 ixU (dName 3) (dVal (.int 1))) (dCons (dOp2 ixU (dName 3) (dVal (.int 2))) (dCons (dFrz (dName 5)) dNil))))) (dCons (dName 1) dNil))))))))))))
abbrev s18 : Stmt := top 22
abbrev N18 : List Str := ["lines", "found", "at"]
/-- _law_due -/
def b18 (F Fm : Fns) : DS :=
  (dSeq (dAsg (gTup [(gN 1), (gN 2)]) (dCall F 17 (dCons (dName 0) (dCons (dVal (.int 0)) (dCons (dVal (.int 0)) dNil)))))
    (dSeq (dIte (toB (dOp2 isA (dName 1) (dVal .none))) (dRet (dName 2)) dSkip)
    (dRet (dIf (toB (dOp2 (pu2 (boolD eqD)) (dName 2) (dCallB lenA (dCons (dName 0) dNil)))) (dName 1) (dLst (dCons (dName 2) (dCons (dVal (.int 0)) dNil)))))))
abbrev s19 : Stmt := top 23
abbrev N19 : List Str := ["lines", "error", "words"]
/-- _law_told -/
def b19 (F Fm : Fns) : DS :=
  (dTryAs (fun c => sub c 1) 1 (dRet (dCall F 8 (dCons (dMth "str" joinD (dVal (.str "\n")) (dCons (dLc (dItems (dName 0)) [2] (gN 2) dTrue (dMth "str" joinD (dVal (.str " ")) (dCons (dName 2) dNil))) dNil)) dNil))) (xRet (xIf (xIs sub 0) (xLst (xCons (xFld xf "line") (xCons (xFld xf "word") xNil))) (xLst (xCons (xVal (.str "strange")) xNil)))))
abbrev s20 : Stmt := top 24
abbrev N20 : List Str := ["picks", "lines", "at", "words", "spot", "one", "how"]
/-- _law_changed -/
def b20 (F Fm : Fns) : DS :=
  (dSeq (dAsg (gN 2) (dOp2 (pu2 modD) (dCall F 12 (dCons (dName 0) dNil)) (dCallB lenA (dCons (dName 1) dNil))))
    (dSeq (dAsg (gN 3) (dOp2 ixU (dName 1) (dName 2)))
    (dSeq (dAsg (gN 4) (dOp2 (pu2 modD) (dCall F 12 (dCons (dName 0) dNil)) (dOp2 (pu2 addD) (dCallB lenA (dCons (dName 3) dNil)) (dVal (.int 1)))))
    (dSeq (dAsg (gN 5) (dOp2 ixU (dLst (dCons (dVal (.str "steps")) (dCons (dVal (.str "cases")) (dCons (dVal (.str ";")) (dCons (dVal (.str "")) (dCons (dVal (.str "x")) (dCons (dVal (.str "x-y")) (dCons (dVal (.str "W")) (dCons (dVal (.str "1")) dNil))))))))) (dOp2 (pu2 modD) (dCall F 12 (dCons (dName 0) dNil)) (dVal (.int 8)))))
    (dSeq (dAsg (gN 6) (dOp2 (pu2 modD) (dCall F 12 (dCons (dName 0) dNil)) (dVal (.int 7))))
    (dSeq (dIte (toB (dOp2 (pu2 (boolD ltD)) (dName 6) (dVal (.int 4)))) (dSeq (dAsg (gN 3) (dOp2 ixU (dLst (dCons (dOp2 (pu2 addD) (dOp2 (pu2 addD) (dSl (dName 3) (dPart none) (dPart (some (dName 4)))) (dLst (dCons (dName 5) dNil))) (dSl (dName 3) (dPart (some (dName 4))) (dPart none))) (dCons (dOp2 (pu2 addD) (dOp2 (pu2 addD) (dSl (dName 3) (dPart none) (dPart (some (dName 4)))) (dLst (dCons (dName 5) dNil))) (dSl (dName 3) (dPart (some (dOp2 (pu2 addD) (dName 4) (dVal (.int 1))))) (dPart none))) (dCons (dOp2 (pu2 addD) (dSl (dName 3) (dPart none) (dPart (some (dName 4)))) (dSl (dName 3) (dPart (some (dOp2 (pu2 addD) (dName 4) (dVal (.int 1))))) (dPart none))) (dCons (dSl (dName 3) (dPart none) (dPart (some (dName 4)))) dNil))))) (dName 6)))
    (dRet (dOp2 (pu2 addD) (dOp2 (pu2 addD) (dSl (dName 1) (dPart none) (dPart (some (dName 2)))) (dLst (dCons (dIf (toB (dOp2 (pu2 (boolD gtD)) (dCallB lenA (dCons (dName 3) dNil)) (dVal (.int 0)))) (dName 3) (dLst (dCons (dVal (.str "")) dNil))) dNil))) (dSl (dName 1) (dPart (some (dOp2 (pu2 addD) (dName 2) (dVal (.int 1))))) (dPart none))))) dSkip)
    (dRet (dOrU (dOp2 ixU (dLst (dCons (dOp2 (pu2 addD) (dSl (dName 1) (dPart none) (dPart (some (dName 2)))) (dSl (dName 1) (dPart (some (dOp2 (pu2 addD) (dName 2) (dVal (.int 1))))) (dPart none))) (dCons (dOp2 (pu2 addD) (dOp2 (pu2 addD) (dSl (dName 1) (dPart none) (dPart (some (dName 2)))) (dLst (dCons (dOp2 ixU (dName 1) (dName 2)) dNil))) (dSl (dName 1) (dPart (some (dName 2))) (dPart none))) (dCons (dOp2 (pu2 addD) (dSl (dName 1) (dPart (some (dName 2))) (dPart none)) (dSl (dName 1) (dPart none) (dPart (some (dName 2))))) dNil)))) (dOp2 (pu2 subD) (dName 6) (dVal (.int 4)))) (dLst (dCons (dLst (dCons (dVal (.str "")) dNil)) dNil))))))))))
abbrev s21 : Stmt := top 25
abbrev N21 : List Str := ["script", "shape", "picks", "bar", "lines", "k", "wrong", "deep", "words"]
/-- law -/
def b21 (F Fm : Fns) : DS :=
  (dSeq (dAsg (gN 1) (dCall F 11 (dCons (dName 0) (dCons (dVal (.int 0)) (dCons (dVal (.int 2)) (dCons (dVal (.int 720)) dNil))))))
    (dSeq (dAsg (gN 2) (dCall F 13 (dCons (dName 0) (dCons (dVal (.int 1)) (dCons (dVal (.int 300)) dNil)))))
    (dSeq (dAsg (gN 3) (dCall F 14 (dCons (dName 2) (dCons (dOp2 (pu2 modD) (dOp2 ixU (dName 1) (dVal (.int 0))) (dVal (.int 4))) dNil))))
    (dSeq (dAsg (gN 4) (dCall F 15 (dCons (dName 3) dNil)))
    (dSeq (dIte (dOrT (dNotT (toB (dCall F 9 (dCons (dCall F 1 (dCons (dName 3) dNil)) (dCons (dMth "str" joinD (dVal (.str "\n")) (dCons (dLc (dItems (dName 4)) [8] (gN 8) dTrue (dMth "str" joinD (dVal (.str " ")) (dCons (dName 8) dNil))) dNil)) dNil))))) (dNotT (toB (dCall F 9 (dCons (dCall F 19 (dCons (dName 4) dNil)) (dCons (dName 3) dNil)))))) (dRet (dVal (.bool false))) dSkip)
    (dSeq (dFor (dRg1 (dVal (.int 6))) (gN 5) (dSeq (dAsg (gN 6) (dCall F 20 (dCons (dName 2) (dCons (dName 4) dNil))))
    (dIte (dNotT (toB (dCall F 9 (dCons (dCall F 19 (dCons (dName 6) dNil)) (dCons (dCall F 18 (dCons (dName 6) dNil)) dNil))))) (dRet (dVal (.bool false))) dSkip)))
    (dSeq (dIte (toB (dOp2 (pu2 (boolD gtD)) (dOp2 (pu2 modD) (dOp2 ixU (dName 1) (dVal (.int 1))) (dVal (.int 4))) (dVal (.int 0)))) (dRet (dVal (.bool true))) dSkip)
    (dSeq (dAsg (gN 7) (dOp2 (pu2 addD) (dOp2 mulU (dLstM (dCons (dLst (dCons (dVal (.str "cases")) (dCons (dVal (.str "x")) (dCons (dVal (.str "y")) (dCons (dVal (.str "a")) dNil))))) dNil)) (dOp2 (pu2 addD) (dVal (.int 98)) (dOp2 (pu2 modD) (dCall F 12 (dCons (dName 2) dNil)) (dVal (.int 4))))) (dLst (dCons (dLst (dCons (dVal (.str "steps")) dNil)) dNil))))
    (dRet (dCall F 9 (dCons (dCall F 19 (dCons (dName 7) dNil)) (dCons (dCall F 18 (dCons (dName 7) dNil)) dNil))))))))))))
def ps : Nat → List Str := fun f => match f with
  | 0 => ["bar"]
  | 1 => ["bar"]
  | 2 => ["word"]
  | 3 => ["self", "text"]
  | 4 => ["self", "words", "at"]
  | 5 => ["self", "words"]
  | 6 => ["self", "words", "deep"]
  | 7 => ["self", "deep"]
  | 8 => ["text"]
  | 9 => ["tells", "due"]
  | 10 => ["script", "k"]
  | 11 => ["script", "k", "count", "many"]
  | 12 => ["picks"]
  | 13 => ["script", "k", "count"]
  | 14 => ["picks", "deep"]
  | 15 => ["bar"]
  | 16 => ["word"]
  | 17 => ["lines", "at", "deep"]
  | 18 => ["lines"]
  | 19 => ["lines"]
  | 20 => ["picks", "lines"]
  | 21 => ["script"]
  | _ => []
def bods (F Fm : Fns) : Nat → List A → Store → Res A := fun f => match f with
  | 0 => defn 1 6 (b0 F Fm)
  | 1 => defn 1 1 (b1 F Fm)
  | 2 => defn 1 3 (b2 F Fm)
  | 3 => defn 2 3 (b3 F Fm)
  | 4 => defn 3 4 (b4 F Fm)
  | 5 => defn 2 4 (b5 F Fm)
  | 6 => defn 3 6 (b6 F Fm)
  | 7 => defn 2 4 (b7 F Fm)
  | 8 => defn 1 3 (b8 F Fm)
  | 9 => defn 2 3 (b9 F Fm)
  | 10 => defn 2 3 (b10 F Fm)
  | 11 => defn 4 9 (b11 F Fm)
  | 12 => defn 1 1 (b12 F Fm)
  | 13 => defn 3 4 (b13 F Fm)
  | 14 => defn 2 7 (b14 F Fm)
  | 15 => defn 1 5 (b15 F Fm)
  | 16 => defn 1 3 (b16 F Fm)
  | 17 => defn 3 8 (b17 F Fm)
  | 18 => defn 1 3 (b18 F Fm)
  | 19 => defn 1 3 (b19 F Fm)
  | 20 => defn 2 7 (b20 F Fm)
  | 21 => defn 1 9 (b21 F Fm)
  | _ => fun _ _ => .no
def cdp : Nat → Fns × Fns
  | 0 => (fun _ _ _ => .no, fun _ _ _ => .no)
  | k + 1 => (bods (cdp k).1 (cdp k).2, (cdp k).1)
/-- the defs at a depth, one less deep -/
def cd (k : Nat) : Fns := (cdp k).1
def cm (k : Nat) : Fns := (cdp k).2
theorem v0 (k : Nat) (as : List A) (S : Store) (h : as.length = 1) : cd (k + 1) 0 as S = defR (b0 (cd k) (cm k) (enter 6 as) S) := (show cd (k + 1) 0 as S = defn 1 6 (b0 (cd k) (cm k)) as S from rfl).trans (ev_defn h)
theorem v1 (k : Nat) (as : List A) (S : Store) (h : as.length = 1) : cd (k + 1) 1 as S = defR (b1 (cd k) (cm k) (enter 1 as) S) := (show cd (k + 1) 1 as S = defn 1 1 (b1 (cd k) (cm k)) as S from rfl).trans (ev_defn h)
theorem v2 (k : Nat) (as : List A) (S : Store) (h : as.length = 1) : cd (k + 1) 2 as S = defR (b2 (cd k) (cm k) (enter 3 as) S) := (show cd (k + 1) 2 as S = defn 1 3 (b2 (cd k) (cm k)) as S from rfl).trans (ev_defn h)
theorem v3 (k : Nat) (as : List A) (S : Store) (h : as.length = 2) : cd (k + 1) 3 as S = defR (b3 (cd k) (cm k) (enter 3 as) S) := (show cd (k + 1) 3 as S = defn 2 3 (b3 (cd k) (cm k)) as S from rfl).trans (ev_defn h)
theorem v4 (k : Nat) (as : List A) (S : Store) (h : as.length = 3) : cd (k + 1) 4 as S = defR (b4 (cd k) (cm k) (enter 4 as) S) := (show cd (k + 1) 4 as S = defn 3 4 (b4 (cd k) (cm k)) as S from rfl).trans (ev_defn h)
theorem v5 (k : Nat) (as : List A) (S : Store) (h : as.length = 2) : cd (k + 1) 5 as S = defR (b5 (cd k) (cm k) (enter 4 as) S) := (show cd (k + 1) 5 as S = defn 2 4 (b5 (cd k) (cm k)) as S from rfl).trans (ev_defn h)
theorem v6 (k : Nat) (as : List A) (S : Store) (h : as.length = 3) : cd (k + 1) 6 as S = defR (b6 (cd k) (cm k) (enter 6 as) S) := (show cd (k + 1) 6 as S = defn 3 6 (b6 (cd k) (cm k)) as S from rfl).trans (ev_defn h)
theorem v7 (k : Nat) (as : List A) (S : Store) (h : as.length = 2) : cd (k + 1) 7 as S = defR (b7 (cd k) (cm k) (enter 4 as) S) := (show cd (k + 1) 7 as S = defn 2 4 (b7 (cd k) (cm k)) as S from rfl).trans (ev_defn h)
theorem v8 (k : Nat) (as : List A) (S : Store) (h : as.length = 1) : cd (k + 1) 8 as S = defR (b8 (cd k) (cm k) (enter 3 as) S) := (show cd (k + 1) 8 as S = defn 1 3 (b8 (cd k) (cm k)) as S from rfl).trans (ev_defn h)
theorem v9 (k : Nat) (as : List A) (S : Store) (h : as.length = 2) : cd (k + 1) 9 as S = defR (b9 (cd k) (cm k) (enter 3 as) S) := (show cd (k + 1) 9 as S = defn 2 3 (b9 (cd k) (cm k)) as S from rfl).trans (ev_defn h)
theorem v10 (k : Nat) (as : List A) (S : Store) (h : as.length = 2) : cd (k + 1) 10 as S = defR (b10 (cd k) (cm k) (enter 3 as) S) := (show cd (k + 1) 10 as S = defn 2 3 (b10 (cd k) (cm k)) as S from rfl).trans (ev_defn h)
theorem v11 (k : Nat) (as : List A) (S : Store) (h : as.length = 4) : cd (k + 1) 11 as S = defR (b11 (cd k) (cm k) (enter 9 as) S) := (show cd (k + 1) 11 as S = defn 4 9 (b11 (cd k) (cm k)) as S from rfl).trans (ev_defn h)
theorem v12 (k : Nat) (as : List A) (S : Store) (h : as.length = 1) : cd (k + 1) 12 as S = defR (b12 (cd k) (cm k) (enter 1 as) S) := (show cd (k + 1) 12 as S = defn 1 1 (b12 (cd k) (cm k)) as S from rfl).trans (ev_defn h)
theorem v13 (k : Nat) (as : List A) (S : Store) (h : as.length = 3) : cd (k + 1) 13 as S = defR (b13 (cd k) (cm k) (enter 4 as) S) := (show cd (k + 1) 13 as S = defn 3 4 (b13 (cd k) (cm k)) as S from rfl).trans (ev_defn h)
theorem v14 (k : Nat) (as : List A) (S : Store) (h : as.length = 2) : cd (k + 1) 14 as S = defR (b14 (cd k) (cm k) (enter 7 as) S) := (show cd (k + 1) 14 as S = defn 2 7 (b14 (cd k) (cm k)) as S from rfl).trans (ev_defn h)
theorem v15 (k : Nat) (as : List A) (S : Store) (h : as.length = 1) : cd (k + 1) 15 as S = defR (b15 (cd k) (cm k) (enter 5 as) S) := (show cd (k + 1) 15 as S = defn 1 5 (b15 (cd k) (cm k)) as S from rfl).trans (ev_defn h)
theorem v16 (k : Nat) (as : List A) (S : Store) (h : as.length = 1) : cd (k + 1) 16 as S = defR (b16 (cd k) (cm k) (enter 3 as) S) := (show cd (k + 1) 16 as S = defn 1 3 (b16 (cd k) (cm k)) as S from rfl).trans (ev_defn h)
theorem v17 (k : Nat) (as : List A) (S : Store) (h : as.length = 3) : cd (k + 1) 17 as S = defR (b17 (cd k) (cm k) (enter 8 as) S) := (show cd (k + 1) 17 as S = defn 3 8 (b17 (cd k) (cm k)) as S from rfl).trans (ev_defn h)
theorem v18 (k : Nat) (as : List A) (S : Store) (h : as.length = 1) : cd (k + 1) 18 as S = defR (b18 (cd k) (cm k) (enter 3 as) S) := (show cd (k + 1) 18 as S = defn 1 3 (b18 (cd k) (cm k)) as S from rfl).trans (ev_defn h)
theorem v19 (k : Nat) (as : List A) (S : Store) (h : as.length = 1) : cd (k + 1) 19 as S = defR (b19 (cd k) (cm k) (enter 3 as) S) := (show cd (k + 1) 19 as S = defn 1 3 (b19 (cd k) (cm k)) as S from rfl).trans (ev_defn h)
theorem v20 (k : Nat) (as : List A) (S : Store) (h : as.length = 2) : cd (k + 1) 20 as S = defR (b20 (cd k) (cm k) (enter 7 as) S) := (show cd (k + 1) 20 as S = defn 2 7 (b20 (cd k) (cm k)) as S from rfl).trans (ev_defn h)
theorem v21 (k : Nat) (as : List A) (S : Store) (h : as.length = 1) : cd (k + 1) 21 as S = defR (b21 (cd k) (cm k) (enter 9 as) S) := (show cd (k + 1) 21 as S = defn 1 9 (b21 (cd k) (cm k)) as S from rfl).trans (ev_defn h)
end K67

/-! the defs without a store -/
namespace K67
open PySem PySem.Spec L2 Ev Pv
/-- bar_lines -/
def pb0 (P Pm : PFns) : PT :=
  (pSeq (pIte (pToB (pOp2 (boolD eqD) (pIx (rName 0) (pVal (.int 0))) (pVal (.str "steps")))) (pSeq (pAsg (pgN 1 1) (pMth "str" joinD (pVal (.str " ; ")) (pCons (pLc (pItems (pIx (rName 0) (pVal (.int 1)))) [5] (pgN 0 5) pTrue (pMth "str" joinD (pVal (.str " ")) (pCons (pName 5) pNil))) pNil)))
    (pRet (pD (pLst (pCons (pIf (pToB (pOp2 (boolD gtD) (pLen (rIx (rName 0) (pVal (.int 1)))) (pVal (.int 0)))) (pOp2 addD (pVal (.str "steps ")) (pName 1)) (pVal (.str "steps"))) pNil))))) pSkip)
    (pSeq (pAsg (pgN 1 2) (pLst (pCons (pMth "str" joinD (pVal (.str " ")) (pCons (pOp2 addD (pLst (pCons (pVal (.str "cases")) (pCons (pIx (rName 0) (pVal (.int 1))) (pCons (pIx (rName 0) (pVal (.int 2))) pNil)))) (pLc (pItems (pIx (rName 0) (pVal (.int 3)))) [3, 4] (pgTup [(pgN 0 3), (pgN 0 4)]) pTrue (pName 3))) pNil)) pNil)))
    (pSeq (pFor (pItems (pIx (rName 0) (pVal (.int 3)))) (pgTup [(pgN 1 3), (pgN 1 4)]) (pAsg (pgN 1 2) (pOp2 addD (pName 2) (pDat (pCall P 0 (pASlot 4 pANil))))))
    (pRet (pAny 2)))))
theorem z0 {F Fm : Fns} {P Pm : PFns} (h : SimFs F P) (hm : SimFs Fm Pm) : SimS 1 (b0 F Fm) (pb0 P Pm) :=
  (sSeq (sIte (sToB (sOp2 op_pu2 (sIxN (sVal _)) (sVal _))) (sSeq (sAsg (sgN 1 1) (sMth (sVal _) (sCons (sLc (sItems (sIxN (sVal _))) (sgN 0 5) (by decide) sTrue (sMth (sVal _) (sCons (sName _) sNil))) sNil)))
    (sRet (sD (sLst (sCons (sIf (sToB (sOp2 op_pu2 (sLen (rIx_ok (rName_ok 0) (qVal _))) (sVal _))) (sOp2 op_pu2 (sVal _) (sName _)) (sVal _)) sNil))))) sSkip)
    (sSeq (sAsg (sgN 1 2) (sLst (sCons (sMth (sVal _) (sCons (sOp2 op_pu2 (sLst (sCons (sVal _) (sCons (sIxN (sVal _)) (sCons (sIxN (sVal _)) sNil)))) (sLc (sItems (sIxN (sVal _))) (sgTup (sgCons (sgN 0 3) (sgCons (sgN 0 4) sgNil))) (by decide) sTrue (sName _))) sNil)) sNil)))
    (sSeq (sFor (sItems (sIxN (sVal _))) (sgTup (sgCons (sgN 1 3) (sgCons (sgN 1 4) sgNil))) (sAsg (sgN 1 2) (sOp2 op_pu2 (sName _) (sDat (sCall (h _) (sASlot sANil))))))
    (sRet (sAny 2)))))
/-- bar_text -/
def pb1 (P Pm : PFns) : PT :=
  (pRet (pD (pMth "str" joinD (pVal (.str "\n")) (pCons (pDat (pCall P 0 (pASlot 0 pANil))) pNil))))
theorem z1 {F Fm : Fns} {P Pm : PFns} (h : SimFs F P) (hm : SimFs Fm Pm) : SimS 1 (b1 F Fm) (pb1 P Pm) :=
  (sRet (sD (sMth (sVal _) (sCons (sDat (sCall (h _) (sASlot sANil))) sNil))))
/-- is_plain_word -/
def pb2 (P Pm : PFns) : PT :=
  (pSeq (pAsg (pgN 1 1) (pOp2 addD (pOp2 addD (pVal c_LETTERS) (pMth "str" upperD (pVal c_LETTERS) pNil)) (pVal c_FIGURES)))
    (pRet (pD (pAndV (pOp2 (notD eqD) (pName 0) (pVal (.str ""))) (pOp2 (boolD eqD) (pCallB lenDP (pCons (pLc (pItems (pName 0)) [2] (pgN 0 2) (pToB (pIn true (pName 2) (rName 1))) (pName 2)) pNil)) (pVal (.int 0)))))))
theorem z2 {F Fm : Fns} {P Pm : PFns} (h : SimFs F P) (hm : SimFs Fm Pm) : SimS 1 (b2 F Fm) (pb2 P Pm) :=
  (sSeq (sAsg (sgN 1 1) (sOp2 op_pu2 (sOp2 op_pu2 (sVal _) (sMth (sVal _) sNil)) (sVal _)))
    (sRet (sD (sAndV (sOp2 op_pu2 (sName _) (sVal _)) (sOp2 op_pu2 (sCallB lenDP_ok (sCons (sLc (sItems (sName _)) (sgN 0 2) (by decide) (sToB (sNinN (sName _))) (sName _)) sNil)) (sVal _))))))
/-- BarLines.__init__ -/
def pb3 (P Pm : PFns) : PT :=
  (pSeq (pSetF fl "lines" 0 (pD (pLc (pItems (pMth "str" splitD (pName 1) (pCons (pVal (.str "\n")) pNil))) [2] (pgN 0 2) pTrue (pMth "str" splitD (pName 2) (pCons (pVal (.str " ")) pNil)))))
    (pSetF fl "at" 0 (pD (pVal (.int 0)))))
theorem z3 {F Fm : Fns} {P Pm : PFns} (h : SimFs F P) (hm : SimFs Fm Pm) : SimS 2 (b3 F Fm) (pb3 P Pm) :=
  (sSeq (sSetF (sD (sLc (sItems (sMth (sName _) (sCons (sVal _) sNil))) (sgN 0 2) (by decide) sTrue (sMth (sName _) (sCons (sVal _) sNil)))))
    (sSetF (sD (sVal _))))
/-- BarLines.step -/
def pb4 (P Pm : PFns) : PT :=
  (pSeq (pFor (pRg2 (pName 2) (pOp2 addD (pName 2) (pVal (.int 3)))) (pgN 3 3) (pIte (pOrT (pToB (pOp2 (boolD geD) (pName 3) (pLen (rName 1)))) (pNotT (pToB (pDat (pCall P 2 (pAVal (pD (pIx (rName 1) (pName 3))) pANil)))))) (pRaise 1 ["line", "word"] (pCons (pRd (rFld fl "at" (rName 0))) (pCons (pName 3) pNil))) pSkip))
    (pRet (pD (pTup (pCons (pIx (rName 1) (pName 2)) (pCons (pIx (rName 1) (pOp2 addD (pName 2) (pVal (.int 1)))) (pCons (pIx (rName 1) (pOp2 addD (pName 2) (pVal (.int 2)))) pNil)))))))
theorem z4 {F Fm : Fns} {P Pm : PFns} (h : SimFs F P) (hm : SimFs Fm Pm) : SimS 3 (b4 F Fm) (pb4 P Pm) :=
  (sSeq (sFor (sRg2 (sName _) (sOp2 op_pu2 (sName _) (sVal _))) (sgN 3 3) (sIte (sOrT (sToB (sOp2 op_pu2 (sName _) (sLen (rName_ok 1)))) (sNotT (sToB (sDat (sCall (h _) (sAVal (sD (sIxN (sName _))) sANil)))))) (sRaise (sCons (sRd (rFld_ok (rName_ok 0))) (sCons (sName _) sNil))) sSkip))
    (sRet (sD (sTup (sCons (sIxN (sName _)) (sCons (sIxN (sOp2 op_pu2 (sName _) (sVal _))) (sCons (sIxN (sOp2 op_pu2 (sName _) (sVal _))) sNil)))))))
/-- BarLines.steps -/
def pb5 (P Pm : PFns) : PT :=
  (pSeq (pAsgO 2 2 (pLstM pNil))
    (pSeq (pAsg (pgN 2 3) (pVal (.int 1)))
    (pSeq (pWhile (pToB (pOp2 (boolD ltD) (pName 3) (pLen (rName 1)))) (pSeq (pIte (pToB (pOp2 (boolD gtD) (pLen (rName 2)) (pVal (.int 0)))) (pSeq (pIte (pToB (pOp2 (notD eqD) (pIx (rName 1) (pName 3)) (pVal (.str ";")))) (pRaise 1 ["line", "word"] (pCons (pRd (rFld fl "at" (rName 0))) (pCons (pName 3) pNil))) pSkip)
    (pAsg (pgN 2 3) (pOp2 addD (pName 3) (pVal (.int 1))))) pSkip)
    (pSeq (pExpr (pAppend 2 (pMeth P mt_step "step" 0 (pASlot 1 (pASlot 3 pANil)))))
    (pAsg (pgN 2 3) (pOp2 addD (pName 3) (pVal (.int 3)))))))
    (pRet (pD (pFrz 2))))))
theorem z5 {F Fm : Fns} {P Pm : PFns} (h : SimFs F P) (hm : SimFs Fm Pm) : SimS 2 (b5 F Fm) (pb5 P Pm) :=
  (sSeq (sAsgO (sLstM sNil))
    (sSeq (sAsg (sgN 2 3) (sVal _))
    (sSeq (sWhile (sToB (sOp2 op_pu2 (sName _) (sLen (rName_ok 1)))) (sSeq (sIte (sToB (sOp2 op_pu2 (sLen (rName_ok 2)) (sVal _))) (sSeq (sIte (sToB (sOp2 op_pu2 (sIxN (sName _)) (sVal _))) (sRaise (sCons (sRd (rFld_ok (rName_ok 0))) (sCons (sName _) sNil))) sSkip)
    (sAsg (sgN 2 3) (sOp2 op_pu2 (sName _) (sVal _)))) sSkip)
    (sSeq (sExpr (sAppend (sMeth h (sASlot (sASlot sANil)))))
    (sAsg (sgN 2 3) (sOp2 op_pu2 (sName _) (sVal _))))))
    (sRet (sD sFrz)))))
/-- BarLines.cases -/
def pb6 (P Pm : PFns) : PT :=
  (pSeq (pFor (pRg2 (pVal (.int 1)) (pLen (rName 1))) (pgN 3 3) (pIte (pNotT (pToB (pDat (pCall P 2 (pAVal (pD (pIx (rName 1) (pName 3))) pANil))))) (pRaise 1 ["line", "word"] (pCons (pRd (rFld fl "at" (rName 0))) (pCons (pName 3) pNil))) pSkip))
    (pSeq (pIte (pToB (pOp2 (boolD ltD) (pLen (rName 1)) (pVal (.int 4)))) (pRaise 1 ["line", "word"] (pCons (pRd (rFld fl "at" (rName 0))) (pCons (pLen (rName 1)) pNil))) pSkip)
    (pSeq (pSetF fl "at" 0 (pD (pOp2 addD (pRd (rFld fl "at" (rName 0))) (pVal (.int 1)))))
    (pSeq (pAsgO 3 4 (pLstM pNil))
    (pSeq (pFor (pItems (pSl (pName 1) (pPart (some (pVal (.int 3)))) (pPart none))) (pgN 3 5) (pExpr (pAppend 4 (pD (pTup (pCons (pName 5) (pCons (pDat (pMeth P mt_bar "bar" 0 (pAVal (pD (pOp2 addD (pName 2) (pVal (.int 1)))) pANil))) pNil)))))))
    (pRet (pD (pTup (pCons (pVal (.str "cases")) (pCons (pIx (rName 1) (pVal (.int 1))) (pCons (pIx (rName 1) (pVal (.int 2))) (pCons (pFrz 4) pNil))))))))))))
theorem z6 {F Fm : Fns} {P Pm : PFns} (h : SimFs F P) (hm : SimFs Fm Pm) : SimS 3 (b6 F Fm) (pb6 P Pm) :=
  (sSeq (sFor (sRg2 (sVal _) (sLen (rName_ok 1))) (sgN 3 3) (sIte (sNotT (sToB (sDat (sCall (h _) (sAVal (sD (sIxN (sName _))) sANil))))) (sRaise (sCons (sRd (rFld_ok (rName_ok 0))) (sCons (sName _) sNil))) sSkip))
    (sSeq (sIte (sToB (sOp2 op_pu2 (sLen (rName_ok 1)) (sVal _))) (sRaise (sCons (sRd (rFld_ok (rName_ok 0))) (sCons (sLen (rName_ok 1)) sNil))) sSkip)
    (sSeq (sSetF (sD (sOp2 op_pu2 (sRd (rFld_ok (rName_ok 0))) (sVal _))))
    (sSeq (sAsgO (sLstM sNil))
    (sSeq (sFor (sItems (sSl (sName _) (sPart1 (sVal _)) sPart0)) (sgN 3 5) (sExpr (sAppend (sD (sTup (sCons (sName _) (sCons (sDat (sMeth h (sAVal (sD (sOp2 op_pu2 (sName _) (sVal _))) sANil))) sNil)))))))
    (sRet (sD (sTup (sCons (sVal _) (sCons (sIxN (sVal _)) (sCons (sIxN (sVal _)) (sCons sFrz sNil))))))))))))
/-- BarLines.bar -/
def pb7 (P Pm : PFns) : PT :=
  (pSeq (pIte (pToB (pOp2 (boolD geD) (pRd (rFld fl "at" (rName 0))) (pLen (rFld fl "lines" (rName 0))))) (pRaise 1 ["line", "word"] (pCons (pLen (rFld fl "lines" (rName 0))) (pCons (pVal (.int 0)) pNil))) pSkip)
    (pSeq (pAsg (pgN 2 2) (pIx (rFld fl "lines" (rName 0)) (pRd (rFld fl "at" (rName 0)))))
    (pSeq (pIte (pOrT (pToB (pOp2 (boolD geD) (pName 1) (pVal c_MOST_DEEP))) (pToB (pOp2 (notD inD) (pIx (rName 2) (pVal (.int 0))) (pTup (pCons (pVal (.str "steps")) (pCons (pVal (.str "cases")) pNil)))))) (pRaise 1 ["line", "word"] (pCons (pRd (rFld fl "at" (rName 0))) (pCons (pVal (.int 0)) pNil))) pSkip)
    (pSeq (pIte (pToB (pOp2 (boolD eqD) (pIx (rName 2) (pVal (.int 0))) (pVal (.str "cases")))) (pRet (pMeth P mt_cases "cases" 0 (pASlot 2 (pASlot 1 pANil)))) pSkip)
    (pSeq (pAsgO 2 3 (pMeth P mt_steps "steps" 0 (pASlot 2 pANil)))
    (pSeq (pSetF fl "at" 0 (pD (pOp2 addD (pRd (rFld fl "at" (rName 0))) (pVal (.int 1)))))
    (pRet (pD (pTup (pCons (pVal (.str "steps")) (pCons (pName 3) pNil)))))))))))
theorem z7 {F Fm : Fns} {P Pm : PFns} (h : SimFs F P) (hm : SimFs Fm Pm) : SimS 2 (b7 F Fm) (pb7 P Pm) :=
  (sSeq (sIte (sToB (sOp2 op_pu2 (sRd (rFld_ok (rName_ok 0))) (sLen (rFld_ok (rName_ok 0))))) (sRaise (sCons (sLen (rFld_ok (rName_ok 0))) (sCons (sVal _) sNil))) sSkip)
    (sSeq (sAsg (sgN 2 2) (sIxQ (rFld_ok (rName_ok 0)) (qRd (rFld_ok (rName_ok 0))) (nRd _)))
    (sSeq (sIte (sOrT (sToB (sOp2 op_pu2 (sName _) (sVal _))) (sToB (sOp2 op_nin (sIxN (sVal _)) (sTup (sCons (sVal _) (sCons (sVal _) sNil)))))) (sRaise (sCons (sRd (rFld_ok (rName_ok 0))) (sCons (sVal _) sNil))) sSkip)
    (sSeq (sIte (sToB (sOp2 op_pu2 (sIxN (sVal _)) (sVal _))) (sRet (sMeth h (sASlot (sASlot sANil)))) sSkip)
    (sSeq (sAsgO (sMeth h (sASlot sANil)))
    (sSeq (sSetF (sD (sOp2 op_pu2 (sRd (rFld_ok (rName_ok 0))) (sVal _))))
    (sRet (sD (sTup (sCons (sVal _) (sCons (sName _) sNil)))))))))))
/-- read_bar -/
def pb8 (P Pm : PFns) : PT :=
  (pSeq (pAsgO 1 1 (pMake Pm 2 3 (pASlot 0 pANil)))
    (pSeq (pAsgO 1 2 (pMeth P mt_bar "bar" 1 (pAVal (pD (pVal (.int 0))) pANil)))
    (pSeq (pIte (pToB (pOp2 (boolD ltD) (pRd (rFld fl "at" (rName 1))) (pLen (rFld fl "lines" (rName 1))))) (pRaise 1 ["line", "word"] (pCons (pRd (rFld fl "at" (rName 1))) (pCons (pVal (.int 0)) pNil))) pSkip)
    (pRet (pAny 2)))))
theorem z8 {F Fm : Fns} {P Pm : PFns} (h : SimFs F P) (hm : SimFs Fm Pm) : SimS 1 (b8 F Fm) (pb8 P Pm) :=
  (sSeq (sAsgO (sMake (hm _) (sASlot sANil)))
    (sSeq (sAsgO (sMeth h (sAVal (sD (sVal _)) sANil)))
    (sSeq (sIte (sToB (sOp2 op_pu2 (sRd (rFld_ok (rName_ok 1))) (sLen (rFld_ok (rName_ok 1))))) (sRaise (sCons (sRd (rFld_ok (rName_ok 1))) (sCons (sVal _) sNil))) sSkip)
    (sRet (sAny 2)))))
/-- _law_same -/
def pb9 (P Pm : PFns) : PT :=
  (pSeq (pIte (pOrT (pToB (pIsI "bool" (pName 1))) (pToB (pIsI "bool" (pName 0)))) (pRet (pD (pAndV (pIsI "bool" (pName 1)) (pAndV (pIsI "bool" (pName 0)) (pOp2 (boolD eqD) (pName 0) (pName 1)))))) pSkip)
    (pSeq (pIte (pOrT (pToB (pIsN false (rName 1))) (pToB (pIsI "int" (pName 1)))) (pRet (pD (pAndV (pOp2 (boolD eqD) (pName 0) (pName 1)) (pOrV (pIsN false (rName 1)) (pIsI "int" (pName 0)))))) pSkip)
    (pSeq (pIte (pToB (pIsI "str" (pName 1))) (pRet (pD (pAndV (pIsI "str" (pName 0)) (pOp2 (boolD eqD) (pName 0) (pName 1))))) pSkip)
    (pSeq (pIte (pOrT (pToB (pOp2 (notD eqD) (pIsI "list" (pName 1)) (pIsI "list" (pName 0)))) (pToB (pOp2 (notD eqD) (pIsI "tuple" (pName 1)) (pIsI "tuple" (pName 0))))) (pRet (pD (pVal (.bool false)))) pSkip)
    (pSeq (pIte (pToB (pOp2 (notD eqD) (pLen (rName 0)) (pLen (rName 1)))) (pRet (pD (pVal (.bool false)))) pSkip)
    (pSeq (pFor (pRg1 (pLen (rName 1))) (pgN 2 2) (pIte (pNotT (pToB (pDat (pCall P 9 (pAVal (pD (pIx (rName 0) (pName 2))) (pAVal (pD (pIx (rName 1) (pName 2))) pANil)))))) (pRet (pD (pVal (.bool false)))) pSkip))
    (pRet (pD (pVal (.bool true))))))))))
theorem z9 {F Fm : Fns} {P Pm : PFns} (h : SimFs F P) (hm : SimFs Fm Pm) : SimS 2 (b9 F Fm) (pb9 P Pm) :=
  (sSeq (sIte (sOrT (sToB (sIsI (sName _))) (sToB (sIsI (sName _)))) (sRet (sD (sAndV (sIsI (sName _)) (sAndV (sIsI (sName _)) (sOp2 op_pu2 (sName _) (sName _)))))) sSkip)
    (sSeq (sIte (sOrT (sToB (sIs (rName_ok 1))) (sToB (sIsI (sName _)))) (sRet (sD (sAndV (sOp2 op_pu2 (sName _) (sName _)) (sOrV (sIs (rName_ok 1)) (sIsI (sName _)))))) sSkip)
    (sSeq (sIte (sToB (sIsI (sName _))) (sRet (sD (sAndV (sIsI (sName _)) (sOp2 op_pu2 (sName _) (sName _))))) sSkip)
    (sSeq (sIte (sOrT (sToB (sOp2 op_pu2 (sIsI (sName _)) (sIsI (sName _)))) (sToB (sOp2 op_pu2 (sIsI (sName _)) (sIsI (sName _))))) (sRet (sD (sVal _))) sSkip)
    (sSeq (sIte (sToB (sOp2 op_pu2 (sLen (rName_ok 0)) (sLen (rName_ok 1)))) (sRet (sD (sVal _))) sSkip)
    (sSeq (sFor (sRg1 (sLen (rName_ok 1))) (sgN 2 2) (sIte (sNotT (sToB (sDat (sCall (h _) (sAVal (sD (sIxN (sName _))) (sAVal (sD (sIxN (sName _))) sANil)))))) (sRet (sD (sVal _))) sSkip))
    (sRet (sD (sVal _)))))))))
/-- _law_number -/
def pb10 (P Pm : PFns) : PT :=
  (pSeq (pAsg (pgN 2 2) (pOp2 addD (pOp2 mulP (pCallB (p1 sumD) (pCons (pName 0) pNil)) (pVal (.int 31))) (pOp2 mulP (pVal (.int 1000003)) (pOp2 addD (pName 1) (pVal (.int 1))))))
    (pSeq (pIte (pToB (pOp2 (boolD ltD) (pName 1) (pLen (rName 0)))) (pAsg (pgN 2 2) (pIx (rName 0) (pName 1))) pSkip)
    (pRet (pD (pCallB (p1 absD) (pCons (pName 2) pNil))))))
theorem z10 {F Fm : Fns} {P Pm : PFns} (h : SimFs F P) (hm : SimFs Fm Pm) : SimS 2 (b10 F Fm) (pb10 P Pm) :=
  (sSeq (sAsg (sgN 2 2) (sOp2 op_pu2 (sOp2 op_mul (sCallB op_pf1 (sCons (sName _) sNil)) (sVal _)) (sOp2 op_mul (sVal _) (sOp2 op_pu2 (sName _) (sVal _)))))
    (sSeq (sIte (sToB (sOp2 op_pu2 (sName _) (sLen (rName_ok 0)))) (sAsg (sgN 2 2) (sIxN (sName _))) sSkip)
    (sRet (sD (sCallB op_pf1 (sCons (sName _) sNil))))))
/-- _law_draws -/
def pb11 (P Pm : PFns) : PT :=
  (pSeq (pAsgO 4 4 (pCall P 10 (pASlot 0 (pASlot 1 pANil))))
    (pSeq (pAsgO 4 5 (pLstM pNil))
    (pSeq (pIte (pToB (pOp2 (boolD geD) (pName 4) (pOp2 powD (pVal (.int 10)) (pVal (.int 18))))) (pSeq (pAsg (pgN 4 4) (pOp2 subD (pName 4) (pOp2 powD (pVal (.int 10)) (pVal (.int 18)))))
    (pSeq (pFor (pRg1 (pName 2)) (pgN 4 6) (pSeq (pExpr (pAppend 5 (pD (pOp2 modD (pName 4) (pName 3)))))
    (pAsg (pgN 4 4) (pOp2 divD (pName 4) (pName 3)))))
    (pRet (pAny 5)))) pSkip)
    (pSeq (pAsg (pgN 4 7) (pOp2 addD (pOp2 modD (pName 4) (pVal (.int 2147483647))) (pVal (.int 1))))
    (pSeq (pFor (pRg1 (pName 2)) (pgN 4 6) (pSeq (pAsg (pgN 4 7) (pOp2 modD (pOp2 addD (pOp2 addD (pOp2 mulP (pName 7) (pVal (.int 48271))) (pOp2 mulP (pVal (.int 11)) (pName 6))) (pVal (.int 7))) (pVal (.int 2147483647))))
    (pSeq (pAsg (pgN 4 8) (pOp2 modD (pOp2 addD (pOp2 addD (pOp2 mulP (pName 7) (pName 7)) (pOp2 mulP (pVal (.int 69621)) (pName 6))) (pVal (.int 5))) (pVal (.int 2147483629))))
    (pExpr (pAppend 5 (pD (pOp2 modD (pOp2 divD (pName 8) (pVal (.int 64))) (pName 3))))))))
    (pRet (pAny 5)))))))
theorem z11 {F Fm : Fns} {P Pm : PFns} (h : SimFs F P) (hm : SimFs Fm Pm) : SimS 4 (b11 F Fm) (pb11 P Pm) :=
  (sSeq (sAsgO (sCall (h _) (sASlot (sASlot sANil))))
    (sSeq (sAsgO (sLstM sNil))
    (sSeq (sIte (sToB (sOp2 op_pu2 (sName _) (sOp2 op_pu2 (sVal _) (sVal _)))) (sSeq (sAsg (sgN 4 4) (sOp2 op_pu2 (sName _) (sOp2 op_pu2 (sVal _) (sVal _))))
    (sSeq (sFor (sRg1 (sName _)) (sgN 4 6) (sSeq (sExpr (sAppend (sD (sOp2 op_pu2 (sName _) (sName _)))))
    (sAsg (sgN 4 4) (sOp2 op_pu2 (sName _) (sName _)))))
    (sRet (sAny 5)))) sSkip)
    (sSeq (sAsg (sgN 4 7) (sOp2 op_pu2 (sOp2 op_pu2 (sName _) (sVal _)) (sVal _)))
    (sSeq (sFor (sRg1 (sName _)) (sgN 4 6) (sSeq (sAsg (sgN 4 7) (sOp2 op_pu2 (sOp2 op_pu2 (sOp2 op_pu2 (sOp2 op_mul (sName _) (sVal _)) (sOp2 op_mul (sVal _) (sName _))) (sVal _)) (sVal _)))
    (sSeq (sAsg (sgN 4 8) (sOp2 op_pu2 (sOp2 op_pu2 (sOp2 op_pu2 (sOp2 op_mul (sName _) (sName _)) (sOp2 op_mul (sVal _) (sName _))) (sVal _)) (sVal _)))
    (sExpr (sAppend (sD (sOp2 op_pu2 (sOp2 op_pu2 (sName _) (sVal _)) (sName _))))))))
    (sRet (sAny 5)))))))
/-- _law_pick -/
def pb12 (P Pm : PFns) : PT :=
  (pSeq (pIte (pToB (pOp2 (boolD eqD) (pLen (rName 0)) (pVal (.int 0)))) (pRet (pD (pVal (.int 0)))) pSkip)
    (pRet (pPop 0)))
theorem z12 {F Fm : Fns} {P Pm : PFns} (h : SimFs F P) (hm : SimFs Fm Pm) : SimS 1 (b12 F Fm) (pb12 P Pm) :=
  (sSeq (sIte (sToB (sOp2 op_pu2 (sLen (rName_ok 0)) (sVal _))) (sRet (sD (sVal _))) sSkip)
    (sRet sPop))
/-- _law_picks -/
def pb13 (P Pm : PFns) : PT :=
  (pSeq (pAsgO 3 3 (pCall P 11 (pASlot 0 (pASlot 1 (pASlot 2 (pAVal (pD (pVal (.int 5040))) pANil))))))
    (pSeq (pExpr (pReverse 3))
    (pRet (pAny 3))))
theorem z13 {F Fm : Fns} {P Pm : PFns} (h : SimFs F P) (hm : SimFs Fm Pm) : SimS 3 (b13 F Fm) (pb13 P Pm) :=
  (sSeq (sAsgO (sCall (h _) (sASlot (sASlot (sASlot (sAVal (sD (sVal _)) sANil))))))
    (sSeq (sExpr sReverse)
    (sRet (sAny 3))))
/-- _law_bar -/
def pb14 (P Pm : PFns) : PT :=
  (pSeq (pAsg (pgN 2 2) (pTup (pCons (pVal (.str "x")) (pCons (pVal (.str "y")) (pCons (pVal (.str "a1")) (pCons (pVal (.str "m")) (pCons (pVal (.str "WW")) (pCons (pVal (.str "ii")) (pCons (pVal (.str "OO")) pNil)))))))))
    (pSeq (pIte (pOrT (pToB (pOp2 (boolD leD) (pName 1) (pVal (.int 0)))) (pToB (pOp2 (boolD eqD) (pOp2 modD (pDat (pCall P 12 (pASlot 0 pANil))) (pVal (.int 3))) (pVal (.int 0))))) (pSeq (pAsgO 2 3 (pLstM pNil))
    (pSeq (pFor (pRg1 (pOp2 modD (pDat (pCall P 12 (pASlot 0 pANil))) (pVal (.int 4)))) (pgN 2 4) (pExpr (pAppend 3 (pD (pCallB (p1 tupleD) (pCons (pLc (pRg1 (pVal (.int 3))) [6] (pgN 0 6) pTrue (pIx (rName 2) (pOp2 modD (pDat (pCall P 12 (pASlot 0 pANil))) (pVal (.int 7))))) pNil))))))
    (pRet (pD (pTup (pCons (pVal (.str "steps")) (pCons (pFrz 3) pNil))))))) pSkip)
    (pSeq (pAsg (pgN 2 5) (pLc (pRg1 (pOp2 addD (pVal (.int 1)) (pOp2 modD (pDat (pCall P 12 (pASlot 0 pANil))) (pVal (.int 3))))) [4] (pgN 0 4) pTrue (pTup (pCons (pIx (rName 2) (pOp2 modD (pDat (pCall P 12 (pASlot 0 pANil))) (pVal (.int 7)))) (pCons (pDat (pCall P 14 (pASlot 0 (pAVal (pD (pOp2 subD (pName 1) (pVal (.int 1)))) pANil)))) pNil)))))
    (pRet (pD (pTup (pCons (pVal (.str "cases")) (pCons (pIx (rName 2) (pOp2 modD (pDat (pCall P 12 (pASlot 0 pANil))) (pVal (.int 3)))) (pCons (pIx (rName 2) (pOp2 modD (pDat (pCall P 12 (pASlot 0 pANil))) (pVal (.int 3)))) (pCons (pName 5) pNil))))))))))
theorem z14 {F Fm : Fns} {P Pm : PFns} (h : SimFs F P) (hm : SimFs Fm Pm) : SimS 2 (b14 F Fm) (pb14 P Pm) :=
  (sSeq (sAsg (sgN 2 2) (sTup (sCons (sVal _) (sCons (sVal _) (sCons (sVal _) (sCons (sVal _) (sCons (sVal _) (sCons (sVal _) (sCons (sVal _) sNil)))))))))
    (sSeq (sIte (sOrT (sToB (sOp2 op_pu2 (sName _) (sVal _))) (sToB (sOp2 op_pu2 (sOp2 op_pu2 (sDat (sCall (h _) (sASlot sANil))) (sVal _)) (sVal _)))) (sSeq (sAsgO (sLstM sNil))
    (sSeq (sFor (sRg1 (sOp2 op_pu2 (sDat (sCall (h _) (sASlot sANil))) (sVal _))) (sgN 2 4) (sExpr (sAppend (sD (sCallB op_pf1 (sCons (sLc (sRg1 (sVal _)) (sgN 0 6) (by decide) sTrue (sIxN (sOp2 op_pu2 (sDat (sCall (h _) (sASlot sANil))) (sVal _)))) sNil))))))
    (sRet (sD (sTup (sCons (sVal _) (sCons sFrz sNil))))))) sSkip)
    (sSeq (sAsg (sgN 2 5) (sLc (sRg1 (sOp2 op_pu2 (sVal _) (sOp2 op_pu2 (sDat (sCall (h _) (sASlot sANil))) (sVal _)))) (sgN 0 4) (by decide) sTrue (sTup (sCons (sIxN (sOp2 op_pu2 (sDat (sCall (h _) (sASlot sANil))) (sVal _))) (sCons (sDat (sCall (h _) (sASlot (sAVal (sD (sOp2 op_pu2 (sName _) (sVal _))) sANil)))) sNil)))))
    (sRet (sD (sTup (sCons (sVal _) (sCons (sIxN (sOp2 op_pu2 (sDat (sCall (h _) (sASlot sANil))) (sVal _))) (sCons (sIxN (sOp2 op_pu2 (sDat (sCall (h _) (sASlot sANil))) (sVal _))) (sCons (sName _) sNil))))))))))
/-- _law_lines -/
def pb15 (P Pm : PFns) : PT :=
  (pSeq (pIte (pToB (pOp2 (boolD eqD) (pIx (rName 0) (pVal (.int 0))) (pVal (.str "steps")))) (pSeq (pAsg (pgN 1 1) (pLst (pCons (pVal (.str "steps")) pNil)))
    (pSeq (pFor (pRg1 (pLen (rIx (rName 0) (pVal (.int 1))))) (pgN 1 2) (pAsg (pgN 1 1) (pOp2 addD (pOp2 addD (pName 1) (pRep (pCons (pVal (.str ";")) pNil) (pCallB (p1 intD) (pCons (pOp2 (boolD gtD) (pName 2) (pVal (.int 0))) pNil)))) (pCallB (p1 listE) (pCons (pOp2 ixD (pIx (rName 0) (pVal (.int 1))) (pName 2)) pNil)))))
    (pRet (pD (pLst (pCons (pName 1) pNil)))))) pSkip)
    (pSeq (pAsg (pgN 1 3) (pLst (pCons (pOp2 addD (pLst (pCons (pVal (.str "cases")) (pCons (pIx (rName 0) (pVal (.int 1))) (pCons (pIx (rName 0) (pVal (.int 2))) pNil)))) (pLc (pItems (pIx (rName 0) (pVal (.int 3)))) [4] (pgN 0 4) pTrue (pIx (rName 4) (pVal (.int 0))))) pNil)))
    (pSeq (pFor (pItems (pIx (rName 0) (pVal (.int 3)))) (pgN 1 4) (pAsg (pgN 1 3) (pOp2 addD (pName 3) (pDat (pCall P 15 (pAVal (pD (pIx (rName 4) (pVal (.int 1)))) pANil))))))
    (pRet (pAny 3)))))
theorem z15 {F Fm : Fns} {P Pm : PFns} (h : SimFs F P) (hm : SimFs Fm Pm) : SimS 1 (b15 F Fm) (pb15 P Pm) :=
  (sSeq (sIte (sToB (sOp2 op_pu2 (sIxN (sVal _)) (sVal _))) (sSeq (sAsg (sgN 1 1) (sLst (sCons (sVal _) sNil)))
    (sSeq (sFor (sRg1 (sLen (rIx_ok (rName_ok 0) (qVal _)))) (sgN 1 2) (sAsg (sgN 1 1) (sOp2 op_pu2 (sOp2 op_pu2 (sName _) (sRep (sCons (sVal _) sNil) (sCallB op_pf1 (sCons (sOp2 op_pu2 (sName _) (sVal _)) sNil)))) (sCallB op_pf1 (sCons (sOp2 op_ixD (sIxN (sVal _)) (sName _)) sNil)))))
    (sRet (sD (sLst (sCons (sName _) sNil)))))) sSkip)
    (sSeq (sAsg (sgN 1 3) (sLst (sCons (sOp2 op_pu2 (sLst (sCons (sVal _) (sCons (sIxN (sVal _)) (sCons (sIxN (sVal _)) sNil)))) (sLc (sItems (sIxN (sVal _))) (sgN 0 4) (by decide) sTrue (sIxN (sVal _)))) sNil)))
    (sSeq (sFor (sItems (sIxN (sVal _))) (sgN 1 4) (sAsg (sgN 1 3) (sOp2 op_pu2 (sName _) (sDat (sCall (h _) (sAVal (sD (sIxN (sVal _))) sANil))))))
    (sRet (sAny 3)))))
/-- _law_is_word -/
def pb16 (P Pm : PFns) : PT :=
  (pSeq (pAsg (pgN 1 1) (pVal (.str "abcdefghijklmnopqrstuvwxyz")))
    (pRet (pD (pAndV (pOp2 (notD eqD) (pName 0) (pVal (.str ""))) (pOp2 (boolD eqD) (pCallB lenDP (pCons (pLc (pItems (pName 0)) [2] (pgN 0 2) (pAndT (pToB (pIn true (pName 2) (rName 1))) (pAndT (pToB (pOp2 (notD inD) (pName 2) (pMth "str" upperD (pName 1) pNil))) (pToB (pOp2 (notD inD) (pName 2) (pVal (.str "0123456789")))))) (pName 2)) pNil)) (pVal (.int 0)))))))
theorem z16 {F Fm : Fns} {P Pm : PFns} (h : SimFs F P) (hm : SimFs Fm Pm) : SimS 1 (b16 F Fm) (pb16 P Pm) :=
  (sSeq (sAsg (sgN 1 1) (sVal _))
    (sRet (sD (sAndV (sOp2 op_pu2 (sName _) (sVal _)) (sOp2 op_pu2 (sCallB lenDP_ok (sCons (sLc (sItems (sName _)) (sgN 0 2) (by decide) (sAndT (sToB (sNinN (sName _))) (sAndT (sToB (sOp2 op_nin (sName _) (sMth (sName _) sNil))) (sToB (sOp2 op_nin (sName _) (sVal _))))) (sName _)) sNil)) (sVal _))))))
/-- _law_read -/
def pb17 (P Pm : PFns) : PT :=
  (pSeq (pIte (pToB (pOp2 (boolD geD) (pName 1) (pLen (rName 0)))) (pRet (pD (pTup (pCons (pVal .none) (pCons (pLst (pCons (pLen (rName 0)) (pCons (pVal (.int 0)) pNil))) pNil))))) pSkip)
    (pSeq (pAsg (pgN 3 3) (pIx (rName 0) (pName 1)))
    (pSeq (pIte (pOrT (pToB (pOp2 (boolD geD) (pName 2) (pVal (.int 100)))) (pToB (pOp2 (notD inD) (pIx (rName 3) (pVal (.int 0))) (pTup (pCons (pVal (.str "steps")) (pCons (pVal (.str "cases")) pNil)))))) (pRet (pD (pTup (pCons (pVal .none) (pCons (pLst (pCons (pName 1) (pCons (pVal (.int 0)) pNil))) pNil))))) pSkip)
    (pSeq (pIte (pToB (pOp2 (boolD eqD) (pIx (rName 3) (pVal (.int 0))) (pVal (.str "steps")))) (pSeq (pFor (pRg2 (pVal (.int 1)) (pLen (rName 3))) (pgN 3 4) (pIte (pIf (pToB (pOp2 (boolD eqD) (pOp2 modD (pName 4) (pVal (.int 4))) (pVal (.int 0)))) (pToB (pOp2 (notD eqD) (pIx (rName 3) (pName 4)) (pVal (.str ";")))) (pNotT (pToB (pDat (pCall P 16 (pAVal (pD (pIx (rName 3) (pName 4))) pANil)))))) (pRet (pD (pTup (pCons (pVal .none) (pCons (pLst (pCons (pName 1) (pCons (pName 4) pNil))) pNil))))) pSkip))
    (pSeq (pIte (pAndT (pToB (pOp2 (boolD gtD) (pLen (rName 3)) (pVal (.int 1)))) (pToB (pOp2 (notD eqD) (pOp2 modD (pLen (rName 3)) (pVal (.int 4))) (pVal (.int 0))))) (pRet (pD (pTup (pCons (pVal .none) (pCons (pLst (pCons (pName 1) (pCons (pLen (rName 3)) pNil))) pNil))))) pSkip)
    (pRet (pD (pTup (pCons (pTup (pCons (pVal (.str "steps")) (pCons (pLc (pRg3 (pVal (.int 1)) (pLen (rName 3)) (pVal (.int 4))) [4] (pgN 0 4) pTrue (pCallB (p1 tupleD) (pCons (pSl (pName 3) (pPart (some (pName 4))) (pPart (some (pOp2 addD (pName 4) (pVal (.int 3)))))) pNil))) pNil))) (pCons (pOp2 addD (pName 1) (pVal (.int 1))) pNil))))))) pSkip)
    (pSeq (pFor (pRg2 (pVal (.int 1)) (pLen (rName 3))) (pgN 3 4) (pIte (pNotT (pToB (pDat (pCall P 16 (pAVal (pD (pIx (rName 3) (pName 4))) pANil))))) (pRet (pD (pTup (pCons (pVal .none) (pCons (pLst (pCons (pName 1) (pCons (pName 4) pNil))) pNil))))) pSkip))
    (pSeq (pIte (pToB (pOp2 (boolD ltD) (pLen (rName 3)) (pVal (.int 4)))) (pRet (pD (pTup (pCons (pVal .none) (pCons (pLst (pCons (pName 1) (pCons (pLen (rName 3)) pNil))) pNil))))) pSkip)
    (pSeq (pPar 3 5 1 (pLstM pNil) (pD (pOp2 addD (pName 1) (pVal (.int 1)))))
    (pSeq (pFor (pItems (pSl (pName 3) (pPart (some (pVal (.int 3)))) (pPart none))) (pgN 3 6) (pSeq (pAsg (pgTup [(pgN 3 7), (pgN 3 1)]) (pDat (pCall P 17 (pASlot 0 (pASlot 1 (pAVal (pD (pOp2 addD (pName 2) (pVal (.int 1)))) pANil))))))
    (pSeq (pIte (pToB (pIsN false (rName 7))) (pRet (pD (pTup (pCons (pVal .none) (pCons (pName 1) pNil))))) pSkip)
    (pExpr (pAppend 5 (pD (pTup (pCons (pName 6) (pCons (pName 7) pNil)))))))))
    (pRet (pD (pTup (pCons (pTup (pCons (pVal (.str "cases")) (pCons (pIx (rName 3) (pVal (.int 1))) (pCons (pIx (rName 3) (pVal (.int 2))) (pCons (pFrz 5) pNil))))) (pCons (pName 1) pNil)))))))))))))
theorem z17 {F Fm : Fns} {P Pm : PFns} (h : SimFs F P) (hm : SimFs Fm Pm) : SimS 3 (b17 F Fm) (pb17 P Pm) :=
  (sSeq (sIte (sToB (sOp2 op_pu2 (sName _) (sLen (rName_ok 0)))) (sRet (sD (sTup (sCons (sVal _) (sCons (sLst (sCons (sLen (rName_ok 0)) (sCons (sVal _) sNil))) sNil))))) sSkip)
    (sSeq (sAsg (sgN 3 3) (sIxN (sName _)))
    (sSeq (sIte (sOrT (sToB (sOp2 op_pu2 (sName _) (sVal _))) (sToB (sOp2 op_nin (sIxN (sVal _)) (sTup (sCons (sVal _) (sCons (sVal _) sNil)))))) (sRet (sD (sTup (sCons (sVal _) (sCons (sLst (sCons (sName _) (sCons (sVal _) sNil))) sNil))))) sSkip)
    (sSeq (sIte (sToB (sOp2 op_pu2 (sIxN (sVal _)) (sVal _))) (sSeq (sFor (sRg2 (sVal _) (sLen (rName_ok 3))) (sgN 3 4) (sIte (sIf (sToB (sOp2 op_pu2 (sOp2 op_pu2 (sName _) (sVal _)) (sVal _))) (sToB (sOp2 op_pu2 (sIxN (sName _)) (sVal _))) (sNotT (sToB (sDat (sCall (h _) (sAVal (sD (sIxN (sName _))) sANil)))))) (sRet (sD (sTup (sCons (sVal _) (sCons (sLst (sCons (sName _) (sCons (sName _) sNil))) sNil))))) sSkip))
    (sSeq (sIte (sAndT (sToB (sOp2 op_pu2 (sLen (rName_ok 3)) (sVal _))) (sToB (sOp2 op_pu2 (sOp2 op_pu2 (sLen (rName_ok 3)) (sVal _)) (sVal _)))) (sRet (sD (sTup (sCons (sVal _) (sCons (sLst (sCons (sName _) (sCons (sLen (rName_ok 3)) sNil))) sNil))))) sSkip)
    (sRet (sD (sTup (sCons (sTup (sCons (sVal _) (sCons (sLc (sRg3 (sVal _) (sLen (rName_ok 3)) (sVal _)) (sgN 0 4) (by decide) sTrue (sCallB op_pf1 (sCons (sSl (sName _) (sPart1 (sName _)) (sPart1 (sOp2 op_pu2 (sName _) (sVal _)))) sNil))) sNil))) (sCons (sOp2 op_pu2 (sName _) (sVal _)) sNil))))))) sSkip)
    (sSeq (sFor (sRg2 (sVal _) (sLen (rName_ok 3))) (sgN 3 4) (sIte (sNotT (sToB (sDat (sCall (h _) (sAVal (sD (sIxN (sName _))) sANil))))) (sRet (sD (sTup (sCons (sVal _) (sCons (sLst (sCons (sName _) (sCons (sName _) sNil))) sNil))))) sSkip))
    (sSeq (sIte (sToB (sOp2 op_pu2 (sLen (rName_ok 3)) (sVal _))) (sRet (sD (sTup (sCons (sVal _) (sCons (sLst (sCons (sName _) (sCons (sLen (rName_ok 3)) sNil))) sNil))))) sSkip)
    (sSeq (sPar (sLstM sNil) (sD (sOp2 op_pu2 (sName _) (sVal _))))
    (sSeq (sFor (sItems (sSl (sName _) (sPart1 (sVal _)) sPart0)) (sgN 3 6) (sSeq (sAsg (sgTup (sgCons (sgN 3 7) (sgCons (sgN 3 1) sgNil))) (sDat (sCall (h _) (sASlot (sASlot (sAVal (sD (sOp2 op_pu2 (sName _) (sVal _))) sANil))))))
    (sSeq (sIte (sToB (sIs (rName_ok 7))) (sRet (sD (sTup (sCons (sVal _) (sCons (sName _) sNil))))) sSkip)
    (sExpr (sAppend (sD (sTup (sCons (sName _) (sCons (sName _) sNil)))))))))
    (sRet (sD (sTup (sCons (sTup (sCons (sVal _) (sCons (sIxN (sVal _)) (sCons (sIxN (sVal _)) (sCons sFrz sNil))))) (sCons (sName _) sNil)))))))))))))
/-- _law_due -/
def pb18 (P Pm : PFns) : PT :=
  (pSeq (pAsg (pgTup [(pgN 1 1), (pgN 1 2)]) (pDat (pCall P 17 (pASlot 0 (pAVal (pD (pVal (.int 0))) (pAVal (pD (pVal (.int 0))) pANil))))))
    (pSeq (pIte (pToB (pIsN false (rName 1))) (pRet (pAny 2)) pSkip)
    (pRet (pD (pIf (pToB (pOp2 (boolD eqD) (pName 2) (pLen (rName 0)))) (pName 1) (pLst (pCons (pName 2) (pCons (pVal (.int 0)) pNil))))))))
theorem z18 {F Fm : Fns} {P Pm : PFns} (h : SimFs F P) (hm : SimFs Fm Pm) : SimS 1 (b18 F Fm) (pb18 P Pm) :=
  (sSeq (sAsg (sgTup (sgCons (sgN 1 1) (sgCons (sgN 1 2) sgNil))) (sDat (sCall (h _) (sASlot (sAVal (sD (sVal _)) (sAVal (sD (sVal _)) sANil))))))
    (sSeq (sIte (sToB (sIs (rName_ok 1))) (sRet (sAny 2)) sSkip)
    (sRet (sD (sIf (sToB (sOp2 op_pu2 (sName _) (sLen (rName_ok 0)))) (sName _) (sLst (sCons (sName _) (sCons (sVal _) sNil))))))))
/-- _law_told -/
def pb19 (P Pm : PFns) : PT :=
  (pTryAs (fun c => sub c 1) 1 (pRet (pCall P 8 (pAVal (pD (pMth "str" joinD (pVal (.str "\n")) (pCons (pLc (pItems (pName 0)) [2] (pgN 0 2) pTrue (pMth "str" joinD (pVal (.str " ")) (pCons (pName 2) pNil))) pNil))) pANil))) (xIf (xIs sub 0) (xLst (xCons (xFld xf "line") (xCons (xFld xf "word") xNil))) (xLst (xCons (xVal (.str "strange")) xNil))))
theorem z19 {F Fm : Fns} {P Pm : PFns} (h : SimFs F P) (hm : SimFs Fm Pm) : SimS 1 (b19 F Fm) (pb19 P Pm) :=
  (sTryAs (fun _ _ => rfl) (sRet (sCall (h _) (sAVal (sD (sMth (sVal _) (sCons (sLc (sItems (sName _)) (sgN 0 2) (by decide) sTrue (sMth (sVal _) (sCons (sName _) sNil))) sNil))) sANil))))
/-- _law_changed -/
def pb20 (P Pm : PFns) : PT :=
  (pSeq (pAsg (pgN 2 2) (pOp2 modD (pDat (pCall P 12 (pASlot 0 pANil))) (pLen (rName 1))))
    (pSeq (pAsg (pgN 2 3) (pIx (rName 1) (pName 2)))
    (pSeq (pAsg (pgN 2 4) (pOp2 modD (pDat (pCall P 12 (pASlot 0 pANil))) (pOp2 addD (pLen (rName 3)) (pVal (.int 1)))))
    (pSeq (pAsg (pgN 2 5) (pOp2 ixD (pLst (pCons (pVal (.str "steps")) (pCons (pVal (.str "cases")) (pCons (pVal (.str ";")) (pCons (pVal (.str "")) (pCons (pVal (.str "x")) (pCons (pVal (.str "x-y")) (pCons (pVal (.str "W")) (pCons (pVal (.str "1")) pNil))))))))) (pOp2 modD (pDat (pCall P 12 (pASlot 0 pANil))) (pVal (.int 8)))))
    (pSeq (pAsg (pgN 2 6) (pOp2 modD (pDat (pCall P 12 (pASlot 0 pANil))) (pVal (.int 7))))
    (pSeq (pIte (pToB (pOp2 (boolD ltD) (pName 6) (pVal (.int 4)))) (pSeq (pAsg (pgN 2 3) (pOp2 ixD (pLst (pCons (pOp2 addD (pOp2 addD (pSl (pName 3) (pPart none) (pPart (some (pName 4)))) (pLst (pCons (pName 5) pNil))) (pSl (pName 3) (pPart (some (pName 4))) (pPart none))) (pCons (pOp2 addD (pOp2 addD (pSl (pName 3) (pPart none) (pPart (some (pName 4)))) (pLst (pCons (pName 5) pNil))) (pSl (pName 3) (pPart (some (pOp2 addD (pName 4) (pVal (.int 1))))) (pPart none))) (pCons (pOp2 addD (pSl (pName 3) (pPart none) (pPart (some (pName 4)))) (pSl (pName 3) (pPart (some (pOp2 addD (pName 4) (pVal (.int 1))))) (pPart none))) (pCons (pSl (pName 3) (pPart none) (pPart (some (pName 4)))) pNil))))) (pName 6)))
    (pRet (pD (pOp2 addD (pOp2 addD (pSl (pName 1) (pPart none) (pPart (some (pName 2)))) (pLst (pCons (pIf (pToB (pOp2 (boolD gtD) (pLen (rName 3)) (pVal (.int 0)))) (pName 3) (pLst (pCons (pVal (.str "")) pNil))) pNil))) (pSl (pName 1) (pPart (some (pOp2 addD (pName 2) (pVal (.int 1))))) (pPart none)))))) pSkip)
    (pRet (pD (pOrU (pOp2 ixD (pLst (pCons (pOp2 addD (pSl (pName 1) (pPart none) (pPart (some (pName 2)))) (pSl (pName 1) (pPart (some (pOp2 addD (pName 2) (pVal (.int 1))))) (pPart none))) (pCons (pOp2 addD (pOp2 addD (pSl (pName 1) (pPart none) (pPart (some (pName 2)))) (pLst (pCons (pIx (rName 1) (pName 2)) pNil))) (pSl (pName 1) (pPart (some (pName 2))) (pPart none))) (pCons (pOp2 addD (pSl (pName 1) (pPart (some (pName 2))) (pPart none)) (pSl (pName 1) (pPart none) (pPart (some (pName 2))))) pNil)))) (pOp2 subD (pName 6) (pVal (.int 4)))) (pLst (pCons (pLst (pCons (pVal (.str "")) pNil)) pNil)))))))))))
theorem z20 {F Fm : Fns} {P Pm : PFns} (h : SimFs F P) (hm : SimFs Fm Pm) : SimS 2 (b20 F Fm) (pb20 P Pm) :=
  (sSeq (sAsg (sgN 2 2) (sOp2 op_pu2 (sDat (sCall (h _) (sASlot sANil))) (sLen (rName_ok 1))))
    (sSeq (sAsg (sgN 2 3) (sIxN (sName _)))
    (sSeq (sAsg (sgN 2 4) (sOp2 op_pu2 (sDat (sCall (h _) (sASlot sANil))) (sOp2 op_pu2 (sLen (rName_ok 3)) (sVal _))))
    (sSeq (sAsg (sgN 2 5) (sOp2 op_ixD (sLst (sCons (sVal _) (sCons (sVal _) (sCons (sVal _) (sCons (sVal _) (sCons (sVal _) (sCons (sVal _) (sCons (sVal _) (sCons (sVal _) sNil))))))))) (sOp2 op_pu2 (sDat (sCall (h _) (sASlot sANil))) (sVal _))))
    (sSeq (sAsg (sgN 2 6) (sOp2 op_pu2 (sDat (sCall (h _) (sASlot sANil))) (sVal _)))
    (sSeq (sIte (sToB (sOp2 op_pu2 (sName _) (sVal _))) (sSeq (sAsg (sgN 2 3) (sOp2 op_ixD (sLst (sCons (sOp2 op_pu2 (sOp2 op_pu2 (sSl (sName _) sPart0 (sPart1 (sName _))) (sLst (sCons (sName _) sNil))) (sSl (sName _) (sPart1 (sName _)) sPart0)) (sCons (sOp2 op_pu2 (sOp2 op_pu2 (sSl (sName _) sPart0 (sPart1 (sName _))) (sLst (sCons (sName _) sNil))) (sSl (sName _) (sPart1 (sOp2 op_pu2 (sName _) (sVal _))) sPart0)) (sCons (sOp2 op_pu2 (sSl (sName _) sPart0 (sPart1 (sName _))) (sSl (sName _) (sPart1 (sOp2 op_pu2 (sName _) (sVal _))) sPart0)) (sCons (sSl (sName _) sPart0 (sPart1 (sName _))) sNil))))) (sName _)))
    (sRet (sD (sOp2 op_pu2 (sOp2 op_pu2 (sSl (sName _) sPart0 (sPart1 (sName _))) (sLst (sCons (sIf (sToB (sOp2 op_pu2 (sLen (rName_ok 3)) (sVal _))) (sName _) (sLst (sCons (sVal _) sNil))) sNil))) (sSl (sName _) (sPart1 (sOp2 op_pu2 (sName _) (sVal _))) sPart0))))) sSkip)
    (sRet (sD (sOrU (sOp2 op_ixD (sLst (sCons (sOp2 op_pu2 (sSl (sName _) sPart0 (sPart1 (sName _))) (sSl (sName _) (sPart1 (sOp2 op_pu2 (sName _) (sVal _))) sPart0)) (sCons (sOp2 op_pu2 (sOp2 op_pu2 (sSl (sName _) sPart0 (sPart1 (sName _))) (sLst (sCons (sIxN (sName _)) sNil))) (sSl (sName _) (sPart1 (sName _)) sPart0)) (sCons (sOp2 op_pu2 (sSl (sName _) (sPart1 (sName _)) sPart0) (sSl (sName _) sPart0 (sPart1 (sName _)))) sNil)))) (sOp2 op_pu2 (sName _) (sVal _))) (sLst (sCons (sLst (sCons (sVal _) sNil)) sNil)))))))))))
/-- law -/
def pb21 (P Pm : PFns) : PT :=
  (pSeq (pAsgO 1 1 (pCall P 11 (pASlot 0 (pAVal (pD (pVal (.int 0))) (pAVal (pD (pVal (.int 2))) (pAVal (pD (pVal (.int 720))) pANil))))))
    (pSeq (pAsgO 1 2 (pCall P 13 (pASlot 0 (pAVal (pD (pVal (.int 1))) (pAVal (pD (pVal (.int 300))) pANil)))))
    (pSeq (pAsgO 1 3 (pCall P 14 (pASlot 2 (pAVal (pD (pOp2 modD (pIx (rName 1) (pVal (.int 0))) (pVal (.int 4)))) pANil))))
    (pSeq (pAsgO 1 4 (pCall P 15 (pASlot 3 pANil)))
    (pSeq (pIte (pOrT (pNotT (pToB (pDat (pCall P 9 (pAVal (pCall P 1 (pASlot 3 pANil)) (pAVal (pD (pMth "str" joinD (pVal (.str "\n")) (pCons (pLc (pItems (pName 4)) [8] (pgN 0 8) pTrue (pMth "str" joinD (pVal (.str " ")) (pCons (pName 8) pNil))) pNil))) pANil)))))) (pNotT (pToB (pDat (pCall P 9 (pAVal (pCall P 19 (pASlot 4 pANil)) (pASlot 3 pANil))))))) (pRet (pD (pVal (.bool false)))) pSkip)
    (pSeq (pFor (pRg1 (pVal (.int 6))) (pgN 1 5) (pSeq (pAsgO 1 6 (pCall P 20 (pASlot 2 (pASlot 4 pANil))))
    (pIte (pNotT (pToB (pDat (pCall P 9 (pAVal (pCall P 19 (pASlot 6 pANil)) (pAVal (pCall P 18 (pASlot 6 pANil)) pANil)))))) (pRet (pD (pVal (.bool false)))) pSkip)))
    (pSeq (pIte (pToB (pOp2 (boolD gtD) (pOp2 modD (pIx (rName 1) (pVal (.int 1))) (pVal (.int 4))) (pVal (.int 0)))) (pRet (pD (pVal (.bool true)))) pSkip)
    (pSeq (pAsg (pgN 1 7) (pOp2 addD (pRep (pCons (pLst (pCons (pVal (.str "cases")) (pCons (pVal (.str "x")) (pCons (pVal (.str "y")) (pCons (pVal (.str "a")) pNil))))) pNil) (pOp2 addD (pVal (.int 98)) (pOp2 modD (pDat (pCall P 12 (pASlot 2 pANil))) (pVal (.int 4))))) (pLst (pCons (pLst (pCons (pVal (.str "steps")) pNil)) pNil))))
    (pRet (pCall P 9 (pAVal (pCall P 19 (pASlot 7 pANil)) (pAVal (pCall P 18 (pASlot 7 pANil)) pANil))))))))))))
theorem z21 {F Fm : Fns} {P Pm : PFns} (h : SimFs F P) (hm : SimFs Fm Pm) : SimS 1 (b21 F Fm) (pb21 P Pm) :=
  (sSeq (sAsgO (sCall (h _) (sASlot (sAVal (sD (sVal _)) (sAVal (sD (sVal _)) (sAVal (sD (sVal _)) sANil))))))
    (sSeq (sAsgO (sCall (h _) (sASlot (sAVal (sD (sVal _)) (sAVal (sD (sVal _)) sANil)))))
    (sSeq (sAsgO (sCall (h _) (sASlot (sAVal (sD (sOp2 op_pu2 (sIxN (sVal _)) (sVal _))) sANil))))
    (sSeq (sAsgO (sCall (h _) (sASlot sANil)))
    (sSeq (sIte (sOrT (sNotT (sToB (sDat (sCall (h _) (sAVal (sCall (h _) (sASlot sANil)) (sAVal (sD (sMth (sVal _) (sCons (sLc (sItems (sName _)) (sgN 0 8) (by decide) sTrue (sMth (sVal _) (sCons (sName _) sNil))) sNil))) sANil)))))) (sNotT (sToB (sDat (sCall (h _) (sAVal (sCall (h _) (sASlot sANil)) (sASlot sANil))))))) (sRet (sD (sVal _))) sSkip)
    (sSeq (sFor (sRg1 (sVal _)) (sgN 1 5) (sSeq (sAsgO (sCall (h _) (sASlot (sASlot sANil))))
    (sIte (sNotT (sToB (sDat (sCall (h _) (sAVal (sCall (h _) (sASlot sANil)) (sAVal (sCall (h _) (sASlot sANil)) sANil)))))) (sRet (sD (sVal _))) sSkip)))
    (sSeq (sIte (sToB (sOp2 op_pu2 (sOp2 op_pu2 (sIxN (sVal _)) (sVal _)) (sVal _))) (sRet (sD (sVal _))) sSkip)
    (sSeq (sAsg (sgN 1 7) (sOp2 op_pu2 (sRep (sCons (sLst (sCons (sVal _) (sCons (sVal _) (sCons (sVal _) (sCons (sVal _) sNil))))) sNil) (sOp2 op_pu2 (sVal _) (sOp2 op_pu2 (sDat (sCall (h _) (sASlot sANil))) (sVal _)))) (sLst (sCons (sLst (sCons (sVal _) sNil)) sNil))))
    (sRet (sCall (h _) (sAVal (sCall (h _) (sASlot sANil)) (sAVal (sCall (h _) (sASlot sANil)) sANil))))))))))))
def pbods (P Pm : PFns) : PFns := fun f => match f with
  | 0 => pdefn 1 6 (pb0 P Pm)
  | 1 => pdefn 1 1 (pb1 P Pm)
  | 2 => pdefn 1 3 (pb2 P Pm)
  | 3 => pdefn 2 3 (pb3 P Pm)
  | 4 => pdefn 3 4 (pb4 P Pm)
  | 5 => pdefn 2 4 (pb5 P Pm)
  | 6 => pdefn 3 6 (pb6 P Pm)
  | 7 => pdefn 2 4 (pb7 P Pm)
  | 8 => pdefn 1 3 (pb8 P Pm)
  | 9 => pdefn 2 3 (pb9 P Pm)
  | 10 => pdefn 2 3 (pb10 P Pm)
  | 11 => pdefn 4 9 (pb11 P Pm)
  | 12 => pdefn 1 1 (pb12 P Pm)
  | 13 => pdefn 3 4 (pb13 P Pm)
  | 14 => pdefn 2 7 (pb14 P Pm)
  | 15 => pdefn 1 5 (pb15 P Pm)
  | 16 => pdefn 1 3 (pb16 P Pm)
  | 17 => pdefn 3 8 (pb17 P Pm)
  | 18 => pdefn 1 3 (pb18 P Pm)
  | 19 => pdefn 1 3 (pb19 P Pm)
  | 20 => pdefn 2 7 (pb20 P Pm)
  | 21 => pdefn 1 9 (pb21 P Pm)
  | _ => fun _ => .no
theorem zbods {F Fm : Fns} {P Pm : PFns} (h : SimFs F P) (hm : SimFs Fm Pm) : SimFs (bods F Fm) (pbods P Pm) := fun f => match f with
  | 0 => sim_defn (z0 h hm)
  | 1 => sim_defn (z1 h hm)
  | 2 => sim_defn (z2 h hm)
  | 3 => sim_defn (z3 h hm)
  | 4 => sim_defn (z4 h hm)
  | 5 => sim_defn (z5 h hm)
  | 6 => sim_defn (z6 h hm)
  | 7 => sim_defn (z7 h hm)
  | 8 => sim_defn (z8 h hm)
  | 9 => sim_defn (z9 h hm)
  | 10 => sim_defn (z10 h hm)
  | 11 => sim_defn (z11 h hm)
  | 12 => sim_defn (z12 h hm)
  | 13 => sim_defn (z13 h hm)
  | 14 => sim_defn (z14 h hm)
  | 15 => sim_defn (z15 h hm)
  | 16 => sim_defn (z16 h hm)
  | 17 => sim_defn (z17 h hm)
  | 18 => sim_defn (z18 h hm)
  | 19 => sim_defn (z19 h hm)
  | 20 => sim_defn (z20 h hm)
  | 21 => sim_defn (z21 h hm)
  | n + 22 => sim_noF
def pdp : Nat → PFns × PFns
  | 0 => (fun _ _ => .no, fun _ _ => .no)
  | k + 1 => (pbods (pdp k).1 (pdp k).2, (pdp k).1)
def pd (k : Nat) : PFns := (pdp k).1
def pm (k : Nat) : PFns := (pdp k).2
theorem z_all : ∀ k, SimFs (cd k) (pd k) ∧ SimFs (cm k) (pm k)
  | 0 => ⟨fun _ => sim_noF, fun _ => sim_noF⟩
  | k + 1 => ⟨zbods (z_all k).1 (z_all k).2, (z_all k).1⟩
theorem pm_succ (k : Nat) : pm (k + 1) = pd k := rfl
theorem u0 (k : Nat) (vs : List PV) (h : vs.length = 1) : pd (k + 1) 0 vs = finP vs (pb0 (pd k) (pm k) (penter 6 vs)) := (show pd (k + 1) 0 vs = pdefn 1 6 (pb0 (pd k) (pm k)) vs from rfl).trans (pv_defn h)
theorem u1 (k : Nat) (vs : List PV) (h : vs.length = 1) : pd (k + 1) 1 vs = finP vs (pb1 (pd k) (pm k) (penter 1 vs)) := (show pd (k + 1) 1 vs = pdefn 1 1 (pb1 (pd k) (pm k)) vs from rfl).trans (pv_defn h)
theorem u2 (k : Nat) (vs : List PV) (h : vs.length = 1) : pd (k + 1) 2 vs = finP vs (pb2 (pd k) (pm k) (penter 3 vs)) := (show pd (k + 1) 2 vs = pdefn 1 3 (pb2 (pd k) (pm k)) vs from rfl).trans (pv_defn h)
theorem u3 (k : Nat) (vs : List PV) (h : vs.length = 2) : pd (k + 1) 3 vs = finP vs (pb3 (pd k) (pm k) (penter 3 vs)) := (show pd (k + 1) 3 vs = pdefn 2 3 (pb3 (pd k) (pm k)) vs from rfl).trans (pv_defn h)
theorem u4 (k : Nat) (vs : List PV) (h : vs.length = 3) : pd (k + 1) 4 vs = finP vs (pb4 (pd k) (pm k) (penter 4 vs)) := (show pd (k + 1) 4 vs = pdefn 3 4 (pb4 (pd k) (pm k)) vs from rfl).trans (pv_defn h)
theorem u5 (k : Nat) (vs : List PV) (h : vs.length = 2) : pd (k + 1) 5 vs = finP vs (pb5 (pd k) (pm k) (penter 4 vs)) := (show pd (k + 1) 5 vs = pdefn 2 4 (pb5 (pd k) (pm k)) vs from rfl).trans (pv_defn h)
theorem u6 (k : Nat) (vs : List PV) (h : vs.length = 3) : pd (k + 1) 6 vs = finP vs (pb6 (pd k) (pm k) (penter 6 vs)) := (show pd (k + 1) 6 vs = pdefn 3 6 (pb6 (pd k) (pm k)) vs from rfl).trans (pv_defn h)
theorem u7 (k : Nat) (vs : List PV) (h : vs.length = 2) : pd (k + 1) 7 vs = finP vs (pb7 (pd k) (pm k) (penter 4 vs)) := (show pd (k + 1) 7 vs = pdefn 2 4 (pb7 (pd k) (pm k)) vs from rfl).trans (pv_defn h)
theorem u8 (k : Nat) (vs : List PV) (h : vs.length = 1) : pd (k + 1) 8 vs = finP vs (pb8 (pd k) (pm k) (penter 3 vs)) := (show pd (k + 1) 8 vs = pdefn 1 3 (pb8 (pd k) (pm k)) vs from rfl).trans (pv_defn h)
theorem u9 (k : Nat) (vs : List PV) (h : vs.length = 2) : pd (k + 1) 9 vs = finP vs (pb9 (pd k) (pm k) (penter 3 vs)) := (show pd (k + 1) 9 vs = pdefn 2 3 (pb9 (pd k) (pm k)) vs from rfl).trans (pv_defn h)
theorem u10 (k : Nat) (vs : List PV) (h : vs.length = 2) : pd (k + 1) 10 vs = finP vs (pb10 (pd k) (pm k) (penter 3 vs)) := (show pd (k + 1) 10 vs = pdefn 2 3 (pb10 (pd k) (pm k)) vs from rfl).trans (pv_defn h)
theorem u11 (k : Nat) (vs : List PV) (h : vs.length = 4) : pd (k + 1) 11 vs = finP vs (pb11 (pd k) (pm k) (penter 9 vs)) := (show pd (k + 1) 11 vs = pdefn 4 9 (pb11 (pd k) (pm k)) vs from rfl).trans (pv_defn h)
theorem u12 (k : Nat) (vs : List PV) (h : vs.length = 1) : pd (k + 1) 12 vs = finP vs (pb12 (pd k) (pm k) (penter 1 vs)) := (show pd (k + 1) 12 vs = pdefn 1 1 (pb12 (pd k) (pm k)) vs from rfl).trans (pv_defn h)
theorem u13 (k : Nat) (vs : List PV) (h : vs.length = 3) : pd (k + 1) 13 vs = finP vs (pb13 (pd k) (pm k) (penter 4 vs)) := (show pd (k + 1) 13 vs = pdefn 3 4 (pb13 (pd k) (pm k)) vs from rfl).trans (pv_defn h)
theorem u14 (k : Nat) (vs : List PV) (h : vs.length = 2) : pd (k + 1) 14 vs = finP vs (pb14 (pd k) (pm k) (penter 7 vs)) := (show pd (k + 1) 14 vs = pdefn 2 7 (pb14 (pd k) (pm k)) vs from rfl).trans (pv_defn h)
theorem u15 (k : Nat) (vs : List PV) (h : vs.length = 1) : pd (k + 1) 15 vs = finP vs (pb15 (pd k) (pm k) (penter 5 vs)) := (show pd (k + 1) 15 vs = pdefn 1 5 (pb15 (pd k) (pm k)) vs from rfl).trans (pv_defn h)
theorem u16 (k : Nat) (vs : List PV) (h : vs.length = 1) : pd (k + 1) 16 vs = finP vs (pb16 (pd k) (pm k) (penter 3 vs)) := (show pd (k + 1) 16 vs = pdefn 1 3 (pb16 (pd k) (pm k)) vs from rfl).trans (pv_defn h)
theorem u17 (k : Nat) (vs : List PV) (h : vs.length = 3) : pd (k + 1) 17 vs = finP vs (pb17 (pd k) (pm k) (penter 8 vs)) := (show pd (k + 1) 17 vs = pdefn 3 8 (pb17 (pd k) (pm k)) vs from rfl).trans (pv_defn h)
theorem u18 (k : Nat) (vs : List PV) (h : vs.length = 1) : pd (k + 1) 18 vs = finP vs (pb18 (pd k) (pm k) (penter 3 vs)) := (show pd (k + 1) 18 vs = pdefn 1 3 (pb18 (pd k) (pm k)) vs from rfl).trans (pv_defn h)
theorem u19 (k : Nat) (vs : List PV) (h : vs.length = 1) : pd (k + 1) 19 vs = finP vs (pb19 (pd k) (pm k) (penter 3 vs)) := (show pd (k + 1) 19 vs = pdefn 1 3 (pb19 (pd k) (pm k)) vs from rfl).trans (pv_defn h)
theorem u20 (k : Nat) (vs : List PV) (h : vs.length = 2) : pd (k + 1) 20 vs = finP vs (pb20 (pd k) (pm k) (penter 7 vs)) := (show pd (k + 1) 20 vs = pdefn 2 7 (pb20 (pd k) (pm k)) vs from rfl).trans (pv_defn h)
theorem u21 (k : Nat) (vs : List PV) (h : vs.length = 1) : pd (k + 1) 21 vs = finP vs (pb21 (pd k) (pm k) (penter 9 vs)) := (show pd (k + 1) 21 vs = pdefn 1 9 (pb21 (pd k) (pm k)) vs from rfl).trans (pv_defn h)
theorem p_law {D : Nat} {ns : List Int} {ws : List PV} (h : pd D 21 [.d (.list (ns.map .int))] = .ok (.d (.bool true)) ws) : ∃ S, cd D 21 [.d (.list (ns.map .int))] [] = .ok (.d (.bool true)) S := law_run (z_all D).1 h
end K67

/-! the words, and how a text is read -/
namespace Q67
open K67
open PySem PySem.Spec L2 Ev Lx Ly Pv Lp
def V : List Str := ["steps", "cases", ";", "", "x", "x-y", "W", "1", "y", "a1", "m", "WW", "ii", "OO", "a"]
def pw (w : Str) : Bool := !(w == ";" || w == "" || w == "x-y")
theorem pw2_all (k : Nat) : V.map (fun w => pd (k + 1) 2 [.d (.str w)]) = V.map fun w => .ok (.d (.bool (pw w))) [.d (.str w)] := by kernel_rfl
theorem pw16_all (k : Nat) : V.map (fun w => pd (k + 1) 16 [.d (.str w)]) = V.map fun w => .ok (.d (.bool (pw w))) [.d (.str w)] := by kernel_rfl
theorem pw2 (k : Nat) {w : Str} (h : w ∈ V) : pd (k + 1) 2 [.d (.str w)] = .ok (.d (.bool (pw w))) [.d (.str w)] := List.map_inj_left.mp (pw2_all k) w h
theorem pw16 (k : Nat) {w : Str} (h : w ∈ V) : pd (k + 1) 16 [.d (.str w)] = .ok (.d (.bool (pw w))) [.d (.str w)] := List.map_inj_left.mp (pw16_all k) w h
def lS (ws : List Str) : PyData := .list (ws.map .str)
def lD (L : List (List Str)) : PyData := .list (L.map lS)
/-- lines whose words are known -/
structure OkW (ws : List Str) : Prop where
  ne : ws ≠ []
  mem : ∀ w ∈ ws, w ∈ V
  len : ws.length ≤ 1000
structure OkL (L : List (List Str)) : Prop where
  ws : ∀ w ∈ L, OkW w
  len : L.length ≤ 1000
/-- the first place, from i on, at which a word is not as ok says -/
def bad (ok : Nat → Str → Bool) : Nat → List Str → Option Nat
  | _, [] => none
  | i, w :: r => if ok i w = true then bad ok (i + 1) r else some i
def okS (i : Nat) (w : Str) : Bool := if i % 4 = 0 then w == ";" else pw w
def errS (ws : List Str) : Option Nat := match bad okS 1 ws.tail with
  | some i => some i
  | none => if ws.length > 1 ∧ ws.length % 4 ≠ 0 then some ws.length else none
def errC (ws : List Str) : Option Nat := match bad (fun _ w => pw w) 1 ws.tail with
  | some i => some i
  | none => if ws.length < 4 then some ws.length else none
def trips : List Str → List PyData
  | a :: b :: c :: _ :: r => .tuple [.str a, .str b, .str c] :: trips r
  | [a, b, c] => [.tuple [.str a, .str b, .str c]]
  | _ => []
abbrev Rd := Sum (Nat × Nat) (PyData × Nat)
def rdRows (f : Nat → Rd) : List Str → Nat → List PyData → Sum (Nat × Nat) (List PyData × Nat)
  | [], at_, acc => .inr (acc, at_)
  | w :: ws, at_, acc => match f at_ with
    | .inl e => .inl e
    | .inr (d, at2) => rdRows f ws at2 (acc ++ [.tuple [.str w, d]])
/-- a line read, f the reading of what stands within -/
def rdW (f : Nat → Rd) (i : Nat) (ws : List Str) : Rd :=
  if ws.headD "" = "steps" then
    match errS ws with
    | some j => .inl (i, j)
    | none => .inr (.tuple [.str "steps", .list (trips ws.tail)], i + 1)
  else if ws.headD "" = "cases" then
    match errC ws with
    | some j => .inl (i, j)
    | none => match rdRows f (ws.drop 3) (i + 1) [] with
      | .inl e => .inl e
      | .inr (rows, at2) => .inr (.tuple [.str "cases", .str (ws.getD 1 ""), .str (ws.getD 2 ""), .list rows], at2)
  else .inl (i, 0)
/-- the reading: m more cases may stand within -/
def rd (L : List (List Str)) : Nat → Nat → Rd
  | 0, i => match L[i]? with
    | none => .inl (L.length, 0)
    | some _ => .inl (i, 0)
  | m + 1, i => match L[i]? with
    | none => .inl (L.length, 0)
    | some ws => rdW (rd L m) i ws
theorem rd_none {L : List (List Str)} {m i : Nat} (h : L[i]? = none) : rd L m i = .inl (L.length, 0) := by
  cases m <;> unfold rd <;> rw [h]
theorem rd_zero {L : List (List Str)} {i : Nat} {ws : List Str} (h : L[i]? = some ws) : rd L 0 i = .inl (i, 0) := by
  unfold rd; rw [h]
theorem rd_succ {L : List (List Str)} {m i : Nat} {ws : List Str} (h : L[i]? = some ws) : rd L (m + 1) i = rdW (rd L m) i ws := by
  conv => lhs; unfold rd
  rw [h]
theorem rdW_s {f : Nat → Rd} {i : Nat} {ws : List Str} (h : ws.headD "" = "steps") : rdW f i ws = match errS ws with
    | some j => .inl (i, j)
    | none => .inr (.tuple [.str "steps", .list (trips ws.tail)], i + 1) := if_pos h
theorem rdW_c {f : Nat → Rd} {i : Nat} {ws : List Str} (h : ws.headD "" = "cases") : rdW f i ws = match errC ws with
    | some j => .inl (i, j)
    | none => match rdRows f (ws.drop 3) (i + 1) [] with
      | .inl e => .inl e
      | .inr (rows, at2) => .inr (.tuple [.str "cases", .str (ws.getD 1 ""), .str (ws.getD 2 ""), .list rows], at2) := by
  unfold rdW
  rw [if_neg (by rw [h]; decide), if_pos h]
theorem rdW_n {f : Nat → Rd} {i : Nat} {ws : List Str} (h1 : ws.headD "" ≠ "steps") (h2 : ws.headD "" ≠ "cases") : rdW f i ws = .inl (i, 0) := by
  unfold rdW
  rw [if_neg h1, if_neg h2]
/-! ### words in lists -/
theorem at_word {ws : List Str} {i : Nat} (h : i < ws.length) : ixP (.d (lS ws)) (.int i) = some (.d (.str ws[i])) := by
  show (atI (ws.map PyData.str) (i : Int)).map PV.d = _
  rw [atI_n (by rw [List.length_map]; exact h), List.getElem?_map, List.getElem?_eq_getElem h]
  rfl
theorem at_line {L : List (List Str)} {i : Nat} {ws : List Str} (h : L[i]? = some ws) : ixP (.d (lD L)) (.int i) = some (.d (lS ws)) := by
  show (atI (L.map lS) (i : Int)).map PV.d = _
  rw [atI_n (by rw [List.length_map]; exact (List.getElem?_eq_some_iff.mp h).1), List.getElem?_map, h]
  rfl
@[simp] theorem len_lS (ws : List Str) : lenP (.d (lS ws)) = some (.int ws.length) := by
  show some (PyData.int ((ws.map PyData.str).length : Nat)) = _
  rw [List.length_map]
@[simp] theorem len_lD (L : List (List Str)) : lenP (.d (lD L)) = some (.int L.length) := by
  show some (PyData.int ((L.map lS).length : Nat)) = _
  rw [List.length_map]
theorem sl_lS (ws : List Str) (lo hi : Option Int) : slD (lS ws) lo hi = some (.list (cutL (ws.map .str) lo hi)) := rfl
def natOf : PyData → Nat := fun d => match d with
  | .int i => i.toNat
  | _ => 0
@[simp] theorem natOf_i (j : Nat) : natOf (.int (j : Int)) = j := by simp [natOf]
theorem rg_from {i n : Nat} (h : n ≤ 1000000) (hi : i ≤ n) : rgI (.int i) (.int n) = some ((List.range' i (n - i)).map fun n : Nat => PyData.int n) := by
  have e : (rgL (i : Int) (n : Int)).map PyData.int = (List.range' i (n - i)).map fun n : Nat => PyData.int n := by
    unfold rgL
    rw [List.map_map, List.range'_eq_map_range, List.map_map]
    have e : ((n : Int) - (i : Int)).toNat = n - i := by omega
    rw [e]
    refine List.map_congr_left fun j _ => ?_
    show PyData.int ((i : Int) + (j : Int)) = PyData.int ((i + j : Nat) : Int)
    simp
  rw [← e]
  exact ev_rgI (by simp [rgOk]; omega)
/-- find? over places, and bad -/
theorem find_bad (ok : Nat → Str → Bool) (b : PyData → Bool) : ∀ (r : List Str) (i : Nat), (∀ j (h : j < r.length), b (.int ((i + j : Nat) : Int)) = !ok (i + j) r[j]) →
    ((List.range' i r.length).map fun n : Nat => PyData.int n).find? b = (bad ok i r).map fun n : Nat => PyData.int n
  | [], i, _ => rfl
  | w :: r, i, h => by
    have h0 := h 0 (by simp)
    simp only [Nat.add_zero, List.getElem_cons_zero] at h0
    have ih := find_bad ok b r (i + 1) fun j hj => by
      have := h (j + 1) (by simp; omega)
      rw [show i + 1 + j = i + (j + 1) by omega]
      simpa using this
    show ((i :: List.range' (i + 1) r.length).map fun n : Nat => PyData.int n).find? b = _
    rw [List.map_cons, List.find?_cons, h0]
    unfold bad
    cases hk : ok i w with
    | true => simpa [hk] using ih
    | false => simp [hk]
/-- the places of a line's words behind the first -/
def plc (ws : List Str) : List PyData := (List.range' 1 (ws.length - 1)).map fun n : Nat => PyData.int n
theorem rg_plc {ws : List Str} (h : OkW ws) : rgI (.int 1) (.int ws.length) = some (plc ws) := by
  have hl := List.length_pos_iff.mpr h.ne
  have hz := h.len
  exact rg_from (i := 1) (n := ws.length) (by omega) (by omega)
theorem plc_mem {ws : List Str} {x : PyData} (h : x ∈ plc ws) : ∃ j, 1 ≤ j ∧ ∃ hj : j < ws.length, x = .int j := by
  obtain ⟨j, hj, rfl⟩ := List.mem_map.mp h
  obtain ⟨h1, h2⟩ := List.mem_range'_1.mp hj
  exact ⟨j, h1, by omega, rfl⟩
/-- whether the word at a place is not as ok says -/
def badB (ok : Nat → Str → Bool) (ws : List Str) (x : PyData) : Bool := !ok (natOf x) (ws.getD (natOf x) "")
theorem badB_at {ok : Nat → Str → Bool} {ws : List Str} {j : Nat} (hj : j < ws.length) : badB ok ws (.int j) = !ok j ws[j] := by
  unfold badB
  rw [natOf_i, List.getD_eq_getElem?_getD, List.getElem?_eq_getElem hj]
  rfl
theorem find_plc (ok : Nat → Str → Bool) {ws : List Str} (h : OkW ws) : (plc ws).find? (badB ok ws) = (bad ok 1 ws.tail).map fun n : Nat => PyData.int n := by
  have e : (plc ws) = (List.range' 1 ws.tail.length).map fun n : Nat => PyData.int n := by rw [List.length_tail]; rfl
  rw [e]
  refine find_bad ok _ ws.tail 1 fun j hj => ?_
  rw [List.length_tail] at hj
  rw [badB_at (by omega), List.getElem_tail]
  have : 1 + j = j + 1 := by omega
  simp only [this]
abbrev hW (P : PFns) (n : Nat) : Prop := ∀ (w : Str), w ∈ V → P n [.d (.str w)] = .ok (.d (.bool (pw w))) [.d (.str w)]
/-- a loop over a line's places: it leaves as r says -/
theorem lp_line {np i : Nat} {body : PT} {ok : Nat → Str → Bool} {ws : List Str} (h : OkW ws) (Lq : Option PV → PL) (r : Nat → PS) (hr : ∀ j, leaves (r j) = true)
    (hb : ∀ (j : Nat) (hj : j < ws.length) (o : Option PV), ∃ pl1, pgN np i (.int j) (Lq o) = some pl1 ∧ body pl1 = if ok j ws[j] = true then .nx (Lq (some (.d (.int j)))) else r j) (o : Option PV) :
    (match bad ok 1 ws.tail with
      | some j => ploopF (pgN np i) body (plc ws) (Lq o) = r j
      | none => ∃ o', ploopF (pgN np i) body (plc ws) (Lq o) = .nx (Lq o')) := by
  have lf := loop_find (g := pgN np i) (body := body) Lq (badB ok ws) (fun x => r (natOf x)) (fun x => hr _) (plc ws) (fun x hx o => by
    obtain ⟨j, j1, jl, rfl⟩ := plc_mem hx
    obtain ⟨pl1, e1, e2⟩ := hb j jl o
    refine ⟨pl1, e1, ?_⟩
    rw [badB_at jl, e2, natOf_i]
    cases ok j ws[j] <;> rfl) o
  rw [find_plc ok h] at lf
  cases hb2 : bad ok 1 ws.tail with
  | some j => rw [hb2] at lf; simpa using lf
  | none => rw [hb2] at lf; exact lf
/-! ### the law's own reading -/
theorem rng4 {n : Nat} (h : n ≤ 1000) (h4 : n = 1 ∨ n % 4 = 0 ∧ 0 < n) : rgC (.int 1) (.int n) (.int 4) = some ((List.range (n / 4)).map fun j : Nat => PyData.int (1 + (j : Int) * 4)) := by
  have e : Builtin.Range.rangeSize 1 (n : Int) 4 = ((n / 4 : Nat) : Int) := by
    unfold Builtin.Range.rangeSize
    rw [if_pos (by decide)]
    rcases h4 with rfl | ⟨h4, h0⟩
    · rfl
    · rw [if_pos (by omega)]
      omega
  show (if (4 : Int) ≠ 0 ∧ (4 : Int).natAbs < 1073741824 ∧ Builtin.Range.small 1 n 4 = true ∧ 0 ≤ Builtin.Range.rangeSize 1 n 4 then some ((List.range (Builtin.Range.rangeSize 1 n 4).toNat).map fun j : Nat => PyData.int (1 + (j : Int) * 4)) else none) = _
  rw [e, if_pos, Int.toNat_natCast]
  refine ⟨by decide, by decide, ?_, by omega⟩
  unfold Builtin.Range.small Builtin.Range.rangeFitsLong
  rw [e]
  simp
  omega
/-- the words from a place on, three by three -/
theorem trips_eq : ∀ (r : List Str) (pre : List Str), (r.length = 0 ∨ (r.length + 1) % 4 = 0) → (pre.length + 3) % 4 = 0 →
    ((List.range ((r.length + 1) / 4)).map fun j : Nat => PyData.tuple ((((pre ++ r).map PyData.str).drop (pre.length + j * 4)).take 3)) = trips r
  | [], pre, _, _ => rfl
  | [a], pre, h, _ => by simp at h
  | [a, b], pre, h, _ => by simp at h
  | [a, b, c], pre, _, _ => by
    have e1 : ([a, b, c].length + 1) / 4 = 1 := by simp
    rw [e1]
    show [PyData.tuple ((((pre ++ [a, b, c]).map PyData.str).drop (pre.length + 0 * 4)).take 3)] = _
    rw [List.map_append, Nat.zero_mul, Nat.add_zero, List.drop_append_of_le_length (by simp), List.drop_of_length_le (by simp)]
    rfl
  | a :: b :: c :: d :: r, pre, h, hp => by
    have h2 : (r.length + 1) % 4 = 0 := by simp only [List.length_cons] at h; omega
    have ih := trips_eq r (pre ++ [a, b, c, d]) (.inr h2) (by simp; omega)
    have e1 : ((a :: b :: c :: d :: r).length + 1) / 4 = (r.length + 1) / 4 + 1 := by simp only [List.length_cons]; omega
    rw [e1, List.range_succ_eq_map, List.map_cons, List.map_map]
    unfold trips
    have e2 : pre ++ [a, b, c, d] ++ r = pre ++ a :: b :: c :: d :: r := by simp
    rw [e2] at ih
    rw [← ih]
    refine congr (congrArg List.cons ?_) ?_
    · rw [List.map_append, Nat.zero_mul, Nat.add_zero, List.drop_append_of_le_length (by simp), List.drop_of_length_le (by simp)]
      rfl
    · refine List.map_congr_left fun j _ => ?_
      show PyData.tuple (List.take 3 (List.drop (pre.length + (j + 1) * 4) _)) = PyData.tuple (List.take 3 (List.drop ((pre ++ [a, b, c, d]).length + j * 4) _))
      have e3 : pre.length + (j + 1) * 4 = (pre ++ [a, b, c, d]).length + j * 4 := by simp; omega
      rw [e3]
def out : Rd → PyData
  | .inl (a, b) => .tuple [.none, .list [.int a, .int b]]
  | .inr (d, i) => .tuple [d, .int i]
theorem rd_tup {L : List (List Str)} {m i : Nat} {d : PyData} {j : Nat} (h : rd L m i = .inr (d, j)) : ∃ xs, d = .tuple xs := by
  cases hi : L[i]? with
  | none => rw [rd_none hi] at h; cases h
  | some ws =>
    cases m with
    | zero => rw [rd_zero hi] at h; cases h
    | succ m =>
      rw [rd_succ hi] at h
      unfold rdW at h
      split at h
      · split at h
        · cases h
        · cases h; exact ⟨_, rfl⟩
      · split at h
        · split at h
          · cases h
          · split at h
            · cases h
            · cases h; exact ⟨_, rfl⟩
        · cases h
def hd2 (w : Str) : Bool := !(w == "steps" || w == "cases")
theorem nin2_all : V.map (fun w => inD (.str w) (.tuple [.str "steps", .str "cases"])) = V.map fun w => some (!hd2 w) := by kernel_rfl
theorem nin2 {w : Str} (h : w ∈ V) : inD (.str w) (.tuple [.str "steps", .str "cases"]) = some (!hd2 w) := List.map_inj_left.mp nin2_all w h
theorem lc_trips {ws : List Str} (h : OkW ws) (h4 : ws.length = 1 ∨ ws.length % 4 = 0 ∧ 0 < ws.length) {x0 x1 x2 x5 x6 x7 : Option PV} :
    pcompF [4] (pgN 0 4) pTrue (pputE (pCallB (p1 tupleD) (pCons (pSl (pName 3) (pPart (some (pName 4))) (pPart (some (pOp2 addD (pName 4) (pVal (.int 3)))))) pNil))) ((List.range (ws.length / 4)).map fun j : Nat => PyData.int (1 + (j : Int) * 4)) []
      [x0, x1, x2, some (.d (lS ws)), none, x5, x6, x7] = .ok (trips ws.tail) [x0, x1, x2, some (.d (lS ws)), none, x5, x6, x7] := by
  have hl := List.length_pos_iff.mpr h.ne
  have tr := trips_eq ws.tail [ws[0]] (by rw [List.length_tail]; omega) (by simp)
  have e1 : [ws[0]] ++ ws.tail = ws := by cases ws with | nil => cases hl | cons a r => rfl
  have e2 : (ws.tail.length + 1) / 4 = ws.length / 4 := by rw [show ws.tail.length + 1 = ws.length by rw [List.length_tail]; omega]
  rw [e1, e2] at tr
  rw [← tr]
  refine comp_mapE (fun j : Nat => PyData.int (1 + (j : Int) * 4)) _ _ (by rw [List.length_range]; have := h.len; omega) fun j hj => ⟨_, rfl, rfl, ?_⟩
  have hj2 := List.mem_range.mp hj
  have cm := cut_mid (ws.map PyData.str) (1 + j * 4) (1 + j * 4 + 3) (by rw [List.length_map]; omega)
  rw [show 1 + j * 4 + 3 - (1 + j * 4) = 3 by omega] at cm
  have en : (1 + (j : Int) * 4) = ((1 + j * 4 : Nat) : Int) := by omega
  have en3 : ((1 + j * 4 : Nat) : Int) + 3 = ((1 + j * 4 + 3 : Nat) : Int) := by omega
  rw [en]
  have ef : ((ws.map PyData.str).drop ([ws[0]].length + j * 4)).take 3 = cutL (ws.map PyData.str) (some ((1 + j * 4 : Nat) : Int)) (some ((1 + j * 4 + 3 : Nat) : Int)) := by rw [cm]; rfl
  rw [ef]
  simp -implicitDefEqProofs [-Int.natCast_ediv, -Int.natCast_add, -Int.natCast_emod, -Int.natCast_mul, en3, tupleD, sl_lS]
section
variable {P Pm : PFns} (hw : hW P 16) {L : List (List Str)} {i dd : Nat} {ws : List Str} (hi : L[i]? = some ws) (ok : OkW ws) (dp : dd < 100)
abbrev a17 (L : List (List Str)) (i dd : Nat) : List PV := [.d (lD L), .d (.int i), .d (.int dd)]
include hw hi ok dp
theorem r17s (f : Nat → Rd) (h2 : ws.headD "" = "steps") : finP (a17 L i dd) (pb17 P Pm (penter 8 (a17 L i dd))) = .ok (.d (out (rdW f i ws))) (a17 L i dd) := by
  have h1 : ¬ ((L.length : Int) ≤ (i : Int)) := by have := (List.getElem?_eq_some_iff.mp hi).1; omega
  have dp' : ¬ ((100 : Int) ≤ (dd : Int)) := by omega
  have hl := List.length_pos_iff.mpr ok.ne
  have ix := at_line hi
  have hd : ws[0] = "steps" := by rw [← h2]; cases ws with | nil => cases hl | cons a r => rfl
  have ix0 : ixP (.d (lS ws)) (.int 0) = some (.d (.str "steps")) := by rw [← hd]; exact at_word hl
  have hn : inD (.str "steps") (.tuple [.str "steps", .str "cases"]) = some true := by kernel_rfl
  have rgp := rg_plc ok
  have lf := lp_line (np := 3) (i := 4) (body := (pIte (pIf (pToB (pOp2 (boolD eqD) (pOp2 modD (pName 4) (pVal (.int 4))) (pVal (.int 0)))) (pToB (pOp2 (notD eqD) (pIx (rName 3) (pName 4)) (pVal (.str ";")))) (pNotT (pToB (pDat (pCall P 16 (pAVal (pD (pIx (rName 3) (pName 4))) pANil)))))) (pRet (pD (pTup (pCons (pVal .none) (pCons (pLst (pCons (pName 1) (pCons (pName 4) pNil))) pNil))))) pSkip)) (ok := okS) ok (fun o => [some (.d (lD L)), some (.d (.int i)), some (.d (.int dd)), some (.d (lS ws)), o, none, none, none])
    (fun j => .rt (.d (.tuple [.none, .list [.int i, .int j]])) [some (.d (lD L)), some (.d (.int i)), some (.d (.int dd)), some (.d (lS ws)), some (.d (.int j)), none, none, none]) (fun _ => rfl) (fun j hj o => ⟨_, rfl, by
      have a1 := at_word hj
      have a2 := hw ws[j] (ok.mem _ (List.getElem_mem hj))
      have md : modD (.int (j : Int)) (.int 4) = some (.int ((j : Int) % 4)) := ev_modI (by decide)
      unfold okS
      generalize ws[j] = w at *
      by_cases h4 : j % 4 = 0
      · have h4' : (j : Int) % 4 = 0 := by omega
        rw [if_pos h4]
        by_cases h5 : w = ";"
        · subst h5
          simp -implicitDefEqProofs [-Int.natCast_ediv, -Int.natCast_add, -Int.natCast_emod, -Int.natCast_mul, md, h4', a1]
        · simp -implicitDefEqProofs [-Int.natCast_ediv, -Int.natCast_add, -Int.natCast_emod, -Int.natCast_mul, md, h4', a1, h5]
      · have h4' : ¬ ((j : Int) % 4 = 0) := by omega
        rw [if_neg h4]
        cases h5 : pw w <;> rw [h5] at a2 <;> simp -implicitDefEqProofs [-Int.natCast_ediv, -Int.natCast_add, -Int.natCast_emod, -Int.natCast_mul, md, h4', a1, a2]⟩) none
  have md : modD (.int (ws.length : Int)) (.int 4) = some (.int ((ws.length : Int) % 4)) := ev_modI (by decide)
  rw [rdW_s h2]
  unfold errS
  cases hb : bad okS 1 ws.tail with
  | some j =>
    simp only [hb] at lf ⊢
    unfold pb17
    simp -implicitDefEqProofs [-Int.natCast_ediv, -Int.natCast_add, -Int.natCast_emod, -Int.natCast_mul, h1, ix, dp', ix0, hn, rgp, lf, out]
  | none =>
    simp only [hb] at lf ⊢
    obtain ⟨o, lf⟩ := lf
    by_cases h5 : ws.length > 1 ∧ ws.length % 4 ≠ 0
    · have h51 : (1 : Int) < (ws.length : Int) := by omega
      have h52 : ¬ ((ws.length : Int) % 4 = 0) := by omega
      simp only [if_pos h5]
      unfold pb17
      simp -implicitDefEqProofs [-Int.natCast_ediv, -Int.natCast_add, -Int.natCast_emod, -Int.natCast_mul, h1, ix, dp', ix0, hn, rgp, lf, md, h51, h52, out]
    · have h4 : ws.length = 1 ∨ ws.length % 4 = 0 ∧ 0 < ws.length := by omega
      have r4 := rng4 ok.len h4
      have hlc := lc_trips ok h4 (x0 := some (.d (lD L))) (x1 := some (.d (.int i))) (x2 := some (.d (.int dd))) (x5 := none) (x6 := none) (x7 := none)
      have hi1 : (i : Int) + 1 = ((i + 1 : Nat) : Int) := by omega
      simp only [if_neg h5]
      unfold pb17
      by_cases h51 : (1 : Int) < (ws.length : Int)
      · have h52 : (ws.length : Int) % 4 = 0 := by omega
        simp -implicitDefEqProofs [-Int.natCast_ediv, -Int.natCast_add, -Int.natCast_emod, -Int.natCast_mul, h1, ix, dp', ix0, hn, rgp, lf, md, h51, h52, r4, hlc, out, hi1]
      · simp -implicitDefEqProofs [-Int.natCast_ediv, -Int.natCast_add, -Int.natCast_emod, -Int.natCast_mul, h1, ix, dp', ix0, hn, rgp, lf, md, h51, r4, hlc, out, hi1]
theorem r17n (f : Nat → Rd) (h2 : ws.headD "" ≠ "steps") (h3 : ws.headD "" ≠ "cases") : finP (a17 L i dd) (pb17 P Pm (penter 8 (a17 L i dd))) = .ok (.d (out (rdW f i ws))) (a17 L i dd) := by
  have h1 : ¬ ((L.length : Int) ≤ (i : Int)) := by have := (List.getElem?_eq_some_iff.mp hi).1; omega
  have dp' : ¬ ((100 : Int) ≤ (dd : Int)) := by omega
  have hl := List.length_pos_iff.mpr ok.ne
  have ix := at_line hi
  have hd : ws.headD "" = ws[0] := by cases ws with | nil => cases hl | cons a r => rfl
  have ix0 : ixP (.d (lS ws)) (.int 0) = some (.d (.str ws[0])) := at_word hl
  have hn := nin2 (ok.mem ws[0] (List.getElem_mem hl))
  have hn2 : hd2 ws[0] = true := by
    have a1 : ¬ (ws[0] = "steps") := by rw [← hd]; exact h2
    have a2 : ¬ (ws[0] = "cases") := by rw [← hd]; exact h3
    unfold hd2
    simp [a1, a2]
  rw [hn2] at hn
  rw [rdW_n h2 h3]
  unfold pb17
  generalize ws[0] = w0 at *
  simp -implicitDefEqProofs [-Int.natCast_ediv, -Int.natCast_add, -Int.natCast_emod, -Int.natCast_mul, h1, ix, dp', ix0, hn, out]
omit hw
theorem r17c {m : Nat} (hw : hW P 16) (hrec : ∀ (i : Nat), P 17 (a17 L i (dd + 1)) = .ok (.d (out (rd L m i))) (a17 L i (dd + 1))) (h2 : ws.headD "" = "cases") : finP (a17 L i dd) (pb17 P Pm (penter 8 (a17 L i dd))) = .ok (.d (out (rdW (rd L m) i ws))) (a17 L i dd) := by
  have h1 : ¬ ((L.length : Int) ≤ (i : Int)) := by have := (List.getElem?_eq_some_iff.mp hi).1; omega
  have dp' : ¬ ((100 : Int) ≤ (dd : Int)) := by omega
  have hl := List.length_pos_iff.mpr ok.ne
  have ix := at_line hi
  have hd : ws[0] = "cases" := by rw [← h2]; cases ws with | nil => cases hl | cons a r => rfl
  have ix0 : ixP (.d (lS ws)) (.int 0) = some (.d (.str "cases")) := by rw [← hd]; exact at_word hl
  have hn : inD (.str "cases") (.tuple [.str "steps", .str "cases"]) = some true := by kernel_rfl
  have ns : ¬ (("cases" : Str) = "steps") := by decide
  have rgp := rg_plc ok
  have lf := lp_line (np := 3) (i := 4) (body := (pIte (pNotT (pToB (pDat (pCall P 16 (pAVal (pD (pIx (rName 3) (pName 4))) pANil))))) (pRet (pD (pTup (pCons (pVal .none) (pCons (pLst (pCons (pName 1) (pCons (pName 4) pNil))) pNil))))) pSkip)) (ok := fun _ w => pw w) ok (fun o => [some (.d (lD L)), some (.d (.int i)), some (.d (.int dd)), some (.d (lS ws)), o, none, none, none])
    (fun j => .rt (.d (.tuple [.none, .list [.int i, .int j]])) [some (.d (lD L)), some (.d (.int i)), some (.d (.int dd)), some (.d (lS ws)), some (.d (.int j)), none, none, none]) (fun _ => rfl) (fun j hj o => ⟨_, rfl, by
      have a1 := at_word hj
      have a2 := hw ws[j] (ok.mem _ (List.getElem_mem hj))
      generalize ws[j] = w at *
      cases h5 : pw w <;> rw [h5] at a2 <;> simp -implicitDefEqProofs [-Int.natCast_ediv, -Int.natCast_add, -Int.natCast_emod, -Int.natCast_mul, a1, a2]⟩) none
  rw [rdW_c h2]
  unfold errC
  cases hb : bad (fun _ w => pw w) 1 ws.tail with
  | some j =>
    simp only [hb] at lf ⊢
    unfold pb17
    simp -implicitDefEqProofs [-Int.natCast_ediv, -Int.natCast_add, -Int.natCast_emod, -Int.natCast_mul, h1, ix, dp', ix0, hn, ns, rgp, lf, out]
  | none =>
    simp only [hb] at lf ⊢
    obtain ⟨o, lf⟩ := lf
    by_cases h5 : ws.length < 4
    · have h51 : (ws.length : Int) < 4 := by omega
      simp only [if_pos h5]
      unfold pb17
      simp -implicitDefEqProofs [-Int.natCast_ediv, -Int.natCast_add, -Int.natCast_emod, -Int.natCast_mul, h1, ix, dp', ix0, hn, ns, rgp, lf, h51, out]
    · have h51 : ¬ ((ws.length : Int) < 4) := by omega
      have hi1 : (i : Int) + 1 = ((i + 1 : Nat) : Int) := by omega
      have dc : (dd : Int) + 1 = ((dd + 1 : Nat) : Int) := by omega
      -- the rows
      have rows : ∀ (rs : List Str) (at_ : Nat) (acc : List PyData) (x6 x7 : Option PV), acc.length + rs.length ≤ 2000 →
          match rdRows (rd L m) rs at_ acc with
          | .inl (a, b) => ∃ pl, ploopF (pgN 3 6) (pSeq (pAsg (pgTup [(pgN 3 7), (pgN 3 1)]) (pDat (pCall P 17 (pASlot 0 (pASlot 1 (pAVal (pD (pOp2 addD (pName 2) (pVal (.int 1)))) pANil))))))
              (pSeq (pIte (pToB (pIsN false (rName 7))) (pRet (pD (pTup (pCons (pVal .none) (pCons (pName 1) pNil))))) pSkip)
              (pExpr (pAppend 5 (pD (pTup (pCons (pName 6) (pCons (pName 7) pNil)))))))) (rs.map .str) [some (.d (lD L)), some (.d (.int at_)), some (.d (.int dd)), some (.d (lS ws)), o, some (.lst (acc.map .d)), x6, x7] = .rt (.d (.tuple [.none, .list [.int a, .int b]])) (some (.d (lD L)) :: pl) ∧ ∃ z1 z2 r, pl = z1 :: z2 :: r
          | .inr (rows, at2) => ∃ y6 y7, ploopF (pgN 3 6) (pSeq (pAsg (pgTup [(pgN 3 7), (pgN 3 1)]) (pDat (pCall P 17 (pASlot 0 (pASlot 1 (pAVal (pD (pOp2 addD (pName 2) (pVal (.int 1)))) pANil))))))
              (pSeq (pIte (pToB (pIsN false (rName 7))) (pRet (pD (pTup (pCons (pVal .none) (pCons (pName 1) pNil))))) pSkip)
              (pExpr (pAppend 5 (pD (pTup (pCons (pName 6) (pCons (pName 7) pNil)))))))) (rs.map .str) [some (.d (lD L)), some (.d (.int at_)), some (.d (.int dd)), some (.d (lS ws)), o, some (.lst (acc.map .d)), x6, x7] = .nx [some (.d (lD L)), some (.d (.int at2)), some (.d (.int dd)), some (.d (lS ws)), o, some (.lst (rows.map .d)), y6, y7] := by
        intro rs
        induction rs with
        | nil => intro at_ acc x6 x7 _; exact ⟨x6, x7, rfl⟩
        | cons w rs ih =>
          intro at_ acc x6 x7 hz
          rw [List.length_cons] at hz
          have e := hrec at_
          have az : acc.length < 16777216 := by omega
          unfold rdRows
          cases hr : rd L m at_ with
          | inl p =>
            obtain ⟨a, b⟩ := p
            rw [hr] at e
            refine ⟨?_, ?_, ?_⟩
            rotate_left
            · show ploopF _ _ (PyData.str w :: rs.map .str) _ = _
              unfold ploopF
              simp -implicitDefEqProofs [-Int.natCast_ediv, -Int.natCast_add, -Int.natCast_emod, -Int.natCast_mul, dc, e, out]
              rfl
            · exact ⟨_, _, _, rfl⟩
          | inr p =>
            obtain ⟨d, at2⟩ := p
            rw [hr] at e
            obtain ⟨xs, rfl⟩ := rd_tup hr
            have ih := ih at2 (acc ++ [.tuple [.str w, .tuple xs]]) (some (.d (.str w))) (some (.d (.tuple xs))) (by simp; omega)
            have el : ∀ body, ploopF (pgN 3 6) body (.str w :: rs.map .str) [some (.d (lD L)), some (.d (.int at_)), some (.d (.int dd)), some (.d (lS ws)), o, some (.lst (acc.map .d)), x6, x7] = match body [some (.d (lD L)), some (.d (.int at_)), some (.d (.int dd)), some (.d (lS ws)), o, some (.lst (acc.map .d)), some (.d (.str w)), x7] with
                | .nx pl2 => ploopF (pgN 3 6) body (rs.map .str) pl2
                | .bk pl2 => .nx pl2
                | r => r := fun body => rfl
            simp only [List.map_append, List.map_cons, List.map_nil] at ih
            simp only [List.map_cons, el]
            simp -implicitDefEqProofs [-Int.natCast_ediv, -Int.natCast_add, -Int.natCast_emod, -Int.natCast_mul, dc, e, out, az]
            exact ih
      have lr := rows (ws.drop 3) (i + 1) [] none none (by rw [List.length_drop]; have := ok.len; simp; omega)
      have cf := cut_from (ws.map PyData.str) 3
      have sl : slD (lS ws) (some (3 : Int)) none = some (.list ((ws.drop 3).map .str)) := by
        rw [sl_lS, List.map_drop]
        exact congrArg (fun z => some (PyData.list z)) cf
      have w1 := at_word (ws := ws) (i := 1) (by omega)
      have w2 := at_word (ws := ws) (i := 2) (by omega)
      have g1 : ws.getD 1 "" = ws[1] := by rw [List.getD_eq_getElem?_getD, List.getElem?_eq_getElem (by omega)]; rfl
      have g2 : ws.getD 2 "" = ws[2] := by rw [List.getD_eq_getElem?_getD, List.getElem?_eq_getElem (by omega)]; rfl
      rw [← g1] at w1
      rw [← g2] at w2
      have w1' : ixP (.d (lS ws)) (.int 1) = some (.d (.str (ws.getD 1 ""))) := w1
      have w2' : ixP (.d (lS ws)) (.int 2) = some (.d (.str (ws.getD 2 ""))) := w2
      simp only [if_neg h5]
      generalize ws.getD 1 "" = g1 at *
      generalize ws.getD 2 "" = g2 at *
      generalize hdr : ws.drop 3 = dr at *
      cases hr : rdRows (rd L m) dr (i + 1) [] with
      | inl p =>
        obtain ⟨a, b⟩ := p
        simp only [hr] at lr ⊢
        obtain ⟨pl, e, z1, z2, r, rfl⟩ := lr
        rw [List.map_nil] at e
        unfold pb17
        simp -implicitDefEqProofs [-Int.natCast_ediv, -Int.natCast_add, -Int.natCast_emod, -Int.natCast_mul, h1, ix, dp', ix0, hn, ns, rgp, lf, h51, hi1, sl, e, out]
      | inr p =>
        obtain ⟨rows, at2⟩ := p
        simp only [hr] at lr ⊢
        obtain ⟨y6, y7, e⟩ := lr
        rw [List.map_nil] at e
        unfold pb17
        simp -implicitDefEqProofs [-Int.natCast_ediv, -Int.natCast_add, -Int.natCast_emod, -Int.natCast_mul, h1, ix, dp', ix0, hn, ns, rgp, lf, h51, hi1, sl, e, w1', w2', out]
end
theorem read17 {L : List (List Str)} (hL : OkL L) (k : Nat) : ∀ (m : Nat), m ≤ 100 → ∀ (i : Nat), pd (k + m + 2) 17 (a17 L i (100 - m)) = .ok (.d (out (rd L m i))) (a17 L i (100 - m)) := by
  intro m
  induction m with
  | zero =>
    intro _ i
    rw [u17 _ _ rfl]
    generalize pd (k + 0 + 1) = P at *
    unfold pb17
    cases hi : L[i]? with
    | none =>
      rw [rd_none hi]
      have h1 : ((L.length : Int) ≤ (i : Int)) := by have := List.getElem?_eq_none_iff.mp hi; omega
      simp -implicitDefEqProofs [-Int.natCast_ediv, -Int.natCast_add, -Int.natCast_emod, -Int.natCast_mul, h1, out]
    | some ws =>
      rw [rd_zero hi]
      have h1 : ¬ ((L.length : Int) ≤ (i : Int)) := by have := (List.getElem?_eq_some_iff.mp hi).1; omega
      have ix := at_line hi
      simp -implicitDefEqProofs [-Int.natCast_ediv, -Int.natCast_add, -Int.natCast_emod, -Int.natCast_mul, h1, ix, out]
  | succ m ih =>
    intro hm i
    rw [u17 _ _ rfl]
    have hrec : ∀ (i : Nat), pd (k + (m + 1) + 1) 17 (a17 L i (100 - m)) = .ok (.d (out (rd L m i))) (a17 L i (100 - m)) := ih (by omega)
    have hw : hW (pd (k + (m + 1) + 1)) 16 := fun w h => pw16 (k + (m + 1)) h
    generalize pd (k + (m + 1) + 1) = P at *
    obtain ⟨dd, hdd⟩ : ∃ dd : Nat, dd = 100 - (m + 1) := ⟨_, rfl⟩
    have hd1 : 100 - m = dd + 1 := by omega
    rw [← hdd]
    rw [hd1] at hrec
    cases hi : L[i]? with
    | none =>
      rw [rd_none hi]
      have h1 : ((L.length : Int) ≤ (i : Int)) := by have := List.getElem?_eq_none_iff.mp hi; omega
      unfold pb17
      simp -implicitDefEqProofs [-Int.natCast_ediv, -Int.natCast_add, -Int.natCast_emod, -Int.natCast_mul, h1, out]
    | some ws =>
      rw [rd_succ hi]
      have ok := hL.ws ws (List.mem_of_getElem? hi)
      by_cases h2 : ws.headD "" = "steps"
      · exact r17s hw hi ok (by omega) _ h2
      · by_cases h3 : ws.headD "" = "cases"
        · exact r17c hi ok (by omega) hw hrec h3
        · exact r17n hw hi ok (by omega) _ h2 h3
end Q67

/-! the program's reading -/
namespace Q67
open K67
open PySem PySem.Spec L2 Ev Lx Ly Pv Lp
def obF (L : List (List Str)) (i : Nat) : List (Str × PV) := [("lines", .d (lD L)), ("at", .d (.int i))]
def ob (L : List (List Str)) (i : Nat) : PV := .ins 2 (obF L i)
@[simp] theorem ob_at (L : List (List Str)) (i : Nat) : fldP fl "at" (ob L i) = some (.d (.int i)) := by kernel_rfl
@[simp] theorem ob_lines (L : List (List Str)) (i : Nat) : fldP fl "lines" (ob L i) = some (.d (lD L)) := by kernel_rfl
@[simp] theorem ob_ins (L : List (List Str)) (i : Nat) : insO (some (some (ob L i))) = some (2, obF L i) := rfl
@[simp] theorem ob_dat (L : List (List Str)) (i : Nat) : isDat (some (some (ob L i))) = false := rfl
@[simp] theorem ob_ga (L : List (List Str)) (i j : Nat) (r : List AV) (pl : PL) : gaS j r pl (some (ob L i)) = (gather r (pl.set j none)).map (ob L i :: ·) := rfl
@[simp] theorem ob_ou (L : List (List Str)) (i : Nat) (vs : List PV) (w : PV) (pl : PL) : outs (ob L i :: vs) (some w :: pl) = (outs vs pl).map (w :: ·) := rfl
@[simp] theorem ob_m1 (L : List (List Str)) (i : Nat) : (obF L i).lookup ("step" : Str) = none := by kernel_rfl
@[simp] theorem ob_m2 (L : List (List Str)) (i : Nat) : (obF L i).lookup ("steps" : Str) = none := by kernel_rfl
@[simp] theorem ob_m3 (L : List (List Str)) (i : Nat) : (obF L i).lookup ("cases" : Str) = none := by kernel_rfl
@[simp] theorem ob_m4 (L : List (List Str)) (i : Nat) : (obF L i).lookup ("bar" : Str) = none := by kernel_rfl
@[simp] theorem mt1 : mt_step 2 = some 4 := rfl
@[simp] theorem mt2 : mt_steps 2 = some 5 := rfl
@[simp] theorem mt3 : mt_cases 2 = some 6 := rfl
@[simp] theorem mt4 : mt_bar 2 = some 7 := rfl
@[simp] theorem at_in : ("at" : Str) ∈ fl 2 := by decide
@[simp] theorem obF_len (L : List (List Str)) (i : Nat) : (obF L i).length = 2 := rfl
@[simp] theorem ob_set (L : List (List Str)) (i n : Nat) : PV.ins 2 (setF "at" (.d (.int (n : Int))) (obF L i)) = ob L n := by kernel_rfl
def flt (j i : Nat) : Exn := ⟨1, [("word", .int j), ("line", .int i)]⟩
/-- groups of three words, parted by ; -/
def grp : Nat → List Str → Sum Nat (List PyData)
  | i, a :: b :: c :: s :: r => if pw a = false then .inl i else if pw b = false then .inl (i + 1) else if pw c = false then .inl (i + 2) else if s ≠ ";" then .inl (i + 3) else match grp (i + 4) r with
    | .inl e => .inl e
    | .inr ts => .inr (.tuple [.str a, .str b, .str c] :: ts)
  | i, [a, b, c] => if pw a = false then .inl i else if pw b = false then .inl (i + 1) else if pw c = false then .inl (i + 2) else .inr [.tuple [.str a, .str b, .str c]]
  | i, [a, b] => if pw a = false then .inl i else if pw b = false then .inl (i + 1) else .inl (i + 2)
  | i, [a] => if pw a = false then .inl i else .inl (i + 1)
  | i, [] => .inl i
theorem grp_eq : ∀ (i : Nat) (r : List Str), i % 4 = 1 → grp i r = match bad okS i r with
    | some j => .inl j
    | none => if (i + r.length) % 4 ≠ 0 then .inl (i + r.length) else .inr (trips r)
  | i, [], h => by simp [grp, bad, h]
  | i, [a], h => by
    have o1 : okS i a = pw a := if_neg (by omega)
    cases ha : pw a <;> simp [grp, bad, o1, ha]
    omega
  | i, [a, b], h => by
    have o1 : okS i a = pw a := if_neg (by omega)
    have o2 : okS (i + 1) b = pw b := if_neg (by omega)
    cases ha : pw a <;> cases hb : pw b <;> simp [grp, bad, o1, o2, ha, hb]
    omega
  | i, [a, b, c], h => by
    have o1 : okS i a = pw a := if_neg (by omega)
    have o2 : okS (i + 1) b = pw b := if_neg (by omega)
    have o3 : okS (i + 2) c = pw c := if_neg (by omega)
    have h4 : (i + 3) % 4 = 0 := by omega
    cases ha : pw a <;> cases hb : pw b <;> cases hc : pw c <;> simp [grp, bad, o1, o2, o3, ha, hb, hc, h4, trips]
  | i, a :: b :: c :: s :: r, h => by
    have o1 : okS i a = pw a := if_neg (by omega)
    have o2 : okS (i + 1) b = pw b := if_neg (by omega)
    have o3 : okS (i + 2) c = pw c := if_neg (by omega)
    have o4 : okS (i + 3) s = (s == ";") := if_pos (by omega)
    have ih := grp_eq (i + 4) r (by omega)
    have hl : i + 4 + r.length = i + (a :: b :: c :: s :: r).length := by simp only [List.length_cons]; omega
    rw [hl] at ih
    have eb : bad okS i (a :: b :: c :: s :: r) = if pw a = true then if pw b = true then if pw c = true then if s = ";" then bad okS (i + 4) r else some (i + 3) else some (i + 2) else some (i + 1) else some i := by
      show (if okS i a = true then if okS (i + 1) b = true then if okS (i + 2) c = true then if okS (i + 3) s = true then bad okS (i + 4) r else some (i + 3) else some (i + 2) else some (i + 1) else some i) = _
      rw [o1, o2, o3, o4]
      simp only [beq_iff_eq]
    rw [eb]
    unfold grp
    rw [ih]
    have tr : trips (a :: b :: c :: s :: r) = .tuple [.str a, .str b, .str c] :: trips r := by rw [trips]
    rw [tr]
    cases ha : pw a
    · rfl
    · cases hb : pw b
      · rfl
      · cases hc : pw c
        · rfl
        · by_cases hs : s = ";"
          · simp only [Bool.true_eq_false, if_false, if_true, hs, ne_eq, not_true_eq_false]
            cases bad okS (i + 4) r with
            | some j => rfl
            | none =>
              by_cases h0 : (i + (a :: b :: c :: s :: r).length) % 4 = 0
              · have h0' : (i + (a :: b :: c :: ";" :: r).length) % 4 = 0 := h0
                simp only [h0', if_false, not_true_eq_false]
              · have h0' : ¬ (i + (a :: b :: c :: ";" :: r).length) % 4 = 0 := h0
                simp only [h0', if_true, not_false_eq_true]
          · simp only [Bool.true_eq_false, if_false, if_true, hs, ne_eq, not_false_eq_true]
theorem grp4 (i : Nat) (a b c s : Str) (r : List Str) : grp i (a :: b :: c :: s :: r) = if pw a = false then .inl i else if pw b = false then .inl (i + 1) else if pw c = false then .inl (i + 2) else if s ≠ ";" then .inl (i + 3) else match grp (i + 4) r with
    | .inl e => .inl e
    | .inr ts => .inr (.tuple [.str a, .str b, .str c] :: ts) := by
  conv => lhs; unfold grp
theorem grp3 (i : Nat) (a b c : Str) : grp i [a, b, c] = if pw a = false then .inl i else if pw b = false then .inl (i + 1) else if pw c = false then .inl (i + 2) else .inr [.tuple [.str a, .str b, .str c]] := by
  conv => lhs; unfold grp
def chkR : Nat → List Str → Option Nat
  | i, a :: b :: c :: _ => if pw a = false then some i else if pw b = false then some (i + 1) else if pw c = false then some (i + 2) else none
  | i, [a, b] => if pw a = false then some i else if pw b = false then some (i + 1) else some (i + 2)
  | i, [a] => if pw a = false then some i else some (i + 1)
  | i, [] => some i
theorem chkR3 (i : Nat) (a b c : Str) (r : List Str) : chkR i (a :: b :: c :: r) = if pw a = false then some i else if pw b = false then some (i + 1) else if pw c = false then some (i + 2) else none := by
  conv => lhs; unfold chkR
/-- what stands at a place of a line -/
theorem at_drop {ws r : List Str} {i : Nat} (h : ws.drop i = r) (k : Nat) {w : Str} (hk : r[k]? = some w) : ixP (.d (lS ws)) (.int ((i + k : Nat) : Int)) = some (.d (.str w)) ∧ i + k < ws.length := by
  have e : ws[i + k]? = some w := by rw [← h, List.getElem?_drop] at hk; exact hk
  obtain ⟨hl, e2⟩ := List.getElem?_eq_some_iff.mp e
  exact ⟨by rw [at_word hl, e2], hl⟩
abbrev a4 (L : List (List Str)) (at_ : Nat) (ws : List Str) (i : Nat) : List PV := [ob L at_, .d (lS ws), .d (.int i)]
theorem step4 {P Pm : PFns} (hw : hW P 2) {L : List (List Str)} {ws : List Str} (h : OkW ws) {at_ i : Nat} (hi : i ≤ ws.length) :
    finP (a4 L at_ ws i) (pb4 P Pm (penter 4 (a4 L at_ ws i))) = match chkR i (ws.drop i) with
      | some j => .exc (flt j at_) (a4 L at_ ws i)
      | none => .ok (.d (.tuple [.str (ws.getD i ""), .str (ws.getD (i + 1) ""), .str (ws.getD (i + 2) "")])) (a4 L at_ ws i) := by
  have rg : rgI (.int (i : Int)) (.int ((i : Int) + 3)) = some [.int (i : Int), .int ((i + 1 : Nat) : Int), .int ((i + 2 : Nat) : Int)] := by
    have := h.len
    have e := rg_from (i := i) (n := i + 3) (by omega) (by omega)
    rw [show i + 3 - i = 3 by omega] at e
    exact e
  have i1 : (i : Int) + 1 = ((i + 1 : Nat) : Int) := by omega
  have i2 : (i : Int) + 2 = ((i + 2 : Nat) : Int) := by omega
  generalize hr : ws.drop i = r at *
  have hl : ws.length = i + r.length := by rw [← hr, List.length_drop]; omega
  have mem : ∀ w, w ∈ r → w ∈ V := fun w hm => h.mem _ (List.mem_of_mem_drop (by rw [hr]; exact hm))
  have gd : ∀ k w, r[k]? = some w → ws.getD (i + k) "" = w := fun k w e => by rw [← hr, List.getElem?_drop] at e; rw [List.getD_eq_getElem?_getD, e]; rfl
  have le : ∀ k, k < r.length → ¬ ((ws.length : Int) ≤ ((i + k : Nat) : Int)) := fun k hk => by omega
  have le2 : ∀ k, r.length ≤ k → ((ws.length : Int) ≤ ((i + k : Nat) : Int)) := fun k hk => by omega
  unfold pb4
  match r, hl, hr, mem, gd, le, le2 with
  | [], hl, hr, mem, gd, le, le2 =>
    have l0 : (ws.length : Int) ≤ (i : Int) := le2 0 (by simp)
    simp -implicitDefEqProofs [-Int.natCast_ediv, -Int.natCast_add, -Int.natCast_emod, -Int.natCast_mul, rg, ploop_cons, ploop_nil, l0, chkR, flt]
  | [a], hl, hr, mem, gd, le, le2 =>
    have l0 : ¬ (ws.length : Int) ≤ (i : Int) := le 0 (by simp)
    have l1 := le2 1 (by simp)
    have x0 : ixP (.d (lS ws)) (.int (i : Int)) = _ := (at_drop hr 0 rfl).1
    have p0 := hw a (mem a (by simp))
    unfold chkR
    cases ha : pw a <;> rw [ha] at p0 <;> simp -implicitDefEqProofs [-Int.natCast_ediv, -Int.natCast_add, -Int.natCast_emod, -Int.natCast_mul, rg, ploop_cons, ploop_nil, l0, l1, x0, p0, flt, ha]
  | [a, b], hl, hr, mem, gd, le, le2 =>
    have l0 : ¬ (ws.length : Int) ≤ (i : Int) := le 0 (by simp)
    have l1 := le 1 (by simp)
    have l2 := le2 2 (by simp)
    have x0 : ixP (.d (lS ws)) (.int (i : Int)) = _ := (at_drop hr 0 rfl).1
    have x1 := (at_drop hr 1 rfl).1
    have p0 := hw a (mem a (by simp))
    have p1 := hw b (mem b (by simp))
    unfold chkR
    cases ha : pw a <;> cases hb : pw b <;> rw [ha] at p0 <;> rw [hb] at p1 <;> simp -implicitDefEqProofs [-Int.natCast_ediv, -Int.natCast_add, -Int.natCast_emod, -Int.natCast_mul, rg, ploop_cons, ploop_nil, l0, l1, l2, x0, x1, p0, p1, flt, ha, hb]
  | a :: b :: c :: r, hl, hr, mem, gd, le, le2 =>
    have l0 : ¬ (ws.length : Int) ≤ (i : Int) := le 0 (by simp)
    have l1 := le 1 (by simp)
    have l2 := le 2 (by simp)
    have x0 : ixP (.d (lS ws)) (.int (i : Int)) = _ := (at_drop hr 0 rfl).1
    have x1 := (at_drop hr 1 rfl).1
    have x2 := (at_drop hr 2 rfl).1
    have p0 := hw a (mem a (by simp))
    have p1 := hw b (mem b (by simp))
    have p2 := hw c (mem c (by simp))
    have g0 := gd 0 a rfl
    have g1 := gd 1 b rfl
    have g2 := gd 2 c rfl
    rw [Nat.add_zero] at g0
    rw [chkR3, g0, g1, g2]
    cases ha : pw a <;> cases hb : pw b <;> cases hc : pw c <;> rw [ha] at p0 <;> rw [hb] at p1 <;> rw [hc] at p2 <;> simp -implicitDefEqProofs [-Int.natCast_ediv, -Int.natCast_add, -Int.natCast_emod, -Int.natCast_mul, rg, ploop_cons, ploop_nil, l0, l1, l2, x0, x1, x2, p0, p1, p2, i1, i2, flt, ha, hb, hc]
/-! ### the steps of a line -/
def wC : PX Bool := (pToB (pOp2 (boolD ltD) (pName 3) (pLen (rName 1))))
def wB (P : PFns) : PT := (pSeq (pIte (pToB (pOp2 (boolD gtD) (pLen (rName 2)) (pVal (.int 0)))) (pSeq (pIte (pToB (pOp2 (notD eqD) (pIx (rName 1) (pName 3)) (pVal (.str ";")))) (pRaise 1 ["line", "word"] (pCons (pRd (rFld fl "at" (rName 0))) (pCons (pName 3) pNil))) pSkip)
    (pAsg (pgN 2 3) (pOp2 addD (pName 3) (pVal (.int 1))))) pSkip)
    (pSeq (pExpr (pAppend 2 (pMeth P mt_step "step" 0 (pASlot 1 (pASlot 3 pANil)))))
    (pAsg (pgN 2 3) (pOp2 addD (pName 3) (pVal (.int 3))))))
theorem pb5_eq (P Pm : PFns) : pb5 P Pm = (pSeq (pAsgO 2 2 (pLstM pNil)) (pSeq (pAsg (pgN 2 3) (pVal (.int 1))) (pSeq (pWhile wC (wB P)) (pRet (pD (pFrz 2)))))) := rfl
abbrev wL (L : List (List Str)) (at_ : Nat) (ws : List Str) (acc : List PyData) (q : Nat) : PL := [some (ob L at_), some (.d (lS ws)), some (.lst (acc.map .d)), some (.d (.int q))]
section
variable {P : PFns} {L : List (List Str)} {ws : List Str} {at_ : Nat} (hst : ∀ (i : Nat), i ≤ ws.length → P 4 (a4 L at_ ws i) = match chkR i (ws.drop i) with
      | some j => .exc (flt j at_) (a4 L at_ ws i)
      | none => .ok (.d (.tuple [.str (ws.getD i ""), .str (ws.getD (i + 1) ""), .str (ws.getD (i + 2) "")])) (a4 L at_ ws i)) (ok : OkW ws)
theorem wC_at (acc : List PyData) (q : Nat) : wC (wL L at_ ws acc q) = .ok (decide (q < ws.length)) (wL L at_ ws acc q) := by
  unfold wC
  by_cases h : q < ws.length
  · have h' : (q : Int) < (ws.length : Int) := by omega
    simp -implicitDefEqProofs [-Int.natCast_ediv, -Int.natCast_add, -Int.natCast_emod, -Int.natCast_mul, h', h]
  · have h' : ¬ ((q : Int) < (ws.length : Int)) := by omega
    simp -implicitDefEqProofs [-Int.natCast_ediv, -Int.natCast_add, -Int.natCast_emod, -Int.natCast_mul, h', h]
theorem wB_semi {q : Nat} {s : Str} (hq : ws[q]? = some s) (hs : s ≠ ";") {acc : List PyData} (ha : acc ≠ []) : wB P (wL L at_ ws acc q) = .exc (flt q at_) (wL L at_ ws acc q) := by
  have h0 : 0 < acc.length := List.length_pos_iff.mpr ha
  obtain ⟨hj, e⟩ := List.getElem?_eq_some_iff.mp hq
  have hx := at_word hj
  rw [e] at hx
  unfold wB
  simp -implicitDefEqProofs [-Int.natCast_ediv, -Int.natCast_add, -Int.natCast_emod, -Int.natCast_mul, h0, hx, hs, flt]
include hst
/-- one turn: a step is read behind the sign -/
theorem wB_go {i q : Nat} {acc : List PyData} (hi : i ≤ ws.length) (hq : (acc = [] ∧ q = i) ∨ (acc ≠ [] ∧ i = q + 1 ∧ ws[q]? = some (";" : Str))) (hz : acc.length < 10000) :
    match chkR i (ws.drop i) with
    | some j => ∃ q', wB P (wL L at_ ws acc q) = .exc (flt j at_) (wL L at_ ws acc q')
    | none => wB P (wL L at_ ws acc q) = .nx (wL L at_ ws (acc ++ [.tuple [.str (ws.getD i ""), .str (ws.getD (i + 1) ""), .str (ws.getD (i + 2) "")]]) (i + 3)) := by
  have h4 := hst i hi
  have hz' : acc.length < 16777216 := by omega
  have i3 : (i : Int) + 3 = ((i + 3 : Nat) : Int) := by omega
  generalize ws.getD i "" = g0 at *
  generalize ws.getD (i + 1) "" = g1 at *
  generalize ws.getD (i + 2) "" = g2 at *
  unfold wB
  rcases hq with ⟨rfl, rfl⟩ | ⟨ha, rfl, hq⟩
  · cases hc : chkR q (ws.drop q) with
    | some j =>
      rw [hc] at h4
      exact ⟨q, by simp -implicitDefEqProofs [-Int.natCast_ediv, -Int.natCast_add, -Int.natCast_emod, -Int.natCast_mul, h4]⟩
    | none =>
      rw [hc] at h4
      simp -implicitDefEqProofs [-Int.natCast_ediv, -Int.natCast_add, -Int.natCast_emod, -Int.natCast_mul, h4, i3]
  · have h0 : 0 < acc.length := List.length_pos_iff.mpr ha
    have q1 : (q : Int) + 1 = ((q + 1 : Nat) : Int) := by omega
    obtain ⟨hj, e⟩ := List.getElem?_eq_some_iff.mp hq
    have hx := at_word hj
    rw [e] at hx
    cases hc : chkR (q + 1) (ws.drop (q + 1)) with
    | some j =>
      rw [hc] at h4
      exact ⟨q + 1, by simp -implicitDefEqProofs [-Int.natCast_ediv, -Int.natCast_add, -Int.natCast_emod, -Int.natCast_mul, h0, hx, q1, h4]⟩
    | none =>
      rw [hc] at h4
      simp -implicitDefEqProofs [-Int.natCast_ediv, -Int.natCast_add, -Int.natCast_emod, -Int.natCast_mul, h0, hx, q1, h4, i3, hz']
theorem lpW : ∀ (r : List Str) (i q : Nat) (acc : List PyData) (tn : Nat), ws.drop i = r → i ≤ ws.length → ((acc = [] ∧ q = i ∧ r ≠ []) ∨ (acc ≠ [] ∧ i = q + 1 ∧ ws[q]? = some (";" : Str))) → acc.length + r.length < 5000 →
    match grp i r with
    | .inl e => ∃ acc' q', ploopW wC (wB P) (tn + r.length + 3) (wL L at_ ws acc q) = .exc (flt e at_) (wL L at_ ws acc' q')
    | .inr ts => ploopW wC (wB P) (tn + r.length + 3) (wL L at_ ws acc q) = .nx (wL L at_ ws (acc ++ ts) ws.length) := by
  intro r i q acc tn hr hi hq hz
  have g := wB_go hst (q := q) (i := i) (acc := acc) hi (hq.imp (fun h => ⟨h.1, h.2.1⟩) id) (by omega)
  rw [hr] at g
  have ql : q < ws.length := by
    rcases hq with ⟨_, rfl, hne⟩ | ⟨_, _, hq⟩
    · have := List.length_pos_iff.mpr hne
      rw [← hr, List.length_drop] at this
      omega
    · exact (List.getElem?_eq_some_iff.mp hq).1
  have c := wC_at (L := L) (at_ := at_) (ws := ws) acc q
  rw [decide_eq_true ql] at c
  have out : ∀ j n, chkR i r = some j → ∃ acc' q', ploopW wC (wB P) (n + 1) (wL L at_ ws acc q) = .exc (flt j at_) (wL L at_ ws acc' q') := fun j n hj => by
    rw [hj] at g
    obtain ⟨q', g⟩ := g
    exact ⟨acc, q', while_out c g rfl⟩
  match r, hr, hq, hz, g, out with
  | [], hr, hq, hz, g, out => exact out i _ rfl
  | [a], hr, hq, hz, g, out =>
    unfold grp
    unfold chkR at out
    cases ha : pw a <;> simp only [ha, Bool.true_eq_false, if_false, if_true] at out ⊢ <;> exact out _ _ rfl
  | [a, b], hr, hq, hz, g, out =>
    unfold grp
    unfold chkR at out
    cases ha : pw a <;> cases hb : pw b <;> simp only [ha, hb, Bool.true_eq_false, if_false, if_true] at out ⊢ <;> exact out _ _ rfl
  | a :: b :: c' :: r, hr, hq, hz, g, out =>
    have hl : ws.length = i + (r.length + 3) := by
      have := congrArg List.length hr
      rw [List.length_drop] at this
      simp only [List.length_cons] at this
      omega
    rw [chkR3] at g out
    have hd : ∀ k w, (a :: b :: c' :: r)[k]? = some w → ws.getD (i + k) "" = w := fun k w e => by
      rw [← hr, List.getElem?_drop] at e
      rw [List.getD_eq_getElem?_getD, e]; rfl
    have g0 := hd 0 a rfl
    have g1 := hd 1 b rfl
    have g2 := hd 2 c' rfl
    rw [Nat.add_zero] at g0
    rw [g0, g1, g2] at g
    by_cases ha : pw a = false
    · have e2 : grp i (a :: b :: c' :: r) = .inl i := by cases r with | nil => rw [grp3, if_pos ha] | cons s r => rw [grp4, if_pos ha]
      rw [e2]
      exact out i _ (by rw [if_pos ha])
    · by_cases hb : pw b = false
      · have e2 : grp i (a :: b :: c' :: r) = .inl (i + 1) := by cases r with | nil => rw [grp3, if_neg ha, if_pos hb] | cons s r => rw [grp4, if_neg ha, if_pos hb]
        rw [e2]
        exact out _ _ (by rw [if_neg ha, if_pos hb])
      · by_cases hc : pw c' = false
        · have e2 : grp i (a :: b :: c' :: r) = .inl (i + 2) := by cases r with | nil => rw [grp3, if_neg ha, if_neg hb, if_pos hc] | cons s r => rw [grp4, if_neg ha, if_neg hb, if_pos hc]
          rw [e2]
          exact out _ _ (by rw [if_neg ha, if_neg hb, if_pos hc])
        · rw [if_neg ha, if_neg hb, if_neg hc] at g
          have step := while_go (n := tn + (a :: b :: c' :: r).length + 2) c g
          rw [show tn + (a :: b :: c' :: r).length + 3 = tn + (a :: b :: c' :: r).length + 2 + 1 by omega, step]
          cases r with
          | nil =>
            rw [grp3, if_neg ha, if_neg hb, if_neg hc]
            have hl' : ws.length = i + 3 := hl
            have c2 := wC_at (L := L) (at_ := at_) (ws := ws) (acc ++ [.tuple [.str a, .str b, .str c']]) (i + 3)
            rw [decide_eq_false (by omega)] at c2
            rw [hl']
            exact while_end c2
          | cons s r' =>
            simp only [List.length_cons] at hl hz
            have hq2 : ws[i + 3]? = some s := by
              have := congrArg (fun z => z[3]?) hr
              simpa [List.getElem?_drop] using this
            have q2 : i + 3 < ws.length := by omega
            by_cases hs : s = ";"
            · subst hs
              have hr2 : ws.drop (i + 4) = r' := by
                have := congrArg (List.drop 4) hr
                rw [List.drop_drop] at this
                simpa using this
              have ih := lpW r' (i + 4) (i + 3) (acc ++ [.tuple [.str a, .str b, .str c']]) (tn + 3) hr2 (by omega) (.inr ⟨by simp, rfl, hq2⟩) (by simp; omega)
              rw [grp4, if_neg ha, if_neg hb, if_neg hc, if_neg (by simp)]
              have et : tn + (a :: b :: c' :: ";" :: r').length + 2 = tn + 3 + r'.length + 3 := by simp only [List.length_cons]; omega
              rw [et]
              cases hg : grp (i + 4) r' with
              | inl e => rw [hg] at ih; exact ih
              | inr ts =>
                rw [hg] at ih
                simp only at ih ⊢
                rw [ih]
                simp
            · rw [grp4, if_neg ha, if_neg hb, if_neg hc, if_pos hs]
              have w := wB_semi (P := P) (L := L) (at_ := at_) hq2 hs (acc := acc ++ [.tuple [.str a, .str b, .str c']]) (by simp)
              have c2 := wC_at (L := L) (at_ := at_) (ws := ws) (acc ++ [.tuple [.str a, .str b, .str c']]) (i + 3)
              rw [decide_eq_true q2] at c2
              exact ⟨_, _, while_out (n := tn + (a :: b :: c' :: s :: r').length + 1) c2 w rfl⟩
termination_by r => r.length
end
abbrev a5 (L : List (List Str)) (at_ : Nat) (ws : List Str) : List PV := [ob L at_, .d (lS ws)]
theorem steps5 {P Pm : PFns} {L : List (List Str)} {ws : List Str} {at_ : Nat} (hst : ∀ (i : Nat), i ≤ ws.length → P 4 (a4 L at_ ws i) = match chkR i (ws.drop i) with
      | some j => .exc (flt j at_) (a4 L at_ ws i)
      | none => .ok (.d (.tuple [.str (ws.getD i ""), .str (ws.getD (i + 1) ""), .str (ws.getD (i + 2) "")])) (a4 L at_ ws i)) (ok : OkW ws) :
    finP (a5 L at_ ws) (pb5 P Pm (penter 4 (a5 L at_ ws))) = match errS ws with
    | some j => .exc (flt j at_) (a5 L at_ ws)
    | none => .ok (.d (.list (trips ws.tail))) (a5 L at_ ws) := by
  have hl := List.length_pos_iff.mpr ok.ne
  have hd : ws.drop 1 = ws.tail := List.drop_one
  have ge := grp_eq 1 ws.tail rfl
  have ll : 1 + ws.tail.length = ws.length := by rw [List.length_tail]; omega
  rw [ll] at ge
  have tz := ok.len
  obtain ⟨tn, htn⟩ := turns_split ws.tail.length (by rw [List.length_tail]; omega)
  rw [pb5_eq]
  unfold errS
  have pw_ : ∀ c b pl, pWhile c b pl = ploopW c b turns pl := fun _ _ _ => rfl
  by_cases h1 : ws.tail = []
  · have hl1 : ws.length = 1 := by rw [h1] at ll; simpa using ll.symm
    have c2 := wC_at (L := L) (at_ := at_) (ws := ws) [] 1
    rw [decide_eq_false (by omega)] at c2
    have w := while_end (body := wB P) (n := tn + ws.tail.length + 2) c2
    rw [show tn + ws.tail.length + 2 + 1 = turns from htn.symm] at w
    have w : ploopW wC (wB P) turns [some (ob L at_), some (.d (lS ws)), some (.lst []), some (.d (.int 1))] = .nx [some (ob L at_), some (.d (lS ws)), some (.lst []), some (.d (.int 1))] := w
    have nb : bad okS 1 [] = none := rfl
    have nl : ¬ (ws.length > 1 ∧ ws.length % 4 ≠ 0) := by omega
    have tp : trips [] = [] := rfl
    rw [h1]
    simp only [nb, if_neg nl]
    rw [tp]
    simp -implicitDefEqProofs [-Int.natCast_ediv, -Int.natCast_add, -Int.natCast_emod, -Int.natCast_mul, pw_, w, dats]
  · have w := lpW hst ws.tail 1 1 [] tn hd (by omega) (.inl ⟨rfl, rfl, h1⟩) (by rw [List.length_tail]; simp; omega)
    rw [ge, ← htn] at w
    have e0 : wL L at_ ws [] 1 = [some (ob L at_), some (.d (lS ws)), some (.lst []), some (.d (.int 1))] := rfl
    rw [e0] at w
    have l1 : ws.length > 1 := by
      have := List.length_pos_iff.mpr h1
      omega
    cases hb : bad okS 1 ws.tail with
    | some j =>
      simp only [hb] at w ⊢
      obtain ⟨acc', q', w⟩ := w
      simp -implicitDefEqProofs [-Int.natCast_ediv, -Int.natCast_add, -Int.natCast_emod, -Int.natCast_mul, pw_, w]
    | none =>
      simp only [hb] at w ⊢
      by_cases h4 : ws.length % 4 ≠ 0
      · simp only [if_pos h4] at w
        simp only [if_pos (show ws.length > 1 ∧ ws.length % 4 ≠ 0 from ⟨l1, h4⟩)]
        obtain ⟨acc', q', w⟩ := w
        simp -implicitDefEqProofs [-Int.natCast_ediv, -Int.natCast_add, -Int.natCast_emod, -Int.natCast_mul, pw_, w]
      · simp only [if_neg h4] at w
        simp only [if_neg (show ¬ (ws.length > 1 ∧ ws.length % 4 ≠ 0) from fun h => h4 h.2)]
        rw [List.nil_append] at w
        simp -implicitDefEqProofs [-Int.natCast_ediv, -Int.natCast_add, -Int.natCast_emod, -Int.natCast_mul, pw_, w]
end Q67

/-! the program's reading: cases, bars -/
namespace Q67
open K67
open PySem PySem.Spec L2 Ev Lx Ly Pv Lp
abbrev a7 (L : List (List Str)) (i dd : Nat) : List PV := [ob L i, .d (.int dd)]
def Bar (P : PFns) (L : List (List Str)) (m dd i : Nat) : Prop := match rd L m i with
  | .inl (a, b) => ∃ w, P 7 (a7 L i dd) = .exc (flt b a) [w, .d (.int dd)]
  | .inr (d, j) => P 7 (a7 L i dd) = .ok (.d d) (a7 L j dd)
abbrev a6 (L : List (List Str)) (i : Nat) (ws : List Str) (dd : Nat) : List PV := [ob L i, .d (lS ws), .d (.int dd)]
theorem cases6 {P Pm : PFns} {L : List (List Str)} {m dd i : Nat} {ws : List Str} (ok : OkW ws) (hw : hW P 2) (hrec : ∀ i, Bar P L m (dd + 1) i) (h2 : ws.headD "" = "cases") :
    match rdW (rd L m) i ws with
    | .inl (a, b) => ∃ w, finP (a6 L i ws dd) (pb6 P Pm (penter 6 (a6 L i ws dd))) = .exc (flt b a) [w, .d (lS ws), .d (.int dd)]
    | .inr (d, j) => finP (a6 L i ws dd) (pb6 P Pm (penter 6 (a6 L i ws dd))) = .ok (.d d) (a6 L j ws dd) := by
  have hl := List.length_pos_iff.mpr ok.ne
  have rgp := rg_plc ok
  have lf := lp_line (np := 3) (i := 3) (body := (pIte (pNotT (pToB (pDat (pCall P 2 (pAVal (pD (pIx (rName 1) (pName 3))) pANil))))) (pRaise 1 ["line", "word"] (pCons (pRd (rFld fl "at" (rName 0))) (pCons (pName 3) pNil))) pSkip)) (ok := fun _ w => pw w) ok (fun o => [some (ob L i), some (.d (lS ws)), some (.d (.int dd)), o, none, none])
    (fun j => .exc (flt j i) [some (ob L i), some (.d (lS ws)), some (.d (.int dd)), some (.d (.int j)), none, none]) (fun _ => rfl) (fun j hj o => ⟨_, rfl, by
      have a1 := at_word hj
      have a2 := hw ws[j] (ok.mem _ (List.getElem_mem hj))
      generalize ws[j] = w at *
      cases h5 : pw w <;> rw [h5] at a2 <;> simp -implicitDefEqProofs [-Int.natCast_ediv, -Int.natCast_add, -Int.natCast_emod, -Int.natCast_mul, a1, a2, flt]⟩) none
  rw [rdW_c h2]
  unfold errC
  cases hb : bad (fun _ w => pw w) 1 ws.tail with
  | some j =>
    simp only [hb] at lf ⊢
    refine ⟨ob L i, ?_⟩
    unfold pb6
    simp -implicitDefEqProofs [-Int.natCast_ediv, -Int.natCast_add, -Int.natCast_emod, -Int.natCast_mul, rgp, lf]
  | none =>
    simp only [hb] at lf ⊢
    obtain ⟨o, lf⟩ := lf
    by_cases h5 : ws.length < 4
    · have h51 : (ws.length : Int) < 4 := by omega
      simp only [if_pos h5]
      refine ⟨ob L i, ?_⟩
      unfold pb6
      simp -implicitDefEqProofs [-Int.natCast_ediv, -Int.natCast_add, -Int.natCast_emod, -Int.natCast_mul, rgp, lf, h51, flt]
    · have h51 : ¬ ((ws.length : Int) < 4) := by omega
      have hi1 : (i : Int) + 1 = ((i + 1 : Nat) : Int) := by omega
      have dc : (dd : Int) + 1 = ((dd + 1 : Nat) : Int) := by omega
      have rows : ∀ (rs : List Str) (at_ : Nat) (acc : List PyData) (x5 : Option PV), acc.length + rs.length ≤ 2000 →
          match rdRows (rd L m) rs at_ acc with
          | .inl (a, b) => ∃ w r, ploopF (pgN 3 5) (pExpr (pAppend 4 (pD (pTup (pCons (pName 5) (pCons (pDat (pMeth P mt_bar "bar" 0 (pAVal (pD (pOp2 addD (pName 2) (pVal (.int 1)))) pANil))) pNil)))))) (rs.map .str) [some (ob L at_), some (.d (lS ws)), some (.d (.int dd)), o, some (.lst (acc.map .d)), x5] = .exc (flt b a) (some w :: some (.d (lS ws)) :: some (.d (.int dd)) :: r)
          | .inr (rows, at2) => ∃ y5, ploopF (pgN 3 5) (pExpr (pAppend 4 (pD (pTup (pCons (pName 5) (pCons (pDat (pMeth P mt_bar "bar" 0 (pAVal (pD (pOp2 addD (pName 2) (pVal (.int 1)))) pANil))) pNil)))))) (rs.map .str) [some (ob L at_), some (.d (lS ws)), some (.d (.int dd)), o, some (.lst (acc.map .d)), x5] = .nx [some (ob L at2), some (.d (lS ws)), some (.d (.int dd)), o, some (.lst (rows.map .d)), y5] := by
        intro rs
        induction rs with
        | nil => intro at_ acc x5 _; exact ⟨x5, rfl⟩
        | cons w rs ih =>
          intro at_ acc x5 hz
          rw [List.length_cons] at hz
          have e := hrec at_
          unfold Bar at e
          have az : acc.length < 16777216 := by omega
          unfold rdRows
          simp only [List.map_cons, ploop_cons]
          cases hr : rd L m at_ with
          | inl p =>
            obtain ⟨a, b⟩ := p
            rw [hr] at e
            obtain ⟨w', e⟩ := e
            refine ⟨w', ?_, ?_⟩
            rotate_left
            · simp -implicitDefEqProofs [-Int.natCast_ediv, -Int.natCast_add, -Int.natCast_emod, -Int.natCast_mul, dc, e]
              by_cases hd : isDat (some (some w')) = true
              · rfl
              · rfl
          | inr p =>
            obtain ⟨d, at2⟩ := p
            rw [hr] at e
            have ih := ih at2 (acc ++ [.tuple [.str w, d]]) (some (.d (.str w))) (by simp; omega)
            simp only [List.map_append, List.map_cons, List.map_nil] at ih
            simp -implicitDefEqProofs [-Int.natCast_ediv, -Int.natCast_add, -Int.natCast_emod, -Int.natCast_mul, dc, e, az]
            exact ih
      have lr := rows (ws.drop 3) (i + 1) [] none (by rw [List.length_drop]; have := ok.len; simp; omega)
      have cf := cut_from (ws.map PyData.str) 3
      have sl : slD (lS ws) (some (3 : Int)) none = some (.list ((ws.drop 3).map .str)) := by
        rw [sl_lS, List.map_drop]
        exact congrArg (fun z => some (PyData.list z)) cf
      have w1 := at_word (ws := ws) (i := 1) (by omega)
      have w2 := at_word (ws := ws) (i := 2) (by omega)
      have g1 : ws.getD 1 "" = ws[1] := by rw [List.getD_eq_getElem?_getD, List.getElem?_eq_getElem (by omega)]; rfl
      have g2 : ws.getD 2 "" = ws[2] := by rw [List.getD_eq_getElem?_getD, List.getElem?_eq_getElem (by omega)]; rfl
      rw [← g1] at w1
      rw [← g2] at w2
      have w1' : ixP (.d (lS ws)) (.int 1) = some (.d (.str (ws.getD 1 ""))) := w1
      have w2' : ixP (.d (lS ws)) (.int 2) = some (.d (.str (ws.getD 2 ""))) := w2
      simp only [if_neg h5]
      generalize ws.getD 1 "" = g1 at *
      generalize ws.getD 2 "" = g2 at *
      generalize hdr : ws.drop 3 = dr at *
      cases hr : rdRows (rd L m) dr (i + 1) [] with
      | inl p =>
        obtain ⟨a, b⟩ := p
        simp only [hr] at lr ⊢
        obtain ⟨w', r, e⟩ := lr
        rw [List.map_nil] at e
        refine ⟨w', ?_⟩
        unfold pb6
        simp -implicitDefEqProofs [-Int.natCast_ediv, -Int.natCast_add, -Int.natCast_emod, -Int.natCast_mul, rgp, lf, h51, hi1, sl, e]
      | inr p =>
        obtain ⟨rows, at2⟩ := p
        simp only [hr] at lr ⊢
        obtain ⟨y5, e⟩ := lr
        rw [List.map_nil] at e
        unfold pb6
        simp -implicitDefEqProofs [-Int.natCast_ediv, -Int.natCast_add, -Int.natCast_emod, -Int.natCast_mul, rgp, lf, h51, hi1, sl, e, w1', w2']
theorem bar7 {L : List (List Str)} (hL : OkL L) (k : Nat) : ∀ (m : Nat), m ≤ 100 → ∀ (i : Nat), Bar (pd (k + 2 * m + 4)) L m (100 - m) i := by
  intro m
  induction m with
  | zero =>
    intro _ i
    unfold Bar
    rw [u7 _ _ rfl]
    generalize pd (k + 2 * 0 + 3) = P at *
    cases hi : L[i]? with
    | none =>
      rw [rd_none hi]
      have h1 : ((L.length : Int) ≤ (i : Int)) := by have := List.getElem?_eq_none_iff.mp hi; omega
      refine ⟨ob L i, ?_⟩
      unfold pb7
      simp -implicitDefEqProofs [-Int.natCast_ediv, -Int.natCast_add, -Int.natCast_emod, -Int.natCast_mul, h1, flt]
    | some ws =>
      rw [rd_zero hi]
      have h1 : ¬ ((L.length : Int) ≤ (i : Int)) := by have := (List.getElem?_eq_some_iff.mp hi).1; omega
      have ix := at_line hi
      refine ⟨ob L i, ?_⟩
      unfold pb7
      simp -implicitDefEqProofs [-Int.natCast_ediv, -Int.natCast_add, -Int.natCast_emod, -Int.natCast_mul, h1, ix, flt]
  | succ m ih =>
    intro hm i
    have hrec : ∀ i, Bar (pd (k + 2 * m + 4)) L m (100 - m) i := ih (by omega)
    obtain ⟨dd, hdd⟩ : ∃ dd : Nat, dd = 100 - (m + 1) := ⟨_, rfl⟩
    have hd1 : 100 - m = dd + 1 := by omega
    rw [← hdd]
    rw [hd1] at hrec
    have eK : k + 2 * (m + 1) + 4 = k + 2 * m + 4 + 1 + 1 := by omega
    rw [eK]
    unfold Bar
    rw [u7 _ _ rfl]
    have hc6 : ∀ ws, OkW ws → ws.headD "" = "cases" → match rdW (rd L m) i ws with
        | .inl (a, b) => ∃ w, pd (k + 2 * m + 4 + 1) 6 (a6 L i ws dd) = .exc (flt b a) [w, .d (lS ws), .d (.int dd)]
        | .inr (d, j) => pd (k + 2 * m + 4 + 1) 6 (a6 L i ws dd) = .ok (.d d) (a6 L j ws dd) := fun ws ok h2 => by
      rw [u6 _ _ rfl]
      exact cases6 ok (fun w h => pw2 (k + 2 * m + 3) h) hrec h2
    have hs5 : ∀ ws, OkW ws → pd (k + 2 * m + 4 + 1) 5 (a5 L i ws) = match errS ws with
        | some j => .exc (flt j i) (a5 L i ws)
        | none => .ok (.d (.list (trips ws.tail))) (a5 L i ws) := fun ws ok => by
      rw [u5 _ _ rfl]
      refine steps5 (fun j hj => ?_) ok
      rw [u4 _ _ rfl]
      exact step4 (fun w h => pw2 (k + 2 * m + 2) h) ok hj
    clear hrec ih
    generalize pd (k + 2 * m + 4 + 1) = P at *
    cases hi : L[i]? with
    | none =>
      rw [rd_none hi]
      have h1 : ((L.length : Int) ≤ (i : Int)) := by have := List.getElem?_eq_none_iff.mp hi; omega
      refine ⟨ob L i, ?_⟩
      unfold pb7
      simp -implicitDefEqProofs [-Int.natCast_ediv, -Int.natCast_add, -Int.natCast_emod, -Int.natCast_mul, h1, flt]
    | some ws =>
      rw [rd_succ hi]
      have ok := hL.ws ws (List.mem_of_getElem? hi)
      have hl := List.length_pos_iff.mpr ok.ne
      have h1 : ¬ ((L.length : Int) ≤ (i : Int)) := by have := (List.getElem?_eq_some_iff.mp hi).1; omega
      have dp' : ¬ ((100 : Int) ≤ (dd : Int)) := by omega
      have ix := at_line hi
      have hd : ws.headD "" = ws[0] := by cases ws with | nil => cases hl | cons a r => rfl
      have ix0 : ixP (.d (lS ws)) (.int 0) = some (.d (.str ws[0])) := at_word hl
      by_cases h3 : ws.headD "" = "cases"
      · have hh : ws[0] = "cases" := by rw [← hd]; exact h3
        rw [hh] at ix0
        have hn : inD (.str "cases") (.tuple [.str "steps", .str "cases"]) = some true := by kernel_rfl
        have c6 := hc6 ws ok h3
        cases hr : rdW (rd L m) i ws with
        | inl p =>
          obtain ⟨a, b⟩ := p
          rw [hr] at c6
          obtain ⟨w, c6⟩ := c6
          refine ⟨w, ?_⟩
          unfold pb7
          simp -implicitDefEqProofs [-Int.natCast_ediv, -Int.natCast_add, -Int.natCast_emod, -Int.natCast_mul, h1, ix, dp', ix0, hn, c6]
        | inr p =>
          obtain ⟨d, j⟩ := p
          rw [hr] at c6
          simp only at c6 ⊢
          unfold pb7
          simp -implicitDefEqProofs [-Int.natCast_ediv, -Int.natCast_add, -Int.natCast_emod, -Int.natCast_mul, h1, ix, dp', ix0, hn, c6]
      · by_cases h2 : ws.headD "" = "steps"
        · have hh : ws[0] = "steps" := by rw [← hd]; exact h2
          rw [hh] at ix0
          have hn : inD (.str "steps") (.tuple [.str "steps", .str "cases"]) = some true := by kernel_rfl
          have ns : ¬ (("steps" : Str) = "cases") := by decide
          have s5 := hs5 ws ok
          have hi1 : (i : Int) + 1 = ((i + 1 : Nat) : Int) := by omega
          rw [rdW_s h2]
          cases he : errS ws with
          | some j =>
            rw [he] at s5
            refine ⟨ob L i, ?_⟩
            simp only at s5
            unfold pb7
            simp -implicitDefEqProofs [-Int.natCast_ediv, -Int.natCast_add, -Int.natCast_emod, -Int.natCast_mul, h1, ix, dp', ix0, hn, ns, s5]
          | none =>
            rw [he] at s5
            simp only at s5 ⊢
            unfold pb7
            simp -implicitDefEqProofs [-Int.natCast_ediv, -Int.natCast_add, -Int.natCast_emod, -Int.natCast_mul, h1, ix, dp', ix0, hn, ns, s5, hi1]
        · have hn := nin2 (ok.mem ws[0] (List.getElem_mem hl))
          have hn2 : hd2 ws[0] = true := by
            have a1 : ¬ (ws[0] = "steps") := by rw [← hd]; exact h2
            have a2 : ¬ (ws[0] = "cases") := by rw [← hd]; exact h3
            unfold hd2
            simp [a1, a2]
          rw [hn2] at hn
          rw [rdW_n h2 h3]
          refine ⟨ob L i, ?_⟩
          generalize ws[0] = w0 at *
          unfold pb7
          simp -implicitDefEqProofs [-Int.natCast_ediv, -Int.natCast_add, -Int.natCast_emod, -Int.natCast_mul, h1, ix, dp', ix0, hn, flt]
end Q67

/-! texts: told and due -/
namespace Q67
open K67
open PySem PySem.Spec L2 Ev Lx Ly Pv Lp
def J (ws : List Str) : Str := Txt.join " " ws
def JL (L : List (List Str)) : Str := Txt.join "\n" (L.map J)
theorem tl_J (ws : List Str) : TL.tl (J ws) = TL.joinL [32] (ws.map TL.tl) := by
  unfold J
  rw [TL.join_eq, TL.tl_join]
  rfl
theorem mem_joinL {x : Nat} {S : List Nat} : ∀ {ps : List (List Nat)}, x ∈ TL.joinL S ps → x ∈ S ∨ ∃ p ∈ ps, x ∈ p
  | [], h => by cases h
  | [p], h => .inr ⟨p, by simp, h⟩
  | p :: q :: r, h => by
    have h : x ∈ p ++ (S ++ TL.joinL S (q :: r)) := h
    rcases List.mem_append.mp h with h | h
    · exact .inr ⟨p, by simp, h⟩
    · rcases List.mem_append.mp h with h | h
      · exact .inl h
      · rcases mem_joinL h with h | ⟨p', h1, h2⟩
        · exact .inl h
        · exact .inr ⟨p', List.mem_cons_of_mem _ h1, h2⟩
theorem len_joinL {S : List Nat} {c : Nat} : ∀ {ps : List (List Nat)}, (∀ p ∈ ps, p.length ≤ c) → (TL.joinL S ps).length ≤ ps.length * (c + S.length)
  | [], _ => Nat.zero_le _
  | [p], h => by
    have := h p (by simp)
    show p.length ≤ _
    simp
    omega
  | p :: q :: r, h => by
    have h1 := h p (by simp)
    have h2 := len_joinL (S := S) (ps := q :: r) fun x hx => h x (List.mem_cons_of_mem _ hx)
    show (p ++ (S ++ TL.joinL S (q :: r))).length ≤ _
    rw [List.length_append, List.length_append, show (p :: q :: r).length = (q :: r).length + 1 from rfl, Nat.add_mul]
    omega
theorem V_all : V.all (fun w => !(TL.tl w).contains 32 && !(TL.tl w).contains 10 && decide ((TL.tl w).length ≤ 5)) = true := by decide +kernel
theorem V_ok {w : Str} (h : w ∈ V) : 32 ∉ TL.tl w ∧ 10 ∉ TL.tl w ∧ (TL.tl w).length ≤ 5 := by
  have := List.all_eq_true.mp V_all w h
  simp only [Bool.and_eq_true, Bool.not_eq_true', List.contains_eq_mem, decide_eq_true_eq, decide_eq_false_iff_not] at this
  exact ⟨this.1.1, this.1.2, this.2⟩
theorem str_len (x : Str) : x.length = (TL.tl x).length := by simp [Str.length]
theorem J_split {ws : List Str} (h : OkW ws) : Txt.split (J ws) " " = ws := TL.split_join (S := []) (by rfl) (by decide +kernel) h.ne fun p hp => (V_ok (h.mem p hp)).1
theorem J_no {ws : List Str} (h : OkW ws) : 10 ∉ TL.tl (J ws) := fun hx => by
  rw [tl_J] at hx
  rcases mem_joinL hx with h1 | ⟨p, h1, h2⟩
  · simp at h1
  · obtain ⟨w, hw, rfl⟩ := List.mem_map.mp h1
    exact (V_ok (h.mem w hw)).2.1 h2
theorem J_len {ws : List Str} (h : OkW ws) : (J ws).length ≤ 6000 := by
  rw [str_len, tl_J]
  have := len_joinL (S := [32]) (c := 5) (ps := ws.map TL.tl) fun p hp => by
    obtain ⟨w, hw, rfl⟩ := List.mem_map.mp hp
    exact (V_ok (h.mem w hw)).2.2
  have hl := h.len
  rw [List.length_map] at this
  simp at this
  omega
theorem JL_split {L : List (List Str)} (h : OkL L) (hn : L ≠ []) : Txt.split (JL L) "\n" = L.map J := TL.split_join (S := []) (by rfl) (by decide +kernel) (by simpa using hn) fun p hp => by
  obtain ⟨ws, hw, rfl⟩ := List.mem_map.mp hp
  exact J_no (h.ws ws hw)
theorem JL_len {L : List (List Str)} (h : OkL L) : (JL L).length ≤ 6001000 := by
  have e : TL.tl (JL L) = TL.joinL [10] ((L.map J).map TL.tl) := by
    unfold JL
    rw [TL.join_eq, TL.tl_join]
    rfl
  rw [str_len, e]
  have := len_joinL (S := [10]) (c := 6000) (ps := (L.map J).map TL.tl) fun p hp => by
    rw [List.map_map] at hp
    obtain ⟨ws, hw, rfl⟩ := List.mem_map.mp hp
    have := J_len (h.ws ws hw)
    rw [str_len] at this
    exact this
  have hl := h.len
  rw [List.length_map, List.length_map] at this
  have e1 : ([10] : List Nat).length = 1 := rfl
  rw [e1] at this
  omega
theorem sum_le {c : Nat} : ∀ {ns : List Nat}, (∀ n ∈ ns, n ≤ c) → ns.sum ≤ ns.length * c
  | [], _ => by simp
  | n :: ns, h => by
    have h1 := h n (by simp)
    have h2 := sum_le fun x hx => h x (List.mem_cons_of_mem n hx)
    rw [List.sum_cons, List.length_cons, Nat.add_mul]
    omega
theorem joinJ {ws : List Str} (h : OkW ws) : joinD (.str " ") [lS ws] = some (.str (J ws)) := by
  show (strsOf (ws.map PyData.str)).bind _ = _
  rw [strsOf_map]
  show (if (ws.map (·.length)).sum + ws.length * (" " : Str).length ≤ 16777216 then _ else _) = _
  rw [if_pos]
  · rfl
  · have h1 := sum_le (c := 5) (ns := ws.map (·.length)) fun n hn => by
      obtain ⟨w, hw, rfl⟩ := List.mem_map.mp hn
      rw [str_len]
      exact (V_ok (h.mem w hw)).2.2
    have hl := h.len
    have e1 : (" " : Str).length = 1 := by rfl
    rw [List.length_map] at h1
    rw [e1]
    omega
theorem joinJL {L : List (List Str)} (h : OkL L) : joinD (.str "\n") [.list (L.map fun ws => .str (J ws))] = some (.str (JL L)) := by
  have e : L.map (fun ws => PyData.str (J ws)) = (L.map J).map PyData.str := by rw [List.map_map]; rfl
  rw [e]
  show (strsOf ((L.map J).map PyData.str)).bind _ = _
  rw [strsOf_map]
  show (if ((L.map J).map (·.length)).sum + (L.map J).length * ("\n" : Str).length ≤ 16777216 then _ else _) = _
  rw [if_pos]
  · rfl
  · have h1 := sum_le (c := 6000) (ns := (L.map J).map (·.length)) fun n hn => by
      rw [List.map_map] at hn
      obtain ⟨ws, hw, rfl⟩ := List.mem_map.mp hn
      exact J_len (h.ws ws hw)
    have hl := h.len
    have e1 : ("\n" : Str).length = 1 := by rfl
    rw [List.length_map, List.length_map] at h1
    rw [List.length_map, e1]
    omega
theorem splitJ {ws : List Str} (h : OkW ws) : splitD (.str (J ws)) [.str " "] = some (lS ws) := by
  show (if ((" " : Str).length == 0) = false ∧ (J ws).length + 2 ≤ 16777216 then some (PyData.list ((Txt.split (J ws) " ").map .str)) else none) = _
  have := J_len h
  rw [if_pos ⟨by rfl, by omega⟩, J_split h]
  rfl
theorem splitJL {L : List (List Str)} (h : OkL L) (hn : L ≠ []) : splitD (.str (JL L)) [.str "\n"] = some (.list (L.map fun ws => .str (J ws))) := by
  show (if (("\n" : Str).length == 0) = false ∧ (JL L).length + 2 ≤ 16777216 then some (PyData.list ((Txt.split (JL L) "\n").map .str)) else none) = _
  have := JL_len h
  rw [if_pos ⟨by rfl, by omega⟩, JL_split h hn, List.map_map]
  rfl
@[simp] theorem ty_s (x : Str) : tyB "str" (.str x) = true := by rfl
theorem rd_le {L : List (List Str)} : ∀ {m i : Nat} {d : PyData} {j : Nat}, rd L m i = .inr (d, j) → j ≤ L.length
  | 0, i, d, j, h => by
    cases hi : L[i]? with
    | none => rw [rd_none hi] at h; cases h
    | some ws => rw [rd_zero hi] at h; cases h
  | m + 1, i, d, j, h => by
    cases hi : L[i]? with
    | none => rw [rd_none hi] at h; cases h
    | some ws =>
      have hl := (List.getElem?_eq_some_iff.mp hi).1
      have rows : ∀ (rs : List Str) (at_ : Nat) (acc : List PyData) (r : List PyData) (a : Nat), at_ ≤ L.length → rdRows (rd L m) rs at_ acc = .inr (r, a) → a ≤ L.length := by
        intro rs
        induction rs with
        | nil => intro at_ acc r a h0 h; cases h; exact h0
        | cons w rs ih =>
          intro at_ acc r a h0 h
          unfold rdRows at h
          cases hr : rd L m at_ with
          | inl p => rw [hr] at h; cases h
          | inr p =>
            obtain ⟨d2, a2⟩ := p
            rw [hr] at h
            exact ih a2 _ r a (rd_le hr) h
      rw [rd_succ hi] at h
      unfold rdW at h
      split at h
      · split at h
        · cases h
        · cases h; omega
      · split at h
        · split at h
          · cases h
          · split at h
            · cases h
            · rename_i r a hr
              cases h
              exact rows _ _ _ _ _ (by omega) hr
        · cases h
/-- what is due -/
def due (L : List (List Str)) : PyData := match rd L 100 0 with
  | .inl (a, b) => .list [.int a, .int b]
  | .inr (d, j) => if j = L.length then d else .list [.int j, .int 0]
theorem due18 {L : List (List Str)} (hL : OkL L) (k : Nat) : pd (k + 103) 18 [.d (lD L)] = .ok (.d (due L)) [.d (lD L)] := by
  rw [u18 _ _ rfl]
  have e : pd (k + 102) 17 [.d (lD L), .d (.int 0), .d (.int 0)] = .ok (.d (out (rd L 100 0))) [.d (lD L), .d (.int 0), .d (.int 0)] := read17 hL k 100 (Nat.le_refl _) 0
  generalize pd (k + 102) = P at *
  unfold due
  unfold pb18
  cases hr : rd L 100 0 with
  | inl p =>
    obtain ⟨a, b⟩ := p
    rw [hr] at e
    simp -implicitDefEqProofs [-Int.natCast_ediv, -Int.natCast_add, -Int.natCast_emod, -Int.natCast_mul, e, out]
  | inr p =>
    obtain ⟨d, j⟩ := p
    obtain ⟨xs, rfl⟩ := rd_tup hr
    rw [hr] at e
    by_cases hj : j = L.length
    · have hj' : (j : Int) = (L.length : Int) := by omega
      simp only [if_pos hj]
      simp -implicitDefEqProofs [-Int.natCast_ediv, -Int.natCast_add, -Int.natCast_emod, -Int.natCast_mul, e, out, hj]
    · have hj' : ¬ ((j : Int) = (L.length : Int)) := by omega
      simp only [if_neg hj]
      simp -implicitDefEqProofs [-Int.natCast_ediv, -Int.natCast_add, -Int.natCast_emod, -Int.natCast_mul, e, out, hj', hj]
theorem init3 {P Pm : PFns} {L : List (List Str)} (hL : OkL L) (hn : L ≠ []) : finP [.ins 2 [], .d (.str (JL L))] (pb3 P Pm (penter 3 [.ins 2 [], .d (.str (JL L))])) = .ok (.d .none) [ob L 0, .d (.str (JL L))] := by
  have s1 := splitJL hL hn
  have hc : pcompF [2] (pgN 0 2) pTrue (pputE (pMth "str" splitD (pName 2) (pCons (pVal (.str " ")) pNil))) (L.map fun ws => .str (J ws)) [] [some (.ins 2 []), some (.d (.str (JL L))), none] = .ok (L.map lS) [some (.ins 2 []), some (.d (.str (JL L))), none] :=
    comp_mapE (fun ws : List Str => PyData.str (J ws)) lS L (by have := hL.len; omega) fun ws hw => ⟨_, rfl, rfl, by
      have s2 := splitJ (hL.ws ws hw)
      simp -implicitDefEqProofs [-Int.natCast_ediv, -Int.natCast_add, -Int.natCast_emod, -Int.natCast_mul, s2]⟩
  have l_in : ("lines" : Str) ∈ fl 2 := by decide
  have e1 : setP fl "lines" 0 (.d (lD L)) [some (.ins 2 []), some (.d (.str (JL L))), none] (some (2, [])) = .nx [some (.ins 2 [("lines", .d (lD L))]), some (.d (.str (JL L))), none] := by kernel_rfl
  have e2 : setP fl "at" 0 (.d (.int 0)) [some (.ins 2 [("lines", .d (lD L))]), some (.d (.str (JL L))), none] (some (2, [("lines", .d (lD L))])) = .nx [some (ob L 0), some (.d (.str (JL L))), none] := by kernel_rfl
  unfold pb3
  have eL : PyData.list (L.map lS) = lD L := rfl
  have ns : ¬ (("lines" : Str) = "at") := by decide
  simp -implicitDefEqProofs [-Int.natCast_ediv, -Int.natCast_add, -Int.natCast_emod, -Int.natCast_mul, s1, hc, l_in, eL, ns]
  rfl
theorem read8 {L : List (List Str)} (hL : OkL L) (hn : L ≠ []) (k : Nat) : match rd L 100 0 with
    | .inl (a, b) => pd (k + 206) 8 [.d (.str (JL L))] = .exc (flt b a) [.d (.str (JL L))]
    | .inr (d, j) => pd (k + 206) 8 [.d (.str (JL L))] = if j = L.length then .ok (.d d) [.d (.str (JL L))] else .exc (flt 0 j) [.d (.str (JL L))] := by
  have b7 : Bar (pd (k + 205)) L 100 0 0 := bar7 hL (k + 1) 100 (Nat.le_refl _) 0
  have i3 : pm (k + 205) 3 [.ins 2 [], .d (.str (JL L))] = .ok (.d .none) [ob L 0, .d (.str (JL L))] := by
    rw [show k + 205 = k + 203 + 1 + 1 by omega, pm_succ, u3 _ _ rfl]
    exact init3 hL hn
  rw [u8 _ _ rfl]
  unfold Bar at b7
  generalize pd (k + 205) = P at *
  generalize pm (k + 205) = Pm at *
  unfold pb8
  cases hr : rd L 100 0 with
  | inl p =>
    obtain ⟨a, b⟩ := p
    rw [hr] at b7
    obtain ⟨w, b7⟩ := b7
    simp only [a7] at b7
    have b7' : P 7 [ob L 0, .d (.int 0)] = .exc (flt b a) [w, .d (.int 0)] := b7
    simp -implicitDefEqProofs [-Int.natCast_ediv, -Int.natCast_add, -Int.natCast_emod, -Int.natCast_mul, i3, b7']
  | inr p =>
    obtain ⟨d, j⟩ := p
    have hjl := rd_le hr
    rw [hr] at b7
    have b7' : P 7 [ob L 0, .d (.int 0)] = .ok (.d d) [ob L j, .d (.int 0)] := b7
    by_cases hj : j = L.length
    · have hj' : ¬ ((j : Int) < (L.length : Int)) := by omega
      simp only [if_pos hj]
      simp -implicitDefEqProofs [-Int.natCast_ediv, -Int.natCast_add, -Int.natCast_emod, -Int.natCast_mul, i3, b7', hj', hj]
    · have hj' : ((j : Int) < (L.length : Int)) := by omega
      simp only [if_neg hj]
      simp -implicitDefEqProofs [-Int.natCast_ediv, -Int.natCast_add, -Int.natCast_emod, -Int.natCast_mul, i3, b7', hj', hj, flt]
theorem told19 {L : List (List Str)} (hL : OkL L) (hn : L ≠ []) (k : Nat) : pd (k + 207) 19 [.d (lD L)] = .ok (.d (due L)) [.d (lD L)] := by
  have r8 := read8 hL hn k
  rw [u19 _ _ rfl]
  have hc : pcompF [2] (pgN 0 2) pTrue (pputE (pMth "str" joinD (pVal (.str " ")) (pCons (pName 2) pNil))) (L.map lS) [] [some (.d (lD L)), none, none] = .ok (L.map fun ws => .str (J ws)) [some (.d (lD L)), none, none] :=
    comp_mapE lS (fun ws : List Str => PyData.str (J ws)) L (by have := hL.len; omega) fun ws hw => ⟨_, rfl, rfl, by
      have s2 := joinJ (hL.ws ws hw)
      simp -implicitDefEqProofs [-Int.natCast_ediv, -Int.natCast_add, -Int.natCast_emod, -Int.natCast_mul, s2]⟩
  have j1 := joinJL hL
  have it : itemsD (lD L) = some (L.map lS) := rfl
  have xf1 : ∀ (a b : Nat) (l : Ev.Loc), xIf (xIs sub 0) (xLst (xCons (xFld xf "line") (xCons (xFld xf "word") xNil))) (xLst (xCons (xVal (.str "strange")) xNil)) (flt b a) l = some (.list [.int a, .int b]) := fun a b l => by kernel_rfl
  have cs : ∀ a b : Nat, sub (flt b a).cls 1 = some true := fun a b => by kernel_rfl
  generalize pd (k + 206) = P at *
  unfold due
  unfold pb19
  cases hr : rd L 100 0 with
  | inl p =>
    obtain ⟨a, b⟩ := p
    rw [hr] at r8
    simp only at r8
    simp -implicitDefEqProofs [-Int.natCast_ediv, -Int.natCast_add, -Int.natCast_emod, -Int.natCast_mul, hc, j1, it, r8, catchP, xf1, cs]
  | inr p =>
    obtain ⟨d, j⟩ := p
    rw [hr] at r8
    simp only at r8
    by_cases hj : j = L.length
    · simp only [if_pos hj] at r8 ⊢
      simp -implicitDefEqProofs [-Int.natCast_ediv, -Int.natCast_add, -Int.natCast_emod, -Int.natCast_mul, hc, j1, it, r8]
    · simp only [if_neg hj] at r8 ⊢
      have x0 := xf1 j 0
      have c0 := cs j 0
      simp -implicitDefEqProofs [-Int.natCast_ediv, -Int.natCast_add, -Int.natCast_emod, -Int.natCast_mul, hc, j1, it, r8, catchP, x0, c0]
/-! ### sameness of what is due -/
theorem Pl.up' : ∀ (k : Nat) {n : Nat} {d : PyData}, Lw.Pl n d → Lw.Pl (n + k) d
  | 0, _, _, h => h
  | k + 1, _, _, h => Lw.Pl.up (Pl.up' k h)
theorem pl_tup {n : Nat} {xs : List PyData} (h : ∀ x ∈ xs, Lw.Pl n x) (hl : xs.length ≤ 1000000) : Lw.Pl (n + 1) (.tuple xs) := .inr ⟨xs, .inr rfl, hl, h⟩
theorem pl_lst {n : Nat} {xs : List PyData} (h : ∀ x ∈ xs, Lw.Pl n x) (hl : xs.length ≤ 1000000) : Lw.Pl (n + 1) (.list xs) := .inr ⟨xs, .inl rfl, hl, h⟩
theorem pl_str (s : Str) (n : Nat) : Lw.Pl n (.str s) := by
  cases n with
  | zero => exact .inr (.inr (.inr ⟨s, rfl⟩))
  | succ n => exact .inl (.inr (.inr (.inr ⟨s, rfl⟩)))
theorem pl_int (i : Int) (n : Nat) : Lw.Pl n (.int i) := by
  cases n with
  | zero => exact .inr (.inr (.inl ⟨i, rfl⟩))
  | succ n => exact .inl (.inr (.inr (.inl ⟨i, rfl⟩)))
theorem trips_pl : ∀ (n : Nat) (r : List Str), r.length ≤ n → (∀ x ∈ trips r, Lw.Pl 1 x) ∧ (trips r).length ≤ r.length
  | _, [], _ => ⟨fun x h => (by cases h), Nat.le_refl _⟩
  | _, [_], _ => ⟨fun x h => (by cases h), by simp [trips]⟩
  | _, [_, _], _ => ⟨fun x h => (by cases h), by simp [trips]⟩
  | _, [a, b, c], _ => ⟨fun x h => by
      have h : x ∈ [PyData.tuple [.str a, .str b, .str c]] := h
      rw [List.mem_singleton] at h
      subst h
      exact pl_tup (n := 0) (fun y hy => by simp at hy; rcases hy with rfl | rfl | rfl <;> exact pl_str _ _) (by simp), by simp [trips]⟩
  | 0, a :: b :: c :: s :: r, h => by simp at h
  | n + 1, a :: b :: c :: s :: r, h => by
    obtain ⟨h1, h2⟩ := trips_pl n r (by simp at h; omega)
    have e : trips (a :: b :: c :: s :: r) = .tuple [.str a, .str b, .str c] :: trips r := by rw [trips]
    rw [e]
    refine ⟨fun x hx => ?_, by simp; omega⟩
    rcases List.mem_cons.mp hx with rfl | hx
    · exact pl_tup (n := 0) (fun y hy => by simp at hy; rcases hy with rfl | rfl | rfl <;> exact pl_str _ _) (by simp)
    · exact h1 x hx
theorem rd_pl {L : List (List Str)} (hL : OkL L) : ∀ {m i : Nat} {d : PyData} {j : Nat}, rd L m i = .inr (d, j) → Lw.Pl (3 * m + 3) d
  | 0, i, d, j, h => by
    cases hi : L[i]? with
    | none => rw [rd_none hi] at h; cases h
    | some ws => rw [rd_zero hi] at h; cases h
  | m + 1, i, d, j, h => by
    cases hi : L[i]? with
    | none => rw [rd_none hi] at h; cases h
    | some ws =>
      have ok := hL.ws ws (List.mem_of_getElem? hi)
      have hl := ok.len
      have rows : ∀ (rs : List Str) (at_ : Nat) (acc : List PyData) (r : List PyData) (a : Nat), (∀ x ∈ acc, Lw.Pl (3 * m + 4) x) → rdRows (rd L m) rs at_ acc = .inr (r, a) → (∀ x ∈ r, Lw.Pl (3 * m + 4) x) ∧ r.length = acc.length + rs.length := by
        intro rs
        induction rs with
        | nil => intro at_ acc r a h0 h; cases h; exact ⟨h0, rfl⟩
        | cons w rs ih =>
          intro at_ acc r a h0 h
          unfold rdRows at h
          cases hr : rd L m at_ with
          | inl p => rw [hr] at h; cases h
          | inr p =>
            obtain ⟨d2, a2⟩ := p
            rw [hr] at h
            obtain ⟨h1, h2⟩ := ih a2 _ r a (fun x hx => by
              rcases List.mem_append.mp hx with hx | hx
              · exact h0 x hx
              · rw [List.mem_singleton] at hx
                subst hx
                exact pl_tup (fun y hy => by
                  simp at hy
                  rcases hy with rfl | rfl
                  · exact pl_str _ _
                  · exact rd_pl hL hr) (by simp)) h
            exact ⟨h1, by rw [h2]; simp; omega⟩
      rw [rd_succ hi] at h
      unfold rdW at h
      split at h
      · split at h
        · cases h
        · cases h
          obtain ⟨t1, t2⟩ := trips_pl ws.tail.length ws.tail (Nat.le_refl _)
          rw [List.length_tail] at t2
          refine Pl.up' (3 * m + 3) (n := 3) (pl_tup (fun y hy => ?_) (by simp)) |> fun z => by rw [show 3 * (m + 1) + 3 = 3 + (3 * m + 3) by omega]; exact z
          simp at hy
          rcases hy with rfl | rfl
          · exact pl_str _ _
          · exact pl_lst t1 (by omega)
      · split at h
        · split at h
          · cases h
          · split at h
            · cases h
            · rename_i r a hr
              cases h
              obtain ⟨r1, r2⟩ := rows _ _ _ _ _ (fun x hx => by cases hx) hr
              rw [List.length_drop] at r2
              refine pl_tup (n := 3 * m + 5) (fun y hy => ?_) (by simp)
              simp at hy
              rcases hy with rfl | rfl | rfl | rfl
              · exact pl_str _ _
              · exact pl_str _ _
              · exact pl_str _ _
              · exact pl_lst r1 (by rw [r2]; simp; omega)
        · cases h
theorem due_pl {L : List (List Str)} (hL : OkL L) : Lw.Pl 303 (due L) := by
  have pair : ∀ i j : Int, Lw.Pl 303 (.list [.int i, .int j]) := fun i j => pl_lst (n := 302) (fun y hy => by simp at hy; rcases hy with rfl | rfl <;> exact pl_int _ _) (by simp)
  unfold due
  cases hr : rd L 100 0 with
  | inl p => exact pair _ _
  | inr p =>
    obtain ⟨d, j⟩ := p
    simp only
    split
    · exact rd_pl hL hr
    · exact pair _ _
theorem same9 (k : Nat) {n : Nat} {d : PyData} (h : Lw.Pl n d) : pd (k + n + 1) 9 [.d d, .d d] = .ok (.d (.bool true)) [.d d, .d d] := Lp.same (i := 9) (fun k d => u9 k _ rfl) k n d h
end Q67

/-! drawn bars, their lines -/
namespace Q67
open K67
open PySem PySem.Spec L2 Ev Lx Ly Pv Lp
def W7 : List Str := ["x", "y", "a1", "m", "WW", "ii", "OO"]
theorem W7_V : ∀ w ∈ W7, w ∈ V ∧ pw w = true := by decide +kernel
abbrev Tr := Str × Str × Str
def trD (s : Tr) : PyData := .tuple [.str s.1, .str s.2.1, .str s.2.2]
def stD (ss : List Tr) : PyData := .tuple [.str "steps", .list (ss.map trD)]
def stW : List Tr → List Str
  | [] => []
  | [s] => [s.1, s.2.1, s.2.2]
  | s :: t :: r => s.1 :: s.2.1 :: s.2.2 :: ";" :: stW (t :: r)
def OkT (s : Tr) : Prop := s.1 ∈ W7 ∧ s.2.1 ∈ W7 ∧ s.2.2 ∈ W7
def IsSt (d : PyData) (Ls : List (List Str)) : Prop := ∃ ss : List Tr, (∀ s ∈ ss, OkT s) ∧ ss.length ≤ 3 ∧ d = stD ss ∧ Ls = [("steps" : Str) :: stW ss]
abbrev Row := Str × PyData × List (List Str)
def rowD (r : Row) : PyData := .tuple [.str r.1, r.2.1]
def csD (a b : Str) (rows : List Row) : PyData := .tuple [.str "cases", .str a, .str b, .list (rows.map rowD)]
def csL (a b : Str) (rows : List Row) : List (List Str) := ("cases" :: a :: b :: rows.map (·.1)) :: rows.flatMap (·.2.2)
/-- a bar, n deep at most, and its lines -/
def BL : Nat → PyData → List (List Str) → Prop
  | 0, d, Ls => IsSt d Ls
  | n + 1, d, Ls => IsSt d Ls ∨ ∃ (a b : Str) (rows : List Row), a ∈ W7 ∧ b ∈ W7 ∧ 1 ≤ rows.length ∧ rows.length ≤ 3 ∧ d = csD a b rows ∧ Ls = csL a b rows ∧ ∀ r ∈ rows, r.1 ∈ W7 ∧ BL n r.2.1 r.2.2
theorem BL.st {n : Nat} {d : PyData} {Ls : List (List Str)} (h : IsSt d Ls) : BL n d Ls := by
  cases n with
  | zero => exact h
  | succ n => exact .inl h
theorem BL.cases {n : Nat} {d : PyData} {Ls : List (List Str)} (h : BL n d Ls) : IsSt d Ls ∨ ∃ m, n = m + 1 ∧ ∃ (a b : Str) (rows : List Row), a ∈ W7 ∧ b ∈ W7 ∧ 1 ≤ rows.length ∧ rows.length ≤ 3 ∧ d = csD a b rows ∧ Ls = csL a b rows ∧ ∀ r ∈ rows, r.1 ∈ W7 ∧ BL m r.2.1 r.2.2 := by
  cases n with
  | zero => exact .inl h
  | succ n => exact h.imp id fun h => ⟨n, rfl, h⟩
theorem three {ss : List Tr} (h : ss.length ≤ 3) : ss = [] ∨ (∃ s, ss = [s]) ∨ (∃ s t, ss = [s, t]) ∨ ∃ s t u, ss = [s, t, u] := by
  match ss, h with
  | [], _ => exact .inl rfl
  | [s], _ => exact .inr (.inl ⟨s, rfl⟩)
  | [s, t], _ => exact .inr (.inr (.inl ⟨s, t, rfl⟩))
  | [s, t, u], _ => exact .inr (.inr (.inr ⟨s, t, u, rfl⟩))
  | _ :: _ :: _ :: _ :: _, h => simp at h
theorem stW_mem : ∀ {ss : List Tr}, (∀ s ∈ ss, OkT s) → ∀ w ∈ stW ss, w ∈ V
  | [], _, w, h => by cases h
  | [s], hs, w, h => by
    obtain ⟨a, b, c⟩ := hs s (by simp)
    simp [stW] at h
    rcases h with rfl | rfl | rfl
    · exact (W7_V _ a).1
    · exact (W7_V _ b).1
    · exact (W7_V _ c).1
  | s :: t :: r, hs, w, h => by
    obtain ⟨a, b, c⟩ := hs s (by simp)
    simp only [stW, List.mem_cons] at h
    rcases h with rfl | rfl | rfl | rfl | h
    · exact (W7_V _ a).1
    · exact (W7_V _ b).1
    · exact (W7_V _ c).1
    · decide
    · exact stW_mem (fun x hx => hs x (List.mem_cons_of_mem _ hx)) w h
theorem st_ok {ss : List Tr} (h : ∀ s ∈ ss, OkT s) (hl : ss.length ≤ 3) : OkW (("steps" : Str) :: stW ss) ∧ (("steps" : Str) :: stW ss).length ≤ 12 := by
  have : (stW ss).length ≤ 11 := by rcases three hl with rfl | ⟨s, rfl⟩ | ⟨s, t, rfl⟩ | ⟨s, t, u, rfl⟩ <;> simp [stW]
  refine ⟨⟨by simp, fun w hw => ?_, by simp; omega⟩, by simp; omega⟩
  rcases List.mem_cons.mp hw with rfl | hw
  · decide
  · exact stW_mem h w hw
theorem bl_ok : ∀ {n : Nat} {d : PyData} {Ls : List (List Str)}, BL n d Ls → (∀ ws ∈ Ls, OkW ws ∧ ws.length ≤ 12) ∧ 1 ≤ Ls.length ∧ Ls.length ≤ 4 ^ n
  | n, d, Ls, h => by
    rcases h.cases with ⟨ss, h1, h2, rfl, rfl⟩ | ⟨m, rfl, a, b, rows, ha, hb, l1, l3, rfl, rfl, hr⟩
    · exact ⟨fun ws hw => by rw [List.mem_singleton] at hw; subst hw; exact st_ok h1 h2, by simp, by simp; exact Nat.one_le_pow n 4 (by decide)⟩
    · have hx : ∀ r ∈ rows, (∀ ws ∈ r.2.2, OkW ws ∧ ws.length ≤ 12) ∧ 1 ≤ r.2.2.length ∧ r.2.2.length ≤ 4 ^ m := fun r hr' => bl_ok (hr r hr').2
      have p1 : 1 ≤ 4 ^ m := Nat.one_le_pow m 4 (by decide)
      have hf : ∀ rs : List Row, (∀ r ∈ rs, r ∈ rows) → (rs.flatMap (·.2.2)).length ≤ rs.length * 4 ^ m := by
        intro rs
        induction rs with
        | nil => intro _; simp
        | cons r rs ih =>
          intro h
          have h1 := ih fun x hx => h x (List.mem_cons_of_mem _ hx)
          have h2 := (hx r (h r (by simp))).2.2
          rw [List.flatMap_cons, List.length_append, List.length_cons, Nat.add_mul]
          omega
      have hf := hf rows fun _ h => h
      refine ⟨fun ws hw => ?_, by simp [csL], ?_⟩
      · rcases List.mem_cons.mp (show ws ∈ _ :: _ from hw) with rfl | hw
        · refine ⟨⟨by simp, fun w hw => ?_, by simp; omega⟩, by simp; omega⟩
          simp only [List.mem_cons, List.mem_map] at hw
          rcases hw with rfl | rfl | rfl | ⟨r, hr', rfl⟩
          · decide
          · exact (W7_V _ ha).1
          · exact (W7_V _ hb).1
          · exact (W7_V _ (hr r hr').1).1
        · obtain ⟨r, hr', hw⟩ := List.mem_flatMap.mp hw
          exact (hx r hr').1 ws hw
      · show (rows.flatMap (·.2.2)).length + 1 ≤ _
        have : rows.length * 4 ^ m ≤ 3 * 4 ^ m := Nat.mul_le_mul_right _ l3
        rw [Nat.pow_succ]
        omega
theorem bl_okL {n : Nat} {d : PyData} {Ls : List (List Str)} (h : BL n d Ls) (hn : n ≤ 3) : OkL Ls ∧ Ls ≠ [] ∧ Ls.length ≤ 64 := by
  obtain ⟨h1, h2, h3⟩ := bl_ok h
  have : 4 ^ n ≤ 4 ^ 3 := Nat.pow_le_pow_right (by decide) hn
  exact ⟨⟨fun ws hw => (h1 ws hw).1, by omega⟩, fun e => by subst e; simp at h2, by omega⟩
/-! ### the reading of a bar's lines tells the bar -/
theorem errS_st {ss : List Tr} (h : ∀ s ∈ ss, OkT s) (hl : ss.length ≤ 3) : errS (("steps" : Str) :: stW ss) = none ∧ trips (stW ss) = ss.map trD := by
  rcases three hl with rfl | ⟨s, rfl⟩ | ⟨s, t, rfl⟩ | ⟨s, t, u, rfl⟩
  · exact ⟨by rfl, rfl⟩
  · obtain ⟨a, b, c⟩ := h s (by simp)
    simp [errS, stW, bad, okS, trips, trD, W7_V _ a, W7_V _ b, W7_V _ c]
  · obtain ⟨a, b, c⟩ := h s (by simp)
    obtain ⟨a2, b2, c2⟩ := h t (by simp)
    simp [errS, stW, bad, okS, trips, trD, W7_V _ a, W7_V _ b, W7_V _ c, W7_V _ a2, W7_V _ b2, W7_V _ c2]
  · obtain ⟨a, b, c⟩ := h s (by simp)
    obtain ⟨a2, b2, c2⟩ := h t (by simp)
    obtain ⟨a3, b3, c3⟩ := h u (by simp)
    simp [errS, stW, bad, okS, trips, trD, W7_V _ a, W7_V _ b, W7_V _ c, W7_V _ a2, W7_V _ b2, W7_V _ c2, W7_V _ a3, W7_V _ b3, W7_V _ c3]
theorem bad_pw : ∀ (i : Nat) (r : List Str), (∀ w ∈ r, pw w = true) → bad (fun _ w => pw w) i r = none
  | _, [], _ => rfl
  | i, w :: r, h => by
    unfold bad
    rw [if_pos (h w (by simp))]
    exact bad_pw _ r fun x hx => h x (List.mem_cons_of_mem _ hx)
theorem rd_bl : ∀ {n : Nat} {d : PyData} {Ls : List (List Str)}, BL n d Ls → ∀ (pre post : List (List Str)) (m : Nat), n < m → rd (pre ++ Ls ++ post) m pre.length = .inr (d, pre.length + Ls.length)
  | n, d, Ls, h, pre, post, m, hm => by
    obtain ⟨m, rfl⟩ : ∃ k, m = k + 1 := ⟨m - 1, by omega⟩
    rcases h.cases with ⟨ss, h1, h2, rfl, rfl⟩ | ⟨n', rfl, a, b, rows, ha, hb, l1, l3, rfl, rfl, hr⟩
    · obtain ⟨e1, e2⟩ := errS_st h1 h2
      rw [rd_succ (ws := "steps" :: stW ss) (by simp), rdW_s rfl, e1]
      simp only [List.tail_cons, e2]
      rfl
    · have ge : (pre ++ csL a b rows ++ post)[pre.length]? = some (("cases" : Str) :: a :: b :: rows.map (·.1)) := by simp [csL]
      rw [rd_succ ge, rdW_c rfl]
      have eC : errC (("cases" : Str) :: a :: b :: rows.map (·.1)) = none := by
        unfold errC
        have : bad (fun _ w => pw w) 1 (a :: b :: rows.map (·.1)) = none := bad_pw _ _ fun w hw => by
          simp only [List.mem_cons, List.mem_map] at hw
          rcases hw with rfl | rfl | ⟨r, hr', rfl⟩
          · exact (W7_V _ ha).2
          · exact (W7_V _ hb).2
          · exact (W7_V _ (hr r hr').1).2
        rw [List.tail_cons, this]
        simp only
        rw [if_neg (by simp; omega)]
      rw [eC]
      have hrows : ∀ (rs : List Row) (pre2 post2 : List (List Str)) (acc : List PyData), (∀ r ∈ rs, r ∈ rows) → rdRows (rd (pre2 ++ rs.flatMap (·.2.2) ++ post2) m) (rs.map (·.1)) pre2.length acc = .inr (acc ++ rs.map rowD, pre2.length + (rs.flatMap (·.2.2)).length) := by
        intro rs
        induction rs with
        | nil => intro pre2 post2 acc _; simp [rdRows]
        | cons r rs ih =>
          intro pre2 post2 acc hs
          have e1 := rd_bl (hr r (hs r (by simp))).2 pre2 (rs.flatMap (·.2.2) ++ post2) m (by omega)
          have ea : pre2 ++ (r :: rs).flatMap (·.2.2) ++ post2 = pre2 ++ r.2.2 ++ (rs.flatMap (·.2.2) ++ post2) := by simp
          have eb : pre2 ++ r.2.2 ++ (rs.flatMap (·.2.2) ++ post2) = (pre2 ++ r.2.2) ++ rs.flatMap (·.2.2) ++ post2 := by simp
          have e2 := ih (pre2 ++ r.2.2) post2 (acc ++ [rowD r]) fun x hx => hs x (List.mem_cons_of_mem _ hx)
          rw [List.length_append] at e2
          rw [ea, List.map_cons]
          unfold rdRows
          rw [e1]
          simp only
          rw [eb]
          refine e2.trans ?_
          simp
          omega
      have e3 := hrows rows (pre ++ [("cases" : Str) :: a :: b :: rows.map (·.1)]) post [] fun _ h => h
      have e4 : pre ++ [("cases" : Str) :: a :: b :: rows.map (·.1)] ++ rows.flatMap (·.2.2) ++ post = pre ++ csL a b rows ++ post := by simp [csL]
      have e5 : (pre ++ [("cases" : Str) :: a :: b :: rows.map (·.1)]).length = pre.length + 1 := by simp
      rw [e4, e5] at e3
      have e6 : (("cases" : Str) :: a :: b :: rows.map (·.1)).drop 3 = rows.map (·.1) := rfl
      simp only [e6, e3]
      simp [csD, csL]
      omega
theorem due_bl {n : Nat} {d : PyData} {Ls : List (List Str)} (h : BL n d Ls) (hn : n ≤ 3) : due Ls = d := by
  have e := rd_bl h [] [] 100 (by omega)
  rw [List.nil_append, List.append_nil, List.length_nil, Nat.zero_add] at e
  unfold due
  rw [e]
  simp
end Q67

/-! bars are drawn -/
namespace Q67
open K67
open PySem PySem.Spec L2 Ev Lx Ly Pv Lp
theorem pick12 (k : Nat) : Pk (pd (k + 1)) 12 := fun zs => (u12 k _ rfl).trans (Lp.pick zs)
abbrev W7L : List PyData := [.str "x", .str "y", .str "a1", .str "m", .str "WW", .str "ii", .str "OO"]
theorem w7_nat : ∀ n < 7, ∃ w ∈ W7, W7L[n]? = some (.str w) := by
  intro n hn
  match n, hn with
  | 0, _ => exact ⟨"x", by decide, rfl⟩
  | 1, _ => exact ⟨"y", by decide, rfl⟩
  | 2, _ => exact ⟨"a1", by decide, rfl⟩
  | 3, _ => exact ⟨"m", by decide, rfl⟩
  | 4, _ => exact ⟨"WW", by decide, rfl⟩
  | 5, _ => exact ⟨"ii", by decide, rfl⟩
  | 6, _ => exact ⟨"OO", by decide, rfl⟩
theorem w7_at (z : Int) (c : Int) (hc : 0 < c) (hc7 : c ≤ 7) : ∃ w ∈ W7, atI W7L (z % c) = some (.str w) := by
  have h0 := Int.emod_nonneg z (show c ≠ 0 by omega)
  have h1 := Int.emod_lt_of_pos z hc
  obtain ⟨n, hn⟩ : ∃ n : Nat, z % c = n := ⟨(z % c).toNat, by omega⟩
  obtain ⟨w, hw, e⟩ := w7_nat n (by omega)
  exact ⟨w, hw, by rw [hn, atI_n (show n < W7L.length by show n < 7; omega)]; exact e⟩
theorem mod_ok (z : Int) {c : Int} (hc : 0 < c) : modD (.int z) (.int c) = some (.int (z % c)) := ev_modI hc
@[simp] theorem dats_comp {α : Type} (f : α → PyData) (xs : List α) : dats (xs.map (PV.d ∘ f)) = some (xs.map f) := by
  rw [← List.map_map]; exact dats_map _
/-- the branch of steps -/
def brS (P : PFns) : PT := (pSeq (pAsgO 2 3 (pLstM pNil))
    (pSeq (pFor (pRg1 (pOp2 modD (pDat (pCall P 12 (pASlot 0 pANil))) (pVal (.int 4)))) (pgN 2 4) (pExpr (pAppend 3 (pD (pCallB (p1 tupleD) (pCons (pLc (pRg1 (pVal (.int 3))) [6] (pgN 0 6) pTrue (pIx (rName 2) (pOp2 modD (pDat (pCall P 12 (pASlot 0 pANil))) (pVal (.int 7))))) pNil))))))
    (pRet (pD (pTup (pCons (pVal (.str "steps")) (pCons (pFrz 3) pNil)))))))
theorem brS_ok {P : PFns} (hp : Pk P 12) {zs : List Int} (h : Lw.InR 5040 zs) (n : Nat) : ∃ d Ls zs' r, brS P [some (.lst (vI zs)), some (.d (.int n)), some (.d (.tuple W7L)), none, none, none, none] = .rt (.d d) (some (.lst (vI zs')) :: some (.d (.int n)) :: r) ∧ IsSt d Ls ∧ Lw.InR 5040 zs' := by
  have t0 := top_rng h (by decide)
  have m4 := mod_ok (tipZ zs) (show (0 : Int) < 4 by decide)
  obtain ⟨c, hc⟩ : ∃ c : Nat, tipZ zs % 4 = c := ⟨(tipZ zs % 4).toNat, by omega⟩
  have hc3 : c ≤ 3 := by omega
  rw [hc] at m4
  have rg := Lw.rg_ok (c := c) (by omega)
  have r3 : rgI (.int 0) (.int 3) = some [.int 0, .int 1, .int 2] := by rfl
  have hp0 := hp zs
  have lp := loop_some (g := pgN 2 4) (body := (pExpr (pAppend 3 (pD (pCallB (p1 tupleD) (pCons (pLc (pRg1 (pVal (.int 3))) [6] (pgN 0 6) pTrue (pIx (rName 2) (pOp2 modD (pDat (pCall P 12 (pASlot 0 pANil))) (pVal (.int 7))))) pNil)))))) 
    (fun pl ds => ∃ zs ss x4, pl = [some (.lst (vI zs)), some (.d (.int n)), some (.d (.tuple W7L)), some (.lst ((ss.map trD).map .d)), x4, none, none] ∧ Lw.InR 5040 zs ∧ (∀ s ∈ ss, OkT s) ∧ ss.length + ds.length ≤ 3) (Lw.nI (List.range c)) [some (.lst (vI (restZ zs))), some (.d (.int n)), some (.d (.tuple W7L)), some (.lst []), none, none, none]
    ⟨restZ zs, [], none, rfl, rest_InR h, fun _ h => (nomatch h), by rw [Lw.len_nI, List.length_range]; simpa using hc3⟩ (fun pl d ds ⟨zs, ss, x4, e, h1, h2, h3⟩ => by
      subst e
      rw [List.length_cons] at h3
      obtain ⟨w1, i1, e1⟩ := w7_at (tipZ zs) 7 (by decide) (by decide)
      obtain ⟨w2, i2, e2⟩ := w7_at (tipZ (restZ zs)) 7 (by decide) (by decide)
      obtain ⟨w3, i3, e3⟩ := w7_at (tipZ (restZ (restZ zs))) 7 (by decide) (by decide)
      have g1 := mod_ok (tipZ zs) (show (0 : Int) < 7 by decide)
      have g2 := mod_ok (tipZ (restZ zs)) (show (0 : Int) < 7 by decide)
      have g3 := mod_ok (tipZ (restZ (restZ zs))) (show (0 : Int) < 7 by decide)
      have p1 := hp zs
      have p2 := hp (restZ zs)
      have p3 := hp (restZ (restZ zs))
      have hz : ss.length < 16777216 := by omega
      refine ⟨_, [some (.lst (vI (restZ (restZ (restZ zs))))), some (.d (.int n)), some (.d (.tuple W7L)), some (.lst (((ss ++ [(w1, w2, w3)]).map trD).map .d)), some (.d d), none, none], rfl, ?_, restZ (restZ (restZ zs)), ss ++ [(w1, w2, w3)], some (.d d), rfl, rest_InR (rest_InR (rest_InR h1)), fun s hs => ?_, by simp; omega⟩
      · simp -implicitDefEqProofs [-Int.natCast_ediv, -Int.natCast_add, -Int.natCast_emod, -Int.natCast_mul, r3, pcomp_cons, pcomp_nil, putE_eq, p1, p2, p3, g1, g2, g3, e1, e2, e3, tupleD, hz, trD]
      · rcases List.mem_append.mp hs with hs | hs
        · exact h2 s hs
        · rw [List.mem_singleton] at hs; subst hs; exact ⟨i1, i2, i3⟩)
  obtain ⟨pl', lp, zs', ss, x4, rfl, h1, h2, h3⟩ := lp
  refine ⟨stD ss, _, zs', [some (.d (.tuple W7L)), some (.fz (.list (ss.map trD))), x4, none, none], ?_, ⟨ss, h2, by simpa using h3, rfl, rfl⟩, h1⟩
  have hl : ss.length ≤ 16777216 := by simp at h3; omega
  unfold brS
  simp -implicitDefEqProofs [-Int.natCast_ediv, -Int.natCast_add, -Int.natCast_emod, -Int.natCast_mul, hp0, m4, rg, lp]
  rfl
/-- the branch of cases -/
def brC (P : PFns) : PT := (pSeq (pAsg (pgN 2 5) (pLc (pRg1 (pOp2 addD (pVal (.int 1)) (pOp2 modD (pDat (pCall P 12 (pASlot 0 pANil))) (pVal (.int 3))))) [4] (pgN 0 4) pTrue (pTup (pCons (pIx (rName 2) (pOp2 modD (pDat (pCall P 12 (pASlot 0 pANil))) (pVal (.int 7)))) (pCons (pDat (pCall P 14 (pASlot 0 (pAVal (pD (pOp2 subD (pName 1) (pVal (.int 1)))) pANil)))) pNil)))))
    (pRet (pD (pTup (pCons (pVal (.str "cases")) (pCons (pIx (rName 2) (pOp2 modD (pDat (pCall P 12 (pASlot 0 pANil))) (pVal (.int 3)))) (pCons (pIx (rName 2) (pOp2 modD (pDat (pCall P 12 (pASlot 0 pANil))) (pVal (.int 3)))) (pCons (pName 5) pNil))))))))
def Drw (P : PFns) (n : Nat) : Prop := ∀ zs, Lw.InR 5040 zs → ∃ d Ls zs', P 14 [.lst (vI zs), .d (.int n)] = .ok (.d d) [.lst (vI zs'), .d (.int n)] ∧ BL n d Ls ∧ Lw.InR 5040 zs'
theorem rowsC {P : PFns} (hp : Pk P 12) {n : Nat} (hr : Drw P n) : ∀ (is : List Nat) (rows : List Row) (zs : List Int), Lw.InR 5040 zs → rows.length + is.length ≤ 3 → (∀ r ∈ rows, r.1 ∈ W7 ∧ BL n r.2.1 r.2.2) →
    ∃ (rows' : List Row) (zs' : List Int), pcompF [4] (pgN 0 4) pTrue (pputE (pTup (pCons (pIx (rName 2) (pOp2 modD (pDat (pCall P 12 (pASlot 0 pANil))) (pVal (.int 7)))) (pCons (pDat (pCall P 14 (pASlot 0 (pAVal (pD (pOp2 subD (pName 1) (pVal (.int 1)))) pANil)))) pNil)))) (Lw.nI is) (rows.map rowD) [some (.lst (vI zs)), some (.d (.int ((n + 1 : Nat) : Int))), some (.d (.tuple W7L)), none, none, none, none] =
      .ok (rows'.map rowD) [some (.lst (vI zs')), some (.d (.int ((n + 1 : Nat) : Int))), some (.d (.tuple W7L)), none, none, none, none] ∧ Lw.InR 5040 zs' ∧ rows'.length = rows.length + is.length ∧ ∀ r ∈ rows', r.1 ∈ W7 ∧ BL n r.2.1 r.2.2
  | [], rows, zs, h, _, hb => ⟨rows, zs, rfl, h, rfl, hb⟩
  | i :: is, rows, zs, h, hl, hb => by
    rw [List.length_cons] at hl
    obtain ⟨w1, i1, e1⟩ := w7_at (tipZ zs) 7 (by decide) (by decide)
    have g1 := mod_ok (tipZ zs) (show (0 : Int) < 7 by decide)
    have p1 := hp zs
    obtain ⟨d, Ls, zs2, e2, b2, h2⟩ := hr (restZ zs) (rest_InR h)
    obtain ⟨rows', zs', e, k1, k2, k3⟩ := rowsC hp hr is (rows ++ [(w1, d, Ls)]) zs2 h2 (by simp; omega) fun r hr' => by
      rcases List.mem_append.mp hr' with hr' | hr'
      · exact hb r hr'
      · rw [List.mem_singleton] at hr'; subst hr'; exact ⟨i1, b2⟩
    refine ⟨rows', zs', ?_, k1, by rw [k2]; simp; omega, k3⟩
    have hz : rows.length < 16777216 := by omega
    have sn : ((n + 1 : Nat) : Int) - 1 = (n : Int) := by omega
    rw [List.map_append] at e
    show pcompF _ _ _ _ (PyData.int i :: Lw.nI is) _ _ = _
    have er : [(w1, d, Ls)].map rowD = [PyData.tuple [.str w1, d]] := rfl
    rw [er] at e
    simp -implicitDefEqProofs [-Int.natCast_ediv, -Int.natCast_add, -Int.natCast_emod, -Int.natCast_mul, pcomp_cons, putE_eq, p1, g1, e1, sn, e2, hz]
    exact e
theorem brC_ok {P : PFns} (hp : Pk P 12) {n : Nat} (hr : Drw P n) {zs : List Int} (h : Lw.InR 5040 zs) : ∃ d Ls zs' r, brC P [some (.lst (vI zs)), some (.d (.int ((n + 1 : Nat) : Int))), some (.d (.tuple W7L)), none, none, none, none] = .rt (.d d) (some (.lst (vI zs')) :: some (.d (.int ((n + 1 : Nat) : Int))) :: r) ∧ BL (n + 1) d Ls ∧ Lw.InR 5040 zs' := by
  have m3 := mod_ok (tipZ zs) (show (0 : Int) < 3 by decide)
  obtain ⟨c, hc⟩ : ∃ c : Nat, tipZ zs % 3 = c := ⟨(tipZ zs % 3).toNat, by omega⟩
  have hc3 : c ≤ 2 := by omega
  rw [hc] at m3
  have c1 : 1 + (c : Int) = ((c + 1 : Nat) : Int) := by omega
  have rg := Lw.rg_ok (c := c + 1) (by omega)
  have hp0 := hp zs
  obtain ⟨rows, zs2, e, h2, l2, hb⟩ := rowsC hp hr (List.range (c + 1)) [] (restZ zs) (rest_InR h) (by simp; omega) fun _ h => nomatch h
  obtain ⟨w1, i1, e1⟩ := w7_at (tipZ zs2) 3 (by decide) (by decide)
  obtain ⟨w2, i2, e2⟩ := w7_at (tipZ (restZ zs2)) 3 (by decide) (by decide)
  have g1 := mod_ok (tipZ zs2) (show (0 : Int) < 3 by decide)
  have g2 := mod_ok (tipZ (restZ zs2)) (show (0 : Int) < 3 by decide)
  have p1 := hp zs2
  have p2 := hp (restZ zs2)
  rw [List.map_nil] at e
  refine ⟨csD w1 w2 rows, csL w1 w2 rows, restZ (restZ zs2), [some (.d (.tuple W7L)), none, none, some (.d (.list (rows.map rowD))), none], ?_, .inr ⟨w1, w2, rows, i1, i2, by rw [l2]; simp, by rw [l2]; simp; omega, rfl, rfl, hb⟩, rest_InR (rest_InR h2)⟩
  unfold brC
  simp -implicitDefEqProofs [-Int.natCast_ediv, -Int.natCast_add, -Int.natCast_emod, -Int.natCast_mul, hp0, m3, c1, rg, e, p1, p2, g1, g2, e1, e2]
  rfl
theorem pb14_eq (P Pm : PFns) : pb14 P Pm = (pSeq (pAsg (pgN 2 2) (pTup (pCons (pVal (.str "x")) (pCons (pVal (.str "y")) (pCons (pVal (.str "a1")) (pCons (pVal (.str "m")) (pCons (pVal (.str "WW")) (pCons (pVal (.str "ii")) (pCons (pVal (.str "OO")) pNil)))))))))
    (pSeq (pIte (pOrT (pToB (pOp2 (boolD leD) (pName 1) (pVal (.int 0)))) (pToB (pOp2 (boolD eqD) (pOp2 modD (pDat (pCall P 12 (pASlot 0 pANil))) (pVal (.int 3))) (pVal (.int 0))))) (brS P) pSkip) (brC P))) := rfl
theorem drw14 (k : Nat) : ∀ n : Nat, Drw (pd (k + n + 2)) n := by
  intro n
  induction n with
  | zero =>
    intro zs h
    have hp := pick12 (k + 0)
    rw [u14 _ _ rfl]
    generalize pd (k + 0 + 1) = P at *
    obtain ⟨d, Ls, zs', r, e, h1, h2⟩ := brS_ok hp h 0
    refine ⟨d, Ls, zs', ?_, .st h1, h2⟩
    rw [pb14_eq]
    have e' : brS P [some (.lst (vI zs)), some (.d (.int 0)), some (.d (.tuple W7L)), none, none, none, none] = .rt (.d d) (some (.lst (vI zs')) :: some (.d (.int 0)) :: r) := e
    simp -implicitDefEqProofs [-Int.natCast_ediv, -Int.natCast_add, -Int.natCast_emod, -Int.natCast_mul, e']
  | succ n ih =>
    intro zs h
    have hp : Pk (pd (k + n + 2)) 12 := pick12 (k + n + 1)
    have e0 : k + (n + 1) + 2 = k + n + 2 + 1 := by omega
    rw [e0, u14 _ _ rfl]
    generalize pd (k + n + 2) = P at *
    rw [pb14_eq]
    have n0 : ¬ (((n + 1 : Nat) : Int) ≤ 0) := by omega
    have m3 := mod_ok (tipZ zs) (show (0 : Int) < 3 by decide)
    have hp0 := hp zs
    by_cases h3 : tipZ zs % 3 = 0
    · obtain ⟨d, Ls, zs', r, e, h1, h2⟩ := brS_ok hp (rest_InR h) (n + 1)
      refine ⟨d, Ls, zs', ?_, .st h1, h2⟩
      rw [h3] at m3
      simp -implicitDefEqProofs [-Int.natCast_ediv, -Int.natCast_add, -Int.natCast_emod, -Int.natCast_mul, n0, hp0, m3, e]
    · obtain ⟨d, Ls, zs', r, e, h1, h2⟩ := brC_ok hp ih (rest_InR h)
      refine ⟨d, Ls, zs', ?_, h1, h2⟩
      simp -implicitDefEqProofs [-Int.natCast_ediv, -Int.natCast_add, -Int.natCast_emod, -Int.natCast_mul, n0, hp0, m3, h3, e]
end Q67

/-! lines of bars, as the law and as the program write them -/
namespace Q67
open K67
open PySem PySem.Spec L2 Ev Lx Ly Pv Lp
theorem add_lS {a b : List Str} (h : a.length + b.length ≤ 10000) : addD (lS a) (lS b) = some (lS (a ++ b)) := by
  show (if (a.map PyData.str).length + (b.map PyData.str).length ≤ 16777216 then some (PyData.list (a.map .str ++ b.map .str)) else none) = _
  rw [List.length_map, List.length_map, if_pos (by omega), ← List.map_append]
  rfl
theorem add_lD {a b : List (List Str)} (h : a.length + b.length ≤ 10000) : addD (lD a) (lD b) = some (lD (a ++ b)) := by
  show (if (a.map lS).length + (b.map lS).length ≤ 16777216 then some (PyData.list (a.map lS ++ b.map lS)) else none) = _
  rw [List.length_map, List.length_map, if_pos (by omega), ← List.map_append]
  rfl
/-- the lines as texts -/
def tD (L : List (List Str)) : PyData := .list (L.map fun ws => .str (J ws))
theorem add_tD {a b : List (List Str)} (h : a.length + b.length ≤ 10000) : addD (tD a) (tD b) = some (tD (a ++ b)) := by
  show (if (a.map fun ws => PyData.str (J ws)).length + (b.map fun ws => PyData.str (J ws)).length ≤ 16777216 then some (PyData.list ((a.map fun ws => .str (J ws)) ++ b.map fun ws => .str (J ws))) else none) = _
  rw [List.length_map, List.length_map, if_pos (by omega), ← List.map_append]
  rfl
theorem addL (xs ys : List PyData) : addD (.list xs) (.list ys) = if xs.length + ys.length ≤ 16777216 then some (.list (xs ++ ys)) else none := rfl
theorem addS (x y : Str) : addD (.str x) (.str y) = if x.length + y.length ≤ 16777216 then some (.str (x ++ y)) else none := rfl
theorem ixDl (ds : List PyData) (i : Int) : ixD (.list ds) (.int i) = atI ds i := rfl
theorem flat_len {n : Nat} {rows : List Row} (hb : ∀ r ∈ rows, r.1 ∈ W7 ∧ BL n r.2.1 r.2.2) (hn : n ≤ 3) : ∀ rs : List Row, (∀ r ∈ rs, r ∈ rows) → (rs.flatMap (·.2.2)).length ≤ rs.length * 64 := by
  intro rs
  induction rs with
  | nil => intro _; simp
  | cons r rs ih =>
    intro h
    have h1 := ih fun x hx => h x (List.mem_cons_of_mem _ hx)
    have h2 := (bl_okL (hb r (h r (by simp))).2 hn).2.2
    rw [List.flatMap_cons, List.length_append, List.length_cons, Nat.add_mul]
    omega
theorem lines15 (k : Nat) : ∀ (n : Nat), n ≤ 3 → ∀ (d : PyData) (Ls : List (List Str)), BL n d Ls → pd (k + n + 1) 15 [.d d] = .ok (.d (lD Ls)) [.d d] := by
  have stp : ∀ (P Pm : PFns) (ss : List Tr), ss.length ≤ 3 → finP [.d (stD ss)] (pb15 P Pm (penter 5 [.d (stD ss)])) = .ok (.d (lD [("steps" : Str) :: stW ss])) [.d (stD ss)] := by
    intro P Pm ss h3
    have r0 : pRep.repP [.str ";"] (.int 0) = some (.list []) := by rfl
    have r1 : pRep.repP [.str ";"] (.int 1) = some (.list [.str ";"]) := by rfl
    have i0 : intD (.bool false) = some (.int 0) := by rfl
    have i1 : intD (.bool true) = some (.int 1) := by rfl
    have g0 : rgI (.int 0) (.int 0) = some [] := by rfl
    have g1 : rgI (.int 0) (.int 1) = some [.int 0] := by rfl
    have g2 : rgI (.int 0) (.int 2) = some [.int 0, .int 1] := by rfl
    have g3 : rgI (.int 0) (.int 3) = some [.int 0, .int 1, .int 2] := by rfl
    have le : ∀ xs, listE (.tuple xs) = some (.list xs) := fun _ => rfl
    have x0 : ∀ a b : PyData, atI [a, b] (0 : Int) = some a := fun _ _ => rfl
    have x1 : ∀ a b : PyData, atI [a, b] (1 : Int) = some b := fun _ _ => rfl
    have y0 : ∀ a : PyData, atI [a] (0 : Int) = some a := fun _ => rfl
    have z0 : ∀ a b c : PyData, atI [a, b, c] (0 : Int) = some a := fun _ _ _ => rfl
    have z1 : ∀ a b c : PyData, atI [a, b, c] (1 : Int) = some b := fun _ _ _ => rfl
    have z2 : ∀ a b c : PyData, atI [a, b, c] (2 : Int) = some c := fun _ _ _ => rfl
    unfold pb15
    rcases three h3 with rfl | ⟨s, rfl⟩ | ⟨s, t, rfl⟩ | ⟨s, t, u, rfl⟩ <;> simp -implicitDefEqProofs [-Int.natCast_ediv, -Int.natCast_add, -Int.natCast_emod, -Int.natCast_mul, stD, x0, x1, y0, z0, z1, z2, r0, r1, i0, i1, g0, g1, g2, g3, le, ploop_cons, ploop_nil, ixDl, addL, trD, lD, lS, stW]
  intro n
  induction n with
  | zero =>
    intro _ d Ls h
    obtain ⟨ss, h1, h2, rfl, rfl⟩ := h
    rw [u15 _ _ rfl]
    exact stp _ _ ss h2
  | succ n ih =>
    intro hn d Ls h
    rw [show k + (n + 1) + 1 = (k + n + 1) + 1 by omega, u15 _ _ rfl]
    rcases h with ⟨ss, h1, h2, rfl, rfl⟩ | ⟨a, b, rows, ha, hb, l1, l3, rfl, rfl, hr⟩
    · exact stp _ _ ss h2
    · have ih := ih (by omega)
      generalize pd (k + n + 1) = P at *
      generalize pm (k + n + 1) = Pm at *
      have ns : ¬ (("cases" : Str) = "steps") := by decide
      have q0 : ∀ a b c d : PyData, atI [a, b, c, d] (0 : Int) = some a := fun _ _ _ _ => rfl
      have q1 : ∀ a b c d : PyData, atI [a, b, c, d] (1 : Int) = some b := fun _ _ _ _ => rfl
      have q2 : ∀ a b c d : PyData, atI [a, b, c, d] (2 : Int) = some c := fun _ _ _ _ => rfl
      have q3 : ∀ a b c d : PyData, atI [a, b, c, d] (3 : Int) = some d := fun _ _ _ _ => rfl
      have x0 : ∀ a b : PyData, atI [a, b] (0 : Int) = some a := fun _ _ => rfl
      have x1 : ∀ a b : PyData, atI [a, b] (1 : Int) = some b := fun _ _ => rfl
      have hc : pcompF [4] (pgN 0 4) pTrue (pputE (pIx (rName 4) (pVal (.int 0)))) (rows.map rowD) [] [some (.d (csD a b rows)), none, none, none, none] = .ok (rows.map fun r => .str r.1) [some (.d (csD a b rows)), none, none, none, none] :=
        comp_mapE rowD (fun r : Row => PyData.str r.1) rows (by omega) fun r hr' => ⟨_, rfl, rfl, by simp -implicitDefEqProofs [-Int.natCast_ediv, -Int.natCast_add, -Int.natCast_emod, -Int.natCast_mul, rowD, x0]⟩
      have hl : ∀ (rs : List Row) (acc : List (List Str)) (x4 : Option PV), (∀ r ∈ rs, r ∈ rows) → acc.length + rs.length * 64 ≤ 1000 →
          ∃ y4, ploopF (pgN 1 4) (pAsg (pgN 1 3) (pOp2 addD (pName 3) (pDat (pCall P 15 (pAVal (pD (pIx (rName 4) (pVal (.int 1)))) pANil))))) (rs.map rowD) [some (.d (csD a b rows)), none, none, some (.d (lD acc)), x4] = .nx [some (.d (csD a b rows)), none, none, some (.d (lD (acc ++ rs.flatMap (·.2.2)))), y4] := by
        intro rs
        induction rs with
        | nil => intro acc x4 _ _; exact ⟨x4, by simp [ploopF]⟩
        | cons r rs ih2 =>
          intro acc x4 hs hz
          have hr1 := hr r (hs r (by simp))
          have ln := (bl_okL hr1.2 (by omega)).2.2
          rw [List.length_cons, Nat.add_mul] at hz
          obtain ⟨y4, e⟩ := ih2 (acc ++ r.2.2) (some (.d (rowD r))) (fun x hx => hs x (List.mem_cons_of_mem _ hx)) (by rw [List.length_append]; omega)
          refine ⟨y4, ?_⟩
          have e1 := ih r.2.1 r.2.2 hr1.2
          have e2 := add_lD (a := acc) (b := r.2.2) (by omega)
          rw [List.map_cons, ploop_cons]
          have e3 : ixP (.d (rowD r)) (.int 1) = some (.d r.2.1) := rfl
          simp -implicitDefEqProofs [-Int.natCast_ediv, -Int.natCast_add, -Int.natCast_emod, -Int.natCast_mul, e3, e1, e2]
          rw [← List.append_assoc]
          exact e
      obtain ⟨y4, e⟩ := hl rows [("cases" : Str) :: a :: b :: rows.map (·.1)] none (fun _ h => h) (by simp; omega)
      have el : PyData.list [.list (.str "cases" :: .str a :: .str b :: rows.map fun r => .str r.1)] = lD [("cases" : Str) :: a :: b :: rows.map (·.1)] := by simp [lD, lS]
      have i0 : ixP (.d (csD a b rows)) (.int 0) = some (.d (.str "cases")) := rfl
      have i1 : ixP (.d (csD a b rows)) (.int 1) = some (.d (.str a)) := rfl
      have i2 : ixP (.d (csD a b rows)) (.int 2) = some (.d (.str b)) := rfl
      have i3 : ixP (.d (csD a b rows)) (.int 3) = some (.d (.list (rows.map rowD))) := rfl
      have z : 3 + rows.length ≤ 16777216 := by omega
      have z2 : rows.length + 1 + 1 + 1 ≤ 16777216 := by omega
      unfold pb15
      simp -implicitDefEqProofs [-Int.natCast_ediv, -Int.natCast_add, -Int.natCast_emod, -Int.natCast_mul, i0, i1, i2, i3, ns, hc, addL, z, z2, el, e]
      rfl
/-! ### the program's lines -/
theorem stJ {ss : List Tr} (hl : ss.length ≤ 3) (hn : ss ≠ []) : ("steps " : Str) ++ Txt.join " ; " (ss.map fun s => Txt.join " " [s.1, s.2.1, s.2.2]) = J (("steps" : Str) :: stW ss) := by
  refine TL.ext_tl ?_
  have c1 : TL.tl ("steps " : Str) = TL.tl ("steps" : Str) ++ [32] := by rfl
  have c2 : TL.tl (" ; " : Str) = [32] ++ (TL.tl (";" : Str) ++ [32]) := by rfl
  have c3 : TL.tl (" " : Str) = [32] := by rfl
  have j3 : ∀ a b c : Str, TL.tl (Txt.join " " [a, b, c]) = TL.tl a ++ ([32] ++ (TL.tl b ++ ([32] ++ TL.tl c))) := fun a b c => by
    rw [TL.join_eq, TL.tl_join, c3]
    rfl
  rw [TL.tl_append, tl_J, TL.join_eq, TL.tl_join, c1, c2]
  rcases three hl with rfl | ⟨s, rfl⟩ | ⟨s, t, rfl⟩ | ⟨s, t, u, rfl⟩
  · exact absurd rfl hn
  · simp [TL.joinL, stW, j3]
  · simp [TL.joinL, stW, j3]
  · simp [TL.joinL, stW, j3]
theorem join3 {s : Tr} (h : OkT s) : joinD (.str " ") [trD s] = some (.str (Txt.join " " [s.1, s.2.1, s.2.2])) ∧ (Txt.join " " [s.1, s.2.1, s.2.2]).length ≤ 20 := by
  obtain ⟨a, b, c⟩ := h
  have la := (V_ok (W7_V _ a).1).2.2
  have lb := (V_ok (W7_V _ b).1).2.2
  have lc := (V_ok (W7_V _ c).1).2.2
  constructor
  · show (if (([s.1, s.2.1, s.2.2] : List Str).map (·.length)).sum + ([s.1, s.2.1, s.2.2] : List Str).length * (" " : Str).length ≤ 16777216 then _ else _) = _
    rw [if_pos]
    · have e1 : (" " : Str).length = 1 := by rfl
      simp only [List.map_cons, List.map_nil, List.sum_cons, List.sum_nil, List.length_cons, List.length_nil, str_len, e1]
      have e2 : (TL.tl (" " : Str)).length = 1 := by rfl
      omega
  · rw [str_len, TL.join_eq, TL.tl_join]
    have e2 : TL.tl (" " : Str) = [32] := by rfl
    rw [e2]
    have := len_joinL (S := [32]) (c := 5) (ps := [s.1, s.2.1, s.2.2].map TL.tl) (fun p hp => by simp at hp; rcases hp with rfl | rfl | rfl <;> assumption)
    simp at this ⊢
    omega
theorem lines0 (k : Nat) : ∀ (n : Nat), n ≤ 3 → ∀ (d : PyData) (Ls : List (List Str)), BL n d Ls → pd (k + n + 1) 0 [.d d] = .ok (.d (tD Ls)) [.d d] := by
  have stp : ∀ (P Pm : PFns) (ss : List Tr), (∀ s ∈ ss, OkT s) → ss.length ≤ 3 → finP [.d (stD ss)] (pb0 P Pm (penter 6 [.d (stD ss)])) = .ok (.d (tD [("steps" : Str) :: stW ss])) [.d (stD ss)] := by
    intro P Pm ss hs h3
    have i0 : ixP (.d (stD ss)) (.int 0) = some (.d (.str "steps")) := rfl
    have i1 : ixP (.d (stD ss)) (.int 1) = some (.d (.list (ss.map trD))) := rfl
    have hc : pcompF [5] (pgN 0 5) pTrue (pputE (pMth "str" joinD (pVal (.str " ")) (pCons (pName 5) pNil))) (ss.map trD) [] [some (.d (stD ss)), none, none, none, none, none] = .ok (ss.map fun s => .str (Txt.join " " [s.1, s.2.1, s.2.2])) [some (.d (stD ss)), none, none, none, none, none] :=
      comp_mapE trD (fun s : Tr => PyData.str (Txt.join " " [s.1, s.2.1, s.2.2])) ss (by omega) fun s hs' => ⟨_, rfl, rfl, by
        have j3 := (join3 (hs s hs')).1
        simp -implicitDefEqProofs [-Int.natCast_ediv, -Int.natCast_add, -Int.natCast_emod, -Int.natCast_mul, j3]⟩
    have e3 : (" ; " : Str).length = 3 := by rfl
    have tb : (Txt.join " ; " (ss.map fun s => Txt.join " " [s.1, s.2.1, s.2.2])).length ≤ 100 := by
      rw [str_len, TL.join_eq, TL.tl_join]
      have e2 : (TL.tl (" ; " : Str)).length = 3 := by rfl
      have := len_joinL (S := TL.tl (" ; " : Str)) (c := 20) (ps := (ss.map fun s => Txt.join " " [s.1, s.2.1, s.2.2]).map TL.tl) (fun p hp => by
        rw [List.map_map] at hp
        obtain ⟨s, hs', rfl⟩ := List.mem_map.mp hp
        have := (join3 (hs s hs')).2
        rw [str_len] at this
        exact this)
      rw [List.length_map, List.length_map, e2] at this
      omega
    have j2 : joinD (.str " ; ") [.list (ss.map fun s => .str (Txt.join " " [s.1, s.2.1, s.2.2]))] = some (.str (Txt.join " ; " (ss.map fun s => Txt.join " " [s.1, s.2.1, s.2.2]))) := by
      have e : ss.map (fun s => PyData.str (Txt.join " " [s.1, s.2.1, s.2.2])) = (ss.map fun s => Txt.join " " [s.1, s.2.1, s.2.2]).map PyData.str := by rw [List.map_map]; rfl
      rw [e]
      show (strsOf _).bind _ = _
      rw [strsOf_map]
      show (if ((ss.map fun s => Txt.join " " [s.1, s.2.1, s.2.2]).map (·.length)).sum + (ss.map fun s => Txt.join " " [s.1, s.2.1, s.2.2]).length * (" ; " : Str).length ≤ 16777216 then _ else _) = _
      rw [if_pos]
      · have h1 := sum_le (c := 20) (ns := (ss.map fun s => Txt.join " " [s.1, s.2.1, s.2.2]).map (·.length)) fun n hn => by
          rw [List.map_map] at hn
          obtain ⟨s, hs', rfl⟩ := List.mem_map.mp hn
          exact (join3 (hs s hs')).2
        rw [List.length_map, List.length_map] at h1
        rw [List.length_map, e3]
        omega
    have sl : ("steps " : Str).length = 6 := by rfl
    unfold pb0
    by_cases h0 : ss = []
    · subst h0
      have l0 : ¬ ((0 : Int) < (([] : List Tr).map trD).length) := by simp
      have fin : PyData.list [.str "steps"] = tD [("steps" : Str) :: stW []] := rfl
      rw [List.map_nil] at i1 hc
      simp -implicitDefEqProofs [-Int.natCast_ediv, -Int.natCast_add, -Int.natCast_emod, -Int.natCast_mul, i0, i1, hc, j2, fin]
      rfl
    · have hp := List.length_pos_iff.mpr h0
      have l0 : ((0 : Int) < (ss.length : Int)) := by omega
      have ad : addD (.str "steps ") (.str (Txt.join " ; " (ss.map fun s => Txt.join " " [s.1, s.2.1, s.2.2]))) = some (.str (J (("steps" : Str) :: stW ss))) := by
        rw [addS, if_pos (by rw [sl]; omega), stJ h3 h0]
      have fin : PyData.list [.str (J (("steps" : Str) :: stW ss))] = tD [("steps" : Str) :: stW ss] := rfl
      simp -implicitDefEqProofs [-Int.natCast_ediv, -Int.natCast_add, -Int.natCast_emod, -Int.natCast_mul, i0, i1, hc, j2, hp, ad, fin]
  intro n
  induction n with
  | zero =>
    intro _ d Ls h
    obtain ⟨ss, h1, h2, rfl, rfl⟩ := h
    rw [u0 _ _ rfl]
    exact stp _ _ ss h1 h2
  | succ n ih =>
    intro hn d Ls h
    have hBL := h
    rw [show k + (n + 1) + 1 = (k + n + 1) + 1 by omega, u0 _ _ rfl]
    rcases h with ⟨ss, h1, h2, rfl, rfl⟩ | ⟨a, b, rows, ha, hb, l1, l3, rfl, rfl, hr⟩
    · exact stp _ _ ss h1 h2
    · have okh : OkW (("cases" : Str) :: a :: b :: rows.map (·.1)) := ((bl_ok hBL).1 _ (by simp [csL])).1
      have ih := ih (by omega)
      generalize pd (k + n + 1) = P at *
      generalize pm (k + n + 1) = Pm at *
      have ns : ¬ (("cases" : Str) = "steps") := by decide
      have hc : pcompF [3, 4] (pgTup [(pgN 0 3), (pgN 0 4)]) pTrue (pputE (pName 3)) (rows.map rowD) [] [some (.d (csD a b rows)), none, none, none, none, none] = .ok (rows.map fun r => .str r.1) [some (.d (csD a b rows)), none, none, none, none, none] :=
        comp_mapE rowD (fun r : Row => PyData.str r.1) rows (by omega) fun r hr' => ⟨_, rfl, rfl, by rfl⟩
      have hl : ∀ (rs : List Row) (acc : List (List Str)) (x3 x4 : Option PV), (∀ r ∈ rs, r ∈ rows) → acc.length + rs.length * 64 ≤ 1000 → (isDat (some x3) = true ∨ True) →
          ∃ y3 y4, ploopF (pgTup [(pgN 1 3), (pgN 1 4)]) (pAsg (pgN 1 2) (pOp2 addD (pName 2) (pDat (pCall P 0 (pASlot 4 pANil))))) (rs.map rowD) [some (.d (csD a b rows)), none, some (.d (tD acc)), x3, x4, none] = .nx [some (.d (csD a b rows)), none, some (.d (tD (acc ++ rs.flatMap (·.2.2)))), y3, y4, none] := by
        intro rs
        induction rs with
        | nil => intro acc x3 x4 _ _ _; exact ⟨x3, x4, by simp [ploopF]⟩
        | cons r rs ih2 =>
          intro acc x3 x4 hs hz _
          have hr1 := hr r (hs r (by simp))
          have ln := (bl_okL hr1.2 (by omega)).2.2
          rw [List.length_cons, Nat.add_mul] at hz
          obtain ⟨y3, y4, e⟩ := ih2 (acc ++ r.2.2) (some (.d (.str r.1))) (some (.d r.2.1)) (fun x hx => hs x (List.mem_cons_of_mem _ hx)) (by rw [List.length_append]; omega) (.inr trivial)
          refine ⟨y3, y4, ?_⟩
          have e1 := ih r.2.1 r.2.2 hr1.2
          have e2 := add_tD (a := acc) (b := r.2.2) (by omega)
          rw [List.map_cons, ploop_cons]
          have e3 : rowD r = .tuple [.str r.1, r.2.1] := rfl
          simp -implicitDefEqProofs [-Int.natCast_ediv, -Int.natCast_add, -Int.natCast_emod, -Int.natCast_mul, e3, e1, e2]
          rw [← List.append_assoc]
          exact e
      obtain ⟨y3, y4, e⟩ := hl rows [("cases" : Str) :: a :: b :: rows.map (·.1)] none none (fun _ h => h) (by simp; omega) (.inr trivial)
      have el : PyData.list (.str "cases" :: .str a :: .str b :: rows.map fun r => .str r.1) = lS (("cases" : Str) :: a :: b :: rows.map (·.1)) := by simp [lS]
      have ej := joinJ okh
      have et : PyData.list [.str (J (("cases" : Str) :: a :: b :: rows.map (·.1)))] = tD [("cases" : Str) :: a :: b :: rows.map (·.1)] := rfl
      have i0 : ixP (.d (csD a b rows)) (.int 0) = some (.d (.str "cases")) := rfl
      have i1 : ixP (.d (csD a b rows)) (.int 1) = some (.d (.str a)) := rfl
      have i2 : ixP (.d (csD a b rows)) (.int 2) = some (.d (.str b)) := rfl
      have i3 : ixP (.d (csD a b rows)) (.int 3) = some (.d (.list (rows.map rowD))) := rfl
      have z : 3 + rows.length ≤ 16777216 := by omega
      unfold pb0
      simp -implicitDefEqProofs [-Int.natCast_ediv, -Int.natCast_add, -Int.natCast_emod, -Int.natCast_mul, i0, i1, i2, i3, ns, hc, addL, z, el, ej, et, e]
      rfl
theorem text1 (k : Nat) {n : Nat} (hn : n ≤ 3) {d : PyData} {Ls : List (List Str)} (h : BL n d Ls) : pd (k + n + 2) 1 [.d d] = .ok (.d (.str (JL Ls))) [.d d] := by
  have e := lines0 k n hn d Ls h
  have j := joinJL (bl_okL h hn).1
  rw [u1 _ _ rfl]
  generalize pd (k + n + 1) = P at *
  unfold pb1
  unfold tD at e
  simp -implicitDefEqProofs [-Int.natCast_ediv, -Int.natCast_add, -Int.natCast_emod, -Int.natCast_mul, e, j]
end Q67

/-! changed lines, the law -/
namespace Q67
open K67
open PySem PySem.Spec L2 Ev Lx Ly Pv Lp
theorem sl_to (ws : List Str) (n : Nat) : slD (lS ws) none (some (n : Int)) = some (lS (ws.take n)) := by
  rw [sl_lS, Ly.cut_to, ← List.map_take]; rfl
theorem sl_fr (ws : List Str) (n : Nat) : slD (lS ws) (some (n : Int)) none = some (lS (ws.drop n)) := by
  rw [sl_lS, Ly.cut_from, ← List.map_drop]; rfl
theorem slD_to (L : List (List Str)) (n : Nat) : slD (lD L) none (some (n : Int)) = some (lD (L.take n)) := by
  show some (PyData.list (cutL (L.map lS) none (some (n : Int)))) = _
  rw [Ly.cut_to, ← List.map_take]; rfl
theorem slD_fr (L : List (List Str)) (n : Nat) : slD (lD L) (some (n : Int)) none = some (lD (L.drop n)) := by
  show some (PyData.list (cutL (L.map lS) (some (n : Int)) none)) = _
  rw [Ly.cut_from, ← List.map_drop]; rfl
theorem add1S {a : List Str} {w : Str} (h : a.length ≤ 5000) : addD (lS a) (.list [.str w]) = some (lS (a ++ [w])) := add_lS (b := [w]) (by simp; omega)
theorem add1D {a : List (List Str)} {w : List Str} (h : a.length ≤ 5000) : addD (lD a) (.list [lS w]) = some (lD (a ++ [w])) := add_lD (b := [w]) (by simp; omega)
/-- small lines, that may still grow -/
structure SmL (L : List (List Str)) : Prop where
  ws : ∀ ws ∈ L, OkW ws ∧ ws.length ≤ 500
  len : L.length ≤ 400
  ne : L ≠ []
theorem SmL.ok {L : List (List Str)} (h : SmL L) : OkL L := ⟨fun ws hw => (h.ws ws hw).1, by have := h.len; omega⟩
theorem okW_of {ws : List Str} (hm : ∀ w ∈ ws, w ∈ V) (hl : ws.length ≤ 1000) : OkW (if ws.length > 0 then ws else [""]) := by
  split
  · rename_i h
    exact ⟨fun e => by subst e; simp at h, hm, hl⟩
  · exact ⟨by simp, fun w hw => by rw [List.mem_singleton] at hw; subst hw; decide, by simp⟩
theorem okL_of {L : List (List Str)} (h : SmL L) {ws : List Str} (hw : OkW ws) (i j : Nat) : OkL (L.take i ++ [ws] ++ L.drop j) ∧ L.take i ++ [ws] ++ L.drop j ≠ [] := by
  refine ⟨⟨fun x hx => ?_, by have := h.len; simp only [List.length_append, List.length_take, List.length_drop, List.length_singleton]; omega⟩, by simp⟩
  simp only [List.mem_append, List.mem_singleton] at hx
  rcases hx with (hx | rfl) | hx
  · exact (h.ws x (List.mem_of_mem_take hx)).1
  · exact hw
  · exact (h.ws x (List.mem_of_mem_drop hx)).1
theorem v8_at (z : Int) : ∃ w ∈ V, atI [PyData.str "steps", .str "cases", .str ";", .str "", .str "x", .str "x-y", .str "W", .str "1"] (z % 8) = some (.str w) := by
  have h0 := Int.emod_nonneg z (show (8 : Int) ≠ 0 by decide)
  have h1 := Int.emod_lt_of_pos z (show (0 : Int) < 8 by decide)
  obtain ⟨n, hn⟩ : ∃ n : Nat, z % 8 = n := ⟨(z % 8).toNat, by omega⟩
  have hn8 : n < 8 := by omega
  rw [hn, atI_n (by simpa using hn8)]
  match n, hn8 with
  | 0, _ => exact ⟨"steps", by decide, rfl⟩
  | 1, _ => exact ⟨"cases", by decide, rfl⟩
  | 2, _ => exact ⟨";", by decide, rfl⟩
  | 3, _ => exact ⟨"", by decide, rfl⟩
  | 4, _ => exact ⟨"x", by decide, rfl⟩
  | 5, _ => exact ⟨"x-y", by decide, rfl⟩
  | 6, _ => exact ⟨"W", by decide, rfl⟩
  | 7, _ => exact ⟨"1", by decide, rfl⟩
theorem tru_lD (L : List (List Str)) : truD (lD L) = some (decide (L ≠ [])) := by
  cases L <;> rfl
theorem changed20 (k : Nat) {L : List (List Str)} (h : SmL L) {zs : List Int} (hz : Lw.InR 5040 zs) : ∃ L' zs', pd (k + 2) 20 [.lst (vI zs), .d (lD L)] = .ok (.d (lD L')) [.lst (vI zs'), .d (lD L)] ∧ OkL L' ∧ L' ≠ [] ∧ Lw.InR 5040 zs' := by
  have hp : Pk (pd (k + 1)) 12 := pick12 k
  rw [u20 _ _ rfl]
  generalize pd (k + 1) = P at *
  have hl := List.length_pos_iff.mpr h.ne
  have hlen := h.len
  have p1 := hp zs
  have p2 := hp (restZ zs)
  have p3 := hp (restZ (restZ zs))
  have p4 := hp (restZ (restZ (restZ zs)))
  obtain ⟨z4, hz4⟩ : ∃ z, z = restZ (restZ (restZ (restZ zs))) := ⟨_, rfl⟩
  have hz4' : Lw.InR 5040 z4 := by rw [hz4]; exact rest_InR (rest_InR (rest_InR (rest_InR hz)))
  rw [← hz4] at p4
  -- the line
  have m1 := mod_ok (tipZ zs) (show (0 : Int) < (L.length : Int) by omega)
  obtain ⟨i, hi⟩ : ∃ i : Nat, tipZ zs % (L.length : Int) = i := ⟨(tipZ zs % (L.length : Int)).toNat, by have := Int.emod_nonneg (tipZ zs) (show (L.length : Int) ≠ 0 by omega); omega⟩
  have hil : i < L.length := by have := Int.emod_lt_of_pos (tipZ zs) (show (0 : Int) < (L.length : Int) by omega); omega
  rw [hi] at m1
  obtain ⟨ws, hws⟩ : ∃ ws, L[i]? = some ws := ⟨L[i], List.getElem?_eq_getElem hil⟩
  have ix := at_line hws
  obtain ⟨okw, wl⟩ := h.ws ws (List.mem_of_getElem? hws)
  -- the spot
  have sc : (ws.length : Int) + 1 = ((ws.length + 1 : Nat) : Int) := by omega
  have m2 := mod_ok (tipZ (restZ zs)) (show (0 : Int) < ((ws.length + 1 : Nat) : Int) by omega)
  obtain ⟨j, hj⟩ : ∃ j : Nat, tipZ (restZ zs) % ((ws.length + 1 : Nat) : Int) = j := ⟨(tipZ (restZ zs) % ((ws.length + 1 : Nat) : Int)).toNat, by have := Int.emod_nonneg (tipZ (restZ zs)) (show ((ws.length + 1 : Nat) : Int) ≠ 0 by omega); omega⟩
  rw [hj] at m2
  -- the word, how
  have m3 := mod_ok (tipZ (restZ (restZ zs))) (show (0 : Int) < 8 by decide)
  obtain ⟨w, hw, e8⟩ := v8_at (tipZ (restZ (restZ zs)))
  have m4 := mod_ok (tipZ (restZ (restZ (restZ zs)))) (show (0 : Int) < 7 by decide)
  have h0 : 0 ≤ tipZ (restZ (restZ (restZ zs))) % 7 ∧ tipZ (restZ (restZ (restZ zs))) % 7 < 7 := by omega
  generalize tipZ (restZ (restZ (restZ zs))) % 7 = how at *
  have j1 : (j : Int) + 1 = ((j + 1 : Nat) : Int) := by omega
  have i1 : (i : Int) + 1 = ((i + 1 : Nat) : Int) := by omega
  have st := sl_to ws j
  have sf := sl_fr ws j
  have sf1 := sl_fr ws (j + 1)
  have Dt := slD_to L i
  have Df := slD_fr L i
  have Df1 := slD_fr L (i + 1)
  have a1 := add1S (a := ws.take j) (w := w) (by rw [List.length_take]; omega)
  have a2 := add_lS (a := ws.take j ++ [w]) (b := ws.drop j) (by simp; omega)
  have a3 := add_lS (a := ws.take j ++ [w]) (b := ws.drop (j + 1)) (by simp; omega)
  have a4 := add_lS (a := ws.take j) (b := ws.drop (j + 1)) (by simp; omega)
  have q0 : ∀ a b c d : PyData, atI [a, b, c, d] (0 : Int) = some a := fun _ _ _ _ => rfl
  have q1 : ∀ a b c d : PyData, atI [a, b, c, d] (1 : Int) = some b := fun _ _ _ _ => rfl
  have q2 : ∀ a b c d : PyData, atI [a, b, c, d] (2 : Int) = some c := fun _ _ _ _ => rfl
  have q3 : ∀ a b c d : PyData, atI [a, b, c, d] (3 : Int) = some d := fun _ _ _ _ => rfl
  have y0 : ∀ a b c : PyData, atI [a, b, c] (0 : Int) = some a := fun _ _ _ => rfl
  have y1 : ∀ a b c : PyData, atI [a, b, c] (1 : Int) = some b := fun _ _ _ => rfl
  have y2 : ∀ a b c : PyData, atI [a, b, c] (2 : Int) = some c := fun _ _ _ => rfl
  have fin : ∀ (us : List Str), (∀ x ∈ us, x ∈ V) → us.length ≤ 1000 → OkL (L.take i ++ [if us.length > 0 then us else [""]] ++ L.drop (i + 1)) ∧ L.take i ++ [if us.length > 0 then us else [""]] ++ L.drop (i + 1) ≠ [] := fun us hm hl => okL_of h (okW_of hm hl) i (i + 1)
  have n1 : PyData.list [.str ""] = lS [""] := rfl
  have pl1 : ∀ us : List Str, addD (lD (L.take i)) (.list [lS us]) = some (lD (L.take i ++ [us])) := fun us => add1D (by rw [List.length_take]; omega)
  have pl2 : ∀ us : List Str, addD (lD (L.take i ++ [us])) (lD (L.drop (i + 1))) = some (lD (L.take i ++ [us] ++ L.drop (i + 1))) := fun us => add_lD (by simp; omega)
  have pl3 : addD (lD (L.take i)) (lD (L.drop (i + 1))) = some (lD (L.take i ++ L.drop (i + 1))) := add_lD (by simp; omega)
  have pl4 : addD (lD (L.take i ++ [ws])) (lD (L.drop i)) = some (lD (L.take i ++ [ws] ++ L.drop i)) := add_lD (by simp; omega)
  have pl5 : addD (lD (L.drop i)) (lD (L.take i)) = some (lD (L.drop i ++ L.take i)) := add_lD (by simp; omega)
  have nn : PyData.list [.list [.str ""]] = lD [[""]] := rfl
  have mt : ∀ x, x ∈ ws.take j → x ∈ V := fun x hx => okw.mem x (List.mem_of_mem_take hx)
  have md : ∀ n x, x ∈ ws.drop n → x ∈ V := fun n x hx => okw.mem x (List.mem_of_mem_drop hx)
  have small : how = 0 ∨ how = 1 ∨ how = 2 ∨ how = 3 ∨ how = 4 ∨ how = 5 ∨ how = 6 := by omega
  -- a line with other words
  have words : ∀ (us : List Str), (∀ x ∈ us, x ∈ V) → us.length ≤ 1000 → (how < 4) → atI [lS (ws.take j ++ w :: ws.drop j), lS (ws.take j ++ w :: ws.drop (j + 1)), lS (ws.take j ++ ws.drop (j + 1)), lS (ws.take j)] how = some (lS us) → ∃ L' zs', finP [.lst (vI zs), .d (lD L)] (pb20 P (pm (k + 1)) (penter 7 [.lst (vI zs), .d (lD L)])) = .ok (.d (lD L')) [.lst (vI zs'), .d (lD L)] ∧ OkL L' ∧ L' ≠ [] ∧ Lw.InR 5040 zs' := by
    intro us hm hl4 hlt hat
    obtain ⟨f1, f2⟩ := fin us hm hl4
    refine ⟨_, z4, ?_, f1, f2, hz4'⟩
    unfold pb20
    by_cases hu : us.length > 0
    · have hu' : (0 : Int) < (us.length : Int) := by omega
      have hu0 : 0 < us.length := hu
      rw [if_pos hu]
      simp -implicitDefEqProofs [-Int.natCast_ediv, -Int.natCast_add, -Int.natCast_emod, -Int.natCast_mul, p1, p2, p3, p4, m1, ix, sc, m2, m3, e8, m4, ixDl, hlt, j1, i1, st, sf, sf1, Dt, Df, Df1, a1, a2, a3, a4, hat, hu', hu0, pl1, pl2]
    · have hu' : ¬ (0 : Int) < (us.length : Int) := by omega
      have hu0 : ¬ 0 < us.length := hu
      rw [if_neg hu]
      simp -implicitDefEqProofs [-Int.natCast_ediv, -Int.natCast_add, -Int.natCast_emod, -Int.natCast_mul, p1, p2, p3, p4, m1, ix, sc, m2, m3, e8, m4, ixDl, hlt, j1, i1, st, sf, sf1, Dt, Df, Df1, a1, a2, a3, a4, hat, hu', hu0, n1, pl1, pl2]
  rcases small with rfl | rfl | rfl | rfl | rfl | rfl | rfl
  · exact words _ (fun x hx => by
      simp only [List.mem_append, List.mem_cons] at hx
      rcases hx with hx | rfl | hx
      · exact mt x hx
      · exact hw
      · exact md _ x hx) (by simp; omega) (by decide) (q0 _ _ _ _)
  · exact words _ (fun x hx => by
      simp only [List.mem_append, List.mem_cons] at hx
      rcases hx with hx | rfl | hx
      · exact mt x hx
      · exact hw
      · exact md _ x hx) (by simp; omega) (by decide) (q1 _ _ _ _)
  · exact words _ (fun x hx => by
      simp only [List.mem_append] at hx
      rcases hx with hx | hx
      · exact mt x hx
      · exact md _ x hx) (by simp; omega) (by decide) (q2 _ _ _ _)
  · exact words _ (fun x hx => mt x hx) (by simp; omega) (by decide) (q3 _ _ _ _)
  · by_cases he : L.take i ++ L.drop (i + 1) = []
    · refine ⟨[[""]], z4, ?_, ⟨fun x hx => by rw [List.mem_singleton] at hx; subst hx; exact ⟨by simp, fun w hw => by rw [List.mem_singleton] at hw; subst hw; decide, by simp⟩, by simp⟩, by simp, hz4'⟩
      have tr := tru_lD (L.take i ++ L.drop (i + 1))
      rw [decide_eq_false (fun z => z he)] at tr
      unfold pb20
      simp -implicitDefEqProofs [-Int.natCast_ediv, -Int.natCast_add, -Int.natCast_emod, -Int.natCast_mul, p1, p2, p3, p4, m1, ix, sc, m2, m3, e8, m4, ixDl, j1, i1, st, sf, sf1, Dt, Df, Df1, pl1, pl3, pl4, pl5, y0, tr, nn]
    · refine ⟨L.take i ++ L.drop (i + 1), z4, ?_, ⟨fun x hx => ?_, by simp; omega⟩, he, hz4'⟩
      · have tr := tru_lD (L.take i ++ L.drop (i + 1))
        rw [decide_eq_true he] at tr
        unfold pb20
        simp -implicitDefEqProofs [-Int.natCast_ediv, -Int.natCast_add, -Int.natCast_emod, -Int.natCast_mul, p1, p2, p3, p4, m1, ix, sc, m2, m3, e8, m4, ixDl, j1, i1, st, sf, sf1, Dt, Df, Df1, pl1, pl3, pl4, pl5, y0, tr, nn]
      · rcases List.mem_append.mp hx with hx | hx
        · exact (h.ws x (List.mem_of_mem_take hx)).1
        · exact (h.ws x (List.mem_of_mem_drop hx)).1
  · obtain ⟨f1, f2⟩ := okL_of h okw i i
    refine ⟨_, z4, ?_, f1, f2, hz4'⟩
    have tr := tru_lD (L.take i ++ [ws] ++ L.drop i)
    rw [decide_eq_true f2] at tr
    have tr' : truD (lD (L.take i ++ ws :: L.drop i)) = some true := by rw [← tr]; simp
    unfold pb20
    simp -implicitDefEqProofs [-Int.natCast_ediv, -Int.natCast_add, -Int.natCast_emod, -Int.natCast_mul, p1, p2, p3, p4, m1, ix, sc, m2, m3, e8, m4, ixDl, j1, i1, st, sf, sf1, Dt, Df, Df1, pl1, pl3, pl4, pl5, y1, tr', nn]
  · have he : L.drop i ++ L.take i ≠ [] := fun e => by
      have := congrArg List.length e
      simp at this
      omega
    refine ⟨L.drop i ++ L.take i, z4, ?_, ⟨fun x hx => ?_, by simp; omega⟩, he, hz4'⟩
    · have tr := tru_lD (L.drop i ++ L.take i)
      rw [decide_eq_true he] at tr
      unfold pb20
      simp -implicitDefEqProofs [-Int.natCast_ediv, -Int.natCast_add, -Int.natCast_emod, -Int.natCast_mul, p1, p2, p3, p4, m1, ix, sc, m2, m3, e8, m4, ixDl, j1, i1, st, sf, sf1, Dt, Df, Df1, pl1, pl3, pl4, pl5, y2, tr, nn]
    · rcases List.mem_append.mp hx with hx | hx
      · exact (h.ws x (List.mem_of_mem_drop hx)).1
      · exact (h.ws x (List.mem_of_mem_take hx)).1
/-! ### the law -/
theorem num10 (k : Nat) (ns : List Int) : NumOk (pd (k + 1)) 10 ns := fun a => by
  obtain ⟨z, h0, e⟩ := Lp.number ns a
  exact ⟨z, h0, (u10 k _ rfl).trans e⟩
theorem dr11 (k : Nat) (ns : List Int) : DrOk (pd (k + 2)) 11 ns := fun a c m hc hm hm2 => by
  obtain ⟨zs, e, h⟩ := Lp.draws (num10 k ns) a c m hc hm hm2
  exact ⟨zs, (u11 (k + 1) _ rfl).trans e, h⟩
theorem picks13 (k : Nat) (ns : List Int) (a c : Nat) (hc : c < 900) : ∃ zs : List Int, pd (k + 3) 13 [.d (.list (ns.map .int)), .d (.int a), .d (.int c)] = .ok (.lst (vI zs)) [.d (.list (ns.map .int)), .d (.int a), .d (.int c)] ∧ Lw.InR 5040 zs ∧ zs.length = c := by
  obtain ⟨zs, e, h⟩ := Lp.picks (dr11 k ns) a c hc
  exact ⟨zs, (u13 (k + 2) _ rfl).trans e, h⟩
theorem at_vI {zs : List Int} {i : Nat} (h : i < zs.length) : atI (vI zs) (i : Int) = some (.d (.int zs[i])) := by
  unfold vI
  rw [atI_n (by rw [List.length_map]; exact h), List.getElem?_map, List.getElem?_eq_getElem h]
  rfl
/-- what the law asks of lines that are told -/
def Chk (P : PFns) (L : List (List Str)) : Prop := P 19 [.d (lD L)] = .ok (.d (due L)) [.d (lD L)] ∧ P 18 [.d (lD L)] = .ok (.d (due L)) [.d (lD L)] ∧ P 9 [.d (due L), .d (due L)] = .ok (.d (.bool true)) [.d (due L), .d (due L)]
theorem chk (k : Nat) {L : List (List Str)} (hL : OkL L) (hn : L ≠ []) : Chk (pd (k + 310)) L := by
  have a := told19 hL hn (k + 103)
  have b := due18 hL (k + 207)
  have c := same9 (k + 6) (due_pl hL)
  rw [show k + 103 + 207 = k + 310 by omega] at a
  rw [show k + 207 + 103 = k + 310 by omega] at b
  rw [show k + 6 + 303 + 1 = k + 310 by omega] at c
  exact ⟨a, b, c⟩
theorem law_ok (k : Nat) (ns : List Int) (h63 : ns.length ≤ 63) : ∃ ws, pd (k + 311) 21 [.d (.list (ns.map .int))] = .ok (.d (.bool true)) ws := by
  rw [u21 (k + 310) _ rfl]
  obtain ⟨zs0, e1, r0, l0⟩ := dr11 (k + 308) ns 0 2 720 (by decide) (by decide) (by decide)
  obtain ⟨zs1, e2, r1, l1⟩ := picks13 (k + 307) ns 1 300 (by decide)
  rw [show k + 308 + 2 = k + 310 by omega] at e1
  rw [show k + 307 + 3 = k + 310 by omega] at e2
  have hs : ∀ L, OkL L → L ≠ [] → Chk (pd (k + 310)) L := fun L hL hn => chk k hL hn
  have hdrw : ∀ n, n ≤ 3 → Drw (pd (k + 310)) n := fun n hn => by
    have := drw14 (k + 308 - n) n
    rw [show k + 308 - n + n + 2 = k + 310 by omega] at this
    exact this
  have hlin : ∀ n, n ≤ 3 → ∀ d Ls, BL n d Ls → pd (k + 310) 15 [.d d] = .ok (.d (lD Ls)) [.d d] := fun n hn d Ls h => by
    have := lines15 (k + 309 - n) n hn d Ls h
    rw [show k + 309 - n + n + 1 = k + 310 by omega] at this
    exact this
  have htxt : ∀ n, n ≤ 3 → ∀ d Ls, BL n d Ls → pd (k + 310) 1 [.d d] = .ok (.d (.str (JL Ls))) [.d d] := fun n hn d Ls h => by
    have := text1 (k + 308 - n) hn h
    rw [show k + 308 - n + n + 2 = k + 310 by omega] at this
    exact this
  have hsam : ∀ (s : Str), pd (k + 310) 9 [.d (.str s), .d (.str s)] = .ok (.d (.bool true)) [.d (.str s), .d (.str s)] := fun s => by
    have := same9 (k + 309) (pl_str s 0)
    rw [show k + 309 + 0 + 1 = k + 310 by omega] at this
    exact this
  have hchg : ∀ {L : List (List Str)}, SmL L → ∀ {zs : List Int}, Lw.InR 5040 zs → ∃ L' zs', pd (k + 310) 20 [.lst (vI zs), .d (lD L)] = .ok (.d (lD L')) [.lst (vI zs'), .d (lD L)] ∧ OkL L' ∧ L' ≠ [] ∧ Lw.InR 5040 zs' := fun h zs hz => by
    have := changed20 (k + 308) h hz
    rw [show k + 308 + 2 = k + 310 by omega] at this
    exact this
  have hpk : Pk (pd (k + 310)) 12 := by
    have := pick12 (k + 309)
    rw [show k + 309 + 1 = k + 310 by omega] at this
    exact this
  generalize pd (k + 310) = P at *
  generalize pm (k + 310) = Pm at *
  have x0 := at_vI (zs := zs0) (i := 0) (by omega)
  have x1 := at_vI (zs := zs0) (i := 1) (by omega)
  have b0 := r0 zs0[0] (List.getElem_mem (by omega))
  generalize zs0[0] = s0 at *
  generalize zs0[1] = s1 at *
  have m0 := mod_ok s0 (show (0 : Int) < 4 by decide)
  obtain ⟨n, hn⟩ : ∃ n : Nat, s0 % 4 = n := ⟨(s0 % 4).toNat, by omega⟩
  have n3 : n ≤ 3 := by omega
  rw [hn] at m0
  obtain ⟨d, Ls, zs2, e3, bl, r2⟩ := hdrw n n3 zs1 r1
  have e4 := hlin n n3 d Ls bl
  have e5 := htxt n n3 d Ls bl
  obtain ⟨okL, neL, lnL⟩ := bl_okL bl n3
  obtain ⟨c1, c2, c3⟩ := hs Ls okL neL
  rw [due_bl bl n3] at c1 c2 c3
  have sm : SmL Ls := ⟨fun ws hw => ⟨((bl_ok bl).1 ws hw).1, by have := ((bl_ok bl).1 ws hw).2; omega⟩, by omega, neL⟩
  have jc : pcompF [8] (pgN 0 8) pTrue (pputE (pMth "str" joinD (pVal (.str " ")) (pCons (pName 8) pNil))) (Ls.map lS) [] [some (.d (.list (ns.map .int))), some (.lst (vI zs0)), some (.lst (vI zs2)), some (.d d), some (.d (lD Ls)), none, none, none, none] = .ok (Ls.map fun ws => .str (J ws)) [some (.d (.list (ns.map .int))), some (.lst (vI zs0)), some (.lst (vI zs2)), some (.d d), some (.d (lD Ls)), none, none, none, none] :=
    comp_mapE lS (fun ws : List Str => PyData.str (J ws)) Ls (by omega) fun ws hw => ⟨_, rfl, rfl, by
      have s2 := joinJ (okL.ws ws hw)
      simp -implicitDefEqProofs [-Int.natCast_ediv, -Int.natCast_add, -Int.natCast_emod, -Int.natCast_mul, s2]⟩
  have j1 := joinJL okL
  have it : itemsD (lD Ls) = some (Ls.map lS) := rfl
  have c4 := hsam (JL Ls)
  -- six changed ones
  have g6 : rgI (.int 0) (.int 6) = some (Lw.nI (List.range 6)) := Lw.rg_ok (c := 6) (by decide)
  have lp := loop_some (g := pgN 1 5) (body := (pSeq (pAsgO 1 6 (pCall P 20 (pASlot 2 (pASlot 4 pANil))))
    (pIte (pNotT (pToB (pDat (pCall P 9 (pAVal (pCall P 19 (pASlot 6 pANil)) (pAVal (pCall P 18 (pASlot 6 pANil)) pANil)))))) (pRet (pD (pVal (.bool false)))) pSkip)))
    (fun pl _ => ∃ zs x5 x6, pl = [some (.d (.list (ns.map .int))), some (.lst (vI zs0)), some (.lst (vI zs)), some (.d d), some (.d (lD Ls)), x5, x6, none, none] ∧ Lw.InR 5040 zs) (Lw.nI (List.range 6))
    [some (.d (.list (ns.map .int))), some (.lst (vI zs0)), some (.lst (vI zs2)), some (.d d), some (.d (lD Ls)), none, none, none, none] ⟨zs2, none, none, rfl, r2⟩ (fun pl x ds ⟨zs, x5, x6, e, h1⟩ => by
      subst e
      obtain ⟨L', zs', f1, f2, f3, f4⟩ := hchg sm h1
      obtain ⟨d1, d2, d3⟩ := hs L' f2 f3
      refine ⟨_, [some (.d (.list (ns.map .int))), some (.lst (vI zs0)), some (.lst (vI zs')), some (.d d), some (.d (lD Ls)), some (.d x), some (.d (lD L')), none, none], rfl, ?_, zs', some (.d x), some (.d (lD L')), rfl, f4⟩
      simp -implicitDefEqProofs [-Int.natCast_ediv, -Int.natCast_add, -Int.natCast_emod, -Int.natCast_mul, f1, d1, d2, d3])
  obtain ⟨pl', lp, zs3, x5, x6, rfl, r3⟩ := lp
  have m1 := mod_ok s1 (show (0 : Int) < 4 by decide)
  -- the deep one
  have p3 := hpk zs3
  have t3 := tipZ zs3
  have m3 := mod_ok (tipZ zs3) (show (0 : Int) < 4 by decide)
  obtain ⟨c, hc⟩ : ∃ c : Nat, tipZ zs3 % 4 = c := ⟨(tipZ zs3 % 4).toNat, by omega⟩
  rw [hc] at m3
  have c98 : 98 + (c : Int) = ((c + 98 : Nat) : Int) := by omega
  have dpL : OkL (List.replicate (c + 98) [("cases" : Str), "x", "y", "a"] ++ [[("steps" : Str)]]) := ⟨fun ws hw => by
    rcases List.mem_append.mp hw with hw | hw
    · obtain ⟨_, rfl⟩ := List.mem_replicate.mp hw
      exact ⟨by simp, by decide, by simp⟩
    · rw [List.mem_singleton] at hw
      subst hw
      exact ⟨by simp, by decide, by simp⟩, by simp; omega⟩
  obtain ⟨k1, k2, k3⟩ := hs _ dpL (by simp)
  have rp : pRep.repP [.list [.str "cases", .str "x", .str "y", .str "a"]] (.int ((c + 98 : Nat) : Int)) = some (lD (List.replicate (c + 98) [("cases" : Str), "x", "y", "a"])) := by
    show (if (decide (-4611686018427387904 ≤ ((c + 98 : Nat) : Int)) && decide (((c + 98 : Nat) : Int) < 4611686018427387904) && decide (1 * (((c + 98 : Nat) : Int)).toNat ≤ 16777216)) = true then some (PyData.list (List.replicate (((c + 98 : Nat) : Int)).toNat [PyData.list [.str "cases", .str "x", .str "y", .str "a"]]).flatten) else none) = _
    rw [if_pos (by simp; omega), Int.toNat_natCast]
    unfold lD
    rw [List.map_replicate]
    congr 2
    generalize c + 98 = q
    induction q with
    | zero => rfl
    | succ q ih => rw [List.replicate_succ, List.flatten_cons, ih, List.replicate_succ]; rfl
  have ap : addD (lD (List.replicate (c + 98) [("cases" : Str), "x", "y", "a"])) (.list [.list [.str "steps"]]) = some (lD (List.replicate (c + 98) [("cases" : Str), "x", "y", "a"] ++ [[("steps" : Str)]])) := add_lD (b := [[("steps" : Str)]]) (by simp; omega)
  generalize List.replicate (c + 98) [("cases" : Str), "x", "y", "a"] ++ [[("steps" : Str)]] = DP at *
  have x0' : atI (vI zs0) 0 = some (.d (.int s0)) := x0
  have x1' : atI (vI zs0) 1 = some (.d (.int s1)) := x1
  have e1' : P 11 [.d (.list (ns.map .int)), .d (.int 0), .d (.int 2), .d (.int 720)] = .ok (.lst (vI zs0)) [.d (.list (ns.map .int)), .d (.int 0), .d (.int 2), .d (.int 720)] := e1
  have e2' : P 13 [.d (.list (ns.map .int)), .d (.int 1), .d (.int 300)] = .ok (.lst (vI zs1)) [.d (.list (ns.map .int)), .d (.int 1), .d (.int 300)] := e2
  unfold pb21
  by_cases hq : 0 < s1 % 4
  · exact ⟨_, by simp -implicitDefEqProofs [-Int.natCast_ediv, -Int.natCast_add, -Int.natCast_emod, -Int.natCast_mul, e1', e2', x0', x1', m0, e3, e4, e5, it, jc, j1, c4, c1, c3, g6, lp, m1, hq]; rfl⟩
  · exact ⟨_, by simp -implicitDefEqProofs [-Int.natCast_ediv, -Int.natCast_add, -Int.natCast_emod, -Int.natCast_mul, e1', e2', x0', x1', m0, e3, e4, e5, it, jc, j1, c4, c1, c3, g6, lp, m1, hq, p3, m3, c98, rp, ap, k1, k2, k3]; rfl⟩
end Q67

namespace Q67
open K67
open PySem PySem.Spec L2 Ev Lx Ly Pv Lp
theorem law_D (D : Nat) (hD : D = 311) (ns : List Int) (h : ns.length ≤ 63) : ∃ S, cd D 21 [.d (.list (ns.map .int))] [] = .ok (.d (.bool true)) S := by
  obtain ⟨ws, e⟩ := law_ok 0 ns h
  have hD2 : 0 + 311 = D := by omega
  rw [hD2] at e
  exact p_law e
end Q67

/-! the text keeps what its functions say -/
namespace K67
open PySem PySem.Spec L2 Ev
def nm : Nat → Str := fun f => match f with
  | 0 => "bar_lines"
  | 1 => "bar_text"
  | 2 => "is_plain_word"
  | 8 => "read_bar"
  | 9 => "_law_same"
  | 10 => "_law_number"
  | 11 => "_law_draws"
  | 12 => "_law_pick"
  | 13 => "_law_picks"
  | 14 => "_law_bar"
  | 15 => "_law_lines"
  | 16 => "_law_is_word"
  | 17 => "_law_read"
  | 18 => "_law_due"
  | 19 => "_law_told"
  | 20 => "_law_changed"
  | 21 => "law"
  | _ => ""
def isG : Nat → Bool := fun f => match f with
  | 0 => true
  | 1 => true
  | 2 => true
  | 8 => true
  | 9 => true
  | 10 => true
  | 11 => true
  | 12 => true
  | 13 => true
  | 14 => true
  | 15 => true
  | 16 => true
  | 17 => true
  | 18 => true
  | 19 => true
  | 20 => true
  | 21 => true
  | _ => false
def frees : List Str := ["abs", "bool", "int", "isinstance", "len", "list", "range", "str", "sum", "tuple", "super"]
structure Tx (G : Gl) : Prop where
  fn : ∀ f, f < 22 → FnIs G f
  ln : ∀ f, f < 22 → FnLen G f
  glo : ∀ f, isG f = true → G.mg (nm f) = some (.ref (G.fa f))
  free : ∀ x, x ∈ frees → G.mg x = none
  cls : ∀ c, ClsIs G c (fl c)
  mt_step : MIs G mt_step "step"
  mt_steps : MIs G mt_steps "steps"
  mt_cases : MIs G mt_cases "cases"
  mt_bar : MIs G mt_bar "bar"
  mk2 : MkIs G 2 3 "BarLines"
  con_FIGURES : ConIs G "FIGURES" c_FIGURES
  con_LETTERS : ConIs G "LETTERS" c_LETTERS
  con_MOST_DEEP : ConIs G "MOST_DEEP" c_MOST_DEEP
  ex_1 : ExI G 1 "BadText" ["line", "word"]
  xf : XfIs G xf
  sub : SubIs G sub
  gc_1 : G.mg "BadText" = some (.ref (G.ca 1))
  gc_0 : G.mg "StretchError" = some (.ref (G.ca 0))
variable {G : Gl}
theorem k0 (T : Tx G) : SndSs G (defScope s0) N0 (defBody s0) (b0 G.F G.Fm) :=
  (r_cons (r_if (r_tcmp op_eqDD.s (r_ix ix_U (r_name (i := 0) rfl (by kernel_rfl)) r_int) r_str) (r_cons (r_set (i := 1) rfl (by kernel_rfl) (r_mth PySem.F.plainAttrs_str PySem.F.slot_str_join PySem.F.type_str_join mt_joinD r_str (r_acons (r_lc (own := [("step", 5)]) (r_items (r_ix ix_U (r_name (i := 0) rfl (by kernel_rfl)) r_int)) (blkOk_by (by decide +kernel)) (g_name (i := 5) rfl (by kernel_rfl)) (by kernel_rfl) (by decide) if_nil (r_mth PySem.F.plainAttrs_str PySem.F.slot_str_join PySem.F.type_str_join mt_joinD r_str (r_acons (r_name (i := 5) rfl (by kernel_rfl)) r_anil))) r_anil)))
    (r_last (r_ret (r_lst (r_acons (r_ifexp (r_tcmp op_gtDD.s (r_callB call_lenA (by kernel_rfl) (T.free "len" (by decide)) (by kernel_rfl) (r_acons (r_ix ix_U (r_name (i := 0) rfl (by kernel_rfl)) r_int) r_anil)) r_int) (r_bin op_addD.s r_str (r_name (i := 1) rfl (by kernel_rfl))) r_str) r_anil))))) r_nil)
    (r_cons (r_set (i := 2) rfl (by kernel_rfl) (r_lst (r_acons (r_mth PySem.F.plainAttrs_str PySem.F.slot_str_join PySem.F.type_str_join mt_joinD r_str (r_acons (r_bin op_addD.s (r_lst (r_acons r_str (r_acons (r_ix ix_U (r_name (i := 0) rfl (by kernel_rfl)) r_int) (r_acons (r_ix ix_U (r_name (i := 0) rfl (by kernel_rfl)) r_int) r_anil)))) (r_lc (own := [("way", 3), ("inner", 4)]) (r_items (r_ix ix_U (r_name (i := 0) rfl (by kernel_rfl)) r_int)) (blkOk_by (by decide +kernel)) (g_tup (g_cons (g_name (i := 3) rfl (by kernel_rfl)) (g_cons (g_name (i := 4) rfl (by kernel_rfl)) g_nil))) (by kernel_rfl) (by decide) if_nil (r_name (i := 3) rfl (by kernel_rfl)))) r_anil)) r_anil)))
    (r_cons (r_for (r_items (r_ix ix_U (r_name (i := 0) rfl (by kernel_rfl)) r_int)) (g_tup (g_cons (g_name (i := 3) rfl (by kernel_rfl)) (g_cons (g_name (i := 4) rfl (by kernel_rfl)) g_nil))) (r_last (r_set (i := 2) rfl (by kernel_rfl) (r_bin op_addD.s (r_name (i := 2) rfl (by kernel_rfl)) (r_call (T.fn 0 (by decide)) (T.ln 0 (by decide)) (by kernel_rfl) (T.glo 0 rfl) (r_acons (r_name (i := 4) rfl (by kernel_rfl)) r_anil))))))
    (r_last (r_ret (r_name (i := 2) rfl (by kernel_rfl)))))))
theorem sc0 : FnScope N0 (ps 0) (defScope s0) := ⟨rfl, rfl, rfl, by decide +kernel, rfl, by decide +kernel, by decide +kernel⟩
theorem k1 (T : Tx G) : SndSs G (defScope s1) N1 (defBody s1) (b1 G.F G.Fm) :=
  (r_last (r_ret (r_mth PySem.F.plainAttrs_str PySem.F.slot_str_join PySem.F.type_str_join mt_joinD r_str (r_acons (r_call (T.fn 0 (by decide)) (T.ln 0 (by decide)) (by kernel_rfl) (T.glo 0 rfl) (r_acons (r_name (i := 0) rfl (by kernel_rfl)) r_anil)) r_anil))))
theorem sc1 : FnScope N1 (ps 1) (defScope s1) := ⟨rfl, rfl, rfl, by decide +kernel, rfl, by decide +kernel, by decide +kernel⟩
theorem k2 (T : Tx G) : SndSs G (defScope s2) N2 (defBody s2) (b2 G.F G.Fm) :=
  (r_cons (r_set (i := 1) rfl (by kernel_rfl) (r_bin op_addD.s (r_bin op_addD.s (r_glob T.con_LETTERS (by kernel_rfl)) (r_mth0 PySem.F.plainAttrs_str PySem.F.slot_str_upper PySem.F.type_str_upper mt_upperD (r_glob T.con_LETTERS (by kernel_rfl)))) (r_glob T.con_FIGURES (by kernel_rfl))))
    (r_last (r_ret (r_and (r_cmp op_neDD.s (r_name (i := 0) rfl (by kernel_rfl)) r_str) (r_one (r_cmp op_eqDD.s (r_callB call_lenA (by kernel_rfl) (T.free "len" (by decide)) (by kernel_rfl) (r_acons (r_lc (own := [("sign", 2)]) (r_items (r_name (i := 0) rfl (by kernel_rfl))) (blkOk_by (by decide +kernel)) (g_name (i := 2) rfl (by kernel_rfl)) (by kernel_rfl) (by decide) (if_one (r_tcmp op_ninU (r_name (i := 2) rfl (by kernel_rfl)) (r_name (i := 1) rfl (by kernel_rfl)))) (r_name (i := 2) rfl (by kernel_rfl))) r_anil)) r_int))))))
theorem sc2 : FnScope N2 (ps 2) (defScope s2) := ⟨rfl, rfl, rfl, by decide +kernel, rfl, by decide +kernel, by decide +kernel⟩
theorem k3 (T : Tx G) : SndSs G (defScope s3) N3 (defBody s3) (b3 G.F G.Fm) :=
  (r_cons (r_setF T.cls (r_name (i := 0) rfl (by kernel_rfl)) (r_lc (own := [("line", 2)]) (r_items (r_mth PySem.F.plainAttrs_str PySem.F.slot_str_split PySem.F.type_str_split mt_splitD (r_name (i := 1) rfl (by kernel_rfl)) (r_acons r_str r_anil))) (blkOk_by (by decide +kernel)) (g_name (i := 2) rfl (by kernel_rfl)) (by kernel_rfl) (by decide) if_nil (r_mth PySem.F.plainAttrs_str PySem.F.slot_str_split PySem.F.type_str_split mt_splitD (r_name (i := 2) rfl (by kernel_rfl)) (r_acons r_str r_anil))))
    (r_last (r_setF T.cls (r_name (i := 0) rfl (by kernel_rfl)) r_int)))
theorem sc3 : FnScope N3 (ps 3) (defScope s3) := ⟨rfl, rfl, rfl, by decide +kernel, rfl, by decide +kernel, by decide +kernel⟩
theorem k4 (T : Tx G) : SndSs G (defScope s4) N4 (defBody s4) (b4 G.F G.Fm) :=
  (r_cons (r_for (r_rg2 (by kernel_rfl) (T.free "range" (by decide)) (r_name (i := 2) rfl (by kernel_rfl)) (r_bin op_addD.s (r_name (i := 2) rfl (by kernel_rfl)) r_int)) (g_name (i := 3) rfl (by kernel_rfl)) (r_last (r_if (r_wor (r_tcmp op_geDD.s (r_name (i := 3) rfl (by kernel_rfl)) (r_callB call_lenA (by kernel_rfl) (T.free "len" (by decide)) (by kernel_rfl) (r_acons (r_name (i := 1) rfl (by kernel_rfl)) r_anil))) (r_wor1 (r_tnot (r_tval (h := (r_call (T.fn 2 (by decide)) (T.ln 2 (by decide)) (by kernel_rfl) (T.glo 2 rfl) (r_acons (r_ix ix_U (r_name (i := 1) rfl (by kernel_rfl)) (r_name (i := 3) rfl (by kernel_rfl))) r_anil))))))).t (r_last (r_raise T.ex_1 (by kernel_rfl) (r_acons (r_fld T.cls (r_name (i := 0) rfl (by kernel_rfl))) (r_acons (r_name (i := 3) rfl (by kernel_rfl)) r_anil)))) r_nil)))
    (r_last (r_ret (r_tup (r_acons (r_ix ix_U (r_name (i := 1) rfl (by kernel_rfl)) (r_name (i := 2) rfl (by kernel_rfl))) (r_acons (r_ix ix_U (r_name (i := 1) rfl (by kernel_rfl)) (r_bin op_addD.s (r_name (i := 2) rfl (by kernel_rfl)) r_int)) (r_acons (r_ix ix_U (r_name (i := 1) rfl (by kernel_rfl)) (r_bin op_addD.s (r_name (i := 2) rfl (by kernel_rfl)) r_int)) r_anil)))))))
theorem sc4 : FnScope N4 (ps 4) (defScope s4) := ⟨rfl, rfl, rfl, by decide +kernel, rfl, by decide +kernel, by decide +kernel⟩
theorem k5 (T : Tx G) : SndSs G (defScope s5) N5 (defBody s5) (b5 G.F G.Fm) :=
  (r_cons (r_set (i := 2) rfl (by kernel_rfl) (r_lstM r_anil))
    (r_cons (r_set (i := 3) rfl (by kernel_rfl) r_int)
    (r_cons (r_while (r_tcmp op_ltDD.s (r_name (i := 3) rfl (by kernel_rfl)) (r_callB call_lenA (by kernel_rfl) (T.free "len" (by decide)) (by kernel_rfl) (r_acons (r_name (i := 1) rfl (by kernel_rfl)) r_anil))) (r_cons (r_if (r_tcmp op_gtDD.s (r_callB call_lenA (by kernel_rfl) (T.free "len" (by decide)) (by kernel_rfl) (r_acons (r_name (i := 2) rfl (by kernel_rfl)) r_anil)) r_int) (r_cons (r_if (r_tcmp op_neDD.s (r_ix ix_U (r_name (i := 1) rfl (by kernel_rfl)) (r_name (i := 3) rfl (by kernel_rfl))) r_str) (r_last (r_raise T.ex_1 (by kernel_rfl) (r_acons (r_fld T.cls (r_name (i := 0) rfl (by kernel_rfl))) (r_acons (r_name (i := 3) rfl (by kernel_rfl)) r_anil)))) r_nil)
    (r_last (r_set (i := 3) rfl (by kernel_rfl) (r_bin op_addD.s (r_name (i := 3) rfl (by kernel_rfl)) r_int)))) r_nil)
    (r_cons (r_expr (r_append (r_name (i := 2) rfl (by kernel_rfl)) (r_meth T.mt_step (r_name (i := 0) rfl (by kernel_rfl)) (r_acons (r_name (i := 1) rfl (by kernel_rfl)) (r_acons (r_name (i := 3) rfl (by kernel_rfl)) r_anil)) (pl := _))))
    (r_last (r_set (i := 3) rfl (by kernel_rfl) (r_bin op_addD.s (r_name (i := 3) rfl (by kernel_rfl)) r_int))))))
    (r_last (r_ret (r_frz (r_name (i := 2) rfl (by kernel_rfl))))))))
theorem sc5 : FnScope N5 (ps 5) (defScope s5) := ⟨rfl, rfl, rfl, by decide +kernel, rfl, by decide +kernel, by decide +kernel⟩
theorem k6 (T : Tx G) : SndSs G (defScope s6) N6 (defBody s6) (b6 G.F G.Fm) :=
  (r_cons (r_for (r_rg2 (by kernel_rfl) (T.free "range" (by decide)) r_int (r_callB call_lenA (by kernel_rfl) (T.free "len" (by decide)) (by kernel_rfl) (r_acons (r_name (i := 1) rfl (by kernel_rfl)) r_anil))) (g_name (i := 3) rfl (by kernel_rfl)) (r_last (r_if (r_tnot (r_tval (h := (r_call (T.fn 2 (by decide)) (T.ln 2 (by decide)) (by kernel_rfl) (T.glo 2 rfl) (r_acons (r_ix ix_U (r_name (i := 1) rfl (by kernel_rfl)) (r_name (i := 3) rfl (by kernel_rfl))) r_anil))))) (r_last (r_raise T.ex_1 (by kernel_rfl) (r_acons (r_fld T.cls (r_name (i := 0) rfl (by kernel_rfl))) (r_acons (r_name (i := 3) rfl (by kernel_rfl)) r_anil)))) r_nil)))
    (r_cons (r_if (r_tcmp op_ltDD.s (r_callB call_lenA (by kernel_rfl) (T.free "len" (by decide)) (by kernel_rfl) (r_acons (r_name (i := 1) rfl (by kernel_rfl)) r_anil)) r_int) (r_last (r_raise T.ex_1 (by kernel_rfl) (r_acons (r_fld T.cls (r_name (i := 0) rfl (by kernel_rfl))) (r_acons (r_callB call_lenA (by kernel_rfl) (T.free "len" (by decide)) (by kernel_rfl) (r_acons (r_name (i := 1) rfl (by kernel_rfl)) r_anil)) r_anil)))) r_nil)
    (r_cons (r_setF T.cls (r_name (i := 0) rfl (by kernel_rfl)) (r_bin op_addD.s (r_fld T.cls (r_name (i := 0) rfl (by kernel_rfl))) r_int))
    (r_cons (r_set (i := 4) rfl (by kernel_rfl) (r_lstM r_anil))
    (r_cons (r_for (r_items (r_slice (r_name (i := 1) rfl (by kernel_rfl)) (r_osome r_int) r_onone)) (g_name (i := 5) rfl (by kernel_rfl)) (r_last (r_expr (r_append (r_name (i := 4) rfl (by kernel_rfl)) (r_tup (r_acons (r_name (i := 5) rfl (by kernel_rfl)) (r_acons (r_meth T.mt_bar (r_name (i := 0) rfl (by kernel_rfl)) (r_acons (r_bin op_addD.s (r_name (i := 2) rfl (by kernel_rfl)) r_int) r_anil) (pl := _)) r_anil)))))))
    (r_last (r_ret (r_tup (r_acons r_str (r_acons (r_ix ix_U (r_name (i := 1) rfl (by kernel_rfl)) r_int) (r_acons (r_ix ix_U (r_name (i := 1) rfl (by kernel_rfl)) r_int) (r_acons (r_frz (r_name (i := 4) rfl (by kernel_rfl))) r_anil))))))))))))
theorem sc6 : FnScope N6 (ps 6) (defScope s6) := ⟨rfl, rfl, rfl, by decide +kernel, rfl, by decide +kernel, by decide +kernel⟩
theorem k7 (T : Tx G) : SndSs G (defScope s7) N7 (defBody s7) (b7 G.F G.Fm) :=
  (r_cons (r_if (r_tcmp op_geDD.s (r_fld T.cls (r_name (i := 0) rfl (by kernel_rfl))) (r_callB call_lenA (by kernel_rfl) (T.free "len" (by decide)) (by kernel_rfl) (r_acons (r_fld T.cls (r_name (i := 0) rfl (by kernel_rfl))) r_anil))) (r_last (r_raise T.ex_1 (by kernel_rfl) (r_acons (r_callB call_lenA (by kernel_rfl) (T.free "len" (by decide)) (by kernel_rfl) (r_acons (r_fld T.cls (r_name (i := 0) rfl (by kernel_rfl))) r_anil)) (r_acons r_int r_anil)))) r_nil)
    (r_cons (r_set (i := 2) rfl (by kernel_rfl) (r_ix ix_U (r_fld T.cls (r_name (i := 0) rfl (by kernel_rfl))) (r_fld T.cls (r_name (i := 0) rfl (by kernel_rfl)))))
    (r_cons (r_if (r_wor (r_tcmp op_geDD.s (r_name (i := 1) rfl (by kernel_rfl)) (r_glob T.con_MOST_DEEP (by kernel_rfl))) (r_wor1 (r_tcmp op_ninU (r_ix ix_U (r_name (i := 2) rfl (by kernel_rfl)) r_int) (r_tup (r_acons r_str (r_acons r_str r_anil)))))).t (r_last (r_raise T.ex_1 (by kernel_rfl) (r_acons (r_fld T.cls (r_name (i := 0) rfl (by kernel_rfl))) (r_acons r_int r_anil)))) r_nil)
    (r_cons (r_if (r_tcmp op_eqDD.s (r_ix ix_U (r_name (i := 2) rfl (by kernel_rfl)) r_int) r_str) (r_last (r_ret (r_meth T.mt_cases (r_name (i := 0) rfl (by kernel_rfl)) (r_acons (r_name (i := 2) rfl (by kernel_rfl)) (r_acons (r_name (i := 1) rfl (by kernel_rfl)) r_anil)) (pl := _)))) r_nil)
    (r_cons (r_set (i := 3) rfl (by kernel_rfl) (r_meth T.mt_steps (r_name (i := 0) rfl (by kernel_rfl)) (r_acons (r_name (i := 2) rfl (by kernel_rfl)) r_anil) (pl := _)))
    (r_cons (r_setF T.cls (r_name (i := 0) rfl (by kernel_rfl)) (r_bin op_addD.s (r_fld T.cls (r_name (i := 0) rfl (by kernel_rfl))) r_int))
    (r_last (r_ret (r_tup (r_acons r_str (r_acons (r_name (i := 3) rfl (by kernel_rfl)) r_anil)))))))))))
theorem sc7 : FnScope N7 (ps 7) (defScope s7) := ⟨rfl, rfl, rfl, by decide +kernel, rfl, by decide +kernel, by decide +kernel⟩
theorem k8 (T : Tx G) : SndSs G (defScope s8) N8 (defBody s8) (b8 G.F G.Fm) :=
  (r_cons (r_set (i := 1) rfl (by kernel_rfl) (r_make (T.mk2) (by kernel_rfl) (r_acons (r_name (i := 0) rfl (by kernel_rfl)) r_anil)))
    (r_cons (r_set (i := 2) rfl (by kernel_rfl) (r_meth T.mt_bar (r_name (i := 1) rfl (by kernel_rfl)) (r_acons r_int r_anil) (pl := _)))
    (r_cons (r_if (r_tcmp op_ltDD.s (r_fld T.cls (r_name (i := 1) rfl (by kernel_rfl))) (r_callB call_lenA (by kernel_rfl) (T.free "len" (by decide)) (by kernel_rfl) (r_acons (r_fld T.cls (r_name (i := 1) rfl (by kernel_rfl))) r_anil))) (r_last (r_raise T.ex_1 (by kernel_rfl) (r_acons (r_fld T.cls (r_name (i := 1) rfl (by kernel_rfl))) (r_acons r_int r_anil)))) r_nil)
    (r_last (r_ret (r_name (i := 2) rfl (by kernel_rfl)))))))
theorem sc8 : FnScope N8 (ps 8) (defScope s8) := ⟨rfl, rfl, rfl, by decide +kernel, rfl, by decide +kernel, by decide +kernel⟩
theorem k9 (T : Tx G) : SndSs G (defScope s9) N9 (defBody s9) (b9 G.F G.Fm) :=
  (r_cons (r_if (r_wor (r_tval (h := (r_isI (T := "bool") (by kernel_rfl) (by kernel_rfl) (by kernel_rfl) (T.free "isinstance" (by decide)) (T.free "bool" (by decide)) (r_name (i := 1) rfl (by kernel_rfl))))) (r_wor1 (r_tval (h := (r_isI (T := "bool") (by kernel_rfl) (by kernel_rfl) (by kernel_rfl) (T.free "isinstance" (by decide)) (T.free "bool" (by decide)) (r_name (i := 0) rfl (by kernel_rfl))))))).t (r_last (r_ret (r_and (r_isI (T := "bool") (by kernel_rfl) (by kernel_rfl) (by kernel_rfl) (T.free "isinstance" (by decide)) (T.free "bool" (by decide)) (r_name (i := 1) rfl (by kernel_rfl))) (r_and (r_isI (T := "bool") (by kernel_rfl) (by kernel_rfl) (by kernel_rfl) (T.free "isinstance" (by decide)) (T.free "bool" (by decide)) (r_name (i := 0) rfl (by kernel_rfl))) (r_one (r_cmp op_eqDD.s (r_name (i := 0) rfl (by kernel_rfl)) (r_name (i := 1) rfl (by kernel_rfl)))))))) r_nil)
    (r_cons (r_if (r_wor (r_tcmp op_isA (r_name (i := 1) rfl (by kernel_rfl)) r_none) (r_wor1 (r_tval (h := (r_isI (T := "int") (by kernel_rfl) (by kernel_rfl) (by kernel_rfl) (T.free "isinstance" (by decide)) (T.free "int" (by decide)) (r_name (i := 1) rfl (by kernel_rfl))))))).t (r_last (r_ret (r_and (r_cmp op_eqDD.s (r_name (i := 0) rfl (by kernel_rfl)) (r_name (i := 1) rfl (by kernel_rfl))) (r_one (r_or (r_cmp op_isA (r_name (i := 1) rfl (by kernel_rfl)) r_none) (r_one (r_isI (T := "int") (by kernel_rfl) (by kernel_rfl) (by kernel_rfl) (T.free "isinstance" (by decide)) (T.free "int" (by decide)) (r_name (i := 0) rfl (by kernel_rfl))))))))) r_nil)
    (r_cons (r_if (r_tval (h := (r_isI (T := "str") (by kernel_rfl) (by kernel_rfl) (by kernel_rfl) (T.free "isinstance" (by decide)) (T.free "str" (by decide)) (r_name (i := 1) rfl (by kernel_rfl))))) (r_last (r_ret (r_and (r_isI (T := "str") (by kernel_rfl) (by kernel_rfl) (by kernel_rfl) (T.free "isinstance" (by decide)) (T.free "str" (by decide)) (r_name (i := 0) rfl (by kernel_rfl))) (r_one (r_cmp op_eqDD.s (r_name (i := 0) rfl (by kernel_rfl)) (r_name (i := 1) rfl (by kernel_rfl))))))) r_nil)
    (r_cons (r_if (r_wor (r_tcmp op_neDD.s (r_isI (T := "list") (by kernel_rfl) (by kernel_rfl) (by kernel_rfl) (T.free "isinstance" (by decide)) (T.free "list" (by decide)) (r_name (i := 1) rfl (by kernel_rfl))) (r_isI (T := "list") (by kernel_rfl) (by kernel_rfl) (by kernel_rfl) (T.free "isinstance" (by decide)) (T.free "list" (by decide)) (r_name (i := 0) rfl (by kernel_rfl)))) (r_wor1 (r_tcmp op_neDD.s (r_isI (T := "tuple") (by kernel_rfl) (by kernel_rfl) (by kernel_rfl) (T.free "isinstance" (by decide)) (T.free "tuple" (by decide)) (r_name (i := 1) rfl (by kernel_rfl))) (r_isI (T := "tuple") (by kernel_rfl) (by kernel_rfl) (by kernel_rfl) (T.free "isinstance" (by decide)) (T.free "tuple" (by decide)) (r_name (i := 0) rfl (by kernel_rfl)))))).t (r_last (r_ret r_bool)) r_nil)
    (r_cons (r_if (r_tcmp op_neDD.s (r_callB call_lenA (by kernel_rfl) (T.free "len" (by decide)) (by kernel_rfl) (r_acons (r_name (i := 0) rfl (by kernel_rfl)) r_anil)) (r_callB call_lenA (by kernel_rfl) (T.free "len" (by decide)) (by kernel_rfl) (r_acons (r_name (i := 1) rfl (by kernel_rfl)) r_anil))) (r_last (r_ret r_bool)) r_nil)
    (r_cons (r_for (r_rg1 (by kernel_rfl) (T.free "range" (by decide)) (r_callB call_lenA (by kernel_rfl) (T.free "len" (by decide)) (by kernel_rfl) (r_acons (r_name (i := 1) rfl (by kernel_rfl)) r_anil))) (g_name (i := 2) rfl (by kernel_rfl)) (r_last (r_if (r_tnot (r_tval (h := (r_call (T.fn 9 (by decide)) (T.ln 9 (by decide)) (by kernel_rfl) (T.glo 9 rfl) (r_acons (r_ix ix_U (r_name (i := 0) rfl (by kernel_rfl)) (r_name (i := 2) rfl (by kernel_rfl))) (r_acons (r_ix ix_U (r_name (i := 1) rfl (by kernel_rfl)) (r_name (i := 2) rfl (by kernel_rfl))) r_anil)))))) (r_last (r_ret r_bool)) r_nil)))
    (r_last (r_ret r_bool))))))))
theorem sc9 : FnScope N9 (ps 9) (defScope s9) := ⟨rfl, rfl, rfl, by decide +kernel, rfl, by decide +kernel, by decide +kernel⟩
theorem k10 (T : Tx G) : SndSs G (defScope s10) N10 (defBody s10) (b10 G.F G.Fm) :=
  (r_cons (r_set (i := 2) rfl (by kernel_rfl) (r_bin op_addD.s (r_bin op_mulU (r_callB call_sumD (by kernel_rfl) (T.free "sum" (by decide)) (by kernel_rfl) (r_acons (r_name (i := 0) rfl (by kernel_rfl)) r_anil)) r_int) (r_bin op_mulU r_int (r_bin op_addD.s (r_name (i := 1) rfl (by kernel_rfl)) r_int))))
    (r_cons (r_if (r_tcmp op_ltDD.s (r_name (i := 1) rfl (by kernel_rfl)) (r_callB call_lenA (by kernel_rfl) (T.free "len" (by decide)) (by kernel_rfl) (r_acons (r_name (i := 0) rfl (by kernel_rfl)) r_anil))) (r_last (r_set (i := 2) rfl (by kernel_rfl) (r_ix ix_U (r_name (i := 0) rfl (by kernel_rfl)) (r_name (i := 1) rfl (by kernel_rfl))))) r_nil)
    (r_last (r_ret (r_callB call_absD (by kernel_rfl) (T.free "abs" (by decide)) (by kernel_rfl) (r_acons (r_name (i := 2) rfl (by kernel_rfl)) r_anil))))))
theorem sc10 : FnScope N10 (ps 10) (defScope s10) := ⟨rfl, rfl, rfl, by decide +kernel, rfl, by decide +kernel, by decide +kernel⟩
theorem k11 (T : Tx G) : SndSs G (defScope s11) N11 (defBody s11) (b11 G.F G.Fm) :=
  (r_cons (r_set (i := 4) rfl (by kernel_rfl) (r_call (T.fn 10 (by decide)) (T.ln 10 (by decide)) (by kernel_rfl) (T.glo 10 rfl) (r_acons (r_name (i := 0) rfl (by kernel_rfl)) (r_acons (r_name (i := 1) rfl (by kernel_rfl)) r_anil))))
    (r_cons (r_set (i := 5) rfl (by kernel_rfl) (r_lstM r_anil))
    (r_cons (r_if (r_tcmp op_geDD.s (r_name (i := 4) rfl (by kernel_rfl)) (r_bin op_powD.s r_int r_int)) (r_cons (r_set (i := 4) rfl (by kernel_rfl) (r_bin op_subD.s (r_name (i := 4) rfl (by kernel_rfl)) (r_bin op_powD.s r_int r_int)))
    (r_cons (r_for (r_rg1 (by kernel_rfl) (T.free "range" (by decide)) (r_name (i := 2) rfl (by kernel_rfl))) (g_name (i := 6) rfl (by kernel_rfl)) (r_cons (r_expr (r_append (r_name (i := 5) rfl (by kernel_rfl)) (r_bin op_modD.s (r_name (i := 4) rfl (by kernel_rfl)) (r_name (i := 3) rfl (by kernel_rfl)))))
    (r_last (r_set (i := 4) rfl (by kernel_rfl) (r_bin op_divD.s (r_name (i := 4) rfl (by kernel_rfl)) (r_name (i := 3) rfl (by kernel_rfl)))))))
    (r_last (r_ret (r_name (i := 5) rfl (by kernel_rfl)))))) r_nil)
    (r_cons (r_set (i := 7) rfl (by kernel_rfl) (r_bin op_addD.s (r_bin op_modD.s (r_name (i := 4) rfl (by kernel_rfl)) r_int) r_int))
    (r_cons (r_for (r_rg1 (by kernel_rfl) (T.free "range" (by decide)) (r_name (i := 2) rfl (by kernel_rfl))) (g_name (i := 6) rfl (by kernel_rfl)) (r_cons (r_set (i := 7) rfl (by kernel_rfl) (r_bin op_modD.s (r_bin op_addD.s (r_bin op_addD.s (r_bin op_mulU (r_name (i := 7) rfl (by kernel_rfl)) r_int) (r_bin op_mulU r_int (r_name (i := 6) rfl (by kernel_rfl)))) r_int) r_int))
    (r_cons (r_set (i := 8) rfl (by kernel_rfl) (r_bin op_modD.s (r_bin op_addD.s (r_bin op_addD.s (r_bin op_mulU (r_name (i := 7) rfl (by kernel_rfl)) (r_name (i := 7) rfl (by kernel_rfl))) (r_bin op_mulU r_int (r_name (i := 6) rfl (by kernel_rfl)))) r_int) r_int))
    (r_last (r_expr (r_append (r_name (i := 5) rfl (by kernel_rfl)) (r_bin op_modD.s (r_bin op_divD.s (r_name (i := 8) rfl (by kernel_rfl)) r_int) (r_name (i := 3) rfl (by kernel_rfl)))))))))
    (r_last (r_ret (r_name (i := 5) rfl (by kernel_rfl)))))))))
theorem sc11 : FnScope N11 (ps 11) (defScope s11) := ⟨rfl, rfl, rfl, by decide +kernel, rfl, by decide +kernel, by decide +kernel⟩
theorem k12 (T : Tx G) : SndSs G (defScope s12) N12 (defBody s12) (b12 G.F G.Fm) :=
  (r_cons (r_if (r_tcmp op_eqDD.s (r_callB call_lenA (by kernel_rfl) (T.free "len" (by decide)) (by kernel_rfl) (r_acons (r_name (i := 0) rfl (by kernel_rfl)) r_anil)) r_int) (r_last (r_ret r_int)) r_nil)
    (r_last (r_ret (r_pop (r_name (i := 0) rfl (by kernel_rfl))))))
theorem sc12 : FnScope N12 (ps 12) (defScope s12) := ⟨rfl, rfl, rfl, by decide +kernel, rfl, by decide +kernel, by decide +kernel⟩
theorem k13 (T : Tx G) : SndSs G (defScope s13) N13 (defBody s13) (b13 G.F G.Fm) :=
  (r_cons (r_set (i := 3) rfl (by kernel_rfl) (r_call (T.fn 11 (by decide)) (T.ln 11 (by decide)) (by kernel_rfl) (T.glo 11 rfl) (r_acons (r_name (i := 0) rfl (by kernel_rfl)) (r_acons (r_name (i := 1) rfl (by kernel_rfl)) (r_acons (r_name (i := 2) rfl (by kernel_rfl)) (r_acons r_int r_anil))))))
    (r_cons (r_expr (r_reverse (r_name (i := 3) rfl (by kernel_rfl))))
    (r_last (r_ret (r_name (i := 3) rfl (by kernel_rfl))))))
theorem sc13 : FnScope N13 (ps 13) (defScope s13) := ⟨rfl, rfl, rfl, by decide +kernel, rfl, by decide +kernel, by decide +kernel⟩
theorem k14 (T : Tx G) : SndSs G (defScope s14) N14 (defBody s14) (b14 G.F G.Fm) :=
  (r_cons (r_set (i := 2) rfl (by kernel_rfl) (r_tup (r_acons r_str (r_acons r_str (r_acons r_str (r_acons r_str (r_acons r_str (r_acons r_str (r_acons r_str r_anil)))))))))
    (r_cons (r_if (r_wor (r_tcmp op_leDD.s (r_name (i := 1) rfl (by kernel_rfl)) r_int) (r_wor1 (r_tcmp op_eqDD.s (r_bin op_modD.s (r_call (T.fn 12 (by decide)) (T.ln 12 (by decide)) (by kernel_rfl) (T.glo 12 rfl) (r_acons (r_name (i := 0) rfl (by kernel_rfl)) r_anil)) r_int) r_int))).t (r_cons (r_set (i := 3) rfl (by kernel_rfl) (r_lstM r_anil))
    (r_cons (r_for (r_rg1 (by kernel_rfl) (T.free "range" (by decide)) (r_bin op_modD.s (r_call (T.fn 12 (by decide)) (T.ln 12 (by decide)) (by kernel_rfl) (T.glo 12 rfl) (r_acons (r_name (i := 0) rfl (by kernel_rfl)) r_anil)) r_int)) (g_name (i := 4) rfl (by kernel_rfl)) (r_last (r_expr (r_append (r_name (i := 3) rfl (by kernel_rfl)) (r_callT call_tupleD (by kernel_rfl) (T.free "tuple" (by decide)) (by kernel_rfl) (r_acons (r_lc (own := [("j", 6)]) (r_rg1 (by kernel_rfl) (T.free "range" (by decide)) r_int) (blkOk_by (by decide +kernel)) (g_name (i := 6) rfl (by kernel_rfl)) (by kernel_rfl) (by decide) if_nil (r_ix ix_U (r_name (i := 2) rfl (by kernel_rfl)) (r_bin op_modD.s (r_call (T.fn 12 (by decide)) (T.ln 12 (by decide)) (by kernel_rfl) (T.glo 12 rfl) (r_acons (r_name (i := 0) rfl (by kernel_rfl)) r_anil)) r_int))) r_anil))))))
    (r_last (r_ret (r_tup (r_acons r_str (r_acons (r_frz (r_name (i := 3) rfl (by kernel_rfl))) r_anil))))))) r_nil)
    (r_cons (r_setLc (i := 5) rfl (by kernel_rfl) (by kernel_rfl) (by kernel_rfl) (own := [("k", 4)]) (r_rg1 (by kernel_rfl) (T.free "range" (by decide)) (r_bin op_addD.s r_int (r_bin op_modD.s (r_call (T.fn 12 (by decide)) (T.ln 12 (by decide)) (by kernel_rfl) (T.glo 12 rfl) (r_acons (r_name (i := 0) rfl (by kernel_rfl)) r_anil)) r_int))) (blkOk_by (by decide +kernel)) (g_name (i := 4) rfl (by kernel_rfl)) (by kernel_rfl) (by decide) if_nil (r_tup (r_acons (r_ix ix_U (r_name (i := 2) rfl (by kernel_rfl)) (r_bin op_modD.s (r_call (T.fn 12 (by decide)) (T.ln 12 (by decide)) (by kernel_rfl) (T.glo 12 rfl) (r_acons (r_name (i := 0) rfl (by kernel_rfl)) r_anil)) r_int)) (r_acons (r_call (T.fn 14 (by decide)) (T.ln 14 (by decide)) (by kernel_rfl) (T.glo 14 rfl) (r_acons (r_name (i := 0) rfl (by kernel_rfl)) (r_acons (r_bin op_subD.s (r_name (i := 1) rfl (by kernel_rfl)) r_int) r_anil))) r_anil))) (hk := (by kernel_rfl)))
    (r_last (r_ret (r_tup (r_acons r_str (r_acons (r_ix ix_U (r_name (i := 2) rfl (by kernel_rfl)) (r_bin op_modD.s (r_call (T.fn 12 (by decide)) (T.ln 12 (by decide)) (by kernel_rfl) (T.glo 12 rfl) (r_acons (r_name (i := 0) rfl (by kernel_rfl)) r_anil)) r_int)) (r_acons (r_ix ix_U (r_name (i := 2) rfl (by kernel_rfl)) (r_bin op_modD.s (r_call (T.fn 12 (by decide)) (T.ln 12 (by decide)) (by kernel_rfl) (T.glo 12 rfl) (r_acons (r_name (i := 0) rfl (by kernel_rfl)) r_anil)) r_int)) (r_acons (r_name (i := 5) rfl (by kernel_rfl)) r_anil))))))))))
theorem sc14 : FnScope N14 (ps 14) (defScope s14) := ⟨rfl, rfl, rfl, by decide +kernel, rfl, by decide +kernel, by decide +kernel⟩
theorem k15 (T : Tx G) : SndSs G (defScope s15) N15 (defBody s15) (b15 G.F G.Fm) :=
  (r_cons (r_if (r_tcmp op_eqDD.s (r_ix ix_U (r_name (i := 0) rfl (by kernel_rfl)) r_int) r_str) (r_cons (r_set (i := 1) rfl (by kernel_rfl) (r_lst (r_acons r_str r_anil)))
    (r_cons (r_for (r_rg1 (by kernel_rfl) (T.free "range" (by decide)) (r_callB call_lenA (by kernel_rfl) (T.free "len" (by decide)) (by kernel_rfl) (r_acons (r_ix ix_U (r_name (i := 0) rfl (by kernel_rfl)) r_int) r_anil))) (g_name (i := 2) rfl (by kernel_rfl)) (r_last (r_set (i := 1) rfl (by kernel_rfl) (r_bin op_addD.s (r_bin op_addD.s (r_name (i := 1) rfl (by kernel_rfl)) (r_bin op_mulU (r_lstM (r_acons r_str r_anil)) (r_callT call_intD (by kernel_rfl) (T.free "int" (by decide)) (by kernel_rfl) (r_acons (r_cmp op_gtDD.s (r_name (i := 2) rfl (by kernel_rfl)) r_int) r_anil)))) (r_callT call_listE (by kernel_rfl) (T.free "list" (by decide)) (by kernel_rfl) (r_acons (r_ix ix_U (r_ix ix_U (r_name (i := 0) rfl (by kernel_rfl)) r_int) (r_name (i := 2) rfl (by kernel_rfl))) r_anil))))))
    (r_last (r_ret (r_lst (r_acons (r_name (i := 1) rfl (by kernel_rfl)) r_anil)))))) r_nil)
    (r_cons (r_set (i := 3) rfl (by kernel_rfl) (r_lst (r_acons (r_bin op_addD.s (r_lst (r_acons r_str (r_acons (r_ix ix_U (r_name (i := 0) rfl (by kernel_rfl)) r_int) (r_acons (r_ix ix_U (r_name (i := 0) rfl (by kernel_rfl)) r_int) r_anil)))) (r_lc (own := [("row", 4)]) (r_items (r_ix ix_U (r_name (i := 0) rfl (by kernel_rfl)) r_int)) (blkOk_by (by decide +kernel)) (g_name (i := 4) rfl (by kernel_rfl)) (by kernel_rfl) (by decide) if_nil (r_ix ix_U (r_name (i := 4) rfl (by kernel_rfl)) r_int))) r_anil)))
    (r_cons (r_for (r_items (r_ix ix_U (r_name (i := 0) rfl (by kernel_rfl)) r_int)) (g_name (i := 4) rfl (by kernel_rfl)) (r_last (r_set (i := 3) rfl (by kernel_rfl) (r_bin op_addD.s (r_name (i := 3) rfl (by kernel_rfl)) (r_call (T.fn 15 (by decide)) (T.ln 15 (by decide)) (by kernel_rfl) (T.glo 15 rfl) (r_acons (r_ix ix_U (r_name (i := 4) rfl (by kernel_rfl)) r_int) r_anil))))))
    (r_last (r_ret (r_name (i := 3) rfl (by kernel_rfl)))))))
theorem sc15 : FnScope N15 (ps 15) (defScope s15) := ⟨rfl, rfl, rfl, by decide +kernel, rfl, by decide +kernel, by decide +kernel⟩
theorem k16 (T : Tx G) : SndSs G (defScope s16) N16 (defBody s16) (b16 G.F G.Fm) :=
  (r_cons (r_set (i := 1) rfl (by kernel_rfl) r_str)
    (r_last (r_ret (r_and (r_cmp op_neDD.s (r_name (i := 0) rfl (by kernel_rfl)) r_str) (r_one (r_cmp op_eqDD.s (r_callB call_lenA (by kernel_rfl) (T.free "len" (by decide)) (by kernel_rfl) (r_acons (r_lc (own := [("sign", 2)]) (r_items (r_name (i := 0) rfl (by kernel_rfl))) (blkOk_by (by decide +kernel)) (g_name (i := 2) rfl (by kernel_rfl)) (by kernel_rfl) (by decide) (if_one (r_wand (r_tcmp op_ninU (r_name (i := 2) rfl (by kernel_rfl)) (r_name (i := 1) rfl (by kernel_rfl))) (r_wand (r_tcmp op_ninU (r_name (i := 2) rfl (by kernel_rfl)) (r_mth0 PySem.F.plainAttrs_str PySem.F.slot_str_upper PySem.F.type_str_upper mt_upperD (r_name (i := 1) rfl (by kernel_rfl)))) (r_wand1 (r_tcmp op_ninU (r_name (i := 2) rfl (by kernel_rfl)) r_str)))).t) (r_name (i := 2) rfl (by kernel_rfl))) r_anil)) r_int))))))
theorem sc16 : FnScope N16 (ps 16) (defScope s16) := ⟨rfl, rfl, rfl, by decide +kernel, rfl, by decide +kernel, by decide +kernel⟩
theorem k17 (T : Tx G) : SndSs G (defScope s17) N17 (defBody s17) (b17 G.F G.Fm) :=
  (r_cons (r_if (r_tcmp op_geDD.s (r_name (i := 1) rfl (by kernel_rfl)) (r_callB call_lenA (by kernel_rfl) (T.free "len" (by decide)) (by kernel_rfl) (r_acons (r_name (i := 0) rfl (by kernel_rfl)) r_anil))) (r_last (r_ret (r_tup (r_acons r_none (r_acons (r_lst (r_acons (r_callB call_lenA (by kernel_rfl) (T.free "len" (by decide)) (by kernel_rfl) (r_acons (r_name (i := 0) rfl (by kernel_rfl)) r_anil)) (r_acons r_int r_anil))) r_anil))))) r_nil)
    (r_cons (r_set (i := 3) rfl (by kernel_rfl) (r_ix ix_U (r_name (i := 0) rfl (by kernel_rfl)) (r_name (i := 1) rfl (by kernel_rfl))))
    (r_cons (r_if (r_wor (r_tcmp op_geDD.s (r_name (i := 2) rfl (by kernel_rfl)) r_int) (r_wor1 (r_tcmp op_ninU (r_ix ix_U (r_name (i := 3) rfl (by kernel_rfl)) r_int) (r_tup (r_acons r_str (r_acons r_str r_anil)))))).t (r_last (r_ret (r_tup (r_acons r_none (r_acons (r_lst (r_acons (r_name (i := 1) rfl (by kernel_rfl)) (r_acons r_int r_anil))) r_anil))))) r_nil)
    (r_cons (r_if (r_tcmp op_eqDD.s (r_ix ix_U (r_name (i := 3) rfl (by kernel_rfl)) r_int) r_str) (r_cons (r_for (r_rg2 (by kernel_rfl) (T.free "range" (by decide)) r_int (r_callB call_lenA (by kernel_rfl) (T.free "len" (by decide)) (by kernel_rfl) (r_acons (r_name (i := 3) rfl (by kernel_rfl)) r_anil))) (g_name (i := 4) rfl (by kernel_rfl)) (r_last (r_if (r_tif (r_tcmp op_eqDD.s (r_bin op_modD.s (r_name (i := 4) rfl (by kernel_rfl)) r_int) r_int) (r_tcmp op_neDD.s (r_ix ix_U (r_name (i := 3) rfl (by kernel_rfl)) (r_name (i := 4) rfl (by kernel_rfl))) r_str) (r_tnot (r_tval (h := (r_call (T.fn 16 (by decide)) (T.ln 16 (by decide)) (by kernel_rfl) (T.glo 16 rfl) (r_acons (r_ix ix_U (r_name (i := 3) rfl (by kernel_rfl)) (r_name (i := 4) rfl (by kernel_rfl))) r_anil)))))) (r_last (r_ret (r_tup (r_acons r_none (r_acons (r_lst (r_acons (r_name (i := 1) rfl (by kernel_rfl)) (r_acons (r_name (i := 4) rfl (by kernel_rfl)) r_anil))) r_anil))))) r_nil)))
    (r_cons (r_if (r_wand (r_tcmp op_gtDD.s (r_callB call_lenA (by kernel_rfl) (T.free "len" (by decide)) (by kernel_rfl) (r_acons (r_name (i := 3) rfl (by kernel_rfl)) r_anil)) r_int) (r_wand1 (r_tcmp op_neDD.s (r_bin op_modD.s (r_callB call_lenA (by kernel_rfl) (T.free "len" (by decide)) (by kernel_rfl) (r_acons (r_name (i := 3) rfl (by kernel_rfl)) r_anil)) r_int) r_int))).t (r_last (r_ret (r_tup (r_acons r_none (r_acons (r_lst (r_acons (r_name (i := 1) rfl (by kernel_rfl)) (r_acons (r_callB call_lenA (by kernel_rfl) (T.free "len" (by decide)) (by kernel_rfl) (r_acons (r_name (i := 3) rfl (by kernel_rfl)) r_anil)) r_anil))) r_anil))))) r_nil)
    (r_last (r_ret (r_tup (r_acons (r_tup (r_acons r_str (r_acons (r_lc (own := [("spot", 4)]) (r_rg3 (by kernel_rfl) (T.free "range" (by decide)) r_int (r_callB call_lenA (by kernel_rfl) (T.free "len" (by decide)) (by kernel_rfl) (r_acons (r_name (i := 3) rfl (by kernel_rfl)) r_anil)) r_int) (blkOk_by (by decide +kernel)) (g_name (i := 4) rfl (by kernel_rfl)) (by kernel_rfl) (by decide) if_nil (r_callT call_tupleD (by kernel_rfl) (T.free "tuple" (by decide)) (by kernel_rfl) (r_acons (r_slice (r_name (i := 3) rfl (by kernel_rfl)) (r_osome (r_name (i := 4) rfl (by kernel_rfl))) (r_osome (r_bin op_addD.s (r_name (i := 4) rfl (by kernel_rfl)) r_int))) r_anil))) r_anil))) (r_acons (r_bin op_addD.s (r_name (i := 1) rfl (by kernel_rfl)) r_int) r_anil))))))) r_nil)
    (r_cons (r_for (r_rg2 (by kernel_rfl) (T.free "range" (by decide)) r_int (r_callB call_lenA (by kernel_rfl) (T.free "len" (by decide)) (by kernel_rfl) (r_acons (r_name (i := 3) rfl (by kernel_rfl)) r_anil))) (g_name (i := 4) rfl (by kernel_rfl)) (r_last (r_if (r_tnot (r_tval (h := (r_call (T.fn 16 (by decide)) (T.ln 16 (by decide)) (by kernel_rfl) (T.glo 16 rfl) (r_acons (r_ix ix_U (r_name (i := 3) rfl (by kernel_rfl)) (r_name (i := 4) rfl (by kernel_rfl))) r_anil))))) (r_last (r_ret (r_tup (r_acons r_none (r_acons (r_lst (r_acons (r_name (i := 1) rfl (by kernel_rfl)) (r_acons (r_name (i := 4) rfl (by kernel_rfl)) r_anil))) r_anil))))) r_nil)))
    (r_cons (r_if (r_tcmp op_ltDD.s (r_callB call_lenA (by kernel_rfl) (T.free "len" (by decide)) (by kernel_rfl) (r_acons (r_name (i := 3) rfl (by kernel_rfl)) r_anil)) r_int) (r_last (r_ret (r_tup (r_acons r_none (r_acons (r_lst (r_acons (r_name (i := 1) rfl (by kernel_rfl)) (r_acons (r_callB call_lenA (by kernel_rfl) (T.free "len" (by decide)) (by kernel_rfl) (r_acons (r_name (i := 3) rfl (by kernel_rfl)) r_anil)) r_anil))) r_anil))))) r_nil)
    (r_cons (r_par (i := 5) (j := 1) rfl rfl (by decide) (by kernel_rfl) (by kernel_rfl) (r_acons (r_lstM r_anil) (r_acons (r_bin op_addD.s (r_name (i := 1) rfl (by kernel_rfl)) r_int) r_anil)) (by kernel_rfl) (by intro env h; obtain ⟨⟩ := env; cases h; rfl))
    (r_cons (r_for (r_items (r_slice (r_name (i := 3) rfl (by kernel_rfl)) (r_osome r_int) r_onone)) (g_name (i := 6) rfl (by kernel_rfl)) (r_cons (r_asg (r_call (T.fn 17 (by decide)) (T.ln 17 (by decide)) (by kernel_rfl) (T.glo 17 rfl) (r_acons (r_name (i := 0) rfl (by kernel_rfl)) (r_acons (r_name (i := 1) rfl (by kernel_rfl)) (r_acons (r_bin op_addD.s (r_name (i := 2) rfl (by kernel_rfl)) r_int) r_anil)))) (g_tup (g_cons (g_name (i := 7) rfl (by kernel_rfl)) (g_cons (g_name (i := 1) rfl (by kernel_rfl)) g_nil))))
    (r_cons (r_if (r_tcmp op_isA (r_name (i := 7) rfl (by kernel_rfl)) r_none) (r_last (r_ret (r_tup (r_acons r_none (r_acons (r_name (i := 1) rfl (by kernel_rfl)) r_anil))))) r_nil)
    (r_last (r_expr (r_append (r_name (i := 5) rfl (by kernel_rfl)) (r_tup (r_acons (r_name (i := 6) rfl (by kernel_rfl)) (r_acons (r_name (i := 7) rfl (by kernel_rfl)) r_anil)))))))))
    (r_last (r_ret (r_tup (r_acons (r_tup (r_acons r_str (r_acons (r_ix ix_U (r_name (i := 3) rfl (by kernel_rfl)) r_int) (r_acons (r_ix ix_U (r_name (i := 3) rfl (by kernel_rfl)) r_int) (r_acons (r_frz (r_name (i := 5) rfl (by kernel_rfl))) r_anil))))) (r_acons (r_name (i := 1) rfl (by kernel_rfl)) r_anil)))))))))))))
theorem sc17 : FnScope N17 (ps 17) (defScope s17) := ⟨rfl, rfl, rfl, by decide +kernel, rfl, by decide +kernel, by decide +kernel⟩
theorem k18 (T : Tx G) : SndSs G (defScope s18) N18 (defBody s18) (b18 G.F G.Fm) :=
  (r_cons (r_asg (r_call (T.fn 17 (by decide)) (T.ln 17 (by decide)) (by kernel_rfl) (T.glo 17 rfl) (r_acons (r_name (i := 0) rfl (by kernel_rfl)) (r_acons r_int (r_acons r_int r_anil)))) (g_tup (g_cons (g_name (i := 1) rfl (by kernel_rfl)) (g_cons (g_name (i := 2) rfl (by kernel_rfl)) g_nil))))
    (r_cons (r_if (r_tcmp op_isA (r_name (i := 1) rfl (by kernel_rfl)) r_none) (r_last (r_ret (r_name (i := 2) rfl (by kernel_rfl)))) r_nil)
    (r_last (r_ret (r_ifexp (r_tcmp op_eqDD.s (r_name (i := 2) rfl (by kernel_rfl)) (r_callB call_lenA (by kernel_rfl) (T.free "len" (by decide)) (by kernel_rfl) (r_acons (r_name (i := 0) rfl (by kernel_rfl)) r_anil))) (r_name (i := 1) rfl (by kernel_rfl)) (r_lst (r_acons (r_name (i := 2) rfl (by kernel_rfl)) (r_acons r_int r_anil))))))))
theorem sc18 : FnScope N18 (ps 18) (defScope s18) := ⟨rfl, rfl, rfl, by decide +kernel, rfl, by decide +kernel, by decide +kernel⟩
theorem k19 (T : Tx G) : SndSs G (defScope s19) N19 (defBody s19) (b19 G.F G.Fm) :=
  (r_last (r_tryAs (i := 1) (k := 1) T.sub rfl (by kernel_rfl) (by kernel_rfl) T.gc_1 (r_last (r_ret (r_call (T.fn 8 (by decide)) (T.ln 8 (by decide)) (by kernel_rfl) (T.glo 8 rfl) (r_acons (r_mth PySem.F.plainAttrs_str PySem.F.slot_str_join PySem.F.type_str_join mt_joinD r_str (r_acons (r_lc (own := [("words", 2)]) (r_items (r_name (i := 0) rfl (by kernel_rfl))) (blkOk_by (by decide +kernel)) (g_name (i := 2) rfl (by kernel_rfl)) (by kernel_rfl) (by decide) if_nil (r_mth PySem.F.plainAttrs_str PySem.F.slot_str_join PySem.F.type_str_join mt_joinD r_str (r_acons (r_name (i := 2) rfl (by kernel_rfl)) r_anil))) r_anil)) r_anil)))) (hs_ret (h_ifexp (h_tval (h := (h_is (k := 0) T.sub rfl (by kernel_rfl) (by kernel_rfl) (T.free "isinstance" (by decide)) (by kernel_rfl) T.gc_0))) (h_lst (h_acons (h_fld T.xf rfl (by kernel_rfl)) (h_acons (h_fld T.xf rfl (by kernel_rfl)) h_anil))) (h_lst (h_acons h_str h_anil))))))
theorem sc19 : FnScope N19 (ps 19) (defScope s19) := ⟨rfl, rfl, rfl, by decide +kernel, rfl, by decide +kernel, by decide +kernel⟩
theorem k20 (T : Tx G) : SndSs G (defScope s20) N20 (defBody s20) (b20 G.F G.Fm) :=
  (r_cons (r_set (i := 2) rfl (by kernel_rfl) (r_bin op_modD.s (r_call (T.fn 12 (by decide)) (T.ln 12 (by decide)) (by kernel_rfl) (T.glo 12 rfl) (r_acons (r_name (i := 0) rfl (by kernel_rfl)) r_anil)) (r_callB call_lenA (by kernel_rfl) (T.free "len" (by decide)) (by kernel_rfl) (r_acons (r_name (i := 1) rfl (by kernel_rfl)) r_anil))))
    (r_cons (r_set (i := 3) rfl (by kernel_rfl) (r_ix ix_U (r_name (i := 1) rfl (by kernel_rfl)) (r_name (i := 2) rfl (by kernel_rfl))))
    (r_cons (r_set (i := 4) rfl (by kernel_rfl) (r_bin op_modD.s (r_call (T.fn 12 (by decide)) (T.ln 12 (by decide)) (by kernel_rfl) (T.glo 12 rfl) (r_acons (r_name (i := 0) rfl (by kernel_rfl)) r_anil)) (r_bin op_addD.s (r_callB call_lenA (by kernel_rfl) (T.free "len" (by decide)) (by kernel_rfl) (r_acons (r_name (i := 3) rfl (by kernel_rfl)) r_anil)) r_int)))
    (r_cons (r_set (i := 5) rfl (by kernel_rfl) (r_ix ix_U (r_lst (r_acons r_str (r_acons r_str (r_acons r_str (r_acons r_str (r_acons r_str (r_acons r_str (r_acons r_str (r_acons r_str r_anil))))))))) (r_bin op_modD.s (r_call (T.fn 12 (by decide)) (T.ln 12 (by decide)) (by kernel_rfl) (T.glo 12 rfl) (r_acons (r_name (i := 0) rfl (by kernel_rfl)) r_anil)) r_int)))
    (r_cons (r_set (i := 6) rfl (by kernel_rfl) (r_bin op_modD.s (r_call (T.fn 12 (by decide)) (T.ln 12 (by decide)) (by kernel_rfl) (T.glo 12 rfl) (r_acons (r_name (i := 0) rfl (by kernel_rfl)) r_anil)) r_int))
    (r_cons (r_if (r_tcmp op_ltDD.s (r_name (i := 6) rfl (by kernel_rfl)) r_int) (r_cons (r_set (i := 3) rfl (by kernel_rfl) (r_ix ix_U (r_lst (r_acons (r_bin op_addD.s (r_bin op_addD.s (r_slice (r_name (i := 3) rfl (by kernel_rfl)) r_onone (r_osome (r_name (i := 4) rfl (by kernel_rfl)))) (r_lst (r_acons (r_name (i := 5) rfl (by kernel_rfl)) r_anil))) (r_slice (r_name (i := 3) rfl (by kernel_rfl)) (r_osome (r_name (i := 4) rfl (by kernel_rfl))) r_onone)) (r_acons (r_bin op_addD.s (r_bin op_addD.s (r_slice (r_name (i := 3) rfl (by kernel_rfl)) r_onone (r_osome (r_name (i := 4) rfl (by kernel_rfl)))) (r_lst (r_acons (r_name (i := 5) rfl (by kernel_rfl)) r_anil))) (r_slice (r_name (i := 3) rfl (by kernel_rfl)) (r_osome (r_bin op_addD.s (r_name (i := 4) rfl (by kernel_rfl)) r_int)) r_onone)) (r_acons (r_bin op_addD.s (r_slice (r_name (i := 3) rfl (by kernel_rfl)) r_onone (r_osome (r_name (i := 4) rfl (by kernel_rfl)))) (r_slice (r_name (i := 3) rfl (by kernel_rfl)) (r_osome (r_bin op_addD.s (r_name (i := 4) rfl (by kernel_rfl)) r_int)) r_onone)) (r_acons (r_slice (r_name (i := 3) rfl (by kernel_rfl)) r_onone (r_osome (r_name (i := 4) rfl (by kernel_rfl)))) r_anil))))) (r_name (i := 6) rfl (by kernel_rfl))))
    (r_last (r_ret (r_bin op_addD.s (r_bin op_addD.s (r_slice (r_name (i := 1) rfl (by kernel_rfl)) r_onone (r_osome (r_name (i := 2) rfl (by kernel_rfl)))) (r_lst (r_acons (r_ifexp (r_tcmp op_gtDD.s (r_callB call_lenA (by kernel_rfl) (T.free "len" (by decide)) (by kernel_rfl) (r_acons (r_name (i := 3) rfl (by kernel_rfl)) r_anil)) r_int) (r_name (i := 3) rfl (by kernel_rfl)) (r_lst (r_acons r_str r_anil))) r_anil))) (r_slice (r_name (i := 1) rfl (by kernel_rfl)) (r_osome (r_bin op_addD.s (r_name (i := 2) rfl (by kernel_rfl)) r_int)) r_onone))))) r_nil)
    (r_last (r_ret (r_orU (r_ix ix_U (r_lst (r_acons (r_bin op_addD.s (r_slice (r_name (i := 1) rfl (by kernel_rfl)) r_onone (r_osome (r_name (i := 2) rfl (by kernel_rfl)))) (r_slice (r_name (i := 1) rfl (by kernel_rfl)) (r_osome (r_bin op_addD.s (r_name (i := 2) rfl (by kernel_rfl)) r_int)) r_onone)) (r_acons (r_bin op_addD.s (r_bin op_addD.s (r_slice (r_name (i := 1) rfl (by kernel_rfl)) r_onone (r_osome (r_name (i := 2) rfl (by kernel_rfl)))) (r_lst (r_acons (r_ix ix_U (r_name (i := 1) rfl (by kernel_rfl)) (r_name (i := 2) rfl (by kernel_rfl))) r_anil))) (r_slice (r_name (i := 1) rfl (by kernel_rfl)) (r_osome (r_name (i := 2) rfl (by kernel_rfl))) r_onone)) (r_acons (r_bin op_addD.s (r_slice (r_name (i := 1) rfl (by kernel_rfl)) (r_osome (r_name (i := 2) rfl (by kernel_rfl))) r_onone) (r_slice (r_name (i := 1) rfl (by kernel_rfl)) r_onone (r_osome (r_name (i := 2) rfl (by kernel_rfl))))) r_anil)))) (r_bin op_subD.s (r_name (i := 6) rfl (by kernel_rfl)) r_int)) (r_one (r_lst (r_acons (r_lst (r_acons r_str r_anil)) r_anil))))))))))))
theorem sc20 : FnScope N20 (ps 20) (defScope s20) := ⟨rfl, rfl, rfl, by decide +kernel, rfl, by decide +kernel, by decide +kernel⟩
theorem k21 (T : Tx G) : SndSs G (defScope s21) N21 (defBody s21) (b21 G.F G.Fm) :=
  (r_cons (r_set (i := 1) rfl (by kernel_rfl) (r_call (T.fn 11 (by decide)) (T.ln 11 (by decide)) (by kernel_rfl) (T.glo 11 rfl) (r_acons (r_name (i := 0) rfl (by kernel_rfl)) (r_acons r_int (r_acons r_int (r_acons r_int r_anil))))))
    (r_cons (r_set (i := 2) rfl (by kernel_rfl) (r_call (T.fn 13 (by decide)) (T.ln 13 (by decide)) (by kernel_rfl) (T.glo 13 rfl) (r_acons (r_name (i := 0) rfl (by kernel_rfl)) (r_acons r_int (r_acons r_int r_anil)))))
    (r_cons (r_set (i := 3) rfl (by kernel_rfl) (r_call (T.fn 14 (by decide)) (T.ln 14 (by decide)) (by kernel_rfl) (T.glo 14 rfl) (r_acons (r_name (i := 2) rfl (by kernel_rfl)) (r_acons (r_bin op_modD.s (r_ix ix_U (r_name (i := 1) rfl (by kernel_rfl)) r_int) r_int) r_anil))))
    (r_cons (r_set (i := 4) rfl (by kernel_rfl) (r_call (T.fn 15 (by decide)) (T.ln 15 (by decide)) (by kernel_rfl) (T.glo 15 rfl) (r_acons (r_name (i := 3) rfl (by kernel_rfl)) r_anil)))
    (r_cons (r_if (r_wor (r_tnot (r_tval (h := (r_call (T.fn 9 (by decide)) (T.ln 9 (by decide)) (by kernel_rfl) (T.glo 9 rfl) (r_acons (r_call (T.fn 1 (by decide)) (T.ln 1 (by decide)) (by kernel_rfl) (T.glo 1 rfl) (r_acons (r_name (i := 3) rfl (by kernel_rfl)) r_anil)) (r_acons (r_mth PySem.F.plainAttrs_str PySem.F.slot_str_join PySem.F.type_str_join mt_joinD r_str (r_acons (r_lc (own := [("words", 8)]) (r_items (r_name (i := 4) rfl (by kernel_rfl))) (blkOk_by (by decide +kernel)) (g_name (i := 8) rfl (by kernel_rfl)) (by kernel_rfl) (by decide) if_nil (r_mth PySem.F.plainAttrs_str PySem.F.slot_str_join PySem.F.type_str_join mt_joinD r_str (r_acons (r_name (i := 8) rfl (by kernel_rfl)) r_anil))) r_anil)) r_anil)))))) (r_wor1 (r_tnot (r_tval (h := (r_call (T.fn 9 (by decide)) (T.ln 9 (by decide)) (by kernel_rfl) (T.glo 9 rfl) (r_acons (r_call (T.fn 19 (by decide)) (T.ln 19 (by decide)) (by kernel_rfl) (T.glo 19 rfl) (r_acons (r_name (i := 4) rfl (by kernel_rfl)) r_anil)) (r_acons (r_name (i := 3) rfl (by kernel_rfl)) r_anil)))))))).t (r_last (r_ret r_bool)) r_nil)
    (r_cons (r_for (r_rg1 (by kernel_rfl) (T.free "range" (by decide)) r_int) (g_name (i := 5) rfl (by kernel_rfl)) (r_cons (r_set (i := 6) rfl (by kernel_rfl) (r_call (T.fn 20 (by decide)) (T.ln 20 (by decide)) (by kernel_rfl) (T.glo 20 rfl) (r_acons (r_name (i := 2) rfl (by kernel_rfl)) (r_acons (r_name (i := 4) rfl (by kernel_rfl)) r_anil))))
    (r_last (r_if (r_tnot (r_tval (h := (r_call (T.fn 9 (by decide)) (T.ln 9 (by decide)) (by kernel_rfl) (T.glo 9 rfl) (r_acons (r_call (T.fn 19 (by decide)) (T.ln 19 (by decide)) (by kernel_rfl) (T.glo 19 rfl) (r_acons (r_name (i := 6) rfl (by kernel_rfl)) r_anil)) (r_acons (r_call (T.fn 18 (by decide)) (T.ln 18 (by decide)) (by kernel_rfl) (T.glo 18 rfl) (r_acons (r_name (i := 6) rfl (by kernel_rfl)) r_anil)) r_anil)))))) (r_last (r_ret r_bool)) r_nil))))
    (r_cons (r_if (r_tcmp op_gtDD.s (r_bin op_modD.s (r_ix ix_U (r_name (i := 1) rfl (by kernel_rfl)) r_int) r_int) r_int) (r_last (r_ret r_bool)) r_nil)
    (r_cons (r_set (i := 7) rfl (by kernel_rfl) (r_bin op_addD.s (r_bin op_mulU (r_lstM (r_acons (r_lst (r_acons r_str (r_acons r_str (r_acons r_str (r_acons r_str r_anil))))) r_anil)) (r_bin op_addD.s r_int (r_bin op_modD.s (r_call (T.fn 12 (by decide)) (T.ln 12 (by decide)) (by kernel_rfl) (T.glo 12 rfl) (r_acons (r_name (i := 2) rfl (by kernel_rfl)) r_anil)) r_int))) (r_lst (r_acons (r_lst (r_acons r_str r_anil)) r_anil))))
    (r_last (r_ret (r_call (T.fn 9 (by decide)) (T.ln 9 (by decide)) (by kernel_rfl) (T.glo 9 rfl) (r_acons (r_call (T.fn 19 (by decide)) (T.ln 19 (by decide)) (by kernel_rfl) (T.glo 19 rfl) (r_acons (r_name (i := 7) rfl (by kernel_rfl)) r_anil)) (r_acons (r_call (T.fn 18 (by decide)) (T.ln 18 (by decide)) (by kernel_rfl) (T.glo 18 rfl) (r_acons (r_name (i := 7) rfl (by kernel_rfl)) r_anil)) r_anil)))))))))))))
theorem sc21 : FnScope N21 (ps 21) (defScope s21) := ⟨rfl, rfl, rfl, by decide +kernel, rfl, by decide +kernel, by decide +kernel⟩
end K67

/-! the head -/
namespace K67
open PySem PySem.Spec PyProof.Rows L2 Ev
def at_ : Nat → Str × Option Str := fun f => match f with
  | 0 => ("bar_lines", none)
  | 1 => ("bar_text", none)
  | 2 => ("is_plain_word", none)
  | 3 => ("BarLines", some "__init__")
  | 4 => ("BarLines", some "step")
  | 5 => ("BarLines", some "steps")
  | 6 => ("BarLines", some "cases")
  | 7 => ("BarLines", some "bar")
  | 8 => ("read_bar", none)
  | 9 => ("_law_same", none)
  | 10 => ("_law_number", none)
  | 11 => ("_law_draws", none)
  | 12 => ("_law_pick", none)
  | 13 => ("_law_picks", none)
  | 14 => ("_law_bar", none)
  | 15 => ("_law_lines", none)
  | 16 => ("_law_is_word", none)
  | 17 => ("_law_read", none)
  | 18 => ("_law_due", none)
  | 19 => ("_law_told", none)
  | 20 => ("_law_changed", none)
  | 21 => ("law", none)
  | _ => ("", none)
def cn : Nat → Str := fun c => match c with
  | 0 => "StretchError"
  | 1 => "BadText"
  | 2 => "BarLines"
  | _ => "StretchError"
def fa : List He.Fa := [.glo "bar_lines", .keep "bar_lines", .glo "bar_text", .keep "bar_text", .glo "is_plain_word", .keep "is_plain_word", .glo "read_bar", .keep "read_bar", .glo "_law_same", .keep "_law_same", .glo "_law_number", .keep "_law_number", .glo "_law_draws", .keep "_law_draws", .glo "_law_pick", .keep "_law_pick", .glo "_law_picks", .keep "_law_picks", .glo "_law_bar", .keep "_law_bar", .glo "_law_lines", .keep "_law_lines", .glo "_law_is_word", .keep "_law_is_word", .glo "_law_read", .keep "_law_read", .glo "_law_due", .keep "_law_due", .glo "_law_told", .keep "_law_told", .glo "_law_changed", .keep "_law_changed", .glo "law", .keep "law", .free "abs", .free "bool", .free "int", .free "isinstance", .free "len", .free "list", .free "range", .free "str", .free "sum", .free "tuple", .free "super", .glo "StretchError", .glo "BadText", .glo "BarLines", .cls "BarLines", .noat "BarLines" "lines", .noat "BarLines" "at", .meth "BarLines" "__init__", .meth "BarLines" "step", .meth "BarLines" "steps", .meth "BarLines" "cases", .meth "BarLines" "bar", .mkr "BarLines"]
def d0 : He.FnD := ⟨at_ 0, "bar_lines", "bar_lines", defArgs s0, defBody s0, defScope s0⟩
def d1 : He.FnD := ⟨at_ 1, "bar_text", "bar_text", defArgs s1, defBody s1, defScope s1⟩
def d2 : He.FnD := ⟨at_ 2, "is_plain_word", "is_plain_word", defArgs s2, defBody s2, defScope s2⟩
def d3 : He.FnD := ⟨at_ 3, "__init__", "BarLines.__init__", defArgs s3, defBody s3, defScope s3⟩
def d4 : He.FnD := ⟨at_ 4, "step", "BarLines.step", defArgs s4, defBody s4, defScope s4⟩
def d5 : He.FnD := ⟨at_ 5, "steps", "BarLines.steps", defArgs s5, defBody s5, defScope s5⟩
def d6 : He.FnD := ⟨at_ 6, "cases", "BarLines.cases", defArgs s6, defBody s6, defScope s6⟩
def d7 : He.FnD := ⟨at_ 7, "bar", "BarLines.bar", defArgs s7, defBody s7, defScope s7⟩
def d8 : He.FnD := ⟨at_ 8, "read_bar", "read_bar", defArgs s8, defBody s8, defScope s8⟩
def d9 : He.FnD := ⟨at_ 9, "_law_same", "_law_same", defArgs s9, defBody s9, defScope s9⟩
def d10 : He.FnD := ⟨at_ 10, "_law_number", "_law_number", defArgs s10, defBody s10, defScope s10⟩
def d11 : He.FnD := ⟨at_ 11, "_law_draws", "_law_draws", defArgs s11, defBody s11, defScope s11⟩
def d12 : He.FnD := ⟨at_ 12, "_law_pick", "_law_pick", defArgs s12, defBody s12, defScope s12⟩
def d13 : He.FnD := ⟨at_ 13, "_law_picks", "_law_picks", defArgs s13, defBody s13, defScope s13⟩
def d14 : He.FnD := ⟨at_ 14, "_law_bar", "_law_bar", defArgs s14, defBody s14, defScope s14⟩
def d15 : He.FnD := ⟨at_ 15, "_law_lines", "_law_lines", defArgs s15, defBody s15, defScope s15⟩
def d16 : He.FnD := ⟨at_ 16, "_law_is_word", "_law_is_word", defArgs s16, defBody s16, defScope s16⟩
def d17 : He.FnD := ⟨at_ 17, "_law_read", "_law_read", defArgs s17, defBody s17, defScope s17⟩
def d18 : He.FnD := ⟨at_ 18, "_law_due", "_law_due", defArgs s18, defBody s18, defScope s18⟩
def d19 : He.FnD := ⟨at_ 19, "_law_told", "_law_told", defArgs s19, defBody s19, defScope s19⟩
def d20 : He.FnD := ⟨at_ 20, "_law_changed", "_law_changed", defArgs s20, defBody s20, defScope s20⟩
def d21 : He.FnD := ⟨at_ 21, "law", "law", defArgs s21, defBody s21, defScope s21⟩
def fn : List He.FnD := [d0, d1, d2, d3, d4, d5, d6, d7, d8, d9, d10, d11, d12, d13, d14, d15, d16, d17, d18, d19, d20, d21]
abbrev si1 : Stmt := inClass (top 2) 0
def i1 : IniD := ⟨"BadText", "BadText.__init__", "/claim/cut.py", defArgs si1, defBody si1, defScope si1⟩
def fc : Fcts := ⟨fa, fn, [("FIGURES", c_FIGURES), ("LETTERS", c_LETTERS), ("MOST_DEEP", c_MOST_DEEP)], [("BadText", ["line", "word"])], [i1], [("BadText", "BadText", true), ("BadText", "StretchError", true)]⟩
abbrev rw_ : PySem.W.OpenLaw := PySem.Challenge.rw_stretchways_k67_texts_of_bars
abbrev hk : PySem.W.Hook := hookF 6 fc
def ob (s : PySem.W.SharedT) : AlF := obsX 6 fc (HandSHeadRun.getT s)
theorem ob_eq (s : PySem.W.SharedT) : ob s = hk.obs s.abs := obsX_eq (HandSHeadRun.getT_eq s)
def loose0 : List Str := ["__name__", "StretchError", "BadText", "LETTERS", "FIGURES", "MOST_DEEP", "bar_lines", "bar_text", "is_plain_word", "BarLines", "read_bar", "_law_same", "_law_number", "_law_draws", "_law_pick", "_law_picks", "_law_bar", "_law_lines", "_law_is_word", "_law_read", "_law_due", "_law_told", "_law_changed"]
abbrev loose : List Str := loose0
theorem run (w : World) : HandSHeadRun.RunEq (PySem.W.OpenLaw.row rw_) (PySem.W.view (PySem.W.OpenLaw.row rw_).prog [25]) hk ob 4000 loose w := by
  intro os
  kernel_rfl
abbrev P : Program := PySem.Challenge.pw_stretchways_k67_texts_of_bars
/-- what the head tells makes the law's promise of what its function answers -/
theorem tell {w : World} {K : PySem.W.Frag} {h : Heap} {mg : Str → Option Value} {f : Addr} (X : K.In h) (Gn : h.Ns mainGlobals mg) (hfa : mg "law" = some (.ref f)) (c : SaysF fc K) (D : Nat)
    (hlaw : ∀ ns : List Int, ns.length ≤ 63 → ∃ S, cd D 21 [.d (.list (ns.map .int))] [] = .ok (.d (.bool true)) S) :
    ∃ (fd : FuncData) (sp : Sp), (∀ (s : Shared) (u : Value), BindsTo s fd ⟨[u], []⟩ [("script", u)]) ∧ (∀ (H : Hp) (a : Addr) (ns : List Int), ns.length ≤ 63 → Only H → SqL K H a (ns.map V.int) → sp [.ref a] H (fun v _ => v = .bl true) fun _ _ _ => False) ∧
      ∀ base : Heap, K.In base → base.Ns mainGlobals mg → FnK P w K mg base (L2.CX P w) (D + 2) f fd ["script"] sp := by
  obtain ⟨fd0, F0⟩ := fun_of (st := s0) (c.fact 1 rfl) (c.def_ 0 (d := d0) rfl)
  have B0 : Binds K fd0 (ps 0) [] := F0.binds fun _ _ _ _ _ _ us hl => match us, hl with | [_], _ => rfl
  obtain ⟨fd1, F1⟩ := fun_of (st := s1) (c.fact 3 rfl) (c.def_ 1 (d := d1) rfl)
  have B1 : Binds K fd1 (ps 1) [] := F1.binds fun _ _ _ _ _ _ us hl => match us, hl with | [_], _ => rfl
  obtain ⟨fd2, F2⟩ := fun_of (st := s2) (c.fact 5 rfl) (c.def_ 2 (d := d2) rfl)
  have B2 : Binds K fd2 (ps 2) [] := F2.binds fun _ _ _ _ _ _ us hl => match us, hl with | [_], _ => rfl
  obtain ⟨fd3, F3⟩ := fun_of (st := s3) (He.meth_ok (c.fact 51 rfl)).kp (c.def_ 3 (d := d3) rfl)
  have B3 : Binds K fd3 (ps 3) [] := F3.binds fun _ _ _ _ _ _ us hl => match us, hl with | [_, _], _ => rfl
  obtain ⟨fd4, F4⟩ := fun_of (st := s4) (He.meth_ok (c.fact 52 rfl)).kp (c.def_ 4 (d := d4) rfl)
  have B4 : Binds K fd4 (ps 4) [] := F4.binds fun _ _ _ _ _ _ us hl => match us, hl with | [_, _, _], _ => rfl
  obtain ⟨fd5, F5⟩ := fun_of (st := s5) (He.meth_ok (c.fact 53 rfl)).kp (c.def_ 5 (d := d5) rfl)
  have B5 : Binds K fd5 (ps 5) [] := F5.binds fun _ _ _ _ _ _ us hl => match us, hl with | [_, _], _ => rfl
  obtain ⟨fd6, F6⟩ := fun_of (st := s6) (He.meth_ok (c.fact 54 rfl)).kp (c.def_ 6 (d := d6) rfl)
  have B6 : Binds K fd6 (ps 6) [] := F6.binds fun _ _ _ _ _ _ us hl => match us, hl with | [_, _, _], _ => rfl
  obtain ⟨fd7, F7⟩ := fun_of (st := s7) (He.meth_ok (c.fact 55 rfl)).kp (c.def_ 7 (d := d7) rfl)
  have B7 : Binds K fd7 (ps 7) [] := F7.binds fun _ _ _ _ _ _ us hl => match us, hl with | [_, _], _ => rfl
  obtain ⟨fd8, F8⟩ := fun_of (st := s8) (c.fact 7 rfl) (c.def_ 8 (d := d8) rfl)
  have B8 : Binds K fd8 (ps 8) [] := F8.binds fun _ _ _ _ _ _ us hl => match us, hl with | [_], _ => rfl
  obtain ⟨fd9, F9⟩ := fun_of (st := s9) (c.fact 9 rfl) (c.def_ 9 (d := d9) rfl)
  have B9 : Binds K fd9 (ps 9) [] := F9.binds fun _ _ _ _ _ _ us hl => match us, hl with | [_, _], _ => rfl
  obtain ⟨fd10, F10⟩ := fun_of (st := s10) (c.fact 11 rfl) (c.def_ 10 (d := d10) rfl)
  have B10 : Binds K fd10 (ps 10) [] := F10.binds fun _ _ _ _ _ _ us hl => match us, hl with | [_, _], _ => rfl
  obtain ⟨fd11, F11⟩ := fun_of (st := s11) (c.fact 13 rfl) (c.def_ 11 (d := d11) rfl)
  have B11 : Binds K fd11 (ps 11) [] := F11.binds fun _ _ _ _ _ _ us hl => match us, hl with | [_, _, _, _], _ => rfl
  obtain ⟨fd12, F12⟩ := fun_of (st := s12) (c.fact 15 rfl) (c.def_ 12 (d := d12) rfl)
  have B12 : Binds K fd12 (ps 12) [] := F12.binds fun _ _ _ _ _ _ us hl => match us, hl with | [_], _ => rfl
  obtain ⟨fd13, F13⟩ := fun_of (st := s13) (c.fact 17 rfl) (c.def_ 13 (d := d13) rfl)
  have B13 : Binds K fd13 (ps 13) [] := F13.binds fun _ _ _ _ _ _ us hl => match us, hl with | [_, _, _], _ => rfl
  obtain ⟨fd14, F14⟩ := fun_of (st := s14) (c.fact 19 rfl) (c.def_ 14 (d := d14) rfl)
  have B14 : Binds K fd14 (ps 14) [] := F14.binds fun _ _ _ _ _ _ us hl => match us, hl with | [_, _], _ => rfl
  obtain ⟨fd15, F15⟩ := fun_of (st := s15) (c.fact 21 rfl) (c.def_ 15 (d := d15) rfl)
  have B15 : Binds K fd15 (ps 15) [] := F15.binds fun _ _ _ _ _ _ us hl => match us, hl with | [_], _ => rfl
  obtain ⟨fd16, F16⟩ := fun_of (st := s16) (c.fact 23 rfl) (c.def_ 16 (d := d16) rfl)
  have B16 : Binds K fd16 (ps 16) [] := F16.binds fun _ _ _ _ _ _ us hl => match us, hl with | [_], _ => rfl
  obtain ⟨fd17, F17⟩ := fun_of (st := s17) (c.fact 25 rfl) (c.def_ 17 (d := d17) rfl)
  have B17 : Binds K fd17 (ps 17) [] := F17.binds fun _ _ _ _ _ _ us hl => match us, hl with | [_, _, _], _ => rfl
  obtain ⟨fd18, F18⟩ := fun_of (st := s18) (c.fact 27 rfl) (c.def_ 18 (d := d18) rfl)
  have B18 : Binds K fd18 (ps 18) [] := F18.binds fun _ _ _ _ _ _ us hl => match us, hl with | [_], _ => rfl
  obtain ⟨fd19, F19⟩ := fun_of (st := s19) (c.fact 29 rfl) (c.def_ 19 (d := d19) rfl)
  have B19 : Binds K fd19 (ps 19) [] := F19.binds fun _ _ _ _ _ _ us hl => match us, hl with | [_], _ => rfl
  obtain ⟨fd20, F20⟩ := fun_of (st := s20) (c.fact 31 rfl) (c.def_ 20 (d := d20) rfl)
  have B20 : Binds K fd20 (ps 20) [] := F20.binds fun _ _ _ _ _ _ us hl => match us, hl with | [_, _], _ => rfl
  obtain ⟨fd21, F21⟩ := fun_of (st := s21) (c.fact 33 rfl) (c.def_ 21 (d := d21) rfl)
  have B21 : Binds K fd21 (ps 21) [] := F21.binds fun _ _ _ _ _ _ us hl => match us, hl with | [_], _ => rfl
  have hb : ∀ (s : Shared) (u : Value), BindsTo s fd21 ⟨[u], []⟩ [("script", u)] := by
    obtain ⟨_, _, _, _, _, _, _, _, _, e, _, _⟩ := F21.ex
    subst e
    exact fun s u => .of_eq rfl
  have ef := hfa.symm.trans (He.glo_ok X Gn (c.fact 32 rfl))
  cases ef
  let fds : Nat → FuncData := fun f => match f with
    | 0 => fd0
    | 1 => fd1
    | 2 => fd2
    | 3 => fd3
    | 4 => fd4
    | 5 => fd5
    | 6 => fd6
    | 7 => fd7
    | 8 => fd8
    | 9 => fd9
    | 10 => fd10
    | 11 => fd11
    | 12 => fd12
    | 13 => fd13
    | 14 => fd14
    | 15 => fd15
    | 16 => fd16
    | 17 => fd17
    | 18 => fd18
    | 19 => fd19
    | 20 => fd20
    | 21 => fd21
    | _ => fd0
  let Gb : Heap → Gl := fun base => { P := P, w := w, K := K, mg := mg, base := base, ca := fun c => He.ga K (cn c), fa := fun f => He.fAd K (at_ f), fd := fds, ps := ps, F := fun _ _ _ => .no, Fm := fun _ _ _ => .no, k := 0 }
  have h0 : ∀ f as S, cd 0 f as S = .no := fun _ _ _ => rfl
  have ln : ∀ j f, f < 22 → ∀ as S, cd j f as S = .no ∨ as.length = (ps f).length := fun j f hf as S => by
    cases j with
    | zero => exact .inl rfl
    | succ j => match f, hf with
      | 0, _ => exact defn_len
      | 1, _ => exact defn_len
      | 2, _ => exact defn_len
      | 3, _ => exact defn_len
      | 4, _ => exact defn_len
      | 5, _ => exact defn_len
      | 6, _ => exact defn_len
      | 7, _ => exact defn_len
      | 8, _ => exact defn_len
      | 9, _ => exact defn_len
      | 10, _ => exact defn_len
      | 11, _ => exact defn_len
      | 12, _ => exact defn_len
      | 13, _ => exact defn_len
      | 14, _ => exact defn_len
      | 15, _ => exact defn_len
      | 16, _ => exact defn_len
      | 17, _ => exact defn_len
      | 18, _ => exact defn_len
      | 19, _ => exact defn_len
      | 20, _ => exact defn_len
      | 21, _ => exact defn_len
      | m + 22, h => exact absurd h (by omega)
  have lm : ∀ j f, f < 22 → ∀ as S, cm j f as S = .no ∨ as.length = (ps f).length := fun j f hf as S => by
    cases j with
    | zero => exact .inl rfl
    | succ j => exact ln j f hf as S
  have fr : ∀ x, x ∈ frees → mg x = none := fun x hx => by
    simp only [frees, List.mem_cons, List.not_mem_nil, or_false] at hx
    rcases hx with rfl | rfl | rfl | rfl | rfl | rfl | rfl | rfl | rfl | rfl | rfl
    · exact He.free_ok X Gn (c.fact 34 rfl)
    · exact He.free_ok X Gn (c.fact 35 rfl)
    · exact He.free_ok X Gn (c.fact 36 rfl)
    · exact He.free_ok X Gn (c.fact 37 rfl)
    · exact He.free_ok X Gn (c.fact 38 rfl)
    · exact He.free_ok X Gn (c.fact 39 rfl)
    · exact He.free_ok X Gn (c.fact 40 rfl)
    · exact He.free_ok X Gn (c.fact 41 rfl)
    · exact He.free_ok X Gn (c.fact 42 rfl)
    · exact He.free_ok X Gn (c.fact 43 rfl)
    · exact He.free_ok X Gn (c.fact 44 rfl)
  have X1 := c.exc_ 0 (f := ("BadText", ["line", "word"])) rfl
  have J1 := c.ini_ 0 (d := i1) rfl
  obtain ⟨a1, t1, cc1, cda1, fdi1, T1, bd1⟩ := ini_ok (P := P) (mg := mg) (slf := "self") J1.1 J1.2 X1 ⟨_, rfl, rfl⟩ (by decide +kernel) (fr "super" (by decide)) (by decide +kernel) (fun fd e => by
    obtain ⟨⟩ := fd
    cases e
    exact Binds.all fun us hl => match us, hl with | [_, _, _], _ => rfl)
  have S1 : InitSc ["self", "line", "word"] (defScope si1) := ⟨rfl, rfl, rfl, by decide +kernel, by decide +kernel, by decide +kernel, by decide +kernel, rfl, rfl⟩
  have FI1 : ∀ base : Heap, FnOk P w K mg base (L2.CX P w) 1 (iniA K (He.ga K "BadText")) fdi1 ["self", "line", "word"] (spI (He.ga K "BadText") ["line", "word"]) := fun base => fn_ini2 T1 S1 (by decide +kernel) (by decide +kernel) (by decide +kernel) (X1.no "line" (by decide)) (X1.no "word" (by decide)) rfl _ (fun _ => rfl)
  have xfs : ∀ q ∈ xfL, ∀ f ∈ q.2, XfC K (He.ga K (cn q.1)) ∧ PySem.W.findIn K (.ref (He.ga K (cn q.1))) f = some none := fun q hq => by
    simp only [xfL, List.mem_cons, List.not_mem_nil, or_false] at hq
    rcases hq with rfl
    · exact fun f hf => ⟨X1.xf, X1.no f hf⟩
  have sbs : ∀ q ∈ subL, ExcC K (He.ga K (cn q.1)) ∧ PySem.W.kitOne K (.ref (He.ga K (cn q.1))) (.ref (He.ga K (cn q.2.1))) = some q.2.2 ∧ PySem.W.exmOne K (.ref (He.ga K (cn q.1))) (.ref (He.ga K (cn q.2.1))) = some q.2.2 := fun q hq => by
    simp only [subL, List.mem_cons, List.not_mem_nil, or_false] at hq
    rcases hq with rfl | rfl
    · exact ⟨X1.exc, c.sub_ (q := ("BadText", "BadText", true)) (by decide)⟩
    · exact ⟨X1.exc, c.sub_ (q := ("BadText", "StretchError", true)) (by decide)⟩
  have step : ∀ base k, (∀ j, j ≤ k → ∀ f, f < 22 → FnG (Gb base) (j + 2) (cd j) f) → ∀ f, f < 22 → FnG ((Gb base).lv cd cm k) (k + 1 + 2) (cd (k + 1)) f := fun base k ih => by
    have fi : ∀ f, f < 22 → FnIs ((Gb base).lv cd cm k) f := fun f hf => by
      have ok : FnG ((Gb base).lv cd cm k) (k + 2) (cd k) f := fnG_lv.mpr (ih k (Nat.le_refl k) f hf)
      match f, hf, ok with
      | 0, _, ok => exact ⟨ok, B0, F0.kp⟩
      | 1, _, ok => exact ⟨ok, B1, F1.kp⟩
      | 2, _, ok => exact ⟨ok, B2, F2.kp⟩
      | 3, _, ok => exact ⟨ok, B3, F3.kp⟩
      | 4, _, ok => exact ⟨ok, B4, F4.kp⟩
      | 5, _, ok => exact ⟨ok, B5, F5.kp⟩
      | 6, _, ok => exact ⟨ok, B6, F6.kp⟩
      | 7, _, ok => exact ⟨ok, B7, F7.kp⟩
      | 8, _, ok => exact ⟨ok, B8, F8.kp⟩
      | 9, _, ok => exact ⟨ok, B9, F9.kp⟩
      | 10, _, ok => exact ⟨ok, B10, F10.kp⟩
      | 11, _, ok => exact ⟨ok, B11, F11.kp⟩
      | 12, _, ok => exact ⟨ok, B12, F12.kp⟩
      | 13, _, ok => exact ⟨ok, B13, F13.kp⟩
      | 14, _, ok => exact ⟨ok, B14, F14.kp⟩
      | 15, _, ok => exact ⟨ok, B15, F15.kp⟩
      | 16, _, ok => exact ⟨ok, B16, F16.kp⟩
      | 17, _, ok => exact ⟨ok, B17, F17.kp⟩
      | 18, _, ok => exact ⟨ok, B18, F18.kp⟩
      | 19, _, ok => exact ⟨ok, B19, F19.kp⟩
      | 20, _, ok => exact ⟨ok, B20, F20.kp⟩
      | 21, _, ok => exact ⟨ok, B21, F21.kp⟩
      | m + 22, h, _ => exact absurd h (by omega)
    have cls : ∀ c, ClsIs ((Gb base).lv cd cm k) c (fl c) := fun cq => match cq with
      | 0 => ⟨(fun f hf => nomatch hf), (fun f hf => nomatch hf)⟩
      | 1 => ⟨(fun f hf => nomatch hf), (fun f hf => nomatch hf)⟩
      | 2 => ⟨fun f hf => He.cls_ok (c.fact 48 rfl), fun f hf => by
        simp only [fl, List.mem_cons, List.not_mem_nil, or_false] at hf
        rcases hf with rfl | rfl
        · exact He.noat_ok (c.fact 49 rfl)
        · exact He.noat_ok (c.fact 50 rfl)⟩
      | _ + 3 => ⟨(fun f hf => nomatch hf), (fun f hf => nomatch hf)⟩
    have gl : ∀ f, isG f = true → mg (nm f) = some (.ref (He.fAd K (at_ f))) := fun f h => match f, h with
      | 0, _ => He.glo_ok X Gn (c.fact 0 rfl)
      | 1, _ => He.glo_ok X Gn (c.fact 2 rfl)
      | 2, _ => He.glo_ok X Gn (c.fact 4 rfl)
      | 3, h => nomatch h
      | 4, h => nomatch h
      | 5, h => nomatch h
      | 6, h => nomatch h
      | 7, h => nomatch h
      | 8, _ => He.glo_ok X Gn (c.fact 6 rfl)
      | 9, _ => He.glo_ok X Gn (c.fact 8 rfl)
      | 10, _ => He.glo_ok X Gn (c.fact 10 rfl)
      | 11, _ => He.glo_ok X Gn (c.fact 12 rfl)
      | 12, _ => He.glo_ok X Gn (c.fact 14 rfl)
      | 13, _ => He.glo_ok X Gn (c.fact 16 rfl)
      | 14, _ => He.glo_ok X Gn (c.fact 18 rfl)
      | 15, _ => He.glo_ok X Gn (c.fact 20 rfl)
      | 16, _ => He.glo_ok X Gn (c.fact 22 rfl)
      | 17, _ => He.glo_ok X Gn (c.fact 24 rfl)
      | 18, _ => He.glo_ok X Gn (c.fact 26 rfl)
      | 19, _ => He.glo_ok X Gn (c.fact 28 rfl)
      | 20, _ => He.glo_ok X Gn (c.fact 30 rfl)
      | 21, _ => He.glo_ok X Gn (c.fact 32 rfl)
      | m + 22, h => nomatch h
    have mt_step_ : MIs ((Gb base).lv cd cm k) mt_step "step" := ⟨fun cq f h => match cq, f, h with
      | 0, _, h => nomatch h
      | 1, _, h => nomatch h
      | 2, _, rfl => ⟨He.cls_ok (c.fact 48 rfl), He.meth_ok (c.fact 52 rfl), fi 4 (by decide), fun as S => ln k 4 (by decide) as S⟩
      | _ + 3, _, h => nomatch h⟩
    have mt_steps_ : MIs ((Gb base).lv cd cm k) mt_steps "steps" := ⟨fun cq f h => match cq, f, h with
      | 0, _, h => nomatch h
      | 1, _, h => nomatch h
      | 2, _, rfl => ⟨He.cls_ok (c.fact 48 rfl), He.meth_ok (c.fact 53 rfl), fi 5 (by decide), fun as S => ln k 5 (by decide) as S⟩
      | _ + 3, _, h => nomatch h⟩
    have mt_cases_ : MIs ((Gb base).lv cd cm k) mt_cases "cases" := ⟨fun cq f h => match cq, f, h with
      | 0, _, h => nomatch h
      | 1, _, h => nomatch h
      | 2, _, rfl => ⟨He.cls_ok (c.fact 48 rfl), He.meth_ok (c.fact 54 rfl), fi 6 (by decide), fun as S => ln k 6 (by decide) as S⟩
      | _ + 3, _, h => nomatch h⟩
    have mt_bar_ : MIs ((Gb base).lv cd cm k) mt_bar "bar" := ⟨fun cq f h => match cq, f, h with
      | 0, _, h => nomatch h
      | 1, _, h => nomatch h
      | 2, _, rfl => ⟨He.cls_ok (c.fact 48 rfl), He.meth_ok (c.fact 55 rfl), fi 7 (by decide), fun as S => ln k 7 (by decide) as S⟩
      | _ + 3, _, h => nomatch h⟩
    have mk2_ : MkIs ((Gb base).lv cd cm k) 2 3 "BarLines" := ⟨He.mkr_ok (c.fact 56 rfl), He.glo_ok X Gn (c.fact 47 rfl), B3, fun as S => lm k 3 (by decide) as S, room_lv (fun _ _ _ => rfl) (fun _ => rfl) ih (by decide)⟩
    have T : Tx ((Gb base).lv cd cm k) := { fn := fi, ln := fun f hf => ln k f hf, glo := gl, free := fr, cls := cls, mt_step := mt_step_, mt_steps := mt_steps_, mt_cases := mt_cases_, mt_bar := mt_bar_, mk2 := mk2_, ex_1 := ⟨He.glo_ok X Gn (c.fact 46 rfl), X1.oex, _, fdi1, "self", a1, t1, FI1 base, bd1⟩, con_FIGURES := con_of (G := (Gb base).lv cd cm k) X Gn (c.con_ 0 rfl), con_LETTERS := con_of (G := (Gb base).lv cd cm k) X Gn (c.con_ 1 rfl), con_MOST_DEEP := con_of (G := (Gb base).lv cd cm k) X Gn (c.con_ 2 rfl), xf := xf_tab xfs, sub := sub_tab sbs, gc_1 := He.glo_ok X Gn (c.fact 46 rfl), gc_0 := He.glo_ok X Gn (c.fact 45 rfl) }
    intro f hf
    match f, hf with
    | 0, _ => exact fn_good F0 sc0 (k0 T) rfl
    | 1, _ => exact fn_good F1 sc1 (k1 T) rfl
    | 2, _ => exact fn_good F2 sc2 (k2 T) rfl
    | 3, _ => exact fn_good F3 sc3 (k3 T) rfl
    | 4, _ => exact fn_good F4 sc4 (k4 T) rfl
    | 5, _ => exact fn_good F5 sc5 (k5 T) rfl
    | 6, _ => exact fn_good F6 sc6 (k6 T) rfl
    | 7, _ => exact fn_good F7 sc7 (k7 T) rfl
    | 8, _ => exact fn_good F8 sc8 (k8 T) rfl
    | 9, _ => exact fn_good F9 sc9 (k9 T) rfl
    | 10, _ => exact fn_good F10 sc10 (k10 T) rfl
    | 11, _ => exact fn_good F11 sc11 (k11 T) rfl
    | 12, _ => exact fn_good F12 sc12 (k12 T) rfl
    | 13, _ => exact fn_good F13 sc13 (k13 T) rfl
    | 14, _ => exact fn_good F14 sc14 (k14 T) rfl
    | 15, _ => exact fn_good F15 sc15 (k15 T) rfl
    | 16, _ => exact fn_good F16 sc16 (k16 T) rfl
    | 17, _ => exact fn_good F17 sc17 (k17 T) rfl
    | 18, _ => exact fn_good F18 sc18 (k18 T) rfl
    | 19, _ => exact fn_good F19 sc19 (k19 T) rfl
    | 20, _ => exact fn_good F20 sc20 (k20 T) rfl
    | 21, _ => exact fn_good F21 sc21 (k21 T) rfl
    | m + 22, h => exact absurd h (by omega)
  refine ⟨fd21, spOf (Gb h) (cd D) 21, hb, fun H a ns hl hO hS => law_sp (G := Gb h) rfl hlaw hl hO hS, fun base _ _ => ?_⟩
  have good : FnG (Gb base) (D + 2) (cd D) 21 := all_good h0 (step base) D D (Nat.le_refl D) 21 (by decide)
  unfold FnG at good
  have es : spOf (Gb base) (cd D) 21 = spOf (Gb h) (cd D) 21 := sp_lv_base
  rw [← es]
  exact good
end K67
open PySem PySem.W PySem.Calls PyProof.Rows in
set_option maxRecDepth 100000 in
set_option maxHeartbeats 0 in
theorem K67.holds_of (D : Nat) (hD : Ev.Rm (D + 2) callerA) (hlaw : ∀ ns : List Int, ns.length ≤ 63 → ∃ S, K67.cd D 21 [.d (.list (ns.map .int))] [] = .ok (.d (.bool true)) S) : PySem.Challenge.rw_stretchways_k67_texts_of_bars.Holds := by
  w_on; o_law
  refine HandSHeadRun.head_any (r := OpenLaw.row K67.rw_) (q := view (OpenLaw.row K67.rw_).prog [25]) (H := K67.hk) (ob := K67.ob) (M := 4000)
    (loose := K67.loose) (d := HandSHeadRun.topDef (OpenLaw.row K67.rw_).prog 25) (kwd := []) K67.ob_eq
    (by kernel_rfl) (fun s => by kernel_rfl) K67.run (by kernel_rfl) (by kernel_rfl) (by kernel_rfl) (by rfl) (by first | assumption | decide +kernel)
    (by decide +kernel) ⟨rfl, rfl, rfl, rfl, rfl, by decide +kernel⟩ ?hw ?hc
  case hw => w_witness2
  case hc =>
    refine Ev.end_of (l := PySem.Challenge.rw_stretchways_k67_texts_of_bars) (k := D + 2) (x := "script") rfl (by kernel_rfl) hD ?F
    intro w mg fa h Y G hmg0
    obtain ⟨K, KX, c⟩ := Y
    have hmg : mg ("law" : PySem.Str) = some (.ref fa) := by
      have e : (HandSHeadRun.topDef (OpenLaw.row K67.rw_).prog 25).name = ("law" : PySem.Str) := by kernel_rfl
      rw [← e]
      exact hmg0
    obtain ⟨fd, sp, hb, hs, ok⟩ := K67.tell (w := w) KX G hmg c D hlaw
    exact ⟨K, fd, sp, KX, hb, hs, ok⟩

theorem PySem.Challenge.cw_stretchways_k67_texts_of_bars_holds : PySem.Challenge.rw_stretchways_k67_texts_of_bars.Holds :=
  K67.holds_of 311 ⟨rfl, by decide, by decide⟩ fun ns h => Q67.law_D 311 rfl ns h
