import PyProof.Rows.All
import Wide.All
import OpenK.AllK
import Wide.FinOn
import HandS.ForMost
import HandS.Exc
import HandS.TryOnly
import HandS.TryMany
import HandS.WordsExc
import HandS.TupAny
import HandS.Wide
import HandS.Deep
import HandS.Flow
import KE.KDictKeyed
import KE.SortData
import HandS.TupMul
import HandS.Style
import HandS.NoneIn
import HandS.CallSlots
import HandS.IsInst
import HandS.Conv
import KE.DataMinMax
import HandS.ExcOwn
import HandS.More
import HandS.SortInts
import HandS.TupLen
import HandS.DictComp
import HandS.HeadHook1
import HandS.Head2
import HandS.HeadEnd
import HandS.Ends
import HandS.HeadHook2
import PySem.Challenge.RW_stretchways_k76_figures_drawn_by_numbers
set_option Elab.async false
set_option linter.all false
set_option autoImplicit false
set_option maxRecDepth 100000
set_option maxHeartbeats 0
/-! Ev0: values, store, results; what they stand for in the abstract heap. -/
namespace Ev
open PySem PySem.Spec PyProof.Rows L2

abbrev D := PyData
/-- a value: plain data; a mutable cell; a def -/
inductive A where
  | d (x : D)
  | loc (n : Nat)
  | fn (f : Nat)
abbrev Loc := List (Option A)
inductive Cell where
  | lst (xs : List A)
  | dic (kvs : List (D × A))
  | ins (c : Nat) (fs : List (Str × A))
  | fzn (x : D)
abbrev Store := List Cell
structure Exn where
  cls : Nat
  fs : List (Str × D)
inductive Res (α : Type) where
  | ok (a : α) (S : Store)
  | exc (x : Exn) (S : Store)
  | no
def Res.bind {α β : Type} (r : Res α) (f : α → Store → Res β) : Res β := match r with
  | .ok a S => f a S
  | .exc x S => .exc x S
  | .no => .no
@[simp] theorem Res.ok_bind {α β : Type} (a : α) (S : Store) (f : α → Store → Res β) : (Res.ok a S).bind f = f a S := rfl
@[simp] theorem Res.exc_bind {α β : Type} (x : Exn) (S : Store) (f : α → Store → Res β) : (Res.exc x S : Res α).bind f = .exc x S := rfl
@[simp] theorem Res.no_bind {α β : Type} (f : α → Store → Res β) : (Res.no : Res α).bind f = .no := rfl
abbrev DR (α : Type) := Loc → Store → Res α
abbrev DE := DR A
abbrev Fns := Nat → List A → Store → Res A

/-! ### plain data in the abstract heap: tuples and locked lists and dicts -/
/-- a locked list, or one of the written part -/
def FzL (K : PySem.W.Frag) (H : Hp) (a : Addr) (xs : List V) : Prop :=
  (∃ o, H a = some (.frz o (.lst xs))) ∨
    ∃ (o : Obj) (its : Array Value) (n : Nat), K.lookup a = some o ∧ o.cls = .type "list" ∧ o.dict = none ∧ o.data = .seq its n ∧ its.size ≤ sizeLine ∧ Vals xs its.toList
theorem FzL.sq {K : PySem.W.Frag} {H : Hp} {a : Addr} {xs : List V} (h : FzL K H a xs) : SqL K H a xs := by
  rcases h with ⟨o, h⟩ | h
  · exact .inl (.inr ⟨o, h⟩)
  · exact .inr h
/-- the object at a dict's address, exactly -/
def exactly (a : Addr) (o : Obj) : HO := .ext fun h => h.get? a = some o
/-- a locked dict's object, or one of the written part -/
def FzO (K : PySem.W.Frag) (H : Hp) (a : Addr) (o : Obj) : Prop := H a = some (.frz o (exactly a o)) ∨ K.lookup a = some o

/-- the key that a value is -/
def keyOf : D → Option NestedKey
  | .none => some .none
  | .bool b => some (.num (if b = true then 1 else 0))
  | .int i => some (.num i)
  | .str x => some (.text x)
  | .tuple ds => (keysOf ds).map .tup
  | _ => none
where keysOf : List D → Option (List NestedKey)
  | [] => some []
  | d :: ds => match keyOf d, keysOf ds with
    | some k, some ks => some (k :: ks)
    | _, _ => none

mutual
inductive DpF (w : World) (K : PySem.W.Frag) (H : Hp) : V → D → Prop
  | non : DpF w K H .non .none
  | bl (b : Bool) : DpF w K H (.bl b) (.bool b)
  | int (i : Int) : DpF w K H (.int i) (.int i)
  | str (x : Str) : DpF w K H (.str x) (.str x)
  | lst {a : Addr} {xs : List V} {ds : List D} : FzL K H a xs → DpFs w K H xs ds → DpF w K H (.ref a) (.list ds)
  | tup {a : Addr} {xs : List V} {ds : List D} : SqT K H a xs → DpFs w K H xs ds → DpF w K H (.ref a) (.tuple ds)
  | dic {a : Addr} {o : Obj} {es : Array DictEntry} {ep : Nat} {kvs : List (D × D)} : FzO K H a o → o.ExactDict → o.data = .dict es ep → (a == sysModules) = false → es.size ≤ sizeLine → (kvs.map fun p => keyOf p.1).Nodup →
      DpFd w K H es.toList kvs → DpF w K H (.ref a) (.dict kvs)
inductive DpFs (w : World) (K : PySem.W.Frag) (H : Hp) : List V → List D → Prop
  | nil : DpFs w K H [] []
  | cons {v : V} {vs : List V} {d : D} {ds : List D} : DpF w K H v d → DpFs w K H vs ds → DpFs w K H (v :: vs) (d :: ds)
inductive DpFd (w : World) (K : PySem.W.Frag) (H : Hp) : List DictEntry → List (D × D) → Prop
  | nil : DpFd w K H [] []
  | cons {e : DictEntry} {es : List DictEntry} {kv vv : V} {k x : D} {kvs : List (D × D)} {nk : NestedKey} : keyOf k = some nk → e.hash = nk.hash w → RelV kv e.key → RelV vv e.val → DpF w K H kv k → DpF w K H vv x → DpFd w K H es kvs → DpFd w K H (e :: es) ((k, x) :: kvs)
end

/-- what stays for ever: tuples, locked things -/
structure Pers (H H' : Hp) : Prop where
  tup : ∀ b xs, H b = some (.tup xs) → H' b = some (.tup xs)
  frz : ∀ b o u, H b = some (.frz o u) → H' b = some (.frz o u)
theorem Pers.refl (H : Hp) : Pers H H := ⟨fun _ _ h => h, fun _ _ _ h => h⟩
theorem Pers.trans {H H1 H2 : Hp} (a : Pers H H1) (b : Pers H1 H2) : Pers H H2 := ⟨fun c xs h => b.tup c xs (a.tup c xs h), fun c o u h => b.frz c o u (a.frz c o u h)⟩
theorem Pers.of {H H' : Hp} (s : Same H H') : Pers H H' := ⟨fun b _ h => s b _ h, fun b _ _ h => s b _ h⟩
section
variable {w : World} {K : PySem.W.Frag} {H H' : Hp}
theorem Pers.sqT (p : Pers H H') {a : Addr} {xs : List V} (h : SqT K H a xs) : SqT K H' a xs := by
  rcases h with (h | ⟨o, h⟩) | h
  · exact .inl (.inl (p.tup _ _ h))
  · exact .inl (.inr ⟨o, p.frz _ _ _ h⟩)
  · exact .inr h
theorem Pers.fzL (p : Pers H H') {a : Addr} {xs : List V} (h : FzL K H a xs) : FzL K H' a xs := by
  rcases h with ⟨o, h⟩ | h
  · exact .inl ⟨o, p.frz _ _ _ h⟩
  · exact .inr h
theorem Pers.fzO (p : Pers H H') {a : Addr} {o : Obj} (h : FzO K H a o) : FzO K H' a o := by
  rcases h with h | h
  · exact .inl (p.frz _ _ _ h)
  · exact .inr h
mutual
theorem DpF.mono (p : Pers H H') : ∀ {v : V} {d : D}, DpF w K H v d → DpF w K H' v d
  | _, _, .non => .non
  | _, _, .bl b => .bl b
  | _, _, .int i => .int i
  | _, _, .str x => .str x
  | _, _, .lst h r => .lst (p.fzL h) (DpFs.mono p r)
  | _, _, .tup h r => .tup (p.sqT h) (DpFs.mono p r)
  | _, _, .dic h a b c e nd r => .dic (p.fzO h) a b c e nd (DpFd.mono p r)
theorem DpFs.mono (p : Pers H H') : ∀ {vs : List V} {ds : List D}, DpFs w K H vs ds → DpFs w K H' vs ds
  | _, _, .nil => .nil
  | _, _, .cons h r => .cons (DpF.mono p h) (DpFs.mono p r)
theorem DpFd.mono (p : Pers H H') : ∀ {es : List DictEntry} {ds : List (D × D)}, DpFd w K H es ds → DpFd w K H' es ds
  | _, _, .nil => .nil
  | _, _, .cons k1 k2 a b h h' r => .cons k1 k2 a b (DpF.mono p h) (DpF.mono p h') (DpFd.mono p r)
end
theorem DpFs.length {vs : List V} {ds : List D} (h : DpFs w K H vs ds) : vs.length = ds.length := by
  induction ds generalizing vs with
  | nil => cases h; rfl
  | cons d ds ih => cases h with | cons a b => simp [ih b]
theorem DpFs.get {vs : List V} {ds : List D} (h : DpFs w K H vs ds) {i : Nat} {d : D} (e : ds[i]? = some d) : ∃ v, vs[i]? = some v ∧ DpF w K H v d := by
  induction ds generalizing vs i with
  | nil => simp at e
  | cons x ds ih =>
    cases h with
    | cons a b =>
      cases i with
      | zero => simp at e; subst e; exact ⟨_, rfl, a⟩
      | succ i => obtain ⟨v, h1, h2⟩ := ih b (by simpa using e); exact ⟨v, by simpa using h1, h2⟩
theorem DpFs.append {vs ws : List V} {ds es : List D} (h : DpFs w K H vs ds) (g : DpFs w K H ws es) : DpFs w K H (vs ++ ws) (ds ++ es) := by
  induction ds generalizing vs with
  | nil => cases h; exact g
  | cons d ds ih => cases h with | cons a b => exact .cons a (ih b)
theorem DpFs.take {vs : List V} {ds : List D} (n : Nat) (h : DpFs w K H vs ds) : DpFs w K H (vs.take n) (ds.take n) := by
  induction ds generalizing vs n with
  | nil => cases h; simp; exact .nil
  | cons d ds ih =>
    cases h with
    | cons a b =>
      cases n with
      | zero => exact .nil
      | succ n => exact .cons a (ih n b)
theorem DpFs.drop {vs : List V} {ds : List D} (n : Nat) (h : DpFs w K H vs ds) : DpFs w K H (vs.drop n) (ds.drop n) := by
  induction ds generalizing vs n with
  | nil => cases h; simp; exact .nil
  | cons d ds ih =>
    cases h with
    | cons a b =>
      cases n with
      | zero => exact .cons a b
      | succ n => exact ih n b
/-! without dicts: the hand layer has its own word -/
mutual
def nodict : D → Bool
  | .dict _ => false
  | .list ds => nodicts ds
  | .tuple ds => nodicts ds
  | _ => true
def nodicts : List D → Bool
  | [] => true
  | d :: ds => nodict d && nodicts ds
end
mutual
theorem DpF.dp : ∀ {v : V} {d : D}, nodict d = true → DpF w K H v d → Dp K H v d
  | _, _, _, .non => .non
  | _, _, _, .bl b => .bl b
  | _, _, _, .int i => .int i
  | _, _, _, .str x => .str x
  | _, _, e, .lst h r => .lst h.sq (DpFs.dp (by simpa [nodict] using e) r)
  | _, _, e, .tup h r => .tup h (DpFs.dp (by simpa [nodict] using e) r)
  | _, _, e, .dic .. => by simp [nodict] at e
theorem DpFs.dp : ∀ {vs : List V} {ds : List D}, nodicts ds = true → DpFs w K H vs ds → DpAll K H vs ds
  | _, _, _, .nil => .nil
  | _, _, e, .cons h r => .cons (DpF.dp (by simp [nodicts] at e; exact e.1) h) (DpFs.dp (by simp [nodicts] at e; exact e.2) r)
end
end

/-! ### the ghost step: a tracked list is locked -/
theorem freezeL {X : Cx} {pins : List (Addr × Obj)} {σ : L2.St} {H : Hp} {s : Shared} {a : Addr} {xs : List V} (I : Inv X pins σ H s) (h : H a = some (.lst xs)) : ∃ o, Inv X pins σ (upd H a (.frz o (.lst xs))) s := by
  obtain ⟨z, its, n, r, eo⟩ := I.hok a _ h
  have ne : ∀ b u, H b = some u → u ≠ .lst xs → b ≠ a := fun b u hb hu hab => by
    subst hab; rw [h] at hb; exact hu (Option.some.inj hb).symm
  refine ⟨{ cls := .type "list", data := .seq its.toArray n }, ?_⟩
  refine I.step (h' := s.heap) (g' := s.gens) (t' := s.toks) (d' := s.drawn) (ch := []) (fun _ z => nomatch z) (fun _ _ _ _ _ e _ => e) (fun b o _ _ _ e _ => ⟨o.slots, e⟩) (fun b o _ _ e => ?_) (fun b o _ e => ⟨o, e⟩)
    (fun b xs e => ?_) (fun b o u e => ?_) (fun b ps e => ⟨#[], ?_⟩) (fun _ e => e) (fun b u e => ?_) I.bare
  · rw [upd_ne (fun z => by subst z; rw [h] at e; cases e)]; exact e
  · rw [upd_ne (ne _ _ e (fun z => nomatch z))]; exact e
  · rw [upd_ne (ne _ _ e (fun z => nomatch z))]; exact e
  · rw [upd_ne (ne _ _ e (fun z => nomatch z)), e]; simp
  · by_cases hb : b = a
    · subst hb
      rw [upd_same] at e; cases e
      exact ⟨eo, z, its, n, r, eo⟩
    · rw [upd_ne hb] at e
      refine (I.hok b u e).stay (fun _ _ _ q => q) (fun c q => ?_) (fun c ys q => ?_)
      · rw [upd_ne (ne _ _ q (fun z => nomatch z))]; exact q
      · rw [upd_ne (ne _ _ q (fun z => nomatch z))]; exact q
end Ev

/-! Ev1: the relation of the store to the abstract heap, what a denotation asks, the judgements. -/
namespace Ev
open PySem PySem.Spec PyProof.Rows L2

/-- what a whole text gives -/
structure Gl where
  P : Program
  w : World
  K : PySem.W.Frag
  mg : Str → Option Value
  base : Heap
  ca : Nat → Addr
  fa : Nat → Addr
  fd : Nat → FuncData
  ps : Nat → List Str
  F : Fns
  Fm : Fns
  k : Nat

def RelA (G : Gl) (μ : List Addr) (H : Hp) : A → V → Prop
  | .d x, v => DpF G.w G.K H v x
  | .loc n, v => ∃ a, μ[n]? = some a ∧ v = .ref a
  | .fn f, v => v = .ref (G.fa f)
abbrev RelAs (G : Gl) (μ : List Addr) (H : Hp) : List A → List V → Prop := Paired (RelA G μ H)
/-- a key that is an int or a text -/
def leafD : Key → D
  | .inl i => .int i
  | .inr x => .str x
def LeafR (G : Gl) (μ : List Addr) (H : Hp) (p : D × A) (q : Key × V) : Prop := p.1 = leafD q.1 ∧ RelA G μ H p.2 q.2
/-- an entry whose key is a tuple -/
def EntR (G : Gl) (μ : List Addr) (H : Hp) (p : D × A) (e : DictEntry) : Prop :=
  ∃ ks b vv, keyOf p.1 = some (.tup ks) ∧ NestedKey.depth (.tup ks) ≤ 8 ∧ e.hash = NestedKey.hash G.w (.tup ks) ∧ e.key = .ref b ∧ RelV vv e.val ∧ DpF G.w G.K H (.ref b) p.1 ∧ RelA G μ H p.2 vv
def CellOk (G : Gl) (μ : List Addr) (H : Hp) (a : Addr) : Cell → Prop
  | .lst xs => ∃ vs, H a = some (.lst vs) ∧ RelAs G μ H xs vs
  | .dic kvs => (∃ ks : List (Key × V), H a = some (.dK ks) ∧ Paired (LeafR G μ H) kvs ks) ∨
      kvs ≠ [] ∧ ∃ o es ep, H a = some (exactly a o) ∧ o.ExactDict ∧ o.data = .dict es ep ∧ (a == sysModules) = false ∧ es.size ≤ sizeLine ∧ (kvs.map fun p => keyOf p.1).Nodup ∧ Paired (EntR G μ H) kvs es.toList
  | .ins c fs => ∃ dx gs, H a = some (.ins (G.ca c) dx gs) ∧ Paired (fun (p : Str × A) (q : Str × V) => p.1 = q.1 ∧ RelA G μ H p.2 q.2) fs gs
  | .fzn x => DpF G.w G.K H (.ref a) x
structure SimS (G : Gl) (μ : List Addr) (S : Store) (H : Hp) : Prop where
  nd : μ.Nodup
  len : μ.length = S.length
  cells : ∀ (n : Nat) c, S[n]? = some c → ∃ a, μ[n]? = some a ∧ CellOk G μ H a c
  there : ∀ a ∈ μ, H a ≠ none
structure SimL (G : Gl) (μ : List Addr) (H : Hp) (l : Loc) (σ : L2.St) : Prop where
  len : l.length = σ.length
  at_ : ∀ (i : Nat) a, l[i]? = some (some a) → ∃ v, σ[i]? = some (some v) ∧ RelA G μ H a v
/-- from (μ, H) to (μ', H'): what is not of the store stays, new addresses are new -/
structure Grow (μ μ' : List Addr) (H H' : Hp) : Prop where
  ex : ∃ ν, μ' = μ ++ ν ∧ ∀ b ∈ ν, H b = none
  fr : ∀ b o, H b = some o → b ∉ μ → H' b = some o
  keep : ∀ b, H b ≠ none → H' b ≠ none
  pers : Pers H H'
section
variable {G : Gl} {μ μ' μ1 μ2 : List Addr} {H H' H1 H2 : Hp} {S : Store} {l : Loc} {σ : L2.St}
theorem Grow.refl : Grow μ μ H H := ⟨⟨[], by simp, fun _ h => nomatch h⟩, fun _ _ h _ => h, fun _ h => h, Pers.refl H⟩
theorem Grow.same (s : Same H H') : Grow μ μ H H' := ⟨⟨[], by simp, fun _ h => nomatch h⟩, fun _ _ h _ => s _ _ h, fun b h => by
  cases e : H b with
  | none => exact absurd e h
  | some o => rw [s b o e]; simp, Pers.of s⟩
theorem Grow.trans (a : Grow μ μ1 H H1) (b : Grow μ1 μ2 H1 H2) : Grow μ μ2 H H2 := by
  obtain ⟨ν, rfl, n1⟩ := a.ex
  obtain ⟨ν', rfl, n2⟩ := b.ex
  refine ⟨⟨ν ++ ν', by simp, fun c hc => ?_⟩, fun c o h hm => ?_, fun c h => b.keep c (a.keep c h), a.pers.trans b.pers⟩
  · rcases List.mem_append.mp hc with h | h
    · exact n1 c h
    · cases e : H c with
      | none => rfl
      | some o => exact absurd (n2 c h) (a.keep c (by rw [e]; simp))
  · refine b.fr c o (a.fr c o h hm) fun z => ?_
    rcases List.mem_append.mp z with z | z
    · exact hm z
    · rw [n1 c z] at h; cases h
theorem get_ext {α : Type} {xs ys : List α} {n : Nat} {a : α} (h : xs[n]? = some a) : (xs ++ ys)[n]? = some a := by
  rw [List.getElem?_append_left (List.getElem?_eq_some_iff.mp h).1]; exact h
theorem RelA.mono (p : Pers H H') (ν : List Addr) : ∀ {a : A} {v : V}, RelA G μ H a v → RelA G (μ ++ ν) H' a v
  | .d _, _, h => DpF.mono p h
  | .loc _, _, ⟨b, h1, h2⟩ => ⟨b, get_ext h1, h2⟩
  | .fn _, _, h => h
theorem RelA.grow (g : Grow μ μ' H H') {a : A} {v : V} (h : RelA G μ H a v) : RelA G μ' H' a v := by
  obtain ⟨ν, rfl, _⟩ := g.ex
  exact RelA.mono g.pers ν h
theorem RelAs.grow (g : Grow μ μ' H H') {as : List A} {vs : List V} (h : RelAs G μ H as vs) : RelAs G μ' H' as vs := Paired.mapP h fun _ _ q => q.grow g
theorem SimL.grow (g : Grow μ μ' H H') (s : SimL G μ H l σ) : SimL G μ' H' l σ := ⟨s.len, fun i a e => let ⟨v, h1, h2⟩ := s.at_ i a e; ⟨v, h1, h2.grow g⟩⟩
theorem CellOk.mono (p : Pers H H') (ν : List Addr) {a : Addr} (e : H' a = H a) : ∀ {c : Cell}, CellOk G μ H a c → CellOk G (μ ++ ν) H' a c
  | .lst xs, ⟨vs, h1, h2⟩ => ⟨vs, e.trans h1, Paired.mapP h2 fun _ _ q => RelA.mono p ν q⟩
  | .dic kvs, .inl ⟨ks, h1, h2⟩ => .inl ⟨ks, e.trans h1, Paired.mapP h2 fun _ _ q => ⟨q.1, RelA.mono p ν q.2⟩⟩
  | .dic kvs, .inr ⟨ne, o, es, ep, h1, h2, h3, h4, h5, h6, h7⟩ => .inr ⟨ne, o, es, ep, e.trans h1, h2, h3, h4, h5, h6, Paired.mapP h7 fun _ _ ⟨ks, b, vv, a1, a2, a3, a4, a5, a6, a7⟩ => ⟨ks, b, vv, a1, a2, a3, a4, a5, DpF.mono p a6, RelA.mono p ν a7⟩⟩
  | .ins c fs, ⟨dx, gs, h1, h2⟩ => ⟨dx, gs, e.trans h1, Paired.mapP h2 fun _ _ q => ⟨q.1, RelA.mono p ν q.2⟩⟩
  | .fzn x, h => DpF.mono p h
theorem SimS.same (s : Same H H') (h : SimS G μ S H) : SimS G μ S H' := ⟨h.nd, h.len, fun n c e => by
  obtain ⟨a, h1, h2⟩ := h.cells n c e
  refine ⟨a, h1, ?_⟩
  have ha := h.there a (List.mem_of_getElem? h1)
  cases q : H a with
  | none => exact absurd q ha
  | some o => simpa using CellOk.mono (Pers.of s) [] ((s a o q).trans q.symm) h2, fun a m => (Grow.same (μ := μ) s).keep a (h.there a m)⟩
/-- a cell is written -/
theorem upd_pers {a : Addr} {o : HO} (m : ∀ xs, H a ≠ some (.tup xs)) (m2 : ∀ o u, H a ≠ some (.frz o u)) : Pers H (upd H a o) :=
  ⟨fun b xs h => by rw [upd_ne (fun z => by subst z; exact m _ h)]; exact h, fun b ob u h => by rw [upd_ne (fun z => by subst z; exact m2 _ _ h)]; exact h⟩
theorem SimS.set {n : Nat} {a : Addr} {o : HO} {c : Cell} (h : SimS G μ S H) (ha : μ[n]? = some a) (p : Pers H (upd H a o)) (new : CellOk G μ (upd H a o) a c) : SimS G μ (S.set n c) (upd H a o) := by
  refine ⟨h.nd, by rw [List.length_set]; exact h.len, fun m c' e => ?_, fun b hb => ?_⟩
  · by_cases hm : m = n
    · subst hm
      rw [List.getElem?_set_self (by rw [← h.len]; exact (List.getElem?_eq_some_iff.mp ha).1)] at e
      cases e
      exact ⟨a, ha, new⟩
    · rw [List.getElem?_set_ne (Ne.symm hm)] at e
      obtain ⟨b, h1, h2⟩ := h.cells m c' e
      refine ⟨b, h1, ?_⟩
      have hne : b ≠ a := fun z => hm (by subst z; exact nd_ix h.nd h1 ha)
      simpa using CellOk.mono p [] (upd_ne hne) h2
  · by_cases z : b = a
    · subst z; rw [upd_same]; simp
    · rw [upd_ne z]; exact h.there b hb
theorem Grow.set {n : Nat} {a : Addr} {o : HO} (ha : μ[n]? = some a) (p : Pers H (upd H a o)) : Grow μ μ H (upd H a o) :=
  ⟨⟨[], by simp, fun _ h => nomatch h⟩, fun b ob h hm => by rw [upd_ne (fun z => hm (by rw [z]; exact List.mem_of_getElem? ha))]; exact h, fun b h => by
    by_cases z : b = a
    · rw [z, upd_same]; simp
    · rw [upd_ne z]; exact h, p⟩
/-- a new cell -/
theorem SimS.new {a : Addr} {H' : Hp} {c : Cell} (h : SimS G μ S H) (hn : H a = none) (s : Same H H') (ht : H' a ≠ none) (new : CellOk G (μ ++ [a]) H' a c) : SimS G (μ ++ [a]) (S ++ [c]) H' := by
  have na : a ∉ μ := fun z => h.there a z hn
  refine ⟨?_, by simp [h.len], fun n c' e => ?_, fun b hb => ?_⟩
  · exact List.nodup_append.mpr ⟨h.nd, by simp, fun x hx y hy => by simp at hy; subst hy; exact fun z => na (z ▸ hx)⟩
  · by_cases hm : n < S.length
    · rw [List.getElem?_append_left hm] at e
      obtain ⟨b, h1, h2⟩ := h.cells n c' e
      refine ⟨b, get_ext h1, ?_⟩
      cases q : H b with
      | none => exact absurd q (h.there b (List.mem_of_getElem? h1))
      | some o => exact CellOk.mono (Pers.of s) [a] ((s b o q).trans q.symm) h2
    · have hn' : n = S.length := by
        have := (List.getElem?_eq_some_iff.mp e).1
        simp at this; omega
      subst hn'
      rw [List.getElem?_append_right (Nat.le_refl _)] at e
      simp at e; subst e
      exact ⟨a, by rw [List.getElem?_append_right (by rw [h.len]; exact Nat.le_refl _)]; simp [h.len], new⟩
  · rcases List.mem_append.mp hb with z | z
    · cases q : H b with
      | none => exact absurd q (h.there b z)
      | some o => rw [s b o q]; simp
    · simp at z; subst z; exact ht
theorem Grow.new {a : Addr} {H' : Hp} (hn : H a = none) (s : Same H H') : Grow μ (μ ++ [a]) H H' := by
  have g := Grow.same (μ := μ) s
  exact ⟨⟨[a], rfl, fun b hb => by simp at hb; subst hb; exact hn⟩, g.fr, g.keep, g.pers⟩
theorem same_new {a : Addr} {o : HO} (hn : H a = none) : Same H (upd H a o) := fun b x e => by
  rw [upd_ne (ne_of_none e hn)]; exact e
end

/-- how an exception lies -/
def ExnRel (G : Gl) (H : Hp) (x : Exn) (c : Value) (dd : Option Addr) : Prop :=
  c = .ref (G.ca x.cls) ∧ match dd with
    | none => x.fs = []
    | some d => ∃ gs, H d = some (.xd gs) ∧ Paired (fun (p : Str × D) (q : Str × V) => p.1 = q.1 ∧ DpF G.w G.K H q.2 p.2) x.fs gs

/-- what a result asks -/
def Aft {α β : Type} (G : Gl) (W : XK) (rel : List Addr → Hp → α → β → Prop) (μ : List Addr) (H : Hp) (r : Res α) (Q : β → Hp → Prop) : Prop := match r with
  | .ok a S' => ∀ μ' H' v, Grow μ μ' H H' → SimS G μ' S' H' → rel μ' H' a v → Q v H'
  | .exc x S' => ∀ μ' H' c dd, Grow μ μ' H H' → SimS G μ' S' H' → ExnRel G H' x c dd → W c dd H'
  | .no => False
section
variable {α β γ δ : Type} {G : Gl} {W : XK} {rel : List Addr → Hp → α → β → Prop} {rel' : List Addr → Hp → γ → δ → Prop} {μ μ' : List Addr} {H H' : Hp}
theorem Aft.grow {r : Res α} {Q : β → Hp → Prop} (h : Aft G W rel μ H r Q) (g : Grow μ μ' H H') : Aft G W rel μ' H' r Q := by
  cases r with
  | ok a S => exact fun μ2 H2 v g2 s r => h μ2 H2 v (g.trans g2) s r
  | exc x S => exact fun μ2 H2 c dd g2 s r => h μ2 H2 c dd (g.trans g2) s r
  | no => exact h
theorem Aft.bind {r : Res γ} {f : γ → Store → Res α} {Q : β → Hp → Prop} (h : Aft G W rel μ H (r.bind f) Q) :
    Aft G W rel' μ H r fun v H1 => ∃ a μ1 S1, Grow μ μ1 H H1 ∧ SimS G μ1 S1 H1 ∧ rel' μ1 H1 a v ∧ Aft G W rel μ1 H1 (f a S1) Q := by
  cases r with
  | ok a S => exact fun μ1 H1 v g s r => ⟨a, μ1, S, g, s, r, Aft.grow (r := f a S) h g⟩
  | exc x S => exact h
  | no => exact h
theorem Aft.imp {r : Res α} {Q Q' : β → Hp → Prop} (h : Aft G W rel μ H r Q) (hq : ∀ v H', Grow μ μ H H' ∨ True → Q v H' → Q' v H') : Aft G W rel μ H r Q' := by
  cases r with
  | ok a S => exact fun μ1 H1 v g s r => hq v H1 (.inr trivial) (h μ1 H1 v g s r)
  | exc x S => exact h
  | no => exact h
end

/-- a denotation as a reading -/
def tR {α β : Type} (G : Gl) (W : WX) (rel : List Addr → Hp → α → β → Prop) (de : DR α) : L2.St → Hp → (β → Hp → Prop) → Prop := fun σ H Q =>
  ∃ μ l S, SimS G μ S H ∧ SimL G μ H l σ ∧ Aft G (fun c dd H' => W c dd σ H') rel μ H (de l S) Q
abbrev relB : List Addr → Hp → Bool → Bool → Prop := fun _ _ a b => a = b
abbrev tE (G : Gl) (W : WX) (de : DE) : TE := tR G W (RelA G) de
abbrev tT (G : Gl) (W : WX) (de : DR Bool) : TT := tR G W relB de
abbrev tA (G : Gl) (W : WX) (de : DR (List A)) : TA := tR G W (RelAs G) de

/-- where a piece of a text stands -/
structure Stat (G : Gl) (sc : Scope) (N : List Str) (X : Cx) : Prop where
  prog : X.prog = G.P
  w : X.w = G.w
  K : X.K = G.K
  mg : X.mg = G.mg
  base : X.base = G.base
  scope : X.env.scope = sc
  names : X.N = N
  nd : N.Nodup
  calm : X.calm = true
  room : Room G.k X.A
def Snd (G : Gl) (sc : Scope) (N : List Str) (e : Expr) (de : DE) : Prop := ∀ X W, Stat G sc N X → Takes X W → PE X e (tE G W de)
def SndT (G : Gl) (sc : Scope) (N : List Str) (e : Expr) (de : DR Bool) : Prop := ∀ X W, Stat G sc N X → Takes X W → PT X e (tT G W de)
def SndA (G : Gl) (sc : Scope) (N : List Str) (es : List Expr) (de : DR (List A)) : Prop := ∀ X W, Stat G sc N X → Takes X W → PA X es (tA G W de)

section
variable {G : Gl} {sc : Scope} {N : List Str} {W : WX} {σ : L2.St} {H : Hp}
theorem tR_ret {α β : Type} {rel : List Addr → Hp → α → β → Prop} {de : DR α} {μ : List Addr} {l : Loc} {S : Store} {Q : β → Hp → Prop} (s : SimS G μ S H) (sl : SimL G μ H l σ) (h : Aft G (fun c dd H' => W c dd σ H') rel μ H (de l S) Q) : tR G W rel de σ H Q := ⟨μ, l, S, s, sl, h⟩
/-- the end of a reading whose value is known -/
theorem Aft.here {α β : Type} {rel : List Addr → Hp → α → β → Prop} {W : XK} {μ : List Addr} {a : α} {S : Store} {v : β} {Q : β → Hp → Prop} (h : Aft G W rel μ H (.ok a S) Q) (s : SimS G μ S H) (r : rel μ H a v) : Q v H := h μ H v Grow.refl s r
/-- two in a row -/
theorem tR_two {α β γ δ : Type} {rel : List Addr → Hp → α → β → Prop} {rel1 rel2 : List Addr → Hp → γ → δ → Prop} {da db : DR γ} {f : γ → γ → Store → Res α} {Q : β → Hp → Prop}
    (rg : ∀ {μ μ' : List Addr} {H H' : Hp} {a v}, Grow μ μ' H H' → rel1 μ H a v → rel1 μ' H' a v)
    (h : tR G W rel (fun l S => (da l S).bind fun x S1 => (db l S1).bind fun y S2 => f x y S2) σ H Q) :
    tR G W rel1 da σ H fun x H1 => tR G W rel2 db σ H1 fun y H2 => ∃ μ2 a b S2, SimS G μ2 S2 H2 ∧ rel1 μ2 H2 a x ∧ rel2 μ2 H2 b y ∧ Aft G (fun c dd H' => W c dd σ H') rel μ2 H2 (f a b S2) Q := by
  obtain ⟨μ, l, S, s, sl, h⟩ := h
  refine ⟨μ, l, S, s, sl, ?_⟩
  refine Aft.imp (Aft.bind (rel' := rel1) h) fun v H1 _ ⟨a, μ1, S1, g1, s1, r1, h1⟩ => ?_
  refine ⟨μ1, l, S1, s1, sl.grow g1, ?_⟩
  exact Aft.imp (Aft.bind (rel' := rel2) h1) fun u H2 _ ⟨b, μ2, S2, g2, s2, r2, h2⟩ => ⟨μ2, a, b, S2, s2, rg g2 r1, r2, h2⟩
theorem tR_one {α β γ δ : Type} {rel : List Addr → Hp → α → β → Prop} {rel1 : List Addr → Hp → γ → δ → Prop} {da : DR γ} {f : γ → Store → Res α} {Q : β → Hp → Prop}
    (h : tR G W rel (fun l S => (da l S).bind f) σ H Q) :
    tR G W rel1 da σ H fun x H1 => ∃ μ1 a S1, SimS G μ1 S1 H1 ∧ rel1 μ1 H1 a x ∧ Aft G (fun c dd H' => W c dd σ H') rel μ1 H1 (f a S1) Q := by
  obtain ⟨μ, l, S, s, sl, h⟩ := h
  exact ⟨μ, l, S, s, sl, Aft.imp (Aft.bind (rel' := rel1) h) fun v H1 _ ⟨a, μ1, S1, g1, s1, r1, h1⟩ => ⟨μ1, a, S1, s1, r1, h1⟩⟩
end

/-! ### names, constants -/
def dVal (x : D) : DE := fun _ S => .ok (.d x) S
def dName (i : Nat) : DE := fun l S => match l[i]? with
  | some (some a) => .ok a S
  | _ => .no
section
variable {G : Gl} {sc : Scope} {N : List Str} {pos : Pos}
/-- what a name's use asks of its scope -/
def visB (sc : Scope) (x : Str) : Bool := (sc.names.lookup x == some .local || sc.names.lookup x == some .cell || sc.names.lookup x == some .free) && !(x == ("__debug__" : Str)) && !(x == ("__classdict__" : Str))
theorem vis_of {sc : Scope} {x : Str} (h : visB sc x = true) : Vis sc x ∧ (x == ("__debug__" : Str)) = false ∧ (x == ("__classdict__" : Str)) = false := by
  unfold visB at h
  simp only [Bool.and_eq_true, Bool.or_eq_true, beq_iff_eq, Bool.not_eq_true'] at h
  exact ⟨h.1.1.elim (fun z => z.elim .inl fun z => .inr (.inl z)) fun z => .inr (.inr z), h.1.2, h.2⟩
theorem r_name {i : Nat} {x : Str} (hN : N[i]? = some x) (hv : visB sc x = true) : Snd G sc N (.Name x pos) (dName i) := fun X W st tk => by
  obtain ⟨v1, v2, v3⟩ := vis_of hv
  refine ⟨fun pins s σ H Q I h => (pe_var (X := X) (i := i) (by rw [st.names]; exact hN) (by rw [st.scope]; exact v1) v2 v3).run pins s σ H Q I ?_⟩
  obtain ⟨μ, l, S, ss, sl, h⟩ := h
  unfold dName at h
  split at h
  · rename_i a e
    obtain ⟨v, h1, h2⟩ := sl.at_ i a e
    exact ⟨v, h1, h.here ss h2⟩
  · exact h.elim
theorem r_const {e : Expr} {v : V} {x : D} (hp : ∀ X, PE X e (tC v)) (hr : ∀ K w H, DpF w K H v x) : Snd G sc N e (dVal x) := fun X W st tk =>
  ⟨fun pins s σ H Q I h => (hp X).run pins s σ H Q I (by obtain ⟨μ, l, S, ss, sl, h⟩ := h; exact h.here ss (hr _ _ _))⟩
theorem r_int {i j} : Snd G sc N (.Constant (.int i) j pos) (dVal (.int i)) := r_const (fun _ => pe_int) fun _ _ _ => .int i
theorem r_bool {b j} : Snd G sc N (.Constant (.bool b) j pos) (dVal (.bool b)) := r_const (fun _ => pe_bl) fun _ _ _ => .bl b
theorem r_none {j} : Snd G sc N (.Constant .none j pos) (dVal .none) := r_const (fun _ => pe_non) fun _ _ _ => .non
theorem r_str {x j} : Snd G sc N (.Constant (.str x) j pos) (dVal (.str x)) := r_const (fun _ => pe_str) fun _ _ _ => .str x
end
end Ev

/-! Ev2: operators, comparisons, tests, subscripts. -/
namespace Ev
open PySem PySem.Spec PyProof.Rows L2

section
variable {α β : Type} {G : Gl} {W : WX} {σ : L2.St} {H : Hp} {rel : List Addr → Hp → α → β → Prop}
theorem tR.imp {de : DR α} {Q Q' : β → Hp → Prop} (h : tR G W rel de σ H Q) (hq : ∀ v H', Q v H' → Q' v H') : tR G W rel de σ H Q' := by
  obtain ⟨μ, l, S, s, sl, h⟩ := h
  exact ⟨μ, l, S, s, sl, Aft.imp h fun v H' _ q => hq v H' q⟩
end

/-- a read-only operation on two values of the store's -/
def rA2 (G : Gl) (f : A → A → Store → Option A) : R2 := fun x y H Q => ∃ μ a b S r, SimS G μ S H ∧ RelA G μ H a x ∧ RelA G μ H b y ∧ f a b S = some r ∧ ∀ H' v, Same H H' → RelA G μ H' r v → Q v H'
def opt (o : Option A) (S : Store) : Res A := match o with
  | some r => .ok r S
  | none => .no
def dOp2 (f : A → A → Store → Option A) (da db : DE) : DE := fun l S => (da l S).bind fun x S1 => (db l S1).bind fun y S2 => opt (f x y S2) S2
/-- plain data alone -/
def pu2 (g : D → D → Option D) : A → A → Store → Option A := fun a b _ => match a, b with
  | .d x, .d y => (g x y).map .d
  | _, _ => none
def rP2 (G : Gl) (g : D → D → Option D) : R2 := fun x y H Q => ∃ d e z, DpF G.w G.K H x d ∧ DpF G.w G.K H y e ∧ g d e = some z ∧ ∀ H' v, Same H H' → DpF G.w G.K H' v z → Q v H'
theorem rA2_pure {G : Gl} {g : D → D → Option D} {x y : V} {H : Hp} {Q : VK} (h : rA2 G (pu2 g) x y H Q) : rP2 G g x y H Q := by
  obtain ⟨μ, a, b, S, r, s, ra, rb, e, q⟩ := h
  cases a with
  | d a =>
    cases b with
    | d b =>
      simp only [pu2, Option.map_eq_some_iff] at e
      obtain ⟨z, hz, rfl⟩ := e
      exact ⟨a, b, z, ra, rb, hz, q⟩
    | _ => simp [pu2] at e
  | _ => cases b <;> simp [pu2] at e
section
variable {G : Gl} {W : WX} {σ : L2.St} {H : Hp}
theorem op2_read {f : A → A → Store → Option A} {da db : DE} {Q : VK} (h : tE G W (dOp2 f da db) σ H Q) : tOp (rA2 G f) (tE G W da) (tE G W db) σ H Q := by
  refine tR.imp (tR_two (rel1 := RelA G) (rel2 := RelA G) (fun g r => r.grow g) h) fun x H1 h1 => tR.imp h1 fun y H2 ⟨μ2, a, b, S2, s2, ra, rb, h2⟩ => ?_
  unfold opt at h2
  split at h2
  · rename_i r e
    exact ⟨μ2, a, b, S2, r, s2, ra, rb, e, fun H' v sm rv => h2 μ2 H' v (Grow.same sm) (s2.same sm) rv⟩
  · exact h2.elim
end
/-- where an operator stands: room, nothing handled -/
structure Here (G : Gl) (X : Cx) : Prop where
  prog : X.prog = G.P
  w : X.w = G.w
  K : X.K = G.K
  calm : X.calm = true
  room : Room G.k X.A
theorem Stat.here {G : Gl} {sc : Scope} {N : List Str} {X : Cx} (st : Stat G sc N X) : Here G X := ⟨st.prog, st.w, st.K, st.calm, st.room⟩
theorem Here.hu {G : Gl} {X : Cx} (h : Here G X) : X.A.units + 64 < cLine := h.room.units
def OpS (G : Gl) (sem : Value → Value → Sem Value) (f : A → A → Store → Option A) : Prop := ∀ X, Here G X → OpR X sem (rA2 G f)
def OpD (G : Gl) (sem : Value → Value → Sem Value) (g : D → D → Option D) : Prop := ∀ X, Here G X → OpR X sem (rP2 G g)
theorem OpD.s {G : Gl} {sem : Value → Value → Sem Value} {g : D → D → Option D} (h : OpD G sem g) : OpS G sem (pu2 g) := fun X hX pins s σ H x y v u Q I rx ry q => h X hX pins s σ H x y v u Q I rx ry (rA2_pure q)

section
variable {G : Gl} {sc : Scope} {N : List Str} {pos : Pos} {a b c e : Expr} {da db dc de : DE} {f f' : A → A → Store → Option A}
theorem r_bin {op : Operator} (ho : OpS G (binaryOp op) f) (ha : Snd G sc N a da) (hb : Snd G sc N b db) : Snd G sc N (.BinOp a op b pos) (dOp2 f da db) := fun X W st tk =>
  ⟨fun pins s σ H Q I h => (pe_op (ho X st.here) (ha X W st tk) (hb X W st tk)).run pins s σ H Q I (op2_read h)⟩
theorem r_cmp {op : CmpOp} (ho : OpS G (compareOp op) f) (ha : Snd G sc N a da) (hb : Snd G sc N b db) (hm : behindInMarks op b = false := by rfl) : Snd G sc N (.Compare a [op] [b] pos) (dOp2 f da db) := fun X W st tk =>
  ⟨fun pins s σ H Q I h => (pe_cmpR (ho X st.here) (ha X W st tk) (hb X W st tk) hm).run pins s σ H Q I (op2_read h)⟩
/-- a value that is a bool, as a test -/
def toB (de : DE) : DR Bool := fun l S => (de l S).bind fun a S1 => match a with
  | .d (.bool b) => .ok b S1
  | _ => .no
theorem toB_read {W : WX} {σ : L2.St} {H : Hp} {Q : Bool → Hp → Prop} (h : tT G W (toB de) σ H Q) : tTest (tE G W de) σ H Q := by
  refine tR.imp (tR_one (rel1 := RelA G) h) fun x H1 ⟨μ1, a, S1, s1, ra, h1⟩ => ?_
  cases a with
  | d a =>
    cases a with
    | bool b =>
      cases ra
      exact ⟨b, rfl, h1 μ1 H1 b Grow.refl s1 rfl⟩
    | _ => exact h1.elim
  | _ => exact h1.elim
theorem r_tcmp {op : CmpOp} (ho : OpS G (compareOp op) f) (ha : Snd G sc N a da) (hb : Snd G sc N b db) (hm : behindInMarks op b = false := by rfl) : SndT G sc N (.Compare a [op] [b] pos) (toB (dOp2 f da db)) := fun X W st tk =>
  ⟨fun pins s σ H Q I h => (pt_cmpR (ho X st.here) (ha X W st tk) (hb X W st tk) hm).run pins s σ H Q I (tR.imp (toB_read h : tTest (tE G W (dOp2 f da db)) σ H Q) (fun _ _ q => q) |> fun z => op2_read z)⟩
/-- a value that is a bool, as a test: a name, a call, a subscript .. -/
theorem r_tval (he : ∀ (env : Env) whole, isTrue e env whole = (do let v ← whole; standAt e.pos; holding [v] (truthy v)) := by intro _ _; rfl) (h : Snd G sc N e de) : SndT G sc N e (toB de) := fun X W st tk =>
  ⟨fun pins s σ H Q I q => (pt_val (h X W st tk) (he X.env)).run pins s σ H Q I (toB_read q)⟩
/-- a op b op' c -/
def dChain (f f' : A → A → Store → Option A) (da db dc : DE) : DE := fun l S => (da l S).bind fun x S1 => (db l S1).bind fun y S2 => match f x y S2 with
  | some (.d (.bool true)) => (dc l S2).bind fun z S3 => opt (f' y z S3) S3
  | some (.d (.bool false)) => .ok (.d (.bool false)) S2
  | _ => .no
theorem chain_read {W : WX} {σ : L2.St} {H : Hp} {Q : VK} (h : tE G W (dChain f f' da db dc) σ H Q) : tChain (rA2 G f) (rA2 G f') (tE G W da) (tE G W db) (tE G W dc) σ H Q := by
  obtain ⟨μ, l, S, s, sl, h⟩ := h
  refine ⟨μ, l, S, s, sl, Aft.imp (Aft.bind (rel' := RelA G) h) fun x H1 _ ⟨a, μ1, S1, g1, s1, ra, h1⟩ => ?_⟩
  refine ⟨μ1, l, S1, s1, sl.grow g1, Aft.imp (Aft.bind (rel' := RelA G) h1) fun y H2 _ ⟨b, μ2, S2, g2, s2, rb, h2⟩ => ?_⟩
  have ra2 := ra.grow g2
  split at h2
  · rename_i e
    refine ⟨μ2, a, b, S2, _, s2, ra2, rb, e, fun H' v sm rv => ?_⟩
    cases rv
    refine ⟨true, rfl, ?_⟩
    rw [if_pos rfl]
    have g3 := Grow.same (μ := μ2) sm
    have h3 := Aft.grow h2 g3
    refine ⟨μ2, l, S2, s2.same sm, ((sl.grow g1).grow g2).grow g3, Aft.imp (Aft.bind (rel' := RelA G) h3) fun z H4 _ ⟨c', μ4, S4, g4, s4, rc, h4⟩ => ?_⟩
    unfold opt at h4
    split at h4
    · rename_i r e'
      exact ⟨μ4, b, c', S4, r, s4, (rb.grow g3).grow g4, rc, e', fun H' v sm rv => h4 μ4 H' v (Grow.same sm) (s4.same sm) rv⟩
    · exact h4.elim
  · rename_i e
    refine ⟨μ2, a, b, S2, _, s2, ra2, rb, e, fun H' v sm rv => ?_⟩
    cases rv
    refine ⟨false, rfl, ?_⟩
    rw [if_neg Bool.false_ne_true]
    exact h2 μ2 H' _ (Grow.same sm) (s2.same sm) (.bl false)
  · exact h2.elim
theorem r_chain {op op' : CmpOp} (ho : OpS G (compareOp op) f) (ho' : OpS G (compareOp op') f') (ha : Snd G sc N a da) (hb : Snd G sc N b db) (hc : Snd G sc N c dc) (hm : lastMarks [op, op'] [b, c] = false := by with_unfolding_all rfl) :
    Snd G sc N (.Compare a [op, op'] [b, c] pos) (dChain f f' da db dc) := fun X W st tk =>
  ⟨fun pins s σ H Q I h => (pe_chain (ho X st.here) (ho' X st.here) (ha X W st tk) (hb X W st tk) (hc X W st tk) hm).run pins s σ H Q I (chain_read h)⟩
theorem r_tchain {op op' : CmpOp} (ho : OpS G (compareOp op) f) (ho' : OpS G (compareOp op') f') (ha : Snd G sc N a da) (hb : Snd G sc N b db) (hc : Snd G sc N c dc) (hm : lastMarks [op, op'] [b, c] = false := by with_unfolding_all rfl) :
    SndT G sc N (.Compare a [op, op'] [b, c] pos) (toB (dChain f f' da db dc)) := fun X W st tk =>
  ⟨fun pins s σ H Q I h => (pt_chain (ho X st.here) (ho' X st.here) (ha X W st tk) (hb X W st tk) (hc X W st tk) hm).run pins s σ H Q I (chain_read (toB_read h))⟩

/-! ### not, and, or, if .. else -/
def dNotT (t : DR Bool) : DR Bool := fun l S => (t l S).bind fun b S1 => .ok (!b) S1
def dAndT (t u : DR Bool) : DR Bool := fun l S => (t l S).bind fun b S1 => if b = true then u l S1 else .ok false S1
def dOrT (t u : DR Bool) : DR Bool := fun l S => (t l S).bind fun b S1 => if b = true then .ok true S1 else u l S1
def ofB (t : DR Bool) : DE := fun l S => (t l S).bind fun b S1 => .ok (.d (.bool b)) S1
def dIf {α : Type} (t : DR Bool) (u v : DR α) : DR α := fun l S => (t l S).bind fun b S1 => if b = true then u l S1 else v l S1
def SndW (G : Gl) (sc : Scope) (N : List Str) (e : Expr) (de : DR Bool) : Prop := ∀ X W, Stat G sc N X → Takes X W → PW X e (tT G W de)
variable {ta tb tc : DR Bool} {rest : List Expr}
theorem SndW.t (h : SndW G sc N e ta) : SndT G sc N e ta := fun X W st tk => (h X W st tk).pt
theorem if_read {α β : Type} {rel : List Addr → Hp → α → β → Prop} {W : WX} {σ : L2.St} {H : Hp} {u v : DR α} {Q : β → Hp → Prop} (h : tR G W rel (dIf ta u v) σ H Q) :
    tT G W ta σ H fun b H1 => if b = true then tR G W rel u σ H1 Q else tR G W rel v σ H1 Q := by
  obtain ⟨μ, l, S, s, sl, h⟩ := h
  refine ⟨μ, l, S, s, sl, Aft.imp (Aft.bind (rel' := relB) h) fun b H1 _ ⟨b', μ1, S1, g1, s1, rb, h1⟩ => ?_⟩
  cases rb
  cases b with
  | true => exact ⟨μ1, l, S1, s1, sl.grow g1, h1⟩
  | false => exact ⟨μ1, l, S1, s1, sl.grow g1, h1⟩
theorem dAndT_if : dAndT ta tb = dIf ta tb (fun _ S => .ok false S) := rfl
theorem dOrT_if : dOrT ta tb = dIf ta (fun _ S => .ok true S) tb := rfl
theorem ret_read {α β : Type} {rel : List Addr → Hp → α → β → Prop} {W : WX} {σ : L2.St} {H : Hp} {x : α} {y : β} {Q : β → Hp → Prop} (h : tR G W rel (fun _ S => .ok x S) σ H Q) (hr : ∀ μ, rel μ H x y) : Q y H := by
  obtain ⟨μ, l, S, s, sl, h⟩ := h
  exact h.here s (hr μ)
theorem r_tnot (h : SndT G sc N a ta) : SndT G sc N (.UnaryOp .Not a pos) (dNotT ta) := fun X W st tk =>
  ⟨fun pins s σ H Q I q => (pt_not (h X W st tk)).run pins s σ H Q I (tR.imp (tR_one (rel1 := relB) q) fun b H1 ⟨μ1, b', S1, s1, rb, h1⟩ => by
    have rb : b' = b := rb
    subst rb
    exact h1.here s1 rfl)⟩
theorem r_wand1 (h : SndT G sc N a ta) : SndW G sc N (.BoolOp .And [a] pos) ta := fun X W st tk => pw_and1 (h X W st tk)
theorem r_wor1 (h : SndT G sc N a ta) : SndW G sc N (.BoolOp .Or [a] pos) ta := fun X W st tk => pw_or1 (h X W st tk)
theorem r_wand (h : SndT G sc N a ta) (hb : SndW G sc N (.BoolOp .And (b :: rest) pos) tb) : SndW G sc N (.BoolOp .And (a :: b :: rest) pos) (dAndT ta tb) := fun X W st tk =>
  ⟨fun wh pins s σ H Q I q => (pw_and (h X W st tk) (hb X W st tk)).run wh pins s σ H Q I (tR.imp (if_read (dAndT_if ▸ q)) fun b H1 h1 => by
    cases b with
    | true => exact h1
    | false => exact ret_read h1 fun _ => rfl)⟩
theorem r_wor (h : SndT G sc N a ta) (hb : SndW G sc N (.BoolOp .Or (b :: rest) pos) tb) : SndW G sc N (.BoolOp .Or (a :: b :: rest) pos) (dOrT ta tb) := fun X W st tk =>
  ⟨fun wh pins s σ H Q I q => (pw_or (h X W st tk) (hb X W st tk)).run wh pins s σ H Q I (tR.imp (if_read (dOrT_if ▸ q)) fun b H1 h1 => by
    cases b with
    | true => exact ret_read h1 fun _ => rfl
    | false => exact h1)⟩
/-- values: bools on the left -/
def dAndV (da db : DE) : DE := dIf (toB da) db (dVal (.bool false))
def dOrV (da db : DE) : DE := dIf (toB da) (dVal (.bool true)) db
def dNotV (da : DE) : DE := ofB (dNotT (toB da))
theorem r_one {op} (h : Snd G sc N a da) : Snd G sc N (.BoolOp op [a] pos) da := fun X W st tk => pe_one (h X W st tk)
theorem r_and (ha : Snd G sc N a da) (hb : Snd G sc N (.BoolOp .And (b :: rest) pos) db) : Snd G sc N (.BoolOp .And (a :: b :: rest) pos) (dAndV da db) := fun X W st tk =>
  ⟨fun pins s σ H Q I q => (pe_and (ha X W st tk) (hb X W st tk)).run pins s σ H Q I (tR.imp (toB_read (if_read q)) fun x H1 ⟨c, e, h1⟩ => ⟨c, e, by
    cases c with
    | true => exact h1
    | false => exact ret_read h1 fun _ => .bl false⟩)⟩
theorem r_or (ha : Snd G sc N a da) (hb : Snd G sc N (.BoolOp .Or (b :: rest) pos) db) : Snd G sc N (.BoolOp .Or (a :: b :: rest) pos) (dOrV da db) := fun X W st tk =>
  ⟨fun pins s σ H Q I q => (pe_or (ha X W st tk) (hb X W st tk)).run pins s σ H Q I (tR.imp (toB_read (if_read q)) fun x H1 ⟨c, e, h1⟩ => ⟨c, e, by
    cases c with
    | true => exact ret_read h1 fun _ => .bl true
    | false => exact h1⟩)⟩
theorem r_not (ha : Snd G sc N a da) : Snd G sc N (.UnaryOp .Not a pos) (dNotV da) := fun X W st tk =>
  ⟨fun pins s σ H Q I q => (pe_not (ha X W st tk)).run pins s σ H Q I (by
    have h1 := tR_one (rel1 := relB) q
    obtain ⟨μ, l, S, s, sl, h⟩ := q
    have h' : Aft G (fun c dd H' => W c dd σ H') (RelA G) μ H ((toB da l S).bind fun b S1 => .ok (.d (.bool (!b))) S1) Q := by
      have e : (dNotV da) l S = (toB da l S).bind fun b S1 => .ok (.d (.bool (!b))) S1 := by
        unfold dNotV ofB dNotT
        cases toB da l S <;> rfl
      rw [← e]; exact h
    have h2 : tT G W (toB da) σ H fun c H1 => Q (.bl (!c)) H1 := ⟨μ, l, S, s, sl, Aft.imp (Aft.bind (rel' := relB) h') fun b H1 _ ⟨b', μ1, S1, g1, s1, rb, h1⟩ => by
      have rb : b' = b := rb
      subst rb
      exact h1.here s1 (.bl _)⟩
    exact toB_read h2)⟩
theorem r_ifexp (hc : SndT G sc N c tc) (ha : Snd G sc N a da) (hb : Snd G sc N b db) : Snd G sc N (.IfExp c a b pos) (dIf tc da db) := fun X W st tk =>
  ⟨fun pins s σ H Q I q => (pe_ifExp (hc X W st tk) (ha X W st tk) (hb X W st tk)).run pins s σ H Q I (if_read q)⟩

/-! ### one operand -/
def dOp1 (f : A → Store → Option A) (da : DE) : DE := fun l S => (da l S).bind fun x S1 => opt (f x S1) S1
def pu1 (g : D → Option D) : A → Store → Option A := fun a _ => match a with
  | .d x => (g x).map .d
  | _ => none
def negD : D → Option D
  | .int i => some (.int (-i))
  | _ => none
theorem op1_read {g : A → Store → Option A} {W : WX} {σ : L2.St} {H : Hp} {Q : VK} (h : tE G W (dOp1 g da) σ H Q) :
    tE G W da σ H fun x H1 => ∃ μ a S r, SimS G μ S H1 ∧ RelA G μ H1 a x ∧ g a S = some r ∧ ∀ H' v, Same H1 H' → RelA G μ H' r v → Q v H' := by
  refine tR.imp (tR_one (rel1 := RelA G) h) fun x H1 ⟨μ1, a, S1, s1, ra, h1⟩ => ?_
  unfold opt at h1
  split at h1
  · rename_i r e
    exact ⟨μ1, a, S1, r, s1, ra, e, fun H' v sm rv => h1 μ1 H' v (Grow.same sm) (s1.same sm) rv⟩
  · exact h1.elim
theorem r_neg (ha : Snd G sc N a da) : Snd G sc N (.UnaryOp .USub a pos) (dOp1 (pu1 negD) da) := fun X W st tk =>
  ⟨fun pins s σ H Q I q => (pe_un un_neg (ha X W st tk)).run pins s σ H Q I (tR.imp (op1_read q) fun x H1 ⟨μ, a, S, r, s, ra, e, h⟩ => by
    cases a with
    | d a =>
      cases a with
      | int i =>
        cases ra
        simp only [pu1, negD, Option.map_some, Option.some.injEq] at e
        subst e
        exact ⟨i, rfl, h H1 _ (Same.refl _) (.int _)⟩
      | _ => simp [pu1, negD] at e
    | _ => simp [pu1] at e)⟩
end
end Ev

/-! Ev3: what the operators do on plain data. -/
namespace Ev
open PySem PySem.Spec PyProof.Rows L2

section
variable {X : Cx} {pins : List (Addr × Obj)} {σ : L2.St} {H : Hp} {s : Shared} {K : PySem.W.Frag} {w : World}
theorem line_eq : (sizeLine : Nat) = 16777216 := sizeLine_eq
/-- a list that has just been made, locked -/
theorem lock_new {p : Addr} {xs : List V} (I : L2.Inv X pins σ (upd H p (.lst xs)) s) (hn : H p = none) : ∃ H', L2.Inv X pins σ H' s ∧ Same H H' ∧ FzL K H' p xs := by
  obtain ⟨o, I2⟩ := freezeL I upd_same
  rw [upd_upd] at I2
  exact ⟨_, I2, same_new hn, .inl ⟨o, upd_same⟩⟩
theorem tup_new {p : Addr} {xs : List V} : SqT K (upd H p (.tup xs)) p xs := .of upd_same
/-- list + list, by what may be read -/
theorem cat_lists {l b : Addr} {xs ys : List V} {Q : Value → Shared → Prop} (I : L2.Inv X pins σ H s) (hx : SqL X.K H l xs) (hy : SqL X.K H b ys) (hz : xs.length + ys.length ≤ 16777216)
    (h : ∀ s' p, L2.Inv X pins σ (upd H p (.lst (xs ++ ys))) s' → H p = none → Q (.ref p) s') : wpAny (model X.prog X.w) X.A (binaryOp .Add (.ref l) (.ref b)) Q X.xe s := by
  obtain ⟨its, r, ⟨o, n, e, hc, hd, hda⟩, _⟩ := I.list hx
  obtain ⟨its2, r2, ⟨o2, n2, e2, hc2, hd2, hda2⟩, _⟩ := I.list hy
  obtain ⟨cls, dd, data, sl⟩ := o
  obtain ⟨cls2, dd2, data2, sl2⟩ := o2
  simp only at hc hd hda hc2 hd2 hda2
  subst hc hd hda hc2 hd2 hda2
  have hl := r.length
  have hl2 := r2.length
  refine concat_meets ⟨_, e, rfl⟩ ⟨_, e2, rfl⟩ noFill_list_add seq_list_add PySem.F.slot_list_add PySem.F.entry_list_add (PySem.F.args_list_add_2 _ _) (list_addW l b its.toArray its2.toArray n n2 none none sl sl2 (by simp only [List.size_toArray]; rw [line_eq]; omega)) ⟨e, e2, ?_⟩
  have ea : its.toArray ++ its2.toArray = (its ++ its2).toArray := by simp
  rw [ea]
  exact h _ _ (I.lnew (t' := s.toks) (r.append r2) (by rw [List.length_append, line_eq]; exact hz)) I.fresh
end

def addD : D → D → Option D
  | .int i, .int j => some (.int (i + j))
  | .str x, .str y => if x.length + y.length ≤ 16777216 then some (.str (x ++ y)) else none
  | .list xs, .list ys => if xs.length + ys.length ≤ 16777216 then some (.list (xs ++ ys)) else none
  | .tuple xs, .tuple ys => if xs.length + ys.length ≤ 16777216 then some (.tuple (xs ++ ys)) else none
  | _, _ => none
def subD : D → D → Option D
  | .int i, .int j => some (.int (i - j))
  | _, _ => none
def divD : D → D → Option D
  | .int i, .int j => if 0 < j ∧ j < 1073741824 then some (.int (i / j)) else none
  | _, _ => none
def modD : D → D → Option D
  | .int i, .int j => if 0 < j then some (.int (i % j)) else none
  | _, _ => none
def powD : D → D → Option D
  | .int i, .int j => if 0 ≤ j ∧ j ≤ 1000000 ∧ i.natAbs < 2 ^ 64 then some (.int (i ^ j.toNat)) else none
  | _, _ => none
def mulIntOk (i j : Int) : Bool := (decide (-(2 ^ 64) < i) && decide (i < 2 ^ 64)) || (decide (-(2 ^ 64) < j) && decide (j < 2 ^ 64))
def mulD : D → D → Option D
  | .int i, .int j => if mulIntOk i j = true then some (.int (i * j)) else none
  | _, _ => none
section
variable {G : Gl}
theorem dsz {w : World} {K : PySem.W.Frag} {H : Hp} {vs : List V} {ds : List D} (h : DpFs w K H vs ds) : vs.length = ds.length := h.length
theorem op_addD : OpD G (binaryOp .Add) addD := fun X hX pins s σ H x y v u Q I rx ry ⟨d, e, z, hd, he, hg, q⟩ => by
  cases hd with
  | int i =>
    cases he with
    | int j =>
      simp only [addD, Option.some.injEq] at hg; subst hg
      exact op_add pins s σ H _ _ v u Q I rx ry ⟨i, j, rfl, rfl, q H _ (Same.refl _) (.int _)⟩
    | _ => simp [addD] at hg
  | str i =>
    cases he with
    | str j =>
      simp only [addD] at hg
      split at hg
      · rename_i hz
        cases hg
        exact op_add_str pins s σ H _ _ v u Q I rx ry ⟨i, j, rfl, rfl, by rw [line_eq]; exact hz, q H _ (Same.refl _) (.str _)⟩
      · cases hg
    | _ => simp [addD] at hg
  | @lst a xs ds ha ra =>
    cases he with
    | @lst b ys es hb rb =>
      simp only [addD] at hg
      split at hg
      · rename_i hz
        cases hg
        cases rx
        cases ry
        refine cat_lists I (by rw [hX.K]; exact ha.sq) (by rw [hX.K]; exact hb.sq) (by rw [ra.length, rb.length]; exact hz) fun s' p I' hn => ?_
        obtain ⟨H', I2, sm, fz⟩ := lock_new (K := G.K) I' hn
        exact ⟨.ref p, H', I2, rfl, q H' _ sm (.lst fz ((ra.append rb).mono (Pers.of sm)))⟩
      · cases hg
    | _ => simp [addD] at hg
  | @tup a xs ds ha ra =>
    cases he with
    | @tup b ys es hb rb =>
      simp only [addD] at hg
      split at hg
      · rename_i hz
        cases hg
        refine op_catA pins s σ H _ _ v u Q I rx ry ⟨a, b, xs, ys, rfl, rfl, by rw [hX.K]; exact ha, by rw [hX.K]; exact hb, by rw [ra.length, rb.length, line_eq]; exact hz, fun e1 => ?_, fun _ e2 => ?_, fun _ _ p hn => ?_⟩
        · subst e1
          cases ra
          exact q H _ (Same.refl _) (.tup hb rb)
        · subst e2
          cases rb
          rw [List.append_nil] at q
          exact q H _ (Same.refl _) (.tup ha ra)
        · have sm := same_new (o := .tup (xs ++ ys)) hn
          exact q _ _ sm (.tup tup_new ((ra.append rb).mono (Pers.of sm)))
      · cases hg
    | _ => simp [addD] at hg
  | _ => cases he <;> simp [addD] at hg
theorem opI_D {sem : Value → Value → Sem Value} {C : Int → Int → Prop} {f : Int → Int → Int} {g : D → D → Option D} (ho : ∀ X, OpR X sem (rI C fun i j => .int (f i j)))
    (hg : ∀ d e z, g d e = some z → ∃ i j, d = .int i ∧ e = .int j ∧ C i j ∧ z = .int (f i j)) : OpD G sem g := fun X hX pins s σ H x y v u Q I rx ry ⟨d, e, z, hd, he, hz, q⟩ => by
  obtain ⟨i, j, rfl, rfl, hc, rfl⟩ := hg d e z hz
  cases hd; cases he
  exact ho X pins s σ H _ _ v u Q I rx ry ⟨i, j, rfl, rfl, hc, q H _ (Same.refl _) (.int _)⟩
theorem op_subD : OpD G (binaryOp .Sub) subD := opI_D (C := fun _ _ => True) (f := fun i j => i - j) (fun X pins s σ H x y v u Q I rx ry ⟨i, j, a, b, _, q⟩ => op_sub pins s σ H x y v u Q I rx ry ⟨i, j, a, b, q⟩) fun d e z h => by
  cases d <;> cases e <;> simp [subD] at h
  exact ⟨_, _, rfl, rfl, trivial, h.symm⟩
theorem op_divD : OpD G (binaryOp .FloorDiv) divD := opI_D (C := CDiv) (f := fun i j => i / j) (fun X => op_fdiv) fun d e z h => by
  cases d <;> cases e <;> simp [divD] at h
  exact ⟨_, _, rfl, rfl, h.1, h.2.symm⟩
theorem op_modD : OpD G (binaryOp .Mod) modD := opI_D (C := fun _ j => 0 < j) (f := fun i j => i % j) (fun X => op_mod) fun d e z h => by
  cases d <;> cases e <;> simp [modD] at h
  exact ⟨_, _, rfl, rfl, h.1, h.2.symm⟩
theorem op_powD : OpD G (binaryOp .Pow) powD := opI_D (C := CPow) (f := fun i j => i ^ j.toNat) (fun X => op_pow) fun d e z h => by
  cases d with
  | int i =>
    cases e with
    | int j =>
      simp only [powD, Option.ite_none_right_eq_some, Option.some.injEq] at h
      obtain ⟨hc, rfl⟩ := h
      exact ⟨_, _, rfl, rfl, hc, rfl⟩
    | _ => simp [powD] at h
  | _ => simp [powD] at h
theorem op_mulI : OpD G (binaryOp .Mult) mulD := opI_D (C := CMul) (f := fun i j => i * j) (fun X => op_mul) fun d e z h => by
  cases d with
  | int i =>
    cases e with
    | int j =>
      simp only [mulD, Option.ite_none_right_eq_some, Option.some.injEq] at h
      obtain ⟨hc, rfl⟩ := h
      simp only [mulIntOk, Bool.or_eq_true, Bool.and_eq_true, decide_eq_true_eq] at hc
      exact ⟨_, _, rfl, rfl, hc, rfl⟩
    | _ => simp [mulD] at h
  | _ => simp [mulD] at h
end

/-! ### comparisons -/
/-- data that == may be asked of at any place -/
def eqOk (d : D) : Bool := SeqAt.shaped d && nodict d
def eqD : D → D → Option Bool
  | .int i, .int j => some (decide (i = j))
  | .str x, .str y => some (decide (x = y))
  | .bool a, .bool b => some (decide (a = b))
  | .none, .none => some true
  | d, e => if eqOk d && eqOk e then some (PyData.eqv d e) else none
def boolD (g : D → D → Option Bool) : D → D → Option D := fun d e => (g d e).map .bool
def notD (g : D → D → Option Bool) : D → D → Option D := fun d e => (g d e).map fun b => .bool !b
section
variable {G : Gl}
theorem op_eqDD : OpD G (compareOp .Eq) (boolD eqD) := fun X hX pins s σ H x y v u Q I rx ry ⟨d, e, z, hd, he, hg, q⟩ => by
  simp only [boolD, Option.map_eq_some_iff] at hg
  obtain ⟨b, hb, rfl⟩ := hg
  unfold eqD at hb
  split at hb
  · cases hd; cases he; cases hb
    exact op_eq pins s σ H _ _ v u Q I rx ry ⟨rfl, by simpa using q H _ (Same.refl _) (.bl _)⟩
  · cases hd; cases he; cases hb
    exact op_eq pins s σ H _ _ v u Q I rx ry ⟨rfl, by simpa using q H _ (Same.refl _) (.bl _)⟩
  · cases hd; cases he; cases hb
    exact op_eq pins s σ H _ _ v u Q I rx ry ⟨rfl, by simpa using q H _ (Same.refl _) (.bl _)⟩
  · cases hd; cases he; cases hb
    exact op_eq pins s σ H _ _ v u Q I rx ry ⟨rfl, by simpa using q H _ (Same.refl _) (.bl _)⟩
  · split at hb
    · rename_i hs
      cases hb
      simp only [eqOk, Bool.and_eq_true] at hs
      exact op_eqD hX.hu pins s σ H _ _ v u Q I rx ry ⟨d, e, by rw [hX.K]; exact hd.dp hs.1.2, by rw [hX.K]; exact he.dp hs.2.2, hs.1.1, hs.2.1, q H _ (Same.refl _) (.bl _)⟩
    · cases hb
theorem op_neDD : OpD G (compareOp .NotEq) (notD eqD) := fun X hX pins s σ H x y v u Q I rx ry ⟨d, e, z, hd, he, hg, q⟩ => by
  simp only [notD, Option.map_eq_some_iff] at hg
  obtain ⟨b, hb, rfl⟩ := hg
  unfold eqD at hb
  split at hb
  · cases hd; cases he; cases hb
    exact op_ne pins s σ H _ _ v u Q I rx ry ⟨rfl, by simpa using q H _ (Same.refl _) (.bl _)⟩
  · cases hd; cases he; cases hb
    exact op_ne pins s σ H _ _ v u Q I rx ry ⟨rfl, by simpa using q H _ (Same.refl _) (.bl _)⟩
  · cases hd; cases he; cases hb
    exact op_ne pins s σ H _ _ v u Q I rx ry ⟨rfl, by simpa using q H _ (Same.refl _) (.bl _)⟩
  · cases hd; cases he; cases hb
    exact op_ne pins s σ H _ _ v u Q I rx ry ⟨rfl, by simpa using q H _ (Same.refl _) (.bl _)⟩
  · split at hb
    · rename_i hs
      cases hb
      simp only [eqOk, Bool.and_eq_true] at hs
      exact op_neD hX.hu pins s σ H _ _ v u Q I rx ry ⟨d, e, by rw [hX.K]; exact hd.dp hs.1.2, by rw [hX.K]; exact he.dp hs.2.2, hs.1.1, hs.2.1, q H _ (Same.refl _) (.bl _)⟩
    · cases hb
def ltD : D → D → Option Bool
  | .int i, .int j => some (decide (i < j))
  | _, _ => none
def leD : D → D → Option Bool
  | .int i, .int j => some (decide (i ≤ j))
  | _, _ => none
def gtD : D → D → Option Bool
  | .int i, .int j => some (decide (j < i))
  | _, _ => none
def geD : D → D → Option Bool
  | .int i, .int j => some (decide (j ≤ i))
  | _, _ => none
theorem cmpI_D {sem : Value → Value → Sem Value} {f : Int → Int → Bool} {g : D → D → Option Bool} (ho : ∀ X, OpR X sem (rI0 fun i j => .bl (f i j)))
    (hg : ∀ d e z, g d e = some z → ∃ i j, d = .int i ∧ e = .int j ∧ z = f i j) : OpD G sem (boolD g) := fun X hX pins s σ H x y v u Q I rx ry ⟨d, e, z, hd, he, hz, q⟩ => by
  simp only [boolD, Option.map_eq_some_iff] at hz
  obtain ⟨b, hb, rfl⟩ := hz
  obtain ⟨i, j, rfl, rfl, rfl⟩ := hg d e b hb
  cases hd; cases he
  exact ho X pins s σ H _ _ v u Q I rx ry ⟨i, j, rfl, rfl, q H _ (Same.refl _) (.bl _)⟩
theorem op_ltDD : OpD G (compareOp .Lt) (boolD ltD) := cmpI_D (f := fun i j => decide (i < j)) (fun X => op_lt) fun d e z h => by
  cases d <;> cases e <;> simp [ltD] at h
  exact ⟨_, _, rfl, rfl, h.symm⟩
theorem op_leDD : OpD G (compareOp .LtE) (boolD leD) := cmpI_D (f := fun i j => decide (i ≤ j)) (fun X => op_le) fun d e z h => by
  cases d <;> cases e <;> simp [leD] at h
  exact ⟨_, _, rfl, rfl, h.symm⟩
theorem op_gtDD : OpD G (compareOp .Gt) (boolD gtD) := cmpI_D (f := fun i j => decide (j < i)) (fun X => op_gt) fun d e z h => by
  cases d <;> cases e <;> simp [gtD] at h
  exact ⟨_, _, rfl, rfl, h.symm⟩
theorem op_geDD : OpD G (compareOp .GtE) (boolD geD) := cmpI_D (f := fun i j => decide (j ≤ i)) (fun X => op_ge) fun d e z h => by
  cases d <;> cases e <;> simp [geD] at h
  exact ⟨_, _, rfl, rfl, h.symm⟩

/-- x in y -/
def inD : D → D → Option Bool
  | .str x, .str y => some (!(Builtin.Str.occurrences y x 0 y.length 1).isEmpty)
  | d, .list ds => if eqOk d && eqOk (.list ds) then some (ds.any fun z => PyData.eqv z d) else none
  | d, .tuple ds => if eqOk d && eqOk (.tuple ds) then some (ds.any fun z => PyData.eqv z d) else none
  | _, _ => none
theorem hu65 {X : Cx} (hX : Here G X) : X.A.units + 65 < cLine := by have := hX.room.un; omega
theorem op_inDD : OpD G (compareOp .In) (boolD inD) := fun X hX pins s σ H x y v u Q I rx ry ⟨d, e, z, hd, he, hg, q⟩ => by
  simp only [boolD, Option.map_eq_some_iff] at hg
  obtain ⟨b, hb, rfl⟩ := hg
  unfold inD at hb
  split at hb
  · cases hd; cases he; cases hb
    exact op_in_str pins s σ H _ _ v u Q I rx ry ⟨_, _, rfl, rfl, q H _ (Same.refl _) (.bl _)⟩
  · split at hb
    · rename_i hs
      cases hb
      simp only [eqOk, Bool.and_eq_true] at hs
      obtain ⟨as, r1⟩ := Dp.reads I _ x v (by rw [hX.K]; exact hd.dp hs.1.2) rx
      obtain ⟨bs, r2⟩ := Dp.reads I _ y u (by rw [hX.K]; exact he.dp hs.2.2) ry
      exact SeqAt.in_list_reads r2 r1 (SeqAt.canLay_of_shaped hs.2.1) (SeqAt.canLay_of_shaped hs.1.1) (room_in_shaped hs.1.1 (hu65 hX)) ⟨.bl _, H, I, rfl, q H _ (Same.refl _) (.bl _)⟩
    · cases hb
  · split at hb
    · rename_i hs
      cases hb
      simp only [eqOk, Bool.and_eq_true] at hs
      obtain ⟨as, r1⟩ := Dp.reads I _ x v (by rw [hX.K]; exact hd.dp hs.1.2) rx
      obtain ⟨bs, r2⟩ := Dp.reads I _ y u (by rw [hX.K]; exact he.dp hs.2.2) ry
      exact SeqAt.in_tuple_reads r2 r1 (SeqAt.canLay_of_shaped hs.2.1) (SeqAt.canLay_of_shaped hs.1.1) (room_in_shaped hs.1.1 (hu65 hX)) ⟨.bl _, H, I, rfl, q H _ (Same.refl _) (.bl _)⟩
    · cases hb
  · cases hb
theorem op_ninDD : OpD G (compareOp .NotIn) (notD inD) := fun X hX pins s σ H x y v u Q I rx ry ⟨d, e, z, hd, he, hg, q⟩ => by
  simp only [notD, Option.map_eq_some_iff] at hg
  obtain ⟨b, hb, rfl⟩ := hg
  unfold inD at hb
  split at hb
  · cases hd; cases he; cases hb
    exact op_notin_str pins s σ H _ _ v u Q I rx ry ⟨_, _, rfl, rfl, q H _ (Same.refl _) (.bl _)⟩
  · split at hb
    · rename_i hs
      cases hb
      simp only [eqOk, Bool.and_eq_true] at hs
      obtain ⟨as, r1⟩ := Dp.reads I _ x v (by rw [hX.K]; exact hd.dp hs.1.2) rx
      obtain ⟨bs, r2⟩ := Dp.reads I _ y u (by rw [hX.K]; exact he.dp hs.2.2) ry
      exact SeqAt.notIn_list_reads r2 r1 (SeqAt.canLay_of_shaped hs.2.1) (SeqAt.canLay_of_shaped hs.1.1) (room_in_shaped hs.1.1 (hu65 hX)) ⟨.bl _, H, I, rfl, q H _ (Same.refl _) (.bl _)⟩
    · cases hb
  · split at hb
    · rename_i hs
      cases hb
      simp only [eqOk, Bool.and_eq_true] at hs
      obtain ⟨as, r1⟩ := Dp.reads I _ x v (by rw [hX.K]; exact hd.dp hs.1.2) rx
      obtain ⟨bs, r2⟩ := Dp.reads I _ y u (by rw [hX.K]; exact he.dp hs.2.2) ry
      exact SeqAt.notIn_tuple_reads r2 r1 (SeqAt.canLay_of_shaped hs.2.1) (SeqAt.canLay_of_shaped hs.1.1) (room_in_shaped hs.1.1 (hu65 hX)) ⟨.bl _, H, I, rfl, q H _ (Same.refl _) (.bl _)⟩
    · cases hb
  · cases hb
/-- x is None, True, False -/
def isA : A → A → Store → Option A := fun a b _ => match b with
  | .d .none => match a with
    | .d .none => some (.d (.bool true))
    | _ => some (.d (.bool false))
  | .d (.bool k) => match a with
    | .d (.bool j) => some (.d (.bool (decide (j = k))))
    | _ => none
  | _ => none
def isnA : A → A → Store → Option A := fun a b S => match isA a b S with
  | some (.d (.bool k)) => some (.d (.bool !k))
  | _ => none
theorem non_iff {μ : List Addr} {H : Hp} {a : A} {x : V} (r : RelA G μ H a x) : x = .non ↔ a = .d .none := by
  cases a with
  | d a => cases r <;> simp
  | loc n => obtain ⟨b, _, rfl⟩ := r; simp
  | fn f => have r : x = .ref _ := r; subst r; simp
def isNone : A → Bool
  | .d .none => true
  | _ => false
theorem isNone_iff {a : A} : isNone a = true ↔ a = .d .none := by
  unfold isNone
  split <;> simp_all
theorem isA_none (a : A) (S : Store) : isA a (.d .none) S = some (.d (.bool (isNone a))) := by
  unfold isA isNone
  cases a with
  | d a => cases a <;> rfl
  | _ => rfl
theorem op_isA : OpS G (compareOp .Is) isA := fun X hX pins s σ H x y v u Q I rx ry ⟨μ, a, b, S, r, ss, ra, rb, e, q⟩ => by
  cases b with
  | d b =>
    cases b with
    | none =>
      rw [isA_none] at e
      cases e
      cases rb
      refine op_isN pins s σ H _ _ v u Q I rx ry ⟨rfl, q H _ (Same.refl _) ?_⟩
      have e2 : decide (x = V.non) = isNone a := by rw [Bool.eq_iff_iff, decide_eq_true_eq, isNone_iff]; exact non_iff ra
      rw [e2]
      exact DpF.bl _
    | bool k =>
      cases a with
      | d a =>
        cases a with
        | bool j =>
          cases ra; cases rb; cases e
          exact op_isBl pins s σ H _ _ v u Q I rx ry ⟨j, k, rfl, rfl, q H _ (Same.refl _) (.bl _)⟩
        | _ => simp [isA] at e
      | _ => simp [isA] at e
    | _ => simp [isA] at e
  | _ => simp [isA] at e
theorem op_isnA : OpS G (compareOp .IsNot) isnA := fun X hX pins s σ H x y v u Q I rx ry ⟨μ, a, b, S, r, ss, ra, rb, e, q⟩ => by
  cases b with
  | d b =>
    cases b with
    | none =>
      unfold isnA at e
      rw [isA_none] at e
      cases e
      cases rb
      refine op_notN pins s σ H _ _ v u Q I rx ry ⟨rfl, q H _ (Same.refl _) ?_⟩
      have e2 : decide (x = V.non) = isNone a := by rw [Bool.eq_iff_iff, decide_eq_true_eq, isNone_iff]; exact non_iff ra
      rw [e2]
      exact DpF.bl _
    | bool k =>
      cases a with
      | d a =>
        cases a with
        | bool j =>
          cases ra; cases rb; cases e
          exact op_notBl pins s σ H _ _ v u Q I rx ry ⟨j, k, rfl, rfl, q H _ (Same.refl _) (.bl _)⟩
        | _ => simp [isnA, isA] at e
      | _ => simp [isnA, isA] at e
    | _ => simp [isnA, isA] at e
  | _ => simp [isnA, isA] at e
end
end Ev

/-! Ev4: argument lists, displays, subscripts, slices, calls of built-ins. -/
namespace Ev
open PySem PySem.Spec PyProof.Rows L2

/-! ### argument lists -/
def dNil : DR (List A) := fun _ S => .ok [] S
def dCons (d : DE) (r : DR (List A)) : DR (List A) := fun l S => (d l S).bind fun x S1 => (r l S1).bind fun xs S2 => .ok (x :: xs) S2
def pures : List A → Option (List D)
  | [] => some []
  | .d x :: r => (pures r).map (x :: ·)
  | _ :: _ => none
theorem pures_some {G : Gl} {μ : List Addr} {H : Hp} : ∀ {xs : List A} {ds : List D} {vs : List V}, pures xs = some ds → RelAs G μ H xs vs → DpFs G.w G.K H vs ds
  | [], ds, vs, e, r => by simp [pures] at e; subst e; cases r; exact .nil
  | .d x :: xs, ds, vs, e, r => by
    simp only [pures, Option.map_eq_some_iff] at e
    obtain ⟨ds', e', rfl⟩ := e
    cases r with
    | cons r1 r2 => exact .cons r1 (pures_some e' r2)
  | .loc _ :: xs, ds, vs, e, r => by simp [pures] at e
  | .fn _ :: xs, ds, vs, e, r => by simp [pures] at e
@[simp] theorem pures_map (ds : List D) : pures (ds.map A.d) = some ds := by
  induction ds with
  | nil => rfl
  | cons d ds ih => simp [pures, ih]
theorem RelAs.of {G : Gl} {μ : List Addr} {H : Hp} : ∀ {ds : List D} {vs : List V}, DpFs G.w G.K H vs ds → RelAs G μ H (ds.map A.d) vs
  | _, _, .nil => .nil
  | _, _, .cons a b => .cons a (RelAs.of b)
section
variable {G : Gl} {sc : Scope} {N : List Str} {pos : Pos} {a b c e : Expr} {es : List Expr} {da db dc de : DE} {das : DR (List A)} {W : WX} {σ : L2.St} {H : Hp}
theorem r_anil : SndA G sc N [] dNil := fun X W st tk => ⟨fun pos pins s σ H Q I h => (pa_nil (X := X)).run pos pins s σ H Q I (ret_read h fun _ => .nil)⟩
theorem r_acons (h : Snd G sc N e de) (hr : SndA G sc N es das) (hs : ∀ env, starEach (e :: es) env = (false, eval e env) :: starEach es env := by intro _; rfl) : SndA G sc N (e :: es) (dCons de das) := fun X W st tk =>
  ⟨fun pos pins s σ H Q I q => (pa_cons (h X W st tk) (hr X W st tk) (hs X.env)).run pos pins s σ H Q I (by
    obtain ⟨μ, l, S, ss, sl, q⟩ := q
    refine ⟨μ, l, S, ss, sl, Aft.imp (Aft.bind (rel' := RelA G) q) fun x H1 _ ⟨a, μ1, S1, g1, s1, ra, h1⟩ => ?_⟩
    refine ⟨μ1, l, S1, s1, sl.grow g1, Aft.imp (Aft.bind (rel' := RelAs G) h1) fun xs H2 _ ⟨as, μ2, S2, g2, s2, rs, h2⟩ => ?_⟩
    exact h2.here s2 (.cons (ra.grow g2) rs))⟩

/-! ### displays -/
def mkD (f : List D → D) (xs : List A) (S : Store) : Res A := match pures xs with
  | some ds => if ds.length ≤ 16777216 then .ok (.d (f ds)) S else .no
  | none => .no
def dTup (da : DR (List A)) : DE := fun l S => (da l S).bind (mkD .tuple)
def dLst (da : DR (List A)) : DE := fun l S => (da l S).bind (mkD .list)
def dLstM (da : DR (List A)) : DE := fun l S => (da l S).bind fun xs S1 => if xs.length ≤ 16777216 then .ok (.loc S1.length) (S1 ++ [.lst xs]) else .no
theorem mk_read {f : List D → D} {Q : VK} {W : XK} {μ : List Addr} {xs : List A} {S : Store} {vs : List V} (h : Aft G W (RelA G) μ H (mkD f xs S) Q) (s : SimS G μ S H) (r : RelAs G μ H xs vs) :
    ∃ ds, DpFs G.w G.K H vs ds ∧ vs.length ≤ sizeLine ∧ ∀ H' v, Same H H' → DpF G.w G.K H' v (f ds) → Q v H' := by
  unfold mkD at h
  split at h
  · rename_i ds e
    split at h
    · rename_i hz
      have p := pures_some e r
      exact ⟨ds, p, by rw [p.length, line_eq]; exact hz, fun H' v sm rv => h μ H' v (Grow.same sm) (s.same sm) rv⟩
    · exact h.elim
  · exact h.elim
theorem r_tup {x1} (ha : SndA G sc N es das) : Snd G sc N (.Tuple es x1 pos) (dTup das) := fun X W st tk =>
  ⟨fun pins s σ H Q I q => (pe_tup (ha X W st tk)).run pins s σ H Q I (tR.imp (tR_one (rel1 := RelAs G) q) fun vs H1 ⟨μ, as, S, ss, ra, h⟩ => by
    obtain ⟨ds, p, hz, k⟩ := mk_read h ss ra
    exact ⟨hz, fun a hn => k _ _ (same_new hn) (.tup tup_new (p.mono (Pers.of (same_new hn))))⟩)⟩
/-- a reading that goes on behind a ghost step -/
theorem PE_ghost {X : Cx} {e : Expr} {t : TE} {t' : TE} (h : PE X e t) (g : ∀ (pins : List (Addr × Obj)) (s : Shared) (σ : L2.St) (H : Hp) (Q : VK), t' σ H Q → t σ H fun v H1 => ∀ s', L2.Inv X pins σ H1 s' → ∃ H2, L2.Inv X pins σ H2 s' ∧ Q v H2) : PE X e t' :=
  ⟨fun pins s σ H Q I q => thn (h.run pins s σ H _ I (g pins s σ H Q q)) fun u s' ⟨v, H1, I1, rv, z⟩ => let ⟨H2, I2, q2⟩ := z s' I1; ⟨v, H2, I2, rv, q2⟩⟩
theorem r_lst (ha : SndA G sc N es das) : Snd G sc N (.List es pos) (dLst das) := fun X W st tk =>
  PE_ghost (pe_lst (ha X W st tk)) fun pins s σ H Q q => tR.imp (tR_one (rel1 := RelAs G) q) fun vs H1 ⟨μ, as, S, ss, ra, h⟩ => by
    obtain ⟨ds, p, hz, k⟩ := mk_read h ss ra
    refine ⟨hz, fun a hn s' I' => ?_⟩
    obtain ⟨H2, I2, sm, fz⟩ := lock_new (K := G.K) I' hn
    exact ⟨H2, I2, k _ _ sm (.lst fz (p.mono (Pers.of sm)))⟩
theorem r_lstM (ha : SndA G sc N es das) : Snd G sc N (.List es pos) (dLstM das) := fun X W st tk =>
  ⟨fun pins s σ H Q I q => (pe_lst (ha X W st tk)).run pins s σ H Q I (tR.imp (tR_one (rel1 := RelAs G) q) fun vs H1 ⟨μ, as, S, ss, ra, h⟩ => by
    split at h
    · rename_i hz
      refine ⟨by rw [← Paired.length ra, line_eq]; exact hz, fun a hn => ?_⟩
      have sm := same_new (o := .lst vs) hn
      have g : Grow μ (μ ++ [a]) H1 (upd H1 a (.lst vs)) := Grow.new hn sm
      refine h _ _ _ g (ss.new hn sm (by rw [upd_same]; simp) ⟨vs, upd_same, ra.grow g⟩) ?_
      exact ⟨a, by rw [List.getElem?_append_right (by rw [ss.len]; exact Nat.le_refl _)]; simp [ss.len], rfl⟩
    · exact h.elim)⟩

/-! ### subscripts -/
def IxS (G : Gl) (f : A → A → Store → Option A) : Prop := ∀ X, Here G X → IxR X (rA2 G f)
theorem r_ix {f : A → A → Store → Option A} (ho : IxS G f) (ha : Snd G sc N a da) (hb : Snd G sc N b db) (hs : ∀ o i, subscripted b false o i = operate [o, i] (getItem o i) := by intro _ _; rfl) : Snd G sc N (.Subscript a b pos) (dOp2 f da db) := fun X W st tk =>
  ⟨fun pins s σ H Q I h => (pe_ix (ho X st.here) (ha X W st tk) (hb X W st tk) hs).run pins s σ H Q I (op2_read h)⟩
def ixD : D → D → Option D
  | .list xs, .int i => atI xs i
  | .tuple xs, .int i => atI xs i
  | .str z, .int i => if z.length ≤ 16777216 then (atI z.cps.toList i).map fun c => .str ⟨#[c]⟩ else none
  | _, _ => none
/-- an item of plain data, of a list of the store's -/
def ixA : A → A → Store → Option A := fun a b S => match a, b with
  | .d x, .d y => (ixD x y).map .d
  | .loc n, .d (.int i) => match S[n]? with
    | some (.lst xs) => atI xs i
    | some (.fzn x) => (ixD x (.int i)).map .d
    | _ => none
  | _, _ => none
theorem at_rel {α β : Type} {R : α → β → Prop} {xs : List α} {ys : List β} (h : Paired R xs ys) {i : Int} {a : α} (e : atI xs i = some a) : ∃ b, atI ys i = some b ∧ R a b := by
  unfold atI at e ⊢
  rw [← Paired.length h]
  cases q : ixN xs.length i with
  | none => rw [q] at e; cases e
  | some j =>
    rw [q] at e
    change xs[j]? = some a at e
    clear q
    show ∃ b, ys[j]? = some b ∧ R a b
    induction h generalizing j with
    | nil => simp at e
    | cons r t ih =>
      cases j with
      | zero => simp at e; subst e; exact ⟨_, rfl, r⟩
      | succ j => simpa using ih j (by simpa using e)
theorem DpFs.paired {w : World} {K : PySem.W.Frag} {H : Hp} : ∀ {vs : List V} {ds : List D}, DpFs w K H vs ds → Paired (fun d v => DpF w K H v d) ds vs
  | _, _, .nil => .nil
  | _, _, .cons a b => .cons a b.paired
theorem ixD_ok {X : Cx} (hX : Here G X) (value slice : Expr) {pins : List (Addr × Obj)} {s : Shared} {x y : V} {v u : Value} {Q : VK} (I : L2.Inv X pins σ H s) (rx : RelV x v) (ry : RelV y u) {d e z : D}
    (hd : DpF G.w G.K H x d) (he : DpF G.w G.K H y e) (hz : ixD d e = some z) (q : ∀ v, DpF G.w G.K H v z → Q v H) (hs : subscripted slice false v u = operate [v, u] (getItem v u)) : wpAny (model X.prog X.w) X.A (subscriptTail value slice v u) (EP X pins σ Q) X.xe s := by
  cases he with
  | int i =>
    cases hd with
    | @lst a xs ds ha ra =>
      obtain ⟨w', h1, h2⟩ := at_rel ra.paired (show atI ds i = some z from hz)
      exact ix_list value slice pins s σ H _ _ v u Q I rx ry ⟨a, xs, i, w', rfl, rfl, by rw [hX.K]; exact ha.sq, h1, q _ h2⟩ hs
    | @tup a xs ds ha ra =>
      obtain ⟨w', h1, h2⟩ := at_rel ra.paired (show atI ds i = some z from hz)
      exact ix_tup value slice pins s σ H _ _ v u Q I rx ry ⟨a, xs, i, w', rfl, rfl, by rw [hX.K]; exact ha, h1, q _ h2⟩ hs
    | str zz =>
      simp only [ixD, Option.ite_none_right_eq_some, Option.map_eq_some_iff] at hz
      obtain ⟨hl, c, hc, rfl⟩ := hz
      exact ix_str value slice pins s σ H _ _ v u Q I rx ry ⟨zz, i, c, rfl, rfl, by rw [line_eq]; exact hl, hc, q _ (.str _)⟩ hs
    | _ => simp [ixD] at hz
  | _ => cases hd <;> simp [ixD] at hz
theorem ix_A : IxS G ixA := fun X hX value slice pins s σ H x y v u Q I rx ry ⟨μ, a, b, S, r, ss, ra, rb, e, q⟩ hs => by
  unfold ixA at e
  split at e
  · simp only [Option.map_eq_some_iff] at e
    obtain ⟨z, hz, rfl⟩ := e
    exact ixD_ok hX value slice I rx ry ra rb hz (fun v hv => q H v (Same.refl _) hv) hs
  · rename_i n i
    obtain ⟨p, hp, rfl⟩ := ra
    split at e
    · rename_i xs hc
      obtain ⟨p', hp', vs, h1, h2⟩ := ss.cells n _ hc
      rw [hp] at hp'; cases hp'
      cases rb
      obtain ⟨w', e1, e2⟩ := at_rel h2 e
      exact ix_list value slice pins s σ H _ _ v u Q I rx ry ⟨p, vs, i, w', rfl, rfl, .of h1, e1, q H _ (Same.refl _) e2⟩ hs
    · rename_i d hc
      simp only [Option.map_eq_some_iff] at e
      obtain ⟨z, hz, rfl⟩ := e
      obtain ⟨p', hp', h1⟩ := ss.cells n _ hc
      rw [hp] at hp'; cases hp'
      exact ixD_ok hX value slice I rx ry h1 rb hz (fun v hv => q H v (Same.refl _) hv) hs
    · cases e
  · cases e

/-! ### slices -/
def dPart (d : Option DE) : DR (Option Int) := match d with
  | none => fun _ S => .ok none S
  | some d => fun l S => (d l S).bind fun x S1 => match x with
    | .d (.int i) => .ok (some i) S1
    | _ => .no
def cutL {α : Type} (xs : List α) (lo hi : Option Int) : List α := (xs.drop (HT.sIx xs.length 0 lo)).take (HT.sIx xs.length xs.length hi - HT.sIx xs.length 0 lo)
def slD : D → Option Int → Option Int → Option D
  | .list xs, lo, hi => some (.list (cutL xs lo hi))
  | .tuple xs, lo, hi => some (.tuple (cutL xs lo hi))
  | _, _, _ => none
def slA : A → Option Int → Option Int → Store → Option A := fun a lo hi S => match a with
  | .d x => (slD x lo hi).map .d
  | .loc n => match S[n]? with
    | some (.lst xs) => (pures xs).map fun ds => .d (.list (cutL ds lo hi))
    | some (.fzn x) => (slD x lo hi).map .d
    | _ => none
  | _ => none
abbrev relO : List Addr → Hp → Option Int → Option Int → Prop := fun _ _ a b => a = b
def SndO (G : Gl) (sc : Scope) (N : List Str) (e : Option Expr) (de : DR (Option Int)) : Prop := ∀ X W, Stat G sc N X → Takes X W → PO X e (tR G W relO de)
theorem r_onone : SndO G sc N none (dPart none) := fun X W st tk => ⟨fun pins s σ H Q I q => po_none.run pins s σ H Q I (ret_read q fun _ => rfl)⟩
theorem r_osome (h : Snd G sc N e de) : SndO G sc N (some e) (dPart (some de)) := fun X W st tk => ⟨fun pins s σ H Q I q => (po_some (h X W st tk)).run pins s σ H Q I (by
  refine tR.imp (tR_one (rel1 := RelA G) (show tR G W relO (fun l S => (de l S).bind _) σ H Q from q)) fun x H1 ⟨μ, a, S, ss, ra, h1⟩ => ?_
  cases a with
  | d a =>
    cases a with
    | int i => cases ra; exact ⟨i, rfl, h1.here ss rfl⟩
    | _ => exact h1.elim
  | _ => exact h1.elim)⟩
def dSl (da : DE) (dl dh : DR (Option Int)) : DE := fun l S => (da l S).bind fun x S1 => (dl l S1).bind fun lo S2 => (dh l S2).bind fun hi S3 => opt (slA x lo hi S3) S3
def rSlP (G : Gl) : V → Option Int → Option Int → Hp → VK → Prop := fun x lo hi H Q => ∃ d z, DpF G.w G.K H x d ∧ slD d lo hi = some z ∧ ∀ H' v, Same H H' → DpF G.w G.K H' v z → Q v H'
theorem cut_fs {w : World} {K : PySem.W.Frag} {vs : List V} {ds : List D} (h : DpFs w K H vs ds) (lo hi : Option Int) : DpFs w K H (cutV vs lo hi) (cutL ds lo hi) := by
  unfold cutV cutL
  rw [h.length]
  exact (h.drop _).take _
theorem lock_slice {X : Cx} {pins : List (Addr × Obj)} {s : Shared} {lo hi : Option Int} {a : Addr} {xs : List V} {ds : List D} {Q : VK} (hX : Here G X) (fs : DpFs G.w G.K H xs ds) (sq : SqL X.K H a xs) {v vl vu : Value} {sl : Addr} (I : L2.Inv X pins σ H s) (rx : RelV (.ref a) v) (hs : s.heap.IsSliceOf sl vl vu .none) (pl : IsPart vl lo) (pu : IsPart vu hi)
    (q : ∀ H' v, Same H H' → DpF G.w G.K H' v (.list (cutL ds lo hi)) → Q v H') : ∃ T id, typeLookup (.type T) "__getitem__" = pure (some (.builtin id)) ∧ s.TypeIs v T ∧ wpAny (model X.prog X.w) X.A (getItem v (.ref sl)) (EP X pins σ Q) X.xe s := by
  have h := sl_list pins s σ H (.ref a) v vl vu lo hi sl (fun v' H' => ∃ p, v' = .ref p ∧ H p = none ∧ H' = upd H p (.lst (cutV xs lo hi))) I rx hs pl pu ⟨a, xs, rfl, sq, fun p hp => ⟨p, rfl, hp, rfl⟩⟩
  obtain ⟨T, id, h1, h2, h3⟩ := h
  refine ⟨T, id, h1, h2, thn h3 fun u s' ⟨v', H1, I1, rv, p, e1, hn, e2⟩ => ?_⟩
  subst e1 e2
  obtain ⟨H2, I2, sm, fz⟩ := lock_new (K := G.K) I1 hn
  exact ⟨_, H2, I2, rv, q _ _ sm (.lst fz ((cut_fs fs lo hi).mono (Pers.of sm)))⟩
def rSlA2 (G : Gl) : V → Option Int → Option Int → Hp → VK → Prop := fun x lo hi H Q => ∃ μ a S r, SimS G μ S H ∧ RelA G μ H a x ∧ slA a lo hi S = some r ∧ ∀ H' v, Same H H' → RelA G μ H' r v → Q v H'
theorem slD_ok {X : Cx} (hX : Here G X) {pins : List (Addr × Obj)} {s : Shared} {x : V} {v vl vu : Value} {lo hi : Option Int} {sl : Addr} {Q : VK} (I : L2.Inv X pins σ H s) (rx : RelV x v) (hs : s.heap.IsSliceOf sl vl vu .none) (pl : IsPart vl lo) (pu : IsPart vu hi) {d z : D}
    (hd : DpF G.w G.K H x d) (hz : slD d lo hi = some z) (q : ∀ H' v, Same H H' → DpF G.w G.K H' v z → Q v H') : ∃ T id, typeLookup (.type T) "__getitem__" = pure (some (.builtin id)) ∧ s.TypeIs v T ∧ wpAny (model X.prog X.w) X.A (getItem v (.ref sl)) (EP X pins σ Q) X.xe s := by
  cases hd with
  | @lst a xs ds ha ra =>
    cases hz
    exact lock_slice hX ra (by rw [hX.K]; exact ha.sq) I rx hs pl pu q
  | @tup a xs ds ha ra =>
    cases hz
    refine sl_tupA pins s σ H _ v vl vu lo hi sl Q I rx hs pl pu ⟨a, xs, rfl, by rw [hX.K]; exact ha, fun e => ?_, fun _ p hn => ?_⟩
    · have e2 : cutL ds lo hi = ds := by
        unfold cutL
        rw [← ra.length, e.1, e.2, ra.length]
        simp
      rw [e2] at q
      exact q H _ (Same.refl _) (.tup ha ra)
    · have sm := same_new (o := .tup (cutV xs lo hi)) hn
      exact q _ _ sm (.tup tup_new ((cut_fs ra lo hi).mono (Pers.of sm)))
  | _ => simp [slD] at hz
theorem sl_A {X : Cx} (hX : Here G X) : SlR X (rSlA2 G) := fun pins s σ H x v vl vu lo hi sl Q I rx hs pl pu ⟨μ, a, S, r, ss, ra, e, q⟩ => by
  unfold slA at e
  split at e
  · simp only [Option.map_eq_some_iff] at e
    obtain ⟨z, hz, rfl⟩ := e
    exact slD_ok hX I rx hs pl pu ra hz q
  · rename_i n
    obtain ⟨p, hp, rfl⟩ := ra
    split at e
    · rename_i xs hc
      simp only [Option.map_eq_some_iff] at e
      obtain ⟨ds, hds, rfl⟩ := e
      obtain ⟨p', hp', vs, h1, h2⟩ := ss.cells n _ hc
      rw [hp] at hp'; cases hp'
      exact lock_slice hX (pures_some hds h2) (.of h1) I rx hs pl pu q
    · rename_i d hc
      simp only [Option.map_eq_some_iff] at e
      obtain ⟨z, hz, rfl⟩ := e
      obtain ⟨p', hp', h1⟩ := ss.cells n _ hc
      rw [hp] at hp'; cases hp'
      exact slD_ok hX I rx hs pl pu h1 hz q
    · cases e
  · cases e
theorem r_slice {lo hi : Option Expr} {dl dh : DR (Option Int)} {p2 : Pos} (ha : Snd G sc N a da) (hl : SndO G sc N lo dl) (hh : SndO G sc N hi dh) : Snd G sc N (.Subscript a (.Slice lo hi none p2) pos) (dSl da dl dh) := fun X W st tk =>
  ⟨fun pins s σ H Q I q => (pe_slice (sl_A st.here) (ha X W st tk) (hl X W st tk) (hh X W st tk)).run pins s σ H Q I (by
    obtain ⟨μ, l, S, ss, sl, q⟩ := q
    refine ⟨μ, l, S, ss, sl, Aft.imp (Aft.bind (rel' := RelA G) q) fun x H1 _ ⟨a', μ1, S1, g1, s1, ra, h1⟩ => ?_⟩
    refine ⟨μ1, l, S1, s1, sl.grow g1, Aft.imp (Aft.bind (rel' := relO) h1) fun lo H2 _ ⟨lo', μ2, S2, g2, s2, e1, h2⟩ => ?_⟩
    refine ⟨μ2, l, S2, s2, (sl.grow g1).grow g2, Aft.imp (Aft.bind (rel' := relO) h2) fun hi H3 _ ⟨hi', μ3, S3, g3, s3, e2, h3⟩ => ?_⟩
    cases e1; cases e2
    unfold opt at h3
    split at h3
    · rename_i r e
      exact ⟨μ3, a', S3, r, s3, (ra.grow g2).grow g3, e, fun H' v sm rv => h3 μ3 H' v (Grow.same sm) (s3.same sm) rv⟩
    · exact h3.elim)⟩

/-! ### calls of built-ins, by values -/
def rAs (G : Gl) (f : List A → Store → Option A) : List V → Hp → VK → Prop := fun xs H Q => ∃ μ as S r, SimS G μ S H ∧ RelAs G μ H as xs ∧ f as S = some r ∧ ∀ H' v, Same H H' → RelA G μ H' r v → Q v H'
def CallS (G : Gl) (fv : Value) (f : List A → Store → Option A) : Prop := ∀ X, Here G X → CallR X fv (rAs G f)
def dCallB (f : List A → Store → Option A) (da : DR (List A)) : DE := fun l S => (da l S).bind fun xs S1 => opt (f xs S1) S1
theorem callB_read {f : List A → Store → Option A} {Q : VK} (h : tE G W (dCallB f das) σ H Q) : tCB (rAs G f) (tA G W das) σ H Q := by
  refine tR.imp (tR_one (rel1 := RelAs G) h) fun xs H1 ⟨μ, as, S, ss, ra, h1⟩ => ?_
  unfold opt at h1
  split at h1
  · rename_i r e
    exact ⟨μ, as, S, r, ss, ra, e, fun H' v sm rv => h1 μ H' v (Grow.same sm) (ss.same sm) rv⟩
  · exact h1.elim
/-- a name of the built-ins, seen in a scope -/
def glB (sc : Scope) (x : Str) : Bool := sc.names.lookup x == some .globalImplicit && !(x == ("__debug__" : Str)) && !(x == ("__name__" : Str))
theorem gl_of {sc : Scope} {x : Str} (h : glB sc x = true) : sc.names.lookup x = some .globalImplicit ∧ (x == ("__debug__" : Str)) = false ∧ x ≠ "__name__" := by
  unfold glB at h
  simp only [Bool.and_eq_true, beq_iff_eq, Bool.not_eq_true', beq_eq_false_iff_ne, ne_eq] at h
  exact ⟨h.1.1, by simpa using h.1.2, h.2⟩
theorem r_callB {f : List A → Store → Option A} {x : Str} {id : String} {p : Pos} (hc : CallS G (.builtin id) f) (hg : glB sc x = true) (hm : G.mg x = none) (hv : bootBuiltins x = some (.builtin id)) (ha : SndA G sc N (e :: es) das)
    (he : ∀ env, starEach (e :: es) env = (false, eval e env) :: starEach es env := by intro _; rfl) (hpl : ∀ env, (backTo pos (starEach es env)).any (·.1) = false := by intro _; rfl) : Snd G sc N (.Call (.Name x p) (e :: es) [] pos) (dCallB f das) := fun X W st tk => by
  obtain ⟨g1, g2, g3⟩ := gl_of hg
  exact ⟨fun pins s σ H Q I q => (pe_callB (hc X st.here) (show X.env.scope.names.lookup x = _ by rw [st.scope]; exact g1) (by rw [st.mg]; exact hm) hv (ha X W st tk) g3 g2 (he X.env) (hpl X.env)).run pins s σ H Q I (callB_read q)⟩
theorem r_callT {f : List A → Store → Option A} {x : Str} {T : String} {p : Pos} (hc : CallS G (.type T) f) (hg : glB sc x = true) (hm : G.mg x = none) (hv : bootBuiltins x = some (.type T)) (ha : SndA G sc N (e :: es) das)
    (he : ∀ env, starEach (e :: es) env = (false, eval e env) :: starEach es env := by intro _; rfl) (hpl : ∀ env, (backTo pos (starEach es env)).any (·.1) = false := by intro _; rfl) : Snd G sc N (.Call (.Name x p) (e :: es) [] pos) (dCallB f das) := fun X W st tk => by
  obtain ⟨g1, g2, g3⟩ := gl_of hg
  exact ⟨fun pins s σ H Q I q => (pe_callTy (hc X st.here) (show X.env.scope.names.lookup x = _ by rw [st.scope]; exact g1) (by rw [st.mg]; exact hm) hv (ha X W st tk) g3 g2 (he X.env) (hpl X.env)).run pins s σ H Q I (callB_read q)⟩
end
end Ev

/-! Ev5: what the built-ins do. -/
namespace Ev
open PySem PySem.Spec PyProof.Rows L2

def intsOf : List D → Option (List Int)
  | [] => some []
  | .int i :: r => (intsOf r).map (i :: ·)
  | _ :: _ => none
@[simp] theorem intsOf_map (ns : List Int) : intsOf (ns.map PyData.int) = some ns := by
  induction ns with
  | nil => rfl
  | cons n ns ih => simp [intsOf, ih]
theorem intsOf_some : ∀ {ds : List D} {ns : List Int}, intsOf ds = some ns → ds = ns.map PyData.int
  | [], ns, e => by simp [intsOf] at e; subst e; rfl
  | d :: ds, ns, e => by
    cases d with
    | int i =>
      simp only [intsOf, Option.map_eq_some_iff] at e
      obtain ⟨r, e', rfl⟩ := e
      rw [intsOf_some e']; rfl
    | _ => simp [intsOf] at e
theorem fs_ints {w : World} {K : PySem.W.Frag} {H : Hp} : ∀ {ns : List Int} {vs : List V}, DpFs w K H vs (ns.map PyData.int) → vs = ns.map V.int
  | [], _, h => by cases h; rfl
  | n :: ns, _, h => by
    cases h with
    | cons a b => cases a; rw [fs_ints b]; rfl
section
variable {G : Gl}
theorem RelAs.one {μ : List Addr} {H : Hp} {a : A} {vs : List V} (h : RelAs G μ H [a] vs) : ∃ v, vs = [v] ∧ RelA G μ H a v := by
  cases h with | cons r t => cases t; exact ⟨_, rfl, r⟩
theorem RelAs.two {μ : List Addr} {H : Hp} {a b : A} {vs : List V} (h : RelAs G μ H [a, b] vs) : ∃ v u, vs = [v, u] ∧ RelA G μ H a v ∧ RelA G μ H b u := by
  cases h with | cons r t => cases t with | cons r2 t2 => cases t2; exact ⟨_, _, rfl, r, r2⟩
/-- one plain argument -/
def pf1 (g : D → Option D) : List A → Store → Option A := fun xs _ => match xs with
  | [.d x] => (g x).map .d
  | _ => none
def pf2 (g : D → D → Option D) : List A → Store → Option A := fun xs _ => match xs with
  | [.d x, .d y] => (g x y).map .d
  | _ => none
theorem call1 {fv : Value} {g : D → Option D} (h : ∀ X, Here G X → CallR X fv (fun xs H Q => ∃ x d z, xs = [x] ∧ DpF G.w G.K H x d ∧ g d = some z ∧ ∀ H' v, Same H H' → DpF G.w G.K H' v z → Q v H')) : CallS G fv (pf1 g) := fun X hX pins s σ H xs us Q I r ⟨μ, as, S, rr, ss, ra, e, q⟩ => by
  unfold pf1 at e
  split at e
  · rename_i x
    simp only [Option.map_eq_some_iff] at e
    obtain ⟨z, hz, rfl⟩ := e
    obtain ⟨v, rfl, rv⟩ := ra.one
    exact h X hX pins s σ H _ us Q I r ⟨v, x, z, rfl, rv, hz, q⟩
  · cases e
theorem call2 {fv : Value} {g : D → D → Option D} (h : ∀ X, Here G X → CallR X fv (fun xs H Q => ∃ x y d e z, xs = [x, y] ∧ DpF G.w G.K H x d ∧ DpF G.w G.K H y e ∧ g d e = some z ∧ ∀ H' v, Same H H' → DpF G.w G.K H' v z → Q v H')) : CallS G fv (pf2 g) := fun X hX pins s σ H xs us Q I r ⟨μ, as, S, rr, ss, ra, e, q⟩ => by
  unfold pf2 at e
  split at e
  · rename_i x y
    simp only [Option.map_eq_some_iff] at e
    obtain ⟨z, hz, rfl⟩ := e
    obtain ⟨v, u, rfl, rv, ru⟩ := ra.two
    exact h X hX pins s σ H _ us Q I r ⟨v, u, x, y, z, rfl, rv, ru, hz, q⟩
  · cases e
/-- len of a text, a list, a tuple, a list of the store's -/
def lenD : D → Option D
  | .str z => if z.length ≤ 16777216 then some (.int z.length) else none
  | .list xs => some (.int xs.length)
  | .tuple xs => some (.int xs.length)
  | .dict kvs => some (.int kvs.length)
  | _ => none
def absD : D → Option D
  | .int i => some (.int (if i < 0 then -i else i))
  | _ => none
theorem call_absD : CallS G (.builtin "abs") (pf1 absD) := call1 fun X hX pins s σ H xs us Q I r ⟨x, d, z, e, hd, hz, q⟩ => by
  cases d with
  | int i => cases hd; cases hz; exact call_abs pins s σ H xs us Q I r ⟨i, e, q H _ (Same.refl _) (.int _)⟩
  | _ => simp [absD] at hz
def max2D : D → D → Option D
  | .int i, .int j => some (.int (if j > i then j else i))
  | _, _ => none
def min2D : D → D → Option D
  | .int i, .int j => some (.int (if j < i then j else i))
  | _, _ => none
theorem call_max2D : CallS G (.builtin "max") (pf2 max2D) := call2 fun X hX pins s σ H xs us Q I r ⟨x, y, d, e, z, e0, hd, he, hz, q⟩ => by
  cases d with
  | int i =>
    cases e with
    | int j => cases hd; cases he; cases hz; exact call_max2 hX.calm pins s σ H xs us Q I r ⟨i, j, e0, q H _ (Same.refl _) (.int _)⟩
    | _ => simp [max2D] at hz
  | _ => simp [max2D] at hz
theorem call_min2D : CallS G (.builtin "min") (pf2 min2D) := call2 fun X hX pins s σ H xs us Q I r ⟨x, y, d, e, z, e0, hd, he, hz, q⟩ => by
  cases d with
  | int i =>
    cases e with
    | int j => cases hd; cases he; cases hz; exact call_min2 hX.calm pins s σ H xs us Q I r ⟨i, j, e0, q H _ (Same.refl _) (.int _)⟩
    | _ => simp [min2D] at hz
  | _ => simp [min2D] at hz
/-- int(x) of an int or a bool -/
def intD : D → Option D
  | .int i => some (.int i)
  | .bool k => some (.int (if k then 1 else 0))
  | _ => none
theorem call_intD : CallS G (.type "int") (pf1 intD) := call1 fun X hX pins s σ H xs us Q I r ⟨x, d, z, e, hd, hz, q⟩ => by
  cases d with
  | int i => cases hd; cases hz; exact call_int1 pins s σ H xs us Q I r (.inl ⟨i, e, q H _ (Same.refl _) (.int _)⟩)
  | bool k => cases hd; cases hz; exact call_int1 pins s σ H xs us Q I r (.inr ⟨k, e, q H _ (Same.refl _) (.int _)⟩)
  | _ => simp [intD] at hz
/-- sum, max, min of a list or tuple of ints -/
def sumD : D → Option D
  | .list xs => (intsOf xs).map fun ns => .int ns.sum
  | _ => none
def foldI (f : Int → Int → Int) : List Int → Option D
  | [] => none
  | n :: ns => some (.int (ns.foldl f n))
def max1D : D → Option D
  | .list xs => (intsOf xs).bind (foldI max)
  | .tuple xs => (intsOf xs).bind (foldI max)
  | _ => none
def min1D : D → Option D
  | .list xs => (intsOf xs).bind (foldI min)
  | .tuple xs => (intsOf xs).bind (foldI min)
  | _ => none
theorem call_sumD : CallS G (.builtin "sum") (pf1 sumD) := call1 fun X hX pins s σ H xs us Q I r ⟨x, d, z, e, hd, hz, q⟩ => by
  cases hd with
  | @lst a vs ds ha ra =>
    simp only [sumD, Option.map_eq_some_iff] at hz
    obtain ⟨ns, hn, rfl⟩ := hz
    have e2 := intsOf_some hn
    subst e2
    exact cr_sum hX.calm pins s σ H xs us Q I r ⟨a, ns, e, by rw [hX.K]; rw [← fs_ints ra]; exact ha.sq, q H _ (Same.refl _) (.int _)⟩
  | _ => simp [sumD] at hz
theorem foldl_max_mem : ∀ (n : Int) (ns : List Int), (ns.foldl max n ∈ n :: ns) ∧ ∀ y ∈ n :: ns, y ≤ ns.foldl max n
  | n, [] => by simp
  | n, m :: ns => by
    obtain ⟨h1, h2⟩ := foldl_max_mem (max n m) ns
    refine ⟨?_, fun y hy => ?_⟩
    · rcases List.mem_cons.mp h1 with h | h
      · show ns.foldl max (max n m) ∈ _
        rw [h]
        by_cases q : n ≤ m
        · rw [Int.max_eq_right q]; simp
        · rw [Int.max_eq_left (by omega)]; simp
      · exact List.mem_cons_of_mem _ (List.mem_cons_of_mem _ h)
    · have h3 := h2 (max n m) List.mem_cons_self
      rcases List.mem_cons.mp hy with rfl | hy
      · exact Int.le_trans (Int.le_max_left _ _) h3
      · rcases List.mem_cons.mp hy with rfl | hy
        · exact Int.le_trans (Int.le_max_right _ _) h3
        · exact h2 y (List.mem_cons_of_mem _ hy)
theorem foldl_min_mem : ∀ (n : Int) (ns : List Int), (ns.foldl min n ∈ n :: ns) ∧ ∀ y ∈ n :: ns, ns.foldl min n ≤ y
  | n, [] => by simp
  | n, m :: ns => by
    obtain ⟨h1, h2⟩ := foldl_min_mem (min n m) ns
    refine ⟨?_, fun y hy => ?_⟩
    · rcases List.mem_cons.mp h1 with h | h
      · show ns.foldl min (min n m) ∈ _
        rw [h]
        by_cases q : n ≤ m
        · rw [Int.min_eq_left q]; simp
        · rw [Int.min_eq_right (by omega)]; simp
      · exact List.mem_cons_of_mem _ (List.mem_cons_of_mem _ h)
    · have h3 := h2 (min n m) List.mem_cons_self
      rcases List.mem_cons.mp hy with rfl | hy
      · exact Int.le_trans h3 (Int.min_le_left _ _)
      · rcases List.mem_cons.mp hy with rfl | hy
        · exact Int.le_trans h3 (Int.min_le_right _ _)
        · exact h2 y (List.mem_cons_of_mem _ hy)
theorem alike_ints (ns : List Int) : PySem.W.AlikeAll (ns.map PyData.int) := by
  refine ⟨fun x hx y hy => ?_, fun x hx => ?_⟩
  · obtain ⟨i, _, rfl⟩ := List.mem_map.mp hx
    obtain ⟨j, _, rfl⟩ := List.mem_map.mp hy
    rfl
  · obtain ⟨i, _, rfl⟩ := List.mem_map.mp hx
    exact fun z => nomatch z
theorem depth_ints : ∀ ns : List Int, PyData.depthAll (ns.map PyData.int) = 0
  | [] => rfl
  | n :: ns => by rw [List.map_cons, PyData.depthAll, depth_ints ns]; rfl
theorem dp_ints {w : World} {K : PySem.W.Frag} {H : Hp} (ns : List Int) : DpAll K H (ns.map V.int) (ns.map PyData.int) := by
  induction ns with
  | nil => exact .nil
  | cons n ns ih => exact .cons (.int n) ih
theorem tuple_ints {X : Cx} (hX : Here G X) {pins : List (Addr × Obj)} {s : Shared} {σ : L2.St} {H : Hp} {a : Addr} {vs : List V} {n : Int} {ns : List Int} (I : L2.Inv X pins σ H s) (ha : SqT G.K H a vs) (ra : DpFs G.w G.K H vs ((n :: ns).map PyData.int)) :
    ∃ its : List Value, s.heap.IsTuple a its.toArray ∧ ∃ as, ReadsAll s.heap its (.int n :: ns.map PyData.int) as := by
  have e := fs_ints ra
  subst e
  obtain ⟨its, rv, ht, _⟩ := I.tuple (by rw [hX.K]; exact ha)
  obtain ⟨as, h⟩ := Dp.readsAll I _ _ its (dp_ints (w := G.w) (K := X.K) (H := H) (n :: ns)) rv
  exact ⟨its, ht, as, h⟩
theorem u1 {X : Cx} (hX : Here G X) (n : Int) (ns : List Int) : X.A.units + 1 + PyData.depthAll (.int n :: ns.map PyData.int) < cLine := by
  have h : PyData.depthAll (.int n :: ns.map PyData.int) = 0 := depth_ints (n :: ns)
  rw [h]
  have := hX.room.un
  omega
theorem call_max1D : CallS G (.builtin "max") (pf1 max1D) := call1 fun X hX pins s σ H xs us Q I r ⟨x, d, z, e, hd, hz, q⟩ => by
  cases hd with
  | @lst a vs ds ha ra =>
    simp only [max1D, Option.bind_eq_some_iff] at hz
    obtain ⟨ns, hn, hf⟩ := hz
    have e2 := intsOf_some hn
    subst e2
    cases ns with
    | nil => cases hf
    | cons n ns =>
      cases hf
      obtain ⟨m1, m2⟩ := foldl_max_mem n ns
      refine cr_max hX.calm pins s σ H xs us Q I r ⟨a, n :: ns, e, by rw [hX.K]; rw [← fs_ints ra]; exact ha.sq, by simp, fun m h1 h2 => ?_⟩
      have : m = ns.foldl max n := Int.le_antisymm (m2 m h1) (h2 _ m1)
      subst this
      exact q H _ (Same.refl _) (.int _)
  | @tup a vs ds ha ra =>
    simp only [max1D, Option.bind_eq_some_iff] at hz
    obtain ⟨ns, hn, hf⟩ := hz
    have e2 := intsOf_some hn
    subst e2
    cases ns with
    | nil => cases hf
    | cons n ns =>
      cases hf
      subst e
      obtain ⟨u, rfl, ru⟩ := vals1 r
      cases ru
      obtain ⟨its, ht, as, hr⟩ := tuple_ints hX I ha ra
      refine PySem.W.max_tuple_data (I.ok.hd hX.calm) ht (by simpa using hr) (alike_ints (n :: ns)) (u1 hX n ns) fun i v h' tk bs _ rd k => ?_
      rw [PySem.W.maxD_ints] at rd
      cases rd
      exact ⟨.int _, H, I.kept k, ⟨_, rfl⟩, q H _ (Same.refl _) (.int _)⟩
  | _ => simp [max1D] at hz
theorem call_min1D : CallS G (.builtin "min") (pf1 min1D) := call1 fun X hX pins s σ H xs us Q I r ⟨x, d, z, e, hd, hz, q⟩ => by
  cases hd with
  | @lst a vs ds ha ra =>
    simp only [min1D, Option.bind_eq_some_iff] at hz
    obtain ⟨ns, hn, hf⟩ := hz
    have e2 := intsOf_some hn
    subst e2
    cases ns with
    | nil => cases hf
    | cons n ns =>
      cases hf
      obtain ⟨m1, m2⟩ := foldl_min_mem n ns
      refine cr_min hX.calm pins s σ H xs us Q I r ⟨a, n :: ns, e, by rw [hX.K]; rw [← fs_ints ra]; exact ha.sq, by simp, fun m h1 h2 => ?_⟩
      have : m = ns.foldl min n := Int.le_antisymm (h2 _ m1) (m2 m h1)
      subst this
      exact q H _ (Same.refl _) (.int _)
  | @tup a vs ds ha ra =>
    simp only [min1D, Option.bind_eq_some_iff] at hz
    obtain ⟨ns, hn, hf⟩ := hz
    have e2 := intsOf_some hn
    subst e2
    cases ns with
    | nil => cases hf
    | cons n ns =>
      cases hf
      subst e
      obtain ⟨u, rfl, ru⟩ := vals1 r
      cases ru
      obtain ⟨its, ht, as, hr⟩ := tuple_ints hX I ha ra
      refine PySem.W.min_tuple_data (I.ok.hd hX.calm) ht (by simpa using hr) (alike_ints (n :: ns)) (u1 hX n ns) fun i v h' tk bs _ rd k => ?_
      rw [PySem.W.minD_ints] at rd
      cases rd
      exact ⟨.int _, H, I.kept k, ⟨_, rfl⟩, q H _ (Same.refl _) (.int _)⟩
  | _ => simp [min1D] at hz

/-! ### list(x), tuple(x) of lists and tuples -/
def listD : D → Option D
  | .list xs => some (.list xs)
  | .tuple xs => some (.list xs)
  | _ => none
def tupleD : D → Option D
  | .list xs => some (.tuple xs)
  | .tuple xs => some (.tuple xs)
  | _ => none
theorem ghost_call {X : Cx} {fv : Value} {r r' : List V → Hp → VK → Prop} (h : CallR X fv r) (g : ∀ (pins : List (Addr × Obj)) (s : Shared) (σ : L2.St) (xs : List V) (H : Hp) (Q : VK), r' xs H Q → r xs H fun v H1 => ∀ s', L2.Inv X pins σ H1 s' → ∃ H2, L2.Inv X pins σ H2 s' ∧ Q v H2) : CallR X fv r' :=
  fun pins s σ H xs us Q I rv q => thn (h pins s σ H xs us _ I rv (g pins s σ xs H Q q)) fun u s' ⟨v, H1, I1, rv, z⟩ => let ⟨H2, I2, q2⟩ := z s' I1; ⟨v, H2, I2, rv, q2⟩
theorem call_listD : CallS G (.type "list") (pf1 listD) := call1 fun X hX => ghost_call call_list_of fun pins s σ xs H Q ⟨x, d, z, e, hd, hz, q⟩ => by
  have go : ∀ {a : Addr} {vs : List V} {ds : List D}, x = .ref a → (SqL X.K H a vs ∨ SqT X.K H a vs) → DpFs G.w G.K H vs ds → z = .list ds → ∃ p ys, xs = [.ref p] ∧ (SqL X.K H p ys ∨ SqT X.K H p ys) ∧ ∀ l, H l = none → ∀ s', L2.Inv X pins σ (upd H l (.lst ys)) s' → ∃ H2, L2.Inv X pins σ H2 s' ∧ Q (.ref l) H2 := fun {a vs ds} e1 sq ra ez => by
    subst e1 ez
    refine ⟨a, vs, e, sq, fun l hn s' I' => ?_⟩
    obtain ⟨H2, I2, sm, fz⟩ := lock_new (K := G.K) I' hn
    exact ⟨H2, I2, q _ _ sm (.lst fz (ra.mono (Pers.of sm)))⟩
  cases hd with
  | lst ha ra => cases hz; exact go rfl (.inl (by rw [hX.K]; exact ha.sq)) ra rfl
  | tup ha ra => cases hz; exact go rfl (.inr (by rw [hX.K]; exact ha)) ra rfl
  | _ => simp [listD] at hz
theorem call_tupleD : CallS G (.type "tuple") (pf1 tupleD) := call1 fun X hX pins s σ H xs us Q I r ⟨x, d, z, e, hd, hz, q⟩ => by
  cases hd with
  | @lst a vs ds ha ra =>
    cases hz
    refine call_tuple_of pins s σ H xs us Q I r ⟨a, vs, e, .inl ⟨by rw [hX.K]; exact ha.sq, fun l hn => ?_⟩⟩
    have sm := same_new (o := .tup vs) hn
    exact q _ _ sm (.tup tup_new (ra.mono (Pers.of sm)))
  | @tup a vs ds ha ra =>
    cases hz
    exact call_tuple_of pins s σ H xs us Q I r ⟨a, vs, e, .inr ⟨by rw [hX.K]; exact ha, q H _ (Same.refl _) (.tup ha ra)⟩⟩
  | _ => simp [tupleD] at hz

/-! ### isinstance -/
def tyName : D → String
  | .none => "NoneType"
  | .bool _ => "bool"
  | .int _ => "int"
  | .str _ => "str"
  | .list _ => "list"
  | .tuple _ => "tuple"
  | .dict _ => "dict"
def isI (T : String) (d : D) : Option D := if (T == "bool" || T == "int" || T == "str" || T == "list" || T == "tuple") && !(tyName d == "dict") then some (.bool (tyName d == T || (T == "int" && tyName d == "bool"))) else none
theorem kit_all : ∀ T ∈ (["bool", "int", "str", "list", "tuple"] : List String), ∀ n ∈ (["NoneType", "bool", "int", "str", "list", "tuple"] : List String), kitB n T = some (n == T || (T == "int" && n == "bool")) := by decide +kernel
theorem call_isI {X : Cx} (hX : Here G X) {T : String} : CallR X (.builtin "isinstance") (fun xs H Q => ∃ x d z, xs = [x, .ty T] ∧ DpF G.w G.K H x d ∧ isI T d = some z ∧ ∀ H' v, Same H H' → DpF G.w G.K H' v z → Q v H') := fun pins s σ H xs us Q I r ⟨x, d, z, e, hd, hz, q⟩ => by
  unfold isI at hz
  split at hz
  · rename_i hc
    cases hz
    simp only [Bool.and_eq_true, Bool.or_eq_true, beq_iff_eq, Bool.not_eq_true', beq_eq_false_iff_ne] at hc
    have hT : T ∈ (["bool", "int", "str", "list", "tuple"] : List String) := by
      rcases hc.1 with (((h | h) | h) | h) | h <;> subst h <;> decide
    have fin : ∀ n, tyName d = n → n ∈ (["NoneType", "bool", "int", "str", "list", "tuple"] : List String) → TyX X.K H x (.type n) → wpAny (model X.prog X.w) X.A (call (.builtin "isinstance") us) (EP X pins σ Q) X.xe s := fun n en hn ty => by
      refine call_isi pins s σ H xs us Q I r ⟨x, .ty T, .type n, .type T, _, e, .ty T, ty, kit_ty (kit_all T hT n hn), ?_⟩
      rw [en] at q
      exact q H _ (Same.refl _) (.bl _)
    cases hd with
    | non => exact fin _ rfl (by simp [tyName]) (.base .non)
    | bl b => exact fin _ rfl (by simp [tyName]) (.base (.bl b))
    | int i => exact fin _ rfl (by simp [tyName]) (.base (.int i))
    | str x => exact fin _ rfl (by simp [tyName]) (.base (.str x))
    | @lst a vs ds ha ra =>
      refine fin _ rfl (by simp [tyName]) ?_
      rcases ha with ⟨o, h⟩ | ⟨o, its, n, hk, hc, _⟩
      · exact .base (.frz h)
      · exact .kList (by rw [hX.K]; exact hk) hc
    | @tup a vs ds ha ra =>
      refine fin _ rfl (by simp [tyName]) ?_
      rcases ha with (h | ⟨o, h⟩) | ⟨o, its, n, hk, hc, _⟩
      · exact .base (.tup h)
      · exact .fTuple h
      · exact .kTuple (by rw [hX.K]; exact hk) hc
    | dic => exact absurd rfl hc.2
  · cases hz
def dIsI (T : String) (da : DE) : DE := dOp1 (pu1 (isI T)) da
variable {sc : Scope} {N : List Str} {e : Expr} {da : DE}
theorem r_isI {T : String} {x : Str} {p p2 pos : Pos} (hT : bootBuiltins x = some (.type T)) (hg : glB sc "isinstance" = true) (hg2 : glB sc x = true) (hm : G.mg "isinstance" = none) (hm2 : G.mg x = none) (ha : Snd G sc N e da)
    (he : ∀ env, starEach (e :: [.Name x p2]) env = (false, eval e env) :: starEach [.Name x p2] env := by intro _; rfl) : Snd G sc N (.Call (.Name "isinstance" p) [e, .Name x p2] [] pos) (dIsI T da) := fun X W st tk => by
  obtain ⟨g1, g2, g3⟩ := gl_of hg
  obtain ⟨k1, k2, k3⟩ := gl_of hg2
  have hb : PE X (.Name x p2) (tC (.ty T)) := pe_bltn (show X.env.scope.names.lookup x = _ by rw [st.scope]; exact k1) (by rw [st.mg]; exact hm2) hT rfl k3 k2
  exact ⟨fun pins s σ H Q I q => (pe_callB (call_isI st.here (T := T)) (show X.env.scope.names.lookup _ = _ by rw [st.scope]; exact g1) (by rw [st.mg]; exact hm) (by decide +kernel) (pa_cons (ha X W st tk) (pa_cons hb pa_nil) (he X.env)) g3 g2 (he X.env)).run pins s σ H Q I (tR.imp (op1_read q) fun x H1 ⟨μ, a, S, r, ss, ra, e, h⟩ => by
    cases a with
    | d d =>
      simp only [pu1, Option.map_eq_some_iff] at e
      obtain ⟨z, hz, rfl⟩ := e
      exact ⟨x, d, z, rfl, ra, hz, h⟩
    | _ => simp [pu1] at e)⟩

/-! ### list(range(..)) -/
def rgL (a b : Int) : List Int := (List.range (b - a).toNat).map fun i => a + (i : Nat)
def rgOk (a b : Int) : Bool := decide (-16777216 ≤ a) && decide (a ≤ 16777216) && decide (-16777216 ≤ b) && decide (b ≤ 16777216) && decide ((b - a).toNat ≤ 16777216)
def rgD1 : D → Option D
  | .int n => if rgOk 0 n = true then some (.list ((rgL 0 n).map .int)) else none
  | _ => none
def rgD2 : D → D → Option D
  | .int a, .int b => if rgOk a b = true then some (.list ((rgL a b).map .int)) else none
  | _, _ => none
theorem rg_fs {w : World} {K : PySem.W.Frag} {H : Hp} (a b : Int) : DpFs w K H (rgV a b) ((rgL a b).map PyData.int) := by
  unfold rgV rgL
  rw [List.map_map]
  induction List.range (b - a).toNat with
  | nil => exact .nil
  | cons i l ih => exact .cons (.int _) ih
theorem rg_lock {X : Cx} {a b : Int} (h : rgOk a b = true) {H : Hp} {Q : VK} {pins : List (Addr × Obj)} {σ : L2.St} (q : ∀ H' v, Same H H' → DpF G.w G.K H' v (.list ((rgL a b).map PyData.int)) → Q v H') :
    RgOk a b ∧ ∀ p, H p = none → ∀ s', L2.Inv X pins σ (upd H p (.lst (rgV a b))) s' → ∃ H2, L2.Inv X pins σ H2 s' ∧ Q (.ref p) H2 := by
  simp only [rgOk, Bool.and_eq_true, decide_eq_true_eq] at h
  refine ⟨⟨by omega, by omega, by omega, by omega, by omega⟩, fun p hn s' I' => ?_⟩
  obtain ⟨H2, I2, sm, fz⟩ := lock_new (K := G.K) I' hn
  exact ⟨H2, I2, q _ _ sm (.lst fz (rg_fs a b))⟩
theorem r_listRg1 {p1 p2 pos pos2 : Pos} (hg : glB sc "list" = true) (hg2 : glB sc "range" = true) (hm : G.mg "list" = none) (hm2 : G.mg "range" = none) (ha : Snd G sc N e da)
    (he : ∀ env, starEach [e] env = (false, eval e env) :: starEach [] env := by intro _; rfl) : Snd G sc N (.Call (.Name "list" p1) [.Call (.Name "range" p2) [e] [] pos2] [] pos) (dOp1 (pu1 rgD1) da) := fun X W st tk => by
  obtain ⟨g1, g2, g3⟩ := gl_of hg
  obtain ⟨k1, k2, k3⟩ := gl_of hg2
  refine PE_ghost (pe_listRg st.calm (show X.env.scope.names.lookup _ = _ by rw [st.scope]; exact g1) (by rw [st.mg]; exact hm) (prg_1 (show X.env.scope.names.lookup _ = _ by rw [st.scope]; exact k1) (by rw [st.mg]; exact hm2) (ha X W st tk) (he X.env))) fun pins s σ H Q q => tR.imp (op1_read q) fun x H1 ⟨μ, a, S, r, ss, ra, e, h⟩ => ?_
  cases a with
  | d d =>
    simp only [pu1, Option.map_eq_some_iff] at e
    obtain ⟨z, hz, rfl⟩ := e
    cases d with
    | int n =>
      simp only [rgD1, Option.ite_none_right_eq_some, Option.some.injEq] at hz
      obtain ⟨hc, rfl⟩ := hz
      cases ra
      exact ⟨n, rfl, rg_lock hc h⟩
    | _ => simp [rgD1] at hz
  | _ => simp [pu1] at e
theorem r_listRg2 {e2 : Expr} {db : DE} {p1 p2 pos pos2 : Pos} (hg : glB sc "list" = true) (hg2 : glB sc "range" = true) (hm : G.mg "list" = none) (hm2 : G.mg "range" = none) (ha : Snd G sc N e da) (hb : Snd G sc N e2 db)
    (he : ∀ env, starEach [e, e2] env = (false, eval e env) :: starEach [e2] env := by intro _; rfl) (he2 : ∀ env, starEach [e2] env = (false, eval e2 env) :: starEach [] env := by intro _; rfl) (hp : ∀ env, (backTo pos2 (starEach [e2] env)).any (·.1) = false := by intro _; rfl) :
    Snd G sc N (.Call (.Name "list" p1) [.Call (.Name "range" p2) [e, e2] [] pos2] [] pos) (dOp2 (pu2 rgD2) da db) := fun X W st tk => by
  obtain ⟨g1, g2, g3⟩ := gl_of hg
  obtain ⟨k1, k2, k3⟩ := gl_of hg2
  refine PE_ghost (pe_listRg st.calm (show X.env.scope.names.lookup _ = _ by rw [st.scope]; exact g1) (by rw [st.mg]; exact hm) (prg_2 (show X.env.scope.names.lookup _ = _ by rw [st.scope]; exact k1) (by rw [st.mg]; exact hm2) (ha X W st tk) (hb X W st tk) (he X.env) (he2 X.env) (hp X.env))) fun pins s σ H Q q => tR.imp (op2_read q) fun x H1 h1 => tR.imp h1 fun y H2 q2 => ?_
  obtain ⟨d, e, z, hd, he, hz, h⟩ := rA2_pure q2
  cases hd with
  | int a =>
    cases he with
    | int b =>
      simp only [rgD2, Option.ite_none_right_eq_some, Option.some.injEq] at hz
      obtain ⟨hc, rfl⟩ := hz
      exact ⟨a, b, rfl, rfl, rg_lock hc h⟩
    | _ => simp [rgD2] at hz
  | _ => cases he <;> simp [rgD2] at hz
end
end Ev

/-! Ev6: calls of the text's own defs, methods, classes; attributes; statements. -/
namespace Ev
open PySem PySem.Spec PyProof.Rows L2

/-! ### what a def promises: its denotation's result -/
def spOf (G : Gl) (F : Fns) (f : Nat) : Sp := fun vs H Q E => vs.length = (G.ps f).length ∧ ∃ μ as S, SimS G μ S H ∧ RelAs G μ H as vs ∧ Aft G E (RelA G) μ H (F f as S) Q
abbrev CXG (G : Gl) : CXT := L2.CX G.P G.w
def FnG (G : Gl) (k : Nat) (F : Fns) (f : Nat) : Prop := FnOk G.P G.w G.K G.mg G.base (CXG G) k (G.fa f) (G.fd f) (G.ps f) (spOf G F f)
/-- a def that stands: its promise, how it is bound -/
structure FnIs (G : Gl) (f : Nat) : Prop where
  ok : FnG G G.k G.F f
  binds : Binds G.K (G.fd f) (G.ps f) []
  kp : PySem.W.keepIn G.K (.ref (G.fa f)) = true
/-- a class that stands: its attributes' names, its methods -/
structure ClsIs (G : Gl) (c : Nat) (fl : List Str) : Prop where
  cls : Cls G.K (G.ca c)
  no : ∀ f ∈ fl, NoAttr G.K (G.ca c) f

section
variable {G : Gl} {sc : Scope} {N : List Str} {pos p apos : Pos} {e o : Expr} {es : List Expr} {da de : DE} {das : DR (List A)} {x m : Str}
theorem wx_pass {X : Cx} {W : WX} (h : Here G X) (tk : Takes X W) (σ : L2.St) : PassesAt (CXG G) X σ (WE W σ) := by
  have := passAt tk σ
  rw [h.prog, h.w] at this
  exact this
theorem call_run {f : Nat} {X : Cx} {W : WX} (hf : FnIs G f) {pins : List (Addr × Obj)} {σ : L2.St} {H : Hp} {s : Shared} {Q : VK} {us : List Value} {vs : List V} (st : Stat G sc N X) (tk : Takes X W) (I : L2.Inv X pins σ H s) (r : Vals vs us)
    (h : spOf G G.F f vs H Q (fun c dd H' => W c dd σ H')) : wpAny (model X.prog X.w) X.A (call (.ref (G.fa f)) us) (EP X pins σ Q) X.xe s := by
  have F := hf.ok
  unfold FnG at F
  rw [← st.prog, ← st.w, ← st.K, ← st.mg, ← st.base] at F
  exact run_fnS (E := WE W) F st.room (by rw [st.K]; exact hf.binds) (wx_pass st.here tk σ) I r h
def dCall (F : Fns) (f : Nat) (das : DR (List A)) : DE := fun l S => (das l S).bind fun as S1 => F f as S1
theorem call_read {f : Nat} {W : WX} {σ : L2.St} {H : Hp} {Q : VK} {F : Fns} (hl : ∀ as S, F f as S = .no ∨ as.length = (G.ps f).length) (h : tE G W (dCall F f das) σ H Q) : tA G W das σ H fun vs H1 => spOf G F f vs H1 Q (fun c dd H' => W c dd σ H') := by
  refine tR.imp (tR_one (rel1 := RelAs G) h) fun vs H1 ⟨μ, as, S, ss, ra, h1⟩ => ?_
  rcases hl as S with e | e
  · rw [e] at h1; exact h1.elim
  · exact ⟨by rw [← Paired.length ra]; exact e, μ, as, S, ss, ra, h1⟩
/-- a def's denotation is nothing for a wrong number of arguments -/
def FnLen (G : Gl) (f : Nat) : Prop := ∀ as S, G.F f as S = .no ∨ as.length = (G.ps f).length
theorem r_call {f : Nat} (hf : FnIs G f) (hl : FnLen G f) (hg : glB sc x = true) (hm : G.mg x = some (.ref (G.fa f))) (ha : SndA G sc N (e :: es) das)
    (he : ∀ env, starEach (e :: es) env = (false, eval e env) :: starEach es env := by intro _; rfl) (hpl : ∀ env, (backTo pos (starEach es env)).any (·.1) = false := by intro _; rfl) : Snd G sc N (.Call (.Name x p) (e :: es) [] pos) (dCall G.F f das) := fun X W st tk => by
  obtain ⟨g1, g2, g3⟩ := gl_of hg
  refine ⟨fun pins s σ H Q I q => ?_⟩
  refine wpAny_Call_Name_kw (ld_glob I (show X.env.scope.names.lookup x = _ by rw [st.scope]; exact g1) (by rw [st.mg]; exact hm) ?_ g2)
  refine PySem.W.callWith_K (h₀ := X.base) I.ok.mod.kin (by rw [st.K]; exact hf.kp) (thn ((ha X W st tk).run pos pins s σ H _ I (call_read hl q)) fun us s1 ⟨vs, H1, I1, r, q1⟩ => ⟨I1.kIn, ?_⟩) (he X.env) (hpl X.env)
  exact call_run hf st tk I1 r q1
theorem r_call0 {f : Nat} (hf : FnIs G f) (hl : FnLen G f) (hg : glB sc x = true) (hm : G.mg x = some (.ref (G.fa f))) : Snd G sc N (.Call (.Name x p) [] [] pos) (dCall G.F f dNil) := fun X W st tk => by
  obtain ⟨g1, g2, g3⟩ := gl_of hg
  refine ⟨fun pins s σ H Q I q => ?_⟩
  refine wpAny_Call_Name_kw (ld_glob I (show X.env.scope.names.lookup x = _ by rw [st.scope]; exact g1) (by rw [st.mg]; exact hm) ?_ g2)
  refine PySem.W.callWith_K0 I.kIn (by rw [st.K]; exact hf.kp) (call_run (us := []) (vs := []) hf st tk I .nil ?_)
  exact ret_read (x := ([] : List A)) (rel := RelAs G) (Q := fun vs H1 => spOf G G.F f vs H1 Q (fun c dd H' => W c dd σ H')) (call_read hl q) fun _ => .nil

/-! ### methods -/
/-- which def a method of a class is -/
abbrev MTab := Nat → Option Nat
def objOf (x : A) (S : Store) : Option (Nat × Nat × List (Str × A)) := match x with
  | .loc n => match S[n]? with
    | some (.ins c fs) => some (n, c, fs)
    | _ => none
  | _ => none
theorem objOf_some {x : A} {S : Store} {n c : Nat} {fs : List (Str × A)} (h : objOf x S = some (n, c, fs)) : x = .loc n ∧ S[n]? = some (.ins c fs) := by
  unfold objOf at h
  split at h
  · split at h
    · rename_i e
      simp only [Option.some.injEq, Prod.mk.injEq] at h
      obtain ⟨rfl, rfl, rfl⟩ := h
      exact ⟨rfl, e⟩
    · cases h
  · cases h
def dMeth (F : Fns) (mt : MTab) (m : Str) (d : DE) (das : DR (List A)) : DE := fun l S => (d l S).bind fun x S1 => match objOf x S1 with
  | some (n, c, fs) => match mt c, fs.lookup m with
    | some f, none => (das l S1).bind fun as S2 => F f (.loc n :: as) S2
    | _, _ => .no
  | none => .no
/-- the methods named m: for each class with one, its def -/
structure MIs (G : Gl) (mt : MTab) (m : Str) : Prop where
  cls : ∀ c f, mt c = some f → Cls G.K (G.ca c) ∧ Meth G.K (G.ca c) m (G.fa f) ∧ FnIs G f ∧ FnLen G f
theorem lookup_rel {μ : List Addr} {H : Hp} : ∀ {fs : List (Str × A)} {gs : List (Str × V)}, Paired (fun (p : Str × A) (q : Str × V) => p.1 = q.1 ∧ RelA G μ H p.2 q.2) fs gs → ∀ m, (fs.lookup m = none → gs.lookup m = none) ∧ ∀ a, fs.lookup m = some a → ∃ v, gs.lookup m = some v ∧ RelA G μ H a v
  | [], _, .nil, m => ⟨fun _ => rfl, fun _ h => nomatch h⟩
  | (k, a) :: fs, (k', v) :: gs, .cons r t, m => by
    obtain ⟨r1, r2⟩ := r
    have r1 : k = k' := r1
    subst r1
    obtain ⟨i1, i2⟩ := lookup_rel t m
    rw [List.lookup_cons, List.lookup_cons]
    cases hb : m == k with
    | true => exact ⟨fun z => by simp at z, fun b z => by simp at z; subst z; exact ⟨v, rfl, r2⟩⟩
    | false => exact ⟨i1, i2⟩
theorem meth_run {mt : MTab} (hM : MIs G mt m) {X : Cx} {W : WX} {args : List Expr} {pl : Sem Bool} (st : Stat G sc N X) (tk : Takes X W) (ho : Snd G sc N o de) {pins : List (Addr × Obj)} {σ : L2.St} {H : Hp} {s : Shared} {Q : VK} (I : L2.Inv X pins σ H s)
    (q : tE G W (dMeth G.F mt m de das) σ H Q)
    (go : ∀ f n s1 H1 (a : Addr), mt n = some f → L2.Inv X pins σ H1 s1 → tA G W das σ H1 (fun vs H2 => spOf G G.F f (.ref a :: vs) H2 Q (fun c dd H' => W c dd σ H')) → FnIs G f → PySem.W.keepIn X.K (.ref (G.fa f)) = true →
      wpAny (model X.prog X.w) X.A (callWith pos (.ref (G.fa f)) [.ref a] (backTo pos (starEach args X.env)) (backToKw pos (keywordEach [] X.env))) (EP X pins σ Q) X.xe s1)
    (ht : eval (.Call (.Attribute o m apos) args [] pos) X.env = (do
      let ov ← eval o X.env
      standAt apos.atName
      let (f, first) ← holding [ov] (getMethod ov m pl)
      callWith pos f first (backTo pos (starEach args X.env)) (backToKw pos (keywordEach [] X.env)))) :
    wpAny (model X.prog X.w) X.A (eval (.Call (.Attribute o m apos) args [] pos) X.env) (EP X pins σ Q) X.xe s := by
  refine methcall_of (pl := pl) (ho X W st tk) I ?_ ht
  obtain ⟨μ, l, S, ss, sl, q⟩ := q
  refine ⟨μ, l, S, ss, sl, Aft.imp (Aft.bind (rel' := RelA G) q) fun v H1 _ ⟨a, μ1, S1, g1, s1, ra, h1⟩ => ?_⟩
  split at h1
  · rename_i n c fs eo
    obtain ⟨rfl, hc⟩ := objOf_some eo
    obtain ⟨p, hp, rfl⟩ := ra
    split at h1
    · rename_i f hf hn
      obtain ⟨p', hp', dx, gs, e1, e2⟩ := s1.cells _ _ hc
      rw [hp] at hp'; cases hp'
      obtain ⟨k1, k2, k3, k4⟩ := hM.cls c f hf
      refine ⟨p, G.ca c, dx, gs, G.fa f, rfl, e1, by rw [st.K]; exact k1, by rw [st.K]; exact k2, (lookup_rel e2 m).1 hn, fun sx Ix => ?_⟩
      refine go f c sx H1 p hf Ix ?_ k3 (by rw [st.K]; exact k3.kp)
      refine ⟨μ1, l, S1, s1, sl.grow g1, Aft.imp (Aft.bind (rel' := RelAs G) h1) fun vs H2 _ ⟨as, μ2, S2, g2, s2, rs, h2⟩ => ?_⟩
      rcases k4 (.loc n :: as) S2 with e | e
      · rw [e] at h2; exact h2.elim
      · have r2 : RelAs G μ2 H2 (.loc n :: as) (.ref p :: vs) := .cons ((show RelA G μ1 H1 (.loc n) (.ref p) from ⟨p, hp, rfl⟩).grow g2) rs
        exact ⟨by rw [← Paired.length r2]; exact e, μ2, _, S2, s2, r2, h2⟩
    · exact h1.elim
  · exact h1.elim
theorem r_meth {mt : MTab} (hM : MIs G mt m) (ho : Snd G sc N o de) (ha : SndA G sc N (e :: es) das) (he : ∀ env, starEach (e :: es) env = (false, eval e env) :: starEach es env := by intro _; rfl) (hpl : ∀ env, (backTo pos (starEach es env)).any (·.1) = false := by intro _; rfl)
    (pl : Env → Sem Bool) (ht : ∀ env, eval (.Call (.Attribute o m apos) (e :: es) [] pos) env = (do
      let ov ← eval o env
      standAt apos.atName
      let (f, first) ← holding [ov] (getMethod ov m (pl env))
      callWith pos f first (backTo pos (starEach (e :: es) env)) (backToKw pos (keywordEach [] env))) := by intro _; rfl) : Snd G sc N (.Call (.Attribute o m apos) (e :: es) [] pos) (dMeth G.F mt m de das) := fun X W st tk =>
  ⟨fun pins s σ H Q I q => meth_run hM st tk ho I q (fun f n s1 H1 a hf I1 q1 hF hk => by
    refine PySem.W.callWith_K (first := [.ref a]) (h₀ := X.base) I1.ok.mod.kin hk (thn ((ha X W st tk).run pos pins s1 σ H1 _ I1 q1) fun us s2 ⟨vs, H2, I2, r, q2⟩ => ⟨I2.kIn, ?_⟩) (he X.env) (hpl X.env)
    exact call_run (us := .ref a :: us) (vs := .ref a :: vs) hF st tk I2 (.cons rfl r) q2) (ht X.env)⟩
theorem r_meth0 {mt : MTab} (hM : MIs G mt m) (ho : Snd G sc N o de) (pl : Env → Sem Bool) (ht : ∀ env, eval (.Call (.Attribute o m apos) [] [] pos) env = (do
      let ov ← eval o env
      standAt apos.atName
      let (f, first) ← holding [ov] (getMethod ov m (pl env))
      callWith pos f first (backTo pos (starEach [] env)) (backToKw pos (keywordEach [] env))) := by intro _; rfl) : Snd G sc N (.Call (.Attribute o m apos) [] [] pos) (dMeth G.F mt m de dNil) := fun X W st tk =>
  ⟨fun pins s σ H Q I q => meth_run hM st tk ho I q (fun f n s1 H1 a hf I1 q1 hF hk => by
    refine PySem.W.callWith_K0 (first := [.ref a]) I1.kIn hk (call_run (us := [.ref a]) (vs := [.ref a]) hF st tk I1 (.cons rfl .nil) ?_)
    exact ret_read (x := ([] : List A)) (rel := RelAs G) (Q := fun vs H2 => spOf G G.F f (.ref a :: vs) H2 Q (fun c dd H' => W c dd σ H')) q1 fun _ => .nil) (ht X.env)⟩

/-! ### attributes -/
def fldA (fl : Nat → List Str) (f : Str) (x : A) (S : Store) : Option A := match objOf x S with
  | some (_, c, fs) => if (fl c).contains f then fs.lookup f else none
  | none => none
/-- every attribute that an instance has is no name of its class -/
theorem r_fld {fl : Nat → List Str} (hC : ∀ c, ClsIs G c (fl c)) (hd : Snd G sc N e da) (hb : ∀ env, attributeBase e x env (eval e env) = eval e env := by intro _; rfl) : Snd G sc N (.Attribute e x pos) (dOp1 (fldA fl x) da) := fun X W st tk =>
  ⟨fun pins s σ H Q I q => (pe_fld (hd X W st tk) (hb X.env)).run pins s σ H Q I (tR.imp (op1_read q) fun v H1 ⟨μ, a, S, r, ss, ra, h, k⟩ => by
    unfold fldA at h
    split at h
    · rename_i n c fs eo
      obtain ⟨rfl, hc⟩ := objOf_some eo
      obtain ⟨p, hp, rfl⟩ := ra
      split at h
      · rename_i hf
        have hf : x ∈ fl c := by simpa using hf
        obtain ⟨p', hp', dx, gs, e1, e2⟩ := ss.cells _ _ hc
        rw [hp] at hp'; cases hp'
        obtain ⟨w', h1, h2⟩ := (lookup_rel e2 x).2 r h
        exact ⟨p, G.ca c, dx, gs, w', rfl, e1, by rw [st.K]; exact (hC c).cls, by rw [st.K]; exact (hC c).no x hf, h1, k H1 _ (Same.refl _) h2⟩
      · cases h
    · cases h)⟩

/-! ### C(..) -/
def dMake (F : Fns) (c f : Nat) (das : DR (List A)) : DE := fun l S => (das l S).bind fun as S1 => (F f (.loc S1.length :: as) (S1 ++ [.ins c []])).bind fun r S2 => match r with
  | .d .none => .ok (.loc S1.length) S2
  | _ => .no
structure MkIs (G : Gl) (c f : Nat) (x : Str) : Prop where
  mks : Mk G.K (G.ca c) (G.fa f)
  mg : G.mg x = some (.ref (G.ca c))
  binds : Binds G.K (G.fd f) (G.ps f) []
  len : ∀ as S, G.Fm f as S = .no ∨ as.length = (G.ps f).length
  room : (∀ as S, G.Fm f as S = .no) ∨ ∃ j, G.k = j + 1 ∧ FnG G j G.Fm f
theorem make_run {c f : Nat} {X : Cx} {W : WX} (hM : MkIs G c f x) {pins : List (Addr × Obj)} {σ : L2.St} {H : Hp} {s : Shared} {Q : VK} {us : List Value} {vs : List V} (st : Stat G sc N X) (tk : Takes X W) (I : L2.Inv X pins σ H s) (r : Vals vs us)
    (h : ∀ x dx, H x = none → H dx = none → dx ≠ x → spOf G G.Fm f (.ref x :: vs) (upd (upd H dx (.own x)) x (.ins (G.ca c) dx [])) (fun v H2 => v = .non ∧ Q (.ref x) H2) (fun cl dd H' => W cl dd σ H')) :
    wpAny (model X.prog X.w) X.A (call (.ref (G.ca c)) us) (EP X pins σ Q) X.xe s := by
  have want := h (s.heap.objs.size + 1) s.heap.objs.size (I.hok.fresh (Nat.le_succ _)) (I.hok.fresh (Nat.le_refl _)) (Nat.ne_of_lt (Nat.lt_succ_self _))
  rcases hM.room with hno | ⟨j, ej, F⟩
  · obtain ⟨_, _, as, S, _, _, z⟩ := want
    rw [hno] at z
    exact z.elim
  unfold FnG at F
  rw [← st.prog, ← st.w, ← st.K, ← st.mg, ← st.base] at F
  have M := hM.mks
  rw [← st.K] at M
  have J := Inv.made (C := G.ca c) I
  have rs : Vals (V.ref (s.heap.objs.size + 1) :: vs) (Value.ref (s.heap.objs.size + 1) :: us) := .cons rfl r
  have ln : (Value.ref (s.heap.objs.size + 1) :: us).length = (G.ps f).length := rs.length.symm.trans want.1
  have bn := hM.binds _ (Value.ref (s.heap.objs.size + 1) :: us) (by rw [← st.K]; exact J.kIn) (by rw [List.append_nil]; exact ln)
  rw [List.append_nil] at bn
  have rm : Room (j + 1) X.A := ej ▸ st.room
  refine wpAny_call (make_map I.kIn M.makes M.init (beq_iff_eq.mp M.fn) ?_)
  refine codeAny_mono (F.run _ X.stack _ _ ⟨_ :: us, []⟩ _ _ _ (fun cl dd H' => W cl dd σ H') (rm.make (G.ca c) us []) (J.env0.make (G.ca c) us []) bn rs want) fun res s' hr => ?_
  cases res with
  | error err =>
    have ps : PassesAt (CXG G) X σ (WE W σ) := wx_pass st.here tk σ
    exact ps pins _ _ err s' J hr
  | ok fl =>
    cases fl with
    | ret u =>
      obtain ⟨v, H', J', rv, ev, fin⟩ := J.after hr
      cases ev
      exact ⟨rv, V.ref (s.heap.objs.size + 1), H', J', rfl, fin⟩
    | _ => exact False.elim hr
theorem make_read {c f : Nat} (hl : ∀ as S, G.Fm f as S = .no ∨ as.length = (G.ps f).length) {W : WX} {σ : L2.St} {H : Hp} {Q : VK} (q : tE G W (dMake G.Fm c f das) σ H Q) : tA G W das σ H fun vs H1 => ∀ x dx, H1 x = none → H1 dx = none → dx ≠ x →
    spOf G G.Fm f (.ref x :: vs) (upd (upd H1 dx (.own x)) x (.ins (G.ca c) dx [])) (fun v H2 => v = .non ∧ Q (.ref x) H2) (fun cl dd H' => W cl dd σ H') := by
  refine tR.imp (tR_one (rel1 := RelAs G) q) fun vs H1 ⟨μ, as, S, ss, ra, h⟩ x dx nx ndx ne => ?_
  have sm1 := same_new (o := HO.own x) ndx
  have nx' : upd H1 dx (.own x) x = none := by rw [upd_ne (Ne.symm ne)]; exact nx
  have sm2 := same_new (o := HO.ins (G.ca c) dx []) nx'
  have sm := sm1.trans sm2
  have g : Grow μ (μ ++ [x]) H1 (upd (upd H1 dx (.own x)) x (.ins (G.ca c) dx [])) := Grow.new nx sm
  have s2 : SimS G (μ ++ [x]) (S ++ [.ins c []]) (upd (upd H1 dx (.own x)) x (.ins (G.ca c) dx [])) := ss.new nx sm (by rw [upd_same]; simp) ⟨dx, [], upd_same, .nil⟩
  have rl : RelA G (μ ++ [x]) (upd (upd H1 dx (.own x)) x (.ins (G.ca c) dx [])) (.loc S.length) (.ref x) := ⟨x, by rw [List.getElem?_append_right (by rw [ss.len]; exact Nat.le_refl _)]; simp [ss.len], rfl⟩
  have rs : RelAs G (μ ++ [x]) (upd (upd H1 dx (.own x)) x (.ins (G.ca c) dx [])) (.loc S.length :: as) (.ref x :: vs) := .cons rl (ra.grow g)
  have h1 := Aft.bind (rel' := RelA G) (Aft.grow h g)
  rcases hl (.loc S.length :: as) (S ++ [.ins c []]) with e | e
  · rw [e] at h1; exact h1.elim
  · refine ⟨by rw [← Paired.length rs]; exact e, _, _, _, s2, rs, Aft.imp h1 fun v H2 _ ⟨a, μ2, S2, g2, ss2, r2, h2⟩ => ?_⟩
    split at h2
    · cases r2
      exact ⟨rfl, h2.here ss2 (rl.grow g2)⟩
    · exact h2.elim
theorem r_make {c f : Nat} (hM : MkIs G c f x) (hg : glB sc x = true) (ha : SndA G sc N (e :: es) das) (he : ∀ env, starEach (e :: es) env = (false, eval e env) :: starEach es env := by intro _; rfl) (hpl : ∀ env, (backTo pos (starEach es env)).any (·.1) = false := by intro _; rfl) :
    Snd G sc N (.Call (.Name x p) (e :: es) [] pos) (dMake G.Fm c f das) := fun X W st tk => by
  obtain ⟨g1, g2, g3⟩ := gl_of hg
  refine ⟨fun pins s σ H Q I q => ?_⟩
  refine wpAny_Call_Name_kw (ld_glob I (show X.env.scope.names.lookup x = _ by rw [st.scope]; exact g1) (by rw [st.mg]; exact hM.mg) ?_ g2)
  refine PySem.W.callWith_K (h₀ := X.base) I.ok.mod.kin (by rw [st.K]; exact hM.mks.kp) (thn ((ha X W st tk).run pos pins s σ H _ I (make_read hM.len q)) fun us s1 ⟨vs, H1, I1, r, q1⟩ => ⟨I1.kIn, ?_⟩) (he X.env) (hpl X.env)
  exact make_run hM st tk I1 r q1
theorem r_make0 {c f : Nat} (hM : MkIs G c f x) (hg : glB sc x = true) : Snd G sc N (.Call (.Name x p) [] [] pos) (dMake G.Fm c f dNil) := fun X W st tk => by
  obtain ⟨g1, g2, g3⟩ := gl_of hg
  refine ⟨fun pins s σ H Q I q => ?_⟩
  refine wpAny_Call_Name_kw (ld_glob I (show X.env.scope.names.lookup x = _ by rw [st.scope]; exact g1) (by rw [st.mg]; exact hM.mg) ?_ g2)
  refine PySem.W.callWith_K0 I.kIn (by rw [st.K]; exact hM.mks.kp) (make_run (us := []) (vs := []) hM st tk I .nil ?_)
  exact ret_read (x := ([] : List A)) (rel := RelAs G) (Q := fun vs H1 => ∀ x dx, H1 x = none → H1 dx = none → dx ≠ x → spOf G G.Fm f (.ref x :: vs) (upd (upd H1 dx (.own x)) x (.ins (G.ca c) dx [])) (fun v H2 => v = .non ∧ Q (.ref x) H2) (fun cl dd H' => W cl dd σ H')) (make_read hM.len q) fun _ => .nil
end
end Ev

/-! Ev7: locking, the lists of the store, statements, loops, a def's body. -/
namespace Ev
open PySem PySem.Spec PyProof.Rows L2

/-! ### locking a cell -/
def frzA (x : A) (S : Store) : Res A := match x with
  | .loc n => match S[n]? with
    | some (.lst xs) => match pures xs with
      | some ds => .ok (.d (.list ds)) (S.set n (.fzn (.list ds)))
      | none => .no
    | some (.fzn d) => .ok (.d d) S
    | some (.ins _ _) => .ok x S
    | _ => .no
  | _ => .ok x S
def dFrz (d : DE) : DE := fun l S => (d l S).bind frzA
section
variable {G : Gl} {sc : Scope} {N : List Str} {pos p apos : Pos} {e o : Expr} {es : List Expr} {da de : DE} {das : DR (List A)} {x m : Str}
theorem r_frz (h : Snd G sc N e de) : Snd G sc N e (dFrz de) := fun X W st tk => PE_ghost (h X W st tk) fun pins s σ H Q q => tR.imp (tR_one (rel1 := RelA G) q) fun v H1 ⟨μ, a, S, ss, ra, h1⟩ s' I => by
  unfold frzA at h1
  split at h1
  · rename_i n
    obtain ⟨b, hb, rfl⟩ := ra
    split at h1
    · rename_i xs hc
      split at h1
      · rename_i ds hp
        obtain ⟨b', hb', vs, e1, e2⟩ := ss.cells n _ hc
        rw [hb] at hb'; cases hb'
        obtain ⟨ob, I2⟩ := freezeL I e1
        have p1 : Pers H1 (upd H1 b (.frz ob (.lst vs))) := upd_pers (fun _ z => by rw [e1] at z; cases z) (fun _ _ z => by rw [e1] at z; cases z)
        have fz : DpF G.w G.K (upd H1 b (.frz ob (.lst vs))) (.ref b) (.list ds) := .lst (.inl ⟨ob, upd_same⟩) ((pures_some hp e2).mono p1)
        exact ⟨_, I2, h1 μ _ _ (Grow.set hb p1) (ss.set hb p1 fz) fz⟩
      · exact h1.elim
    · rename_i d hc
      obtain ⟨b', hb', e1⟩ := ss.cells n _ hc
      rw [hb] at hb'; cases hb'
      exact ⟨_, I, h1.here ss e1⟩
    · exact ⟨_, I, h1.here ss ⟨b, hb, rfl⟩⟩
    · exact h1.elim
  · exact ⟨_, I, h1.here ss ra⟩

/-! ### methods of lists -/
def lstOf (x : A) (S : Store) : Option (Nat × List A) := match x with
  | .loc n => match S[n]? with
    | some (.lst xs) => some (n, xs)
    | _ => none
  | _ => none
theorem lstOf_some {x : A} {S : Store} {n : Nat} {xs : List A} (h : lstOf x S = some (n, xs)) : x = .loc n ∧ S[n]? = some (.lst xs) := by
  unfold lstOf at h
  split at h
  · split at h
    · rename_i e
      simp only [Option.some.injEq, Prod.mk.injEq] at h
      obtain ⟨rfl, rfl⟩ := h
      exact ⟨rfl, e⟩
    · cases h
  · cases h
theorem cell_lst {μ : List Addr} {S : Store} {H : Hp} (ss : SimS G μ S H) {a : A} {v : V} {n : Nat} {xs : List A} (ra : RelA G μ H a v) (h : lstOf a S = some (n, xs)) : ∃ b vs, μ[n]? = some b ∧ v = .ref b ∧ H b = some (.lst vs) ∧ RelAs G μ H xs vs := by
  obtain ⟨rfl, hc⟩ := lstOf_some h
  obtain ⟨b, hb, rfl⟩ := ra
  obtain ⟨b', hb', vs, e1, e2⟩ := ss.cells n _ hc
  rw [hb] at hb'; cases hb'
  exact ⟨b, vs, hb, rfl, e1, e2⟩
theorem cell_write {μ : List Addr} {S : Store} {H : Hp} (ss : SimS G μ S H) {n : Nat} {b : Addr} {vs ws : List V} {ys : List A} (hb : μ[n]? = some b) (e1 : H b = some (.lst vs)) (r : RelAs G μ H ys ws) :
    Grow μ μ H (upd H b (.lst ws)) ∧ SimS G μ (S.set n (.lst ys)) (upd H b (.lst ws)) := by
  have p1 : Pers H (upd H b (.lst ws)) := upd_pers (fun _ z => by rw [e1] at z; cases z) (fun _ _ z => by rw [e1] at z; cases z)
  have g : Grow μ μ H (upd H b (.lst ws)) := Grow.set hb p1
  exact ⟨g, ss.set hb p1 ⟨ws, upd_same, r.grow g⟩⟩
def dAppend (d da : DE) : DE := fun l S => (d l S).bind fun x S1 => match lstOf x S1 with
  | some (n, _) => (da l S1).bind fun y S2 => match lstOf (.loc n) S2 with
    | some (n, xs) => if xs.length < 16777216 then .ok (.d .none) (S2.set n (.lst (xs ++ [y]))) else .no
    | none => .no
  | none => .no
theorem RelAs.snoc {μ : List Addr} {H : Hp} {as : List A} {vs : List V} {a : A} {v : V} (h : RelAs G μ H as vs) (r : RelA G μ H a v) : RelAs G μ H (as ++ [a]) (vs ++ [v]) := Paired.snoc h r
theorem r_append (ho : Snd G sc N o de) (ha : Snd G sc N e da) (hbase : ∀ env, attributeBase o "append" env (eval o env) = eval o env := by intro _; rfl)
    (hs : ∀ env, starEach [e] env = (false, eval e env) :: starEach [] env := by intro _; rfl) (hline : (apos.endLine == pos.line) = true := by rfl) : Snd G sc N (.Call (.Attribute o "append" apos) [e] [] pos) (dAppend de da) := fun X W st tk =>
  ⟨fun pins s σ H Q I q => (pe_bm PySem.F.plainAttrs_list PySem.F.slot_list_append PySem.F.type_list_append mt_append (ho X W st tk) (pa_cons (ha X W st tk) pa_nil (hs X.env)) (hbase X.env) (by rw [hs X.env]; rfl) hline (hs X.env)).run pins s σ H Q I (by
    obtain ⟨μ, l, S, ss, sl, q⟩ := q
    refine ⟨μ, l, S, ss, sl, Aft.imp (Aft.bind (rel' := RelA G) q) fun v H1 _ ⟨a, μ1, S1, g1, s1, ra, h1⟩ => ?_⟩
    split at h1
    · rename_i n xs0 el
      obtain ⟨b, vs, hb, rfl, e1, _⟩ := cell_lst s1 ra el
      refine ⟨.inl ⟨rfl, _, .inl (.inl e1)⟩, ?_⟩
      refine ⟨μ1, l, S1, s1, sl.grow g1, Aft.imp (Aft.bind (rel' := RelA G) h1) fun u H2 _ ⟨y, μ2, S2, g2, s2, ry, h2⟩ => ?_⟩
      split at h2
      · rename_i n' xs el2
        split at h2
        · rename_i hz
          have rl : RelA G μ2 H2 (.loc n) (.ref b) := (show RelA G μ1 H1 (.loc n) (.ref b) from ⟨b, hb, rfl⟩).grow g2
          obtain ⟨b', vs', hb', eb, e3, e4⟩ := cell_lst s2 rl el2
          cases eb
          obtain ⟨g3, s3⟩ := cell_write s2 hb' e3 (RelAs.snoc e4 ry)
          exact ⟨b, vs', u, rfl, rfl, e3, by rw [← Paired.length e4, line_eq]; exact hz, h2 _ _ _ g3 s3 .non⟩
        · exact h2.elim
      · exact h2.elim
    · exact h1.elim)⟩
def dPop (d : DE) : DE := fun l S => (d l S).bind fun x S1 => match lstOf x S1 with
  | some (n, xs) => match xs[xs.length - 1]? with
    | some y => .ok y (S1.set n (.lst xs.dropLast))
    | none => .no
  | none => .no
theorem paired_get2 {α β : Type} {R : α → β → Prop} {l₁ : List α} {l₂ : List β} (h : Paired R l₁ l₂) : ∀ {i : Nat} {a : α}, l₁[i]? = some a → ∃ b, l₂[i]? = some b ∧ R a b := paired_get h
theorem paired_dropLast {α β : Type} {R : α → β → Prop} : ∀ {l₁ : List α} {l₂ : List β}, Paired R l₁ l₂ → Paired R l₁.dropLast l₂.dropLast
  | _, _, .nil => .nil
  | _, _, .cons a .nil => .nil
  | _, _, .cons a (.cons b t) => .cons a (paired_dropLast (.cons b t))
theorem paired_reverse {α β : Type} {R : α → β → Prop} : ∀ {l₁ : List α} {l₂ : List β}, Paired R l₁ l₂ → Paired R l₁.reverse l₂.reverse
  | _, _, .nil => .nil
  | _, _, .cons a t => by rw [List.reverse_cons, List.reverse_cons]; exact Paired.snoc (paired_reverse t) a
theorem r_pop (ho : Snd G sc N o de) (hbase : ∀ env, attributeBase o "pop" env (eval o env) = eval o env := by intro _; rfl) (hline : (apos.endLine == pos.line) = true := by rfl) : Snd G sc N (.Call (.Attribute o "pop" apos) [] [] pos) (dPop de) := fun X W st tk =>
  ⟨fun pins s σ H Q I q => (pe_bm0 PySem.F.plainAttrs_list PySem.F.slot_list_pop PySem.F.type_list_pop mt_pop (ho X W st tk) (hbase X.env) hline).run pins s σ H Q I (tR.imp (tR_one (rel1 := RelA G) q) fun v H1 ⟨μ, a, S, ss, ra, h⟩ => by
    split at h
    · rename_i n xs el
      split at h
      · rename_i y hy
        obtain ⟨b, vs, hb, rfl, e1, e2⟩ := cell_lst ss ra el
        obtain ⟨yv, h1, h2⟩ := paired_get2 e2 hy
        obtain ⟨g3, s3⟩ := cell_write ss hb e1 (paired_dropLast e2)
        exact ⟨.inl ⟨rfl, _, .inl (.inl e1)⟩, b, vs, yv, rfl, rfl, e1, by rw [← Paired.length e2]; exact h1, h _ _ _ g3 s3 (h2.grow g3)⟩
      · exact h.elim
    · exact h.elim)⟩
def dReverse (d : DE) : DE := fun l S => (d l S).bind fun x S1 => match lstOf x S1 with
  | some (n, xs) => .ok (.d .none) (S1.set n (.lst xs.reverse))
  | none => .no
theorem r_reverse (ho : Snd G sc N o de) (hbase : ∀ env, attributeBase o "reverse" env (eval o env) = eval o env := by intro _; rfl) (hline : (apos.endLine == pos.line) = true := by rfl) : Snd G sc N (.Call (.Attribute o "reverse" apos) [] [] pos) (dReverse de) := fun X W st tk =>
  ⟨fun pins s σ H Q I q => (pe_bm0 PySem.F.plainAttrs_list PySem.F.slot_list_reverse PySem.F.type_list_reverse mt_reverse (ho X W st tk) (hbase X.env) hline).run pins s σ H Q I (tR.imp (tR_one (rel1 := RelA G) q) fun v H1 ⟨μ, a, S, ss, ra, h⟩ => by
    split at h
    · rename_i n xs el
      obtain ⟨b, vs, hb, rfl, e1, e2⟩ := cell_lst ss ra el
      obtain ⟨g3, s3⟩ := cell_write ss hb e1 (paired_reverse e2)
      exact ⟨.inl ⟨rfl, _, .inl (.inl e1)⟩, b, vs, rfl, rfl, e1, h _ _ _ g3 s3 .non⟩
    · exact h.elim)⟩
end

/-! ### statements -/
inductive RS where
  | nx (l : Loc) (S : Store)
  | rt (a : A) (S : Store)
  | bk (l : Loc) (S : Store)
  | exc (x : Exn) (l : Loc) (S : Store)
  | no
abbrev DS := Loc → Store → RS
def AftS (G : Gl) (W : WX) (D : Ends) (μ : List Addr) (H : Hp) : RS → Prop
  | .nx l' S' => ∀ μ' H' σ', Grow μ μ' H H' → SimS G μ' S' H' → SimL G μ' H' l' σ' → D.nx σ' H'
  | .rt a S' => ∀ μ' H' v, Grow μ μ' H H' → SimS G μ' S' H' → RelA G μ' H' a v → D.rt v H'
  | .bk l' S' => ∀ μ' H' σ', Grow μ μ' H H' → SimS G μ' S' H' → SimL G μ' H' l' σ' → D.bk σ' H'
  | .exc x l' S' => ∀ μ' H' σ' c dd, Grow μ μ' H H' → SimS G μ' S' H' → SimL G μ' H' l' σ' → ExnRel G H' x c dd → W c dd σ' H'
  | .no => False
def tS (G : Gl) (W : WX) (ds : DS) : TS := fun D σ H => ∃ μ l S, SimS G μ S H ∧ SimL G μ H l σ ∧ AftS G W D μ H (ds l S)
/-- where statements stand -/
structure StatS (G : Gl) (sc : Scope) (N : List Str) (X : Cx) : Prop extends Stat G sc N X where
  own : PassesOwn (model X.prog X.w) X.A X.env X.xe
  fn : ∀ x, X.fn x = true
def SndS (G : Gl) (sc : Scope) (N : List Str) (s : Stmt) (ds : DS) : Prop := ∀ X W, StatS G sc N X → Takes X W → PS X s (tS G W ds)
def SndSs (G : Gl) (sc : Scope) (N : List Str) (s : List Stmt) (ds : DS) : Prop := ∀ X W, StatS G sc N X → Takes X W → PSs X s (tS G W ds)
theorem AftS.grow {G : Gl} {W : WX} {D : Ends} {μ μ1 : List Addr} {H H1 : Hp} {r : RS} (h : AftS G W D μ H r) (g : Grow μ μ1 H H1) : AftS G W D μ1 H1 r := by
  cases r with
  | nx l S => exact fun μ' H' σ' g' => h μ' H' σ' (g.trans g')
  | rt a S => exact fun μ' H' v g' => h μ' H' v (g.trans g')
  | bk l S => exact fun μ' H' σ' g' => h μ' H' σ' (g.trans g')
  | exc x l S => exact fun μ' H' σ' c dd g' => h μ' H' σ' c dd (g.trans g')
  | no => exact h
/-- an expression's result, then a statement's -/
def Res.thenS {α : Type} (r : Res α) (l : Loc) (k : α → Store → RS) : RS := match r with
  | .ok a S => k a S
  | .exc x S => .exc x l S
  | .no => .no
@[simp] theorem Res.ok_thenS {α : Type} (a : α) (S : Store) (l : Loc) (k : α → Store → RS) : (Res.ok a S).thenS l k = k a S := rfl
@[simp] theorem Res.exc_thenS {α : Type} (x : Exn) (S : Store) (l : Loc) (k : α → Store → RS) : (Res.exc x S : Res α).thenS l k = .exc x l S := rfl
@[simp] theorem Res.no_thenS {α : Type} (l : Loc) (k : α → Store → RS) : (Res.no : Res α).thenS l k = .no := rfl
section
variable {G : Gl} {sc : Scope} {N : List Str} {pos p : Pos} {e : Expr} {es : List Expr} {da de : DE} {das : DR (List A)} {x : Str} {st : Stmt} {rest : List Stmt} {a b : DS}
theorem then_read {α β : Type} {rel : List Addr → Hp → α → β → Prop} {W : WX} {σ : L2.St} {H : Hp} {D : Ends} {de : DR α} {k : α → Loc → Store → RS} (h : tS G W (fun l S => (de l S).thenS l fun a S1 => k a l S1) D σ H) :
    tR G W rel de σ H fun v H1 => ∃ μ1 l a S1, SimS G μ1 S1 H1 ∧ SimL G μ1 H1 l σ ∧ rel μ1 H1 a v ∧ AftS G W D μ1 H1 (k a l S1) := by
  obtain ⟨μ, l, S, ss, sl, h⟩ := h
  refine ⟨μ, l, S, ss, sl, ?_⟩
  have h : AftS G W D μ H ((de l S).thenS l fun a S1 => k a l S1) := h
  cases q : de l S with
  | ok a S1 =>
    rw [q] at h
    exact fun μ1 H1 v g s1 r1 => ⟨μ1, l, a, S1, s1, sl.grow g, r1, AftS.grow (r := k a l S1) h g⟩
  | exc x S1 =>
    rw [q] at h
    exact fun μ1 H1 c dd g s1 r1 => h μ1 H1 σ c dd g s1 (sl.grow g) r1
  | no => rw [q] at h; exact h
def dSkip : DS := fun l S => .nx l S
def dSeq (a b : DS) : DS := fun l S => match a l S with
  | .nx l' S' => b l' S'
  | r => r
theorem r_nil : SndSs G sc N [] dSkip := fun X W st tk => ⟨fun pins s σ H D I ⟨μ, l, S, ss, sl, h⟩ => pss_nil.run pins s σ H D I (h μ H σ Grow.refl ss sl)⟩
theorem seq_read {W : WX} {σ : L2.St} {H : Hp} {D : Ends} (h : tS G W (dSeq a b) D σ H) : tS G W a { D with nx := tS G W b D } σ H := by
  obtain ⟨μ, l, S, ss, sl, h⟩ := h
  refine ⟨μ, l, S, ss, sl, ?_⟩
  unfold dSeq at h
  cases q : a l S with
  | nx l' S' =>
    rw [q] at h
    exact fun μ' H' σ' g s1 sl1 => ⟨μ', l', S', s1, sl1, AftS.grow (r := b l' S') h g⟩
  | rt v S' => rw [q] at h; exact h
  | bk l' S' => rw [q] at h; exact h
  | exc x l' S' => rw [q] at h; exact h
  | no => rw [q] at h; exact h
theorem r_cons (h1 : SndS G sc N st a) (h2 : SndSs G sc N rest b) : SndSs G sc N (st :: rest) (dSeq a b) := fun X W s tk =>
  ⟨fun pins ss σ H D I h => (pss_cons (h1 X W s tk) (h2 X W s tk)).run pins ss σ H D I (seq_read h)⟩
theorem r_last (h1 : SndS G sc N st a) : SndSs G sc N [st] a := fun X W s tk => pss_one (h1 X W s tk)
theorem r_pass : SndS G sc N (.Pass pos) dSkip := fun X W st tk => ⟨fun pins s σ H D I ⟨μ, l, S, ss, sl, h⟩ => ps_pass.run pins s σ H D I (h μ H σ Grow.refl ss sl)⟩
def dBreak : DS := fun l S => .bk l S
theorem r_break : SndS G sc N (.Break pos) dBreak := fun X W st tk => ⟨fun pins s σ H D I ⟨μ, l, S, ss, sl, h⟩ => ps_break.run pins s σ H D I (h μ H σ Grow.refl ss sl)⟩
def dRet (d : DE) : DS := fun l S => (d l S).thenS l fun a S1 => .rt a S1
theorem r_ret (h : Snd G sc N e de) : SndS G sc N (.Return (some e) pos) (dRet de) := fun X W st tk =>
  ⟨fun pins s σ H D I q => (ps_ret (h X W st.toStat tk)).run pins s σ H D I (tR.imp (then_read (k := fun a _ S1 => .rt a S1) (rel := RelA G) q) fun v H1 ⟨μ1, l, a, S1, s1, sl1, r1, h1⟩ => h1 μ1 H1 v Grow.refl s1 r1)⟩
def dRetN : DS := fun _ S => .rt (.d .none) S
theorem r_retN : SndS G sc N (.Return none pos) dRetN := fun X W st tk => ⟨fun pins s σ H D I ⟨μ, l, S, ss, sl, h⟩ => ps_retN.run pins s σ H D I (h μ H .non Grow.refl ss .non)⟩
def dExpr (d : DE) : DS := fun l S => (d l S).thenS l fun _ S1 => .nx l S1
theorem r_expr (h : Snd G sc N e de) (hs : ∀ env, swapsWith e none pos.line env = pure false := by intro _; rfl) : SndS G sc N (.Expr e pos) (dExpr de) := fun X W st tk =>
  ⟨fun pins s σ H D I q => (ps_expr (h X W st.toStat tk) (hs X.env)).run pins s σ H D I (tR.imp (then_read (k := fun _ l S1 => .nx l S1) (rel := RelA G) q) fun v H1 ⟨μ1, l, a, S1, s1, sl1, r1, h1⟩ => h1 μ1 H1 σ Grow.refl s1 sl1)⟩
def dIte (t : DR Bool) (a b : DS) : DS := fun l S => (t l S).thenS l fun c S1 => if c = true then a l S1 else b l S1
theorem r_if {c : Expr} {t : DR Bool} {as bs : List Stmt} (hc : SndT G sc N c t) (ha : SndSs G sc N as a) (hb : SndSs G sc N bs b) : SndS G sc N (.If c as bs pos) (dIte t a b) := fun X W st tk =>
  ⟨fun pins s σ H D I q => (ps_if (hc X W st.toStat tk) (ha X W st tk) (hb X W st tk)).run pins s σ H D I (tR.imp (then_read (k := fun c l S1 => if c = true then a l S1 else b l S1) (rel := relB) q) fun v H1 ⟨μ1, l, c', S1, s1, sl1, r1, h1⟩ => by
    have r1 : c' = v := r1
    subst r1
    cases c' with
    | true => exact ⟨μ1, l, S1, s1, sl1, h1⟩
    | false => exact ⟨μ1, l, S1, s1, sl1, h1⟩)⟩

/-! ### targets -/
abbrev DG := A → Loc → Option Loc
/-- no other slots than those at is have changed -/
def Chg (is : List Nat) (σ σ' : L2.St) : Prop := σ'.length = σ.length ∧ ∀ j : Nat, j ∉ is → σ'[j]? = σ[j]?
theorem Chg.refl {is : List Nat} {σ : L2.St} : Chg is σ σ := ⟨rfl, fun _ _ => rfl⟩
theorem Chg.app {is js : List Nat} {σ σ1 σ2 : L2.St} (a : Chg is σ σ1) (b : Chg js σ1 σ2) : Chg (is ++ js) σ σ2 := ⟨b.1.trans a.1, fun j hj => (b.2 j fun z => hj (List.mem_append_right _ z)).trans (a.2 j fun z => hj (List.mem_append_left _ z))⟩
def tG (G : Gl) (is : List Nat) (g : DG) : TG := fun v σ H Q => ∃ μ a l l' S, SimS G μ S H ∧ SimL G μ H l σ ∧ RelA G μ H a v ∧ g a l = some l' ∧ ∀ H' σ', Same H H' → SimL G μ H' l' σ' → Chg is σ σ' → Q σ' H'
/-- the names xs may be stored here -/
def GF (X : Cx) (xs : List Str) : Prop := ∀ x ∈ xs, X.fn x = true ∨ X.env.scope.names.lookup x = some .local
def SndG (G : Gl) (sc : Scope) (N : List Str) (xs : List Str) (is : List Nat) (tg : Expr) (g : DG) : Prop := ∀ X, Stat G sc N X → GF X xs → PG X tg (tG G is g)
def gN (i : Nat) : DG := fun a l => if i < l.length then some (l.set i (some a)) else none
theorem SimL.set {μ : List Addr} {H : Hp} {l : Loc} {σ : L2.St} {i : Nat} {a : A} {v : V} (s : SimL G μ H l σ) (r : RelA G μ H a v) : SimL G μ H (l.set i (some a)) (σ.set i (some v)) := by
  refine ⟨by rw [List.length_set, List.length_set]; exact s.len, fun j b h => ?_⟩
  by_cases hj : i = j
  · subst hj
    by_cases hi : i < l.length
    · rw [List.getElem?_set_self hi] at h
      cases h
      exact ⟨v, by rw [List.getElem?_set_self (by rw [← s.len]; exact hi)], r⟩
    · rw [List.getElem?_eq_none (by rw [List.length_set]; omega)] at h; cases h
  · rw [List.getElem?_set_ne hj] at h
    obtain ⟨w', h1, h2⟩ := s.at_ j b h
    exact ⟨w', by rw [List.getElem?_set_ne hj]; exact h1, h2⟩
def locB (sc : Scope) (x : Str) : Bool := sc.names.lookup x == some .local || sc.names.lookup x == some .cell
theorem loc_of {sc : Scope} {x : Str} (h : locB sc x = true) : L2.Loc sc x := by
  unfold locB at h
  simp only [Bool.or_eq_true, beq_iff_eq] at h
  exact h
theorem g_name {i : Nat} (hi : N[i]? = some x) (hx : locB sc x = true) : SndG G sc N [x] [i] (.Name x pos) (gN i) := fun X st hf =>
  ⟨fun pins s σ H v u Q I r ⟨μ, a, l, l', S, ss, sl, ra, hg, q⟩ => (pg_name (X := X) (i := i) (by rw [st.names]; exact st.nd) (by rw [st.names]; exact hi) (by rw [st.scope]; exact loc_of hx) (hf x (by simp))).run pins s σ H v u Q I r (by
    unfold gN at hg
    split at hg
    · cases hg; exact q H _ (Same.refl _) (sl.set ra) ⟨by rw [List.length_set], fun j hj => List.getElem?_set_ne (fun z => hj (by simp [z]))⟩
    · cases hg)⟩
/-- several targets, from plain data -/
def gAll : List DG → List D → Loc → Option Loc
  | [], [], l => some l
  | g :: gs, d :: ds, l => (g (.d d) l).bind (gAll gs ds)
  | _, _, _ => none
def tGs (G : Gl) (is : List Nat) (gs : List DG) : TGs := fun vs σ H Q => ∃ μ ds l l' S, SimS G μ S H ∧ SimL G μ H l σ ∧ DpFs G.w G.K H vs ds ∧ gAll gs ds l = some l' ∧ ∀ H' σ', Same H H' → SimL G μ H' l' σ' → Chg is σ σ' → Q σ' H'
def SndGs (G : Gl) (sc : Scope) (N : List Str) (xs : List Str) (is : List Nat) (tgs : List Expr) (gs : List DG) : Prop := ∀ X, Stat G sc N X → GF X xs → PGs X tgs (tGs G is gs)
theorem g_nil : SndGs G sc N [] [] [] [] := fun X st hf => ⟨fun pins s σ H vs us Q I r ⟨μ, ds, l, l', S, ss, sl, ra, hg, q⟩ => by
  cases ds with
  | nil => cases ra; cases hg; exact pgs_nil.run pins s σ H [] us Q I r ⟨rfl, q H σ (Same.refl _) sl Chg.refl⟩
  | cons d ds => simp [gAll] at hg⟩
theorem g_cons {tg : Expr} {tgs : List Expr} {g : DG} {gs : List DG} {xs ys : List Str} {is js : List Nat} (h1 : SndG G sc N xs is tg g) (h2 : SndGs G sc N ys js tgs gs) (hs : ∀ env, (assignEach (tg :: tgs) env).map (·.2) = assign tg env :: (assignEach tgs env).map (·.2) := by intro _; rfl) : SndGs G sc N (xs ++ ys) (is ++ js) (tg :: tgs) (g :: gs) := fun X st hf =>
  ⟨fun pins s σ H vs us Q I r ⟨μ, ds, l, l', S, ss, sl, ra, hg, q⟩ => by
    cases ds with
    | nil => simp [gAll] at hg
    | cons d ds =>
      cases ra with
      | cons r1 r2 =>
        simp only [gAll, Option.bind_eq_some_iff] at hg
        obtain ⟨l1, e1, e2⟩ := hg
        refine (pgs_cons (h1 X st fun x h => hf x (List.mem_append_left _ h)) (h2 X st fun x h => hf x (List.mem_append_right _ h)) (hs X.env)).run pins s σ H _ us Q I r ⟨_, _, rfl, μ, .d d, l, l1, S, ss, sl, r1, e1, fun H' σ' sm sl1 c1 => ?_⟩
        exact ⟨μ, ds, l1, l', S, ss.same sm, sl1, r2.mono (Pers.of sm), e2, fun H2 σ2 sm2 sl2 c2 => q H2 σ2 (sm.trans sm2) sl2 (c1.app c2)⟩⟩
def gTup (gs : List DG) : DG := fun a l => match a with
  | .d (.tuple ds) => gAll gs ds l
  | _ => none
theorem gAll_len : ∀ {gs : List DG} {ds : List D} {l l' : Loc}, gAll gs ds l = some l' → gs.length = ds.length
  | [], [], _, _, _ => rfl
  | [], _ :: _, _, _, h => by simp [gAll] at h
  | _ :: _, [], _, _, h => by simp [gAll] at h
  | g :: gs, d :: ds, l, l', h => by
    simp only [gAll, Option.bind_eq_some_iff] at h
    obtain ⟨l1, _, e⟩ := h
    rw [List.length_cons, List.length_cons, gAll_len e]
theorem g_tup {tgs : List Expr} {k : Nat} {gs : List DG} {xs : List Str} {is : List Nat} (h : SndGs G sc N xs is tgs gs) (hn : ∀ env, (assignEach tgs env).length = gs.length := by intro _; rfl) (hst : ∀ env, (assignEach tgs env).findIdx? (·.1) = none := by intro _; rfl) : SndG G sc N xs is (.Tuple tgs k pos) (gTup gs) := fun X st hf =>
  ⟨fun pins s σ H v u Q I r ⟨μ, a, l, l', S, ss, sl, ra, hg, q⟩ => (pg_tup st.calm (h X st hf) (hn X.env) (hst X.env)).run pins s σ H v u Q I r (by
    unfold gTup at hg
    split at hg
    · rename_i ds
      cases ra with
      | tup ha rd => exact ⟨_, _, rfl, by rw [st.K]; exact ha, by rw [rd.length]; exact (gAll_len hg).symm, μ, ds, l, l', S, ss, sl, rd, hg, q⟩
    · cases hg)⟩
theorem StatS.gf {X : Cx} (st : StatS G sc N X) (xs : List Str) : GF X xs := fun x _ => .inl (st.fn x)
def dAsg (g : DG) (d : DE) : DS := fun l S => (d l S).thenS l fun a S1 => match g a l with
  | some l' => .nx l' S1
  | none => .no
theorem asg_read {W : WX} {σ : L2.St} {H : Hp} {D : Ends} {g : DG} {is : List Nat} (h : tS G W (dAsg g de) D σ H) : tAsg (tE G W de) (tG G is g) D σ H := by
  refine tR.imp (then_read (k := fun a l S1 => match g a l with | some l' => .nx l' S1 | none => .no) (rel := RelA G) h) fun v H1 ⟨μ1, l, a, S1, s1, sl1, r1, h1⟩ => ?_
  split at h1
  · rename_i l' e
    exact ⟨μ1, a, l, l', S1, s1, sl1, r1, e, fun H' σ' sm sl' _ => h1 μ1 H' σ' (Grow.same sm) (s1.same sm) sl'⟩
  · exact h1.elim
theorem r_asg {tg : Expr} {g : DG} {xs : List Str} {is : List Nat} (he : Snd G sc N e de) (hg : SndG G sc N xs is tg g) (hs : ∀ env, swapsWithSole [tg] e pos.line env = pure false := by intro _; rfl) (hw : ∀ env, swappedStores [tg] e env = pure none := by intro _; rfl)
    (h1 : ∀ env, (assignEach [tg] env).map (·.2) = [assign tg env] := by intro _; rfl) : SndS G sc N (.Assign [tg] e pos) (dAsg g de) := fun X W st tk =>
  ⟨fun pins s σ H D I q => (ps_asg (he X W st.toStat tk) (hg X st.toStat (st.gf xs)) (hs X.env) (hw X.env) (h1 X.env)).run pins s σ H D I (asg_read q)⟩
theorem gN_read {W : WX} {σ : L2.St} {H : Hp} {D : Ends} {i : Nat} (h : tS G W (dAsg (gN i) de) D σ H) : tAsg (tE G W de) (gName i) D σ H :=
  tR.imp (asg_read (is := [i]) h) fun v H1 ⟨μ, a, l, l', S, ss, sl, ra, hg, q⟩ => by
    unfold gN at hg
    split at hg
    · cases hg; exact q H1 _ (Same.refl _) (sl.set ra) ⟨by rw [List.length_set], fun j hj => List.getElem?_set_ne (fun z => hj (by simp [z]))⟩
    · cases hg
theorem r_set {i : Nat} {p' : Pos} (hi : N[i]? = some x) (hx : locB sc x = true) (he : Snd G sc N e de) (hs : ∀ env, swapsWith e (some (.Name x p')) pos.line env = pure false := by intro _; rfl) : SndS G sc N (.Assign [.Name x p'] e pos) (dAsg (gN i) de) := fun X W st tk =>
  ⟨fun pins s σ H D I q => (ps_set (X := X) (i := i) (by rw [st.names]; exact st.nd) (by rw [st.names]; exact hi) (by rw [st.scope]; exact loc_of hx) (he X W st.toStat tk) (hs X.env) (.inl (st.fn x))).run pins s σ H D I (gN_read q)⟩
/-- o.f = e -/
def setF {α : Type} (f : Str) (a : α) : List (Str × α) → List (Str × α)
  | [] => [(f, a)]
  | (g, b) :: r => if g = f then (g, a) :: r else (g, b) :: setF f a r
theorem setF_rel {μ : List Addr} {H : Hp} {a : A} {v : V} (r : RelA G μ H a v) (f : Str) : ∀ {fs : List (Str × A)} {gs : List (Str × V)}, Paired (fun (p : Str × A) (q : Str × V) => p.1 = q.1 ∧ RelA G μ H p.2 q.2) fs gs → Paired (fun (p : Str × A) (q : Str × V) => p.1 = q.1 ∧ RelA G μ H p.2 q.2) (setF f a fs) (putF f v gs)
  | [], _, .nil => .cons ⟨rfl, r⟩ .nil
  | (k, b) :: fs, (k', w') :: gs, .cons q t => by
    obtain ⟨q1, q2⟩ := q
    have q1 : k = k' := q1
    subst q1
    unfold setF putF
    by_cases h : k = f
    · rw [if_pos h, if_pos h]; exact .cons ⟨rfl, r⟩ t
    · rw [if_neg h, if_neg h]; exact .cons ⟨rfl, q2⟩ (setF_rel r f t)
def dSetF (fl : Nat → List Str) (f : Str) (d dv : DE) : DS := fun l S => (dv l S).thenS l fun a S1 => (d l S1).thenS l fun x S2 => match objOf x S2 with
  | some (n, c, fs) => if (fl c).contains f && decide (fs.length < 1000) then .nx l (S2.set n (.ins c (setF f a fs))) else .no
  | none => .no
theorem r_setF {o : Expr} {f : Str} {p' : Pos} {fl : Nat → List Str} (hC : ∀ c, ClsIs G c (fl c)) (ho : Snd G sc N o da) (he : Snd G sc N e de) (hs : ∀ env, swapsWith e (some (.Attribute o f p')) pos.line env = pure false := by intro _; rfl) : SndS G sc N (.Assign [.Attribute o f p'] e pos) (dSetF fl f da de) := fun X W st tk =>
  ⟨fun pins s σ H D I q => (ps_fld (ho X W st.toStat tk) (he X W st.toStat tk) (hs X.env)).run pins s σ H D I (by
    obtain ⟨μ, l, S, ss, sl, q⟩ := q
    refine ⟨μ, l, S, ss, sl, ?_⟩
    cases e1 : de l S with
    | no => rw [dSetF, e1] at q; exact q
    | exc x S1 => rw [dSetF, e1] at q; exact fun μ1 H1 c dd g s1 r1 => q μ1 H1 σ c dd g s1 (sl.grow g) r1
    | ok a S1 =>
      rw [dSetF, e1] at q
      refine fun μ1 H1 v g1 s1 r1 => ⟨μ1, l, S1, s1, sl.grow g1, ?_⟩
      replace q := AftS.grow q g1
      rw [Res.ok_thenS] at q
      cases e2 : da l S1 with
      | no => rw [e2] at q; exact q
      | exc x S2 => rw [e2] at q; exact fun μ2 H2 c dd g s2 r2 => q μ2 H2 σ c dd g s2 ((sl.grow g1).grow g) r2
      | ok y S2 =>
        rw [e2, Res.ok_thenS] at q
        refine fun μ2 H2 u g2 s2 r2 => ?_
        replace q := AftS.grow q g2
        replace r1 := r1.grow g2
        split at q
        · rename_i n c fs eo
          split at q
          · rename_i hf
            simp only [Bool.and_eq_true, List.contains_eq_mem, decide_eq_true_eq] at hf
            obtain ⟨rfl, hc⟩ := objOf_some eo
            obtain ⟨b, hb, rfl⟩ := r2
            obtain ⟨b', hb', dx, gs, k1, k2⟩ := s2.cells _ _ hc
            rw [hb] at hb'; cases hb'
            have p1 : Pers H2 (upd H2 b (.ins (G.ca c) dx (putF f v gs))) := upd_pers (fun _ z => by rw [k1] at z; cases z) (fun _ _ z => by rw [k1] at z; cases z)
            have g3 : Grow μ2 μ2 H2 (upd H2 b (.ins (G.ca c) dx (putF f v gs))) := Grow.set hb p1
            refine ⟨b, G.ca c, dx, gs, rfl, k1, by rw [st.K]; exact (hC c).cls, by rw [st.K]; exact (hC c).no f hf.1, by rw [← Paired.length k2]; exact hf.2, ?_⟩
            exact q μ2 _ σ g3 (s2.set hb p1 ⟨dx, _, upd_same, Paired.mapP (setF_rel r1 f k2) fun p q z => ⟨z.1, z.2.grow g3⟩⟩) (((sl.grow g1).grow g2).grow g3)
          · exact q.elim
        · exact q.elim)⟩
end
end Ev

/-! Ev8: for, while, a def's body, all defs of a text. -/
namespace Ev
open PySem PySem.Spec PyProof.Rows L2

/-! ### what is walked -/
/-- the iterator yields the data ds, whatever else happens -/
def Yields (G : Gl) (H1 : Hp) (ds : List D) (J : It) : Prop := ∀ H', Pers H1 H' → ∀ i : Nat, (∀ d, ds[i]? = some d → J.go i H' ∧ ∀ x H'', J.yld i H' x H'' → Same H' H'' ∧ DpF G.w G.K H'' x d) ∧ (ds.length ≤ i → J.stop i H')
abbrev relI (G : Gl) : List Addr → Hp → List D → It → Prop := fun _ H ds J => Yields G H ds J
def SndI (G : Gl) (sc : Scope) (N : List Str) (tg e : Expr) (di : DR (List D)) : Prop := ∀ X W, Stat G sc N X → Takes X W → PI X tg e (tR G W (relI G) di)
section
variable {G : Gl} {sc : Scope} {N : List Str} {pos p : Pos} {tg e e2 : Expr} {da db de : DE}
/-- the items of a value that is walked -/
def itemsD : D → Option (List D)
  | .list ds => some ds
  | .tuple ds => some ds
  | .str z => some (z.cps.toList.map fun c => .str ⟨#[c]⟩)
  | _ => none
def dItems (d : DE) : DR (List D) := fun l S => (d l S).bind fun a S1 => match a with
  | .d x => match itemsD x with
    | some ds => .ok ds S1
    | none => .no
  | _ => .no
theorem yl_list {H1 : Hp} {a : Addr} {vs : List V} {ds : List D} (fz : FzL G.K H1 a vs) (fs : DpFs G.w G.K H1 vs ds) : Yields G H1 ds (Itl G.K a) := fun H' p i => by
  have sq := (p.fzL fz).sq
  refine ⟨fun d hd => ?_, fun h => ⟨vs, sq, by rw [fs.length]; exact h⟩⟩
  obtain ⟨v, e1, r⟩ := (fs.mono p).get hd
  refine ⟨⟨vs, v, sq, e1⟩, fun x H'' ⟨eH, y⟩ => ?_⟩
  subst eH
  have := y vs sq
  rw [e1] at this; cases this
  exact ⟨Same.refl _, r⟩
theorem yl_tup {H1 : Hp} {a : Addr} {vs : List V} {ds : List D} (sq : SqT G.K H1 a vs) (fs : DpFs G.w G.K H1 vs ds) : Yields G H1 ds (Itt G.K a) := fun H' p i => by
  have sq := p.sqT sq
  refine ⟨fun d hd => ?_, fun h => ⟨vs, sq, by rw [fs.length]; exact h⟩⟩
  obtain ⟨v, e1, r⟩ := (fs.mono p).get hd
  refine ⟨⟨vs, v, sq, e1⟩, fun x H'' ⟨eH, y⟩ => ?_⟩
  subst eH
  have := y vs sq
  rw [e1] at this; cases this
  exact ⟨Same.refl _, r⟩
theorem yl_str {H1 : Hp} (z : Str) : Yields G H1 (z.cps.toList.map fun c => PyData.str ⟨#[c]⟩) (Its z) := fun H' p i => by
  refine ⟨fun d hd => ?_, fun h => ?_⟩
  · rw [List.getElem?_map, Option.map_eq_some_iff] at hd
    obtain ⟨c, hc, rfl⟩ := hd
    have hc' : z.cps[i]? = some c := by rw [← Array.getElem?_toList]; exact hc
    refine ⟨(Array.getElem?_eq_some_iff.mp hc').1, fun x H'' ⟨eH, c', e1, ex⟩ => ?_⟩
    rw [hc'] at e1; cases e1
    subst eH ex
    exact ⟨Same.refl _, .str _⟩
  · rw [List.length_map, Array.length_toList] at h
    exact h
theorem r_items (h : Snd G sc N e de) : SndI G sc N tg e (dItems de) := fun X W st tk => ⟨fun pins s σ H R I q => by
  obtain ⟨μ, l, S, ss, sl, q⟩ := q
  have he := h X W st tk
  unfold dItems at q
  cases e1 : de l S with
  | no => rw [e1] at q; exact q.elim
  | exc x S1 =>
    rw [e1] at q
    exact (pi_list he).run pins s σ H R I ⟨μ, l, S, ss, sl, by rw [e1]; exact q⟩
  | ok a S1 =>
    rw [e1, Res.ok_bind] at q
    cases a with
    | d d =>
      cases d with
      | list ds => exact (pi_list he).run pins s σ H R I ⟨μ, l, S, ss, sl, by
          rw [e1]
          refine fun μ1 H1 v g s1 r1 => ?_
          cases r1 with
          | lst fz fs => exact ⟨_, rfl, ⟨_, by rw [st.K]; exact fz.sq⟩, q μ1 H1 _ g s1 (by rw [st.K]; exact yl_list fz fs)⟩⟩
      | tuple ds => exact (pi_tup he).run pins s σ H R I ⟨μ, l, S, ss, sl, by
          rw [e1]
          refine fun μ1 H1 v g s1 r1 => ?_
          cases r1 with
          | tup sq fs => exact ⟨_, rfl, ⟨_, by rw [st.K]; exact sq⟩, q μ1 H1 _ g s1 (by rw [st.K]; exact yl_tup sq fs)⟩⟩
      | str z => exact (pi_str he).run pins s σ H R I ⟨μ, l, S, ss, sl, by
          rw [e1]
          refine fun μ1 H1 v g s1 r1 => ?_
          cases r1
          exact ⟨z, rfl, q μ1 H1 _ g s1 (yl_str z)⟩⟩
      | _ => exact q.elim
    | _ => exact q.elim⟩
def rgI (a b : D) : Option (List D) := match a, b with
  | .int i, .int j => if rgOk i j = true then some ((rgL i j).map .int) else none
  | _, _ => none
def dRg1 (d : DE) : DR (List D) := fun l S => (d l S).bind fun x S1 => match x with
  | .d b => match rgI (.int 0) b with
    | some ds => .ok ds S1
    | none => .no
  | _ => .no
def dRg2 (d d2 : DE) : DR (List D) := fun l S => (d l S).bind fun x S1 => (d2 l S1).bind fun y S2 => match x, y with
  | .d a, .d b => match rgI a b with
    | some ds => .ok ds S2
    | none => .no
  | _, _ => .no
theorem yl_rng {H1 : Hp} {a b : Int} {n : Nat} (hn : n = (b - a).toNat) : Yields G H1 ((rgL a b).map PyData.int) (Itr a n) := fun H' p i => by
  subst hn
  unfold rgL
  refine ⟨fun d hd => ?_, fun h => ?_⟩
  · rw [List.getElem?_map, List.getElem?_map, Option.map_eq_some_iff] at hd
    obtain ⟨j, hj, rfl⟩ := hd
    rw [Option.map_eq_some_iff] at hj
    obtain ⟨k, hk, rfl⟩ := hj
    obtain ⟨h1, h2⟩ := List.getElem?_eq_some_iff.mp hk
    rw [List.length_range] at h1
    rw [List.getElem_range] at h2
    subst h2
    refine ⟨h1, fun x H'' ⟨eH, ex⟩ => ?_⟩
    subst eH ex
    exact ⟨Same.refl _, .int _⟩
  · rw [List.length_map, List.length_map, List.length_range] at h
    exact h
theorem rgI_some {a b : D} {ds : List D} (h : rgI a b = some ds) : ∃ i j, a = .int i ∧ b = .int j ∧ (-(2 ^ 62) ≤ i ∧ i < 2 ^ 62 ∧ -(2 ^ 62) ≤ j ∧ j < 2 ^ 62) ∧ ds = (rgL i j).map .int := by
  unfold rgI at h
  split at h
  · simp only [Option.ite_none_right_eq_some, Option.some.injEq] at h
    obtain ⟨hc, rfl⟩ := h
    simp only [rgOk, Bool.and_eq_true, decide_eq_true_eq] at hc
    exact ⟨_, _, rfl, rfl, ⟨by omega, by omega, by omega, by omega⟩, rfl⟩
  · cases h
theorem r_rg1 (hg : glB sc "range" = true) (hm : G.mg "range" = none) (ha : Snd G sc N e da) (hs : ∀ env, starEach [e] env = [(false, eval e env)] := by intro _; rfl) (hs2 : ∀ env, starEach (e :: []) env = (false, eval e env) :: starEach [] env := by intro _; rfl) : SndI G sc N tg (.Call (.Name "range" p) [e] [] pos) (dRg1 da) := fun X W st tk => by
  obtain ⟨g1, g2, g3⟩ := gl_of hg
  refine ⟨fun pins s σ H R I q => (pi_range1 (show X.env.scope.names.lookup _ = _ by rw [st.scope]; exact g1) (by rw [st.mg]; exact hm) (pa_cons (ha X W st tk) pa_nil (hs2 X.env)) (hs X.env)).run pins s σ H R I (tR.imp (tR_one (rel1 := RelA G) q) fun v H1 ⟨μ, a, S, ss, ra, h⟩ => ?_)⟩
  split at h
  · split at h
    · rename_i ds e1
      obtain ⟨i, j, ei, rfl, ⟨b1, b2, b3, b4⟩, rfl⟩ := rgI_some e1
      cases ei
      cases ra
      exact ⟨j, rfl, b3, b4, h μ H1 _ Grow.refl ss (yl_rng (by rw [Int.sub_zero]))⟩
    · exact h.elim
  · exact h.elim
theorem r_rg2 (hg : glB sc "range" = true) (hm : G.mg "range" = none) (ha : Snd G sc N e da) (hb : Snd G sc N e2 db) (hs : ∀ env, starEach [e, e2] env = [(false, eval e env), (false, eval e2 env)] := by intro _; rfl) (hs1 : ∀ env, starEach [e2] env = [(false, eval e2 env)] := by intro _; rfl)
    (h2 : ∀ env, starEach (e :: [e2]) env = (false, eval e env) :: starEach [e2] env := by intro _; rfl) (h3 : ∀ env, starEach (e2 :: []) env = (false, eval e2 env) :: starEach [] env := by intro _; rfl) : SndI G sc N tg (.Call (.Name "range" p) [e, e2] [] pos) (dRg2 da db) := fun X W st tk => by
  obtain ⟨g1, g2, g3⟩ := gl_of hg
  refine ⟨fun pins s σ H R I q => (pi_range2 (show X.env.scope.names.lookup _ = _ by rw [st.scope]; exact g1) (by rw [st.mg]; exact hm) (pa_cons (ha X W st tk) (pa_cons (hb X W st tk) pa_nil (h3 X.env)) (h2 X.env)) (hs X.env) (hs1 X.env)).run pins s σ H R I (tR.imp (tR_two (rel1 := RelA G) (rel2 := RelA G) (fun g r => r.grow g) q) fun v H1 h1 => tR.imp h1 fun u H2 ⟨μ, a, b, S, ss, ra, rb, h⟩ => ?_)⟩
  split at h
  · split at h
    · rename_i ds e1
      obtain ⟨i, j, rfl, rfl, bd, rfl⟩ := rgI_some e1
      cases ra
      cases rb
      exact ⟨i, j, rfl, bd, h μ H2 _ Grow.refl ss (yl_rng rfl)⟩
    · exact h.elim
  · exact h.elim

/-! ### for -/
def loopF (g : DG) (body : DS) : List D → DS
  | [], l, S => .nx l S
  | d :: ds, l, S => match g (.d d) l with
    | some l1 => match body l1 S with
      | .nx l2 S2 => loopF g body ds l2 S2
      | .bk l2 S2 => .nx l2 S2
      | r => r
    | none => .no
def dFor (di : DR (List D)) (g : DG) (body : DS) : DS := fun l S => (di l S).thenS l fun ds S1 => loopF g body ds l S1
theorem r_for {g : DG} {xs : List Str} {is : List Nat} {di : DR (List D)} {body : DS} {sts : List Stmt} (hi : SndI G sc N tg e di) (hg : SndG G sc N xs is tg g) (hb : SndSs G sc N sts body) (hs : ∀ env x, foldedSetIterable e env x = pure x := by intro _ _; rfl) : SndS G sc N (.For tg e sts [] pos) (dFor di g body) := fun X W st tk => by
  refine ⟨fun pins s σ H D I q => (ps_for st.own st.calm (hi X W st.toStat tk) (hg X st.toStat (st.gf xs)) (hb X W st tk) (hs X.env)).run pins s σ H D I (tR.imp (then_read (k := fun ds l S1 => loopF g body ds l S1) (rel := relI G) q) fun J H1 ⟨μ1, l1, ds, S1, s1, sl1, yl, h1⟩ => ?_)⟩
  refine ⟨fun i m σ H => m = ds.length - i ∧ i ≤ ds.length ∧ Pers H1 H ∧ ∃ μ l S, SimS G μ S H ∧ SimL G μ H l σ ∧ AftS G W D μ H (loopF g body (ds.drop i) l S), ⟨ds.length, by simp, Nat.zero_le _, Pers.refl _, μ1, l1, S1, s1, sl1, by simpa using h1⟩, ?_⟩
  rintro i m σ2 H2 ⟨rfl, hi, p, μ, l, S, ss, sl, h⟩
  by_cases hlt : i < ds.length
  · obtain ⟨go, yld⟩ := (yl H2 p i).1 ds[i] (List.getElem?_eq_getElem hlt)
    refine .inr ⟨go, fun σ' H' => Pers H1 H' ∧ ∃ μ l S, SimS G μ S H' ∧ SimL G μ H' l σ' ∧ AftS G W D μ H' (loopF g body (ds.drop (i + 1)) l S), fun σ' H' ⟨p', z⟩ => ⟨ds.length - (i + 1), by omega, rfl, hlt, p', z⟩, fun x H' y => ?_⟩
    obtain ⟨sm, rx⟩ := yld x H' y
    rw [List.drop_eq_getElem_cons hlt] at h
    unfold loopF at h
    split at h
    · rename_i l2 eg
      have gr := Grow.same (μ := μ) sm
      refine ⟨μ, .d ds[i], l, l2, S, ss.same sm, sl.grow gr, rx, eg, fun H3 σ3 sm3 sl3 _ => ?_⟩
      have gr3 := Grow.same (μ := μ) sm3
      have s3 := (ss.same sm).same sm3
      have p3 : Pers H1 H3 := (p.trans (Pers.of sm)).trans (Pers.of sm3)
      refine ⟨μ, l2, S, s3, sl3, ?_⟩
      cases eb : body l2 S with
      | nx l4 S4 =>
        rw [eb] at h
        exact fun μ4 H4 σ4 g4 s4 sl4 => ⟨p3.trans g4.pers, μ4, l4, S4, s4, sl4, AftS.grow (r := loopF g body (ds.drop (i + 1)) l4 S4) h ((gr.trans gr3).trans g4)⟩
      | bk l4 S4 =>
        rw [eb] at h
        exact fun μ4 H4 σ4 g4 s4 sl4 => h μ4 H4 σ4 ((gr.trans gr3).trans g4) s4 sl4
      | rt a S4 =>
        rw [eb] at h
        exact fun μ4 H4 v g4 => h μ4 H4 v ((gr.trans gr3).trans g4)
      | exc x l4 S4 =>
        rw [eb] at h
        exact fun μ4 H4 σ4 c dd g4 => h μ4 H4 σ4 c dd ((gr.trans gr3).trans g4)
      | no => rw [eb] at h; exact h.elim
    · exact h.elim
  · have e : i = ds.length := by omega
    subst e
    rw [List.drop_length] at h
    exact .inl ⟨(yl H2 p _).2 (Nat.le_refl _), h μ H2 σ2 Grow.refl ss sl⟩

/-! ### while -/
def loopW (c : DR Bool) (body : DS) : Nat → DS
  | 0, _, _ => .no
  | n + 1, l, S => (c l S).thenS l fun b S1 => if b = true then (match body l S1 with
    | .nx l2 S2 => loopW c body n l2 S2
    | .bk l2 S2 => .nx l2 S2
    | r => r) else .nx l S1
/-- the turns that a while may take -/
def turns : Nat := 1000000000
def dWhile (c : DR Bool) (body : DS) : DS := loopW c body turns
theorem r_while {c : DR Bool} {body : DS} {sts : List Stmt} (hc : SndT G sc N e c) (hb : SndSs G sc N sts body) : SndS G sc N (.While e sts [] pos) (dWhile c body) := fun X W st tk => by
  refine ⟨fun pins s σ H D I q => (ps_while st.own (hc X W st.toStat tk) (hb X W st tk)).run pins s σ H D I ?_⟩
  refine ⟨fun m σ H => ∃ μ l S, SimS G μ S H ∧ SimL G μ H l σ ∧ AftS G W D μ H (loopW c body m l S), ⟨turns, q⟩, ?_⟩
  rintro m σ2 H2 ⟨μ, l, S, ss, sl, h⟩
  cases m with
  | zero => exact h.elim
  | succ n =>
    have q2 : tS G W (fun l S => (c l S).thenS l fun b S1 => if b = true then (match body l S1 with
      | .nx l2 S2 => loopW c body n l2 S2
      | .bk l2 S2 => .nx l2 S2
      | r => r) else .nx l S1) D σ2 H2 := ⟨μ, l, S, ss, sl, h⟩
    refine tR.imp (then_read (k := fun b l S1 => if b = true then (match body l S1 with
      | .nx l2 S2 => loopW c body n l2 S2
      | .bk l2 S2 => .nx l2 S2
      | r => r) else .nx l S1) (rel := relB) q2) fun b H3 ⟨μ3, l3, b', S3, s3, sl3, rb, h3⟩ => ?_
    have rb : b' = b := rb
    subst rb
    cases b' with
    | false => exact h3 μ3 H3 σ2 Grow.refl s3 sl3
    | true =>
      refine ⟨fun σ' H' => ∃ μ l S, SimS G μ S H' ∧ SimL G μ H' l σ' ∧ AftS G W D μ H' (loopW c body n l S), fun σ' H' z => ⟨n, Nat.lt_succ_self n, z⟩, μ3, l3, S3, s3, sl3, ?_⟩
      rw [if_pos rfl] at h3
      cases eb : body l3 S3 with
      | nx l4 S4 =>
        rw [eb] at h3
        exact fun μ4 H4 σ4 g4 s4 sl4 => ⟨μ4, l4, S4, s4, sl4, AftS.grow (r := loopW c body n l4 S4) h3 g4⟩
      | bk l4 S4 => rw [eb] at h3; exact h3
      | rt a S4 => rw [eb] at h3; exact h3
      | exc x l4 S4 => rw [eb] at h3; exact h3
      | no => rw [eb] at h3; exact h3.elim

/-! ### a def by its body -/
/-- the slots at the entry -/
def enter (n : Nat) (as : List A) : Loc := as.map some ++ List.replicate (n - as.length) none
/-- a def's denotation: np parameters, n names -/
def defn (np n : Nat) (body : DS) : List A → Store → Res A := fun as S => if as.length = np then (match body (enter n as) S with
  | .nx _ S' => .ok (.d .none) S'
  | .rt a S' => .ok a S'
  | .exc x _ S' => .exc x S'
  | _ => .no) else .no
theorem enter_sim {μ : List Addr} {H : Hp} {as : List A} {vs : List V} (r : RelAs G μ H as vs) : SimL G μ H (enter N.length as) (L2.start N vs) := by
  have hl := Paired.length r
  refine ⟨by simp [enter, L2.start, hl], fun i a h => ?_⟩
  unfold enter at h
  by_cases hi : i < as.length
  · rw [List.getElem?_append_left (by simpa using hi), List.getElem?_map, Option.map_eq_some_iff] at h
    obtain ⟨b, hb, e⟩ := h
    cases e
    obtain ⟨v, h1, h2⟩ := paired_get r hb
    refine ⟨v, ?_, h2⟩
    unfold L2.start
    rw [List.getElem?_append_left (by rw [List.length_map, ← hl]; exact hi), List.getElem?_map, h1]
    rfl
  · rw [List.getElem?_append_right (by simpa using hi), List.getElem?_replicate] at h
    split at h <;> cases h
/-- a def of the text keeps the promise that its denotation makes -/
theorem fn_good {f : Nat} {x qual : Str} {st : Stmt} {body : DS} {F' : Fns} (hF : Fun G.K x qual st (G.fa f) (G.fd f)) (hS : FnScope N (G.ps f) (defScope st)) (hb : SndSs G (defScope st) N (defBody st) body)
    (he : F' f = defn (G.ps f).length N.length body) : FnG G (G.k + 1) F' f := by
  refine hF.okX hS (fun vs H Q E h => h.1) fun cdv A outer s H vs Q E hr ⟨hl, μ, as, S, ss, ra, h⟩ => ?_
  have st' : StatS G (defScope st) N (cxOf (L2.CX G.P G.w) G.P G.w G.K G.mg G.base N qual (defScope st) (G.fa f) cdv A outer s H E) :=
    { prog := rfl, w := rfl, K := rfl, mg := rfl, base := rfl, scope := rfl, names := rfl, nd := hS.nd, calm := rfl, room := hr, own := passes_of rfl, fn := fun _ => rfl }
  have tk : Takes (cxOf (L2.CX G.P G.w) G.P G.w G.K G.mg G.base N qual (defScope st) (G.fa f) cdv A outer s H E) (fun c dd _ H' => E c dd H') := takes_of rfl rfl rfl rfl
  refine ⟨_, hb _ _ st' tk, μ, enter N.length as, S, ss, enter_sim ra, ?_⟩
  rw [he] at h
  unfold defn at h
  split at h
  · cases e : body (enter N.length as) S with
    | nx l S' => rw [e] at h; exact fun μ' H' σ' g s' sl => h μ' H' .non g s' .non
    | rt a S' => rw [e] at h; exact h
    | exc x l S' => rw [e] at h; exact fun μ' H' σ' c dd g s' sl => h μ' H' c dd g s'
    | bk l S' => rw [e] at h; exact h.elim
    | no => rw [e] at h; exact h.elim
  · exact h.elim
end
end Ev

/-! Ev9: list comprehensions. -/
namespace Ev
open PySem PySem.Spec PyProof.Rows L2

section
variable {G : Gl} {μ μ' : List Addr} {H H' H1 : Hp} {S : Store}
theorem Grow.upd_new {D : Addr} {vs : List V} {o : HO} (g : Grow μ μ' H H') (hn : H D = none) (hd : H' D = some (.lst vs)) : Grow μ μ' H (upd H' D o) := by
  refine ⟨g.ex, fun b ob h hm => ?_, fun b h => ?_, ⟨fun b xs h => ?_, fun b ob u h => ?_⟩⟩
  · rw [upd_ne (ne_of_none h hn)]; exact g.fr b ob h hm
  · by_cases z : b = D
    · rw [z, upd_same]; simp
    · rw [upd_ne z]; exact g.keep b h
  · rw [upd_ne (ne_of_none h hn)]; exact g.pers.tup b xs h
  · rw [upd_ne (ne_of_none h hn)]; exact g.pers.frz b ob u h
theorem pers_aside {D : Addr} {vs : List V} {o : HO} (hd : H D = some (.lst vs)) : Pers H (upd H D o) := upd_pers (fun _ z => by rw [hd] at z; cases z) (fun _ _ z => by rw [hd] at z; cases z)
theorem SimS.aside {D : Addr} {vs : List V} {o : HO} (h : SimS G μ S H) (nd : D ∉ μ) (hd : H D = some (.lst vs)) : SimS G μ S (upd H D o) := by
  refine ⟨h.nd, h.len, fun n c e => ?_, fun a ha => ?_⟩
  · obtain ⟨a, h1, h2⟩ := h.cells n c e
    refine ⟨a, h1, ?_⟩
    have hne : a ≠ D := fun z => nd (z ▸ List.mem_of_getElem? h1)
    simpa using CellOk.mono (pers_aside hd) [] (upd_ne hne) h2
  · rw [upd_ne (fun z : a = D => nd (by rw [← z]; exact ha))]; exact h.there a ha
theorem Grow.notin {D : Addr} {o : HO} (g : Grow μ μ' H H') (hd : H D = some o) (nd : D ∉ μ) : D ∉ μ' ∧ H' D = some o := by
  refine ⟨fun z => ?_, g.fr D o hd nd⟩
  obtain ⟨ν, rfl, hn⟩ := g.ex
  rcases List.mem_append.mp z with z | z
  · exact nd z
  · rw [hn D z] at hd; cases hd
theorem SimL.pers {l : Loc} {σ : L2.St} (p : Pers H H') (s : SimL G μ H l σ) : SimL G μ H' l σ := ⟨s.len, fun i a e => let ⟨v, h1, h2⟩ := s.at_ i a e; ⟨v, h1, by simpa using RelA.mono p [] h2⟩⟩
end

/-! ### a block's context -/
def wipeA (l : Loc) : List Nat → Loc
  | [] => l
  | v :: vs => (wipeA l vs).set v none
theorem wipe_sim {G : Gl} {μ : List Addr} {H : Hp} {l : Loc} {σ : L2.St} (s : SimL G μ H l σ) : ∀ vs : List Nat, SimL G μ H (wipeA l vs) (wipe σ vs)
  | [] => s
  | v :: vs => by
    have ih := wipe_sim s vs
    unfold wipeA wipe
    refine ⟨by rw [List.length_set, List.length_set]; exact ih.len, fun i a h => ?_⟩
    by_cases hv : v = i
    · subst hv
      by_cases hi : v < (wipeA l vs).length
      · rw [List.getElem?_set_self hi] at h; cases h
      · rw [List.getElem?_eq_none (by rw [List.length_set]; omega)] at h; cases h
    · rw [List.getElem?_set_ne hv] at h
      obtain ⟨w', h1, h2⟩ := ih.at_ i a h
      exact ⟨w', by rw [List.getElem?_set_ne hv]; exact h1, h2⟩
theorem wipe_at (σ : L2.St) (j : Nat) : ∀ vs : List Nat, (wipe σ vs)[j]? = if j ∈ vs ∧ j < σ.length then some none else σ[j]?
  | [] => by simp [wipe]
  | v :: vs => by
    unfold wipe
    by_cases h : v = j
    · subst h
      by_cases hl : v < σ.length
      · rw [List.getElem?_set_self (by rw [wipe_length]; exact hl), if_pos ⟨by simp, hl⟩]
      · rw [List.getElem?_eq_none (by rw [List.length_set, wipe_length]; omega), if_neg (fun z => hl z.2), List.getElem?_eq_none (by omega)]
    · rw [List.getElem?_set_ne h, wipe_at σ j vs]
      have e : (j ∈ v :: vs) ↔ j ∈ vs := by simp [Ne.symm h]
      simp [e]
theorem wipe_chg {is vs : List Nat} {σ σ' : L2.St} (hv : ∀ i ∈ is, i ∈ vs) (c : Chg is (wipe σ vs) σ') : wipe σ' vs = wipe σ vs := by
  refine List.ext_getElem? fun j => ?_
  rw [wipe_at, wipe_at]
  have hl := c.1
  rw [wipe_length] at hl
  by_cases h : j ∈ vs
  · by_cases h2 : j < σ.length
    · rw [if_pos ⟨h, by omega⟩, if_pos ⟨h, h2⟩]
    · rw [if_neg (fun z => by omega), if_neg (fun z => h2 z.2), List.getElem?_eq_none (by omega), List.getElem?_eq_none (by omega)]
  · rw [if_neg (fun z => h z.1), if_neg (fun z => h z.1), c.2 j (fun z => h (hv j z)), wipe_at, if_neg (fun z => h z.1)]
/-- the block's own names -/
def ownB (N : List Str) (own : List (Str × Nat)) : Bool := own.all fun p => N[p.2]? == some p.1
def gfB (scope sc' : Scope) (xs : List Str) : Bool := xs.all fun x => scope.names.lookup x == some .cell || sc'.names.lookup x == some .local
section
variable {G : Gl} {sc scope : Scope} {N : List Str} {pos p : Pos} {tg e elt iter tg1 iter1 : Expr} {da db de : DE} {ifs ifs1 : List Expr}
abbrev Wno : WX := fun _ _ _ _ => False
theorem Stat.blk {X : Cx} (st : Stat G sc N X) (s : Shared) (H : Hp) (C : Addr) (cl : List (Str × Addr)) (fp : List Addr) : Stat G (relS scope sc) N (X.blk s H scope (compEnvC scope cl C X.env) fp) := by
  refine { prog := st.prog, w := st.w, K := st.K, mg := st.mg, base := st.base, scope := ?_, names := st.names, nd := st.nd, calm := st.calm, room := st.room }
  show relS scope X.env.scope = _
  rw [st.scope]
theorem gf_blk {X : Cx} {xs : List Str} (st : Stat G sc N X) (h : gfB scope (relS scope sc) xs = true) (s : Shared) (H : Hp) (C : Addr) (cl : List (Str × Addr)) (fp : List Addr) : GF (X.blk s H scope (compEnvC scope cl C X.env) fp) xs := fun x hx => by
  have := List.all_eq_true.mp h x hx
  rw [Bool.or_eq_true] at this
  rcases this with h | h
  · exact .inl h
  · refine .inr ?_
    show (relS scope X.env.scope).names.lookup x = _
    rw [st.scope]
    simpa using h
def dTrue : DR Bool := fun _ S => .ok true S
def SndIf (G : Gl) (sc : Scope) (N : List Str) (ifs : List Expr) (t : DR Bool) : Prop := ∀ X W, Stat G sc N X → Takes X W → PTs X ifs (tT G W t)
theorem if_nil : SndIf G sc N [] dTrue := fun X W st tk => ⟨fun pins s σ H Q I q => pts_nil.run pins s σ H Q I (ret_read q fun _ => rfl)⟩
theorem if_one {c : Expr} {t : DR Bool} (h : SndT G sc N c t) : SndIf G sc N [c] t := fun X W st tk => pts_one (h X W st tk)

/-! ### [elt for tg in iter if ..] -/
/-- the turns of a comprehension; nothing is raised within -/
def compF {β : Type} (g : DG) (t : DR Bool) (k : β → Loc → Store → Res β) (l : Loc) : List D → β → Store → Res β
  | [], acc, S => .ok acc S
  | d :: ds, acc, S => match g (.d d) l with
    | some l1 => match t l1 S with
      | .ok true S2 => match k acc l1 S2 with
        | .ok acc2 S3 => compF g t k l ds acc2 S3
        | _ => .no
      | .ok false S2 => compF g t k l ds acc S2
      | _ => .no
    | none => .no
/-- an element is put behind -/
def putE (d : DE) : List D → Loc → Store → Res (List D) := fun acc l S => match d l S with
  | .ok (.d y) S' => if acc.length < 16777216 then .ok (acc ++ [y]) S' else .no
  | _ => .no
def dLc (di : DR (List D)) (vs : List Nat) (g : DG) (t : DR Bool) (d : DE) : DE := fun l S => (di l S).bind fun ds S1 => (compF g t (putE d) (wipeA l vs) ds [] S1).bind fun acc S2 => .ok (.d (.list acc)) S2
theorem lc_read {W : WX} {σ : L2.St} {H : Hp} {Q : VK} {di : DR (List D)} {vs : List Nat} {g : DG} {t : DR Bool} {d : DE} {X : Cx} {pins : List (Addr × Obj)} {is : List Nat} (hv : ∀ i ∈ is, i ∈ vs) (q : tE G W (dLc di vs g t d) σ H Q) {K : VK} (hk : ∀ v H1, (∀ σ' s', L2.Inv X pins σ' H1 s' → ∃ H2, L2.Inv X pins σ' H2 s' ∧ Q v H2) → K v H1) :
    tLc (tR G W (relI G) di) (tG G is g) (tT G Wno t) (tE G Wno d) vs σ H K := by
  obtain ⟨μ, l, S, ss, sl, q⟩ := q
  refine ⟨μ, l, S, ss, sl, Aft.imp (Aft.bind (rel' := relI G) q) fun J H1 _ ⟨ds, μ1, S1, g1, s1, yl, h1⟩ D hD => ?_⟩
  have sl1 := wipe_sim (sl.grow g1) vs
  have sm0 := same_new (o := HO.lst []) hD
  have nd0 : D ∉ μ1 := fun z => s1.there D z hD
  refine ⟨fun i m H => m = ds.length - i ∧ i ≤ ds.length ∧ ∃ μ2 S2 acc vs2, D ∉ μ2 ∧ H D = some (.lst vs2) ∧ DpFs G.w G.K H vs2 acc ∧ SimS G μ2 S2 H ∧ Grow μ1 μ2 H1 H ∧ Aft G (fun c dd H' => W c dd σ H') (RelA G) μ1 H1 ((compF g t (putE d) (wipeA l vs) (ds.drop i) acc S2).bind fun acc S2 => .ok (.d (.list acc)) S2) Q,
    ⟨ds.length, by simp, Nat.zero_le _, μ1, S1, [], [], nd0, upd_same, .nil, s1.same sm0, Grow.same sm0, by simpa using h1⟩, ?_⟩
  rintro i m H2 ⟨rfl, hi, μ2, S2, acc, vs2, nd, hd, fs, s2, g2, h⟩
  by_cases hlt : i < ds.length
  · obtain ⟨go, yld⟩ := (yl H2 g2.pers i).1 ds[i] (List.getElem?_eq_getElem hlt)
    rw [List.drop_eq_getElem_cons hlt] at h
    unfold compF at h
    split at h
    · rename_i l1 eg
      refine .inr ⟨go, fun H => ∃ μ2 S2 acc vs2, D ∉ μ2 ∧ H D = some (.lst vs2) ∧ DpFs G.w G.K H vs2 acc ∧ SimS G μ2 S2 H ∧ Grow μ1 μ2 H1 H ∧ Aft G (fun c dd H' => W c dd σ H') (RelA G) μ1 H1 ((compF g t (putE d) (wipeA l vs) (ds.drop (i + 1)) acc S2).bind fun acc S2 => .ok (.d (.list acc)) S2) Q,
        fun H' z => ⟨ds.length - (i + 1), by omega, rfl, hlt, z⟩, fun x H3 y => ?_⟩
      obtain ⟨sm, rx⟩ := yld x H3 y
      have gr := Grow.same (μ := μ2) sm
      refine ⟨μ2, .d ds[i], wipeA l vs, l1, S2, s2.same sm, (sl1.grow g2).grow gr, rx, eg, fun H4 σ4 sm4 sl4 ch => ⟨wipe_chg hv ch, ?_⟩⟩
      have gr4 := Grow.same (μ := μ2) sm4
      have s4 := (s2.same sm).same sm4
      have g4 := (g2.trans gr).trans gr4
      have hd4 : H4 D = some (.lst vs2) := sm4 _ _ (sm _ _ hd)
      have fs4 := (fs.mono (Pers.of sm)).mono (Pers.of sm4)
      refine ⟨μ2, l1, S2, s4, sl4, ?_⟩
      split at h
      · rename_i S5 et
        rw [et]
        refine fun μ5 H5 b g5 s5 rb => ?_
        have rb : true = b := rb
        subst rb
        change if true = true then _ else _
        rw [if_pos rfl]
        obtain ⟨nd5, hd5⟩ := g5.notin hd4 nd
        refine ⟨μ5, l1, S5, s5, sl4.grow g5, ?_⟩
        unfold putE at h
        cases ed : d l1 S5 with
        | no => rw [ed] at h; exact h.elim
        | exc x S6 => rw [ed] at h; exact h.elim
        | ok a S6 =>
          rw [ed] at h
          cases a with
          | d y =>
            simp only at h
            refine fun μ6 H6 v g6 s6 rv => ?_
            obtain ⟨nd6, hd6⟩ := g6.notin hd5 nd5
            have fs6 := (fs4.mono g5.pers).mono g6.pers
            split at h
            · rename_i acc2 S7 e7
              split at e7
              · rename_i hz
                cases e7
                refine ⟨vs2, hd6, by rw [fs6.length, line_eq]; exact hz, μ6, _, _, vs2 ++ [v], nd6, upd_same, ?_, s6.aside nd6 hd6, ((g4.trans g5).trans g6).upd_new hD hd6, h⟩
                exact (fs6.append (.cons rv .nil)).mono (pers_aside hd6)
              · cases e7
            · exact h.elim
          | loc n => exact h.elim
          | fn n => exact h.elim
      · rename_i S5 et
        rw [et]
        refine fun μ5 H5 b g5 s5 rb => ?_
        have rb : false = b := rb
        subst rb
        change if false = true then _ else _
        rw [if_neg Bool.false_ne_true]
        obtain ⟨nd5, hd5⟩ := g5.notin hd4 nd
        exact ⟨μ5, S5, acc, vs2, nd5, hd5, fs4.mono g5.pers, s5, g4.trans g5, h⟩
      · exact h.elim
    · exact h.elim
  · have e : i = ds.length := by omega
    subst e
    rw [List.drop_length] at h
    refine .inl ⟨(yl H2 g2.pers _).2 (Nat.le_refl _), hk _ _ fun σ' s' I => ?_⟩
    obtain ⟨ob, I2⟩ := freezeL I hd
    have p2 : Pers H2 (upd H2 D (.frz ob (.lst vs2))) := pers_aside hd
    exact ⟨_, I2, h μ2 _ _ (g2.upd_new hD hd) (s2.aside nd hd) (.lst (.inl ⟨ob, upd_same⟩) (fs.mono p2))⟩
theorem r_lc {own : List (Str × Nat)} {xs : List Str} {is : List Nat} {g : DG} {t : DR Bool} {d : DE} {di : DR (List D)} (hi : SndI G sc N tg iter di) (ok : BlkOk N sc scope own) (hg : SndG G (relS scope sc) N xs is tg g) (hx : gfB scope (relS scope sc) xs = true) (hv : ∀ i ∈ is, i ∈ own.map (·.2))
    (ht : SndIf G (relS scope sc) N ifs t) (he : Snd G (relS scope sc) N elt d) (hs : ∀ env x, foldedSetIterable iter env x = pure x := by intro _ _; rfl) : Snd G sc N (.ListComp elt [⟨tg, iter, ifs, 0⟩] scope pos) (dLc di (own.map (·.2)) g t d) := fun X W st tk =>
  PE_ghost (pe_lc st.calm (by rw [st.names]; exact st.nd) (hi X W st tk) (by rw [st.names, st.scope]; exact ok) (fun s H C cl fp => hg _ (st.blk s H C cl fp) (gf_blk st hx s H C cl fp)) (fun s H C cl fp => ht _ Wno (st.blk s H C cl fp) takes0) (fun s H C cl fp => he _ Wno (st.blk s H C cl fp) takes0) (hs X.env))
    fun pins s σ H Q q => lc_read (X := X) (pins := pins) hv q fun v H1 h s' I => h σ s' I
/-- y = [..] on one line, y a local name -/
theorem r_setLc {i : Nat} {y : Str} {py spos : Pos} {own : List (Str × Nat)} {xs : List Str} {is : List Nat} {g : DG} {t : DR Bool} {d : DE} {di : DR (List D)} (hy : N[i]? = some y) (hyl : sc.names.lookup y = some .local)
    (hl : (py.line == pos.line) = true) (hn : (scope.names.any fun (n, k) => n == y && (k == .local || k == .cell)) = false) (hi : SndI G sc N tg iter di) (ok : BlkOk N sc scope own) (hg : SndG G (relS scope sc) N xs is tg g) (hx : gfB scope (relS scope sc) xs = true) (hv : ∀ i ∈ is, i ∈ own.map (·.2))
    (ht : SndIf G (relS scope sc) N ifs t) (he : Snd G (relS scope sc) N elt d) (hs : ∀ env x, foldedSetIterable iter env x = pure x := by intro _ _; rfl) (hk : sc.kind = .function) : SndS G sc N (.Assign [.Name y py] (.ListComp elt [⟨tg, iter, ifs, 0⟩] scope pos) spos) (dAsg (gN i) (dLc di (own.map (·.2)) g t d)) := fun X W st tk => by
  have hp : PS X (.Assign [.Name y py] (.ListComp elt [⟨tg, iter, ifs, 0⟩] scope pos) spos) (tAsg (tLc (tR G W (relI G) di) (tG G is g) (tT G Wno t) (tE G Wno d) (own.map (·.2))) (gName i)) :=
    ps_setLc st.calm (by rw [st.names]; exact st.nd) (by rw [st.names]; exact hy) (by rw [st.scope]; exact hyl) (sw_true (by rw [st.scope]; exact hk) (by rw [st.scope]; exact hyl) hl hn) (hi X W st.toStat tk) (by rw [st.names, st.scope]; exact ok)
      (fun s H C cl fp => hg _ (st.toStat.blk s H C cl fp) (gf_blk st.toStat hx s H C cl fp)) (fun s H C cl fp => ht _ Wno (st.toStat.blk s H C cl fp) takes0) (fun s H C cl fp => he _ Wno (st.toStat.blk s H C cl fp) takes0) (hs X.env)
  refine ⟨fun pins s σ H D I q => ?_⟩
  -- the ghost step stands behind the store
  refine thn (hp.run pins s σ H { D with nx := fun σ' H' => ∀ s', L2.Inv X pins σ' H' s' → ∃ H2, L2.Inv X pins σ' H2 s' ∧ D.nx σ' H2 } I ?_) fun f s' h => ?_
  · exact lc_read (X := X) (pins := pins) hv (gN_read q : tAsg (tE G W (dLc di (own.map (·.2)) g t d)) (gName i) D σ H) fun v H1 h s' I => h (σ.set i (some v)) s' I
  · cases f with
    | next => obtain ⟨σ', H', I', z⟩ := h; obtain ⟨H2, I2, z2⟩ := z s' I'; exact ⟨σ', H2, I2, z2⟩
    | ret v => exact h
    | brk => exact h
    | cont => exact h
end
end Ev

/-! Ev10: dicts: {}, d[k] = v, d[k], k in d, len(d). -/
namespace Ev
open PySem PySem.Spec PyProof.Rows L2

/-! ### plain -/
def isTup : D → Bool
  | .tuple _ => true
  | _ => false
def keyB : D → Bool
  | .int _ => true
  | .str _ => true
  | .tuple ds => match keyOf (.tuple ds) with
    | some nk => decide (nk.depth ≤ 8)
    | none => false
  | _ => false
/-- the keys are like k -/
def uni (kvs : List (D × A)) (k : D) : Bool := keyB k && kvs.all fun p => isTup p.1 == isTup k
def dGet (kvs : List (D × A)) (k : D) : Option A := (kvs.find? fun p => decide (keyOf p.1 = keyOf k)).map (·.2)
def dPut (kvs : List (D × A)) (k : D) (v : A) : List (D × A) := if (dGet kvs k).isSome = true then kvs.map (fun p => if keyOf p.1 = keyOf k then (p.1, v) else p) else kvs ++ [(k, v)]
theorem keyOf_tup {d : D} {nk : NestedKey} (h : keyOf d = some nk) (ht : isTup d = true) : ∃ ks, nk = .tup ks := by
  cases d with
  | tuple ds =>
    rw [keyOf, Option.map_eq_some_iff] at h
    obtain ⟨ks, _, e⟩ := h
    exact ⟨ks, e.symm⟩
  | _ => simp [isTup] at ht
theorem keyOf_leaf (k : Key) : keyOf (leafD k) = some (match k with | .inl i => .num i | .inr x => .text x) := by
  cases k <;> rfl
theorem leaf_inj {k j : Key} : keyOf (leafD k) = keyOf (leafD j) ↔ k = j := by
  rw [keyOf_leaf, keyOf_leaf]
  cases k <;> cases j <;> simp
theorem papp {α β : Type} {R : α → β → Prop} : ∀ {xs xs' : List α} {ys ys' : List β}, Paired R xs ys → Paired R xs' ys' → Paired R (xs ++ xs') (ys ++ ys')
  | _, _, _, _, .nil, h => h
  | _, _, _, _, .cons r t, h => .cons r (papp t h)
theorem pnil {α β : Type} {R : α → β → Prop} {ys : List β} (h : Paired R [] ys) : ys = [] := by cases h; rfl
theorem pcons {α β : Type} {R : α → β → Prop} {x : α} {xs : List α} {ys : List β} (h : Paired R (x :: xs) ys) : ∃ y t, ys = y :: t ∧ R x y ∧ Paired R xs t := by cases h with | cons r t => exact ⟨_, _, rfl, r, t⟩
theorem nodup_some {α : Type} {l : List α} : (l.map some).Nodup ↔ l.Nodup := by
  induction l with
  | nil => simp
  | cons x l ih => rw [List.map_cons, List.nodup_cons, List.nodup_cons, ih]; simp
section
/-- what is found, in both -/
theorem get_L {R : A → Value → Prop} (k : Key) : ∀ {kvs : List (D × A)} {vs : List (Key × Value)}, Paired (fun p q => p.1 = leafD q.1 ∧ R p.2 q.2) kvs vs → (dGet kvs (leafD k) = none ∧ valueAt vs k = none) ∨ ∃ x u, dGet kvs (leafD k) = some x ∧ valueAt vs k = some u ∧ R x u
  | _, _, .nil => .inl ⟨rfl, rfl⟩
  | (kd, x) :: kvs, (j, u) :: vs, .cons r t => by
    obtain ⟨e, r⟩ := r
    have e : kd = leafD j := e
    subst e
    unfold dGet valueAt
    rw [List.find?_cons, List.find?_cons]
    by_cases h : j = k
    · subst h
      simp only [decide_true]
      exact .inr ⟨x, u, rfl, rfl, r⟩
    · rw [decide_eq_false (fun z => h (leaf_inj.mp z)), decide_eq_false h]
      exact get_L k t
theorem any_at (vs : List (Key × Value)) (k : Key) : (vs.any fun kv => decide (kv.1 = k)) = (valueAt vs k).isSome := by
  unfold valueAt
  rw [Option.isSome_map, List.isSome_find?]
theorem put_L {R : A → Value → Prop} (k : Key) {x : A} {u : Value} (rx : R x u) {kvs : List (D × A)} {vs : List (Key × Value)} (h : Paired (fun p q => p.1 = leafD q.1 ∧ R p.2 q.2) kvs vs) : Paired (fun p q => p.1 = leafD q.1 ∧ R p.2 q.2) (dPut kvs (leafD k) x) (stored vs k u) := by
  have hs : (dGet kvs (leafD k)).isSome = (vs.any fun kv => decide (kv.1 = k)) := by
    rw [any_at]
    rcases get_L k h with ⟨e1, e2⟩ | ⟨_, _, e1, e2, _⟩ <;> rw [e1, e2] <;> rfl
  unfold dPut stored
  rw [hs]
  split
  · rename_i hc
    clear hs hc
    induction h with
    | nil => exact .nil
    | @cons p q _ _ r t ih =>
      rw [List.map_cons, List.map_cons]
      refine .cons ?_ ih
      obtain ⟨kd, y⟩ := p
      obtain ⟨j, z⟩ := q
      obtain ⟨e, r⟩ := r
      have e : kd = leafD j := e
      subst e
      by_cases hj : j = k
      · subst hj; rw [if_pos rfl, if_pos rfl]; exact ⟨rfl, rx⟩
      · rw [if_neg hj, if_neg (fun z => hj (leaf_inj.mp z))]; exact ⟨rfl, r⟩
  · exact papp h (.cons ⟨rfl, rx⟩ .nil)
theorem get_T {R : D × A → NestedKey × Addr × Value → Prop} {k : D} {nk : NestedKey} (hk : keyOf k = some nk) : ∀ {kvs : List (D × A)} {xs : List (NestedKey × Addr × Value)}, Paired (fun p q => keyOf p.1 = some q.1 ∧ R p q) kvs xs →
    (dGet kvs k = none ∧ atKey xs nk = none) ∨ ∃ p q, dGet kvs k = some p.2 ∧ atKey xs nk = some q.2 ∧ R p q
  | _, _, .nil => .inl ⟨rfl, rfl⟩
  | p :: kvs, q :: xs, .cons r t => by
    obtain ⟨e, r⟩ := r
    unfold dGet atKey
    rw [List.find?_cons, List.find?_cons, e, hk]
    by_cases h : q.1 = nk
    · rw [decide_eq_true (by rw [h]), decide_eq_true h]
      exact .inr ⟨p, q, rfl, rfl, r⟩
    · rw [decide_eq_false (fun z => h (Option.some.inj z)), decide_eq_false h, ← hk]
      exact get_T hk t
theorem put_T {R : D × A → NestedKey × Addr × Value → Prop} {k : D} {nk : NestedKey} (hk : keyOf k = some nk) {x : A} {b : Addr} {u : Value} (rn : R (k, x) (nk, b, u)) (ro : ∀ p q, R p q → R (p.1, x) (q.1, q.2.1, u)) {kvs : List (D × A)} {xs : List (NestedKey × Addr × Value)}
    (h : Paired (fun p q => keyOf p.1 = some q.1 ∧ R p q) kvs xs) : Paired (fun p q => keyOf p.1 = some q.1 ∧ R p q) (dPut kvs k x) (storedH xs nk b u) := by
  have hs : (dGet kvs k).isSome = (atKey xs nk).isSome := by
    rcases get_T hk h with ⟨e1, e2⟩ | ⟨_, _, e1, e2, _⟩ <;> rw [e1, e2] <;> rfl
  unfold dPut storedH
  rw [hs]
  split
  · rename_i hc
    clear hs hc
    induction h with
    | nil => exact .nil
    | @cons p q _ _ r t ih =>
      rw [List.map_cons, List.map_cons]
      refine .cons ?_ ih
      obtain ⟨e, r⟩ := r
      unfold putAt
      rw [e, hk]
      by_cases hj : q.1 = nk
      · rw [if_pos hj, if_pos (by rw [hj])]; exact ⟨e, ro _ _ r⟩
      · rw [if_neg hj, if_neg (fun z => hj (Option.some.inj z))]; exact ⟨e, r⟩
  · exact papp h (.cons ⟨hk, rn⟩ .nil)
end

/-! ### in the heap -/
section
variable {G : Gl} {X : Cx} {pins : List (Addr × Obj)} {σ : L2.St} {H : Hp} {s : Shared} {μ : List Addr} {a : Addr} {kvs : List (D × A)}
mutual
theorem nested_of (I : L2.Inv X pins σ H s) (hK : X.K = G.K) : ∀ {d : D} {v : V} {u : Value} {nk : NestedKey}, DpF G.w G.K H v d → RelV v u → keyOf d = some nk → NestedIs s.heap nk u
  | .none, _, _, _, .non, r, h => by cases h; cases r; exact .none
  | .bool b, _, _, _, .bl _, r, h => by cases h; cases r; exact .bool rfl
  | .int i, _, _, _, .int _, r, h => by cases h; obtain ⟨t, rfl⟩ := r; exact .int i t
  | .str x, _, _, _, .str _, r, h => by cases h; obtain ⟨t, rfl⟩ := r; exact .text x t
  | .tuple ds, _, _, _, .tup sq fs, r, h => by
    rw [keyOf, Option.map_eq_some_iff] at h
    obtain ⟨ks, hk, e⟩ := h
    subst e
    cases r
    obtain ⟨its, rv, ⟨ob, e1, e2, n, e3⟩, _⟩ := I.tuple (by rw [hK]; exact sq)
    exact .tup e1 e2 e3 (nesteds_of I hK fs rv hk)
theorem nesteds_of (I : L2.Inv X pins σ H s) (hK : X.K = G.K) : ∀ {ds : List D} {vs : List V} {us : List Value} {ks : List NestedKey}, DpFs G.w G.K H vs ds → Vals vs us → keyOf.keysOf ds = some ks → NestedAll s.heap ks us
  | [], _, _, _, .nil, .nil, h => by cases h; exact .nil
  | d :: ds, _, _, _, .cons a b, .cons r t, h => by
    rw [keyOf.keysOf] at h
    split at h
    · rename_i k ks e1 e2
      cases h
      exact .cons (nested_of I hK a r e1) (nesteds_of I hK b t e2)
    · cases h
end
/-- a dict with int and text keys, in the heap -/
theorem dic_L (I : L2.Inv X pins σ H s) (c : CellOk G μ H a (.dic kvs)) (hk : ∀ p ∈ kvs, isTup p.1 = false) : ∃ vs : List (Key × Value), s.heap.DictOf (mixKind X.prog X.w) a vs ∧ vs.length ≤ sizeLine ∧ (a == sysModules) = false ∧ Paired (fun p q => p.1 = leafD q.1 ∧ ∃ v, RelV v q.2 ∧ RelA G μ H p.2 v) kvs vs := by
  rcases c with ⟨ks, h1, h2⟩ | ⟨ne, o, es, ep, h1, h2, h3, h4, h5, h6, h7⟩
  · obtain ⟨z, lo, vs, rel, dd⟩ := dk_of I.hok h1
    refine ⟨vs, dd, by rw [← rel.length]; exact z, lo, ?_⟩
    clear h1 z dd hk
    induction h2 generalizing vs with
    | nil => cases rel; exact .nil
    | cons r t ih =>
      cases rel with
      | cons r2 t2 =>
        obtain ⟨a1, a2⟩ := r2
        exact .cons ⟨by rw [← a1]; exact r.1, _, a2, r.2⟩ (ih _ t2)
  · cases kvs with
    | nil => exact absurd rfl ne
    | cons p kvs =>
      obtain ⟨e, er, _, r, _⟩ := pcons h7
      · obtain ⟨ks, b, vv, a1, _⟩ := r
        have := hk p (by simp)
        cases hp : p.1 with
        | tuple ds => rw [hp] at this; simp [isTup] at this
        | _ => rw [hp] at a1; simp [keyOf] at a1
abbrev TR (G : Gl) (μ : List Addr) (H : Hp) (p : D × A) (q : NestedKey × Addr × Value) : Prop := (∃ ks, q.1 = .tup ks) ∧ q.1.depth ≤ 8 ∧ DpF G.w G.K H (.ref q.2.1) p.1 ∧ ∃ v, RelV v q.2.2 ∧ RelA G μ H p.2 v
/-- one with tuple keys -/
theorem dic_T (I : L2.Inv X pins σ H s) (hX : Here G X) (c : CellOk G μ H a (.dic kvs)) (hk : ∀ p ∈ kvs, isTup p.1 = true) : ∃ xs : List (NestedKey × Addr × Value), s.heap.DictOfH (nestedKind X.prog X.w) a xs ∧ xs.length ≤ sizeLine ∧ (a == sysModules) = false ∧ Paired (fun p q => keyOf p.1 = some q.1 ∧ TR G μ H p q) kvs xs := by
  rcases c with ⟨ks, h1, h2⟩ | ⟨ne, o, es, ep, h1, h2, h3, h4, h5, h6, h7⟩
  · cases h2 with
    | nil =>
      obtain ⟨z, lo, vs, rel, o, es, ep, g1, g2, g3, g4, g5, g6⟩ := dk_of I.hok h1
      cases rel
      have e : es.toList = [] := by
        generalize es.toList = l at g5
        cases g5; rfl
      exact ⟨[], ⟨o, es, ep, g1, g2, g3, e, fun x hx => (nomatch hx), List.nodup_nil⟩, Nat.zero_le _, lo, .nil⟩
    | @cons p q _ _ r t =>
      have := hk _ (List.mem_cons_self ..)
      rw [r.1] at this
      obtain ⟨q, _⟩ := q
      cases q <;> simp [leafD, isTup] at this
  · have ho : s.heap.get? a = some o := (I.hok a _ h1).1
    have key : ∀ {kvs : List (D × A)} {es : List DictEntry}, Paired (EntR G μ H) kvs es → ∃ xs : List (NestedKey × Addr × Value), es = xs.map (entryOfKey (nestedKind X.prog X.w)) ∧ (∀ x ∈ xs, (nestedKind X.prog X.w).is s.heap x.1 x.2.1) ∧ xs.map (fun x => some x.1) = kvs.map (fun p => keyOf p.1) ∧ Paired (fun p q => keyOf p.1 = some q.1 ∧ TR G μ H p q) kvs xs := by
      intro kvs es h
      induction h with
      | nil => exact ⟨[], rfl, fun x hx => (nomatch hx), rfl, .nil⟩
      | @cons p e _ _ r t ih =>
        obtain ⟨xs, i1, i2, i3, i4⟩ := ih
        obtain ⟨ks, b, vv, a1, a2, a3, a4, a5, a6, a7⟩ := r
        refine ⟨(.tup ks, b, e.val) :: xs, ?_, fun x hx => ?_, ?_, .cons ⟨a1, ⟨ks, rfl⟩, a2, a6, vv, a5, a7⟩ i4⟩
        · rw [List.map_cons, ← i1]
          congr 1
          obtain ⟨eh, ek, ev⟩ := e
          show _ = (⟨(nestedKind X.prog X.w).hash (.tup ks), .ref b, ev⟩ : DictEntry)
          have a3 : eh = _ := a3
          have a4 : ek = _ := a4
          rw [a3, a4, ← hX.w]
          rfl
        · rcases List.mem_cons.mp hx with rfl | hx
          · exact ⟨nested_of I hX.K a6 rfl a1, a2⟩
          · exact i2 x hx
        · rw [List.map_cons, List.map_cons, i3, a1]
    obtain ⟨xs, i1, i2, i3, i4⟩ := key h7
    refine ⟨xs, ⟨o, es, ep, ho, h2, h3, i1, i2, ?_⟩, ?_, h4, i4⟩
    · rw [← i3] at h6
      have e : xs.map (fun x => some x.1) = (xs.map (·.1)).map some := by rw [List.map_map]; rfl
      rw [e] at h6
      exact nodup_some.mp h6
    · have := congrArg List.length i1
      rw [List.length_map, Array.length_toList] at this
      omega
theorem keyB_cases {k : D} (h : keyB k = true) : (∃ j : Key, k = leafD j) ∨ ∃ ds ks, k = .tuple ds ∧ keyOf k = some (.tup ks) ∧ NestedKey.depth (.tup ks) ≤ 8 := by
  cases k with
  | int i => exact .inl ⟨.inl i, rfl⟩
  | str x => exact .inl ⟨.inr x, rfl⟩
  | tuple ds =>
    cases e : keyOf (.tuple ds) with
    | none => simp [keyB, e] at h
    | some nk =>
      obtain ⟨ks, rfl⟩ := keyOf_tup e rfl
      exact .inr ⟨ds, ks, rfl, rfl, by simpa [keyB, e] using h⟩
  | _ => simp [keyB] at h
theorem uni_of {k : D} (h : uni kvs k = true) : keyB k = true ∧ ∀ p ∈ kvs, isTup p.1 = isTup k := by
  unfold uni at h
  rw [Bool.and_eq_true, List.all_eq_true] at h
  exact ⟨h.1, fun p hp => by simpa using h.2 p hp⟩
theorem leaf_rel {j : Key} {y : V} {u : Value} {K : PySem.W.Frag} {w : World} (r : DpF w K H y (leafD j)) (ry : RelV y u) : (mixKind X.prog X.w).is j u = true := by
  cases j with
  | inl i => cases r; exact kV_is (k := .inl i) ry
  | inr x => cases r; exact kV_is (k := .inr x) ry
theorem nest_room (hX : Here G X) : (nestedKind X.prog X.w).room X.A.in1 := by
  have := hX.hu
  show X.A.in1.units + 8 < cLine
  show X.A.units + 1 + 8 < cLine
  omega
/-- d[k] -/
theorem dic_get (I : L2.Inv X pins σ H s) (hX : Here G X) (c : CellOk G μ H a (.dic kvs)) {k : D} {y : V} {u : Value} {x : A} {E : Value → Shared → Prop} {Q : Value → Shared → Prop} (hk : uni kvs k = true) (ry : DpF G.w G.K H y k) (rv : RelV y u) (hx : dGet kvs k = some x)
    (h : ∀ v r s', L2.Inv X pins σ H s' → RelV v r → RelA G μ H x v → Q r s') : wpAny (model X.prog X.w) X.A (getItem (.ref a) u) Q E s := by
  obtain ⟨h1, h2⟩ := uni_of hk
  rcases keyB_cases h1 with ⟨j, rfl⟩ | ⟨ds, ks, rfl, e, dp⟩
  · obtain ⟨vs, dd, z, lo, rel⟩ := dic_L I c fun p hp => by rw [h2 p hp]; cases j <;> rfl
    rcases get_L (R := fun a u => ∃ v, RelV v u ∧ RelA G μ H a v) j rel with ⟨e1, _⟩ | ⟨x', r, e1, e2, v, r1, r2⟩
    · rw [e1] at hx; cases hx
    · rw [e1] at hx; cases hx
      exact wpAny_getItem_of (leaf_rel ry rv) dd.mapOf e2 (h v r _ (I.tok _) r1 r2)
  · obtain ⟨xs, dd, z, lo, rel⟩ := dic_T I hX c h2
    rcases get_T (R := TR G μ H) e rel with ⟨e1, _⟩ | ⟨p, q, e1, e2, _, _, _, v, r1, r2⟩
    · rw [e1] at hx; cases hx
    · rw [e1] at hx; cases hx
      obtain ⟨b, rfl⟩ : ∃ b, y = .ref b := by cases ry; exact ⟨_, rfl⟩
      cases rv
      exact wpAny_getItem_heap (nest_room hX) ⟨nested_of I hX.K ry rfl e, dp⟩ dd e2 (h v _ _ (I.tok _) r1 r2)
/-- k in d, k not in d -/
theorem dic_in (I : L2.Inv X pins σ H s) (hX : Here G X) (c : CellOk G μ H a (.dic kvs)) {k : D} {y : V} {u : Value} {E : Value → Shared → Prop} {Q : Value → Shared → Prop} (hk : uni kvs k = true) (ry : DpF G.w G.K H y k) (rv : RelV y u)
    (h : ∀ s', L2.Inv X pins σ H s' → Q (.bool (dGet kvs k).isSome) s') : wpAny (model X.prog X.w) X.A (compareOp .In u (.ref a)) Q E s := by
  obtain ⟨h1, h2⟩ := uni_of hk
  rcases keyB_cases h1 with ⟨j, rfl⟩ | ⟨ds, ks, rfl, e, dp⟩
  · obtain ⟨vs, dd, z, lo, rel⟩ := dic_L I c fun p hp => by rw [h2 p hp]; cases j <;> rfl
    refine wpAny_in_of (leaf_rel ry rv) lo dd.mapOf ?_
    have e : (dGet kvs (leafD j)).isSome = (valueAt vs j).isSome := by
      rcases get_L (R := fun a u => ∃ v, RelV v u ∧ RelA G μ H a v) j rel with ⟨e1, e2⟩ | ⟨_, _, e1, e2, _⟩ <;> rw [e1, e2] <;> rfl
    rw [← e]
    exact h _ (I.tok _)
  · obtain ⟨xs, dd, z, lo, rel⟩ := dic_T I hX c h2
    obtain ⟨b, rfl⟩ : ∃ b, y = .ref b := by cases ry; exact ⟨_, rfl⟩
    cases rv
    refine wpAny_in_heap (nest_room hX) ⟨nested_of I hX.K ry rfl e, dp⟩ lo dd ?_
    have e : (dGet kvs (.tuple ds)).isSome = (atKey xs (.tup ks)).isSome := by
      rcases get_T (R := TR G μ H) e rel with ⟨e1, e2⟩ | ⟨_, _, e1, e2, _⟩ <;> rw [e1, e2] <;> rfl
    rw [← e]
    exact h _ (I.tok _)
theorem dic_notIn (I : L2.Inv X pins σ H s) (hX : Here G X) (c : CellOk G μ H a (.dic kvs)) {k : D} {y : V} {u : Value} {E : Value → Shared → Prop} {Q : Value → Shared → Prop} (hk : uni kvs k = true) (ry : DpF G.w G.K H y k) (rv : RelV y u)
    (h : ∀ s', L2.Inv X pins σ H s' → Q (.bool (!(dGet kvs k).isSome)) s') : wpAny (model X.prog X.w) X.A (compareOp .NotIn u (.ref a)) Q E s := by
  obtain ⟨h1, h2⟩ := uni_of hk
  rcases keyB_cases h1 with ⟨j, rfl⟩ | ⟨ds, ks, rfl, e, dp⟩
  · obtain ⟨vs, dd, z, lo, rel⟩ := dic_L I c fun p hp => by rw [h2 p hp]; cases j <;> rfl
    refine wpAny_notIn_of (leaf_rel ry rv) lo dd.mapOf ?_
    have e : (dGet kvs (leafD j)).isSome = (valueAt vs j).isSome := by
      rcases get_L (R := fun a u => ∃ v, RelV v u ∧ RelA G μ H a v) j rel with ⟨e1, e2⟩ | ⟨_, _, e1, e2, _⟩ <;> rw [e1, e2] <;> rfl
    rw [← e]
    exact h _ (I.tok _)
  · obtain ⟨xs, dd, z, lo, rel⟩ := dic_T I hX c h2
    obtain ⟨b, rfl⟩ : ∃ b, y = .ref b := by cases ry; exact ⟨_, rfl⟩
    cases rv
    refine wpAny_notIn_heap (nest_room hX) ⟨nested_of I hX.K ry rfl e, dp⟩ lo dd ?_
    have e : (dGet kvs (.tuple ds)).isSome = (atKey xs (.tup ks)).isSome := by
      rcases get_T (R := TR G μ H) e rel with ⟨e1, e2⟩ | ⟨_, _, e1, e2, _⟩ <;> rw [e1, e2] <;> rfl
    rw [← e]
    exact h _ (I.tok _)
theorem pers_dic (c : CellOk G μ H a (.dic kvs)) {o : HO} : Pers H (upd H a o) := by
  rcases c with ⟨ks, h1, h2⟩ | ⟨_, o', es, ep, h1, _⟩
  · exact upd_pers (fun _ z => by rw [h1] at z; cases z) (fun _ _ z => by rw [h1] at z; cases z)
  · exact upd_pers (fun _ z => by rw [h1] at z; cases z) (fun _ _ z => by rw [h1] at z; cases z)
theorem mut_dic (c : CellOk G μ H a (.dic kvs)) : Mut (H a) := by
  rcases c with ⟨ks, h1, h2⟩ | ⟨_, o', es, ep, h1, _⟩ <;> rw [h1] <;> trivial
theorem len_dPut (kvs : List (D × A)) (k : D) (v : A) : (dPut kvs k v).length ≤ kvs.length + 1 := by
  unfold dPut
  split <;> simp
theorem dPut_ne (kvs : List (D × A)) (k : D) (v : A) : dPut kvs k v ≠ [] := by
  unfold dPut
  split
  · rename_i h
    cases kvs with
    | nil => simp [dGet] at h
    | cons p r => simp
  · simp
/-- d[k] = v -/
theorem dic_set (I : L2.Inv X pins σ H s) (hX : Here G X) (c : CellOk G μ H a (.dic kvs)) {k : D} {y z : V} {u r : Value} {x : A} {E : Value → Shared → Prop} {Q : Unit → Shared → Prop} (hk : uni kvs k = true) (hz : kvs.length < 16777216) (ry : DpF G.w G.K H y k) (rv : RelV y u) (rx : RelA G μ H x z) (rz : RelV z r)
    (h : ∀ o s', L2.Inv X pins σ (upd H a o) s' → CellOk G μ (upd H a o) a (.dic (dPut kvs k x)) → Q () s') : wpAny (model X.prog X.w) X.A (setItem (.ref a) u r) Q E s := by
  obtain ⟨h1, h2⟩ := uni_of hk
  have hl : (dPut kvs k x).length ≤ sizeLine := by
    have := len_dPut kvs k x
    rw [line_eq]; omega
  rcases keyB_cases h1 with ⟨j, rfl⟩ | ⟨ds, ks, rfl, e, dp⟩
  · obtain ⟨vs, dd, z', lo, rel⟩ := dic_L I c fun p hp => by rw [h2 p hp]; cases j <;> rfl
    refine wpAny_setItem_pairs (hsz := z') (leaf_rel ry rv) dd fun h' dd' hs => ?_
    have he : ∃ q, h'.get? a = some q := let ⟨q, _, _, hq, _⟩ := dd'; ⟨q, hq⟩
    have rel' := put_L (R := fun a u => ∃ v, RelV v u ∧ RelA G μ H a v) j (x := x) ⟨z, rz, rx⟩ rel
    -- the values
    have mk : ∀ {kvs : List (D × A)} {vs : List (Key × Value)}, Paired (fun p q => p.1 = leafD q.1 ∧ ∃ v, RelV v q.2 ∧ RelA G μ H p.2 v) kvs vs → ∃ ks : List (Key × V), KV ks vs ∧ Paired (LeafR G μ H) kvs ks := by
      intro kvs vs h
      induction h with
      | nil => exact ⟨[], .nil, .nil⟩
      | @cons p q _ _ r t ih =>
        obtain ⟨ks, i1, i2⟩ := ih
        obtain ⟨e1, v, r1, r2⟩ := r
        exact ⟨(q.1, v) :: ks, .cons ⟨rfl, r1⟩ i1, .cons ⟨e1, r2⟩ i2⟩
    obtain ⟨ks, k1, k2⟩ := mk rel'
    refine h (.dK ks) _ (d_write I (mut_dic c) hs he ⟨by rw [← Paired.length k2]; exact hl, lo, _, k1, dd'⟩) (.inl ⟨ks, upd_same, Paired.mapP k2 fun p q t => ⟨t.1, by simpa using RelA.mono (pers_dic c) [] t.2⟩⟩)
  · obtain ⟨xs, dd, z', lo, rel⟩ := dic_T I hX c h2
    obtain ⟨b, rfl⟩ : ∃ b, y = .ref b := by cases ry; exact ⟨_, rfl⟩
    cases rv
    refine wpAny_setItem_heap (hsz := z') (nest_room hX) ⟨nested_of I hX.K ry rfl e, dp⟩ dd fun h' dd' hs => ?_
    obtain ⟨q, es, ep, hq, g2, g3, g4, g5, g6⟩ := dd'
    have rel' := put_T (R := TR G μ H) e (x := x) (b := b) (u := r) ⟨⟨ks, rfl⟩, dp, ry, z, rz, rx⟩ (fun p q t => ⟨t.1, t.2.1, t.2.2.1, z, rz, rx⟩) rel
    have hlen := Paired.length rel'
    refine h (exactly a q) _ (d_write I (mut_dic c) hs ⟨q, hq⟩ ⟨hq, ⟨q, hq⟩, fun h1 h2 t k => k _ t⟩) (.inr ⟨dPut_ne _ _ _, q, es, ep, upd_same, g2, g3, lo, ?_, ?_, ?_⟩)
    · rw [← Array.length_toList, g4, List.length_map, ← hlen]; exact hl
    · have : (dPut kvs (.tuple ds) x).map (fun p => keyOf p.1) = ((storedH xs (.tup ks) b r).map (·.1)).map some := by
        rw [List.map_map]
        clear hlen g4 g5 g6
        generalize dPut kvs (.tuple ds) x = l1 at rel' ⊢
        generalize storedH xs (.tup ks) b r = l2 at rel' ⊢
        induction rel' with
        | nil => rfl
        | cons r t ih => rw [List.map_cons, List.map_cons, ih, r.1]; rfl
      rw [this]
      exact nodup_some.mpr g6
    · rw [g4]
      clear hlen g4 g5 g6
      generalize dPut kvs (.tuple ds) x = l1 at rel' ⊢
      generalize storedH xs (.tup ks) b r = l2 at rel' ⊢
      induction rel' with
      | nil => exact .nil
      | @cons p q _ _ r t ih =>
        obtain ⟨e1, ⟨ks', e2⟩, e3, e4, v, e5, e6⟩ := r
        obtain ⟨qk, qb, qv⟩ := q
        cases e2
        refine .cons ⟨ks', qb, v, e1, e3, by rw [← hX.w]; rfl, rfl, e5, DpF.mono (pers_dic c) e4, by simpa using RelA.mono (pers_dic c) [] e6⟩ ih
end
end Ev

/-! Ev11: rules over dicts: {}, d[k], k in d, d[k] = v, len, sorted; a list times a number. -/
namespace Ev
open PySem PySem.Spec PyProof.Rows L2

section
variable {G : Gl} {sc : Scope} {N : List Str} {pos p' : Pos} {e o i : Expr} {de dd di : DE}
/-- {} -/
def dNewD : DE := fun _ S => .ok (.loc S.length) (S ++ [.dic []])
theorem r_newD : Snd G sc N (.Dict [] [] pos) dNewD := fun X W st tk => ⟨fun pins s σ H Q I ⟨μ, l, S, ss, sl, h⟩ => pe_dnewK.run pins s σ H Q I fun a hn => by
  have sm := same_new (o := .dK []) hn
  have g : Grow μ (μ ++ [a]) H (upd H a (.dK [])) := Grow.new hn sm
  refine h _ _ _ g (ss.new hn sm (by rw [upd_same]; simp) (.inl ⟨[], upd_same, .nil⟩)) ?_
  exact ⟨a, by rw [List.getElem?_append_right (by rw [ss.len]; exact Nat.le_refl _)]; simp [ss.len], rfl⟩⟩
/-- d[k], else as of a sequence -/
def ixU : A → A → Store → Option A := fun a b S => match a with
  | .loc n => match S[n]? with
    | some (.dic kvs) => match b with
      | .d k => if uni kvs k = true then dGet kvs k else none
      | _ => none
    | _ => ixA a b S
  | _ => ixA a b S
theorem dic_type {X : Cx} {pins : List (Addr × Obj)} {σ : L2.St} {H : Hp} {s : Shared} {μ : List Addr} {a : Addr} {kvs : List (D × A)} (I : L2.Inv X pins σ H s) (c : CellOk G μ H a (.dic kvs)) : s.TypeIs (.ref a) "dict" := by
  rcases c with ⟨ks, h1, h2⟩ | ⟨_, o, es, ep, h1, h2, _⟩
  · obtain ⟨_, _, vs, _, dd⟩ := dk_of I.hok h1
    exact dd.typeIs
  · exact ⟨o, (I.hok a _ h1).1, h2.1⟩
theorem ix_U : IxS G ixU := fun X hX value slice pins s σ H x y v u Q I rx ry ⟨μ, a, b, S, r, ss, ra, rb, e, q⟩ hs => by
  unfold ixU at e
  split at e
  · rename_i n
    split at e
    · rename_i kvs hc
      split at e
      · rename_i k
        split at e
        · rename_i hu
          obtain ⟨p, hp, rfl⟩ := ra
          obtain ⟨p', hp', c⟩ := ss.cells n _ hc
          rw [hp] at hp'; cases hp'
          cases rx
          exact tail_any (dic_type I c) PySem.F.slot_dict_getitem.lookup (dic_get I hX c hu rb ry e fun v' r' s' I' r1 r2 => ⟨v', H, I', r1, q H v' (Same.refl _) r2⟩) hs
        · cases e
      · cases e
    · exact ix_A X hX value slice pins s σ H x y v u Q I rx ry ⟨μ, .loc n, b, S, r, ss, ra, rb, e, q⟩ hs
  · exact ix_A X hX value slice pins s σ H x y v u Q I rx ry ⟨μ, a, b, S, r, ss, ra, rb, e, q⟩ hs
/-- k in d, else as of data -/
def inU : A → A → Store → Option A := fun a b S => match a, b with
  | .d k, .loc n => match S[n]? with
    | some (.dic kvs) => if uni kvs k = true then some (.d (.bool (dGet kvs k).isSome)) else none
    | _ => none
  | _, _ => pu2 (boolD inD) a b S
theorem op_inU : OpS G (compareOp .In) inU := fun X hX pins s σ H x y v u Q I rx ry ⟨μ, a, b, S, r, ss, ra, rb, e, q⟩ => by
  unfold inU at e
  split at e
  · rename_i k n
    split at e
    · rename_i kvs hc
      simp only [Option.ite_none_right_eq_some, Option.some.injEq] at e
      obtain ⟨hu, rfl⟩ := e
      obtain ⟨p, hp, rfl⟩ := rb
      obtain ⟨p', hp', c⟩ := ss.cells n _ hc
      rw [hp] at hp'; cases hp'
      cases ry
      exact dic_in I hX c hu ra rx fun s' I' => ⟨.bl _, H, I', rfl, q H _ (Same.refl _) (.bl _)⟩
    · cases e
  · exact op_inDD.s X hX pins s σ H x y v u Q I rx ry ⟨μ, a, b, S, r, ss, ra, rb, e, q⟩
def ninU : A → A → Store → Option A := fun a b S => match a, b with
  | .d k, .loc n => match S[n]? with
    | some (.dic kvs) => if uni kvs k = true then some (.d (.bool (!(dGet kvs k).isSome))) else none
    | _ => none
  | _, _ => pu2 (notD inD) a b S
theorem op_ninU : OpS G (compareOp .NotIn) ninU := fun X hX pins s σ H x y v u Q I rx ry ⟨μ, a, b, S, r, ss, ra, rb, e, q⟩ => by
  unfold ninU at e
  split at e
  · rename_i k n
    split at e
    · rename_i kvs hc
      simp only [Option.ite_none_right_eq_some, Option.some.injEq] at e
      obtain ⟨hu, rfl⟩ := e
      obtain ⟨p, hp, rfl⟩ := rb
      obtain ⟨p', hp', c⟩ := ss.cells n _ hc
      rw [hp] at hp'; cases hp'
      cases ry
      exact dic_notIn I hX c hu ra rx fun s' I' => ⟨.bl _, H, I', rfl, q H _ (Same.refl _) (.bl _)⟩
    · cases e
  · exact op_ninDD.s X hX pins s σ H x y v u Q I rx ry ⟨μ, a, b, S, r, ss, ra, rb, e, q⟩

/-! ### len -/
def lenA : List A → Store → Option A := fun xs S => match xs with
  | [.d (.str z)] => if z.length ≤ 16777216 then some (.d (.int z.length)) else none
  | [.d (.list ds)] => some (.d (.int ds.length))
  | [.d (.tuple ds)] => some (.d (.int ds.length))
  | [.loc n] => match S[n]? with
    | some (.lst as) => some (.d (.int as.length))
    | some (.dic kvs) => some (.d (.int kvs.length))
    | some (.fzn (.list ds)) => some (.d (.int ds.length))
    | _ => none
  | _ => none
theorem call_lenA : CallS G (.builtin "len") lenA := fun X hX pins s σ H xs us Q I r ⟨μ, as, S, rr, ss, ra, e, q⟩ => by
  unfold lenA at e
  split at e
  · simp only [Option.ite_none_right_eq_some, Option.some.injEq] at e
    obtain ⟨hz, rfl⟩ := e
    obtain ⟨v, rfl, rv⟩ := ra.one
    cases rv
    exact call_len_str pins s σ H _ us Q I r ⟨_, rfl, by rw [line_eq]; exact hz, q H _ (Same.refl _) (.int _)⟩
  · cases e
    obtain ⟨v, rfl, rv⟩ := ra.one
    cases rv with
    | lst fz fs => exact call_len_seq pins s σ H _ us Q I r ⟨_, _, rfl, .inl (by rw [hX.K]; exact fz.sq), by rw [fs.length]; exact q H _ (Same.refl _) (.int _)⟩
  · cases e
    obtain ⟨v, rfl, rv⟩ := ra.one
    cases rv with
    | tup sq fs => exact call_len_seq pins s σ H _ us Q I r ⟨_, _, rfl, .inr (by rw [hX.K]; exact sq), by rw [fs.length]; exact q H _ (Same.refl _) (.int _)⟩
  · rename_i n
    obtain ⟨v, rfl, p, hp, rfl⟩ := ra.one
    split at e
    · rename_i as hc
      cases e
      obtain ⟨p', hp', vs, h1, h2⟩ := ss.cells n _ hc
      rw [hp] at hp'; cases hp'
      exact call_len_seq pins s σ H _ us Q I r ⟨_, _, rfl, .inl (.of h1), by rw [← Paired.length h2]; exact q H _ (Same.refl _) (.int _)⟩
    · rename_i kvs hc
      cases e
      obtain ⟨p', hp', c⟩ := ss.cells n _ hc
      rw [hp] at hp'; cases hp'
      obtain ⟨u, rfl, ru⟩ := vals1 r
      cases ru
      rcases id c with ⟨ks, h1, h2⟩ | ⟨ne, _, _, _, _, _, _, _, _, _, h7⟩
      · exact d_len I (.inl h1) fun t s' I' => ⟨.int kvs.length, H, I', ⟨t, by rw [Paired.length h2]⟩, q H _ (Same.refl _) (.int _)⟩
      · have hk : ∀ p ∈ kvs, isTup p.1 = true := fun p hp => by
          have key : ∀ {kvs : List (D × A)} {es : List DictEntry}, Paired (EntR G μ H) kvs es → ∀ p ∈ kvs, isTup p.1 = true := by
            intro kvs es h
            induction h with
            | nil => intro p hp; cases hp
            | @cons a b _ _ r t ih =>
              intro p hp
              rcases List.mem_cons.mp hp with rfl | hp
              · obtain ⟨ks, b, vv, a1, _⟩ := r
                cases hp1 : p.1 with
                | tuple ds => rfl
                | _ => rw [hp1] at a1; simp [keyOf] at a1
              · exact ih p hp
          exact key h7 p hp
        obtain ⟨xs, dd, z, lo, rel⟩ := dic_T I hX c hk
        have hl : kvs.length = xs.length := Paired.length rel
        refine call_len_dictH lo dd (by rw [line_eq] at z; omega) ?_
        rw [← hl]
        exact ⟨.int kvs.length, H, I.tok _, ⟨_, rfl⟩, q H _ (Same.refl _) (.int _)⟩
    · rename_i ds hc
      cases e
      obtain ⟨p', hp', h1⟩ := ss.cells n _ hc
      rw [hp] at hp'; cases hp'
      cases h1 with
      | lst fz fs => exact call_len_seq pins s σ H _ us Q I r ⟨_, _, rfl, .inl (by rw [hX.K]; exact fz.sq), by rw [fs.length]; exact q H _ (Same.refl _) (.int _)⟩
    · cases e
  · cases e

/-! ### o[i] = e -/
def setIx (x y v : A) (S : Store) : Option Store := match x, y with
  | .loc n, .d k => match S[n]? with
    | some (.lst xs) => match k with
      | .int i => (ixN xs.length i).map fun j => S.set n (.lst (xs.set j v))
      | _ => none
    | some (.dic kvs) => if uni kvs k = true ∧ kvs.length < 16777216 then some (S.set n (.dic (dPut kvs k v))) else none
    | _ => none
  | _, _ => none
theorem paired_set {α β : Type} {R : α → β → Prop} {a : α} {b : β} (r : R a b) : ∀ {xs : List α} {ys : List β} (j : Nat), Paired R xs ys → Paired R (xs.set j a) (ys.set j b)
  | _, _, _, .nil => .nil
  | _, _, 0, .cons q t => .cons r t
  | _, _, j + 1, .cons q t => .cons q (paired_set r j t)
def tSt (G : Gl) : V → V → V → Hp → (Hp → Prop) → Prop := fun o i v H Q => ∃ μ S x y z S', SimS G μ S H ∧ RelA G μ H x o ∧ RelA G μ H y i ∧ RelA G μ H z v ∧ setIx x y z S = some S' ∧ ∀ H', Grow μ μ H H' → SimS G μ S' H' → Q H'
theorem set_St {X : Cx} (hX : Here G X) : PSet X (tSt G) := fun pins s σ H o i v ov iv u Q I ro ri rv ⟨μ, S, x, y, z, S', ss, rx, ry, rz, e, q⟩ => by
  unfold setIx at e
  split at e
  · rename_i n k
    obtain ⟨p, hp, rfl⟩ := rx
    split at e
    · rename_i as hc
      split at e
      · rename_i j
        simp only [Option.map_eq_some_iff] at e
        obtain ⟨m, hm, rfl⟩ := e
        obtain ⟨p', hp', vs, h1, h2⟩ := ss.cells n _ hc
        rw [hp] at hp'; cases hp'
        cases ry
        have pe : Pers H (upd H p (.lst (vs.set m v))) := upd_pers (fun _ z => by rw [h1] at z; cases z) (fun _ _ z => by rw [h1] at z; cases z)
        have g : Grow μ μ H (upd H p (.lst (vs.set m v))) := Grow.set hp pe
        refine set_list pins s σ H _ _ v ov iv u Q I ro ri rv ⟨p, vs, j, m, rfl, rfl, h1, by rw [← Paired.length h2]; exact hm, q _ g (ss.set hp pe ⟨_, upd_same, paired_set (rz.grow g) m (RelAs.grow g h2)⟩)⟩
      · cases e
    · rename_i kvs hc
      simp only [Option.ite_none_right_eq_some, Option.some.injEq] at e
      obtain ⟨⟨hu, hz⟩, rfl⟩ := e
      obtain ⟨p', hp', c⟩ := ss.cells n _ hc
      rw [hp] at hp'; cases hp'
      cases ro
      exact dic_set I hX c hu hz ry ri rz rv fun ob s' I' c' => ⟨_, I', q _ (Grow.set hp (pers_dic c)) (ss.set hp (pers_dic c) c')⟩
    · cases e
  · cases e
def dSetI (dv dd di : DE) : DS := fun l S => (dv l S).thenS l fun v S1 => (dd l S1).thenS l fun x S2 => (di l S2).thenS l fun y S3 => match setIx x y v S3 with
  | some S4 => .nx l S4
  | none => .no
theorem r_setI (hv : Snd G sc N e de) (ho : Snd G sc N o dd) (hi : Snd G sc N i di) (hs : ∀ env, swapsWith e (some (.Subscript o i p')) pos.line env = pure false := by intro _; rfl) : SndS G sc N (.Assign [.Subscript o i p'] e pos) (dSetI de dd di) := fun X W st tk => ⟨fun pins s σ H D I q => by
  refine wpAny_Assign_Subscript ?_ (hs X.env)
  refine thn ((hv X W st.toStat tk).run pins s σ H _ I (then_read (rel := RelA G) q)) fun u1 s1 ⟨v, H1, I1, rv, q1⟩ => ?_
  obtain ⟨μ1, l, a, S1, ss1, sl1, r1, q1⟩ := q1
  refine thn ((ho X W st.toStat tk).run pins s1 σ H1 (fun x H2 => ∃ μ2 S2 b, SimS G μ2 S2 H2 ∧ SimL G μ2 H2 l σ ∧ RelA G μ2 H2 a v ∧ RelA G μ2 H2 b x ∧ AftS G W D μ2 H2 ((di l S2).thenS l fun y S3 => match setIx b y a S3 with | some S4 => .nx l S4 | none => .no) ) I1 ?_) fun u2 s2 ⟨x, H2, I2, rx, μ2, S2, b, ss2, sl2, r2, r2', q2⟩ => ?_
  · refine ⟨μ1, l, S1, ss1, sl1, ?_⟩
    cases e2 : dd l S1 with
    | no => rw [e2] at q1; exact q1
    | exc x S2 => rw [e2] at q1; exact fun μ2 H2 c dx g s2 r2 => q1 μ2 H2 σ c dx g s2 (sl1.grow g) r2
    | ok b S2 =>
      rw [e2, Res.ok_thenS] at q1
      exact fun μ2 H2 x g2 s2 r2 => ⟨μ2, S2, b, s2, sl1.grow g2, r1.grow g2, r2, AftS.grow q1 g2⟩
  refine thn ((hi X W st.toStat tk).run pins s2 σ H2 (fun y H3 => ∃ μ3 S3 c, SimS G μ3 S3 H3 ∧ SimL G μ3 H3 l σ ∧ RelA G μ3 H3 a v ∧ RelA G μ3 H3 b x ∧ RelA G μ3 H3 c y ∧ AftS G W D μ3 H3 (match setIx b c a S3 with | some S4 => .nx l S4 | none => .no)) I2 ?_) fun u3 s3 ⟨y, H3, I3, ry, μ3, S3, c, ss3, sl3, r3, r3', r3'', q3⟩ => ?_
  · refine ⟨μ2, l, S2, ss2, sl2, ?_⟩
    cases e3 : di l S2 with
    | no => rw [e3] at q2; exact q2
    | exc x S3 => rw [e3] at q2; exact fun μ3 H3 c dx g s3 r3 => q2 μ3 H3 σ c dx g s3 (sl2.grow g) r3
    | ok c S3 =>
      rw [e3, Res.ok_thenS] at q2
      exact fun μ3 H3 y g3 s3 r3 => ⟨μ3, S3, c, s3, sl2.grow g3, r2.grow g3, r2'.grow g3, r3, AftS.grow q2 g3⟩
  split at q3
  · rename_i S4 e4
    refine thn (set_St st.here pins s3 σ H3 x y v u2 u3 u1 (fun H4 => D.nx σ H4) I3 rx ry rv ⟨μ3, S3, b, c, a, S4, ss3, r3', r3'', r3, e4, fun H4 g s4 => q3 μ3 H4 σ g s4 (sl3.grow g)⟩) fun _ s4 ⟨H4, I4, q4⟩ => ⟨σ, H4, I4, q4⟩
  · exact q3.elim⟩

/-! ### sorted, ints -/
def sortN (ns : List Int) : List Int := ns.mergeSort fun a b => decide (a ≤ b)
theorem sortN_eq {ns ms : List Int} (h : ms.Perm ns) (s : ms.Pairwise (· ≤ ·)) : ms = sortN ns := by
  refine List.Perm.eq_of_pairwise (le := (· ≤ ·)) (fun a b _ _ h1 h2 => Int.le_antisymm h1 h2) s ?_ (h.trans (List.mergeSort_perm ns _).symm)
  exact (List.pairwise_mergeSort (le := fun a b : Int => decide (a ≤ b)) (fun a b c h1 h2 => by simp at h1 h2 ⊢; omega) (fun a b => by simp; omega) ns).imp fun h => by simpa using h
def keysI : List (D × A) → Option (List Int)
  | [] => some []
  | (.int i, _) :: r => (keysI r).map (i :: ·)
  | _ => none
def sortA : List A → Store → Option A := fun xs S => match xs with
  | [.d (.list ds)] => (intsOf ds).map fun ns => .d (.list ((sortN ns).map .int))
  | [.loc n] => match S[n]? with
    | some (.dic kvs) => match keysI kvs with
      | some ns => if ns.length < 64 then some (.d (.list ((sortN ns).map .int))) else none
      | none => none
    | _ => none
  | _ => none
theorem ints_fs {w : World} {K : PySem.W.Frag} {H : Hp} : ∀ ns : List Int, DpFs w K H (ns.map V.int) (ns.map PyData.int)
  | [] => .nil
  | n :: ns => .cons (.int n) (ints_fs ns)
theorem keysI_some {μ : List Addr} {H : Hp} : ∀ {kvs : List (D × A)} {ns : List Int} {ks : List (Key × V)}, keysI kvs = some ns → Paired (LeafR G μ H) kvs ks → ks.map (·.1) = ns.map Sum.inl
  | [], ns, _, h, .nil => by cases h; rfl
  | (d, a) :: kvs, ns, (j, v) :: ks, h, .cons r t => by
    cases d with
    | int i =>
      simp only [keysI, Option.map_eq_some_iff] at h
      obtain ⟨ms, h, rfl⟩ := h
      have r1 : PyData.int i = leafD j := r.1
      cases j with
      | inl i' => cases r1; rw [List.map_cons, List.map_cons, keysI_some h t]
      | inr x => cases r1
    | _ => simp [keysI] at h
theorem call_sortA : CallS G (.builtin "sorted") sortA := fun X hX pins s σ H xs us Q I r ⟨μ, as, S, rr, ss, ra, e, q⟩ => by
  have fin : ∀ (ns ms : List Int) (p : Addr), H p = none → ms.Perm ns → ms.Pairwise (· ≤ ·) → (∀ H' v, Same H H' → RelA G μ H' (.d (.list ((sortN ns).map .int))) v → Q v H') → ∀ s', L2.Inv X pins σ (upd H p (.lst (ms.map V.int))) s' → ∃ H2, L2.Inv X pins σ H2 s' ∧ Q (.ref p) H2 := fun ns ms p hn h1 h2 q s' I' => by
    obtain ⟨H2, I2, sm, fz⟩ := lock_new (K := G.K) I' hn
    refine ⟨H2, I2, q _ _ sm (.lst fz ?_)⟩
    rw [← sortN_eq h1 h2]
    exact ints_fs ms
  have ghost : ∀ {Q1 : VK}, wpAny (model X.prog X.w) X.A (call (.builtin "sorted") us) (EP X pins σ Q1) X.xe s → (∀ v H1 s', L2.Inv X pins σ H1 s' → Q1 v H1 → ∃ H2, L2.Inv X pins σ H2 s' ∧ Q v H2) → wpAny (model X.prog X.w) X.A (call (.builtin "sorted") us) (EP X pins σ Q) X.xe s := fun h g =>
    thn h fun u s' ⟨v, H1, I1, rv, z⟩ => let ⟨H2, I2, q2⟩ := g v H1 s' I1 z; ⟨v, H2, I2, rv, q2⟩
  unfold sortA at e
  split at e
  · simp only [Option.map_eq_some_iff] at e
    obtain ⟨ns, hn, rfl⟩ := e
    obtain ⟨v, rfl, rv⟩ := ra.one
    cases rv with
    | @lst a vs _ fz fs =>
      rw [intsOf_some hn] at fs
      rw [fs_ints fs] at fz
      refine ghost (cr_sortedI pins s σ H _ us (fun v H1 => ∀ s', L2.Inv X pins σ H1 s' → ∃ H2, L2.Inv X pins σ H2 s' ∧ Q v H2) I r ⟨a, ns, rfl, by rw [hX.K]; exact fz.sq, fun ms p h1 h2 hp => fin ns ms p hp h1 h2 q⟩) fun v H1 s' I1 z => z s' I1
  · rename_i n
    obtain ⟨v, rfl, p, hp, rfl⟩ := ra.one
    split at e
    · rename_i kvs hc
      split at e
      · rename_i ns hk
        simp only [Option.ite_none_right_eq_some, Option.some.injEq] at e
        obtain ⟨h64, rfl⟩ := e
        obtain ⟨p', hp', c⟩ := ss.cells n _ hc
        rw [hp] at hp'; cases hp'
        rcases c with ⟨ks, h1, h2⟩ | ⟨ne, o, es, ep, h1, _, _, _, _, _, h7⟩
        · refine ghost (call_sortedDI hX.calm pins s σ H _ us (fun v H1 => ∀ s', L2.Inv X pins σ H1 s' → ∃ H2, L2.Inv X pins σ H2 s' ∧ Q v H2) I r ⟨p, ks, ns, rfl, .inl h1, keysI_some hk h2, h64, fun ms p h1 h2 hp => fin ns ms p hp h1 h2 q⟩) fun v H1 s' I1 z => z s' I1
        · cases kvs with
          | nil => exact absurd rfl ne
          | cons q1 kvs =>
            obtain ⟨e1, _, _, ⟨ks, b, vv, a1, _⟩, _⟩ := pcons h7
            obtain ⟨d, a⟩ := q1
            cases d <;> simp [keysI] at hk
            simp [keyOf] at a1
      · cases e
    · cases e
  · cases e

/-! ### a list times a number; what is new is data -/
def mulA : A → A → Store → Option A := fun a b S => match a, b with
  | .loc n, .d (.int k) => match S[n]? with
    | some (.lst as) => match pures as with
      | some ds => if decide (-4611686018427387904 ≤ k) && decide (k < 4611686018427387904) && decide (ds.length * k.toNat ≤ 16777216) then some (.d (.list (List.replicate k.toNat ds).flatten)) else none
      | none => none
    | _ => none
  | _, _ => pu2 mulD a b S
theorem rep_fs {w : World} {K : PySem.W.Frag} {H : Hp} {vs : List V} {ds : List D} (h : DpFs w K H vs ds) : ∀ k : Nat, DpFs w K H (List.replicate k vs).flatten (List.replicate k ds).flatten
  | 0 => .nil
  | k + 1 => by rw [List.replicate_succ, List.replicate_succ, List.flatten_cons, List.flatten_cons]; exact h.append (rep_fs h k)
theorem op_mulA : OpS G (binaryOp .Mult) mulA := fun X hX pins s σ H x y v u Q I rx ry ⟨μ, a, b, S, r, ss, ra, rb, e, q⟩ => by
  unfold mulA at e
  split at e
  · rename_i n k
    obtain ⟨p, hp, rfl⟩ := ra
    split at e
    · rename_i as hc
      split at e
      · rename_i ds hds
        simp only [Option.ite_none_right_eq_some, Option.some.injEq, Bool.and_eq_true, decide_eq_true_eq] at e
        obtain ⟨⟨⟨b1, b2⟩, b3⟩, rfl⟩ := e
        obtain ⟨p', hp', vs, h1, h2⟩ := ss.cells n _ hc
        rw [hp] at hp'; cases hp'
        cases rb
        have fs := pures_some hds h2
        refine thn (op_rep pins s σ H _ _ v u (fun v H1 => ∀ s', L2.Inv X pins σ H1 s' → ∃ H2, L2.Inv X pins σ H2 s' ∧ Q v H2) I rx ry ⟨p, k, vs, rfl, rfl, h1, by omega, by omega, by rw [fs.length, line_eq]; exact b3, fun a hn s' I' => ?_⟩) fun u s' ⟨v, H1, I1, rv, z⟩ => let ⟨H2, I2, q2⟩ := z s' I1; ⟨v, H2, I2, rv, q2⟩
        obtain ⟨H2, I2, sm, fz⟩ := lock_new (K := G.K) I' hn
        exact ⟨H2, I2, q _ _ sm (.lst fz ((rep_fs fs _).mono (Pers.of sm)))⟩
      · cases e
    · cases e
  · exact op_mulI.s X hX pins s σ H x y v u Q I rx ry ⟨μ, a, b, S, r, ss, ra, rb, e, q⟩
end
end Ev

/-! Ev12: {k: v for t0 in i0 if .. for t1 in i1 if ..}. -/
namespace Ev
open PySem PySem.Spec PyProof.Rows L2

/-! ### the loops of a dict's comprehension of two clauses -/
abbrev Dc2 (kx vx t0 i0 : Expr) (f0 : List Expr) (t1 i1 : Expr) (f1 : List Expr) (scope : Scope) (pos : Pos) : Expr := .DictComp kx vx [⟨t0, i0, f0, 0⟩, ⟨t1, i1, f1, 0⟩] scope pos
def allTrue (fs : List Expr) (env : Env) : Sem Bool := forIn fs true fun c r => if r = true then do let ok ← isTrue c env (eval c env); pure (ForInStep.yield ok) else pure (ForInStep.yield r)
theorem dc2_turn0 (kx vx t0 i0 t1 i1 : Expr) (f0 f1 : List Expr) (scope : Scope) (pos : Pos) (it acc : Value) (env : Env) : compTurn (Dc2 kx vx t0 i0 f0 t1 i1 f1 scope pos) 0 it acc env = (do
    standAt i0.pos
    match ← pyNext it with
    | none => pure (.done .next)
    | some v =>
      letOwnedTupleGo t0 it v
      assign t0 env v
      let ok ← allTrue f0 env
      if ok then
        let x ← eval i1 env
        standAt i1.pos
        let x ← foldedSetIterable i1 env x
        let _ ← runOwn (.compStart (Dc2 kx vx t0 i0 f0 t1 i1 f1 scope pos) 1 (← holding [x] (pyIter x)) acc env) env
      again (.compLoop (Dc2 kx vx t0 i0 f0 t1 i1 f1 scope pos) 0 it acc env)) := by rfl
theorem dc2_turn1 (kx vx t0 i0 t1 i1 : Expr) (f0 f1 : List Expr) (scope : Scope) (pos : Pos) (it : Value) (a : Addr) (env : Env) : compTurn (Dc2 kx vx t0 i0 f0 t1 i1 f1 scope pos) 1 it (.ref a) env = (do
    standAt i1.pos
    match ← pyNext it with
    | none => pure (.done .next)
    | some v =>
      letOwnedTupleGo t1 it v
      assign t1 env v
      let ok ← allTrue f1 env
      if ok then
        (do
          let k ← eval kx env
          let y ← holding [k] (eval vx env)
          standAt { kx.pos with endLine := vx.pos.endLine, endCol := vx.pos.endCol }
          holding [k, y] (dictSet a k y))
      again (.compLoop (Dc2 kx vx t0 i0 f0 t1 i1 f1 scope pos) 1 it (.ref a) env)) := by rfl
section
variable {P : Program} {w : World} {A : Around} {R : Result → Shared → Prop} {s : Shared} {kx vx t0 i0 t1 i1 : Expr} {f0 f1 : List Expr} {scope : Scope} {pos : Pos} {it : Value} {a : Addr} {env : Env}
/-- nothing is raised in this piece -/
abbrev Calm (P : Program) (w : World) (A : Around) {α : Type} (m : Sem α) (Q : α → Shared → Prop) (s : Shared) : Prop := wpAny (model P w) A m Q (fun _ _ => False) s
theorem Calm.any {α : Type} {m : Sem α} {Q : α → Shared → Prop} {E : Value → Shared → Prop} (h : Calm P w A m Q s) : wpAny (model P w) A m Q E s := wpAny_mono h (fun _ _ q => q) fun _ _ q => q.elim
theorem dc2_loop0 (hs : ∀ x, foldedSetIterable i1 env x = pure x) (J : Nat → Shared → Prop)
    (turn : ∀ n s, J n s → Calm P w A (pyNext it) (fun r z => match r with
      | none => R (.ok .next) z
      | some v => Calm P w A (letOwnedTupleGo t0 it v) (fun _ z => Calm P w A (assign t0 env v) (fun _ z => Calm P w A (allTrue f0 env) (fun ok z =>
          if ok = true then Calm P w A (eval i1 env) (fun x z => Calm P w A (pyIter x) (fun j z =>
            codeAny (model P w) A (.compStart (Dc2 kx vx t0 i0 f0 t1 i1 f1 scope pos) 1 j (.ref a) env) (fun r z => match r with
              | .ok _ => ∃ m, m < n ∧ J m z
              | .error _ => False) z) z) z
          else ∃ m, m < n ∧ J m z) z) z) z) s) (n : Nat) (h : J n s) :
    codeAny (model P w) A (.compLoop (Dc2 kx vx t0 i0 f0 t1 i1 f1 scope pos) 0 it (.ref a) env) R s := by
  refine codeAny_loop rfl J (fun n z hJ => ?_) n h
  show wpAny _ A ((compTurn (Dc2 kx vx t0 i0 f0 t1 i1 f1 scope pos) 0 it (.ref a) env).onRaise _) _ _ z
  refine wpAny_noted ?_
  rw [dc2_turn0]
  refine wpAny_bind (wpAny_standAt (wpAny_bind (wpAny_mono (turn n z hJ) (fun r z1 q1 => ?_) fun _ _ q => q.elim)))
  match r, q1 with
  | none, q1 => exact wpAny_pure q1
  | some v, q1 =>
    refine wpAny_bind (wpAny_mono q1 (fun _ z2 q2 => wpAny_bind (wpAny_mono q2 (fun _ z3 q3 => wpAny_bind (wpAny_mono q3 (fun ok z4 q4 => ?_) fun _ _ q => q.elim)) fun _ _ q => q.elim)) fun _ _ q => q.elim)
    cases ok with
    | false => exact wpAny_pure ⟨rfl, q4⟩
    | true =>
      refine wpAny_bind (wpAny_mono q4 (fun x z5 q5 => ?_) fun _ _ q => q.elim)
      refine wpAny_bind (wpAny_standAt (wpAny_bind (wpAny_of_eq (hs x) (wpAny_bind (wpAny_holding (wpAny_mono q5 (fun j z6 q6 => ?_) fun _ _ q => q.elim))))))
      refine wpAny_bind (wpAny_runOwn ?_)
      rw [Around.mark_none]
      refine codeAny_mono q6 fun r z7 q7 => ?_
      cases r with
      | ok f => first | exact wpAny_pure ⟨rfl, q7⟩ | exact wpAny_bind (wpAny_pure (wpAny_pure ⟨rfl, q7⟩))
      | error e => exact q7.elim
theorem dc2_loop1 (J : Nat → Shared → Prop)
    (turn : ∀ n s, J n s → Calm P w A (pyNext it) (fun r z => match r with
      | none => R (.ok .next) z
      | some v => Calm P w A (letOwnedTupleGo t1 it v) (fun _ z => Calm P w A (assign t1 env v) (fun _ z => Calm P w A (allTrue f1 env) (fun ok z =>
          if ok = true then Calm P w A (eval kx env) (fun k z => Calm P w A (eval vx env) (fun y z => Calm P w A (dictSet a k y) (fun _ z => ∃ m, m < n ∧ J m z) z) z) z
          else ∃ m, m < n ∧ J m z) z) z) z) s) (n : Nat) (h : J n s) :
    codeAny (model P w) A (.compLoop (Dc2 kx vx t0 i0 f0 t1 i1 f1 scope pos) 1 it (.ref a) env) R s := by
  refine codeAny_loop rfl J (fun n z hJ => ?_) n h
  show wpAny _ A ((compTurn (Dc2 kx vx t0 i0 f0 t1 i1 f1 scope pos) 1 it (.ref a) env).onRaise _) _ _ z
  refine wpAny_noted ?_
  rw [dc2_turn1]
  refine wpAny_bind (wpAny_standAt (wpAny_bind (wpAny_mono (turn n z hJ) (fun r z1 q1 => ?_) fun _ _ q => q.elim)))
  match r, q1 with
  | none, q1 => exact wpAny_pure q1
  | some v, q1 =>
    refine wpAny_bind (wpAny_mono q1 (fun _ z2 q2 => wpAny_bind (wpAny_mono q2 (fun _ z3 q3 => wpAny_bind (wpAny_mono q3 (fun ok z4 q4 => ?_) fun _ _ q => q.elim)) fun _ _ q => q.elim)) fun _ _ q => q.elim)
    cases ok with
    | false => exact wpAny_pure ⟨rfl, q4⟩
    | true =>
      refine wpAny_bind (wpAny_bind (wpAny_mono q4 (fun k z5 q5 => ?_) fun _ _ q => q.elim))
      refine wpAny_bind (wpAny_holding (wpAny_mono q5 (fun y z6 q6 => ?_) fun _ _ q => q.elim))
      exact wpAny_bind (wpAny_standAt (wpAny_holding (wpAny_mono q6 (fun _ z7 q7 => wpAny_pure ⟨rfl, q7⟩) fun _ _ q => q.elim)))
theorem dc2_start1 (go : codeAny (model P w) A (.compLoop (Dc2 kx vx t0 i0 f0 t1 i1 f1 scope pos) 1 it (.ref a) env) R s)
    (h : wpAny (model P w) A (pyIter it) (fun j z => codeAny (model P w) A (.compLoop (Dc2 kx vx t0 i0 f0 t1 i1 f1 scope pos) 1 j (.ref a) env) R z) (notedBy (model P w) A env fun x z => R (.error x) z) s) :
    codeAny (model P w) A (.compStart (Dc2 kx vx t0 i0 f0 t1 i1 f1 scope pos) 1 it (.ref a) env) R s := by
  refine codeAny_of_tree ?_
  show wpAny _ A ((compStart (Dc2 kx vx t0 i0 f0 t1 i1 f1 scope pos) 1 it (.ref a) env).onRaise _) _ _ s
  refine wpAny_notedAt ?_
  unfold compStart
  show wpAny _ A (ask >>= _) _ _ s
  refine wpAny_bind (wpAny_askSetting (wpAny_ite ?_))
  split
  · first
      | exact wpAny_pure ⟨rfl, go⟩
      | exact wpAny_bind (wpAny_pure (wpAny_pure ⟨rfl, go⟩))
  · first
      | exact wpAny_bind (wpAny_rule (wpAny_bind (wpAny_standAt (wpAny_bind (wpAny_mono h (fun j z q => wpAny_pure ⟨rfl, q⟩) fun _ _ q => q)))))
      | (refine wpAny_bind (wpAny_rule ?_); show wpAny _ A (standAt i1.pos >>= _) _ _ s; exact wpAny_bind (wpAny_standAt (wpAny_bind (wpAny_mono h (fun j z q => wpAny_pure ⟨rfl, q⟩) fun _ _ q => q))))
end

/-! ### the readings of a comprehension's loops -/
/-- more addresses, what stays for ever stays -/
structure Ext (μ μ' : List Addr) (H H' : Hp) : Prop where
  ex : ∃ ν, μ' = μ ++ ν
  pers : Pers H H'
section
variable {G : Gl} {μ μ' μ1 μ2 : List Addr} {H H' H1 H2 : Hp} {S : Store} {l : Loc} {σ : L2.St} {D : Addr}
theorem Ext.refl : Ext μ μ H H := ⟨⟨[], by simp⟩, Pers.refl H⟩
theorem Ext.trans (a : Ext μ μ1 H H1) (b : Ext μ1 μ2 H1 H2) : Ext μ μ2 H H2 := by
  obtain ⟨ν, rfl⟩ := a.ex
  obtain ⟨ν', rfl⟩ := b.ex
  exact ⟨⟨ν ++ ν', by simp⟩, a.pers.trans b.pers⟩
theorem Grow.ext (g : Grow μ μ' H H') : Ext μ μ' H H' := ⟨let ⟨ν, e, _⟩ := g.ex; ⟨ν, e⟩, g.pers⟩
theorem Ext.pers' (p : Pers H H') : Ext μ μ H H' := ⟨⟨[], by simp⟩, p⟩
theorem RelA.ext (g : Ext μ μ' H H') {a : A} {v : V} (h : RelA G μ H a v) : RelA G μ' H' a v := by
  obtain ⟨ν, rfl⟩ := g.ex
  exact RelA.mono g.pers ν h
theorem SimL.ext (g : Ext μ μ' H H') (s : SimL G μ H l σ) : SimL G μ' H' l σ := ⟨s.len, fun i a e => let ⟨v, h1, h2⟩ := s.at_ i a e; ⟨v, h1, h2.ext g⟩⟩
/-- the accumulator's object at D is set -/
theorem Grow.put {o : HO} (g : Grow μ μ' H H') (hn : H D = none) : Grow μ μ' H (upd H' D o) := by
  refine ⟨g.ex, fun b ob h hm => ?_, fun b h => ?_, ⟨fun b xs h => ?_, fun b ob u h => ?_⟩⟩
  · rw [upd_ne (ne_of_none h hn)]; exact g.fr b ob h hm
  · by_cases z : b = D
    · rw [z, upd_same]; simp
    · rw [upd_ne z]; exact g.keep b h
  · rw [upd_ne (ne_of_none h hn)]; exact g.pers.tup b xs h
  · rw [upd_ne (ne_of_none h hn)]; exact g.pers.frz b ob u h
theorem SimS.put {o : HO} (p : Pers H (upd H D o)) (h : SimS G μ S H) (nd : D ∉ μ) : SimS G μ S (upd H D o) := by
  refine ⟨h.nd, h.len, fun n c e => ?_, fun a ha => ?_⟩
  · obtain ⟨a, h1, h2⟩ := h.cells n c e
    refine ⟨a, h1, ?_⟩
    have hne : a ≠ D := fun z => nd (z ▸ List.mem_of_getElem? h1)
    simpa using CellOk.mono p [] (upd_ne hne) h2
  · rw [upd_ne (fun z : a = D => nd (by rw [← z]; exact ha))]; exact h.there a ha
/-- D becomes a cell of the store -/
theorem SimS.adopt {c : Cell} (h : SimS G μ S H) (nd : D ∉ μ) (hd : H D ≠ none) (new : CellOk G (μ ++ [D]) H D c) : SimS G (μ ++ [D]) (S ++ [c]) H := by
  refine ⟨?_, by simp [h.len], fun n c' e => ?_, fun b hb => ?_⟩
  · exact List.nodup_append.mpr ⟨h.nd, by simp, fun x hx y hy => by simp at hy; subst hy; exact fun z => nd (z ▸ hx)⟩
  · by_cases hm : n < S.length
    · rw [List.getElem?_append_left hm] at e
      obtain ⟨b, h1, h2⟩ := h.cells n c' e
      exact ⟨b, get_ext h1, CellOk.mono (Pers.refl H) [D] rfl h2⟩
    · have hn' : n = S.length := by
        have := (List.getElem?_eq_some_iff.mp e).1
        simp at this; omega
      subst hn'
      rw [List.getElem?_append_right (Nat.le_refl _)] at e
      simp at e; subst e
      exact ⟨D, by rw [List.getElem?_append_right (by rw [h.len]; exact Nat.le_refl _)]; simp [h.len], new⟩
  · rcases List.mem_append.mp hb with z | z
    · exact h.there b z
    · simp at z; subst z; exact hd
theorem Grow.adopt (g : Grow μ μ' H H') (hn : H D = none) : Grow μ (μ' ++ [D]) H H' := by
  obtain ⟨ν, rfl, hν⟩ := g.ex
  refine ⟨⟨ν ++ [D], by simp, fun b hb => ?_⟩, g.fr, g.keep, g.pers⟩
  rcases List.mem_append.mp hb with z | z
  · exact hν b z
  · simp at z; subst z; exact hn
end
/-- the store and the accumulator in the midst of a comprehension; (μ1, H1): its beginning -/
structure Mid {β : Type} (G : Gl) (AR : List Addr → Hp → Addr → β → Prop) (μ1 : List Addr) (H1 : Hp) (D : Addr) (acc : β) (S : Store) (μ : List Addr) (H : Hp) : Prop where
  nd : D ∉ μ
  ss : SimS G μ S H
  gr : Grow μ1 μ H1 H
  ar : AR μ H D acc
  hd : H D ≠ none
structure AccOk {β : Type} (AR : List Addr → Hp → Addr → β → Prop) : Prop where
  mono : ∀ {μ μ' : List Addr} {H H' : Hp} {D : Addr} {acc : β}, AR μ H D acc → Ext μ μ' H H' → H' D = H D → AR μ' H' D acc
section
variable {β : Type} {G : Gl} {AR : List Addr → Hp → Addr → β → Prop} {μ1 μ μ' : List Addr} {H1 H H' : Hp} {D : Addr} {acc accE : β} {S SE : Store}
theorem Mid.step (ao : AccOk AR) (m : Mid G AR μ1 H1 D acc S μ H) (h1 : H1 D = none) (g : Grow μ μ' H H') {S' : Store} (ss : SimS G μ' S' H') : Mid G AR μ1 H1 D acc S' μ' H' := by
  cases q : H D with
  | none => exact absurd q m.hd
  | some o =>
    have e : H' D = some o := g.fr D o q m.nd
    refine ⟨fun z => ?_, ss, m.gr.trans g, ao.mono m.ar g.ext (e.trans q.symm), by rw [e]; simp⟩
    obtain ⟨ν, rfl, hn⟩ := g.ex
    rcases List.mem_append.mp z with z | z
    · exact m.nd z
    · rw [hn D z] at q; cases q
/-- the loop of one clause -/
theorem comp_read (ao : AccOk AR) (h1n : H1 D = none) {g : DG} {t : DR Bool} {k : β → Loc → Store → Res β} {l : Loc} {σ : L2.St} {vs is : List Nat} {EM : (Hp → Prop) → L2.St → Hp → Prop} {F : Hp → Prop} {ds : List Ev.D} {J : It} (hv : ∀ i ∈ is, i ∈ vs)
    (hE : ∀ {acc acc' : β} {S S' : Store} {μ : List Addr} {H : Hp} {l' : Loc} {σ' : L2.St} {Nx : Hp → Prop}, Mid G AR μ1 H1 D acc S μ H → SimL G μ H l' σ' → k acc l' S = .ok acc' S' → (∀ μ' H', Ext μ μ' H H' → Mid G AR μ1 H1 D acc' S' μ' H' → Nx H') → EM Nx σ' H)
    (yl : Yields G H ds J) (m : Mid G AR μ1 H1 D acc S μ H) (sl : SimL G μ H l (wipe σ vs)) (h : compF g t k l ds acc S = .ok accE SE) (fin : ∀ μ' H', Ext μ μ' H H' → Mid G AR μ1 H1 D accE SE μ' H' → F H') :
    ∃ W : Nat → Nat → Hp → Prop, (∃ m, W 0 m H) ∧ ∀ i m H, W i m H → (J.stop i H ∧ F H) ∨ (J.go i H ∧ ∃ Nx : Hp → Prop, (∀ H', Nx H' → ∃ m', m' < m ∧ W (i + 1) m' H') ∧ ∀ x H', J.yld i H x H' → tG G is g x (wipe σ vs) H' fun σ2 H2 => wipe σ2 vs = wipe σ vs ∧ tT G Wno t σ2 H2 fun b H3 => if b = true then EM Nx σ2 H3 else Nx H3) := by
  refine ⟨fun i n H' => n = ds.length - i ∧ i ≤ ds.length ∧ ∃ μ' S' acc', Mid G AR μ1 H1 D acc' S' μ' H' ∧ Ext μ μ' H H' ∧ compF g t k l (ds.drop i) acc' S' = .ok accE SE, ⟨ds.length, by simp, Nat.zero_le _, μ, S, acc, m, Ext.refl, by simpa using h⟩, ?_⟩
  rintro i n H2 ⟨rfl, hi, μ2, S2, acc2, m2, x2, h2⟩
  by_cases hlt : i < ds.length
  · obtain ⟨go, yld⟩ := (yl H2 x2.pers i).1 ds[i] (List.getElem?_eq_getElem hlt)
    rw [List.drop_eq_getElem_cons hlt] at h2
    unfold compF at h2
    split at h2
    · rename_i l1 eg
      refine .inr ⟨go, fun H' => ∃ μ' S' acc', Mid G AR μ1 H1 D acc' S' μ' H' ∧ Ext μ μ' H H' ∧ compF g t k l (ds.drop (i + 1)) acc' S' = .ok accE SE, fun H' z => ⟨ds.length - (i + 1), by omega, rfl, hlt, z⟩, fun x H3 y => ?_⟩
      obtain ⟨sm, rx⟩ := yld x H3 y
      have g3 := Grow.same (μ := μ2) sm
      have m3 := m2.step ao h1n g3 (m2.ss.same sm)
      refine ⟨μ2, .d ds[i], l, l1, S2, m3.ss, sl.ext (x2.trans g3.ext), rx, eg, fun H4 σ4 sm4 sl4 ch => ⟨wipe_chg hv ch, ?_⟩⟩
      have g4 := Grow.same (μ := μ2) sm4
      have m4 := m3.step ao h1n g4 (m3.ss.same sm4)
      have x4 := (x2.trans g3.ext).trans g4.ext
      refine ⟨μ2, l1, S2, m4.ss, sl4, ?_⟩
      split at h2
      · rename_i S5 et
        rw [et]
        refine fun μ5 H5 b g5 s5 rb => ?_
        have rb : true = b := rb
        subst rb
        change if true = true then _ else _
        rw [if_pos rfl]
        have m5 := m4.step ao h1n g5 s5
        split at h2
        · rename_i acc6 S6 ek
          exact hE m5 (sl4.grow g5) ek fun μ' H' e' m' => ⟨μ', S6, acc6, m', (x4.trans g5.ext).trans e', h2⟩
        · cases h2
      · rename_i S5 et
        rw [et]
        refine fun μ5 H5 b g5 s5 rb => ?_
        have rb : false = b := rb
        subst rb
        change if false = true then _ else _
        rw [if_neg Bool.false_ne_true]
        exact ⟨μ5, S5, acc2, m4.step ao h1n g5 s5, x4.trans g5.ext, h2⟩
      · cases h2
    · cases h2
  · have e : i = ds.length := by omega
    subst e
    rw [List.drop_length] at h2
    unfold compF at h2
    cases h2
    exact .inl ⟨(yl H2 x2.pers _).2 (Nat.le_refl _), fin μ2 H2 x2 m2⟩
end
end Ev

/-! Ev13: comprehensions of dicts, of two clauses. -/
namespace Ev
open PySem PySem.Spec PyProof.Rows L2

abbrev BlkAll (X : Cx) (scope : Scope) (p : Cx → Prop) : Prop := ∀ (s : Shared) (H : Hp) (C : Addr) (cl : List (Str × Addr)) (fp : List Addr), p (X.blk s H scope (compEnvC scope cl C X.env) fp)
/-- a turn of the second clause -/
abbrev rd1 (J : It) (g : TG) (t : TT) (F : Hp → Prop) (EM : (Hp → Prop) → L2.St → Hp → Prop) (σ : L2.St) (vs : List Nat) (W : Nat → Nat → Hp → Prop) : Prop := ∀ i m H, W i m H → (J.stop i H ∧ F H) ∨ (J.go i H ∧ ∃ Nx : Hp → Prop, (∀ H', Nx H' → ∃ m', m' < m ∧ W (i + 1) m' H') ∧
  ∀ x H', J.yld i H x H' → g x (wipe σ vs) H' fun σ2 H2 => wipe σ2 vs = wipe σ vs ∧ t σ2 H2 fun b H3 => if b = true then EM Nx σ2 H3 else Nx H3)
def emD (tk tv : TE) (D : Addr) (Nx : Hp → Prop) (σ : L2.St) (H : Hp) : Prop := tk σ H fun y H4 => tv σ H4 fun z H5 => ∃ kvs k, y = kV k ∧ H5 D = some (.dK kvs) ∧ kvs.length < sizeLine ∧ Nx (upd H5 D (.dK (putK kvs k z)))
def tDc2 (wi : TI) (g : TG) (t : TT) (wi1 : TI) (g1 : TG) (t1 : TT) (tk tv : TE) (vs vs1 : List Nat) : TE := fun σ H Q => wi σ H fun J H1 => ∀ D, H1 D = none → ∃ W : Nat → Nat → Hp → Prop, (∃ m, W 0 m (upd H1 D (.dK []))) ∧
  rd1 J g t (fun H => Q (.ref D) H) (fun Nx σ2 H3 => wi1 σ2 H3 fun J1 H4 => ∃ W1 : Nat → Nat → Hp → Prop, (∃ m, W1 0 m H4) ∧ rd1 J1 g1 t1 Nx (emD tk tv D) σ2 vs1 W1) σ vs W
section
variable {X : Cx} {kx vx t0 i0 t1 i1 : Expr} {f0 f1 : List Expr} {scope : Scope} {own : List (Str × Nat)} {pos pos' : Pos} {wi wi1 : TI} {g g1 : TG} {t tt1 : TT} {tk tv : TE} {vs1 : List Nat}
theorem dc2_run {pins : List (Addr × Obj)} {s : Shared} {σ : L2.St} {H : Hp} {Q : VK} (calm : X.calm = true) (hN : X.N.Nodup) (I : L2.Inv X pins σ H s) (hi : PI X t0 i0 wi) (ok : BlkOk X.N X.env.scope scope own) (hv : ∀ i ∈ vs1, i ∈ own.map (·.2))
    (hg : BlkAll X scope fun Y => PG Y t0 g) (ht : BlkAll X scope fun Y => PTs Y f0 t) (hi1 : BlkAll X scope fun Y => PI Y t1 i1 wi1) (hg1 : BlkAll X scope fun Y => PG Y t1 g1) (ht1 : BlkAll X scope fun Y => PTs Y f1 tt1)
    (hk : BlkAll X scope fun Y => PE Y kx tk) (he : BlkAll X scope fun Y => PE Y vx tv) (hs : ∀ x, foldedSetIterable i0 X.env x = pure x) (hs1 : ∀ env x, foldedSetIterable i1 env x = pure x) (h : tDc2 wi g t wi1 g1 tt1 tk tv (own.map (·.2)) vs1 σ H Q) :
    wpAny (model X.prog X.w) X.A (eval (Dc2 kx vx t0 i0 f0 t1 i1 f1 scope pos) X.env) (EP X pins σ Q) X.xe s := by
  rw [arm_eval_DictComp]
  have cells : ∀ y ∈ scope.names, y.2 = .free → ∃ c, X.env.cells.lookup y.1 = some c := fun y hy e => (ok.free y hy e).elim (fun k => I.ok.has _ (.inl k)) fun k => I.ok.has _ (.inr k)
  refine wpAny_comprehension_free rfl hs (closure_ok cells) ok.kind (fun y hy e => by rw [ok.uniq y hy, e]) (thn (hi.run pins s σ H _ I h) fun xv sa ha => thn ha fun itv sb hb => ?_)
  obtain ⟨it, fp, tn, J, Hb, rfl, Ib, T, stb, fpb, q⟩ := hb
  refine wpAny_newObj_type (newEnv_comp ?_)
  generalize hD : sb.heap.objs.size = D
  have freeD : Hb D = none := Ib.hok.fresh (Nat.le_of_eq hD)
  obtain ⟨W, ⟨m0, w0⟩, turn⟩ := q D freeD
  generalize esc : ({ sb with heap := sb.heap.push { cls := .type "dict", data := .dict #[] } } : Shared) = sc
  have hsc : sc.heap = sb.heap.push { cls := .type "dict", data := .dict #[] } := by rw [← esc]
  have Ic : L2.Inv X pins σ (upd Hb D (.dK [])) sc := by
    rw [← esc]
    refine Ib.laid (t' := sb.toks) (fun b o z => Heap.get?_push_of_some _ z) (Nat.le_of_eq hD) ?_
    subst hD
    exact dk_empty sb.heap Ib.big
  have fpc : ∀ b ∈ fp, FpOk X pins (upd Hb D (.dK [])) b ∧ b < sc.heap.objs.size := fun b hb => by
    obtain ⟨o, e, _⟩ := T.obj _ _ stb b hb
    have lt := Heap.lt_size e
    refine ⟨⟨(upd_ne (Nat.ne_of_lt (hD ▸ lt))).trans (fpb b hb).1, (fpb b hb).2⟩, by rw [hsc, Heap.size_push]; exact Nat.lt_succ_of_lt lt⟩
  have stc : tn 0 sc.heap := T.keep _ _ _ stb fun b _ o e => by rw [hsc]; exact Heap.get?_push_of_some _ e
  have Id := block_start Ic ok hN fpc
  change codeAny _ _ (.compStart (Dc2 kx vx t0 i0 f0 t1 i1 f1 scope pos) 0 (.ref it) (.ref D) (compEnvC scope (cellsFrom (sc.heap.objs.size + 1) scope.names (cloFrom X.env.cells scope.names [])) sc.heap.objs.size X.env)) (compPost (model X.prog X.w) X.A X.xe none (EP X pins σ Q) (.ref D) sc.heap.objs.size)
    { sc with heap := pushCells (sc.heap.push { cls := .type "dict", data := .dict #[] }) scope.names }
  generalize hcl : cellsFrom (sc.heap.objs.size + 1) scope.names (cloFrom X.env.cells scope.names []) = cl at Id ⊢
  have pg := hg sc (upd Hb D (.dK [])) sc.heap.objs.size cl fp
  have pt := ht sc (upd Hb D (.dK [])) sc.heap.objs.size cl fp
  have pk := hk sc (upd Hb D (.dK [])) sc.heap.objs.size cl fp
  have pv := he sc (upd Hb D (.dK [])) sc.heap.objs.size cl fp
  have pi1 := hi1 sc (upd Hb D (.dK [])) sc.heap.objs.size cl fp
  have pg1 := hg1 sc (upd Hb D (.dK [])) sc.heap.objs.size cl fp
  have pt1 := ht1 sc (upd Hb D (.dK [])) sc.heap.objs.size cl fp
  have clear : ∀ b ∈ fp, (upd Hb D (.dK [])) b = none := fun b hb => (fpc b hb).1.1
  generalize hce : compEnvC scope cl sc.heap.objs.size X.env = ce at Id pg pt pk pv pi1 pg1 pt1 ⊢
  have place : ce.locals = sc.heap.objs.size := by rw [← hce]; rfl
  generalize hHc : upd Hb D (.dK []) = Hc at Ic Id pg pt pk pv pi1 pg1 pt1 w0 clear fpc
  generalize esd : ({ sc with heap := pushCells (sc.heap.push { cls := .type "dict", data := .dict #[] }) scope.names } : Shared) = sd at Id ⊢
  have std : tn 0 sd.heap := T.keep _ _ _ stc fun b _ o e => by rw [← esd]; exact pushCells_keeps _ _ _ _ (Heap.get?_push_of_some _ e)
  let Y : Cx := X.blk sc Hc scope ce fp
  have asFp : ∀ {σ' : L2.St} {H' : Hp} {s' : Shared}, L2.Inv Y [] σ' H' s' → (∀ b ∈ fp, H' b = none) → ∀ b ∈ fp, FpOk Y [] H' b := fun {σ' H' s'} I' hn b hb =>
    ⟨hn b hb, (I'.ok.exf b hb).1, I'.ok.exfs b hb, .inl hb, fun x c e => (I'.ok.exf b hb).2 x c e, fun p hp => absurd (show p ∈ ([] : List (Addr × Obj)) ++ [] from hp) (by simp)⟩
  have loop : codeAny (model X.prog X.w) X.A (.compLoop (Dc2 kx vx t0 i0 f0 t1 i1 f1 scope pos) 0 (.ref it) (.ref D) ce) (compPost (model X.prog X.w) X.A X.xe none (EP X pins σ Q) (.ref D) sc.heap.objs.size) sd := by
    refine dc2_loop0 (hs1 ce) (fun n z => ∃ i H', L2.Inv Y [] (wipe σ (own.map (·.2))) H' z ∧ tn i z.heap ∧ (∀ b ∈ fp, H' b = none) ∧ W i n H') ?_ m0 ⟨0, Hc, Id, std, clear, w0⟩
    rintro n z ⟨i, Hz, Iz, stz, nz, wz⟩
    rcases turn i n Hz wz with ⟨stop, fin⟩ | ⟨go, Nx, hNx, step⟩
    · refine thnF (T.done Y rfl rfl rfl calm i [] z _ Hz (fun _ _ => False) Iz (asFp Iz nz) stz stop) fun r z1 ⟨er, I1⟩ => ?_
      subst er
      have out : L2.Inv X pins σ Hz z1 := Ic.call' (ch := fp) I1.os I1.base I1.hok I1.bare fun b hb => ⟨(fpc b hb).1.2.2.2.1, (fpc b hb).1.2.1, (fpc b hb).1.2.2.2.2.1, (fpc b hb).1.2.2.2.2.2⟩
      have gone : Hz sc.heap.objs.size = none := by
        have y : Hz ce.locals = none := I1.free
        rwa [place] at y
      obtain ⟨m, hn, _⟩ := I1.loc
      have hn : z1.heap.Ns ce.locals m := hn
      rw [place] at hn
      obtain ⟨k0, k1, k2, k3, k4, k5⟩ := Ic.fpOk (Nat.le_refl _) gone
      exact ⟨m, hn, fun h'' same => ⟨.ref D, Hz, out.turned (t' := z1.toks) (fun b o hb e => (same.2 b hb).trans e) k0 k1 k3 k4 k5, rfl, fin⟩⟩
    · refine thnF (T.item Y rfl rfl rfl calm i [] z _ Hz (fun _ _ => False) Iz (asFp Iz nz) stz go) fun r z1 ⟨u, er, q1⟩ => ?_
      subst er
      refine thnF q1 fun _ z2 ⟨x, H2, I2, r2, y2, st2, n2⟩ => ?_
      refine thnF (pg.run _ z2 _ H2 x u _ (I2.pinned (asFp I2 n2) (T.obj _ _ st2)) r2 (step x H2 y2)) fun _ z3 ⟨σ3, H3, I3, hw3, q3⟩ => ?_
      refine thnF (pt.run _ z3 σ3 H3 _ I3 q3) fun b z4 ⟨H4, I4, q4⟩ => ?_
      -- a turn is over
      have over : ∀ {σ' : L2.St} {z' : Shared} {H' : Hp}, L2.Inv Y ([] ++ pinsAt fp z2.heap) σ' H' z' → (wipe σ (own.map (·.2))).length = σ'.length → (∀ (j : Nat) v, (wipe σ (own.map (·.2)))[j]? = some (some v) → σ'[j]? = some (some v)) → Nx H' →
          ∃ m, m < n ∧ ∃ i H', L2.Inv Y [] (wipe σ (own.map (·.2))) H' z' ∧ tn i z'.heap ∧ (∀ b ∈ fp, H' b = none) ∧ W i m H' := fun {σ' z' H'} I' el ew nx => by
        obtain ⟨m', lt, w'⟩ := hNx H' nx
        have held : ∀ b ∈ fp, ∀ o, z2.heap.get? b = some o → z'.heap.get? b = some o ∧ H' b = none := fun b hb o e => by
          have y := I'.pin (b, o) (List.mem_append_right _ (List.mem_append_right _ (mem_pinsAt hb e)))
          exact ⟨y.1, y.2.1⟩
        refine ⟨m', lt, i + 1, H', (I'.unpinned (pins := [])).weak el ew, T.keep _ _ _ st2 fun b hb o e => (held b hb o e).1, fun b hb => ?_, w'⟩
        obtain ⟨o, e, _⟩ := T.obj _ _ st2 b hb
        exact (held b hb o e).2
      have el : (wipe σ (own.map (·.2))).length = σ3.length := by rw [← hw3, wipe_length]
      have old : ∀ (j : Nat) v, (wipe σ (own.map (·.2)))[j]? = some (some v) → σ3[j]? = some (some v) ∧ j ∉ own.map (·.2) := fun j v e => by rw [← hw3] at e; exact wipe_some e
      have old1 : ∀ (j : Nat) v, (wipe σ (own.map (·.2)))[j]? = some (some v) → (wipe σ3 vs1)[j]? = some (some v) := fun j v e => by
        rw [wipe_out fun y => (old j v e).2 (hv j y)]
        exact (old j v e).1
      cases b with
      | false => exact over I4 el (fun j v e => (old j v e).1) q4
      | true =>
        refine thnF (pi1.run _ z4 σ3 H4 _ I4 q4) fun xv z5 hx => thnF hx fun jv z6 h6 => ?_
        obtain ⟨j1, fp1, tn1, J1, H6, rfl, I6, T1, st6, f6, W1, ⟨m1, w1⟩, turn1⟩ := h6
        have asFp1 : ∀ {H' : Hp}, (∀ b ∈ fp1, H' b = none) → ∀ b ∈ fp1, FpOk Y ([] ++ pinsAt fp z2.heap) H' b := fun hn b hb => ⟨hn b hb, (f6 b hb).2⟩
        have inner : codeAny (model X.prog X.w) X.A (.compLoop (Dc2 kx vx t0 i0 f0 t1 i1 f1 scope pos) 1 (.ref j1) (.ref D) ce)
            (fun r z' => match r with
              | .ok _ => ∃ m, m < n ∧ ∃ i H', L2.Inv Y [] (wipe σ (own.map (·.2))) H' z' ∧ tn i z'.heap ∧ (∀ b ∈ fp, H' b = none) ∧ W i m H'
              | .error _ => False) z6 := by
          refine dc2_loop1 (fun k z' => ∃ j H', L2.Inv Y ([] ++ pinsAt fp z2.heap) (wipe σ3 vs1) H' z' ∧ tn1 j z'.heap ∧ (∀ b ∈ fp1, H' b = none) ∧ W1 j k H') ?_ m1 ⟨0, H6, I6.weak (wipe_length _ _) (fun j v e => (wipe_some e).1), st6, fun b hb => (f6 b hb).1, w1⟩
          rintro k z7 ⟨j, H7, I7, st7, n7, w7⟩
          rcases turn1 j k H7 w7 with ⟨stop1, nx1⟩ | ⟨go1, Nx1, hNx1, step1⟩
          · refine thnF (T1.done Y rfl rfl rfl calm j _ z7 (wipe σ3 vs1) H7 (fun _ _ => False) I7 (asFp1 n7) st7 stop1) fun r z8 ⟨er, I8⟩ => ?_
            subst er
            exact over I8 (el.trans (wipe_length σ3 vs1).symm) old1 nx1
          · refine thnF (T1.item Y rfl rfl rfl calm j _ z7 (wipe σ3 vs1) H7 (fun _ _ => False) I7 (asFp1 n7) st7 go1) fun r z8 ⟨u1, er, q8⟩ => ?_
            subst er
            refine thnF q8 fun _ z9 ⟨x1, H9, I9, r9, y9, st9, n9⟩ => ?_
            refine thnF (pg1.run _ z9 (wipe σ3 vs1) H9 x1 u1 _ (I9.pinned (asFp1 n9) (T1.obj _ _ st9)) r9 (step1 x1 H9 y9)) fun _ za ⟨σa, Ha, Ia, hwa, qa⟩ => ?_
            refine thnF (pt1.run _ za σa Ha _ Ia qa) fun b1 zb ⟨Hb', Ib', qb⟩ => ?_
            have over1 : ∀ {z' : Shared} {H' : Hp}, L2.Inv Y (([] ++ pinsAt fp z2.heap) ++ pinsAt fp1 z9.heap) σa H' z' → Nx1 H' → ∃ m, m < k ∧ ∃ j H', L2.Inv Y ([] ++ pinsAt fp z2.heap) (wipe σ3 vs1) H' z' ∧ tn1 j z'.heap ∧ (∀ b ∈ fp1, H' b = none) ∧ W1 j m H' := fun {z' H'} I' nx => by
              obtain ⟨m', lt, w'⟩ := hNx1 H' nx
              have held : ∀ b ∈ fp1, ∀ o, z9.heap.get? b = some o → z'.heap.get? b = some o ∧ H' b = none := fun b hb o e => by
                have y := I'.pin (b, o) (List.mem_append_right _ (List.mem_append_right _ (mem_pinsAt hb e)))
                exact ⟨y.1, y.2.1⟩
              refine ⟨m', lt, j + 1, H', I'.unpinned.weak (by rw [← hwa, wipe_length]) (fun j v e => by rw [← hwa] at e; exact (wipe_some e).1), T1.keep _ _ _ st9 fun b hb o e => (held b hb o e).1, fun b hb => ?_, w'⟩
              obtain ⟨o, e, _⟩ := T1.obj _ _ st9 b hb
              exact (held b hb o e).2
            cases b1 with
            | false => exact over1 Ib' qb
            | true =>
              refine thnF (pk.run _ zb σa Hb' _ Ib' qb) fun kv zc ⟨yk, Hc', Ic', rc, qc⟩ => ?_
              refine thnF (pv.run _ zc σa Hc' _ Ic' qc) fun vv zd ⟨yv, Hd, Id', rd, kvs, kk, ek, hdD, hz, nx⟩ => ?_
              subst ek
              exact d_dictSet (X := Y) Id' hdD hz rc rd fun ze Ie => over1 Ie nx
        exact dc2_start1 inner (T1.self X.A 0 _ _ _ st6 inner)
  exact codeAny_compStart_dict loop (T.self X.A 0 _ _ _ std loop)
end
end Ev

/-! Ev14: rules of comprehensions: dicts, two clauses. -/
namespace Ev
open PySem PySem.Spec PyProof.Rows L2

/-! ### accumulators -/
def ArL (G : Gl) (_ : List Addr) (H : Hp) (p : Addr) (acc : List D) : Prop := ∃ vs, H p = some (.lst vs) ∧ DpFs G.w G.K H vs acc
def ArD (G : Gl) (μ : List Addr) (H : Hp) (p : Addr) (acc : List (D × A)) : Prop := ∃ ks : List (Key × V), H p = some (.dK ks) ∧ Paired (LeafR G μ H) acc ks
theorem arL_ok (G : Gl) : AccOk (ArL G) := ⟨fun ⟨vs, h1, h2⟩ x e => ⟨vs, e.trans h1, h2.mono x.pers⟩⟩
theorem arD_ok (G : Gl) : AccOk (ArD G) := ⟨fun ⟨ks, h1, h2⟩ x e => ⟨ks, e.trans h1, Paired.mapP h2 fun _ _ q => ⟨q.1, q.2.ext x⟩⟩⟩
theorem compF_exc {β : Type} {g : DG} {t : DR Bool} {k : β → Loc → Store → Res β} {l : Loc} {x : Exn} {S' : Store} : ∀ {ds : List D} {acc : β} {S : Store}, compF g t k l ds acc S ≠ .exc x S'
  | [], _, _ => fun h => nomatch h
  | d :: ds, acc, S => by
    unfold compF
    split
    · split
      · split
        · exact compF_exc
        · exact fun h => nomatch h
      · exact compF_exc
      · exact fun h => nomatch h
    · exact fun h => nomatch h
/-- the second clause -/
def innerK {β : Type} (di : DR (List D)) (vs : List Nat) (g : DG) (t : DR Bool) (k : β → Loc → Store → Res β) : β → Loc → Store → Res β := fun acc l S => match di l S with
  | .ok ds S1 => compF g t k (wipeA l vs) ds acc S1
  | _ => .no
def leafB : D → Bool
  | .int _ => true
  | .str _ => true
  | _ => false
def putD (dk dv : DE) : List (D × A) → Loc → Store → Res (List (D × A)) := fun acc l S => match dk l S with
  | .ok (.d k) S1 => match dv l S1 with
    | .ok y S2 => if leafB k = true ∧ acc.length < 16777216 then .ok (dPut acc k y) S2 else .no
    | _ => .no
  | _ => .no
section
variable {G : Gl} {sc scope : Scope} {N : List Str} {pos : Pos} {tg tg1 elt kx vx iter iter1 : Expr} {ifs ifs1 : List Expr}
theorem put_K {μ : List Addr} {H : Hp} (k : Key) {x : A} {u : V} (rx : RelA G μ H x u) {kvs : List (D × A)} {vs : List (Key × V)} (h : Paired (LeafR G μ H) kvs vs) : Paired (LeafR G μ H) (dPut kvs (leafD k) x) (putK vs k u) := by
  have hs : (dGet kvs (leafD k)).isSome = (vs.any fun kv => decide (kv.1 = k)) := by
    induction h with
    | nil => rfl
    | @cons p q _ _ r t ih =>
      rw [List.any_cons, ← ih]
      unfold dGet
      rw [List.find?_cons, r.1]
      by_cases e : q.1 = k
      · rw [decide_eq_true (by rw [e]), decide_eq_true e]; rfl
      · rw [decide_eq_false (fun z => e (leaf_inj.mp z)), decide_eq_false e, Bool.false_or]
  unfold dPut putK
  rw [hs]
  split
  · rename_i hc
    clear hs hc
    induction h with
    | nil => exact .nil
    | @cons p q _ _ r t ih =>
      rw [List.map_cons, List.map_cons]
      refine .cons ?_ ih
      obtain ⟨kd, y⟩ := p
      obtain ⟨j, z⟩ := q
      obtain ⟨e, r⟩ := r
      have e : kd = leafD j := e
      subst e
      by_cases hj : j = k
      · subst hj; rw [if_pos rfl, if_pos rfl]; exact ⟨rfl, rx⟩
      · rw [if_neg hj, if_neg (fun z => hj (leaf_inj.mp z))]; exact ⟨rfl, r⟩
  · exact papp h (.cons ⟨rfl, rx⟩ .nil)
variable {μ1 : List Addr} {H1 : Hp} {p : Addr}
/-- an element put behind -/
theorem em_L (hp : H1 p = none) {d : DE} {acc acc' : List D} {S S' : Store} {μ : List Addr} {H : Hp} {l : Loc} {σ : L2.St} {Nx : Hp → Prop} (m : Mid G (ArL G) μ1 H1 p acc S μ H) (sl : SimL G μ H l σ) (h : putE d acc l S = .ok acc' S')
    (nx : ∀ μ' H', Ext μ μ' H H' → Mid G (ArL G) μ1 H1 p acc' S' μ' H' → Nx H') : tE G Wno d σ H fun y H7 => ∃ xs, H7 p = some (.lst xs) ∧ xs.length < sizeLine ∧ Nx (upd H7 p (.lst (xs ++ [y]))) := by
  refine ⟨μ, l, S, m.ss, sl, ?_⟩
  unfold putE at h
  split at h
  · rename_i y S5 e
    rw [e]
    split at h
    · rename_i hz
      cases h
      refine fun μ5 H5 v g5 s5 rv => ?_
      have m5 := m.step (arL_ok G) hp g5 s5
      obtain ⟨xs, h1, h2⟩ := m5.ar
      have pe : Pers H5 (upd H5 p (.lst (xs ++ [v]))) := upd_pers (fun _ z => by rw [h1] at z; cases z) (fun _ _ z => by rw [h1] at z; cases z)
      refine ⟨xs, h1, by rw [h2.length, line_eq]; exact hz, nx μ5 _ (g5.ext.trans (Ext.pers' pe)) ⟨m5.nd, s5.put pe m5.nd, m5.gr.put hp, ⟨_, upd_same, ?_⟩, by rw [upd_same]; simp⟩⟩
      exact (h2.append (.cons rv .nil)).mono pe
    · cases h
  · cases h
/-- a key and a value put in -/
theorem em_D (hp : H1 p = none) {dk dv : DE} {acc acc' : List (D × A)} {S S' : Store} {μ : List Addr} {H : Hp} {l : Loc} {σ : L2.St} {Nx : Hp → Prop} (m : Mid G (ArD G) μ1 H1 p acc S μ H) (sl : SimL G μ H l σ) (h : putD dk dv acc l S = .ok acc' S')
    (nx : ∀ μ' H', Ext μ μ' H H' → Mid G (ArD G) μ1 H1 p acc' S' μ' H' → Nx H') : emD (tE G Wno dk) (tE G Wno dv) p Nx σ H := by
  unfold putD at h
  split at h
  · rename_i k S4 ek
    split at h
    · rename_i y S5 ev
      split at h
      · rename_i hz
        cases h
        refine ⟨μ, l, S, m.ss, sl, ?_⟩
        rw [ek]
        refine fun μ4 H4 kv g4 s4 r4 => ⟨μ4, l, S4, s4, sl.grow g4, ?_⟩
        rw [ev]
        refine fun μ5 H5 vv g5 s5 r5 => ?_
        have m5 := (m.step (arD_ok G) hp g4 s4).step (arD_ok G) hp g5 s5
        obtain ⟨ks, h1, h2⟩ := m5.ar
        have pe : ∀ o, Pers H5 (upd H5 p o) := fun o => upd_pers (fun _ z => by rw [h1] at z; cases z) (fun _ _ z => by rw [h1] at z; cases z)
        obtain ⟨j, rfl, rfl⟩ : ∃ j : Key, k = leafD j ∧ kv = kV j := by
          cases k with
          | int i => cases r4; exact ⟨.inl i, rfl, rfl⟩
          | str x => cases r4; exact ⟨.inr x, rfl, rfl⟩
          | _ => simp [leafB] at hz
        refine ⟨ks, j, rfl, h1, by rw [← Paired.length h2, line_eq]; exact hz.2, nx μ5 _ ((g4.ext.trans g5.ext).trans (Ext.pers' (pe _))) ⟨m5.nd, s5.put (pe _) m5.nd, m5.gr.put hp, ⟨_, upd_same, ?_⟩, by rw [upd_same]; simp⟩⟩
        exact Paired.mapP (put_K j r5 h2) fun _ _ q => ⟨q.1, q.2.ext (Ext.pers' (pe _))⟩
      · cases h
    · cases h
  · cases h
/-- the second clause as an emission -/
theorem em_in {β : Type} {AR : List Addr → Hp → Addr → β → Prop} (ao : AccOk AR) (hp : H1 p = none) {di : DR (List D)} {g : DG} {t : DR Bool} {k : β → Loc → Store → Res β} {vs is : List Nat} {EM : (Hp → Prop) → L2.St → Hp → Prop} (hv : ∀ i ∈ is, i ∈ vs)
    (hE : ∀ {acc acc' : β} {S S' : Store} {μ : List Addr} {H : Hp} {l' : Loc} {σ' : L2.St} {Nx : Hp → Prop}, Mid G AR μ1 H1 p acc S μ H → SimL G μ H l' σ' → k acc l' S = .ok acc' S' → (∀ μ' H', Ext μ μ' H H' → Mid G AR μ1 H1 p acc' S' μ' H' → Nx H') → EM Nx σ' H)
    {acc acc' : β} {S S' : Store} {μ : List Addr} {H : Hp} {l : Loc} {σ : L2.St} {Nx : Hp → Prop} (m : Mid G AR μ1 H1 p acc S μ H) (sl : SimL G μ H l σ) (h : innerK di vs g t k acc l S = .ok acc' S') (nx : ∀ μ' H', Ext μ μ' H H' → Mid G AR μ1 H1 p acc' S' μ' H' → Nx H') :
    tR G Wno (relI G) di σ H fun J1 H4 => ∃ W1 : Nat → Nat → Hp → Prop, (∃ m, W1 0 m H4) ∧ rd1 J1 (tG G is g) (tT G Wno t) Nx EM σ vs W1 := by
  refine ⟨μ, l, S, m.ss, sl, ?_⟩
  unfold innerK at h
  split at h
  · rename_i ds S4 e
    rw [e]
    exact fun μ4 H4 J g4 s4 yl => comp_read ao hp hv hE yl (m.step ao hp g4 s4) (wipe_sim (sl.grow g4) vs) h fun μ' H' x m' => nx μ' H' (g4.ext.trans x) m'
  · cases h
/-! ### the rules -/
abbrev dFin (acc : List (D × A)) (S : Store) : Res A := .ok (.loc S.length) (S ++ [.dic acc])
theorem fin_D {W : XK} {Q : VK} {acc : List (D × A)} {S : Store} (hp : H1 p = none) (q : Aft G W (RelA G) μ1 H1 (dFin acc S) Q) {μ : List Addr} {H : Hp} (m : Mid G (ArD G) μ1 H1 p acc S μ H) : Q (.ref p) H := by
  obtain ⟨ks, h1, h2⟩ := m.ar
  have x : Ext μ (μ ++ [p]) H H := ⟨⟨[p], rfl⟩, Pers.refl H⟩
  refine q (μ ++ [p]) H (.ref p) (m.gr.adopt hp) (m.ss.adopt m.nd m.hd (.inl ⟨ks, h1, Paired.mapP h2 fun _ _ q => ⟨q.1, q.2.ext x⟩⟩)) ?_
  exact ⟨p, by rw [List.getElem?_append_right (by rw [m.ss.len]; exact Nat.le_refl _)]; simp [m.ss.len], rfl⟩
def dDc (di : DR (List D)) (vs : List Nat) (g : DG) (t : DR Bool) (dk dv : DE) : DE := fun l S => (di l S).bind fun ds S1 => (compF g t (putD dk dv) (wipeA l vs) ds [] S1).bind dFin
def dDc2 (di : DR (List D)) (vs : List Nat) (g : DG) (t : DR Bool) (di1 : DR (List D)) (vs1 : List Nat) (g1 : DG) (t1 : DR Bool) (dk dv : DE) : DE := fun l S => (di l S).bind fun ds S1 => (compF g t (innerK di1 vs1 g1 t1 (putD dk dv)) (wipeA l vs) ds [] S1).bind dFin
def dLc2 (di : DR (List D)) (vs : List Nat) (g : DG) (t : DR Bool) (di1 : DR (List D)) (vs1 : List Nat) (g1 : DG) (t1 : DR Bool) (d : DE) : DE := fun l S => (di l S).bind fun ds S1 => (compF g t (innerK di1 vs1 g1 t1 (putE d)) (wipeA l vs) ds [] S1).bind fun acc S2 => .ok (.d (.list acc)) S2
theorem mid0_D {S : Store} (hp : H1 p = none) (ss : SimS G μ1 S H1) : Mid G (ArD G) μ1 H1 p [] S μ1 (upd H1 p (.dK [])) := by
  have sm := same_new (o := HO.dK []) hp
  exact ⟨fun z => ss.there p z hp, ss.same sm, Grow.same sm, ⟨[], upd_same, .nil⟩, by rw [upd_same]; simp⟩
theorem mid0_L {S : Store} (hp : H1 p = none) (ss : SimS G μ1 S H1) : Mid G (ArL G) μ1 H1 p [] S μ1 (upd H1 p (.lst [])) := by
  have sm := same_new (o := HO.lst []) hp
  exact ⟨fun z => ss.there p z hp, ss.same sm, Grow.same sm, ⟨[], upd_same, .nil⟩, by rw [upd_same]; simp⟩
theorem Yields.same {ds : List D} {J : It} {H H' : Hp} (y : Yields G H ds J) (s : Same H H') : Yields G H' ds J := fun H2 p2 => y H2 ((Pers.of s).trans p2)
/-- the result of the loop, where there's one -/
theorem comp_ok {β : Type} {W : XK} {g : DG} {t : DR Bool} {k : β → Loc → Store → Res β} {l : Loc} {ds : List D} {acc : β} {S : Store} {f : β → Store → Res A} {μ : List Addr} {H : Hp} {Q : VK} (h : Aft G W (RelA G) μ H ((compF g t k l ds acc S).bind f) Q) : ∃ accE SE, compF g t k l ds acc S = .ok accE SE ∧ Aft G W (RelA G) μ H (f accE SE) Q := by
  cases e : compF g t k l ds acc S with
  | ok a S' => rw [e] at h; exact ⟨a, S', rfl, h⟩
  | exc x S' => exact absurd e compF_exc
  | no => rw [e] at h; exact h.elim
section
variable {own : List (Str × Nat)} {xs xs1 : List Str} {is is1 vs1 : List Nat} {g g1 : DG} {t t1 : DR Bool} {d dk dv : DE} {di di1 : DR (List D)}
theorem r_dc (hi : SndI G sc N tg iter di) (ok : BlkOk N sc scope own) (hg : SndG G (relS scope sc) N xs is tg g) (hx : gfB scope (relS scope sc) xs = true) (hv : ∀ i ∈ is, i ∈ own.map (·.2)) (ht : SndIf G (relS scope sc) N ifs t) (hk : Snd G (relS scope sc) N kx dk) (he : Snd G (relS scope sc) N vx dv)
    (hs : ∀ env x, foldedSetIterable iter env x = pure x := by intro _ _; rfl) : Snd G sc N (.DictComp kx vx [⟨tg, iter, ifs, 0⟩] scope pos) (dDc di (own.map (·.2)) g t dk dv) := fun X W st tk =>
  ⟨fun pins s σ H Q I q => (pe_dc st.calm (by rw [st.names]; exact st.nd) (hi X W st tk) (by rw [st.names, st.scope]; exact ok) (fun s H C cl fp => hg _ (st.blk s H C cl fp) (gf_blk st hx s H C cl fp)) (fun s H C cl fp => ht _ Wno (st.blk s H C cl fp) takes0) (fun s H C cl fp => hk _ Wno (st.blk s H C cl fp) takes0) (fun s H C cl fp => he _ Wno (st.blk s H C cl fp) takes0) (hs X.env)).run pins s σ H Q I (by
    obtain ⟨μ, l, S, ss, sl, q⟩ := q
    refine ⟨μ, l, S, ss, sl, Aft.imp (Aft.bind (rel' := relI G) q) fun J H1 _ ⟨ds, μ1, S1, g1, s1, yl, h1⟩ p hp => ?_⟩
    obtain ⟨accE, SE, e, h2⟩ := comp_ok h1
    have sm := same_new (o := HO.dK []) hp
    exact comp_read (arD_ok G) hp hv (fun m sl h nx => em_D hp m sl h nx) (yl.same sm) (mid0_D hp s1) (wipe_sim ((sl.grow g1).grow (Grow.same sm)) _) e fun μ' H' _ m => fin_D hp h2 m)⟩
theorem r_dc2 (hi : SndI G sc N tg iter di) (ok : BlkOk N sc scope own) (hg : SndG G (relS scope sc) N xs is tg g) (hx : gfB scope (relS scope sc) xs = true) (hv : ∀ i ∈ is, i ∈ own.map (·.2)) (ht : SndIf G (relS scope sc) N ifs t)
    (hi1 : SndI G (relS scope sc) N tg1 iter1 di1) (hg1 : SndG G (relS scope sc) N xs1 is1 tg1 g1) (hx1 : gfB scope (relS scope sc) xs1 = true) (hv1 : ∀ i ∈ is1, i ∈ vs1) (hw : ∀ i ∈ vs1, i ∈ own.map (·.2)) (ht1 : SndIf G (relS scope sc) N ifs1 t1) (hk : Snd G (relS scope sc) N kx dk) (he : Snd G (relS scope sc) N vx dv)
    (hs : ∀ env x, foldedSetIterable iter env x = pure x := by intro _ _; rfl) (hs1 : ∀ env x, foldedSetIterable iter1 env x = pure x := by intro _ _; rfl) : Snd G sc N (.DictComp kx vx [⟨tg, iter, ifs, 0⟩, ⟨tg1, iter1, ifs1, 0⟩] scope pos) (dDc2 di (own.map (·.2)) g t di1 vs1 g1 t1 dk dv) := fun X W st tk =>
  ⟨fun pins s σ H Q I q => dc2_run st.calm (by rw [st.names]; exact st.nd) I (hi X W st tk) (by rw [st.names, st.scope]; exact ok) hw (fun s H C cl fp => hg _ (st.blk s H C cl fp) (gf_blk st hx s H C cl fp)) (fun s H C cl fp => ht _ Wno (st.blk s H C cl fp) takes0)
    (fun s H C cl fp => hi1 _ Wno (st.blk s H C cl fp) takes0) (fun s H C cl fp => hg1 _ (st.blk s H C cl fp) (gf_blk st hx1 s H C cl fp)) (fun s H C cl fp => ht1 _ Wno (st.blk s H C cl fp) takes0) (fun s H C cl fp => hk _ Wno (st.blk s H C cl fp) takes0) (fun s H C cl fp => he _ Wno (st.blk s H C cl fp) takes0) (hs X.env) hs1 (by
    obtain ⟨μ, l, S, ss, sl, q⟩ := q
    refine ⟨μ, l, S, ss, sl, Aft.imp (Aft.bind (rel' := relI G) q) fun J H1 _ ⟨ds, μ1, S1, gr, s1, yl, h1⟩ p hp => ?_⟩
    obtain ⟨accE, SE, e, h2⟩ := comp_ok h1
    have sm := same_new (o := HO.dK []) hp
    exact comp_read (arD_ok G) hp hv (fun m sl h nx => em_in (arD_ok G) hp hv1 (fun m sl h nx => em_D hp m sl h nx) m sl h nx) (yl.same sm) (mid0_D hp s1) (wipe_sim ((sl.grow gr).grow (Grow.same sm)) _) e fun μ' H' _ m => fin_D hp h2 m)⟩
theorem lc2_read {X : Cx} {pins : List (Addr × Obj)} {σ : L2.St} {H : Hp} {W : WX} {Q K : VK} {vs : List Nat} (hv : ∀ i ∈ is, i ∈ vs) (hv1 : ∀ i ∈ is1, i ∈ vs1) (q : tE G W (dLc2 di vs g t di1 vs1 g1 t1 d) σ H Q) (hk : ∀ v H1, (∀ σ' s', L2.Inv X pins σ' H1 s' → ∃ H2, L2.Inv X pins σ' H2 s' ∧ Q v H2) → K v H1) :
    tLc2 (tR G W (relI G) di) (tG G is g) (tT G Wno t) (tR G Wno (relI G) di1) (tG G is1 g1) (tT G Wno t1) (tE G Wno d) vs vs1 σ H K := by
  obtain ⟨μ, l, S, ss, sl, q⟩ := q
  refine ⟨μ, l, S, ss, sl, Aft.imp (Aft.bind (rel' := relI G) q) fun J H1 _ ⟨ds, μ1, S1, gr, s1, yl, h1⟩ p hp => ?_⟩
  obtain ⟨accE, SE, e, h2⟩ := comp_ok h1
  have sm := same_new (o := HO.lst []) hp
  refine comp_read (arL_ok G) hp hv (fun m sl h nx => em_in (arL_ok G) hp hv1 (fun m sl h nx => em_L hp m sl h nx) m sl h nx) (yl.same sm) (mid0_L hp s1) (wipe_sim ((sl.grow gr).grow (Grow.same sm)) _) e fun μ' H' _ m => hk _ _ fun σ' s' I => ?_
  obtain ⟨vs2, hd, fs⟩ := m.ar
  obtain ⟨ob, I2⟩ := freezeL I hd
  have p2 : Pers H' (upd H' p (.frz ob (.lst vs2))) := pers_aside hd
  exact ⟨_, I2, h2 μ' _ _ (m.gr.put hp) (m.ss.put p2 m.nd) (.lst (.inl ⟨ob, upd_same⟩) (fs.mono p2))⟩
theorem r_lc2 (hi : SndI G sc N tg iter di) (ok : BlkOk N sc scope own) (hg : SndG G (relS scope sc) N xs is tg g) (hx : gfB scope (relS scope sc) xs = true) (hv : ∀ i ∈ is, i ∈ own.map (·.2)) (ht : SndIf G (relS scope sc) N ifs t)
    (hi1 : SndI G (relS scope sc) N tg1 iter1 di1) (hg1 : SndG G (relS scope sc) N xs1 is1 tg1 g1) (hx1 : gfB scope (relS scope sc) xs1 = true) (hv1 : ∀ i ∈ is1, i ∈ vs1) (hw : ∀ i ∈ vs1, i ∈ own.map (·.2)) (ht1 : SndIf G (relS scope sc) N ifs1 t1) (he : Snd G (relS scope sc) N elt d)
    (hs : ∀ env x, foldedSetIterable iter env x = pure x := by intro _ _; rfl) (hs1 : ∀ env x, foldedSetIterable iter1 env x = pure x := by intro _ _; rfl) : Snd G sc N (.ListComp elt [⟨tg, iter, ifs, 0⟩, ⟨tg1, iter1, ifs1, 0⟩] scope pos) (dLc2 di (own.map (·.2)) g t di1 vs1 g1 t1 d) := fun X W st tk =>
  PE_ghost (pe_lc2 st.calm (by rw [st.names]; exact st.nd) (hi X W st tk) (by rw [st.names, st.scope]; exact ok) hw (fun s H C cl fp => hg _ (st.blk s H C cl fp) (gf_blk st hx s H C cl fp)) (fun s H C cl fp => ht _ Wno (st.blk s H C cl fp) takes0)
    (fun s H C cl fp => hi1 _ Wno (st.blk s H C cl fp) takes0) (fun s H C cl fp => hg1 _ (st.blk s H C cl fp) (gf_blk st hx1 s H C cl fp)) (fun s H C cl fp => ht1 _ Wno (st.blk s H C cl fp) takes0) (fun s H C cl fp => he _ Wno (st.blk s H C cl fp) takes0) (hs X.env) hs1)
    fun pins s σ H Q q => lc2_read (X := X) (pins := pins) hv hv1 q fun v H1 h s' I => h σ s' I
theorem r_setLc2 {i : Nat} {y : Str} {py spos : Pos} (hy : N[i]? = some y) (hyl : sc.names.lookup y = some .local) (hl : (py.line == pos.line) = true) (hn : (scope.names.any fun (n, k) => n == y && (k == .local || k == .cell)) = false)
    (hi : SndI G sc N tg iter di) (ok : BlkOk N sc scope own) (hg : SndG G (relS scope sc) N xs is tg g) (hx : gfB scope (relS scope sc) xs = true) (hv : ∀ i ∈ is, i ∈ own.map (·.2)) (ht : SndIf G (relS scope sc) N ifs t)
    (hi1 : SndI G (relS scope sc) N tg1 iter1 di1) (hg1 : SndG G (relS scope sc) N xs1 is1 tg1 g1) (hx1 : gfB scope (relS scope sc) xs1 = true) (hv1 : ∀ i ∈ is1, i ∈ vs1) (hw : ∀ i ∈ vs1, i ∈ own.map (·.2)) (ht1 : SndIf G (relS scope sc) N ifs1 t1) (he : Snd G (relS scope sc) N elt d)
    (hs : ∀ env x, foldedSetIterable iter env x = pure x := by intro _ _; rfl) (hs1 : ∀ env x, foldedSetIterable iter1 env x = pure x := by intro _ _; rfl) (hk : sc.kind = .function) : SndS G sc N (.Assign [.Name y py] (.ListComp elt [⟨tg, iter, ifs, 0⟩, ⟨tg1, iter1, ifs1, 0⟩] scope pos) spos) (dAsg (gN i) (dLc2 di (own.map (·.2)) g t di1 vs1 g1 t1 d)) := fun X W st tk => by
  have sv := st.toStat
  have hp : PS X (.Assign [.Name y py] (.ListComp elt [⟨tg, iter, ifs, 0⟩, ⟨tg1, iter1, ifs1, 0⟩] scope pos) spos) (tAsg (tLc2 (tR G W (relI G) di) (tG G is g) (tT G Wno t) (tR G Wno (relI G) di1) (tG G is1 g1) (tT G Wno t1) (tE G Wno d) (own.map (·.2)) vs1) (gName i)) :=
    ps_setLc2 st.calm (by rw [st.names]; exact st.nd) (by rw [st.names]; exact hy) (by rw [st.scope]; exact hyl) (sw_true (by rw [st.scope]; exact hk) (by rw [st.scope]; exact hyl) hl hn) (hi X W sv tk) (by rw [st.names, st.scope]; exact ok) hw
      (fun s H C cl fp => hg _ (sv.blk s H C cl fp) (gf_blk sv hx s H C cl fp)) (fun s H C cl fp => ht _ Wno (sv.blk s H C cl fp) takes0) (fun s H C cl fp => hi1 _ Wno (sv.blk s H C cl fp) takes0) (fun s H C cl fp => hg1 _ (sv.blk s H C cl fp) (gf_blk sv hx1 s H C cl fp)) (fun s H C cl fp => ht1 _ Wno (sv.blk s H C cl fp) takes0)
      (fun s H C cl fp => he _ Wno (sv.blk s H C cl fp) takes0) (hs X.env) hs1
  refine ⟨fun pins s σ H D I q => ?_⟩
  refine thn (hp.run pins s σ H { D with nx := fun σ' H' => ∀ s', L2.Inv X pins σ' H' s' → ∃ H2, L2.Inv X pins σ' H2 s' ∧ D.nx σ' H2 } I ?_) fun f s' h => ?_
  · exact lc2_read (X := X) (pins := pins) hv hv1 (gN_read q : tAsg (tE G W _) (gName i) D σ H) fun v H1 h s' I => h (σ.set i (some v)) s' I
  · cases f with
    | next => obtain ⟨σ', H', I', z⟩ := h; obtain ⟨H2, I2, z2⟩ := z s' I'; exact ⟨σ', H2, I2, z2⟩
    | ret v => exact h
    | brk => exact h
    | cont => exact h
end
end
end Ev

/-! Ev15: all defs of a text, level by level; what a head gives. -/
namespace Ev
open PySem PySem.Spec PyProof.Rows L2

/-- a text at a depth of calls -/
def Gl.lv (G : Gl) (cd cm : Nat → Fns) (k : Nat) : Gl := { G with F := cd k, Fm := cm k, k := k }
section
variable {G : Gl} {cd cm : Nat → Fns} {k : Nat}
theorem rel_lv : RelA (G.lv cd cm k) = RelA G := by
  funext μ H a v
  cases a <;> rfl
theorem leaf_lv : LeafR (G.lv cd cm k) = LeafR G := by
  funext μ H p q
  simp only [LeafR, rel_lv]
theorem ent_lv : EntR (G.lv cd cm k) = EntR G := by
  funext μ H p q
  simp only [EntR, rel_lv]
  rfl
theorem cell_lv : CellOk (G.lv cd cm k) = CellOk G := by
  funext μ H a c
  cases c with
  | lst xs => simp only [CellOk, RelAs, rel_lv]
  | dic kvs => simp only [CellOk, leaf_lv, ent_lv]
  | ins c fs => simp only [CellOk, rel_lv]; rfl
  | fzn x => rfl
theorem sim_lv {μ : List Addr} {S : Store} {H : Hp} : SimS (G.lv cd cm k) μ S H ↔ SimS G μ S H :=
  ⟨fun h => ⟨h.nd, h.len, fun n c e => by rw [← cell_lv (G := G) (cd := cd) (cm := cm) (k := k)]; exact h.cells n c e, h.there⟩, fun h => ⟨h.nd, h.len, fun n c e => by rw [cell_lv]; exact h.cells n c e, h.there⟩⟩
theorem aft_lv {W : XK} {μ : List Addr} {H : Hp} {r : Res A} {Q : VK} : Aft (G.lv cd cm k) W (RelA G) μ H r Q ↔ Aft G W (RelA G) μ H r Q := by
  cases r with
  | ok a S => simp only [Aft, sim_lv]
  | exc x S =>
    simp only [Aft, sim_lv]
    exact Iff.rfl
  | no => exact Iff.rfl
theorem sp_lv {F : Fns} {f : Nat} : spOf (G.lv cd cm k) F f = spOf G F f := by
  funext vs H Q E
  unfold spOf
  simp only [sim_lv, aft_lv, RelAs, rel_lv]
  rfl
theorem fnG_lv {j : Nat} {F : Fns} {f : Nat} : FnG (G.lv cd cm k) j F f ↔ FnG G j F f := by
  unfold FnG
  rw [sp_lv]
  exact Iff.rfl
end
/-- the base heap is of no matter -/
theorem sp_lv_base {P : Program} {w : World} {K : PySem.W.Frag} {mg : Str → Option Value} {b b' : Heap} {ca fa : Nat → Addr} {fd : Nat → FuncData} {ps : Nat → List Str} {F1 F2 F : Fns} {k f : Nat} :
    spOf { P := P, w := w, K := K, mg := mg, base := b, ca := ca, fa := fa, fd := fd, ps := ps, F := F1, Fm := F2, k := k } F f = spOf { P := P, w := w, K := K, mg := mg, base := b', ca := ca, fa := fa, fd := fd, ps := ps, F := F1, Fm := F2, k := k } F f := by
  have rel : RelA { P := P, w := w, K := K, mg := mg, base := b, ca := ca, fa := fa, fd := fd, ps := ps, F := F1, Fm := F2, k := k } = RelA { P := P, w := w, K := K, mg := mg, base := b', ca := ca, fa := fa, fd := fd, ps := ps, F := F1, Fm := F2, k := k } := by
    funext μ H a v; cases a <;> rfl
  have leaf : LeafR { P := P, w := w, K := K, mg := mg, base := b, ca := ca, fa := fa, fd := fd, ps := ps, F := F1, Fm := F2, k := k } = LeafR { P := P, w := w, K := K, mg := mg, base := b', ca := ca, fa := fa, fd := fd, ps := ps, F := F1, Fm := F2, k := k } := by
    funext μ H p q
    simp only [LeafR, rel]
  have ent : EntR { P := P, w := w, K := K, mg := mg, base := b, ca := ca, fa := fa, fd := fd, ps := ps, F := F1, Fm := F2, k := k } = EntR { P := P, w := w, K := K, mg := mg, base := b', ca := ca, fa := fa, fd := fd, ps := ps, F := F1, Fm := F2, k := k } := by
    funext μ H p q
    simp only [EntR, rel]
  have cell : CellOk { P := P, w := w, K := K, mg := mg, base := b, ca := ca, fa := fa, fd := fd, ps := ps, F := F1, Fm := F2, k := k } = CellOk { P := P, w := w, K := K, mg := mg, base := b', ca := ca, fa := fa, fd := fd, ps := ps, F := F1, Fm := F2, k := k } := by
    funext μ H a c
    cases c with
    | lst xs => simp only [CellOk, RelAs, rel]
    | dic kvs => simp only [CellOk, leaf, ent]
    | ins c fs => simp only [CellOk, rel]
    | fzn x => rfl
  have sim : ∀ {μ S H}, SimS { P := P, w := w, K := K, mg := mg, base := b, ca := ca, fa := fa, fd := fd, ps := ps, F := F1, Fm := F2, k := k } μ S H ↔ SimS { P := P, w := w, K := K, mg := mg, base := b', ca := ca, fa := fa, fd := fd, ps := ps, F := F1, Fm := F2, k := k } μ S H := fun {μ S H} =>
    ⟨fun h => ⟨h.nd, h.len, fun n c e => by rw [← cell]; exact h.cells n c e, h.there⟩, fun h => ⟨h.nd, h.len, fun n c e => by rw [cell]; exact h.cells n c e, h.there⟩⟩
  have aft : ∀ {W : XK} {μ : List Addr} {H : Hp} {r : Res A} {Q : VK} {R : List Addr → Hp → A → V → Prop}, Aft { P := P, w := w, K := K, mg := mg, base := b, ca := ca, fa := fa, fd := fd, ps := ps, F := F1, Fm := F2, k := k } W R μ H r Q ↔ Aft { P := P, w := w, K := K, mg := mg, base := b', ca := ca, fa := fa, fd := fd, ps := ps, F := F1, Fm := F2, k := k } W R μ H r Q := fun {W μ H r Q R} => by
    cases r with
    | ok a S => simp only [Aft, sim]
    | exc x S => simp only [Aft, sim]; exact Iff.rfl
    | no => exact Iff.rfl
  funext vs H Q E
  unfold spOf
  simp only [sim, aft, RelAs, rel]
/-- all defs keep their promises, at every depth -/
theorem all_good {G : Gl} {cd cm : Nat → Fns} {n : Nat} (h0 : ∀ f as S, cd 0 f as S = .no) (hs : ∀ k, (∀ j, j ≤ k → ∀ f, f < n → FnG G j (cd j) f) → ∀ f, f < n → FnG (G.lv cd cm k) (k + 1) (cd (k + 1)) f) : ∀ k, ∀ j, j ≤ k → ∀ f, f < n → FnG G j (cd j) f := by
  intro k
  induction k with
  | zero =>
    intro j hj f hf
    have e : j = 0 := Nat.le_zero.mp hj
    subst e
    have no : ∀ {vs H Q E}, ¬ spOf G (cd 0) f vs H Q E := fun {vs H Q E} ⟨_, μ, as, S, _, _, z⟩ => by rw [h0] at z; exact z
    exact ⟨fun vs H Q E z => absurd z no, fun A outer s H args us vs Q E _ _ _ _ z => absurd z no⟩
  | succ k ih =>
    intro j hj f hf
    by_cases h : j ≤ k
    · exact ih j h f hf
    · have e : j = k + 1 := by omega
      subst e
      exact fnG_lv.mp (hs k ih f hf)
/-- the class's maker at this depth -/
theorem room_lv {G : Gl} {cd cm : Nat → Fns} {n k f : Nat} (h0 : ∀ f as S, cm 0 f as S = .no) (h1 : ∀ j, cm (j + 1) = cd j) (ih : ∀ j, j ≤ k → ∀ f, f < n → FnG G j (cd j) f) (hf : f < n) : (∀ as S, (G.lv cd cm k).Fm f as S = .no) ∨ ∃ j, (G.lv cd cm k).k = j + 1 ∧ FnG (G.lv cd cm k) j (G.lv cd cm k).Fm f := by
  cases k with
  | zero => exact .inl fun as S => h0 f as S
  | succ j => exact .inr ⟨j, rfl, fnG_lv.mpr (by show FnG G j (cm (j + 1)) f; rw [h1]; exact ih j (Nat.le_succ j) f hf)⟩
theorem defn_len {np n : Nat} {b : DS} {as : List A} {S : Store} : defn np n b as S = .no ∨ as.length = np := by
  unfold defn
  by_cases h : as.length = np
  · exact .inr h
  · exact .inl (if_neg h)
/-- what a head tells of a def -/
theorem fun_of {K : PySem.W.Frag} {x qual : Str} {st : Stmt} {f : Addr} (kp : PySem.W.keepIn K (.ref f) = true)
    (h : ∃ oc od osl kV doc pm an cdv ct, K.lookup f = some ⟨oc, od, .func (PySem.W.fnOf x qual (defArgs st) (defBody st) (defScope st) .none kV doc pm an cdv ct), osl⟩ ∧ PySem.W.codeIn K cdv qual = true) : ∃ fd, Fun K x qual st f fd := by
  obtain ⟨oc, od, osl, kV, doc, pm, an, cdv, ct, h1, h2⟩ := h
  exact ⟨_, ⟨oc, od, kV, doc, pm, an, cdv, ct, osl, rfl, h1, h2⟩, kp⟩
/-- a name that a comprehension of its own block reads is stored so -/
theorem sw_cell {e : Expr} {y : Str} {py : Pos} {l : Nat} {env : Env} (hy : env.scope.names.lookup y = some .cell) : swapsWith e (some (.Name y py)) l env = pure false := by
  have ky : env.kindOf y = some .cell := hy
  have hc : (env.kindOf y == some NameKind.local) = false := by rw [ky]; rfl
  unfold swapsWith
  split
  · simp only [hc]
    simp
  · rfl
section
variable {G : Gl} {sc : Scope} {N : List Str} {pos p' : Pos} {e : Expr} {x : Str} {de : DE}
theorem r_setC {i : Nat} (hi : N[i]? = some x) (hc : sc.names.lookup x = some .cell) (he : Snd G sc N e de) : SndS G sc N (.Assign [.Name x p'] e pos) (dAsg (gN i) de) := fun X W st tk =>
  ⟨fun pins s σ H D I q => (ps_set (X := X) (i := i) (by rw [st.names]; exact st.nd) (by rw [st.names]; exact hi) (by rw [st.scope]; exact .inr hc) (he X W st.toStat tk) (sw_cell (by rw [st.scope]; exact hc)) (.inl (st.fn x))).run pins s σ H D I (gN_read q)⟩
end
/-- the script, as it is handed -/
theorem only_sim {G : Gl} {H : Hp} : SimS G [] [] H := ⟨List.nodup_nil, rfl, fun n c e => by simp at e, fun a h => nomatch h⟩
theorem only_rel {G : Gl} {H : Hp} {a : Addr} {ns : List Int} (hO : Only H) (hS : SqL G.K H a (ns.map V.int)) : RelA G [] H (.d (.list (ns.map .int))) (.ref a) := by
  refine .lst ?_ (ints_fs ns)
  rcases hS with h | h
  · rcases h with h | ⟨o, h⟩
    · rcases hO a with e | ⟨o, xs, e⟩
      · rw [e] at h; cases h
      · rw [e] at h; cases h
    · exact .inl ⟨o, h⟩
  · exact .inr h
/-- nothing flies out of a law -/
theorem none_out {P : Program} {w : World} {H : Hp} {s s' : Shared} {e : Value} (h : L2.CX P w [] H s (fun _ _ _ => False) e s') : False := by
  unfold L2.CX at h
  obtain ⟨_, _, _, _, _, _, _, _, _, _, _, _, z⟩ := h
  exact z
/-- the end: what the law's def gives for each written part -/
theorem end_of {l : PySem.W.OpenLaw} {k : Nat} {q : Program} {loose : List Str} {XP : (Str → Option Value) → Heap → Prop} {YP : World → Heap → Prop} {d : DefRec} {x : Str} (hn : l.most = some 63) (hd : d.params.defaults = []) (room : Room k callerA)
    (F : ∀ (w : World) (mg : Str → Option Value) (f : Addr) (h : Heap), YP w h → h.Ns mainGlobals mg → mg d.name = some (.ref f) → ∃ (K : PySem.W.Frag) (fd : FuncData) (sp : Sp), K.In h ∧ (∀ (s : Shared) (u : Value), BindsTo s fd ⟨[u], []⟩ [(x, u)]) ∧
      (∀ (H : Hp) (a : Addr) (ns : List Int), ns.length ≤ 63 → Only H → SqL K H a (ns.map V.int) → sp [.ref a] H (fun v _ => v = .bl true) fun _ _ _ => False) ∧ ∀ base : Heap, K.In base → base.Ns mainGlobals mg → FnOk l.prog w K mg base (L2.CX l.prog w) k f fd [x] sp) :
    PySem.W.WalkO q loose XP YP l.row.toRowW d [] fun f vs => PySem.call f vs := by
  refine Att.attach_call hn hd fun w sa sb mg mb f o pm cd doc a vs ns T Y ho h1 h2 hm hob hi hlen gens => ?_
  obtain ⟨K, fd, sp, inK, hb, hs, ok⟩ := F w mg f _ Y T.T.g hm
  exact law_call inK T.T.g T.T.b T.T.builtins T.T.nolimit gens hob hi (Nat.le_trans hlen (by decide)) room ok hb (fun H only sq => hs H a ns hlen only sq) fun H e s' => none_out
/-- a def whose answer is True keeps the law's promise -/
theorem law_sp {G : Gl} {F : Fns} {f : Nat} (hp : (G.ps f).length = 1) (h : ∀ ns : List Int, ns.length ≤ 63 → ∃ S, F f [.d (.list (ns.map .int))] [] = .ok (.d (.bool true)) S) {H : Hp} {a : Addr} {ns : List Int} (hl : ns.length ≤ 63) (hO : Only H) (hS : SqL G.K H a (ns.map V.int)) :
    spOf G F f [.ref a] H (fun v _ => v = .bl true) fun _ _ _ => False := by
  obtain ⟨S, e⟩ := h ns hl
  refine ⟨hp.symm, [], [.d (.list (ns.map .int))], [], only_sim, .cons (only_rel hO hS) .nil, ?_⟩
  rw [e]
  intro μ' H' v _ _ r
  cases r
  rfl
end Ev

/-! Ev16: how denotations are reckoned (simp). -/
namespace Ev
open PySem PySem.Spec PyProof.Rows L2

theorem Res.bind_con {α β : Type} {r r' : Res α} {f : α → Store → Res β} (h : r = r') : r.bind f = r'.bind f := by rw [h]
theorem Res.then_con {α : Type} {r r' : Res α} {l : Loc} {k : α → Store → RS} (h : r = r') : r.thenS l k = r'.thenS l k := by rw [h]

/-- behind a statement -/
def RS.to (r : RS) (b : DS) : RS := match r with
  | .nx l S => b l S
  | r => r
theorem RS.to_con {r r' : RS} {b : DS} (h : r = r') : r.to b = r'.to b := by rw [h]

@[simp] theorem to_nx (l : Loc) (S : Store) (b : DS) : (RS.nx l S).to b = b l S := rfl
@[simp] theorem to_rt (a : A) (S : Store) (b : DS) : (RS.rt a S).to b = .rt a S := rfl
@[simp] theorem to_bk (l : Loc) (S : Store) (b : DS) : (RS.bk l S).to b = .bk l S := rfl
@[simp] theorem to_exc (x : Exn) (l : Loc) (S : Store) (b : DS) : (RS.exc x l S).to b = .exc x l S := rfl
@[simp] theorem to_no (b : DS) : (RS.no).to b = .no := rfl
@[simp] theorem ev_seq (a b : DS) (l : Loc) (S : Store) : dSeq a b l S = (a l S).to b := by unfold dSeq RS.to; rfl
@[simp] theorem ev_skip (l : Loc) (S : Store) : dSkip l S = .nx l S := rfl
@[simp] theorem ev_break (l : Loc) (S : Store) : dBreak l S = .bk l S := rfl
@[simp] theorem ev_ret (d : DE) (l : Loc) (S : Store) : dRet d l S = (d l S).thenS l fun a S1 => .rt a S1 := rfl
@[simp] theorem ev_retN (l : Loc) (S : Store) : dRetN l S = .rt (.d .none) S := rfl
@[simp] theorem ev_expr (d : DE) (l : Loc) (S : Store) : dExpr d l S = (d l S).thenS l fun _ S1 => .nx l S1 := rfl
@[simp] theorem ev_ite (t : DR Bool) (a b : DS) (l : Loc) (S : Store) : dIte t a b l S = (t l S).thenS l fun c S1 => if c = true then a l S1 else b l S1 := rfl
/-- a target's new slots -/
def nxO (o : Option Loc) (S : Store) : RS := match o with
  | some l' => .nx l' S
  | none => .no
@[simp] theorem nxO_some (l : Loc) (S : Store) : nxO (some l) S = .nx l S := rfl
@[simp] theorem ev_asg (g : DG) (d : DE) (l : Loc) (S : Store) : dAsg g d l S = (d l S).thenS l fun a S1 => nxO (g a l) S1 := rfl
@[simp] theorem ev_gN (i : Nat) (a : A) (l : Loc) : gN i a l = if i < l.length then some (l.set i (some a)) else none := rfl
@[simp] theorem ev_gTup (gs : List DG) (ds : List D) (l : Loc) : gTup gs (.d (.tuple ds)) l = gAll gs ds l := rfl
@[simp] theorem ev_gAll0 (l : Loc) : gAll [] [] l = some l := rfl
@[simp] theorem ev_gAll (g : DG) (gs : List DG) (d : D) (ds : List D) (l : Loc) : gAll (g :: gs) (d :: ds) l = (g (.d d) l).bind (gAll gs ds) := rfl
@[simp] theorem ev_val (x : D) (l : Loc) (S : Store) : dVal x l S = .ok (.d x) S := rfl
def okO (o : Option (Option A)) (S : Store) : Res A := match o with
  | some (some a) => .ok a S
  | _ => .no
@[simp] theorem okO_some (a : A) (S : Store) : okO (some (some a)) S = .ok a S := rfl
@[simp] theorem ev_name (i : Nat) (l : Loc) (S : Store) : dName i l S = okO (l[i]?) S := by
  unfold dName okO
  cases l[i]? with
  | none => rfl
  | some o => cases o <;> rfl
@[simp] theorem ev_op2 (f : A → A → Store → Option A) (da db : DE) (l : Loc) (S : Store) : dOp2 f da db l S = (da l S).bind fun x S1 => (db l S1).bind fun y S2 => opt (f x y S2) S2 := rfl
@[simp] theorem ev_op1 (f : A → Store → Option A) (da : DE) (l : Loc) (S : Store) : dOp1 f da l S = (da l S).bind fun x S1 => opt (f x S1) S1 := rfl
@[simp] theorem opt_some (a : A) (S : Store) : opt (some a) S = .ok a S := rfl
@[simp] theorem opt_none (S : Store) : opt none S = .no := rfl
@[simp] theorem ev_pu2 (g : D → D → Option D) (x y : D) (S : Store) : pu2 g (.d x) (.d y) S = (g x y).map .d := rfl
@[simp] theorem ev_pu1 (g : D → Option D) (x : D) (S : Store) : pu1 g (.d x) S = (g x).map .d := rfl
@[simp] theorem ev_toB (d : DE) (l : Loc) (S : Store) : toB d l S = (d l S).bind fun a S1 => match a with
  | .d (.bool b) => .ok b S1
  | _ => .no := rfl
@[simp] theorem ev_notT (t : DR Bool) (l : Loc) (S : Store) : dNotT t l S = (t l S).bind fun b S1 => .ok (!b) S1 := rfl
@[simp] theorem ev_andT (t u : DR Bool) (l : Loc) (S : Store) : dAndT t u l S = (t l S).bind fun b S1 => if b = true then u l S1 else .ok false S1 := rfl
@[simp] theorem ev_orT (t u : DR Bool) (l : Loc) (S : Store) : dOrT t u l S = (t l S).bind fun b S1 => if b = true then .ok true S1 else u l S1 := rfl
@[simp] theorem ev_if {α : Type} (t : DR Bool) (u v : DR α) (l : Loc) (S : Store) : dIf t u v l S = (t l S).bind fun b S1 => if b = true then u l S1 else v l S1 := rfl
@[simp] theorem ev_andV (a b : DE) (l : Loc) (S : Store) : dAndV a b l S = dIf (toB a) b (dVal (.bool false)) l S := rfl
@[simp] theorem ev_orV (a b : DE) (l : Loc) (S : Store) : dOrV a b l S = dIf (toB a) (dVal (.bool true)) b l S := rfl
@[simp] theorem ev_notV (a : DE) (l : Loc) (S : Store) : dNotV a l S = (toB a l S).bind fun b S1 => .ok (.d (.bool (!b))) S1 := by
  unfold dNotV ofB
  show (dNotT (toB a) l S).bind _ = _
  rw [ev_notT]
  cases toB a l S <;> rfl
@[simp] theorem ev_chain (f f' : A → A → Store → Option A) (da db dc : DE) (l : Loc) (S : Store) : dChain f f' da db dc l S = (da l S).bind fun x S1 => (db l S1).bind fun y S2 => match f x y S2 with
  | some (.d (.bool true)) => (dc l S2).bind fun z S3 => opt (f' y z S3) S3
  | some (.d (.bool false)) => .ok (.d (.bool false)) S2
  | _ => .no := rfl
@[simp] theorem ev_nil (l : Loc) (S : Store) : dNil l S = .ok [] S := rfl
@[simp] theorem ev_cons (d : DE) (r : DR (List A)) (l : Loc) (S : Store) : dCons d r l S = (d l S).bind fun x S1 => (r l S1).bind fun xs S2 => .ok (x :: xs) S2 := rfl
@[simp] theorem pures_nil : pures [] = some [] := rfl
@[simp] theorem pures_d (x : D) (xs : List A) : pures (.d x :: xs) = (pures xs).map (x :: ·) := rfl
@[simp] theorem ev_tup (da : DR (List A)) (l : Loc) (S : Store) : dTup da l S = (da l S).bind (mkD .tuple) := rfl
@[simp] theorem ev_lst (da : DR (List A)) (l : Loc) (S : Store) : dLst da l S = (da l S).bind (mkD .list) := rfl
@[simp] theorem ev_lstM (da : DR (List A)) (l : Loc) (S : Store) : dLstM da l S = (da l S).bind fun xs S1 => if xs.length ≤ 16777216 then .ok (.loc S1.length) (S1 ++ [.lst xs]) else .no := rfl
@[simp] theorem ev_callB (f : List A → Store → Option A) (da : DR (List A)) (l : Loc) (S : Store) : dCallB f da l S = (da l S).bind fun xs S1 => opt (f xs S1) S1 := rfl
@[simp] theorem ev_pf1 (g : D → Option D) (x : D) (S : Store) : pf1 g [.d x] S = (g x).map .d := rfl
@[simp] theorem ev_pf2 (g : D → D → Option D) (x y : D) (S : Store) : pf2 g [.d x, .d y] S = (g x y).map .d := rfl
@[simp] theorem ev_call (F : Fns) (f : Nat) (da : DR (List A)) (l : Loc) (S : Store) : dCall F f da l S = (da l S).bind fun as S1 => F f as S1 := rfl
@[simp] theorem ev_make (F : Fns) (c f : Nat) (da : DR (List A)) (l : Loc) (S : Store) : dMake F c f da l S = (da l S).bind fun as S1 => (F f (.loc S1.length :: as) (S1 ++ [.ins c []])).bind fun r S2 => match r with
  | .d .none => .ok (.loc S1.length) S2
  | _ => .no := rfl
@[simp] theorem ev_isI (T : String) (d : DE) (l : Loc) (S : Store) : dIsI T d l S = dOp1 (pu1 (isI T)) d l S := rfl
@[simp] theorem ev_frz (d : DE) (l : Loc) (S : Store) : dFrz d l S = (d l S).bind frzA := rfl
@[simp] theorem ev_frzD (x : D) (S : Store) : frzA (.d x) S = .ok (.d x) S := rfl
@[simp] theorem ev_items (d : DE) (l : Loc) (S : Store) : dItems d l S = (d l S).bind fun a S1 => match a with
  | .d x => match itemsD x with
    | some ds => .ok ds S1
    | none => .no
  | _ => .no := rfl
@[simp] theorem ev_for (di : DR (List D)) (g : DG) (body : DS) (l : Loc) (S : Store) : dFor di g body l S = (di l S).thenS l fun ds S1 => loopF g body ds l S1 := rfl
@[simp] theorem ev_rg1 (d : DE) (l : Loc) (S : Store) : dRg1 d l S = (d l S).bind fun x S1 => match x with
  | .d b => match rgI (.int 0) b with
    | some ds => .ok ds S1
    | none => .no
  | _ => .no := rfl
@[simp] theorem ev_rg2 (d d2 : DE) (l : Loc) (S : Store) : dRg2 d d2 l S = (d l S).bind fun x S1 => (d2 l S1).bind fun y S2 => match x, y with
  | .d a, .d b => match rgI a b with
    | some ds => .ok ds S2
    | none => .no
  | _, _ => .no := rfl
@[simp] theorem ev_true (l : Loc) (S : Store) : dTrue l S = .ok true S := rfl
@[simp] theorem mkD_tup (xs : List A) (S : Store) : mkD .tuple xs S = (match pures xs with
  | some ds => if ds.length ≤ 16777216 then .ok (.d (.tuple ds)) S else .no
  | none => .no) := rfl
@[simp] theorem mkD_lst (xs : List A) (S : Store) : mkD .list xs S = (match pures xs with
  | some ds => if ds.length ≤ 16777216 then .ok (.d (.list ds)) S else .no
  | none => .no) := rfl
/-- a def's result from its body's -/
def defR (r : RS) : Res A := match r with
  | .nx _ S' => .ok (.d .none) S'
  | .rt a S' => .ok a S'
  | .exc x _ S' => .exc x S'
  | _ => .no
theorem defR_con {r r' : RS} (h : r = r') : defR r = defR r' := by rw [h]

@[simp] theorem defR_nx (l : Loc) (S : Store) : defR (.nx l S) = .ok (.d .none) S := rfl
@[simp] theorem defR_rt (a : A) (S : Store) : defR (.rt a S) = .ok a S := rfl
@[simp] theorem defR_exc (x : Exn) (l : Loc) (S : Store) : defR (.exc x l S) = .exc x S := rfl
theorem ev_defn {np n : Nat} {b : DS} {as : List A} {S : Store} (h : as.length = np) : defn np n b as S = defR (b (enter n as) S) := by
  unfold defn defR
  rw [if_pos h] <;> (cases b (enter n as) S <;> rfl)
@[simp] theorem ev_enter (n : Nat) (as : List A) : enter n as = as.map some ++ List.replicate (n - as.length) none := rfl

/-! ### arithmetic -/
@[simp] theorem ev_addI (i j : Int) : addD (.int i) (.int j) = some (.int (i + j)) := rfl
@[simp] theorem ev_subI (i j : Int) : subD (.int i) (.int j) = some (.int (i - j)) := rfl
@[simp] theorem ev_negI (i : Int) : negD (.int i) = some (.int (-i)) := rfl
@[simp] theorem ev_mulA (x y : D) (S : Store) : mulA (.d x) (.d y) S = (mulD x y).map .d := rfl
theorem ev_mulI {i j : Int} (h : mulIntOk i j = true) : mulD (.int i) (.int j) = some (.int (i * j)) := if_pos h
theorem ev_divI {i j : Int} (h : 0 < j) (h2 : j < 1073741824) : divD (.int i) (.int j) = some (.int (i / j)) := if_pos ⟨h, h2⟩
theorem ev_modI {i j : Int} (h : 0 < j) : modD (.int i) (.int j) = some (.int (i % j)) := if_pos h
@[simp] theorem ev_eqI (i j : Int) : eqD (.int i) (.int j) = some (decide (i = j)) := rfl
@[simp] theorem ev_eqS (i j : Str) : eqD (.str i) (.str j) = some (decide (i = j)) := rfl
@[simp] theorem ev_eqB (i j : Bool) : eqD (.bool i) (.bool j) = some (decide (i = j)) := rfl
@[simp] theorem ev_boolD (g : D → D → Option Bool) (d e : D) : boolD g d e = (g d e).map .bool := rfl
@[simp] theorem ev_notD (g : D → D → Option Bool) (d e : D) : notD g d e = (g d e).map fun b => .bool !b := rfl
@[simp] theorem ev_ltI (i j : Int) : ltD (.int i) (.int j) = some (decide (i < j)) := rfl
@[simp] theorem ev_leI (i j : Int) : leD (.int i) (.int j) = some (decide (i ≤ j)) := rfl
@[simp] theorem ev_gtI (i j : Int) : gtD (.int i) (.int j) = some (decide (j < i)) := rfl
@[simp] theorem ev_geI (i j : Int) : geD (.int i) (.int j) = some (decide (j ≤ i)) := rfl
@[simp] theorem ev_lenL (ds : List D) (S : Store) : lenA [.d (.list ds)] S = some (.d (.int ds.length)) := rfl
@[simp] theorem ev_lenT (ds : List D) (S : Store) : lenA [.d (.tuple ds)] S = some (.d (.int ds.length)) := rfl
@[simp] theorem ev_ixL (ds : List D) (i : Int) (S : Store) : ixU (.d (.list ds)) (.d (.int i)) S = (atI ds i).map .d := rfl
@[simp] theorem ev_ixT (ds : List D) (i : Int) (S : Store) : ixU (.d (.tuple ds)) (.d (.int i)) S = (atI ds i).map .d := rfl
theorem atI_n {α : Type} {xs : List α} {i : Nat} (h : i < xs.length) : atI xs (i : Int) = xs[i]? := by
  unfold atI ixN
  simp [h]
@[simp] theorem ev_itL (ds : List D) : itemsD (.list ds) = some ds := rfl
@[simp] theorem ev_itT (ds : List D) : itemsD (.tuple ds) = some ds := rfl
theorem ev_rgI {a b : Int} (h : rgOk a b = true) : rgI (.int a) (.int b) = some ((rgL a b).map .int) := if_pos h

/-! ### loops of comprehensions, of for -/
/-- what one element gives: none: left out -/
theorem comp_pure {g : DG} {t : DR Bool} {d : DE} {l : Loc} {S : Store} {f : D → Option D} : ∀ (ds acc : List D), acc.length + ds.length ≤ 16777216 → (∀ x ∈ ds, ∃ l1, g (.d x) l = some l1 ∧ ((t l1 S = .ok true S ∧ ∃ y, f x = some y ∧ d l1 S = .ok (.d y) S) ∨ (t l1 S = .ok false S ∧ f x = none))) →
    compF g t (putE d) l ds acc S = .ok (acc ++ ds.filterMap f) S
  | [], acc, _, _ => by simp [compF]
  | x :: ds, acc, hz, h => by
    obtain ⟨l1, e1, h1⟩ := h x (by simp)
    have hz' : acc.length + (ds.length + 1) ≤ 16777216 := by simpa using hz
    unfold compF
    rw [e1]
    rcases h1 with ⟨e2, y, e3, e4⟩ | ⟨e2, e3⟩
    · simp only [e2]
      have e5 : putE d acc l1 S = .ok (acc ++ [y]) S := by
        unfold putE
        rw [e4]
        exact if_pos (by omega)
      simp only [e5]
      rw [comp_pure ds (acc ++ [y]) (by simp; omega) fun x hx => h x (List.mem_cons_of_mem _ hx), List.filterMap_cons, e3]
      simp
    · simp only [e2]
      rw [comp_pure ds acc (by omega) fun x hx => h x (List.mem_cons_of_mem _ hx), List.filterMap_cons, e3]
/-- [d for g in di if t] -/
theorem ev_lc {di : DR (List D)} {vs : List Nat} {g : DG} {t : DR Bool} {d : DE} {l : Loc} {S S1 : Store} {ds : List D} (f : D → Option D) (hi : di l S = .ok ds S1) (hz : ds.length ≤ 16777216)
    (h : ∀ x ∈ ds, ∃ l1, g (.d x) (wipeA l vs) = some l1 ∧ ((t l1 S1 = .ok true S1 ∧ ∃ y, f x = some y ∧ d l1 S1 = .ok (.d y) S1) ∨ (t l1 S1 = .ok false S1 ∧ f x = none))) : dLc di vs g t d l S = .ok (.d (.list (ds.filterMap f))) S1 := by
  unfold dLc
  rw [hi, Res.ok_bind, comp_pure ds [] (by simpa using hz) h]
  simp
/-- without a test -/
theorem ev_lcM {di : DR (List D)} {vs : List Nat} {g : DG} {d : DE} {l : Loc} {S S1 : Store} {ds : List D} (f : D → D) (hi : di l S = .ok ds S1) (hz : ds.length ≤ 16777216) (h : ∀ x ∈ ds, ∃ l1, g (.d x) (wipeA l vs) = some l1 ∧ d l1 S1 = .ok (.d (f x)) S1) :
    dLc di vs g dTrue d l S = .ok (.d (.list (ds.map f))) S1 := by
  have e : ds.map f = ds.filterMap fun x => some (f x) := by simp
  rw [e]
  exact ev_lc _ hi hz fun x hx => let ⟨l1, h1, h2⟩ := h x hx; ⟨l1, h1, .inl ⟨rfl, _, rfl, h2⟩⟩
@[simp] theorem wipeA_nil (l : Loc) : wipeA l [] = l := rfl
@[simp] theorem wipeA_cons (l : Loc) (v : Nat) (vs : List Nat) : wipeA l (v :: vs) = (wipeA l vs).set v none := rfl
end Ev

/-! what the text says: each def as a function over the store -/
namespace K76
open PySem PySem.Spec L2 Ev
abbrev prog : Program := PySem.Challenge.pw_stretchways_k76_figures_drawn_by_numbers
def top (i : Nat) : Stmt := prog.main.body.getD i (.Pass ⟨0, 0, 0, 0⟩)
def fl : Nat → List Str := fun c => match c with | 0 => ["numbers", "at"] | _ => []
def mt_next : MTab := fun c => match c with | 0 => some 1 | _ => none
abbrev s0 : Stmt := inClass (top 1) 0
abbrev N0 : List Str := ["self", "numbers"]
/-- Numbers.__init__ -/
def b0 (F Fm : Fns) : DS :=
  (dSeq (dSetF fl "numbers" (dName 0) (dCallB (pf1 listD) (dCons (dName 1) dNil)))
    (dSetF fl "at" (dName 0) (dVal (.int 0))))
abbrev s1 : Stmt := inClass (top 1) 1
abbrev N1 : List Str := ["self", "count", "number"]
/-- Numbers.next -/
def b1 (F Fm : Fns) : DS :=
  (dSeq (dSetF fl "at" (dName 0) (dOp2 (pu2 addD) (dOp1 (fldA fl "at") (dName 0)) (dVal (.int 1))))
    (dSeq (dIte (toB (dOp2 (pu2 (boolD gtD)) (dOp1 (fldA fl "at") (dName 0)) (dCallB lenA (dCons (dOp1 (fldA fl "numbers") (dName 0)) dNil)))) (dRet (dVal (.int 0))) dSkip)
    (dSeq (dAsg (gN 2) (dOp2 ixU (dOp1 (fldA fl "numbers") (dName 0)) (dOp2 (pu2 subD) (dOp1 (fldA fl "at") (dName 0)) (dVal (.int 1)))))
    (dRet (dOp2 (pu2 subD) (dName 2) (dOp2 mulA (dOp2 (pu2 divD) (dName 2) (dName 1)) (dName 1)))))))
abbrev s2 : Stmt := top 2
abbrev N2 : List Str := ["pairs", "pair"]
/-- moments_of -/
def b2 (F Fm : Fns) : DS :=
  (dRet (dIf (toB (dOp2 (pu2 (boolD eqD)) (dCallB lenA (dCons (dName 0) dNil)) (dVal (.int 0)))) (dVal (.int 0)) (dOp2 (pu2 addD) (dVal (.int 1)) (dCallB (pf1 max1D) (dCons (dLc (dItems (dName 0)) [1] (gN 1) dTrue (dCallB (pf1 max1D) (dCons (dName 1) dNil))) dNil)))))
abbrev s3 : Stmt := top 3
abbrev N3 : List Str := ["pairs", "moment", "pair", "place"]
/-- opened -/
def b3 (F Fm : Fns) : DS :=
  (dRet (dLc (dItems (dName 0)) [2] (gN 2) dTrue (dCallB (pf1 tupleD) (dCons (dLc (dItems (dName 2)) [3] (gN 3) dTrue (dIf (toB (dOp2 (pu2 (boolD geD)) (dName 3) (dName 1))) (dOp2 (pu2 addD) (dName 3) (dVal (.int 1))) (dName 3))) dNil))))
abbrev s4 : Stmt := top 4
abbrev N4 : List Str := ["number"]
/-- is_odd -/
def b4 (F Fm : Fns) : DS :=
  (dRet (dOp2 (pu2 (boolD eqD)) (dOp2 (pu2 subD) (dName 0) (dOp2 mulA (dOp2 (pu2 divD) (dName 0) (dVal (.int 2))) (dVal (.int 2)))) (dVal (.int 1))))
abbrev s5 : Stmt := top 5
abbrev N5 : List Str := ["pairs", "place"]
/-- row_place -/
def b5 (F Fm : Fns) : DS :=
  (dSeq (dIte (toB (dCall F 4 (dCons (dName 1) dNil))) (dRet (dTup (dCons (dName 0) (dCons (dOp2 (pu2 divD) (dName 1) (dVal (.int 2))) dNil)))) dSkip)
    (dRet (dTup (dCons (dCall F 3 (dCons (dName 0) (dCons (dOp2 (pu2 divD) (dName 1) (dVal (.int 2))) dNil))) (dCons (dOp2 (pu2 divD) (dName 1) (dVal (.int 2))) dNil)))))
abbrev s6 : Stmt := top 6
abbrev N6 : List Str := ["count", "told", "pairs", "number", "size", "begin", "place", "end"]
/-- drawn_row -/
def b6 (F Fm : Fns) : DS :=
  (dSeq (dAsg (gN 2) (dLst dNil))
    (dSeq (dFor (dRg1 (dName 0)) (gN 3) (dSeq (dAsg (gN 4) (dCall F 2 (dCons (dName 2) dNil)))
    (dSeq (dAsg (gTup [(gN 2), (gN 5)]) (dCall F 5 (dCons (dName 2) (dCons (dMeth F mt_next "next" (dName 1) (dCons (dOp2 (pu2 addD) (dOp2 mulA (dVal (.int 2)) (dName 4)) (dVal (.int 1))) dNil)) dNil))))
    (dSeq (dAsg (gN 4) (dCallB (pf2 max2D) (dCons (dCall F 2 (dCons (dName 2) dNil)) (dCons (dOp2 (pu2 addD) (dName 5) (dVal (.int 1))) dNil))))
    (dSeq (dAsg (gN 6) (dOp2 (pu2 addD) (dOp2 (pu2 addD) (dOp2 mulA (dVal (.int 2)) (dName 5)) (dVal (.int 2))) (dMeth F mt_next "next" (dName 1) (dCons (dOp2 (pu2 subD) (dOp2 mulA (dVal (.int 2)) (dOp2 (pu2 subD) (dName 4) (dName 5))) (dVal (.int 1))) dNil))))
    (dSeq (dAsg (gTup [(gN 2), (gN 7)]) (dCall F 5 (dCons (dName 2) (dCons (dName 6) dNil))))
    (dAsg (gN 2) (dOp2 (pu2 addD) (dName 2) (dLst (dCons (dTup (dCons (dName 5) (dCons (dName 7) dNil))) dNil))))))))))
    (dRet (dCallB (pf1 tupleD) (dCons (dName 2) dNil)))))
abbrev s7 : Stmt := top 7
abbrev N7 : List Str := ["pairs", "place"]
/-- round_place -/
def b7 (F Fm : Fns) : DS :=
  (dSeq (dIte (toB (dCall F 4 (dCons (dName 1) dNil))) (dRet (dTup (dCons (dCall F 3 (dCons (dName 0) (dCons (dOp2 (pu2 addD) (dOp2 (pu2 divD) (dName 1) (dVal (.int 2))) (dVal (.int 1))) dNil))) (dCons (dOp2 (pu2 addD) (dOp2 (pu2 divD) (dName 1) (dVal (.int 2))) (dVal (.int 1))) dNil)))) dSkip)
    (dRet (dTup (dCons (dName 0) (dCons (dOp2 (pu2 divD) (dName 1) (dVal (.int 2))) dNil)))))
abbrev s8 : Stmt := top 8
abbrev N8 : List Str := ["count", "told", "pairs", "number", "size", "begin", "places", "place", "end"]
/-- drawn_round -/
def b8 (F Fm : Fns) : DS :=
  (dSeq (dAsg (gN 2) (dLst (dCons (dTup (dCons (dVal (.int 0)) (dCons (dVal (.int 1)) dNil))) dNil)))
    (dSeq (dFor (dRg2 (dVal (.int 1)) (dName 0)) (gN 3) (dSeq (dAsg (gN 4) (dCall F 2 (dCons (dName 2) dNil)))
    (dSeq (dAsg (gTup [(gN 2), (gN 5)]) (dCall F 7 (dCons (dName 2) (dCons (dMeth F mt_next "next" (dName 1) (dCons (dOp2 mulA (dVal (.int 2)) (dName 4)) dNil)) dNil))))
    (dSeq (dAsg (gN 4) (dCallB (pf2 max2D) (dCons (dCall F 2 (dCons (dName 2) dNil)) (dCons (dOp2 (pu2 addD) (dName 5) (dVal (.int 1))) dNil))))
    (dSeq (dAsg (gN 6) (dLc (dRg1 (dOp2 mulA (dVal (.int 2)) (dName 4))) [7] (gN 7) (toB (dOp2 (pu2 (notD eqD)) (dName 7) (dOp2 mulA (dVal (.int 2)) (dName 5)))) (dName 7)))
    (dSeq (dAsg (gN 7) (dOp2 ixU (dName 6) (dMeth F mt_next "next" (dName 1) (dCons (dCallB lenA (dCons (dName 6) dNil)) dNil))))
    (dSeq (dAsg (gTup [(gN 2), (gN 8)]) (dCall F 7 (dCons (dName 2) (dCons (dName 7) dNil))))
    (dSeq (dIte (dAndT (toB (dCall F 4 (dCons (dName 7) dNil))) (toB (dOp2 (pu2 (boolD leD)) (dName 8) (dName 5)))) (dAsg (gN 5) (dOp2 (pu2 addD) (dName 5) (dVal (.int 1)))) dSkip)
    (dAsg (gN 2) (dOp2 (pu2 addD) (dName 2) (dLst (dCons (dTup (dCons (dName 5) (dCons (dName 8) dNil))) dNil))))))))))))
    (dRet (dCallB (pf1 tupleD) (dCons (dName 2) dNil)))))
abbrev s9 : Stmt := top 9
abbrev N9 : List Str := ["kind", "count", "numbers", "told", "first"]
/-- drawn_figure -/
def b9 (F Fm : Fns) : DS :=
  (dSeq (dAsg (gN 3) (dMake Fm 0 0 (dCons (dName 2) dNil)))
    (dSeq (dIte (toB (dOp2 (pu2 (boolD eqD)) (dName 0) (dVal (.str "line")))) (dRet (dCall F 6 (dCons (dName 1) (dCons (dName 3) dNil)))) dSkip)
    (dSeq (dIte (toB (dOp2 (pu2 (boolD eqD)) (dName 0) (dVal (.str "ring")))) (dRet (dCall F 8 (dCons (dName 1) (dCons (dName 3) dNil)))) dSkip)
    (dSeq (dAsg (gN 4) (dCall F 6 (dCons (dName 1) (dCons (dName 3) dNil))))
    (dRet (dTup (dCons (dName 4) (dCons (dCall F 6 (dCons (dName 1) (dCons (dName 3) dNil))) dNil))))))))
abbrev s10 : Stmt := top 11
abbrev N10 : List Str := ["value"]
/-- is_plain_number -/
def b10 (F Fm : Fns) : DS :=
  (dRet (dAndV (dIsI "int" (dName 0)) (dNotV (dIsI "bool" (dName 0)))))
abbrev s11 : Stmt := top 13
abbrev N11 : List Str := ["value"]
/-- is_pair -/
def b11 (F Fm : Fns) : DS :=
  (dSeq (dIte (dOrT (dNotT (toB (dIsI "tuple" (dName 0)))) (toB (dOp2 (pu2 (notD eqD)) (dCallB lenA (dCons (dName 0) dNil)) (dVal (.int 2))))) (dRet (dVal (.bool false))) dSkip)
    (dRet (dAndV (dCall F 10 (dCons (dOp2 ixU (dName 0) (dVal (.int 0))) dNil)) (dCall F 10 (dCons (dOp2 ixU (dName 0) (dVal (.int 1))) dNil)))))
abbrev s12 : Stmt := top 14
abbrev N12 : List Str := ["count", "value", "seen", "pair", "moment"]
/-- are_pairs -/
def b12 (F Fm : Fns) : DS :=
  (dSeq (dIte (dOrT (dNotT (toB (dIsI "tuple" (dName 1)))) (dOrT (toB (dOp2 (pu2 (notD eqD)) (dCallB lenA (dCons (dName 1) dNil)) (dName 0))) (toB (dOp2 (pu2 (boolD ltD)) (dName 0) (dVal (.int 1)))))) (dRet (dVal (.bool false))) dSkip)
    (dSeq (dIte (toB (dOp2 (pu2 (boolD gtD)) (dCallB lenA (dCons (dLc (dItems (dName 1)) [3] (gN 3) (dNotT (toB (dCall F 11 (dCons (dName 3) dNil)))) (dName 3)) dNil)) (dVal (.int 0)))) (dRet (dVal (.bool false))) dSkip)
    (dSeq (dAsg (gN 2) (dCallB sortA (dCons (dDc2 (dItems (dName 1)) [3, 4] (gN 3) dTrue (dItems (dName 3)) [4] (gN 4) dTrue (dName 4) (dVal (.bool true))) dNil)))
    (dRet (dOp2 (pu2 (boolD eqD)) (dName 2) (dOp1 (pu1 rgD1) (dCallB lenA (dCons (dName 2) dNil))))))))
abbrev s13 : Stmt := top 15
abbrev N13 : List Str := ["count", "value", "pair"]
/-- is_line -/
def b13 (F Fm : Fns) : DS :=
  (dRet (dAndV (dCall F 12 (dCons (dName 0) (dCons (dName 1) dNil))) (dOp2 (pu2 (boolD eqD)) (dCallB lenA (dCons (dLc (dItems (dName 1)) [2] (gN 2) (toB (dOp2 (pu2 (boolD geD)) (dOp2 ixU (dName 2) (dVal (.int 0))) (dOp2 ixU (dName 2) (dVal (.int 1))))) (dName 2)) dNil)) (dVal (.int 0)))))
abbrev s14 : Stmt := top 16
abbrev N14 : List Str := ["count", "value", "pair"]
/-- is_ring -/
def b14 (F Fm : Fns) : DS :=
  (dSeq (dIte (dOrT (dNotT (toB (dCall F 12 (dCons (dName 0) (dCons (dName 1) dNil))))) (toB (dOp2 (pu2 (notD eqD)) (dOp2 ixU (dOp2 ixU (dName 1) (dVal (.int 0))) (dVal (.int 0))) (dVal (.int 0))))) (dRet (dVal (.bool false))) dSkip)
    (dRet (dOp2 (pu2 (boolD eqD)) (dCallB lenA (dCons (dLc (dItems (dName 1)) [2] (gN 2) (toB (dOp2 (pu2 (boolD eqD)) (dOp2 ixU (dName 2) (dVal (.int 0))) (dOp2 ixU (dName 2) (dVal (.int 1))))) (dName 2)) dNil)) (dVal (.int 0)))))
abbrev s15 : Stmt := top 17
abbrev N15 : List Str := ["kind", "count", "value"]
/-- is_figure -/
def b15 (F Fm : Fns) : DS :=
  (dSeq (dIte (toB (dOp2 (pu2 (boolD eqD)) (dName 0) (dVal (.str "line")))) (dRet (dCall F 13 (dCons (dName 1) (dCons (dName 2) dNil)))) dSkip)
    (dSeq (dIte (toB (dOp2 (pu2 (boolD eqD)) (dName 0) (dVal (.str "ring")))) (dRet (dCall F 14 (dCons (dName 1) (dCons (dName 2) dNil)))) dSkip)
    (dSeq (dIte (dOrT (dNotT (toB (dIsI "tuple" (dName 2)))) (toB (dOp2 (pu2 (notD eqD)) (dCallB lenA (dCons (dName 2) dNil)) (dVal (.int 2))))) (dRet (dVal (.bool false))) dSkip)
    (dRet (dAndV (dCall F 13 (dCons (dName 1) (dCons (dOp2 ixU (dName 2) (dVal (.int 0))) dNil))) (dCall F 13 (dCons (dName 1) (dCons (dOp2 ixU (dName 2) (dVal (.int 1))) dNil))))))))
abbrev s16 : Stmt := top 19
abbrev N16 : List Str := ["tells", "due", "k"]
/-- _law_same -/
def b16 (F Fm : Fns) : DS :=
  (dSeq (dIte (dOrT (toB (dIsI "bool" (dName 1))) (toB (dIsI "bool" (dName 0)))) (dRet (dAndV (dIsI "bool" (dName 1)) (dAndV (dIsI "bool" (dName 0)) (dOp2 (pu2 (boolD eqD)) (dName 0) (dName 1))))) dSkip)
    (dSeq (dIte (dOrT (toB (dOp2 isA (dName 1) (dVal .none))) (toB (dIsI "int" (dName 1)))) (dRet (dAndV (dOp2 (pu2 (boolD eqD)) (dName 0) (dName 1)) (dOrV (dOp2 isA (dName 1) (dVal .none)) (dIsI "int" (dName 0))))) dSkip)
    (dSeq (dIte (toB (dIsI "str" (dName 1))) (dRet (dAndV (dIsI "str" (dName 0)) (dOp2 (pu2 (boolD eqD)) (dName 0) (dName 1)))) dSkip)
    (dSeq (dIte (dOrT (toB (dOp2 (pu2 (notD eqD)) (dIsI "list" (dName 1)) (dIsI "list" (dName 0)))) (toB (dOp2 (pu2 (notD eqD)) (dIsI "tuple" (dName 1)) (dIsI "tuple" (dName 0))))) (dRet (dVal (.bool false))) dSkip)
    (dSeq (dIte (toB (dOp2 (pu2 (notD eqD)) (dCallB lenA (dCons (dName 0) dNil)) (dCallB lenA (dCons (dName 1) dNil)))) (dRet (dVal (.bool false))) dSkip)
    (dSeq (dFor (dRg1 (dCallB lenA (dCons (dName 1) dNil))) (gN 2) (dIte (dNotT (toB (dCall F 16 (dCons (dOp2 ixU (dName 0) (dName 2)) (dCons (dOp2 ixU (dName 1) (dName 2)) dNil))))) (dRet (dVal (.bool false))) dSkip))
    (dRet (dVal (.bool true)))))))))
abbrev s17 : Stmt := top 20
abbrev N17 : List Str := ["script", "k", "number"]
/-- _law_number -/
def b17 (F Fm : Fns) : DS :=
  (dSeq (dAsg (gN 2) (dOp2 (pu2 addD) (dOp2 mulA (dCallB (pf1 sumD) (dCons (dName 0) dNil)) (dVal (.int 31))) (dOp2 mulA (dVal (.int 1000003)) (dOp2 (pu2 addD) (dName 1) (dVal (.int 1))))))
    (dSeq (dIte (toB (dOp2 (pu2 (boolD ltD)) (dName 1) (dCallB lenA (dCons (dName 0) dNil)))) (dAsg (gN 2) (dOp2 ixU (dName 0) (dName 1))) dSkip)
    (dRet (dCallB (pf1 absD) (dCons (dName 2) dNil)))))
abbrev s18 : Stmt := top 21
abbrev N18 : List Str := ["script", "k", "count", "many", "number", "found", "at", "state", "another"]
/-- _law_draws -/
def b18 (F Fm : Fns) : DS :=
  (dSeq (dAsg (gN 4) (dCall F 17 (dCons (dName 0) (dCons (dName 1) dNil))))
    (dSeq (dAsg (gN 5) (dLstM dNil))
    (dSeq (dIte (toB (dOp2 (pu2 (boolD geD)) (dName 4) (dOp2 (pu2 powD) (dVal (.int 10)) (dVal (.int 18))))) (dSeq (dAsg (gN 4) (dOp2 (pu2 subD) (dName 4) (dOp2 (pu2 powD) (dVal (.int 10)) (dVal (.int 18)))))
    (dSeq (dFor (dRg1 (dName 2)) (gN 6) (dSeq (dExpr (dAppend (dName 5) (dOp2 (pu2 modD) (dName 4) (dName 3))))
    (dAsg (gN 4) (dOp2 (pu2 divD) (dName 4) (dName 3)))))
    (dRet (dName 5)))) dSkip)
    (dSeq (dAsg (gN 7) (dOp2 (pu2 addD) (dOp2 (pu2 modD) (dName 4) (dVal (.int 2147483647))) (dVal (.int 1))))
    (dSeq (dFor (dRg1 (dName 2)) (gN 6) (dSeq (dAsg (gN 7) (dOp2 (pu2 modD) (dOp2 (pu2 addD) (dOp2 (pu2 addD) (dOp2 mulA (dName 7) (dVal (.int 48271))) (dOp2 mulA (dVal (.int 11)) (dName 6))) (dVal (.int 7))) (dVal (.int 2147483647))))
    (dSeq (dAsg (gN 8) (dOp2 (pu2 modD) (dOp2 (pu2 addD) (dOp2 (pu2 addD) (dOp2 mulA (dName 7) (dName 7)) (dOp2 mulA (dVal (.int 69621)) (dName 6))) (dVal (.int 5))) (dVal (.int 2147483629))))
    (dExpr (dAppend (dName 5) (dOp2 (pu2 modD) (dOp2 (pu2 divD) (dName 8) (dVal (.int 64))) (dName 3)))))))
    (dRet (dName 5)))))))
abbrev s19 : Stmt := top 22
abbrev N19 : List Str := ["picks"]
/-- _law_pick -/
def b19 (F Fm : Fns) : DS :=
  (dSeq (dIte (toB (dOp2 (pu2 (boolD eqD)) (dCallB lenA (dCons (dName 0) dNil)) (dVal (.int 0)))) (dRet (dVal (.int 0))) dSkip)
    (dRet (dPop (dName 0))))
abbrev s20 : Stmt := top 23
abbrev N20 : List Str := ["script", "k", "count", "picks"]
/-- _law_picks -/
def b20 (F Fm : Fns) : DS :=
  (dSeq (dAsg (gN 3) (dCall F 18 (dCons (dName 0) (dCons (dName 1) (dCons (dName 2) (dCons (dVal (.int 5040)) dNil))))))
    (dSeq (dExpr (dReverse (dName 3)))
    (dRet (dName 3))))
abbrev s21 : Stmt := top 24
abbrev N21 : List Str := ["lists", "found", "items", "grown", "begun", "item"]
/-- _law_choices -/
def b21 (F Fm : Fns) : DS :=
  (dSeq (dAsg (gN 1) (dLst (dCons (dTup dNil) dNil)))
    (dSeq (dFor (dItems (dName 0)) (gN 2) (dSeq (dAsg (gN 3) (dLst dNil))
    (dSeq (dFor (dItems (dName 1)) (gN 4) (dAsg (gN 3) (dOp2 (pu2 addD) (dName 3) (dLc (dItems (dName 2)) [5] (gN 5) dTrue (dOp2 (pu2 addD) (dName 4) (dTup (dCons (dName 5) dNil)))))))
    (dAsg (gN 1) (dName 3)))))
    (dRet (dName 1))))
abbrev s22 : Stmt := top 25
abbrev N22 : List Str := ["numbers", "at", "count"]
/-- _law_next -/
def b22 (F Fm : Fns) : DS :=
  (dRet (dIf (toB (dOp2 (pu2 (boolD ltD)) (dName 1) (dCallB lenA (dCons (dName 0) dNil)))) (dOp2 (pu2 modD) (dOp2 ixU (dName 0) (dName 1)) (dName 2)) (dVal (.int 0))))
abbrev s23 : Stmt := top 26
abbrev N23 : List Str := ["row", "place", "mark", "is_round", "moment"]
/-- _law_put -/
def b23 (F Fm : Fns) : DS :=
  (dSeq (dAsg (gN 4) (dOp2 (pu2 divD) (dName 1) (dVal (.int 2))))
    (dSeq (dIte (dOrT (dAndT (toB (dName 3)) (toB (dOp2 (pu2 (boolD eqD)) (dOp2 (pu2 modD) (dName 1) (dVal (.int 2))) (dVal (.int 0))))) (dAndT (dNotT (toB (dName 3))) (toB (dOp2 (pu2 (boolD eqD)) (dOp2 (pu2 modD) (dName 1) (dVal (.int 2))) (dVal (.int 1)))))) (dRet (dOp2 (pu2 addD) (dOp2 (pu2 addD) (dSl (dName 0) (dPart none) (dPart (some (dName 4)))) (dLst (dCons (dOp2 (pu2 addD) (dOp2 ixU (dName 0) (dName 4)) (dLst (dCons (dName 2) dNil))) dNil))) (dSl (dName 0) (dPart (some (dOp2 (pu2 addD) (dName 4) (dVal (.int 1))))) (dPart none)))) dSkip)
    (dSeq (dAsg (gN 4) (dOp2 (pu2 addD) (dName 4) (dCallB (pf1 intD) (dCons (dName 3) dNil))))
    (dRet (dOp2 (pu2 addD) (dOp2 (pu2 addD) (dSl (dName 0) (dPart none) (dPart (some (dName 4)))) (dLst (dCons (dLst (dCons (dName 2) dNil)) dNil))) (dSl (dName 0) (dPart (some (dName 4))) (dPart none)))))))
abbrev s24 : Stmt := top 27
abbrev N24 : List Str := ["row", "mark", "at"]
/-- _law_stand -/
def b24 (F Fm : Fns) : DS :=
  (dRet (dOp2 ixU (dLc (dRg1 (dCallB lenA (dCons (dName 0) dNil))) [2] (gN 2) (toB (dOp2 inU (dName 1) (dOp2 ixU (dName 0) (dName 2)))) (dName 2)) (dVal (.int 0))))
abbrev s25 : Stmt := top 28
abbrev N25 : List Str := ["count", "numbers", "at", "row", "number", "begin", "places"]
/-- _law_row_drawn -/
def b25 (F Fm : Fns) : DS :=
  (dSeq (dAsg (gN 3) (dLst dNil))
    (dSeq (dFor (dRg1 (dName 0)) (gN 4) (dSeq (dAsg (gN 3) (dCall F 23 (dCons (dName 3) (dCons (dCall F 22 (dCons (dName 1) (dCons (dName 2) (dCons (dOp2 (pu2 addD) (dOp2 mulA (dVal (.int 2)) (dCallB lenA (dCons (dName 3) dNil))) (dVal (.int 1))) dNil)))) (dCons (dTup (dCons (dName 4) (dCons (dVal (.int 0)) dNil))) (dCons (dVal (.bool false)) dNil))))))
    (dSeq (dAsg (gN 5) (dCall F 24 (dCons (dName 3) (dCons (dTup (dCons (dName 4) (dCons (dVal (.int 0)) dNil))) dNil))))
    (dSeq (dAsg (gN 6) (dOp2 (pu2 rgD2) (dOp2 (pu2 addD) (dOp2 mulA (dVal (.int 2)) (dName 5)) (dVal (.int 2))) (dOp2 (pu2 addD) (dOp2 mulA (dVal (.int 2)) (dCallB lenA (dCons (dName 3) dNil))) (dVal (.int 1)))))
    (dSeq (dAsg (gN 3) (dCall F 23 (dCons (dName 3) (dCons (dOp2 ixU (dName 6) (dCall F 22 (dCons (dName 1) (dCons (dOp2 (pu2 addD) (dName 2) (dVal (.int 1))) (dCons (dCallB lenA (dCons (dName 6) dNil)) dNil))))) (dCons (dTup (dCons (dName 4) (dCons (dVal (.int 1)) dNil))) (dCons (dVal (.bool false)) dNil))))))
    (dAsg (gN 2) (dOp2 (pu2 addD) (dName 2) (dVal (.int 2)))))))))
    (dRet (dCallB (pf1 tupleD) (dCons (dLc (dRg1 (dName 0)) [4] (gN 4) dTrue (dTup (dCons (dCall F 24 (dCons (dName 3) (dCons (dTup (dCons (dName 4) (dCons (dVal (.int 0)) dNil))) dNil))) (dCons (dCall F 24 (dCons (dName 3) (dCons (dTup (dCons (dName 4) (dCons (dVal (.int 1)) dNil))) dNil))) dNil)))) dNil)))))
abbrev s26 : Stmt := top 29
abbrev N26 : List Str := ["count", "numbers", "row", "number", "begin", "places", "place"]
/-- _law_round_drawn -/
def b26 (F Fm : Fns) : DS :=
  (dSeq (dAsg (gN 2) (dLst (dCons (dLst (dCons (dTup (dCons (dVal (.int 0)) (dCons (dVal (.int 0)) dNil))) dNil)) (dCons (dLst (dCons (dTup (dCons (dVal (.int 0)) (dCons (dVal (.int 1)) dNil))) dNil)) dNil))))
    (dSeq (dFor (dRg2 (dVal (.int 1)) (dName 0)) (gN 3) (dSeq (dAsg (gN 2) (dCall F 23 (dCons (dName 2) (dCons (dCall F 22 (dCons (dName 1) (dCons (dOp2 (pu2 subD) (dOp2 mulA (dVal (.int 2)) (dName 3)) (dVal (.int 2))) (dCons (dOp2 mulA (dVal (.int 2)) (dCallB lenA (dCons (dName 2) dNil))) dNil)))) (dCons (dTup (dCons (dName 3) (dCons (dVal (.int 0)) dNil))) (dCons (dVal (.bool true)) dNil))))))
    (dSeq (dAsg (gN 4) (dCall F 24 (dCons (dName 2) (dCons (dTup (dCons (dName 3) (dCons (dVal (.int 0)) dNil))) dNil))))
    (dSeq (dAsg (gN 5) (dLc (dRg1 (dOp2 mulA (dVal (.int 2)) (dCallB lenA (dCons (dName 2) dNil)))) [6] (gN 6) (toB (dOp2 (pu2 (notD eqD)) (dName 6) (dOp2 mulA (dVal (.int 2)) (dName 4)))) (dName 6)))
    (dAsg (gN 2) (dCall F 23 (dCons (dName 2) (dCons (dOp2 ixU (dName 5) (dCall F 22 (dCons (dName 1) (dCons (dOp2 (pu2 subD) (dOp2 mulA (dVal (.int 2)) (dName 3)) (dVal (.int 1))) (dCons (dCallB lenA (dCons (dName 5) dNil)) dNil))))) (dCons (dTup (dCons (dName 3) (dCons (dVal (.int 1)) dNil))) (dCons (dVal (.bool true)) dNil))))))))))
    (dRet (dCallB (pf1 tupleD) (dCons (dLc (dRg1 (dName 0)) [3] (gN 3) dTrue (dTup (dCons (dCall F 24 (dCons (dName 2) (dCons (dTup (dCons (dName 3) (dCons (dVal (.int 0)) dNil))) dNil))) (dCons (dCall F 24 (dCons (dName 2) (dCons (dTup (dCons (dName 3) (dCons (dVal (.int 1)) dNil))) dNil))) dNil)))) dNil)))))
abbrev s27 : Stmt := top 30
abbrev N27 : List Str := ["kind", "count", "numbers"]
/-- _law_drawn -/
def b27 (F Fm : Fns) : DS :=
  (dSeq (dIte (toB (dOp2 (pu2 (boolD eqD)) (dName 0) (dVal (.str "ring")))) (dRet (dCall F 26 (dCons (dName 1) (dCons (dName 2) dNil)))) dSkip)
    (dSeq (dIte (toB (dOp2 (pu2 (boolD eqD)) (dName 0) (dVal (.str "line")))) (dRet (dCall F 25 (dCons (dName 1) (dCons (dName 2) (dCons (dVal (.int 0)) dNil))))) dSkip)
    (dRet (dTup (dCons (dCall F 25 (dCons (dName 1) (dCons (dName 2) (dCons (dVal (.int 0)) dNil)))) (dCons (dCall F 25 (dCons (dName 1) (dCons (dName 2) (dCons (dOp2 mulA (dVal (.int 2)) (dName 1)) dNil)))) dNil))))))
abbrev s28 : Stmt := top 31
abbrev N28 : List Str := ["script", "shape", "picks", "k", "kind", "count", "numbers", "j", "handed", "figure", "found", "chosen"]
/-- law -/
def b28 (F Fm : Fns) : DS :=
  (dSeq (dAsg (gN 1) (dCall F 18 (dCons (dName 0) (dCons (dVal (.int 0)) (dCons (dVal (.int 2)) (dCons (dVal (.int 720)) dNil))))))
    (dSeq (dAsg (gN 2) (dCall F 20 (dCons (dName 0) (dCons (dVal (.int 1)) (dCons (dVal (.int 160)) dNil)))))
    (dSeq (dFor (dRg1 (dVal (.int 4))) (gN 3) (dSeq (dAsg (gN 4) (dOp2 ixU (dTup (dCons (dVal (.str "line")) (dCons (dVal (.str "ring")) (dCons (dVal (.str "box")) dNil)))) (dOp2 (pu2 modD) (dCall F 19 (dCons (dName 2) dNil)) (dVal (.int 3)))))
    (dSeq (dAsg (gN 5) (dOp2 (pu2 addD) (dVal (.int 1)) (dOp2 (pu2 modD) (dCall F 19 (dCons (dName 2) dNil)) (dVal (.int 4)))))
    (dSeq (dAsg (gN 6) (dLstM dNil))
    (dSeq (dFor (dRg1 (dOp2 (pu2 modD) (dCall F 19 (dCons (dName 2) dNil)) (dVal (.int 21)))) (gN 7) (dExpr (dAppend (dName 6) (dOp2 mulA (dOp2 (pu2 subD) (dCall F 19 (dCons (dName 2) dNil)) (dVal (.int 2000))) (dIf (toB (dOp2 (pu2 (boolD eqD)) (dOp2 (pu2 modD) (dCall F 19 (dCons (dName 2) dNil)) (dVal (.int 8))) (dVal (.int 0)))) (dOp2 (pu2 powD) (dVal (.int 10)) (dVal (.int 20))) (dVal (.int 1)))))))
    (dSeq (dAsg (gN 8) (dCallB (pf1 listD) (dCons (dFrz (dName 6)) dNil)))
    (dSeq (dAsg (gN 9) (dCall F 9 (dCons (dName 4) (dCons (dName 5) (dCons (dName 8) dNil)))))
    (dSeq (dIte (dOrT (dNotT (toB (dCall F 16 (dCons (dName 9) (dCons (dCall F 27 (dCons (dName 4) (dCons (dName 5) (dCons (dFrz (dName 6)) dNil)))) dNil))))) (dNotT (toB (dCall F 16 (dCons (dName 8) (dCons (dFrz (dName 6)) dNil)))))) (dRet (dVal (.bool false))) dSkip)
    (dIte (toB (dOp2 isnA (dCall F 15 (dCons (dName 4) (dCons (dName 5) (dCons (dName 9) dNil)))) (dVal (.bool true)))) (dRet (dVal (.bool false))) dSkip)))))))))
    (dSeq (dIte (toB (dOp2 (pu2 (boolD gtD)) (dOp2 (pu2 modD) (dOp2 ixU (dName 1) (dVal (.int 0))) (dVal (.int 8))) (dVal (.int 0)))) (dRet (dVal (.bool true))) dSkip)
    (dSeq (dAsg (gN 4) (dOp2 ixU (dTup (dCons (dVal (.str "line")) (dCons (dVal (.str "ring")) dNil))) (dOp2 (pu2 modD) (dOp2 ixU (dName 1) (dVal (.int 1))) (dVal (.int 2)))))
    (dSeq (dAsg (gN 10) dNewD)
    (dSeq (dFor (dItems (dCall F 21 (dCons (dOp2 mulA (dLstM (dCons (dOp1 (pu1 rgD1) (dVal (.int 5))) dNil)) (dIf (toB (dOp2 (pu2 (boolD eqD)) (dName 4) (dVal (.str "line")))) (dVal (.int 4)) (dVal (.int 2)))) dNil))) (gN 11) (dSetI (dVal (.int 0)) (dName 10) (dCall F 9 (dCons (dName 4) (dCons (dVal (.int 2)) (dCons (dCallB (pf1 listD) (dCons (dName 11) dNil)) dNil))))))
    (dRet (dOp2 (pu2 (boolD eqD)) (dCallB lenA (dCons (dName 10) dNil)) (dIf (toB (dOp2 (pu2 (boolD eqD)) (dName 4) (dVal (.str "ring")))) (dVal (.int 16)) (dVal (.int 13))))))))))))
def ps : Nat → List Str := fun f => match f with
  | 0 => ["self", "numbers"]
  | 1 => ["self", "count"]
  | 2 => ["pairs"]
  | 3 => ["pairs", "moment"]
  | 4 => ["number"]
  | 5 => ["pairs", "place"]
  | 6 => ["count", "told"]
  | 7 => ["pairs", "place"]
  | 8 => ["count", "told"]
  | 9 => ["kind", "count", "numbers"]
  | 10 => ["value"]
  | 11 => ["value"]
  | 12 => ["count", "value"]
  | 13 => ["count", "value"]
  | 14 => ["count", "value"]
  | 15 => ["kind", "count", "value"]
  | 16 => ["tells", "due"]
  | 17 => ["script", "k"]
  | 18 => ["script", "k", "count", "many"]
  | 19 => ["picks"]
  | 20 => ["script", "k", "count"]
  | 21 => ["lists"]
  | 22 => ["numbers", "at", "count"]
  | 23 => ["row", "place", "mark", "is_round"]
  | 24 => ["row", "mark"]
  | 25 => ["count", "numbers", "at"]
  | 26 => ["count", "numbers"]
  | 27 => ["kind", "count", "numbers"]
  | 28 => ["script"]
  | _ => []
def bods (F Fm : Fns) : Nat → List A → Store → Res A := fun f => match f with
  | 0 => defn 2 2 (b0 F Fm)
  | 1 => defn 2 3 (b1 F Fm)
  | 2 => defn 1 2 (b2 F Fm)
  | 3 => defn 2 4 (b3 F Fm)
  | 4 => defn 1 1 (b4 F Fm)
  | 5 => defn 2 2 (b5 F Fm)
  | 6 => defn 2 8 (b6 F Fm)
  | 7 => defn 2 2 (b7 F Fm)
  | 8 => defn 2 9 (b8 F Fm)
  | 9 => defn 3 5 (b9 F Fm)
  | 10 => defn 1 1 (b10 F Fm)
  | 11 => defn 1 1 (b11 F Fm)
  | 12 => defn 2 5 (b12 F Fm)
  | 13 => defn 2 3 (b13 F Fm)
  | 14 => defn 2 3 (b14 F Fm)
  | 15 => defn 3 3 (b15 F Fm)
  | 16 => defn 2 3 (b16 F Fm)
  | 17 => defn 2 3 (b17 F Fm)
  | 18 => defn 4 9 (b18 F Fm)
  | 19 => defn 1 1 (b19 F Fm)
  | 20 => defn 3 4 (b20 F Fm)
  | 21 => defn 1 6 (b21 F Fm)
  | 22 => defn 3 3 (b22 F Fm)
  | 23 => defn 4 5 (b23 F Fm)
  | 24 => defn 2 3 (b24 F Fm)
  | 25 => defn 3 7 (b25 F Fm)
  | 26 => defn 2 7 (b26 F Fm)
  | 27 => defn 3 3 (b27 F Fm)
  | 28 => defn 1 12 (b28 F Fm)
  | _ => fun _ _ => .no
def cdp : Nat → Fns × Fns
  | 0 => (fun _ _ _ => .no, fun _ _ _ => .no)
  | k + 1 => (bods (cdp k).1 (cdp k).2, (cdp k).1)
/-- the defs at a depth, one less deep -/
def cd (k : Nat) : Fns := (cdp k).1
def cm (k : Nat) : Fns := (cdp k).2
theorem v0 (k : Nat) (as : List A) (S : Store) (h : as.length = 2) : cd (k + 1) 0 as S = defR (b0 (cd k) (cm k) (enter 2 as) S) := (show cd (k + 1) 0 as S = defn 2 2 (b0 (cd k) (cm k)) as S from rfl).trans (ev_defn h)
theorem v1 (k : Nat) (as : List A) (S : Store) (h : as.length = 2) : cd (k + 1) 1 as S = defR (b1 (cd k) (cm k) (enter 3 as) S) := (show cd (k + 1) 1 as S = defn 2 3 (b1 (cd k) (cm k)) as S from rfl).trans (ev_defn h)
theorem v2 (k : Nat) (as : List A) (S : Store) (h : as.length = 1) : cd (k + 1) 2 as S = defR (b2 (cd k) (cm k) (enter 2 as) S) := (show cd (k + 1) 2 as S = defn 1 2 (b2 (cd k) (cm k)) as S from rfl).trans (ev_defn h)
theorem v3 (k : Nat) (as : List A) (S : Store) (h : as.length = 2) : cd (k + 1) 3 as S = defR (b3 (cd k) (cm k) (enter 4 as) S) := (show cd (k + 1) 3 as S = defn 2 4 (b3 (cd k) (cm k)) as S from rfl).trans (ev_defn h)
theorem v4 (k : Nat) (as : List A) (S : Store) (h : as.length = 1) : cd (k + 1) 4 as S = defR (b4 (cd k) (cm k) (enter 1 as) S) := (show cd (k + 1) 4 as S = defn 1 1 (b4 (cd k) (cm k)) as S from rfl).trans (ev_defn h)
theorem v5 (k : Nat) (as : List A) (S : Store) (h : as.length = 2) : cd (k + 1) 5 as S = defR (b5 (cd k) (cm k) (enter 2 as) S) := (show cd (k + 1) 5 as S = defn 2 2 (b5 (cd k) (cm k)) as S from rfl).trans (ev_defn h)
theorem v6 (k : Nat) (as : List A) (S : Store) (h : as.length = 2) : cd (k + 1) 6 as S = defR (b6 (cd k) (cm k) (enter 8 as) S) := (show cd (k + 1) 6 as S = defn 2 8 (b6 (cd k) (cm k)) as S from rfl).trans (ev_defn h)
theorem v7 (k : Nat) (as : List A) (S : Store) (h : as.length = 2) : cd (k + 1) 7 as S = defR (b7 (cd k) (cm k) (enter 2 as) S) := (show cd (k + 1) 7 as S = defn 2 2 (b7 (cd k) (cm k)) as S from rfl).trans (ev_defn h)
theorem v8 (k : Nat) (as : List A) (S : Store) (h : as.length = 2) : cd (k + 1) 8 as S = defR (b8 (cd k) (cm k) (enter 9 as) S) := (show cd (k + 1) 8 as S = defn 2 9 (b8 (cd k) (cm k)) as S from rfl).trans (ev_defn h)
theorem v9 (k : Nat) (as : List A) (S : Store) (h : as.length = 3) : cd (k + 1) 9 as S = defR (b9 (cd k) (cm k) (enter 5 as) S) := (show cd (k + 1) 9 as S = defn 3 5 (b9 (cd k) (cm k)) as S from rfl).trans (ev_defn h)
theorem v10 (k : Nat) (as : List A) (S : Store) (h : as.length = 1) : cd (k + 1) 10 as S = defR (b10 (cd k) (cm k) (enter 1 as) S) := (show cd (k + 1) 10 as S = defn 1 1 (b10 (cd k) (cm k)) as S from rfl).trans (ev_defn h)
theorem v11 (k : Nat) (as : List A) (S : Store) (h : as.length = 1) : cd (k + 1) 11 as S = defR (b11 (cd k) (cm k) (enter 1 as) S) := (show cd (k + 1) 11 as S = defn 1 1 (b11 (cd k) (cm k)) as S from rfl).trans (ev_defn h)
theorem v12 (k : Nat) (as : List A) (S : Store) (h : as.length = 2) : cd (k + 1) 12 as S = defR (b12 (cd k) (cm k) (enter 5 as) S) := (show cd (k + 1) 12 as S = defn 2 5 (b12 (cd k) (cm k)) as S from rfl).trans (ev_defn h)
theorem v13 (k : Nat) (as : List A) (S : Store) (h : as.length = 2) : cd (k + 1) 13 as S = defR (b13 (cd k) (cm k) (enter 3 as) S) := (show cd (k + 1) 13 as S = defn 2 3 (b13 (cd k) (cm k)) as S from rfl).trans (ev_defn h)
theorem v14 (k : Nat) (as : List A) (S : Store) (h : as.length = 2) : cd (k + 1) 14 as S = defR (b14 (cd k) (cm k) (enter 3 as) S) := (show cd (k + 1) 14 as S = defn 2 3 (b14 (cd k) (cm k)) as S from rfl).trans (ev_defn h)
theorem v15 (k : Nat) (as : List A) (S : Store) (h : as.length = 3) : cd (k + 1) 15 as S = defR (b15 (cd k) (cm k) (enter 3 as) S) := (show cd (k + 1) 15 as S = defn 3 3 (b15 (cd k) (cm k)) as S from rfl).trans (ev_defn h)
theorem v16 (k : Nat) (as : List A) (S : Store) (h : as.length = 2) : cd (k + 1) 16 as S = defR (b16 (cd k) (cm k) (enter 3 as) S) := (show cd (k + 1) 16 as S = defn 2 3 (b16 (cd k) (cm k)) as S from rfl).trans (ev_defn h)
theorem v17 (k : Nat) (as : List A) (S : Store) (h : as.length = 2) : cd (k + 1) 17 as S = defR (b17 (cd k) (cm k) (enter 3 as) S) := (show cd (k + 1) 17 as S = defn 2 3 (b17 (cd k) (cm k)) as S from rfl).trans (ev_defn h)
theorem v18 (k : Nat) (as : List A) (S : Store) (h : as.length = 4) : cd (k + 1) 18 as S = defR (b18 (cd k) (cm k) (enter 9 as) S) := (show cd (k + 1) 18 as S = defn 4 9 (b18 (cd k) (cm k)) as S from rfl).trans (ev_defn h)
theorem v19 (k : Nat) (as : List A) (S : Store) (h : as.length = 1) : cd (k + 1) 19 as S = defR (b19 (cd k) (cm k) (enter 1 as) S) := (show cd (k + 1) 19 as S = defn 1 1 (b19 (cd k) (cm k)) as S from rfl).trans (ev_defn h)
theorem v20 (k : Nat) (as : List A) (S : Store) (h : as.length = 3) : cd (k + 1) 20 as S = defR (b20 (cd k) (cm k) (enter 4 as) S) := (show cd (k + 1) 20 as S = defn 3 4 (b20 (cd k) (cm k)) as S from rfl).trans (ev_defn h)
theorem v21 (k : Nat) (as : List A) (S : Store) (h : as.length = 1) : cd (k + 1) 21 as S = defR (b21 (cd k) (cm k) (enter 6 as) S) := (show cd (k + 1) 21 as S = defn 1 6 (b21 (cd k) (cm k)) as S from rfl).trans (ev_defn h)
theorem v22 (k : Nat) (as : List A) (S : Store) (h : as.length = 3) : cd (k + 1) 22 as S = defR (b22 (cd k) (cm k) (enter 3 as) S) := (show cd (k + 1) 22 as S = defn 3 3 (b22 (cd k) (cm k)) as S from rfl).trans (ev_defn h)
theorem v23 (k : Nat) (as : List A) (S : Store) (h : as.length = 4) : cd (k + 1) 23 as S = defR (b23 (cd k) (cm k) (enter 5 as) S) := (show cd (k + 1) 23 as S = defn 4 5 (b23 (cd k) (cm k)) as S from rfl).trans (ev_defn h)
theorem v24 (k : Nat) (as : List A) (S : Store) (h : as.length = 2) : cd (k + 1) 24 as S = defR (b24 (cd k) (cm k) (enter 3 as) S) := (show cd (k + 1) 24 as S = defn 2 3 (b24 (cd k) (cm k)) as S from rfl).trans (ev_defn h)
theorem v25 (k : Nat) (as : List A) (S : Store) (h : as.length = 3) : cd (k + 1) 25 as S = defR (b25 (cd k) (cm k) (enter 7 as) S) := (show cd (k + 1) 25 as S = defn 3 7 (b25 (cd k) (cm k)) as S from rfl).trans (ev_defn h)
theorem v26 (k : Nat) (as : List A) (S : Store) (h : as.length = 2) : cd (k + 1) 26 as S = defR (b26 (cd k) (cm k) (enter 7 as) S) := (show cd (k + 1) 26 as S = defn 2 7 (b26 (cd k) (cm k)) as S from rfl).trans (ev_defn h)
theorem v27 (k : Nat) (as : List A) (S : Store) (h : as.length = 3) : cd (k + 1) 27 as S = defR (b27 (cd k) (cm k) (enter 3 as) S) := (show cd (k + 1) 27 as S = defn 3 3 (b27 (cd k) (cm k)) as S from rfl).trans (ev_defn h)
theorem v28 (k : Nat) (as : List A) (S : Store) (h : as.length = 1) : cd (k + 1) 28 as S = defR (b28 (cd k) (cm k) (enter 12 as) S) := (show cd (k + 1) 28 as S = defn 1 12 (b28 (cd k) (cm k)) as S from rfl).trans (ev_defn h)
end K76

/-! the text keeps what its functions say -/
namespace K76
open PySem PySem.Spec L2 Ev
def nm : Nat → Str := fun f => match f with
  | 2 => "moments_of"
  | 3 => "opened"
  | 4 => "is_odd"
  | 5 => "row_place"
  | 6 => "drawn_row"
  | 7 => "round_place"
  | 8 => "drawn_round"
  | 9 => "drawn_figure"
  | 10 => "is_plain_number"
  | 11 => "is_pair"
  | 12 => "are_pairs"
  | 13 => "is_line"
  | 14 => "is_ring"
  | 15 => "is_figure"
  | 16 => "_law_same"
  | 17 => "_law_number"
  | 18 => "_law_draws"
  | 19 => "_law_pick"
  | 20 => "_law_picks"
  | 21 => "_law_choices"
  | 22 => "_law_next"
  | 23 => "_law_put"
  | 24 => "_law_stand"
  | 25 => "_law_row_drawn"
  | 26 => "_law_round_drawn"
  | 27 => "_law_drawn"
  | 28 => "law"
  | _ => ""
def isG : Nat → Bool := fun f => match f with
  | 2 => true
  | 3 => true
  | 4 => true
  | 5 => true
  | 6 => true
  | 7 => true
  | 8 => true
  | 9 => true
  | 10 => true
  | 11 => true
  | 12 => true
  | 13 => true
  | 14 => true
  | 15 => true
  | 16 => true
  | 17 => true
  | 18 => true
  | 19 => true
  | 20 => true
  | 21 => true
  | 22 => true
  | 23 => true
  | 24 => true
  | 25 => true
  | 26 => true
  | 27 => true
  | 28 => true
  | _ => false
def frees : List Str := ["abs", "bool", "int", "isinstance", "len", "list", "max", "range", "sorted", "str", "sum", "tuple"]
structure Tx (G : Gl) : Prop where
  fn : ∀ f, f < 29 → FnIs G f
  ln : ∀ f, f < 29 → FnLen G f
  glo : ∀ f, isG f = true → G.mg (nm f) = some (.ref (G.fa f))
  free : ∀ x, x ∈ frees → G.mg x = none
  cls : ∀ c, ClsIs G c (fl c)
  mt_next : MIs G mt_next "next"
  mk0 : MkIs G 0 0 "Numbers"
variable {G : Gl}
theorem k0 (T : Tx G) : SndSs G (defScope s0) N0 (defBody s0) (b0 G.F G.Fm) :=
  (r_cons (r_setF T.cls (r_name (i := 0) rfl (by kernel_rfl)) (r_callT call_listD (by kernel_rfl) (T.free "list" (by decide)) (by kernel_rfl) (r_acons (r_name (i := 1) rfl (by kernel_rfl)) r_anil)))
    (r_last (r_setF T.cls (r_name (i := 0) rfl (by kernel_rfl)) r_int)))
theorem sc0 : FnScope N0 (ps 0) (defScope s0) := ⟨rfl, rfl, rfl, by decide +kernel, rfl, by decide +kernel, by decide +kernel⟩
theorem k1 (T : Tx G) : SndSs G (defScope s1) N1 (defBody s1) (b1 G.F G.Fm) :=
  (r_cons (r_setF T.cls (r_name (i := 0) rfl (by kernel_rfl)) (r_bin op_addD.s (r_fld T.cls (r_name (i := 0) rfl (by kernel_rfl))) r_int))
    (r_cons (r_if (r_tcmp op_gtDD.s (r_fld T.cls (r_name (i := 0) rfl (by kernel_rfl))) (r_callB call_lenA (by kernel_rfl) (T.free "len" (by decide)) (by kernel_rfl) (r_acons (r_fld T.cls (r_name (i := 0) rfl (by kernel_rfl))) r_anil))) (r_last (r_ret r_int)) r_nil)
    (r_cons (r_set (i := 2) rfl (by kernel_rfl) (r_ix ix_U (r_fld T.cls (r_name (i := 0) rfl (by kernel_rfl))) (r_bin op_subD.s (r_fld T.cls (r_name (i := 0) rfl (by kernel_rfl))) r_int)))
    (r_last (r_ret (r_bin op_subD.s (r_name (i := 2) rfl (by kernel_rfl)) (r_bin op_mulA (r_bin op_divD.s (r_name (i := 2) rfl (by kernel_rfl)) (r_name (i := 1) rfl (by kernel_rfl))) (r_name (i := 1) rfl (by kernel_rfl)))))))))
theorem sc1 : FnScope N1 (ps 1) (defScope s1) := ⟨rfl, rfl, rfl, by decide +kernel, rfl, by decide +kernel, by decide +kernel⟩
theorem k2 (T : Tx G) : SndSs G (defScope s2) N2 (defBody s2) (b2 G.F G.Fm) :=
  (r_last (r_ret (r_ifexp (r_tcmp op_eqDD.s (r_callB call_lenA (by kernel_rfl) (T.free "len" (by decide)) (by kernel_rfl) (r_acons (r_name (i := 0) rfl (by kernel_rfl)) r_anil)) r_int) r_int (r_bin op_addD.s r_int (r_callB call_max1D (by kernel_rfl) (T.free "max" (by decide)) (by kernel_rfl) (r_acons (r_lc (own := [("pair", 1)]) (r_items (r_name (i := 0) rfl (by kernel_rfl))) (blkOk_by (by decide +kernel)) (g_name (i := 1) rfl (by kernel_rfl)) (by kernel_rfl) (by decide) if_nil (r_callB call_max1D (by kernel_rfl) (T.free "max" (by decide)) (by kernel_rfl) (r_acons (r_name (i := 1) rfl (by kernel_rfl)) r_anil))) r_anil))))))
theorem sc2 : FnScope N2 (ps 2) (defScope s2) := ⟨rfl, rfl, rfl, by decide +kernel, rfl, by decide +kernel, by decide +kernel⟩
theorem k3 (T : Tx G) : SndSs G (defScope s3) N3 (defBody s3) (b3 G.F G.Fm) :=
  (r_last (r_ret (r_lc (own := [("pair", 2)]) (r_items (r_name (i := 0) rfl (by kernel_rfl))) (blkOk_by (by decide +kernel)) (g_name (i := 2) rfl (by kernel_rfl)) (by kernel_rfl) (by decide) if_nil (r_callT call_tupleD (by kernel_rfl) (T.free "tuple" (by decide)) (by kernel_rfl) (r_acons (r_lc (own := [("place", 3)]) (r_items (r_name (i := 2) rfl (by kernel_rfl))) (blkOk_by (by decide +kernel)) (g_name (i := 3) rfl (by kernel_rfl)) (by kernel_rfl) (by decide) if_nil (r_ifexp (r_tcmp op_geDD.s (r_name (i := 3) rfl (by kernel_rfl)) (r_name (i := 1) rfl (by kernel_rfl))) (r_bin op_addD.s (r_name (i := 3) rfl (by kernel_rfl)) r_int) (r_name (i := 3) rfl (by kernel_rfl)))) r_anil)))))
theorem sc3 : FnScope N3 (ps 3) (defScope s3) := ⟨rfl, rfl, rfl, by decide +kernel, rfl, by decide +kernel, by decide +kernel⟩
theorem k4 (T : Tx G) : SndSs G (defScope s4) N4 (defBody s4) (b4 G.F G.Fm) :=
  (r_last (r_ret (r_cmp op_eqDD.s (r_bin op_subD.s (r_name (i := 0) rfl (by kernel_rfl)) (r_bin op_mulA (r_bin op_divD.s (r_name (i := 0) rfl (by kernel_rfl)) r_int) r_int)) r_int)))
theorem sc4 : FnScope N4 (ps 4) (defScope s4) := ⟨rfl, rfl, rfl, by decide +kernel, rfl, by decide +kernel, by decide +kernel⟩
theorem k5 (T : Tx G) : SndSs G (defScope s5) N5 (defBody s5) (b5 G.F G.Fm) :=
  (r_cons (r_if (r_tval (h := (r_call (T.fn 4 (by decide)) (T.ln 4 (by decide)) (by kernel_rfl) (T.glo 4 rfl) (r_acons (r_name (i := 1) rfl (by kernel_rfl)) r_anil)))) (r_last (r_ret (r_tup (r_acons (r_name (i := 0) rfl (by kernel_rfl)) (r_acons (r_bin op_divD.s (r_name (i := 1) rfl (by kernel_rfl)) r_int) r_anil))))) r_nil)
    (r_last (r_ret (r_tup (r_acons (r_call (T.fn 3 (by decide)) (T.ln 3 (by decide)) (by kernel_rfl) (T.glo 3 rfl) (r_acons (r_name (i := 0) rfl (by kernel_rfl)) (r_acons (r_bin op_divD.s (r_name (i := 1) rfl (by kernel_rfl)) r_int) r_anil))) (r_acons (r_bin op_divD.s (r_name (i := 1) rfl (by kernel_rfl)) r_int) r_anil))))))
theorem sc5 : FnScope N5 (ps 5) (defScope s5) := ⟨rfl, rfl, rfl, by decide +kernel, rfl, by decide +kernel, by decide +kernel⟩
theorem k6 (T : Tx G) : SndSs G (defScope s6) N6 (defBody s6) (b6 G.F G.Fm) :=
  (r_cons (r_set (i := 2) rfl (by kernel_rfl) (r_lst r_anil))
    (r_cons (r_for (r_rg1 (by kernel_rfl) (T.free "range" (by decide)) (r_name (i := 0) rfl (by kernel_rfl))) (g_name (i := 3) rfl (by kernel_rfl)) (r_cons (r_set (i := 4) rfl (by kernel_rfl) (r_call (T.fn 2 (by decide)) (T.ln 2 (by decide)) (by kernel_rfl) (T.glo 2 rfl) (r_acons (r_name (i := 2) rfl (by kernel_rfl)) r_anil)))
    (r_cons (r_asg (r_call (T.fn 5 (by decide)) (T.ln 5 (by decide)) (by kernel_rfl) (T.glo 5 rfl) (r_acons (r_name (i := 2) rfl (by kernel_rfl)) (r_acons (r_meth T.mt_next (r_name (i := 1) rfl (by kernel_rfl)) (r_acons (r_bin op_addD.s (r_bin op_mulA r_int (r_name (i := 4) rfl (by kernel_rfl))) r_int) r_anil) (pl := _)) r_anil))) (g_tup (g_cons (g_name (i := 2) rfl (by kernel_rfl)) (g_cons (g_name (i := 5) rfl (by kernel_rfl)) g_nil))))
    (r_cons (r_set (i := 4) rfl (by kernel_rfl) (r_callB call_max2D (by kernel_rfl) (T.free "max" (by decide)) (by kernel_rfl) (r_acons (r_call (T.fn 2 (by decide)) (T.ln 2 (by decide)) (by kernel_rfl) (T.glo 2 rfl) (r_acons (r_name (i := 2) rfl (by kernel_rfl)) r_anil)) (r_acons (r_bin op_addD.s (r_name (i := 5) rfl (by kernel_rfl)) r_int) r_anil))))
    (r_cons (r_set (i := 6) rfl (by kernel_rfl) (r_bin op_addD.s (r_bin op_addD.s (r_bin op_mulA r_int (r_name (i := 5) rfl (by kernel_rfl))) r_int) (r_meth T.mt_next (r_name (i := 1) rfl (by kernel_rfl)) (r_acons (r_bin op_subD.s (r_bin op_mulA r_int (r_bin op_subD.s (r_name (i := 4) rfl (by kernel_rfl)) (r_name (i := 5) rfl (by kernel_rfl)))) r_int) r_anil) (pl := _))))
    (r_cons (r_asg (r_call (T.fn 5 (by decide)) (T.ln 5 (by decide)) (by kernel_rfl) (T.glo 5 rfl) (r_acons (r_name (i := 2) rfl (by kernel_rfl)) (r_acons (r_name (i := 6) rfl (by kernel_rfl)) r_anil))) (g_tup (g_cons (g_name (i := 2) rfl (by kernel_rfl)) (g_cons (g_name (i := 7) rfl (by kernel_rfl)) g_nil))))
    (r_last (r_set (i := 2) rfl (by kernel_rfl) (r_bin op_addD.s (r_name (i := 2) rfl (by kernel_rfl)) (r_lst (r_acons (r_tup (r_acons (r_name (i := 5) rfl (by kernel_rfl)) (r_acons (r_name (i := 7) rfl (by kernel_rfl)) r_anil))) r_anil)))))))))))
    (r_last (r_ret (r_callT call_tupleD (by kernel_rfl) (T.free "tuple" (by decide)) (by kernel_rfl) (r_acons (r_name (i := 2) rfl (by kernel_rfl)) r_anil))))))
theorem sc6 : FnScope N6 (ps 6) (defScope s6) := ⟨rfl, rfl, rfl, by decide +kernel, rfl, by decide +kernel, by decide +kernel⟩
theorem k7 (T : Tx G) : SndSs G (defScope s7) N7 (defBody s7) (b7 G.F G.Fm) :=
  (r_cons (r_if (r_tval (h := (r_call (T.fn 4 (by decide)) (T.ln 4 (by decide)) (by kernel_rfl) (T.glo 4 rfl) (r_acons (r_name (i := 1) rfl (by kernel_rfl)) r_anil)))) (r_last (r_ret (r_tup (r_acons (r_call (T.fn 3 (by decide)) (T.ln 3 (by decide)) (by kernel_rfl) (T.glo 3 rfl) (r_acons (r_name (i := 0) rfl (by kernel_rfl)) (r_acons (r_bin op_addD.s (r_bin op_divD.s (r_name (i := 1) rfl (by kernel_rfl)) r_int) r_int) r_anil))) (r_acons (r_bin op_addD.s (r_bin op_divD.s (r_name (i := 1) rfl (by kernel_rfl)) r_int) r_int) r_anil))))) r_nil)
    (r_last (r_ret (r_tup (r_acons (r_name (i := 0) rfl (by kernel_rfl)) (r_acons (r_bin op_divD.s (r_name (i := 1) rfl (by kernel_rfl)) r_int) r_anil))))))
theorem sc7 : FnScope N7 (ps 7) (defScope s7) := ⟨rfl, rfl, rfl, by decide +kernel, rfl, by decide +kernel, by decide +kernel⟩
theorem k8 (T : Tx G) : SndSs G (defScope s8) N8 (defBody s8) (b8 G.F G.Fm) :=
  (r_cons (r_set (i := 2) rfl (by kernel_rfl) (r_lst (r_acons (r_tup (r_acons r_int (r_acons r_int r_anil))) r_anil)))
    (r_cons (r_for (r_rg2 (by kernel_rfl) (T.free "range" (by decide)) r_int (r_name (i := 0) rfl (by kernel_rfl))) (g_name (i := 3) rfl (by kernel_rfl)) (r_cons (r_set (i := 4) rfl (by kernel_rfl) (r_call (T.fn 2 (by decide)) (T.ln 2 (by decide)) (by kernel_rfl) (T.glo 2 rfl) (r_acons (r_name (i := 2) rfl (by kernel_rfl)) r_anil)))
    (r_cons (r_asg (r_call (T.fn 7 (by decide)) (T.ln 7 (by decide)) (by kernel_rfl) (T.glo 7 rfl) (r_acons (r_name (i := 2) rfl (by kernel_rfl)) (r_acons (r_meth T.mt_next (r_name (i := 1) rfl (by kernel_rfl)) (r_acons (r_bin op_mulA r_int (r_name (i := 4) rfl (by kernel_rfl))) r_anil) (pl := _)) r_anil))) (g_tup (g_cons (g_name (i := 2) rfl (by kernel_rfl)) (g_cons (g_name (i := 5) rfl (by kernel_rfl)) g_nil))))
    (r_cons (r_set (i := 4) rfl (by kernel_rfl) (r_callB call_max2D (by kernel_rfl) (T.free "max" (by decide)) (by kernel_rfl) (r_acons (r_call (T.fn 2 (by decide)) (T.ln 2 (by decide)) (by kernel_rfl) (T.glo 2 rfl) (r_acons (r_name (i := 2) rfl (by kernel_rfl)) r_anil)) (r_acons (r_bin op_addD.s (r_name (i := 5) rfl (by kernel_rfl)) r_int) r_anil))))
    (r_cons (r_setLc (i := 6) rfl (by kernel_rfl) (by kernel_rfl) (by kernel_rfl) (own := [("place", 7)]) (r_rg1 (by kernel_rfl) (T.free "range" (by decide)) (r_bin op_mulA r_int (r_name (i := 4) rfl (by kernel_rfl)))) (blkOk_by (by decide +kernel)) (g_name (i := 7) rfl (by kernel_rfl)) (by kernel_rfl) (by decide) (if_one (r_tcmp op_neDD.s (r_name (i := 7) rfl (by kernel_rfl)) (r_bin op_mulA r_int (r_name (i := 5) rfl (by kernel_rfl))))) (r_name (i := 7) rfl (by kernel_rfl)) (hk := (by kernel_rfl)))
    (r_cons (r_set (i := 7) rfl (by kernel_rfl) (r_ix ix_U (r_name (i := 6) rfl (by kernel_rfl)) (r_meth T.mt_next (r_name (i := 1) rfl (by kernel_rfl)) (r_acons (r_callB call_lenA (by kernel_rfl) (T.free "len" (by decide)) (by kernel_rfl) (r_acons (r_name (i := 6) rfl (by kernel_rfl)) r_anil)) r_anil) (pl := _))))
    (r_cons (r_asg (r_call (T.fn 7 (by decide)) (T.ln 7 (by decide)) (by kernel_rfl) (T.glo 7 rfl) (r_acons (r_name (i := 2) rfl (by kernel_rfl)) (r_acons (r_name (i := 7) rfl (by kernel_rfl)) r_anil))) (g_tup (g_cons (g_name (i := 2) rfl (by kernel_rfl)) (g_cons (g_name (i := 8) rfl (by kernel_rfl)) g_nil))))
    (r_cons (r_if (r_wand (r_tval (h := (r_call (T.fn 4 (by decide)) (T.ln 4 (by decide)) (by kernel_rfl) (T.glo 4 rfl) (r_acons (r_name (i := 7) rfl (by kernel_rfl)) r_anil)))) (r_wand1 (r_tcmp op_leDD.s (r_name (i := 8) rfl (by kernel_rfl)) (r_name (i := 5) rfl (by kernel_rfl))))).t (r_last (r_set (i := 5) rfl (by kernel_rfl) (r_bin op_addD.s (r_name (i := 5) rfl (by kernel_rfl)) r_int))) r_nil)
    (r_last (r_set (i := 2) rfl (by kernel_rfl) (r_bin op_addD.s (r_name (i := 2) rfl (by kernel_rfl)) (r_lst (r_acons (r_tup (r_acons (r_name (i := 5) rfl (by kernel_rfl)) (r_acons (r_name (i := 8) rfl (by kernel_rfl)) r_anil))) r_anil)))))))))))))
    (r_last (r_ret (r_callT call_tupleD (by kernel_rfl) (T.free "tuple" (by decide)) (by kernel_rfl) (r_acons (r_name (i := 2) rfl (by kernel_rfl)) r_anil))))))
theorem sc8 : FnScope N8 (ps 8) (defScope s8) := ⟨rfl, rfl, rfl, by decide +kernel, rfl, by decide +kernel, by decide +kernel⟩
theorem k9 (T : Tx G) : SndSs G (defScope s9) N9 (defBody s9) (b9 G.F G.Fm) :=
  (r_cons (r_set (i := 3) rfl (by kernel_rfl) (r_make (T.mk0) (by kernel_rfl) (r_acons (r_name (i := 2) rfl (by kernel_rfl)) r_anil)))
    (r_cons (r_if (r_tcmp op_eqDD.s (r_name (i := 0) rfl (by kernel_rfl)) r_str) (r_last (r_ret (r_call (T.fn 6 (by decide)) (T.ln 6 (by decide)) (by kernel_rfl) (T.glo 6 rfl) (r_acons (r_name (i := 1) rfl (by kernel_rfl)) (r_acons (r_name (i := 3) rfl (by kernel_rfl)) r_anil))))) r_nil)
    (r_cons (r_if (r_tcmp op_eqDD.s (r_name (i := 0) rfl (by kernel_rfl)) r_str) (r_last (r_ret (r_call (T.fn 8 (by decide)) (T.ln 8 (by decide)) (by kernel_rfl) (T.glo 8 rfl) (r_acons (r_name (i := 1) rfl (by kernel_rfl)) (r_acons (r_name (i := 3) rfl (by kernel_rfl)) r_anil))))) r_nil)
    (r_cons (r_set (i := 4) rfl (by kernel_rfl) (r_call (T.fn 6 (by decide)) (T.ln 6 (by decide)) (by kernel_rfl) (T.glo 6 rfl) (r_acons (r_name (i := 1) rfl (by kernel_rfl)) (r_acons (r_name (i := 3) rfl (by kernel_rfl)) r_anil))))
    (r_last (r_ret (r_tup (r_acons (r_name (i := 4) rfl (by kernel_rfl)) (r_acons (r_call (T.fn 6 (by decide)) (T.ln 6 (by decide)) (by kernel_rfl) (T.glo 6 rfl) (r_acons (r_name (i := 1) rfl (by kernel_rfl)) (r_acons (r_name (i := 3) rfl (by kernel_rfl)) r_anil))) r_anil)))))))))
theorem sc9 : FnScope N9 (ps 9) (defScope s9) := ⟨rfl, rfl, rfl, by decide +kernel, rfl, by decide +kernel, by decide +kernel⟩
theorem k10 (T : Tx G) : SndSs G (defScope s10) N10 (defBody s10) (b10 G.F G.Fm) :=
  (r_last (r_ret (r_and (r_isI (T := "int") (by kernel_rfl) (by kernel_rfl) (by kernel_rfl) (T.free "isinstance" (by decide)) (T.free "int" (by decide)) (r_name (i := 0) rfl (by kernel_rfl))) (r_one (r_not (r_isI (T := "bool") (by kernel_rfl) (by kernel_rfl) (by kernel_rfl) (T.free "isinstance" (by decide)) (T.free "bool" (by decide)) (r_name (i := 0) rfl (by kernel_rfl))))))))
theorem sc10 : FnScope N10 (ps 10) (defScope s10) := ⟨rfl, rfl, rfl, by decide +kernel, rfl, by decide +kernel, by decide +kernel⟩
theorem k11 (T : Tx G) : SndSs G (defScope s11) N11 (defBody s11) (b11 G.F G.Fm) :=
  (r_cons (r_if (r_wor (r_tnot (r_tval (h := (r_isI (T := "tuple") (by kernel_rfl) (by kernel_rfl) (by kernel_rfl) (T.free "isinstance" (by decide)) (T.free "tuple" (by decide)) (r_name (i := 0) rfl (by kernel_rfl)))))) (r_wor1 (r_tcmp op_neDD.s (r_callB call_lenA (by kernel_rfl) (T.free "len" (by decide)) (by kernel_rfl) (r_acons (r_name (i := 0) rfl (by kernel_rfl)) r_anil)) r_int))).t (r_last (r_ret r_bool)) r_nil)
    (r_last (r_ret (r_and (r_call (T.fn 10 (by decide)) (T.ln 10 (by decide)) (by kernel_rfl) (T.glo 10 rfl) (r_acons (r_ix ix_U (r_name (i := 0) rfl (by kernel_rfl)) r_int) r_anil)) (r_one (r_call (T.fn 10 (by decide)) (T.ln 10 (by decide)) (by kernel_rfl) (T.glo 10 rfl) (r_acons (r_ix ix_U (r_name (i := 0) rfl (by kernel_rfl)) r_int) r_anil)))))))
theorem sc11 : FnScope N11 (ps 11) (defScope s11) := ⟨rfl, rfl, rfl, by decide +kernel, rfl, by decide +kernel, by decide +kernel⟩
theorem k12 (T : Tx G) : SndSs G (defScope s12) N12 (defBody s12) (b12 G.F G.Fm) :=
  (r_cons (r_if (r_wor (r_tnot (r_tval (h := (r_isI (T := "tuple") (by kernel_rfl) (by kernel_rfl) (by kernel_rfl) (T.free "isinstance" (by decide)) (T.free "tuple" (by decide)) (r_name (i := 1) rfl (by kernel_rfl)))))) (r_wor (r_tcmp op_neDD.s (r_callB call_lenA (by kernel_rfl) (T.free "len" (by decide)) (by kernel_rfl) (r_acons (r_name (i := 1) rfl (by kernel_rfl)) r_anil)) (r_name (i := 0) rfl (by kernel_rfl))) (r_wor1 (r_tcmp op_ltDD.s (r_name (i := 0) rfl (by kernel_rfl)) r_int)))).t (r_last (r_ret r_bool)) r_nil)
    (r_cons (r_if (r_tcmp op_gtDD.s (r_callB call_lenA (by kernel_rfl) (T.free "len" (by decide)) (by kernel_rfl) (r_acons (r_lc (own := [("pair", 3)]) (r_items (r_name (i := 1) rfl (by kernel_rfl))) (blkOk_by (by decide +kernel)) (g_name (i := 3) rfl (by kernel_rfl)) (by kernel_rfl) (by decide) (if_one (r_tnot (r_tval (h := (r_call (T.fn 11 (by decide)) (T.ln 11 (by decide)) (by kernel_rfl) (T.glo 11 rfl) (r_acons (r_name (i := 3) rfl (by kernel_rfl)) r_anil)))))) (r_name (i := 3) rfl (by kernel_rfl))) r_anil)) r_int) (r_last (r_ret r_bool)) r_nil)
    (r_cons (r_set (i := 2) rfl (by kernel_rfl) (r_callB call_sortA (by kernel_rfl) (T.free "sorted" (by decide)) (by kernel_rfl) (r_acons (r_dc2 (own := [("pair", 3), ("moment", 4)]) (vs1 := [4]) (r_items (r_name (i := 1) rfl (by kernel_rfl))) (blkOk_by (by decide +kernel)) (g_name (i := 3) rfl (by kernel_rfl)) (by kernel_rfl) (by decide) if_nil (r_items (r_name (i := 3) rfl (by kernel_rfl))) (g_name (i := 4) rfl (by kernel_rfl)) (by kernel_rfl) (by decide) (by decide) if_nil (r_name (i := 4) rfl (by kernel_rfl)) r_bool) r_anil)))
    (r_last (r_ret (r_cmp op_eqDD.s (r_name (i := 2) rfl (by kernel_rfl)) (r_listRg1 (by kernel_rfl) (by kernel_rfl) (T.free "list" (by decide)) (T.free "range" (by decide)) (r_callB call_lenA (by kernel_rfl) (T.free "len" (by decide)) (by kernel_rfl) (r_acons (r_name (i := 2) rfl (by kernel_rfl)) r_anil)))))))))
theorem sc12 : FnScope N12 (ps 12) (defScope s12) := ⟨rfl, rfl, rfl, by decide +kernel, rfl, by decide +kernel, by decide +kernel⟩
theorem k13 (T : Tx G) : SndSs G (defScope s13) N13 (defBody s13) (b13 G.F G.Fm) :=
  (r_last (r_ret (r_and (r_call (T.fn 12 (by decide)) (T.ln 12 (by decide)) (by kernel_rfl) (T.glo 12 rfl) (r_acons (r_name (i := 0) rfl (by kernel_rfl)) (r_acons (r_name (i := 1) rfl (by kernel_rfl)) r_anil))) (r_one (r_cmp op_eqDD.s (r_callB call_lenA (by kernel_rfl) (T.free "len" (by decide)) (by kernel_rfl) (r_acons (r_lc (own := [("pair", 2)]) (r_items (r_name (i := 1) rfl (by kernel_rfl))) (blkOk_by (by decide +kernel)) (g_name (i := 2) rfl (by kernel_rfl)) (by kernel_rfl) (by decide) (if_one (r_tcmp op_geDD.s (r_ix ix_U (r_name (i := 2) rfl (by kernel_rfl)) r_int) (r_ix ix_U (r_name (i := 2) rfl (by kernel_rfl)) r_int))) (r_name (i := 2) rfl (by kernel_rfl))) r_anil)) r_int)))))
theorem sc13 : FnScope N13 (ps 13) (defScope s13) := ⟨rfl, rfl, rfl, by decide +kernel, rfl, by decide +kernel, by decide +kernel⟩
theorem k14 (T : Tx G) : SndSs G (defScope s14) N14 (defBody s14) (b14 G.F G.Fm) :=
  (r_cons (r_if (r_wor (r_tnot (r_tval (h := (r_call (T.fn 12 (by decide)) (T.ln 12 (by decide)) (by kernel_rfl) (T.glo 12 rfl) (r_acons (r_name (i := 0) rfl (by kernel_rfl)) (r_acons (r_name (i := 1) rfl (by kernel_rfl)) r_anil)))))) (r_wor1 (r_tcmp op_neDD.s (r_ix ix_U (r_ix ix_U (r_name (i := 1) rfl (by kernel_rfl)) r_int) r_int) r_int))).t (r_last (r_ret r_bool)) r_nil)
    (r_last (r_ret (r_cmp op_eqDD.s (r_callB call_lenA (by kernel_rfl) (T.free "len" (by decide)) (by kernel_rfl) (r_acons (r_lc (own := [("pair", 2)]) (r_items (r_name (i := 1) rfl (by kernel_rfl))) (blkOk_by (by decide +kernel)) (g_name (i := 2) rfl (by kernel_rfl)) (by kernel_rfl) (by decide) (if_one (r_tcmp op_eqDD.s (r_ix ix_U (r_name (i := 2) rfl (by kernel_rfl)) r_int) (r_ix ix_U (r_name (i := 2) rfl (by kernel_rfl)) r_int))) (r_name (i := 2) rfl (by kernel_rfl))) r_anil)) r_int))))
theorem sc14 : FnScope N14 (ps 14) (defScope s14) := ⟨rfl, rfl, rfl, by decide +kernel, rfl, by decide +kernel, by decide +kernel⟩
theorem k15 (T : Tx G) : SndSs G (defScope s15) N15 (defBody s15) (b15 G.F G.Fm) :=
  (r_cons (r_if (r_tcmp op_eqDD.s (r_name (i := 0) rfl (by kernel_rfl)) r_str) (r_last (r_ret (r_call (T.fn 13 (by decide)) (T.ln 13 (by decide)) (by kernel_rfl) (T.glo 13 rfl) (r_acons (r_name (i := 1) rfl (by kernel_rfl)) (r_acons (r_name (i := 2) rfl (by kernel_rfl)) r_anil))))) r_nil)
    (r_cons (r_if (r_tcmp op_eqDD.s (r_name (i := 0) rfl (by kernel_rfl)) r_str) (r_last (r_ret (r_call (T.fn 14 (by decide)) (T.ln 14 (by decide)) (by kernel_rfl) (T.glo 14 rfl) (r_acons (r_name (i := 1) rfl (by kernel_rfl)) (r_acons (r_name (i := 2) rfl (by kernel_rfl)) r_anil))))) r_nil)
    (r_cons (r_if (r_wor (r_tnot (r_tval (h := (r_isI (T := "tuple") (by kernel_rfl) (by kernel_rfl) (by kernel_rfl) (T.free "isinstance" (by decide)) (T.free "tuple" (by decide)) (r_name (i := 2) rfl (by kernel_rfl)))))) (r_wor1 (r_tcmp op_neDD.s (r_callB call_lenA (by kernel_rfl) (T.free "len" (by decide)) (by kernel_rfl) (r_acons (r_name (i := 2) rfl (by kernel_rfl)) r_anil)) r_int))).t (r_last (r_ret r_bool)) r_nil)
    (r_last (r_ret (r_and (r_call (T.fn 13 (by decide)) (T.ln 13 (by decide)) (by kernel_rfl) (T.glo 13 rfl) (r_acons (r_name (i := 1) rfl (by kernel_rfl)) (r_acons (r_ix ix_U (r_name (i := 2) rfl (by kernel_rfl)) r_int) r_anil))) (r_one (r_call (T.fn 13 (by decide)) (T.ln 13 (by decide)) (by kernel_rfl) (T.glo 13 rfl) (r_acons (r_name (i := 1) rfl (by kernel_rfl)) (r_acons (r_ix ix_U (r_name (i := 2) rfl (by kernel_rfl)) r_int) r_anil))))))))))
theorem sc15 : FnScope N15 (ps 15) (defScope s15) := ⟨rfl, rfl, rfl, by decide +kernel, rfl, by decide +kernel, by decide +kernel⟩
theorem k16 (T : Tx G) : SndSs G (defScope s16) N16 (defBody s16) (b16 G.F G.Fm) :=
  (r_cons (r_if (r_wor (r_tval (h := (r_isI (T := "bool") (by kernel_rfl) (by kernel_rfl) (by kernel_rfl) (T.free "isinstance" (by decide)) (T.free "bool" (by decide)) (r_name (i := 1) rfl (by kernel_rfl))))) (r_wor1 (r_tval (h := (r_isI (T := "bool") (by kernel_rfl) (by kernel_rfl) (by kernel_rfl) (T.free "isinstance" (by decide)) (T.free "bool" (by decide)) (r_name (i := 0) rfl (by kernel_rfl))))))).t (r_last (r_ret (r_and (r_isI (T := "bool") (by kernel_rfl) (by kernel_rfl) (by kernel_rfl) (T.free "isinstance" (by decide)) (T.free "bool" (by decide)) (r_name (i := 1) rfl (by kernel_rfl))) (r_and (r_isI (T := "bool") (by kernel_rfl) (by kernel_rfl) (by kernel_rfl) (T.free "isinstance" (by decide)) (T.free "bool" (by decide)) (r_name (i := 0) rfl (by kernel_rfl))) (r_one (r_cmp op_eqDD.s (r_name (i := 0) rfl (by kernel_rfl)) (r_name (i := 1) rfl (by kernel_rfl)))))))) r_nil)
    (r_cons (r_if (r_wor (r_tcmp op_isA (r_name (i := 1) rfl (by kernel_rfl)) r_none) (r_wor1 (r_tval (h := (r_isI (T := "int") (by kernel_rfl) (by kernel_rfl) (by kernel_rfl) (T.free "isinstance" (by decide)) (T.free "int" (by decide)) (r_name (i := 1) rfl (by kernel_rfl))))))).t (r_last (r_ret (r_and (r_cmp op_eqDD.s (r_name (i := 0) rfl (by kernel_rfl)) (r_name (i := 1) rfl (by kernel_rfl))) (r_one (r_or (r_cmp op_isA (r_name (i := 1) rfl (by kernel_rfl)) r_none) (r_one (r_isI (T := "int") (by kernel_rfl) (by kernel_rfl) (by kernel_rfl) (T.free "isinstance" (by decide)) (T.free "int" (by decide)) (r_name (i := 0) rfl (by kernel_rfl))))))))) r_nil)
    (r_cons (r_if (r_tval (h := (r_isI (T := "str") (by kernel_rfl) (by kernel_rfl) (by kernel_rfl) (T.free "isinstance" (by decide)) (T.free "str" (by decide)) (r_name (i := 1) rfl (by kernel_rfl))))) (r_last (r_ret (r_and (r_isI (T := "str") (by kernel_rfl) (by kernel_rfl) (by kernel_rfl) (T.free "isinstance" (by decide)) (T.free "str" (by decide)) (r_name (i := 0) rfl (by kernel_rfl))) (r_one (r_cmp op_eqDD.s (r_name (i := 0) rfl (by kernel_rfl)) (r_name (i := 1) rfl (by kernel_rfl))))))) r_nil)
    (r_cons (r_if (r_wor (r_tcmp op_neDD.s (r_isI (T := "list") (by kernel_rfl) (by kernel_rfl) (by kernel_rfl) (T.free "isinstance" (by decide)) (T.free "list" (by decide)) (r_name (i := 1) rfl (by kernel_rfl))) (r_isI (T := "list") (by kernel_rfl) (by kernel_rfl) (by kernel_rfl) (T.free "isinstance" (by decide)) (T.free "list" (by decide)) (r_name (i := 0) rfl (by kernel_rfl)))) (r_wor1 (r_tcmp op_neDD.s (r_isI (T := "tuple") (by kernel_rfl) (by kernel_rfl) (by kernel_rfl) (T.free "isinstance" (by decide)) (T.free "tuple" (by decide)) (r_name (i := 1) rfl (by kernel_rfl))) (r_isI (T := "tuple") (by kernel_rfl) (by kernel_rfl) (by kernel_rfl) (T.free "isinstance" (by decide)) (T.free "tuple" (by decide)) (r_name (i := 0) rfl (by kernel_rfl)))))).t (r_last (r_ret r_bool)) r_nil)
    (r_cons (r_if (r_tcmp op_neDD.s (r_callB call_lenA (by kernel_rfl) (T.free "len" (by decide)) (by kernel_rfl) (r_acons (r_name (i := 0) rfl (by kernel_rfl)) r_anil)) (r_callB call_lenA (by kernel_rfl) (T.free "len" (by decide)) (by kernel_rfl) (r_acons (r_name (i := 1) rfl (by kernel_rfl)) r_anil))) (r_last (r_ret r_bool)) r_nil)
    (r_cons (r_for (r_rg1 (by kernel_rfl) (T.free "range" (by decide)) (r_callB call_lenA (by kernel_rfl) (T.free "len" (by decide)) (by kernel_rfl) (r_acons (r_name (i := 1) rfl (by kernel_rfl)) r_anil))) (g_name (i := 2) rfl (by kernel_rfl)) (r_last (r_if (r_tnot (r_tval (h := (r_call (T.fn 16 (by decide)) (T.ln 16 (by decide)) (by kernel_rfl) (T.glo 16 rfl) (r_acons (r_ix ix_U (r_name (i := 0) rfl (by kernel_rfl)) (r_name (i := 2) rfl (by kernel_rfl))) (r_acons (r_ix ix_U (r_name (i := 1) rfl (by kernel_rfl)) (r_name (i := 2) rfl (by kernel_rfl))) r_anil)))))) (r_last (r_ret r_bool)) r_nil)))
    (r_last (r_ret r_bool))))))))
theorem sc16 : FnScope N16 (ps 16) (defScope s16) := ⟨rfl, rfl, rfl, by decide +kernel, rfl, by decide +kernel, by decide +kernel⟩
theorem k17 (T : Tx G) : SndSs G (defScope s17) N17 (defBody s17) (b17 G.F G.Fm) :=
  (r_cons (r_set (i := 2) rfl (by kernel_rfl) (r_bin op_addD.s (r_bin op_mulA (r_callB call_sumD (by kernel_rfl) (T.free "sum" (by decide)) (by kernel_rfl) (r_acons (r_name (i := 0) rfl (by kernel_rfl)) r_anil)) r_int) (r_bin op_mulA r_int (r_bin op_addD.s (r_name (i := 1) rfl (by kernel_rfl)) r_int))))
    (r_cons (r_if (r_tcmp op_ltDD.s (r_name (i := 1) rfl (by kernel_rfl)) (r_callB call_lenA (by kernel_rfl) (T.free "len" (by decide)) (by kernel_rfl) (r_acons (r_name (i := 0) rfl (by kernel_rfl)) r_anil))) (r_last (r_set (i := 2) rfl (by kernel_rfl) (r_ix ix_U (r_name (i := 0) rfl (by kernel_rfl)) (r_name (i := 1) rfl (by kernel_rfl))))) r_nil)
    (r_last (r_ret (r_callB call_absD (by kernel_rfl) (T.free "abs" (by decide)) (by kernel_rfl) (r_acons (r_name (i := 2) rfl (by kernel_rfl)) r_anil))))))
theorem sc17 : FnScope N17 (ps 17) (defScope s17) := ⟨rfl, rfl, rfl, by decide +kernel, rfl, by decide +kernel, by decide +kernel⟩
theorem k18 (T : Tx G) : SndSs G (defScope s18) N18 (defBody s18) (b18 G.F G.Fm) :=
  (r_cons (r_set (i := 4) rfl (by kernel_rfl) (r_call (T.fn 17 (by decide)) (T.ln 17 (by decide)) (by kernel_rfl) (T.glo 17 rfl) (r_acons (r_name (i := 0) rfl (by kernel_rfl)) (r_acons (r_name (i := 1) rfl (by kernel_rfl)) r_anil))))
    (r_cons (r_set (i := 5) rfl (by kernel_rfl) (r_lstM r_anil))
    (r_cons (r_if (r_tcmp op_geDD.s (r_name (i := 4) rfl (by kernel_rfl)) (r_bin op_powD.s r_int r_int)) (r_cons (r_set (i := 4) rfl (by kernel_rfl) (r_bin op_subD.s (r_name (i := 4) rfl (by kernel_rfl)) (r_bin op_powD.s r_int r_int)))
    (r_cons (r_for (r_rg1 (by kernel_rfl) (T.free "range" (by decide)) (r_name (i := 2) rfl (by kernel_rfl))) (g_name (i := 6) rfl (by kernel_rfl)) (r_cons (r_expr (r_append (r_name (i := 5) rfl (by kernel_rfl)) (r_bin op_modD.s (r_name (i := 4) rfl (by kernel_rfl)) (r_name (i := 3) rfl (by kernel_rfl)))))
    (r_last (r_set (i := 4) rfl (by kernel_rfl) (r_bin op_divD.s (r_name (i := 4) rfl (by kernel_rfl)) (r_name (i := 3) rfl (by kernel_rfl)))))))
    (r_last (r_ret (r_name (i := 5) rfl (by kernel_rfl)))))) r_nil)
    (r_cons (r_set (i := 7) rfl (by kernel_rfl) (r_bin op_addD.s (r_bin op_modD.s (r_name (i := 4) rfl (by kernel_rfl)) r_int) r_int))
    (r_cons (r_for (r_rg1 (by kernel_rfl) (T.free "range" (by decide)) (r_name (i := 2) rfl (by kernel_rfl))) (g_name (i := 6) rfl (by kernel_rfl)) (r_cons (r_set (i := 7) rfl (by kernel_rfl) (r_bin op_modD.s (r_bin op_addD.s (r_bin op_addD.s (r_bin op_mulA (r_name (i := 7) rfl (by kernel_rfl)) r_int) (r_bin op_mulA r_int (r_name (i := 6) rfl (by kernel_rfl)))) r_int) r_int))
    (r_cons (r_set (i := 8) rfl (by kernel_rfl) (r_bin op_modD.s (r_bin op_addD.s (r_bin op_addD.s (r_bin op_mulA (r_name (i := 7) rfl (by kernel_rfl)) (r_name (i := 7) rfl (by kernel_rfl))) (r_bin op_mulA r_int (r_name (i := 6) rfl (by kernel_rfl)))) r_int) r_int))
    (r_last (r_expr (r_append (r_name (i := 5) rfl (by kernel_rfl)) (r_bin op_modD.s (r_bin op_divD.s (r_name (i := 8) rfl (by kernel_rfl)) r_int) (r_name (i := 3) rfl (by kernel_rfl)))))))))
    (r_last (r_ret (r_name (i := 5) rfl (by kernel_rfl)))))))))
theorem sc18 : FnScope N18 (ps 18) (defScope s18) := ⟨rfl, rfl, rfl, by decide +kernel, rfl, by decide +kernel, by decide +kernel⟩
theorem k19 (T : Tx G) : SndSs G (defScope s19) N19 (defBody s19) (b19 G.F G.Fm) :=
  (r_cons (r_if (r_tcmp op_eqDD.s (r_callB call_lenA (by kernel_rfl) (T.free "len" (by decide)) (by kernel_rfl) (r_acons (r_name (i := 0) rfl (by kernel_rfl)) r_anil)) r_int) (r_last (r_ret r_int)) r_nil)
    (r_last (r_ret (r_pop (r_name (i := 0) rfl (by kernel_rfl))))))
theorem sc19 : FnScope N19 (ps 19) (defScope s19) := ⟨rfl, rfl, rfl, by decide +kernel, rfl, by decide +kernel, by decide +kernel⟩
theorem k20 (T : Tx G) : SndSs G (defScope s20) N20 (defBody s20) (b20 G.F G.Fm) :=
  (r_cons (r_set (i := 3) rfl (by kernel_rfl) (r_call (T.fn 18 (by decide)) (T.ln 18 (by decide)) (by kernel_rfl) (T.glo 18 rfl) (r_acons (r_name (i := 0) rfl (by kernel_rfl)) (r_acons (r_name (i := 1) rfl (by kernel_rfl)) (r_acons (r_name (i := 2) rfl (by kernel_rfl)) (r_acons r_int r_anil))))))
    (r_cons (r_expr (r_reverse (r_name (i := 3) rfl (by kernel_rfl))))
    (r_last (r_ret (r_name (i := 3) rfl (by kernel_rfl))))))
theorem sc20 : FnScope N20 (ps 20) (defScope s20) := ⟨rfl, rfl, rfl, by decide +kernel, rfl, by decide +kernel, by decide +kernel⟩
theorem k21 (T : Tx G) : SndSs G (defScope s21) N21 (defBody s21) (b21 G.F G.Fm) :=
  (r_cons (r_set (i := 1) rfl (by kernel_rfl) (r_lst (r_acons (r_tup r_anil) r_anil)))
    (r_cons (r_for (r_items (r_name (i := 0) rfl (by kernel_rfl))) (g_name (i := 2) rfl (by kernel_rfl)) (r_cons (r_set (i := 3) rfl (by kernel_rfl) (r_lst r_anil))
    (r_cons (r_for (r_items (r_name (i := 1) rfl (by kernel_rfl))) (g_name (i := 4) rfl (by kernel_rfl)) (r_last (r_set (i := 3) rfl (by kernel_rfl) (r_bin op_addD.s (r_name (i := 3) rfl (by kernel_rfl)) (r_lc (own := [("item", 5)]) (r_items (r_name (i := 2) rfl (by kernel_rfl))) (blkOk_by (by decide +kernel)) (g_name (i := 5) rfl (by kernel_rfl)) (by kernel_rfl) (by decide) if_nil (r_bin op_addD.s (r_name (i := 4) rfl (by kernel_rfl)) (r_tup (r_acons (r_name (i := 5) rfl (by kernel_rfl)) r_anil))))))))
    (r_last (r_set (i := 1) rfl (by kernel_rfl) (r_name (i := 3) rfl (by kernel_rfl)))))))
    (r_last (r_ret (r_name (i := 1) rfl (by kernel_rfl))))))
theorem sc21 : FnScope N21 (ps 21) (defScope s21) := ⟨rfl, rfl, rfl, by decide +kernel, rfl, by decide +kernel, by decide +kernel⟩
theorem k22 (T : Tx G) : SndSs G (defScope s22) N22 (defBody s22) (b22 G.F G.Fm) :=
  (r_last (r_ret (r_ifexp (r_tcmp op_ltDD.s (r_name (i := 1) rfl (by kernel_rfl)) (r_callB call_lenA (by kernel_rfl) (T.free "len" (by decide)) (by kernel_rfl) (r_acons (r_name (i := 0) rfl (by kernel_rfl)) r_anil))) (r_bin op_modD.s (r_ix ix_U (r_name (i := 0) rfl (by kernel_rfl)) (r_name (i := 1) rfl (by kernel_rfl))) (r_name (i := 2) rfl (by kernel_rfl))) r_int)))
theorem sc22 : FnScope N22 (ps 22) (defScope s22) := ⟨rfl, rfl, rfl, by decide +kernel, rfl, by decide +kernel, by decide +kernel⟩
theorem k23 (T : Tx G) : SndSs G (defScope s23) N23 (defBody s23) (b23 G.F G.Fm) :=
  (r_cons (r_set (i := 4) rfl (by kernel_rfl) (r_bin op_divD.s (r_name (i := 1) rfl (by kernel_rfl)) r_int))
    (r_cons (r_if (r_wor (r_wand (r_tval (h := (r_name (i := 3) rfl (by kernel_rfl)))) (r_wand1 (r_tcmp op_eqDD.s (r_bin op_modD.s (r_name (i := 1) rfl (by kernel_rfl)) r_int) r_int))).t (r_wor1 (r_wand (r_tnot (r_tval (h := (r_name (i := 3) rfl (by kernel_rfl))))) (r_wand1 (r_tcmp op_eqDD.s (r_bin op_modD.s (r_name (i := 1) rfl (by kernel_rfl)) r_int) r_int))).t)).t (r_last (r_ret (r_bin op_addD.s (r_bin op_addD.s (r_slice (r_name (i := 0) rfl (by kernel_rfl)) r_onone (r_osome (r_name (i := 4) rfl (by kernel_rfl)))) (r_lst (r_acons (r_bin op_addD.s (r_ix ix_U (r_name (i := 0) rfl (by kernel_rfl)) (r_name (i := 4) rfl (by kernel_rfl))) (r_lst (r_acons (r_name (i := 2) rfl (by kernel_rfl)) r_anil))) r_anil))) (r_slice (r_name (i := 0) rfl (by kernel_rfl)) (r_osome (r_bin op_addD.s (r_name (i := 4) rfl (by kernel_rfl)) r_int)) r_onone)))) r_nil)
    (r_cons (r_set (i := 4) rfl (by kernel_rfl) (r_bin op_addD.s (r_name (i := 4) rfl (by kernel_rfl)) (r_callT call_intD (by kernel_rfl) (T.free "int" (by decide)) (by kernel_rfl) (r_acons (r_name (i := 3) rfl (by kernel_rfl)) r_anil))))
    (r_last (r_ret (r_bin op_addD.s (r_bin op_addD.s (r_slice (r_name (i := 0) rfl (by kernel_rfl)) r_onone (r_osome (r_name (i := 4) rfl (by kernel_rfl)))) (r_lst (r_acons (r_lst (r_acons (r_name (i := 2) rfl (by kernel_rfl)) r_anil)) r_anil))) (r_slice (r_name (i := 0) rfl (by kernel_rfl)) (r_osome (r_name (i := 4) rfl (by kernel_rfl))) r_onone)))))))
theorem sc23 : FnScope N23 (ps 23) (defScope s23) := ⟨rfl, rfl, rfl, by decide +kernel, rfl, by decide +kernel, by decide +kernel⟩
theorem k24 (T : Tx G) : SndSs G (defScope s24) N24 (defBody s24) (b24 G.F G.Fm) :=
  (r_last (r_ret (r_ix ix_U (r_lc (own := [("at", 2)]) (r_rg1 (by kernel_rfl) (T.free "range" (by decide)) (r_callB call_lenA (by kernel_rfl) (T.free "len" (by decide)) (by kernel_rfl) (r_acons (r_name (i := 0) rfl (by kernel_rfl)) r_anil))) (blkOk_by (by decide +kernel)) (g_name (i := 2) rfl (by kernel_rfl)) (by kernel_rfl) (by decide) (if_one (r_tcmp op_inU (r_name (i := 1) rfl (by kernel_rfl)) (r_ix ix_U (r_name (i := 0) rfl (by kernel_rfl)) (r_name (i := 2) rfl (by kernel_rfl))))) (r_name (i := 2) rfl (by kernel_rfl))) r_int)))
theorem sc24 : FnScope N24 (ps 24) (defScope s24) := ⟨rfl, rfl, rfl, by decide +kernel, rfl, by decide +kernel, by decide +kernel⟩
theorem k25 (T : Tx G) : SndSs G (defScope s25) N25 (defBody s25) (b25 G.F G.Fm) :=
  (r_cons (r_set (i := 3) rfl (by kernel_rfl) (r_lst r_anil))
    (r_cons (r_for (r_rg1 (by kernel_rfl) (T.free "range" (by decide)) (r_name (i := 0) rfl (by kernel_rfl))) (g_name (i := 4) rfl (by kernel_rfl)) (r_cons (r_set (i := 3) rfl (by kernel_rfl) (r_call (T.fn 23 (by decide)) (T.ln 23 (by decide)) (by kernel_rfl) (T.glo 23 rfl) (r_acons (r_name (i := 3) rfl (by kernel_rfl)) (r_acons (r_call (T.fn 22 (by decide)) (T.ln 22 (by decide)) (by kernel_rfl) (T.glo 22 rfl) (r_acons (r_name (i := 1) rfl (by kernel_rfl)) (r_acons (r_name (i := 2) rfl (by kernel_rfl)) (r_acons (r_bin op_addD.s (r_bin op_mulA r_int (r_callB call_lenA (by kernel_rfl) (T.free "len" (by decide)) (by kernel_rfl) (r_acons (r_name (i := 3) rfl (by kernel_rfl)) r_anil))) r_int) r_anil)))) (r_acons (r_tup (r_acons (r_name (i := 4) rfl (by kernel_rfl)) (r_acons r_int r_anil))) (r_acons r_bool r_anil))))))
    (r_cons (r_set (i := 5) rfl (by kernel_rfl) (r_call (T.fn 24 (by decide)) (T.ln 24 (by decide)) (by kernel_rfl) (T.glo 24 rfl) (r_acons (r_name (i := 3) rfl (by kernel_rfl)) (r_acons (r_tup (r_acons (r_name (i := 4) rfl (by kernel_rfl)) (r_acons r_int r_anil))) r_anil))))
    (r_cons (r_set (i := 6) rfl (by kernel_rfl) (r_listRg2 (by kernel_rfl) (by kernel_rfl) (T.free "list" (by decide)) (T.free "range" (by decide)) (r_bin op_addD.s (r_bin op_mulA r_int (r_name (i := 5) rfl (by kernel_rfl))) r_int) (r_bin op_addD.s (r_bin op_mulA r_int (r_callB call_lenA (by kernel_rfl) (T.free "len" (by decide)) (by kernel_rfl) (r_acons (r_name (i := 3) rfl (by kernel_rfl)) r_anil))) r_int)))
    (r_cons (r_set (i := 3) rfl (by kernel_rfl) (r_call (T.fn 23 (by decide)) (T.ln 23 (by decide)) (by kernel_rfl) (T.glo 23 rfl) (r_acons (r_name (i := 3) rfl (by kernel_rfl)) (r_acons (r_ix ix_U (r_name (i := 6) rfl (by kernel_rfl)) (r_call (T.fn 22 (by decide)) (T.ln 22 (by decide)) (by kernel_rfl) (T.glo 22 rfl) (r_acons (r_name (i := 1) rfl (by kernel_rfl)) (r_acons (r_bin op_addD.s (r_name (i := 2) rfl (by kernel_rfl)) r_int) (r_acons (r_callB call_lenA (by kernel_rfl) (T.free "len" (by decide)) (by kernel_rfl) (r_acons (r_name (i := 6) rfl (by kernel_rfl)) r_anil)) r_anil))))) (r_acons (r_tup (r_acons (r_name (i := 4) rfl (by kernel_rfl)) (r_acons r_int r_anil))) (r_acons r_bool r_anil))))))
    (r_last (r_set (i := 2) rfl (by kernel_rfl) (r_bin op_addD.s (r_name (i := 2) rfl (by kernel_rfl)) r_int))))))))
    (r_last (r_ret (r_callT call_tupleD (by kernel_rfl) (T.free "tuple" (by decide)) (by kernel_rfl) (r_acons (r_lc (own := [("number", 4)]) (r_rg1 (by kernel_rfl) (T.free "range" (by decide)) (r_name (i := 0) rfl (by kernel_rfl))) (blkOk_by (by decide +kernel)) (g_name (i := 4) rfl (by kernel_rfl)) (by kernel_rfl) (by decide) if_nil (r_tup (r_acons (r_call (T.fn 24 (by decide)) (T.ln 24 (by decide)) (by kernel_rfl) (T.glo 24 rfl) (r_acons (r_name (i := 3) rfl (by kernel_rfl)) (r_acons (r_tup (r_acons (r_name (i := 4) rfl (by kernel_rfl)) (r_acons r_int r_anil))) r_anil))) (r_acons (r_call (T.fn 24 (by decide)) (T.ln 24 (by decide)) (by kernel_rfl) (T.glo 24 rfl) (r_acons (r_name (i := 3) rfl (by kernel_rfl)) (r_acons (r_tup (r_acons (r_name (i := 4) rfl (by kernel_rfl)) (r_acons r_int r_anil))) r_anil))) r_anil)))) r_anil))))))
theorem sc25 : FnScope N25 (ps 25) (defScope s25) := ⟨rfl, rfl, rfl, by decide +kernel, rfl, by decide +kernel, by decide +kernel⟩
theorem k26 (T : Tx G) : SndSs G (defScope s26) N26 (defBody s26) (b26 G.F G.Fm) :=
  (r_cons (r_set (i := 2) rfl (by kernel_rfl) (r_lst (r_acons (r_lst (r_acons (r_tup (r_acons r_int (r_acons r_int r_anil))) r_anil)) (r_acons (r_lst (r_acons (r_tup (r_acons r_int (r_acons r_int r_anil))) r_anil)) r_anil))))
    (r_cons (r_for (r_rg2 (by kernel_rfl) (T.free "range" (by decide)) r_int (r_name (i := 0) rfl (by kernel_rfl))) (g_name (i := 3) rfl (by kernel_rfl)) (r_cons (r_set (i := 2) rfl (by kernel_rfl) (r_call (T.fn 23 (by decide)) (T.ln 23 (by decide)) (by kernel_rfl) (T.glo 23 rfl) (r_acons (r_name (i := 2) rfl (by kernel_rfl)) (r_acons (r_call (T.fn 22 (by decide)) (T.ln 22 (by decide)) (by kernel_rfl) (T.glo 22 rfl) (r_acons (r_name (i := 1) rfl (by kernel_rfl)) (r_acons (r_bin op_subD.s (r_bin op_mulA r_int (r_name (i := 3) rfl (by kernel_rfl))) r_int) (r_acons (r_bin op_mulA r_int (r_callB call_lenA (by kernel_rfl) (T.free "len" (by decide)) (by kernel_rfl) (r_acons (r_name (i := 2) rfl (by kernel_rfl)) r_anil))) r_anil)))) (r_acons (r_tup (r_acons (r_name (i := 3) rfl (by kernel_rfl)) (r_acons r_int r_anil))) (r_acons r_bool r_anil))))))
    (r_cons (r_set (i := 4) rfl (by kernel_rfl) (r_call (T.fn 24 (by decide)) (T.ln 24 (by decide)) (by kernel_rfl) (T.glo 24 rfl) (r_acons (r_name (i := 2) rfl (by kernel_rfl)) (r_acons (r_tup (r_acons (r_name (i := 3) rfl (by kernel_rfl)) (r_acons r_int r_anil))) r_anil))))
    (r_cons (r_setLc (i := 5) rfl (by kernel_rfl) (by kernel_rfl) (by kernel_rfl) (own := [("place", 6)]) (r_rg1 (by kernel_rfl) (T.free "range" (by decide)) (r_bin op_mulA r_int (r_callB call_lenA (by kernel_rfl) (T.free "len" (by decide)) (by kernel_rfl) (r_acons (r_name (i := 2) rfl (by kernel_rfl)) r_anil)))) (blkOk_by (by decide +kernel)) (g_name (i := 6) rfl (by kernel_rfl)) (by kernel_rfl) (by decide) (if_one (r_tcmp op_neDD.s (r_name (i := 6) rfl (by kernel_rfl)) (r_bin op_mulA r_int (r_name (i := 4) rfl (by kernel_rfl))))) (r_name (i := 6) rfl (by kernel_rfl)) (hk := (by kernel_rfl)))
    (r_last (r_set (i := 2) rfl (by kernel_rfl) (r_call (T.fn 23 (by decide)) (T.ln 23 (by decide)) (by kernel_rfl) (T.glo 23 rfl) (r_acons (r_name (i := 2) rfl (by kernel_rfl)) (r_acons (r_ix ix_U (r_name (i := 5) rfl (by kernel_rfl)) (r_call (T.fn 22 (by decide)) (T.ln 22 (by decide)) (by kernel_rfl) (T.glo 22 rfl) (r_acons (r_name (i := 1) rfl (by kernel_rfl)) (r_acons (r_bin op_subD.s (r_bin op_mulA r_int (r_name (i := 3) rfl (by kernel_rfl))) r_int) (r_acons (r_callB call_lenA (by kernel_rfl) (T.free "len" (by decide)) (by kernel_rfl) (r_acons (r_name (i := 5) rfl (by kernel_rfl)) r_anil)) r_anil))))) (r_acons (r_tup (r_acons (r_name (i := 3) rfl (by kernel_rfl)) (r_acons r_int r_anil))) (r_acons r_bool r_anil)))))))))))
    (r_last (r_ret (r_callT call_tupleD (by kernel_rfl) (T.free "tuple" (by decide)) (by kernel_rfl) (r_acons (r_lc (own := [("number", 3)]) (r_rg1 (by kernel_rfl) (T.free "range" (by decide)) (r_name (i := 0) rfl (by kernel_rfl))) (blkOk_by (by decide +kernel)) (g_name (i := 3) rfl (by kernel_rfl)) (by kernel_rfl) (by decide) if_nil (r_tup (r_acons (r_call (T.fn 24 (by decide)) (T.ln 24 (by decide)) (by kernel_rfl) (T.glo 24 rfl) (r_acons (r_name (i := 2) rfl (by kernel_rfl)) (r_acons (r_tup (r_acons (r_name (i := 3) rfl (by kernel_rfl)) (r_acons r_int r_anil))) r_anil))) (r_acons (r_call (T.fn 24 (by decide)) (T.ln 24 (by decide)) (by kernel_rfl) (T.glo 24 rfl) (r_acons (r_name (i := 2) rfl (by kernel_rfl)) (r_acons (r_tup (r_acons (r_name (i := 3) rfl (by kernel_rfl)) (r_acons r_int r_anil))) r_anil))) r_anil)))) r_anil))))))
theorem sc26 : FnScope N26 (ps 26) (defScope s26) := ⟨rfl, rfl, rfl, by decide +kernel, rfl, by decide +kernel, by decide +kernel⟩
theorem k27 (T : Tx G) : SndSs G (defScope s27) N27 (defBody s27) (b27 G.F G.Fm) :=
  (r_cons (r_if (r_tcmp op_eqDD.s (r_name (i := 0) rfl (by kernel_rfl)) r_str) (r_last (r_ret (r_call (T.fn 26 (by decide)) (T.ln 26 (by decide)) (by kernel_rfl) (T.glo 26 rfl) (r_acons (r_name (i := 1) rfl (by kernel_rfl)) (r_acons (r_name (i := 2) rfl (by kernel_rfl)) r_anil))))) r_nil)
    (r_cons (r_if (r_tcmp op_eqDD.s (r_name (i := 0) rfl (by kernel_rfl)) r_str) (r_last (r_ret (r_call (T.fn 25 (by decide)) (T.ln 25 (by decide)) (by kernel_rfl) (T.glo 25 rfl) (r_acons (r_name (i := 1) rfl (by kernel_rfl)) (r_acons (r_name (i := 2) rfl (by kernel_rfl)) (r_acons r_int r_anil)))))) r_nil)
    (r_last (r_ret (r_tup (r_acons (r_call (T.fn 25 (by decide)) (T.ln 25 (by decide)) (by kernel_rfl) (T.glo 25 rfl) (r_acons (r_name (i := 1) rfl (by kernel_rfl)) (r_acons (r_name (i := 2) rfl (by kernel_rfl)) (r_acons r_int r_anil)))) (r_acons (r_call (T.fn 25 (by decide)) (T.ln 25 (by decide)) (by kernel_rfl) (T.glo 25 rfl) (r_acons (r_name (i := 1) rfl (by kernel_rfl)) (r_acons (r_name (i := 2) rfl (by kernel_rfl)) (r_acons (r_bin op_mulA r_int (r_name (i := 1) rfl (by kernel_rfl))) r_anil)))) r_anil)))))))
theorem sc27 : FnScope N27 (ps 27) (defScope s27) := ⟨rfl, rfl, rfl, by decide +kernel, rfl, by decide +kernel, by decide +kernel⟩
theorem k28 (T : Tx G) : SndSs G (defScope s28) N28 (defBody s28) (b28 G.F G.Fm) :=
  (r_cons (r_set (i := 1) rfl (by kernel_rfl) (r_call (T.fn 18 (by decide)) (T.ln 18 (by decide)) (by kernel_rfl) (T.glo 18 rfl) (r_acons (r_name (i := 0) rfl (by kernel_rfl)) (r_acons r_int (r_acons r_int (r_acons r_int r_anil))))))
    (r_cons (r_set (i := 2) rfl (by kernel_rfl) (r_call (T.fn 20 (by decide)) (T.ln 20 (by decide)) (by kernel_rfl) (T.glo 20 rfl) (r_acons (r_name (i := 0) rfl (by kernel_rfl)) (r_acons r_int (r_acons r_int r_anil)))))
    (r_cons (r_for (r_rg1 (by kernel_rfl) (T.free "range" (by decide)) r_int) (g_name (i := 3) rfl (by kernel_rfl)) (r_cons (r_set (i := 4) rfl (by kernel_rfl) (r_ix ix_U (r_tup (r_acons r_str (r_acons r_str (r_acons r_str r_anil)))) (r_bin op_modD.s (r_call (T.fn 19 (by decide)) (T.ln 19 (by decide)) (by kernel_rfl) (T.glo 19 rfl) (r_acons (r_name (i := 2) rfl (by kernel_rfl)) r_anil)) r_int)))
    (r_cons (r_set (i := 5) rfl (by kernel_rfl) (r_bin op_addD.s r_int (r_bin op_modD.s (r_call (T.fn 19 (by decide)) (T.ln 19 (by decide)) (by kernel_rfl) (T.glo 19 rfl) (r_acons (r_name (i := 2) rfl (by kernel_rfl)) r_anil)) r_int)))
    (r_cons (r_set (i := 6) rfl (by kernel_rfl) (r_lstM r_anil))
    (r_cons (r_for (r_rg1 (by kernel_rfl) (T.free "range" (by decide)) (r_bin op_modD.s (r_call (T.fn 19 (by decide)) (T.ln 19 (by decide)) (by kernel_rfl) (T.glo 19 rfl) (r_acons (r_name (i := 2) rfl (by kernel_rfl)) r_anil)) r_int)) (g_name (i := 7) rfl (by kernel_rfl)) (r_last (r_expr (r_append (r_name (i := 6) rfl (by kernel_rfl)) (r_bin op_mulA (r_bin op_subD.s (r_call (T.fn 19 (by decide)) (T.ln 19 (by decide)) (by kernel_rfl) (T.glo 19 rfl) (r_acons (r_name (i := 2) rfl (by kernel_rfl)) r_anil)) r_int) (r_ifexp (r_tcmp op_eqDD.s (r_bin op_modD.s (r_call (T.fn 19 (by decide)) (T.ln 19 (by decide)) (by kernel_rfl) (T.glo 19 rfl) (r_acons (r_name (i := 2) rfl (by kernel_rfl)) r_anil)) r_int) r_int) (r_bin op_powD.s r_int r_int) r_int))))))
    (r_cons (r_set (i := 8) rfl (by kernel_rfl) (r_callT call_listD (by kernel_rfl) (T.free "list" (by decide)) (by kernel_rfl) (r_acons (r_frz (r_name (i := 6) rfl (by kernel_rfl))) r_anil)))
    (r_cons (r_set (i := 9) rfl (by kernel_rfl) (r_call (T.fn 9 (by decide)) (T.ln 9 (by decide)) (by kernel_rfl) (T.glo 9 rfl) (r_acons (r_name (i := 4) rfl (by kernel_rfl)) (r_acons (r_name (i := 5) rfl (by kernel_rfl)) (r_acons (r_name (i := 8) rfl (by kernel_rfl)) r_anil)))))
    (r_cons (r_if (r_wor (r_tnot (r_tval (h := (r_call (T.fn 16 (by decide)) (T.ln 16 (by decide)) (by kernel_rfl) (T.glo 16 rfl) (r_acons (r_name (i := 9) rfl (by kernel_rfl)) (r_acons (r_call (T.fn 27 (by decide)) (T.ln 27 (by decide)) (by kernel_rfl) (T.glo 27 rfl) (r_acons (r_name (i := 4) rfl (by kernel_rfl)) (r_acons (r_name (i := 5) rfl (by kernel_rfl)) (r_acons (r_frz (r_name (i := 6) rfl (by kernel_rfl))) r_anil)))) r_anil)))))) (r_wor1 (r_tnot (r_tval (h := (r_call (T.fn 16 (by decide)) (T.ln 16 (by decide)) (by kernel_rfl) (T.glo 16 rfl) (r_acons (r_name (i := 8) rfl (by kernel_rfl)) (r_acons (r_frz (r_name (i := 6) rfl (by kernel_rfl))) r_anil)))))))).t (r_last (r_ret r_bool)) r_nil)
    (r_last (r_if (r_tcmp op_isnA (r_call (T.fn 15 (by decide)) (T.ln 15 (by decide)) (by kernel_rfl) (T.glo 15 rfl) (r_acons (r_name (i := 4) rfl (by kernel_rfl)) (r_acons (r_name (i := 5) rfl (by kernel_rfl)) (r_acons (r_name (i := 9) rfl (by kernel_rfl)) r_anil)))) r_bool) (r_last (r_ret r_bool)) r_nil))))))))))
    (r_cons (r_if (r_tcmp op_gtDD.s (r_bin op_modD.s (r_ix ix_U (r_name (i := 1) rfl (by kernel_rfl)) r_int) r_int) r_int) (r_last (r_ret r_bool)) r_nil)
    (r_cons (r_set (i := 4) rfl (by kernel_rfl) (r_ix ix_U (r_tup (r_acons r_str (r_acons r_str r_anil))) (r_bin op_modD.s (r_ix ix_U (r_name (i := 1) rfl (by kernel_rfl)) r_int) r_int)))
    (r_cons (r_set (i := 10) rfl (by kernel_rfl) r_newD)
    (r_cons (r_for (r_items (r_call (T.fn 21 (by decide)) (T.ln 21 (by decide)) (by kernel_rfl) (T.glo 21 rfl) (r_acons (r_bin op_mulA (r_lstM (r_acons (r_listRg1 (by kernel_rfl) (by kernel_rfl) (T.free "list" (by decide)) (T.free "range" (by decide)) r_int) r_anil)) (r_ifexp (r_tcmp op_eqDD.s (r_name (i := 4) rfl (by kernel_rfl)) r_str) r_int r_int)) r_anil))) (g_name (i := 11) rfl (by kernel_rfl)) (r_last (r_setI r_int (r_name (i := 10) rfl (by kernel_rfl)) (r_call (T.fn 9 (by decide)) (T.ln 9 (by decide)) (by kernel_rfl) (T.glo 9 rfl) (r_acons (r_name (i := 4) rfl (by kernel_rfl)) (r_acons r_int (r_acons (r_callT call_listD (by kernel_rfl) (T.free "list" (by decide)) (by kernel_rfl) (r_acons (r_name (i := 11) rfl (by kernel_rfl)) r_anil)) r_anil)))))))
    (r_last (r_ret (r_cmp op_eqDD.s (r_callB call_lenA (by kernel_rfl) (T.free "len" (by decide)) (by kernel_rfl) (r_acons (r_name (i := 10) rfl (by kernel_rfl)) r_anil)) (r_ifexp (r_tcmp op_eqDD.s (r_name (i := 4) rfl (by kernel_rfl)) r_str) r_int r_int)))))))))))
theorem sc28 : FnScope N28 (ps 28) (defScope s28) := ⟨rfl, rfl, rfl, by decide +kernel, rfl, by decide +kernel, by decide +kernel⟩
end K76

/-! the head -/
namespace K76
open PySem PySem.Spec PyProof.Rows L2 Ev
def at_ : Nat → Str × Option Str := fun f => match f with
  | 0 => ("Numbers", some "__init__")
  | 1 => ("Numbers", some "next")
  | 2 => ("moments_of", none)
  | 3 => ("opened", none)
  | 4 => ("is_odd", none)
  | 5 => ("row_place", none)
  | 6 => ("drawn_row", none)
  | 7 => ("round_place", none)
  | 8 => ("drawn_round", none)
  | 9 => ("drawn_figure", none)
  | 10 => ("is_plain_number", none)
  | 11 => ("is_pair", none)
  | 12 => ("are_pairs", none)
  | 13 => ("is_line", none)
  | 14 => ("is_ring", none)
  | 15 => ("is_figure", none)
  | 16 => ("_law_same", none)
  | 17 => ("_law_number", none)
  | 18 => ("_law_draws", none)
  | 19 => ("_law_pick", none)
  | 20 => ("_law_picks", none)
  | 21 => ("_law_choices", none)
  | 22 => ("_law_next", none)
  | 23 => ("_law_put", none)
  | 24 => ("_law_stand", none)
  | 25 => ("_law_row_drawn", none)
  | 26 => ("_law_round_drawn", none)
  | 27 => ("_law_drawn", none)
  | 28 => ("law", none)
  | _ => ("", none)
def cn : Nat → Str := fun c => match c with
  | 0 => "Numbers"
  | _ => "Numbers"
def fa : List He.Fa := [.glo "moments_of", .keep "moments_of", .glo "opened", .keep "opened", .glo "is_odd", .keep "is_odd", .glo "row_place", .keep "row_place", .glo "drawn_row", .keep "drawn_row", .glo "round_place", .keep "round_place", .glo "drawn_round", .keep "drawn_round", .glo "drawn_figure", .keep "drawn_figure", .glo "is_plain_number", .keep "is_plain_number", .glo "is_pair", .keep "is_pair", .glo "are_pairs", .keep "are_pairs", .glo "is_line", .keep "is_line", .glo "is_ring", .keep "is_ring", .glo "is_figure", .keep "is_figure", .glo "_law_same", .keep "_law_same", .glo "_law_number", .keep "_law_number", .glo "_law_draws", .keep "_law_draws", .glo "_law_pick", .keep "_law_pick", .glo "_law_picks", .keep "_law_picks", .glo "_law_choices", .keep "_law_choices", .glo "_law_next", .keep "_law_next", .glo "_law_put", .keep "_law_put", .glo "_law_stand", .keep "_law_stand", .glo "_law_row_drawn", .keep "_law_row_drawn", .glo "_law_round_drawn", .keep "_law_round_drawn", .glo "_law_drawn", .keep "_law_drawn", .glo "law", .keep "law", .free "abs", .free "bool", .free "int", .free "isinstance", .free "len", .free "list", .free "max", .free "range", .free "sorted", .free "str", .free "sum", .free "tuple", .glo "Numbers", .cls "Numbers", .noat "Numbers" "numbers", .noat "Numbers" "at", .meth "Numbers" "__init__", .meth "Numbers" "next", .mkr "Numbers"]
def d0 : He.FnD := ⟨at_ 0, "__init__", "Numbers.__init__", defArgs s0, defBody s0, defScope s0⟩
def d1 : He.FnD := ⟨at_ 1, "next", "Numbers.next", defArgs s1, defBody s1, defScope s1⟩
def d2 : He.FnD := ⟨at_ 2, "moments_of", "moments_of", defArgs s2, defBody s2, defScope s2⟩
def d3 : He.FnD := ⟨at_ 3, "opened", "opened", defArgs s3, defBody s3, defScope s3⟩
def d4 : He.FnD := ⟨at_ 4, "is_odd", "is_odd", defArgs s4, defBody s4, defScope s4⟩
def d5 : He.FnD := ⟨at_ 5, "row_place", "row_place", defArgs s5, defBody s5, defScope s5⟩
def d6 : He.FnD := ⟨at_ 6, "drawn_row", "drawn_row", defArgs s6, defBody s6, defScope s6⟩
def d7 : He.FnD := ⟨at_ 7, "round_place", "round_place", defArgs s7, defBody s7, defScope s7⟩
def d8 : He.FnD := ⟨at_ 8, "drawn_round", "drawn_round", defArgs s8, defBody s8, defScope s8⟩
def d9 : He.FnD := ⟨at_ 9, "drawn_figure", "drawn_figure", defArgs s9, defBody s9, defScope s9⟩
def d10 : He.FnD := ⟨at_ 10, "is_plain_number", "is_plain_number", defArgs s10, defBody s10, defScope s10⟩
def d11 : He.FnD := ⟨at_ 11, "is_pair", "is_pair", defArgs s11, defBody s11, defScope s11⟩
def d12 : He.FnD := ⟨at_ 12, "are_pairs", "are_pairs", defArgs s12, defBody s12, defScope s12⟩
def d13 : He.FnD := ⟨at_ 13, "is_line", "is_line", defArgs s13, defBody s13, defScope s13⟩
def d14 : He.FnD := ⟨at_ 14, "is_ring", "is_ring", defArgs s14, defBody s14, defScope s14⟩
def d15 : He.FnD := ⟨at_ 15, "is_figure", "is_figure", defArgs s15, defBody s15, defScope s15⟩
def d16 : He.FnD := ⟨at_ 16, "_law_same", "_law_same", defArgs s16, defBody s16, defScope s16⟩
def d17 : He.FnD := ⟨at_ 17, "_law_number", "_law_number", defArgs s17, defBody s17, defScope s17⟩
def d18 : He.FnD := ⟨at_ 18, "_law_draws", "_law_draws", defArgs s18, defBody s18, defScope s18⟩
def d19 : He.FnD := ⟨at_ 19, "_law_pick", "_law_pick", defArgs s19, defBody s19, defScope s19⟩
def d20 : He.FnD := ⟨at_ 20, "_law_picks", "_law_picks", defArgs s20, defBody s20, defScope s20⟩
def d21 : He.FnD := ⟨at_ 21, "_law_choices", "_law_choices", defArgs s21, defBody s21, defScope s21⟩
def d22 : He.FnD := ⟨at_ 22, "_law_next", "_law_next", defArgs s22, defBody s22, defScope s22⟩
def d23 : He.FnD := ⟨at_ 23, "_law_put", "_law_put", defArgs s23, defBody s23, defScope s23⟩
def d24 : He.FnD := ⟨at_ 24, "_law_stand", "_law_stand", defArgs s24, defBody s24, defScope s24⟩
def d25 : He.FnD := ⟨at_ 25, "_law_row_drawn", "_law_row_drawn", defArgs s25, defBody s25, defScope s25⟩
def d26 : He.FnD := ⟨at_ 26, "_law_round_drawn", "_law_round_drawn", defArgs s26, defBody s26, defScope s26⟩
def d27 : He.FnD := ⟨at_ 27, "_law_drawn", "_law_drawn", defArgs s27, defBody s27, defScope s27⟩
def d28 : He.FnD := ⟨at_ 28, "law", "law", defArgs s28, defBody s28, defScope s28⟩
def fn : List He.FnD := [d0, d1, d2, d3, d4, d5, d6, d7, d8, d9, d10, d11, d12, d13, d14, d15, d16, d17, d18, d19, d20, d21, d22, d23, d24, d25, d26, d27, d28]
abbrev rw_ : PySem.W.OpenLaw := PySem.Challenge.rw_stretchways_k76_figures_drawn_by_numbers
abbrev hk : PySem.W.Hook := He.hookE 6 fa fn
def ob (s : PySem.W.SharedT) : He.Al := He.obsG 6 fa fn (HandSHeadRun.getT s)
theorem ob_eq (s : PySem.W.SharedT) : ob s = hk.obs s.abs := He.obsG_eq (HandSHeadRun.getT_eq s)
def loose0 : List Str := ["__name__", "Numbers", "moments_of", "opened", "is_odd", "row_place", "drawn_row", "round_place", "drawn_round", "drawn_figure", "is_plain_number", "is_pair", "are_pairs", "is_line", "is_ring", "is_figure", "_law_same", "_law_number", "_law_draws", "_law_pick", "_law_picks", "_law_choices", "_law_next", "_law_put", "_law_stand", "_law_row_drawn", "_law_round_drawn", "_law_drawn"]
abbrev loose : List Str := loose0
theorem run (w : World) : HandSHeadRun.RunEq (PySem.W.OpenLaw.row rw_) (PySem.W.view (PySem.W.OpenLaw.row rw_).prog [31]) hk ob 4000 loose w := by
  intro os
  kernel_rfl
/-- what the head tells makes the law's promise of what its function answers -/
theorem tell {P : Program} {w : World} {K : PySem.W.Frag} {h : Heap} {mg : Str → Option Value} {f : Addr} (X : K.In h) (Gn : h.Ns mainGlobals mg) (hfa : mg "law" = some (.ref f)) (c : He.SaysE fa fn K) (D : Nat)
    (hlaw : ∀ ns : List Int, ns.length ≤ 63 → ∃ S, cd D 28 [.d (.list (ns.map .int))] [] = .ok (.d (.bool true)) S) :
    ∃ (fd : FuncData) (sp : Sp), (∀ (s : Shared) (u : Value), BindsTo s fd ⟨[u], []⟩ [("script", u)]) ∧ (∀ (H : Hp) (a : Addr) (ns : List Int), ns.length ≤ 63 → Only H → SqL K H a (ns.map V.int) → sp [.ref a] H (fun v _ => v = .bl true) fun _ _ _ => False) ∧
      ∀ base : Heap, K.In base → base.Ns mainGlobals mg → FnOk P w K mg base (L2.CX P w) D f fd ["script"] sp := by
  obtain ⟨fd0, F0⟩ := fun_of (st := s0) (He.meth_ok (c.fact 70 rfl)).kp (c.def_ 0 (d := d0) rfl)
  have B0 : Binds K fd0 (ps 0) [] := F0.binds fun _ _ _ _ _ _ us hl => match us, hl with | [_, _], _ => rfl
  obtain ⟨fd1, F1⟩ := fun_of (st := s1) (He.meth_ok (c.fact 71 rfl)).kp (c.def_ 1 (d := d1) rfl)
  have B1 : Binds K fd1 (ps 1) [] := F1.binds fun _ _ _ _ _ _ us hl => match us, hl with | [_, _], _ => rfl
  obtain ⟨fd2, F2⟩ := fun_of (st := s2) (c.fact 1 rfl) (c.def_ 2 (d := d2) rfl)
  have B2 : Binds K fd2 (ps 2) [] := F2.binds fun _ _ _ _ _ _ us hl => match us, hl with | [_], _ => rfl
  obtain ⟨fd3, F3⟩ := fun_of (st := s3) (c.fact 3 rfl) (c.def_ 3 (d := d3) rfl)
  have B3 : Binds K fd3 (ps 3) [] := F3.binds fun _ _ _ _ _ _ us hl => match us, hl with | [_, _], _ => rfl
  obtain ⟨fd4, F4⟩ := fun_of (st := s4) (c.fact 5 rfl) (c.def_ 4 (d := d4) rfl)
  have B4 : Binds K fd4 (ps 4) [] := F4.binds fun _ _ _ _ _ _ us hl => match us, hl with | [_], _ => rfl
  obtain ⟨fd5, F5⟩ := fun_of (st := s5) (c.fact 7 rfl) (c.def_ 5 (d := d5) rfl)
  have B5 : Binds K fd5 (ps 5) [] := F5.binds fun _ _ _ _ _ _ us hl => match us, hl with | [_, _], _ => rfl
  obtain ⟨fd6, F6⟩ := fun_of (st := s6) (c.fact 9 rfl) (c.def_ 6 (d := d6) rfl)
  have B6 : Binds K fd6 (ps 6) [] := F6.binds fun _ _ _ _ _ _ us hl => match us, hl with | [_, _], _ => rfl
  obtain ⟨fd7, F7⟩ := fun_of (st := s7) (c.fact 11 rfl) (c.def_ 7 (d := d7) rfl)
  have B7 : Binds K fd7 (ps 7) [] := F7.binds fun _ _ _ _ _ _ us hl => match us, hl with | [_, _], _ => rfl
  obtain ⟨fd8, F8⟩ := fun_of (st := s8) (c.fact 13 rfl) (c.def_ 8 (d := d8) rfl)
  have B8 : Binds K fd8 (ps 8) [] := F8.binds fun _ _ _ _ _ _ us hl => match us, hl with | [_, _], _ => rfl
  obtain ⟨fd9, F9⟩ := fun_of (st := s9) (c.fact 15 rfl) (c.def_ 9 (d := d9) rfl)
  have B9 : Binds K fd9 (ps 9) [] := F9.binds fun _ _ _ _ _ _ us hl => match us, hl with | [_, _, _], _ => rfl
  obtain ⟨fd10, F10⟩ := fun_of (st := s10) (c.fact 17 rfl) (c.def_ 10 (d := d10) rfl)
  have B10 : Binds K fd10 (ps 10) [] := F10.binds fun _ _ _ _ _ _ us hl => match us, hl with | [_], _ => rfl
  obtain ⟨fd11, F11⟩ := fun_of (st := s11) (c.fact 19 rfl) (c.def_ 11 (d := d11) rfl)
  have B11 : Binds K fd11 (ps 11) [] := F11.binds fun _ _ _ _ _ _ us hl => match us, hl with | [_], _ => rfl
  obtain ⟨fd12, F12⟩ := fun_of (st := s12) (c.fact 21 rfl) (c.def_ 12 (d := d12) rfl)
  have B12 : Binds K fd12 (ps 12) [] := F12.binds fun _ _ _ _ _ _ us hl => match us, hl with | [_, _], _ => rfl
  obtain ⟨fd13, F13⟩ := fun_of (st := s13) (c.fact 23 rfl) (c.def_ 13 (d := d13) rfl)
  have B13 : Binds K fd13 (ps 13) [] := F13.binds fun _ _ _ _ _ _ us hl => match us, hl with | [_, _], _ => rfl
  obtain ⟨fd14, F14⟩ := fun_of (st := s14) (c.fact 25 rfl) (c.def_ 14 (d := d14) rfl)
  have B14 : Binds K fd14 (ps 14) [] := F14.binds fun _ _ _ _ _ _ us hl => match us, hl with | [_, _], _ => rfl
  obtain ⟨fd15, F15⟩ := fun_of (st := s15) (c.fact 27 rfl) (c.def_ 15 (d := d15) rfl)
  have B15 : Binds K fd15 (ps 15) [] := F15.binds fun _ _ _ _ _ _ us hl => match us, hl with | [_, _, _], _ => rfl
  obtain ⟨fd16, F16⟩ := fun_of (st := s16) (c.fact 29 rfl) (c.def_ 16 (d := d16) rfl)
  have B16 : Binds K fd16 (ps 16) [] := F16.binds fun _ _ _ _ _ _ us hl => match us, hl with | [_, _], _ => rfl
  obtain ⟨fd17, F17⟩ := fun_of (st := s17) (c.fact 31 rfl) (c.def_ 17 (d := d17) rfl)
  have B17 : Binds K fd17 (ps 17) [] := F17.binds fun _ _ _ _ _ _ us hl => match us, hl with | [_, _], _ => rfl
  obtain ⟨fd18, F18⟩ := fun_of (st := s18) (c.fact 33 rfl) (c.def_ 18 (d := d18) rfl)
  have B18 : Binds K fd18 (ps 18) [] := F18.binds fun _ _ _ _ _ _ us hl => match us, hl with | [_, _, _, _], _ => rfl
  obtain ⟨fd19, F19⟩ := fun_of (st := s19) (c.fact 35 rfl) (c.def_ 19 (d := d19) rfl)
  have B19 : Binds K fd19 (ps 19) [] := F19.binds fun _ _ _ _ _ _ us hl => match us, hl with | [_], _ => rfl
  obtain ⟨fd20, F20⟩ := fun_of (st := s20) (c.fact 37 rfl) (c.def_ 20 (d := d20) rfl)
  have B20 : Binds K fd20 (ps 20) [] := F20.binds fun _ _ _ _ _ _ us hl => match us, hl with | [_, _, _], _ => rfl
  obtain ⟨fd21, F21⟩ := fun_of (st := s21) (c.fact 39 rfl) (c.def_ 21 (d := d21) rfl)
  have B21 : Binds K fd21 (ps 21) [] := F21.binds fun _ _ _ _ _ _ us hl => match us, hl with | [_], _ => rfl
  obtain ⟨fd22, F22⟩ := fun_of (st := s22) (c.fact 41 rfl) (c.def_ 22 (d := d22) rfl)
  have B22 : Binds K fd22 (ps 22) [] := F22.binds fun _ _ _ _ _ _ us hl => match us, hl with | [_, _, _], _ => rfl
  obtain ⟨fd23, F23⟩ := fun_of (st := s23) (c.fact 43 rfl) (c.def_ 23 (d := d23) rfl)
  have B23 : Binds K fd23 (ps 23) [] := F23.binds fun _ _ _ _ _ _ us hl => match us, hl with | [_, _, _, _], _ => rfl
  obtain ⟨fd24, F24⟩ := fun_of (st := s24) (c.fact 45 rfl) (c.def_ 24 (d := d24) rfl)
  have B24 : Binds K fd24 (ps 24) [] := F24.binds fun _ _ _ _ _ _ us hl => match us, hl with | [_, _], _ => rfl
  obtain ⟨fd25, F25⟩ := fun_of (st := s25) (c.fact 47 rfl) (c.def_ 25 (d := d25) rfl)
  have B25 : Binds K fd25 (ps 25) [] := F25.binds fun _ _ _ _ _ _ us hl => match us, hl with | [_, _, _], _ => rfl
  obtain ⟨fd26, F26⟩ := fun_of (st := s26) (c.fact 49 rfl) (c.def_ 26 (d := d26) rfl)
  have B26 : Binds K fd26 (ps 26) [] := F26.binds fun _ _ _ _ _ _ us hl => match us, hl with | [_, _], _ => rfl
  obtain ⟨fd27, F27⟩ := fun_of (st := s27) (c.fact 51 rfl) (c.def_ 27 (d := d27) rfl)
  have B27 : Binds K fd27 (ps 27) [] := F27.binds fun _ _ _ _ _ _ us hl => match us, hl with | [_, _, _], _ => rfl
  obtain ⟨fd28, F28⟩ := fun_of (st := s28) (c.fact 53 rfl) (c.def_ 28 (d := d28) rfl)
  have B28 : Binds K fd28 (ps 28) [] := F28.binds fun _ _ _ _ _ _ us hl => match us, hl with | [_], _ => rfl
  have hb : ∀ (s : Shared) (u : Value), BindsTo s fd28 ⟨[u], []⟩ [("script", u)] := by
    obtain ⟨_, _, _, _, _, _, _, _, _, e, _, _⟩ := F28.ex
    subst e
    exact fun s u => .of_eq rfl
  have ef := hfa.symm.trans (He.glo_ok X Gn (c.fact 52 rfl))
  cases ef
  let fds : Nat → FuncData := fun f => match f with
    | 0 => fd0
    | 1 => fd1
    | 2 => fd2
    | 3 => fd3
    | 4 => fd4
    | 5 => fd5
    | 6 => fd6
    | 7 => fd7
    | 8 => fd8
    | 9 => fd9
    | 10 => fd10
    | 11 => fd11
    | 12 => fd12
    | 13 => fd13
    | 14 => fd14
    | 15 => fd15
    | 16 => fd16
    | 17 => fd17
    | 18 => fd18
    | 19 => fd19
    | 20 => fd20
    | 21 => fd21
    | 22 => fd22
    | 23 => fd23
    | 24 => fd24
    | 25 => fd25
    | 26 => fd26
    | 27 => fd27
    | 28 => fd28
    | _ => fd0
  let Gb : Heap → Gl := fun base => { P := P, w := w, K := K, mg := mg, base := base, ca := fun c => He.ga K (cn c), fa := fun f => He.fAd K (at_ f), fd := fds, ps := ps, F := fun _ _ _ => .no, Fm := fun _ _ _ => .no, k := 0 }
  have h0 : ∀ f as S, cd 0 f as S = .no := fun _ _ _ => rfl
  have ln : ∀ j f, f < 29 → ∀ as S, cd j f as S = .no ∨ as.length = (ps f).length := fun j f hf as S => by
    cases j with
    | zero => exact .inl rfl
    | succ j => match f, hf with
      | 0, _ => exact defn_len
      | 1, _ => exact defn_len
      | 2, _ => exact defn_len
      | 3, _ => exact defn_len
      | 4, _ => exact defn_len
      | 5, _ => exact defn_len
      | 6, _ => exact defn_len
      | 7, _ => exact defn_len
      | 8, _ => exact defn_len
      | 9, _ => exact defn_len
      | 10, _ => exact defn_len
      | 11, _ => exact defn_len
      | 12, _ => exact defn_len
      | 13, _ => exact defn_len
      | 14, _ => exact defn_len
      | 15, _ => exact defn_len
      | 16, _ => exact defn_len
      | 17, _ => exact defn_len
      | 18, _ => exact defn_len
      | 19, _ => exact defn_len
      | 20, _ => exact defn_len
      | 21, _ => exact defn_len
      | 22, _ => exact defn_len
      | 23, _ => exact defn_len
      | 24, _ => exact defn_len
      | 25, _ => exact defn_len
      | 26, _ => exact defn_len
      | 27, _ => exact defn_len
      | 28, _ => exact defn_len
      | m + 29, h => exact absurd h (by omega)
  have lm : ∀ j f, f < 29 → ∀ as S, cm j f as S = .no ∨ as.length = (ps f).length := fun j f hf as S => by
    cases j with
    | zero => exact .inl rfl
    | succ j => exact ln j f hf as S
  have fr : ∀ x, x ∈ frees → mg x = none := fun x hx => by
    simp only [frees, List.mem_cons, List.not_mem_nil, or_false] at hx
    rcases hx with rfl | rfl | rfl | rfl | rfl | rfl | rfl | rfl | rfl | rfl | rfl | rfl
    · exact He.free_ok X Gn (c.fact 54 rfl)
    · exact He.free_ok X Gn (c.fact 55 rfl)
    · exact He.free_ok X Gn (c.fact 56 rfl)
    · exact He.free_ok X Gn (c.fact 57 rfl)
    · exact He.free_ok X Gn (c.fact 58 rfl)
    · exact He.free_ok X Gn (c.fact 59 rfl)
    · exact He.free_ok X Gn (c.fact 60 rfl)
    · exact He.free_ok X Gn (c.fact 61 rfl)
    · exact He.free_ok X Gn (c.fact 62 rfl)
    · exact He.free_ok X Gn (c.fact 63 rfl)
    · exact He.free_ok X Gn (c.fact 64 rfl)
    · exact He.free_ok X Gn (c.fact 65 rfl)
  have step : ∀ base k, (∀ j, j ≤ k → ∀ f, f < 29 → FnG (Gb base) j (cd j) f) → ∀ f, f < 29 → FnG ((Gb base).lv cd cm k) (k + 1) (cd (k + 1)) f := fun base k ih => by
    have fi : ∀ f, f < 29 → FnIs ((Gb base).lv cd cm k) f := fun f hf => by
      have ok : FnG ((Gb base).lv cd cm k) k (cd k) f := fnG_lv.mpr (ih k (Nat.le_refl k) f hf)
      match f, hf, ok with
      | 0, _, ok => exact ⟨ok, B0, F0.kp⟩
      | 1, _, ok => exact ⟨ok, B1, F1.kp⟩
      | 2, _, ok => exact ⟨ok, B2, F2.kp⟩
      | 3, _, ok => exact ⟨ok, B3, F3.kp⟩
      | 4, _, ok => exact ⟨ok, B4, F4.kp⟩
      | 5, _, ok => exact ⟨ok, B5, F5.kp⟩
      | 6, _, ok => exact ⟨ok, B6, F6.kp⟩
      | 7, _, ok => exact ⟨ok, B7, F7.kp⟩
      | 8, _, ok => exact ⟨ok, B8, F8.kp⟩
      | 9, _, ok => exact ⟨ok, B9, F9.kp⟩
      | 10, _, ok => exact ⟨ok, B10, F10.kp⟩
      | 11, _, ok => exact ⟨ok, B11, F11.kp⟩
      | 12, _, ok => exact ⟨ok, B12, F12.kp⟩
      | 13, _, ok => exact ⟨ok, B13, F13.kp⟩
      | 14, _, ok => exact ⟨ok, B14, F14.kp⟩
      | 15, _, ok => exact ⟨ok, B15, F15.kp⟩
      | 16, _, ok => exact ⟨ok, B16, F16.kp⟩
      | 17, _, ok => exact ⟨ok, B17, F17.kp⟩
      | 18, _, ok => exact ⟨ok, B18, F18.kp⟩
      | 19, _, ok => exact ⟨ok, B19, F19.kp⟩
      | 20, _, ok => exact ⟨ok, B20, F20.kp⟩
      | 21, _, ok => exact ⟨ok, B21, F21.kp⟩
      | 22, _, ok => exact ⟨ok, B22, F22.kp⟩
      | 23, _, ok => exact ⟨ok, B23, F23.kp⟩
      | 24, _, ok => exact ⟨ok, B24, F24.kp⟩
      | 25, _, ok => exact ⟨ok, B25, F25.kp⟩
      | 26, _, ok => exact ⟨ok, B26, F26.kp⟩
      | 27, _, ok => exact ⟨ok, B27, F27.kp⟩
      | 28, _, ok => exact ⟨ok, B28, F28.kp⟩
      | m + 29, h, _ => exact absurd h (by omega)
    have cls : ∀ c, ClsIs ((Gb base).lv cd cm k) c (fl c) := fun cq => match cq with
      | 0 => ⟨He.cls_ok (c.fact 67 rfl), fun f hf => by
        simp only [fl, List.mem_cons, List.not_mem_nil, or_false] at hf
        rcases hf with rfl | rfl
        · exact He.noat_ok (c.fact 68 rfl)
        · exact He.noat_ok (c.fact 69 rfl)⟩
      | _ + 1 => ⟨He.cls_ok (c.fact 67 rfl), fun f hf => nomatch hf⟩
    have gl : ∀ f, isG f = true → mg (nm f) = some (.ref (He.fAd K (at_ f))) := fun f h => match f, h with
      | 0, h => nomatch h
      | 1, h => nomatch h
      | 2, _ => He.glo_ok X Gn (c.fact 0 rfl)
      | 3, _ => He.glo_ok X Gn (c.fact 2 rfl)
      | 4, _ => He.glo_ok X Gn (c.fact 4 rfl)
      | 5, _ => He.glo_ok X Gn (c.fact 6 rfl)
      | 6, _ => He.glo_ok X Gn (c.fact 8 rfl)
      | 7, _ => He.glo_ok X Gn (c.fact 10 rfl)
      | 8, _ => He.glo_ok X Gn (c.fact 12 rfl)
      | 9, _ => He.glo_ok X Gn (c.fact 14 rfl)
      | 10, _ => He.glo_ok X Gn (c.fact 16 rfl)
      | 11, _ => He.glo_ok X Gn (c.fact 18 rfl)
      | 12, _ => He.glo_ok X Gn (c.fact 20 rfl)
      | 13, _ => He.glo_ok X Gn (c.fact 22 rfl)
      | 14, _ => He.glo_ok X Gn (c.fact 24 rfl)
      | 15, _ => He.glo_ok X Gn (c.fact 26 rfl)
      | 16, _ => He.glo_ok X Gn (c.fact 28 rfl)
      | 17, _ => He.glo_ok X Gn (c.fact 30 rfl)
      | 18, _ => He.glo_ok X Gn (c.fact 32 rfl)
      | 19, _ => He.glo_ok X Gn (c.fact 34 rfl)
      | 20, _ => He.glo_ok X Gn (c.fact 36 rfl)
      | 21, _ => He.glo_ok X Gn (c.fact 38 rfl)
      | 22, _ => He.glo_ok X Gn (c.fact 40 rfl)
      | 23, _ => He.glo_ok X Gn (c.fact 42 rfl)
      | 24, _ => He.glo_ok X Gn (c.fact 44 rfl)
      | 25, _ => He.glo_ok X Gn (c.fact 46 rfl)
      | 26, _ => He.glo_ok X Gn (c.fact 48 rfl)
      | 27, _ => He.glo_ok X Gn (c.fact 50 rfl)
      | 28, _ => He.glo_ok X Gn (c.fact 52 rfl)
      | m + 29, h => nomatch h
    have mt_next_ : MIs ((Gb base).lv cd cm k) mt_next "next" := ⟨fun cq f h => match cq, f, h with
      | 0, _, rfl => ⟨He.cls_ok (c.fact 67 rfl), He.meth_ok (c.fact 71 rfl), fi 1 (by decide), fun as S => ln k 1 (by decide) as S⟩
      | _ + 1, _, h => nomatch h⟩
    have mk0_ : MkIs ((Gb base).lv cd cm k) 0 0 "Numbers" := ⟨He.mkr_ok (c.fact 72 rfl), He.glo_ok X Gn (c.fact 66 rfl), B0, fun as S => lm k 0 (by decide) as S, room_lv (fun _ _ _ => rfl) (fun _ => rfl) ih (by decide)⟩
    have T : Tx ((Gb base).lv cd cm k) := { fn := fi, ln := fun f hf => ln k f hf, glo := gl, free := fr, cls := cls, mt_next := mt_next_, mk0 := mk0_ }
    intro f hf
    match f, hf with
    | 0, _ => exact fn_good F0 sc0 (k0 T) rfl
    | 1, _ => exact fn_good F1 sc1 (k1 T) rfl
    | 2, _ => exact fn_good F2 sc2 (k2 T) rfl
    | 3, _ => exact fn_good F3 sc3 (k3 T) rfl
    | 4, _ => exact fn_good F4 sc4 (k4 T) rfl
    | 5, _ => exact fn_good F5 sc5 (k5 T) rfl
    | 6, _ => exact fn_good F6 sc6 (k6 T) rfl
    | 7, _ => exact fn_good F7 sc7 (k7 T) rfl
    | 8, _ => exact fn_good F8 sc8 (k8 T) rfl
    | 9, _ => exact fn_good F9 sc9 (k9 T) rfl
    | 10, _ => exact fn_good F10 sc10 (k10 T) rfl
    | 11, _ => exact fn_good F11 sc11 (k11 T) rfl
    | 12, _ => exact fn_good F12 sc12 (k12 T) rfl
    | 13, _ => exact fn_good F13 sc13 (k13 T) rfl
    | 14, _ => exact fn_good F14 sc14 (k14 T) rfl
    | 15, _ => exact fn_good F15 sc15 (k15 T) rfl
    | 16, _ => exact fn_good F16 sc16 (k16 T) rfl
    | 17, _ => exact fn_good F17 sc17 (k17 T) rfl
    | 18, _ => exact fn_good F18 sc18 (k18 T) rfl
    | 19, _ => exact fn_good F19 sc19 (k19 T) rfl
    | 20, _ => exact fn_good F20 sc20 (k20 T) rfl
    | 21, _ => exact fn_good F21 sc21 (k21 T) rfl
    | 22, _ => exact fn_good F22 sc22 (k22 T) rfl
    | 23, _ => exact fn_good F23 sc23 (k23 T) rfl
    | 24, _ => exact fn_good F24 sc24 (k24 T) rfl
    | 25, _ => exact fn_good F25 sc25 (k25 T) rfl
    | 26, _ => exact fn_good F26 sc26 (k26 T) rfl
    | 27, _ => exact fn_good F27 sc27 (k27 T) rfl
    | 28, _ => exact fn_good F28 sc28 (k28 T) rfl
    | m + 29, h => exact absurd h (by omega)
  refine ⟨fd28, spOf (Gb h) (cd D) 28, hb, fun H a ns hl hO hS => law_sp (G := Gb h) rfl hlaw hl hO hS, fun base _ _ => ?_⟩
  have good : FnG (Gb base) D (cd D) 28 := all_good h0 (step base) D D (Nat.le_refl D) 28 (by decide)
  unfold FnG at good
  have es : spOf (Gb base) (cd D) 28 = spOf (Gb h) (cd D) 28 := sp_lv_base
  rw [← es]
  exact good
end K76
open PySem PySem.W PySem.Calls PyProof.Rows in
set_option maxRecDepth 100000 in
set_option maxHeartbeats 0 in
theorem K76.holds_of (D : Nat) (hD : L2.Room D callerA) (hlaw : ∀ ns : List Int, ns.length ≤ 63 → ∃ S, K76.cd D 28 [.d (.list (ns.map .int))] [] = .ok (.d (.bool true)) S) : PySem.Challenge.rw_stretchways_k76_figures_drawn_by_numbers.Holds := by
  w_on; o_law
  refine HandSHeadRun.head_any (r := OpenLaw.row K76.rw_) (q := view (OpenLaw.row K76.rw_).prog [31]) (H := K76.hk) (ob := K76.ob) (M := 4000)
    (loose := K76.loose) (d := HandSHeadRun.topDef (OpenLaw.row K76.rw_).prog 31) (kwd := []) K76.ob_eq
    (by kernel_rfl) (fun s => by kernel_rfl) K76.run (by kernel_rfl) (by kernel_rfl) (by kernel_rfl) (by rfl) (by first | assumption | decide +kernel)
    (by decide +kernel) ⟨rfl, rfl, rfl, rfl, rfl, by decide +kernel⟩ ?hw ?hc
  case hw => w_witness2
  case hc =>
    refine Ev.end_of (l := PySem.Challenge.rw_stretchways_k76_figures_drawn_by_numbers) (k := D) (x := "script") rfl (by kernel_rfl) hD ?F
    intro w mg fa h Y G hmg0
    obtain ⟨K, KX, c⟩ := Y
    have hmg : mg ("law" : PySem.Str) = some (.ref fa) := by
      have e : (HandSHeadRun.topDef (OpenLaw.row K76.rw_).prog 31).name = ("law" : PySem.Str) := by kernel_rfl
      rw [← e]
      exact hmg0
    obtain ⟨fd, sp, hb, hs, ok⟩ := K76.tell (P := (PySem.Challenge.rw_stretchways_k76_figures_drawn_by_numbers).prog) (w := w) KX G hmg c D hlaw
    exact ⟨K, fd, sp, KX, hb, hs, ok⟩

namespace K76
open PySem PySem.Spec L2 Ev
theorem cs_ (k f : Nat) (as : List A) (S : Store) : True := trivial
theorem mulOk_r {i j : Int} (h : -(2 ^ 64) < j ∧ j < 2 ^ 64) : mulIntOk i j = true := by
  unfold mulIntOk
  simp only [Bool.or_eq_true, Bool.and_eq_true, decide_eq_true_eq]
  exact .inr h
theorem mulOk_l {i j : Int} (h : -(2 ^ 64) < i ∧ i < 2 ^ 64) : mulIntOk i j = true := by
  unfold mulIntOk
  simp only [Bool.or_eq_true, Bool.and_eq_true, decide_eq_true_eq]
  exact .inl h
theorem mul_r (i : Int) {j : Int} (h : -(2 ^ 64) < j ∧ j < 2 ^ 64) : mulD (.int i) (.int j) = some (.int (i * j)) := ev_mulI (mulOk_r h)
theorem mul_l {i : Int} (j : Int) (h : -(2 ^ 64) < i ∧ i < 2 ^ 64) : mulD (.int i) (.int j) = some (.int (i * j)) := ev_mulI (mulOk_l h)
@[simp] theorem mul2 (i : Int) : mulD (.int i) (.int 2) = some (.int (i * 2)) := mul_r i (by decide)
@[simp] theorem mul2' (i : Int) : mulD (.int 2) (.int i) = some (.int (2 * i)) := mul_l i (by decide)
@[simp] theorem div2 (i : Int) : divD (.int i) (.int 2) = some (.int (i / 2)) := ev_divI (by decide) (by decide)
@[simp] theorem mod2 (i : Int) : modD (.int i) (.int 2) = some (.int (i % 2)) := ev_modI (by decide)
/-! ### the program's parts -/
theorem e4 (k : Nat) (S : Store) (n : Int) : cd (k + 1) 4 [.d (.int n)] S = .ok (.d (.bool (decide (n % 2 = 1)))) S := by
  rw [v4 k _ S rfl]
  unfold b4
  simp -implicitDefEqProofs [-Int.natCast_ediv, -Int.natCast_add, -Int.natCast_emod, -Int.natCast_mul]
  omega
def pD (ps : List (Nat × Nat)) : List PyData := ps.map fun p => .tuple [.int p.1, .int p.2]
def up (m a : Nat) : Nat := if m ≤ a then a + 1 else a
def opened (ps : List (Nat × Nat)) (m : Nat) : List (Nat × Nat) := ps.map fun p => (up m p.1, up m p.2)
theorem len_pD (ps : List (Nat × Nat)) : (pD ps).length = ps.length := by simp -implicitDefEqProofs [-Int.natCast_ediv, -Int.natCast_add, -Int.natCast_emod, -Int.natCast_mul, pD]
theorem upI (m a : Nat) : (if (m : Int) ≤ (a : Int) then (a : Int) + 1 else (a : Int)) = ((up m a : Nat) : Int) := by
  unfold up
  split <;> split <;> omega
theorem e3 (k : Nat) (S : Store) (ps : List (Nat × Nat)) (m : Nat) (hz : ps.length ≤ 16777216) : cd (k + 1) 3 [.d (.list (pD ps)), .d (.int m)] S = .ok (.d (.list (pD (opened ps m)))) S := by
  rw [v3 k _ S rfl]
  unfold b3
  let h : PyData → PyData := fun d => match d with
    | .int a => .int (if (m : Int) ≤ a then a + 1 else a)
    | _ => .none
  let f : PyData → PyData := fun d => match d with
    | .tuple [a, b] => .tuple [h a, h b]
    | _ => .none
  have e : (pD ps).map f = pD (opened ps m) := by
    unfold pD opened
    rw [List.map_map, List.map_map]
    refine List.map_congr_left fun p _ => ?_
    show PyData.tuple [.int _, .int _] = PyData.tuple [.int _, .int _]
    rw [upI, upI]
  rw [ev_ret, ev_lcM f (ds := pD ps) (S1 := S) (by simp -implicitDefEqProofs [-Int.natCast_ediv, -Int.natCast_add, -Int.natCast_emod, -Int.natCast_mul]) (by rw [len_pD]; exact hz) ?_]
  · simp -implicitDefEqProofs [-Int.natCast_ediv, -Int.natCast_add, -Int.natCast_emod, -Int.natCast_mul, e]
  · intro x hx
    unfold pD at hx
    rw [List.mem_map] at hx
    obtain ⟨p, _, rfl⟩ := hx
    refine ⟨_, rfl, ?_⟩
    rw [ev_callB, ev_cons, ev_lcM h (ds := [.int p.1, .int p.2]) (S1 := S) (by simp -implicitDefEqProofs [-Int.natCast_ediv, -Int.natCast_add, -Int.natCast_emod, -Int.natCast_mul]) (by simp -implicitDefEqProofs [-Int.natCast_ediv, -Int.natCast_add, -Int.natCast_emod, -Int.natCast_mul]) ?_]
    · simp -implicitDefEqProofs [-Int.natCast_ediv, -Int.natCast_add, -Int.natCast_emod, -Int.natCast_mul, f, tupleD]
    · intro y hy
      simp only [List.mem_cons, List.not_mem_nil, or_false] at hy
      rcases hy with rfl | rfl
      · refine ⟨_, rfl, ?_⟩
        simp -implicitDefEqProofs [-Int.natCast_ediv, -Int.natCast_add, -Int.natCast_emod, -Int.natCast_mul, h]
        split <;> simp
      · refine ⟨_, rfl, ?_⟩
        simp -implicitDefEqProofs [-Int.natCast_ediv, -Int.natCast_add, -Int.natCast_emod, -Int.natCast_mul, h]
        split <;> simp
/-! moments_of -/
/-- one more than the greatest -/
def mx : List Nat → Nat
  | [] => 0
  | x :: r => max (x + 1) (mx r)
def flat (ps : List (Nat × Nat)) : List Nat := ps.flatMap fun p => [p.1, p.2]
theorem fold_mx (ns : List Nat) : ∀ a : Nat, 1 + (ns.map fun n : Nat => (n : Int)).foldl max (a : Int) = ((mx (a :: ns) : Nat) : Int) := by
  induction ns with
  | nil => intro a; simp -implicitDefEqProofs [-Int.natCast_ediv, -Int.natCast_add, -Int.natCast_emod, -Int.natCast_mul, mx]; omega
  | cons n ns ih =>
    intro a
    rw [List.map_cons, List.foldl_cons]
    have e : max (a : Int) (n : Int) = ((max a n : Nat) : Int) := by omega
    rw [e, ih]
    simp only [mx]
    omega
theorem mx_flat : ∀ ps : List (Nat × Nat), mx (ps.map fun q => max q.1 q.2) = mx (flat ps)
  | [] => rfl
  | p :: r => by
    have ih := mx_flat r
    show max (max p.1 p.2 + 1) _ = max (p.1 + 1) (max (p.2 + 1) (mx (flat r)))
    rw [ih]
    omega
/-- numbers as data -/
def nI (ns : List Nat) : List PyData := ns.map fun n : Nat => PyData.int n
theorem len_nI (ns : List Nat) : (nI ns).length = ns.length := by simp -implicitDefEqProofs [-Int.natCast_ediv, -Int.natCast_add, -Int.natCast_emod, -Int.natCast_mul, nI]
theorem ints_nI (ns : List Nat) : intsOf (nI ns) = some (ns.map fun n : Nat => (n : Int)) := by
  have e : nI ns = (ns.map fun n : Nat => (n : Int)).map .int := by
    unfold nI
    rw [List.map_map]; rfl
  rw [e, intsOf_map]
theorem max_nI (n : Nat) (ns : List Nat) : ∃ v : Int, max1D (.list (nI (n :: ns))) = some (.int v) ∧ 1 + v = mx (n :: ns) :=
  ⟨_, by show (intsOf _).bind _ = _; rw [ints_nI]; rfl, fold_mx ns n⟩
theorem e2 (k : Nat) (S : Store) (ps : List (Nat × Nat)) (hz : ps.length ≤ 16777216) : cd (k + 1) 2 [.d (.list (pD ps))] S = .ok (.d (.int (mx (flat ps)))) S := by
  rw [v2 k _ S rfl]
  unfold b2
  cases ps with
  | nil => simp -implicitDefEqProofs [-Int.natCast_ediv, -Int.natCast_add, -Int.natCast_emod, -Int.natCast_mul, pD, mx, flat]
  | cons p r =>
    let f : PyData → PyData := fun d => match d with
      | .tuple [.int a, .int b] => .int (max a b)
      | _ => .none
    have e : (pD (p :: r)).map f = nI ((p :: r).map fun q => max q.1 q.2) := by
      unfold pD nI
      rw [List.map_map, List.map_map]
      refine List.map_congr_left fun q _ => ?_
      show PyData.int (max (q.1 : Int) (q.2 : Int)) = PyData.int ((max q.1 q.2 : Nat) : Int)
      congr 1
      omega
    have hl : dLc (dItems (dName 0)) [1] (gN 1) dTrue (dCallB (pf1 max1D) (dCons (dName 1) dNil)) [some (.d (.list (pD (p :: r)))), none] S = .ok (.d (.list (nI ((p :: r).map fun q => max q.1 q.2)))) S := by
      rw [← e]
      refine ev_lcM f (by simp -implicitDefEqProofs [-Int.natCast_ediv, -Int.natCast_add, -Int.natCast_emod, -Int.natCast_mul]) (by rw [len_pD]; exact hz) fun x hx => ?_
      unfold pD at hx
      rw [List.mem_map] at hx
      obtain ⟨q, _, rfl⟩ := hx
      refine ⟨_, rfl, ?_⟩
      simp -implicitDefEqProofs [-Int.natCast_ediv, -Int.natCast_add, -Int.natCast_emod, -Int.natCast_mul, max1D, intsOf, foldI, f]
    obtain ⟨v, h1, h2⟩ := max_nI (max p.1 p.2) (r.map fun q => max q.1 q.2)
    have h2 : 1 + v = mx (flat (p :: r)) := by rw [h2, ← mx_flat]; rfl
    rw [List.map_cons] at hl
    have hn : ¬ ((r.length : Int) + 1 = 0) := by omega
    simp -implicitDefEqProofs [-Int.natCast_ediv, -Int.natCast_add, -Int.natCast_emod, -Int.natCast_mul, hl, h1, len_pD, hn, h2]
/-! row_place, round_place, next -/
def rowP (ps : List (Nat × Nat)) (n : Nat) : List (Nat × Nat) × Nat := if n % 2 = 1 then (ps, n / 2) else (opened ps (n / 2), n / 2)
def rndP (ps : List (Nat × Nat)) (n : Nat) : List (Nat × Nat) × Nat := if n % 2 = 1 then (opened ps (n / 2 + 1), n / 2 + 1) else (ps, n / 2)
theorem div2n (n : Nat) : (n : Int) / 2 = ((n / 2 : Nat) : Int) := by omega
theorem odd2n (n : Nat) : ((n : Int) % 2 = 1) ↔ n % 2 = 1 := by omega
theorem e5 (k : Nat) (S : Store) (ps : List (Nat × Nat)) (n : Nat) (hz : ps.length ≤ 16777216) : cd (k + 2) 5 [.d (.list (pD ps)), .d (.int n)] S = .ok (.d (.tuple [.list (pD (rowP ps n).1), .int (rowP ps n).2])) S := by
  have h4 := e4 k
  have h3 := e3 k
  rw [v5 (k + 1) _ S rfl]
  generalize cd (k + 1) = F at *
  generalize cm (k + 1) = Fm at *
  unfold b5 rowP
  by_cases h : n % 2 = 1
  · simp -implicitDefEqProofs [-Int.natCast_ediv, -Int.natCast_add, -Int.natCast_emod, -Int.natCast_mul, h4, odd2n, h, div2n]
  · simp -implicitDefEqProofs [-Int.natCast_ediv, -Int.natCast_add, -Int.natCast_emod, -Int.natCast_mul, h4, h3, odd2n, h, div2n, hz]
theorem e7 (k : Nat) (S : Store) (ps : List (Nat × Nat)) (n : Nat) (hz : ps.length ≤ 16777216) : cd (k + 2) 7 [.d (.list (pD ps)), .d (.int n)] S = .ok (.d (.tuple [.list (pD (rndP ps n).1), .int (rndP ps n).2])) S := by
  have h4 := e4 k
  have h3 := e3 k
  rw [v7 (k + 1) _ S rfl]
  generalize cd (k + 1) = F at *
  generalize cm (k + 1) = Fm at *
  unfold b7 rndP
  have h1 : ((n / 2 : Nat) : Int) + 1 = ((n / 2 + 1 : Nat) : Int) := by omega
  by_cases h : n % 2 = 1
  · simp -implicitDefEqProofs [-Int.natCast_ediv, -Int.natCast_add, -Int.natCast_emod, -Int.natCast_mul, h4, h3, odd2n, h, div2n, hz, h1]
  · simp -implicitDefEqProofs [-Int.natCast_ediv, -Int.natCast_add, -Int.natCast_emod, -Int.natCast_mul, h4, h3, odd2n, h, div2n, hz]
/-! the one who tells numbers -/
def obj (ns : List Int) (a : Nat) : Cell := .ins 0 [("numbers", .d (.list (ns.map .int))), ("at", .d (.int a))]
def nx (ns : List Int) (a c : Nat) : Nat := match ns[a]? with
  | some x => (x % c).toNat
  | none => 0
theorem ne_na : ¬ ("numbers" : Str) = "at" := by decide +kernel
theorem fl_n : (fl 0).contains "numbers" = true := by decide +kernel
theorem fl_a : (fl 0).contains "at" = true := by decide +kernel
theorem objOf_obj {S : Store} {n a : Nat} {ns : List Int} (h : S[n]? = some (obj ns a)) : objOf (.loc n) S = some (n, 0, [(("numbers" : Str), A.d (.list (ns.map .int))), (("at" : Str), A.d (.int a))]) := by
  show (match S[n]? with | some (.ins c fs) => some (n, c, fs) | _ => none) = _
  rw [h]
  rfl
theorem fld_n {S : Store} {n a : Nat} {ns : List Int} (h : S[n]? = some (obj ns a)) : fldA fl "numbers" (.loc n) S = some (.d (.list (ns.map .int))) := by
  have e := objOf_obj h
  unfold fldA
  rw [e]
  show (if (fl 0).contains "numbers" = true then _ else _) = _
  rw [if_pos fl_n]
  rfl
theorem fld_a {S : Store} {n a : Nat} {ns : List Int} (h : S[n]? = some (obj ns a)) : fldA fl "at" (.loc n) S = some (.d (.int a)) := by
  have e := objOf_obj h
  unfold fldA
  rw [e]
  show (if (fl 0).contains "at" = true then _ else _) = _
  rw [if_pos fl_a]
  have e2 : ("at" == ("numbers" : Str)) = false := by decide +kernel
  rw [List.lookup_cons, e2]
  show List.lookup ("at" : Str) [_] = _
  rw [List.lookup_cons, beq_self_eq_true]
theorem set_at {S : Store} {n a : Nat} {ns : List Int} {d dv : DE} {l : Ev.Loc} {z : Int} (h : S[n]? = some (obj ns a)) (hv : dv l S = .ok (.d (.int z)) S) (hd : d l S = .ok (.loc n) S) (hz : z = (a + 1 : Nat)) : dSetF fl "at" d dv l S = .nx l (S.set n (obj ns (a + 1))) := by
  unfold dSetF
  rw [hv, Res.ok_thenS, hd, Res.ok_thenS]
  have e := objOf_obj h
  rw [e]
  show (if (fl 0).contains "at" && decide (_ < 1000) then _ else _) = _
  rw [fl_a, Bool.true_and, if_pos (by rfl)]
  have e2 : setF ("at" : Str) (A.d (.int z)) [(("numbers" : Str), A.d (.list (ns.map .int))), (("at" : Str), A.d (.int a))] = [(("numbers" : Str), A.d (.list (ns.map .int))), (("at" : Str), A.d (.int z))] := by
    unfold setF
    rw [if_neg ne_na]
    unfold setF
    rw [if_pos rfl]
  rw [e2, hz]
  rfl
theorem get_set {S : Store} {n : Nat} {c c' : Cell} (h : S[n]? = some c) : (S.set n c')[n]? = some c' := by
  rw [List.getElem?_set_self (List.getElem?_eq_some_iff.mp h).1]
theorem e1 (k : Nat) {S : Store} {n a : Nat} {ns : List Int} (h : S[n]? = some (obj ns a)) (c : Nat) (hc : 0 < c) (hc2 : c < 1073741824) : cd (k + 1) 1 [.loc n, .d (.int c)] S = .ok (.d (.int (nx ns a c))) (S.set n (obj ns (a + 1))) := by
  rw [v1 k _ S rfl]
  unfold b1
  have hs := set_at (d := dName 0) (dv := dOp2 (pu2 addD) (dOp1 (fldA fl "at") (dName 0)) (dVal (.int 1))) (l := [some (A.loc n), some (A.d (.int c)), none]) (z := (a : Int) + 1) h (by simp -implicitDefEqProofs [-Int.natCast_ediv, -Int.natCast_add, -Int.natCast_emod, -Int.natCast_mul, fld_a h]) (by simp -implicitDefEqProofs [-Int.natCast_ediv, -Int.natCast_add, -Int.natCast_emod, -Int.natCast_mul]) (by omega)
  have h2 := get_set (c' := obj ns (a + 1)) h
  have f1 := fld_n h2
  have f2 := fld_a h2
  generalize S.set n (obj ns (a + 1)) = S2 at *
  have ei : ((a + 1 : Nat) : Int) - 1 = (a : Int) := by omega
  by_cases hl : a < ns.length
  · have hg : ¬ ((ns.length : Int) < ((a + 1 : Nat) : Int)) := by omega
    have hx : atI (ns.map PyData.int) (a : Int) = some (.int ns[a]) := by
      rw [atI_n (by simpa using hl), List.getElem?_map, List.getElem?_eq_getElem hl]; rfl
    have hm : mulIntOk (ns[a] / (c : Int)) c = true := mulOk_r (by omega)
    have hr : (ns[a] : Int) - ns[a] / (c : Int) * c = ((nx ns a c : Nat) : Int) := by
      unfold nx
      rw [List.getElem?_eq_getElem hl]
      have h1 := Int.emod_nonneg ns[a] (show (c : Int) ≠ 0 by omega)
      have h2 := Int.mul_ediv_add_emod ns[a] (c : Int)
      have h3 : ((c : Int) * (ns[a] / (c : Int))) = ns[a] / (c : Int) * c := Int.mul_comm _ _
      show _ = ((ns[a] % (c : Int)).toNat : Int)
      rw [Int.toNat_of_nonneg h1]
      omega
    simp -implicitDefEqProofs [-Int.natCast_ediv, -Int.natCast_add, -Int.natCast_emod, -Int.natCast_mul, hs, f1, f2, hg, ei, hx, ev_divI (show (0 : Int) < c by omega) (show (c : Int) < 1073741824 by omega), ev_mulI hm, hr]
  · have hg : ((ns.length : Int) < ((a + 1 : Nat) : Int)) := by omega
    have hn : nx ns a c = 0 := by
      unfold nx
      rw [List.getElem?_eq_none (by omega)]
    simp -implicitDefEqProofs [-Int.natCast_ediv, -Int.natCast_add, -Int.natCast_emod, -Int.natCast_mul, hs, f1, f2, hg, hn]
/-- next, as a method -/
theorem meth {F : Fns} {S S2 : Store} {n a : Nat} {ns : List Int} {d e : DE} {l : Ev.Loc} {z : Nat} (h1 : ∀ {S : Store} {n a : Nat} {ns : List Int}, S[n]? = some (obj ns a) → ∀ c : Nat, 0 < c → c < 1073741824 → F 1 [.loc n, .d (.int c)] S = .ok (.d (.int (nx ns a c))) (S.set n (obj ns (a + 1))))
    (hd : d l S = .ok (.loc n) S) (he : e l S = .ok (.d (.int z)) S) (h : S[n]? = some (obj ns a)) (hz : 0 < z) (hz2 : z < 1073741824) : dMeth F mt_next "next" d (dCons e dNil) l S = .ok (.d (.int (nx ns a z))) (S.set n (obj ns (a + 1))) := by
  unfold dMeth
  rw [hd, Res.ok_bind, objOf_obj h]
  have e2 : List.lookup ("next" : Str) [(("numbers" : Str), A.d (.list (ns.map .int))), (("at" : Str), A.d (.int a))] = none := by
    have e3 : ("next" == ("numbers" : Str)) = false := by decide +kernel
    have e4 : ("next" == ("at" : Str)) = false := by decide +kernel
    rw [List.lookup_cons, e3]
    show List.lookup _ [_] = _
    rw [List.lookup_cons, e4]
    rfl
  have e5 : mt_next 0 = some 1 := rfl
  simp only [e2, e5]
  rw [ev_cons, he, Res.ok_bind, ev_nil, Res.ok_bind, Res.ok_bind]
  exact h1 h z hz hz2
theorem set_set {S : Store} {n : Nat} {c c' : Cell} : (S.set n c).set n c' = S.set n c' := by
  rw [List.set_set]
/-! drawn_row -/
def rowB (ns : List Int) (a : Nat) (ps : List (Nat × Nat)) : List (Nat × Nat) × Nat := rowP ps (nx ns a (2 * mx (flat ps) + 1))
def rowE (ns : List Int) (a : Nat) (pb : List (Nat × Nat) × Nat) : List (Nat × Nat) × Nat := rowP pb.1 (2 * pb.2 + 2 + nx ns (a + 1) (2 * (max (mx (flat pb.1)) (pb.2 + 1) - pb.2) - 1))
def rowStep (ns : List Int) (a : Nat) (ps : List (Nat × Nat)) : List (Nat × Nat) := (rowE ns a (rowB ns a ps)).1 ++ [((rowB ns a ps).2, (rowE ns a (rowB ns a ps)).2)]
def rowLoop (ns : List Int) : Nat → Nat → List (Nat × Nat) → List (Nat × Nat)
  | 0, _, ps => ps
  | m + 1, a, ps => rowLoop ns m (a + 2) (rowStep ns a ps)
theorem len_rowP (ps : List (Nat × Nat)) (n : Nat) : (rowP ps n).1.length = ps.length := by
  unfold rowP opened
  split <;> simp
theorem len_rowStep (ns : List Int) (a : Nat) (ps : List (Nat × Nat)) : (rowStep ns a ps).length = ps.length + 1 := by
  unfold rowStep rowE rowB
  rw [List.length_append, len_rowP, len_rowP]
  rfl
theorem max2n (a b : Nat) : max2D (.int a) (.int b) = some (.int ((max a b : Nat) : Int)) := by
  show some (PyData.int (if (b : Int) > a then (b : Int) else a)) = _
  congr 2
  split <;> omega
theorem pD_app (ps : List (Nat × Nat)) (p : Nat × Nat) : pD ps ++ [.tuple [.int p.1, .int p.2]] = pD (ps ++ [p]) := by simp [pD]
/-- what a turn needs of its numbers -/
def RowOk (ns : List Int) (a : Nat) (ps : List (Nat × Nat)) : Prop := ps.length ≤ 1000 ∧ mx (flat ps) < 100000 ∧ mx (flat (rowB ns a ps).1) < 100000 ∧ (rowB ns a ps).2 < 100000
theorem row_body {F : Fns} (h1 : ∀ {S : Store} {n a : Nat} {ns : List Int}, S[n]? = some (obj ns a) → ∀ c : Nat, 0 < c → c < 1073741824 → F 1 [.loc n, .d (.int c)] S = .ok (.d (.int (nx ns a c))) (S.set n (obj ns (a + 1))))
    (h2 : ∀ (S : Store) (ps : List (Nat × Nat)), ps.length ≤ 16777216 → F 2 [.d (.list (pD ps))] S = .ok (.d (.int (mx (flat ps)))) S)
    (h5 : ∀ (S : Store) (ps : List (Nat × Nat)) (n : Nat), ps.length ≤ 16777216 → F 5 [.d (.list (pD ps)), .d (.int n)] S = .ok (.d (.tuple [.list (pD (rowP ps n).1), .int (rowP ps n).2])) S)
    {S : Store} {n a : Nat} {ns : List Int} {ps : List (Nat × Nat)} {x0 x3 x4 x5 x6 x7 : Option A} (h : S[n]? = some (obj ns a)) (ok : RowOk ns a ps) (body : DS)
    (hb : body = (dSeq (dAsg (gN 4) (dCall F 2 (dCons (dName 2) dNil)))
    (dSeq (dAsg (gTup [(gN 2), (gN 5)]) (dCall F 5 (dCons (dName 2) (dCons (dMeth F mt_next "next" (dName 1) (dCons (dOp2 (pu2 addD) (dOp2 mulA (dVal (.int 2)) (dName 4)) (dVal (.int 1))) dNil)) dNil))))
    (dSeq (dAsg (gN 4) (dCallB (pf2 max2D) (dCons (dCall F 2 (dCons (dName 2) dNil)) (dCons (dOp2 (pu2 addD) (dName 5) (dVal (.int 1))) dNil))))
    (dSeq (dAsg (gN 6) (dOp2 (pu2 addD) (dOp2 (pu2 addD) (dOp2 mulA (dVal (.int 2)) (dName 5)) (dVal (.int 2))) (dMeth F mt_next "next" (dName 1) (dCons (dOp2 (pu2 subD) (dOp2 mulA (dVal (.int 2)) (dOp2 (pu2 subD) (dName 4) (dName 5))) (dVal (.int 1))) dNil))))
    (dSeq (dAsg (gTup [(gN 2), (gN 7)]) (dCall F 5 (dCons (dName 2) (dCons (dName 6) dNil))))
    (dAsg (gN 2) (dOp2 (pu2 addD) (dName 2) (dLst (dCons (dTup (dCons (dName 5) (dCons (dName 7) dNil))) dNil)))))))))) :
    ∃ y4 y5 y6 y7, body [x0, some (.loc n), some (.d (.list (pD ps))), x3, x4, x5, x6, x7] S = .nx [x0, some (.loc n), some (.d (.list (pD (rowStep ns a ps)))), x3, y4, y5, y6, y7] (S.set n (obj ns (a + 2))) := by
  obtain ⟨k1, k2, k3, k4⟩ := ok
  subst hb
  have z1 : 2 * ((mx (flat ps) : Nat) : Int) + 1 = ((2 * mx (flat ps) + 1 : Nat) : Int) := by omega
  have m1 := meth (F := F) (S2 := S) h1 (d := dName 1) (e := dOp2 (pu2 addD) (dOp2 mulA (dVal (.int 2)) (dName 4)) (dVal (.int 1))) (l := [x0, some (A.loc n), some (A.d (.list (pD ps))), x3, some (A.d (.int (mx (flat ps)))), x5, x6, x7]) (z := 2 * mx (flat ps) + 1) (S := S) (by simp -implicitDefEqProofs [-Int.natCast_ediv, -Int.natCast_add, -Int.natCast_emod, -Int.natCast_mul]) (by simp -implicitDefEqProofs [-Int.natCast_ediv, -Int.natCast_add, -Int.natCast_emod, -Int.natCast_mul, z1]) h (by omega) (by omega)
  have g1 := get_set (c' := obj ns (a + 1)) h
  have e5a := h5 (S.set n (obj ns (a + 1))) ps (nx ns a (2 * mx (flat ps) + 1)) (by omega)
  have eB : rowP ps (nx ns a (2 * mx (flat ps) + 1)) = rowB ns a ps := rfl
  rw [eB] at e5a
  have lB : (rowB ns a ps).1.length = ps.length := len_rowP _ _
  generalize hB : rowB ns a ps = B at *
  generalize hS1 : S.set n (obj ns (a + 1)) = S1 at *
  have e2b := h2 S1 B.1 (by omega)
  have z2 : ((B.2 : Nat) : Int) + 1 = ((B.2 + 1 : Nat) : Int) := by omega
  have z3 : 2 * (((max (mx (flat B.1)) (B.2 + 1) : Nat) : Int) - (B.2 : Int)) - 1 = ((2 * (max (mx (flat B.1)) (B.2 + 1) - B.2) - 1 : Nat) : Int) := by omega
  have m2 := meth (F := F) (S2 := S) h1 (d := dName 1) (e := dOp2 (pu2 subD) (dOp2 mulA (dVal (.int 2)) (dOp2 (pu2 subD) (dName 4) (dName 5))) (dVal (.int 1))) (l := [x0, some (A.loc n), some (A.d (.list (pD B.1))), x3, some (A.d (.int ((max (mx (flat B.1)) (B.2 + 1) : Nat) : Int))), some (A.d (.int B.2)), x6, x7]) (z := 2 * (max (mx (flat B.1)) (B.2 + 1) - B.2) - 1) (S := S1) (by simp -implicitDefEqProofs [-Int.natCast_ediv, -Int.natCast_add, -Int.natCast_emod, -Int.natCast_mul]) (by simp -implicitDefEqProofs [-Int.natCast_ediv, -Int.natCast_add, -Int.natCast_emod, -Int.natCast_mul, z3]) g1 (by omega) (by omega)
  have e5b := h5 (S1.set n (obj ns (a + 1 + 1))) B.1 (2 * B.2 + 2 + nx ns (a + 1) (2 * (max (mx (flat B.1)) (B.2 + 1) - B.2) - 1)) (by omega)
  have eE : rowP B.1 (2 * B.2 + 2 + nx ns (a + 1) (2 * (max (mx (flat B.1)) (B.2 + 1) - B.2) - 1)) = rowE ns a B := rfl
  rw [eE] at e5b
  have lE : (rowE ns a B).1.length = B.1.length := len_rowP _ _
  have fin : rowStep ns a ps = (rowE ns a B).1 ++ [(B.2, (rowE ns a B).2)] := by unfold rowStep; rw [hB]
  have z4 : 2 * (B.2 : Int) + 2 + ((nx ns (a + 1) (2 * (max (mx (flat B.1)) (B.2 + 1) - B.2) - 1) : Nat) : Int) = ((2 * B.2 + 2 + nx ns (a + 1) (2 * (max (mx (flat B.1)) (B.2 + 1) - B.2) - 1) : Nat) : Int) := by omega
  generalize rowE ns a B = E at *
  have hS2 : S1.set n (obj ns (a + 1 + 1)) = S.set n (obj ns (a + 2)) := by rw [← hS1, set_set]
  rw [hS2] at m2 e5b
  have pe : addD (.list (pD E.1)) (.list [.tuple [.int B.2, .int E.2]]) = some (.list (pD (rowStep ns a ps))) := by
    show (if (pD E.1).length + 1 ≤ 16777216 then some (PyData.list (pD E.1 ++ [.tuple [.int B.2, .int E.2]])) else none) = _
    rw [if_pos (by rw [len_pD]; omega), fin, ← pD_app]
  refine ⟨some (.d (.int ((max (mx (flat B.1)) (B.2 + 1) : Nat) : Int))), some (.d (.int B.2)), some (.d (.int ((2 * B.2 + 2 + nx ns (a + 1) (2 * (max (mx (flat B.1)) (B.2 + 1) - B.2) - 1) : Nat) : Int))), some (.d (.int E.2)), ?_⟩
  have q1 : (if ps.length ≤ 16777216 then true else false) = true := if_pos (by omega)
  simp -implicitDefEqProofs [-Int.natCast_ediv, -Int.natCast_add, -Int.natCast_emod, -Int.natCast_mul, h2 S ps (by omega), m1, e5a, e2b, z2, max2n, m2, z4, e5b, pe]
end K76

namespace K76
open PySem PySem.Spec L2 Ev
/-- all but the cell n is as before -/
structure Fr (n : Nat) (S S' : Store) : Prop where
  len : S'.length = S.length
  at_ : ∀ q, q ≠ n → S'[q]? = S[q]?
theorem Fr.refl (n : Nat) (S : Store) : Fr n S S := ⟨rfl, fun _ _ => rfl⟩
theorem Fr.trans {n : Nat} {S S1 S2 : Store} (a : Fr n S S1) (b : Fr n S1 S2) : Fr n S S2 := ⟨b.len.trans a.len, fun q h => (b.at_ q h).trans (a.at_ q h)⟩
theorem Fr.set (n : Nat) (S : Store) (c : Cell) : Fr n S (S.set n c) := ⟨List.length_set, fun q h => List.getElem?_set_ne (Ne.symm h)⟩
def RowAll (ns : List Int) : Nat → Nat → List (Nat × Nat) → Prop
  | 0, _, _ => True
  | m + 1, a, ps => RowOk ns a ps ∧ RowAll ns m (a + 2) (rowStep ns a ps)
abbrev H1 (F : Fns) : Prop := ∀ {S : Store} {n a : Nat} {ns : List Int}, S[n]? = some (obj ns a) → ∀ c : Nat, 0 < c → c < 1073741824 → F 1 [.loc n, .d (.int c)] S = .ok (.d (.int (nx ns a c))) (S.set n (obj ns (a + 1)))
abbrev H2 (F : Fns) : Prop := ∀ (S : Store) (ps : List (Nat × Nat)), ps.length ≤ 16777216 → F 2 [.d (.list (pD ps))] S = .ok (.d (.int (mx (flat ps)))) S
abbrev H5 (F : Fns) : Prop := ∀ (S : Store) (ps : List (Nat × Nat)) (n : Nat), ps.length ≤ 16777216 → F 5 [.d (.list (pD ps)), .d (.int n)] S = .ok (.d (.tuple [.list (pD (rowP ps n).1), .int (rowP ps n).2])) S
abbrev H7 (F : Fns) : Prop := ∀ (S : Store) (ps : List (Nat × Nat)) (n : Nat), ps.length ≤ 16777216 → F 7 [.d (.list (pD ps)), .d (.int n)] S = .ok (.d (.tuple [.list (pD (rndP ps n).1), .int (rndP ps n).2])) S
theorem row_loop {F : Fns} (h1 : H1 F) (h2 : H2 F) (h5 : H5 F) {n : Nat} {ns : List Int} {x0 : Option A} (body : DS)
    (hb : body = (dSeq (dAsg (gN 4) (dCall F 2 (dCons (dName 2) dNil)))
    (dSeq (dAsg (gTup [(gN 2), (gN 5)]) (dCall F 5 (dCons (dName 2) (dCons (dMeth F mt_next "next" (dName 1) (dCons (dOp2 (pu2 addD) (dOp2 mulA (dVal (.int 2)) (dName 4)) (dVal (.int 1))) dNil)) dNil))))
    (dSeq (dAsg (gN 4) (dCallB (pf2 max2D) (dCons (dCall F 2 (dCons (dName 2) dNil)) (dCons (dOp2 (pu2 addD) (dName 5) (dVal (.int 1))) dNil))))
    (dSeq (dAsg (gN 6) (dOp2 (pu2 addD) (dOp2 (pu2 addD) (dOp2 mulA (dVal (.int 2)) (dName 5)) (dVal (.int 2))) (dMeth F mt_next "next" (dName 1) (dCons (dOp2 (pu2 subD) (dOp2 mulA (dVal (.int 2)) (dOp2 (pu2 subD) (dName 4) (dName 5))) (dVal (.int 1))) dNil))))
    (dSeq (dAsg (gTup [(gN 2), (gN 7)]) (dCall F 5 (dCons (dName 2) (dCons (dName 6) dNil))))
    (dAsg (gN 2) (dOp2 (pu2 addD) (dName 2) (dLst (dCons (dTup (dCons (dName 5) (dCons (dName 7) dNil))) dNil)))))))))) :
    ∀ (ds : List PyData) (a : Nat) (ps : List (Nat × Nat)) (x3 x4 x5 x6 x7 : Option A) (S : Store), S[n]? = some (obj ns a) → RowAll ns ds.length a ps →
      ∃ y3 y4 y5 y6 y7 S', loopF (gN 3) body ds [x0, some (.loc n), some (.d (.list (pD ps))), x3, x4, x5, x6, x7] S = .nx [x0, some (.loc n), some (.d (.list (pD (rowLoop ns ds.length a ps)))), y3, y4, y5, y6, y7] S' ∧ S'[n]? = some (obj ns (a + 2 * ds.length)) ∧ Fr n S S'
  | [], a, ps, x3, x4, x5, x6, x7, S, h, _ => ⟨x3, x4, x5, x6, x7, S, rfl, h, Fr.refl n S⟩
  | d :: ds, a, ps, x3, x4, x5, x6, x7, S, h, ⟨ok, all⟩ => by
    obtain ⟨y4, y5, y6, y7, e⟩ := row_body h1 h2 h5 (x0 := x0) (x3 := some (.d d)) (x4 := x4) (x5 := x5) (x6 := x6) (x7 := x7) h ok body hb
    have g := get_set (c' := obj ns (a + 2)) h
    obtain ⟨z3, z4, z5, z6, z7, S', e2, e3, e4⟩ := row_loop h1 h2 h5 body hb ds (a + 2) (rowStep ns a ps) (some (.d d)) y4 y5 y6 y7 (S.set n (obj ns (a + 2))) g all
    refine ⟨z3, z4, z5, z6, z7, S', ?_, by rw [e3, List.length_cons]; congr 1; congr 1; omega, (Fr.set n S _).trans e4⟩
    unfold loopF
    have eg : gN 3 (.d d) [x0, some (.loc n), some (.d (.list (pD ps))), x3, x4, x5, x6, x7] = some [x0, some (.loc n), some (.d (.list (pD ps))), some (.d d), x4, x5, x6, x7] := rfl
    rw [eg]
    simp only [e]
    exact e2
/-- pairs as a tuple's items -/
theorem e6 (k : Nat) {S : Store} {n a : Nat} {ns : List Int} (c : Nat) (hc : c ≤ 1000) (h : S[n]? = some (obj ns a)) (all : RowAll ns c a []) :
    ∃ S', cd (k + 3) 6 [.d (.int c), .loc n] S = .ok (.d (.tuple (pD (rowLoop ns c a [])))) S' ∧ S'[n]? = some (obj ns (a + 2 * c)) ∧ Fr n S S' := by
  have h1 : H1 (cd (k + 2)) := fun h c hc hc2 => e1 (k + 1) h c hc hc2
  have h2 : H2 (cd (k + 2)) := e2 (k + 1)
  have h5 : H5 (cd (k + 2)) := e5 k
  rw [v6 (k + 2) _ S rfl]
  generalize cd (k + 2) = F at *
  generalize cm (k + 2) = Fm at *
  unfold b6
  have hr : rgI (.int 0) (.int (c : Int)) = some ((rgL 0 c).map .int) := ev_rgI (by simp [rgOk]; omega)
  have hlen : ((rgL 0 (c : Int)).map PyData.int).length = c := by simp [rgL]
  obtain ⟨y3, y4, y5, y6, y7, S', e, e3, e4⟩ := row_loop h1 h2 h5 (x0 := some (A.d (.int (c : Int)))) _ rfl ((rgL 0 (c : Int)).map PyData.int) a [] none none none none none S h (by rw [hlen]; exact all)
  rw [hlen] at e e3
  refine ⟨S', ?_, e3, e4⟩
  have ep : (PyData.list (pD [])) = .list [] := rfl
  rw [ep] at e
  simp -implicitDefEqProofs [-Int.natCast_ediv, -Int.natCast_add, -Int.natCast_emod, -Int.natCast_mul, hr, e, tupleD]
/-! drawn_round -/
def rndPl (b size : Nat) : List Nat := (List.range (2 * size)).filter fun p => decide (p ≠ 2 * b)
def rndB (ns : List Int) (a : Nat) (ps : List (Nat × Nat)) : List (Nat × Nat) × Nat := rndP ps (nx ns a (2 * mx (flat ps)))
def rndPlace (ns : List Int) (a : Nat) (pb : List (Nat × Nat) × Nat) : Nat := (rndPl pb.2 (max (mx (flat pb.1)) (pb.2 + 1))).getD (nx ns (a + 1) (rndPl pb.2 (max (mx (flat pb.1)) (pb.2 + 1))).length) 0
def rndE (ns : List Int) (a : Nat) (pb : List (Nat × Nat) × Nat) : List (Nat × Nat) × Nat := rndP pb.1 (rndPlace ns a pb)
def rndBeg (ns : List Int) (a : Nat) (pb : List (Nat × Nat) × Nat) : Nat := if rndPlace ns a pb % 2 = 1 ∧ (rndE ns a pb).2 ≤ pb.2 then pb.2 + 1 else pb.2
def rndStep (ns : List Int) (a : Nat) (ps : List (Nat × Nat)) : List (Nat × Nat) := (rndE ns a (rndB ns a ps)).1 ++ [(rndBeg ns a (rndB ns a ps), (rndE ns a (rndB ns a ps)).2)]
def rndLoop (ns : List Int) : Nat → Nat → List (Nat × Nat) → List (Nat × Nat)
  | 0, _, ps => ps
  | m + 1, a, ps => rndLoop ns m (a + 2) (rndStep ns a ps)
theorem len_rndP (ps : List (Nat × Nat)) (n : Nat) : (rndP ps n).1.length = ps.length := by
  unfold rndP opened
  split <;> simp
def RndOk (ns : List Int) (a : Nat) (ps : List (Nat × Nat)) : Prop := ps.length ≤ 1000 ∧ 0 < mx (flat ps) ∧ mx (flat ps) < 100000 ∧ mx (flat (rndB ns a ps).1) < 100000 ∧ (rndB ns a ps).2 < 100000
theorem nx_lt (ns : List Int) (a c : Nat) (h : 0 < c) : nx ns a c < c := by
  unfold nx
  split
  · rename_i x _
    have h1 := Int.emod_nonneg x (show (c : Int) ≠ 0 by omega)
    have h2 := Int.emod_lt_of_pos x (show (0 : Int) < c by omega)
    omega
  · exact h
theorem len_pl (b size : Nat) (h : b < size) : 0 < (rndPl b size).length ∧ (rndPl b size).length ≤ 2 * size := by
  constructor
  · apply List.length_pos_of_mem (a := if b = 0 then 1 else 0)
    unfold rndPl
    rw [List.mem_filter, List.mem_range]
    split <;> simp <;> omega
  · have := List.length_filter_le (fun p => decide (p ≠ 2 * b)) (List.range (2 * size))
    rw [List.length_range] at this
    exact this
theorem rg_nI (m : Nat) : (rgL 0 (m : Int)).map PyData.int = nI (List.range m) := by
  unfold rgL nI
  rw [List.map_map]
  have e : ((m : Int) - 0).toNat = m := by omega
  rw [e]
  refine List.map_congr_left fun i _ => ?_
  show PyData.int (0 + (i : Int)) = _
  rw [Int.zero_add]
theorem fm_map {α β : Type} {f : α → β} {g : β → Option β} {p : α → Bool} (h : ∀ i, g (f i) = if p i = true then some (f i) else none) : ∀ l : List α, (l.map f).filterMap g = (l.filter p).map f
  | [] => rfl
  | x :: l => by
    rw [List.map_cons, List.filterMap_cons, h x, List.filter_cons]
    by_cases hp : p x = true
    · rw [if_pos hp, if_pos hp, List.map_cons, ← fm_map h l]
    · rw [if_neg hp, if_neg hp, ← fm_map h l]
theorem rnd_body {F : Fns} (h1 : H1 F) (h2 : H2 F) (h7 : H7 F) (h4 : ∀ (S : Store) (n : Int), F 4 [.d (.int n)] S = .ok (.d (.bool (decide (n % 2 = 1)))) S)
    {S : Store} {n a : Nat} {ns : List Int} {ps : List (Nat × Nat)} {x0 x3 x4 x5 x6 x7 x8 : Option A} (h : S[n]? = some (obj ns a)) (ok : RndOk ns a ps) (body : DS)
    (hb : body = (dSeq (dAsg (gN 4) (dCall F 2 (dCons (dName 2) dNil)))
    (dSeq (dAsg (gTup [(gN 2), (gN 5)]) (dCall F 7 (dCons (dName 2) (dCons (dMeth F mt_next "next" (dName 1) (dCons (dOp2 mulA (dVal (.int 2)) (dName 4)) dNil)) dNil))))
    (dSeq (dAsg (gN 4) (dCallB (pf2 max2D) (dCons (dCall F 2 (dCons (dName 2) dNil)) (dCons (dOp2 (pu2 addD) (dName 5) (dVal (.int 1))) dNil))))
    (dSeq (dAsg (gN 6) (dLc (dRg1 (dOp2 mulA (dVal (.int 2)) (dName 4))) [7] (gN 7) (toB (dOp2 (pu2 (notD eqD)) (dName 7) (dOp2 mulA (dVal (.int 2)) (dName 5)))) (dName 7)))
    (dSeq (dAsg (gN 7) (dOp2 ixU (dName 6) (dMeth F mt_next "next" (dName 1) (dCons (dCallB lenA (dCons (dName 6) dNil)) dNil))))
    (dSeq (dAsg (gTup [(gN 2), (gN 8)]) (dCall F 7 (dCons (dName 2) (dCons (dName 7) dNil))))
    (dSeq (dIte (dAndT (toB (dCall F 4 (dCons (dName 7) dNil))) (toB (dOp2 (pu2 (boolD leD)) (dName 8) (dName 5)))) (dAsg (gN 5) (dOp2 (pu2 addD) (dName 5) (dVal (.int 1)))) dSkip)
    (dAsg (gN 2) (dOp2 (pu2 addD) (dName 2) (dLst (dCons (dTup (dCons (dName 5) (dCons (dName 8) dNil))) dNil)))))))))))) :
    ∃ y4 y5 y6 y7 y8, body [x0, some (.loc n), some (.d (.list (pD ps))), x3, x4, x5, x6, x7, x8] S = .nx [x0, some (.loc n), some (.d (.list (pD (rndStep ns a ps)))), x3, y4, y5, y6, y7, y8] (S.set n (obj ns (a + 2))) := by
  obtain ⟨k1, k0, k2, k3, k4⟩ := ok
  subst hb
  have z1 : 2 * ((mx (flat ps) : Nat) : Int) = ((2 * mx (flat ps) : Nat) : Int) := by omega
  have m1 := meth (F := F) (S2 := S) h1 (d := dName 1) (e := dOp2 mulA (dVal (.int 2)) (dName 4)) (l := [x0, some (A.loc n), some (A.d (.list (pD ps))), x3, some (A.d (.int (mx (flat ps)))), x5, x6, x7, x8]) (z := 2 * mx (flat ps)) (S := S) (by simp -implicitDefEqProofs [-Int.natCast_ediv, -Int.natCast_add, -Int.natCast_emod, -Int.natCast_mul]) (by simp -implicitDefEqProofs [-Int.natCast_ediv, -Int.natCast_add, -Int.natCast_emod, -Int.natCast_mul, z1]) h (by omega) (by omega)
  have g1 := get_set (c' := obj ns (a + 1)) h
  have e7a := h7 (S.set n (obj ns (a + 1))) ps (nx ns a (2 * mx (flat ps))) (by omega)
  have eB : rndP ps (nx ns a (2 * mx (flat ps))) = rndB ns a ps := rfl
  rw [eB] at e7a
  have lB : (rndB ns a ps).1.length = ps.length := len_rndP _ _
  have fin : rndStep ns a ps = (rndE ns a (rndB ns a ps)).1 ++ [(rndBeg ns a (rndB ns a ps), (rndE ns a (rndB ns a ps)).2)] := rfl
  generalize rndB ns a ps = B at *
  generalize hS1 : S.set n (obj ns (a + 1)) = S1 at *
  have e2b := h2 S1 B.1 (by omega)
  have z2 : ((B.2 : Nat) : Int) + 1 = ((B.2 + 1 : Nat) : Int) := by omega
  have hsz : B.2 < max (mx (flat B.1)) (B.2 + 1) := by omega
  have hsz2 : max (mx (flat B.1)) (B.2 + 1) ≤ 100000 := by omega
  have ePlace : (rndPl B.2 (max (mx (flat B.1)) (B.2 + 1))).getD (nx ns (a + 1) (rndPl B.2 (max (mx (flat B.1)) (B.2 + 1))).length) 0 = rndPlace ns a B := rfl
  generalize hszE : max (mx (flat B.1)) (B.2 + 1) = sz at *
  obtain ⟨p1, p2⟩ := len_pl B.2 sz hsz
  have hlc : dLc (dRg1 (dOp2 mulA (dVal (.int 2)) (dName 4))) [7] (gN 7) (toB (dOp2 (pu2 (notD eqD)) (dName 7) (dOp2 mulA (dVal (.int 2)) (dName 5)))) (dName 7) [x0, some (A.loc n), some (A.d (.list (pD B.1))), x3, some (A.d (.int (sz : Int))), some (A.d (.int B.2)), x6, x7, x8] S1 = .ok (.d (.list (nI (rndPl B.2 sz)))) S1 := by
    have hr : rgI (.int 0) (.int (2 * (sz : Int))) = some (nI (List.range (2 * sz))) := by
      have e : 2 * (sz : Int) = ((2 * sz : Nat) : Int) := by omega
      rw [e, ← rg_nI]
      exact ev_rgI (by simp [rgOk]; omega)
    have hf : (nI (List.range (2 * sz))).filterMap (fun d => match d with | .int i => if i = 2 * (B.2 : Int) then none else some (.int i) | _ => none) = nI (rndPl B.2 sz) := by
      unfold nI rndPl
      refine fm_map (fun i => ?_) _
      show (if (i : Int) = 2 * (B.2 : Int) then none else some (PyData.int i)) = if decide (i ≠ 2 * B.2) = true then some (PyData.int i) else none
      by_cases hi : i = 2 * B.2
      · rw [if_pos (by omega), if_neg (by simp [hi])]
      · rw [if_neg (by omega), if_pos (by simp [hi])]
    rw [← hf]
    refine ev_lc _ (by simp -implicitDefEqProofs [-Int.natCast_ediv, -Int.natCast_add, -Int.natCast_emod, -Int.natCast_mul, hr]) (by rw [len_nI, List.length_range]; omega) fun x hx => ?_
    unfold nI at hx
    rw [List.mem_map] at hx
    obtain ⟨i, _, rfl⟩ := hx
    refine ⟨_, rfl, ?_⟩
    by_cases hi : (i : Int) = 2 * (B.2 : Int)
    · right
      simp -implicitDefEqProofs [-Int.natCast_ediv, -Int.natCast_add, -Int.natCast_emod, -Int.natCast_mul, hi]
    · left
      simp -implicitDefEqProofs [-Int.natCast_ediv, -Int.natCast_add, -Int.natCast_emod, -Int.natCast_mul, hi]
  have m2 := meth (F := F) (S2 := S) h1 (d := dName 1) (e := dCallB lenA (dCons (dName 6) dNil)) (l := [x0, some (A.loc n), some (A.d (.list (pD B.1))), x3, some (A.d (.int (sz : Int))), some (A.d (.int B.2)), some (A.d (.list (nI (rndPl B.2 sz)))), x7, x8]) (z := (rndPl B.2 sz).length) (S := S1) (by simp -implicitDefEqProofs [-Int.natCast_ediv, -Int.natCast_add, -Int.natCast_emod, -Int.natCast_mul]) (by simp -implicitDefEqProofs [-Int.natCast_ediv, -Int.natCast_add, -Int.natCast_emod, -Int.natCast_mul, len_nI]) g1 p1 (by omega)
  have hlt := nx_lt ns (a + 1) _ p1
  have hix : atI (nI (rndPl B.2 sz)) ((nx ns (a + 1) (rndPl B.2 sz).length : Nat) : Int) = some (.int (rndPlace ns a B)) := by
    rw [atI_n (by rw [len_nI]; exact hlt), ← ePlace]
    unfold nI
    rw [List.getElem?_map, List.getElem?_eq_getElem hlt, List.getD_eq_getElem?_getD, List.getElem?_eq_getElem hlt]
    rfl
  have e7b := h7 (S1.set n (obj ns (a + 1 + 1))) B.1 (rndPlace ns a B) (by omega)
  have eE : rndP B.1 (rndPlace ns a B) = rndE ns a B := rfl
  rw [eE] at e7b
  have lE : (rndE ns a B).1.length = B.1.length := len_rndP _ _
  have eb : rndBeg ns a B = if rndPlace ns a B % 2 = 1 ∧ (rndE ns a B).2 ≤ B.2 then B.2 + 1 else B.2 := rfl
  generalize rndE ns a B = E at *
  generalize rndPlace ns a B = pl at *
  have hS2 : S1.set n (obj ns (a + 1 + 1)) = S.set n (obj ns (a + 2)) := by rw [← hS1, set_set]
  rw [hS2] at m2 e7b
  have pe : addD (.list (pD E.1)) (.list [.tuple [.int (rndBeg ns a B), .int E.2]]) = some (.list (pD (rndStep ns a ps))) := by
    show (if (pD E.1).length + 1 ≤ 16777216 then some (PyData.list (pD E.1 ++ [.tuple [.int (rndBeg ns a B), .int E.2]])) else none) = _
    rw [if_pos (by rw [len_pD]; omega), fin, ← pD_app]
  have h4' := fun S => h4 S (pl : Int)
  by_cases ho : pl % 2 = 1
  · by_cases hle : E.2 ≤ B.2
    · rw [eb, if_pos ⟨ho, hle⟩] at pe
      refine ⟨some (.d (.int sz)), some (.d (.int ((B.2 + 1 : Nat) : Int))), some (.d (.list (nI (rndPl B.2 sz)))), some (.d (.int pl)), some (.d (.int E.2)), ?_⟩
      have hle' : (E.2 : Int) ≤ (B.2 : Int) := by omega
      simp -implicitDefEqProofs [-Int.natCast_ediv, -Int.natCast_add, -Int.natCast_emod, -Int.natCast_mul, h2 S ps (by omega), m1, e7a, e2b, z2, max2n, hszE, hlc, m2, hix, e7b, h4', odd2n, ho, hle', pe]
    · rw [eb, if_neg (fun z => hle z.2)] at pe
      refine ⟨some (.d (.int sz)), some (.d (.int (B.2 : Int))), some (.d (.list (nI (rndPl B.2 sz)))), some (.d (.int pl)), some (.d (.int E.2)), ?_⟩
      have hle' : ¬ (E.2 : Int) ≤ (B.2 : Int) := by omega
      simp -implicitDefEqProofs [-Int.natCast_ediv, -Int.natCast_add, -Int.natCast_emod, -Int.natCast_mul, h2 S ps (by omega), m1, e7a, e2b, z2, max2n, hszE, hlc, m2, hix, e7b, h4', odd2n, ho, hle', pe]
  · rw [eb, if_neg (fun z => ho z.1)] at pe
    refine ⟨some (.d (.int sz)), some (.d (.int (B.2 : Int))), some (.d (.list (nI (rndPl B.2 sz)))), some (.d (.int pl)), some (.d (.int E.2)), ?_⟩
    simp -implicitDefEqProofs [-Int.natCast_ediv, -Int.natCast_add, -Int.natCast_emod, -Int.natCast_mul, h2 S ps (by omega), m1, e7a, e2b, z2, max2n, hszE, hlc, m2, hix, e7b, h4', odd2n, ho, pe]
end K76

namespace K76
open PySem PySem.Spec L2 Ev
theorem cm_succ (k : Nat) : cm (k + 1) = cd k := rfl
def RndAll (ns : List Int) : Nat → Nat → List (Nat × Nat) → Prop
  | 0, _, _ => True
  | m + 1, a, ps => RndOk ns a ps ∧ RndAll ns m (a + 2) (rndStep ns a ps)
abbrev H4 (F : Fns) : Prop := ∀ (S : Store) (n : Int), F 4 [.d (.int n)] S = .ok (.d (.bool (decide (n % 2 = 1)))) S
theorem rnd_loop {F : Fns} (h1 : H1 F) (h2 : H2 F) (h7 : H7 F) (h4 : H4 F) {n : Nat} {ns : List Int} {x0 : Option A} (body : DS)
    (hb : body = (dSeq (dAsg (gN 4) (dCall F 2 (dCons (dName 2) dNil)))
    (dSeq (dAsg (gTup [(gN 2), (gN 5)]) (dCall F 7 (dCons (dName 2) (dCons (dMeth F mt_next "next" (dName 1) (dCons (dOp2 mulA (dVal (.int 2)) (dName 4)) dNil)) dNil))))
    (dSeq (dAsg (gN 4) (dCallB (pf2 max2D) (dCons (dCall F 2 (dCons (dName 2) dNil)) (dCons (dOp2 (pu2 addD) (dName 5) (dVal (.int 1))) dNil))))
    (dSeq (dAsg (gN 6) (dLc (dRg1 (dOp2 mulA (dVal (.int 2)) (dName 4))) [7] (gN 7) (toB (dOp2 (pu2 (notD eqD)) (dName 7) (dOp2 mulA (dVal (.int 2)) (dName 5)))) (dName 7)))
    (dSeq (dAsg (gN 7) (dOp2 ixU (dName 6) (dMeth F mt_next "next" (dName 1) (dCons (dCallB lenA (dCons (dName 6) dNil)) dNil))))
    (dSeq (dAsg (gTup [(gN 2), (gN 8)]) (dCall F 7 (dCons (dName 2) (dCons (dName 7) dNil))))
    (dSeq (dIte (dAndT (toB (dCall F 4 (dCons (dName 7) dNil))) (toB (dOp2 (pu2 (boolD leD)) (dName 8) (dName 5)))) (dAsg (gN 5) (dOp2 (pu2 addD) (dName 5) (dVal (.int 1)))) dSkip)
    (dAsg (gN 2) (dOp2 (pu2 addD) (dName 2) (dLst (dCons (dTup (dCons (dName 5) (dCons (dName 8) dNil))) dNil)))))))))))) :
    ∀ (ds : List PyData) (a : Nat) (ps : List (Nat × Nat)) (x3 x4 x5 x6 x7 x8 : Option A) (S : Store), S[n]? = some (obj ns a) → RndAll ns ds.length a ps →
      ∃ y3 y4 y5 y6 y7 y8 S', loopF (gN 3) body ds [x0, some (.loc n), some (.d (.list (pD ps))), x3, x4, x5, x6, x7, x8] S = .nx [x0, some (.loc n), some (.d (.list (pD (rndLoop ns ds.length a ps)))), y3, y4, y5, y6, y7, y8] S' ∧ S'[n]? = some (obj ns (a + 2 * ds.length)) ∧ Fr n S S'
  | [], a, ps, x3, x4, x5, x6, x7, x8, S, h, _ => ⟨x3, x4, x5, x6, x7, x8, S, rfl, h, Fr.refl n S⟩
  | d :: ds, a, ps, x3, x4, x5, x6, x7, x8, S, h, ⟨ok, all⟩ => by
    obtain ⟨y4, y5, y6, y7, y8, e⟩ := rnd_body h1 h2 h7 h4 (x0 := x0) (x3 := some (.d d)) (x4 := x4) (x5 := x5) (x6 := x6) (x7 := x7) (x8 := x8) h ok body hb
    have g := get_set (c' := obj ns (a + 2)) h
    obtain ⟨z3, z4, z5, z6, z7, z8, S', e2, e3, e4⟩ := rnd_loop h1 h2 h7 h4 body hb ds (a + 2) (rndStep ns a ps) (some (.d d)) y4 y5 y6 y7 y8 (S.set n (obj ns (a + 2))) g all
    refine ⟨z3, z4, z5, z6, z7, z8, S', ?_, by rw [e3, List.length_cons]; congr 1; congr 1; omega, (Fr.set n S _).trans e4⟩
    unfold loopF
    have eg : gN 3 (.d d) [x0, some (.loc n), some (.d (.list (pD ps))), x3, x4, x5, x6, x7, x8] = some [x0, some (.loc n), some (.d (.list (pD ps))), some (.d d), x4, x5, x6, x7, x8] := rfl
    rw [eg]
    simp only [e]
    exact e2
theorem e8 (k : Nat) {S : Store} {n a : Nat} {ns : List Int} (c : Nat) (hc : c ≤ 1000) (hc1 : 1 ≤ c) (h : S[n]? = some (obj ns a)) (all : RndAll ns (c - 1) a [(0, 1)]) :
    ∃ S', cd (k + 3) 8 [.d (.int c), .loc n] S = .ok (.d (.tuple (pD (rndLoop ns (c - 1) a [(0, 1)])))) S' ∧ Fr n S S' := by
  have h1 : H1 (cd (k + 2)) := fun h c hc hc2 => e1 (k + 1) h c hc hc2
  have h2 : H2 (cd (k + 2)) := e2 (k + 1)
  have h7 : H7 (cd (k + 2)) := e7 k
  have h4 : H4 (cd (k + 2)) := e4 (k + 1)
  rw [v8 (k + 2) _ S rfl]
  generalize cd (k + 2) = F at *
  generalize cm (k + 2) = Fm at *
  unfold b8
  have hr : rgI (.int 1) (.int (c : Int)) = some ((rgL 1 c).map .int) := ev_rgI (by simp [rgOk]; omega)
  have hlen : ((rgL 1 (c : Int)).map PyData.int).length = c - 1 := by simp [rgL]
  obtain ⟨y3, y4, y5, y6, y7, y8, S', e, e3, e4⟩ := rnd_loop h1 h2 h7 h4 (x0 := some (A.d (.int (c : Int)))) _ rfl ((rgL 1 (c : Int)).map PyData.int) a [(0, 1)] none none none none none none S h (by rw [hlen]; exact all)
  rw [hlen] at e
  refine ⟨S', ?_, e4⟩
  have ep : (PyData.list (pD [(0, 1)])) = .list [.tuple [.int 0, .int 1]] := rfl
  rw [ep] at e
  simp -implicitDefEqProofs [-Int.natCast_ediv, -Int.natCast_add, -Int.natCast_emod, -Int.natCast_mul, hr, e, tupleD]
/-! a new one who tells numbers -/
theorem e0 (k : Nat) (S : Store) (ns : List Int) : cd (k + 1) 0 [.loc S.length, .d (.list (ns.map .int))] (S ++ [.ins 0 []]) = .ok (.d .none) (S ++ [obj ns 0]) := by
  rw [v0 k _ _ rfl]
  unfold b0
  have g0 : (S ++ [Cell.ins 0 []])[S.length]? = some (.ins 0 []) := by simp
  have s1 : dSetF fl "numbers" (dName 0) (dCallB (pf1 listD) (dCons (dName 1) dNil)) [some (.loc S.length), some (.d (.list (ns.map .int)))] (S ++ [.ins 0 []]) = .nx [some (.loc S.length), some (.d (.list (ns.map .int)))] (S ++ [.ins 0 [("numbers", .d (.list (ns.map .int)))]]) := by
    unfold dSetF
    have hv : dCallB (pf1 listD) (dCons (dName 1) dNil) [some (.loc S.length), some (.d (.list (ns.map .int)))] (S ++ [.ins 0 []]) = .ok (.d (.list (ns.map .int))) (S ++ [.ins 0 []]) := by simp -implicitDefEqProofs [-Int.natCast_ediv, -Int.natCast_add, -Int.natCast_emod, -Int.natCast_mul, listD]
    have hd : dName 0 [some (.loc S.length), some (.d (.list (ns.map .int)))] (S ++ [.ins 0 []]) = .ok (.loc S.length) (S ++ [.ins 0 []]) := by simp -implicitDefEqProofs [-Int.natCast_ediv, -Int.natCast_add, -Int.natCast_emod, -Int.natCast_mul]
    have ho : objOf (.loc S.length) (S ++ [.ins 0 []]) = some (S.length, 0, []) := by
      show (match (S ++ [Cell.ins 0 []])[S.length]? with | some (.ins c fs) => some (S.length, c, fs) | _ => none) = _
      rw [g0]
    rw [hv, Res.ok_thenS, hd, Res.ok_thenS, ho]
    show (if (fl 0).contains "numbers" && decide (_ < 1000) then _ else _) = _
    rw [fl_n, Bool.true_and, if_pos (by rfl)]
    rw [List.set_append_right _ _ (Nat.le_refl _), Nat.sub_self]
    rfl
  have g1 : (S ++ [Cell.ins 0 [(("numbers" : Str), A.d (.list (ns.map .int)))]])[S.length]? = some (.ins 0 [(("numbers" : Str), A.d (.list (ns.map .int)))]) := by simp
  have s2 : dSetF fl "at" (dName 0) (dVal (.int 0)) [some (.loc S.length), some (.d (.list (ns.map .int)))] (S ++ [.ins 0 [("numbers", .d (.list (ns.map .int)))]]) = .nx [some (.loc S.length), some (.d (.list (ns.map .int)))] (S ++ [obj ns 0]) := by
    unfold dSetF
    have hv : dVal (.int 0) [some (.loc S.length), some (.d (.list (ns.map .int)))] (S ++ [.ins 0 [("numbers", .d (.list (ns.map .int)))]]) = .ok (.d (.int 0)) (S ++ [.ins 0 [("numbers", .d (.list (ns.map .int)))]]) := rfl
    have hd : dName 0 [some (.loc S.length), some (.d (.list (ns.map .int)))] (S ++ [.ins 0 [("numbers", .d (.list (ns.map .int)))]]) = .ok (.loc S.length) (S ++ [.ins 0 [("numbers", .d (.list (ns.map .int)))]]) := by simp -implicitDefEqProofs [-Int.natCast_ediv, -Int.natCast_add, -Int.natCast_emod, -Int.natCast_mul]
    have ho : objOf (.loc S.length) (S ++ [.ins 0 [(("numbers" : Str), A.d (.list (ns.map .int)))]]) = some (S.length, 0, [(("numbers" : Str), A.d (.list (ns.map .int)))]) := by
      show (match (S ++ [Cell.ins 0 [("numbers", .d (.list (ns.map .int)))]])[S.length]? with | some (.ins c fs) => some (S.length, c, fs) | _ => none) = _
      rw [g1]
    rw [hv, Res.ok_thenS, hd, Res.ok_thenS, ho]
    show (if (fl 0).contains "at" && decide (_ < 1000) then _ else _) = _
    rw [fl_a, Bool.true_and, if_pos (by rfl)]
    rw [List.set_append_right _ _ (Nat.le_refl _), Nat.sub_self]
    have e2 : setF ("at" : Str) (A.d (.int 0)) [(("numbers" : Str), A.d (.list (ns.map .int)))] = [(("numbers" : Str), A.d (.list (ns.map .int))), (("at" : Str), A.d (.int 0))] := by
      unfold setF
      rw [if_neg ne_na]
      rfl
    rw [e2]
    rfl
  simp -implicitDefEqProofs [-Int.natCast_ediv, -Int.natCast_add, -Int.natCast_emod, -Int.natCast_mul, s1, s2]
/-! drawn_figure -/
def lineD (ns : List Int) (c a : Nat) : PyData := .tuple (pD (rowLoop ns c a []))
def ringD (ns : List Int) (c : Nat) : PyData := .tuple (pD (rndLoop ns (c - 1) 0 [(0, 1)]))
/-- more cells, the others as before -/
structure More (S S' : Store) : Prop where
  len : S.length ≤ S'.length
  at_ : ∀ q, q < S.length → S'[q]? = S[q]?
theorem More.refl (S : Store) : More S S := ⟨Nat.le_refl _, fun _ _ => rfl⟩
theorem More.trans {S S1 S2 : Store} (a : More S S1) (b : More S1 S2) : More S S2 := ⟨Nat.le_trans a.len b.len, fun q h => (b.at_ q (Nat.lt_of_lt_of_le h a.len)).trans (a.at_ q h)⟩
theorem More.app (S T : Store) : More S (S ++ T) := ⟨by simp, fun q h => List.getElem?_append_left h⟩
theorem More.fr {n : Nat} {S S1 S2 : Store} (a : More S S1) (h : Fr n S1 S2) (hn : S.length ≤ n) : More S S2 := ⟨by rw [h.len]; exact a.len, fun q hq => (h.at_ q (by omega)).trans (a.at_ q hq)⟩
theorem rl : ¬ ("ring" : Str) = "line" := by decide +kernel
theorem bl' : ¬ ("box" : Str) = "line" := by decide +kernel
theorem br : ¬ ("box" : Str) = "ring" := by decide +kernel
theorem made {Fm : Fns} {S : Store} {ns : List Int} {l : Ev.Loc} {d : DE} (h0 : Fm 0 [.loc S.length, .d (.list (ns.map .int))] (S ++ [.ins 0 []]) = .ok (.d .none) (S ++ [obj ns 0])) (hd : d l S = .ok (.d (.list (ns.map .int))) S) : dMake Fm 0 0 (dCons d dNil) l S = .ok (.loc S.length) (S ++ [obj ns 0]) := by
  rw [ev_make, ev_cons, hd, Res.ok_bind, ev_nil, Res.ok_bind, Res.ok_bind, h0, Res.ok_bind]
theorem e9_line (k : Nat) (S : Store) (ns : List Int) (c : Nat) (hc : c ≤ 1000) (all : RowAll ns c 0 []) : ∃ S', cd (k + 5) 9 [.d (.str "line"), .d (.int c), .d (.list (ns.map .int))] S = .ok (.d (lineD ns c 0)) S' ∧ More S S' := by
  have h0 := e0 (k + 2) S ns
  have g : (S ++ [obj ns 0])[S.length]? = some (obj ns 0) := by simp
  obtain ⟨S', e, _, fr⟩ := e6 (k + 1) (S := S ++ [obj ns 0]) c hc g all
  have h0 : cm (k + 4) 0 [.loc S.length, .d (.list (ns.map .int))] (S ++ [.ins 0 []]) = .ok (.d .none) (S ++ [obj ns 0]) := by rw [cm_succ]; exact h0
  rw [v9 (k + 4) _ S rfl]
  generalize cd (k + 4) = F at *
  generalize cm (k + 4) = Fm at *
  have hm := made (l := [some (A.d (.str "line")), some (A.d (.int c)), some (A.d (.list (ns.map .int))), none, none]) (d := dName 2) h0 (by simp -implicitDefEqProofs [-Int.natCast_ediv, -Int.natCast_add, -Int.natCast_emod, -Int.natCast_mul])
  refine ⟨S', ?_, (More.app S _).fr fr (Nat.le_refl _)⟩
  unfold b9
  simp -implicitDefEqProofs [-Int.natCast_ediv, -Int.natCast_add, -Int.natCast_emod, -Int.natCast_mul, -ev_make, hm, e, lineD]
theorem e9_ring (k : Nat) (S : Store) (ns : List Int) (c : Nat) (hc : c ≤ 1000) (hc1 : 1 ≤ c) (all : RndAll ns (c - 1) 0 [(0, 1)]) : ∃ S', cd (k + 5) 9 [.d (.str "ring"), .d (.int c), .d (.list (ns.map .int))] S = .ok (.d (ringD ns c)) S' ∧ More S S' := by
  have h0 := e0 (k + 2) S ns
  have g : (S ++ [obj ns 0])[S.length]? = some (obj ns 0) := by simp
  obtain ⟨S', e, fr⟩ := e8 (k + 1) (S := S ++ [obj ns 0]) c hc hc1 g all
  have h0 : cm (k + 4) 0 [.loc S.length, .d (.list (ns.map .int))] (S ++ [.ins 0 []]) = .ok (.d .none) (S ++ [obj ns 0]) := by rw [cm_succ]; exact h0
  rw [v9 (k + 4) _ S rfl]
  generalize cd (k + 4) = F at *
  generalize cm (k + 4) = Fm at *
  have hm := made (l := [some (A.d (.str "ring")), some (A.d (.int c)), some (A.d (.list (ns.map .int))), none, none]) (d := dName 2) h0 (by simp -implicitDefEqProofs [-Int.natCast_ediv, -Int.natCast_add, -Int.natCast_emod, -Int.natCast_mul])
  refine ⟨S', ?_, (More.app S _).fr fr (Nat.le_refl _)⟩
  unfold b9
  simp -implicitDefEqProofs [-Int.natCast_ediv, -Int.natCast_add, -Int.natCast_emod, -Int.natCast_mul, -ev_make, hm, e, ringD, rl]
theorem e9_box (k : Nat) (S : Store) (ns : List Int) (c : Nat) (hc : c ≤ 1000) (all : RowAll ns c 0 []) (all2 : RowAll ns c (2 * c) []) : ∃ S', cd (k + 5) 9 [.d (.str "box"), .d (.int c), .d (.list (ns.map .int))] S = .ok (.d (.tuple [lineD ns c 0, lineD ns c (2 * c)])) S' ∧ More S S' := by
  have h0 := e0 (k + 2) S ns
  have g : (S ++ [obj ns 0])[S.length]? = some (obj ns 0) := by simp
  obtain ⟨S1, e, g1, fr⟩ := e6 (k + 1) (S := S ++ [obj ns 0]) c hc g all
  rw [Nat.zero_add] at g1
  obtain ⟨S', e', _, fr'⟩ := e6 (k + 1) (S := S1) c hc g1 all2
  have h0 : cm (k + 4) 0 [.loc S.length, .d (.list (ns.map .int))] (S ++ [.ins 0 []]) = .ok (.d .none) (S ++ [obj ns 0]) := by rw [cm_succ]; exact h0
  rw [v9 (k + 4) _ S rfl]
  generalize cd (k + 4) = F at *
  generalize cm (k + 4) = Fm at *
  have hm := made (l := [some (A.d (.str "box")), some (A.d (.int c)), some (A.d (.list (ns.map .int))), none, none]) (d := dName 2) h0 (by simp -implicitDefEqProofs [-Int.natCast_ediv, -Int.natCast_add, -Int.natCast_emod, -Int.natCast_mul])
  refine ⟨S', ?_, (More.app S _).fr (fr.trans fr') (Nat.le_refl _)⟩
  unfold b9
  simp -implicitDefEqProofs [-Int.natCast_ediv, -Int.natCast_add, -Int.natCast_emod, -Int.natCast_mul, -ev_make, hm, e, e', lineD, bl', br]
end K76

namespace K76
open PySem PySem.Spec L2 Ev
/-! ### the moments that are held -/
def Cov (xs : List Nat) (L : Nat) : Prop := (∀ x ∈ xs, x < L) ∧ ∀ q, q < L → q ∈ xs
theorem mx_le {L : Nat} : ∀ {xs : List Nat}, (∀ x ∈ xs, x < L) → mx xs ≤ L
  | [], _ => Nat.zero_le _
  | x :: xs, h => by
    have h1 := h x (by simp)
    have h2 := mx_le fun y hy => h y (List.mem_cons_of_mem x hy)
    show max (x + 1) (mx xs) ≤ L
    omega
theorem le_mx {x : Nat} : ∀ {xs : List Nat}, x ∈ xs → x + 1 ≤ mx xs
  | y :: xs, h => by
    show x + 1 ≤ max (y + 1) (mx xs)
    rcases List.mem_cons.mp h with rfl | h
    · omega
    · have := le_mx h; omega
theorem mx_cov {xs : List Nat} {L : Nat} (h : Cov xs L) : mx xs = L := by
  have h1 := mx_le h.1
  cases L with
  | zero => omega
  | succ L =>
    have := le_mx (h.2 L (Nat.lt_succ_self L))
    omega
theorem Cov.perm {xs ys : List Nat} {L : Nat} (h : Cov xs L) (p : ∀ x, x ∈ xs ↔ x ∈ ys) : Cov ys L := ⟨fun x hx => h.1 x ((p x).mpr hx), fun q hq => (p q).mp (h.2 q hq)⟩
theorem Cov.old {xs : List Nat} {L m : Nat} (h : Cov xs L) (hm : m < L) : Cov (m :: xs) L := ⟨fun x hx => by
  rcases List.mem_cons.mp hx with rfl | hx
  · exact hm
  · exact h.1 x hx, fun q hq => List.mem_cons_of_mem _ (h.2 q hq)⟩
theorem Cov.ins {xs : List Nat} {L m : Nat} (h : Cov xs L) (hm : m ≤ L) : Cov (m :: xs.map (up m)) (L + 1) := by
  refine ⟨fun x hx => ?_, fun q hq => ?_⟩
  · rcases List.mem_cons.mp hx with rfl | hx
    · omega
    · obtain ⟨y, hy, rfl⟩ := List.mem_map.mp hx
      have := h.1 y hy
      unfold up
      split <;> omega
  · by_cases e : q = m
    · subst e; simp
    · refine List.mem_cons_of_mem _ (List.mem_map.mpr ?_)
      by_cases hl : q < m
      · exact ⟨q, h.2 q (by omega), by unfold up; rw [if_neg (by omega)]⟩
      · exact ⟨q - 1, h.2 (q - 1) (by omega), by unfold up; rw [if_pos (by omega)]; omega⟩
theorem flat_opened (ps : List (Nat × Nat)) (m : Nat) : flat (opened ps m) = (flat ps).map (up m) := by
  unfold flat opened
  induction ps with
  | nil => rfl
  | cons p r ih => simp only [List.map_cons, List.flatMap_cons, List.map_append, ih]; rfl
theorem flat_snoc (ps : List (Nat × Nat)) (b e : Nat) : flat (ps ++ [(b, e)]) = flat ps ++ [b, e] := by simp [flat]
theorem up_lt {m a b : Nat} (h : a < b) : up m a < up m b := by unfold up; split <;> split <;> omega
theorem up_ne {m a b : Nat} (h : a ≠ b) : up m a ≠ up m b := by unfold up; split <;> split <;> omega
theorem up_self (m b : Nat) : m ≠ up m b := by unfold up; split <;> omega
/-! ### rows -/
structure RowI (ps : List (Nat × Nat)) : Prop where
  cov : ∃ L, Cov (flat ps) L ∧ L ≤ 2 * ps.length
  lt : ∀ p ∈ ps, p.1 < p.2
theorem lt_opened {ps : List (Nat × Nat)} {m : Nat} (h : ∀ p ∈ ps, p.1 < p.2) : ∀ p ∈ opened ps m, p.1 < p.2 := fun p hp => by
  obtain ⟨q, hq, rfl⟩ := List.mem_map.mp hp
  exact up_lt (h q hq)
theorem rowP_lt {ps : List (Nat × Nat)} {n : Nat} (h : ∀ p ∈ ps, p.1 < p.2) : ∀ p ∈ (rowP ps n).1, p.1 < p.2 := by
  unfold rowP
  split
  · exact h
  · exact lt_opened h
theorem rowP_cov {ps : List (Nat × Nat)} {n L : Nat} (h : Cov (flat ps) L) (hn : n ≤ 2 * L) : ∃ L', L' ≤ L + 1 ∧ Cov ((rowP ps n).2 :: flat (rowP ps n).1) L' := by
  unfold rowP
  split
  · exact ⟨L, by omega, h.old (by omega)⟩
  · refine ⟨L + 1, by omega, ?_⟩
    show Cov (n / 2 :: flat (opened ps (n / 2))) (L + 1)
    rw [flat_opened]
    exact h.ins (by omega)
/-- behind the first put, b being the begin's place -/
theorem rowP_cov2 {ps : List (Nat × Nat)} {n L b : Nat} (h : Cov (b :: flat ps) L) (hn : n ≤ 2 * L) (hb : 2 * b + 2 ≤ n) : ∃ L', L' ≤ L + 1 ∧ Cov ((rowP ps n).2 :: b :: flat (rowP ps n).1) L' ∧ b < (rowP ps n).2 := by
  unfold rowP
  split
  · exact ⟨L, by omega, h.old (by omega), by show b < n / 2; omega⟩
  · refine ⟨L + 1, by omega, ?_, by show b < n / 2; omega⟩
    show Cov (n / 2 :: b :: flat (opened ps (n / 2))) (L + 1)
    have e := h.ins (m := n / 2) (by omega)
    rw [List.map_cons, ← flat_opened] at e
    have eb : up (n / 2) b = b := by unfold up; rw [if_neg (by omega)]
    rw [eb] at e
    exact e
theorem row_step {ns : List Int} {a : Nat} {ps : List (Nat × Nat)} (h : RowI ps) (hl : ps.length ≤ 1000) : RowOk ns a ps ∧ RowI (rowStep ns a ps) := by
  obtain ⟨⟨L, hc, hL⟩, hlt⟩ := h
  have e0 := mx_cov hc
  have hn := nx_lt ns a (2 * mx (flat ps) + 1) (by omega)
  obtain ⟨L1, h1, c1⟩ := rowP_cov (n := nx ns a (2 * mx (flat ps) + 1)) hc (by omega)
  have lt1 := rowP_lt (n := nx ns a (2 * mx (flat ps) + 1)) hlt
  have len1 := len_rowP ps (nx ns a (2 * mx (flat ps) + 1))
  have eB : rowP ps (nx ns a (2 * mx (flat ps) + 1)) = rowB ns a ps := rfl
  rw [eB] at c1 lt1 len1
  have sz := mx_cov c1
  have sz' : max ((rowB ns a ps).2 + 1) (mx (flat (rowB ns a ps).1)) = L1 := sz
  have hb := c1.1 (rowB ns a ps).2 (by simp)
  refine ⟨⟨hl, by omega, by omega, by omega⟩, ?_⟩
  have em : max (mx (flat (rowB ns a ps).1)) ((rowB ns a ps).2 + 1) = L1 := by omega
  have hn2 := nx_lt ns (a + 1) (2 * (L1 - (rowB ns a ps).2) - 1) (by omega)
  have eE : rowE ns a (rowB ns a ps) = rowP (rowB ns a ps).1 (2 * (rowB ns a ps).2 + 2 + nx ns (a + 1) (2 * (L1 - (rowB ns a ps).2) - 1)) := by
    unfold rowE
    rw [em]
  obtain ⟨L2, h2, c2, hbe⟩ := rowP_cov2 (n := 2 * (rowB ns a ps).2 + 2 + nx ns (a + 1) (2 * (L1 - (rowB ns a ps).2) - 1)) c1 (by omega) (by omega)
  have lt2 := rowP_lt (n := 2 * (rowB ns a ps).2 + 2 + nx ns (a + 1) (2 * (L1 - (rowB ns a ps).2) - 1)) lt1
  have len2 := len_rowP (rowB ns a ps).1 (2 * (rowB ns a ps).2 + 2 + nx ns (a + 1) (2 * (L1 - (rowB ns a ps).2) - 1))
  rw [← eE] at c2 hbe lt2 len2
  refine ⟨⟨L2, ?_, ?_⟩, ?_⟩
  · unfold rowStep
    rw [flat_snoc]
    exact c2.perm fun x => by simp only [List.mem_cons, List.mem_append, List.not_mem_nil, or_false]; constructor <;> intro z <;> rcases z with z | z | z <;> simp [z]
  · rw [len_rowStep]; omega
  · unfold rowStep
    intro p hp
    rcases List.mem_append.mp hp with hp | hp
    · exact lt2 p hp
    · simp only [List.mem_cons, List.not_mem_nil, or_false] at hp
      subst hp
      exact hbe
theorem row_all (ns : List Int) : ∀ (m a : Nat) (ps : List (Nat × Nat)), RowI ps → ps.length + m ≤ 1000 → RowAll ns m a ps ∧ RowI (rowLoop ns m a ps) ∧ (rowLoop ns m a ps).length = ps.length + m
  | 0, a, ps, h, _ => ⟨trivial, h, rfl⟩
  | m + 1, a, ps, h, hl => by
    obtain ⟨ok, h'⟩ := row_step (ns := ns) (a := a) h (by omega)
    have e := len_rowStep ns a ps
    obtain ⟨h1, h2, h3⟩ := row_all ns m (a + 2) (rowStep ns a ps) h' (by omega)
    exact ⟨⟨ok, h1⟩, h2, by show (rowLoop ns m (a + 2) (rowStep ns a ps)).length = _; rw [h3]; omega⟩
theorem row_nil : RowI [] := ⟨⟨0, ⟨fun x hx => by simp [flat] at hx, fun q hq => by omega⟩, Nat.le_refl _⟩, fun p hp => nomatch hp⟩
/-! ### rings -/
structure RndI (ps : List (Nat × Nat)) : Prop where
  cov : ∃ L, Cov (flat ps) L ∧ 0 < L ∧ L ≤ 2 * ps.length
  ne : ∀ p ∈ ps, p.1 ≠ p.2
  z : ∃ q r, ps = (0, q) :: r
theorem rndP_ne {ps : List (Nat × Nat)} {n : Nat} (h : ∀ p ∈ ps, p.1 ≠ p.2) : ∀ p ∈ (rndP ps n).1, p.1 ≠ p.2 := by
  unfold rndP
  split
  · intro p hp
    obtain ⟨q, hq, rfl⟩ := List.mem_map.mp hp
    exact up_ne (h q hq)
  · exact h
theorem rndP_z {ps : List (Nat × Nat)} {n : Nat} (h : ∃ q r, ps = (0, q) :: r) : ∃ q r, (rndP ps n).1 = (0, q) :: r := by
  obtain ⟨q, r, rfl⟩ := h
  unfold rndP
  split
  · refine ⟨up (n / 2 + 1) q, opened r (n / 2 + 1), ?_⟩
    show (up (n / 2 + 1) 0, _) :: _ = _
    have e : up (n / 2 + 1) 0 = 0 := by unfold up; rw [if_neg (by omega)]
    rw [e]
    rfl
  · exact ⟨q, r, rfl⟩
theorem rndP_cov {ps : List (Nat × Nat)} {n L : Nat} (h : Cov (flat ps) L) (hn : n < 2 * L) : ∃ L', L' ≤ L + 1 ∧ Cov ((rndP ps n).2 :: flat (rndP ps n).1) L' := by
  unfold rndP
  split
  · refine ⟨L + 1, by omega, ?_⟩
    show Cov ((n / 2 + 1) :: flat (opened ps (n / 2 + 1))) (L + 1)
    rw [flat_opened]
    exact h.ins (by omega)
  · exact ⟨L, by omega, h.old (by omega)⟩
theorem rndP_cov2 {ps : List (Nat × Nat)} {n L b b' : Nat} (h : Cov (b :: flat ps) L) (hn : n < 2 * L) (hb : n ≠ 2 * b) (e' : b' = if n % 2 = 1 ∧ (rndP ps n).2 ≤ b then b + 1 else b) : ∃ L', L' ≤ L + 1 ∧ Cov ((rndP ps n).2 :: b' :: flat (rndP ps n).1) L' ∧ b' ≠ (rndP ps n).2 := by
  unfold rndP at *
  by_cases ho : n % 2 = 1
  · rw [if_pos ho] at *
    have eb : b' = up (n / 2 + 1) b := by
      rw [e']
      unfold up
      by_cases hq : n / 2 + 1 ≤ b
      · rw [if_pos ⟨ho, hq⟩, if_pos hq]
      · rw [if_neg (fun z => hq z.2), if_neg hq]
    refine ⟨L + 1, by omega, ?_, ?_⟩
    · show Cov ((n / 2 + 1) :: b' :: flat (opened ps (n / 2 + 1))) (L + 1)
      have e := h.ins (m := n / 2 + 1) (by omega)
      rw [List.map_cons, ← flat_opened, ← eb] at e
      exact e
    · rw [eb]
      exact Ne.symm (up_self _ _)
  · rw [if_neg ho] at *
    rw [if_neg (fun z => ho z.1)] at e'
    subst e'
    exact ⟨L, by omega, h.old (by omega), by show b' ≠ n / 2; omega⟩
theorem place_mem {ns : List Int} {a b sz : Nat} (h : b < sz) : (rndPl b sz).getD (nx ns a (rndPl b sz).length) 0 < 2 * sz ∧ (rndPl b sz).getD (nx ns a (rndPl b sz).length) 0 ≠ 2 * b := by
  have hl := nx_lt ns a (rndPl b sz).length (len_pl b sz h).1
  have hm : (rndPl b sz).getD (nx ns a (rndPl b sz).length) 0 ∈ rndPl b sz := by
    rw [List.getD_eq_getElem?_getD, List.getElem?_eq_getElem hl]
    exact List.getElem_mem hl
  generalize (rndPl b sz).getD (nx ns a (rndPl b sz).length) 0 = p at *
  unfold rndPl at hm
  rw [List.mem_filter, List.mem_range] at hm
  exact ⟨hm.1, by simpa using hm.2⟩
theorem len_rndStep (ns : List Int) (a : Nat) (ps : List (Nat × Nat)) : (rndStep ns a ps).length = ps.length + 1 := by
  unfold rndStep rndE rndB
  rw [List.length_append, len_rndP, len_rndP]
  rfl
theorem rnd_step {ns : List Int} {a : Nat} {ps : List (Nat × Nat)} (h : RndI ps) (hl : ps.length ≤ 1000) : RndOk ns a ps ∧ RndI (rndStep ns a ps) := by
  obtain ⟨⟨L, hc, h0, hL⟩, hne, hz⟩ := h
  have e0 := mx_cov hc
  have hn := nx_lt ns a (2 * mx (flat ps)) (by omega)
  obtain ⟨L1, h1, c1⟩ := rndP_cov (n := nx ns a (2 * mx (flat ps))) hc (by omega)
  have ne1 := rndP_ne (n := nx ns a (2 * mx (flat ps))) hne
  have z1 := rndP_z (n := nx ns a (2 * mx (flat ps))) hz
  have len1 := len_rndP ps (nx ns a (2 * mx (flat ps)))
  have eB : rndP ps (nx ns a (2 * mx (flat ps))) = rndB ns a ps := rfl
  rw [eB] at c1 ne1 z1 len1
  have sz' : max ((rndB ns a ps).2 + 1) (mx (flat (rndB ns a ps).1)) = L1 := mx_cov c1
  have hb := c1.1 (rndB ns a ps).2 (by simp)
  refine ⟨⟨hl, by omega, by omega, by omega, by omega⟩, ?_⟩
  have em : max (mx (flat (rndB ns a ps).1)) ((rndB ns a ps).2 + 1) = L1 := by omega
  have ep : rndPlace ns a (rndB ns a ps) = (rndPl (rndB ns a ps).2 L1).getD (nx ns (a + 1) (rndPl (rndB ns a ps).2 L1).length) 0 := by
    unfold rndPlace
    rw [em]
  obtain ⟨q1, q2⟩ := place_mem (ns := ns) (a := a + 1) hb
  rw [← ep] at q1 q2
  obtain ⟨L2, h2, c2, hbe⟩ := rndP_cov2 (b' := rndBeg ns a (rndB ns a ps)) c1 q1 q2 rfl
  have ne2 := rndP_ne (n := rndPlace ns a (rndB ns a ps)) ne1
  have z2 := rndP_z (n := rndPlace ns a (rndB ns a ps)) z1
  have len2 := len_rndP (rndB ns a ps).1 (rndPlace ns a (rndB ns a ps))
  have eE : rndP (rndB ns a ps).1 (rndPlace ns a (rndB ns a ps)) = rndE ns a (rndB ns a ps) := rfl
  rw [eE] at c2 hbe ne2 z2 len2
  refine ⟨⟨L2, ?_, ?_, ?_⟩, ?_, ?_⟩
  · unfold rndStep
    rw [flat_snoc]
    exact c2.perm fun x => by simp only [List.mem_cons, List.mem_append, List.not_mem_nil, or_false]; constructor <;> intro z <;> rcases z with z | z | z <;> simp [z]
  · have := c2.1 _ (List.mem_cons_self ..)
    omega
  · rw [len_rndStep]; omega
  · unfold rndStep
    intro p hp
    rcases List.mem_append.mp hp with hp | hp
    · exact ne2 p hp
    · simp only [List.mem_cons, List.not_mem_nil, or_false] at hp
      subst hp
      exact hbe
  · obtain ⟨q, r, e⟩ := z2
    unfold rndStep
    rw [e]
    exact ⟨q, _, rfl⟩
theorem rnd_all (ns : List Int) : ∀ (m a : Nat) (ps : List (Nat × Nat)), RndI ps → ps.length + m ≤ 1000 → RndAll ns m a ps ∧ RndI (rndLoop ns m a ps) ∧ (rndLoop ns m a ps).length = ps.length + m
  | 0, a, ps, h, _ => ⟨trivial, h, rfl⟩
  | m + 1, a, ps, h, hl => by
    obtain ⟨ok, h'⟩ := rnd_step (ns := ns) (a := a) h (by omega)
    have e := len_rndStep ns a ps
    obtain ⟨h1, h2, h3⟩ := rnd_all ns m (a + 2) (rndStep ns a ps) h' (by omega)
    exact ⟨⟨ok, h1⟩, h2, by show (rndLoop ns m (a + 2) (rndStep ns a ps)).length = _; rw [h3]; omega⟩
theorem rnd_nil : RndI [(0, 1)] := ⟨⟨2, ⟨fun x hx => by simp [flat] at hx; omega, fun q hq => by simp [flat]; omega⟩, by omega, by simp⟩, fun p hp => by simp at hp; subst hp; decide, 1, [], rfl⟩
end K76

namespace K76
open PySem PySem.Spec L2 Ev
@[simp] theorem is_ii (i : Int) : isI "int" (.int i) = some (.bool true) := rfl
@[simp] theorem is_bi (i : Int) : isI "bool" (.int i) = some (.bool false) := rfl
@[simp] theorem is_si (i : Int) : isI "str" (.int i) = some (.bool false) := rfl
@[simp] theorem is_li (i : Int) : isI "list" (.int i) = some (.bool false) := rfl
@[simp] theorem is_ti (i : Int) : isI "tuple" (.int i) = some (.bool false) := rfl
@[simp] theorem is_it (d : List PyData) : isI "int" (.tuple d) = some (.bool false) := rfl
@[simp] theorem is_bt (d : List PyData) : isI "bool" (.tuple d) = some (.bool false) := rfl
@[simp] theorem is_st (d : List PyData) : isI "str" (.tuple d) = some (.bool false) := rfl
@[simp] theorem is_lt (d : List PyData) : isI "list" (.tuple d) = some (.bool false) := rfl
@[simp] theorem is_tt (d : List PyData) : isI "tuple" (.tuple d) = some (.bool true) := rfl
@[simp] theorem is_il (d : List PyData) : isI "int" (.list d) = some (.bool false) := rfl
@[simp] theorem is_bl (d : List PyData) : isI "bool" (.list d) = some (.bool false) := rfl
@[simp] theorem is_sl (d : List PyData) : isI "str" (.list d) = some (.bool false) := rfl
@[simp] theorem is_ll (d : List PyData) : isI "list" (.list d) = some (.bool true) := rfl
@[simp] theorem is_tl (d : List PyData) : isI "tuple" (.list d) = some (.bool false) := rfl
theorem e10 (k : Nat) (S : Store) (i : Int) : cd (k + 1) 10 [.d (.int i)] S = .ok (.d (.bool true)) S := by
  rw [v10 k _ S rfl]
  unfold b10
  simp -implicitDefEqProofs [-Int.natCast_ediv, -Int.natCast_add, -Int.natCast_emod, -Int.natCast_mul]
theorem e11 (k : Nat) (S : Store) (i j : Int) : cd (k + 2) 11 [.d (.tuple [.int i, .int j])] S = .ok (.d (.bool true)) S := by
  have h := e10 k
  rw [v11 (k + 1) _ S rfl]
  generalize cd (k + 1) = F at *
  generalize cm (k + 1) = Fm at *
  unfold b11
  have a0 : atI [PyData.int i, .int j] 0 = some (.int i) := rfl
  have a1 : atI [PyData.int i, .int j] 1 = some (.int j) := rfl
  simp -implicitDefEqProofs [-Int.natCast_ediv, -Int.natCast_add, -Int.natCast_emod, -Int.natCast_mul, a0, a1, h]
/-! the moments, as a dict's keys -/
def kv (xs : List Nat) : List (PyData × A) := xs.map fun x : Nat => (.int x, .d (.bool true))
def adds (xs : List Nat) (x : Nat) : List Nat := if x ∈ xs then xs else xs ++ [x]
theorem get_kv (x : Nat) : ∀ xs : List Nat, (dGet (kv xs) (.int x)).isSome = decide (x ∈ xs)
  | [] => rfl
  | y :: xs => by
    have ih := get_kv x xs
    unfold dGet kv at *
    rw [List.map_cons, List.find?_cons]
    by_cases h : y = x
    · subst h
      rw [decide_eq_true rfl, decide_eq_true (List.mem_cons_self ..)]; rfl
    · have e : decide (keyOf (PyData.int y) = keyOf (PyData.int x)) = false := decide_eq_false fun z => h (by
        have z : (some (NestedKey.num (y : Int))) = some (.num (x : Int)) := z
        simp only [Option.some.injEq, NestedKey.num.injEq] at z
        omega)
      rw [e]
      simp only [List.mem_cons, Ne.symm h, false_or]
      exact ih
theorem put_kv (xs : List Nat) (x : Nat) : dPut (kv xs) (.int x) (.d (.bool true)) = kv (adds xs x) := by
  unfold dPut adds
  rw [get_kv]
  by_cases h : x ∈ xs
  · rw [if_pos h, if_pos (decide_eq_true h)]
    unfold kv
    rw [List.map_map]
    refine List.map_congr_left fun y _ => ?_
    show (if _ then (PyData.int y, A.d (.bool true)) else (PyData.int y, A.d (.bool true))) = _
    rw [ite_self]
  · rw [if_neg h, if_neg (by simp [h])]
    simp [kv]
theorem adds_nd {xs : List Nat} {x : Nat} (h : xs.Nodup) : (adds xs x).Nodup := by
  unfold adds
  split
  · exact h
  · rename_i hx
    exact List.nodup_append.mpr ⟨h, by simp, fun a ha b hb => by simp at hb; subst hb; exact fun z => hx (z ▸ ha)⟩
theorem mem_adds {xs : List Nat} {x y : Nat} : y ∈ adds xs x ↔ y ∈ xs ∨ y = x := by
  unfold adds
  split
  · rename_i hx
    exact ⟨.inl, fun z => z.elim id fun z => z ▸ hx⟩
  · simp
theorem fold_adds (ys : List Nat) : ∀ xs : List Nat, xs.Nodup → (ys.foldl adds xs).Nodup ∧ ∀ y, y ∈ ys.foldl adds xs ↔ y ∈ xs ∨ y ∈ ys := by
  induction ys with
  | nil => intro xs h; exact ⟨h, fun y => by simp⟩
  | cons z ys ih =>
    intro xs h
    obtain ⟨h1, h2⟩ := ih (adds xs z) (adds_nd h)
    refine ⟨h1, fun y => ?_⟩
    rw [List.foldl_cons, h2, mem_adds, List.mem_cons]
    exact ⟨fun z => by rcases z with (z | z) | z <;> simp [z], fun z => by rcases z with z | z | z <;> simp [z]⟩
theorem len_adds (xs : List Nat) (x : Nat) : (adds xs x).length ≤ xs.length + 1 := by
  unfold adds
  split <;> simp
theorem inner_kv (xs : List Nat) (hz : xs.length < 100000) (a b : Nat) (l : Ev.Loc) (S : Store) (hl : l.length = 5) (h3 : l[3]? = some (some (.d (.tuple [.int a, .int b])))) : innerK (dItems (dName 3)) [4] (gN 4) dTrue (putD (dName 4) (dVal (.bool true))) (kv xs) l S = .ok (kv (adds (adds xs a) b)) S := by
  obtain ⟨x0, x1, x2, x3, x4, rfl⟩ : ∃ x0 x1 x2 x3 x4, l = [x0, x1, x2, x3, x4] := by
    match l, hl with
    | [x0, x1, x2, x3, x4], _ => exact ⟨_, _, _, _, _, rfl⟩
  have e3 : x3 = some (.d (.tuple [.int a, .int b])) := by simpa using h3
  subst e3
  have hi : dItems (dName 3) [x0, x1, x2, some (.d (.tuple [.int a, .int b])), x4] S = .ok [.int a, .int b] S := by simp -implicitDefEqProofs [-Int.natCast_ediv, -Int.natCast_add, -Int.natCast_emod, -Int.natCast_mul]
  unfold innerK
  rw [hi]
  have step : ∀ (ys : List Nat) (c : Nat), ys.length < 100001 → putD (dName 4) (dVal (.bool true)) (kv ys) [x0, x1, x2, some (.d (.tuple [.int a, .int b])), some (.d (.int c))] S = .ok (kv (adds ys c)) S := fun ys c hy => by
    unfold putD
    have e1 : dName 4 [x0, x1, x2, some (.d (.tuple [.int a, .int b])), some (.d (.int c))] S = .ok (.d (.int c)) S := by simp -implicitDefEqProofs [-Int.natCast_ediv, -Int.natCast_add, -Int.natCast_emod, -Int.natCast_mul]
    rw [e1]
    have e2 : dVal (.bool true) [x0, x1, x2, some (.d (.tuple [.int a, .int b])), some (.d (.int c))] S = .ok (.d (.bool true)) S := rfl
    simp only [e2]
    rw [if_pos ⟨rfl, by unfold kv; rw [List.length_map]; omega⟩, put_kv]
  have la := len_adds xs a
  show compF (gN 4) dTrue (putD (dName 4) (dVal (.bool true))) [x0, x1, x2, some (.d (.tuple [.int a, .int b])), none] [.int a, .int b] (kv xs) S = _
  unfold compF
  have g1 : gN 4 (.d (.int a)) [x0, x1, x2, some (.d (.tuple [.int a, .int b])), none] = some [x0, x1, x2, some (.d (.tuple [.int a, .int b])), some (.d (.int a))] := rfl
  have g2 : gN 4 (.d (.int b)) [x0, x1, x2, some (.d (.tuple [.int a, .int b])), none] = some [x0, x1, x2, some (.d (.tuple [.int a, .int b])), some (.d (.int b))] := rfl
  simp only [g1, ev_true, step xs a (by omega)]
  unfold compF
  simp only [g2, ev_true, step (adds xs a) b (by omega)]
  rfl
theorem outer_kv (x0 x1 x2 : Option A) (S : Store) : ∀ (ps : List (Nat × Nat)) (xs : List Nat), xs.length + 2 * ps.length < 100000 → compF (gN 3) dTrue (innerK (dItems (dName 3)) [4] (gN 4) dTrue (putD (dName 4) (dVal (.bool true)))) [x0, x1, x2, none, none] (pD ps) (kv xs) S = .ok (kv ((flat ps).foldl adds xs)) S
  | [], xs, _ => rfl
  | p :: r, xs, h => by
    have la := len_adds xs p.1
    have lb := len_adds (adds xs p.1) p.2
    rw [List.length_cons] at h
    show compF _ _ _ _ (.tuple [.int p.1, .int p.2] :: pD r) _ _ = _
    unfold compF
    have g1 : gN 3 (.d (.tuple [.int p.1, .int p.2])) [x0, x1, x2, none, none] = some [x0, x1, x2, some (.d (.tuple [.int p.1, .int p.2])), none] := rfl
    simp only [g1, ev_true, inner_kv xs (by omega) p.1 p.2 [x0, x1, x2, some (.d (.tuple [.int p.1, .int p.2])), none] S rfl rfl]
    exact outer_kv x0 x1 x2 S r _ (by omega)
theorem keys_kv : ∀ xs : List Nat, keysI (kv xs) = some (xs.map fun x : Nat => (x : Int))
  | [] => rfl
  | x :: xs => by
    show (keysI (kv xs)).map _ = _
    rw [keys_kv xs]
    rfl
theorem sort_cov {xs : List Nat} {L : Nat} (h : xs.Nodup) (hm : ∀ y, y ∈ xs ↔ y < L) : xs.length = L ∧ sortN (xs.map fun x : Nat => (x : Int)) = (List.range L).map fun x : Nat => (x : Int) := by
  have p : (List.range L).Perm xs := (List.perm_ext_iff_of_nodup List.nodup_range h).mpr fun y => by rw [List.mem_range, hm]
  refine ⟨by rw [← p.length_eq, List.length_range], (sortN_eq (p.map _) ?_).symm⟩
  rw [List.pairwise_map]
  exact (List.pairwise_lt_range).imp fun h => by omega
theorem lay_nI : ∀ xs : List Nat, PyData.canLayAll0 (nI xs) = true
  | [] => rfl
  | x :: xs => by
    show (PyData.canLay0 (.int x) && PyData.canLayAll0 (nI xs)) = true
    rw [lay_nI xs]
    rfl
theorem dep_nI : ∀ xs : List Nat, PyData.depthAll (nI xs) = 0
  | [] => rfl
  | x :: xs => by
    show max (PyData.depth (.int x)) (PyData.depthAll (nI xs)) = 0
    rw [dep_nI xs]
    rfl
theorem nod_nI : ∀ xs : List Nat, nodicts (nI xs) = true
  | [] => rfl
  | x :: xs => by
    show (nodict (.int x) && nodicts (nI xs)) = true
    rw [nod_nI xs]
    rfl
theorem eqv_nI : ∀ xs : List Nat, PyData.eqvAll (nI xs) (nI xs) = true
  | [] => rfl
  | x :: xs => by
    show (PyData.eqv (.int x) (.int x) && PyData.eqvAll (nI xs) (nI xs)) = true
    rw [eqv_nI xs]
    simp [PyData.eqv]
theorem eq_nI (xs : List Nat) : eqD (.list (nI xs)) (.list (nI xs)) = some true := by
  have ok : eqOk (.list (nI xs)) = true := by
    unfold eqOk SeqAt.shaped
    rw [Bool.and_eq_true, Bool.and_eq_true]
    refine ⟨⟨?_, ?_⟩, nod_nI xs⟩
    · show PyData.canLayAll0 (nI xs) = true
      exact lay_nI xs
    · show decide (PyData.depthAll (nI xs) + 1 ≤ 64) = true
      rw [dep_nI xs]
      rfl
  show (if eqOk (.list (nI xs)) && eqOk (.list (nI xs)) then some (PyData.eqv _ _) else none) = _
  rw [ok]
  show some (PyData.eqvAll (nI xs) (nI xs)) = _
  rw [eqv_nI]
theorem e12 (k : Nat) (S : Store) (ps : List (Nat × Nat)) (L : Nat) (hc : ps.length ≤ 1000) (h1 : 1 ≤ ps.length) (cov : Cov (flat ps) L) (hL : L < 64) : ∃ S', cd (k + 3) 12 [.d (.int ps.length), .d (.tuple (pD ps))] S = .ok (.d (.bool true)) S' ∧ More S S' := by
  have h11 := e11 k
  rw [v12 (k + 2) _ S rfl]
  generalize cd (k + 2) = F at *
  generalize cm (k + 2) = Fm at *
  obtain ⟨nd, mem⟩ := fold_adds (flat ps) [] List.nodup_nil
  have mem' : ∀ y, y ∈ (flat ps).foldl adds [] ↔ y < L := fun y => by rw [mem]; exact ⟨fun z => z.elim (fun z => nomatch z) (cov.1 y), fun z => .inr (cov.2 y z)⟩
  have oc := outer_kv (some (.d (.int ps.length))) (some (.d (.tuple (pD ps)))) none S ps [] (by simp; omega)
  generalize (flat ps).foldl adds [] = ks at *
  obtain ⟨l1, l2⟩ := sort_cov nd mem'
  refine ⟨S ++ [.dic (kv ks)], ?_, More.app S _⟩
  have hlc : dLc (dItems (dName 1)) [3] (gN 3) (dNotT (toB (dCall F 11 (dCons (dName 3) dNil)))) (dName 3) [some (.d (.int ps.length)), some (.d (.tuple (pD ps))), none, none, none] S = .ok (.d (.list [])) S := by
    have e : (pD ps).filterMap (fun _ => (none : Option PyData)) = [] := by simp
    rw [← e]
    refine ev_lc _ (by simp -implicitDefEqProofs [-Int.natCast_ediv, -Int.natCast_add, -Int.natCast_emod, -Int.natCast_mul]) (by rw [len_pD]; omega) fun x hx => ?_
    unfold pD at hx
    rw [List.mem_map] at hx
    obtain ⟨p, _, rfl⟩ := hx
    refine ⟨_, rfl, .inr ⟨?_, rfl⟩⟩
    simp -implicitDefEqProofs [-Int.natCast_ediv, -Int.natCast_add, -Int.natCast_emod, -Int.natCast_mul, h11]
  have hdc : dDc2 (dItems (dName 1)) [3, 4] (gN 3) dTrue (dItems (dName 3)) [4] (gN 4) dTrue (dName 4) (dVal (.bool true)) [some (.d (.int ps.length)), some (.d (.tuple (pD ps))), none, none, none] S = .ok (.loc S.length) (S ++ [.dic (kv ks)]) := by
    have hi : dItems (dName 1) [some (.d (.int ps.length)), some (.d (.tuple (pD ps))), none, none, none] S = .ok (pD ps) S := by simp -implicitDefEqProofs [-Int.natCast_ediv, -Int.natCast_add, -Int.natCast_emod, -Int.natCast_mul]
    unfold dDc2
    rw [hi, Res.ok_bind]
    show (compF _ _ _ [some (.d (.int ps.length)), some (.d (.tuple (pD ps))), none, none, none] _ [] _).bind _ = _
    have ek : (kv [] : List (PyData × A)) = [] := rfl
    rw [ek] at oc
    rw [oc]
    rfl
  have hso : sortA [.loc S.length] (S ++ [.dic (kv ks)]) = some (.d (.list (nI (List.range L)))) := by
    show (match (S ++ [Cell.dic (kv ks)])[S.length]? with | some (.dic kvs) => _ | _ => none) = _
    have g : (S ++ [Cell.dic (kv ks)])[S.length]? = some (.dic (kv ks)) := by simp
    rw [g]
    show (match keysI (kv ks) with | some ns => _ | none => none) = _
    rw [keys_kv]
    show (if (ks.map fun x : Nat => (x : Int)).length < 64 then _ else none) = _
    rw [if_pos (by rw [List.length_map, l1]; exact hL), l2, List.map_map]
    rfl
  have hrg : rgD1 (.int (L : Int)) = some (.list (nI (List.range L))) := by
    show (if rgOk 0 L = true then _ else none) = _
    rw [if_pos (by simp [rgOk]; omega), rg_nI]
  have c1 : ¬ ((ps.length : Int) < 1) := by omega
  have ln : (nI (List.range L)).length = L := by rw [len_nI, List.length_range]
  unfold b12
  simp -implicitDefEqProofs [-Int.natCast_ediv, -Int.natCast_add, -Int.natCast_emod, -Int.natCast_mul, len_pD, c1, hlc, hdc, hso, ln, hrg, eq_nI]
end K76

namespace K76
open PySem PySem.Spec L2 Ev
theorem a0 (d e : PyData) : atI [d, e] 0 = some d := rfl
theorem a1 (d e : PyData) : atI [d, e] 1 = some e := rfl
theorem none_left (f : PyData → Option PyData) : ∀ ds : List PyData, (∀ x ∈ ds, f x = none) → ds.filterMap f = []
  | [], _ => rfl
  | d :: ds, h => by
    rw [List.filterMap_cons, h d (by simp)]
    exact none_left f ds fun x hx => h x (List.mem_cons_of_mem d hx)
theorem e13 (k : Nat) (S : Store) (ps : List (Nat × Nat)) (L : Nat) (hc : ps.length ≤ 1000) (h1 : 1 ≤ ps.length) (cov : Cov (flat ps) L) (hL : L < 64) (lt : ∀ p ∈ ps, p.1 < p.2) : ∃ S', cd (k + 4) 13 [.d (.int ps.length), .d (.tuple (pD ps))] S = .ok (.d (.bool true)) S' ∧ More S S' := by
  obtain ⟨S', e, m⟩ := e12 k S ps L hc h1 cov hL
  refine ⟨S', ?_, m⟩
  rw [v13 (k + 3) _ S rfl]
  generalize cd (k + 3) = F at *
  generalize cm (k + 3) = Fm at *
  have hlc : dLc (dItems (dName 1)) [2] (gN 2) (toB (dOp2 (pu2 (boolD geD)) (dOp2 ixU (dName 2) (dVal (.int 0))) (dOp2 ixU (dName 2) (dVal (.int 1))))) (dName 2) [some (.d (.int ps.length)), some (.d (.tuple (pD ps))), none] S' = .ok (.d (.list [])) S' := by
    have e : (pD ps).filterMap (fun _ => (none : Option PyData)) = [] := none_left _ _ fun _ _ => rfl
    rw [← e]
    refine ev_lc _ (by simp -implicitDefEqProofs [-Int.natCast_ediv, -Int.natCast_add, -Int.natCast_emod, -Int.natCast_mul]) (by rw [len_pD]; omega) fun x hx => ?_
    unfold pD at hx
    rw [List.mem_map] at hx
    obtain ⟨p, hp, rfl⟩ := hx
    refine ⟨_, rfl, .inr ⟨?_, rfl⟩⟩
    have hq : ¬ ((p.2 : Int) ≤ (p.1 : Int)) := by have := lt p hp; omega
    simp -implicitDefEqProofs [-Int.natCast_ediv, -Int.natCast_add, -Int.natCast_emod, -Int.natCast_mul, a0, a1, hq]
  unfold b13
  simp -implicitDefEqProofs [-Int.natCast_ediv, -Int.natCast_add, -Int.natCast_emod, -Int.natCast_mul, e, hlc]
theorem e14 (k : Nat) (S : Store) (ps : List (Nat × Nat)) (L : Nat) (hc : ps.length ≤ 1000) (h1 : 1 ≤ ps.length) (cov : Cov (flat ps) L) (hL : L < 64) (ne : ∀ p ∈ ps, p.1 ≠ p.2) (z : ∃ q r, ps = (0, q) :: r) : ∃ S', cd (k + 4) 14 [.d (.int ps.length), .d (.tuple (pD ps))] S = .ok (.d (.bool true)) S' ∧ More S S' := by
  obtain ⟨S', e, m⟩ := e12 k S ps L hc h1 cov hL
  refine ⟨S', ?_, m⟩
  rw [v14 (k + 3) _ S rfl]
  generalize cd (k + 3) = F at *
  generalize cm (k + 3) = Fm at *
  have hlc : dLc (dItems (dName 1)) [2] (gN 2) (toB (dOp2 (pu2 (boolD eqD)) (dOp2 ixU (dName 2) (dVal (.int 0))) (dOp2 ixU (dName 2) (dVal (.int 1))))) (dName 2) [some (.d (.int ps.length)), some (.d (.tuple (pD ps))), none] S' = .ok (.d (.list [])) S' := by
    have e : (pD ps).filterMap (fun _ => (none : Option PyData)) = [] := none_left _ _ fun _ _ => rfl
    rw [← e]
    refine ev_lc _ (by simp -implicitDefEqProofs [-Int.natCast_ediv, -Int.natCast_add, -Int.natCast_emod, -Int.natCast_mul]) (by rw [len_pD]; omega) fun x hx => ?_
    unfold pD at hx
    rw [List.mem_map] at hx
    obtain ⟨p, hp, rfl⟩ := hx
    refine ⟨_, rfl, .inr ⟨?_, rfl⟩⟩
    have hq : ¬ ((p.1 : Int) = (p.2 : Int)) := by have := ne p hp; omega
    simp -implicitDefEqProofs [-Int.natCast_ediv, -Int.natCast_add, -Int.natCast_emod, -Int.natCast_mul, a0, a1, hq]
  obtain ⟨q0, hx⟩ : ∃ q0 : Int, atI (pD ps) 0 = some (.tuple [.int 0, .int q0]) := by
    obtain ⟨q, r, rfl⟩ := z
    refine ⟨q, ?_⟩
    show atI (PyData.tuple [.int ((0 : Nat) : Int), .int q] :: pD r) ((0 : Nat) : Int) = _
    rw [atI_n (by simp)]
    rfl
  unfold b14
  simp -implicitDefEqProofs [-Int.natCast_ediv, -Int.natCast_add, -Int.natCast_emod, -Int.natCast_mul, e, hlc, hx, a0]
theorem e15_line (k : Nat) (S : Store) (ps : List (Nat × Nat)) (L : Nat) (hc : ps.length ≤ 1000) (h1 : 1 ≤ ps.length) (cov : Cov (flat ps) L) (hL : L < 64) (lt : ∀ p ∈ ps, p.1 < p.2) : ∃ S', cd (k + 5) 15 [.d (.str "line"), .d (.int ps.length), .d (.tuple (pD ps))] S = .ok (.d (.bool true)) S' ∧ More S S' := by
  obtain ⟨S', e, m⟩ := e13 k S ps L hc h1 cov hL lt
  refine ⟨S', ?_, m⟩
  rw [v15 (k + 4) _ S rfl]
  generalize cd (k + 4) = F at *
  generalize cm (k + 4) = Fm at *
  unfold b15
  simp -implicitDefEqProofs [-Int.natCast_ediv, -Int.natCast_add, -Int.natCast_emod, -Int.natCast_mul, e]
theorem e15_ring (k : Nat) (S : Store) (ps : List (Nat × Nat)) (L : Nat) (hc : ps.length ≤ 1000) (h1 : 1 ≤ ps.length) (cov : Cov (flat ps) L) (hL : L < 64) (ne : ∀ p ∈ ps, p.1 ≠ p.2) (z : ∃ q r, ps = (0, q) :: r) : ∃ S', cd (k + 5) 15 [.d (.str "ring"), .d (.int ps.length), .d (.tuple (pD ps))] S = .ok (.d (.bool true)) S' ∧ More S S' := by
  obtain ⟨S', e, m⟩ := e14 k S ps L hc h1 cov hL ne z
  refine ⟨S', ?_, m⟩
  rw [v15 (k + 4) _ S rfl]
  generalize cd (k + 4) = F at *
  generalize cm (k + 4) = Fm at *
  unfold b15
  simp -implicitDefEqProofs [-Int.natCast_ediv, -Int.natCast_add, -Int.natCast_emod, -Int.natCast_mul, e, rl]
theorem e15_box (k : Nat) (S : Store) (ps qs : List (Nat × Nat)) (L M : Nat) (c : Nat) (lp : ps.length = c) (lq : qs.length = c) (hc : c ≤ 1000) (h1 : 1 ≤ c) (cov : Cov (flat ps) L) (hL : L < 64) (lt : ∀ p ∈ ps, p.1 < p.2) (cov2 : Cov (flat qs) M) (hM : M < 64) (lt2 : ∀ p ∈ qs, p.1 < p.2) :
    ∃ S', cd (k + 5) 15 [.d (.str "box"), .d (.int c), .d (.tuple [.tuple (pD ps), .tuple (pD qs)])] S = .ok (.d (.bool true)) S' ∧ More S S' := by
  obtain ⟨S1, e, m⟩ := e13 k S ps L (by omega) (by omega) cov hL lt
  obtain ⟨S2, e', m'⟩ := e13 k S1 qs M (by omega) (by omega) cov2 hM lt2
  rw [lp] at e
  rw [lq] at e'
  refine ⟨S2, ?_, m.trans m'⟩
  rw [v15 (k + 4) _ S rfl]
  generalize cd (k + 4) = F at *
  generalize cm (k + 4) = Fm at *
  unfold b15
  simp -implicitDefEqProofs [-Int.natCast_ediv, -Int.natCast_add, -Int.natCast_emod, -Int.natCast_mul, e, e', a0, a1, bl', br]
/-! _law_same of a thing with itself -/
def Pl : Nat → PyData → Prop
  | 0, d => ∃ i, d = .int i
  | n + 1, d => (∃ i, d = .int i) ∨ ∃ xs, (d = .list xs ∨ d = .tuple xs) ∧ xs.length ≤ 1000 ∧ ∀ x ∈ xs, Pl n x
theorem same_loop {F : Fns} {S : Store} {d : PyData} {xs : List PyData} (hix : ∀ i : Nat, ixU (.d d) (.d (.int i)) S = (atI xs i).map .d) (h : ∀ x ∈ xs, F 16 [.d x, .d x] S = .ok (.d (.bool true)) S) : ∀ (is : List Nat), (∀ i ∈ is, i < xs.length) → ∀ x2 : Option A,
    ∃ y, loopF (gN 2) (dIte (dNotT (toB (dCall F 16 (dCons (dOp2 ixU (dName 0) (dName 2)) (dCons (dOp2 ixU (dName 1) (dName 2)) dNil))))) (dRet (dVal (.bool false))) dSkip) (nI is) [some (.d d), some (.d d), x2] S = .nx [some (.d d), some (.d d), y] S
  | [], _, x2 => ⟨x2, rfl⟩
  | i :: is, hi, x2 => by
    obtain ⟨y, e⟩ := same_loop hix h is (fun j hj => hi j (List.mem_cons_of_mem _ hj)) (some (.d (.int i)))
    refine ⟨y, ?_⟩
    show loopF _ _ (.int i :: nI is) _ _ = _
    unfold loopF
    have g : gN 2 (.d (.int i)) [some (.d d), some (.d d), x2] = some [some (.d d), some (.d d), some (.d (.int i))] := rfl
    have hl := hi i (by simp)
    have hx : ixU (.d d) (.d (.int i)) S = some (.d xs[i]) := by rw [hix, atI_n hl, List.getElem?_eq_getElem hl]; rfl
    have hf := h xs[i] (List.getElem_mem hl)
    have eb : dIte (dNotT (toB (dCall F 16 (dCons (dOp2 ixU (dName 0) (dName 2)) (dCons (dOp2 ixU (dName 1) (dName 2)) dNil))))) (dRet (dVal (.bool false))) dSkip [some (.d d), some (.d d), some (.d (.int i))] S = .nx [some (.d d), some (.d d), some (.d (.int i))] S := by
      simp -implicitDefEqProofs [-Int.natCast_ediv, -Int.natCast_add, -Int.natCast_emod, -Int.natCast_mul, hx, hf]
    rw [g]
    simp only [eb]
    exact e
theorem e16 (k : Nat) (S : Store) : ∀ (n : Nat) (d : PyData), Pl n d → cd (k + n + 1) 16 [.d d, .d d] S = .ok (.d (.bool true)) S := by
  have hint : ∀ (m : Nat) (i : Int), cd (m + 1) 16 [.d (.int i), .d (.int i)] S = .ok (.d (.bool true)) S := fun m i => by
    rw [v16 m _ S rfl]
    generalize cd m = F at *
    generalize cm m = Fm at *
    unfold b16
    have en : isA (.d (.int i)) (.d .none) S = some (.d (.bool false)) := rfl
    simp -implicitDefEqProofs [-Int.natCast_ediv, -Int.natCast_add, -Int.natCast_emod, -Int.natCast_mul, en]
  intro n
  induction n with
  | zero => intro d ⟨i, e⟩; subst e; exact hint k i
  | succ n ih =>
    intro d h
    rcases h with ⟨i, rfl⟩ | ⟨xs, hd, hl, hx⟩
    · exact hint (k + n + 1) i
    · have h16 : ∀ x ∈ xs, cd (k + n + 1) 16 [.d x, .d x] S = .ok (.d (.bool true)) S := fun x m => ih x (hx x m)
      have e : k + (n + 1) + 1 = (k + n + 1) + 1 := by omega
      rw [e, v16 (k + n + 1) _ S rfl]
      generalize cd (k + n + 1) = F at *
      generalize cm (k + n + 1) = Fm at *
      have hr : rgI (.int 0) (.int (xs.length : Int)) = some (nI (List.range xs.length)) := by
        rw [← rg_nI]
        exact ev_rgI (by simp [rgOk]; omega)
      have hlt : ∀ i ∈ List.range xs.length, i < xs.length := fun i hi => List.mem_range.mp hi
      unfold b16
      rcases hd with rfl | rfl
      · have en : isA (.d (.list xs)) (.d .none) S = some (.d (.bool false)) := rfl
        obtain ⟨y, el⟩ := same_loop (d := .list xs) (fun i => rfl) h16 (List.range xs.length) hlt none
        simp -implicitDefEqProofs [-Int.natCast_ediv, -Int.natCast_add, -Int.natCast_emod, -Int.natCast_mul, en, hr, el]
      · have en : isA (.d (.tuple xs)) (.d .none) S = some (.d (.bool false)) := rfl
        obtain ⟨y, el⟩ := same_loop (d := .tuple xs) (fun i => rfl) h16 (List.range xs.length) hlt none
        simp -implicitDefEqProofs [-Int.natCast_ediv, -Int.natCast_add, -Int.natCast_emod, -Int.natCast_mul, en, hr, el]
end K76

namespace K76
open PySem PySem.Spec L2 Ev
/-! ### the law's rows of marks -/
abbrev Mk := Nat × Nat
abbrev Row := List (List Mk)
def At (row : Row) (mk : Mk) (q : Nat) : Prop := ∀ j, mk ∈ row.getD j [] ↔ j = q
structure RelM (row : Row) (ms : List (Mk × Nat)) (L : Nat) : Prop where
  len : row.length = L
  at_ : ∀ p ∈ ms, At row p.1 p.2
  only : ∀ mk j, mk ∈ row.getD j [] → ∃ q, (mk, q) ∈ ms
def putO (row : Row) (m : Nat) (mk : Mk) : Row := row.take m ++ [row.getD m [] ++ [mk]] ++ row.drop (m + 1)
def putN (row : Row) (m : Nat) (mk : Mk) : Row := row.take m ++ [[mk]] ++ row.drop m
theorem getD_putO {row : Row} {m : Nat} {mk : Mk} (h : m < row.length) (j : Nat) : (putO row m mk).getD j [] = if j = m then row.getD m [] ++ [mk] else row.getD j [] := by
  unfold putO
  have lt : (row.take m).length = m := by rw [List.length_take]; omega
  simp only [List.getD_eq_getElem?_getD]
  by_cases h1 : j < m
  · rw [if_neg (by omega), List.getElem?_append_left (by simp; omega), List.getElem?_append_left (by rw [lt]; exact h1), List.getElem?_take_of_lt h1]
  · by_cases h2 : j = m
    · subst h2
      rw [if_pos rfl, List.getElem?_append_left (by simp; omega), List.getElem?_append_right (by rw [lt]; exact Nat.le_refl _), lt, Nat.sub_self]
      rfl
    · rw [if_neg h2, List.getElem?_append_right (by simp; omega)]
      have e : (row.take m ++ [(row[m]?.getD [] : List Mk) ++ [mk]]).length = m + 1 := by simp; omega
      rw [e, List.getElem?_drop]
      congr 2
      omega
theorem getD_putN {row : Row} {m : Nat} {mk : Mk} (h : m ≤ row.length) (j : Nat) : (putN row m mk).getD j [] = if j < m then row.getD j [] else if j = m then [mk] else row.getD (j - 1) [] := by
  unfold putN
  have lt : (row.take m).length = m := by rw [List.length_take]; omega
  simp only [List.getD_eq_getElem?_getD]
  by_cases h1 : j < m
  · rw [if_pos h1, List.getElem?_append_left (by simp; omega), List.getElem?_append_left (by rw [lt]; exact h1), List.getElem?_take_of_lt h1]
  · rw [if_neg h1]
    by_cases h2 : j = m
    · subst h2
      rw [if_pos rfl, List.getElem?_append_left (by simp; omega), List.getElem?_append_right (by rw [lt]; exact Nat.le_refl _), lt, Nat.sub_self]
      rfl
    · rw [if_neg h2, List.getElem?_append_right (by simp; omega)]
      have e : (row.take m ++ [[mk]]).length = m + 1 := by simp; omega
      rw [e, List.getElem?_drop]
      congr 2
      omega
theorem RelM.old {row : Row} {ms : List (Mk × Nat)} {L m : Nat} {mk : Mk} (h : RelM row ms L) (hm : m < L) (new : ∀ q, (mk, q) ∉ ms) : RelM (putO row m mk) ((mk, m) :: ms) L := by
  have hl : m < row.length := by rw [h.len]; exact hm
  have none : ∀ j, mk ∉ row.getD j [] := fun j z => let ⟨q, e⟩ := h.only mk j z; new q e
  refine ⟨by unfold putO; simp; have := h.len; omega, fun p hp j => ?_, fun y j hy => ?_⟩
  · rw [getD_putO hl]
    rcases List.mem_cons.mp hp with rfl | hp
    · by_cases hj : j = m
      · rw [if_pos hj]; simp [hj]
      · rw [if_neg hj]
        exact ⟨fun z => absurd z (none j), fun z => absurd z hj⟩
    · have hne : p.1 ≠ mk := fun e => new p.2 (by rw [← e]; exact hp)
      have := h.at_ p hp j
      by_cases hj : j = m
      · subst hj
        rw [if_pos rfl, List.mem_append]
        rw [← this]
        simp [hne]
      · rw [if_neg hj]; exact this
  · rw [getD_putO hl] at hy
    by_cases hj : j = m
    · rw [if_pos hj, List.mem_append] at hy
      rcases hy with hy | hy
      · obtain ⟨q, e⟩ := h.only y m hy
        exact ⟨q, List.mem_cons_of_mem _ e⟩
      · simp at hy
        subst hy
        exact ⟨m, by simp⟩
    · rw [if_neg hj] at hy
      obtain ⟨q, e⟩ := h.only y j hy
      exact ⟨q, List.mem_cons_of_mem _ e⟩
theorem RelM.new {row : Row} {ms : List (Mk × Nat)} {L m : Nat} {mk : Mk} (h : RelM row ms L) (hm : m ≤ L) (new : ∀ q, (mk, q) ∉ ms) : RelM (putN row m mk) ((mk, m) :: ms.map fun p => (p.1, up m p.2)) (L + 1) := by
  have hl : m ≤ row.length := by rw [h.len]; exact hm
  have none : ∀ j, mk ∉ row.getD j [] := fun j z => let ⟨q, e⟩ := h.only mk j z; new q e
  refine ⟨by unfold putN; simp; have := h.len; omega, fun p hp j => ?_, fun y j hy => ?_⟩
  · rw [getD_putN hl]
    rcases List.mem_cons.mp hp with rfl | hp
    · by_cases h1 : j < m
      · rw [if_pos h1]
        exact ⟨fun z => absurd z (none j), fun z => by simp at z; omega⟩
      · rw [if_neg h1]
        by_cases hj : j = m
        · rw [if_pos hj]; simp [hj]
        · rw [if_neg hj]
          exact ⟨fun z => absurd z (none _), fun z => absurd z hj⟩
    · obtain ⟨q, hq, rfl⟩ := List.mem_map.mp hp
      have hne : q.1 ≠ mk := fun e => new q.2 (by rw [← e]; exact hq)
      have at0 := h.at_ q hq
      show q.1 ∈ _ ↔ j = up m q.2
      unfold up
      by_cases h1 : j < m
      · rw [if_pos h1, at0 j]
        split <;> omega
      · rw [if_neg h1]
        by_cases hj : j = m
        · rw [if_pos hj]
          simp only [List.mem_cons, hne, List.not_mem_nil, or_false, false_iff]
          split <;> omega
        · rw [if_neg hj, at0 (j - 1)]
          split <;> omega
  · rw [getD_putN hl] at hy
    have fromOld : ∀ j', y ∈ row.getD j' [] → ∃ q, (y, q) ∈ (mk, m) :: ms.map fun p => (p.1, up m p.2) := fun j' z => by
      obtain ⟨q, e⟩ := h.only y j' z
      exact ⟨up m q, List.mem_cons_of_mem _ (List.mem_map.mpr ⟨(y, q), e, rfl⟩)⟩
    by_cases h1 : j < m
    · rw [if_pos h1] at hy; exact fromOld j hy
    · rw [if_neg h1] at hy
      by_cases hj : j = m
      · rw [if_pos hj] at hy
        simp at hy
        subst hy
        exact ⟨m, by simp⟩
      · rw [if_neg hj] at hy; exact fromOld _ hy
/-- the marks of pairs, the first of number i -/
def msOf : Nat → List (Nat × Nat) → List (Mk × Nat)
  | _, [] => []
  | i, p :: r => ((i, 0), p.1) :: ((i, 1), p.2) :: msOf (i + 1) r
theorem ms_opened (m : Nat) : ∀ (i : Nat) (ps : List (Nat × Nat)), msOf i (opened ps m) = (msOf i ps).map fun p => (p.1, up m p.2)
  | _, [] => rfl
  | i, p :: r => by
    have ih := ms_opened m (i + 1) r
    show ((i, 0), up m p.1) :: ((i, 1), up m p.2) :: msOf (i + 1) (opened r m) = _
    rw [ih]
    rfl
theorem ms_snoc (b e : Nat) : ∀ (i : Nat) (ps : List (Nat × Nat)), msOf i (ps ++ [(b, e)]) = msOf i ps ++ [((i + ps.length, 0), b), ((i + ps.length, 1), e)]
  | i, [] => by simp [msOf]
  | i, p :: r => by
    have ih := ms_snoc b e (i + 1) r
    show ((i, 0), p.1) :: ((i, 1), p.2) :: msOf (i + 1) (r ++ [(b, e)]) = _
    rw [ih]
    have e1 : i + 1 + r.length = i + (p :: r).length := by rw [List.length_cons]; omega
    rw [e1]
    rfl
theorem ms_lt : ∀ (i : Nat) (ps : List (Nat × Nat)) (p : Mk × Nat), p ∈ msOf i ps → p.1.1 < i + ps.length
  | _, [], p, h => nomatch h
  | i, q :: r, p, h => by
    rw [List.length_cons]
    rcases List.mem_cons.mp h with rfl | h
    · show i < _; omega
    · rcases List.mem_cons.mp h with rfl | h
      · show i < _; omega
      · have := ms_lt (i + 1) r p h; omega
theorem ms_get : ∀ (i : Nat) (ps : List (Nat × Nat)) (j : Nat) (p : Nat × Nat), ps[j]? = some p → ((i + j, 0), p.1) ∈ msOf i ps ∧ ((i + j, 1), p.2) ∈ msOf i ps
  | _, [], _, _, h => by simp at h
  | i, q :: r, 0, p, h => by
    simp at h; subst h
    exact ⟨by simp [msOf], by simp [msOf]⟩
  | i, q :: r, j + 1, p, h => by
    have ih := ms_get (i + 1) r j p (by simpa using h)
    have e : i + 1 + j = i + (j + 1) := by omega
    rw [e] at ih
    exact ⟨List.mem_cons_of_mem _ (List.mem_cons_of_mem _ ih.1), List.mem_cons_of_mem _ (List.mem_cons_of_mem _ ih.2)⟩
/-- _law_put -/
def lput (rnd : Bool) (row : Row) (n : Nat) (mk : Mk) : Row := match rnd with
  | false => if n % 2 = 1 then putO row (n / 2) mk else putN row (n / 2) mk
  | true => if n % 2 = 1 then putN row (n / 2 + 1) mk else putO row (n / 2) mk
theorem row_put {row : Row} {ps : List (Nat × Nat)} {i s L n : Nat} (h : RelM row (msOf 0 ps) L) (hn : n ≤ 2 * L) (hi : ps.length ≤ i) : ∃ L', RelM (lput false row n (i, s)) (((i, s), (rowP ps n).2) :: msOf 0 (rowP ps n).1) L' := by
  have new : ∀ q, ((i, s), q) ∉ msOf 0 ps := fun q z => by have := ms_lt 0 ps _ z; simp at this; omega
  unfold lput rowP
  by_cases ho : n % 2 = 1
  · simp only [if_pos ho]
    exact ⟨L, h.old (by omega) new⟩
  · simp only [if_neg ho]
    rw [ms_opened]
    exact ⟨L + 1, h.new (by omega) new⟩
theorem row_put2 {row : Row} {ps : List (Nat × Nat)} {i L n b : Nat} (h : RelM row (((i, 0), b) :: msOf 0 ps) L) (hn : n ≤ 2 * L) (hb : 2 * b + 2 ≤ n) (hi : ps.length ≤ i) :
    ∃ L', RelM (lput false row n (i, 1)) (((i, 1), (rowP ps n).2) :: ((i, 0), b) :: msOf 0 (rowP ps n).1) L' := by
  have new : ∀ q, (((i, 1) : Mk), q) ∉ ((i, 0), b) :: msOf 0 ps := fun q z => by
    rcases List.mem_cons.mp z with z | z
    · simp at z
    · have := ms_lt 0 ps _ z; simp at this; omega
  unfold lput rowP
  by_cases ho : n % 2 = 1
  · simp only [if_pos ho]
    exact ⟨L, h.old (by omega) new⟩
  · simp only [if_neg ho]
    rw [ms_opened]
    have e := h.new (m := n / 2) (mk := (i, 1)) (by omega) new
    have eb : up (n / 2) b = b := by unfold up; rw [if_neg (by omega)]
    rw [List.map_cons] at e
    simp only [eb] at e
    exact ⟨L + 1, e⟩
theorem rnd_put {row : Row} {ps : List (Nat × Nat)} {i s L n : Nat} (h : RelM row (msOf 0 ps) L) (hn : n < 2 * L) (hi : ps.length ≤ i) : ∃ L', RelM (lput true row n (i, s)) (((i, s), (rndP ps n).2) :: msOf 0 (rndP ps n).1) L' := by
  have new : ∀ q, ((i, s), q) ∉ msOf 0 ps := fun q z => by have := ms_lt 0 ps _ z; simp at this; omega
  unfold lput rndP
  by_cases ho : n % 2 = 1
  · simp only [if_pos ho]
    rw [ms_opened]
    exact ⟨L + 1, h.new (by omega) new⟩
  · simp only [if_neg ho]
    exact ⟨L, h.old (by omega) new⟩
theorem rnd_put2 {row : Row} {ps : List (Nat × Nat)} {i L n b b' : Nat} (h : RelM row (((i, 0), b) :: msOf 0 ps) L) (hn : n < 2 * L) (hi : ps.length ≤ i) (e' : b' = if n % 2 = 1 ∧ (rndP ps n).2 ≤ b then b + 1 else b) :
    ∃ L', RelM (lput true row n (i, 1)) (((i, 1), (rndP ps n).2) :: ((i, 0), b') :: msOf 0 (rndP ps n).1) L' := by
  have new : ∀ q, (((i, 1) : Mk), q) ∉ ((i, 0), b) :: msOf 0 ps := fun q z => by
    rcases List.mem_cons.mp z with z | z
    · simp at z
    · have := ms_lt 0 ps _ z; simp at this; omega
  unfold lput rndP at *
  by_cases ho : n % 2 = 1
  · simp only [if_pos ho] at e' ⊢
    rw [ms_opened]
    have e := h.new (m := n / 2 + 1) (mk := (i, 1)) (by omega) new
    have eb : up (n / 2 + 1) b = b' := by
      rw [e']
      unfold up
      by_cases hq : n / 2 + 1 ≤ b
      · rw [if_pos hq, if_pos ⟨ho, hq⟩]
      · rw [if_neg hq, if_neg (fun z => hq z.2)]
    rw [List.map_cons] at e
    simp only [eb] at e
    exact ⟨L + 1, e⟩
  · simp only [if_neg ho] at e' ⊢
    rw [if_neg (fun z => ho z.1)] at e'
    subst e'
    exact ⟨L, h.old (by omega) new⟩
theorem RelM.perm {row : Row} {ms ns : List (Mk × Nat)} {L : Nat} (h : RelM row ms L) (p : ∀ x, x ∈ ms ↔ x ∈ ns) : RelM row ns L := ⟨h.len, fun x hx => h.at_ x ((p x).mpr hx), fun mk j z => let ⟨q, e⟩ := h.only mk j z; ⟨q, (p _).mp e⟩⟩
end K76

namespace K76
open PySem PySem.Spec L2 Ev
def markD (m : Mk) : PyData := .tuple [.int m.1, .int m.2]
def mkD_ (c : List Mk) : List PyData := c.map markD
def rowD (row : Row) : List PyData := row.map fun c => PyData.list (mkD_ c)
theorem len_rowD (row : Row) : (rowD row).length = row.length := by simp [rowD]
structure Sm (row : Row) (B : Nat) : Prop where
  len : row.length ≤ B
  cell : ∀ c ∈ row, c.length ≤ B
theorem sm_getD {row : Row} {B j : Nat} (h : Sm row B) : (row.getD j []).length ≤ B := by
  rw [List.getD_eq_getElem?_getD]
  cases e : row[j]? with
  | none => exact Nat.zero_le _
  | some c => exact h.cell c (List.mem_of_getElem? e)
theorem Sm.putO {row : Row} {B m : Nat} {mk : Mk} (h : Sm row B) (hm : m < row.length) : Sm (putO row m mk) (B + 1) := by
  refine ⟨by unfold K76.putO; simp; have := h.len; omega, fun c hc => ?_⟩
  unfold K76.putO at hc
  simp only [List.mem_append, List.mem_cons, List.not_mem_nil, or_false] at hc
  rcases hc with (hc | hc) | hc
  · have := h.cell c (List.mem_of_mem_take hc); omega
  · subst hc
    have := sm_getD (j := m) h
    rw [List.length_append, List.length_singleton]; omega
  · have := h.cell c (List.mem_of_mem_drop hc); omega
theorem Sm.putN {row : Row} {B m : Nat} {mk : Mk} (h : Sm row B) : Sm (putN row m mk) (B + 1) := by
  refine ⟨by unfold K76.putN; simp; have := h.len; omega, fun c hc => ?_⟩
  unfold K76.putN at hc
  simp only [List.mem_append, List.mem_cons, List.not_mem_nil, or_false] at hc
  rcases hc with (hc | hc) | hc
  · have := h.cell c (List.mem_of_mem_take hc); omega
  · subst hc; simp
  · have := h.cell c (List.mem_of_mem_drop hc); omega
theorem Sm.lput {row : Row} {B n : Nat} {mk : Mk} {rnd : Bool} (h : Sm row B) (hn : n ≤ 2 * row.length) (h2 : rnd = true → n < 2 * row.length) : Sm (lput rnd row n mk) (B + 1) := by
  unfold K76.lput
  cases rnd with
  | false =>
    simp only
    split
    · exact h.putO (by omega)
    · exact h.putN
  | true =>
    have := h2 rfl
    simp only
    split
    · exact h.putN
    · exact h.putO (by omega)
/-! ### mirrors -/
theorem e22 (k : Nat) (S : Store) (ns : List Int) (a c : Nat) (hc : 0 < c) : cd (k + 1) 22 [.d (.list (ns.map .int)), .d (.int a), .d (.int c)] S = .ok (.d (.int (nx ns a c))) S := by
  rw [v22 k _ S rfl]
  generalize cd k = F at *
  generalize cm k = Fm at *
  unfold b22
  by_cases hl : a < ns.length
  · have hx : atI (ns.map PyData.int) (a : Int) = some (.int ns[a]) := by
      rw [atI_n (by simpa using hl), List.getElem?_map, List.getElem?_eq_getElem hl]; rfl
    have hr : ns[a] % (c : Int) = ((nx ns a c : Nat) : Int) := by
      unfold nx
      rw [List.getElem?_eq_getElem hl]
      have h1 := Int.emod_nonneg ns[a] (show (c : Int) ≠ 0 by omega)
      show _ = ((ns[a] % (c : Int)).toNat : Int)
      rw [Int.toNat_of_nonneg h1]
    have hd : ((a : Int) < (ns.length : Int)) := by omega
    simp -implicitDefEqProofs [-Int.natCast_ediv, -Int.natCast_add, -Int.natCast_emod, -Int.natCast_mul, hd, hx, ev_modI (show (0 : Int) < c by omega), hr]
  · have hd : ¬ ((a : Int) < (ns.length : Int)) := by omega
    have hn : nx ns a c = 0 := by
      unfold nx
      rw [List.getElem?_eq_none (by omega)]
    simp -implicitDefEqProofs [-Int.natCast_ediv, -Int.natCast_add, -Int.natCast_emod, -Int.natCast_mul, hd, hn]
theorem sl_to {da dh : DE} {l : Ev.Loc} {S : Store} {xs : List PyData} {m : Nat} (h1 : da l S = .ok (.d (.list xs)) S) (h2 : dh l S = .ok (.d (.int m)) S) : dSl da (dPart none) (dPart (some dh)) l S = .ok (.d (.list (xs.take m))) S := by
  unfold dSl
  rw [h1, Res.ok_bind]
  show (Res.bind (.ok none S) _) = _
  rw [Res.ok_bind]
  show ((dh l S).bind _).bind _ = _
  rw [h2, Res.ok_bind]
  show (Res.ok (some (m : Int)) S).bind _ = _
  rw [Res.ok_bind]
  show Res.ok (A.d (.list (cutL xs none (some (m : Int))))) S = _
  congr 3
  unfold cutL
  rw [HT.sIx_none, HT.sIx_nat, List.drop_zero, Nat.sub_zero]
  by_cases h : m ≤ xs.length
  · rw [Nat.min_eq_left h]
  · rw [Nat.min_eq_right (by omega), List.take_length, List.take_of_length_le (by omega)]
theorem sl_from {da dh : DE} {l : Ev.Loc} {S : Store} {xs : List PyData} {m : Nat} (h1 : da l S = .ok (.d (.list xs)) S) (h2 : dh l S = .ok (.d (.int m)) S) : dSl da (dPart (some dh)) (dPart none) l S = .ok (.d (.list (xs.drop m))) S := by
  unfold dSl
  rw [h1, Res.ok_bind]
  show ((dh l S).bind _).bind _ = _
  rw [h2, Res.ok_bind]
  show (Res.ok (some (m : Int)) S).bind _ = _
  rw [Res.ok_bind]
  show (Res.bind (.ok none S) _) = _
  rw [Res.ok_bind]
  show Res.ok (A.d (.list (cutL xs (some (m : Int)) none))) S = _
  congr 3
  unfold cutL
  rw [HT.sIx_none, HT.sIx_nat]
  by_cases h : m ≤ xs.length
  · rw [Nat.min_eq_left h, List.take_of_length_le (by rw [List.length_drop]; omega)]
  · rw [Nat.min_eq_right (by omega), List.drop_length, List.drop_eq_nil_of_le (by omega)]; simp
theorem add_l {xs ys : List PyData} (h : xs.length + ys.length ≤ 16777216) : addD (.list xs) (.list ys) = some (.list (xs ++ ys)) := if_pos h
theorem rowD_putO {row : Row} {m : Nat} {mk : Mk} (h : m < row.length) : (rowD row).take m ++ [.list (mkD_ (row.getD m []) ++ [markD mk])] ++ (rowD row).drop (m + 1) = rowD (putO row m mk) := by
  unfold rowD putO mkD_
  simp
theorem rowD_putN {row : Row} {m : Nat} {mk : Mk} : (rowD row).take m ++ [.list [markD mk]] ++ (rowD row).drop m = rowD (putN row m mk) := by
  unfold rowD putN mkD_
  simp
theorem at_rowD {row : Row} {m : Nat} (h : m < row.length) : atI (rowD row) (m : Int) = some (.list (mkD_ (row.getD m []))) := by
  rw [atI_n (by rw [len_rowD]; exact h)]
  unfold rowD
  rw [List.getElem?_map, List.getElem?_eq_getElem h, List.getD_eq_getElem?_getD, List.getElem?_eq_getElem h]
  rfl
theorem len_mkD (c : List Mk) : (mkD_ c).length = c.length := by simp [mkD_]
theorem e23 (k : Nat) (S : Store) (row : Row) (B n : Nat) (mk : Mk) (rnd : Bool) (h : Sm row B) (hB : B ≤ 1000) (hn : n ≤ 2 * row.length) (h2 : rnd = true → n < 2 * row.length) :
    cd (k + 1) 23 [.d (.list (rowD row)), .d (.int n), .d (markD mk), .d (.bool rnd)] S = .ok (.d (.list (rowD (lput rnd row n mk)))) S := by
  rw [v23 k _ S rfl]
  generalize cd k = F at *
  generalize cm k = Fm at *
  have hl := h.len
  have lr := len_rowD row
  have odd : (n : Int) % 2 = 1 ↔ n % 2 = 1 := odd2n n
  have evn : (n : Int) % 2 = 0 ↔ ¬ n % 2 = 1 := by omega
  have addO : ∀ m, m < row.length → addD (.list (mkD_ (row.getD m []))) (.list [markD mk]) = some (.list (mkD_ (row.getD m []) ++ [markD mk])) := fun m _ => add_l (by
    have := sm_getD (j := m) h
    rw [len_mkD, List.length_singleton]; omega)
  have add1 : ∀ (m : Nat) (d : PyData), addD (.list ((rowD row).take m)) (.list [d]) = some (.list ((rowD row).take m ++ [d])) := fun m d => add_l (by
    rw [List.length_take, List.length_singleton]; omega)
  have add2 : ∀ (m m' : Nat) (d : PyData), addD (.list ((rowD row).take m ++ [d])) (.list ((rowD row).drop m')) = some (.list ((rowD row).take m ++ [d] ++ (rowD row).drop m')) := fun m m' d => add_l (by
    rw [List.length_append, List.length_take, List.length_singleton, List.length_drop]; omega)
  have z1 : ((n / 2 : Nat) : Int) + 1 = ((n / 2 + 1 : Nat) : Int) := by omega
  have t1 : ∀ m : Nat, dSl (dName 0) (dPart none) (dPart (some (dName 4))) [some (.d (.list (rowD row))), some (.d (.int n)), some (.d (markD mk)), some (.d (.bool rnd)), some (.d (.int m))] S = .ok (.d (.list ((rowD row).take m))) S := fun m => sl_to (by simp -implicitDefEqProofs [-Int.natCast_ediv, -Int.natCast_add, -Int.natCast_emod, -Int.natCast_mul]) (by simp -implicitDefEqProofs [-Int.natCast_ediv, -Int.natCast_add, -Int.natCast_emod, -Int.natCast_mul])
  have t2 : ∀ m : Nat, dSl (dName 0) (dPart (some (dOp2 (pu2 addD) (dName 4) (dVal (.int 1))))) (dPart none) [some (.d (.list (rowD row))), some (.d (.int n)), some (.d (markD mk)), some (.d (.bool rnd)), some (.d (.int m))] S = .ok (.d (.list ((rowD row).drop (m + 1)))) S := fun m => sl_from (by simp -implicitDefEqProofs [-Int.natCast_ediv, -Int.natCast_add, -Int.natCast_emod, -Int.natCast_mul]) (by simp -implicitDefEqProofs [-Int.natCast_ediv, -Int.natCast_add, -Int.natCast_emod, -Int.natCast_mul]; omega)
  have t3 : ∀ m : Nat, dSl (dName 0) (dPart (some (dName 4))) (dPart none) [some (.d (.list (rowD row))), some (.d (.int n)), some (.d (markD mk)), some (.d (.bool rnd)), some (.d (.int m))] S = .ok (.d (.list ((rowD row).drop m))) S := fun m => sl_from (by simp -implicitDefEqProofs [-Int.natCast_ediv, -Int.natCast_add, -Int.natCast_emod, -Int.natCast_mul]) (by simp -implicitDefEqProofs [-Int.natCast_ediv, -Int.natCast_add, -Int.natCast_emod, -Int.natCast_mul])
  unfold b23 lput
  cases rnd with
  | false =>
    by_cases ho : n % 2 = 1
    · have hm : n / 2 < row.length := by omega
      have ax := at_rowD hm
      have ao := addO _ hm
      have fin := rowD_putO (mk := mk) hm
      generalize row.getD (n / 2) [] = c at ax ao fin
      rw [List.append_assoc] at fin
      simp -implicitDefEqProofs [-Int.natCast_ediv, -Int.natCast_add, -Int.natCast_emod, -Int.natCast_mul, odd, evn, ho, div2n, t1, t2, t3, ax, ao, add1, add2]
      exact fin
    · have i0 : intD (.bool false) = some (.int 0) := rfl
      simp -implicitDefEqProofs [-Int.natCast_ediv, -Int.natCast_add, -Int.natCast_emod, -Int.natCast_mul, odd, evn, ho, div2n, t1, t2, t3, add1, add2, i0]
      have fin := rowD_putN (row := row) (m := n / 2) (mk := mk)
      rw [List.append_assoc] at fin
      exact fin
  | true =>
    have := h2 rfl
    by_cases ho : n % 2 = 1
    · have i1 : intD (.bool true) = some (.int 1) := rfl
      simp -implicitDefEqProofs [-Int.natCast_ediv, -Int.natCast_add, -Int.natCast_emod, -Int.natCast_mul, odd, evn, ho, div2n, t1, t2, t3, add1, add2, i1, z1]
      have fin := rowD_putN (row := row) (m := n / 2 + 1) (mk := mk)
      rw [List.append_assoc] at fin
      exact fin
    · have hm : n / 2 < row.length := by omega
      have ax := at_rowD hm
      have ao := addO _ hm
      have fin := rowD_putO (mk := mk) hm
      generalize row.getD (n / 2) [] = c at ax ao fin
      rw [List.append_assoc] at fin
      simp -implicitDefEqProofs [-Int.natCast_ediv, -Int.natCast_add, -Int.natCast_emod, -Int.natCast_mul, odd, evn, ho, div2n, t1, t2, t3, ax, ao, add1, add2]
      exact fin
/-! where a mark stands -/
theorem eqv_mark (x y : Mk) : PyData.eqv (markD x) (markD y) = decide (x = y) := by
  obtain ⟨a, b⟩ := x
  obtain ⟨c, d⟩ := y
  show (PyData.eqv (.int a) (.int c) && (PyData.eqv (.int b) (.int d) && true)) = _
  have e : ∀ p q : Nat, PyData.eqv (.int p) (.int q) = decide (p = q) := fun p q => by
    show ((p : Int) == (q : Int)) = _
    by_cases h : p = q
    · subst h; simp
    · rw [decide_eq_false h, beq_eq_false_iff_ne]; omega
  rw [e, e, Bool.and_true, ← Bool.decide_and]
  congr 1
  simp
theorem ok_mark (x : Mk) : eqOk (markD x) = true := rfl
theorem lay_marks : ∀ c : List Mk, PyData.canLayAll0 (mkD_ c) = true
  | [] => rfl
  | x :: c => by
    show (PyData.canLay0 (markD x) && PyData.canLayAll0 (mkD_ c)) = true
    rw [lay_marks c]
    rfl
theorem dep_marks : ∀ c : List Mk, PyData.depthAll (mkD_ c) ≤ 1
  | [] => Nat.zero_le _
  | x :: c => by
    have := dep_marks c
    have e : PyData.depth (markD x) = 1 := rfl
    show max (PyData.depth (markD x)) (PyData.depthAll (mkD_ c)) ≤ 1
    omega
theorem nod_marks : ∀ c : List Mk, nodicts (mkD_ c) = true
  | [] => rfl
  | x :: c => by
    show (nodict (markD x) && nodicts (mkD_ c)) = true
    rw [nod_marks c]
    rfl
theorem ok_cell (c : List Mk) : eqOk (.list (mkD_ c)) = true := by
  unfold eqOk SeqAt.shaped
  rw [Bool.and_eq_true, Bool.and_eq_true]
  refine ⟨⟨lay_marks c, ?_⟩, nod_marks c⟩
  have := dep_marks c
  show decide (PyData.depthAll (mkD_ c) + 1 ≤ 64) = true
  exact decide_eq_true (by omega)
theorem in_cell (x : Mk) (c : List Mk) : inD (markD x) (.list (mkD_ c)) = some (decide (x ∈ c)) := by
  show (if eqOk (markD x) && eqOk (.list (mkD_ c)) then some ((mkD_ c).any fun z => PyData.eqv z (markD x)) else none) = _
  rw [ok_mark, ok_cell]
  show some _ = _
  congr 1
  unfold mkD_
  rw [List.any_map]
  induction c with
  | nil => rfl
  | cons y c ih =>
    rw [List.any_cons, ih]
    show (PyData.eqv (markD y) (markD x) || _) = _
    rw [eqv_mark, ← Bool.decide_or]
    congr 1
    simp only [List.mem_cons, eq_comm]
theorem filt_one {p : Nat → Bool} {q : Nat} (h : ∀ j, p j = true ↔ j = q) : ∀ n : Nat, q < n → (List.range n).filter p = [q]
  | 0, hq => by omega
  | n + 1, hq => by
    rw [List.range_succ, List.filter_append]
    by_cases e : q = n
    · subst e
      have none : (List.range q).filter p = [] := List.filter_eq_nil_iff.mpr fun j hj => by
        rw [h j]
        have := List.mem_range.mp hj
        omega
      rw [none, List.nil_append, List.filter_cons, if_pos ((h q).mpr rfl)]
      rfl
    · rw [filt_one h n (by omega), List.filter_cons, if_neg (fun z => e ((h n).mp z).symm)]
      rfl
theorem e24 (k : Nat) (S : Store) (row : Row) (mk : Mk) (q : Nat) (hl : row.length ≤ 1000) (hq : At row mk q) : cd (k + 1) 24 [.d (.list (rowD row)), .d (markD mk)] S = .ok (.d (.int q)) S := by
  rw [v24 k _ S rfl]
  generalize cd k = F at *
  generalize cm k = Fm at *
  have hlt : q < row.length := by
    have := (hq q).mpr rfl
    rw [List.getD_eq_getElem?_getD] at this
    rcases Nat.lt_or_ge q row.length with h | h
    · exact h
    · rw [List.getElem?_eq_none h] at this; simp at this
  have hlc : dLc (dRg1 (dCallB lenA (dCons (dName 0) dNil))) [2] (gN 2) (toB (dOp2 inU (dName 1) (dOp2 ixU (dName 0) (dName 2)))) (dName 2) [some (.d (.list (rowD row))), some (.d (markD mk)), none] S = .ok (.d (.list (nI [q]))) S := by
    have hr : rgI (.int 0) (.int (row.length : Int)) = some (nI (List.range row.length)) := by
      rw [← rg_nI]
      exact ev_rgI (by simp [rgOk]; omega)
    let g : PyData → Option PyData := fun d => match d with
      | .int i => if decide (mk ∈ row.getD i.toNat []) = true then some (.int i) else none
      | _ => none
    have hf : (nI (List.range row.length)).filterMap g = nI [q] := by
      rw [← filt_one (p := fun j => decide (mk ∈ row.getD j [])) (fun j => by rw [decide_eq_true_iff]; exact hq j) row.length hlt]
      unfold nI
      exact fm_map (f := fun n : Nat => PyData.int n) (g := g) (p := fun j => decide (mk ∈ row.getD j [])) (fun i => rfl) _
    rw [← hf]
    refine ev_lc g (by simp -implicitDefEqProofs [-Int.natCast_ediv, -Int.natCast_add, -Int.natCast_emod, -Int.natCast_mul, len_rowD, hr]) (by rw [len_nI, List.length_range]; omega) fun x hx => ?_
    unfold nI at hx
    rw [List.mem_map] at hx
    obtain ⟨i, hi, rfl⟩ := hx
    have hi := List.mem_range.mp hi
    refine ⟨_, rfl, ?_⟩
    have ax := at_rowD hi
    have ic := in_cell mk (row.getD i [])
    have eg : g (.int (i : Int)) = if decide (mk ∈ row.getD i []) = true then some (.int i) else none := rfl
    generalize row.getD i [] = c at ax ic eg
    have eu : inU (.d (markD mk)) (.d (.list (mkD_ c))) S = some (.d (.bool (decide (mk ∈ c)))) := by
      show ((inD (markD mk) (.list (mkD_ c))).map PyData.bool).map A.d = _
      rw [ic]; rfl
    by_cases hm : mk ∈ c
    · left
      rw [decide_eq_true hm] at eu eg
      refine ⟨?_, .int i, eg, ?_⟩
      · simp -implicitDefEqProofs [-Int.natCast_ediv, -Int.natCast_add, -Int.natCast_emod, -Int.natCast_mul, ax, eu]
      · simp -implicitDefEqProofs [-Int.natCast_ediv, -Int.natCast_add, -Int.natCast_emod, -Int.natCast_mul]
    · right
      rw [decide_eq_false hm] at eu eg
      refine ⟨?_, eg⟩
      simp -implicitDefEqProofs [-Int.natCast_ediv, -Int.natCast_add, -Int.natCast_emod, -Int.natCast_mul, ax, eu]
  have h0 : atI (nI [q]) 0 = some (.int q) := rfl
  unfold b24
  simp -implicitDefEqProofs [-Int.natCast_ediv, -Int.natCast_add, -Int.natCast_emod, -Int.natCast_mul, hlc, h0]
end K76

namespace K76
open PySem PySem.Spec L2 Ev
def rL (n L : Nat) : Nat := if n % 2 = 1 then L else L + 1
def dL (n L : Nat) : Nat := if n % 2 = 1 then L + 1 else L
theorem rowC {ps : List (Nat × Nat)} {n L : Nat} (h : Cov (flat ps) L) (hn : n ≤ 2 * L) : Cov ((rowP ps n).2 :: flat (rowP ps n).1) (rL n L) := by
  unfold rowP rL
  by_cases ho : n % 2 = 1
  · simp only [if_pos ho]; exact h.old (by omega)
  · simp only [if_neg ho]
    rw [flat_opened]
    exact h.ins (by omega)
theorem rowC2 {ps : List (Nat × Nat)} {n L b : Nat} (h : Cov (b :: flat ps) L) (hn : n ≤ 2 * L) (hb : 2 * b + 2 ≤ n) : Cov ((rowP ps n).2 :: b :: flat (rowP ps n).1) (rL n L) := by
  unfold rowP rL
  by_cases ho : n % 2 = 1
  · simp only [if_pos ho]; exact h.old (by omega)
  · simp only [if_neg ho]
    have e := h.ins (m := n / 2) (by omega)
    rw [List.map_cons, ← flat_opened] at e
    have eb : up (n / 2) b = b := by unfold up; rw [if_neg (by omega)]
    rw [eb] at e
    exact e
theorem rowR {row : Row} {ps : List (Nat × Nat)} {i s L n : Nat} (h : RelM row (msOf 0 ps) L) (hn : n ≤ 2 * L) (hi : ps.length ≤ i) : RelM (lput false row n (i, s)) (((i, s), (rowP ps n).2) :: msOf 0 (rowP ps n).1) (rL n L) := by
  have new : ∀ q, ((i, s), q) ∉ msOf 0 ps := fun q z => by have := ms_lt 0 ps _ z; simp at this; omega
  unfold lput rowP rL
  by_cases ho : n % 2 = 1
  · simp only [if_pos ho]
    exact h.old (by omega) new
  · simp only [if_neg ho]
    rw [ms_opened]
    exact h.new (by omega) new
theorem rowR2 {row : Row} {ps : List (Nat × Nat)} {i L n b : Nat} (h : RelM row (((i, 0), b) :: msOf 0 ps) L) (hn : n ≤ 2 * L) (hb : 2 * b + 2 ≤ n) (hi : ps.length ≤ i) :
    RelM (lput false row n (i, 1)) (((i, 1), (rowP ps n).2) :: ((i, 0), b) :: msOf 0 (rowP ps n).1) (rL n L) := by
  have new : ∀ q, (((i, 1) : Mk), q) ∉ ((i, 0), b) :: msOf 0 ps := fun q z => by
    rcases List.mem_cons.mp z with z | z
    · simp at z
    · have := ms_lt 0 ps _ z; simp at this; omega
  unfold lput rowP rL
  by_cases ho : n % 2 = 1
  · simp only [if_pos ho]
    exact h.old (by omega) new
  · simp only [if_neg ho]
    rw [ms_opened]
    have e := h.new (m := n / 2) (mk := (i, 1)) (by omega) new
    have eb : up (n / 2) b = b := by unfold up; rw [if_neg (by omega)]
    rw [List.map_cons] at e
    simp only [eb] at e
    exact e
structure LR (row : Row) (ps : List (Nat × Nat)) (i L : Nat) : Prop where
  rel : RelM row (msOf 0 ps) L
  cov : Cov (flat ps) L
  len : ps.length = i
  sm : Sm row (2 * i)
abbrev H22 (F : Fns) : Prop := ∀ (S : Store) (ns : List Int) (a c : Nat), 0 < c → F 22 [.d (.list (ns.map .int)), .d (.int a), .d (.int c)] S = .ok (.d (.int (nx ns a c))) S
abbrev H23 (F : Fns) : Prop := ∀ (S : Store) (row : Row) (B n : Nat) (mk : Mk) (rnd : Bool), Sm row B → B ≤ 1000 → n ≤ 2 * row.length → (rnd = true → n < 2 * row.length) → F 23 [.d (.list (rowD row)), .d (.int n), .d (markD mk), .d (.bool rnd)] S = .ok (.d (.list (rowD (lput rnd row n mk)))) S
abbrev H24 (F : Fns) : Prop := ∀ (S : Store) (row : Row) (mk : Mk) (q : Nat), row.length ≤ 1000 → At row mk q → F 24 [.d (.list (rowD row)), .d (markD mk)] S = .ok (.d (.int q)) S
theorem rg2 (a m : Nat) (h : a + m ≤ 100000) : rgD2 (.int a) (.int ((a + m : Nat) : Int)) = some (.list ((rgL a ((a + m : Nat) : Int)).map .int)) ∧ ((rgL (a : Int) ((a + m : Nat) : Int)).map PyData.int).length = m ∧ ∀ i, i < m → atI ((rgL (a : Int) ((a + m : Nat) : Int)).map PyData.int) (i : Int) = some (.int ((a + i : Nat) : Int)) := by
  have hl : ((rgL (a : Int) ((a + m : Nat) : Int)).map PyData.int).length = m := by
    unfold rgL
    rw [List.length_map, List.length_map, List.length_range]
    omega
  refine ⟨if_pos (by simp [rgOk]; omega), hl, fun i hi => ?_⟩
  rw [atI_n (by rw [hl]; exact hi)]
  unfold rgL
  have e : (((a + m : Nat) : Int) - (a : Int)).toNat = m := by omega
  rw [e, List.getElem?_map, List.getElem?_map, List.getElem?_range hi]
  show some (PyData.int ((a : Int) + (i : Int))) = _
  congr 2
  all_goals omega
theorem lrow_body {F : Fns} (h22 : H22 F) (h23 : H23 F) (h24 : H24 F) {S : Store} {ns : List Int} {a i L : Nat} {row : Row} {ps : List (Nat × Nat)} {x0 x5 x6 : Option A} (h : LR row ps i L) (hi : i ≤ 100) (body : DS)
    (hb : body = (dSeq (dAsg (gN 3) (dCall F 23 (dCons (dName 3) (dCons (dCall F 22 (dCons (dName 1) (dCons (dName 2) (dCons (dOp2 (pu2 addD) (dOp2 mulA (dVal (.int 2)) (dCallB lenA (dCons (dName 3) dNil))) (dVal (.int 1))) dNil)))) (dCons (dTup (dCons (dName 4) (dCons (dVal (.int 0)) dNil))) (dCons (dVal (.bool false)) dNil))))))
    (dSeq (dAsg (gN 5) (dCall F 24 (dCons (dName 3) (dCons (dTup (dCons (dName 4) (dCons (dVal (.int 0)) dNil))) dNil))))
    (dSeq (dAsg (gN 6) (dOp2 (pu2 rgD2) (dOp2 (pu2 addD) (dOp2 mulA (dVal (.int 2)) (dName 5)) (dVal (.int 2))) (dOp2 (pu2 addD) (dOp2 mulA (dVal (.int 2)) (dCallB lenA (dCons (dName 3) dNil))) (dVal (.int 1)))))
    (dSeq (dAsg (gN 3) (dCall F 23 (dCons (dName 3) (dCons (dOp2 ixU (dName 6) (dCall F 22 (dCons (dName 1) (dCons (dOp2 (pu2 addD) (dName 2) (dVal (.int 1))) (dCons (dCallB lenA (dCons (dName 6) dNil)) dNil))))) (dCons (dTup (dCons (dName 4) (dCons (dVal (.int 1)) dNil))) (dCons (dVal (.bool false)) dNil))))))
    (dAsg (gN 2) (dOp2 (pu2 addD) (dName 2) (dVal (.int 2))))))))) :
    ∃ row' L' y5 y6, LR row' (rowStep ns a ps) (i + 1) L' ∧ body [x0, some (.d (.list (ns.map .int))), some (.d (.int a)), some (.d (.list (rowD row))), some (.d (.int i)), x5, x6] S = .nx [x0, some (.d (.list (ns.map .int))), some (.d (.int ((a + 2 : Nat) : Int))), some (.d (.list (rowD row'))), some (.d (.int i)), y5, y6] S := by
  subst hb
  obtain ⟨rel, cov, hlen, sm⟩ := h
  have eL := rel.len
  have e0 := mx_cov cov
  have LB := sm.len
  have hn := nx_lt ns a (2 * L + 1) (by omega)
  have c1 := rowC (n := nx ns a (2 * L + 1)) cov (by omega)
  have r1 := rowR (i := i) (s := 0) (n := nx ns a (2 * L + 1)) rel (by omega) (by omega)
  have s1 := sm.lput (n := nx ns a (2 * L + 1)) (mk := (i, 0)) (rnd := false) (by omega) (fun z => nomatch z)
  have p1 := h23 S row (2 * i) (nx ns a (2 * L + 1)) (i, 0) false sm (by omega) (by omega) (fun z => nomatch z)
  have q1 := h22 S ns a (2 * L + 1) (by omega)
  have lB := len_rowP ps (nx ns a (2 * L + 1))
  have eB : rowP ps (nx ns a (2 * L + 1)) = rowB ns a ps := by unfold rowB; rw [e0]
  rw [eB] at c1 r1 lB
  generalize lput false row (nx ns a (2 * L + 1)) (i, 0) = row1 at *
  generalize rL (nx ns a (2 * L + 1)) L = L1 at *
  have fin : rowStep ns a ps = (rowE ns a (rowB ns a ps)).1 ++ [((rowB ns a ps).2, (rowE ns a (rowB ns a ps)).2)] := rfl
  have sz : max ((rowB ns a ps).2 + 1) (mx (flat (rowB ns a ps).1)) = L1 := mx_cov c1
  have eE : rowE ns a (rowB ns a ps) = rowP (rowB ns a ps).1 (2 * (rowB ns a ps).2 + 2 + nx ns (a + 1) (2 * (L1 - (rowB ns a ps).2) - 1)) := by
    unfold rowE
    have em : max (mx (flat (rowB ns a ps).1)) ((rowB ns a ps).2 + 1) = L1 := by omega
    rw [em]
  rw [eE] at fin
  clear eE eB
  generalize rowB ns a ps = B at *
  obtain ⟨P, b⟩ := B
  simp only at *
  have hb := c1.1 b (by simp)
  have eL1 := r1.len
  have at1 : At row1 (i, 0) b := r1.at_ ((i, 0), b) (by simp)
  have p2 := h24 S row1 (i, 0) b (by have := s1.len; omega) at1
  have hm : 0 < 2 * (L1 - b) - 1 := by omega
  have hn2 := nx_lt ns (a + 1) (2 * (L1 - b) - 1) hm
  have q2 := h22 S ns (a + 1) (2 * (L1 - b) - 1) hm
  have sl1 := s1.len
  obtain ⟨g1, g2, g3⟩ := rg2 (2 * b + 2) (2 * (L1 - b) - 1) (by omega)
  have eg : 2 * b + 2 + (2 * (L1 - b) - 1) = 2 * L1 + 1 := by omega
  rw [eg] at g1 g2 g3
  have g3 := g3 _ hn2
  have c2 := rowC2 (n := 2 * b + 2 + nx ns (a + 1) (2 * (L1 - b) - 1)) c1 (by omega) (by omega)
  have r2 := rowR2 (n := 2 * b + 2 + nx ns (a + 1) (2 * (L1 - b) - 1)) r1 (by omega) (by omega) (by omega)
  have p3 := h23 S row1 (2 * i + 1) (2 * b + 2 + nx ns (a + 1) (2 * (L1 - b) - 1)) (i, 1) false s1 (by omega) (by omega) (fun z => nomatch z)
  have s2 := s1.lput (n := 2 * b + 2 + nx ns (a + 1) (2 * (L1 - b) - 1)) (mk := (i, 1)) (rnd := false) (by omega) (fun z => nomatch z)
  have lE := len_rowP P (2 * b + 2 + nx ns (a + 1) (2 * (L1 - b) - 1))
  generalize 2 * b + 2 + nx ns (a + 1) (2 * (L1 - b) - 1) = pl at *
  generalize rowP P pl = E at *
  obtain ⟨Q, e⟩ := E
  simp only at *
  refine ⟨lput false row1 pl (i, 1), rL pl L1, some (.d (.int b)), some (.d (.list ((rgL ((2 * b + 2 : Nat) : Int) ((2 * L1 + 1 : Nat) : Int)).map .int))), ⟨?_, ?_, ?_, ?_⟩, ?_⟩
  · rw [fin, ms_snoc]
    have el : 0 + Q.length = i := by omega
    rw [el]
    exact r2.perm fun x => by simp only [List.mem_cons, List.mem_append, List.not_mem_nil, or_false]; constructor <;> intro z <;> rcases z with z | z | z <;> simp [z]
  · rw [fin, flat_snoc]
    exact c2.perm fun x => by simp only [List.mem_cons, List.mem_append, List.not_mem_nil, or_false]; constructor <;> intro z <;> rcases z with z | z | z <;> simp [z]
  · rw [fin, List.length_append]; simp; omega
  · exact s2
  · have z1 : 2 * (row.length : Int) + 1 = ((2 * L + 1 : Nat) : Int) := by omega
    have z2 : 2 * (b : Int) + 2 = ((2 * b + 2 : Nat) : Int) := by omega
    have z3 : 2 * (row1.length : Int) + 1 = ((2 * L1 + 1 : Nat) : Int) := by omega
    have z4 : (a : Int) + 1 = ((a + 1 : Nat) : Int) := by omega
    have z5 : (a : Int) + 2 = ((a + 2 : Nat) : Int) := by omega
    have m0 : PyData.tuple [.int (i : Int), .int 0] = markD (i, 0) := rfl
    have m1 : PyData.tuple [.int (i : Int), .int 1] = markD (i, 1) := rfl
    rw [List.length_map] at g2
    simp -implicitDefEqProofs [-Int.natCast_ediv, -Int.natCast_add, -Int.natCast_emod, -Int.natCast_mul, len_rowD, z1, q1, m0, m1, p1, p2, z2, z3, g1, g2, z4, q2, g3, p3, z5]
theorem lrow_loop {F : Fns} (h22 : H22 F) (h23 : H23 F) (h24 : H24 F) {S : Store} {ns : List Int} {x0 : Option A} (body : DS)
    (hb : body = (dSeq (dAsg (gN 3) (dCall F 23 (dCons (dName 3) (dCons (dCall F 22 (dCons (dName 1) (dCons (dName 2) (dCons (dOp2 (pu2 addD) (dOp2 mulA (dVal (.int 2)) (dCallB lenA (dCons (dName 3) dNil))) (dVal (.int 1))) dNil)))) (dCons (dTup (dCons (dName 4) (dCons (dVal (.int 0)) dNil))) (dCons (dVal (.bool false)) dNil))))))
    (dSeq (dAsg (gN 5) (dCall F 24 (dCons (dName 3) (dCons (dTup (dCons (dName 4) (dCons (dVal (.int 0)) dNil))) dNil))))
    (dSeq (dAsg (gN 6) (dOp2 (pu2 rgD2) (dOp2 (pu2 addD) (dOp2 mulA (dVal (.int 2)) (dName 5)) (dVal (.int 2))) (dOp2 (pu2 addD) (dOp2 mulA (dVal (.int 2)) (dCallB lenA (dCons (dName 3) dNil))) (dVal (.int 1)))))
    (dSeq (dAsg (gN 3) (dCall F 23 (dCons (dName 3) (dCons (dOp2 ixU (dName 6) (dCall F 22 (dCons (dName 1) (dCons (dOp2 (pu2 addD) (dName 2) (dVal (.int 1))) (dCons (dCallB lenA (dCons (dName 6) dNil)) dNil))))) (dCons (dTup (dCons (dName 4) (dCons (dVal (.int 1)) dNil))) (dCons (dVal (.bool false)) dNil))))))
    (dAsg (gN 2) (dOp2 (pu2 addD) (dName 2) (dVal (.int 2))))))))) :
    ∀ (m a i : Nat) (row : Row) (ps : List (Nat × Nat)) (L : Nat) (x4 x5 x6 : Option A), LR row ps i L → i + m ≤ 100 →
      ∃ row' L' a' y4 y5 y6, LR row' (rowLoop ns m a ps) (i + m) L' ∧ loopF (gN 4) body ((List.range' i m).map fun j : Nat => PyData.int j) [x0, some (.d (.list (ns.map .int))), some (.d (.int a)), some (.d (.list (rowD row))), x4, x5, x6] S = .nx [x0, some (.d (.list (ns.map .int))), some (.d (.int a')), some (.d (.list (rowD row'))), y4, y5, y6] S
  | 0, a, i, row, ps, L, x4, x5, x6, h, _ => ⟨row, L, a, x4, x5, x6, h, rfl⟩
  | m + 1, a, i, row, ps, L, x4, x5, x6, h, hi => by
    obtain ⟨row1, L1, y5, y6, h1, e1⟩ := lrow_body h22 h23 h24 (S := S) (ns := ns) (a := a) (x0 := x0) (x5 := x5) (x6 := x6) h (by omega) body hb
    obtain ⟨row2, L2, a2, z4, z5, z6, h2, e2⟩ := lrow_loop h22 h23 h24 body hb m (a + 2) (i + 1) row1 (rowStep ns a ps) L1 (some (.d (.int i))) y5 y6 h1 (by omega)
    have ei : i + 1 + m = i + (m + 1) := by omega
    rw [ei] at h2
    refine ⟨row2, L2, a2, z4, z5, z6, h2, ?_⟩
    show loopF _ _ (.int i :: (List.range' (i + 1) m).map fun j : Nat => PyData.int j) _ _ = _
    unfold loopF
    have eg : gN 4 (.d (.int i)) [x0, some (.d (.list (ns.map .int))), some (.d (.int a)), some (.d (.list (rowD row))), x4, x5, x6] = some [x0, some (.d (.list (ns.map .int))), some (.d (.int a)), some (.d (.list (rowD row))), some (.d (.int i)), x5, x6] := rfl
    rw [eg]
    simp only [e1]
    exact e2
theorem at_ms {row : Row} {ps : List (Nat × Nat)} {L j : Nat} (h : RelM row (msOf 0 ps) L) (hj : j < ps.length) : At row (j, 0) ps[j].1 ∧ At row (j, 1) ps[j].2 := by
  obtain ⟨h1, h2⟩ := ms_get 0 ps j ps[j] (List.getElem?_eq_getElem hj)
  rw [Nat.zero_add] at h1 h2
  exact ⟨h.at_ _ h1, h.at_ _ h2⟩
/-- the pairs told by the stands -/
theorem told_map {ps : List (Nat × Nat)} {c : Nat} (hc : ps.length = c) (g : PyData → PyData) (hg : ∀ j (h : j < ps.length), g (.int j) = .tuple [.int ps[j].1, .int ps[j].2]) : (nI (List.range c)).map g = pD ps := by
  subst hc
  unfold nI pD
  rw [List.map_map]
  refine List.ext_getElem (by simp) fun j h1 h2 => ?_
  simp only [List.getElem_map, List.getElem_range, Function.comp]
  exact hg j (by simpa using h2)
theorem e25 (k : Nat) (S : Store) (ns : List Int) (c a : Nat) (hc : c ≤ 100) : cd (k + 2) 25 [.d (.int c), .d (.list (ns.map .int)), .d (.int a)] S = .ok (.d (lineD ns c a)) S := by
  have h22 : H22 (cd (k + 1)) := e22 k
  have h23 : H23 (cd (k + 1)) := e23 k
  have h24 : H24 (cd (k + 1)) := e24 k
  rw [v25 (k + 1) _ S rfl]
  generalize cd (k + 1) = F at *
  generalize cm (k + 1) = Fm at *
  have start : LR [] [] 0 0 := ⟨⟨rfl, (fun p hp => nomatch hp), (fun mk j h => by simp at h)⟩, ⟨(fun x hx => by simp [flat] at hx), (fun q hq => by omega)⟩, rfl, ⟨Nat.zero_le _, (fun c hc => nomatch hc)⟩⟩
  obtain ⟨row, L, a', y4, y5, y6, h, e⟩ := lrow_loop h22 h23 h24 (S := S) (ns := ns) (x0 := some (A.d (.int c))) _ rfl c a 0 [] [] 0 none none none start (by omega)
  rw [Nat.zero_add] at h
  have hr : rgI (.int 0) (.int (c : Int)) = some (nI (List.range c)) := by
    rw [← rg_nI]
    exact ev_rgI (by simp [rgOk]; omega)
  have er : (List.range' 0 c).map (fun j : Nat => PyData.int j) = nI (List.range c) := by rw [← List.range_eq_range']; rfl
  rw [er] at e
  have er0 : PyData.list (rowD []) = .list [] := rfl
  rw [er0] at e
  have hl := h.len
  generalize hps : rowLoop ns c a [] = ps at *
  let g : PyData → PyData := fun d => match d with
    | .int j => .tuple [.int (ps.getD j.toNat (0, 0)).1, .int (ps.getD j.toNat (0, 0)).2]
    | _ => .none
  have hg : (nI (List.range c)).map g = pD ps := told_map hl g fun j hj => by
    show PyData.tuple [.int (ps.getD j (0, 0)).1, .int (ps.getD j (0, 0)).2] = _
    rw [List.getD_eq_getElem?_getD, List.getElem?_eq_getElem hj]
    rfl
  have hlc : dLc (dRg1 (dName 0)) [4] (gN 4) dTrue (dTup (dCons (dCall F 24 (dCons (dName 3) (dCons (dTup (dCons (dName 4) (dCons (dVal (.int 0)) dNil))) dNil))) (dCons (dCall F 24 (dCons (dName 3) (dCons (dTup (dCons (dName 4) (dCons (dVal (.int 1)) dNil))) dNil))) dNil))) [some (.d (.int c)), some (.d (.list (ns.map .int))), some (.d (.int a')), some (.d (.list (rowD row))), y4, y5, y6] S = .ok (.d (.list (pD ps))) S := by
    rw [← hg]
    refine ev_lcM g (by simp -implicitDefEqProofs [-Int.natCast_ediv, -Int.natCast_add, -Int.natCast_emod, -Int.natCast_mul, hr]) (by rw [len_nI, List.length_range]; omega) fun x hx => ?_
    unfold nI at hx
    rw [List.mem_map] at hx
    obtain ⟨j, hj, rfl⟩ := hx
    have hj := List.mem_range.mp hj
    refine ⟨_, rfl, ?_⟩
    obtain ⟨a1, a2⟩ := at_ms h.rel (j := j) (by omega)
    have hlen : row.length ≤ 1000 := by have := h.sm.len; omega
    have t1 := h24 S row (j, 0) _ hlen a1
    have t2 := h24 S row (j, 1) _ hlen a2
    have m0 : PyData.tuple [.int (j : Int), .int 0] = markD (j, 0) := rfl
    have m1 : PyData.tuple [.int (j : Int), .int 1] = markD (j, 1) := rfl
    have eg : g (.int j) = .tuple [.int ps[j].1, .int ps[j].2] := by
      show PyData.tuple [.int (ps.getD j (0, 0)).1, .int (ps.getD j (0, 0)).2] = _
      rw [List.getD_eq_getElem?_getD, List.getElem?_eq_getElem (by omega)]
      rfl
    rw [eg]
    simp -implicitDefEqProofs [-Int.natCast_ediv, -Int.natCast_add, -Int.natCast_emod, -Int.natCast_mul, m0, m1, t1, t2]
  unfold b25
  simp -implicitDefEqProofs [-Int.natCast_ediv, -Int.natCast_add, -Int.natCast_emod, -Int.natCast_mul, hr, e, hlc, tupleD, lineD, hps]
end K76

namespace K76
open PySem PySem.Spec L2 Ev
theorem rndC {ps : List (Nat × Nat)} {n L : Nat} (h : Cov (flat ps) L) (hn : n < 2 * L) : Cov ((rndP ps n).2 :: flat (rndP ps n).1) (dL n L) := by
  unfold rndP dL
  by_cases ho : n % 2 = 1
  · simp only [if_pos ho]
    rw [flat_opened]
    exact h.ins (by omega)
  · simp only [if_neg ho]; exact h.old (by omega)
theorem up_beg {n b b' : Nat} {ps : List (Nat × Nat)} (ho : n % 2 = 1) (e' : b' = if n % 2 = 1 ∧ (rndP ps n).2 ≤ b then b + 1 else b) : up (n / 2 + 1) b = b' := by
  have e2 : (rndP ps n).2 = n / 2 + 1 := by unfold rndP; rw [if_pos ho]
  rw [e2] at e'
  rw [e']
  unfold up
  by_cases hq : n / 2 + 1 ≤ b
  · rw [if_pos hq, if_pos ⟨ho, hq⟩]
  · rw [if_neg hq, if_neg (fun z => hq z.2)]
theorem rndC2 {ps : List (Nat × Nat)} {n L b b' : Nat} (h : Cov (b :: flat ps) L) (hn : n < 2 * L) (e' : b' = if n % 2 = 1 ∧ (rndP ps n).2 ≤ b then b + 1 else b) : Cov ((rndP ps n).2 :: b' :: flat (rndP ps n).1) (dL n L) := by
  by_cases ho : n % 2 = 1
  · have eb := up_beg ho e'
    unfold rndP dL
    simp only [if_pos ho]
    have e := h.ins (m := n / 2 + 1) (by omega)
    rw [List.map_cons, ← flat_opened, eb] at e
    exact e
  · rw [if_neg (fun z => ho z.1)] at e'
    subst e'
    unfold rndP dL
    simp only [if_neg ho]
    exact h.old (by omega)
theorem rndR {row : Row} {ps : List (Nat × Nat)} {i s L n : Nat} (h : RelM row (msOf 0 ps) L) (hn : n < 2 * L) (hi : ps.length ≤ i) : RelM (lput true row n (i, s)) (((i, s), (rndP ps n).2) :: msOf 0 (rndP ps n).1) (dL n L) := by
  have new : ∀ q, ((i, s), q) ∉ msOf 0 ps := fun q z => by have := ms_lt 0 ps _ z; simp at this; omega
  unfold lput rndP dL
  by_cases ho : n % 2 = 1
  · simp only [if_pos ho]
    rw [ms_opened]
    exact h.new (by omega) new
  · simp only [if_neg ho]
    exact h.old (by omega) new
theorem rndR2 {row : Row} {ps : List (Nat × Nat)} {i L n b b' : Nat} (h : RelM row (((i, 0), b) :: msOf 0 ps) L) (hn : n < 2 * L) (hi : ps.length ≤ i) (e' : b' = if n % 2 = 1 ∧ (rndP ps n).2 ≤ b then b + 1 else b) :
    RelM (lput true row n (i, 1)) (((i, 1), (rndP ps n).2) :: ((i, 0), b') :: msOf 0 (rndP ps n).1) (dL n L) := by
  have new : ∀ q, (((i, 1) : Mk), q) ∉ ((i, 0), b) :: msOf 0 ps := fun q z => by
    rcases List.mem_cons.mp z with z | z
    · simp at z
    · have := ms_lt 0 ps _ z; simp at this; omega
  by_cases ho : n % 2 = 1
  · have eb := up_beg ho e'
    unfold lput rndP dL
    simp only [if_pos ho]
    rw [ms_opened]
    have e := h.new (m := n / 2 + 1) (mk := (i, 1)) (by omega) new
    rw [List.map_cons] at e
    simp only [eb] at e
    exact e
  · rw [if_neg (fun z => ho z.1)] at e'
    subst e'
    unfold lput rndP dL
    simp only [if_neg ho]
    exact h.old (by omega) new
theorem rnd_nil_cov : Cov (flat [(0, 1)]) 2 := ⟨fun x hx => by simp [flat] at hx; omega, fun q hq => by simp [flat]; omega⟩
theorem lc_places {n b sz : Nat} {S : Store} {l l2 : Ev.Loc} {di : DR (List PyData)} {x4 x5 : Option A} {x0 x1 x2 x3 : Option A} (hsz : sz ≤ 1000) (hl : l = [x0, x1, x2, x3, some (.d (.int b)), x5, none]) (hi : di l S = .ok (nI (List.range (2 * sz))) S) :
    dLc di [6] (gN 6) (toB (dOp2 (pu2 (notD eqD)) (dName 6) (dOp2 mulA (dVal (.int 2)) (dName 4)))) (dName 6) l S = .ok (.d (.list (nI (rndPl b sz)))) S := by
  subst hl
  have hf : (nI (List.range (2 * sz))).filterMap (fun d => match d with | .int i => if i = 2 * (b : Int) then none else some (.int i) | _ => none) = nI (rndPl b sz) := by
    unfold nI rndPl
    refine fm_map (fun i => ?_) _
    show (if (i : Int) = 2 * (b : Int) then none else some (PyData.int i)) = if decide (i ≠ 2 * b) = true then some (PyData.int i) else none
    by_cases hi : i = 2 * b
    · rw [if_pos (by omega), if_neg (by simp [hi])]
    · rw [if_neg (by omega), if_pos (by simp [hi])]
  rw [← hf]
  refine ev_lc _ hi (by rw [len_nI, List.length_range]; omega) fun x hx => ?_
  unfold nI at hx
  rw [List.mem_map] at hx
  obtain ⟨i, _, rfl⟩ := hx
  refine ⟨_, rfl, ?_⟩
  by_cases hi : (i : Int) = 2 * (b : Int)
  · right
    simp -implicitDefEqProofs [-Int.natCast_ediv, -Int.natCast_add, -Int.natCast_emod, -Int.natCast_mul, hi]
  · left
    simp -implicitDefEqProofs [-Int.natCast_ediv, -Int.natCast_add, -Int.natCast_emod, -Int.natCast_mul, hi]
theorem lrnd_body {F : Fns} (h22 : H22 F) (h23 : H23 F) (h24 : H24 F) {S : Store} {ns : List Int} {i L : Nat} {row : Row} {ps : List (Nat × Nat)} {x0 x4 x5 : Option A} (h : LR row ps (i + 1) L) (h0 : 0 < L) (hi : i ≤ 100) (body : DS)
    (hb : body = (dSeq (dAsg (gN 2) (dCall F 23 (dCons (dName 2) (dCons (dCall F 22 (dCons (dName 1) (dCons (dOp2 (pu2 subD) (dOp2 mulA (dVal (.int 2)) (dName 3)) (dVal (.int 2))) (dCons (dOp2 mulA (dVal (.int 2)) (dCallB lenA (dCons (dName 2) dNil))) dNil)))) (dCons (dTup (dCons (dName 3) (dCons (dVal (.int 0)) dNil))) (dCons (dVal (.bool true)) dNil))))))
    (dSeq (dAsg (gN 4) (dCall F 24 (dCons (dName 2) (dCons (dTup (dCons (dName 3) (dCons (dVal (.int 0)) dNil))) dNil))))
    (dSeq (dAsg (gN 5) (dLc (dRg1 (dOp2 mulA (dVal (.int 2)) (dCallB lenA (dCons (dName 2) dNil)))) [6] (gN 6) (toB (dOp2 (pu2 (notD eqD)) (dName 6) (dOp2 mulA (dVal (.int 2)) (dName 4)))) (dName 6)))
    (dAsg (gN 2) (dCall F 23 (dCons (dName 2) (dCons (dOp2 ixU (dName 5) (dCall F 22 (dCons (dName 1) (dCons (dOp2 (pu2 subD) (dOp2 mulA (dVal (.int 2)) (dName 3)) (dVal (.int 1))) (dCons (dCallB lenA (dCons (dName 5) dNil)) dNil))))) (dCons (dTup (dCons (dName 3) (dCons (dVal (.int 1)) dNil))) (dCons (dVal (.bool true)) dNil)))))))))) :
    ∃ row' L' y4 y5, LR row' (rndStep ns (2 * i) ps) (i + 2) L' ∧ 0 < L' ∧ body [x0, some (.d (.list (ns.map .int))), some (.d (.list (rowD row))), some (.d (.int ((i + 1 : Nat) : Int))), x4, x5, none] S = .nx [x0, some (.d (.list (ns.map .int))), some (.d (.list (rowD row'))), some (.d (.int ((i + 1 : Nat) : Int))), y4, y5, none] S := by
  subst hb
  obtain ⟨rel, cov, hlen, sm⟩ := h
  have eL := rel.len
  have e0 := mx_cov cov
  have LB := sm.len
  have hn := nx_lt ns (2 * i) (2 * L) (by omega)
  have c1 := rndC (n := nx ns (2 * i) (2 * L)) cov (by omega)
  have r1 := rndR (i := i + 1) (s := 0) (n := nx ns (2 * i) (2 * L)) rel (by omega) (by omega)
  have s1 := sm.lput (n := nx ns (2 * i) (2 * L)) (mk := (i + 1, 0)) (rnd := true) (by omega) (fun _ => by omega)
  have p1 := h23 S row (2 * (i + 1)) (nx ns (2 * i) (2 * L)) (i + 1, 0) true sm (by omega) (by omega) (fun _ => by omega)
  have q1 := h22 S ns (2 * i) (2 * L) (by omega)
  have lB := len_rndP ps (nx ns (2 * i) (2 * L))
  have eB : rndP ps (nx ns (2 * i) (2 * L)) = rndB ns (2 * i) ps := by unfold rndB; rw [e0]
  rw [eB] at c1 r1 lB
  generalize lput true row (nx ns (2 * i) (2 * L)) (i + 1, 0) = row1 at *
  have dl : L ≤ dL (nx ns (2 * i) (2 * L)) L := by unfold dL; split <;> omega
  generalize dL (nx ns (2 * i) (2 * L)) L = L1 at *
  have fin : rndStep ns (2 * i) ps = (rndE ns (2 * i) (rndB ns (2 * i) ps)).1 ++ [(rndBeg ns (2 * i) (rndB ns (2 * i) ps), (rndE ns (2 * i) (rndB ns (2 * i) ps)).2)] := rfl
  have sz : max ((rndB ns (2 * i) ps).2 + 1) (mx (flat (rndB ns (2 * i) ps).1)) = L1 := mx_cov c1
  have ep : rndPlace ns (2 * i) (rndB ns (2 * i) ps) = (rndPl (rndB ns (2 * i) ps).2 L1).getD (nx ns (2 * i + 1) (rndPl (rndB ns (2 * i) ps).2 L1).length) 0 := by
    unfold rndPlace
    have em : max (mx (flat (rndB ns (2 * i) ps).1)) ((rndB ns (2 * i) ps).2 + 1) = L1 := by omega
    rw [em]
  have eE : rndE ns (2 * i) (rndB ns (2 * i) ps) = rndP (rndB ns (2 * i) ps).1 (rndPlace ns (2 * i) (rndB ns (2 * i) ps)) := rfl
  have eBg : rndBeg ns (2 * i) (rndB ns (2 * i) ps) = if rndPlace ns (2 * i) (rndB ns (2 * i) ps) % 2 = 1 ∧ (rndP (rndB ns (2 * i) ps).1 (rndPlace ns (2 * i) (rndB ns (2 * i) ps))).2 ≤ (rndB ns (2 * i) ps).2 then (rndB ns (2 * i) ps).2 + 1 else (rndB ns (2 * i) ps).2 := rfl
  rw [eE] at fin
  rw [ep] at fin eBg
  clear eE ep eB
  generalize rndBeg ns (2 * i) (rndB ns (2 * i) ps) = b' at *
  generalize rndB ns (2 * i) ps = B at *
  obtain ⟨P, b⟩ := B
  simp only at *
  have hb := c1.1 b (by simp)
  have eL1 := r1.len
  have sl1 := s1.len
  have at1 : At row1 (i + 1, 0) b := r1.at_ ((i + 1, 0), b) (by simp)
  have p2 := h24 S row1 (i + 1, 0) b (by omega) at1
  obtain ⟨k1, k2⟩ := len_pl b L1 hb
  have hlt := nx_lt ns (2 * i + 1) _ k1
  have q2 := h22 S ns (2 * i + 1) _ k1
  obtain ⟨t1, t2⟩ := place_mem (ns := ns) (a := 2 * i + 1) hb
  have hix : atI (nI (rndPl b L1)) ((nx ns (2 * i + 1) (rndPl b L1).length : Nat) : Int) = some (.int ((rndPl b L1).getD (nx ns (2 * i + 1) (rndPl b L1).length) 0)) := by
    rw [atI_n (by rw [len_nI]; exact hlt)]
    unfold nI
    rw [List.getElem?_map, List.getElem?_eq_getElem hlt, List.getD_eq_getElem?_getD, List.getElem?_eq_getElem hlt]
    rfl
  generalize (rndPl b L1).getD (nx ns (2 * i + 1) (rndPl b L1).length) 0 = pl at *
  have c2 := rndC2 (b' := b') c1 t1 eBg
  have r2 := rndR2 (b' := b') r1 t1 (by omega) eBg
  have p3 := h23 S row1 (2 * (i + 1) + 1) pl (i + 1, 1) true s1 (by omega) (by omega) (fun _ => by omega)
  have s2 := s1.lput (n := pl) (mk := (i + 1, 1)) (rnd := true) (by omega) (fun _ => by omega)
  have lE := len_rndP P pl
  clear eBg
  generalize rndP P pl = E at *
  obtain ⟨Q, e⟩ := E
  simp only at *
  refine ⟨lput true row1 pl (i + 1, 1), dL pl L1, some (.d (.int b)), some (.d (.list (nI (rndPl b L1)))), ⟨?_, ?_, ?_, ?_⟩, ?_, ?_⟩
  · rw [fin, ms_snoc]
    have el : 0 + Q.length = i + 1 := by omega
    rw [el]
    exact r2.perm fun x => by simp only [List.mem_cons, List.mem_append, List.not_mem_nil, or_false]; constructor <;> intro z <;> rcases z with z | z | z <;> simp [z]
  · rw [fin, flat_snoc]
    exact c2.perm fun x => by simp only [List.mem_cons, List.mem_append, List.not_mem_nil, or_false]; constructor <;> intro z <;> rcases z with z | z | z <;> simp [z]
  · rw [fin, List.length_append]; simp; omega
  · exact s2
  · unfold dL; split <;> omega
  · have z1 : 2 * (row.length : Int) = ((2 * L : Nat) : Int) := by omega
    have z2 : 2 * ((i + 1 : Nat) : Int) - 2 = ((2 * i : Nat) : Int) := by omega
    have z3 : 2 * (row1.length : Int) = ((2 * L1 : Nat) : Int) := by omega
    have z4 : 2 * ((i + 1 : Nat) : Int) - 1 = ((2 * i + 1 : Nat) : Int) := by omega
    have m0 : PyData.tuple [.int ((i + 1 : Nat) : Int), .int 0] = markD (i + 1, 0) := rfl
    have m1 : PyData.tuple [.int ((i + 1 : Nat) : Int), .int 1] = markD (i + 1, 1) := rfl
    have hr : rgI (.int 0) (.int ((2 * L1 : Nat) : Int)) = some (nI (List.range (2 * L1))) := by
      rw [← rg_nI]
      exact ev_rgI (by simp [rgOk]; omega)
    have hlc := lc_places (n := 0) (b := b) (sz := L1) (S := S) (l2 := []) (x4 := none) (di := dRg1 (dOp2 mulA (dVal (.int 2)) (dCallB lenA (dCons (dName 2) dNil)))) (x0 := x0) (x1 := some (.d (.list (ns.map .int)))) (x2 := some (.d (.list (rowD row1)))) (x3 := some (.d (.int ((i + 1 : Nat) : Int)))) (x5 := x5) (by omega) rfl (by simp -implicitDefEqProofs [-Int.natCast_ediv, -Int.natCast_add, -Int.natCast_emod, -Int.natCast_mul, len_rowD, z3, hr])
    simp -implicitDefEqProofs [-Int.natCast_ediv, -Int.natCast_add, -Int.natCast_emod, -Int.natCast_mul, len_rowD, z1, z2, q1, m0, m1, p1, p2, hlc, len_nI, z4, q2, hix, p3]
theorem lrnd_loop {F : Fns} (h22 : H22 F) (h23 : H23 F) (h24 : H24 F) {S : Store} {ns : List Int} {x0 : Option A} (body : DS)
    (hb : body = (dSeq (dAsg (gN 2) (dCall F 23 (dCons (dName 2) (dCons (dCall F 22 (dCons (dName 1) (dCons (dOp2 (pu2 subD) (dOp2 mulA (dVal (.int 2)) (dName 3)) (dVal (.int 2))) (dCons (dOp2 mulA (dVal (.int 2)) (dCallB lenA (dCons (dName 2) dNil))) dNil)))) (dCons (dTup (dCons (dName 3) (dCons (dVal (.int 0)) dNil))) (dCons (dVal (.bool true)) dNil))))))
    (dSeq (dAsg (gN 4) (dCall F 24 (dCons (dName 2) (dCons (dTup (dCons (dName 3) (dCons (dVal (.int 0)) dNil))) dNil))))
    (dSeq (dAsg (gN 5) (dLc (dRg1 (dOp2 mulA (dVal (.int 2)) (dCallB lenA (dCons (dName 2) dNil)))) [6] (gN 6) (toB (dOp2 (pu2 (notD eqD)) (dName 6) (dOp2 mulA (dVal (.int 2)) (dName 4)))) (dName 6)))
    (dAsg (gN 2) (dCall F 23 (dCons (dName 2) (dCons (dOp2 ixU (dName 5) (dCall F 22 (dCons (dName 1) (dCons (dOp2 (pu2 subD) (dOp2 mulA (dVal (.int 2)) (dName 3)) (dVal (.int 1))) (dCons (dCallB lenA (dCons (dName 5) dNil)) dNil))))) (dCons (dTup (dCons (dName 3) (dCons (dVal (.int 1)) dNil))) (dCons (dVal (.bool true)) dNil)))))))))) :
    ∀ (m i : Nat) (row : Row) (ps : List (Nat × Nat)) (L : Nat) (x3 x4 x5 : Option A), LR row ps (i + 1) L → 0 < L → i + m ≤ 100 →
      ∃ row' L' y3 y4 y5, LR row' (rndLoop ns m (2 * i) ps) (i + 1 + m) L' ∧ loopF (gN 3) body ((List.range' (i + 1) m).map fun j : Nat => PyData.int j) [x0, some (.d (.list (ns.map .int))), some (.d (.list (rowD row))), x3, x4, x5, none] S = .nx [x0, some (.d (.list (ns.map .int))), some (.d (.list (rowD row'))), y3, y4, y5, none] S
  | 0, i, row, ps, L, x3, x4, x5, h, _, _ => ⟨row, L, x3, x4, x5, h, rfl⟩
  | m + 1, i, row, ps, L, x3, x4, x5, h, hp, hi => by
    obtain ⟨row1, L1, y4, y5, h1, hp1, e1⟩ := lrnd_body h22 h23 h24 (S := S) (ns := ns) (x0 := x0) (x4 := x4) (x5 := x5) h hp (by omega) body hb
    obtain ⟨row2, L2, z3, z4, z5, h2, e2⟩ := lrnd_loop h22 h23 h24 body hb m (i + 1) row1 (rndStep ns (2 * i) ps) L1 (some (.d (.int ((i + 1 : Nat) : Int)))) y4 y5 h1 hp1 (by omega)
    have ei : i + 1 + 1 + m = i + 1 + (m + 1) := by omega
    rw [ei] at h2
    refine ⟨row2, L2, z3, z4, z5, h2, ?_⟩
    show loopF _ _ (.int ((i + 1 : Nat) : Int) :: (List.range' (i + 1 + 1) m).map fun j : Nat => PyData.int j) _ _ = _
    unfold loopF
    have eg : gN 3 (.d (.int ((i + 1 : Nat) : Int))) [x0, some (.d (.list (ns.map .int))), some (.d (.list (rowD row))), x3, x4, x5, none] = some [x0, some (.d (.list (ns.map .int))), some (.d (.list (rowD row))), some (.d (.int ((i + 1 : Nat) : Int))), x4, x5, none] := rfl
    rw [eg]
    simp only [e1]
    exact e2
theorem e26 (k : Nat) (S : Store) (ns : List Int) (c : Nat) (hc : c ≤ 100) (h1 : 1 ≤ c) : cd (k + 2) 26 [.d (.int c), .d (.list (ns.map .int))] S = .ok (.d (ringD ns c)) S := by
  have h22 : H22 (cd (k + 1)) := e22 k
  have h23 : H23 (cd (k + 1)) := e23 k
  have h24 : H24 (cd (k + 1)) := e24 k
  rw [v26 (k + 1) _ S rfl]
  generalize cd (k + 1) = F at *
  generalize cm (k + 1) = Fm at *
  have start : LR [[(0, 0)], [(0, 1)]] [(0, 1)] (0 + 1) 2 := by
    refine ⟨⟨rfl, fun p hp j => ?_, fun mk j h => ?_⟩, rnd_nil_cov, rfl, ⟨Nat.le_refl _, fun c hc => ?_⟩⟩
    · simp only [msOf, List.mem_cons, List.not_mem_nil, or_false] at hp
      rcases hp with rfl | rfl
      · match j with
        | 0 => simp
        | 1 => simp
        | j + 2 => simp
      · match j with
        | 0 => simp
        | 1 => simp
        | j + 2 => simp
    · match j, h with
      | 0, h => simp at h; subst h; exact ⟨0, by simp [msOf]⟩
      | 1, h => simp at h; subst h; exact ⟨1, by simp [msOf]⟩
      | j + 2, h => simp at h
    · simp at hc
      rcases hc with rfl | rfl <;> decide
  obtain ⟨row, L, y3, y4, y5, h, e⟩ := lrnd_loop h22 h23 h24 (S := S) (ns := ns) (x0 := some (A.d (.int c))) _ rfl (c - 1) 0 [[(0, 0)], [(0, 1)]] [(0, 1)] 2 none none none start (by omega) (by omega)
  have ec : 0 + 1 + (c - 1) = c := by omega
  rw [ec, Nat.mul_zero] at h
  have hr1 : rgI (.int 1) (.int (c : Int)) = some ((List.range' (0 + 1) (c - 1)).map fun j : Nat => PyData.int j) := by
    have e2 : (rgL 1 (c : Int)).map PyData.int = (List.range' (0 + 1) (c - 1)).map fun j : Nat => PyData.int j := by
      unfold rgL
      have ez : ((c : Int) - 1).toNat = c - 1 := by omega
      rw [ez, List.map_map, List.range_eq_range', List.range'_eq_map_range, List.range'_eq_map_range, List.map_map, List.map_map]
      refine List.map_congr_left fun j _ => ?_
      show PyData.int (1 + ((0 + j : Nat) : Int)) = PyData.int ((0 + 1 + j : Nat) : Int)
      congr 1
      omega
    rw [← e2]
    exact ev_rgI (by simp [rgOk]; omega)
  have hr : rgI (.int 0) (.int (c : Int)) = some (nI (List.range c)) := by
    rw [← rg_nI]
    exact ev_rgI (by simp [rgOk]; omega)
  have er0 : rowD [[(0, 0)], [(0, 1)]] = [.list [.tuple [.int 0, .int 0]], .list [.tuple [.int 0, .int 1]]] := rfl
  rw [er0] at e
  have hl := h.len
  generalize hps : rndLoop ns (c - 1) 0 [(0, 1)] = ps at *
  let g : PyData → PyData := fun d => match d with
    | .int j => .tuple [.int (ps.getD j.toNat (0, 0)).1, .int (ps.getD j.toNat (0, 0)).2]
    | _ => .none
  have hg : (nI (List.range c)).map g = pD ps := told_map hl g fun j hj => by
    show PyData.tuple [.int (ps.getD j (0, 0)).1, .int (ps.getD j (0, 0)).2] = _
    rw [List.getD_eq_getElem?_getD, List.getElem?_eq_getElem hj]
    rfl
  have hlc : dLc (dRg1 (dName 0)) [3] (gN 3) dTrue (dTup (dCons (dCall F 24 (dCons (dName 2) (dCons (dTup (dCons (dName 3) (dCons (dVal (.int 0)) dNil))) dNil))) (dCons (dCall F 24 (dCons (dName 2) (dCons (dTup (dCons (dName 3) (dCons (dVal (.int 1)) dNil))) dNil))) dNil))) [some (.d (.int c)), some (.d (.list (ns.map .int))), some (.d (.list (rowD row))), y3, y4, y5, none] S = .ok (.d (.list (pD ps))) S := by
    rw [← hg]
    refine ev_lcM g (by simp -implicitDefEqProofs [-Int.natCast_ediv, -Int.natCast_add, -Int.natCast_emod, -Int.natCast_mul, hr]) (by rw [len_nI, List.length_range]; omega) fun x hx => ?_
    unfold nI at hx
    rw [List.mem_map] at hx
    obtain ⟨j, hj, rfl⟩ := hx
    have hj := List.mem_range.mp hj
    refine ⟨_, rfl, ?_⟩
    obtain ⟨a1, a2⟩ := at_ms h.rel (j := j) (by omega)
    have hlen : row.length ≤ 1000 := by have := h.sm.len; omega
    have t1 := h24 S row (j, 0) _ hlen a1
    have t2 := h24 S row (j, 1) _ hlen a2
    have m0 : PyData.tuple [.int (j : Int), .int 0] = markD (j, 0) := rfl
    have m1 : PyData.tuple [.int (j : Int), .int 1] = markD (j, 1) := rfl
    have eg : g (.int j) = .tuple [.int ps[j].1, .int ps[j].2] := by
      show PyData.tuple [.int (ps.getD j (0, 0)).1, .int (ps.getD j (0, 0)).2] = _
      rw [List.getD_eq_getElem?_getD, List.getElem?_eq_getElem (by omega)]
      rfl
    rw [eg]
    simp -implicitDefEqProofs [-Int.natCast_ediv, -Int.natCast_add, -Int.natCast_emod, -Int.natCast_mul, m0, m1, t1, t2]
  unfold b26
  simp -implicitDefEqProofs [-Int.natCast_ediv, -Int.natCast_add, -Int.natCast_emod, -Int.natCast_mul, hr1, e, hlc, tupleD, ringD, hps]
theorem e27_line (k : Nat) (S : Store) (ns : List Int) (c : Nat) (hc : c ≤ 100) : cd (k + 3) 27 [.d (.str "line"), .d (.int c), .d (.list (ns.map .int))] S = .ok (.d (lineD ns c 0)) S := by
  have h := e25 k S ns c 0 hc
  rw [v27 (k + 2) _ S rfl]
  generalize cd (k + 2) = F at *
  generalize cm (k + 2) = Fm at *
  have lr : ¬ ("line" : Str) = "ring" := fun e => rl e.symm
  unfold b27
  have h : F 25 [.d (.int c), .d (.list (ns.map .int)), .d (.int 0)] S = .ok (.d (lineD ns c 0)) S := h
  simp -implicitDefEqProofs [-Int.natCast_ediv, -Int.natCast_add, -Int.natCast_emod, -Int.natCast_mul, h, lr]
theorem e27_ring (k : Nat) (S : Store) (ns : List Int) (c : Nat) (hc : c ≤ 100) (h1 : 1 ≤ c) : cd (k + 3) 27 [.d (.str "ring"), .d (.int c), .d (.list (ns.map .int))] S = .ok (.d (ringD ns c)) S := by
  have h := e26 k S ns c hc h1
  rw [v27 (k + 2) _ S rfl]
  generalize cd (k + 2) = F at *
  generalize cm (k + 2) = Fm at *
  unfold b27
  simp -implicitDefEqProofs [-Int.natCast_ediv, -Int.natCast_add, -Int.natCast_emod, -Int.natCast_mul, h]
theorem e27_box (k : Nat) (S : Store) (ns : List Int) (c : Nat) (hc : c ≤ 100) : cd (k + 3) 27 [.d (.str "box"), .d (.int c), .d (.list (ns.map .int))] S = .ok (.d (.tuple [lineD ns c 0, lineD ns c (2 * c)])) S := by
  have h := e25 k S ns c 0 hc
  have h2 := e25 k S ns c (2 * c) hc
  rw [v27 (k + 2) _ S rfl]
  generalize cd (k + 2) = F at *
  generalize cm (k + 2) = Fm at *
  have h : F 25 [.d (.int c), .d (.list (ns.map .int)), .d (.int 0)] S = .ok (.d (lineD ns c 0)) S := h
  have z : 2 * (c : Int) = ((2 * c : Nat) : Int) := by omega
  unfold b27
  simp -implicitDefEqProofs [-Int.natCast_ediv, -Int.natCast_add, -Int.natCast_emod, -Int.natCast_mul, h, z, h2, bl', br]
end K76

namespace K76
open PySem PySem.Spec L2 Ev
/-! ### the law's draws -/
theorem e17 (k : Nat) (S : Store) (ns : List Int) (a : Nat) (ha : a ≤ 1000) : ∃ z : Int, 0 ≤ z ∧ cd (k + 1) 17 [.d (.list (ns.map .int)), .d (.int a)] S = .ok (.d (.int z)) S := by
  rw [v17 k _ S rfl]
  generalize cd k = F at *
  generalize cm k = Fm at *
  have hs : sumD (.list (ns.map PyData.int)) = some (.int ns.sum) := by
    show (intsOf (ns.map PyData.int)).map _ = _
    rw [intsOf_map]; rfl
  have m1 : mulD (.int ns.sum) (.int 31) = some (.int (ns.sum * 31)) := mul_r _ (by decide)
  have m2 : mulD (.int 1000003) (.int ((a : Int) + 1)) = some (.int (1000003 * ((a : Int) + 1))) := mul_l _ (by decide)
  have ab : ∀ z : Int, ∃ y : Int, 0 ≤ y ∧ absD (.int z) = some (.int y) := fun z => ⟨if z < 0 then -z else z, by split <;> omega, rfl⟩
  unfold b17
  by_cases hl : a < ns.length
  · have hx : atI (ns.map PyData.int) (a : Int) = some (.int ns[a]) := by
      rw [atI_n (by simpa using hl), List.getElem?_map, List.getElem?_eq_getElem hl]; rfl
    obtain ⟨y, h0, hy⟩ := ab ns[a]
    have hd : ((a : Int) < (ns.length : Int)) := by omega
    exact ⟨y, h0, by simp -implicitDefEqProofs [-Int.natCast_ediv, -Int.natCast_add, -Int.natCast_emod, -Int.natCast_mul, hs, m1, m2, hd, hx, hy]⟩
  · have hd : ¬ ((a : Int) < (ns.length : Int)) := by omega
    obtain ⟨y, h0, hy⟩ := ab (ns.sum * 31 + 1000003 * ((a : Int) + 1))
    exact ⟨y, h0, by simp -implicitDefEqProofs [-Int.natCast_ediv, -Int.natCast_add, -Int.natCast_emod, -Int.natCast_mul, hs, m1, m2, hd, hy]⟩
def cellI (zs : List Int) : Cell := .lst (zs.map fun z => .d (.int z))
theorem app_cell {S : Store} {zs : List Int} {l : Ev.Loc} {d e : DE} {z : Int} (hz : zs.length < 1000) (hd : d l (S ++ [cellI zs]) = .ok (.loc S.length) (S ++ [cellI zs])) (he : e l (S ++ [cellI zs]) = .ok (.d (.int z)) (S ++ [cellI zs])) : dAppend d e l (S ++ [cellI zs]) = .ok (.d .none) (S ++ [cellI (zs ++ [z])]) := by
  have g : (S ++ [cellI zs])[S.length]? = some (cellI zs) := by simp
  have lo : lstOf (.loc S.length) (S ++ [cellI zs]) = some (S.length, zs.map fun z => A.d (.int z)) := by
    show (match (S ++ [cellI zs])[S.length]? with | some (.lst xs) => some (S.length, xs) | _ => none) = _
    rw [g]; rfl
  unfold dAppend
  rw [hd, Res.ok_bind, lo]
  show (e l (S ++ [cellI zs])).bind _ = _
  rw [he, Res.ok_bind, lo]
  show (if (zs.map fun z => A.d (.int z)).length < 16777216 then _ else _) = _
  rw [if_pos (by rw [List.length_map]; omega), List.set_append_right _ _ (Nat.le_refl _), Nat.sub_self]
  unfold cellI
  simp
def InR (m : Int) (zs : List Int) : Prop := ∀ z ∈ zs, 0 ≤ z ∧ z < m
theorem InR.snoc {m z : Int} {zs : List Int} (h : InR m zs) (h0 : 0 ≤ z) (h1 : z < m) : InR m (zs ++ [z]) := fun y hy => by
  rcases List.mem_append.mp hy with hy | hy
  · exact h y hy
  · simp at hy; subst hy; exact ⟨h0, h1⟩
/-- the two loops -/
theorem dr_loop1 {S : Store} {m : Int} (hm : 0 < m) (hm2 : m < 1073741824) {x0 x1 x2 x7 x8 : Option A} : ∀ (ds : List PyData) (zs : List Int) (n : Int) (x6 : Option A), InR m zs → zs.length + ds.length < 1000 →
    ∃ zs' n' y6, loopF (gN 6) (dSeq (dExpr (dAppend (dName 5) (dOp2 (pu2 modD) (dName 4) (dName 3)))) (dAsg (gN 4) (dOp2 (pu2 divD) (dName 4) (dName 3)))) ds [x0, x1, x2, some (.d (.int m)), some (.d (.int n)), some (.loc S.length), x6, x7, x8] (S ++ [cellI zs]) =
      .nx [x0, x1, x2, some (.d (.int m)), some (.d (.int n')), some (.loc S.length), y6, x7, x8] (S ++ [cellI zs']) ∧ InR m zs' ∧ zs'.length = zs.length + ds.length
  | [], zs, n, x6, h, _ => ⟨zs, n, x6, rfl, h, rfl⟩
  | d :: ds, zs, n, x6, h, hl => by
    rw [List.length_cons] at hl
    have m0 := Int.emod_nonneg n (show m ≠ 0 by omega)
    have m1 := Int.emod_lt_of_pos n hm
    obtain ⟨zs', n', y6, e, h', hl'⟩ := dr_loop1 hm hm2 (x0 := x0) (x1 := x1) (x2 := x2) (x7 := x7) (x8 := x8) ds (zs ++ [n % m]) (n / m) (some (.d d)) (h.snoc m0 m1) (by simp; omega)
    refine ⟨zs', n', y6, ?_, h', by rw [hl', List.length_append, List.length_cons]; simp; omega⟩
    unfold loopF
    have eg : gN 6 (.d d) [x0, x1, x2, some (.d (.int m)), some (.d (.int n)), some (.loc S.length), x6, x7, x8] = some [x0, x1, x2, some (.d (.int m)), some (.d (.int n)), some (.loc S.length), some (.d d), x7, x8] := rfl
    rw [eg]
    have ap := app_cell (S := S) (zs := zs) (l := [x0, x1, x2, some (A.d (.int m)), some (A.d (.int n)), some (A.loc S.length), some (A.d d), x7, x8]) (d := dName 5) (e := dOp2 (pu2 modD) (dName 4) (dName 3)) (z := n % m) (by omega) (by simp -implicitDefEqProofs [-Int.natCast_ediv, -Int.natCast_add, -Int.natCast_emod, -Int.natCast_mul]) (by simp -implicitDefEqProofs [-Int.natCast_ediv, -Int.natCast_add, -Int.natCast_emod, -Int.natCast_mul, ev_modI hm])
    have eb : dSeq (dExpr (dAppend (dName 5) (dOp2 (pu2 modD) (dName 4) (dName 3)))) (dAsg (gN 4) (dOp2 (pu2 divD) (dName 4) (dName 3))) [x0, x1, x2, some (.d (.int m)), some (.d (.int n)), some (.loc S.length), some (.d d), x7, x8] (S ++ [cellI zs]) = .nx [x0, x1, x2, some (.d (.int m)), some (.d (.int (n / m))), some (.loc S.length), some (.d d), x7, x8] (S ++ [cellI (zs ++ [n % m])]) := by
      simp -implicitDefEqProofs [-Int.natCast_ediv, -Int.natCast_add, -Int.natCast_emod, -Int.natCast_mul, ap, ev_divI hm hm2]
    simp only [eb]
    exact e
theorem dr_loop2 {S : Store} {m : Int} (hm : 0 < m) {x0 x1 x2 x4 : Option A} : ∀ (is : List Nat) (zs : List Int) (st : Int) (x6 x8 : Option A), InR m zs → zs.length + is.length < 1000 → 0 ≤ st → st < 4294967296 → (∀ i ∈ is, i < 1000) →
    ∃ zs' st' y6 y8, loopF (gN 6) (dSeq (dAsg (gN 7) (dOp2 (pu2 modD) (dOp2 (pu2 addD) (dOp2 (pu2 addD) (dOp2 mulA (dName 7) (dVal (.int 48271))) (dOp2 mulA (dVal (.int 11)) (dName 6))) (dVal (.int 7))) (dVal (.int 2147483647))))
    (dSeq (dAsg (gN 8) (dOp2 (pu2 modD) (dOp2 (pu2 addD) (dOp2 (pu2 addD) (dOp2 mulA (dName 7) (dName 7)) (dOp2 mulA (dVal (.int 69621)) (dName 6))) (dVal (.int 5))) (dVal (.int 2147483629))))
    (dExpr (dAppend (dName 5) (dOp2 (pu2 modD) (dOp2 (pu2 divD) (dName 8) (dVal (.int 64))) (dName 3)))))) (nI is) [x0, x1, x2, some (.d (.int m)), x4, some (.loc S.length), x6, some (.d (.int st)), x8] (S ++ [cellI zs]) =
      .nx [x0, x1, x2, some (.d (.int m)), x4, some (.loc S.length), y6, some (.d (.int st')), y8] (S ++ [cellI zs']) ∧ InR m zs' ∧ zs'.length = zs.length + is.length
  | [], zs, st, x6, x8, h, _, _, _, _ => ⟨zs, st, x6, x8, rfl, h, rfl⟩
  | i :: is, zs, st, x6, x8, h, hl, s0, s1, hi => by
    rw [List.length_cons] at hl
    have i1 := hi i (by simp)
    obtain ⟨st2, es⟩ : ∃ st2, st2 = (st * 48271 + 11 * (i : Int) + 7) % 2147483647 := ⟨_, rfl⟩
    have t0 : 0 ≤ st2 := by rw [es]; exact Int.emod_nonneg _ (by decide)
    have t1 : st2 < 2147483647 := by rw [es]; exact Int.emod_lt_of_pos _ (by decide)
    obtain ⟨an, ea⟩ : ∃ an, an = (st2 * st2 + 69621 * (i : Int) + 5) % 2147483629 := ⟨_, rfl⟩
    have m0 := Int.emod_nonneg (an / 64) (show m ≠ 0 by omega)
    have m1 := Int.emod_lt_of_pos (an / 64) hm
    obtain ⟨zs', st', y6, y8, e, h', hl'⟩ := dr_loop2 hm (x0 := x0) (x1 := x1) (x2 := x2) (x4 := x4) is (zs ++ [an / 64 % m]) st2 (some (.d (.int i))) (some (.d (.int an))) (h.snoc m0 m1) (by simp; omega) t0 (by omega) (fun j hj => hi j (List.mem_cons_of_mem _ hj))
    refine ⟨zs', st', y6, y8, ?_, h', by rw [hl', List.length_append, List.length_cons]; simp; omega⟩
    show loopF _ _ (.int i :: nI is) _ _ = _
    unfold loopF
    have eg : gN 6 (.d (.int i)) [x0, x1, x2, some (.d (.int m)), x4, some (.loc S.length), x6, some (.d (.int st)), x8] = some [x0, x1, x2, some (.d (.int m)), x4, some (.loc S.length), some (.d (.int i)), some (.d (.int st)), x8] := rfl
    rw [eg]
    have k1 : mulD (.int st) (.int 48271) = some (.int (st * 48271)) := mul_r _ (by decide)
    have k2 : mulD (.int 11) (.int (i : Int)) = some (.int (11 * (i : Int))) := mul_l _ (by decide)
    have k3 : mulD (.int st2) (.int st2) = some (.int (st2 * st2)) := mul_r _ (by omega)
    have k4 : mulD (.int 69621) (.int (i : Int)) = some (.int (69621 * (i : Int))) := mul_l _ (by decide)
    have k5 : modD (.int (st * 48271 + 11 * (i : Int) + 7)) (.int 2147483647) = some (.int st2) := by rw [es]; exact ev_modI (by decide)
    have k6 : modD (.int (st2 * st2 + 69621 * (i : Int) + 5)) (.int 2147483629) = some (.int an) := by rw [ea]; exact ev_modI (by decide)
    have k7 : divD (.int an) (.int 64) = some (.int (an / 64)) := ev_divI (by decide) (by decide)
    have ap := app_cell (S := S) (zs := zs) (l := [x0, x1, x2, some (A.d (.int m)), x4, some (A.loc S.length), some (A.d (.int i)), some (A.d (.int st2)), some (A.d (.int an))]) (d := dName 5) (e := dOp2 (pu2 modD) (dOp2 (pu2 divD) (dName 8) (dVal (.int 64))) (dName 3)) (z := an / 64 % m) (by omega) (by simp -implicitDefEqProofs [-Int.natCast_ediv, -Int.natCast_add, -Int.natCast_emod, -Int.natCast_mul]) (by simp -implicitDefEqProofs [-Int.natCast_ediv, -Int.natCast_add, -Int.natCast_emod, -Int.natCast_mul, k7, ev_modI hm])
    have eb : dSeq (dAsg (gN 7) (dOp2 (pu2 modD) (dOp2 (pu2 addD) (dOp2 (pu2 addD) (dOp2 mulA (dName 7) (dVal (.int 48271))) (dOp2 mulA (dVal (.int 11)) (dName 6))) (dVal (.int 7))) (dVal (.int 2147483647))))
        (dSeq (dAsg (gN 8) (dOp2 (pu2 modD) (dOp2 (pu2 addD) (dOp2 (pu2 addD) (dOp2 mulA (dName 7) (dName 7)) (dOp2 mulA (dVal (.int 69621)) (dName 6))) (dVal (.int 5))) (dVal (.int 2147483629))))
        (dExpr (dAppend (dName 5) (dOp2 (pu2 modD) (dOp2 (pu2 divD) (dName 8) (dVal (.int 64))) (dName 3))))) [x0, x1, x2, some (.d (.int m)), x4, some (.loc S.length), some (.d (.int i)), some (.d (.int st)), x8] (S ++ [cellI zs]) = .nx [x0, x1, x2, some (.d (.int m)), x4, some (.loc S.length), some (.d (.int i)), some (.d (.int st2)), some (.d (.int an))] (S ++ [cellI (zs ++ [an / 64 % m])]) := by
      simp -implicitDefEqProofs [-Int.natCast_ediv, -Int.natCast_add, -Int.natCast_emod, -Int.natCast_mul, k1, k2, k3, k4, k5, k6, ap]
    simp only [eb]
    exact e
theorem e18 (k : Nat) (S : Store) (ns : List Int) (a c m : Nat) (ha : a ≤ 1000) (hc : c < 900) (hm : 0 < m) (hm2 : m < 1073741824) : ∃ zs : List Int, cd (k + 2) 18 [.d (.list (ns.map .int)), .d (.int a), .d (.int c), .d (.int m)] S = .ok (.loc S.length) (S ++ [cellI zs]) ∧ InR m zs ∧ zs.length = c := by
  obtain ⟨n, n0, en⟩ := e17 k S ns a ha
  rw [v18 (k + 1) _ S rfl]
  generalize cd (k + 1) = F at *
  generalize cm (k + 1) = Fm at *
  have hr : rgI (.int 0) (.int (c : Int)) = some (nI (List.range c)) := by
    rw [← rg_nI]
    exact ev_rgI (by simp [rgOk]; omega)
  have pw : powD (.int 10) (.int 18) = some (.int 1000000000000000000) := by
    show (if 0 ≤ (18 : Int) ∧ (18 : Int) ≤ 1000000 ∧ (10 : Int).natAbs < 2 ^ 64 then some (PyData.int (10 ^ (18 : Int).toNat)) else none) = _
    rw [if_pos (by decide)]
    rfl
  have e0 : (Cell.lst []) = cellI [] := rfl
  have r0 : InR (m : Int) [] := fun z hz => nomatch hz
  unfold b18
  by_cases hn : 1000000000000000000 ≤ n
  · obtain ⟨zs, n', y6, e, h1, h2⟩ := dr_loop1 (S := S) (m := m) (by omega) (by omega) (x0 := some (A.d (.list (ns.map .int)))) (x1 := some (A.d (.int a))) (x2 := some (A.d (.int c))) (x7 := none) (x8 := none) (nI (List.range c)) [] (n - 1000000000000000000) none r0 (by rw [len_nI, List.length_range]; simp; omega)
    refine ⟨zs, ?_, h1, by rw [h2, len_nI, List.length_range]; simp⟩
    rw [← e0] at e
    simp -implicitDefEqProofs [-Int.natCast_ediv, -Int.natCast_add, -Int.natCast_emod, -Int.natCast_mul, en, pw, hn, hr, e]
  · obtain ⟨zs, n', y6, y8, e, h1, h2⟩ := dr_loop2 (S := S) (m := m) (by omega) (x0 := some (A.d (.list (ns.map .int)))) (x1 := some (A.d (.int a))) (x2 := some (A.d (.int c))) (x4 := some (A.d (.int n))) (List.range c) [] (n % 2147483647 + 1) none none r0 (by rw [List.length_range]; simp; omega) (by have := Int.emod_nonneg n (show (2147483647 : Int) ≠ 0 by decide); omega) (by have := Int.emod_lt_of_pos n (show (0 : Int) < 2147483647 by decide); omega) (fun i hi => by have := List.mem_range.mp hi; omega)
    refine ⟨zs, ?_, h1, by rw [h2, List.length_range]; simp⟩
    rw [← e0] at e
    simp -implicitDefEqProofs [-Int.natCast_ediv, -Int.natCast_add, -Int.natCast_emod, -Int.natCast_mul, en, pw, hn, hr, e, ev_modI (show (0 : Int) < 2147483647 by decide)]
end K76

namespace K76
open PySem PySem.Spec L2 Ev
def PK (S : Store) (p : Nat) : Prop := ∃ zs, S[p]? = some (cellI zs) ∧ InR 5040 zs
theorem e19 (k : Nat) {S : Store} {p : Nat} (h : PK S p) : ∃ (z : Int) (S' : Store), cd (k + 1) 19 [.loc p] S = .ok (.d (.int z)) S' ∧ 0 ≤ z ∧ z < 5040 ∧ PK S' p ∧ Fr p S S' := by
  obtain ⟨zs, hs, hr⟩ := h
  rw [v19 k _ S rfl]
  generalize cd k = F at *
  generalize cm k = Fm at *
  have hl : lenA [.loc p] S = some (.d (.int (zs.length : Int))) := by
    show (match S[p]? with | some (.lst as) => some (A.d (.int as.length)) | some (.dic kvs) => _ | some (.fzn (.list ds)) => _ | _ => none) = _
    rw [hs]
    show some (A.d (.int ((zs.map fun z => A.d (.int z)).length : Int))) = _
    rw [List.length_map]
  unfold b19
  by_cases hz : zs = []
  · subst hz
    refine ⟨0, S, ?_, by omega, by omega, ⟨[], hs, hr⟩, Fr.refl p S⟩
    simp -implicitDefEqProofs [-Int.natCast_ediv, -Int.natCast_add, -Int.natCast_emod, -Int.natCast_mul, hl]
  · have hn : ¬ ((zs.length : Int) = 0) := by
      have := List.length_pos_iff.mpr hz
      omega
    have hp : zs.length - 1 < zs.length := by have := List.length_pos_iff.mpr hz; omega
    obtain ⟨z0, z1⟩ := hr zs[zs.length - 1] (List.getElem_mem hp)
    have g := get_set (c' := cellI zs.dropLast) hs
    refine ⟨zs[zs.length - 1], S.set p (cellI zs.dropLast), ?_, z0, z1, ⟨zs.dropLast, g, fun y hy => hr y (List.dropLast_subset zs hy)⟩, Fr.set p S _⟩
    have lo : lstOf (.loc p) S = some (p, zs.map fun z => A.d (.int z)) := by
      show (match S[p]? with | some (.lst xs) => some (p, xs) | _ => none) = _
      rw [hs]; rfl
    have hpop : dPop (dName 0) [some (.loc p)] S = .ok (.d (.int zs[zs.length - 1])) (S.set p (cellI zs.dropLast)) := by
      unfold dPop
      have hd : dName 0 [some (.loc p)] S = .ok (.loc p) S := by simp -implicitDefEqProofs [-Int.natCast_ediv, -Int.natCast_add, -Int.natCast_emod, -Int.natCast_mul]
      rw [hd, Res.ok_bind, lo]
      have e1 : (zs.map fun z => A.d (.int z))[(zs.map fun z => A.d (.int z)).length - 1]? = some (.d (.int zs[zs.length - 1])) := by
        rw [List.length_map, List.getElem?_map, List.getElem?_eq_getElem hp]; rfl
      have e2 : (zs.map fun z => A.d (.int z)).dropLast = zs.dropLast.map fun z => A.d (.int z) := by rw [List.map_dropLast]
      simp only [e1]
      rw [e2]
      rfl
    simp -implicitDefEqProofs [-Int.natCast_ediv, -Int.natCast_add, -Int.natCast_emod, -Int.natCast_mul, hl, hz, hpop]
theorem e20 (k : Nat) (S : Store) (ns : List Int) : ∃ zs : List Int, cd (k + 3) 20 [.d (.list (ns.map .int)), .d (.int 1), .d (.int 160)] S = .ok (.loc S.length) (S ++ [cellI zs]) ∧ InR 5040 zs := by
  obtain ⟨zs, e, h, _⟩ := e18 k S ns 1 160 5040 (by omega) (by omega) (by omega) (by omega)
  have e : cd (k + 2) 18 [.d (.list (ns.map .int)), .d (.int 1), .d (.int 160), .d (.int 5040)] S = .ok (.loc S.length) (S ++ [cellI zs]) := e
  rw [v20 (k + 2) _ S rfl]
  generalize cd (k + 2) = F at *
  generalize cm (k + 2) = Fm at *
  refine ⟨zs.reverse, ?_, fun z hz => h z (List.mem_reverse.mp hz)⟩
  have hrev : dReverse (dName 3) [some (.d (.list (ns.map .int))), some (.d (.int 1)), some (.d (.int 160)), some (.loc S.length)] (S ++ [cellI zs]) = .ok (.d .none) (S ++ [cellI zs.reverse]) := by
    unfold dReverse
    have hd : dName 3 [some (.d (.list (ns.map .int))), some (.d (.int 1)), some (.d (.int 160)), some (.loc S.length)] (S ++ [cellI zs]) = .ok (.loc S.length) (S ++ [cellI zs]) := by simp -implicitDefEqProofs [-Int.natCast_ediv, -Int.natCast_add, -Int.natCast_emod, -Int.natCast_mul]
    have g : (S ++ [cellI zs])[S.length]? = some (cellI zs) := by simp
    have lo : lstOf (.loc S.length) (S ++ [cellI zs]) = some (S.length, zs.map fun z => A.d (.int z)) := by
      show (match (S ++ [cellI zs])[S.length]? with | some (.lst xs) => some (S.length, xs) | _ => none) = _
      rw [g]; rfl
    rw [hd, Res.ok_bind, lo]
    simp only
    rw [List.set_append_right _ _ (Nat.le_refl _), Nat.sub_self]
    unfold cellI
    rw [List.map_reverse]
    rfl
  unfold b20
  simp -implicitDefEqProofs [-Int.natCast_ediv, -Int.natCast_add, -Int.natCast_emod, -Int.natCast_mul, e, hrev]
/-! ### a figure of each kind -/
theorem pl_ints (n : Nat) (ns : List Int) (h : ns.length ≤ 1000) : Pl (n + 1) (.list (ns.map .int)) := .inr ⟨_, .inl rfl, by simpa using h, fun x hx => by
  obtain ⟨i, _, rfl⟩ := List.mem_map.mp hx
  cases n with
  | zero => exact ⟨i, rfl⟩
  | succ n => exact .inl ⟨i, rfl⟩⟩
theorem pl_pairs (ps : List (Nat × Nat)) (h : ps.length ≤ 1000) : Pl 2 (.tuple (pD ps)) := .inr ⟨_, .inr rfl, by rw [len_pD]; exact h, fun x hx => by
  obtain ⟨p, _, rfl⟩ := List.mem_map.mp hx
  refine .inr ⟨_, .inr rfl, by simp, fun y hy => ?_⟩
  simp only [List.mem_cons, List.not_mem_nil, or_false] at hy
  rcases hy with rfl | rfl <;> exact ⟨_, rfl⟩⟩
theorem pl_up : ∀ (n : Nat) (d : PyData), Pl n d → Pl (n + 1) d
  | 0, d, h => .inl h
  | n + 1, d, h => by
    rcases h with h | ⟨xs, h1, h2, h3⟩
    · exact .inl h
    · exact .inr ⟨xs, h1, h2, fun x hx => pl_up n x (h3 x hx)⟩
structure Fig (k : Nat) (kind : Str) (c : Nat) (ns : List Int) (d : PyData) : Prop where
  made : ∀ S, ∃ S', cd (k + 9) 9 [.d (.str kind), .d (.int c), .d (.list (ns.map .int))] S = .ok (.d d) S' ∧ More S S'
  due : ∀ S, cd (k + 9) 27 [.d (.str kind), .d (.int c), .d (.list (ns.map .int))] S = .ok (.d d) S
  fig : ∀ S, ∃ S', cd (k + 9) 15 [.d (.str kind), .d (.int c), .d d] S = .ok (.d (.bool true)) S' ∧ More S S'
  same : ∀ S, cd (k + 9) 16 [.d d, .d d] S = .ok (.d (.bool true)) S
theorem fig_line (k : Nat) (ns : List Int) (c : Nat) (h1 : 1 ≤ c) (hc : c ≤ 4) : Fig k "line" c ns (lineD ns c 0) := by
  obtain ⟨a1, a2, a3⟩ := row_all ns c 0 [] row_nil (by simp; omega)
  rw [List.length_nil, Nat.zero_add] at a3
  obtain ⟨⟨L, cov, hL⟩, lt⟩ := a2
  refine ⟨fun S => e9_line (k + 4) S ns c (by omega) a1, fun S => e27_line (k + 6) S ns c (by omega), fun S => ?_, fun S => e16 (k + 6) S 2 _ (pl_pairs _ (by omega))⟩
  have := e15_line (k + 4) S (rowLoop ns c 0 []) L (by omega) (by omega) cov (by omega) lt
  rw [a3] at this
  exact this
theorem fig_ring (k : Nat) (ns : List Int) (c : Nat) (h1 : 1 ≤ c) (hc : c ≤ 4) : Fig k "ring" c ns (ringD ns c) := by
  obtain ⟨a1, a2, a3⟩ := rnd_all ns (c - 1) 0 [(0, 1)] rnd_nil (by simp; omega)
  have a3 : (rndLoop ns (c - 1) 0 [(0, 1)]).length = c := by rw [a3]; simp; omega
  obtain ⟨⟨L, cov, _, hL⟩, ne, z⟩ := a2
  refine ⟨fun S => e9_ring (k + 4) S ns c (by omega) h1 a1, fun S => e27_ring (k + 6) S ns c (by omega) h1, fun S => ?_, fun S => e16 (k + 6) S 2 _ (pl_pairs _ (by omega))⟩
  have := e15_ring (k + 4) S (rndLoop ns (c - 1) 0 [(0, 1)]) L (by omega) (by omega) cov (by omega) ne z
  rw [a3] at this
  exact this
theorem fig_box (k : Nat) (ns : List Int) (c : Nat) (h1 : 1 ≤ c) (hc : c ≤ 4) : Fig k "box" c ns (.tuple [lineD ns c 0, lineD ns c (2 * c)]) := by
  obtain ⟨a1, a2, a3⟩ := row_all ns c 0 [] row_nil (by simp; omega)
  obtain ⟨b1, b2, b3⟩ := row_all ns c (2 * c) [] row_nil (by simp; omega)
  rw [List.length_nil, Nat.zero_add] at a3 b3
  obtain ⟨⟨L, cov, hL⟩, lt⟩ := a2
  obtain ⟨⟨M, cov2, hM⟩, lt2⟩ := b2
  refine ⟨fun S => e9_box (k + 4) S ns c (by omega) a1 b1, fun S => e27_box (k + 6) S ns c (by omega), fun S => e15_box (k + 4) S _ _ L M c a3 b3 (by omega) h1 cov (by omega) lt cov2 (by omega) lt2, fun S => e16 (k + 5) S 3 _ ?_⟩
  refine .inr ⟨_, .inr rfl, by simp, fun y hy => ?_⟩
  simp only [List.mem_cons, List.not_mem_nil, or_false] at hy
  rcases hy with rfl | rfl
  · exact pl_pairs _ (by omega)
  · exact pl_pairs _ (by omega)
/-! ### all short lists -/
def choices : Nat → List (List Nat)
  | 0 => [[]]
  | n + 1 => (choices n).flatMap fun b => (List.range 5).map fun x => b ++ [x]
def chD (n : Nat) : List PyData := (choices n).map fun c => .tuple (nI c)
def five : PyData := .list (nI [0, 1, 2, 3, 4])
def putAll : List PyData → List (PyData × A) → Option (List (PyData × A))
  | [], kvs => some kvs
  | d :: ds, kvs => if uni kvs d = true ∧ kvs.length < 16777216 then putAll ds (dPut kvs d (.d (.int 0))) else none
theorem count_line : (putAll ((choices 4).map fun c => lineD (c.map fun n : Nat => (n : Int)) 2 0) []).map List.length = some 13 := by decide +kernel
theorem count_ring : (putAll ((choices 2).map fun c => ringD (c.map fun n : Nat => (n : Int)) 2) []).map List.length = some 16 := by decide +kernel
end K76

namespace K76
open PySem PySem.Spec L2 Ev
/-! ### the law's loop over its four turns -/
structure St (sh : List Int) (S : Store) : Prop where
  shape : S[0]? = some (cellI sh)
  picks : PK S 1
  len : 2 ≤ S.length
theorem St.more {sh : List Int} {S S' : Store} (h : St sh S) (m : More S S') : St sh S' := by
  have hl := h.len
  obtain ⟨zs, h1, h2⟩ := h.picks
  exact ⟨(m.at_ 0 (by omega)).trans h.shape, ⟨zs, (m.at_ 1 (by omega)).trans h1, h2⟩, Nat.le_trans hl m.len⟩
theorem St.pick {sh : List Int} {S S' : Store} (h : St sh S) (p : PK S' 1) (f : Fr 1 S S') : St sh S' := ⟨(f.at_ 0 (by decide)).trans h.shape, p, by rw [f.len]; exact h.len⟩
theorem St.set {sh : List Int} {S : Store} {q : Nat} {c : Cell} (h : St sh S) (hq : 2 ≤ q) : St sh (S.set q c) := by
  obtain ⟨zs, h1, h2⟩ := h.picks
  exact ⟨(List.getElem?_set_ne (by omega)).trans h.shape, ⟨zs, (List.getElem?_set_ne (by omega)).trans h1, h2⟩, by rw [List.length_set]; exact h.len⟩
abbrev H19 (F : Fns) : Prop := ∀ {S : Store} {p : Nat}, PK S p → ∃ (z : Int) (S' : Store), F 19 [.loc p] S = .ok (.d (.int z)) S' ∧ 0 ≤ z ∧ z < 5040 ∧ PK S' p ∧ Fr p S S'
/-- a number is put behind -/
theorem num_loop {F : Fns} (h19 : H19 F) {sh : List Int} {nl : Nat} (hnl : 2 ≤ nl) {x0 x1 x3 x4 x5 x8 x9 x10 x11 : Option A} : ∀ (ds : List PyData) (zs : List Int) (S : Store) (x7 : Option A), St sh S → S[nl]? = some (cellI zs) → zs.length + ds.length < 1000 →
    ∃ zs' S' y7, loopF (gN 7) (dExpr (dAppend (dName 6) (dOp2 mulA (dOp2 (pu2 subD) (dCall F 19 (dCons (dName 2) dNil)) (dVal (.int 2000))) (dIf (toB (dOp2 (pu2 (boolD eqD)) (dOp2 (pu2 modD) (dCall F 19 (dCons (dName 2) dNil)) (dVal (.int 8))) (dVal (.int 0)))) (dOp2 (pu2 powD) (dVal (.int 10)) (dVal (.int 20))) (dVal (.int 1)))))) ds
      [x0, x1, some (.loc 1), x3, x4, x5, some (.loc nl), x7, x8, x9, x10, x11] S = .nx [x0, x1, some (.loc 1), x3, x4, x5, some (.loc nl), y7, x8, x9, x10, x11] S' ∧ St sh S' ∧ S'[nl]? = some (cellI zs') ∧ zs'.length = zs.length + ds.length
  | [], zs, S, x7, h, hs, _ => ⟨zs, S, x7, rfl, h, hs, rfl⟩
  | d :: ds, zs, S, x7, h, hs, hl => by
    rw [List.length_cons] at hl
    obtain ⟨z1, S1, e1, a1, b1, p1, f1⟩ := h19 h.picks
    have t1 := h.pick p1 f1
    obtain ⟨z2, S2, e2, a2, b2, p2, f2⟩ := h19 t1.picks
    have t2 := t1.pick p2 f2
    have hs2 : S2[nl]? = some (cellI zs) := ((f2.at_ nl (by omega)).trans (f1.at_ nl (by omega))).trans hs
    have lo : ∀ {T : Store}, T[nl]? = some (cellI zs) → lstOf (.loc nl) T = some (nl, zs.map fun z => A.d (.int z)) := fun {T} hT => by
      show (match T[nl]? with | some (.lst xs) => some (nl, xs) | _ => none) = _
      rw [hT]; rfl
    have pw : powD (.int 10) (.int 20) = some (.int 100000000000000000000) := by
      show (if 0 ≤ (20 : Int) ∧ (20 : Int) ≤ 1000000 ∧ (10 : Int).natAbs < 2 ^ 64 then some (PyData.int (10 ^ (20 : Int).toNat)) else none) = _
      rw [if_pos (by decide)]
      rfl
    obtain ⟨v, ev⟩ : ∃ v : Int, dOp2 mulA (dOp2 (pu2 subD) (dCall F 19 (dCons (dName 2) dNil)) (dVal (.int 2000))) (dIf (toB (dOp2 (pu2 (boolD eqD)) (dOp2 (pu2 modD) (dCall F 19 (dCons (dName 2) dNil)) (dVal (.int 8))) (dVal (.int 0)))) (dOp2 (pu2 powD) (dVal (.int 10)) (dVal (.int 20))) (dVal (.int 1)))
        [x0, x1, some (.loc 1), x3, x4, x5, some (.loc nl), some (.d d), x8, x9, x10, x11] S = .ok (.d (.int v)) S2 := by
      have m1 : ∀ j : Int, mulD (.int (z1 - 2000)) (.int j) = some (.int ((z1 - 2000) * j)) := fun j => mul_l _ (by omega)
      by_cases hz : z2 % 8 = 0
      · exact ⟨(z1 - 2000) * 100000000000000000000, by simp -implicitDefEqProofs [-Int.natCast_ediv, -Int.natCast_add, -Int.natCast_emod, -Int.natCast_mul, e1, e2, ev_modI (show (0 : Int) < 8 by decide), hz, pw, m1]⟩
      · exact ⟨(z1 - 2000) * 1, by simp -implicitDefEqProofs [-Int.natCast_ediv, -Int.natCast_add, -Int.natCast_emod, -Int.natCast_mul, e1, e2, ev_modI (show (0 : Int) < 8 by decide), hz, m1]⟩
    have ea : dAppend (dName 6) (dOp2 mulA (dOp2 (pu2 subD) (dCall F 19 (dCons (dName 2) dNil)) (dVal (.int 2000))) (dIf (toB (dOp2 (pu2 (boolD eqD)) (dOp2 (pu2 modD) (dCall F 19 (dCons (dName 2) dNil)) (dVal (.int 8))) (dVal (.int 0)))) (dOp2 (pu2 powD) (dVal (.int 10)) (dVal (.int 20))) (dVal (.int 1))))
        [x0, x1, some (.loc 1), x3, x4, x5, some (.loc nl), some (.d d), x8, x9, x10, x11] S = .ok (.d .none) (S2.set nl (cellI (zs ++ [v]))) := by
      unfold dAppend
      have hd : dName 6 [x0, x1, some (.loc 1), x3, x4, x5, some (.loc nl), some (.d d), x8, x9, x10, x11] S = .ok (.loc nl) S := by simp -implicitDefEqProofs [-Int.natCast_ediv, -Int.natCast_add, -Int.natCast_emod, -Int.natCast_mul]
      rw [hd, Res.ok_bind, lo hs]
      simp only
      rw [ev, Res.ok_bind, lo hs2]
      simp only
      rw [if_pos (by rw [List.length_map]; omega)]
      unfold cellI
      rw [List.map_append]
      rfl
    obtain ⟨zs', S', y7, e, h1, h2, h3⟩ := num_loop h19 hnl (x0 := x0) (x1 := x1) (x3 := x3) (x4 := x4) (x5 := x5) (x8 := x8) (x9 := x9) (x10 := x10) (x11 := x11) ds (zs ++ [v]) (S2.set nl (cellI (zs ++ [v]))) (some (.d d)) (t2.set hnl) (get_set hs2) (by simp; omega)
    refine ⟨zs', S', y7, ?_, h1, h2, by rw [h3, List.length_append, List.length_cons]; simp; omega⟩
    unfold loopF
    have eg : gN 7 (.d d) [x0, x1, some (.loc 1), x3, x4, x5, some (.loc nl), x7, x8, x9, x10, x11] = some [x0, x1, some (.loc 1), x3, x4, x5, some (.loc nl), some (.d d), x8, x9, x10, x11] := rfl
    rw [eg]
    simp only [ev_expr, ea, Res.ok_thenS]
    exact e
theorem kind_of (z : Int) (h : 0 ≤ z) : ∃ kind : Str, atI [PyData.str "line", .str "ring", .str "box"] (z % 3) = some (.str kind) ∧ (kind = "line" ∨ kind = "ring" ∨ kind = "box") := by
  have h1 := Int.emod_nonneg z (show (3 : Int) ≠ 0 by decide)
  have h2 := Int.emod_lt_of_pos z (show (0 : Int) < 3 by decide)
  have h3 : z % 3 = 0 ∨ z % 3 = 1 ∨ z % 3 = 2 := by omega
  rcases h3 with e | e | e <;> rw [e]
  · exact ⟨"line", rfl, .inl rfl⟩
  · exact ⟨"ring", rfl, .inr (.inl rfl)⟩
  · exact ⟨"box", rfl, .inr (.inr rfl)⟩
theorem fig_any (k : Nat) (kind : Str) (hk : kind = "line" ∨ kind = "ring" ∨ kind = "box") (ns : List Int) (c : Nat) (h1 : 1 ≤ c) (hc : c ≤ 4) : ∃ d, Fig k kind c ns d := by
  rcases hk with rfl | rfl | rfl
  · exact ⟨_, fig_line k ns c h1 hc⟩
  · exact ⟨_, fig_ring k ns c h1 hc⟩
  · exact ⟨_, fig_box k ns c h1 hc⟩
abbrev turnB (F : Fns) : DS := (dSeq (dAsg (gN 4) (dOp2 ixU (dTup (dCons (dVal (.str "line")) (dCons (dVal (.str "ring")) (dCons (dVal (.str "box")) dNil)))) (dOp2 (pu2 modD) (dCall F 19 (dCons (dName 2) dNil)) (dVal (.int 3)))))
    (dSeq (dAsg (gN 5) (dOp2 (pu2 addD) (dVal (.int 1)) (dOp2 (pu2 modD) (dCall F 19 (dCons (dName 2) dNil)) (dVal (.int 4)))))
    (dSeq (dAsg (gN 6) (dLstM dNil))
    (dSeq (dFor (dRg1 (dOp2 (pu2 modD) (dCall F 19 (dCons (dName 2) dNil)) (dVal (.int 21)))) (gN 7) (dExpr (dAppend (dName 6) (dOp2 mulA (dOp2 (pu2 subD) (dCall F 19 (dCons (dName 2) dNil)) (dVal (.int 2000))) (dIf (toB (dOp2 (pu2 (boolD eqD)) (dOp2 (pu2 modD) (dCall F 19 (dCons (dName 2) dNil)) (dVal (.int 8))) (dVal (.int 0)))) (dOp2 (pu2 powD) (dVal (.int 10)) (dVal (.int 20))) (dVal (.int 1)))))))
    (dSeq (dAsg (gN 8) (dCallB (pf1 listD) (dCons (dFrz (dName 6)) dNil)))
    (dSeq (dAsg (gN 9) (dCall F 9 (dCons (dName 4) (dCons (dName 5) (dCons (dName 8) dNil)))))
    (dSeq (dIte (dOrT (dNotT (toB (dCall F 16 (dCons (dName 9) (dCons (dCall F 27 (dCons (dName 4) (dCons (dName 5) (dCons (dFrz (dName 6)) dNil)))) dNil))))) (dNotT (toB (dCall F 16 (dCons (dName 8) (dCons (dFrz (dName 6)) dNil)))))) (dRet (dVal (.bool false))) dSkip)
    (dIte (toB (dOp2 isnA (dCall F 15 (dCons (dName 4) (dCons (dName 5) (dCons (dName 9) dNil)))) (dVal (.bool true)))) (dRet (dVal (.bool false))) dSkip))))))))
theorem pures_ints (zs : List Int) : pures (zs.map fun z => A.d (.int z)) = some (zs.map .int) := by
  induction zs with
  | nil => rfl
  | cons z zs ih => rw [List.map_cons, pures_d, ih]; rfl
theorem turn {k : Nat} {sh : List Int} {S : Store} {x0 x1 x3 x4 x5 x6 x7 x8 x9 x10 x11 : Option A} (h : St sh S) :
    ∃ y4 y5 y6 y7 y8 y9 S', turnB (cd (k + 9)) [x0, x1, some (.loc 1), x3, x4, x5, x6, x7, x8, x9, x10, x11] S = .nx [x0, x1, some (.loc 1), x3, y4, y5, y6, y7, y8, y9, x10, x11] S' ∧ St sh S' := by
  have h19 : H19 (cd (k + 9)) := e19 (k + 8)
  have fg := fig_any k
  have sm : ∀ (S : Store) (n : Nat) (d : PyData), Pl 1 d → cd (k + 9) 16 [.d d, .d d] S = .ok (.d (.bool true)) S := fun S n d hd => e16 (k + 7) S 1 d hd
  obtain ⟨z1, S1, e1, a1, b1, p1, f1⟩ := h19 h.picks
  have t1 := h.pick p1 f1
  obtain ⟨z2, S2, e2, a2, b2, p2, f2⟩ := h19 t1.picks
  have t2 := t1.pick p2 f2
  obtain ⟨kind, hk, hkind⟩ := kind_of z1 a1
  have c0 := Int.emod_nonneg z2 (show (4 : Int) ≠ 0 by decide)
  have c1 := Int.emod_lt_of_pos z2 (show (0 : Int) < 4 by decide)
  obtain ⟨c, hc⟩ : ∃ c : Nat, 1 + z2 % 4 = (c : Int) := ⟨(1 + z2 % 4).toNat, by omega⟩
  -- numbers = []
  have t3 : St sh (S2 ++ [cellI []]) := t2.more (More.app S2 _)
  obtain ⟨z3, S4, e4, a4, b4, p4, f4⟩ := h19 t3.picks
  have t4 := t3.pick p4 f4
  have l2 := t2.len
  have g4 : S4[S2.length]? = some (cellI []) := (f4.at_ _ (by omega)).trans (by simp)
  have d0 := Int.emod_nonneg z3 (show (21 : Int) ≠ 0 by decide)
  have d1 := Int.emod_lt_of_pos z3 (show (0 : Int) < 21 by decide)
  obtain ⟨m, hm⟩ : ∃ m : Nat, z3 % 21 = (m : Int) := ⟨(z3 % 21).toNat, by omega⟩
  have hr : rgI (.int 0) (.int (m : Int)) = some (nI (List.range m)) := by
    rw [← rg_nI]
    exact ev_rgI (by simp [rgOk]; omega)
  obtain ⟨ns, S5, y7, e5, t5, g5, l5⟩ := num_loop h19 (nl := S2.length) (by omega) (x0 := x0) (x1 := x1) (x3 := x3) (x4 := some (A.d (.str kind))) (x5 := some (A.d (.int c))) (x8 := x8) (x9 := x9) (x10 := x10) (x11 := x11) (nI (List.range m)) [] S4 x7 t4 g4 (by rw [len_nI, List.length_range]; simp; omega)
  rw [len_nI, List.length_range] at l5
  have hns : ns.length ≤ 1000 := by simp at l5; omega
  -- the numbers are locked
  have z5 : frzA (.loc S2.length) S5 = .ok (.d (.list (ns.map .int))) (S5.set S2.length (.fzn (.list (ns.map .int)))) := by
    show (match S5[S2.length]? with | some (.lst xs) => (match pures xs with | some ds => Res.ok (A.d (.list ds)) (S5.set S2.length (.fzn (.list ds))) | none => .no) | some (.fzn d) => .ok (.d d) S5 | some (.ins _ _) => .ok (.loc S2.length) S5 | _ => .no) = _
    rw [g5]
    show (match pures (ns.map fun z => A.d (.int z)) with | some ds => Res.ok (A.d (.list ds)) (S5.set S2.length (.fzn (.list ds))) | none => .no) = _
    rw [pures_ints]
  have t6 : St sh (S5.set S2.length (.fzn (.list (ns.map .int)))) := t5.set l2
  have g6 := get_set (c' := Cell.fzn (.list (ns.map .int))) g5
  generalize S5.set S2.length (.fzn (.list (ns.map .int))) = S6 at *
  have len6 : S2.length < S6.length := (List.getElem?_eq_some_iff.mp g6).1
  obtain ⟨fig, hf⟩ := fg kind hkind ns c (by omega) (by omega)
  obtain ⟨S7, e7, m7⟩ := hf.made S6
  have g7 : S7[S2.length]? = some (.fzn (.list (ns.map .int))) := (m7.at_ _ len6).trans g6
  have z7 : frzA (.loc S2.length) S7 = .ok (.d (.list (ns.map .int))) S7 := by
    show (match S7[S2.length]? with | some (.lst xs) => (match pures xs with | some ds => Res.ok (A.d (.list ds)) (S7.set S2.length (.fzn (.list ds))) | none => .no) | some (.fzn d) => Res.ok (A.d d) S7 | some (.ins _ _) => Res.ok (.loc S2.length) S7 | _ => Res.no) = _
    rw [g7]
  have e8 := hf.due S7
  have e9 := hf.same S7
  have e10 := sm S7 0 _ (pl_ints 0 ns hns)
  obtain ⟨S8, e11, m8⟩ := hf.fig S7
  have ld : listD (.list (ns.map .int)) = some (.list (ns.map .int)) := rfl
  have ne : isnA (.d (.bool true)) (.d (.bool true)) S8 = some (.d (.bool false)) := rfl
  have e0 : (Cell.lst []) = cellI [] := rfl
  refine ⟨some (.d (.str kind)), some (.d (.int c)), some (.loc S2.length), y7, some (.d (.list (ns.map .int))), some (.d fig), S8, ?_, (t6.more m7).more m8⟩
  clear fg sm h19 hf
  generalize cd (k + 9) = F at *
  simp -implicitDefEqProofs [-Int.natCast_ediv, -Int.natCast_add, -Int.natCast_emod, -Int.natCast_mul, e1, ev_modI (show (0 : Int) < 3 by decide), hk, e2, ev_modI (show (0 : Int) < 4 by decide), hc, e0, e4, ev_modI (show (0 : Int) < 21 by decide), hm, hr, e5, z5, ld, e7, z7, e8, e9, e10, e11, ne]
theorem turns4 {k : Nat} {sh : List Int} {x0 x1 x10 x11 : Option A} : ∀ (ds : List PyData) (S : Store) (x3 x4 x5 x6 x7 x8 x9 : Option A), St sh S →
    ∃ y3 y4 y5 y6 y7 y8 y9 S', loopF (gN 3) (turnB (cd (k + 9))) ds [x0, x1, some (.loc 1), x3, x4, x5, x6, x7, x8, x9, x10, x11] S = .nx [x0, x1, some (.loc 1), y3, y4, y5, y6, y7, y8, y9, x10, x11] S' ∧ St sh S'
  | [], S, x3, x4, x5, x6, x7, x8, x9, h => ⟨x3, x4, x5, x6, x7, x8, x9, S, rfl, h⟩
  | d :: ds, S, x3, x4, x5, x6, x7, x8, x9, h => by
    obtain ⟨y4, y5, y6, y7, y8, y9, S1, e1, h1⟩ := turn (k := k) (x0 := x0) (x1 := x1) (x3 := some (.d d)) (x4 := x4) (x5 := x5) (x6 := x6) (x7 := x7) (x8 := x8) (x9 := x9) (x10 := x10) (x11 := x11) h
    obtain ⟨z3, z4, z5, z6, z7, z8, z9, S2, e2, h2⟩ := turns4 ds S1 (some (.d d)) y4 y5 y6 y7 y8 y9 h1
    refine ⟨z3, z4, z5, z6, z7, z8, z9, S2, ?_, h2⟩
    unfold loopF
    have eg : gN 3 (.d d) [x0, x1, some (.loc 1), x3, x4, x5, x6, x7, x8, x9, x10, x11] = some [x0, x1, some (.loc 1), some (.d d), x4, x5, x6, x7, x8, x9, x10, x11] := rfl
    rw [eg]
    simp only [e1]
    exact e2
/-! ### the figures of two names -/
theorem find_loop {F : Fns} {kind : Str} {fg : List Nat → PyData} (h9 : ∀ (c : List Nat) (S : Store), ∃ S', F 9 [.d (.str kind), .d (.int 2), .d (.list (nI c))] S = .ok (.d (fg c)) S' ∧ More S S') {fl : Nat} {x0 x1 x2 x3 x5 x6 x7 x8 x9 : Option A} : ∀ (cs : List (List Nat)) (kvs out : List (PyData × A)) (S : Store) (x11 : Option A), S[fl]? = some (.dic kvs) → putAll (cs.map fg) kvs = some out →
    ∃ S' y11, loopF (gN 11) (dSetI (dVal (.int 0)) (dName 10) (dCall F 9 (dCons (dName 4) (dCons (dVal (.int 2)) (dCons (dCallB (pf1 listD) (dCons (dName 11) dNil)) dNil))))) (cs.map fun c => PyData.tuple (nI c)) [x0, x1, x2, x3, some (.d (.str kind)), x5, x6, x7, x8, x9, some (.loc fl), x11] S =
      .nx [x0, x1, x2, x3, some (.d (.str kind)), x5, x6, x7, x8, x9, some (.loc fl), y11] S' ∧ S'[fl]? = some (.dic out)
  | [], kvs, out, S, x11, hs, hp => by
    cases hp
    exact ⟨S, x11, rfl, hs⟩
  | c :: cs, kvs, out, S, x11, hs, hp => by
    rw [List.map_cons] at hp
    unfold putAll at hp
    simp only [Option.ite_none_right_eq_some] at hp
    obtain ⟨⟨hu, hz⟩, hp⟩ := hp
    obtain ⟨S1, e1, m1⟩ := h9 c S
    have hs1 : S1[fl]? = some (.dic kvs) := (m1.at_ fl (List.getElem?_eq_some_iff.mp hs).1).trans hs
    obtain ⟨S', y11, e, h'⟩ := find_loop h9 (x0 := x0) (x1 := x1) (x2 := x2) (x3 := x3) (x5 := x5) (x6 := x6) (x7 := x7) (x8 := x8) (x9 := x9) cs (dPut kvs (fg c) (.d (.int 0))) out (S1.set fl (.dic (dPut kvs (fg c) (.d (.int 0))))) (some (.d (.tuple (nI c)))) (get_set hs1) hp
    refine ⟨S', y11, ?_, h'⟩
    rw [List.map_cons]
    unfold loopF
    have eg : gN 11 (.d (.tuple (nI c))) [x0, x1, x2, x3, some (.d (.str kind)), x5, x6, x7, x8, x9, some (.loc fl), x11] = some [x0, x1, x2, x3, some (.d (.str kind)), x5, x6, x7, x8, x9, some (.loc fl), some (.d (.tuple (nI c)))] := rfl
    have si : setIx (.loc fl) (.d (fg c)) (.d (.int 0)) S1 = some (S1.set fl (.dic (dPut kvs (fg c) (.d (.int 0))))) := by
      unfold setIx
      simp only [hs1]
      rw [if_pos ⟨hu, hz⟩]
    have hc : dCall F 9 (dCons (dName 4) (dCons (dVal (.int 2)) (dCons (dCallB (pf1 listD) (dCons (dName 11) dNil)) dNil))) [x0, x1, x2, x3, some (.d (.str kind)), x5, x6, x7, x8, x9, some (.loc fl), some (.d (.tuple (nI c)))] S = .ok (.d (fg c)) S1 := by
      simp -implicitDefEqProofs [-Int.natCast_ediv, -Int.natCast_add, -Int.natCast_emod, -Int.natCast_mul, listD, e1]
    have hn : dName 10 [x0, x1, x2, x3, some (.d (.str kind)), x5, x6, x7, x8, x9, some (.loc fl), some (.d (.tuple (nI c)))] S = .ok (.loc fl) S := by simp -implicitDefEqProofs [-Int.natCast_ediv, -Int.natCast_add, -Int.natCast_emod, -Int.natCast_mul]
    have eb : dSetI (dVal (.int 0)) (dName 10) (dCall F 9 (dCons (dName 4) (dCons (dVal (.int 2)) (dCons (dCallB (pf1 listD) (dCons (dName 11) dNil)) dNil)))) [x0, x1, x2, x3, some (.d (.str kind)), x5, x6, x7, x8, x9, some (.loc fl), some (.d (.tuple (nI c)))] S = .nx [x0, x1, x2, x3, some (.d (.str kind)), x5, x6, x7, x8, x9, some (.loc fl), some (.d (.tuple (nI c)))] (S1.set fl (.dic (dPut kvs (fg c) (.d (.int 0))))) := by
      unfold dSetI
      rw [ev_val, Res.ok_thenS, hn, Res.ok_thenS, hc, Res.ok_thenS, si]
    rw [eg]
    simp only [eb]
    exact e
end K76

namespace K76
open PySem PySem.Spec L2 Ev
theorem e21b2 (F Fm : Fns) (S : Store) : defR (b21 F Fm (enter 6 [.d (.list [five, five])]) S) = .ok (.d (.list (chD 2))) S := by kernel_rfl
theorem e21b4 (F Fm : Fns) (S : Store) : defR (b21 F Fm (enter 6 [.d (.list [five, five, five, five])]) S) = .ok (.d (.list (chD 4))) S := by kernel_rfl
theorem e21_2 (k : Nat) (S : Store) : cd (k + 1) 21 [.d (.list [five, five])] S = .ok (.d (.list (chD 2))) S := by
  rw [v21 k _ S rfl]
  exact e21b2 _ _ _
theorem e21_4 (k : Nat) (S : Store) : cd (k + 1) 21 [.d (.list [five, five, five, five])] S = .ok (.d (.list (chD 4))) S := by
  rw [v21 k _ S rfl]
  exact e21b4 _ _ _
theorem put_line : ∃ out, putAll ((choices 4).map fun c => lineD (c.map fun n : Nat => (n : Int)) 2 0) [] = some out ∧ out.length = 13 := by
  have h := count_line
  cases e : putAll ((choices 4).map fun c => lineD (c.map fun n : Nat => (n : Int)) 2 0) [] with
  | none => rw [e] at h; cases h
  | some out => rw [e] at h; exact ⟨out, rfl, Option.some.inj h⟩
theorem put_ring : ∃ out, putAll ((choices 2).map fun c => ringD (c.map fun n : Nat => (n : Int)) 2) [] = some out ∧ out.length = 16 := by
  have h := count_ring
  cases e : putAll ((choices 2).map fun c => ringD (c.map fun n : Nat => (n : Int)) 2) [] with
  | none => rw [e] at h; cases h
  | some out => rw [e] at h; exact ⟨out, rfl, Option.some.inj h⟩
theorem nI_ints (c : List Nat) : nI c = (c.map fun n : Nat => (n : Int)).map .int := by
  unfold nI
  rw [List.map_map]; rfl
theorem e28 (k : Nat) (ns : List Int) : ∃ S, cd (k + 10) 28 [.d (.list (ns.map .int))] [] = .ok (.d (.bool true)) S := by
  obtain ⟨sh, e18', hsh, lsh⟩ := e18 (k + 7) [] ns 0 2 720 (by omega) (by omega) (by omega) (by omega)
  obtain ⟨pk, e20', hpk⟩ := e20 (k + 6) [cellI sh] ns
  have e18' : cd (k + 9) 18 [.d (.list (ns.map .int)), .d (.int 0), .d (.int 2), .d (.int 720)] [] = .ok (.loc 0) [cellI sh] := e18'
  have e20' : cd (k + 9) 20 [.d (.list (ns.map .int)), .d (.int 1), .d (.int 160)] [cellI sh] = .ok (.loc 1) [cellI sh, cellI pk] := e20'
  have st0 : St sh [cellI sh, cellI pk] := ⟨rfl, ⟨pk, rfl, hpk⟩, by simp⟩
  have hr : rgI (.int 0) (.int 4) = some (nI (List.range 4)) := by
    have := rg_nI 4
    rw [← this]
    exact ev_rgI (by decide)
  obtain ⟨y3, y4, y5, y6, y7, y8, y9, S1, e1, st1⟩ := turns4 (k := k) (x0 := some (A.d (.list (ns.map .int)))) (x1 := some (A.loc 0)) (x10 := none) (x11 := none) (nI (List.range 4)) [cellI sh, cellI pk] none none none none none none none st0
  obtain ⟨s0, s1, rfl⟩ : ∃ s0 s1, sh = [s0, s1] := by
    match sh, lsh with
    | [s0, s1], _ => exact ⟨s0, s1, rfl⟩
  have ix : ∀ (i : Int) (z : Int), atI [A.d (.int s0), A.d (.int s1)] i = some (A.d (.int z)) → ixU (.loc 0) (.d (.int i)) S1 = some (.d (.int z)) := fun i z hz => by
    unfold ixU
    simp only [st1.shape]
    show ixA (.loc 0) (.d (.int i)) S1 = _
    unfold ixA
    simp only [st1.shape]
    exact hz
  have i0 := ix 0 s0 rfl
  have i1 := ix 1 s1 rfl
  have q0 := Int.emod_nonneg s1 (show (2 : Int) ≠ 0 by decide)
  have q1 := Int.emod_lt_of_pos s1 (show (0 : Int) < 2 by decide)
  have h5 : rgD1 (.int 5) = some five := by
    show (if rgOk 0 5 = true then some (PyData.list ((rgL 0 5).map .int)) else none) = _
    rw [if_pos (by decide)]
    rfl
  have h21_2 := e21_2 (k + 8)
  have h21_4 := e21_4 (k + 8)
  have f9l : ∀ (c : List Nat) (S : Store), ∃ S', cd (k + 9) 9 [.d (.str "line"), .d (.int 2), .d (.list (nI c))] S = .ok (.d (lineD (c.map fun n : Nat => (n : Int)) 2 0)) S' ∧ More S S' := fun c S => by
    rw [nI_ints]
    exact (fig_line k _ 2 (by omega) (by omega)).made S
  have f9r : ∀ (c : List Nat) (S : Store), ∃ S', cd (k + 9) 9 [.d (.str "ring"), .d (.int 2), .d (.list (nI c))] S = .ok (.d (ringD (c.map fun n : Nat => (n : Int)) 2)) S' ∧ More S S' := fun c S => by
    rw [nI_ints]
    exact (fig_ring k _ 2 (by omega) (by omega)).made S
  rw [v28 (k + 9) _ _ rfl]
  generalize cd (k + 9) = F at *
  generalize cm (k + 9) = Fm at *
  by_cases hs : 0 < s0 % 8
  · refine ⟨S1, ?_⟩
    show defR (b28 F Fm _ _) = _
    unfold b28
    simp -implicitDefEqProofs [-Int.natCast_ediv, -Int.natCast_add, -Int.natCast_emod, -Int.natCast_mul, e18', e20', hr, e1, i0, ev_modI (show (0 : Int) < 8 by decide), hs]
  · -- the lists of 0 .. 4
    have cell : ∀ (T : Store), (T ++ [Cell.lst [A.d five]])[T.length]? = some (.lst [A.d five]) := fun T => by simp
    have mu : ∀ (T : Store) (n : Nat) (out : List PyData), out = (List.replicate n [five]).flatten → n ≤ 10 → mulA (.loc T.length) (.d (.int n)) (T ++ [Cell.lst [A.d five]]) = some (.d (.list out)) := fun T n out ho hn => by
      unfold mulA
      simp only [cell]
      show (if decide (-4611686018427387904 ≤ (n : Int)) && decide ((n : Int) < 4611686018427387904) && decide (1 * (n : Int).toNat ≤ 16777216) then some (A.d (.list (List.replicate (n : Int).toNat [five]).flatten)) else none) = _
      rw [if_pos (by simp; omega), ho]
      rfl
    have kd : s1 % 2 = 0 ∨ s1 % 2 = 1 := by omega
    have a0' : atI [PyData.str "line", .str "ring"] 0 = some (.str "line") := rfl
    have a1' : atI [PyData.str "line", .str "ring"] 1 = some (.str "ring") := rfl
    have nd : (S1 ++ [Cell.dic []])[S1.length]? = some (.dic []) := by simp
    have nd2 : (S1 ++ [Cell.dic []] ++ [Cell.lst [A.d five]])[S1.length]? = some (.dic []) := by
      rw [List.getElem?_append_left (by simp)]; exact nd
    have lr : ¬ ("line" : Str) = "ring" := fun e => rl e.symm
    have len_d : ∀ (S' : Store) (out : List (PyData × A)), S'[S1.length]? = some (.dic out) → lenA [.loc S1.length] S' = some (.d (.int out.length)) := fun S' out h => by
      show (match S'[S1.length]? with | some (.lst as) => some (A.d (.int as.length)) | some (.dic kvs) => some (A.d (.int kvs.length)) | some (.fzn (.list ds)) => some (A.d (.int ds.length)) | _ => none) = _
      rw [h]
    rcases kd with hk | hk
    · obtain ⟨out, po, lo⟩ := put_line
      obtain ⟨S2, y11, e2, g2⟩ := find_loop f9l (fl := S1.length) (x0 := some (A.d (.list (ns.map .int)))) (x1 := some (A.loc 0)) (x2 := some (A.loc 1)) (x3 := y3) (x5 := y5) (x6 := y6) (x7 := y7) (x8 := y8) (x9 := y9) (choices 4) [] out (S1 ++ [Cell.dic []] ++ [Cell.lst [A.d five]]) none nd2 po
      refine ⟨S2, ?_⟩
      have m4 := mu (S1 ++ [Cell.dic []]) 4 [five, five, five, five] rfl (by omega)
      have lS : (S1 ++ [Cell.dic []]).length = S1.length + 1 := by simp
      rw [lS] at m4
      have e2 : loopF _ _ (chD 4) _ _ = _ := e2
      have ln := len_d S2 out g2
      rw [lo] at ln
      have m4 : mulA (.loc (S1.length + 1)) (.d (.int 4)) (S1 ++ [Cell.dic []] ++ [Cell.lst [A.d five]]) = some (.d (.list [five, five, five, five])) := m4
      show defR (b28 F Fm _ _) = _
      unfold b28
      have ap : S1 ++ [Cell.dic []] ++ [Cell.lst [A.d five]] = S1 ++ [Cell.dic [], Cell.lst [A.d five]] := by simp
      rw [ap] at m4 e2
      simp -implicitDefEqProofs [-Int.natCast_ediv, -Int.natCast_add, -Int.natCast_emod, -Int.natCast_mul, e18', e20', hr, e1, i0, ev_modI (show (0 : Int) < 8 by decide), hs, i1, hk, a0', dNewD, h5, m4, h21_4, e2, ln, lr]
    · obtain ⟨out, po, lo⟩ := put_ring
      obtain ⟨S2, y11, e2, g2⟩ := find_loop f9r (fl := S1.length) (x0 := some (A.d (.list (ns.map .int)))) (x1 := some (A.loc 0)) (x2 := some (A.loc 1)) (x3 := y3) (x5 := y5) (x6 := y6) (x7 := y7) (x8 := y8) (x9 := y9) (choices 2) [] out (S1 ++ [Cell.dic []] ++ [Cell.lst [A.d five]]) none nd2 po
      refine ⟨S2, ?_⟩
      have m4 := mu (S1 ++ [Cell.dic []]) 2 [five, five] rfl (by omega)
      have lS : (S1 ++ [Cell.dic []]).length = S1.length + 1 := by simp
      rw [lS] at m4
      have e2 : loopF _ _ (chD 2) _ _ = _ := e2
      have ln := len_d S2 out g2
      rw [lo] at ln
      have m4 : mulA (.loc (S1.length + 1)) (.d (.int 2)) (S1 ++ [Cell.dic []] ++ [Cell.lst [A.d five]]) = some (.d (.list [five, five])) := m4
      show defR (b28 F Fm _ _) = _
      unfold b28
      have ap : S1 ++ [Cell.dic []] ++ [Cell.lst [A.d five]] = S1 ++ [Cell.dic [], Cell.lst [A.d five]] := by simp
      rw [ap] at m4 e2
      simp -implicitDefEqProofs [-Int.natCast_ediv, -Int.natCast_add, -Int.natCast_emod, -Int.natCast_mul, e18', e20', hr, e1, i0, ev_modI (show (0 : Int) < 8 by decide), hs, i1, hk, a1', dNewD, h5, m4, h21_2, e2, ln, rl]
end K76

theorem PySem.Challenge.cw_stretchways_k76_figures_drawn_by_numbers_holds : PySem.Challenge.rw_stretchways_k76_figures_drawn_by_numbers.Holds :=
  K76.holds_of 10 ⟨rfl, by decide, by decide⟩ fun ns _ => K76.e28 0 ns
