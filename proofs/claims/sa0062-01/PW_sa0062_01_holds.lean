import PyProof.Rows.All
import Wide.All
import OpenK.AllK
import Wide.FinOn
import KE.KRevSl
import KE.KUnpack
import KE.KRevIter
import KE.KItem
import KE.KSuper
import PyProof.ExcInit
import PySem.Challenge.RW_sa0062_01
set_option Elab.async false
set_option linter.unusedVariables false
set_option linter.unusedSimpArgs false
section
open PySem PySem.W PyProof.Rows PySem.Spec PySem.Calls
set_option maxRecDepth 100000
namespace Mine

/-- the strings that are met, by number -/
noncomputable def tb : List Str := ["whole", "A%", "T%", "R%", "%", "$", "BS", "",
  "kind", "highs", "base", "items", "room", "bits", "digits", "most_steps", "most_depth", "names", "arrays", "kinds", "fns", "out", "row",
  "inputs", "files", "open", "fields", "data", "spot", "seed", "steps", "depth", "handler", "is_handling", "error_line", "error_code", "is_traced", "traces", "common", "text"].map Str.ofString

/-- values as trees; `sym k` is the int β.b + k; `ref n` is the n-th object that may change -/
inductive MV where
  | undef
  | none
  | bool (b : Bool)
  | int (i : Int)
  | sym (k : Int)
  | str (x : Nat)
  | list (xs : List MV)
  | ref (n : Nat)

inductive AObj where
  | list (xs : List MV)
  | attrs (es : List (Nat × MV))
  | dict (es : List (Nat × MV))
  | inst (C : Addr) (d : Nat)

/-- what a statement is told with: the int that `sym` counts from, the world -/
structure Gl where
  b : Int
  w : World

structure St where
  vars : List MV
  objs : List AObj

mutual
inductive VR (β : Gl) (h : Heap) (adr : List Addr) : Value → MV → Prop
  | undef (v : Value) : VR β h adr v .undef
  | none : VR β h adr .none .none
  | bool (b : Bool) : VR β h adr (.bool b) (.bool b)
  | int (i : Int) (t : Tok) : VR β h adr (.int i t) (.int i)
  | sym (k : Int) (t : Tok) : VR β h adr (.int (β.b + k) t) (.sym k)
  | str {x : Str} {i : Nat} (t : Tok) : tb[i]? = some x → VR β h adr (.str x t) (.str i)
  | list {a : Addr} {vs : List Value} {n : Nat} {ds : List MV} : h.get? a = some (listOf vs.toArray n) → a ∉ adr → VRs β h adr vs ds → VR β h adr (.ref a) (.list ds)
  | ref {n : Nat} {a : Addr} : adr[n]? = some a → VR β h adr (.ref a) (.ref n)
inductive VRs (β : Gl) (h : Heap) (adr : List Addr) : List Value → List MV → Prop
  | nil : VRs β h adr [] []
  | cons {v : Value} {vs : List Value} {d : MV} {ds : List MV} : VR β h adr v d → VRs β h adr vs ds → VRs β h adr (v :: vs) (d :: ds)
end

/-- entries of an object's attributes -/
inductive ERs (β : Gl) (h : Heap) (adr : List Addr) : List DictEntry → List (Nat × MV) → Prop
  | nil : ERs β h adr [] []
  | cons {hs : Int} {x : Str} {t : Tok} {v : Value} {es : List DictEntry} {i : Nat} {d : MV} {ds : List (Nat × MV)} :
      tb[i]? = some x → VR β h adr v d → ERs β h adr es ds → ERs β h adr (⟨hs, .str x t, v⟩ :: es) ((i, d) :: ds)

/-- the items of a dict with written strs for keys -/
inductive KRs (β : Gl) (h : Heap) (adr : List Addr) : List (Str × Value) → List (Nat × MV) → Prop
  | nil : KRs β h adr [] []
  | cons {x : Str} {v : Value} {es : List (Str × Value)} {i : Nat} {d : MV} {ds : List (Nat × MV)} :
      tb[i]? = some x → VR β h adr v d → KRs β h adr es ds → KRs β h adr ((x, v) :: es) ((i, d) :: ds)

inductive ORel (β : Gl) (h : Heap) (adr : List Addr) (a : Addr) : AObj → Prop
  | list {vs : List Value} {n : Nat} {xs : List MV} : h.get? a = some (listOf vs.toArray n) → VRs β h adr vs xs → ORel β h adr a (.list xs)
  | attrs {es : List DictEntry} {n : Nat} {ds : List (Nat × MV)} : h.get? a = some (dictOf es n) → ERs β h adr es ds → ORel β h adr a (.attrs ds)
  | inst {C : Addr} {d : Nat} {ad : Addr} : h.get? a = some (instObj C ad) → adr[d]? = some ad → ORel β h adr a (.inst C d)
  | dict {kvs : List (Str × Value)} {ds : List (Nat × MV)} : (∀ prog, h.DictOf (strKind prog β.w) a kvs) → KRs β h adr kvs ds → ORel β h adr a (.dict ds)

noncomputable def frs (fr : List Env) : List Addr := fr.filterMap (·.frame)

/-- the heap at large -/
structure Hp (hb : Heap) (β : Gl) (fr : List Env) (adr : List Addr) (objs : List AObj) (h : Heap) : Prop where
  base : ∀ b o, hb.get? b = some o → h.get? b = some o
  off : ∀ a ∈ adr, hb.get? a = none
  low : ∀ a ∈ adr, sysModules < a
  big : ∃ a o, sysModules < a ∧ hb.get? a = some o
  nodup : adr.Nodup
  len : adr.length = objs.length
  objs : ∀ (n : Nat) (o : AObj), objs[n]? = some o → ∃ a, adr[n]? = some a ∧ ORel β h adr a o
  fr : ∀ e ∈ fr, e.scope.kind ≠ .module ∧ ∃ L m, e.frame = some L ∧ hb.get? L = none ∧ L ∉ adr ∧ h.Ns L m

/-- a block of names: its env, the names in their order, the addresses it may write at -/
structure Bk where
  env : Env
  ns : List Str
  ws : List Str := ns
  W : List Addr

noncomputable def NameIs (h : Heap) (env : Env) (x : Str) (v : Value) : Prop :=
  (env.kindOf x = some .local ∧ ∃ m, h.Ns env.locals m ∧ m x = some v) ∨
  ((env.kindOf x = some .cell ∨ env.kindOf x = some .free) ∧ ∃ c, env.cells.lookup x = some c ∧ h.IsCell c (some v))

structure Blk (hb : Heap) (β : Gl) (B : Bk) (adr : List Addr) (vars : List MV) (h : Heap) : Prop where
  ns : ∃ m, h.Ns B.env.locals m
  locW : B.env.locals ∈ B.W
  own : ∀ a ∈ B.W, a ∉ adr ∧ hb.get? a = none ∧ ((∃ m, h.Ns a m) ∨ ∃ v, h.IsCell a v)
  cell : ∀ x c, B.env.cells.lookup x = some c → c ∉ adr ∧ ∃ v, h.IsCell c v
  cellW : ∀ x ∈ B.ws, B.env.kindOf x = some .cell → ∃ c, B.env.cells.lookup x = some c ∧ c ∈ B.W
  apart : B.env.cells.Pairwise fun x y => x.2 ≠ y.2
  vars : ∀ (i : Nat) (x : Str) (mv : MV), B.ns[i]? = some x → vars[i]? = some mv → mv ≠ .undef → ∃ v, NameIs h B.env x v ∧ VR β h adr v mv

structure Inv (hb : Heap) (β : Gl) (B : Bk) (fr : List Env) (adr : List Addr) (st : St) (h : Heap) : Prop where
  hp : Hp hb β fr adr st.objs h
  blk : Blk hb β B adr st.vars h

/-- what a piece of the run leaves as it was -/
structure Adv (W F : List Addr) (adr : List Addr) (h : Heap) (adr' : List Addr) (h' : Heap) : Prop where
  pre : adr <+: adr'
  new : ∀ a ∈ adr', a ∈ adr ∨ h.get? a = none
  alive : ∀ b o, h.get? b = some o → ∃ o', h'.get? b = some o'
  keep : ∀ b o, h.get? b = some o → b ∉ W → b ∉ adr → b ∉ F → h'.get? b = some o
  slots : ∀ b o, h.get? b = some o → b ∉ W → b ∉ adr → b ∈ F → ∃ sl, h'.get? b = some { o with slots := sl }

/-- neither a frame's names nor a cell -/
noncomputable def isSeq (o : Obj) : Bool := match o.data with | .dict .. => false | .cell .. => false | _ => true

theorem Adv.refl {W F adr : List Addr} {h : Heap} : Adv W F adr h adr h :=
  ⟨List.prefix_refl _, fun _ ha => .inl ha, fun _ o e => ⟨o, e⟩, fun _ _ e _ _ _ => e, fun _ o e _ _ _ => ⟨o.slots, e⟩⟩

theorem Adv.of_keeps {W F adr : List Addr} {h h' : Heap} (k : ∀ b o, h.get? b = some o → h'.get? b = some o) : Adv W F adr h adr h' :=
  ⟨List.prefix_refl _, fun _ ha => .inl ha, fun _ o e => ⟨o, k _ _ e⟩, fun _ _ e _ _ _ => k _ _ e, fun _ o e _ _ _ => ⟨o.slots, k _ _ e⟩⟩

theorem Adv.mem {W F adr adr' : List Addr} {h h' : Heap} (x : Adv W F adr h adr' h') {a : Addr} (ha : a ∈ adr) : a ∈ adr' := x.pre.subset ha

theorem Adv.notMem {W F adr adr' : List Addr} {h h' : Heap} (x : Adv W F adr h adr' h') {a : Addr} {o : Obj} (e : h.get? a = some o) (ha : a ∉ adr) : a ∉ adr' := fun hm => by
  rcases x.new a hm with hm | hm
  · exact ha hm
  · rw [e] at hm; cases hm

theorem Adv.at {W F adr adr' : List Addr} {h h' : Heap} (x : Adv W F adr h adr' h') {n : Nat} {a : Addr} (e : adr[n]? = some a) : adr'[n]? = some a := by
  obtain ⟨l, rfl⟩ := x.pre
  have hn : n < adr.length := by
    rcases Nat.lt_or_ge n adr.length with h | h
    · exact h
    · rw [List.getElem?_eq_none h] at e; cases e
  rw [List.getElem?_append_left hn]; exact e

theorem Adv.trans {W F adr adr₁ adr₂ : List Addr} {h h₁ h₂ : Heap} (x : Adv W F adr h adr₁ h₁) (y : Adv W F adr₁ h₁ adr₂ h₂) : Adv W F adr h adr₂ h₂ where
  pre := x.pre.trans y.pre
  new := fun a ha => by
    rcases y.new a ha with h1 | h1
    · exact x.new a h1
    · cases e : h.get? a with
      | none => exact .inr rfl
      | some o => obtain ⟨o', e'⟩ := x.alive a o e; rw [h1] at e'; cases e'
  alive := fun b o e => by obtain ⟨o', e'⟩ := x.alive b o e; exact y.alive b o' e'
  keep := fun b o e hw ha hf => y.keep b o (x.keep b o e hw ha hf) hw (x.notMem e ha) hf
  slots := fun b o e hw ha hf => by
    obtain ⟨sl, e1⟩ := x.slots b o e hw ha hf
    obtain ⟨sl2, e2⟩ := y.slots b _ e1 hw (x.notMem e ha) hf
    exact ⟨sl2, e2⟩

theorem Adv.mono {W W' F adr adr' : List Addr} {h h' : Heap} (x : Adv W F adr h adr' h') (hW : ∀ a ∈ W, a ∈ W') : Adv W' F adr h adr' h' where
  pre := x.pre
  new := x.new
  alive := x.alive
  keep := fun b o e hw => x.keep b o e fun hm => hw (hW b hm)
  slots := fun b o e hw => x.slots b o e fun hm => hw (hW b hm)

mutual
theorem VR.mono {β : Gl} {W F adr adr' : List Addr} {h h' : Heap} (x : Adv W F adr h adr' h') (hs : ∀ a, a ∈ W ∨ a ∈ F → ∀ o, h.get? a = some o → isSeq o = false) :
    ∀ {v : Value} {d : MV}, VR β h adr v d → VR β h' adr' v d
  | _, _, .undef v => .undef v
  | _, _, .none => .none
  | _, _, .bool b => .bool b
  | _, _, .int i t => .int i t
  | _, _, .sym k t => .sym k t
  | _, _, .str t e => .str t e
  | _, _, .list e ha r => .list (x.keep _ _ e (fun hm => by have := hs _ (.inl hm) _ e; cases this) ha (fun hm => by have := hs _ (.inr hm) _ e; cases this)) (x.notMem e ha) (VRs.mono x hs r)
  | _, _, .ref e => .ref (x.at e)
theorem VRs.mono {β : Gl} {W F adr adr' : List Addr} {h h' : Heap} (x : Adv W F adr h adr' h') (hs : ∀ a, a ∈ W ∨ a ∈ F → ∀ o, h.get? a = some o → isSeq o = false) :
    ∀ {vs : List Value} {ds : List MV}, VRs β h adr vs ds → VRs β h' adr' vs ds
  | _, _, .nil => .nil
  | _, _, .cons a b => .cons (VR.mono x hs a) (VRs.mono x hs b)
end

theorem ERs.mono {β : Gl} {W F adr adr' : List Addr} {h h' : Heap} (x : Adv W F adr h adr' h') (hs : ∀ a, a ∈ W ∨ a ∈ F → ∀ o, h.get? a = some o → isSeq o = false)
    {es : List DictEntry} {ds : List (Nat × MV)} (r : ERs β h adr es ds) : ERs β h' adr' es ds := by
  induction r with
  | nil => exact .nil
  | cons e v _ ih => exact .cons e (v.mono x hs) ih

theorem KRs.mono {β : Gl} {W F adr adr' : List Addr} {h h' : Heap} (x : Adv W F adr h adr' h') (hs : ∀ a, a ∈ W ∨ a ∈ F → ∀ o, h.get? a = some o → isSeq o = false)
    {es : List (Str × Value)} {ds : List (Nat × MV)} (r : KRs β h adr es ds) : KRs β h' adr' es ds := by
  induction r with
  | nil => exact .nil
  | cons e v _ ih => exact .cons e (v.mono x hs) ih

theorem ns_notSeq {h : Heap} {a : Addr} {m : Str → Option Value} (x : h.Ns a m) {o : Obj} (e : h.get? a = some o) : isSeq o = false := by
  obtain ⟨o', es, ep, e', hd, _⟩ := x
  rw [e] at e'; cases e'
  unfold isSeq; rw [hd]
theorem cell_notSeq {h : Heap} {a : Addr} {v : Option Value} (x : h.IsCell a v) {o : Obj} (e : h.get? a = some o) : isSeq o = false := by
  obtain ⟨o', e', hd⟩ := x
  rw [e] at e'; cases e'
  unfold isSeq; rw [hd]
theorem ns_notCell {h : Heap} {a : Addr} {m : Str → Option Value} {v : Option Value} (x : h.Ns a m) (y : h.IsCell a v) : False := by
  obtain ⟨o', es, ep, e', hd, _⟩ := x
  obtain ⟨o, e, hc⟩ := y
  rw [e] at e'; cases e'
  rw [hd] at hc; cases hc

theorem Hp.frSeq {hb : Heap} {β : Gl} {fr : List Env} {adr : List Addr} {objs : List AObj} {h : Heap} (x : Hp hb β fr adr objs h) {a : Addr} (ha : a ∈ frs fr) {o : Obj} (e : h.get? a = some o) : isSeq o = false := by
  obtain ⟨env, he, hf⟩ := List.mem_filterMap.mp ha
  obtain ⟨_, L, m, h1, _, _, h4⟩ := x.fr env he
  rw [hf] at h1; cases h1
  exact ns_notSeq h4 e

theorem Inv.noSeq {hb : Heap} {β : Gl} {B : Bk} {fr : List Env} {adr : List Addr} {st : St} {h : Heap} (x : Inv hb β B fr adr st h) : ∀ a, a ∈ B.W ∨ a ∈ frs fr → ∀ o, h.get? a = some o → isSeq o = false := by
  intro a ha o e
  rcases ha with ha | ha
  · obtain ⟨_, _, h3⟩ := x.blk.own a ha
    rcases h3 with ⟨m, h3⟩ | ⟨v, h3⟩
    · exact ns_notSeq h3 e
    · exact cell_notSeq h3 e
  · exact x.hp.frSeq ha e

/-- all that stands is kept -/
theorem VR.keeps {β : Gl} {adr : List Addr} {h h' : Heap} (k : ∀ b o, h.get? b = some o → h'.get? b = some o) {v : Value} {d : MV} (x : VR β h adr v d) : VR β h' adr v d :=
  x.mono (W := []) (F := []) (Adv.of_keeps k) (by rintro a (h | h) <;> cases h)
theorem VRs.keeps {β : Gl} {adr : List Addr} {h h' : Heap} (k : ∀ b o, h.get? b = some o → h'.get? b = some o) {v : List Value} {d : List MV} (x : VRs β h adr v d) : VRs β h' adr v d :=
  x.mono (W := []) (F := []) (Adv.of_keeps k) (by rintro a (h | h) <;> cases h)
theorem ORel.keeps {β : Gl} {adr : List Addr} {h h' : Heap} (k : ∀ b o, h.get? b = some o → h'.get? b = some o) {a : Addr} {d : AObj} (x : ORel β h adr a d) : ORel β h' adr a d := by
  cases x with
  | list e r => exact .list (k _ _ e) (r.keeps k)
  | attrs e r => exact .attrs (k _ _ e) (r.mono (W := []) (F := []) (Adv.of_keeps k) (by rintro a (h | h) <;> cases h))
  | inst e r => exact .inst (k _ _ e) r
  | dict e r => exact .dict (fun p => (e p).keep k) (r.mono (W := []) (F := []) (Adv.of_keeps k) (by rintro a (h | h) <;> cases h))
theorem Hp.keeps {hb : Heap} {β : Gl} {fr : List Env} {adr : List Addr} {objs : List AObj} {h h' : Heap} (k : ∀ b o, h.get? b = some o → h'.get? b = some o) (x : Hp hb β fr adr objs h) : Hp hb β fr adr objs h' where
  base := fun b o e => k b o (x.base b o e)
  off := x.off
  low := x.low
  big := x.big
  nodup := x.nodup
  len := x.len
  objs := fun n o e => let ⟨a, h1, h2⟩ := x.objs n o e; ⟨a, h1, h2.keeps k⟩
  fr := fun e he => let ⟨h1, L, m, h2, h3, h4, h5⟩ := x.fr e he; ⟨h1, L, m, h2, h3, h4, h5.keeps k⟩
theorem NameIs.keeps {h h' : Heap} {env : Env} {x : Str} {v : Value} (k : ∀ b o, h.get? b = some o → h'.get? b = some o) (y : NameIs h env x v) : NameIs h' env x v := by
  rcases y with ⟨h1, m, h2, h3⟩ | ⟨h1, c, h2, h3⟩
  · exact .inl ⟨h1, m, h2.keeps k, h3⟩
  · exact .inr ⟨h1, c, h2, h3.keeps k⟩
theorem Blk.keeps {hb : Heap} {β : Gl} {B : Bk} {adr : List Addr} {vars : List MV} {h h' : Heap} (k : ∀ b o, h.get? b = some o → h'.get? b = some o) (x : Blk hb β B adr vars h) : Blk hb β B adr vars h' where
  ns := let ⟨m, hm⟩ := x.ns; ⟨m, hm.keeps k⟩
  locW := x.locW
  own := fun a ha => let ⟨h1, h2, h3⟩ := x.own a ha; ⟨h1, h2, h3.elim (fun ⟨m, z⟩ => .inl ⟨m, z.keeps k⟩) fun ⟨v, z⟩ => .inr ⟨v, z.keeps k⟩⟩
  cell := fun y c hc => let ⟨h1, v, h2⟩ := x.cell y c hc; ⟨h1, v, h2.keeps k⟩
  cellW := x.cellW
  apart := x.apart
  vars := fun i y mv h1 h2 h3 => let ⟨v, h4, h5⟩ := x.vars i y mv h1 h2 h3; ⟨v, h4.keeps k, h5.keeps k⟩
theorem Inv.keeps {hb : Heap} {β : Gl} {B : Bk} {fr : List Env} {adr : List Addr} {st : St} {h h' : Heap} (k : ∀ b o, h.get? b = some o → h'.get? b = some o) (x : Inv hb β B fr adr st h) : Inv hb β B fr adr st h' := ⟨x.hp.keeps k, x.blk.keeps k⟩

theorem VRs.length {β : Gl} {adr : List Addr} {h : Heap} {vs : List Value} {ds : List MV} (x : VRs β h adr vs ds) : vs.length = ds.length := by
  induction vs generalizing ds with
  | nil => cases x; rfl
  | cons v vs ih => cases x with | cons _ r => rw [List.length_cons, List.length_cons, ih r]
theorem VRs.get {β : Gl} {adr : List Addr} {h : Heap} {vs : List Value} {ds : List MV} (x : VRs β h adr vs ds) {k : Nat} {d : MV} (hk : ds[k]? = some d) : ∃ v, vs[k]? = some v ∧ VR β h adr v d := by
  induction vs generalizing ds k with
  | nil => cases x; simp at hk
  | cons v vs ih =>
    cases x with
    | cons a r =>
      cases k with
      | zero => simp at hk; subst hk; exact ⟨v, rfl, a⟩
      | succ k => simp at hk; simpa using ih r hk
theorem VRs.append {β : Gl} {adr : List Addr} {h : Heap} {vs ws : List Value} {ds es : List MV} (x : VRs β h adr vs ds) (y : VRs β h adr ws es) : VRs β h adr (vs ++ ws) (ds ++ es) := by
  induction vs generalizing ds with
  | nil => cases x; exact y
  | cons v vs ih => cases x with | cons a r => exact .cons a (ih r)
theorem VRs.set {β : Gl} {adr : List Addr} {h : Heap} {vs : List Value} {ds : List MV} (x : VRs β h adr vs ds) {k : Nat} {v : Value} {d : MV} (y : VR β h adr v d) : VRs β h adr (vs.set k v) (ds.set k d) := by
  induction vs generalizing ds k with
  | nil => cases x; exact .nil
  | cons u us ih =>
    cases x with
    | cons a r =>
      cases k with
      | zero => exact .cons y r
      | succ k => exact .cons a (ih r)
theorem VRs.drop {β : Gl} {adr : List Addr} {h : Heap} {vs : List Value} {ds : List MV} (x : VRs β h adr vs ds) (k : Nat) : VRs β h adr (vs.drop k) (ds.drop k) := by
  induction vs generalizing ds k with
  | nil => cases x; simp; exact .nil
  | cons u us ih =>
    cases x with
    | cons a r =>
      cases k with
      | zero => exact .cons a r
      | succ k => exact ih r k
theorem VRs.take {β : Gl} {adr : List Addr} {h : Heap} {vs : List Value} {ds : List MV} (x : VRs β h adr vs ds) (k : Nat) : VRs β h adr (vs.take k) (ds.take k) := by
  induction vs generalizing ds k with
  | nil => cases x; simp; exact .nil
  | cons u us ih =>
    cases x with
    | cons a r =>
      cases k with
      | zero => exact .nil
      | succ k => exact .cons a (ih r k)
theorem VRs.reverse {β : Gl} {adr : List Addr} {h : Heap} {vs : List Value} {ds : List MV} (x : VRs β h adr vs ds) : VRs β h adr vs.reverse ds.reverse := by
  induction vs generalizing ds with
  | nil => cases x; exact .nil
  | cons u us ih =>
    cases x with
    | cons a r => rw [List.reverse_cons, List.reverse_cons]; exact (ih r).append (.cons a .nil)
theorem VRs.replicate {β : Gl} {adr : List Addr} {h : Heap} {v : Value} {d : MV} (x : VR β h adr v d) (k : Nat) : VRs β h adr (List.replicate k v) (List.replicate k d) := by
  induction k with
  | zero => exact .nil
  | succ k ih => exact .cons x ih
end Mine
end

section
open PySem PySem.W PyProof.Rows PySem.Spec PySem.Calls
set_option maxRecDepth 100000
namespace Mine

structure Amb (A : Around) (fr : List Env) (r : Nat) : Prop where
  h : A.handled = none
  f : A.frames = some fr
  d : A.depth + r < recursionLimit
  u : A.units + 8 * r < cLine

theorem Amb.le {A : Around} {fr : List Env} {r r' : Nat} (x : Amb A fr r) (h : r' ≤ r) : Amb A fr r' :=
  ⟨x.h, x.f, Nat.lt_of_le_of_lt (Nat.add_le_add_left h _) x.d, Nat.lt_of_le_of_lt (Nat.add_le_add_left (Nat.mul_le_mul_left 8 h) _) x.u⟩

inductive Fl where
  | next
  | ret (m : MV)

/-- a piece of the run, told by a function of the abstract state -/
structure Sm {α μ : Type} (prog : Program) (w : World) (hb : Heap) (β : Gl) (B : Bk) (r : Nat) (rel : Heap → List Addr → α → μ → Prop) (t : Sem α) (F : St → Option (μ × St)) : Prop where
  run : ∀ (A : Around) (fr : List Env) (adr : List Addr) (st st' : St) (m : μ) (s : Shared) (Q : α → Shared → Prop) (E : Value → Shared → Prop),
    Amb A fr r → Inv hb β B fr adr st s.heap → F st = some (m, st') →
    (∀ (a : α) (adr' : List Addr) (h' : Heap) (tk' : Nat), Inv hb β B fr adr' st' h' → rel h' adr' a m → Adv B.W (frs fr) adr s.heap adr' h' → Q a { s with heap := h', toks := tk' }) →
    wpAny (model prog w) A t Q E s

noncomputable def FlR (β : Gl) (h : Heap) (adr : List Addr) : Flow → Fl → Prop
  | .next, .next => True
  | .ret v, .ret m => VR β h adr v m
  | _, _ => False

section
variable (prog : Program) (w : World) (hb : Heap) (β : Gl) (B : Bk) (r : Nat)
noncomputable abbrev EvS (t : Sem Value) (F : St → Option (MV × St)) : Prop := Sm prog w hb β B r (VR β) t F
noncomputable abbrev EsS (t : Sem (List Value)) (F : St → Option (List MV × St)) : Prop := Sm prog w hb β B r (VRs β) t F
noncomputable abbrev TsS (t : Sem Bool) (F : St → Option (Bool × St)) : Prop := Sm prog w hb β B r (fun _ _ a m => a = m) t F
noncomputable abbrev ExS (t : Sem Flow) (F : St → Option (Fl × St)) : Prop := Sm prog w hb β B r (FlR β) t F
noncomputable abbrev UnS (t : Sem Unit) (F : St → Option (Unit × St)) : Prop := Sm prog w hb β B r (fun _ _ _ _ => True) t F
end

noncomputable def bnd {α μ : Type} (F : St → Option (α × St)) (G : α → St → Option (μ × St)) (st : St) : Option (μ × St) :=
  match F st with
  | some (a, st') => G a st'
  | none => none
theorem bnd_some {α μ : Type} {F : St → Option (α × St)} {G : α → St → Option (μ × St)} {st : St} {p : μ × St} (h : bnd F G st = some p) : ∃ a st', F st = some (a, st') ∧ G a st' = some p := by
  unfold bnd at h
  split at h
  · rename_i a st' e; exact ⟨a, st', e, h⟩
  · cases h

noncomputable def f_const (m : MV) (st : St) : Option (MV × St) := some (m, st)
noncomputable def readable : MV → Bool
  | .undef => false
  | _ => true
noncomputable def f_ld (i : Nat) (st : St) : Option (MV × St) := match st.vars[i]? with
  | some m => if readable m then some (m, st) else none
  | none => none

section
variable {prog : Program} {w : World} {hb : Heap} {β : Gl} {B : Bk} {r : Nat}

theorem e_int {i : Int} {k : Nat} {pos : Pos} : EvS prog w hb β B r (eval (.Constant (.int i) k pos) B.env) (f_const (.int i)) := by
  refine ⟨?_⟩
  intro A fr adr st st' m s Q E ha hi hF hQ
  cases hF
  exact wpAny_Constant_int (hQ _ adr _ _ hi (.int _ _) .refl)
theorem e_bool {b : Bool} {k : Nat} {pos : Pos} : EvS prog w hb β B r (eval (.Constant (.bool b) k pos) B.env) (f_const (.bool b)) := by
  refine ⟨?_⟩
  intro A fr adr st st' m s Q E ha hi hF hQ
  cases hF
  exact wpAny_Constant_bool (hQ _ adr s.heap s.toks hi (.bool _) .refl)
theorem e_str {x : Str} {i : Nat} {k : Nat} {pos : Pos} (h : tb[i]? = some x) : EvS prog w hb β B r (eval (.Constant (.str x) k pos) B.env) (f_const (.str i)) := by
  refine ⟨?_⟩
  intro A fr adr st st' m s Q E ha hi hF hQ
  cases hF
  exact wpAny_Constant_str (hQ _ adr _ _ hi (.str _ h) .refl)

theorem f_ld_some {i : Nat} {st st' : St} {m : MV} (h : f_ld i st = some (m, st')) : st' = st ∧ st.vars[i]? = some m ∧ m ≠ .undef := by
  unfold f_ld at h
  split at h
  · rename_i m' e
    split at h
    · rename_i hr; cases h; exact ⟨rfl, e, by rintro rfl; cases hr⟩
    · cases h
  · cases h

theorem loadName_is {M : Model} {A : Around} {E : Value → Shared → Prop} {s : Shared} {env : Env} {x : Str} {v : Value} {Q : Value → Shared → Prop} (h : NameIs s.heap env x v) (hk : env.scope.kind = .function)
    (hn : (x == ("__classdict__" : Str)) = false) (hQ : Q v s) : wpAny M A (loadName env x) Q E s := by
  rcases h with ⟨h1, m, h2, h3⟩ | ⟨h1 | h1, c, h2, h3⟩
  · exact wpAny_loadName_local hk h1 h2 h3 hQ
  · exact wpAny_loadName_cell hk h1 h2 h3 hQ
  · exact wpAny_loadName_free hk h1 h2 h3 hQ hn

theorem e_name {x : Str} {pos : Pos} (i : Nat) (h : B.ns[i]? = some x) (hk : B.env.scope.kind = .function) (hd : (x == ("__debug__" : Str) || x == ("__classdict__" : Str)) = false) :
    EvS prog w hb β B r (eval (.Name x pos) B.env) (f_ld i) := by
  refine ⟨?_⟩
  intro A fr adr st st' m s Q E ha hi hF hQ
  obtain ⟨rfl, e, hm⟩ := f_ld_some hF
  obtain ⟨v, h1, h2⟩ := hi.blk.vars i x m h e hm
  rw [Bool.or_eq_false_iff] at hd
  exact wpAny_Name (loadName_is h1 hk hd.2 (hQ _ adr s.heap s.toks hi h2 .refl)) hd.1

/-- a step that keeps all that stands -/
theorem Sm.done {A : Around} {fr : List Env} {adr : List Addr} {st : St} {s : Shared} {μ α : Type} {rel : Heap → List Addr → α → μ → Prop} {m : μ} {Q : α → Shared → Prop} (hi : Inv hb β B fr adr st s.heap)
    (hQ : ∀ (a : α) (adr' : List Addr) (h' : Heap) (tk' : Nat), Inv hb β B fr adr' st h' → rel h' adr' a m → Adv B.W (frs fr) adr s.heap adr' h' → Q a { s with heap := h', toks := tk' })
    {h' : Heap} (tk' : Nat) {a : α} (k : ∀ b o, s.heap.get? b = some o → h'.get? b = some o) (hr : rel h' adr a m) : Q a { s with heap := h', toks := tk' } :=
  hQ a adr h' tk' (hi.keeps k) hr (.of_keeps k)
end

/-! operators -/
noncomputable def small (a : Int) : Bool := decide (-1000000 ≤ a) && decide (a ≤ 1000000)

noncomputable def binV (op : Operator) (a b : MV) : Option MV := match op, a, b with
  | .Add, .int a, .int b => some (.int (a + b))
  | .Add, .sym a, .int b => some (.sym (a + b))
  | .Sub, .int a, .int b => some (.int (a - b))
  | .Mult, .int a, .int b => if small a then some (.int (a * b)) else none
  | .FloorDiv, .int a, .int b => if small b && !(b == 0) then some (.int (a.fdiv b)) else none
  | .Mod, .int a, .int b => if b == 0 then none else some (.int (a.fmod b))
  | .LShift, .int a, .int b => if small a && small b && decide (0 ≤ b) then some (.int (a * 2 ^ b.toNat)) else none
  | .Add, .list a, .list b => if a.length + b.length ≤ 10000 then some (.list (a ++ b)) else none
  | _, _, _ => none

theorem small_iff {a : Int} (h : small a = true) : -1000000 ≤ a ∧ a ≤ 1000000 := by
  unfold small at h
  rw [Bool.and_eq_true] at h
  exact ⟨of_decide_eq_true h.1, of_decide_eq_true h.2⟩

section
variable {prog : Program} {w : World} {hb : Heap} {β : Gl} {A : Around} {E : Value → Shared → Prop} {s : Shared} {adr : List Addr}

theorem concat_raw {l b : Addr} {vs ws : List Value} {n n2 : Nat} {Q : Value → Shared → Prop} (ho : s.heap.get? l = some (listOf vs.toArray n)) (ho2 : s.heap.get? b = some (listOf ws.toArray n2))
    (hsz : vs.length + ws.length ≤ sizeLine)
    (h : Q (.ref s.heap.objs.size) { s with heap := s.heap.push (listOf (vs ++ ws).toArray 0) }) : wpAny (model prog w) A (binaryOp .Add (.ref l) (.ref b)) Q E s := by
  have e : vs.toArray ++ ws.toArray = (vs ++ ws).toArray := by simp
  refine concat_meets ⟨_, ho, rfl⟩ ⟨_, ho2, rfl⟩ noFill_list_add seq_list_add PySem.F.slot_list_add PySem.F.entry_list_add (PySem.F.args_list_add_2 _ _) (list_addW l b vs.toArray ws.toArray n n2 none none #[] #[] (by simpa using hsz)) ⟨ho, ho2, ?_⟩
  rw [e]
  exact h

theorem push_keeps {h : Heap} {o : Obj} : ∀ b o', h.get? b = some o' → (h.push o).get? b = some o' := fun _ _ e => Heap.get?_push_of_some _ e
theorem push_size {h : Heap} {o : Obj} (hf : o.isFreed = false := by rfl) : (h.push o).get? h.objs.size = some o := Heap.get?_push_size _ hf
/-- an address not yet given -/
theorem fresh_none {h : Heap} : h.get? h.objs.size = none := by
  cases e : h.get? h.objs.size with
  | none => rfl
  | some o => exact absurd (Heap.lt_size e) (Nat.lt_irrefl _)

/-- a new list of what stands -/
theorem VR.newList {h : Heap} {vs : List Value} {ds : List MV} (hs : ∀ a ∈ adr, ∃ o, h.get? a = some o) (r : VRs β h adr vs ds) : VR β (h.push (listOf vs.toArray 0)) adr (.ref h.objs.size) (.list ds) :=
  .list push_size (fun hm => by obtain ⟨o, e⟩ := hs _ hm; rw [fresh_none] at e; cases e) (r.keeps push_keeps)

theorem Hp.alive {hb : Heap} {β : Gl} {fr : List Env} {adr : List Addr} {objs : List AObj} {h : Heap} (x : Hp hb β fr adr objs h) : ∀ a ∈ adr, ∃ o, h.get? a = some o := by
  intro a ha
  obtain ⟨n, hn⟩ := List.mem_iff_getElem?.mp ha
  have hlt : n < objs.length := by
    rw [← x.len]
    rcases Nat.lt_or_ge n adr.length with h | h
    · exact h
    · rw [List.getElem?_eq_none h] at hn; cases hn
  obtain ⟨a', h1, h2⟩ := x.objs n _ (List.getElem?_eq_getElem hlt)
  rw [hn] at h1; cases h1
  generalize objs[n] = ob at h2
  cases h2 with
  | list e _ => exact ⟨_, e⟩
  | attrs e _ => exact ⟨_, e⟩
  | inst e _ => exact ⟨_, e⟩
  | dict e _ => obtain ⟨o, _, _, e, _⟩ := e default; exact ⟨o, e⟩

theorem natAbs_small {a : Int} (h : small a = true) (n : Nat) (hn : 1000000 < n) : a.natAbs < n := by
  have := small_iff h; omega

theorem binV_ok {op : Operator} {v₁ v₂ : Value} {m₁ m₂ m : MV} {Q : Value → Shared → Prop} (hs : ∀ a ∈ adr, ∃ o, s.heap.get? a = some o) (h₁ : VR β s.heap adr v₁ m₁) (h₂ : VR β s.heap adr v₂ m₂) (e : binV op m₁ m₂ = some m)
    (hQ : ∀ v h' tk', (∀ b o, s.heap.get? b = some o → h'.get? b = some o) → VR β h' adr v m → Q v { s with heap := h', toks := tk' }) :
    wpAny (model prog w) A (binaryOp op v₁ v₂) Q E s := by
  unfold binV at e
  split at e
  · cases h₁; cases h₂; cases e; exact add_int (hQ _ s.heap _ (fun _ _ e => e) (.int _ _))
  · cases h₁; cases h₂; cases e
    refine add_int (hQ _ s.heap _ (fun _ _ e => e) ?_)
    rw [Int.add_assoc]; exact .sym _ _
  · cases h₁; cases h₂; cases e; exact sub_int (hQ _ s.heap _ (fun _ _ e => e) (.int _ _))
  · cases h₁; cases h₂
    split at e
    · rename_i hs1; cases e
      exact mul_int (hQ _ s.heap _ (fun _ _ e => e) (.int _ _)) (IntMulOk.of_left (intBits_le_64 (by have := small_iff hs1; omega) (by have := small_iff hs1; omega)))
    · cases e
  · cases h₁; cases h₂
    split at e
    · rename_i hs1; cases e
      rw [Bool.and_eq_true] at hs1
      exact floordiv_int (by intro h; subst h; simp at hs1) (hQ _ s.heap _ (fun _ _ e => e) (.int _ _)) (.inl (PyProof.noPylong_small (natAbs_small hs1.1 _ (by decide))))
    · cases e
  · cases h₁; cases h₂
    split at e
    · cases e
    · rename_i hs1; cases e
      exact mod_int (by intro h; subst h; simp at hs1) (hQ _ s.heap _ (fun _ _ e => e) (.int _ _))
  · cases h₁; cases h₂
    split at e
    · rename_i hs1; cases e
      rw [Bool.and_eq_true, Bool.and_eq_true] at hs1
      have h0 : (0 : Int) ≤ _ := of_decide_eq_true hs1.2
      exact lshift_int_small h0 (small_iff hs1.1.2).2 (natAbs_small hs1.1.1 _ (by decide)) (hQ _ s.heap _ (fun _ _ e => e) (.int _ _))
    · cases e
  · cases h₁ with
    | list e1 n1 r1 =>
      cases h₂ with
      | list e2 n2 r2 =>
        split at e
        · rename_i hs1; cases e
          refine concat_raw e1 e2 (by rw [r1.length, r2.length, sizeLine_eq]; omega) (hQ _ _ s.toks push_keeps ?_)
          exact VR.newList hs (r1.append r2)
        · cases e
  · cases e
end

noncomputable def f_bin (op : Operator) (F G : St → Option (MV × St)) : St → Option (MV × St) := bnd F fun a => bnd G fun b st => match binV op a b with | some m => some (m, st) | none => none

section
variable {prog : Program} {w : World} {hb : Heap} {β : Gl} {B : Bk} {r : Nat}
theorem e_bin {l rr : Expr} {op : Operator} {pos : Pos} {F G : St → Option (MV × St)} (hF : EvS prog w hb β B r (eval l B.env) F) (hG : EvS prog w hb β B r (eval rr B.env) G) :
    EvS prog w hb β B r (eval (.BinOp l op rr pos) B.env) (f_bin op F G) := by
  refine ⟨?_⟩
  intro A fr adr st st' m s Q E ha hi e hQ
  obtain ⟨m1, st1, e1, e⟩ := bnd_some e
  obtain ⟨m2, st2, e2, e⟩ := bnd_some e
  split at e
  · rename_i m' e3
    cases e
    refine wpAny_BinOp (hF.run A fr adr st st1 m1 s _ E ha hi e1 fun v1 adr1 h1 tk1 i1 r1 a1 => hG.run A fr adr1 st1 _ m2 _ _ E ha i1 e2 fun v2 adr2 h2 tk2 i2 r2 a2 => ?_)
    refine binV_ok i2.hp.alive (r1.mono a2 i1.noSeq) r2 e3 fun v h' tk' k r3 => ?_
    exact hQ v adr2 h' tk' (i2.keeps k) r3 ((a1.trans a2).trans (.of_keeps k))
  · cases e
end
end Mine
end

section
open PySem PySem.W PyProof.Rows PySem.Spec PySem.Calls
set_option maxRecDepth 100000
namespace Mine

/-! data read back -/
noncomputable def pyM (β : Gl) : Nat → MV → PyData
  | _, .bool b => .bool b
  | _, .int i => .int i
  | _, .sym k => .int (β.b + k)
  | _, .str i => .str (tb[i]?.getD ⟨#[]⟩)
  | n + 1, .list xs => .list (xs.map (pyM β n))
  | _, _ => .none
noncomputable def okM : Nat → MV → Bool
  | _, .bool _ => true
  | _, .int _ => true
  | _, .sym _ => true
  | _, .str _ => true
  | n + 1, .list xs => xs.all (okM n)
  | _, _ => false

theorem tb_ok : (tb.all fun x => PyData.strOk x) = true := by decide +kernel
theorem tb_strOk {i : Nat} {x : Str} (h : tb[i]? = some x) : PyData.strOk x = true := List.all_eq_true.mp tb_ok x (List.mem_of_getElem? h)
theorem tb_nodup : tb.Nodup := by decide +kernel
theorem tb_inj {i j : Nat} {x : Str} (h : tb[i]? = some x) (h' : tb[j]? = some x) : i = j := by
  have hi : i < tb.length := by
    rcases Nat.lt_or_ge i tb.length with q | q
    · exact q
    · rw [List.getElem?_eq_none q] at h; cases h
  exact (List.getElem?_inj hi tb_nodup).mp (h.trans h'.symm)
theorem tb_get {i : Nat} {x : Str} (h : tb[i]? = some x) : tb[i]?.getD ⟨#[]⟩ = x := by rw [h]; rfl


structure Data (h : Heap) (v : Value) (d : PyData) (n : Nat) : Prop where
  reads : ∃ as, Reads h v d as
  lay : d.canLay0 = true
  depth : d.depth ≤ n
structure Datas (h : Heap) (vs : List Value) (ds : List PyData) (n : Nat) : Prop where
  reads : ∃ as, ReadsAll h vs ds as
  lay : PyData.canLayAll0 ds = true
  depth : PyData.depthAll ds ≤ n

theorem Datas.cons {h : Heap} {v : Value} {vs : List Value} {d : PyData} {ds : List PyData} {n : Nat} (x : Data h v d n) (y : Datas h vs ds n) : Datas h (v :: vs) (d :: ds) n := by
  obtain ⟨as, a⟩ := x.reads
  obtain ⟨bs, b⟩ := y.reads
  refine ⟨⟨_, .cons a b⟩, ?_, ?_⟩
  · simp only [PyData.canLayAll0, x.lay, y.lay, Bool.and_self]
  · simp only [PyData.depthAll]; exact Nat.max_le.mpr ⟨x.depth, y.depth⟩
theorem Datas.nil {h : Heap} {n : Nat} : Datas h [] [] n := ⟨⟨_, .nil⟩, rfl, Nat.zero_le _⟩
theorem Datas.list {h : Heap} {a : Addr} {vs : List Value} {ds : List PyData} {n k : Nat} (x : Datas h vs ds n) (e : h.get? a = some (listOf vs.toArray k)) : Data h (.ref a) (.list ds) (n + 1) := by
  obtain ⟨as, q⟩ := x.reads
  refine ⟨⟨_, reads_list_at e rfl rfl (by simpa using q)⟩, ?_, ?_⟩
  · simp only [PyData.canLay0, x.lay]
  · simp only [PyData.depth]; exact Nat.succ_le_succ x.depth
theorem Datas.tuple {h : Heap} {a : Addr} {vs : List Value} {ds : List PyData} {n k : Nat} (x : Datas h vs ds n) (e : h.get? a = some { cls := .type "tuple", data := .seq vs.toArray k }) : Data h (.ref a) (.tuple ds) (n + 1) := by
  obtain ⟨as, q⟩ := x.reads
  refine ⟨⟨_, reads_tuple_at e rfl rfl (by simpa using q)⟩, ?_, ?_⟩
  · simp only [PyData.canLay0, x.lay]
  · simp only [PyData.depth]; exact Nat.succ_le_succ x.depth

theorem datas_of {β : Gl} {h : Heap} {adr : List Addr} {n : Nat} (one : ∀ {v : Value} {m : MV}, VR β h adr v m → okM n m = true → Data h v (pyM β n m) n) {vs : List Value} {ds : List MV} (r : VRs β h adr vs ds) (hk : ds.all (okM n) = true) :
    Datas h vs (ds.map (pyM β n)) n := by
  induction vs generalizing ds with
  | nil => cases r; exact .nil
  | cons v vs hi =>
    cases r with
    | cons a r =>
      rw [List.all_cons, Bool.and_eq_true] at hk
      exact .cons (one a hk.1) (hi r hk.2)

theorem data_vr {β : Gl} {h : Heap} {adr : List Addr} : ∀ (n : Nat) {v : Value} {m : MV}, VR β h adr v m → okM n m = true → Data h v (pyM β n m) n := by
  intro n
  induction n with
  | zero =>
    intro v m x hk
    cases x with
    | bool b => exact ⟨⟨_, .bool b⟩, rfl, Nat.zero_le _⟩
    | int i t => exact ⟨⟨_, .int i t⟩, rfl, Nat.zero_le _⟩
    | sym k t => exact ⟨⟨_, .int _ t⟩, rfl, Nat.zero_le _⟩
    | str t e => simp only [pyM, tb_get e]; exact ⟨⟨_, .str _ t⟩, tb_strOk e, Nat.zero_le _⟩
    | _ => simp [okM] at hk
  | succ n ih =>
    intro v m x hk
    cases x with
    | bool b => exact ⟨⟨_, .bool b⟩, rfl, Nat.zero_le _⟩
    | int i t => exact ⟨⟨_, .int i t⟩, rfl, Nat.zero_le _⟩
    | sym k t => exact ⟨⟨_, .int _ t⟩, rfl, Nat.zero_le _⟩
    | str t e => simp only [pyM, tb_get e]; exact ⟨⟨_, .str _ t⟩, tb_strOk e, Nat.zero_le _⟩
    | list e ha r =>
      simp only [okM] at hk
      exact (datas_of ih r hk).list e
    | _ => simp [okM] at hk

theorem eqv_self (β : Gl) : ∀ (n : Nat) (m : MV), okM n m = true → PyData.eqv (pyM β n m) (pyM β n m) = true := by
  intro n
  induction n with
  | zero => intro m hk; cases m <;> simp_all [okM, pyM, PyData.eqv]
  | succ n ih =>
    intro m hk
    cases m with
    | list xs =>
      simp only [okM] at hk
      simp only [pyM, PyData.eqv]
      induction xs with
      | nil => rfl
      | cons x xs hi =>
        rw [List.all_cons, Bool.and_eq_true] at hk
        simp only [List.map_cons, PyData.eqvAll, ih x hk.1, hi hk.2, Bool.and_self]
    | _ => simp_all [okM, pyM, PyData.eqv]

/-- two values are the same, and may be compared -/
noncomputable def allEq (f : MV → MV → Bool) : List MV → List MV → Bool
  | [], [] => true
  | x :: xs, y :: ys => f x y && allEq f xs ys
  | _, _ => false
noncomputable def eqL : Nat → MV → MV → Bool
  | _, .int a, .int b => a == b
  | _, .sym a, .sym b => a == b
  | _, .str a, .str b => Nat.beq a b
  | n + 1, .list xs, .list ys => allEq (eqL n) xs ys
  | _, _, _ => false
theorem allEq_ok {f : MV → MV → Bool} {g : MV → Bool} (hf : ∀ a b, f a b = true → a = b ∧ g a = true) : ∀ (xs ys : List MV), allEq f xs ys = true → xs = ys ∧ xs.all g = true
  | [], [], _ => ⟨rfl, rfl⟩
  | x :: xs, y :: ys, h => by
    rw [allEq, Bool.and_eq_true] at h
    obtain ⟨rfl, h1⟩ := hf x y h.1
    obtain ⟨rfl, h2⟩ := allEq_ok hf xs ys h.2
    exact ⟨rfl, by rw [List.all_cons, h1, h2]; rfl⟩
  | [], _ :: _, h => by cases h
  | _ :: _, [], h => by cases h
theorem eqL_ok : ∀ (n : Nat) (a b : MV), eqL n a b = true → a = b ∧ okM n a = true := by
  intro n
  induction n with
  | zero =>
    intro a b h
    cases a <;> cases b <;> simp_all [eqL, okM] <;> exact Nat.eq_of_beq_eq_true h
  | succ n ih =>
    intro a b h
    cases a <;> cases b <;> first
      | (simp [eqL] at h; done)
      | (simp only [eqL] at h
         obtain ⟨rfl, h2⟩ := allEq_ok ih _ _ h
         exact ⟨rfl, by simp only [okM, h2]⟩)
      | (simp_all [eqL, okM]; done)
      | (simp_all [eqL, okM]; exact Nat.eq_of_beq_eq_true h)

/-! comparisons -/
noncomputable def cmpI (op : CmpOp) (a b : Int) : Option Bool := match op with
  | .Eq => some (a == b)
  | .NotEq => some (a != b)
  | .Lt => some (decide (a < b))
  | .LtE => some (decide (a ≤ b))
  | .Gt => some (decide (b < a))
  | .GtE => some (decide (b ≤ a))
  | _ => none

noncomputable def lookL (objs : List AObj) (m : MV) : Option (List MV) := match m with
  | .list xs => some xs
  | .ref n => match objs[n]? with
    | some (.list xs) => some xs
    | _ => none
  | _ => none

/-- sym k stands for β.b + k, 1 ≤ β ≤ 900 -/
noncomputable def cmpS (objs : List AObj) (op : CmpOp) (a b : MV) : Option Bool := match op, a, b with
  | op, .int a, .int b => cmpI op a b
  | .Eq, .sym k, .int a => if decide (a < 1 + k) || decide (900 + k < a) then some false else none
  | .Eq, .sym k, .sym l => some (k == l)
  | .NotEq, .sym k, .sym l => some (k != l)
  | .LtE, .int a, .sym k => if decide (a ≤ 1 + k) then some true else none
  | .Lt, .sym k, .int a => if decide (900 + k < a) then some true else none
  | .Eq, .str i, .str j => some (Nat.beq i j)
  | .NotEq, .str i, .str j => some (!Nat.beq i j)
  | .Eq, a, b => match lookL objs a, lookL objs b with
    | some xs, some ys => if allEq (eqL 3) xs ys then some true else none
    | _, _ => none
  | .NotEq, a, b => match lookL objs a, lookL objs b with
    | some xs, some ys => if allEq (eqL 3) xs ys then some false else none
    | _, _ => none
  | _, _, _ => none

noncomputable def LsAt (β : Gl) (h : Heap) (adr : List Addr) (v : Value) (xs : List MV) : Prop := ∃ a vs n, v = .ref a ∧ h.get? a = some (listOf vs.toArray n) ∧ VRs β h adr vs xs

theorem lookL_ok {hb : Heap} {β : Gl} {fr : List Env} {adr : List Addr} {objs : List AObj} {h : Heap} (hp : Hp hb β fr adr objs h) {v : Value} {m : MV} {xs : List MV} (r : VR β h adr v m) (e : lookL objs m = some xs) : LsAt β h adr v xs := by
  unfold lookL at e
  split at e
  · cases e; cases r with | list e1 _ r => exact ⟨_, _, _, rfl, e1, r⟩
  · split at e
    · rename_i n ys e2
      cases e
      cases r with
      | ref e3 =>
        obtain ⟨a, h1, h2⟩ := hp.objs _ _ e2
        rw [e3] at h1; cases h1
        cases h2 with | list e4 r => exact ⟨_, _, _, rfl, e4, r⟩
    · cases e
  · cases e

theorem LsAt.data {β : Gl} {h : Heap} {adr : List Addr} {v : Value} {xs : List MV} {n : Nat} (x : LsAt β h adr v xs) (hk : xs.all (okM n) = true) : Data h v (.list (xs.map (pyM β n))) (n + 1) := by
  obtain ⟨a, vs, k, rfl, e, r⟩ := x
  exact (datas_of (data_vr n) r hk).list e

theorem Data.shaped {h : Heap} {v : Value} {d : PyData} {n : Nat} (x : Data h v d n) (hn : n ≤ 64) : PySem.SeqAt.shaped d = true := by
  unfold PySem.SeqAt.shaped; rw [x.lay, Bool.true_and]; exact decide_eq_true (Nat.le_trans x.depth hn)

section
variable {prog : Program} {w : World} {hb : Heap} {β : Gl} {A : Around} {E : Value → Shared → Prop} {s : Shared} {adr : List Addr}
theorem cmpI_ok {op : CmpOp} {a b : Int} {t u : Tok} {c : Bool} {Q : Value → Shared → Prop} (e : cmpI op a b = some c) (h : Q (.bool c) s) : wpAny (model prog w) A (compareOp op (.int a t) (.int b u)) Q E s := by
  unfold cmpI at e
  split at e <;> cases e
  · exact eq_int h
  · exact ne_int h
  · exact lt_int h
  · exact PyProof.Rows.le_int h
  · exact gt_int h
  · exact PyProof.Rows.ge_int h

theorem cmpL_ok {xs ys : List MV} {v₁ v₂ : Value} (hu : A.units + 64 < cLine) (l₁ : LsAt β s.heap adr v₁ xs) (l₂ : LsAt β s.heap adr v₂ ys) (h : allEq (eqL 3) xs ys = true) :
    (∀ Q : Value → Shared → Prop, Q (.bool true) s → wpAny (model prog w) A (compareOp .Eq v₁ v₂) Q E s) ∧ (∀ Q : Value → Shared → Prop, Q (.bool false) s → wpAny (model prog w) A (compareOp .NotEq v₁ v₂) Q E s) := by
  obtain ⟨rfl, hk⟩ := allEq_ok (eqL_ok 3) xs ys h
  have d₁ := l₁.data hk
  have d₂ := l₂.data hk
  obtain ⟨as, r₁⟩ := d₁.reads
  obtain ⟨bs, r₂⟩ := d₂.reads
  have q : PyData.eqv (.list (xs.map (pyM β 3))) (.list (xs.map (pyM β 3))) = true := eqv_self β 4 (.list xs) (by simp only [okM]; exact hk)
  refine ⟨fun Q hQ => eq_dataH r₁ r₂ (d₁.shaped (by decide)) (d₂.shaped (by decide)) hu (by rw [q]; exact hQ), fun Q hQ => ne_dataH r₁ r₂ (d₁.shaped (by decide)) (d₂.shaped (by decide)) hu (by rw [q]; exact hQ)⟩

theorem sym_eq {k l : Int} : (β.b + k == β.b + l) = (k == l) := by rw [Bool.eq_iff_iff]; simp only [beq_iff_eq]; omega
theorem sym_ne {k l : Int} : (β.b + k != β.b + l) = (k != l) := by rw [bne, bne, sym_eq]
theorem str_beq {x y : Str} {i j : Nat} (h : tb[i]? = some x) (h' : tb[j]? = some y) : (x == y) = Nat.beq i j := by
  cases hc : Nat.beq i j with
  | true =>
    have := Nat.eq_of_beq_eq_true hc
    subst this
    rw [h] at h'; cases h'; simp
  | false =>
    rw [beq_eq_false_iff_ne]
    rintro rfl
    exact Nat.ne_of_beq_eq_false hc (tb_inj h h')

theorem cmpS_ok {fr : List Env} {objs : List AObj} {op : CmpOp} {v₁ v₂ : Value} {m₁ m₂ : MV} {c : Bool} {Q : Value → Shared → Prop} (hβ : 1 ≤ β.b ∧ β.b ≤ 900) (hp : Hp hb β fr adr objs s.heap) (hu : A.units + 64 < cLine)
    (r₁ : VR β s.heap adr v₁ m₁) (r₂ : VR β s.heap adr v₂ m₂) (e : cmpS objs op m₁ m₂ = some c) (hQ : Q (.bool c) s) : wpAny (model prog w) A (compareOp op v₁ v₂) Q E s := by
  unfold cmpS at e
  split at e
  · cases r₁; cases r₂; exact cmpI_ok e hQ
  · cases r₁; cases r₂
    split at e
    · rename_i k a hc; cases e
      refine eq_int ?_
      rw [Bool.or_eq_true, decide_eq_true_eq, decide_eq_true_eq] at hc
      rw [show (β.b + _ == _) = false from beq_eq_false_iff_ne.mpr (by omega)]; exact hQ
    · cases e
  · cases r₁; cases r₂; cases e
    refine eq_int ?_
    rw [sym_eq]; exact hQ
  · cases r₁; cases r₂; cases e
    refine ne_int ?_
    rw [sym_ne]; exact hQ
  · cases r₁; cases r₂
    split at e
    · rename_i hc; cases e
      refine PyProof.Rows.le_int ?_
      rw [decide_eq_true_eq] at hc
      rw [decide_eq_true (by omega)]; exact hQ
    · cases e
  · cases r₁; cases r₂
    split at e
    · rename_i hc; cases e
      refine lt_int ?_
      rw [decide_eq_true_eq] at hc
      rw [decide_eq_true (by omega)]; exact hQ
    · cases e
  · cases r₁ with
    | str t e1 =>
      cases r₂ with
      | str u e2 => cases e; refine PyProof.Rows.eq_str ?_; rw [str_beq e1 e2]; exact hQ
  · cases r₁ with
    | str t e1 =>
      cases r₂ with
      | str u e2 => cases e; refine PyProof.Rows.ne_str ?_; rw [bne, str_beq e1 e2]; exact hQ
  · split at e
    · rename_i xs ys l1 l2
      split at e
      · rename_i hc; cases e
        exact (cmpL_ok hu (lookL_ok hp r₁ l1) (lookL_ok hp r₂ l2) hc).1 Q hQ
      · cases e
    · cases e
  · split at e
    · rename_i xs ys l1 l2
      split at e
      · rename_i hc; cases e
        exact (cmpL_ok hu (lookL_ok hp r₁ l1) (lookL_ok hp r₂ l2) hc).2 Q hQ
      · cases e
    · cases e
  · cases e
end
end Mine
end

section
open PySem PySem.W PyProof.Rows PySem.Spec PySem.Calls
set_option maxRecDepth 100000
namespace Mine

section
variable {prog : Program} {w : World} {hb : Heap} {β : Gl} {B : Bk} {r : Nat}

theorem Sm.two {l rr : Sem Value} {F G : St → Option (MV × St)} (hF : EvS prog w hb β B r l F) (hG : EvS prog w hb β B r rr G) {A : Around} {fr : List Env} {adr : List Addr} {st st1 st2 : St} {m1 m2 : MV} {s : Shared}
    {Q' : Value → Value → Shared → Prop} {E : Value → Shared → Prop} (ha : Amb A fr r) (hi : Inv hb β B fr adr st s.heap) (e1 : F st = some (m1, st1)) (e2 : G st1 = some (m2, st2))
    (hQ : ∀ v1 v2 adr' h' tk', Inv hb β B fr adr' st2 h' → VR β h' adr' v1 m1 → VR β h' adr' v2 m2 → Adv B.W (frs fr) adr s.heap adr' h' → Q' v1 v2 { s with heap := h', toks := tk' }) :
    wpAny (model prog w) A l (fun v1 s1 => wpAny (model prog w) A rr (fun v2 s2 => Q' v1 v2 s2) E s1) E s :=
  hF.run A fr adr st st1 m1 s _ E ha hi e1 fun v1 adr1 h1 _ i1 r1 a1 => hG.run A fr adr1 st1 st2 m2 _ _ E ha i1 e2 fun v2 adr2 h2 tk2 i2 r2 a2 =>
    hQ v1 v2 adr2 h2 tk2 i2 (r1.mono a2 i1.noSeq) r2 (a1.trans a2)

/-! comparisons -/
noncomputable def f_cmp (op : CmpOp) (F G : St → Option (MV × St)) : St → Option (MV × St) := bnd F fun a => bnd G fun b st => match cmpS st.objs op a b with | some c => some (.bool c, st) | none => none
noncomputable def t_of (F : St → Option (MV × St)) (st : St) : Option (Bool × St) := match F st with
  | some (.bool b, st') => some (b, st')
  | _ => none

theorem e_cmp {l rr : Expr} {op : CmpOp} {pos : Pos} {F G : St → Option (MV × St)} (hr : 8 ≤ r) (hβ : 1 ≤ β.b ∧ β.b ≤ 900) (hF : EvS prog w hb β B r (eval l B.env) F) (hG : EvS prog w hb β B r (eval rr B.env) G)
    (hm : behindInMarks op rr = false) : EvS prog w hb β B r (eval (.Compare l [op] [rr] pos) B.env) (f_cmp op F G) := by
  refine ⟨?_⟩
  intro A fr adr st st' m s Q E ha hi e hQ
  obtain ⟨m1, st1, e1, e⟩ := bnd_some e
  obtain ⟨m2, st2, e2, e⟩ := bnd_some e
  split at e
  · rename_i c e3
    cases e
    refine wpAny_Compare1 (Sm.two hF hG ha hi e1 e2 fun v1 v2 adr2 h2 tk2 i2 r1 r2 a2 => ?_) hm
    exact cmpS_ok hβ i2.hp (by have := ha.u; omega) r1 r2 e3 (hQ _ adr2 h2 tk2 i2 (.bool c) a2)
  · cases e

/-- a value that is a bool, as a test -/
theorem t_value {e : Expr} {whole : Sem Value} {F : St → Option (MV × St)} (hF : EvS prog w hb β B r whole F) (he : isTrue e B.env whole = (do let v ← whole; standAt e.pos; holding [v] (truthy v))) :
    TsS prog w hb β B r (isTrue e B.env whole) (t_of F) := by
  refine ⟨?_⟩
  intro A fr adr st st' m s Q E ha hi e hQ
  unfold t_of at e
  split at e
  · rename_i b st1 e1
    cases e
    refine isTrue_plain (hF.run A fr adr st st' _ s _ E ha hi e1 fun v adr1 h1 tk1 i1 r1 a1 => ?_) he
    cases r1 with | bool b => exact wpAny_truthy_bool (hQ _ adr1 h1 tk1 i1 rfl a1)
  · cases e

theorem t_cmp {l rr : Expr} {op : CmpOp} {pos : Pos} {whole : Sem Value} {F G : St → Option (MV × St)} (hr : 8 ≤ r) (hβ : 1 ≤ β.b ∧ β.b ≤ 900) (hF : EvS prog w hb β B r (eval l B.env) F) (hG : EvS prog w hb β B r (eval rr B.env) G)
    (hm : behindInMarks op rr = false) : TsS prog w hb β B r (isTrue (.Compare l [op] [rr] pos) B.env whole) (t_of (f_cmp op F G)) := by
  refine ⟨?_⟩
  intro A fr adr st st' m s Q E ha hi e hQ
  unfold t_of at e
  split at e
  · rename_i b st1 e1
    cases e
    obtain ⟨m1, st1, e1, e⟩ := bnd_some e1
    obtain ⟨m2, st2, e2, e⟩ := bnd_some e
    split at e
    · rename_i c e3
      cases e
      refine wpAny_isTrue_Compare1 (Sm.two hF hG ha hi e1 e2 fun v1 v2 adr2 h2 tk2 i2 r1 r2 a2 => ?_) hm
      exact cmpS_ok hβ i2.hp (by have := ha.u; omega) r1 r2 e3 (wpAny_truthy_bool (hQ _ adr2 h2 tk2 i2 rfl a2))
    · cases e
  · cases e

/-- a <= b <= c -/
noncomputable def t_chain (op₁ op₂ : CmpOp) (F G H : St → Option (MV × St)) : St → Option (Bool × St) := bnd F fun a => bnd G fun b st => match cmpS st.objs op₁ a b with
  | some true => bnd H (fun c st => match cmpS st.objs op₂ b c with | some x => some (x, st) | none => none) st
  | some false => some (false, st)
  | none => none

theorem t_chain2 {l r₁ r₂ : Expr} {op₁ op₂ : CmpOp} {pos : Pos} {whole : Sem Value} {F G H : St → Option (MV × St)} (hr : 8 ≤ r) (hβ : 1 ≤ β.b ∧ β.b ≤ 900) (hF : EvS prog w hb β B r (eval l B.env) F) (hG : EvS prog w hb β B r (eval r₁ B.env) G)
    (hH : EvS prog w hb β B r (eval r₂ B.env) H) (hm : lastMarks [op₁, op₂] [r₁, r₂] = false) : TsS prog w hb β B r (isTrue (.Compare l [op₁, op₂] [r₁, r₂] pos) B.env whole) (t_chain op₁ op₂ F G H) := by
  refine ⟨?_⟩
  intro A fr adr st st' m s Q E ha hi e hQ
  obtain ⟨m1, st1, e1, e⟩ := bnd_some e
  obtain ⟨m2, st2, e2, e⟩ := bnd_some e
  have hu : A.units + 64 < cLine := by have := ha.u; omega
  refine isTrue_chain (hF.run A fr adr st st1 m1 s _ E ha hi e1 fun v1 adr1 h1 tk1 i1 r1 a1 => test_link (hG.run A fr adr1 st1 st2 m2 _ _ E ha i1 e2 fun v2 adr2 h2 tk2 i2 r2 a2 => ?_)) hm
  have r1' := r1.mono a2 i1.noSeq
  split at e
  · rename_i e3
    refine cmpS_ok hβ i2.hp hu r1' r2 e3 (wpAny_truthy_bool ?_)
    obtain ⟨m3, st3, e4, e⟩ := bnd_some e
    split at e
    · rename_i x e5
      cases e
      refine test_last (hH.run A fr adr2 st2 _ m3 _ _ E ha i2 e4 fun v3 adr3 h3 tk3 i3 r3 a3 => ?_)
      exact cmpS_ok hβ i3.hp hu (r2.mono a3 i2.noSeq) r3 e5 (wpAny_truthy_bool (hQ _ adr3 h3 tk3 i3 rfl ((a1.trans a2).trans a3)))
    · cases e
  · rename_i e3
    cases e
    exact cmpS_ok hβ i2.hp hu r1' r2 e3 (wpAny_truthy_bool (hQ _ adr2 h2 tk2 i2 rfl (a1.trans a2)))
  · cases e

noncomputable def f_bool (F : St → Option (Bool × St)) (st : St) : Option (MV × St) := match F st with
  | some (b, st') => some (.bool b, st')
  | none => none

theorem e_chain2 {l r₁ r₂ : Expr} {op₁ op₂ : CmpOp} {pos : Pos} {F G H : St → Option (MV × St)} (hr : 8 ≤ r) (hβ : 1 ≤ β.b ∧ β.b ≤ 900) (hF : EvS prog w hb β B r (eval l B.env) F) (hG : EvS prog w hb β B r (eval r₁ B.env) G)
    (hH : EvS prog w hb β B r (eval r₂ B.env) H) (hm : lastMarks [op₁, op₂] [r₁, r₂] = false) : EvS prog w hb β B r (eval (.Compare l [op₁, op₂] [r₁, r₂] pos) B.env) (f_bool (t_chain op₁ op₂ F G H)) := by
  refine ⟨?_⟩
  intro A fr adr st st' m s Q E ha hi e hQ
  unfold f_bool at e
  split at e
  · rename_i bb st0 e
    cases ‹some _ = some (m, st')›
    obtain ⟨m1, st1, e1, e⟩ := bnd_some e
    obtain ⟨m2, st2, e2, e⟩ := bnd_some e
    have hu : A.units + 64 < cLine := by have := ha.u; omega
    refine Compare_chain (hF.run A fr adr st st1 m1 s _ E ha hi e1 fun v1 adr1 h1 tk1 i1 r1 a1 => chain_link (hG.run A fr adr1 st1 st2 m2 _ _ E ha i1 e2 fun v2 adr2 h2 tk2 i2 r2 a2 => ?_)) hm
    have r1' := r1.mono a2 i1.noSeq
    split at e
    · rename_i e3
      refine cmpS_ok hβ i2.hp hu r1' r2 e3 (wpAny_truthy_bool ?_)
      obtain ⟨m3, st3, e4, e⟩ := bnd_some e
      split at e
      · rename_i x e5
        cases e
        refine chain_last (hH.run A fr adr2 st2 _ m3 _ _ E ha i2 e4 fun v3 adr3 h3 tk3 i3 r3 a3 => ?_)
        exact cmpS_ok hβ i3.hp hu (r2.mono a3 i2.noSeq) r3 e5 (hQ _ adr3 h3 tk3 i3 (.bool _) ((a1.trans a2).trans a3))
      · cases e
    · rename_i e3
      cases e
      exact cmpS_ok hβ i2.hp hu r1' r2 e3 (wpAny_truthy_bool (hQ _ adr2 h2 tk2 i2 (.bool _) (a1.trans a2)))
    · cases e
  · cases e

/-! not, and, or, if -/
noncomputable def t_not (F : St → Option (Bool × St)) (st : St) : Option (Bool × St) := match F st with
  | some (b, st') => some (!b, st')
  | none => none
theorem t_not1 {x : Expr} {pos : Pos} {whole : Sem Value} {F : St → Option (Bool × St)} (hF : TsS prog w hb β B r (isTrue x B.env (eval x B.env)) F) : TsS prog w hb β B r (isTrue (.UnaryOp .Not x pos) B.env whole) (t_not F) := by
  refine ⟨?_⟩
  intro A fr adr st st' m s Q E ha hi e hQ
  unfold t_not at e
  split at e
  · rename_i b st1 e1
    cases e
    exact wpAny_isTrue_Not (hF.run A fr adr st st' _ s _ E ha hi e1 fun v adr1 h1 tk1 i1 r1 a1 => hQ _ adr1 h1 tk1 i1 (by rw [r1]) a1)
  · cases e

noncomputable def t_and (F G : St → Option (Bool × St)) (st : St) : Option (Bool × St) := match F st with
  | some (true, st') => G st'
  | some (false, st') => some (false, st')
  | none => none
noncomputable def t_or (F G : St → Option (Bool × St)) (st : St) : Option (Bool × St) := match F st with
  | some (true, st') => some (true, st')
  | some (false, st') => G st'
  | none => none
noncomputable def t_const (b : Bool) (st : St) : Option (Bool × St) := some (b, st)

theorem t_and_nil : TsS prog w hb β B r (allTrue .And [] B.env) (t_const true) := by
  refine ⟨?_⟩
  intro A fr adr st st' m s Q E ha hi e hQ
  cases e
  exact wpAny_allTrue_And_nil (hQ true adr s.heap s.toks hi rfl .refl)
theorem t_or_nil : TsS prog w hb β B r (allTrue .Or [] B.env) (t_const false) := by
  refine ⟨?_⟩
  intro A fr adr st st' m s Q E ha hi e hQ
  cases e
  exact wpAny_allTrue_Or_nil (hQ false adr s.heap s.toks hi rfl .refl)
theorem t_and_cons {x : Expr} {rest : List Expr} {F G : St → Option (Bool × St)} (hF : TsS prog w hb β B r (isTrue x B.env (eval x B.env)) F) (hG : TsS prog w hb β B r (allTrue .And rest B.env) G) :
    TsS prog w hb β B r (allTrue .And (x :: rest) B.env) (t_and F G) := by
  refine ⟨?_⟩
  intro A fr adr st st' m s Q E ha hi e hQ
  unfold t_and at e
  split at e
  · rename_i st1 e1
    refine wpAny_allTrue_And_cons (hF.run A fr adr st st1 _ s _ E ha hi e1 fun v adr1 h1 tk1 i1 r1 a1 => ?_)
    subst r1
    exact hG.run A fr adr1 st1 st' m _ _ E ha i1 e fun v adr2 h2 tk2 i2 r2 a2 => hQ v adr2 h2 tk2 i2 r2 (a1.trans a2)
  · rename_i st1 e1
    cases e
    refine wpAny_allTrue_And_cons (hF.run A fr adr st _ _ s _ E ha hi e1 fun v adr1 h1 tk1 i1 r1 a1 => ?_)
    subst r1
    exact hQ false adr1 h1 tk1 i1 rfl a1
  · cases e
theorem t_or_cons {x : Expr} {rest : List Expr} {F G : St → Option (Bool × St)} (hF : TsS prog w hb β B r (isTrue x B.env (eval x B.env)) F) (hG : TsS prog w hb β B r (allTrue .Or rest B.env) G) :
    TsS prog w hb β B r (allTrue .Or (x :: rest) B.env) (t_or F G) := by
  refine ⟨?_⟩
  intro A fr adr st st' m s Q E ha hi e hQ
  unfold t_or at e
  split at e
  · rename_i st1 e1
    cases e
    refine wpAny_allTrue_Or_cons (hF.run A fr adr st _ _ s _ E ha hi e1 fun v adr1 h1 tk1 i1 r1 a1 => ?_)
    subst r1
    exact hQ true adr1 h1 tk1 i1 rfl a1
  · rename_i st1 e1
    refine wpAny_allTrue_Or_cons (hF.run A fr adr st st1 _ s _ E ha hi e1 fun v adr1 h1 tk1 i1 r1 a1 => ?_)
    subst r1
    exact hG.run A fr adr1 st1 st' m _ _ E ha i1 e fun v adr2 h2 tk2 i2 r2 a2 => hQ v adr2 h2 tk2 i2 r2 (a1.trans a2)
  · cases e
theorem t_boolop {op : BoolOp} {values : List Expr} {pos : Pos} {whole : Sem Value} {F : St → Option (Bool × St)} (hF : TsS prog w hb β B r (allTrue op values B.env) F) : TsS prog w hb β B r (isTrue (.BoolOp op values pos) B.env whole) F := by
  refine ⟨?_⟩
  intro A fr adr st st' m s Q E ha hi e hQ
  exact wpAny_isTrue_BoolOp (hF.run A fr adr st st' m s Q E ha hi e hQ)

/-- x and y, both bools, as a value -/
noncomputable def f_and (F G : St → Option (MV × St)) (st : St) : Option (MV × St) := match F st with
  | some (.bool true, st') => G st'
  | some (.bool false, st') => some (.bool false, st')
  | _ => none
theorem e_and2 {x y : Expr} {pos : Pos} {F G : St → Option (MV × St)} (hF : EvS prog w hb β B r (eval x B.env) F) (hG : EvS prog w hb β B r (eval y B.env) G) : EvS prog w hb β B r (eval (.BoolOp .And [x, y] pos) B.env) (f_and F G) := by
  refine ⟨?_⟩
  intro A fr adr st st' m s Q E ha hi e hQ
  unfold f_and at e
  split at e
  · rename_i st1 e1
    refine wpAny_And2 (hF.run A fr adr st st1 _ s _ E ha hi e1 fun v adr1 h1 tk1 i1 r1 a1 => ?_)
    cases r1
    exact wpAny_truthy_bool (hG.run A fr adr1 st1 st' m _ _ E ha i1 e fun v adr2 h2 tk2 i2 r2 a2 => hQ v adr2 h2 tk2 i2 r2 (a1.trans a2))
  · rename_i st1 e1
    cases e
    refine wpAny_And2 (hF.run A fr adr st _ _ s _ E ha hi e1 fun v adr1 h1 tk1 i1 r1 a1 => ?_)
    cases r1
    exact wpAny_truthy_bool (hQ _ adr1 h1 tk1 i1 (.bool _) a1)
  · cases e

noncomputable def f_if {α : Type} (T : St → Option (Bool × St)) (F G : St → Option (α × St)) (st : St) : Option (α × St) := match T st with
  | some (true, st') => F st'
  | some (false, st') => G st'
  | none => none
theorem e_ifexp {t x y : Expr} {pos : Pos} {T : St → Option (Bool × St)} {F G : St → Option (MV × St)} (hT : TsS prog w hb β B r (isTrue t B.env (eval t B.env)) T) (hF : EvS prog w hb β B r (eval x B.env) F) (hG : EvS prog w hb β B r (eval y B.env) G) :
    EvS prog w hb β B r (eval (.IfExp t x y pos) B.env) (f_if T F G) := by
  refine ⟨?_⟩
  intro A fr adr st st' m s Q E ha hi e hQ
  unfold f_if at e
  split at e
  · rename_i st1 e1
    refine wpAny_IfExp (hT.run A fr adr st st1 _ s _ E ha hi e1 fun v adr1 h1 tk1 i1 r1 a1 => ?_)
    subst r1
    exact hF.run A fr adr1 st1 st' m _ _ E ha i1 e fun v adr2 h2 tk2 i2 r2 a2 => hQ v adr2 h2 tk2 i2 r2 (a1.trans a2)
  · rename_i st1 e1
    refine wpAny_IfExp (hT.run A fr adr st st1 _ s _ E ha hi e1 fun v adr1 h1 tk1 i1 r1 a1 => ?_)
    subst r1
    exact hG.run A fr adr1 st1 st' m _ _ E ha i1 e fun v adr2 h2 tk2 i2 r2 a2 => hQ v adr2 h2 tk2 i2 r2 (a1.trans a2)
  · cases e

/-- - x -/
noncomputable def f_neg (F : St → Option (MV × St)) (st : St) : Option (MV × St) := match F st with
  | some (.int i, st') => some (.int (-i), st')
  | _ => none
theorem e_neg {x : Expr} {pos : Pos} {F : St → Option (MV × St)} (hF : EvS prog w hb β B r (eval x B.env) F) : EvS prog w hb β B r (eval (.UnaryOp .USub x pos) B.env) (f_neg F) := by
  refine ⟨?_⟩
  intro A fr adr st st' m s Q E ha hi e hQ
  unfold f_neg at e
  split at e
  · rename_i i st1 e1
    cases e
    refine wpAny_UnaryOp (hF.run A fr adr st _ _ s _ E ha hi e1 fun v adr1 h1 tk1 i1 r1 a1 => ?_)
    cases r1
    exact PyProof.Rows.neg_int (hQ _ adr1 h1 _ i1 (.int _ _) a1)
  · cases e

/-! several expressions, a list -/
noncomputable def fs_nil (st : St) : Option (List MV × St) := some ([], st)
noncomputable def fs_cons (F : St → Option (MV × St)) (G : St → Option (List MV × St)) : St → Option (List MV × St) := bnd F fun a => bnd G fun b st => some (a :: b, st)
theorem es_nil {pos : Pos} : EsS prog w hb β B r (spliced (backTo pos (starEach [] B.env))) fs_nil := by
  refine ⟨?_⟩
  intro A fr adr st st' m s Q E ha hi e hQ
  cases e
  exact wpAny_pure (hQ [] adr s.heap s.toks hi .nil .refl)
theorem es_cons {x : Expr} {rest : List Expr} {pos : Pos} {F : St → Option (MV × St)} {G : St → Option (List MV × St)} (hF : EvS prog w hb β B r (eval x B.env) F) (hG : EsS prog w hb β B r (spliced (backTo pos (starEach rest B.env))) G)
    (hx : starEach (x :: rest) B.env = (false, eval x B.env) :: starEach rest B.env) : EsS prog w hb β B r (spliced (backTo pos (starEach (x :: rest) B.env))) (fs_cons F G) := by
  refine ⟨?_⟩
  intro A fr adr st st' m s Q E ha hi e hQ
  obtain ⟨m1, st1, e1, e⟩ := bnd_some e
  obtain ⟨m2, st2, e2, e⟩ := bnd_some e
  cases e
  rw [hx]
  refine spliced_cons (hF.run A fr adr st st1 m1 s _ E ha hi e1 fun v1 adr1 h1 tk1 i1 r1 a1 => hG.run A fr adr1 st1 _ m2 _ _ E ha i1 e2 fun v2 adr2 h2 tk2 i2 r2 a2 => ?_)
  exact hQ _ adr2 h2 tk2 i2 (.cons (r1.mono a2 i1.noSeq) r2) (a1.trans a2)

noncomputable def f_list (F : St → Option (List MV × St)) : St → Option (MV × St) := bnd F fun xs st => if xs.length ≤ 1000 then some (.list xs, st) else none
theorem e_list {elts : List Expr} {pos : Pos} {F : St → Option (List MV × St)} (hF : EsS prog w hb β B r (spliced (backTo pos (starEach elts B.env))) F) : EvS prog w hb β B r (eval (.List elts pos) B.env) (f_list F) := by
  refine ⟨?_⟩
  intro A fr adr st st' m s Q E ha hi e hQ
  obtain ⟨m1, st1, e1, e⟩ := bnd_some e
  split at e
  · rename_i hl
    cases e
    refine List_ (hF.run A fr adr st _ m1 s _ E ha hi e1 fun vs adr1 h1 tk1 i1 r1 a1 => ?_)
    refine wpAny_newList ?_ (by rw [r1.length, sizeLine_eq]; omega)
    exact hQ _ adr1 _ tk1 (i1.keeps push_keeps) (VR.newList i1.hp.alive r1) (a1.trans (.of_keeps push_keeps))
  · cases e

/-! items and slices -/
noncomputable def f_sub (F G : St → Option (MV × St)) : St → Option (MV × St) := bnd F fun a => bnd G fun b st => match lookL st.objs a, b with
  | some xs, .int k => if decide (0 ≤ k) && decide (xs.length ≤ 100000) then (match xs[k.toNat]? with | some m => some (m, st) | none => none) else none
  | _, _ => none

theorem e_sub {value slice : Expr} {pos : Pos} {F G : St → Option (MV × St)} (hF : EvS prog w hb β B r (eval value B.env) F) (hG : EvS prog w hb β B r (eval slice B.env) G)
    (hs : ∀ o i, subscripted slice false o i = operate [o, i] (getItem o i)) : EvS prog w hb β B r (eval (.Subscript value slice pos) B.env) (f_sub F G) := by
  refine ⟨?_⟩
  intro A fr adr st st' m s Q E ha hi e hQ
  obtain ⟨m1, st1, e1, e⟩ := bnd_some e
  obtain ⟨m2, st2, e2, e⟩ := bnd_some e
  split at e
  · rename_i xs k l1
    split at e
    · rename_i hc
      rw [Bool.and_eq_true, decide_eq_true_eq, decide_eq_true_eq] at hc
      split at e
      · rename_i d hd
        cases e
        refine Subscript_ (Sm.two hF hG ha hi e1 e2 fun v1 v2 adr2 h2 tk2 i2 r1 r2 a2 => ?_)
        cases r2
        obtain ⟨a, vs, n, rfl, ho, rs⟩ := lookL_ok i2.hp r1 l1
        obtain ⟨v, hv, rv⟩ := rs.get hd
        have hl : h2.IsList a vs.toArray := ⟨_, ho, rfl, n, rfl⟩
        have hk : k.toNat < xs.length := by
          rcases Nat.lt_or_ge k.toNat xs.length with q | q
          · exact q
          · rw [List.getElem?_eq_none q] at hd; cases hd
        refine tail_any (ops := [.ref a, .int k _]) (s := { s with heap := h2, toks := tk2 }) hl.typeIs slot_list_getitem.lookup ?_ (hs _ _)
        exact wpAny_getItem_list hl hc.1 (by omega) (by simpa using hv) (hQ v adr2 h2 tk2 i2 rv a2)
      · cases e
    · cases e
  · cases e

/-- what a slice with written kinds of parts yields -/
noncomputable def f_from (F G : St → Option (MV × St)) : St → Option (MV × St) := bnd F fun a => bnd G fun b st => match lookL st.objs a, b with
  | some xs, .int k => if decide (0 ≤ k) && decide (xs.length ≤ 100000) then some (.list (xs.drop k.toNat), st) else none
  | _, _ => none
noncomputable def f_upto (F G : St → Option (MV × St)) : St → Option (MV × St) := bnd F fun a => bnd G fun b st => match lookL st.objs a, b with
  | some xs, .int k => if decide (0 ≤ k) && decide (xs.length ≤ 100000) then some (.list (xs.take k.toNat), st) else none
  | _, _ => none
noncomputable def f_run (F G H : St → Option (MV × St)) : St → Option (MV × St) := bnd F fun a => bnd G fun b => bnd H fun c st => match lookL st.objs a, b, c with
  | some xs, .int i, .int j => if decide (0 ≤ i) && decide (i ≤ j) && decide (j ≤ (xs.length : Int)) && decide (xs.length ≤ 100000) then some (.list ((xs.drop i.toNat).take (j.toNat - i.toNat)), st) else none
  | _, _, _ => none
noncomputable def f_rev (F : St → Option (MV × St)) : St → Option (MV × St) := bnd F fun a st => match lookL st.objs a with
  | some xs => if decide (xs.length ≤ 100000) then some (.list xs.reverse, st) else none
  | _ => none

theorem slice_raw {A : Around} {E : Value → Shared → Prop} {s : Shared} {value slice : Expr} {a sl : Addr} {vs : List Value} {n : Nat} {vl vu vt : Value} {lo hi st : Option Int} {ops : List Value} {Q : Value → Shared → Prop}
    (ho : s.heap.get? a = some (listOf vs.toArray n)) (hsl : s.heap.IsSliceOf sl vl vu vt) (pl : IsPart vl lo) (pu : IsPart vu hi) (ps : IsPart vt st) (h0 : st ≠ some 0) (hz : vs.length ≤ sizeLine)
    (hs : subscripted slice false (.ref a) (.ref sl) = operate ops (getItem (.ref a) (.ref sl)))
    (h : Q (.ref s.heap.objs.size) { s with heap := s.heap.push (listOf (slicePick vs.toArray lo hi st) 0) }) : wpAny (model prog w) A (subscriptTail value slice (.ref a) (.ref sl)) Q E s := by
  have hl : s.heap.IsList a vs.toArray := ⟨_, ho, rfl, n, rfl⟩
  refine tail_any hl.typeIs slot_list_getitem.lookup ?_ hs
  exact wpAny_getItem_list_slice hl hsl pl pu ps h0 h (by simpa using hz)
end
end Mine
end

section
open PySem PySem.W PyProof.Rows PySem.Spec PySem.Calls
set_option maxRecDepth 100000
namespace Mine
section
variable {prog : Program} {w : World} {hb : Heap} {β : Gl} {B : Bk} {r : Nat}

theorem IsSliceOf.keeps {h h' : Heap} {a : Addr} {x y z : Value} (k : ∀ b o, h.get? b = some o → h'.get? b = some o) (e : h.IsSliceOf a x y z) : h'.IsSliceOf a x y z := let ⟨o, e1, e2⟩ := e; ⟨o, k _ _ e1, e2⟩

theorem e_from {value lo : Expr} {p pos : Pos} {F G : St → Option (MV × St)} (hF : EvS prog w hb β B r (eval value B.env) F) (hG : EvS prog w hb β B r (eval lo B.env) G) :
    EvS prog w hb β B r (eval (.Subscript value (.Slice (some lo) none none p) pos) B.env) (f_from F G) := by
  refine ⟨?_⟩
  intro A fr adr st st' m s Q E ha hi e hQ
  obtain ⟨m1, st1, e1, e⟩ := bnd_some e
  obtain ⟨m2, st2, e2, e⟩ := bnd_some e
  split at e
  · rename_i xs k l1
    split at e
    · rename_i hc
      rw [Bool.and_eq_true, decide_eq_true_eq, decide_eq_true_eq] at hc
      cases e
      refine Subscript_ (hF.run A fr adr st st1 m1 s _ E ha hi e1 fun v1 adr1 h1 tk1 i1 r1 a1 => wpAny_Slice (wpAny_evalPart_some (hG.run A fr adr1 st1 _ _ _ _ E ha i1 e2 fun v2 adr2 h2 tk2 i2 r2 a2 => wpAny_evalPart_none (wpAny_evalPart_none ?_))))
      cases r2
      obtain ⟨a, vs, n, rfl, ho, rs⟩ := lookL_ok i2.hp (r1.mono a2 i1.noSeq) l1
      have hz : vs.length ≤ sizeLine := by rw [rs.length, sizeLine_eq]; omega
      refine slice_raw (ops := [.ref _, .ref _]) (push_keeps _ _ ho) (.new _ _ _ _) (.int _ _) .none .none (by simp) hz rfl ?_
      rw [show (k : Int) = ((k.toNat : Nat) : Int) from (Int.toNat_of_nonneg hc.1).symm, slicePick_from']
      refine hQ _ adr2 _ tk2 (i2.keeps fun b o e => push_keeps _ _ (push_keeps _ _ e)) ?_ ((a1.trans a2).trans (.of_keeps fun b o e => push_keeps _ _ (push_keeps _ _ e)))
      refine VR.newList (fun a ha => let ⟨o, e⟩ := i2.hp.alive a ha; ⟨o, push_keeps _ _ e⟩) ?_
      simpa using (rs.drop _).keeps push_keeps
    · cases e
  · cases e

theorem e_upto {value hi : Expr} {p pos : Pos} {F G : St → Option (MV × St)} (hF : EvS prog w hb β B r (eval value B.env) F) (hG : EvS prog w hb β B r (eval hi B.env) G) :
    EvS prog w hb β B r (eval (.Subscript value (.Slice none (some hi) none p) pos) B.env) (f_upto F G) := by
  refine ⟨?_⟩
  intro A fr adr st st' m s Q E ha hi e hQ
  obtain ⟨m1, st1, e1, e⟩ := bnd_some e
  obtain ⟨m2, st2, e2, e⟩ := bnd_some e
  split at e
  · rename_i xs k l1
    split at e
    · rename_i hc
      rw [Bool.and_eq_true, decide_eq_true_eq, decide_eq_true_eq] at hc
      cases e
      refine Subscript_ (hF.run A fr adr st st1 m1 s _ E ha hi e1 fun v1 adr1 h1 tk1 i1 r1 a1 => wpAny_Slice (wpAny_evalPart_none (wpAny_evalPart_some (hG.run A fr adr1 st1 _ _ _ _ E ha i1 e2 fun v2 adr2 h2 tk2 i2 r2 a2 => wpAny_evalPart_none ?_))))
      cases r2
      obtain ⟨a, vs, n, rfl, ho, rs⟩ := lookL_ok i2.hp (r1.mono a2 i1.noSeq) l1
      have hz : vs.length ≤ sizeLine := by rw [rs.length, sizeLine_eq]; omega
      refine slice_raw (ops := [.ref _, .ref _]) (push_keeps _ _ ho) (.new _ _ _ _) .none (.int _ _) .none (by simp) hz rfl ?_
      rw [show (k : Int) = ((k.toNat : Nat) : Int) from (Int.toNat_of_nonneg hc.1).symm, slicePick_upto']
      refine hQ _ adr2 _ tk2 (i2.keeps fun b o e => push_keeps _ _ (push_keeps _ _ e)) ?_ ((a1.trans a2).trans (.of_keeps fun b o e => push_keeps _ _ (push_keeps _ _ e)))
      refine VR.newList (fun a ha => let ⟨o, e⟩ := i2.hp.alive a ha; ⟨o, push_keeps _ _ e⟩) ?_
      simpa using (rs.take _).keeps push_keeps
    · cases e
  · cases e

theorem e_run {value lo hi : Expr} {p pos : Pos} {F G H : St → Option (MV × St)} (hF : EvS prog w hb β B r (eval value B.env) F) (hG : EvS prog w hb β B r (eval lo B.env) G) (hH : EvS prog w hb β B r (eval hi B.env) H) :
    EvS prog w hb β B r (eval (.Subscript value (.Slice (some lo) (some hi) none p) pos) B.env) (f_run F G H) := by
  refine ⟨?_⟩
  intro A fr adr st st' m s Q E ha hi e hQ
  obtain ⟨m1, st1, e1, e⟩ := bnd_some e
  obtain ⟨m2, st2, e2, e⟩ := bnd_some e
  obtain ⟨m3, st3, e3, e⟩ := bnd_some e
  split at e
  · rename_i xs i j l1 _
    split at e
    · rename_i hc
      simp only [Bool.and_eq_true, decide_eq_true_eq] at hc
      cases e
      refine Subscript_ (hF.run A fr adr st st1 m1 s _ E ha hi e1 fun v1 adr1 h1 tk1 i1 r1 a1 => wpAny_Slice (wpAny_evalPart_some (hG.run A fr adr1 st1 _ _ _ _ E ha i1 e2 fun v2 adr2 h2 tk2 i2 r2 a2 =>
        wpAny_evalPart_some (hH.run A fr adr2 st2 _ _ _ _ E ha i2 e3 fun v3 adr3 h3 tk3 i3 r3 a3 => wpAny_evalPart_none ?_))))
      cases r2
      cases r3
      obtain ⟨a, vs, n, rfl, ho, rs⟩ := lookL_ok i3.hp ((r1.mono a2 i1.noSeq).mono a3 i2.noSeq) l1
      have hz : vs.length ≤ sizeLine := by rw [rs.length, sizeLine_eq]; omega
      refine slice_raw (ops := [.ref _, .ref _]) (push_keeps _ _ ho) (.new _ _ _ _) (.int _ _) (.int _ _) .none (by simp) hz rfl ?_
      have hlen := rs.length
      rw [show (i : Int) = ((i.toNat : Nat) : Int) from (Int.toNat_of_nonneg (by omega)).symm, show (j : Int) = ((j.toNat : Nat) : Int) from (Int.toNat_of_nonneg (by omega)).symm,
        slicePick_run _ _ _ (by rw [List.size_toArray]; omega) (by omega)]
      refine hQ _ adr3 _ tk3 (i3.keeps fun b o e => push_keeps _ _ (push_keeps _ _ e)) ?_ (((a1.trans a2).trans a3).trans (.of_keeps fun b o e => push_keeps _ _ (push_keeps _ _ e)))
      refine VR.newList (fun a ha => let ⟨o, e⟩ := i3.hp.alive a ha; ⟨o, push_keeps _ _ e⟩) ?_
      simpa using ((rs.drop _).take _).keeps push_keeps
    · cases e
  · cases e

/-- xs[::-1] -/
theorem e_rev {value : Expr} {p p1 p2 pos : Pos} {k : Nat} {F : St → Option (MV × St)} (hF : EvS prog w hb β B r (eval value B.env) F) :
    EvS prog w hb β B r (eval (.Subscript value (.Slice none none (some (.UnaryOp .USub (.Constant (.int 1) k p1) p2)) p) pos) B.env) (f_rev F) := by
  refine ⟨?_⟩
  intro A fr adr st st' m s Q E ha hi e hQ
  obtain ⟨m1, st1, e1, e⟩ := bnd_some e
  split at e
  · rename_i xs l1
    split at e
    · rename_i hc
      rw [decide_eq_true_eq] at hc
      cases e
      refine Subscript_ (hF.run A fr adr st _ m1 s _ E ha hi e1 fun v1 adr1 h1 tk1 i1 r1 a1 => wpAny_Slice (wpAny_evalPart_none (wpAny_evalPart_none (wpAny_evalPart_some (wpAny_UnaryOp (wpAny_Constant_int (PyProof.Rows.neg_int ?_)))))))
      obtain ⟨a, vs, n, rfl, ho, rs⟩ := lookL_ok i1.hp r1 l1
      have hz : vs.length ≤ sizeLine := by rw [rs.length, sizeLine_eq]; omega
      refine slice_raw (ops := [.ref _, .ref _]) (push_keeps _ _ ho) (.new _ _ _ _) .none .none (.int _ _) (by simp) hz rfl ?_
      rw [show (-1 : Int) = -1 from rfl, krv_pick]
      refine hQ _ adr1 _ _ (i1.keeps fun b o e => push_keeps _ _ (push_keeps _ _ e)) ?_ (a1.trans (.of_keeps fun b o e => push_keeps _ _ (push_keeps _ _ e)))
      refine VR.newList (fun a ha => let ⟨o, e⟩ := i1.hp.alive a ha; ⟨o, push_keeps _ _ e⟩) ?_
      simpa using rs.reverse.keeps push_keeps
    · cases e
  · cases e

/-! statements -/
noncomputable def x_nil (st : St) : Option (Fl × St) := some (.next, st)
noncomputable def x_cons (F G : St → Option (Fl × St)) (st : St) : Option (Fl × St) := match F st with
  | some (.next, st') => G st'
  | x => x
theorem x_nil_ok : ExS prog w hb β B r (execs [] B.env) x_nil := by
  refine ⟨?_⟩
  intro A fr adr st st' m s Q E ha hi e hQ
  cases e
  exact wpAny_execs_nil (hQ .next adr s.heap s.toks hi trivial .refl)
theorem x_cons_ok {st₀ : Stmt} {rest : List Stmt} {F G : St → Option (Fl × St)} (hF : ExS prog w hb β B r (exec st₀ B.env) F) (hG : ExS prog w hb β B r (execs rest B.env) G) : ExS prog w hb β B r (execs (st₀ :: rest) B.env) (x_cons F G) := by
  refine ⟨?_⟩
  intro A fr adr st st' m s Q E ha hi e hQ
  unfold x_cons at e
  split at e
  · rename_i st1 e1
    refine wpAny_execs_cons (hF.run A fr adr st st1 _ s _ E ha hi e1 fun f adr1 h1 tk1 i1 r1 a1 => ?_)
    cases f with
    | next => exact hG.run A fr adr1 st1 st' m _ _ E ha i1 e fun v adr2 h2 tk2 i2 r2 a2 => hQ v adr2 h2 tk2 i2 r2 (a1.trans a2)
    | _ => exact r1.elim
  · rename_i x hx
    refine wpAny_execs_cons (hF.run A fr adr st st' m s _ E ha hi e fun f adr1 h1 tk1 i1 r1 a1 => ?_)
    cases f with
    | next => cases m with
      | next => exact (hx st' e).elim
      | ret m => exact r1.elim
    | ret v => exact hQ _ adr1 h1 tk1 i1 r1 a1
    | brk => exact hQ _ adr1 h1 tk1 i1 r1 a1
    | cont => exact hQ _ adr1 h1 tk1 i1 r1 a1
end
end Mine
end

section
open PySem PySem.W PyProof.Rows PySem.Spec PySem.Calls
set_option maxRecDepth 100000
namespace Mine

theorem Adv.sameBut {W F adr : List Addr} {h h' : Heap} {c : Addr} (hs : Heap.SameBut c h h') (hc : c ∈ W) (ha : ∃ o, h'.get? c = some o) : Adv W F adr h adr h' where
  pre := List.prefix_refl _
  new := fun _ ha => .inl ha
  alive := fun b o e => by
    by_cases hb : b = c
    · subst hb; exact ha
    · exact ⟨o, (hs.2 b hb).trans e⟩
  keep := fun b o e hw _ _ => (hs.2 b fun h => hw (h ▸ hc)).trans e
  slots := fun b o e hw _ _ => ⟨o.slots, (hs.2 b fun h => hw (h ▸ hc)).trans e⟩

theorem ORel.mono {β : Gl} {W F adr adr' : List Addr} {h h' : Heap} (x : Adv W F adr h adr' h') (hs : ∀ a, a ∈ W ∨ a ∈ F → ∀ o, h.get? a = some o → isSeq o = false) {a : Addr} {d : AObj} (y : ORel β h adr a d)
    (k : ∀ o, h.get? a = some o → h'.get? a = some o) : ORel β h' adr' a d := by
  cases y with
  | list e r => exact .list (k _ e) (r.mono x hs)
  | attrs e r => exact .attrs (k _ e) (r.mono x hs)
  | inst e r => exact .inst (k _ e) (x.at r)
  | dict e r => exact .dict (fun p => (e p).at k) (r.mono x hs)

theorem Hp.sameBut {hb : Heap} {β : Gl} {fr : List Env} {adr : List Addr} {objs : List AObj} {h h' : Heap} {c : Addr} (x : Hp hb β fr adr objs h) (hs : Heap.SameBut c h h') (hc : c ∉ adr) (hn : hb.get? c = none)
    (hq : ∀ o, h.get? c = some o → isSeq o = false) (ha : ∃ o, h'.get? c = some o) (hns : ∀ m, h.Ns c m → ∃ m', h'.Ns c m') : Hp hb β fr adr objs h' where
  base := fun b o e => by
    have hb : b ≠ c := by rintro rfl; rw [hn] at e; cases e
    exact (hs.2 b hb).trans (x.base b o e)
  off := x.off
  low := x.low
  big := x.big
  nodup := x.nodup
  len := x.len
  objs := fun n o e => by
    obtain ⟨a, h1, h2⟩ := x.objs n o e
    have hac : a ≠ c := by rintro rfl; exact hc (List.mem_of_getElem? h1)
    exact ⟨a, h1, h2.mono (W := [c]) (F := []) (Adv.sameBut hs (by simp) ha) (by
      rintro a' (h | h) o e
      · rw [List.mem_singleton] at h; subst h; exact hq o e
      · cases h) fun o e => (hs.2 a hac).trans e⟩
  fr := fun e he => by
    obtain ⟨h1, L, m, h2, h3, h4, h5⟩ := x.fr e he
    by_cases hL : L = c
    · subst hL
      obtain ⟨m', h6⟩ := hns m h5
      exact ⟨h1, L, m', h2, h3, h4, h6⟩
    · exact ⟨h1, L, m, h2, h3, h4, h5.sameBut hs hL⟩

theorem mem_lookup {α : Type} : ∀ {l : List (Str × α)} {n : Str} {c : α}, l.lookup n = some c → (n, c) ∈ l := mem_of_lookup

section
variable {prog : Program} {w : World} {hb : Heap} {β : Gl} {B : Bk} {r : Nat}

noncomputable def kindSt (B : Bk) (x : Str) : Bool := (B.env.kindOf x == some .local || B.env.kindOf x == some .cell) && B.ws.contains x
noncomputable def distinct (ns : List Str) (i : Nat) (x : Str) : Bool := ns.zipIdx.all fun p => decide (p.2 = i) || !(p.1 == x)

theorem distinct_ne {ns : List Str} {i j : Nat} {x y : Str} (h : distinct ns i x = true) (hj : ns[j]? = some y) (hij : j ≠ i) : y ≠ x := by
  have hm : (y, j) ∈ ns.zipIdx := by
    rw [List.mem_zipIdx_iff_getElem?]; exact hj
  have := List.all_eq_true.mp h _ hm
  simp only [Bool.or_eq_true, decide_eq_true_eq, Bool.not_eq_true', beq_eq_false_iff_ne] at this
  exact this.resolve_left hij

theorem store_ok {A : Around} {fr : List Env} {adr : List Addr} {st : St} {m : MV} {s : Shared} {v : Value} {x : Str} {i : Nat} {Q : Unit → Shared → Prop} {E : Value → Shared → Prop}
    (hi : Inv hb β B fr adr st s.heap) (hv : VR β s.heap adr v m) (hx : B.ns[i]? = some x) (hd : distinct B.ns i x = true) (hk : kindSt B x = true) (hsk : B.env.scope.kind = .function)
    (hQ : ∀ h' tk', Inv hb β B fr adr ⟨st.vars.set i m, st.objs⟩ h' → Adv B.W (frs fr) adr s.heap adr h' → Q () { s with heap := h', toks := tk' }) :
    wpAny (model prog w) A (storeName B.env x v) Q E s := by
  unfold kindSt at hk
  rw [Bool.and_eq_true, List.contains_iff_mem] at hk
  obtain ⟨hk, hws⟩ := hk
  rw [Bool.or_eq_true, beq_iff_eq, beq_iff_eq] at hk
  rcases hk with hk | hk
  · obtain ⟨m₀, hn⟩ := hi.blk.ns
    refine wpAny_storeName_local hk hn (fun h' hn' hs' => ?_) (by rw [hsk]; rfl)
    obtain ⟨o1, o2, _⟩ := hi.blk.own _ hi.blk.locW
    have hal : ∃ o, h'.get? B.env.locals = some o := let ⟨o, _, _, e, _⟩ := hn'; ⟨o, e⟩
    have hadv : Adv B.W (frs fr) adr s.heap adr h' := Adv.sameBut hs' hi.blk.locW hal
    have cellNe : ∀ {c : Addr} {u : Option Value}, s.heap.IsCell c u → c ≠ B.env.locals := fun hc e => ns_notCell hn (e ▸ hc)
    refine hQ h' _ ⟨hi.hp.sameBut hs' o1 o2 (fun o e => ns_notSeq hn e) hal (fun _ _ => ⟨_, hn'⟩), ⟨⟨_, hn'⟩, hi.blk.locW, fun a ha => ?_, fun y c hc => ?_, hi.blk.cellW, hi.blk.apart, fun j y mv h1 h2 h3 => ?_⟩⟩ hadv
    · obtain ⟨p1, p2, p3⟩ := hi.blk.own a ha
      refine ⟨p1, p2, ?_⟩
      by_cases hal : a = B.env.locals
      · subst hal; exact .inl ⟨_, hn'⟩
      · exact p3.elim (fun ⟨m, z⟩ => .inl ⟨m, z.sameBut hs' hal⟩) fun ⟨u, z⟩ => .inr ⟨u, z.sameBut hs' hal⟩
    · obtain ⟨p1, u, p2⟩ := hi.blk.cell y c hc
      exact ⟨p1, u, p2.sameBut hs' (cellNe p2)⟩
    · by_cases hj : j = i
      · subst hj
        rw [hx] at h1; cases h1
        have : mv = m := by
          rw [List.getElem?_set_self'] at h2
          cases hq : st.vars[j]? with
          | none => rw [hq] at h2; cases h2
          | some _ => rw [hq] at h2; simpa using h2.symm
        subst this
        exact ⟨v, .inl ⟨hk, _, hn', by simp⟩, hv.mono hadv hi.noSeq⟩
      · rw [List.getElem?_set_ne (Ne.symm hj)] at h2
        obtain ⟨u, q1, q2⟩ := hi.blk.vars j y mv h1 h2 h3
        have hne := distinct_ne hd h1 hj
        refine ⟨u, ?_, q2.mono hadv hi.noSeq⟩
        rcases q1 with ⟨z1, mm, z2, z3⟩ | ⟨z1, c, z2, z3⟩
        · refine .inl ⟨z1, _, hn', ?_⟩
          obtain ⟨oa, ea, na, ha1, ha2, _, ha4⟩ := hn
          obtain ⟨ob, eb, nb, hb1, hb2, _, hb4⟩ := z2
          rw [ha1] at hb1; cases hb1
          rw [ha2] at hb2; cases hb2
          rw [if_neg hne, ← ha4, hb4]; exact z3
        · exact .inr ⟨z1, c, z2, z3.sameBut hs' (cellNe z3)⟩
  · obtain ⟨c, hc, hcW⟩ := hi.blk.cellW x hws hk
    obtain ⟨hca, u₀, hcell⟩ := hi.blk.cell x c hc
    refine wpAny_storeName_cell hsk hk hc hcell fun h' hc' hs' => ?_
    obtain ⟨o1, o2, _⟩ := hi.blk.own _ hcW
    have hal : ∃ o, h'.get? c = some o := let ⟨o, e, _⟩ := hc'; ⟨o, e⟩
    have hadv : Adv B.W (frs fr) adr s.heap adr h' := Adv.sameBut hs' hcW hal
    have nsNe : ∀ {a : Addr} {m : Str → Option Value}, s.heap.Ns a m → a ≠ c := fun hn e => ns_notCell hn (e ▸ hcell)
    obtain ⟨m₀, hn⟩ := hi.blk.ns
    refine hQ h' _ ⟨hi.hp.sameBut hs' o1 o2 (fun o e => cell_notSeq hcell e) hal (fun m hm => (nsNe hm rfl).elim), ⟨⟨m₀, hn.sameBut hs' (nsNe hn)⟩, hi.blk.locW, fun a ha => ?_, fun y d hd' => ?_, hi.blk.cellW, hi.blk.apart, fun j y mv h1 h2 h3 => ?_⟩⟩ hadv
    · obtain ⟨p1, p2, p3⟩ := hi.blk.own a ha
      refine ⟨p1, p2, ?_⟩
      by_cases hal : a = c
      · subst hal; exact .inr ⟨_, hc'⟩
      · exact p3.elim (fun ⟨m, z⟩ => .inl ⟨m, z.sameBut hs' hal⟩) fun ⟨u, z⟩ => .inr ⟨u, z.sameBut hs' hal⟩
    · obtain ⟨p1, u, p2⟩ := hi.blk.cell y d hd'
      refine ⟨p1, ?_⟩
      by_cases hal : d = c
      · subst hal; exact ⟨_, hc'⟩
      · exact ⟨u, p2.sameBut hs' hal⟩
    · by_cases hj : j = i
      · subst hj
        rw [hx] at h1; cases h1
        have : mv = m := by
          rw [List.getElem?_set_self'] at h2
          cases hq : st.vars[j]? with
          | none => rw [hq] at h2; cases h2
          | some _ => rw [hq] at h2; simpa using h2.symm
        subst this
        exact ⟨v, .inr ⟨.inl hk, c, hc, hc'⟩, hv.mono hadv hi.noSeq⟩
      · rw [List.getElem?_set_ne (Ne.symm hj)] at h2
        obtain ⟨u, q1, q2⟩ := hi.blk.vars j y mv h1 h2 h3
        have hne := distinct_ne hd h1 hj
        refine ⟨u, ?_, q2.mono hadv hi.noSeq⟩
        rcases q1 with ⟨z1, mm, z2, z3⟩ | ⟨z1, d, z2, z3⟩
        · exact .inl ⟨z1, mm, z2.sameBut hs' (nsNe z2), z3⟩
        · refine .inr ⟨z1, d, z2, z3.sameBut hs' ?_⟩
          rintro rfl
          exact hne (name_of_addr hi.blk.apart (mem_of_lookup z2) (mem_of_lookup hc))

noncomputable def u_st (i : Nat) (m : MV) (st : St) : Option (Unit × St) := some ((), ⟨st.vars.set i m, st.objs⟩)
noncomputable def x_st (i : Nat) (F : St → Option (MV × St)) : St → Option (Fl × St) := bnd F fun m st => some (.next, ⟨st.vars.set i m, st.objs⟩)

/-- x = e -/
theorem x_assign {x : Str} {p pos : Pos} {value : Expr} (i : Nat) {F : St → Option (MV × St)} (hF : EvS prog w hb β B r (eval value B.env) F) (hx : B.ns[i]? = some x) (hd : distinct B.ns i x = true) (hk : kindSt B x = true)
    (hsk : B.env.scope.kind = .function) (hs : swapsWith value (some (.Name x p)) pos.line B.env = pure false) : ExS prog w hb β B r (exec (.Assign [.Name x p] value pos) B.env) (x_st i F) := by
  refine ⟨?_⟩
  intro A fr adr st st' m s Q E ha hi e hQ
  obtain ⟨m1, st1, e1, e⟩ := bnd_some e
  cases e
  refine wpAny_Assign_Name (hF.run A fr adr st st1 m1 s _ E ha hi e1 fun v adr1 h1 tk1 i1 r1 a1 => store_ok (s := { s with heap := h1, toks := tk1 }) i1 r1 hx hd hk hsk fun h2 tk2 i2 a2 => ?_) hs
  exact hQ .next adr1 h2 tk2 i2 trivial (a1.trans a2)

noncomputable def x_ret (F : St → Option (MV × St)) : St → Option (Fl × St) := bnd F fun m st => some (.ret m, st)
theorem x_return {e : Expr} {pos : Pos} {F : St → Option (MV × St)} (hF : EvS prog w hb β B r (eval e B.env) F) : ExS prog w hb β B r (exec (.Return (some e) pos) B.env) (x_ret F) := by
  refine ⟨?_⟩
  intro A fr adr st st' m s Q E ha hi e hQ
  obtain ⟨m1, st1, e1, e⟩ := bnd_some e
  cases e
  exact wpAny_Return_some (hF.run A fr adr st _ m1 s _ E ha hi e1 fun v adr1 h1 tk1 i1 r1 a1 => hQ (.ret v) adr1 h1 tk1 i1 r1 a1)

theorem x_if {t : Expr} {body orelse : List Stmt} {pos : Pos} {T : St → Option (Bool × St)} {F G : St → Option (Fl × St)} (hT : TsS prog w hb β B r (isTrue t B.env (eval t B.env)) T) (hF : ExS prog w hb β B r (execs body B.env) F)
    (hG : ExS prog w hb β B r (execs orelse B.env) G) : ExS prog w hb β B r (exec (.If t body orelse pos) B.env) (f_if T F G) := by
  refine ⟨?_⟩
  intro A fr adr st st' m s Q E ha hi e hQ
  unfold f_if at e
  split at e
  · rename_i st1 e1
    refine wpAny_If (hT.run A fr adr st st1 _ s _ E ha hi e1 fun v adr1 h1 tk1 i1 r1 a1 => ?_)
    subst r1
    exact hF.run A fr adr1 st1 st' m _ _ E ha i1 e fun v adr2 h2 tk2 i2 r2 a2 => hQ v adr2 h2 tk2 i2 r2 (a1.trans a2)
  · rename_i st1 e1
    refine wpAny_If (hT.run A fr adr st st1 _ s _ E ha hi e1 fun v adr1 h1 tk1 i1 r1 a1 => ?_)
    subst r1
    exact hG.run A fr adr1 st1 st' m _ _ E ha i1 e fun v adr2 h2 tk2 i2 r2 a2 => hQ v adr2 h2 tk2 i2 r2 (a1.trans a2)
  · cases e

/-- a branch that is not taken -/
noncomputable def t_fail {α : Type} (st : St) : Option (α × St) := none
theorem x_fail {t : Sem Flow} : ExS prog w hb β B r t t_fail := by
  refine ⟨?_⟩
  intro A fr adr st st' m s Q E ha hi e hQ
  cases e
theorem e_fail {t : Sem Value} : EvS prog w hb β B r t t_fail := by
  refine ⟨?_⟩
  intro A fr adr st st' m s Q E ha hi e hQ
  cases e

theorem x_expr {e : Expr} {pos : Pos} {F : St → Option (MV × St)} (hF : EvS prog w hb β B r (eval e B.env) F) (hi' : interactive B.env = false) (hs : swapsWith e none pos.line B.env = pure false) :
    ExS prog w hb β B r (exec (.Expr e pos) B.env) (bnd F fun _ st => some (.next, st)) := by
  refine ⟨?_⟩
  intro A fr adr st st' m s Q E ha hi e hQ
  obtain ⟨m1, st1, e1, e⟩ := bnd_some e
  cases e
  exact wpAny_Expr_any (hF.run A fr adr st _ m1 s _ E ha hi e1 fun v adr1 h1 tk1 i1 r1 a1 => hQ .next adr1 h1 tk1 i1 trivial a1) hi' hs
end
end Mine
end

section
open PySem PySem.W PyProof.Rows PySem.Spec PySem.Calls
set_option maxRecDepth 100000
namespace Mine

/-- a call that is told by a function of the data handed in and of the objects that may change -/
noncomputable def CallS (prog : Program) (w : World) (hb : Heap) (β : Gl) (r : Nat) (f : Value) (F : List MV → List AObj → Option (MV × List AObj)) : Prop :=
  ∀ (A : Around) (fr : List Env) (adr : List Addr) (objs objs' : List AObj) (ms : List MV) (m : MV) (vs : List Value) (s : Shared) (Q E : Value → Shared → Prop),
    Amb A fr r → Hp hb β fr adr objs s.heap → VRs β s.heap adr vs ms → F ms objs = some (m, objs') →
    (∀ (v : Value) (adr' : List Addr) (h' : Heap) (tk' : Nat), Hp hb β fr adr' objs' h' → VR β h' adr' v m → Adv [] (frs fr) adr s.heap adr' h' → Q v { s with heap := h', toks := tk' }) →
    wpAny (model prog w) A (call f vs) Q E s

/-- the same of the code that is called -/
noncomputable def CallC (prog : Program) (w : World) (hb : Heap) (β : Gl) (r : Nat) (f : Value) (F : List MV → List AObj → Option (MV × List AObj)) : Prop :=
  ∀ (A : Around) (fr : List Env) (adr : List Addr) (objs objs' : List AObj) (ms : List MV) (m : MV) (vs : List Value) (s : Shared) (R : Result → Shared → Prop),
    Amb A fr r → Hp hb β fr adr objs s.heap → VRs β s.heap adr vs ms → F ms objs = some (m, objs') →
    (∀ (v : Value) (adr' : List Addr) (h' : Heap) (tk' : Nat), Hp hb β fr adr' objs' h' → VR β h' adr' v m → Adv [] (frs fr) adr s.heap adr' h' → R (.ok (.ret v)) { s with heap := h', toks := tk' }) →
    codeAny (model prog w) A (.call f ⟨vs, []⟩) R s
theorem CallC.S {prog : Program} {w : World} {hb : Heap} {β : Gl} {r : Nat} {f : Value} {F : List MV → List AObj → Option (MV × List AObj)} (x : CallC prog w hb β r f F) : CallS prog w hb β r f F :=
  fun A fr adr objs objs' ms m vs s Q E ha hp hv e hQ => wpAny_call (x A fr adr objs objs' ms m vs s _ ha hp hv e hQ)

theorem bindL_out {kindOf : Str → Option NameKind} {x : Str} : ∀ {l : List (Str × Value)} {m : Str → Option Value}, x ∉ l.map (·.1) → bindL kindOf l m x = m x
  | [], _, _ => rfl
  | (n, v) :: r, m, h => by
    rw [List.map_cons, List.mem_cons, not_or] at h
    rw [bindL, bindL_out h.2]
    split
    · exact if_neg h.1
    · rfl
theorem bindC_out {kindOf : Str → Option NameKind} {x : Str} : ∀ {l : List (Str × Value)} {m : Str → Option Value}, x ∉ l.map (·.1) → bindC kindOf l m x = m x
  | [], _, _ => rfl
  | (n, v) :: r, m, h => by
    rw [List.map_cons, List.mem_cons, not_or] at h
    rw [bindC, bindC_out h.2]
    split
    · rfl
    · exact if_neg h.1
theorem bindL_in {kindOf : Str → Option NameKind} {x : Str} {v : Value} (hk : kindOf x = some .local) : ∀ {l : List (Str × Value)} {m : Str → Option Value}, (l.map (·.1)).Nodup → (x, v) ∈ l → bindL kindOf l m x = some v
  | (n, u) :: r, m, hn, h => by
    rw [List.map_cons, List.nodup_cons] at hn
    rw [bindL]
    rcases List.mem_cons.mp h with e | h
    · cases e
      rw [bindL_out hn.1, if_pos hk, if_pos rfl]
    · exact bindL_in hk hn.2 h
theorem bindC_in {kindOf : Str → Option NameKind} {x : Str} {v : Value} (hk : kindOf x = some .cell) : ∀ {l : List (Str × Value)} {m : Str → Option Value}, (l.map (·.1)).Nodup → (x, v) ∈ l → bindC kindOf l m x = some v
  | (n, u) :: r, m, hn, h => by
    rw [List.map_cons, List.nodup_cons] at hn
    rw [bindC]
    rcases List.mem_cons.mp h with e | h
    · cases e
      rw [bindC_out hn.1, if_neg (by rw [hk]; decide), if_pos rfl]
    · exact bindC_in hk hn.2 h

theorem cellsFrom_acc {x : Str} : ∀ {names : List (Str × NameKind)} {n : Nat} {acc : List (Str × Addr)}, (acc.lookup x).isSome = true → ((cellsFrom n names acc).lookup x).isSome = true
  | [], _, _, h => h
  | (name, kind) :: r, n, acc, h => by
    rw [cellsFrom]
    split
    · refine cellsFrom_acc ?_
      rw [List.lookup_cons]
      split
      · rfl
      · exact h
    · exact cellsFrom_acc h
theorem cellsFrom_has {x : Str} : ∀ {names : List (Str × NameKind)} {n : Nat} {acc : List (Str × Addr)}, (x, NameKind.cell) ∈ names → ((cellsFrom n names acc).lookup x).isSome = true
  | (name, kind) :: r, n, acc, h => by
    rw [cellsFrom]
    rcases List.mem_cons.mp h with e | h
    · cases e
      rw [if_pos (by rfl)]
      exact cellsFrom_acc (by rw [List.lookup_cons]; simp)
    · split
      · exact cellsFrom_has h
      · exact cellsFrom_has h

/-- the block of a def's call: locals at L, cells behind it -/
noncomputable def defBk (fd : FuncData) (f : Addr) (ns : List Str) (L : Addr) : Bk :=
  { env := callEnvC fd L f, ns := ns, W := L :: ns.filterMap fun x => (callEnvC fd L f).cells.lookup x }

noncomputable def callF (k : Nat) (Fb : St → Option (Fl × St)) (ms : List MV) (objs : List AObj) : Option (MV × List AObj) := match Fb ⟨ms ++ List.replicate k .undef, objs⟩ with
  | some (.ret m, st) => some (m, st.objs)
  | some (.next, st) => some (.none, st.objs)
  | none => none

noncomputable def callL (n : Nat) (dms : List MV) (k : Nat) (Fb : St → Option (Fl × St)) (ms : List MV) (objs : List AObj) : Option (MV × List AObj) := if ms.length + dms.length = n then callF k Fb (ms ++ dms) objs else none

theorem getElem?_zip {α β : Type} : ∀ {l : List α} {k : List β} {i : Nat} {a : α} {b : β}, l[i]? = some a → k[i]? = some b → (a, b) ∈ l.zip k
  | x :: l, y :: k, 0, a, b, h, h' => by simp at h h'; subst h h'; exact .head _
  | x :: l, y :: k, i + 1, a, b, h, h' => by simp at h h'; exact .tail _ (getElem?_zip h h')
  | [], _, _, _, _, h, _ => by simp at h
  | _ :: _, [], _, _, _, _, h => by simp at h

/-- what must be known of a def -/
structure DefOk (hb : Heap) (f : Addr) (fd : FuncData) (body : List Stmt) (ps ls : List Str) (ds : List Value := []) : Prop where
  obj : ∃ o, hb.get? f = some o ∧ o.data = .func fd
  lim : hb.NoLimit
  code : hb.CodeRec fd.code fd.qualname
  body : fd.body = .stmts body
  bind : ∀ (s : Shared) (vs : List Value), (∀ b o, hb.get? b = some o → s.heap.get? b = some o) → vs.length + ds.length = ps.length → BindsTo s fd ⟨vs, []⟩ (ps.zip (vs ++ ds))
  clo : fd.closure = []
  kinds : (ps.all fun x => fd.scope.names.lookup x == some .local || (fd.scope.names.lookup x == some .cell && fd.scope.names.contains (x, .cell))) = true
  cells : ((ps ++ ls).all fun x => !(fd.scope.names.lookup x == some .cell) || fd.scope.names.contains (x, .cell)) = true
  nodup : ps.Nodup
  co : fd.scope.isCoroutine = false
  gen : fd.scope.isGenerator = false
  kind : fd.scope.kind = .function

section
variable {prog : Program} {w : World} {hb : Heap} {β : Gl} {r : Nat}

theorem nl_keeps {h h' : Heap} (x : h.NoLimit) (k : ∀ b o, h.get? b = some o → h'.get? b = some o) : h'.NoLimit := Heap.NoLimit.keeps x k

theorem call_cellsB {A : Around} {s : Shared} {R : Result → Shared → Prop} {a : Addr} {o : Obj} {fd : FuncData} {body : List Stmt} {vals : List Value} {binds : List (Str × Value)}
    (hroom : A.depth < recursionLimit) (ho : s.heap.get? a = some o) (hdata : o.data = .func fd) (hlim : s.heap.NoLimit) (hcd : s.heap.CodeRec fd.code fd.qualname)
    (hbody : fd.body = .stmts body) (hbind : BindsTo s fd ⟨vals, []⟩ binds) (hclo : fd.closure = [])
    (hkind : ∀ x ∈ binds, fd.scope.names.lookup x.1 = some .local ∨ (fd.scope.names.lookup x.1 = some .cell ∧ ((cellsFrom (s.heap.objs.size + 1) fd.scope.names []).lookup x.1).isSome = true))
    (h : ∀ s₁, InCallC s (callEnvC fd s.heap.objs.size a).locals (bindL (callEnvC fd s.heap.objs.size a).kindOf binds fun _ => none) (callEnvC fd s.heap.objs.size a).cells (bindC (callEnvC fd s.heap.objs.size a).kindOf binds fun _ => none) s₁ →
      wpAny (model prog w) (A.deeper (callEnvC fd s.heap.objs.size a)) (execs body (callEnvC fd s.heap.objs.size a)) (fun f s' => R (.ok (.ret (match f with | .ret v => v | _ => .none))) s')
        (fun e s' => wpAny (model prog w) (A.deeper (callEnvC fd s.heap.objs.size a)) (leaving (callEnvC fd s.heap.objs.size a) e) (fun _ s'' => R (.error e) s'') (fun e' s'' => R (.error e') s'') s') s₁)
    (hco : fd.scope.isCoroutine = false) (hgen : fd.scope.isGenerator = false) (hk : fd.scope.kind = .function) : codeAny (model prog w) A (.call (.ref a) ⟨vals, []⟩) R s := by
  refine codeAny_call_function hroom ho hdata hco hgen hbody hcd (hbind _ _ _ _ ?_)
  rw [hclo]
  refine wpAny_newFunctionEnv_cells hk hkind fun env he s' x => ?_
  subst he
  exact ⟨hlim.keeps x.toInCall.keep, codeAny_func (h s' x)⟩

theorem call_defC {f : Addr} {fd : FuncData} {body : List Stmt} {ps ls : List Str} {ds : List Value} {dms : List MV} {Fb : St → Option (Fl × St)} (D : DefOk hb f fd body ps ls ds) (hds : ∀ h adr, VRs β h adr ds dms)
    (hF : ∀ L, ExS prog w hb β (defBk fd f (ps ++ ls) L) r (execs body (defBk fd f (ps ++ ls) L).env) Fb) : CallC prog w hb β (r + 1) (.ref f) (callL ps.length dms ls.length Fb) := by
  intro A fr adr objs objs' ms0 m vs0 s R ha hp hv0 e hQ
  unfold callL at e
  split at e
  · rename_i hlen
    obtain ⟨o, ho, hd⟩ := D.obj
    have hvl0 : vs0.length + ds.length = ps.length := by rw [hv0.length, (hds s.heap adr).length]; exact hlen
    have hv : VRs β s.heap adr (vs0 ++ ds) (ms0 ++ dms) := hv0.append (hds s.heap adr)
    have hlen : (ms0 ++ dms).length = ps.length := by rw [List.length_append]; exact hlen
    generalize hvs : vs0 ++ ds = vs at hv
    generalize hms : ms0 ++ dms = ms at hv e hlen
    have hvl : vs.length = ps.length := hv.length.trans hlen
    have hbind : BindsTo s fd ⟨vs0, []⟩ (ps.zip vs) := by rw [← hvs]; exact D.bind s vs0 hp.base hvl0
    refine (call_cellsB (by have := ha.d; omega) (hp.base _ _ ho) hd (nl_keeps D.lim hp.base) (D.code.keeps hp.base) D.body hbind D.clo (fun x hx => ?_) (fun s₁ x => ?_) D.co D.gen D.kind)
    · have hxp : x.1 ∈ ps := (List.of_mem_zip (a := x.1) (b := x.2) hx).1
      have := List.all_eq_true.mp D.kinds _ hxp
      rw [Bool.or_eq_true, Bool.and_eq_true, beq_iff_eq, beq_iff_eq] at this
      rcases this with q | ⟨q, q2⟩
      · exact .inl q
      · exact .inr ⟨q, cellsFrom_has (List.contains_iff_mem.mp q2)⟩
    · have hLs : s.heap.objs.size ≤ s.heap.objs.size := Nat.le_refl _
      have fresh : ∀ a, s.heap.objs.size ≤ a → s.heap.get? a = none := fun a h => by
        cases q : s.heap.get? a with
        | none => rfl
        | some o => exact absurd (Heap.lt_size q) (Nat.not_lt.mpr h)
      have hbn : ∀ a, s.heap.objs.size ≤ a → hb.get? a = none := fun a h => by
        cases q : hb.get? a with
        | none => rfl
        | some o => have := hp.base _ _ q; rw [fresh a h] at this; cases this
      have nadr : ∀ a, s.heap.objs.size ≤ a → a ∉ adr := fun a h hm => by
        obtain ⟨o, q⟩ := hp.alive a hm
        rw [fresh a h] at q; cases q
      have keep := x.toInCall.keep
      have hp1 : Hp hb β fr adr objs s₁.heap := hp.keeps keep
      have hL : (callEnvC fd s.heap.objs.size f).locals = s.heap.objs.size := rfl
      have hfr : (callEnvC fd s.heap.objs.size f).frame = some s.heap.objs.size := rfl
      have cabove : ∀ n c, (callEnvC fd s.heap.objs.size f).cells.lookup n = some c → s.heap.objs.size < c := fun n c h => x.above n c (mem_of_lookup h)
      have inv : Inv hb β (defBk fd f (ps ++ ls) s.heap.objs.size) (callEnvC fd s.heap.objs.size f :: fr) adr ⟨ms ++ List.replicate ls.length .undef, objs⟩ s₁.heap := by
        refine ⟨⟨hp1.base, hp1.off, hp1.low, hp1.big, hp1.nodup, hp1.len, hp1.objs, fun e he => ?_⟩, ⟨⟨_, x.toInCall.ns⟩, List.mem_cons_self, fun a ha => ?_, fun y c hc => ⟨nadr c (Nat.le_of_lt (cabove y c hc)), _, x.cell y c hc⟩, fun y hy hk => ?_, x.apart, fun i y mv h1 h2 h3 => ?_⟩⟩
        · rcases List.mem_cons.mp he with rfl | he
          · exact ⟨by show fd.scope.kind ≠ .module; rw [D.kind]; decide, _, _, hfr, hbn _ (Nat.le_refl _), nadr _ (Nat.le_refl _), x.toInCall.ns⟩
          · exact hp1.fr e he
        · rcases List.mem_cons.mp ha with rfl | ha
          · exact ⟨nadr _ (Nat.le_refl _), hbn _ (Nat.le_refl _), .inl ⟨_, x.toInCall.ns⟩⟩
          · obtain ⟨y, _, hy⟩ := List.mem_filterMap.mp ha
            have := Nat.le_of_lt (cabove y a hy)
            exact ⟨nadr _ this, hbn _ this, .inr ⟨_, x.cell y a hy⟩⟩
        · have := List.all_eq_true.mp D.cells y hy
          have hk' : fd.scope.names.lookup y = some .cell := hk
          rw [hk'] at this
          simp only [beq_self_eq_true, Bool.not_true, Bool.false_or] at this
          obtain ⟨c, hc⟩ := Option.isSome_iff_exists.mp (cellsFrom_has (n := s.heap.objs.size + 1) (acc := []) (List.contains_iff_mem.mp this))
          exact ⟨c, hc, List.mem_cons_of_mem _ (List.mem_filterMap.mpr ⟨y, hy, hc⟩)⟩
        · have hi : i < ms.length := by
            rcases Nat.lt_or_ge i ms.length with q | q
            · exact q
            · simp only [List.getElem?_append_right q] at h2
              rw [List.getElem?_replicate] at h2
              split at h2
              · cases h2; exact absurd rfl h3
              · cases h2
          simp only [List.getElem?_append_left hi] at h2
          have hip : i < ps.length := hlen ▸ hi
          have h1' : ps[i]? = some y := by
            have h1'' : (ps ++ ls)[i]? = some y := h1
            rwa [List.getElem?_append_left hip] at h1''
          obtain ⟨v, hv1, hv2⟩ := hv.get h2
          have hm := getElem?_zip h1' hv1
          have hmap : (ps.zip vs).map (·.1) = ps := List.map_fst_zip (Nat.le_of_eq hvl.symm)
          have := List.all_eq_true.mp D.kinds y (List.mem_of_getElem? h1')
          rw [Bool.or_eq_true, Bool.and_eq_true, beq_iff_eq, beq_iff_eq] at this
          refine ⟨v, ?_, hv2.keeps keep⟩
          rcases this with q | ⟨q, q2⟩
          · exact .inl ⟨q, _, x.toInCall.ns, bindL_in q (by rw [hmap]; exact D.nodup) hm⟩
          · obtain ⟨c, hc⟩ := Option.isSome_iff_exists.mp (cellsFrom_has (n := s.heap.objs.size + 1) (acc := []) (List.contains_iff_mem.mp q2))
            refine .inr ⟨.inl q, c, hc, ?_⟩
            have z := x.cell y c hc
            rwa [bindC_in q (by rw [hmap]; exact D.nodup) hm] at z
      have amb : Amb (A.deeper (callEnvC fd s.heap.objs.size f)) (callEnvC fd s.heap.objs.size f :: fr) r := by
        refine ⟨ha.h, Around.frames_deeper ha.f, ?_, ?_⟩
        · show A.depth + 1 + r < _; have := ha.d; omega
        · show A.units + 3 + 8 * r < _; have := ha.u; omega
      obtain ⟨h₁, tk₁, hs₁, _⟩ := x.done
      unfold callF at e
      have fin : ∀ {fl : Fl} {st' : St}, Fb ⟨ms ++ List.replicate ls.length .undef, objs⟩ = some (fl, st') → (∀ (f : Flow) (adr' : List Addr) (h' : Heap) (tk' : Nat), Hp hb β fr adr' st'.objs h' → FlR β h' adr' f fl → Adv [] (frs fr) adr s.heap adr' h' →
            R (.ok (.ret (match f with | .ret v => v | _ => .none))) { s with heap := h', toks := tk' }) →
          wpAny (model prog w) (A.deeper (callEnvC fd s.heap.objs.size f)) (execs body (callEnvC fd s.heap.objs.size f)) (fun f s' => R (.ok (.ret (match f with | .ret v => v | _ => .none))) s')
            (fun e s' => wpAny (model prog w) (A.deeper (callEnvC fd s.heap.objs.size f)) (leaving (callEnvC fd s.heap.objs.size f) e) (fun _ s'' => R (.error e) s'') (fun e' s'' => R (.error e') s'') s') s₁ := by
        intro fl st' e hQ'
        refine (hF s.heap.objs.size).run _ _ adr _ st' fl s₁ _ _ amb inv e fun f' adr' h' tk' i' r' a' => ?_
        subst hs₁
        refine hQ' f' adr' h' tk' ⟨i'.hp.base, i'.hp.off, i'.hp.low, i'.hp.big, i'.hp.nodup, i'.hp.len, i'.hp.objs, fun e he => i'.hp.fr e (List.mem_cons_of_mem _ he)⟩ r' ?_
        have offW : ∀ b o, s.heap.get? b = some o → b ∉ (defBk fd f (ps ++ ls) s.heap.objs.size).W := fun b o e hm => by
          have hlt := Heap.lt_size e
          rcases List.mem_cons.mp hm with rfl | hm
          · exact Nat.lt_irrefl _ hlt
          · obtain ⟨y, _, hy⟩ := List.mem_filterMap.mp hm
            exact Nat.lt_irrefl _ (Nat.lt_trans hlt (cabove y b hy))
        have offF : ∀ b o, s.heap.get? b = some o → b ∉ frs fr → b ∉ frs (callEnvC fd s.heap.objs.size f :: fr) := fun b o e hn hm => by
          obtain ⟨env, he, hfe⟩ := List.mem_filterMap.mp hm
          rcases List.mem_cons.mp he with rfl | he
          · rw [hfr] at hfe; cases hfe; exact Nat.lt_irrefl _ (Heap.lt_size e)
          · exact hn (List.mem_filterMap.mpr ⟨env, he, hfe⟩)
        refine ⟨a'.pre, fun a ha => ?_, fun b o e => a'.alive b o (keep b o e), fun b o e _ h2 h3 => a'.keep b o (keep b o e) (offW b o e) h2 (offF b o e h3), fun b o e _ h2 h3 => ?_⟩
        · rcases a'.new a ha with q | q
          · exact .inl q
          · refine .inr ?_
            cases q2 : s.heap.get? a with
            | none => rfl
            | some o => have := keep a o q2; rw [q] at this; cases this
        · refine a'.slots b o (keep b o e) (offW b o e) h2 ?_
          obtain ⟨env, he, hfe⟩ := List.mem_filterMap.mp h3
          exact List.mem_filterMap.mpr ⟨env, List.mem_cons_of_mem _ he, hfe⟩
      split at e
      · rename_i m' st' e1
        cases e
        refine fin e1 fun f' adr' h' tk' p' r' a' => ?_
        cases f' with
        | ret v => exact hQ v adr' h' tk' p' r' a'
        | _ => exact r'.elim
      · rename_i st' e1
        cases e
        refine fin e1 fun f' adr' h' tk' p' r' a' => ?_
        cases f' with
        | next => exact hQ .none adr' h' tk' p' .none a'
        | _ => exact r'.elim
      · cases e
  · cases e
theorem call_def {f : Addr} {fd : FuncData} {body : List Stmt} {ps ls : List Str} {ds : List Value} {dms : List MV} {Fb : St → Option (Fl × St)} (D : DefOk hb f fd body ps ls ds) (hds : ∀ h adr, VRs β h adr ds dms)
    (hF : ∀ L, ExS prog w hb β (defBk fd f (ps ++ ls) L) r (execs body (defBk fd f (ps ++ ls) L).env) Fb) : CallS prog w hb β (r + 1) (.ref f) (callL ps.length dms ls.length Fb) := (call_defC D hds hF).S
end
end Mine
end

section
open PySem PySem.W PyProof.Rows PySem.Spec PySem.Calls
set_option maxRecDepth 100000
namespace Mine

theorem Adv.ns {F adr adr' : List Addr} {h h' : Heap} (x : Adv [] F adr h adr' h') {a : Addr} (ha : a ∉ adr) {m : Str → Option Value} (y : h.Ns a m) : h'.Ns a m := by
  obtain ⟨o, es, ep, e, hd, r⟩ := y
  by_cases hf : a ∈ F
  · obtain ⟨sl, e'⟩ := x.slots a o e (by simp) ha hf
    exact ⟨_, es, ep, e', hd, r⟩
  · exact ⟨o, es, ep, x.keep a o e (by simp) ha hf, hd, r⟩
theorem Adv.isCell {F adr adr' : List Addr} {h h' : Heap} (x : Adv [] F adr h adr' h') {a : Addr} (ha : a ∉ adr) {u : Option Value} (y : h.IsCell a u) : h'.IsCell a u := by
  obtain ⟨o, e, hd⟩ := y
  by_cases hf : a ∈ F
  · obtain ⟨sl, e'⟩ := x.slots a o e (by simp) ha hf
    exact ⟨_, e', hd⟩
  · exact ⟨o, x.keep a o e (by simp) ha hf, hd⟩

theorem ns_some {h : Heap} {a : Addr} {m : Str → Option Value} (x : h.Ns a m) : ∃ o, h.get? a = some o := let ⟨o, _, _, e, _⟩ := x; ⟨o, e⟩
theorem cell_some {h : Heap} {a : Addr} {u : Option Value} (x : h.IsCell a u) : ∃ o, h.get? a = some o := let ⟨o, e, _⟩ := x; ⟨o, e⟩

theorem Blk.adv {hb : Heap} {β : Gl} {B : Bk} {F adr adr' : List Addr} {vars : List MV} {h h' : Heap} (b : Blk hb β B adr vars h) (x : Adv [] F adr h adr' h') (hs : ∀ a ∈ F, ∀ o, h.get? a = some o → isSeq o = false) : Blk hb β B adr' vars h' where
  ns := let ⟨m, hm⟩ := b.ns; ⟨m, x.ns (b.own _ b.locW).1 hm⟩
  locW := b.locW
  own := fun a ha => by
    obtain ⟨h1, h2, h3⟩ := b.own a ha
    refine ⟨?_, h2, h3.elim (fun ⟨m, z⟩ => .inl ⟨m, x.ns h1 z⟩) fun ⟨v, z⟩ => .inr ⟨v, x.isCell h1 z⟩⟩
    rcases h3 with ⟨m, z⟩ | ⟨v, z⟩
    · obtain ⟨o, e⟩ := ns_some z; exact x.notMem e h1
    · obtain ⟨o, e⟩ := cell_some z; exact x.notMem e h1
  cell := fun y c hc => by
    obtain ⟨h1, v, h2⟩ := b.cell y c hc
    obtain ⟨o, e⟩ := cell_some h2
    exact ⟨x.notMem e h1, v, x.isCell h1 h2⟩
  cellW := b.cellW
  apart := b.apart
  vars := fun i y mv h1 h2 h3 => by
    obtain ⟨v, h4, h5⟩ := b.vars i y mv h1 h2 h3
    refine ⟨v, ?_, h5.mono x (by rintro a (h | h); cases h; exact hs a h)⟩
    rcases h4 with ⟨z1, m, z2, z3⟩ | ⟨z1, c, z2, z3⟩
    · exact .inl ⟨z1, m, x.ns (b.own _ b.locW).1 z2, z3⟩
    · exact .inr ⟨z1, c, z2, x.isCell (b.cell y c z2).1 z3⟩

section
variable {prog : Program} {w : World} {hb : Heap} {β : Gl} {B : Bk} {r : Nat}

/-- a global name of the module's or of the built-ins' -/
noncomputable def NameG (prog : Program) (w : World) (hb : Heap) (B : Bk) (x : Str) (f : Value) : Prop :=
  ∀ (A : Around) (p : Pos) (s : Shared) (Q E : Value → Shared → Prop), (∀ b o, hb.get? b = some o → s.heap.get? b = some o) → Q f s → wpAny (model prog w) A (eval (.Name x p) B.env) Q E s

/-- who keeps what is handed to a call of f -/
noncomputable def KeptBy (prog : Program) (w : World) (hb : Heap) (f : Value) : Prop :=
  ∀ h : Heap, (∀ b o, hb.get? b = some o → h.get? b = some o) → ∃ k, (k = Keeper.frame ∨ k = Keeper.machine ∨ k = Keeper.boundFrame) ∧ Looks (model prog w) h (keeperOf f) k

theorem kept_builtin {n : String} : KeptBy prog w hb (.builtin n) := fun h _ => ⟨.machine, .inr (.inl rfl), .now⟩
theorem kept_type {n : String} : KeptBy prog w hb (.type n) := fun h _ => ⟨.machine, .inr (.inl rfl), .now⟩
theorem kept_def {f : Addr} {fd : FuncData} (h : ∃ o, hb.get? f = some o ∧ o.data = .func fd) : KeptBy prog w hb (.ref f) := fun h' k => by
  obtain ⟨o, ho, hd⟩ := h
  refine ⟨.frame, .inl rfl, (Looks.ld (part := none) (k _ _ ho)).andThen ?_⟩
  rw [hd]
  exact .now

noncomputable def f_call (F : List MV → List AObj → Option (MV × List AObj)) (G : St → Option (List MV × St)) : St → Option (MV × St) := bnd G fun ms st => match F ms st.objs with
  | some (m, objs') => some (m, ⟨st.vars, objs'⟩)
  | none => none

theorem call_use {f : Value} {r' : Nat} {F : List MV → List AObj → Option (MV × List AObj)} (hF : CallS prog w hb β r' f F) (hr : r' ≤ r) {A : Around} {fr : List Env} {adr : List Addr} {st : St} {objs' : List AObj} {ms : List MV} {m : MV} {vs : List Value} {s : Shared} {Q E : Value → Shared → Prop}
    (ha : Amb A fr r) (hi : Inv hb β B fr adr st s.heap) (hv : VRs β s.heap adr vs ms) (e : F ms st.objs = some (m, objs'))
    (hQ : ∀ (v : Value) (adr' : List Addr) (h' : Heap) (tk' : Nat), Inv hb β B fr adr' ⟨st.vars, objs'⟩ h' → VR β h' adr' v m → Adv B.W (frs fr) adr s.heap adr' h' → Q v { s with heap := h', toks := tk' }) :
    wpAny (model prog w) A (call f vs) Q E s :=
  hF A fr adr st.objs objs' ms m vs s Q E (ha.le hr) hi.hp hv e fun v adr' h' tk' p' r' a' =>
    hQ v adr' h' tk' ⟨p', hi.blk.adv a' fun a ha o e => hi.hp.frSeq ha e⟩ r' (a'.mono fun a h => by cases h)

theorem e_call {x : Str} {p pos : Pos} {args : List Expr} {f : Value} {r' : Nat} {F : List MV → List AObj → Option (MV × List AObj)} {G : St → Option (List MV × St)} (hn : NameG prog w hb B x f) (hk : KeptBy prog w hb f) (hF : CallS prog w hb β r' f F) (hr : r' ≤ r)
    (hG : EsS prog w hb β B r (spliced (backTo pos (starEach args B.env))) G) (hs : (backTo pos (starEach args B.env)).any (·.1) = false) (he : ∀ (M : Model) (A : Around) (E : Value → Shared → Prop) (s : Shared) (Q : Args → Shared → Prop), wpAny M A (spliced (backTo pos (starEach args B.env))) (fun vs s₁ => Q ⟨vs, []⟩ s₁) E s → wpAny M A (evalArgs f true (backTo pos (starEach args B.env)) []) Q E s) :
    EvS prog w hb β B r (eval (.Call (.Name x p) args [] pos) B.env) (f_call F G) := by
  refine ⟨?_⟩
  intro A fr adr st st' m s Q E ha hi e hQ
  obtain ⟨ms, st1, e1, e⟩ := bnd_some e
  split at e
  · rename_i m' objs' e2
    cases e
    refine Call_ (hn A p s _ E hi.hp.base ?_)
    refine callWith_of (P := fun h => ∀ b o, hb.get? b = some o → h.get? b = some o) (by rw [hs]; rfl) hk (he _ _ _ _ _ ?_)
    refine hG.run A fr adr st st1 ms s _ E ha hi e1 fun vs adr1 h1 tk1 i1 r1 a1 => ⟨i1.hp.base, ?_⟩
    refine call_use (s := { s with heap := h1, toks := tk1 }) hF hr ha i1 r1 e2 fun v adr2 h2 tk2 i2 r2 a2 => ?_
    exact hQ v adr2 h2 tk2 i2 r2 (a1.trans a2)
  · cases e
end
end Mine
end

section
open PySem PySem.W PyProof.Rows PySem.Spec PySem.Calls
set_option maxRecDepth 100000
namespace Mine

/-- an object of an iterator's own -/
noncomputable def iterObj (o : Obj) : Bool := match o.data with
  | .fields _ => true
  | .seq _ _ => decide (o.cls = .type "tuple")
  | _ => false

theorem iter_notList {o : Obj} (h : iterObj o = true) (vs : List Value) (n : Nat) : o ≠ listOf vs.toArray n := by
  rintro rfl
  exact absurd h (by simp [iterObj])
theorem iter_seq {o : Obj} (h : iterObj o = true) : isSeq o = true := by
  unfold iterObj at h; unfold isSeq
  split at h <;> simp_all

structure Wr (hb : Heap) (wr : List Addr) (h : Heap) : Prop where
  base : ∀ b ∈ wr, hb.get? b = none
  obj : ∀ b ∈ wr, ∃ o, h.get? b = some o ∧ iterObj o = true

section
variable {hb : Heap} {β : Gl} {B : Bk} {fr : List Env} {adr wr : List Addr} {h h' : Heap}

theorem Wr.notNs (x : Wr hb wr h) {b : Addr} (hb' : b ∈ wr) {m : Str → Option Value} (y : h.Ns b m) : False := by
  obtain ⟨o, e, q⟩ := x.obj b hb'
  have := ns_notSeq y e
  rw [iter_seq q] at this; cases this
theorem Wr.notCell (x : Wr hb wr h) {b : Addr} (hb' : b ∈ wr) {u : Option Value} (y : h.IsCell b u) : False := by
  obtain ⟨o, e, q⟩ := x.obj b hb'
  have := cell_notSeq y e
  rw [iter_seq q] at this; cases this
theorem Wr.notLst (x : Wr hb wr h) {b : Addr} (hb' : b ∈ wr) {vs : List Value} {n : Nat} (y : h.get? b = some (listOf vs.toArray n)) : False := by
  obtain ⟨o, e, q⟩ := x.obj b hb'
  rw [e] at y; cases y
  exact iter_notList q vs n rfl
theorem Wr.notAdr (x : Wr hb wr h) {objs : List AObj} (hp : Hp hb β fr adr objs h) {b : Addr} (hb' : b ∈ wr) : b ∉ adr := fun hm => by
  obtain ⟨n, hn⟩ := List.mem_iff_getElem?.mp hm
  have hlt : n < objs.length := by
    rw [← hp.len]
    rcases Nat.lt_or_ge n adr.length with h | h
    · exact h
    · rw [List.getElem?_eq_none h] at hn; cases hn
  obtain ⟨a', h1, h2⟩ := hp.objs n _ (List.getElem?_eq_getElem hlt)
  rw [hn] at h1; cases h1
  obtain ⟨o, e, q⟩ := x.obj b hb'
  generalize objs[n] = ob at h2
  cases h2 with
  | list e2 _ => exact x.notLst hb' e2
  | attrs e2 _ => rw [e] at e2; cases e2; cases q
  | inst e2 _ => rw [e] at e2; cases e2; cases q
  | dict e2 _ =>
    obtain ⟨o', es, ep, e3, _, e4, _⟩ := e2 default
    rw [e] at e3; cases e3
    unfold iterObj at q; rw [e4] at q; cases q

mutual
theorem VR.but (x : Wr hb wr h) (k : ∀ b o, b ∉ wr → h.get? b = some o → h'.get? b = some o) : ∀ {v : Value} {d : MV}, VR β h adr v d → VR β h' adr v d
  | _, _, .undef v => .undef v
  | _, _, .none => .none
  | _, _, .bool b => .bool b
  | _, _, .int i t => .int i t
  | _, _, .sym k t => .sym k t
  | _, _, .str t e => .str t e
  | _, _, .list e ha r => .list (k _ _ (fun hm => x.notLst hm e) e) ha (VRs.but x k r)
  | _, _, .ref e => .ref e
theorem VRs.but (x : Wr hb wr h) (k : ∀ b o, b ∉ wr → h.get? b = some o → h'.get? b = some o) : ∀ {vs : List Value} {ds : List MV}, VRs β h adr vs ds → VRs β h' adr vs ds
  | _, _, .nil => .nil
  | _, _, .cons a b => .cons (VR.but x k a) (VRs.but x k b)
end
theorem ERs.but (x : Wr hb wr h) (k : ∀ b o, b ∉ wr → h.get? b = some o → h'.get? b = some o) {es : List DictEntry} {ds : List (Nat × MV)} (r : ERs β h adr es ds) : ERs β h' adr es ds := by
  induction r with
  | nil => exact .nil
  | cons e v _ ih => exact .cons e (v.but x k) ih

theorem KRs.but (x : Wr hb wr h) (k : ∀ b o, b ∉ wr → h.get? b = some o → h'.get? b = some o) {es : List (Str × Value)} {ds : List (Nat × MV)} (r : KRs β h adr es ds) : KRs β h' adr es ds := by
  induction r with
  | nil => exact .nil
  | cons e v _ ih => exact .cons e (v.but x k) ih

theorem Hp.but (x : Wr hb wr h) (k : ∀ b o, b ∉ wr → h.get? b = some o → h'.get? b = some o) {objs : List AObj} (y : Hp hb β fr adr objs h) : Hp hb β fr adr objs h' where
  base := fun b o e => k b o (fun hm => by rw [x.base b hm] at e; cases e) (y.base b o e)
  off := y.off
  low := y.low
  big := y.big
  nodup := y.nodup
  len := y.len
  objs := fun n o e => by
    obtain ⟨a, h1, h2⟩ := y.objs n o e
    have ha : a ∉ wr := fun hm => x.notAdr y hm (List.mem_of_getElem? h1)
    refine ⟨a, h1, ?_⟩
    cases h2 with
    | list e2 r => exact .list (k _ _ ha e2) (r.but x k)
    | attrs e2 r => exact .attrs (k _ _ ha e2) (r.but x k)
    | inst e2 r => exact .inst (k _ _ ha e2) r
    | dict e2 r => exact .dict (fun p => (e2 p).at fun o => k _ o ha) (r.but x k)
  fr := fun e he => by
    obtain ⟨h1, L, m, h2, h3, h4, h5⟩ := y.fr e he
    exact ⟨h1, L, m, h2, h3, h4, h5.at' fun o e => k _ _ (fun hm => x.notNs hm h5) e⟩
theorem cell_at {c : Addr} {u : Option Value} (y : h.IsCell c u) (e : ∀ o, h.get? c = some o → h'.get? c = some o) : h'.IsCell c u := let ⟨o, a, b⟩ := y; ⟨o, e o a, b⟩
theorem Blk.but (x : Wr hb wr h) (k : ∀ b o, b ∉ wr → h.get? b = some o → h'.get? b = some o) {vars : List MV} (y : Blk hb β B adr vars h) : Blk hb β B adr vars h' where
  ns := let ⟨m, hm⟩ := y.ns; ⟨m, hm.at' fun o e => k _ _ (fun q => x.notNs q hm) e⟩
  locW := y.locW
  own := fun a ha => let ⟨h1, h2, h3⟩ := y.own a ha; ⟨h1, h2, h3.elim (fun ⟨m, z⟩ => .inl ⟨m, z.at' fun o e => k _ _ (fun q => x.notNs q z) e⟩) fun ⟨v, z⟩ => .inr ⟨v, cell_at z fun o e => k _ _ (fun q => x.notCell q z) e⟩⟩
  cell := fun n c hc => let ⟨h1, v, h2⟩ := y.cell n c hc; ⟨h1, v, cell_at h2 fun o e => k _ _ (fun q => x.notCell q h2) e⟩
  cellW := y.cellW
  apart := y.apart
  vars := fun i n mv h1 h2 h3 => by
    obtain ⟨v, h4, h5⟩ := y.vars i n mv h1 h2 h3
    refine ⟨v, ?_, h5.but x k⟩
    rcases h4 with ⟨z1, m, z2, z3⟩ | ⟨z1, c, z2, z3⟩
    · exact .inl ⟨z1, m, z2.at' fun o e => k _ _ (fun q => x.notNs q z2) e, z3⟩
    · exact .inr ⟨z1, c, z2, cell_at z3 fun o e => k _ _ (fun q => x.notCell q z3) e⟩
theorem Inv.but (x : Wr hb wr h) (k : ∀ b o, b ∉ wr → h.get? b = some o → h'.get? b = some o) {st : St} (y : Inv hb β B fr adr st h) : Inv hb β B fr adr st h' := ⟨y.hp.but x k, y.blk.but x k⟩

theorem Adv.but {W F adr₀ : List Addr} {ha : Heap} (x : Adv W F adr₀ ha adr h) (hw : ∀ b ∈ wr, ha.get? b = none) (k : ∀ b o, b ∉ wr → h.get? b = some o → h'.get? b = some o) : Adv W F adr₀ ha adr h' := by
  have nw : ∀ b o, ha.get? b = some o → b ∉ wr := fun b o e hm => by rw [hw b hm] at e; cases e
  refine ⟨x.pre, x.new, fun b o e => ?_, fun b o e h1 h2 h3 => k b o (nw b o e) (x.keep b o e h1 h2 h3), fun b o e h1 h2 h3 => ?_⟩
  · obtain ⟨o', e'⟩ := x.alive b o e; exact ⟨o', k b o' (nw b o e) e'⟩
  · obtain ⟨sl, e'⟩ := x.slots b o e h1 h2 h3; exact ⟨sl, k b _ (nw b o e) e'⟩
end

/-- an item that a loop hands to its target -/
inductive Itm where
  | one (m : MV)
  | tup (ms : List MV)

noncomputable def IR (β : Gl) (h : Heap) (adr : List Addr) (v : Value) : Itm → Prop
  | .one m => VR β h adr v m
  | .tup ms => ∃ T vs, v = .ref T ∧ h.IsTuple T vs ∧ VRs β h adr vs.toList ms

/-- how the objects of a loop's iterator go on; `item` tells by the objects that may change what comes at turn i -/
structure KX (prog : Program) (w : World) (hb : Heap) (β : Gl) (A : Around) (target : Expr) (I : Addr) (wr : List Addr) (turn : Nat → List AObj → Option (Option Itm)) (adr₀ : List Addr) (ha : Heap) (Md : Nat → Itm → Value → Heap → List Addr → Prop) (Sti : Nat → Heap → Prop) : Prop where
  self : ∀ i (s : Shared) (Q E : Value → Shared → Prop), Sti i s.heap → Q (.ref I) s → wpAny (model prog w) A (pyIter (.ref I)) Q E s
  frame : ∀ i h h', Sti i h → (∀ b ∈ wr, ∀ o, h.get? b = some o → h'.get? b = some o) → Sti i h'
  obj : ∀ i h, Sti i h → ∀ b ∈ wr, ∃ o, h.get? b = some o ∧ iterObj o = true
  item : ∀ i it adr fr objs (s : Shared) (Q : Option Value → Shared → Prop) (E : Value → Shared → Prop), turn i objs = some (some it) → Sti i s.heap → Hp hb β fr adr objs s.heap → (∀ v m, VR β ha adr₀ v m → VR β s.heap adr v m) →
    (∀ v h' tk, Md i it v h' adr → (∀ b o, b ∉ wr → s.heap.get? b = some o → h'.get? b = some o) → Q (some v) { s with heap := h', toks := tk }) → wpAny (model prog w) A (pyNext (.ref I)) Q E s
  go : ∀ i it v adr (s : Shared) (Q : Unit → Shared → Prop) (E : Value → Shared → Prop), Md i it v s.heap adr →
    (∀ h', IR β h' adr v it → Sti (i + 1) h' → (∀ b o, b ∉ wr → s.heap.get? b = some o → h'.get? b = some o) → Q () { s with heap := h' }) → wpAny (model prog w) A (letOwnedTupleGo target (.ref I) v) Q E s
  mid : ∀ i it v h adr, Md i it v h adr → ∀ b ∈ wr, ∃ o, h.get? b = some o ∧ iterObj o = true
  done : ∀ i adr fr objs (s : Shared) (Q : Option Value → Shared → Prop) (E : Value → Shared → Prop), turn i objs = some none → Sti i s.heap → Hp hb β fr adr objs s.heap → (∀ v m, VR β ha adr₀ v m → VR β s.heap adr v m) →
    (∀ h' tk, (∀ b o, b ∉ wr → s.heap.get? b = some o → h'.get? b = some o) → Q none { s with heap := h', toks := tk }) → wpAny (model prog w) A (pyNext (.ref I)) Q E s

/-- an iterator at its start -/
noncomputable def SrcAt (prog : Program) (w : World) (hb : Heap) (β : Gl) (A : Around) (target : Expr) (item : Nat → List AObj → Option (Option Itm)) (adr₀ : List Addr) (ha : Heap) (it : Value) (h : Heap) : Prop :=
  ∃ I wr Md Sti, it = .ref I ∧ KX prog w hb β A target I wr item adr₀ ha Md Sti ∧ Sti 0 h ∧ (∀ b ∈ wr, ha.get? b = none) ∧ (∀ b o, ha.get? b = some o → h.get? b = some o)

noncomputable abbrev Turns := Nat → List AObj → Option (Option Itm)

section
variable (prog : Program) (w : World) (hb : Heap) (β : Gl) (B : Bk) (r : Nat)
/-- where a loop's items come from -/
structure SrcS (target : Expr) (iter : Expr) (S : St → Option (Turns × St)) : Prop where
  run : ∀ (A : Around) (fr : List Env) (adr : List Addr) (st st' : St) (item : Turns) (s : Shared) (Q : Value → Shared → Prop) (E : Value → Shared → Prop),
    Amb A fr r → Inv hb β B fr adr st s.heap → S st = some (item, st') →
    (∀ (it : Value) (adr' : List Addr) (ha h' : Heap) (tk' : Nat), Inv hb β B fr adr' st' ha → SrcAt prog w hb β A target item adr' ha it h' → Adv B.W (frs fr) adr s.heap adr' ha → Q it { s with heap := h', toks := tk' }) →
    wpAny (model prog w) A (eval iter B.env) (fun xv s₁ => wpAny (model prog w) A (pyIter xv) Q E s₁) E s
/-- an item goes to the target -/
structure TgS (target : Expr) (T : Itm → St → Option St) : Prop where
  run : ∀ (A : Around) (fr : List Env) (adr : List Addr) (st st' : St) (it : Itm) (v : Value) (s : Shared) (Q : Unit → Shared → Prop) (E : Value → Shared → Prop),
    Amb A fr r → Inv hb β B fr adr st s.heap → IR β s.heap adr v it → T it st = some st' →
    (∀ (h' : Heap) (tk' : Nat), Inv hb β B fr adr st' h' → Adv B.W (frs fr) adr s.heap adr h' → Q () { s with heap := h', toks := tk' }) →
    wpAny (model prog w) A (assign target B.env v) Q E s
end

noncomputable def forF (item : Turns) (T : Itm → St → Option St) (Fb : St → Option (Fl × St)) : Nat → Nat → St → Option (Fl × St)
  | 0, _, _ => none
  | k + 1, i, st => match item i st.objs with
    | none => none
    | some none => some (.next, st)
    | some (some it) => match T it st with
      | none => none
      | some st₁ => match Fb st₁ with
        | some (.next, st₂) => forF item T Fb k (i + 1) st₂
        | some (.ret m, st₂) => some (.ret m, st₂)
        | none => none

noncomputable def x_for (S : St → Option (Turns × St)) (T : Itm → St → Option St) (Fb : St → Option (Fl × St)) : St → Option (Fl × St) := bnd S fun item st => forF item T Fb 2000 0 st

section
variable {prog : Program} {w : World} {hb : Heap} {β : Gl} {B : Bk} {r : Nat}

theorem x_for_ok {target iter : Expr} {body : List Stmt} {pos : Pos} {S : St → Option (Turns × St)} {T : Itm → St → Option St} {Fb : St → Option (Fl × St)} (hS : SrcS prog w hb β B r target iter S) (hT : TgS prog w hb β B r target T)
    (hF : ExS prog w hb β B r (execs body B.env) Fb) (hs : ∀ x, foldedSetIterable iter B.env x = pure x) : ExS prog w hb β B r (exec (.For target iter body [] pos) B.env) (x_for S T Fb) := by
  refine ⟨?_⟩
  intro A fr adr st st' m s Q E ha hi e hQ
  obtain ⟨item, st1, e1, e⟩ := bnd_some e
  refine wpAny_For (hS.run A fr adr st st1 item s _ E ha hi e1 fun it adr1 hA h1 tk1 i1 src a1 => ?_) hs
  obtain ⟨I, wr, Md, Sti, rfl, K, hst, hwr, hk⟩ := src
  have nsq := i1.noSeq
  have hwb : ∀ b ∈ wr, hb.get? b = none := fun b hm => by
    cases q : hb.get? b with
    | none => rfl
    | some o => have := i1.hp.base _ _ q; rw [hwr b hm] at this; cases this
  refine codeAny_forLoop_any (R := fun r s' => match r with | .ok f => Q f s' | .error e => cameBackBy (model prog w) A B.env E e s')
    (fun k s' => ∃ h tk adr' st₂ i, s' = { s with heap := h, toks := tk } ∧ Inv hb β B fr adr' st₂ h ∧ Adv B.W (frs fr) adr1 hA adr' h ∧ Sti i h ∧ forF item T Fb k i st₂ = some (m, st')) ?_ 2000
    ⟨h1, tk1, adr1, st1, 0, rfl, i1.keeps hk, .of_keeps hk, hst, e⟩
  rintro k s' ⟨h, tk, adr', st₂, i, rfl, inv, adv, hst', e⟩
  cases k with
  | zero => cases e
  | succ k =>
    have tr : ∀ v m, VR β hA adr1 v m → VR β h adr' v m := fun v m x => x.mono adv nsq
    have wrH : Wr hb wr h := ⟨hwb, K.obj i h hst'⟩
    rw [forF] at e
    split at e
    · cases e
    · rename_i hit
      cases e
      refine K.done i adr' fr _ _ _ _ hit hst' inv.hp tr fun h' tk' kk => ?_
      refine wpAny_execs_nil (hQ .next adr' h' tk' (inv.but wrH kk) trivial (a1.trans (adv.but hwr kk)))
    · rename_i x hit
      split at e
      · cases e
      · rename_i st₃ hT1
        refine K.item i x adr' fr st₂.objs _ _ _ hit hst' inv.hp tr fun v h₁ tk₁ hmd k₁ => ?_
        have inv₁ := inv.but wrH k₁
        have adv₁ := adv.but hwr k₁
        refine K.go i x v adr' _ _ _ hmd fun h₂ hir hst₂ k₂ => ?_
        have wrH₁ : Wr hb wr h₁ := ⟨hwb, K.mid i x v h₁ adr' hmd⟩
        have inv₂ := inv₁.but wrH₁ k₂
        have adv₂ := adv₁.but hwr k₂
        have fpKept : ∀ {adr₁ adr₂ : List Addr} {st : St} {g g' : Heap} {j : Nat}, Inv hb β B fr adr₁ st g → Sti j g → Adv B.W (frs fr) adr₁ g adr₂ g' → Sti j g' := fun iv sj av => K.frame _ _ _ sj fun b hb' o eo => by
          obtain ⟨o', eo', q⟩ := K.obj _ _ sj b hb'
          rw [eo] at eo'; cases eo'
          have w1 : Wr hb wr _ := ⟨hwb, K.obj _ _ sj⟩
          refine av.keep b o eo (fun hm => ?_) (w1.notAdr iv.hp hb') (fun hm => ?_)
          · have := iv.noSeq b (.inl hm) o eo; rw [iter_seq q] at this; cases this
          · have := iv.noSeq b (.inr hm) o eo; rw [iter_seq q] at this; cases this
        refine hT.run A fr adr' st₂ st₃ x v _ _ _ ha inv₂ hir hT1 fun h₃ tk₃ inv₃ a₃ => ?_
        have hst₃ := fpKept inv₂ hst₂ a₃
        split at e
        · rename_i st₄ e4
          refine hF.run A fr adr' st₃ st₄ _ _ _ _ ha inv₃ e4 fun f adr₄ h₄ tk₄ inv₄ r₄ a₄ => ?_
          cases f with
          | next => exact ⟨k, Nat.lt_succ_self k, h₄, tk₄, adr₄, st₄, i + 1, rfl, inv₄, (adv₂.trans a₃).trans a₄, fpKept inv₃ hst₃ a₄, e⟩
          | _ => exact r₄.elim
        · rename_i mm st₄ e4
          cases e
          refine hF.run A fr adr' st₃ _ _ _ _ _ ha inv₃ e4 fun f adr₄ h₄ tk₄ inv₄ r₄ a₄ => ?_
          cases f with
          | ret u => exact hQ _ adr₄ h₄ tk₄ inv₄ r₄ (a1.trans ((adv₂.trans a₃).trans a₄))
          | _ => exact r₄.elim
        · cases e
end
end Mine
end

section
open PySem PySem.W PyProof.Rows PySem.Spec PySem.Calls
set_option maxRecDepth 100000
namespace Mine

theorem ext_keeps {h h' : Heap} (x : Heap.ExtBut h.objs.size h h') : ∀ b o, h.get? b = some o → h'.get? b = some o := fun b o e => x b o (Nat.ne_of_lt (Heap.lt_size e)) e

/-! targets -/
noncomputable def tg_name (i : Nat) (it : Itm) (st : St) : Option St := match it with
  | .one m => some ⟨st.vars.set i m, st.objs⟩
  | _ => none
noncomputable def tgs : List (Itm → St → Option St) → List MV → St → Option St
  | [], [], st => some st
  | T :: Ts, m :: ms, st => match T (.one m) st with
    | some st' => tgs Ts ms st'
    | none => none
  | _, _, _ => none
noncomputable def tg_tup (Ts : List (Itm → St → Option St)) (it : Itm) (st : St) : Option St := match it with
  | .tup ms => tgs Ts ms st
  | .one m => match lookL st.objs m with
    | some ms => tgs Ts ms st
    | none => none

theorem tgs_len : ∀ {Ts : List (Itm → St → Option St)} {ms : List MV} {st st' : St}, tgs Ts ms st = some st' → Ts.length = ms.length
  | [], [], _, _, _ => rfl
  | T :: Ts, m :: ms, st, st', h => by
    rw [tgs] at h
    split at h
    · rw [List.length_cons, List.length_cons, tgs_len h]
    · cases h
  | [], _ :: _, _, _, h => by cases h
  | _ :: _, [], _, _, h => by cases h

section
variable {prog : Program} {w : World} {hb : Heap} {β : Gl} {B : Bk} {r : Nat}

theorem t_name {x : Str} {p : Pos} (i : Nat) (hx : B.ns[i]? = some x) (hd : distinct B.ns i x = true) (hk : kindSt B x = true) (hsk : B.env.scope.kind = .function) : TgS prog w hb β B r (.Name x p) (tg_name i) := by
  refine ⟨?_⟩
  intro A fr adr st st' it v s Q E ha hi hv e hQ
  cases it with
  | one m => cases e; exact wpAny_assign_Name (store_ok hi hv hx hd hk hsk hQ)
  | tup ms => cases e

inductive TgL (prog : Program) (w : World) (hb : Heap) (β : Gl) (B : Bk) (r : Nat) : List Expr → List (Itm → St → Option St) → Prop
  | nil : TgL prog w hb β B r [] []
  | cons {t : Expr} {ts : List Expr} {T : Itm → St → Option St} {Ts : List (Itm → St → Option St)} : TgS prog w hb β B r t T → TgL prog w hb β B r ts Ts → TgL prog w hb β B r (t :: ts) (T :: Ts)

theorem tgL_ok {ts : List Expr} {Ts : List (Itm → St → Option St)} (h : TgL prog w hb β B r ts Ts) : ∀ {A : Around} {fr : List Env} {adr : List Addr} {st st' : St} {ms : List MV} {vs : List Value} {s : Shared} {Q : Unit → Shared → Prop} {E : Value → Shared → Prop},
    Amb A fr r → Inv hb β B fr adr st s.heap → VRs β s.heap adr vs ms → tgs Ts ms st = some st' →
    (∀ (h' : Heap) (tk' : Nat), Inv hb β B fr adr st' h' → Adv B.W (frs fr) adr s.heap adr h' → Q () { s with heap := h', toks := tk' }) →
    wpAny (model prog w) A (assignInOrder (ts.map fun t => assign t B.env) vs) Q E s := by
  induction h with
  | nil =>
    intro A fr adr st st' ms vs s Q E ha hi hv e hQ
    cases ms with
    | nil => cases hv; cases e; exact wpAny_assignInOrder_none (hQ s.heap s.toks hi .refl)
    | cons => cases e
  | cons hT _ ih =>
    intro A fr adr st st' ms vs s Q E ha hi hv e hQ
    cases ms with
    | nil => cases e
    | cons m ms =>
      cases hv with
      | cons h1 h2 =>
        rw [tgs] at e
        split at e
        · rename_i st1 e1
          refine wpAny_assignInOrder_more (hT.run A fr adr st st1 (.one m) _ s _ E ha hi h1 e1 fun h' tk' i' a' => ?_)
          exact ih ha i' (h2.mono a' hi.noSeq) e fun h2 tk2 i2 a2 => hQ h2 tk2 i2 (a'.trans a2)
        · cases e

theorem unpack_ok {elts : List Expr} {k : Nat} {p : Pos} {Ts : List (Itm → St → Option St)} (h : TgL prog w hb β B r elts Ts) (he : (assignEach elts B.env).map (·.2) = elts.map fun t => assign t B.env) (hst : (assignEach elts B.env).findIdx? (·.1) = none)
    (hl : Ts.length = elts.length) : TgS prog w hb β B r (.Tuple elts k p) (tg_tup Ts) := by
  have hlen : (assignEach elts B.env).length = elts.length := by have := congrArg List.length he; simpa using this
  refine ⟨?_⟩
  intro A fr adr st st' it v s Q E ha hi hv e hQ
  cases it with
  | tup ms =>
    obtain ⟨T, vs, rfl, ht, hr⟩ := hv
    have hn : (assignEach elts B.env).length = vs.size := by rw [hlen, ← hl, tgs_len e, ← hr.length, Array.length_toList]
    refine wpAny_assign_Tuple ha.h ht hn hst fun h' hx => ?_
    rw [he]
    have kk := ext_keeps hx
    exact tgL_ok h ha (hi.keeps kk) (hr.keeps kk) e fun h2 tk2 i2 a2 => hQ h2 tk2 i2 ((Adv.of_keeps kk).trans a2)
  | one m =>
    unfold tg_tup at e
    dsimp only at e
    split at e
    · rename_i ms l1
      obtain ⟨a, vs, n, rfl, ho, rs⟩ := lookL_ok hi.hp hv l1
      have hL : s.heap.IsList a vs.toArray := ⟨_, ho, rfl, n, rfl⟩
      have hn : (assignEach elts B.env).length = vs.toArray.size := by rw [hlen, ← hl, tgs_len e, ← rs.length, List.size_toArray]
      rw [arm_assign_Tuple]
      refine wpAny_bind (wpAny_standAt ?_)
      unfold unpack
      rw [hn, hst]
      refine wpAny_bind (wpAny_holding (kun_itemsOf ha.h hL fun h' hx => ?_))
      rw [he]
      have kk := ext_keeps hx
      exact tgL_ok h ha (hi.keeps kk) (rs.keeps kk) e fun h2 tk2 i2 a2 => hQ h2 tk2 i2 ((Adv.of_keeps kk).trans a2)
    · cases e

/-! sources -/
noncomputable def isTarget (t : Expr) : Bool := match t with
  | .Name _ _ => true
  | .Tuple _ _ _ => true
  | _ => false

theorem go_listiter {A : Around} {s : Shared} {Q : Unit → Shared → Prop} {E : Value → Shared → Prop} {target : Expr} (ht : isTarget target = true) {I l : Addr} {i : Nat} {v : Value} (hit : s.heap.IsListIter I l i) (hQ : Q () s) :
    wpAny (model prog w) A (letOwnedTupleGo target (.ref I) v) Q E s := by
  cases target with
  | Name x p => exact wpAny_pure hQ
  | Tuple elts k p =>
    cases v with
    | ref T => exact wpAny_letOwnedTupleGo_listiter hit hQ
    | _ => exact wpAny_pure hQ
  | _ => cases ht

noncomputable def itemL (m : MV) : Turns := fun i objs => match lookL objs m with
  | some xs => match xs[i]? with
    | some x => some (some (.one x))
    | none => some none
  | none => none

theorem kx_list {A : Around} (hh : A.handled = none) {target : Expr} (ht : isTarget target = true) {I : Addr} {l : Addr} {m : MV} {adr₀ : List Addr} {ha : Heap} (hm : VR β ha adr₀ (.ref l) m) :
    KX prog w hb β A target I [I] (itemL m) adr₀ ha (fun i it v h adr => IR β h adr v it ∧ h.IsListIter I l (i + 1)) (fun i h => h.IsListIter I l i) where
  self := fun i s Q E x h => wpAny_pyIter_listiter x h
  frame := fun i h h' x k => let ⟨o, e, r⟩ := x; ⟨o, k I (by simp) o e, r⟩
  obj := fun i h x b hb' => by
    rw [List.mem_singleton] at hb'; subst hb'
    obtain ⟨o, e, _, r⟩ := x
    exact ⟨o, e, by unfold iterObj; rw [r]⟩
  item := fun i it adr fr objs s Q E ht hst hp tr hQ => by
    unfold itemL at ht
    split at ht
    · rename_i xs hl
      split at ht
      · rename_i x hx
        cases ht
        obtain ⟨a, vs, n, e, ho, rs⟩ := lookL_ok hp (tr _ _ hm) hl
        cases e
        obtain ⟨v, hv, rv⟩ := rs.get hx
        have hL : s.heap.IsList l vs.toArray := ⟨_, ho, rfl, n, rfl⟩
        refine wpAny_pyNext_list_item hst hL (by simpa using hv) fun h' hit hs => ?_
        have k : ∀ b o, b ∉ [I] → s.heap.get? b = some o → h'.get? b = some o := fun b o hb' eo => (hs.2 b (by simpa using hb')).trans eo
        have wr : Wr {} [I] s.heap := ⟨fun _ _ => rfl, fun b hb' => by
          rw [List.mem_singleton] at hb'; subst hb'
          obtain ⟨o, e, _, r⟩ := hst
          exact ⟨o, e, by unfold iterObj; rw [r]⟩⟩
        exact hQ v h' s.toks ⟨rv.but wr k, hit⟩ k
      · cases ht
    · cases ht
  go := fun i it v adr s Q E hm hQ => go_listiter ht hm.2 (hQ s.heap hm.1 hm.2 fun _ _ _ e => e)
  mid := fun i it v h adr hm b hb' => by
    rw [List.mem_singleton] at hb'; subst hb'
    obtain ⟨o, e, _, r⟩ := hm.2
    exact ⟨o, e, by unfold iterObj; rw [r]⟩
  done := fun i adr fr objs s Q E ht hst hp tr hQ => by
    unfold itemL at ht
    split at ht
    · rename_i xs hl
      split at ht
      · cases ht
      · rename_i hx
        obtain ⟨a, vs, n, e, ho, rs⟩ := lookL_ok hp (tr _ _ hm) hl
        cases e
        have hL : s.heap.IsList l vs.toArray := ⟨_, ho, rfl, n, rfl⟩
        have hn : vs.toArray[i]? = none := by
          rw [List.getElem?_toArray]
          rw [List.getElem?_eq_none_iff] at hx ⊢
          rw [rs.length]; exact hx
        exact wpAny_pyNext_list_end hh hst hL hn fun h' hx => hQ h' s.toks fun b o hb' eo => hx b o (by simpa using hb') eo
    · cases ht

noncomputable def s_list (F : St → Option (MV × St)) : St → Option (Turns × St) := bnd F fun m st => match lookL st.objs m with
  | some _ => some (itemL m, st)
  | none => none

theorem ref_of_look {β : Gl} {h : Heap} {adr : List Addr} {objs : List AObj} {v : Value} {m : MV} {xs : List MV} {fr : List Env} (hp : Hp hb β fr adr objs h) (r : VR β h adr v m) (e : lookL objs m = some xs) : ∃ l vs n, v = .ref l ∧ h.get? l = some (listOf vs.toArray n) ∧ VRs β h adr vs xs := lookL_ok hp r e

theorem src_list {target iter : Expr} {F : St → Option (MV × St)} (ht : isTarget target = true) (hF : EvS prog w hb β B r (eval iter B.env) F) : SrcS prog w hb β B r target iter (s_list F) := by
  refine ⟨?_⟩
  intro A fr adr st st' item s Q E ha hi e hQ
  obtain ⟨m, st1, e1, e⟩ := bnd_some e
  split at e
  · rename_i xs hl
    cases e
    refine hF.run A fr adr st _ m s _ E ha hi e1 fun v adr1 h1 tk1 i1 r1 a1 => ?_
    obtain ⟨l, vs, n, rfl, ho, rs⟩ := lookL_ok i1.hp r1 hl
    have hL : h1.IsList l vs.toArray := ⟨_, ho, rfl, n, rfl⟩
    refine wpAny_pyIter_list (s := { s with heap := h1, toks := tk1 }) hL ?_
    refine hQ _ adr1 h1 _ tk1 i1 ⟨_, _, _, _, rfl, kx_list ha.h ht r1, ⟨_, push_size, rfl, rfl⟩, fun b hb' => ?_, push_keeps⟩ a1
    rw [List.mem_singleton] at hb'; subst hb'
    exact fresh_none
  · cases e
end
end Mine
end

section
open PySem PySem.W PyProof.Rows PySem.Spec PySem.Calls
set_option maxRecDepth 100000
namespace Mine

noncomputable def itemE (m : MV) : Turns := fun i objs => match lookL objs m with
  | some xs => match xs[i]? with
    | some x => some (some (.tup [.int i, x]))
    | none => some none
  | none => none
noncomputable def itemZ (m m' : MV) : Turns := fun i objs => match lookL objs m, lookL objs m' with
  | some xs, some ys => match xs[i]?, ys[i]? with
    | some x, some y => some (some (.tup [x, y]))
    | _, _ => some none
  | _, _ => none

theorem iter_fields {o : Obj} {vs : Array Value} (h : o.data = .fields vs) : iterObj o = true := by unfold iterObj; rw [h]

section
variable {prog : Program} {w : World} {hb : Heap} {β : Gl} {B : Bk} {r : Nat}

theorem lst_at {fr : List Env} {adr : List Addr} {objs : List AObj} {h : Heap} {l : Addr} {m : MV} {xs : List MV} (hp : Hp hb β fr adr objs h) (r : VR β h adr (.ref l) m) (e : lookL objs m = some xs) : ∃ vs, h.IsList l vs.toArray ∧ VRs β h adr vs xs ∧ (∃ n, h.get? l = some (listOf vs.toArray n)) := by
  obtain ⟨a, vs, n, e, ho, rs⟩ := lookL_ok hp r e
  cases e
  exact ⟨vs, ⟨_, ho, rfl, n, rfl⟩, rs, n, ho⟩

theorem kx_enum {A : Around} (hh : A.handled = none) {elts : List Expr} {kk : Nat} {pos : Pos} {e it : Addr} (hei : e ≠ it) {l : Addr} {m : MV} {adr₀ : List Addr} {ha : Heap} (hm : VR β ha adr₀ (.ref l) m) :
    KX prog w hb β A (.Tuple elts kk pos) e [e, it] (itemE m) adr₀ ha
      (fun i x v h adr => ∃ T vs ms u, v = .ref T ∧ x = .tup ms ∧ h.IsTuple T vs ∧ VRs β h adr vs.toList ms ∧ IsEnumOut h e it ((i : Int) + 1) u T ∧ h.IsListIter it l (i + 1))
      (fun i h => (∃ old, IsEnum h e it i old) ∧ h.IsListIter it l i) where
  self := fun i s Q E x h => let ⟨⟨_, y⟩, _⟩ := x; wpAny_pyIter_enum y h
  frame := fun i h h' x k => by
    obtain ⟨⟨old, a⟩, o, b, c⟩ := x
    exact ⟨⟨old, k e (by simp) _ a⟩, o, k it (by simp) o b, c⟩
  obj := fun i h x b hb' => by
    obtain ⟨⟨old, a⟩, o, b', _, c⟩ := x
    rcases List.mem_cons.mp hb' with rfl | hb'
    · exact ⟨_, a, rfl⟩
    · rw [List.mem_singleton] at hb'; subst hb'; exact ⟨o, b', iter_fields c⟩
  item := fun i x adr fr objs s Q E ht hst hp tr hQ => by
    unfold itemE at ht
    split at ht
    · rename_i xs hl
      split at ht
      · rename_i x hx
        cases ht
        obtain ⟨vs, hL, rs, n, ho⟩ := lst_at hp (tr _ _ hm) hl
        obtain ⟨v, hv, rv⟩ := rs.get hx
        obtain ⟨⟨old, he⟩, hit⟩ := hst
        have wr : Wr {} [e, it] s.heap := ⟨fun _ _ => rfl, fun b hb' => by
          rcases List.mem_cons.mp hb' with rfl | hb'
          · exact ⟨_, he, rfl⟩
          · rw [List.mem_singleton] at hb'; subst hb'
            obtain ⟨o, a, _, c⟩ := hit
            exact ⟨o, a, iter_fields c⟩⟩
        refine wpAny_pyNext_enum_item he hit hL (x := v) (by simpa using hv) hei fun h' ho' hit' hT hsz k => ?_
        have k' : ∀ b o, b ∉ [e, it] → s.heap.get? b = some o → h'.get? b = some o := fun b o hb' eo => k b o (fun q => hb' (by simp [q])) (fun q => hb' (by simp [q])) eo
        exact hQ _ h' _ ⟨_, #[.int i s.toks, v], _, _, rfl, rfl, ⟨_, hT, rfl, _, rfl⟩, .cons (.int _ _) (.cons (rv.but wr k') .nil), ho', hit'⟩ k'
      · cases ht
    · cases ht
  go := fun i x v adr s Q E hm hQ => by
    obtain ⟨T, vs, ms, u, rfl, rfl, hT, rs, ho, hit⟩ := hm
    have wr : Wr {} [e] s.heap := ⟨fun _ _ => rfl, fun b hb' => by rw [List.mem_singleton] at hb'; subst hb'; exact ⟨_, ho, rfl⟩⟩
    refine wpAny_letOwnedTupleGo_enum ho fun h' he' hs' => ?_
    have k1 : ∀ b o, b ∉ [e] → s.heap.get? b = some o → h'.get? b = some o := fun b o hb' eo => (hs'.2 b (by simpa using hb')).trans eo
    have hTe : T ≠ e := by
      rintro rfl
      obtain ⟨o, e1, e2, _⟩ := hT
      rw [ho] at e1; cases e1; simp at e2
    refine hQ h' ⟨T, vs, rfl, ?_, rs.but wr k1⟩ ⟨⟨u, by simpa using he'⟩, ?_⟩ fun b o hb' eo => k1 b o (fun q => hb' (by simp at q; simp [q])) eo
    · obtain ⟨o, e1, r⟩ := hT; exact ⟨o, k1 T o (by simpa using hTe) e1, r⟩
    · obtain ⟨o, e1, r⟩ := hit; exact ⟨o, k1 it o (by simpa using Ne.symm hei) e1, r⟩
  mid := fun i x v h adr hm b hb' => by
    obtain ⟨T, vs, ms, u, rfl, rfl, hT, rs, ho, o, b', _, c⟩ := hm
    rcases List.mem_cons.mp hb' with rfl | hb'
    · exact ⟨_, ho, rfl⟩
    · rw [List.mem_singleton] at hb'; subst hb'; exact ⟨o, b', iter_fields c⟩
  done := fun i adr fr objs s Q E ht hst hp tr hQ => by
    unfold itemE at ht
    split at ht
    · rename_i xs hl
      split at ht
      · cases ht
      · rename_i hx
        obtain ⟨vs, hL, rs, n, ho⟩ := lst_at hp (tr _ _ hm) hl
        obtain ⟨⟨old, he⟩, hit⟩ := hst
        have hn : vs.toArray[i]? = none := by
          rw [List.getElem?_toArray]
          rw [List.getElem?_eq_none_iff] at hx ⊢
          rw [rs.length]; exact hx
        exact wpAny_pyNext_enum_end hh he hit hL hn fun h' hx => hQ h' s.toks fun b o hb' eo => hx b o (fun q => hb' (by simp [q])) eo
    · cases ht

theorem kx_zip {A : Around} (hh : A.handled = none) {elts : List Expr} {kk : Nat} {pos : Pos} {z TI TO i1 i2 l1 l2 : Addr} (D : ZipApart z TI TO i1 i2 l1 l2) {m m' : MV} {adr₀ : List Addr} {ha : Heap} (hm : VR β ha adr₀ (.ref l1) m) (hm' : VR β ha adr₀ (.ref l2) m') :
    KX prog w hb β A (.Tuple elts kk pos) z [z, TI, TO, i1, i2] (itemZ m m') adr₀ ha
      (fun i x v h adr => ∃ T vs ms, v = .ref T ∧ x = .tup ms ∧ T ≠ z ∧ h.IsTuple T vs ∧ VRs β h adr vs.toList ms ∧ IsZip h z TI TO (rawInt T) ∧ IsPair h TI (.ref i1) (.ref i2) ∧ (∃ a b, IsPair h TO a b) ∧ h.IsListIter i1 l1 (i + 1) ∧ h.IsListIter i2 l2 (i + 1))
      (fun i h => IsZip h z TI TO .none ∧ IsPair h TI (.ref i1) (.ref i2) ∧ (∃ a b, IsPair h TO a b) ∧ h.IsListIter i1 l1 i ∧ h.IsListIter i2 l2 i) where
  self := fun i s Q E x h => wpAny_pyIter_zip x.1 h
  frame := fun i h h' x k => by
    obtain ⟨hz, hTI, ⟨a, b, hTO⟩, ⟨o1, p1, q1⟩, ⟨o2, p2, q2⟩⟩ := x
    exact ⟨k z (by simp) _ hz, k TI (by simp) _ hTI, ⟨a, b, k TO (by simp) _ hTO⟩, ⟨o1, k i1 (by simp) _ p1, q1⟩, ⟨o2, k i2 (by simp) _ p2, q2⟩⟩
  obj := fun i h x b hb' => by
    obtain ⟨hz, hTI, ⟨a, b, hTO⟩, ⟨o1, p1, _, q1⟩, ⟨o2, p2, _, q2⟩⟩ := x
    simp only [List.mem_cons, List.not_mem_nil, or_false] at hb'
    rcases hb' with rfl | rfl | rfl | rfl | rfl
    · exact ⟨_, hz, rfl⟩
    · exact ⟨_, hTI, rfl⟩
    · exact ⟨_, hTO, rfl⟩
    · exact ⟨_, p1, iter_fields q1⟩
    · exact ⟨_, p2, iter_fields q2⟩
  item := fun i x adr fr objs s Q E ht hst hp tr hQ => by
    unfold itemZ at ht
    split at ht
    · rename_i xs ys hl hl'
      split at ht
      · rename_i x y hx hy
        cases ht
        obtain ⟨vs, hL, rs, n, ho⟩ := lst_at hp (tr _ _ hm) hl
        obtain ⟨us, hL', rs', n', ho'⟩ := lst_at hp (tr _ _ hm') hl'
        obtain ⟨v, hv, rv⟩ := rs.get hx
        obtain ⟨u, hu, ru⟩ := rs'.get hy
        obtain ⟨hz, hTI, ⟨a, b, hTO⟩, h1, h2⟩ := hst
        have wr : Wr {} [z, TI, TO, i1, i2] s.heap := ⟨fun _ _ => rfl, fun b hb' => by
          obtain ⟨o1, p1, _, q1⟩ := h1
          obtain ⟨o2, p2, _, q2⟩ := h2
          simp only [List.mem_cons, List.not_mem_nil, or_false] at hb'
          rcases hb' with rfl | rfl | rfl | rfl | rfl
          · exact ⟨_, hz, rfl⟩
          · exact ⟨_, hTI, rfl⟩
          · exact ⟨_, hTO, rfl⟩
          · exact ⟨_, p1, iter_fields q1⟩
          · exact ⟨_, p2, iter_fields q2⟩⟩
        refine wpAny_pyNext_zip_item D hz hTI hTO h1 h2 hL hL' (x := v) (y := u) (by simpa using hv) (by simpa using hu) fun h' a1 a2 a3 a4 a5 a6 k => ?_
        have k' : ∀ b o, b ∉ [z, TI, TO, i1, i2] → s.heap.get? b = some o → h'.get? b = some o := fun b o hb' eo => k b o (fun q => hb' (by simp [q])) (fun q => hb' (by simp [q])) (fun q => hb' (by simp [q])) (fun q => hb' (by simp [q])) eo
        have hTI' : IsPair h' TI (.ref i1) (.ref i2) := k _ _ D.TIz D.TITO D.TIi1 D.TIi2 hTI
        exact hQ _ h' s.toks ⟨_, #[v, u], _, rfl, rfl, Nat.ne_of_gt (Heap.lt_size hz), ⟨_, a5, rfl, _, rfl⟩, .cons (rv.but wr k') (.cons (ru.but wr k') .nil), a1, hTI', ⟨_, _, a2⟩, a3, a4⟩ k'
      · cases ht
    · cases ht
  go := fun i x v adr s Q E hm hQ => by
    obtain ⟨T, vs, ms, rfl, rfl, hTz, hT, rs, hz, hTI, ⟨a, b, hTO⟩, ⟨o1, p1, q1⟩, ⟨o2, p2, q2⟩⟩ := hm
    have wr : Wr {} [z] s.heap := ⟨fun _ _ => rfl, fun b hb' => by rw [List.mem_singleton] at hb'; subst hb'; exact ⟨_, hz, rfl⟩⟩
    refine wpAny_letOwnedTupleGo_zip hz fun h' he' hs' => ?_
    have k1 : ∀ b o, b ∉ [z] → s.heap.get? b = some o → h'.get? b = some o := fun b o hb' eo => (hs'.2 b (by simpa using hb')).trans eo
    refine hQ h' ⟨T, vs, rfl, ?_, rs.but wr k1⟩ ⟨he', k1 _ _ (by simpa using D.TIz) hTI, ⟨a, b, k1 _ _ (by simpa using D.TOz) hTO⟩, ⟨o1, k1 _ _ (by simpa using D.i1z) p1, q1⟩, ⟨o2, k1 _ _ (by simpa using D.i2z) p2, q2⟩⟩
      fun b o hb' eo => k1 b o (fun q => hb' (by simp at q; simp [q])) eo
    obtain ⟨o, e1, r⟩ := hT; exact ⟨o, k1 T o (by simpa using hTz) e1, r⟩
  mid := fun i x v h adr hm b hb' => by
    obtain ⟨T, vs, ms, rfl, rfl, hTz, hT, rs, hz, hTI, ⟨a, b, hTO⟩, ⟨o1, p1, _, q1⟩, ⟨o2, p2, _, q2⟩⟩ := hm
    simp only [List.mem_cons, List.not_mem_nil, or_false] at hb'
    rcases hb' with rfl | rfl | rfl | rfl | rfl
    · exact ⟨_, hz, rfl⟩
    · exact ⟨_, hTI, rfl⟩
    · exact ⟨_, hTO, rfl⟩
    · exact ⟨_, p1, iter_fields q1⟩
    · exact ⟨_, p2, iter_fields q2⟩
  done := fun i adr fr objs s Q E ht hst hp tr hQ => by
    unfold itemZ at ht
    split at ht
    · rename_i xs ys hl hl'
      split at ht
      · cases ht
      · rename_i hxy
        obtain ⟨vs, hL, rs, n, ho⟩ := lst_at hp (tr _ _ hm) hl
        obtain ⟨us, hL', rs', n', ho'⟩ := lst_at hp (tr _ _ hm') hl'
        obtain ⟨hz, hTI, ⟨a, b, hTO⟩, h1, h2⟩ := hst
        have hn : vs.toArray[i]? = none ∨ us.toArray[i]? = none := by
          rw [List.getElem?_toArray, List.getElem?_toArray, List.getElem?_eq_none_iff, List.getElem?_eq_none_iff, rs.length, rs'.length]
          rcases Nat.lt_or_ge i xs.length with q | q
          · rcases Nat.lt_or_ge i ys.length with q' | q'
            · exact (hxy _ _ (List.getElem?_eq_getElem q) (List.getElem?_eq_getElem q')).elim
            · exact .inr q'
          · exact .inl q
        exact wpAny_pyNext_zip_end hh D hz hTI hTO h1 h2 hL hL' hn fun h' k => hQ h' s.toks fun b o hb' eo => k b o (fun q => hb' (by simp [q])) (fun q => hb' (by simp [q])) (fun q => hb' (by simp [q])) (fun q => hb' (by simp [q])) eo
    · cases ht
end
end Mine
end

section
open PySem PySem.W PyProof.Rows PySem.Spec PySem.Calls
set_option maxRecDepth 100000
namespace Mine

noncomputable def itemR (xs : List MV) : Turns := fun i _ => match xs.reverse[i]? with
  | some x => some (some (.one x))
  | none => some none
noncomputable def itemG (a c : Int) (n : Nat) : Turns := fun i _ => if Nat.blt i n then some (some (.one (.int (a + (i : Int) * c)))) else some none

section
variable {prog : Program} {w : World} {hb : Heap} {β : Gl} {B : Bk} {r : Nat}

theorem list_noElem {vs : List Value} {ds : List MV} {β : Gl} {h : Heap} {adr : List Addr} (rs : VRs β h adr vs ds) : vs.reverse.length = ds.reverse.length := by rw [List.length_reverse, List.length_reverse, rs.length]

theorem kx_rev {A : Around} (hh : A.handled = none) {x : Str} {p : Pos} {I l : Addr} {xs : List MV} {adr₀ : List Addr} {ha : Heap} (hm : VR β ha adr₀ (.ref l) (.list xs)) :
    KX prog w hb β A (.Name x p) I [I] (itemR xs) adr₀ ha (fun i it v h adr => IR β h adr v it ∧ i < xs.length ∧ h.IsRevIter I l ((xs.length : Int) - 1 - ((i + 1 : Nat) : Int))) (fun i h => i ≤ xs.length ∧ h.IsRevIter I l ((xs.length : Int) - 1 - (i : Int))) where
  self := fun i s Q E x h => wpAny_pyIter_revIter x.2 h
  frame := fun i h h' x k => let ⟨q, o, e, r⟩ := x; ⟨q, o, k I (by simp) o e, r⟩
  obj := fun i h x b hb' => by
    rw [List.mem_singleton] at hb'; subst hb'
    obtain ⟨_, o, e, _, r⟩ := x
    exact ⟨o, e, iter_fields r⟩
  item := fun i it adr fr objs s Q E ht hst hp tr hQ => by
    unfold itemR at ht
    split at ht
    · rename_i x hx
      cases ht
      obtain ⟨vs, hL, rs, n, ho⟩ := lst_at hp (tr _ _ hm) (xs := xs) rfl
      have hi : i < xs.length := by
        rcases Nat.lt_or_ge i xs.reverse.length with q | q
        · simpa using q
        · rw [List.getElem?_eq_none q] at hx; cases hx
      have hx' : xs[xs.length - 1 - i]? = some x := by
        rw [List.getElem?_reverse (by simpa using hi)] at hx; exact hx
      obtain ⟨v, hv, rv⟩ := rs.get hx'
      obtain ⟨_, hit⟩ := hst
      have e1 : (xs.length : Int) - 1 - (i : Int) = ((xs.length - 1 - i : Nat) : Int) := by omega
      have hit0 := hit
      rw [e1] at hit
      refine wpAny_pyNext_rev_item hit hL (x := v) (by simpa using hv) fun h' hit' hs => ?_
      have k : ∀ b o, b ∉ [I] → s.heap.get? b = some o → h'.get? b = some o := fun b o hb' eo => (hs.2 b (by simpa using hb')).trans eo
      have wr : Wr {} [I] s.heap := ⟨fun _ _ => rfl, fun b hb' => by
        rw [List.mem_singleton] at hb'; subst hb'
        obtain ⟨o, e, _, r⟩ := hit0
        exact ⟨o, e, iter_fields r⟩⟩
      have e2 : ((xs.length - 1 - i : Nat) : Int) - 1 = (xs.length : Int) - 1 - ((i + 1 : Nat) : Int) := by omega
      rw [e2] at hit'
      exact hQ v h' s.toks ⟨rv.but wr k, hi, hit'⟩ k
    · cases ht
  go := fun i it v adr s Q E hm hQ => wpAny_pure (hQ s.heap hm.1 ⟨hm.2.1, hm.2.2⟩ fun _ _ _ e => e)
  mid := fun i it v h adr hm b hb' => by
    rw [List.mem_singleton] at hb'; subst hb'
    obtain ⟨o, e, _, r⟩ := hm.2.2
    exact ⟨o, e, iter_fields r⟩
  done := fun i adr fr objs s Q E ht hst hp tr hQ => by
    unfold itemR at ht
    split at ht
    · cases ht
    · rename_i hx
      have hi : xs.length ≤ i := by
        rw [List.getElem?_eq_none_iff, List.length_reverse] at hx; exact hx
      obtain ⟨hle, hit⟩ := hst
      have e1 : (xs.length : Int) - 1 - (i : Int) = -1 := by omega
      rw [e1] at hit
      exact wpAny_pyNext_rev_end hh hit fun h' hx => hQ h' s.toks fun b o hb' eo => hx b o (by simpa using hb') eo

theorem kx_range {A : Around} (hh : A.handled = none) {x : Str} {p : Pos} {I : Addr} {a c : Int} {n : Nat} {adr₀ : List Addr} {ha : Heap} :
    KX prog w hb β A (.Name x p) I [I] (itemG a c n) adr₀ ha (fun i it v h adr => IR β h adr v it ∧ i < n ∧ IsRangeIter h I (a + ((i + 1 : Nat) : Int) * c) ((n : Int) - ((i + 1 : Nat) : Int)) c) (fun i h => i ≤ n ∧ IsRangeIter h I (a + (i : Int) * c) ((n : Int) - (i : Int)) c) where
  self := fun i s Q E x h => wpAny_pyIter_rangeiter x.2 h
  frame := fun i h h' x k => ⟨x.1, k I (by simp) _ x.2⟩
  obj := fun i h x b hb' => by
    rw [List.mem_singleton] at hb'; subst hb'
    exact ⟨_, x.2, rfl⟩
  item := fun i it adr fr objs s Q E ht hst hp tr hQ => by
    unfold itemG at ht
    split at ht
    · rename_i hc
      cases ht
      have hi : i < n := Nat.le_of_ble_eq_true hc
      refine wpAny_pyNext_range_item hst.2 (by omega) fun h' hit hs => ?_
      have e1 : a + ((i + 1 : Nat) : Int) * c = a + (i : Int) * c + c := by push_cast; rw [Int.add_mul, Int.one_mul, Int.add_assoc]
      have e2 : (n : Int) - ((i + 1 : Nat) : Int) = (n : Int) - (i : Int) - 1 := by push_cast; omega
      exact hQ _ h' _ ⟨.int _ _, hi, by rw [e1, e2]; exact hit⟩ fun b o hb' eo => (hs.2 b (by simpa using hb')).trans eo
    · cases ht
  go := fun i it v adr s Q E hm hQ => wpAny_pure (hQ s.heap hm.1 ⟨hm.2.1, hm.2.2⟩ fun _ _ _ e => e)
  mid := fun i it v h adr hm b hb' => by
    rw [List.mem_singleton] at hb'; subst hb'
    exact ⟨_, hm.2.2, rfl⟩
  done := fun i adr fr objs s Q E ht hst hp tr hQ => by
    unfold itemG at ht
    split at ht
    · cases ht
    · rename_i hc
      have hi : n ≤ i := by
        rcases Nat.lt_or_ge i n with q | q
        · exact absurd (Nat.ble_eq_true_of_le q) hc
        · exact q
      exact wpAny_pyNext_range_end hh hst.2 (by omega) fun h' hx => hQ h' s.toks fun b o hb' eo => hx b o (by simpa using hb') eo

/-- the arguments of a call by name, evaluated -/
theorem call_args {x : Str} {p pos : Pos} {args : List Expr} {f : Value} {G : St → Option (List MV × St)} (hn : NameG prog w hb B x f) (hk : KeptBy prog w hb f) (hG : EsS prog w hb β B r (spliced (backTo pos (starEach args B.env))) G)
    (hs : (backTo pos (starEach args B.env)).any (·.1) = false) (he : ∀ (M : Model) (A : Around) (E : Value → Shared → Prop) (s : Shared) (Q : Args → Shared → Prop), wpAny M A (spliced (backTo pos (starEach args B.env))) (fun vs s₁ => Q ⟨vs, []⟩ s₁) E s → wpAny M A (evalArgs f true (backTo pos (starEach args B.env)) []) Q E s)
    {A : Around} {fr : List Env} {adr : List Addr} {st st1 : St} {ms : List MV} {s : Shared} {Q E : Value → Shared → Prop} (ha : Amb A fr r) (hi : Inv hb β B fr adr st s.heap) (e1 : G st = some (ms, st1))
    (hQ : ∀ (vs : List Value) (adr' : List Addr) (h' : Heap) (tk' : Nat), Inv hb β B fr adr' st1 h' → VRs β h' adr' vs ms → Adv B.W (frs fr) adr s.heap adr' h' → wpAny (model prog w) A (call f vs) Q E { s with heap := h', toks := tk' }) :
    wpAny (model prog w) A (eval (.Call (.Name x p) args [] pos) B.env) Q E s := by
  refine Call_ (hn A p s _ E hi.hp.base ?_)
  refine callWith_of (P := fun h => ∀ b o, hb.get? b = some o → h.get? b = some o) (by rw [hs]; rfl) hk (he _ _ _ _ _ ?_)
  exact hG.run A fr adr st st1 ms s _ E ha hi e1 fun vs adr1 h1 tk1 i1 r1 a1 => ⟨i1.hp.base, hQ vs adr1 h1 tk1 i1 r1 a1⟩

noncomputable def s_enum (G : St → Option (List MV × St)) : St → Option (Turns × St) := bnd G fun ms st => match ms with
  | [m] => match lookL st.objs m with
    | some _ => some (itemE m, st)
    | none => none
  | _ => none
theorem src_enum {elts : List Expr} {kk : Nat} {tp : Pos} {x : Str} {p pos : Pos} {args : List Expr} {G : St → Option (List MV × St)} (hn : NameG prog w hb B x (.type "enumerate")) (hG : EsS prog w hb β B r (spliced (backTo pos (starEach args B.env))) G)
    (hs : (backTo pos (starEach args B.env)).any (·.1) = false) (he : ∀ (M : Model) (A : Around) (E : Value → Shared → Prop) (s : Shared) (Q : Args → Shared → Prop), wpAny M A (spliced (backTo pos (starEach args B.env))) (fun vs s₁ => Q ⟨vs, []⟩ s₁) E s → wpAny M A (evalArgs (.type "enumerate") true (backTo pos (starEach args B.env)) []) Q E s) :
    SrcS prog w hb β B r (.Tuple elts kk tp) (.Call (.Name x p) args [] pos) (s_enum G) := by
  refine ⟨?_⟩
  intro A fr adr st st' item s Q E ha hi e hQ
  obtain ⟨ms, st1, e1, e⟩ := bnd_some e
  split at e
  · rename_i m
    split at e
    · rename_i xs hl
      cases e
      refine call_args hn kept_type hG hs he ha hi e1 fun vs adr1 h1 tk1 i1 r1 a1 => ?_
      cases r1 with
      | cons rv rn =>
        cases rn
        obtain ⟨l, us, n, rfl, ho, rs⟩ := lookL_ok i1.hp rv hl
        have hL : h1.IsList l us.toArray := ⟨_, ho, rfl, n, rfl⟩
        refine call_enumerate_list (s := { s with heap := h1, toks := tk1 }) hL fun h' he' hit hsz kk => ?_
        refine wpAny_pyIter_enum he' ?_
        refine hQ _ adr1 h1 h' tk1 i1 ⟨_, _, _, _, rfl, kx_enum ha.h (by show h1.objs.size + 1 ≠ h1.objs.size; omega) rv, ⟨⟨_, he'⟩, hit⟩, fun b hb' => ?_, kk⟩ a1
        have hge : h1.objs.size ≤ b := by
          simp only [List.mem_cons, List.not_mem_nil, or_false] at hb'
          rcases hb' with rfl | rfl
          · exact Nat.le_succ _
          · exact Nat.le_refl _
        cases q : h1.get? b with
        | none => rfl
        | some o => exact absurd (Heap.lt_size q) (Nat.not_lt.mpr hge)
    · cases e
  · cases e

theorem zip_apart {n l l' : Nat} (h : l < n) (h' : l' < n) : ZipApart (n + 4) (n + 2) (n + 3) n (n + 1) l l' := by
  constructor
  all_goals (intro (e : (_ : Nat) = _); omega)

noncomputable def s_zip (G : St → Option (List MV × St)) : St → Option (Turns × St) := bnd G fun ms st => match ms with
  | [m, m'] => match lookL st.objs m, lookL st.objs m' with
    | some _, some _ => some (itemZ m m', st)
    | _, _ => none
  | _ => none
theorem src_zip {elts : List Expr} {kk : Nat} {tp : Pos} {x : Str} {p pos : Pos} {args : List Expr} {G : St → Option (List MV × St)} (hn : NameG prog w hb B x (.type "zip")) (hG : EsS prog w hb β B r (spliced (backTo pos (starEach args B.env))) G)
    (hs : (backTo pos (starEach args B.env)).any (·.1) = false) (he : ∀ (M : Model) (A : Around) (E : Value → Shared → Prop) (s : Shared) (Q : Args → Shared → Prop), wpAny M A (spliced (backTo pos (starEach args B.env))) (fun vs s₁ => Q ⟨vs, []⟩ s₁) E s → wpAny M A (evalArgs (.type "zip") true (backTo pos (starEach args B.env)) []) Q E s) :
    SrcS prog w hb β B r (.Tuple elts kk tp) (.Call (.Name x p) args [] pos) (s_zip G) := by
  refine ⟨?_⟩
  intro A fr adr st st' item s Q E ha hi e hQ
  obtain ⟨ms, st1, e1, e⟩ := bnd_some e
  split at e
  · rename_i m m'
    split at e
    · rename_i xs ys hl hl'
      cases e
      refine call_args hn kept_type hG hs he ha hi e1 fun vs adr1 h1 tk1 i1 r1 a1 => ?_
      cases r1 with
      | cons rv rn =>
        cases rn with
        | cons rv' rn =>
        cases rn
        obtain ⟨l, us, n, rfl, ho, rs⟩ := lookL_ok i1.hp rv hl
        obtain ⟨l', us', n', rfl, ho', rs'⟩ := lookL_ok i1.hp rv' hl'
        have hL : h1.IsList l us.toArray := ⟨_, ho, rfl, n, rfl⟩
        have hL' : h1.IsList l' us'.toArray := ⟨_, ho', rfl, n', rfl⟩
        have lt := Heap.lt_size ho
        have lt' := Heap.lt_size ho'
        refine call_zip_2 (s := { s with heap := h1, toks := tk1 }) hL hL' fun h' hz hTI hTO hi1 hi2 hsz kk => ?_
        refine wpAny_pyIter_zip hz ?_
        have D := zip_apart lt lt'
        refine hQ _ adr1 h1 h' tk1 i1 ⟨_, _, _, _, rfl, kx_zip ha.h D rv rv', ⟨hz, hTI, ⟨_, _, hTO⟩, hi1, hi2⟩, fun b hb' => ?_, kk⟩ a1
        have hge : h1.objs.size ≤ b := by
          simp only [List.mem_cons, List.not_mem_nil, or_false] at hb'
          rcases hb' with rfl | rfl | rfl | rfl | rfl <;> first | exact Nat.le_refl _ | exact Nat.le_add_right _ _
        cases q : h1.get? b with
        | none => rfl
        | some o => exact absurd (Heap.lt_size q) (Nat.not_lt.mpr hge)
    · cases e
  · cases e

noncomputable def s_rev (G : St → Option (List MV × St)) : St → Option (Turns × St) := bnd G fun ms st => match ms with
  | [.list xs] => some (itemR xs, st)
  | _ => none
theorem src_rev {y : Str} {tp : Pos} {x : Str} {p pos : Pos} {args : List Expr} {G : St → Option (List MV × St)} (hn : NameG prog w hb B x (.type "reversed")) (hG : EsS prog w hb β B r (spliced (backTo pos (starEach args B.env))) G)
    (hs : (backTo pos (starEach args B.env)).any (·.1) = false) (he : ∀ (M : Model) (A : Around) (E : Value → Shared → Prop) (s : Shared) (Q : Args → Shared → Prop), wpAny M A (spliced (backTo pos (starEach args B.env))) (fun vs s₁ => Q ⟨vs, []⟩ s₁) E s → wpAny M A (evalArgs (.type "reversed") true (backTo pos (starEach args B.env)) []) Q E s) :
    SrcS prog w hb β B r (.Name y tp) (.Call (.Name x p) args [] pos) (s_rev G) := by
  refine ⟨?_⟩
  intro A fr adr st st' item s Q E ha hi e hQ
  obtain ⟨ms, st1, e1, e⟩ := bnd_some e
  split at e
  · rename_i xs
    cases e
    refine call_args hn kept_type hG hs he ha hi e1 fun vs adr1 h1 tk1 i1 r1 a1 => ?_
    cases r1 with
    | cons rv rn =>
      cases rn
      obtain ⟨l, us, n, rfl, ho, rs⟩ := lookL_ok i1.hp rv (xs := xs) rfl
      have hL : h1.IsList l us.toArray := ⟨_, ho, rfl, n, rfl⟩
      refine call_reversed_list (s := { s with heap := h1, toks := tk1 }) hL ?_
      have hrev : (h1.push (revObj l ((us.toArray.size : Int) - 1))).IsRevIter h1.objs.size l ((xs.length : Int) - 1 - ((0 : Nat) : Int)) := by
        refine ⟨_, push_size, rfl, ?_⟩
        have := rs.length
        simp [revObj, this]
      refine wpAny_pyIter_revIter hrev ?_
      refine hQ _ adr1 h1 _ tk1 i1 ⟨_, _, _, _, rfl, kx_rev ha.h rv, ⟨Nat.zero_le _, hrev⟩, fun b hb' => ?_, push_keeps⟩ a1
      rw [List.mem_singleton] at hb'; subst hb'
      exact fresh_none
  · cases e
end
end Mine
end

section
open PySem PySem.W PyProof.Rows PySem.Spec PySem.Calls
set_option maxRecDepth 100000
namespace Mine

/-! ranges -/
noncomputable def rngOf : List MV → Option (Int × Int × Int)
  | [.int b] => some (0, b, 1)
  | [.int a, .int b] => some (a, b, 1)
  | [.int a, .int b, .int c] => some (a, b, c)
  | _ => none
noncomputable def rngOk (x : Int × Int × Int) : Bool := small x.1 && small x.2.1 && small x.2.2 && decide (0 < x.2.2)
noncomputable def rngLen (x : Int × Int × Int) : Nat := (Builtin.Range.rangeSize x.1 x.2.1 x.2.2).toNat

theorem rng_facts {a b c : Int} (h : rngOk (a, b, c) = true) : Builtin.Range.small a b c = true ∧ Builtin.Range.rangeSize a b c = (rngLen (a, b, c) : Int) ∧ rngLen (a, b, c) ≤ 2 ^ 24 ∧ 0 < c := by
  unfold rngOk at h
  simp only [Bool.and_eq_true, decide_eq_true_eq] at h
  obtain ⟨⟨⟨h1, h2⟩, h3⟩, h4⟩ := h
  have h1 := small_iff h1
  have h2 := small_iff h2
  have h3 := small_iff h3
  have sz : 0 ≤ Builtin.Range.rangeSize a b c ∧ Builtin.Range.rangeSize a b c ≤ 2000001 := by
    unfold Builtin.Range.rangeSize
    rw [if_pos h4]
    split
    · rename_i hab
      have h5 : 0 ≤ b - a - 1 := by omega
      have h6 := Int.ediv_nonneg h5 (Int.le_of_lt h4)
      have h7 := Int.ediv_le_self c h5
      omega
    · omega
  refine ⟨?_, ?_, ?_, h4⟩
  · unfold Builtin.Range.small
    have f : ∀ x : Int, -4000000 ≤ x → x ≤ 4000000 → Builtin.Range.rangeFitsLong x = true := fun x p q => by
      unfold Builtin.Range.rangeFitsLong
      rw [decide_eq_true (show -(2 ^ 63) ≤ x by omega), decide_eq_true (show x < 2 ^ 63 by omega)]; rfl
    rw [f a (by omega) (by omega), f b (by omega) (by omega), f c (by omega) (by omega), f _ (by omega) (by omega), if_pos h4, f (b + (c - 1)) (by omega) (by omega)]
    simp
  · unfold rngLen; exact (Int.toNat_of_nonneg sz.1).symm
  · unfold rngLen
    show (Builtin.Range.rangeSize a b c).toNat ≤ _
    omega

section
variable {prog : Program} {w : World} {hb : Heap} {β : Gl} {B : Bk} {r : Nat}

theorem call_rng {A : Around} {s : Shared} {Q E : Value → Shared → Prop} {h : Heap} {adr : List Addr} {vs : List Value} {ms : List MV} {x : Int × Int × Int} (hv : VRs β h adr vs ms) (hx : rngOf ms = some x) (hok : rngOk x = true)
    (hQ : ∀ t u v tk', (∀ h', h' = s.heap.push { cls := .type "range", data := .fields #[.int x.1 t, .int x.2.1 u, .int x.2.2 v] } → IsRange h' s.heap.objs.size x.1 x.2.1 x.2.2 t u v → Q (.ref s.heap.objs.size) { s with heap := h', toks := tk' })) :
    wpAny (model prog w) A (call (.type "range") vs) Q E s := by
  unfold rngOf at hx
  split at hx
  · cases hx
    cases hv with
    | cons h1 h2 =>
      cases h1; cases h2
      exact call_range_1 (hQ _ _ _ _ _ rfl push_size)
  · cases hx
    cases hv with
    | cons h1 h2 =>
      cases h1
      cases h2 with
      | cons h1 h2 => cases h1; cases h2; exact call_range_2 (hQ _ _ _ _ _ rfl push_size)
  · rename_i a b c
    cases hx
    obtain ⟨_, _, _, h4⟩ := rng_facts (a := a) (b := b) (c := c) hok
    have hsm : small a = true ∧ small b = true ∧ small c = true := by
      unfold rngOk at hok; simp only [Bool.and_eq_true] at hok; exact ⟨hok.1.1.1, hok.1.1.2, hok.1.2⟩
    cases hv with
    | cons h1 h2 =>
      cases h1
      cases h2 with
      | cons h1 h2 =>
        cases h1
        cases h2 with
        | cons h1 h2 => cases h1; cases h2; exact call_range_3 (by omega) (hQ _ _ _ s.toks _ rfl push_size) (.inl (PyProof.noPylong_small (natAbs_small hsm.2.2 _ (by decide))))
  · cases hx

noncomputable def s_range (G : St → Option (List MV × St)) : St → Option (Turns × St) := bnd G fun ms st => match rngOf ms with
  | some x => if rngOk x then some (itemG x.1 x.2.2 (rngLen x), st) else none
  | none => none
theorem src_range {y : Str} {tp : Pos} {x : Str} {p pos : Pos} {args : List Expr} {G : St → Option (List MV × St)} (hn : NameG prog w hb B x (.type "range")) (hG : EsS prog w hb β B r (spliced (backTo pos (starEach args B.env))) G)
    (hs : (backTo pos (starEach args B.env)).any (·.1) = false) (he : ∀ (M : Model) (A : Around) (E : Value → Shared → Prop) (s : Shared) (Q : Args → Shared → Prop), wpAny M A (spliced (backTo pos (starEach args B.env))) (fun vs s₁ => Q ⟨vs, []⟩ s₁) E s → wpAny M A (evalArgs (.type "range") true (backTo pos (starEach args B.env)) []) Q E s) :
    SrcS prog w hb β B r (.Name y tp) (.Call (.Name x p) args [] pos) (s_range G) := by
  refine ⟨?_⟩
  intro A fr adr st st' item s Q E ha hi e hQ
  obtain ⟨ms, st1, e1, e⟩ := bnd_some e
  split at e
  · rename_i rg hrg
    split at e
    · rename_i hok
      cases e
      refine call_args hn kept_type hG hs he ha hi e1 fun vs adr1 h1 tk1 i1 r1 a1 => ?_
      refine call_rng (s := { s with heap := h1, toks := tk1 }) r1 hrg hok fun t u v tk' h' hh' hr => ?_
      obtain ⟨q1, q2, q3, q4⟩ := rng_facts (a := rg.1) (b := rg.2.1) (c := rg.2.2) hok
      refine wpAny_pyIter_range hr q1 ?_
      have kk : ∀ b o, h1.get? b = some o → h'.get? b = some o := fun b o e => by rw [hh']; exact push_keeps _ _ e
      refine hQ _ adr1 h1 _ tk' i1 ⟨_, _, _, _, rfl, kx_range ha.h, ⟨Nat.zero_le _, ?_⟩, fun b hb' => ?_, fun b o e => push_keeps _ _ (kk b o e)⟩ a1
      · show IsRangeIter _ _ _ _ _
        rw [show rg.1 + ((0 : Nat) : Int) * rg.2.2 = rg.1 from by simp, show ((rngLen rg : Nat) : Int) - ((0 : Nat) : Int) = Builtin.Range.rangeSize rg.1 rg.2.1 rg.2.2 from by rw [q2]; simp]
        exact push_size
      · rw [List.mem_singleton] at hb'; subst hb'
        cases q : h1.get? h'.objs.size with
        | none => rfl
        | some o => exact absurd (Heap.lt_size (kk _ _ q)) (Nat.lt_irrefl _)
    · cases e
  · cases e

/-! list(range(..)) -/
theorem vrs_ints {h : Heap} {adr : List Addr} {a c : Int} : ∀ {n : Nat} {vs : List Value}, vs.length = n → (∀ i v, vs[i]? = some v → ∃ t, v = Value.int (a + (i : Nat) * c) t) → VRs β h adr vs ((List.range n).map fun i => MV.int (a + (i : Nat) * c)) := by
  intro n vs hl hv
  have key : ∀ (k : Nat) (us : List Value), (∀ i v, us[i]? = some v → ∃ t, v = Value.int (a + ((k + i : Nat) : Int) * c) t) → VRs β h adr us ((List.range' k us.length).map fun i => MV.int (a + (i : Nat) * c)) := by
    intro k us
    induction us generalizing k with
    | nil => intro _; exact .nil
    | cons u us ih =>
      intro hu
      rw [List.length_cons, List.range'_succ, List.map_cons]
      obtain ⟨t, rfl⟩ := hu 0 u rfl
      refine .cons (by simpa using VR.int (β := β) (h := h) (adr := adr) _ t) (ih (k + 1) fun i v e => ?_)
      obtain ⟨t, e'⟩ := hu (i + 1) v (by simpa using e)
      exact ⟨t, by rw [e']; congr 3; omega⟩
  have := key 0 vs (fun i v e => by simpa using hv i v e)
  rw [hl, ← List.range_eq_range'] at this
  exact this

noncomputable def f_listrange (G : St → Option (List MV × St)) : St → Option (MV × St) := bnd G fun ms st => match rngOf ms with
  | some x => if rngOk x then some (.list ((List.range (rngLen x)).map fun i => MV.int (x.1 + (i : Nat) * x.2.2)), st) else none
  | none => none
theorem e_listrange {x y : Str} {p pos p' pos' : Pos} {args : List Expr} {G : St → Option (List MV × St)} (hn : NameG prog w hb B x (.type "list")) (hn' : NameG prog w hb B y (.type "range")) (hG : EsS prog w hb β B r (spliced (backTo pos' (starEach args B.env))) G)
    (hs : (backTo pos' (starEach args B.env)).any (·.1) = false) (he : ∀ (M : Model) (A : Around) (E : Value → Shared → Prop) (s : Shared) (Q : Args → Shared → Prop), wpAny M A (spliced (backTo pos' (starEach args B.env))) (fun vs s₁ => Q ⟨vs, []⟩ s₁) E s → wpAny M A (evalArgs (.type "range") true (backTo pos' (starEach args B.env)) []) Q E s) :
    EvS prog w hb β B r (eval (.Call (.Name x p) [.Call (.Name y p') args [] pos'] [] pos) B.env) (f_listrange G) := by
  refine ⟨?_⟩
  intro A fr adr st st' m s Q E ha hi e hQ
  obtain ⟨ms, st1, e1, e⟩ := bnd_some e
  split at e
  · rename_i rg hrg
    split at e
    · rename_i hok
      cases e
      refine Call_ (hn A p s _ E hi.hp.base ?_)
      refine callWith_of (P := fun _ => True) rfl (fun h _ => ⟨.machine, .inr (.inl rfl), .now⟩) (evalArgs_plain (spliced_cons ?_))
      refine call_args hn' kept_type hG hs he ha hi e1 fun vs adr1 h1 tk1 i1 r1 a1 => ?_
      refine call_rng (s := { s with heap := h1, toks := tk1 }) r1 hrg hok fun t u v tk' h' hh' hr => ?_
      refine wpAny_pure ⟨trivial, ?_⟩
      obtain ⟨q1, q2, q3, q4⟩ := rng_facts (a := rg.1) (b := rg.2.1) (c := rg.2.2) hok
      have kk : ∀ b o, h1.get? b = some o → h'.get? b = some o := fun b o e => by rw [hh']; exact push_keeps _ _ e
      refine call_list_range (s := { s with heap := h', toks := tk' }) ha.h hr q1 q2 q3 fun h2 tk2 acc c' k2 hl hit => ?_
      have i2 := i1.keeps fun b o e => k2 b o (kk b o e)
      refine hQ _ adr1 h2 tk2 i2 (.list (vs := acc.toList) (n := c') (by simpa using hl) ?_ ?_) (a1.trans (.of_keeps fun b o e => k2 b o (kk b o e)))
      · intro hm
        obtain ⟨o, e⟩ := i1.hp.alive _ hm
        exact absurd (Heap.lt_size (kk _ _ e)) (Nat.lt_irrefl _)
      · refine vrs_ints (by rw [Array.length_toList]; exact hit.1) fun i v e => hit.2 i v (by simpa using e)
    · cases e
  · cases e

/-! list(xs), len(xs), isinstance(int, T) -/
noncomputable def c_list (ms : List MV) (objs : List AObj) : Option (MV × List AObj) := match ms with
  | [m] => match lookL objs m with
    | some xs => if decide (xs.length ≤ 100000) then some (.list xs, objs) else none
    | none => none
  | _ => none
theorem c_list_ok : CallS prog w hb β r (.type "list") c_list := by
  intro A fr adr objs objs' ms m vs s Q E ha hp hv e hQ
  unfold c_list at e
  split at e
  · split at e
    · rename_i xs hl
      split at e
      · rename_i hc
        rw [decide_eq_true_eq] at hc
        cases e
        cases hv with
        | cons h1 h2 =>
          cases h2
          obtain ⟨l, us, n, rfl, ho, rs⟩ := lookL_ok hp h1 hl
          refine call_list_seq (hsz := by rw [List.size_toArray, rs.length, sizeLine_eq]; omega) l (.inl rfl) ho rfl rfl fun h' c' k hD => ?_
          refine hQ _ adr h' s.toks (hp.keeps k) (.list (n := c') hD ?_ (rs.keeps k)) (.of_keeps k)
          intro hm
          obtain ⟨o, e⟩ := hp.alive _ hm
          exact absurd (Heap.lt_size e) (Nat.lt_irrefl _)
      · cases e
    · cases e
  · cases e

noncomputable def c_len (ms : List MV) (objs : List AObj) : Option (MV × List AObj) := match ms with
  | [m] => match lookL objs m with
    | some xs => if decide (xs.length ≤ 100000) then some (.int xs.length, objs) else none
    | none => none
  | _ => none
theorem c_len_ok : CallS prog w hb β r (.builtin "len") c_len := by
  intro A fr adr objs objs' ms m vs s Q E ha hp hv e hQ
  unfold c_len at e
  split at e
  · split at e
    · rename_i xs hl
      split at e
      · rename_i hc
        rw [decide_eq_true_eq] at hc
        cases e
        cases hv with
        | cons h1 h2 =>
          cases h2
          obtain ⟨l, us, n, rfl, ho, rs⟩ := lookL_ok hp h1 hl
          have hL : s.heap.IsList l us.toArray := ⟨_, ho, rfl, n, rfl⟩
          have hsz : us.toArray.size = xs.length := by rw [List.size_toArray, rs.length]
          refine PyProof.Rows.len_list hL (by rw [hsz]; omega) ?_
          rw [hsz]
          exact hQ _ adr s.heap _ hp (.int _ _) .refl
      · cases e
    · cases e
  · cases e

/-- isinstance(x, T) of an int -/
noncomputable def f_notInst (F : St → Option (MV × St)) : St → Option (MV × St) := bnd F fun m st => match m with
  | .int _ => some (.bool false, st)
  | .sym _ => some (.bool false, st)
  | _ => none
theorem e_notInst {x y : Str} {p pos p' : Pos} {e : Expr} {T : String} {F : St → Option (MV × St)} (hn : NameG prog w hb B x (.builtin "isinstance")) (hn' : NameG prog w hb B y (.type T)) (hF : EvS prog w hb β B r (eval e B.env) F)
    (hx : ∀ rest, starEach (e :: rest) B.env = (false, eval e B.env) :: starEach rest B.env)
    (hT : ∀ (A : Around) (s : Shared) (n : Int) (u : Tok) (Q E : Value → Shared → Prop), Q (.bool false) { s with toks := s.toks + 1 } → wpAny (model prog w) A (call (.builtin "isinstance") [.int n u, .type T]) Q E s) :
    EvS prog w hb β B r (eval (.Call (.Name x p) [e, .Name y p'] [] pos) B.env) (f_notInst F) := by
  refine ⟨?_⟩
  intro A fr adr st st' m s Q E ha hi e hQ
  obtain ⟨m1, st1, e1, e⟩ := bnd_some e
  have go : ∀ {i : Int}, (∀ v h, VR β h adr v m1 → True) → True := fun _ => trivial
  refine Call_ (hn A p s _ E hi.hp.base ?_)
  refine callWith_of (P := fun _ => True) (by rw [hx]; rfl) (fun h _ => ⟨.machine, .inr (.inl rfl), .now⟩) ?_
  rw [hx]
  refine evalArgs_plain (spliced_cons (hF.run A fr adr st st1 m1 s _ E ha hi e1 fun v adr1 h1 tk1 i1 r1 a1 => spliced_cons (hn' A p' _ _ E i1.hp.base (wpAny_pure ⟨trivial, ?_⟩))))
  split at e
  · cases e; cases r1
    exact hT _ _ _ _ _ _ (hQ _ adr1 h1 _ i1 (.bool _) a1)
  · cases e; cases r1
    exact hT _ _ _ _ _ _ (hQ _ adr1 h1 _ i1 (.bool _) a1)
  · cases e
end
end Mine
end

section
open PySem PySem.W PyProof.Rows PySem.Spec PySem.Calls
set_option maxRecDepth 100000
namespace Mine

section
variable {hb : Heap} {β : Gl} {B : Bk} {fr : List Env} {adr : List Addr} {objs : List AObj} {h h' : Heap}

theorem Adv.alloc {W F : List Addr} {o : Obj} : Adv W F adr h (adr ++ [h.objs.size]) (h.push o) where
  pre := List.prefix_append ..
  new := fun a ha => by
    rcases List.mem_append.mp ha with ha | ha
    · exact .inl ha
    · rw [List.mem_singleton] at ha; subst ha; exact .inr fresh_none
  alive := fun b o' e => ⟨o', push_keeps _ _ e⟩
  keep := fun b o' e _ _ _ => push_keeps _ _ e
  slots := fun b o' e _ _ _ => ⟨o'.slots, push_keeps _ _ e⟩

theorem noF : ∀ a : Addr, a ∈ ([] : List Addr) ∨ a ∈ ([] : List Addr) → ∀ o, h.get? a = some o → isSeq o = false := by rintro a (h | h) <;> cases h

theorem Hp.alloc (x : Hp hb β fr adr objs h) {o : Obj} {ao : AObj} (hr : ORel β (h.push o) (adr ++ [h.objs.size]) h.objs.size ao) : Hp hb β fr (adr ++ [h.objs.size]) (objs ++ [ao]) (h.push o) where
  base := fun b o' e => push_keeps _ _ (x.base b o' e)
  off := fun a ha => by
    rcases List.mem_append.mp ha with ha | ha
    · exact x.off a ha
    · rw [List.mem_singleton] at ha; subst ha
      cases q : hb.get? h.objs.size with
      | none => rfl
      | some o => exact absurd (Heap.lt_size (x.base _ _ q)) (Nat.lt_irrefl _)
  low := fun a ha => by
    rcases List.mem_append.mp ha with ha | ha
    · exact x.low a ha
    · rw [List.mem_singleton] at ha; subst ha
      obtain ⟨b, o, h1, h2⟩ := x.big
      exact Nat.lt_trans h1 (Heap.lt_size (x.base _ _ h2))
  big := x.big
  nodup := by
    rw [List.nodup_append]
    refine ⟨x.nodup, by simp, fun a ha b hb' e => ?_⟩
    rw [List.mem_singleton] at hb'; subst hb' e
    obtain ⟨o, q⟩ := x.alive _ ha
    exact absurd (Heap.lt_size q) (Nat.lt_irrefl _)
  len := by rw [List.length_append, List.length_append, x.len]; rfl
  objs := fun n o' e => by
    rcases Nat.lt_or_ge n objs.length with q | q
    · rw [List.getElem?_append_left q] at e
      obtain ⟨a, h1, h2⟩ := x.objs n o' e
      exact ⟨a, by rw [List.getElem?_append_left (by rw [x.len]; exact q)]; exact h1, h2.mono (W := []) (F := []) .alloc noF fun o e => push_keeps _ _ e⟩
    · rw [List.getElem?_append_right q] at e
      have hn : n - objs.length = 0 := by
        rcases Nat.eq_zero_or_pos (n - objs.length) with z | z
        · exact z
        · rw [List.getElem?_eq_none (by rw [List.length_singleton]; exact z)] at e; cases e
      rw [hn] at e; cases e
      exact ⟨h.objs.size, by rw [List.getElem?_append_right (by rw [x.len]; exact q), x.len, hn]; rfl, hr⟩
  fr := fun e he => by
    obtain ⟨h1, L, m, h2, h3, h4, h5⟩ := x.fr e he
    refine ⟨h1, L, m, h2, h3, fun hm => ?_, h5.push _⟩
    rcases List.mem_append.mp hm with hm | hm
    · exact h4 hm
    · rw [List.mem_singleton] at hm; subst hm
      exact absurd h5.lt (Nat.lt_irrefl _)

theorem Inv.alloc {st : St} (x : Inv hb β B fr adr st h) {o : Obj} {ao : AObj} (hr : ORel β (h.push o) (adr ++ [h.objs.size]) h.objs.size ao) : Inv hb β B fr (adr ++ [h.objs.size]) ⟨st.vars, st.objs ++ [ao]⟩ (h.push o) :=
  ⟨x.hp.alloc hr, x.blk.adv (F := []) .alloc fun a ha => by cases ha⟩

theorem Adv.write {W F : List Addr} {a : Addr} (hs : Heap.SameBut a h h') (ha : a ∈ adr) (hl : ∃ o, h'.get? a = some o) : Adv W F adr h adr h' where
  pre := List.prefix_refl _
  new := fun _ ha => .inl ha
  alive := fun b o e => by
    by_cases hb : b = a
    · subst hb; exact hl
    · exact ⟨o, (hs.2 b hb).trans e⟩
  keep := fun b o e _ h2 _ => (hs.2 b fun h => h2 (h ▸ ha)).trans e
  slots := fun b o e _ h2 _ => ⟨o.slots, (hs.2 b fun h => h2 (h ▸ ha)).trans e⟩

theorem Hp.write (x : Hp hb β fr adr objs h) {n : Nat} {a : Addr} {ao : AObj} (hn : adr[n]? = some a) (hs : Heap.SameBut a h h') (hr : ORel β h' adr a ao) (hl : ∃ o, h'.get? a = some o) : Hp hb β fr adr (objs.set n ao) h' where
  base := fun b o e => by
    have hb : b ≠ a := by rintro rfl; rw [x.off _ (List.mem_of_getElem? hn)] at e; cases e
    exact (hs.2 b hb).trans (x.base b o e)
  off := x.off
  low := x.low
  big := x.big
  nodup := x.nodup
  len := by rw [List.length_set]; exact x.len
  objs := fun k o e => by
    by_cases hk : k = n
    · subst hk
      rw [List.getElem?_set_self'] at e
      cases q : objs[k]? with
      | none => rw [q] at e; cases e
      | some _ => rw [q] at e; cases e; exact ⟨a, hn, hr⟩
    · rw [List.getElem?_set_ne (Ne.symm hk)] at e
      obtain ⟨b, h1, h2⟩ := x.objs k o e
      have hba : b ≠ a := by
        rintro rfl
        have hk' : k < adr.length := by
          rcases Nat.lt_or_ge k adr.length with z | z
          · exact z
          · rw [List.getElem?_eq_none z] at h1; cases h1
        exact hk ((List.getElem?_inj hk' x.nodup).mp (h1.trans hn.symm))
      exact ⟨b, h1, h2.mono (W := []) (F := []) (.write hs (List.mem_of_getElem? hn) hl) noF fun o e => (hs.2 b hba).trans e⟩
  fr := fun e he => by
    obtain ⟨h1, L, m, h2, h3, h4, h5⟩ := x.fr e he
    exact ⟨h1, L, m, h2, h3, h4, h5.sameBut hs (by rintro rfl; exact h4 (List.mem_of_getElem? hn))⟩

theorem Inv.write {st : St} (x : Inv hb β B fr adr st h) {n : Nat} {a : Addr} {ao : AObj} (hn : adr[n]? = some a) (hs : Heap.SameBut a h h') (hr : ORel β h' adr a ao) (hl : ∃ o, h'.get? a = some o) : Inv hb β B fr adr ⟨st.vars, st.objs.set n ao⟩ h' :=
  ⟨x.hp.write hn hs hr hl, x.blk.adv (F := []) (.write hs (List.mem_of_getElem? hn) hl) fun a ha => by cases ha⟩

/-- the object of a reference -/
theorem Hp.at_ref (x : Hp hb β fr adr objs h) {v : Value} {n : Nat} {ao : AObj} (r : VR β h adr v (.ref n)) (e : objs[n]? = some ao) : ∃ a, v = .ref a ∧ adr[n]? = some a ∧ ORel β h adr a ao := by
  cases r with
  | ref e1 =>
    obtain ⟨a, h1, h2⟩ := x.objs n ao e
    rw [e1] at h1; cases h1
    exact ⟨_, rfl, e1, h2⟩
end

section
variable {prog : Program} {w : World} {hb : Heap} {β : Gl} {B : Bk} {r : Nat}

/-! new lists that may change -/
noncomputable def f_newM (st : St) : Option (MV × St) := some (.ref st.objs.length, ⟨st.vars, st.objs ++ [.list []]⟩)
theorem VR.last {β : Gl} {h : Heap} {adr : List Addr} {fr : List Env} {objs : List AObj} {a : Addr} (hl : adr.length = objs.length) : VR β h (adr ++ [a]) (.ref a) (.ref objs.length) := .ref (by rw [← hl]; simp)

theorem e_newM {pos : Pos} : EvS prog w hb β B r (eval (.List [] pos) B.env) f_newM := by
  refine ⟨?_⟩
  intro A fr adr st st' m s Q E ha hi e hQ
  cases e
  refine List_ (wpAny_pure (wpAny_newList ?_ (Nat.zero_le _)))
  exact hQ _ (adr ++ [s.heap.objs.size]) _ s.toks (hi.alloc (.list (vs := []) push_size .nil)) (VR.last (fr := fr) hi.hp.len) .alloc

theorem foldl_rep {v : Value} : ∀ (n : Nat) (acc : Array Value), List.foldl (fun x1 x2 => x1 ++ x2) acc (List.replicate n #[v]) = acc ++ (List.replicate n v).toArray
  | 0, acc => by simp
  | n + 1, acc => by rw [List.replicate_succ, List.foldl_cons, foldl_rep n, List.replicate_succ]; apply Array.toList_inj.mp; simp

theorem rep_raw {A : Around} {E : Value → Shared → Prop} {s : Shared} {l : Addr} {v : Value} {k : Nat} {x : Int} {u : Tok} {Q : Value → Shared → Prop} (hl : s.heap.get? l = some (listOf [v].toArray k)) (h0 : 0 ≤ x) (h1 : x ≤ 10000)
    (h : Q (.ref s.heap.objs.size) { s with heap := s.heap.push (listOf (List.replicate x.toNat v).toArray 0) }) : wpAny (model prog w) A (binaryOp .Mult (.ref l) (.int x u)) Q E s := by
  have e : (List.foldl (fun x1 x2 => x1 ++ x2) #[] (List.replicate (if ([v].toArray : Array Value).isEmpty = true then 0 else x.toNat) [v].toArray)) = (List.replicate x.toNat v).toArray := by
    rw [if_neg (by simp)]
    have := foldl_rep (v := v) x.toNat #[]
    simpa using this
  refine wpAny_binaryOp_repeat_ref (T := "list") (U := "int") (by decide) ⟨_, hl, rfl⟩ (fun s' => typeIs_int s' x u) noFill_list_mul F.fills_int_mul F.slot_int_rmul repeat_list F.slot_int_index.lookup
    (call_meets F.slot_int_rmul (typeIs_int s x u) F.entry_int_rmul (F.args_int_rmul_2 _ _) (int___rmul___int_list x u l [v].toArray k)
      ⟨hl, rfl, ⟨_, hl, rfl⟩, call_meets F.slot_list_mul ⟨_, hl, rfl⟩ F.entry_list_mul (F.args_list_mul_2 _ _)
        (AutoListH.list___mul___list_int_3 l [v].toArray k x u (by simp [Builtin.List.listFitsIndex]; omega) (by first | omega | (simp; omega)) (by simp [Builtin.List.listTooLong, sizeLine]; omega))
        ⟨hl, ?_⟩⟩)
  rw [e]
  exact h

noncomputable def f_repM (F : St → Option (List MV × St)) (G : St → Option (MV × St)) : St → Option (MV × St) := bnd F fun xs => bnd G fun b st => match xs, b with
  | [x], .int n => if decide (0 ≤ n) && decide (n ≤ 10000) then some (.ref st.objs.length, ⟨st.vars, st.objs ++ [.list (List.replicate n.toNat x)]⟩) else none
  | _, _ => none
noncomputable def f_rep (F : St → Option (List MV × St)) (G : St → Option (MV × St)) : St → Option (MV × St) := bnd F fun xs => bnd G fun b st => match xs, b with
  | [x], .int n => if decide (0 ≤ n) && decide (n ≤ 10000) then some (.list (List.replicate n.toNat x), st) else none
  | _, _ => none

theorem rep_two {elts : List Expr} {p : Pos} {rr : Expr} {F : St → Option (List MV × St)} {G : St → Option (MV × St)} (hF : EsS prog w hb β B r (spliced (backTo p (starEach elts B.env))) F) (hG : EvS prog w hb β B r (eval rr B.env) G)
    {A : Around} {fr : List Env} {adr : List Addr} {st st1 st2 : St} {x : MV} {n : Int} {s : Shared} {Q E : Value → Shared → Prop} {pos : Pos} (ha : Amb A fr r) (hi : Inv hb β B fr adr st s.heap) (e1 : F st = some ([x], st1)) (e2 : G st1 = some (.int n, st2)) (h0 : 0 ≤ n) (h1 : n ≤ 10000)
    (hQ : ∀ v adr' h' tk', Inv hb β B fr adr' st2 h' → VR β h' adr' v x → Adv B.W (frs fr) adr s.heap adr' h' → Q (.ref h'.objs.size) { s with heap := h'.push (listOf (List.replicate n.toNat v).toArray 0), toks := tk' }) :
    wpAny (model prog w) A (eval (.BinOp (.List elts p) .Mult rr pos) B.env) Q E s := by
  refine wpAny_BinOp (List_ (hF.run A fr adr st st1 _ s _ E ha hi e1 fun vs adr1 hh1 tk1 i1 r1 a1 => wpAny_newList ?_ (by rw [r1.length, sizeLine_eq]; show 1 ≤ _; omega)))
  cases r1 with
  | cons rv rn =>
    cases rn
    rename_i v
    have i1' : Inv hb β B fr adr1 st1 (hh1.push (listOf [v].toArray 0)) := i1.keeps push_keeps
    refine hG.run A fr adr1 st1 st2 _ _ _ E ha i1' e2 fun v2 adr2 hh2 tk2 i2 r2 a2 => ?_
    cases r2
    have hl : hh2.get? hh1.objs.size = some (listOf [v].toArray 0) := by
      refine a2.keep _ _ push_size (fun hm => ?_) (fun hm => ?_) (fun hm => ?_)
      · have := i1'.noSeq _ (.inl hm) _ push_size; cases this
      · obtain ⟨o, q⟩ := i1.hp.alive _ hm; exact absurd (Heap.lt_size q) (Nat.lt_irrefl _)
      · have := i1'.noSeq _ (.inr hm) _ push_size; cases this
    refine rep_raw (s := { s with heap := hh2, toks := tk2 }) hl h0 h1 ?_
    exact hQ v adr2 hh2 tk2 i2 ((rv.keeps push_keeps).mono a2 i1'.noSeq) ((a1.trans (.of_keeps push_keeps)).trans a2)

theorem e_repM {elts : List Expr} {p : Pos} {rr : Expr} {pos : Pos} {F : St → Option (List MV × St)} {G : St → Option (MV × St)} (hF : EsS prog w hb β B r (spliced (backTo p (starEach elts B.env))) F) (hG : EvS prog w hb β B r (eval rr B.env) G) :
    EvS prog w hb β B r (eval (.BinOp (.List elts p) .Mult rr pos) B.env) (f_repM F G) := by
  refine ⟨?_⟩
  intro A fr adr st st' m s Q E ha hi e hQ
  obtain ⟨xs, st1, e1, e⟩ := bnd_some e
  obtain ⟨m2, st2, e2, e⟩ := bnd_some e
  split at e
  · rename_i x n
    split at e
    · rename_i hc
      rw [Bool.and_eq_true, decide_eq_true_eq, decide_eq_true_eq] at hc
      cases e
      refine rep_two hF hG ha hi e1 e2 hc.1 hc.2 fun v adr' h' tk' i' r' a' => ?_
      exact hQ _ (adr' ++ [h'.objs.size]) _ tk' (i'.alloc (.list push_size (VRs.replicate (r'.mono (W := []) (F := []) .alloc noF) _))) (VR.last (fr := fr) i'.hp.len) (a'.trans .alloc)
    · cases e
  · cases e
theorem e_rep {elts : List Expr} {p : Pos} {rr : Expr} {pos : Pos} {F : St → Option (List MV × St)} {G : St → Option (MV × St)} (hF : EsS prog w hb β B r (spliced (backTo p (starEach elts B.env))) F) (hG : EvS prog w hb β B r (eval rr B.env) G) :
    EvS prog w hb β B r (eval (.BinOp (.List elts p) .Mult rr pos) B.env) (f_rep F G) := by
  refine ⟨?_⟩
  intro A fr adr st st' m s Q E ha hi e hQ
  obtain ⟨xs, st1, e1, e⟩ := bnd_some e
  obtain ⟨m2, st2, e2, e⟩ := bnd_some e
  split at e
  · rename_i x n
    split at e
    · rename_i hc
      rw [Bool.and_eq_true, decide_eq_true_eq, decide_eq_true_eq] at hc
      cases e
      refine rep_two hF hG ha hi e1 e2 hc.1 hc.2 fun v adr' h' tk' i' r' a' => ?_
      exact hQ _ adr' _ tk' (i'.keeps push_keeps) (VR.newList i'.hp.alive (VRs.replicate r' _)) (a'.trans (.of_keeps push_keeps))
    · cases e
  · cases e

/-! xs.append(e) -/
noncomputable def f_append (F G : St → Option (MV × St)) : St → Option (MV × St) := bnd F fun a st1 => match a with
  | .ref n => match st1.objs[n]? with
    | some (.list _) => bnd G (fun b st => match st.objs[n]? with
      | some (.list xs) => if decide (xs.length ≤ 10000) then some (.none, ⟨st.vars, st.objs.set n (.list (xs ++ [b]))⟩) else none
      | _ => none) st1
    | _ => none
  | _ => none
theorem e_append {o elt : Expr} {apos pos : Pos} {F G : St → Option (MV × St)} (hF : EvS prog w hb β B r (eval o B.env) F) (hG : EvS prog w hb β B r (eval elt B.env) G)
    (hbase : attributeBase o "append" B.env (eval o B.env) = eval o B.env)
    (hfew : ((backTo pos (starEach [elt] B.env)).all (fun x => !x.1) && (backToKw pos (keywordEach [] B.env)).all (fun x => x.1.isSome)
      && decide (([elt] : List Expr).length + ([] : List Keyword).length + (if ([] : List Keyword).isEmpty then 0 else 1) < 30)) = true)
    (hline : (apos.endLine == pos.line) = true) (htrees : backTo pos (starEach [elt] B.env) = [(false, eval elt B.env)]) :
    EvS prog w hb β B r (eval (.Call (.Attribute o "append" apos) [elt] [] pos) B.env) (f_append F G) := by
  refine ⟨?_⟩
  intro A fr adr st st' m s Q E ha hi e hQ
  obtain ⟨m1, st1, e1, e⟩ := bnd_some e
  split at e
  · rename_i n
    split at e
    · rename_i ys ey
      obtain ⟨m2, st2, e2, e⟩ := bnd_some e
      split at e
      · rename_i xs ex
        split at e
        · rename_i hc
          rw [decide_eq_true_eq] at hc
          cases e
          refine wpAny_Call_append hbase hfew hline htrees (hF.run A fr adr st st1 _ s _ E ha hi e1 fun v1 adr1 h1 tk1 i1 r1 a1 => ?_)
          obtain ⟨a, rfl, hn, hr⟩ := i1.hp.at_ref r1 ey
          cases hr with
          | list ho rs =>
            refine ⟨a, _, rfl, ⟨_, _, ho, rfl, rfl, rfl⟩, hG.run A fr adr1 st1 st2 m2 _ _ E ha i1 e2 fun v2 adr2 h2 tk2 i2 r2 a2 => ?_⟩
            obtain ⟨a', e', hn', hr'⟩ := i2.hp.at_ref (r1.mono a2 i1.noSeq) ex
            cases e'
            cases hr' with
            | list ho' rs' =>
              refine append_at (s := { s with heap := h2, toks := tk2 }) ho' (fun h' hs hD => ?_) (by rw [List.size_toArray, rs'.length, sizeLine_eq]; omega)
              have hw : Adv B.W (frs fr) adr2 h2 adr2 h' := .write hs (List.mem_of_getElem? hn') ⟨_, hD⟩
              have mono : ∀ {v : Value} {d : MV}, VR β h2 adr2 v d → VR β h' adr2 v d := fun x => x.mono (W := []) (F := []) (.write hs (List.mem_of_getElem? hn') ⟨_, hD⟩) noF
              refine hQ .none adr2 h' tk2 (i2.write hn' hs (.list (vs := _ ++ [v2]) (by simpa using hD) (VRs.append (rs'.mono (W := []) (F := []) (.write hs (List.mem_of_getElem? hn') ⟨_, hD⟩) noF) (.cons (mono r2) .nil))) ⟨_, hD⟩) .none ((a1.trans a2).trans hw)
        · cases e
      · cases e
    · cases e
  · cases e

/-! xs[i] = e -/
noncomputable def x_setitem (V O I : St → Option (MV × St)) : St → Option (Fl × St) := bnd V fun v => bnd O fun o => bnd I fun i st => match o, i with
  | .ref n, .int k => match st.objs[n]? with
    | some (.list xs) => if decide (0 ≤ k) && decide (k < (xs.length : Int)) && decide (xs.length ≤ 10000) then some (.next, ⟨st.vars, st.objs.set n (.list (xs.set k.toNat v))⟩) else none
    | _ => none
  | _, _ => none

theorem data_mapSeq' {vs : List Value} {n : Nat} (f : Array Value → Array Value) : ∃ n', Obj.mapSeq f (listOf vs.toArray n) = listOf (f vs.toArray) n' := ⟨_, rfl⟩

theorem x_setitem_ok {value o i : Expr} {p pos : Pos} {V O I : St → Option (MV × St)} (hV : EvS prog w hb β B r (eval value B.env) V) (hO : EvS prog w hb β B r (eval o B.env) O) (hI : EvS prog w hb β B r (eval i B.env) I)
    (hs : swapsWith value (some (.Subscript o i p)) pos.line B.env = pure false) : ExS prog w hb β B r (exec (.Assign [.Subscript o i p] value pos) B.env) (x_setitem V O I) := by
  refine ⟨?_⟩
  intro A fr adr st st' m s Q E ha hi e hQ
  obtain ⟨m1, st1, e1, e⟩ := bnd_some e
  obtain ⟨m2, st2, e2, e⟩ := bnd_some e
  obtain ⟨m3, st3, e3, e⟩ := bnd_some e
  split at e
  · rename_i n k _
    split at e
    · rename_i xs ex
      split at e
      · rename_i hc
        simp only [Bool.and_eq_true, decide_eq_true_eq] at hc
        cases e
        refine wpAny_Assign_Subscript (hV.run A fr adr st st1 m1 s _ E ha hi e1 fun v1 adr1 h1 tk1 i1 r1 a1 => hO.run A fr adr1 st1 st2 _ _ _ E ha i1 e2 fun v2 adr2 h2 tk2 i2 r2 a2 => hI.run A fr adr2 st2 st3 _ _ _ E ha i2 e3 fun v3 adr3 h3 tk3 i3 r3 a3 => ?_) hs
        cases r3
        obtain ⟨a, rfl, hn, hr⟩ := i3.hp.at_ref (r2.mono a3 i2.noSeq) ex
        cases hr with
        | list ho rs =>
          rename_i vs cnt
          have hlen := rs.length
          refine ki_setAt (s := { s with heap := h3, toks := tk3 }) ho hc.1.1 (by omega) (by rw [List.size_toArray, hlen]; exact hc.1.2) ?_
          obtain ⟨n', hn2⟩ := data_mapSeq' (vs := vs) (n := cnt) (·.setIfInBounds k.toNat v1)
          have hsb : Heap.SameBut a h3 (h3.update a (Obj.mapSeq (·.setIfInBounds k.toNat v1))) := .update ..
          have hD : (h3.update a (Obj.mapSeq (·.setIfInBounds k.toNat v1))).get? a = some (listOf ((vs.set k.toNat v1)).toArray n') := by
            have z := Heap.get?_update_self (Obj.mapSeq (·.setIfInBounds k.toNat v1)) ho (by rw [hn2]; rfl)
            rw [hn2] at z
            rw [z]
            simp
          have hw : Adv [] [] adr3 h3 adr3 (h3.update a (Obj.mapSeq (·.setIfInBounds k.toNat v1))) := .write hsb (List.mem_of_getElem? hn) ⟨_, hD⟩
          refine hQ .next adr3 _ tk3 (i3.write hn hsb (.list hD ((rs.mono hw noF).set (((r1.mono a2 i1.noSeq).mono a3 i2.noSeq).mono hw noF))) ⟨_, hD⟩) trivial (((a1.trans a2).trans a3).trans (.write hsb (List.mem_of_getElem? hn) ⟨_, hD⟩))
      · cases e
    · cases e
  · cases e
end
end Mine
end

section
open PySem PySem.W PyProof.Rows PySem.Spec PySem.Calls Builtin Builtin.ObjectAttr Builtin.Getset_descriptor
set_option maxRecDepth 100000
namespace Mine

noncomputable def gE (i : Nat) : List (Nat × MV) → Option MV
  | [] => none
  | (j, m) :: r => if Nat.beq j i then some m else gE i r
noncomputable def pE (i : Nat) (m : MV) : List (Nat × MV) → List (Nat × MV)
  | [] => [(i, m)]
  | (j, d) :: r => if Nat.beq j i then (j, m) :: r else (j, d) :: pE i m r

section
variable {hb : Heap} {β : Gl} {B : Bk} {fr : List Env} {adr : List Addr} {objs : List AObj} {h h' : Heap}

theorem isStr_eq {x y : Str} {t : Tok} : (Value.str x t).isStr y = (x == y) := by
  rfl

theorem ERs.noRef {es : List DictEntry} {ds : List (Nat × MV)} (r : ERs β h adr es ds) : es.any (·.refKey) = false := by
  induction r with
  | nil => rfl
  | cons e v _ ih => rw [List.any_cons, ih]; rfl

theorem ERs.get {es : List DictEntry} {ds : List (Nat × MV)} (r : ERs β h adr es ds) {i : Nat} {x : Str} {m : MV} (hx : tb[i]? = some x) (hm : gE i ds = some m) : ∃ v, getL x es = some (some v) ∧ VR β h adr v m := by
  induction r with
  | nil => cases hm
  | cons e v rr ih =>
    rename_i hs y t u es j d ds
    have hb' : (y == x) = Nat.beq j i := str_beq e hx
    rw [gE] at hm
    unfold getL
    rw [List.find?_cons]
    rw [show (DictEntry.key ⟨hs, .str y t, u⟩).isStr x = Nat.beq j i from hb']
    cases hc : Nat.beq j i with
    | true =>
      rw [hc, if_pos rfl] at hm
      cases hm
      exact ⟨u, rfl, v⟩
    | false =>
      rw [hc, if_neg Bool.false_ne_true] at hm
      obtain ⟨v', h1, h2⟩ := ih hm
      refine ⟨v', ?_, h2⟩
      unfold getL at h1
      dsimp only
      rw [List.any_cons]
      exact h1
theorem ERs.total {es : List DictEntry} {ds : List (Nat × MV)} (r : ERs β h adr es ds) (x : Str) : (getL x es).isSome = true := by
  unfold getL
  split
  · rfl
  · rw [r.noRef]; rfl
theorem ERs.put {es : List DictEntry} {ds : List (Nat × MV)} (r : ERs β h adr es ds) {i : Nat} {x : Str} {m : MV} {v : Value} {hs : Int} {t : Tok} (hx : tb[i]? = some x) (hv : VR β h adr v m) : ERs β h adr (putL x hs (.str x t) v es) (pE i m ds) := by
  induction r with
  | nil => exact .cons hx hv .nil
  | cons e u rr ih =>
    rename_i hs' y t' u' es j d ds
    have hb' : (y == x) = Nat.beq j i := str_beq e hx
    rw [putL, pE]
    rw [show (DictEntry.key ⟨hs', .str y t', u'⟩).isStr x = Nat.beq j i from hb']
    cases hc : Nat.beq j i with
    | true => rw [if_pos rfl, if_pos rfl]; exact .cons e hv rr
    | false => rw [if_neg Bool.false_ne_true, if_neg Bool.false_ne_true]; exact .cons e u ih
theorem ERs.length {es : List DictEntry} {ds : List (Nat × MV)} (r : ERs β h adr es ds) : es.length = ds.length := by
  induction r with
  | nil => rfl
  | cons e u rr ih => rw [List.length_cons, List.length_cons, ih]
theorem pE_length (i : Nat) (m : MV) : ∀ ds : List (Nat × MV), (pE i m ds).length ≤ ds.length + 1
  | [] => Nat.le_refl _
  | (j, d) :: r => by
    rw [pE]; split
    · rw [List.length_cons, List.length_cons]; omega
    · have := pE_length i m r; rw [List.length_cons, List.length_cons]; omega

/-- an object with attributes of its own -/
theorem Hp.inst (x : Hp hb β fr adr objs h) {v : Value} {n d : Nat} {C : Addr} {ds : List (Nat × MV)} (r : VR β h adr v (.ref n)) (e : objs[n]? = some (.inst C d)) (e2 : objs[d]? = some (.attrs ds)) :
    ∃ a dx es k, v = .ref a ∧ adr[d]? = some dx ∧ h.get? a = some (instObj C dx) ∧ h.get? dx = some (dictOf es k) ∧ ERs β h adr es ds := by
  obtain ⟨a, rfl, h1, h2⟩ := x.at_ref r e
  cases h2 with
  | inst e3 e4 =>
    obtain ⟨a', h3, h4⟩ := x.objs d _ e2
    rw [e4] at h3; cases h3
    cases h4 with
    | attrs e5 r5 => exact ⟨_, _, _, _, rfl, e4, e3, e5, r5⟩

theorem VR.handed {v : Value} {m : MV} (x : VR β h adr v m) (hm : readable m = true) : handedIn v = true := by
  cases x with
  | undef => cases hm
  | _ => rfl
end

/-- a value that is found is what the attribute gives -/
noncomputable def GetOk (K : Frag) (C : Addr) : Prop :=
  ∀ {prog : Program} {w : World} {A : Around} {E : Value → Shared → Prop} {s : Shared} {x : Addr} {ox : Obj} {od : Option Obj} {name : Str} {v : Value} {expr : Bool} {Q : Value → Shared → Prop},
    K.In s.heap → InstAt s.heap x ox C od → findObj K C od name = some (.value v) → handedIn v = true → Q v { s with toks := s.toks + 1 } → wpAny (model prog w) A (getAttr (.ref x) name expr) Q E s
theorem getOk_plain {K : Frag} {C : Addr} (h : plainGet K C "" = true) : GetOk K C := fun X I hf hh q => get_value X I (plainGet_of (name := "") h).1 hf hh q
/-- object.__setattr__ passes -/
noncomputable def OverOk (K : Frag) (C : Addr) : Prop := ∃ cd, clsIn K C = some cd ∧ cd.mro.isEmpty = false ∧ cd.mro.contains (.type "object") = true ∧ ∀ self, refuseLoop self "__setattr__" cd.mro = pure ()
theorem overOk_plain {K : Frag} {C : Addr} (h : plainOver K C = true) : OverOk K C := by
  obtain ⟨cd, hc, ho⟩ := any_some h
  exact ⟨cd, hc, by cases q : cd.mro with | nil => rw [q] at ho; cases ho | cons _ _ => rfl, only_has ho, fun self => refuse_only self ho⟩

/-- what is known of a class -/
structure ClsOk (K : Frag) (C : Addr) (names : List Str) : Prop where
  get : GetOk K C
  dct : hasDictIn K C = true
  over : OverOk K C
  setat : findIn K (.ref C) "__setattr__" = some (some (.builtin "object.__setattr__"))
  free : names.all (fun x => findIn K (.ref C) x == some none) = true

theorem ClsOk.at {K : Frag} {C : Addr} {names : List Str} (x : ClsOk K C names) {n : Str} (h : names.contains n = true) : findIn K (.ref C) n = some none :=
  beq_iff_eq.mp (List.all_eq_true.mp x.free n (List.contains_iff_mem.mp h))

section
variable {prog : Program} {w : World} {hb : Heap} {β : Gl} {B : Bk} {r : Nat} {K : Frag} {C : Addr} {names : List Str}

noncomputable def f_attr (C : Addr) (F : St → Option (MV × St)) (i : Nat) : St → Option (MV × St) := bnd F fun a st => match a with
  | .ref n => match st.objs[n]? with
    | some (.inst C' d) => if Nat.beq C' C then match st.objs[d]? with
        | some (.attrs ds) => match gE i ds with
          | some m => if readable m then some (m, st) else none
          | none => none
        | _ => none
      else none
    | _ => none
  | _ => none

theorem attr_some {C : Addr} {i n : Nat} {st st' : St} {F : St → Option (MV × St)} {m : MV} {st0 : St} (h : f_attr C F i st0 = some (m, st')) : ∃ n d ds, F st0 = some (.ref n, st') ∧ st'.objs[n]? = some (.inst C d) ∧ st'.objs[d]? = some (.attrs ds) ∧ gE i ds = some m ∧ readable m = true := by
  obtain ⟨a, st1, e1, e⟩ := bnd_some h
  split at e
  · rename_i n
    split at e
    · rename_i C' d e2
      split at e
      · rename_i hc
        have := Nat.eq_of_beq_eq_true hc
        subst this
        split at e
        · rename_i ds e3
          split at e
          · rename_i m' e4
            split at e
            · rename_i hr; cases e; exact ⟨_, _, _, e1, e2, e3, e4, hr⟩
            · cases e
          · cases e
        · cases e
      · cases e
    · cases e
  · cases e

theorem getAttr_ok {A : Around} {E : Value → Shared → Prop} {fr : List Env} {adr : List Addr} {objs : List AObj} {s : Shared} {v : Value} {n d i : Nat} {x : Str} {ds : List (Nat × MV)} {m : MV} {b : Bool} {Q : Value → Shared → Prop} (hK : K.In hb) (hC : ClsOk K C names) (hin : names.contains x = true)
    (hp : Hp hb β fr adr objs s.heap) (hv : VR β s.heap adr v (.ref n)) (e : objs[n]? = some (.inst C d)) (e2 : objs[d]? = some (.attrs ds)) (hx : tb[i]? = some x) (e3 : gE i ds = some m) (hr : readable m = true)
    (hQ : ∀ u, VR β s.heap adr u m → Q u { s with toks := s.toks + 1 }) : wpAny (model prog w) A (getAttr v x b) Q E s := by
  obtain ⟨a, dx, es, k, rfl, h1, h2, h3, h4⟩ := hp.inst hv e e2
  obtain ⟨u, g1, g2⟩ := h4.get hx e3
  have X : K.In s.heap := hK.keeps hp.base
  refine hC.get X (ox := instObj C dx) (od := some (dictOf es k)) ⟨h2, rfl, rfl, h3⟩ (findObj_own hC.dct (hC.at hin) rfl ?_) (g2.handed hr) (hQ u g2)
  rw [lookIn_dict]; exact g1

theorem e_attr {y x : Str} {p pos : Pos} {i : Nat} {F : St → Option (MV × St)} (hK : K.In hb) (hC : ClsOk K C names) (hin : names.contains x = true) (hx : tb[i]? = some x) (hF : EvS prog w hb β B r (eval (.Name y p) B.env) F) :
    EvS prog w hb β B r (eval (.Attribute (.Name y p) x pos) B.env) (f_attr C F i) := by
  refine ⟨?_⟩
  intro A fr adr st st' m s Q E ha hi e hQ
  obtain ⟨n, d, ds, e1, e2, e3, e4, e5⟩ := attr_some (n := 0) (st := st) e
  refine Attribute_Name_ (hF.run A fr adr st st' _ s _ E ha hi e1 fun v adr1 h1 tk1 i1 r1 a1 => ?_)
  exact getAttr_ok (s := { s with heap := h1, toks := tk1 }) hK hC hin i1.hp r1 e2 e3 hx e4 e5 fun u hu => hQ u adr1 h1 (tk1 + 1) i1 hu a1

/-- obj.name = e -/
noncomputable def x_setattr (C : Addr) (V O : St → Option (MV × St)) (i : Nat) : St → Option (Fl × St) := bnd V fun v => bnd O fun a st => match a with
  | .ref n => match st.objs[n]? with
    | some (.inst C' d) => if Nat.beq C' C then match st.objs[d]? with
        | some (.attrs ds) => if ds.length ≤ 100 then some (.next, ⟨st.vars, st.objs.set d (.attrs (pE i v ds))⟩) else none
        | _ => none
      else none
    | _ => none
  | _ => none

theorem osa_openX {A : Around} {s : Shared} {R : Result → Shared → Prop} {x : Addr} {ox : Obj} {od : Option Obj} {name : Str} {tk : Tok} {v : Value} {r : Option Value} (X : K.In s.heap) (I : InstAt s.heap x ox C od) (hp : OverOk K C) (ht : takerIn K C name = some r)
    (h : ∀ b, wpAny (model prog w) A.in1 (match r with | some a => setByDescriptor a (.ref x) v | none => storeInOwnDict (.ref x) (.ref C) (.str name tk) name v b)
      (fun fin s' => match fin with | .done f => R (.ok f) s' | .again c' => c'.quiet = true ∧ codeAny (model prog w) A c' R s') (fun e s' => R (.error e) s') s) :
    codeAny (model prog w) A (.call (.builtin "object.__setattr__") ⟨[.ref x, .str name tk, v], []⟩) R s := by
  have SF := PySem.F.store_object
  obtain ⟨cd, hc, ne, hobj, hpass⟩ := hp
  have sub : Looks (model prog w) s.heap (isInstance (.ref x) (.type "object")) true := I.type.andThen (looks_mroIn X (by unfold mroIn; rw [hc, Option.bind_some, if_neg (by rw [ne]; decide), hobj]))
  refine codeAny_call_builtin SF.slot.plain SF.entry (@check_slot (model prog w) _ _ s "object.__setattr__" "object" "__setattr__" (.ref x) [.str name tk, v] [] _ SF.kind SF.split sub (SF.args (.ref x) (.str name tk) v) ?_)
  obtain ⟨attr, ha, hr⟩ := Option.bind_eq_some_iff.mp ht
  have hm : Looks (model prog w) s.heap (mroOf (.ref C)) cd.mro := (looks_clsIn X hc).andThen .now
  have L3 : Looks (model prog w) s.heap (storeTaker? attr) r := by
    cases attr with
    | none => cases hr; exact .now
    | some a =>
      obtain ⟨b, hb, rfl⟩ := Option.map_eq_some_iff.mp hr
      refine (looks_takesIn X hb).andThen ?_
      cases b <;> exact .now
  rw [osa_eq, refuse_eq]
  refine wpAny_bind (wpAny_bind (I.type.here (wpAny_bind (hm.here ?_))))
  rw [hpass]
  refine wpAny_pure (wpAny_bind (I.type.here (wpAny_bind ((looks_findIn X ha).here (wpAny_bind (L3.here ?_))))))
  exact h _

theorem putL_length {name : Str} {hs : Int} {k v : Value} : ∀ es : List DictEntry, (putL name hs k v es).length ≤ es.length + 1
  | [] => Nat.le_refl _
  | e :: r => by
    have := putL_length (name := name) (hs := hs) (k := k) (v := v) r
    rw [putL]; split <;> simp only [List.length_cons] <;> omega

theorem osa_raw {A : Around} {s : Shared} {R : Result → Shared → Prop} {ox : Obj} {dx a : Addr} {name : Str} {tk : Tok} {v : Value} {es : List DictEntry} {n : Nat} (X : K.In s.heap)
    (I : InstAt s.heap a ox C (some (dictOf es n))) (hd : ox.dict = some dx) (D : s.heap.get? dx = some (dictOf es n)) (hp : OverOk K C) (ht : takerIn K C name = some none) (hh : hasDictIn K C = true)
    (hl : (getL name es).isSome = true) (hz : es.length ≤ 500)
    (h : ∀ h' n', Heap.SameBut dx s.heap h' → h'.get? dx = some (dictOf (putL name (PyData.keyHash w.params name) (.str name s.toks) v es) n') → R (.ok (.ret .none)) { s with heap := h', toks := s.toks + 1 }) :
    codeAny (model prog w) A (.call (.builtin "object.__setattr__") ⟨[.ref a, .str name tk, v], []⟩) R s := by
  refine osa_openX X I hp ht fun b => ?_
  obtain ⟨cd, hc, hd'⟩ := any_some hh
  have eN := putName_dict name (PyData.keyHash w.params name) (.str name s.toks) v es n
  have D' : (s.heap.update dx (Obj.putName name (PyData.keyHash w.params name) (.str name s.toks) v)).get? dx = some (dictOf (putL name (PyData.keyHash w.params name) (.str name s.toks) v es) (putN name es n)) := by
    have z := Heap.get?_update_self (Obj.putName name (PyData.keyHash w.params name) (.str name s.toks) v) D (by rw [eN]; rfl)
    rw [z, eN]
  obtain ⟨hx, hcl, hn, -⟩ := I
  obtain ⟨oc, odi, oda, osl⟩ := ox
  dsimp only at hcl hd
  subst hcl hd
  refine wpAny_bind (wpAny_pure (wpAny_bind (wpAny_bind (wpAny_loadPart hx (wpAny_bind ((looks_clsIn X hc).here ?_))))))
  rw [hd']
  refine wpAny_pure (a := some dx) (wpAny_bind (wpAny_pure (wpAny_bind ?_)))
  unfold nsSet
  refine wpAny_bind (wpAny_bind (wpAny_askSetting (wpAny_pure (wpAny_bind (wpAny_mkText (wpAny_bind (wpAny_loadPart D ?_)))))))
  dsimp only
  have c : (!es.toArray.any (·.key.isStr name) && es.toArray.any (·.refKey)) = false := by
    rw [← Array.any_toList, ← Array.any_toList]
    unfold getL at hl
    split at hl
    · rename_i en he
      rw [List.any_eq_true.mpr ⟨en, List.mem_of_find?_eq_some he, List.find?_some he⟩]; rfl
    · split at hl
      · cases hl
      · rename_i z; rw [Bool.not_eq_true] at z; rw [z, Bool.and_false]
  rw [aRefKeyMayBeTheName_at, c]
  refine wpAny_updatePart D ?_
  have hlen : (putL name (PyData.keyHash w.params name) (.str name s.toks) v es).length ≤ es.length + 1 := putL_length es
  refine wpAny_bind (wpAny_lookBehind D' (pastItsLine_dict (by rw [List.size_toArray, sizeLine_eq]; omega)) ?_)
  exact wpAny_pure (h _ _ (.update ..) D')

theorem setAttr_ok {A : Around} {E : Value → Shared → Prop} {fr : List Env} {adr : List Addr} {st : St} {s : Shared} {v o : Value} {n d i : Nat} {x : Str} {ds : List (Nat × MV)} {m : MV} {Q : Unit → Shared → Prop} (hK : K.In hb) (hC : ClsOk K C names) (hin : names.contains x = true)
    (hi : Inv hb β B fr adr st s.heap) (ho : VR β s.heap adr o (.ref n)) (hv : VR β s.heap adr v m) (e : st.objs[n]? = some (.inst C d)) (e2 : st.objs[d]? = some (.attrs ds)) (hx : tb[i]? = some x) (hl : ds.length ≤ 100)
    (hQ : ∀ h' tk', Inv hb β B fr adr ⟨st.vars, st.objs.set d (.attrs (pE i m ds))⟩ h' → Adv B.W (frs fr) adr s.heap adr h' → Q () { s with heap := h', toks := tk' }) : wpAny (model prog w) A (setAttr o x v) Q E s := by
  obtain ⟨a, dx, es, k, rfl, h1, h2, h3, h4⟩ := hi.hp.inst ho e e2
  have X : K.In s.heap := hK.keeps hi.hp.base
  have I : InstAt s.heap a (instObj C dx) C (some (dictOf es k)) := ⟨h2, rfl, rfl, h3⟩
  have tk : takerIn K C x = some none := by unfold takerIn; rw [hC.at hin]; rfl
  refine set_plain X I hC.setat (osa_raw (s := { s with toks := s.toks + 1 }) X I rfl h3 hC.over tk hC.dct (h4.total x) (by rw [h4.length]; omega) fun h' n' hs hD => ?_)
  have hmem := List.mem_of_getElem? h1
  have W : ∀ {W F : List Addr}, Adv W F adr s.heap adr h' := .write hs hmem ⟨_, hD⟩
  exact hQ h' _ (hi.write h1 hs (.attrs hD ((h4.mono (W := []) (F := []) W noF).put hx (hv.mono (W := []) (F := []) W noF))) ⟨_, hD⟩) W

theorem x_setattr_ok {value o : Expr} {x : Str} {p pos : Pos} {i : Nat} {V O : St → Option (MV × St)} (hK : K.In hb) (hC : ClsOk K C names) (hin : names.contains x = true) (hx : tb[i]? = some x) (hV : EvS prog w hb β B r (eval value B.env) V) (hO : EvS prog w hb β B r (eval o B.env) O)
    (hs : swapsWith value (some (.Attribute o x p)) pos.line B.env = pure false) : ExS prog w hb β B r (exec (.Assign [.Attribute o x p] value pos) B.env) (x_setattr C V O i) := by
  refine ⟨?_⟩
  intro A fr adr st st' m s Q E ha hi e hQ
  obtain ⟨m1, st1, e1, e⟩ := bnd_some e
  obtain ⟨m2, st2, e2, e⟩ := bnd_some e
  split at e
  · rename_i n
    split at e
    · rename_i C' d q1
      split at e
      · rename_i hc
        have q3 := Nat.eq_of_beq_eq_true hc
        rw [q3] at q1
        split at e
        · rename_i ds q2
          split at e
          · rename_i hl
            cases e
            refine plainObj_wpAny_Assign_Attribute (hV.run A fr adr st st1 m1 s _ E ha hi e1 fun v1 adr1 h1 tk1 i1 r1 a1 => hO.run A fr adr1 st1 st2 _ _ _ E ha i1 e2 fun v2 adr2 h2 tk2 i2 r2 a2 => ?_) hs
            refine setAttr_ok (s := { s with heap := h2, toks := tk2 }) hK hC hin i2 r2 (r1.mono a2 i1.noSeq) q1 q2 hx hl fun h3 tk3 i3 a3 => ?_
            exact hQ .next adr2 h3 tk3 i3 trivial ((a1.trans a2).trans a3)
          · cases e
        · cases e
      · cases e
    · cases e
  · cases e
end
end Mine
end

section
open PySem PySem.W PyProof.Rows PySem.Spec PySem.Calls
set_option maxRecDepth 100000
namespace Mine

section
variable {prog : Program} {w : World} {hb : Heap} {β : Gl} {B : Bk} {r : Nat}

/-! tuples assigned to tuples of names -/
theorem ev_tuple {elts : List Expr} {k : Nat} {p : Pos} {G : St → Option (List MV × St)} (hG : EsS prog w hb β B r (spliced (backTo p (starEach elts B.env))) G) {A : Around} {fr : List Env} {adr : List Addr} {st st' : St} {ms : List MV} {s : Shared} {Q E : Value → Shared → Prop}
    (ha : Amb A fr r) (hi : Inv hb β B fr adr st s.heap) (e : G st = some (ms, st')) (hl : ms.length ≤ 1000)
    (hQ : ∀ (T : Addr) (adr' : List Addr) (h' : Heap) (tk' : Nat) (vs : Array Value), Inv hb β B fr adr' st' h' → h'.IsTuple T vs → VRs β h' adr' vs.toList ms → Adv B.W (frs fr) adr s.heap adr' h' → Q (.ref T) { s with heap := h', toks := tk' }) :
    wpAny (model prog w) A (eval (.Tuple elts k p) B.env) Q E s := by
  refine wpAny_Tuple (hG.run A fr adr st st' ms s _ E ha hi e fun vs adr1 h1 tk1 i1 r1 a1 => ⟨by rw [r1.length, sizeLine_eq]; omega, ?_⟩)
  exact hQ _ adr1 _ tk1 vs.toArray (i1.keeps push_keeps) ⟨_, push_size, rfl, _, rfl⟩ (r1.keeps push_keeps) (a1.trans (.of_keeps push_keeps))

noncomputable def x_tup (G : St → Option (List MV × St)) (Ts : List (Itm → St → Option St)) : St → Option (Fl × St) := bnd G fun ms st => if ms.length ≤ 1000 then match tgs Ts ms st with
    | some st' => some (.next, st')
    | none => none
  else none

theorem x_tup_ok {elts velts : List Expr} {k k' : Nat} {tp vp pos : Pos} {G : St → Option (List MV × St)} {Ts : List (Itm → St → Option St)} (hG : EsS prog w hb β B r (spliced (backTo vp (starEach velts B.env))) G)
    (hT : TgS prog w hb β B r (.Tuple elts k tp) (tg_tup Ts))
    (hs : swapsWithSole [.Tuple elts k tp] (.Tuple velts k' vp) pos.line B.env = pure false) (hw : swappedStores [.Tuple elts k tp] (.Tuple velts k' vp) B.env = pure none) :
    ExS prog w hb β B r (exec (.Assign [.Tuple elts k tp] (.Tuple velts k' vp) pos) B.env) (x_tup G Ts) := by
  refine ⟨?_⟩
  intro A fr adr st st' m s Q E ha hi e hQ
  obtain ⟨ms, st1, e1, e⟩ := bnd_some e
  split at e
  · rename_i hl
    split at e
    · rename_i st2 e2
      cases e
      refine Assign_Tuple (ev_tuple hG ha hi e1 hl fun T adr1 h1 tk1 vs i1 ht r1 a1 => ?_) hs hw
      exact hT.run A fr adr1 st1 _ (.tup ms) _ _ _ E ha i1 ⟨T, vs, rfl, ht, r1⟩ e2 fun h2 tk2 i2 a2 => hQ .next adr1 h2 tk2 i2 trivial (a1.trans a2)
    · cases e
  · cases e

/-- a, b = xs -/
noncomputable def x_unpack (F : St → Option (MV × St)) (Ts : List (Itm → St → Option St)) : St → Option (Fl × St) := bnd F fun m st => match tg_tup Ts (.one m) st with
    | some st' => some (.next, st')
    | none => none
theorem x_unpack_ok {elts : List Expr} {value : Expr} {k : Nat} {tp pos : Pos} {F : St → Option (MV × St)} {Ts : List (Itm → St → Option St)} (hF : EvS prog w hb β B r (eval value B.env) F)
    (hT : TgS prog w hb β B r (.Tuple elts k tp) (tg_tup Ts))
    (hs : swapsWithSole [.Tuple elts k tp] value pos.line B.env = pure false) (hw : swappedStores [.Tuple elts k tp] value B.env = pure none) :
    ExS prog w hb β B r (exec (.Assign [.Tuple elts k tp] value pos) B.env) (x_unpack F Ts) := by
  refine ⟨?_⟩
  intro A fr adr st st' m s Q E ha hi e hQ
  obtain ⟨m1, st1, e1, e⟩ := bnd_some e
  split at e
  · rename_i st2 e2
    cases e
    refine Assign_Tuple (hF.run A fr adr st st1 m1 s _ E ha hi e1 fun v adr1 h1 tk1 i1 r1 a1 => ?_) hs hw
    exact hT.run A fr adr1 st1 _ (.one m1) _ _ _ E ha i1 r1 e2 fun h2 tk2 i2 a2 => hQ .next adr1 h2 tk2 i2 trivial (a1.trans a2)
  · cases e

/-- names that are stored one after the other -/
inductive NmL (B : Bk) : List Str → List Nat → Prop
  | nil : NmL B [] []
  | cons {x : Str} {i : Nat} {xs : List Str} {is : List Nat} : B.ns[i]? = some x → distinct B.ns i x = true → kindSt B x = true → NmL B xs is → NmL B (x :: xs) (i :: is)
noncomputable def stAll : List Nat → List MV → St → Option St
  | [], [], st => some st
  | i :: is, m :: ms, st => stAll is ms ⟨st.vars.set i m, st.objs⟩
  | _, _, _ => none
theorem bind_ok {A : Around} {x : Str} {v : Value} {s : Shared} {Q : Unit → Shared → Prop} {E : Value → Shared → Prop} {M : Model} {env : Env} (h : wpAny M A (storeName env x v) Q E s) : wpAny M A (bindName env x v) Q E s := by
  unfold bindName
  exact wpAny_bind (wpAny_holding (nd_point (nd_pure (wpAny_bind (wpAny_mono h (fun _ _ z => nd_point (nd_pure z)) fun _ _ z => z)))))
theorem nmL_ok {xs : List Str} {is : List Nat} (h : NmL B xs is) (hsk : B.env.scope.kind = .function) : ∀ {A : Around} {fr : List Env} {adr : List Addr} {st st' : St} {ms : List MV} {vs : List Value} {s : Shared} {Q : Unit → Shared → Prop} {E : Value → Shared → Prop},
    Inv hb β B fr adr st s.heap → VRs β s.heap adr vs ms → stAll is ms st = some st' →
    (∀ (h' : Heap) (tk' : Nat), Inv hb β B fr adr st' h' → Adv B.W (frs fr) adr s.heap adr h' → Q () { s with heap := h', toks := tk' }) →
    wpAny (model prog w) A (assignInOrder (xs.map fun n => bindName B.env n) vs) Q E s := by
  induction h with
  | nil =>
    intro A fr adr st st' ms vs s Q E hi hv e hQ
    cases ms with
    | nil => cases hv; cases e; exact wpAny_assignInOrder_none (hQ s.heap s.toks hi .refl)
    | cons => cases e
  | cons hx hd hk _ ih =>
    intro A fr adr st st' ms vs s Q E hi hv e hQ
    cases ms with
    | nil => cases e
    | cons m ms =>
      cases hv with
      | cons h1 h2 =>
        refine wpAny_assignInOrder_more (bind_ok (store_ok hi h1 hx hd hk hsk fun h' tk' i' a' => ?_))
        exact ih i' (h2.mono a' hi.noSeq) e fun h2 tk2 i2 a2 => hQ h2 tk2 i2 (a'.trans a2)

noncomputable def x_tupS (G : St → Option (List MV × St)) (is : List Nat) : St → Option (Fl × St) := bnd G fun ms st => if ms.length ≤ 1000 then match stAll is ms.reverse st with
    | some st' => some (.next, st')
    | none => none
  else none
theorem stAll_len : ∀ {is : List Nat} {ms : List MV} {st st' : St}, stAll is ms st = some st' → is.length = ms.length
  | [], [], _, _, _ => rfl
  | i :: is, m :: ms, st, st', h => congrArg Nat.succ (stAll_len (is := is) (ms := ms) h)
  | [], _ :: _, _, _, h => by cases h
  | _ :: _, [], _, _, h => by cases h
theorem NmL.len {xs : List Str} {is : List Nat} (h : NmL B xs is) : xs.length = is.length := by
  induction h with
  | nil => rfl
  | cons _ _ _ _ ih => rw [List.length_cons, List.length_cons, ih]
theorem x_tupS_ok {elts velts : List Expr} {k k' : Nat} {tp vp pos : Pos} {G : St → Option (List MV × St)} {names : List Str} {is : List Nat} (hG : EsS prog w hb β B r (spliced (backTo vp (starEach velts B.env))) G) (hsk : B.env.scope.kind = .function)
    (hN : NmL B names.reverse is)
    (hs : swapsWithSole [.Tuple elts k tp] (.Tuple velts k' vp) pos.line B.env = pure false) (hw : swappedStores [.Tuple elts k tp] (.Tuple velts k' vp) B.env = pure (some names)) :
    ExS prog w hb β B r (exec (.Assign [.Tuple elts k tp] (.Tuple velts k' vp) pos) B.env) (x_tupS G is) := by
  refine ⟨?_⟩
  intro A fr adr st st' m s Q E ha hi e hQ
  obtain ⟨ms, st1, e1, e⟩ := bnd_some e
  split at e
  · rename_i hl
    split at e
    · rename_i st2 e2
      cases e
      refine Assign_Tuple_swapped (ev_tuple hG ha hi e1 hl fun T adr1 h1 tk1 vs i1 ht r1 a1 => ?_) hs hw
      have hn : names.length = vs.size := by
        have := hN.len
        have h2 := stAll_len e2
        have h3 := r1.length
        rw [List.length_reverse] at this h2
        rw [Array.length_toList] at h3
        omega
      rw [hn]
      refine wpAny_unpackItems_tuple ha.h ht fun h' hx => ?_
      have kk := ext_keeps hx
      exact nmL_ok hN hsk (i1.keeps kk) (r1.keeps kk).reverse e2 fun h2 tk2 i2 a2 => hQ .next adr1 h2 tk2 i2 trivial ((a1.trans (.of_keeps kk)).trans a2)
    · cases e
  · cases e

/-! dicts -/
noncomputable def dE (i : Nat) : List (Nat × MV) → Option MV := gE i
theorem KRs.at {h : Heap} {adr : List Addr} {kvs : List (Str × Value)} {ds : List (Nat × MV)} (x : KRs β h adr kvs ds) {i : Nat} {n : Str} (hx : tb[i]? = some n) :
    (valueAt kvs n = none ∧ gE i ds = none) ∨ ∃ v m, valueAt kvs n = some v ∧ gE i ds = some m ∧ VR β h adr v m := by
  induction x with
  | nil => exact .inl ⟨rfl, rfl⟩
  | cons e v rr ih =>
    rename_i y u es j d ds
    have hb' : (y == n) = Nat.beq j i := str_beq e hx
    rw [gE]
    cases hc : Nat.beq j i with
    | true =>
      rw [if_pos rfl]
      have hyn : y = n := by rw [hc] at hb'; exact beq_iff_eq.mp hb'
      exact .inr ⟨u, d, by unfold valueAt; simp [List.lookup_cons, hyn], rfl, v⟩
    | false =>
      rw [if_neg Bool.false_ne_true]
      have hyn : y ≠ n := by rw [hc] at hb'; exact beq_eq_false_iff_ne.mp hb'
      rcases ih with ⟨a, b⟩ | ⟨v', m', a, b, c⟩
      · exact .inl ⟨by rw [← a]; unfold valueAt; simp [List.find?_cons, hyn, Ne.symm hyn], b⟩
      · exact .inr ⟨v', m', by rw [← a]; unfold valueAt; simp [List.find?_cons, hyn, Ne.symm hyn], b, c⟩

theorem stored_new {kvs : List (Str × Value)} {n : Str} {v : Value} (h : valueAt kvs n = none) : stored kvs n v = kvs ++ [(n, v)] := by
  unfold stored
  unfold valueAt at h
  rw [Option.map_eq_none_iff, List.find?_eq_none] at h
  rw [if_neg]
  rw [List.any_eq_true]
  rintro ⟨p, hp, q⟩
  exact h p hp q
theorem KRs.append {h : Heap} {adr : List Addr} {kvs : List (Str × Value)} {ds : List (Nat × MV)} (x : KRs β h adr kvs ds) {i : Nat} {n : Str} {v : Value} {m : MV} (hx : tb[i]? = some n) (hv : VR β h adr v m) : KRs β h adr (kvs ++ [(n, v)]) (ds ++ [(i, m)]) := by
  induction x with
  | nil => exact .cons hx hv .nil
  | cons e u _ ih => exact .cons e u ih
theorem KRs.length {h : Heap} {adr : List Addr} {kvs : List (Str × Value)} {ds : List (Nat × MV)} (x : KRs β h adr kvs ds) : kvs.length = ds.length := by
  induction x with
  | nil => rfl
  | cons e u _ ih => rw [List.length_cons, List.length_cons, ih]
theorem isStr_is {x : Str} {t : Tok} : (strKind prog w).is x (.str x t) = true := by
  show Value.isStrOf x (.str x t) = true
  simp [Value.isStrOf]
theorem Hp.dict {fr : List Env} {adr : List Addr} {objs : List AObj} {h : Heap} (x : Hp hb β fr adr objs h) (hw : β.w = w) {v : Value} {n : Nat} {ds : List (Nat × MV)} (r : VR β h adr v (.ref n)) (e : objs[n]? = some (.dict ds)) :
    ∃ a kvs, v = .ref a ∧ adr[n]? = some a ∧ h.DictOf (strKind prog w) a kvs ∧ KRs β h adr kvs ds ∧ (a == sysModules) = false := by
  obtain ⟨a, rfl, h1, h2⟩ := x.at_ref r e
  cases h2 with
  | dict e3 r3 =>
    subst hw
    refine ⟨a, _, rfl, h1, e3 prog, r3, ?_⟩
    have := x.low a (List.mem_of_getElem? h1)
    rw [beq_eq_false_iff_ne]
    rintro rfl
    exact Nat.lt_irrefl _ this

theorem pairs_any {p p' : Program} : ∀ {es : List DictEntry} {kvs : List (Str × Value)}, Pairs (strKind p w) es kvs → Pairs (strKind p' w) es kvs
  | _, _, .nil => .nil
  | _, _, .cons a b c => .cons a b (pairs_any c)
theorem dict_any {p p' : Program} {h : Heap} {a : Addr} {kvs : List (Str × Value)} (x : h.DictOf (strKind p w) a kvs) : h.DictOf (strKind p' w) a kvs :=
  let ⟨o, es, ep, e1, e2, e3, e4, e5, e6⟩ := x
  ⟨o, es, ep, e1, e2, e3, e4, pairs_any e5, e6⟩

noncomputable def e_newD_f (st : St) : Option (MV × St) := some (.ref st.objs.length, ⟨st.vars, st.objs ++ [.dict []]⟩)
theorem e_newD {pos : Pos} : EvS prog w hb β B r (eval (.Dict [] [] pos) B.env) e_newD_f := by
  refine ⟨?_⟩
  intro A fr adr st st' m s Q E ha hi e hQ
  cases e
  refine wpAny_Dict_empty ?_
  exact hQ _ (adr ++ [s.heap.objs.size]) _ s.toks (hi.alloc (.dict (fun p => Heap.DictOf.new s.heap) .nil)) (VR.last (fr := fr) hi.hp.len) .alloc

noncomputable def f_subD (F G : St → Option (MV × St)) : St → Option (MV × St) := bnd F fun a => bnd G fun b st => match a, b with
  | .ref n, .str i => match st.objs[n]? with
    | some (.dict ds) => match gE i ds with
      | some m => some (m, st)
      | none => none
    | _ => none
  | _, _ => none
theorem e_subD (hw : β.w = w) {value slice : Expr} {pos : Pos} {F G : St → Option (MV × St)} (hF : EvS prog w hb β B r (eval value B.env) F) (hG : EvS prog w hb β B r (eval slice B.env) G)
    (hs : ∀ o i, subscripted slice false o i = operate [o, i] (getItem o i)) :
    EvS prog w hb β B r (eval (.Subscript value slice pos) B.env) (f_subD F G) := by
  refine ⟨?_⟩
  intro A fr adr st st' m s Q E ha hi e hQ
  obtain ⟨m1, st1, e1, e⟩ := bnd_some e
  obtain ⟨m2, st2, e2, e⟩ := bnd_some e
  split at e
  · rename_i n i _
    split at e
    · rename_i ds e3
      split at e
      · rename_i m' e4
        cases e
        refine Subscript_ (Sm.two hF hG ha hi e1 e2 fun v1 v2 adr2 h2 tk2 i2 r1 r2 a2 => ?_)
        obtain ⟨a, kvs, rfl, h1, hD, hk, hne⟩ := i2.hp.dict (prog := prog) hw r1 e3
        cases r2 with
        | str t hx =>
          rcases hk.at hx with ⟨_, q⟩ | ⟨u, mm, q1, q2, q3⟩
          · rw [e4] at q; cases q
          · rw [e4] at q2; cases q2
            refine tail_any (ops := [.ref a, .str _ t]) (s := { s with heap := h2, toks := tk2 }) hD.typeIs slot_dict_getitem.lookup ?_ (hs _ _)
            exact wpAny_getItem_of isStr_is hD.mapOf q1 (hQ u adr2 h2 (tk2 + 1) i2 q3 a2)
      · cases e
    · cases e
  · cases e

noncomputable def t_inD (neg : Bool) (F G : St → Option (MV × St)) : St → Option (Bool × St) := bnd F fun a => bnd G fun b st => match a, b with
  | .str i, .ref n => match st.objs[n]? with
    | some (.dict ds) => some ((gE i ds).isSome ^^ neg, st)
    | _ => none
  | _, _ => none
theorem t_inD_ok (hw : β.w = w) {l rr : Expr} {neg : Bool} {pos : Pos} {whole : Sem Value} {F G : St → Option (MV × St)} (hF : EvS prog w hb β B r (eval l B.env) F) (hG : EvS prog w hb β B r (eval rr B.env) G)
    (hm : behindInMarks (if neg then CmpOp.NotIn else .In) rr = false) : TsS prog w hb β B r (isTrue (.Compare l [if neg then CmpOp.NotIn else .In] [rr] pos) B.env whole) (t_inD neg F G) := by
  refine ⟨?_⟩
  intro A fr adr st st' m s Q E ha hi e hQ
  obtain ⟨m1, st1, e1, e⟩ := bnd_some e
  obtain ⟨m2, st2, e2, e⟩ := bnd_some e
  split at e
  · rename_i i n _
    split at e
    · rename_i ds e3
      cases e
      refine wpAny_isTrue_Compare1 (Sm.two hF hG ha hi e1 e2 fun v1 v2 adr2 h2 tk2 i2 r1 r2 a2 => ?_) hm
      obtain ⟨a, kvs, rfl, h1, hD, hk, hne⟩ := i2.hp.dict (prog := prog) hw r2 e3
      cases r1 with
      | @str x _ t hx =>
        have q : (valueAt kvs x).isSome = (gE i ds).isSome := by
          rcases hk.at hx with ⟨q1, q2⟩ | ⟨u, mm, q1, q2, q3⟩ <;> rw [q1, q2] <;> rfl
        cases neg with
        | true =>
          refine wpAny_notIn_of isStr_is hne hD.mapOf (wpAny_truthy_bool ?_)
          refine hQ _ adr2 h2 (tk2 + 1) i2 ?_ a2
          try dsimp only
          rw [q, Bool.xor_true]
        | false =>
          refine wpAny_in_of isStr_is hne hD.mapOf (wpAny_truthy_bool ?_)
          refine hQ _ adr2 h2 (tk2 + 1) i2 ?_ a2
          try dsimp only
          rw [q, Bool.xor_false]
    · cases e
  · cases e

noncomputable def x_setD (V O I : St → Option (MV × St)) : St → Option (Fl × St) := bnd V fun v => bnd O fun o => bnd I fun i st => match o, i with
  | .ref n, .str k => match st.objs[n]? with
    | some (.dict ds) => if (gE k ds).isNone && decide (ds.length ≤ 100) then some (.next, ⟨st.vars, st.objs.set n (.dict (ds ++ [(k, v)]))⟩) else none
    | _ => none
  | _, _ => none
theorem x_setD_ok (hw : β.w = w) {value o i : Expr} {p pos : Pos} {V O I : St → Option (MV × St)} (hV : EvS prog w hb β B r (eval value B.env) V) (hO : EvS prog w hb β B r (eval o B.env) O) (hI : EvS prog w hb β B r (eval i B.env) I)
    (hs : swapsWith value (some (.Subscript o i p)) pos.line B.env = pure false) : ExS prog w hb β B r (exec (.Assign [.Subscript o i p] value pos) B.env) (x_setD V O I) := by
  refine ⟨?_⟩
  intro A fr adr st st' m s Q E ha hi e hQ
  obtain ⟨m1, st1, e1, e⟩ := bnd_some e
  obtain ⟨m2, st2, e2, e⟩ := bnd_some e
  obtain ⟨m3, st3, e3, e⟩ := bnd_some e
  split at e
  · rename_i n k _
    split at e
    · rename_i ds ex
      split at e
      · rename_i hc
        rw [Bool.and_eq_true, decide_eq_true_eq, Option.isNone_iff_eq_none] at hc
        cases e
        refine wpAny_Assign_Subscript (hV.run A fr adr st st1 m1 s _ E ha hi e1 fun v1 adr1 h1 tk1 i1 r1 a1 => hO.run A fr adr1 st1 st2 _ _ _ E ha i1 e2 fun v2 adr2 h2 tk2 i2 r2 a2 => hI.run A fr adr2 st2 st3 _ _ _ E ha i2 e3 fun v3 adr3 h3 tk3 i3 r3 a3 => ?_) hs
        obtain ⟨a, kvs, rfl, hn, hD, hk, hne⟩ := i3.hp.dict (prog := prog) hw (r2.mono a3 i2.noSeq) ex
        cases r3 with
        | @str x _ t hx =>
          have q : valueAt kvs x = none := by
            rcases hk.at hx with ⟨q1, _⟩ | ⟨_, _, _, q2, _⟩
            · exact q1
            · rw [hc.1] at q2; cases q2
          refine wpAny_setItem_pairs (s := { s with heap := h3, toks := tk3 }) isStr_is hD (fun h' hD' hsb => ?_) (by rw [hk.length, sizeLine_eq]; omega)
          rw [stored_new q] at hD'
          have hal : ∃ o, h'.get? a = some o := let ⟨o, _, _, e, _⟩ := hD'; ⟨o, e⟩
          have hw' : Adv [] [] adr3 h3 adr3 h' := .write hsb (List.mem_of_getElem? hn) hal
          subst hw
          refine hQ .next adr3 h' _ (i3.write hn hsb (.dict (kvs := kvs ++ [(_, v1)]) (fun p => ?_) ((hk.mono hw' noF).append hx (((r1.mono a2 i1.noSeq).mono a3 i2.noSeq).mono hw' noF))) hal) trivial (((a1.trans a2).trans a3).trans (.write hsb (List.mem_of_getElem? hn) hal))
          exact dict_any hD'
      · cases e
    · cases e
  · cases e

/-! membership in a list or tuple of ints -/
noncomputable def intsOf : List MV → Option (List Int)
  | [] => some []
  | .int i :: r => match intsOf r with
    | some l => some (i :: l)
    | none => none
  | _ :: _ => none
theorem intsOf_are {h : Heap} {adr : List Addr} : ∀ {vs : List Value} {ms : List MV} {is : List Int}, VRs β h adr vs ms → intsOf ms = some is → IntsAre vs is
  | _, [], _, r, e => by cases r; cases e; exact .nil
  | _, .int i :: ms, _, r, e => by
    cases r with
    | cons a b =>
      rw [intsOf] at e
      split at e
      · rename_i l q; cases e; cases a; exact .cons _ _ (intsOf_are b q)
      · cases e
  | _, .undef :: _, _, _, e => by cases e
  | _, .none :: _, _, _, e => by cases e
  | _, .bool _ :: _, _, _, e => by cases e
  | _, .sym _ :: _, _, _, e => by cases e
  | _, .str _ :: _, _, _, e => by cases e
  | _, .list _ :: _, _, _, e => by cases e
  | _, .ref _ :: _, _, _, e => by cases e

noncomputable def t_inL (F G : St → Option (MV × St)) : St → Option (Bool × St) := bnd F fun a => bnd G fun b st => match a, lookL st.objs b with
  | .int k, some ms => match intsOf ms with
    | some is => some (is.any (· == k), st)
    | none => none
  | _, _ => none
theorem t_inL_ok {l rr : Expr} {pos : Pos} {whole : Sem Value} {F G : St → Option (MV × St)} (hF : EvS prog w hb β B r (eval l B.env) F) (hG : EvS prog w hb β B r (eval rr B.env) G)
    (hm : behindInMarks CmpOp.In rr = false) : TsS prog w hb β B r (isTrue (.Compare l [.In] [rr] pos) B.env whole) (t_inL F G) := by
  refine ⟨?_⟩
  intro A fr adr st st' m s Q E ha hi e hQ
  obtain ⟨m1, st1, e1, e⟩ := bnd_some e
  obtain ⟨m2, st2, e2, e⟩ := bnd_some e
  split at e
  · rename_i k ms e3 _
    split at e
    · rename_i is e4
      cases e
      refine wpAny_isTrue_Compare1 (Sm.two hF hG ha hi e1 e2 fun v1 v2 adr2 h2 tk2 i2 r1 r2 a2 => ?_) hm
      obtain ⟨a, vs, n, rfl, ho, rs⟩ := lookL_ok i2.hp r2 e3
      cases r1
      exact in_list_ints ⟨_, ho, rfl, n, rfl⟩ (intsOf_are rs e4) (wpAny_truthy_bool (hQ _ adr2 h2 tk2 i2 rfl a2))
    · cases e
  · cases e

noncomputable def t_ninT (F : St → Option (MV × St)) (G : St → Option (List MV × St)) : St → Option (Bool × St) := bnd F fun a => bnd G fun ms st => match a, intsOf ms with
  | .int k, some is => if ms.length ≤ 1000 then some (!(is.any (· == k)), st) else none
  | _, _ => none
theorem t_ninT_ok {l : Expr} {elts : List Expr} {kk : Nat} {p pos : Pos} {whole : Sem Value} {F : St → Option (MV × St)} {G : St → Option (List MV × St)} (hF : EvS prog w hb β B r (eval l B.env) F) (hG : EsS prog w hb β B r (spliced (backTo p (starEach elts B.env))) G)
    (hm : behindInMarks CmpOp.NotIn (.Tuple elts kk p) = false) : TsS prog w hb β B r (isTrue (.Compare l [.NotIn] [.Tuple elts kk p] pos) B.env whole) (t_ninT F G) := by
  refine ⟨?_⟩
  intro A fr adr st st' m s Q E ha hi e hQ
  obtain ⟨m1, st1, e1, e⟩ := bnd_some e
  obtain ⟨m2, st2, e2, e⟩ := bnd_some e
  split at e
  · rename_i k is e3 _
    split at e
    · rename_i hl
      cases e
      refine wpAny_isTrue_Compare1 (hF.run A fr adr st st1 _ s _ E ha hi e1 fun v1 adr1 h1 tk1 i1 r1 a1 => ev_tuple hG ha i1 e2 hl fun T adr2 h2 tk2 vs i2 ht r2 a2 => ?_) hm
      cases r1
      exact notin_tuple_ints ht (intsOf_are r2 e3) (wpAny_truthy_bool (hQ _ adr2 h2 tk2 i2 rfl (a1.trans a2)))
    · cases e
  · cases e

/-! len, and a str's item -/
noncomputable def strLen : Nat → Option Int
  | 1 => some 2
  | 2 => some 2
  | 3 => some 2
  | _ => none
noncomputable def c_lenX (ms : List MV) (objs : List AObj) : Option (MV × List AObj) := match ms with
  | [.str i] => match strLen i with
    | some k => some (.int k, objs)
    | none => none
  | [.ref n] => match objs[n]? with
    | some (.dict ds) => if decide (ds.length ≤ 1000) then some (.int ds.length, objs) else none
    | _ => c_len ms objs
  | _ => c_len ms objs
theorem strLen_ok {i : Nat} {k : Int} {x : Str} (h : strLen i = some k) (hx : tb[i]? = some x) : (x.length : Int) = k ∧ k = 2 := by
  unfold strLen at h
  split at h <;> first | (cases h; cases hx; exact ⟨by rfl, rfl⟩) | cases h
theorem c_lenX_ok (hw : β.w = w) : CallS prog w hb β r (.builtin "len") c_lenX := by
  intro A fr adr objs objs' ms m vs s Q E ha hp hv e hQ
  unfold c_lenX at e
  split at e
  · rename_i i
    split at e
    · rename_i k e2
      cases e
      cases hv with
      | cons h1 h2 =>
        cases h2
        cases h1 with
        | str t hx =>
          obtain ⟨q1, q2⟩ := strLen_ok e2 hx
          refine len_str (by omega) ?_
          rw [q1]
          exact hQ _ adr s.heap _ hp (.int _ _) .refl
    · cases e
  · rename_i n
    split at e
    · rename_i ds e2
      split at e
      · rename_i hl
        rw [decide_eq_true_eq] at hl
        cases e
        cases hv with
        | cons h1 h2 =>
          cases h2
          obtain ⟨a, kvs, rfl, hn, hD, hk, hne⟩ := hp.dict (prog := prog) hw h1 e2
          refine call_len_dict hne hD (by rw [hk.length]; omega) ?_
          rw [hk.length]
          exact hQ _ adr s.heap _ hp (.int _ _) .refl
      · cases e
    · exact c_len_ok A fr adr objs objs' _ m vs s Q E ha hp hv e hQ
  · exact c_len_ok A fr adr objs objs' _ m vs s Q E ha hp hv e hQ

noncomputable def strAt : Nat → Int → Option Nat
  | 1, 1 => some 4
  | 2, 1 => some 4
  | 3, 1 => some 4
  | _, _ => none
noncomputable def f_strAt (F G : St → Option (MV × St)) : St → Option (MV × St) := bnd F fun a => bnd G fun b st => match a, b with
  | .str i, .int k => match strAt i k with
    | some j => some (.str j, st)
    | none => none
  | _, _ => none
theorem strAt_ok {i j : Nat} {k : Int} {x : Str} (h : strAt i k = some j) (hx : tb[i]? = some x) : (decide (k < -(2 ^ 63 : Int)) || decide (k ≥ 2 ^ 63)) = false ∧ (seqIndex? k x.length).bind (x.cps[·]?) = some 37 ∧ tb[j]? = some ⟨#[37]⟩ := by
  unfold strAt at h
  split at h <;> first | (cases h; cases hx; exact ⟨by decide, by rfl, by rfl⟩) | cases h
theorem e_strAt {value slice : Expr} {pos : Pos} {F G : St → Option (MV × St)} (hF : EvS prog w hb β B r (eval value B.env) F) (hG : EvS prog w hb β B r (eval slice B.env) G)
    (hs : ∀ o i, subscripted slice false o i = operate [o, i] (getItem o i)) :
    EvS prog w hb β B r (eval (.Subscript value slice pos) B.env) (f_strAt F G) := by
  refine ⟨?_⟩
  intro A fr adr st st' m s Q E ha hi e hQ
  obtain ⟨m1, st1, e1, e⟩ := bnd_some e
  obtain ⟨m2, st2, e2, e⟩ := bnd_some e
  split at e
  · rename_i i k _
    split at e
    · rename_i j e4
      cases e
      refine Subscript_ (Sm.two hF hG ha hi e1 e2 fun v1 v2 adr2 h2 tk2 i2 r1 r2 a2 => ?_)
      cases r2
      cases r1 with
      | str t hx =>
        obtain ⟨q1, q2, q3⟩ := strAt_ok e4 hx
        refine tail_any (ops := [.str _ t, .int k _]) (s := { s with heap := h2, toks := tk2 }) (typeIs_str _ _ t) PySem.F.slot_str_getitem.lookup ?_ (hs _ _)
        exact getItem_str q1 q2 (hQ _ adr2 h2 (tk2 + 1) i2 (.str _ q3) a2)
    · cases e
  · cases e
end
end Mine
end

section
open PySem PySem.W PyProof.Rows PySem.Spec PySem.Calls
set_option maxRecDepth 100000
namespace Mine

section
variable {prog : Program} {w : World} {hb : Heap} {β : Gl} {B : Bk} {r : Nat} {K : Frag} {C : Addr} {names : List Str}

/-- a class called: a new object, then its `__init__` -/
noncomputable def c_make (C : Addr) (F : List MV → List AObj → Option (MV × List AObj)) (ms : List MV) (objs : List AObj) : Option (MV × List AObj) :=
  match F (.ref (objs.length + 1) :: ms) (objs ++ [.attrs [], .inst C objs.length]) with
  | some (.none, objs') => some (.ref (objs.length + 1), objs')
  | _ => none

structure MakeOk (K : Frag) (C fI : Addr) : Prop where
  makes : makesIn K C = true
  init : findIn K (.ref C) "__init__" = some (some (.ref fI))
  fn : typeIn K (.ref fI) = some (.type "function")

theorem call_class {fI : Addr} {F : List MV → List AObj → Option (MV × List AObj)} (hK : K.In hb) (hM : MakeOk K C fI) (hF : CallC prog w hb β r (.ref fI) F) : CallS prog w hb β (r + 1) (.ref C) (c_make C F) := by
  intro A fr adr objs objs' ms m vs s Q E ha hp hv e hQ
  unfold c_make at e
  split at e
  · rename_i objs2 e1
    cases e
    obtain ⟨hh, g, d, t, os⟩ := s
    have X : K.In hh := hK.keeps hp.base
    have p1 := hp.alloc (o := emptyDict) (ao := .attrs []) (.attrs (es := []) push_size .nil)
    have hsz : (hh.push emptyDict).objs.size = hh.objs.size + 1 := Heap.size_push ..
    have hx : ((hh.push emptyDict).push (instObj C hh.objs.size)).get? (hh.objs.size + 1) = some (instObj C hh.objs.size) := by
      have := push_size (h := hh.push emptyDict) (o := instObj C hh.objs.size)
      rwa [hsz] at this
    have p2 := p1.alloc (o := instObj C hh.objs.size) (ao := .inst C objs.length) (.inst (ad := hh.objs.size) push_size (by
      rw [List.getElem?_append_left (by simp [hp.len]), List.getElem?_append_right (by rw [hp.len]; exact Nat.le_refl _), hp.len, Nat.sub_self]; rfl))
    have adv : Adv [] (frs fr) adr hh (adr ++ [hh.objs.size] ++ [(hh.push emptyDict).objs.size]) ((hh.push emptyDict).push (instObj C hh.objs.size)) := .trans .alloc .alloc
    refine wpAny_call (make_core (makes_of X hM.makes) (looks_findIn X hM.init) (fun self => bind_fn X self hM.fn) (.inl rfl) ?_)
    refine hF _ fr _ _ objs' _ .none _ _ _ ?_ p2 (.cons (d := .ref (objs.length + 1)) ?_ (hv.mono adv fun a h o e => by rcases h with h | h; cases h; exact hp.frSeq h e)) (by rw [List.append_assoc]; exact e1) fun v adr' h' tk' p' r' a' => ?_
    · refine ⟨ha.h, ?_, ?_, ?_⟩
      · show pushEnvs (Code.envs (Code.builtin "type.__call__" ⟨.ref C :: vs, []⟩)) A.frames = _
        rw [ha.f]; rfl
      · show A.depth + 1 + r < _
        have := ha.d; omega
      · show A.units + _ + 8 * r < _
        have := ha.u
        have hu : (Code.builtin "type.__call__" ⟨.ref C :: vs, []⟩).cUnits ≤ 8 := by
          have : (Code.builtin "type.__call__" ⟨.ref C :: vs, []⟩).cUnits = 1 := rfl
          omega
        omega
    · refine .ref ?_
      rw [List.getElem?_append_right (by simp [hp.len])]
      simp [hp.len, hsz]
    · cases r'
      refine ⟨rfl, hQ _ adr' h' tk' p' ?_ (adv.trans a')⟩
      refine .ref (a'.at ?_)
      rw [List.getElem?_append_right (by simp [hp.len])]
      simp [hp.len, hsz]
  · cases e
end
end Mine
end

section
open PySem PySem.W PyProof.Rows PySem.Spec PySem.Calls
set_option maxRecDepth 100000
namespace Mine

/-! the block of a comprehension -/
noncomputable def clF (env : Env) : List (Str × NameKind) → List (Str × Addr) → List (Str × Addr)
  | [], acc => acc
  | (n, k) :: r, acc => if k == .free then (match env.cells.lookup n with
    | some c => clF env r ((n, c) :: acc)
    | none => clF env r acc) else clF env r acc

theorem clF_loop {env : Env} (f : Str × NameKind → List (Str × Addr) → Sem (ForInStep (List (Str × Addr))))
    (hf : ∀ name kind cs, f (name, kind) cs = if kind == .free then (do let a ← cellOf env name; pure (.yield ((name, a) :: cs))) else pure (.yield cs)) :
    ∀ (names : List (Str × NameKind)) (acc : List (Str × Addr)), (∀ x ∈ names, x.2 = .free → (env.cells.lookup x.1).isSome = true) → forIn names acc f = pure (clF env names acc)
  | [], acc, _ => by rw [List.forIn_nil]; rfl
  | (name, kind) :: r, acc, h => by
    rw [List.forIn_cons, hf]
    rw [clF]
    cases hk : kind == NameKind.free with
    | true =>
      rw [if_pos rfl, if_pos rfl]
      have hk' : kind = .free := beq_iff_eq.mp hk
      obtain ⟨c, hc⟩ := Option.isSome_iff_exists.mp (h _ (.head _) hk')
      rw [hc]
      have := clF_loop f hf r ((name, c) :: acc) fun x hx => h x (.tail _ hx)
      unfold cellOf
      dsimp only at hc
      rw [hc]
      exact this
    | false =>
      rw [if_neg Bool.false_ne_true, if_neg Bool.false_ne_true]
      exact clF_loop f hf r acc fun x hx => h x (.tail _ hx)
theorem closure_ok {scope : Scope} {env : Env} (h : ∀ x ∈ scope.names, x.2 = .free → (env.cells.lookup x.1).isSome = true) : closureFor scope env = pure (clF env scope.names []) := by
  unfold closureFor
  show (forIn scope.names ([] : List (Str × Addr)) _ >>= fun cs => pure cs) = _
  rw [clF_loop (env := env) _ (fun name kind cs => by cases hkc : kind == NameKind.free <;> simp [hkc]) scope.names [] h]
  rfl

theorem clF_mem {env : Env} {n : Str} {c : Addr} : ∀ {names : List (Str × NameKind)} {acc : List (Str × Addr)}, (n, c) ∈ clF env names acc → (n, c) ∈ acc ∨ (env.cells.lookup n = some c ∧ (n, NameKind.free) ∈ names)
  | [], acc, h => .inl h
  | (name, kind) :: r, acc, h => by
    rw [clF] at h
    split at h
    · rename_i hk
      have hk' : kind = .free := beq_iff_eq.mp hk
      subst hk'
      split at h
      · rename_i c' hc
        rcases clF_mem h with h | ⟨h1, h2⟩
        · rcases List.mem_cons.mp h with e | h
          · cases e; exact .inr ⟨hc, .head _⟩
          · exact .inl h
        · exact .inr ⟨h1, .tail _ h2⟩
      · rcases clF_mem h with h | ⟨h1, h2⟩
        · exact .inl h
        · exact .inr ⟨h1, .tail _ h2⟩
    · rcases clF_mem h with h | ⟨h1, h2⟩
      · exact .inl h
      · exact .inr ⟨h1, .tail _ h2⟩
theorem clF_acc {env : Env} {n : Str} : ∀ {names : List (Str × NameKind)} {acc : List (Str × Addr)}, (acc.lookup n).isSome = true → ((clF env names acc).lookup n).isSome = true
  | [], acc, h => h
  | (name, kind) :: r, acc, h => by
    rw [clF]
    split
    · split
      · refine clF_acc ?_
        rw [List.lookup_cons]
        split
        · rfl
        · exact h
      · exact clF_acc h
    · exact clF_acc h
theorem clF_has {env : Env} {n : Str} : ∀ {names : List (Str × NameKind)} {acc : List (Str × Addr)}, (n, NameKind.free) ∈ names → (env.cells.lookup n).isSome = true → ((clF env names acc).lookup n).isSome = true
  | (name, kind) :: r, acc, h, hs => by
    rw [clF]
    rcases List.mem_cons.mp h with e | h
    · cases e
      rw [if_pos (by rfl)]
      obtain ⟨c, hc⟩ := Option.isSome_iff_exists.mp hs
      rw [hc]
      exact clF_acc (by rw [List.lookup_cons]; simp)
    · split
      · split
        · exact clF_has h hs
        · exact clF_has h hs
      · exact clF_has h hs
theorem clF_apart {env : Env} (ha : env.cells.Pairwise fun x y => x.2 ≠ y.2) : ∀ {names : List (Str × NameKind)} {acc : List (Str × Addr)}, (names.map (·.1)).Nodup → (∀ x ∈ acc, env.cells.lookup x.1 = some x.2 ∧ x.1 ∉ names.map (·.1)) →
    (acc.Pairwise fun x y => x.2 ≠ y.2) → (clF env names acc).Pairwise fun x y => x.2 ≠ y.2
  | [], acc, _, _, h => h
  | (name, kind) :: r, acc, hn, hm, h => by
    rw [List.map_cons, List.nodup_cons] at hn
    have rest : ∀ x ∈ acc, env.cells.lookup x.1 = some x.2 ∧ x.1 ∉ r.map (·.1) := fun x hx => ⟨(hm x hx).1, fun q => (hm x hx).2 (by rw [List.map_cons]; exact .tail _ q)⟩
    rw [clF]
    split
    · split
      · rename_i c hc
        refine clF_apart ha hn.2 (fun x hx => ?_) (List.pairwise_cons.mpr ⟨fun y hy e => ?_, h⟩)
        · rcases List.mem_cons.mp hx with rfl | hx
          · exact ⟨hc, hn.1⟩
          · exact rest x hx
        · obtain ⟨q1, q2⟩ := hm y hy
          refine q2 ?_
          have e : c = y.2 := e
          have := name_of_addr ha (mem_of_lookup hc) (e ▸ mem_of_lookup q1)
          rw [List.map_cons, ← this]; exact .head _
      · exact clF_apart ha hn.2 rest h
    · exact clF_apart ha hn.2 rest h

theorem pushCells_size : ∀ (names : List (Str × NameKind)) (h : Heap), h.objs.size ≤ (pushCells h names).objs.size
  | [], h => Nat.le_refl _
  | (_, kind) :: r, h => by
    unfold pushCells
    split
    · exact Nat.le_trans (by rw [Heap.size_push]; omega) (pushCells_size r _)
    · exact pushCells_size r h
theorem cellsFrom_gen : ∀ (names : List (Str × NameKind)) (h : Heap) (acc : List (Str × Addr)), (∀ x ∈ acc, x.2 < h.objs.size) → (acc.Pairwise fun x y => x.2 ≠ y.2) →
    ((cellsFrom h.objs.size names acc).Pairwise fun x y => x.2 ≠ y.2) ∧ ∀ n c, (n, c) ∈ cellsFrom h.objs.size names acc → (n, c) ∈ acc ∨ (h.objs.size ≤ c ∧ (n, NameKind.cell) ∈ names ∧ (pushCells h names).IsCell c none)
  | [], h, acc, _, hp => ⟨hp, fun n c hm => .inl hm⟩
  | (name, kind) :: r, h, acc, hl, hp => by
    unfold cellsFrom pushCells
    split
    · rename_i hk
      have hk' : kind = .cell := beq_iff_eq.mp hk
      subst hk'
      have ih := cellsFrom_gen r (h.push { cls := .type "cell", data := .cell none }) ((name, h.objs.size) :: acc) (fun x hx => by
        rw [Heap.size_push]
        rcases List.mem_cons.mp hx with rfl | hx
        · exact Nat.lt_succ_self _
        · exact Nat.lt_succ_of_lt (hl x hx)) (List.pairwise_cons.mpr ⟨fun y hy e => by
          have := hl y hy
          have e : h.objs.size = y.2 := e
          rw [← e] at this
          exact Nat.lt_irrefl _ this, hp⟩)
      rw [Heap.size_push] at ih
      refine ⟨ih.1, fun n c hm => ?_⟩
      rcases ih.2 n c hm with q | ⟨q1, q2, q3⟩
      · rcases List.mem_cons.mp q with e | q
        · cases e
          exact .inr ⟨Nat.le_refl _, .head _, ⟨_, pushCells_keeps _ _ _ _ (Heap.get?_push_size _ rfl), rfl⟩⟩
        · exact .inl q
      · exact .inr ⟨by omega, .tail _ q2, q3⟩
    · have ih := cellsFrom_gen r h acc hl hp
      refine ⟨ih.1, fun n c hm => ?_⟩
      rcases ih.2 n c hm with q | ⟨q1, q2, q3⟩
      · exact .inl q
      · exact .inr ⟨q1, .tail _ q2, q3⟩
theorem cellsFrom_out {x : Str} : ∀ {names : List (Str × NameKind)} {n : Nat} {acc : List (Str × Addr)}, (x, NameKind.cell) ∉ names → (cellsFrom n names acc).lookup x = acc.lookup x
  | [], _, _, _ => rfl
  | (name, kind) :: r, n, acc, h => by
    rw [List.mem_cons, not_or] at h
    unfold cellsFrom
    split
    · rename_i hk
      have hk' : kind = .cell := beq_iff_eq.mp hk
      subst hk'
      rw [cellsFrom_out h.2, List.lookup_cons]
      have : (x == name) = false := by
        rw [beq_eq_false_iff_ne]; rintro rfl; exact h.1 rfl
      rw [this]
    · exact cellsFrom_out h.2

theorem env_comp {M : Model} {A : Around} {E : Value → Shared → Prop} {s : Shared} {scope : Scope} {globals : Addr} {cl : List (Str × Addr)} {qual : Str} {env : Env} {Q : Env → Shared → Prop}
    (h : Q (newEnv scope s.heap.objs.size globals (cellsFrom (s.heap.objs.size + 1) scope.names cl) qual none .none (some env) builtinsNs) { s with heap := pushCells (s.heap.push { cls := .type "dict", data := .dict #[] }) scope.names }) :
    wpAny M A (newFunctionEnv scope globals cl [] qual none .none (some env)) Q E s := by
  simp only [newFunctionEnv, Option.isSome_some, if_true]
  refine wpAny_bind (wpAny_alloc ?_)
  refine wpAny_bind (wpAny_layCells _ (fun name kind cells => by cases hkc : kind == NameKind.cell <;> simp [hkc]) _ _ _ _ ?_)
  rw [show ({ s with heap := s.heap.push { cls := .type "dict", data := .dict #[] } } : Shared).heap.objs.size = s.heap.objs.size + 1 from Heap.size_push ..]
  exact wpAny_pure h

noncomputable def cellsOfC (scope : Scope) (env : Env) (C : Addr) : List (Str × Addr) := cellsFrom (C + 1) scope.names (clF env scope.names [])
noncomputable def cBk (B : Bk) (scope : Scope) (ns own : List Str) (C : Addr) : Bk :=
  { env := compEnvC scope (cellsOfC scope B.env C) C B.env, ns := ns, ws := own, W := C :: own.filterMap fun x => (cellsOfC scope B.env C).lookup x }

noncomputable def pick (vars : List MV) : Option Nat → MV
  | some j => (vars[j]?).getD .undef
  | none => .undef
noncomputable def varsC (src : List (Option Nat)) (vars : List MV) : List MV := src.map (pick vars)

/-- what must be known of a comprehension's scope -/
structure CompOk (B : Bk) (scope : Scope) (ns own : List Str) (src : List (Option Nat)) : Prop where
  free : (scope.names.all fun x => !(x.2 == .free) || (B.env.cells.lookup x.1).isSome) = true
  kind : scope.kind = .function
  names : (scope.names.all fun x => !(x.2 == .local) || scope.names.lookup x.1 == some .local) = true
  nodup : (scope.names.map (·.1)).Nodup
  own : (own.all fun x => !(scope.names.contains (x, .free)) && (scope.names.lookup x == some .local || scope.names.contains (x, .cell))) = true
  src : ((ns.zip src).all fun p => match p.2 with
    | some j => B.ns[j]? == some p.1 && (B.env.kindOf p.1 == some .cell || B.env.kindOf p.1 == some .free) && scope.names.contains (p.1, .free) && ((relabel scope B.env).names.lookup p.1 == some .free || (relabel scope B.env).names.lookup p.1 == some .cell)
    | none => true) = true

section
variable {prog : Program} {w : World} {hb : Heap} {β : Gl} {B : Bk} {r : Nat}

theorem CompOk.closure {scope : Scope} {ns own : List Str} {src : List (Option Nat)} (x : CompOk B scope ns own src) : closureFor scope B.env = pure (clF B.env scope.names []) :=
  closure_ok fun y hy hf => by
    have := List.all_eq_true.mp x.free y hy
    rw [hf] at this
    simpa using this
theorem CompOk.local {scope : Scope} {ns own : List Str} {src : List (Option Nat)} (x : CompOk B scope ns own src) : ∀ y ∈ scope.names, y.2 = .local → scope.names.lookup y.1 = some .local := fun y hy hf => by
  have := List.all_eq_true.mp x.names y hy
  rw [hf] at this
  simpa using this

theorem fresh_ge {h : Heap} {a : Addr} (ha : h.objs.size ≤ a) : h.get? a = none := by
  cases e : h.get? a with
  | none => rfl
  | some o => exact absurd (Heap.lt_size e) (Nat.not_lt.mpr ha)

theorem lookup_mem {α : Type} [BEq α] {l : List (Str × α)} {n : Str} {c : α} (h : l.lookup n = some c) : (n, c) ∈ l := mem_of_lookup h

theorem relabel_cell {scope : Scope} {env : Env} {x : Str} (h : (relabel scope env).names.lookup x = some .cell) : (x, NameKind.cell) ∈ scope.names ∨ (x, NameKind.free) ∈ scope.names := by
  have := mem_of_lookup h
  obtain ⟨⟨n, k⟩, hm, e⟩ := List.mem_map.mp this
  dsimp only at e
  split at e
  · rename_i hc
    cases e
    simp only [Bool.and_eq_true, beq_iff_eq] at hc
    obtain ⟨⟨rfl, _⟩, _⟩ := hc
    exact .inr hm
  · cases e; exact .inl hm

/-- the block stands once its env has been laid -/
theorem comp_blk {scope : Scope} {ns own : List Str} {src : List (Option Nat)} (x : CompOk B scope ns own src) {fr : List Env} {adr : List Addr} {st : St} {h : Heap} (i : Inv hb β B fr adr st h) :
    Inv hb β (cBk B scope ns own h.objs.size) fr adr ⟨varsC src st.vars, st.objs⟩ (pushCells (h.push { cls := .type "dict", data := .dict #[] }) scope.names) ∧ ∀ a ∈ (cBk B scope ns own h.objs.size).W, h.objs.size ≤ a := by
  have keep : ∀ b o, h.get? b = some o → (pushCells (h.push { cls := .type "dict", data := .dict #[] }) scope.names).get? b = some o := fun b o e => pushCells_keeps _ _ _ _ (Heap.get?_push_of_some _ e)
  have hbn : ∀ a, h.objs.size ≤ a → hb.get? a = none := fun a ha => by
    cases q : hb.get? a with
    | none => rfl
    | some o => have := i.hp.base _ _ q; rw [fresh_ge ha] at this; cases this
  have nadr : ∀ a, h.objs.size ≤ a → a ∉ adr := fun a ha hm => by
    obtain ⟨o, q⟩ := i.hp.alive a hm
    rw [fresh_ge ha] at q; cases q
  have clmem : ∀ n c, (n, c) ∈ clF B.env scope.names [] → B.env.cells.lookup n = some c ∧ (n, NameKind.free) ∈ scope.names := fun n c hm => (clF_mem hm).resolve_left (by intro h; cases h)
  have cllt : ∀ y ∈ clF B.env scope.names [], y.2 < (h.push { cls := .type "dict", data := .dict #[] }).objs.size := fun y hy => by
    obtain ⟨_, v, hc⟩ := i.blk.cell y.1 y.2 (clmem _ _ hy).1
    rw [Heap.size_push]
    exact Nat.lt_succ_of_lt hc.lt
  have gen := cellsFrom_gen scope.names (h.push { cls := .type "dict", data := .dict #[] }) (clF B.env scope.names []) cllt (clF_apart i.blk.apart x.nodup (fun _ h => by cases h) .nil)
  rw [Heap.size_push] at gen
  have mem : ∀ n c, (cellsOfC scope B.env h.objs.size).lookup n = some c → (B.env.cells.lookup n = some c ∧ (n, NameKind.free) ∈ scope.names) ∨ (h.objs.size < c ∧ (n, NameKind.cell) ∈ scope.names ∧ (pushCells (h.push { cls := .type "dict", data := .dict #[] }) scope.names).IsCell c none) := fun n c hl => by
    rcases gen.2 n c (mem_of_lookup hl) with q | q
    · exact .inl (clmem _ _ q)
    · exact .inr q
  have hns : (pushCells (h.push { cls := .type "dict", data := .dict #[] }) scope.names).Ns h.objs.size fun _ => none := (Heap.Ns.new h (.type "dict")).keeps (pushCells_keeps _ _)
  refine ⟨⟨i.hp.keeps keep, ⟨⟨_, hns⟩, .head _, fun a ha => ?_, fun y c hc => ?_, fun y hy hk => ?_, gen.1, fun k y mv h1 h2 h3 => ?_⟩⟩, fun a ha => ?_⟩
  rotate_right
  · rcases List.mem_cons.mp ha with rfl | ha
    · exact Nat.le_refl _
    · obtain ⟨y, hy, hl⟩ := List.mem_filterMap.mp ha
      have ho := List.all_eq_true.mp x.own y hy
      rw [Bool.and_eq_true, Bool.not_eq_true'] at ho
      rcases mem y a hl with ⟨_, q⟩ | ⟨q1, q2, q3⟩
      · rw [List.contains_iff_mem.mpr q] at ho; cases ho.1
      · exact Nat.le_of_lt q1
  · rcases List.mem_cons.mp ha with rfl | ha
    · exact ⟨nadr _ (Nat.le_refl _), hbn _ (Nat.le_refl _), .inl ⟨_, hns⟩⟩
    · obtain ⟨y, hy, hl⟩ := List.mem_filterMap.mp ha
      have ho := List.all_eq_true.mp x.own y hy
      rw [Bool.and_eq_true, Bool.not_eq_true'] at ho
      rcases mem y a hl with ⟨_, q⟩ | ⟨q1, q2, q3⟩
      · rw [List.contains_iff_mem.mpr q] at ho; cases ho.1
      · exact ⟨nadr _ (Nat.le_of_lt q1), hbn _ (Nat.le_of_lt q1), .inr ⟨_, q3⟩⟩
  · rcases mem y c hc with ⟨q, _⟩ | ⟨q1, q2, q3⟩
    · obtain ⟨h1, v, h2⟩ := i.blk.cell y c q
      exact ⟨h1, v, h2.keeps keep⟩
    · exact ⟨nadr _ (Nat.le_of_lt q1), _, q3⟩
  · have ho := List.all_eq_true.mp x.own y hy
    rw [Bool.and_eq_true, Bool.or_eq_true, beq_iff_eq] at ho
    have hk' : (relabel scope B.env).names.lookup y = some .cell := hk
    rcases ho.2 with q | q
    · rw [show (relabel scope B.env).names.lookup y = some .local from lookup_relabel_local q] at hk'; cases hk'
    · obtain ⟨c, hc⟩ := Option.isSome_iff_exists.mp (cellsFrom_has (n := h.objs.size + 1) (acc := clF B.env scope.names []) (List.contains_iff_mem.mp q))
      exact ⟨c, hc, List.mem_cons_of_mem _ (List.mem_filterMap.mpr ⟨y, hy, hc⟩)⟩
  · have h2' : (varsC src st.vars)[k]? = some mv := h2
    unfold varsC at h2'
    rw [List.getElem?_map] at h2'
    obtain ⟨o, ho, hmv⟩ := Option.map_eq_some_iff.mp h2'
    have hz : (y, o) ∈ ns.zip src := getElem?_zip h1 ho
    have := List.all_eq_true.mp x.src _ hz
    cases o with
    | none => exact absurd hmv.symm h3
    | some j =>
      simp only [Bool.and_eq_true, Bool.or_eq_true, beq_iff_eq] at this
      obtain ⟨⟨⟨s1, s2⟩, s3⟩, s4⟩ := this
      have s3 := List.contains_iff_mem.mp s3
      have hv : st.vars[j]? = some mv := by
        replace hmv : (st.vars[j]?).getD .undef = mv := hmv
        cases q : st.vars[j]? with
        | none => rw [q] at hmv; exact absurd hmv.symm h3
        | some m => rw [q] at hmv; exact congrArg some hmv
      obtain ⟨v, n1, n2⟩ := i.blk.vars j y mv s1 hv h3
      refine ⟨v, ?_, n2.keeps keep⟩
      have hcell : ∃ c, B.env.cells.lookup y = some c ∧ h.IsCell c (some v) := by
        rcases n1 with ⟨z, _⟩ | ⟨_, c, z1, z2⟩
        · rw [z] at s2; rcases s2 with s2 | s2 <;> cases s2
        · exact ⟨c, z1, z2⟩
      obtain ⟨c, c1, c2⟩ := hcell
      have notCell : (y, NameKind.cell) ∉ scope.names := fun hm => by
        have e1 : (y, NameKind.cell) = (y, NameKind.free) := by
          have nd := x.nodup
          obtain ⟨a, ha⟩ := List.mem_iff_getElem?.mp hm
          obtain ⟨b, hb'⟩ := List.mem_iff_getElem?.mp s3
          have l1 : (scope.names.map (·.1))[a]? = some y := by rw [List.getElem?_map, ha]; rfl
          have l2 : (scope.names.map (·.1))[b]? = some y := by rw [List.getElem?_map, hb']; rfl
          have hlt : a < (scope.names.map (·.1)).length := by
            rcases Nat.lt_or_ge a (scope.names.map (·.1)).length with q | q
            · exact q
            · rw [List.getElem?_eq_none q] at l1; cases l1
          have : a = b := (List.getElem?_inj hlt nd).mp (l1.trans l2.symm)
          subst this
          rw [ha] at hb'; exact Option.some.inj hb'
        cases e1
      have hl : (cellsOfC scope B.env h.objs.size).lookup y = some c := by
        unfold cellsOfC
        rw [cellsFrom_out notCell]
        obtain ⟨c', hc'⟩ := Option.isSome_iff_exists.mp (clF_has (acc := []) s3 (by rw [c1]; rfl))
        have := (clmem _ _ (mem_of_lookup hc')).1
        rw [c1] at this; cases this
        exact hc'
      exact .inr ⟨s4.symm, c, hl, c2.keeps keep⟩
end
end Mine
end

section
open PySem PySem.W PyProof.Rows PySem.Spec PySem.Calls
set_option maxRecDepth 100000
namespace Mine

/-! a dict of names that goes -/
section
variable {hb : Heap} {β : Gl} {B : Bk} {fr : List Env} {adr : List Addr} {h h' : Heap} {C : Addr}
mutual
theorem VR.offC (hC : ∀ o, h.get? C = some o → isSeq o = false) (k : ∀ b o, b ≠ C → h.get? b = some o → h'.get? b = some o) : ∀ {v : Value} {d : MV}, VR β h adr v d → VR β h' adr v d
  | _, _, .undef v => .undef v
  | _, _, .none => .none
  | _, _, .bool b => .bool b
  | _, _, .int i t => .int i t
  | _, _, .sym k t => .sym k t
  | _, _, .str t e => .str t e
  | _, _, .list e ha r => .list (k _ _ (fun q => by subst q; have := hC _ e; cases this) e) ha (VRs.offC hC k r)
  | _, _, .ref e => .ref e
theorem VRs.offC (hC : ∀ o, h.get? C = some o → isSeq o = false) (k : ∀ b o, b ≠ C → h.get? b = some o → h'.get? b = some o) : ∀ {vs : List Value} {ds : List MV}, VRs β h adr vs ds → VRs β h' adr vs ds
  | _, _, .nil => .nil
  | _, _, .cons a b => .cons (VR.offC hC k a) (VRs.offC hC k b)
end
theorem ERs.offC (hC : ∀ o, h.get? C = some o → isSeq o = false) (k : ∀ b o, b ≠ C → h.get? b = some o → h'.get? b = some o) {es : List DictEntry} {ds : List (Nat × MV)} (r : ERs β h adr es ds) : ERs β h' adr es ds := by
  induction r with
  | nil => exact .nil
  | cons e v _ ih => exact .cons e (v.offC hC k) ih
theorem KRs.offC (hC : ∀ o, h.get? C = some o → isSeq o = false) (k : ∀ b o, b ≠ C → h.get? b = some o → h'.get? b = some o) {es : List (Str × Value)} {ds : List (Nat × MV)} (r : KRs β h adr es ds) : KRs β h' adr es ds := by
  induction r with
  | nil => exact .nil
  | cons e v _ ih => exact .cons e (v.offC hC k) ih

theorem Inv.offC {st : St} (x : Inv hb β B fr adr st h) (hC : ∃ m, h.Ns C m) (k : ∀ b o, b ≠ C → h.get? b = some o → h'.get? b = some o) (h1 : C ∉ adr) (h2 : C ∉ B.W) (h3 : C ∉ frs fr) (h4 : hb.get? C = none) : Inv hb β B fr adr st h' := by
  obtain ⟨mC, hC⟩ := hC
  have ns : ∀ o, h.get? C = some o → isSeq o = false := fun o e => ns_notSeq hC e
  have cellK : ∀ {c : Addr} {u : Option Value}, h.IsCell c u → h'.IsCell c u := fun y => cell_at y fun o e => k _ o (fun q => ns_notCell hC (q ▸ y)) e
  have locK : B.env.locals ≠ C := fun q => h2 (q ▸ x.blk.locW)
  refine ⟨⟨fun b o e => k b o (fun q => by subst q; rw [h4] at e; cases e) (x.hp.base b o e), x.hp.off, x.hp.low, x.hp.big, x.hp.nodup, x.hp.len, fun n o e => ?_, fun e he => ?_⟩,
    ⟨?_, x.blk.locW, fun a ha => ?_, fun y c hc => ?_, x.blk.cellW, x.blk.apart, fun i n mv q1 q2 q3 => ?_⟩⟩
  · obtain ⟨a, e1, e2⟩ := x.hp.objs n o e
    have ha : a ≠ C := fun q => h1 (q ▸ List.mem_of_getElem? e1)
    refine ⟨a, e1, ?_⟩
    cases e2 with
    | list e2 r => exact .list (k _ _ ha e2) (r.offC ns k)
    | attrs e2 r => exact .attrs (k _ _ ha e2) (r.offC ns k)
    | inst e2 r => exact .inst (k _ _ ha e2) r
    | dict e2 r => exact .dict (fun p => (e2 p).at fun o => k _ o ha) (r.offC ns k)
  · obtain ⟨p1, L, m, p2, p3, p4, p5⟩ := x.hp.fr e he
    refine ⟨p1, L, m, p2, p3, p4, p5.at' fun o e => k _ _ (fun q => ?_) e⟩
    exact h3 (q ▸ List.mem_filterMap.mpr ⟨_, he, p2⟩)
  · obtain ⟨m, hm⟩ := x.blk.ns
    exact ⟨m, hm.at' fun o e => k _ _ locK e⟩
  · obtain ⟨p1, p2, p3⟩ := x.blk.own a ha
    exact ⟨p1, p2, p3.elim (fun ⟨m, z⟩ => .inl ⟨m, z.at' fun o e => k _ _ (fun q => h2 (q ▸ ha)) e⟩) fun ⟨v, z⟩ => .inr ⟨v, cellK z⟩⟩
  · obtain ⟨p1, v, p2⟩ := x.blk.cell y c hc
    exact ⟨p1, v, cellK p2⟩
  · obtain ⟨v, h4, h5⟩ := x.blk.vars i n mv q1 q2 q3
    refine ⟨v, ?_, h5.offC ns k⟩
    rcases h4 with ⟨z1, m, z2, z3⟩ | ⟨z1, c, z2, z3⟩
    · exact .inl ⟨z1, m, z2.at' fun o e => k _ _ locK e, z3⟩
    · exact .inr ⟨z1, c, z2, cellK z3⟩
end

/-! the last object becomes a plain list -/
noncomputable def noR : Nat → Nat → MV → Bool
  | k + 1, n, .list xs => xs.all (noR k n)
  | 0, _, .list _ => false
  | _, n, .ref m => !(Nat.beq m n)
  | _, _, _ => true
noncomputable def noRO (n : Nat) : AObj → Bool
  | .list xs => xs.all (noR 4 n)
  | .attrs es => es.all fun p => noR 4 n p.2
  | .dict es => es.all fun p => noR 4 n p.2
  | .inst _ d => !(Nat.beq d n)

section
variable {hb : Heap} {β : Gl} {B : Bk} {fr : List Env} {adr : List Addr} {h : Heap} {D : Addr}
theorem drop_at {n : Nat} {a : Addr} (e : (adr ++ [D])[n]? = some a) (hn : n ≠ adr.length) : adr[n]? = some a := by
  rcases Nat.lt_or_ge n adr.length with q | q
  · rwa [List.getElem?_append_left q] at e
  · rw [List.getElem?_append_right q] at e
    have : n - adr.length ≠ 0 := by omega
    rw [List.getElem?_eq_none (by rw [List.length_singleton]; omega)] at e; cases e
theorem not_beq {m n : Nat} (h : (!(Nat.beq m n)) = true) : m ≠ n := by
  rintro rfl
  rw [show Nat.beq m m = true from by simp] at h
  cases h
mutual
theorem VR.rid : ∀ {k : Nat} {v : Value} {d : MV}, VR β h (adr ++ [D]) v d → noR k adr.length d = true → VR β h adr v d
  | _, _, _, .undef v, _ => .undef v
  | _, _, _, .none, _ => .none
  | _, _, _, .bool b, _ => .bool b
  | _, _, _, .int i t, _ => .int i t
  | _, _, _, .sym k t, _ => .sym k t
  | _, _, _, .str t e, _ => .str t e
  | 0, _, _, .list e ha r, q => by unfold noR at q; cases q
  | k + 1, _, _, .list e ha r, q => .list e (fun hm => ha (List.mem_append.mpr (.inl hm))) (VRs.rid (k := k) r (by unfold noR at q; exact q))
  | 0, _, _, .ref e, q => .ref (drop_at e (by unfold noR at q; exact not_beq q))
  | k + 1, _, _, .ref e, q => .ref (drop_at e (by unfold noR at q; exact not_beq q))
theorem VRs.rid : ∀ {k : Nat} {vs : List Value} {ds : List MV}, VRs β h (adr ++ [D]) vs ds → ds.all (noR k adr.length) = true → VRs β h adr vs ds
  | _, _, _, .nil, _ => .nil
  | k, _, _, .cons a b, q => .cons (VR.rid (k := k) a (by rw [List.all_cons, Bool.and_eq_true] at q; exact q.1)) (VRs.rid (k := k) b (by rw [List.all_cons, Bool.and_eq_true] at q; exact q.2))
end
theorem ERs.rid {es : List DictEntry} {ds : List (Nat × MV)} (r : ERs β h (adr ++ [D]) es ds) (q : (ds.all fun p => noR 4 adr.length p.2) = true) : ERs β h adr es ds := by
  induction r with
  | nil => exact .nil
  | cons e v _ ih => rw [List.all_cons, Bool.and_eq_true] at q; exact .cons e (v.rid q.1) (ih q.2)
theorem KRs.rid {es : List (Str × Value)} {ds : List (Nat × MV)} (r : KRs β h (adr ++ [D]) es ds) (q : (ds.all fun p => noR 4 adr.length p.2) = true) : KRs β h adr es ds := by
  induction r with
  | nil => exact .nil
  | cons e v _ ih => rw [List.all_cons, Bool.and_eq_true] at q; exact .cons e (v.rid q.1) (ih q.2)
theorem Hp.rid {objs : List AObj} {o : AObj} (x : Hp hb β fr (adr ++ [D]) (objs ++ [o]) h) (q : objs.all (noRO adr.length) = true) : Hp hb β fr adr objs h where
  base := x.base
  off := fun a ha => x.off a (List.mem_append.mpr (.inl ha))
  low := fun a ha => x.low a (List.mem_append.mpr (.inl ha))
  big := x.big
  nodup := (List.nodup_append.mp x.nodup).1
  len := by have := x.len; simpa using this
  objs := fun n ao e => by
    have hn : n < objs.length := by
      rcases Nat.lt_or_ge n objs.length with z | z
      · exact z
      · rw [List.getElem?_eq_none z] at e; cases e
    have hl : adr.length = objs.length := by have := x.len; simpa using this
    obtain ⟨a, h1, h2⟩ := x.objs n ao (by rw [List.getElem?_append_left hn]; exact e)
    rw [List.getElem?_append_left (by rw [hl]; exact hn)] at h1
    have q := List.all_eq_true.mp q ao (List.mem_of_getElem? e)
    refine ⟨a, h1, ?_⟩
    cases h2 with
    | list e2 r => exact .list e2 (r.rid q)
    | attrs e2 r => exact .attrs e2 (r.rid q)
    | inst e2 r => exact .inst e2 (drop_at r (not_beq q))
    | dict e2 r => exact .dict e2 (r.rid q)
  fr := fun e he => by
    obtain ⟨p1, L, m, p2, p3, p4, p5⟩ := x.fr e he
    exact ⟨p1, L, m, p2, p3, fun hm => p4 (List.mem_append.mpr (.inl hm)), p5⟩
end

theorem Adv.off {W F adr₀ adr adr' : List Addr} {h₀ h h' : Heap} (x : Adv [] F adr₀ h₀ adr h) (y : Adv W F adr h adr' h') (hW : ∀ a ∈ W, h₀.get? a = none) : Adv [] F adr₀ h₀ adr' h' where
  pre := x.pre.trans y.pre
  new := fun a ha => by
    rcases y.new a ha with h1 | h1
    · exact x.new a h1
    · cases e : h₀.get? a with
      | none => exact .inr rfl
      | some o => obtain ⟨o', e'⟩ := x.alive a o e; rw [h1] at e'; cases e'
  alive := fun b o e => by obtain ⟨o', e'⟩ := x.alive b o e; exact y.alive b o' e'
  keep := fun b o e hw ha hf => y.keep b o (x.keep b o e hw ha hf) (fun hm => by rw [hW b hm] at e; cases e) (x.notMem e ha) hf
  slots := fun b o e hw ha hf => by
    obtain ⟨sl, e1⟩ := x.slots b o e hw ha hf
    obtain ⟨sl2, e2⟩ := y.slots b _ e1 (fun hm => by rw [hW b hm] at e; cases e) (x.notMem e ha) hf
    exact ⟨sl2, e2⟩

theorem Adv.back {W F adr adr' : List Addr} {h h' : Heap} (x : Adv W F adr h adr' h') : Adv W F adr h adr h' := ⟨List.prefix_refl _, fun _ ha => .inl ha, x.alive, x.keep, x.slots⟩

/-! the loop -/
noncomputable def cLoop (item : Turns) (T : Itm → St → Option St) (If : St → Option (Bool × St)) (G : Nat → St → Option St) (n : Nat) : Nat → Nat → St → Option St
  | 0, _, _ => none
  | k + 1, i, st => match item i st.objs with
    | none => none
    | some none => some st
    | some (some it) => match T it st with
      | none => none
      | some st₁ => match If st₁ with
        | none => none
        | some (true, st₂) => match G n st₂ with
          | some st₃ => cLoop item T If G n k (i + 1) st₃
          | none => none
        | some (false, st₂) => cLoop item T If G n k (i + 1) st₂

/-- what a turn does -/
noncomputable abbrev BodyW := Value → Around → (Shared → Prop) → (Value → Shared → Prop) → Shared → Prop

section
variable (prog : Program) (w : World) (hb : Heap) (β : Gl) (B : Bk) (r : Nat)
structure AcS (BW : BodyW) (G : Nat → St → Option St) : Prop where
  run : ∀ (A : Around) (fr : List Env) (adr : List Addr) (st st' : St) (n : Nat) (D : Addr) (s : Shared) (Q : Shared → Prop) (E : Value → Shared → Prop),
    Amb A fr r → Inv hb β B fr adr st s.heap → adr[n]? = some D → G n st = some st' →
    (∀ (adr' : List Addr) (h' : Heap) (tk' : Nat), Inv hb β B fr adr' st' h' → Adv B.W (frs fr) adr s.heap adr' h' → Q { s with heap := h', toks := tk' }) →
    BW (.ref D) A Q E s
noncomputable abbrev TestW := Around → (Bool → Shared → Prop) → (Value → Shared → Prop) → Shared → Prop
structure TeS (TW : TestW) (If : St → Option (Bool × St)) : Prop where
  run : ∀ (A : Around) (fr : List Env) (adr : List Addr) (st st' : St) (m : Bool) (s : Shared) (Q : Bool → Shared → Prop) (E : Value → Shared → Prop),
    Amb A fr r → Inv hb β B fr adr st s.heap → If st = some (m, st') →
    (∀ (adr' : List Addr) (h' : Heap) (tk' : Nat), Inv hb β B fr adr' st' h' → Adv B.W (frs fr) adr s.heap adr' h' → Q m { s with heap := h', toks := tk' }) → TW A Q E s
/-- how the model's turn goes -/
noncomputable def TurnW (e : Expr) (d : Nat) (target : Expr) (tests : TestW) (BW : BodyW) : Prop :=
  ∀ (A : Around) (it acc : Value) (s : Shared) (Q : Fin → Shared → Prop) (E : Value → Shared → Prop),
    wpAny (model prog w) A (pyNext it) (fun r s₁ => match r with
      | none => Q (.done .next) s₁
      | some v => wpAny (model prog w) A (letOwnedTupleGo target it v) (fun _ s₂ => wpAny (model prog w) A (assign target B.env v) (fun _ s₃ => tests A (fun ok s₄ =>
          if ok = true then BW acc A (fun s₅ => Q (.again (.compLoop e d it acc B.env)) s₅) E s₄ else Q (.again (.compLoop e d it acc B.env)) s₄) E s₃) E s₂) E s₁) E s →
    wpAny (model prog w) A (compTurn e d it acc B.env) Q E s
end

section
variable {prog : Program} {w : World} {hb : Heap} {β : Gl} {B : Bk} {r : Nat}

theorem comp_loop {elt : Expr} {gens : List Comprehension} {scope : Scope} {pos : Pos} {d : Nat} {target : Expr} {tests : TestW} {BW : BodyW} {T : Itm → St → Option St} {If : St → Option (Bool × St)} {G : Nat → St → Option St}
    (hw : TurnW prog w B (.ListComp elt gens scope pos) d target tests BW) (hT : TgS prog w hb β B r target T) (hI : TeS hb β B r tests If) (hG : AcS hb β B r BW G)
    {A : Around} {fr : List Env} {adr₀ adr : List Addr} {hA h : Heap} {st st' : St} {item : Turns} {I : Addr} {wr : List Addr} {Md : Nat → Itm → Value → Heap → List Addr → Prop} {Sti : Nat → Heap → Prop} {n : Nat} {D : Addr} {tk : Nat} {s : Shared} {R : Result → Shared → Prop} {fuel : Nat}
    (ha : Amb A fr r) (K : KX prog w hb β A target I wr item adr₀ hA Md Sti) (hwr : ∀ b ∈ wr, hA.get? b = none) (hbA : ∀ b o, hb.get? b = some o → hA.get? b = some o)
    (nsq : ∀ a, a ∈ B.W ∨ a ∈ frs fr → ∀ o, hA.get? a = some o → isSeq o = false)
    (inv : Inv hb β B fr adr st h) (adv : Adv B.W (frs fr) adr₀ hA adr h) (hst : Sti 0 h) (hD : adr[n]? = some D) (e : cLoop item T If G n fuel 0 st = some st')
    (hQ : ∀ (adr' : List Addr) (h' : Heap) (tk' : Nat), Inv hb β B fr adr' st' h' → Adv B.W (frs fr) adr₀ hA adr' h' → adr'[n]? = some D → R (.ok .next) { s with heap := h', toks := tk' }) :
    codeAny (model prog w) A (.compLoop (.ListComp elt gens scope pos) d (.ref I) (.ref D) B.env) R { s with heap := h, toks := tk } := by
  have hwb : ∀ b ∈ wr, hb.get? b = none := fun b hm => by
    cases q : hb.get? b with
    | none => rfl
    | some o => have := hbA _ _ q; rw [hwr b hm] at this; cases this
  refine codeAny_loop rfl (fun k s' => ∃ h tk adr' st₂ i, s' = { s with heap := h, toks := tk } ∧ Inv hb β B fr adr' st₂ h ∧ Adv B.W (frs fr) adr₀ hA adr' h ∧ Sti i h ∧ adr'[n]? = some D ∧ cLoop item T If G n k i st₂ = some st') ?_ fuel
    ⟨h, tk, adr, st, 0, rfl, inv, adv, hst, hD, e⟩
  rintro k s' ⟨h, tk, adr', st₂, i, rfl, inv, adv, hst', hD, e⟩
  show wpAny _ A ((compTurn (.ListComp elt gens scope pos) d (.ref I) (.ref D) B.env).onRaise (fun x => do noteFrame x B.env; theTreesLotGoes x)) _ _ _
  refine wpAny_noted (hw A _ _ _ _ _ ?_)
  cases k with
  | zero => cases e
  | succ k =>
    have tr : ∀ v m, VR β hA adr₀ v m → VR β h adr' v m := fun v m x => x.mono adv nsq
    have wrH : Wr hb wr h := ⟨hwb, K.obj i h hst'⟩
    rw [cLoop] at e
    split at e
    · cases e
    · rename_i hit
      cases e
      exact K.done i adr' fr _ _ _ _ hit hst' inv.hp tr fun h' tk' kk => hQ adr' h' tk' (inv.but wrH kk) (adv.but hwr kk) hD
    · rename_i x hit
      split at e
      · cases e
      · rename_i st₃ hT1
        refine K.item i x adr' fr st₂.objs _ _ _ hit hst' inv.hp tr fun v h₁ tk₁ hmd k₁ => ?_
        have inv₁ := inv.but wrH k₁
        have adv₁ := adv.but hwr k₁
        refine K.go i x v adr' _ _ _ hmd fun h₂ hir hst₂ k₂ => ?_
        have wrH₁ : Wr hb wr h₁ := ⟨hwb, K.mid i x v h₁ adr' hmd⟩
        have inv₂ := inv₁.but wrH₁ k₂
        have adv₂ := adv₁.but hwr k₂
        have fpKept : ∀ {adr₁ adr₂ : List Addr} {st : St} {g g' : Heap} {j : Nat}, Inv hb β B fr adr₁ st g → Sti j g → Adv B.W (frs fr) adr₁ g adr₂ g' → Sti j g' := fun iv sj av => K.frame _ _ _ sj fun b hb' o eo => by
          obtain ⟨o', eo', q⟩ := K.obj _ _ sj b hb'
          rw [eo] at eo'; cases eo'
          have w1 : Wr hb wr _ := ⟨hwb, K.obj _ _ sj⟩
          refine av.keep b o eo (fun hm => ?_) (w1.notAdr iv.hp hb') (fun hm => ?_)
          · have := iv.noSeq b (.inl hm) o eo; rw [iter_seq q] at this; cases this
          · have := iv.noSeq b (.inr hm) o eo; rw [iter_seq q] at this; cases this
        refine hT.run A fr adr' st₂ st₃ x v _ _ _ ha inv₂ hir hT1 fun h₃ tk₃ inv₃ a₃ => ?_
        have hst₃ := fpKept inv₂ hst₂ a₃
        split at e
        · cases e
        · rename_i st₄ e4
          split at e
          · rename_i st₅ e5
            refine hI.run A fr adr' st₃ st₄ _ _ _ _ ha inv₃ e4 fun adr₄ h₄ tk₄ inv₄ a₄ => ?_
            rw [if_pos rfl]
            have hst₄ := fpKept inv₃ hst₃ a₄
            refine hG.run A fr adr₄ st₄ st₅ n D _ _ _ ha inv₄ (a₄.at hD) e5 fun adr₅ h₅ tk₅ inv₅ a₅ => ?_
            exact ⟨rfl, k, Nat.lt_succ_self k, h₅, tk₅, adr₅, st₅, i + 1, rfl, inv₅, ((adv₂.trans a₃).trans a₄).trans a₅, fpKept inv₄ hst₄ a₅, a₅.at (a₄.at hD), e⟩
          · cases e
        · rename_i st₄ e4
          refine hI.run A fr adr' st₃ st₄ _ _ _ _ ha inv₃ e4 fun adr₄ h₄ tk₄ inv₄ a₄ => ?_
          rw [if_neg Bool.false_ne_true]
          exact ⟨rfl, k, Nat.lt_succ_self k, h₄, tk₄, adr₄, st₄, i + 1, rfl, inv₄, (adv₂.trans a₃).trans a₄, fpKept inv₃ hst₃ a₄, a₄.at hD, e⟩
end
end Mine
end

section
open PySem PySem.W PyProof.Rows PySem.Spec PySem.Calls
set_option maxRecDepth 100000
namespace Mine

section
variable {prog : Program} {w : World} {hb : Heap} {β : Gl} {B : Bk} {r : Nat}

noncomputable def bw1 (prog : Program) (w : World) (B : Bk) (elt : Expr) : BodyW := fun acc A Q E s => wpAny (model prog w) A (eval elt B.env) (fun x s₁ => wpAny (model prog w) A (call (.builtin "list.append") [acc, x]) (fun _ s₂ => Q s₂) E s₁) E s
noncomputable def tw0 : TestW := fun A Q E s => Q true s
noncomputable def tw1 (prog : Program) (w : World) (B : Bk) (c : Expr) : TestW := fun A Q E s => wpAny (model prog w) A (isTrue c B.env (eval c B.env)) Q E s

theorem turn_fin {elt : Expr} {acc : Value} {A : Around} {s : Shared} {Q : Fin → Shared → Prop} {E : Value → Shared → Prop} {c : Code} (h : bw1 prog w B elt acc A (fun s₅ => Q (.again c) s₅) E s) :
    wpAny (model prog w) A ((do let _ ← call (.builtin "list.append") [acc, ← eval elt B.env] : Sem PUnit) >>= fun _ => again c) Q E s :=
  wpAny_bind (wpAny_bind (wpAny_mono h (fun x s₄ h₄ => wpAny_bind (wpAny_mono h₄ (fun _ s₅ h₅ => wpAny_pure (wpAny_pure h₅)) fun _ _ z => z)) fun _ _ z => z))

theorem turn1 {elt target iter : Expr} {scope : Scope} {pos : Pos} : TurnW prog w B (.ListComp elt [⟨target, iter, [], 0⟩] scope pos) 0 target tw0 (bw1 prog w B elt) := by
  intro A it acc s Q E h
  rw [compTurn_list]
  refine wpAny_bind (wpAny_standAt (wpAny_bind (wpAny_mono h (fun r s₁ h₁ => ?_) fun _ _ z => z)))
  cases r with
  | none => exact wpAny_pure h₁
  | some v => exact wpAny_bind (wpAny_mono h₁ (fun _ s₂ h₂ => wpAny_bind (wpAny_mono h₂ (fun _ s₃ h₃ => turn_fin h₃) fun _ _ z => z)) fun _ _ z => z)

theorem turn1if {elt target iter c : Expr} {scope : Scope} {pos : Pos} : TurnW prog w B (.ListComp elt [⟨target, iter, [c], 0⟩] scope pos) 0 target (tw1 prog w B c) (bw1 prog w B elt) := by
  intro A it acc s Q E h
  rw [compTurn_list]
  refine wpAny_bind (wpAny_standAt (wpAny_bind (wpAny_mono h (fun r s₁ h₁ => ?_) fun _ _ z => z)))
  cases r with
  | none => exact wpAny_pure h₁
  | some v =>
    refine wpAny_bind (wpAny_mono h₁ (fun _ s₂ h₂ => wpAny_bind (wpAny_mono h₂ (fun _ s₃ h₃ => ?_) fun _ _ z => z)) fun _ _ z => z)
    refine wpAny_bind (wpAny_bind (wpAny_bind (wpAny_mono h₃ (fun ok s₄ h₄ => ?_) fun _ _ z => z)))
    refine wpAny_pure (wpAny_pure ?_)
    cases ok with
    | true => exact turn_fin h₄
    | false => exact wpAny_pure h₄

noncomputable def bw2 (prog : Program) (w : World) (B : Bk) (e : Expr) (iter : Expr) : BodyW := fun acc A Q E s => wpAny (model prog w) A (eval iter B.env) (fun x s₁ => wpAny (model prog w) A (pyIter x) (fun it s₂ =>
  codeAny (model prog w) A (.compStart e 1 it acc B.env) (fun r s₃ => match r with | .ok _ => Q s₃ | .error e => cameBackBy (model prog w) A B.env E e s₃) s₂) E s₁) E s

theorem turn2a {elt target iter t2 i2 : Expr} {scope : Scope} {pos : Pos} (hs : ∀ x, foldedSetIterable i2 B.env x = pure x) :
    TurnW prog w B (.ListComp elt [⟨target, iter, [], 0⟩, ⟨t2, i2, [], 0⟩] scope pos) 0 target tw0 (bw2 prog w B (.ListComp elt [⟨target, iter, [], 0⟩, ⟨t2, i2, [], 0⟩] scope pos) i2) := by
  intro A it acc s Q E h
  show wpAny _ A (standAt iter.pos >>= fun _ => pyNext it >>= fun r => _) _ _ _
  refine wpAny_bind (wpAny_standAt (wpAny_bind (wpAny_mono h (fun r s₁ h₁ => ?_) fun _ _ z => z)))
  cases r with
  | none => exact wpAny_pure h₁
  | some v =>
    refine wpAny_bind (wpAny_mono h₁ (fun _ s₂ h₂ => wpAny_bind (wpAny_mono h₂ (fun _ s₃ h₃ => ?_) fun _ _ z => z)) fun _ _ z => z)
    refine wpAny_bind (wpAny_pure ?_)
    refine wpAny_bind (wpAny_mono h₃ (fun x s₄ h₄ => wpAny_bind (wpAny_standAt (wpAny_bind (wpAny_of_eq (hs x) (wpAny_bind (wpAny_holding (wpAny_mono h₄ (fun it₂ s₅ h₅ => ?_) fun _ _ z => z))))))) fun _ _ z => z)
    refine wpAny_bind (wpAny_runOwn (codeAny_mono h₅ fun r s₆ h₆ => ?_))
    cases r with
    | ok f => exact wpAny_pure h₆
    | error x => exact h₆

theorem turn2b {elt target iter t2 i2 : Expr} {scope : Scope} {pos : Pos} :
    TurnW prog w B (.ListComp elt [⟨target, iter, [], 0⟩, ⟨t2, i2, [], 0⟩] scope pos) 1 t2 tw0 (bw1 prog w B elt) := by
  intro A it acc s Q E h
  show wpAny _ A (standAt i2.pos >>= fun _ => pyNext it >>= fun r => _) _ _ _
  refine wpAny_bind (wpAny_standAt (wpAny_bind (wpAny_mono h (fun r s₁ h₁ => ?_) fun _ _ z => z)))
  cases r with
  | none => exact wpAny_pure h₁
  | some v => exact wpAny_bind (wpAny_mono h₁ (fun _ s₂ h₂ => wpAny_bind (wpAny_mono h₂ (fun _ s₃ h₃ => turn_fin h₃) fun _ _ z => z)) fun _ _ z => z)

noncomputable def g_app (F : St → Option (MV × St)) (n : Nat) (st : St) : Option St := match F st with
  | some (m, st') => match st'.objs[n]? with
    | some (.list xs) => if decide (xs.length ≤ 10000) then some ⟨st'.vars, st'.objs.set n (.list (xs ++ [m]))⟩ else none
    | _ => none
  | none => none
noncomputable def g_in (S : St → Option (Turns × St)) (T : Itm → St → Option St) (If : St → Option (Bool × St)) (G : Nat → St → Option St) (n : Nat) (st : St) : Option St := match S st with
  | some (item, st1) => cLoop item T If G n 2000 0 st1
  | none => none

theorem te0 : TeS hb β B r tw0 (t_const true) := by
  refine ⟨?_⟩
  intro A fr adr st st' m s Q E ha hi e hQ
  cases e
  exact hQ adr s.heap s.toks hi .refl
theorem te1 {c : Expr} {F : St → Option (Bool × St)} (h : TsS prog w hb β B r (isTrue c B.env (eval c B.env)) F) : TeS hb β B r (tw1 prog w B c) F := by
  refine ⟨?_⟩
  intro A fr adr st st' m s Q E ha hi e hQ
  refine h.run A fr adr st st' m s Q E ha hi e fun a adr' h' tk' i' r' a' => ?_
  subst r'
  exact hQ adr' h' tk' i' a'

theorem ac1 {elt : Expr} {F : St → Option (MV × St)} (hF : EvS prog w hb β B r (eval elt B.env) F) : AcS hb β B r (bw1 prog w B elt) (g_app F) := by
  refine ⟨?_⟩
  intro A fr adr st st' n D s Q E ha hi hD e hQ
  unfold g_app at e
  split at e
  · rename_i m st1 e1
    split at e
    · rename_i xs ex
      split at e
      · rename_i hc
        rw [decide_eq_true_eq] at hc
        cases e
        refine hF.run A fr adr st st1 m s _ E ha hi e1 fun v adr1 h1 tk1 i1 r1 a1 => ?_
        obtain ⟨a, e', hn', hr'⟩ := i1.hp.at_ref (.ref (a1.at hD)) ex
        cases e'
        cases hr' with
        | list ho' rs' =>
          refine append_at (s := { s with heap := h1, toks := tk1 }) ho' (fun h' hs hD => ?_) (by rw [List.size_toArray, rs'.length, sizeLine_eq]; omega)
          have hw : Adv B.W (frs fr) adr1 h1 adr1 h' := .write hs (List.mem_of_getElem? hn') ⟨_, hD⟩
          have mono : ∀ {v : Value} {d : MV}, VR β h1 adr1 v d → VR β h' adr1 v d := fun x => x.mono (W := []) (F := []) (.write hs (List.mem_of_getElem? hn') ⟨_, hD⟩) noF
          exact hQ adr1 h' tk1 (i1.write hn' hs (.list (vs := _ ++ [v]) (by simpa using hD) (VRs.append (rs'.mono (W := []) (F := []) (.write hs (List.mem_of_getElem? hn') ⟨_, hD⟩) noF) (.cons (mono r1) .nil))) ⟨_, hD⟩) (a1.trans hw)
      · cases e
    · cases e
  · cases e

theorem compStart1 {elt : Expr} {g : Comprehension} {t2 i2 : Expr} {scope : Scope} {pos : Pos} {it acc : Value} {env : Env} {A : Around} {s : Shared} {R : Result → Shared → Prop}
    (h0 : codeAny (model prog w) A (.compLoop (.ListComp elt [g, ⟨t2, i2, [], 0⟩] scope pos) 1 it acc env) R s)
    (h : ∀ E, wpAny (model prog w) A (pyIter it) (fun it' s' => codeAny (model prog w) A (.compLoop (.ListComp elt [g, ⟨t2, i2, [], 0⟩] scope pos) 1 it' acc env) R s') E s) :
    codeAny (model prog w) A (.compStart (.ListComp elt [g, ⟨t2, i2, [], 0⟩] scope pos) 1 it acc env) R s := by
  refine codeAny_of_tree ?_
  show wpAny _ _ ((compStart (.ListComp elt [g, ⟨t2, i2, [], 0⟩] scope pos) 1 it acc env).onRaise (fun x => do noteFrame x env; standAt theWindowsPlace)) _ _ s
  refine wpAny_notedAt ?_
  unfold compStart
  show wpAny _ _ (ask >>= _) _ _ s
  refine wpAny_bind (wpAny_askSetting (wpAny_ite ?_))
  split
  · first
      | exact wpAny_bind (wpAny_pure (wpAny_pure (And.intro rfl h0)))
      | exact wpAny_pure (And.intro rfl h0)
  · first
      | exact wpAny_bind (wpAny_rule (wpAny_bind (wpAny_standAt (wpAny_bind (wpAny_mono (h _) (fun it' s' h' => wpAny_pure (And.intro rfl h')) fun _ _ x => x)))))
      | (refine wpAny_bind (wpAny_rule ?_); show wpAny _ _ (standAt i2.pos >>= _) _ _ s; exact wpAny_bind (wpAny_standAt (wpAny_bind (wpAny_mono (h _) (fun it' s' h' => wpAny_pure (And.intro rfl h')) fun _ _ x => x))))

theorem ac2 {elt target iter t2 i2 : Expr} {scope : Scope} {pos : Pos} {S : St → Option (Turns × St)} {T : Itm → St → Option St} {G : Nat → St → Option St}
    (hS : SrcS prog w hb β B r t2 i2 S) (hT : TgS prog w hb β B r t2 T) (hG : AcS hb β B r (bw1 prog w B elt) G) :
    AcS hb β B r (bw2 prog w B (.ListComp elt [⟨target, iter, [], 0⟩, ⟨t2, i2, [], 0⟩] scope pos) i2) (g_in S T (t_const true) G) := by
  refine ⟨?_⟩
  intro A fr adr st st' n D s Q E ha hi hD e hQ
  unfold g_in at e
  split at e
  · rename_i item st1 e1
    refine hS.run A fr adr st st1 item s _ E ha hi e1 fun it adr1 hA h1 tk1 i1 src a1 => ?_
    obtain ⟨I, wr, Md, Sti, rfl, K, hst, hwr, hk⟩ := src
    have loop : codeAny (model prog w) A (.compLoop (.ListComp elt [⟨target, iter, [], 0⟩, ⟨t2, i2, [], 0⟩] scope pos) 1 (.ref I) (.ref D) B.env) (fun r s₃ => match r with | .ok _ => Q s₃ | .error e => cameBackBy (model prog w) A B.env E e s₃) { s with heap := h1, toks := tk1 } :=
      comp_loop turn2b hT te0 hG ha K hwr i1.hp.base i1.noSeq (i1.keeps hk) (.of_keeps hk) hst (a1.at hD) e fun adr' h' tk' i' a' _ => hQ adr' h' tk' i' (a1.trans a')
    exact compStart1 loop fun E' => K.self 0 _ _ _ hst loop
  · cases e

/-! the comprehension -/
noncomputable def f_comp (src : List (Option Nat)) (S : St → Option (Turns × St)) (T : Itm → St → Option St) (If : St → Option (Bool × St)) (G : Nat → St → Option St) : St → Option (MV × St) := bnd S fun item st =>
  match cLoop item T If G st.objs.length 2000 0 ⟨varsC src st.vars, st.objs ++ [.list []]⟩ with
  | some st' => match st'.objs.getLast? with
    | some (.list xs) => if Nat.beq st'.objs.dropLast.length st.objs.length && (st'.objs.dropLast.all (noRO st.objs.length) && xs.all (noR 3 st.objs.length)) then some (.list xs, ⟨st.vars, st'.objs.dropLast⟩) else none
    | _ => none
  | none => none

theorem comp_core {elt : Expr} {target iter : Expr} {ifs : List Expr} {rest : List Comprehension} {scope : Scope} {pos : Pos} {ns own : List Str} {src : List (Option Nat)} {BW : Bk → BodyW} {TW : Bk → TestW} {S : St → Option (Turns × St)} {T : Itm → St → Option St} {If : St → Option (Bool × St)} {G : Nat → St → Option St}
    (hc : CompOk B scope ns own src) (hS : SrcS prog w hb β B r target iter S) (hs : ∀ x, foldedSetIterable iter B.env x = pure x)
    (hw : ∀ C, TurnW prog w (cBk B scope ns own C) (.ListComp elt (⟨target, iter, ifs, 0⟩ :: rest) scope pos) 0 target (TW (cBk B scope ns own C)) (BW (cBk B scope ns own C)))
    (hT : ∀ C, TgS prog w hb β (cBk B scope ns own C) r target T) (hI : ∀ C, TeS hb β (cBk B scope ns own C) r (TW (cBk B scope ns own C)) If) (hG : ∀ C, AcS hb β (cBk B scope ns own C) r (BW (cBk B scope ns own C)) G)
    {A : Around} {fr : List Env} {adr : List Addr} {st st' : St} {m : MV} {s : Shared} {E : Value → Shared → Prop} {use : Option (Value → Sem Unit)} {Q : Value → Shared → Prop} {p : Pos} (ha : Amb A fr r) (hi : Inv hb β B fr adr st s.heap) (e : f_comp src S T If G st = some (m, st'))
    (hQ : ∀ (D C : Addr) (adr' : List Addr) (h' : Heap) (tk' : Nat), Inv hb β B fr adr' st' h' → VR β h' adr' (.ref D) m → Adv B.W (frs fr) adr s.heap adr' h' → (∃ m, h'.Ns C m) → C ∉ adr' → C ∉ B.W → C ∉ frs fr → hb.get? C = none → s.heap.get? C = none →
      compPost (model prog w) A E use Q (.ref D) C (.ok .next) { s with heap := h', toks := tk' }) :
    wpAny (model prog w) A (comprehension (.ListComp elt (⟨target, iter, ifs, 0⟩ :: rest) scope pos) scope B.env p (newList []) false (eval iter B.env) use) Q E s := by
  obtain ⟨item, st1, e1, e⟩ := bnd_some e
  split at e
  · rename_i st2 e2
    split at e
    · rename_i xs hlast
      generalize hob : st2.objs.dropLast = objs at e
      split at e
      · rename_i hcond
        rw [Bool.and_eq_true, Bool.and_eq_true] at hcond
        obtain ⟨hlen, hobjs, hxs⟩ := hcond
        have hlen := Nat.eq_of_beq_eq_true hlen
        cases e
        refine wpAny_comprehension_free rfl hs hc.closure hc.kind hc.local (hS.run A fr adr st st1 item s _ E ha hi e1 fun it adr1 hA h1 tk1 i1 src1 a1 => ?_)
        obtain ⟨I, wr, Md, Sti, rfl, K, hst, hwr, hk⟩ := src1
        have i1' := i1.keeps hk
        have i2 := i1'.alloc (o := listOf ([] : List Value).toArray 0) (ao := .list []) (.list (vs := []) push_size .nil)
        refine wpAny_newList ?_ (Nat.zero_le _)
        refine env_comp ?_
        have hsz : (h1.push (listOf ([] : List Value).toArray 0)).objs.size = h1.objs.size + 1 := Heap.size_push ..
        obtain ⟨i3, hW⟩ := comp_blk hc i2
        generalize hCe : (h1.push (listOf ([] : List Value).toArray 0)).objs.size = C at i3 hW
        have hCn : C = h1.objs.size + 1 := by rw [← hCe]; exact hsz
        have hAlt : ∀ a o, hA.get? a = some o → a < h1.objs.size := fun a o q => Heap.lt_size (hk a o q)
        have hAn : ∀ a, h1.objs.size ≤ a → hA.get? a = none := fun a ha' => by
          cases q : hA.get? a with
          | none => rfl
          | some o => exact absurd (hAlt a o q) (Nat.not_lt.mpr ha')
        have hWn : ∀ a ∈ (cBk B scope ns own C).W, hA.get? a = none := fun a hm => hAn a (by have := hW a hm; omega)
        have keepH : ∀ b o, (h1.push (listOf ([] : List Value).toArray 0)).get? b = some o → (pushCells ((h1.push (listOf ([] : List Value).toArray 0)).push { cls := .type "dict", data := .dict #[] }) scope.names).get? b = some o := fun b o q => pushCells_keeps _ _ _ _ (Heap.get?_push_of_some _ q)
        have adv : ∀ {W : List Addr}, Adv W (frs fr) adr1 hA (adr1 ++ [h1.objs.size]) (pushCells ((h1.push (listOf ([] : List Value).toArray 0)).push { cls := .type "dict", data := .dict #[] }) scope.names) := fun {W} => ((Adv.of_keeps hk).trans .alloc).trans (.of_keeps keepH)
        have hst' : Sti 0 (pushCells ((h1.push (listOf ([] : List Value).toArray 0)).push { cls := .type "dict", data := .dict #[] }) scope.names) := K.frame _ _ _ hst fun b hb' o q => keepH b o (push_keeps _ _ q)
        have hl1 : adr1.length = st1.objs.length := i1.hp.len
        have nsq : ∀ a, a ∈ (cBk B scope ns own C).W ∨ a ∈ frs fr → ∀ o, hA.get? a = some o → isSeq o = false := fun a hm o q => by
          rcases hm with hm | hm
          · rw [hWn a hm] at q; cases q
          · exact i1.hp.frSeq hm q
        have hDat : (adr1 ++ [h1.objs.size])[st1.objs.length]? = some h1.objs.size := by rw [← hl1]; simp
        have loop : codeAny (model prog w) A (.compLoop (.ListComp elt (⟨target, iter, ifs, 0⟩ :: rest) scope pos) 0 (.ref I) (.ref h1.objs.size) (cBk B scope ns own C).env) (compPost (model prog w) A E use Q (.ref h1.objs.size) C)
            { s with heap := pushCells ((h1.push (listOf ([] : List Value).toArray 0)).push { cls := .type "dict", data := .dict #[] }) scope.names, toks := tk1 } := by
          refine comp_loop (hw C) (hT C) (hI C) (hG C) ha K hwr i1.hp.base nsq i3 adv hst' hDat e2 fun adr' h' tk' i' a' hD' => ?_
          have hobj : st2.objs = objs ++ [AObj.list xs] := by
            rw [← hob]
            have hne : st2.objs ≠ [] := fun q => by rw [q] at hlast; cases hlast
            rw [List.getLast?_eq_some_getLast hne] at hlast
            rw [← Option.some.inj hlast]
            exact (List.dropLast_concat_getLast hne).symm
          have hadr : adr' = adr1 ++ [h1.objs.size] := by
            have hlen' := i'.hp.len
            rw [hobj, List.length_append, List.length_singleton, hlen, ← hl1] at hlen'
            obtain ⟨l, rfl⟩ := a'.pre
            rw [List.length_append] at hlen'
            have hl0 : l.length = 1 := by omega
            match l, hl0 with
            | [y], _ =>
              rw [← hl1, List.getElem?_append_right (Nat.le_refl _), Nat.sub_self] at hD'
              rw [show y = h1.objs.size from Option.some.inj hD']
          subst hadr
          have hp' := i'.hp
          rw [hobj] at hp'
          have hp2 := hp'.rid (by rw [hl1]; exact hobjs)
          have adv2 : Adv [] (frs fr) adr1 hA adr1 h' := ((Adv.refl (W := [])).off a' hWn).back
          have inv2 : Inv hb β B fr adr1 ⟨st1.vars, objs⟩ h' := ⟨hp2, i1.blk.adv adv2 fun a hm o q => i1.hp.frSeq hm q⟩
          obtain ⟨D', q1, q2⟩ := hp'.objs objs.length (AObj.list xs) (by simp)
          rw [hlen, hDat] at q1; cases q1
          cases q2 with
          | list q3 q4 =>
            have hDn : h1.objs.size ∉ adr1 := fun hm => by obtain ⟨o, q⟩ := i1'.hp.alive _ hm; exact Nat.lt_irrefl _ (Heap.lt_size q)
            have hCA : hA.get? C = none := hAn C (by omega)
            refine hQ _ C adr1 h' tk' inv2 (.list q3 hDn (q4.rid (k := 3) (by rw [hl1]; exact hxs))) (a1.trans (adv2.mono fun a hm => by cases hm)) i'.blk.ns (fun hm => ?_) (fun hm => ?_) (fun hm => ?_) ?_ ?_
            · obtain ⟨o, q⟩ := i1.hp.alive _ hm; rw [hCA] at q; cases q
            · obtain ⟨_, _, q⟩ := i1.blk.own _ hm
              rcases q with ⟨m, q⟩ | ⟨v, q⟩
              · obtain ⟨o, q⟩ := ns_some q; rw [hCA] at q; cases q
              · obtain ⟨o, q⟩ := cell_some q; rw [hCA] at q; cases q
            · obtain ⟨env, he, hf⟩ := List.mem_filterMap.mp hm
              obtain ⟨_, L, m, p1, _, _, p4⟩ := i1.hp.fr env he
              rw [hf] at p1; cases p1
              obtain ⟨o, q⟩ := ns_some p4; rw [hCA] at q; cases q
            · cases q : hb.get? C with
              | none => rfl
              | some o => have := i1.hp.base _ _ q; rw [hCA] at this; cases this
            · cases q : s.heap.get? C with
              | none => rfl
              | some o => obtain ⟨o', q'⟩ := a1.alive _ _ q; rw [hCA] at q'; cases q'
        subst hCe
        exact codeAny_compStart_list loop (K.self 0 _ _ _ hst' loop)
      · cases e
    · cases e
  · cases e

/-- [elt for target in iter ..] -/
theorem e_comp {elt : Expr} {target iter : Expr} {ifs : List Expr} {rest : List Comprehension} {scope : Scope} {pos : Pos} {ns own : List Str} {src : List (Option Nat)} {BW : Bk → BodyW} {TW : Bk → TestW} {S : St → Option (Turns × St)} {T : Itm → St → Option St} {If : St → Option (Bool × St)} {G : Nat → St → Option St}
    (hc : CompOk B scope ns own src) (hS : SrcS prog w hb β B r target iter S) (hs : ∀ x, foldedSetIterable iter B.env x = pure x)
    (hw : ∀ C, TurnW prog w (cBk B scope ns own C) (.ListComp elt (⟨target, iter, ifs, 0⟩ :: rest) scope pos) 0 target (TW (cBk B scope ns own C)) (BW (cBk B scope ns own C)))
    (hT : ∀ C, TgS prog w hb β (cBk B scope ns own C) r target T) (hI : ∀ C, TeS hb β (cBk B scope ns own C) r (TW (cBk B scope ns own C)) If) (hG : ∀ C, AcS hb β (cBk B scope ns own C) r (BW (cBk B scope ns own C)) G) :
    EvS prog w hb β B r (eval (.ListComp elt (⟨target, iter, ifs, 0⟩ :: rest) scope pos) B.env) (f_comp src S T If G) := by
  refine ⟨?_⟩
  intro A fr adr st st' m s Q E ha hi e hQ
  rw [eval_ListComp]
  refine comp_core (use := none) hc hS hs hw hT hI hG ha hi e fun D C adr' h' tk' i' v' a' hC c1 c2 c3 c4 c5 => ?_
  obtain ⟨mC, hC⟩ := hC
  refine ⟨mC, hC, fun h'' hs'' => ?_⟩
  have k : ∀ b o, b ≠ C → h'.get? b = some o → h''.get? b = some o := fun b o hb' q => (hs''.2 b hb').trans q
  refine hQ _ adr' h'' tk' (i'.offC ⟨mC, hC⟩ k c1 c2 c3 c4) (v'.offC (fun o q => ns_notSeq hC q) k) ?_
  have ne : ∀ b o, s.heap.get? b = some o → b ≠ C := fun b o q z => by subst z; rw [c5] at q; cases q
  exact ⟨a'.pre, a'.new, fun b o q => by obtain ⟨o', q'⟩ := a'.alive b o q; exact ⟨o', k b o' (ne b o q) q'⟩, fun b o q h1 h2 h3 => k b o (ne b o q) (a'.keep b o q h1 h2 h3),
    fun b o q h1 h2 h3 => by obtain ⟨sl, q'⟩ := a'.slots b o q h1 h2 h3; exact ⟨sl, k b _ (ne b o q) q'⟩⟩

/-- x = [elt for ..] -/
theorem x_comp {y : Str} {py spos : Pos} (i : Nat) {elt : Expr} {target iter : Expr} {ifs : List Expr} {rest : List Comprehension} {scope : Scope} {pos : Pos} {ns own : List Str} {src : List (Option Nat)} {BW : Bk → BodyW} {TW : Bk → TestW} {S : St → Option (Turns × St)} {T : Itm → St → Option St} {If : St → Option (Bool × St)} {G : Nat → St → Option St}
    (hsw : swapsWith (.ListComp elt (⟨target, iter, ifs, 0⟩ :: rest) scope pos) (some (.Name y py)) spos.line B.env = pure true) (hx : B.ns[i]? = some y) (hd : distinct B.ns i y = true) (hk : kindSt B y = true) (hsk : B.env.scope.kind = .function)
    (hc : CompOk B scope ns own src) (hS : SrcS prog w hb β B r target iter S) (hs : ∀ x, foldedSetIterable iter B.env x = pure x)
    (hw : ∀ C, TurnW prog w (cBk B scope ns own C) (.ListComp elt (⟨target, iter, ifs, 0⟩ :: rest) scope pos) 0 target (TW (cBk B scope ns own C)) (BW (cBk B scope ns own C)))
    (hT : ∀ C, TgS prog w hb β (cBk B scope ns own C) r target T) (hI : ∀ C, TeS hb β (cBk B scope ns own C) r (TW (cBk B scope ns own C)) If) (hG : ∀ C, AcS hb β (cBk B scope ns own C) r (BW (cBk B scope ns own C)) G) :
    ExS prog w hb β B r (exec (.Assign [.Name y py] (.ListComp elt (⟨target, iter, ifs, 0⟩ :: rest) scope pos) spos) B.env) (x_st i (f_comp src S T If G)) := by
  refine ⟨?_⟩
  intro A fr adr st st' m s Q E ha hi e hQ
  obtain ⟨m1, st1, e1, e⟩ := bnd_some e
  cases e
  rw [exec_Assign_Name_used _ _ _ _ hsw]
  refine wpAny_bind (wpAny_standAt (wpAny_bind ?_))
  show wpAny _ A (do let _ ← comprehension (.ListComp elt (⟨target, iter, ifs, 0⟩ :: rest) scope pos) scope B.env _ (newList []) false (eval iter B.env) (some (assign (.Name y py) B.env))) _ _ s
  refine wpAny_bind (wpAny_mono (comp_core (use := some (assign (.Name y py) B.env)) (Q := fun _ s' => Q .next s') hc hS hs hw hT hI hG ha hi e1 fun D C adr' h' tk' i' v' a' hC c1 c2 c3 c4 c5 => ?_) (fun _ s' hq => wpAny_pure (wpAny_pure hq)) fun _ _ e => e)
  obtain ⟨mC, hC⟩ := hC
  refine wpAny_assign_Name (store_ok (s := { s with heap := h', toks := tk' }) i' v' hx hd hk hsk fun h2 tk2 i2 a2 => ?_)
  have hC2 : h2.Ns C mC := hC.at' fun o q => a2.keep C o q c2 c1 c3
  refine ⟨mC, hC2, fun h'' hs'' => ?_⟩
  have k : ∀ b o, b ≠ C → h2.get? b = some o → h''.get? b = some o := fun b o hb' q => (hs''.2 b hb').trans q
  have a3 := a'.trans a2
  refine hQ .next adr' h'' tk2 (i2.offC ⟨mC, hC2⟩ k c1 c2 c3 c4) trivial ?_
  have ne : ∀ b o, s.heap.get? b = some o → b ≠ C := fun b o q z => by subst z; rw [c5] at q; cases q
  exact ⟨a3.pre, a3.new, fun b o q => by obtain ⟨o', q'⟩ := a3.alive b o q; exact ⟨o', k b o' (ne b o q) q'⟩, fun b o q h1 h2 h3 => k b o (ne b o q) (a3.keep b o q h1 h2 h3),
    fun b o q h1 h2 h3 => by obtain ⟨sl, q'⟩ := a3.slots b o q h1 h2 h3; exact ⟨sl, k b _ (ne b o q) q'⟩⟩
end
end Mine
end

section
open PySem PySem.W PyProof.Rows PySem.Spec PySem.Calls
set_option maxRecDepth 100000
namespace Mine

section
variable {prog : Program} {w : World} {M : Model} {A : Around} {E : Value → Shared → Prop} {h : Heap} {g : Array GenState} {d : Drawn} {t : Nat} {os : OsState}

/-- an object of the class C of exceptions -/
noncomputable abbrev excObj (C : Addr) (od : Option Addr) (vs : Array Value) : Obj := { cls := .ref C, dict := od, data := .fields vs }

/-- the body of BaseException.__init__ -/
theorem exc_init_body {e t₀ C : Addr} {od : Option Addr} {v : Value} {Q : Fin → Shared → Prop} (he : h.get? e = some (excObj C od #[.ref t₀, .none, .none, .none, .bool false, .none]))
    (hq : ∀ h' t₁, (∀ b o, b ≠ e → h.get? b = some o → h'.get? b = some o) → h'.get? e = some (excObj C od #[.ref t₁, .none, .none, .none, .bool false, .none]) → Q (.done (.ret .none)) ⟨h', g, d, t, os⟩) :
    wpAny M A (Builtin.«BaseException.__init__» ⟨[.ref e, v], []⟩) Q E ⟨h, g, d, t, os⟩ := by
  unfold Builtin.«BaseException.__init__»
  wp_walk
  have he1 := Heap.get?_push_of_some { cls := .type "tuple", data := .seq #[v] } he
  refine hq _ h.objs.size (fun b o hb q => ?_) ?_
  · rw [Heap.get?_update_other _ _ (Ne.symm hb)]; exact Heap.get?_push_of_some _ q
  · rw [Heap.get?_update_self _ he1 rfl]; rfl

/-- the wrapper that binds Exception.__init__ to an exception -/
noncomputable abbrev mwObj (e : Addr) : Obj := { cls := .type "method-wrapper", data := .fields #[.builtin "Exception.__init__", .ref e] }

theorem mw_check {K : Frag} {C : Addr} {od : Option Addr} {vs : Array Value} {cd : ClassData} {e : Addr} {v : Value} {Q : Unit → Shared → Prop} (X : K.In h) (hc : clsIn K C = some cd) (he : h.get? e = some (excObj C od vs)) (q : Q () ⟨h, g, d, t, os⟩) :
    wpAny M A (checkBoundCall "Exception.__init__" ⟨[.ref e, v], []⟩) Q E ⟨h, g, d, t, os⟩ := by
  have F := F.excCall_Exception
  simp only [checkBoundCall, F.initKind, F.initRow]
  have hshort := F.noStar
  rw [if_pos (by decide)]
  wp_walk
  obtain ⟨oc, odc, sl, hC⟩ : ∃ oc odc sl, h.get? C = some ⟨oc, odc, .cls cd, sl⟩ := by
    unfold clsIn at hc
    split at hc
    · rename_i ho; cases hc; exact ⟨_, _, _, X _ _ ho⟩
    · cases hc
  refine wpAny_load hC ?_
  refine wpAny_pure (wpAny_pure (wpAny_pure ?_))
  wp_walk
  exact q

theorem mw_call {prog : Program} {w : World} {K : Frag} {cd : ClassData} {e mw t₀ C : Addr} {od : Option Addr} {v : Value} {Q : Value → Shared → Prop} (X : K.In h) (hc : clsIn K C = some cd) (hm : h.get? mw = some (mwObj e)) (he : h.get? e = some (excObj C od #[.ref t₀, .none, .none, .none, .bool false, .none]))
    (hq : ∀ h' t₁, (∀ b o, b ≠ e → h.get? b = some o → h'.get? b = some o) → h'.get? e = some (excObj C od #[.ref t₁, .none, .none, .none, .bool false, .none]) → Q .none ⟨h', g, d, t, os⟩) :
    wpAny (model prog w) A (call (.ref mw) [v]) Q E ⟨h, g, d, t, os⟩ := by
  refine wpAny_call (codeAny_of_tree ?_)
  show wpAny _ _ (callAny (.ref mw) _) _ _ _
  unfold callAny
  refine wpAny_bind (wpAny_load hm ?_)
  show wpAny _ _ (checkBoundCall "Exception.__init__" ⟨[.ref e, v], []⟩ >>= fun _ => again (.builtin "Exception.__init__" ⟨[.ref e, v], []⟩)) _ _ _
  refine wpAny_bind (mw_check X hc he (wpAny_pure ⟨plainId_quiet (by decide +kernel) _, ?_⟩))
  exact codeAny_builtin F.excCall_Exception.initEntry (exc_init_body he fun h' t₁ k e' => hq h' t₁ k e')
end

section
variable {prog : Program} {w : World} {A : Around} {E : Value → Shared → Prop} {h : Heap} {g : Array GenState} {d : Drawn} {t : Nat} {os : OsState}

theorem slot_wd_get : Slot "wrapper_descriptor" "__get__" "wrapper_descriptor.__get__" := .of (owner := "wrapper_descriptor") (n := "__get__") (by rw [typeLookup_type, builtinLookup_eq_fast]; kernel_rfl) (by decide +kernel) (by decide +kernel) (by decide +kernel)
  (by first | exact .inl (by decide +kernel) | exact .inr (by decide +kernel)) (by rw [isSubtype_type]; kernel_rfl)
theorem entry_wd_get : entryFor table "wrapper_descriptor.__get__" = some Builtin.«wrapper_descriptor.__get__» := entryFor_of_tree (by kernel_rfl)
theorem args_wd_get (a b c : Value) : argsOk "wrapper_descriptor.__get__" ⟨[a, b, c], []⟩ := by unfold argsOk; kernel_rfl

theorem typeIs_wd {s : Shared} : s.TypeIs (.builtin "Exception.__init__") "wrapper_descriptor" := by
  rfl

theorem super_ga {so D x C : Addr} {ox : Obj} {l₀ l : List Value} {K : Frag} {name : Str} {tk : Tok} {Q : Fin → Shared → Prop}
    (hso : h.get? so = some { cls := .type "super", dict := none, data := .fields #[.ref D, .ref x, .ref C], slots := #[] }) (hno : Looks (model prog w) h (opaqueClassAbove (.ref C)) none)
    (hC : Looks (model prog w) h (mroOf (.ref C)) l₀) (hl : (l₀.dropWhile (· != .ref D)).drop 1 = l) (X : K.In h) (hx : h.get? x = some ox) (hxc : ox.cls = .ref C)
    (hf : alongIn K name l = some (some (.builtin "Exception.__init__"))) (hsub : Looks (model prog w) h (isSubtype (.ref C) (.type "Exception")) true) (hxC : x ≠ C) (hn : (name == ("__class__" : Str)) = false)
    (hq : Q (.done (.ret (.ref h.objs.size))) ⟨h.push { cls := .type "method-wrapper", data := .fields #[.builtin "Exception.__init__", .ref x] }, g, d, t, os⟩) :
    wpAny (model prog w) A (Builtin.«super.__getattribute__» ⟨[.ref so, .str name tk], []⟩) Q E ⟨h, g, d, t, os⟩ := by
  have hlk := slot_wd_get.lookup
  have hne : (Value.ref x == Value.ref C) = false := by simp [hxC]
  have hTf : (⟨h, g, d, t, os⟩ : Shared).TypeIs (.builtin "Exception.__init__") "wrapper_descriptor" := typeIs_wd
  have hdt : ({ cls := .type "super", dict := none, data := .fields #[.ref D, .ref x, .ref C], slots := #[] } : Obj).data = .fields #[.ref D, .ref x, .ref C] := rfl
  have f0 : (#[.ref D, .ref x, .ref C] : Array Value)[0]? = some (.ref D) := rfl
  have f1 : (#[.ref D, .ref x, .ref C] : Array Value)[1]? = some (.ref x) := rfl
  have f2 : (#[.ref D, .ref x, .ref C] : Array Value)[2]? = some (.ref C) := rfl
  have inst : Looks (model prog w) h (isInstance (.ref x) (.type "Exception")) true := (((Looks.ld (part := some headPart) hx).andThen .now : Looks (model prog w) h (typeOf (.ref x)) ox.cls)).andThen (by rw [hxc]; exact hsub)
  unfold Builtin.«super.__getattribute__»
  repeat (first
    | (with_reducible refine wpAny_field hso hdt f0 ?_) | (with_reducible refine wpAny_field hso hdt f1 ?_) | (with_reducible refine wpAny_field hso hdt f2 ?_)
    | (with_reducible refine ks_wpAny_notOpaque hno ?_)
    | (with_reducible refine Looks.at hC ?_; rw [hl])
    | (refine ks_forIn_along X (fun _ _ => rfl) rfl ?_ hf)
    | (with_reducible refine wpAny_typeOf hTf ?_)
    | (with_reducible refine wpAny_call_entry slot_wd_get hTf entry_wd_get ?_ (args_wd_get _ _ _))
    | (with_reducible refine ⟨_, rfl, ?_⟩)
    | (with_reducible refine Looks.at inst ?_)
    | (simp only [hn, hne, Bool.or_false, Bool.false_eq_true, if_false])
    | wp_step
    | dsimp only)
  have hown : ".".intercalate ("Exception.__init__".cutAt '.').dropLast = "Exception" := by decide +kernel
  rw [hown, hxc]
  refine Looks.at hsub ?_
  simp only [Bool.not_true, Bool.false_eq_true, if_false]
  refine wpAny_pure ?_
  unfold newFields
  refine wpAny_bind (wpAny_newObj_type ?_ (by size_fits))
  refine wpAny_pure ⟨_, rfl, ?_⟩
  refine wpAny_bind (wpAny_pure (wpAny_pure (wpAny_pure ?_)))
  exact hq

theorem getMethod_super {so D x C : Addr} {ox : Obj} {l₀ l : List Value} {K : Frag} {name : Str} {pl : Sem Bool} {Q : Value × List Value → Shared → Prop}
    (hso : h.get? so = some { cls := .type "super", dict := none, data := .fields #[.ref D, .ref x, .ref C], slots := #[] }) (hno : Looks (model prog w) h (opaqueClassAbove (.ref C)) none)
    (hC : Looks (model prog w) h (mroOf (.ref C)) l₀) (hl : (l₀.dropWhile (· != .ref D)).drop 1 = l) (X : K.In h) (hx : h.get? x = some ox) (hxc : ox.cls = .ref C)
    (hf : alongIn K name l = some (some (.builtin "Exception.__init__"))) (hsub : Looks (model prog w) h (isSubtype (.ref C) (.type "Exception")) true) (hxC : x ≠ C) (hn : (name == ("__class__" : Str)) = false)
    (hq : Q (.ref h.objs.size, []) ⟨h.push (mwObj x), g, d, t + 1, os⟩) :
    wpAny (model prog w) A (getMethod (.ref so) name pl) Q E ⟨h, g, d, t, os⟩ := by
  have hlk := F.ks_slot_super_ga.lookup
  have hcan := F.ks_canon_super_ga
  have hT : ∀ t', (⟨h, g, d, t', os⟩ : Shared).TypeIs (.ref so) "super" := fun _ => ⟨_, hso, rfl⟩
  unfold getMethod
  refine wpAny_bind (wpAny_specialOf (hT _) hlk ?_)
  show wpAny _ _ (if (Manifest.canonical "super.__getattribute__" != "object.__getattribute__") = true then _ else _) _ _ _
  rw [if_pos hcan]
  unfold getAttr getAttrBy
  refine wpAny_bind (wpAny_bind (wpAny_mkText (wpAny_holding (wpAny_bind (wpAny_typeOf (hT _) (wpAny_bind (wpAny_of_eq hlk ?_)))))))
  show wpAny _ _ (getAttrByItsOwn (.ref so) (.str name t) (.type "super") (.builtin "super.__getattribute__") true false) _ _ _
  unfold getAttrByItsOwn hookBefore callGetattribute boundAndCalled
  refine wpAny_bind (wpAny_of_eq (show (if onTheHeap (.type "super") then typeLookup (.type "super") "__getattr__" else pure none) = pure none from rfl) ?_)
  refine wpAny_bind (wpAny_attempt (wpAny_holding ?_))
  show wpAny _ _ (bindSpecial (.builtin "super.__getattribute__") (.ref so) >>= _) _ _ _
  refine wpAny_bind (wpAny_of_eq (F.ks_slot_super_ga.bind _) ?_)
  refine wpAny_mono (Q := fun v s' => v = .ref h.objs.size ∧ s' = ⟨h.push (mwObj x), g, d, t + 1, os⟩) (E := fun _ _ => False)
    (wpAny_call_entry F.ks_slot_super_ga (hT _) F.ks_entry_super_ga (super_ga hso hno hC hl X hx hxc hf hsub hxC hn ⟨_, rfl, rfl, rfl⟩) (F.ks_gaArgs_super _ _)) (fun v s' hv => ?_) fun _ _ z => z.elim
  obtain ⟨rfl, rfl⟩ := hv
  exact wpAny_pure (wpAny_pure hq)
end
end Mine
end

section
open PySem PySem.W PyProof.Rows PySem.Spec PySem.Calls
set_option maxRecDepth 100000
namespace Mine

section
variable {prog : Program} {w : World} {A : Around} {s : Shared} {R : Result → Shared → Prop} {K : Frag} {C : Addr}

/-- the first attribute: the dict comes with it -/
theorem osa_first {vs : Array Value} {a : Addr} {name : Str} {tk : Tok} {v : Value} (X : K.In s.heap)
    (he : s.heap.get? a = some (excObj C none vs)) (hp : OverOk K C) (ht : takerIn K C name = some none) (hh : hasDictIn K C = true)
    (h : ∀ h' dx n', (∀ b o, b ≠ a → s.heap.get? b = some o → h'.get? b = some o) → s.heap.get? dx = none → h'.get? a = some (excObj C (some dx) vs) →
      h'.get? dx = some (dictOf [⟨PyData.keyHash w.params name, .str name s.toks, v⟩] n') → R (.ok (.ret .none)) { s with heap := h', toks := s.toks + 1 }) :
    codeAny (model prog w) A (.call (.builtin "object.__setattr__") ⟨[.ref a, .str name tk, v], []⟩) R s := by
  have I : InstAt s.heap a (excObj C none vs) C none := ⟨he, rfl, rfl, trivial⟩
  refine osa_openX X I hp ht fun b => ?_
  obtain ⟨cd, hc, hd'⟩ := any_some hh
  refine wpAny_bind (wpAny_pure (wpAny_bind (wpAny_bind (wpAny_loadPart he (wpAny_bind ((looks_clsIn X hc).here ?_))))))
  rw [hd']
  have dsz := s.heap.objs.size
  have D₁ : (s.heap.push emptyDict).get? s.heap.objs.size = some (dictOf [] 0) := push_size
  have hne : s.heap.objs.size ≠ a := fun q => by rw [← q] at he; exact absurd (Heap.lt_size he) (Nat.lt_irrefl _)
  have he₁ : (s.heap.push emptyDict).get? a = some (excObj C none vs) := push_keeps _ _ he
  have hf₂ : ((fun o : Obj => { o with dict := some s.heap.objs.size }) (excObj C none vs)).isFreed = false := rfl
  have he₂ := Heap.get?_update_self (fun o : Obj => { o with dict := some s.heap.objs.size }) he₁ hf₂
  have D₂ : ((s.heap.push emptyDict).update a (fun o : Obj => { o with dict := some s.heap.objs.size })).get? s.heap.objs.size = some (dictOf [] 0) := (Heap.get?_update_other _ _ (Ne.symm hne)).trans D₁
  refine wpAny_bind (wpAny_alloc (wpAny_bind (wpAny_update he₁ ?_)))
  refine wpAny_pure (wpAny_bind (wpAny_pure (wpAny_bind ?_)))
  unfold nsSet
  refine wpAny_bind (wpAny_bind (wpAny_askSetting (wpAny_pure (wpAny_bind (wpAny_mkText (wpAny_bind (wpAny_loadPart D₂ ?_)))))))
  dsimp only
  have c : (!([] : List DictEntry).toArray.any (·.key.isStr name) && ([] : List DictEntry).toArray.any (·.refKey)) = false := by simp
  rw [aRefKeyMayBeTheName_at, c]
  refine wpAny_updatePart D₂ ?_
  have eN := putName_dict name (PyData.keyHash w.params name) (.str name s.toks) v [] 0
  have D₃ := Heap.get?_update_self (Obj.putName name (PyData.keyHash w.params name) (.str name s.toks) v) D₂ (by rw [eN]; rfl)
  rw [eN] at D₃
  refine wpAny_bind (wpAny_lookBehind D₃ (pastItsLine_dict (by simp [putL, sizeLine_eq])) ?_)
  refine wpAny_pure (h _ s.heap.objs.size _ (fun b o hb q => ?_) fresh_none ?_ D₃)
  · have hbn : s.heap.objs.size ≠ b := Nat.ne_of_gt (Heap.lt_size q)
    rw [Heap.get?_update_other _ _ hbn, Heap.get?_update_other _ _ (Ne.symm hb)]
    exact push_keeps _ _ q
  · rw [Heap.get?_update_other _ _ hne]; exact he₂

theorem setAttr_first {E : Value → Shared → Prop} {names : List Str} {vs : Array Value} {a : Addr} {name : Str} {v : Value} {Q : Unit → Shared → Prop} (X : K.In s.heap) (hC : ClsOk K C names) (hin : names.contains name = true)
    (he : s.heap.get? a = some (excObj C none vs))
    (h : ∀ h' dx n' hs tk', (∀ b o, b ≠ a → s.heap.get? b = some o → h'.get? b = some o) → s.heap.get? dx = none → h'.get? a = some (excObj C (some dx) vs) →
      h'.get? dx = some (dictOf [⟨hs, .str name s.toks.succ, v⟩] n') → Q () { s with heap := h', toks := tk' }) :
    wpAny (model prog w) A (setAttr (.ref a) name v) Q E s := by
  have I : InstAt s.heap a (excObj C none vs) C none := ⟨he, rfl, rfl, trivial⟩
  have tk : takerIn K C name = some none := by unfold takerIn; rw [hC.at hin]; rfl
  exact set_plain X I hC.setat (osa_first (s := { s with toks := s.toks + 1 }) X he hC.over tk hC.dct fun h' dx n' k1 k2 k3 k4 => h h' dx n' _ _ k1 k2 k3 k4)

theorem setAttr_second {E : Value → Shared → Prop} {names : List Str} {vs : Array Value} {a dx : Addr} {name : Str} {v : Value} {es : List DictEntry} {n : Nat} {Q : Unit → Shared → Prop} (X : K.In s.heap) (hC : ClsOk K C names) (hin : names.contains name = true)
    (he : s.heap.get? a = some (excObj C (some dx) vs)) (hd : s.heap.get? dx = some (dictOf es n)) (hl : (getL name es).isSome = true) (hz : es.length ≤ 500)
    (h : ∀ h' n' hs tk', Heap.SameBut dx s.heap h' → h'.get? dx = some (dictOf (putL name hs (.str name s.toks.succ) v es) n') → Q () { s with heap := h', toks := tk' }) :
    wpAny (model prog w) A (setAttr (.ref a) name v) Q E s := by
  have I : InstAt s.heap a (excObj C (some dx) vs) C (some (dictOf es n)) := ⟨he, rfl, rfl, hd⟩
  have tk : takerIn K C name = some none := by unfold takerIn; rw [hC.at hin]; rfl
  exact set_plain X I hC.setat (osa_raw (s := { s with toks := s.toks + 1 }) X I rfl hd hC.over tk hC.dct hl hz fun h' n' k1 k2 => h h' n' _ _ k1 k2)
end
end Mine
end

section
open PySem PySem.W PyProof.Rows PySem.Spec PySem.Calls
set_option maxRecDepth 100000
namespace Mine

noncomputable def initBody (p0 p1 p2 p3 p4 p5 p6 p7 p8 p9 q1 q2 q3 q4 : Pos) : List Stmt :=
  [.Expr (.Call (.Attribute (.Call (.Name "super" p0) [] [] p1) "__init__" p2) [.Name "code" p3] [] p4) p5,
   .Assign [.Attribute (.Name "self" p6) "code" p7] (.Name "code" p8) p9,
   .Assign [.Attribute (.Name "self" q1) "told" q2] (.Name "told" q3) q4]

/-- what must be known of the class of exceptions and of its __init__ -/
structure ExcOk (prog : Program) (hb : Heap) (K : Frag) (C fI : Addr) (fd : FuncData) : Prop where
  cls : ClsOk K C ["code", "told"]
  cd : ∃ cd, clsIn K C = some cd ∧ alongIn K "__init__" ((cd.mro.dropWhile (· != .ref C)).drop 1) = some (some (.builtin "Exception.__init__"))
  sub : mroIn K C (.type "Exception") = some true
  self : mroIn K C (.ref C) = some true
  opq : nsIn K cStatics "thirdparty.any" = some none
  obj : ∃ o, hb.get? fI = some o ∧ o.data = .func fd ∧ o.cls = .type "function"
  lim : hb.NoLimit
  code : hb.CodeRec fd.code fd.qualname
  bind : ∀ (s : Shared) (a b c : Value), (∀ b o, hb.get? b = some o → s.heap.get? b = some o) → BindsTo s fd ⟨[a, b, c], []⟩ [(("self" : Str), a), (("code" : Str), b), (("told" : Str), c)]
  body : ∃ p0 p1 p2 p3 p4 p5 p6 p7 p8 p9 q1 q2 q3 q4, fd.body = .stmts (initBody p0 p1 p2 p3 p4 p5 p6 p7 p8 p9 q1 q2 q3 q4) ∧
    ∀ L, ∃ pl, eval (.Call (.Attribute (.Call (.Name "super" p0) [] [] p1) "__init__" p2) [.Name "code" p3] [] p4) (callEnv fd L fI) = (do
      let ov ← attributeBase (.Call (.Name "super" p0) [] [] p1) "__init__" (callEnv fd L fI) (eval (.Call (.Name "super" p0) [] [] p1) (callEnv fd L fI))
      standAt p2.atName
      let (f, first) ← holding [ov] (getMethod ov "__init__" pl)
      callWith p4 f first (backTo p4 (starEach [.Name "code" p3] (callEnv fd L fI))) [])
  nocell : ∀ x ∈ fd.scope.names, x.2 ≠ .cell
  l1 : fd.scope.names.lookup ("self" : Str) = some .local
  l2 : fd.scope.names.lookup ("code" : Str) = some .local
  l3 : fd.scope.names.lookup ("told" : Str) = some .local
  l4 : fd.scope.names.lookup ("__class__" : Str) = some .free
  l5 : fd.scope.names.lookup ("super" : Str) = some .globalImplicit
  co : fd.scope.isCoroutine = false
  gen : fd.scope.isGenerator = false
  kind : fd.scope.kind = .function
  head : ∃ ar, (fd.params.posonlyargs ++ fd.params.args).head? = some ar ∧ ar.arg = "self"
  clo : ∃ cc, fd.closure = [(("__class__" : Str), cc)] ∧ hb.IsCell cc (some (.ref C))
  file : ∃ cda oc vs file tf, fd.code = .ref cda ∧ hb.get? cda = some oc ∧ oc.data = .fields vs ∧ vs[2]? = some (.str file tf) ∧ ((prog.main.file : Str) == file) = true
  top : (prog.main.scope.names.lookup ("super" : Str)).isSome = false
  glob : ∃ mg mb, hb.Ns fd.globals mg ∧ mg ("super" : Str) = none ∧ hb.Ns fd.builtins mb ∧ mb ("super" : Str) = some (.type "super")

section
variable {prog : Program} {w : World} {hb : Heap} {K : Frag} {C fI : Addr} {fd : FuncData} {A : Around} {E : Value → Shared → Prop}

theorem exc_init_call (X : ExcOk prog hb K C fI fd) (hK : K.In hb) {s : Shared} {e t₀ : Addr} {vc vt : Value} {Q : Value → Shared → Prop} (hroom : A.depth < recursionLimit) (base : ∀ b o, hb.get? b = some o → s.heap.get? b = some o)
    (hen : hb.get? e = none) (he : s.heap.get? e = some (excObj C none #[.ref t₀, .none, .none, .none, .bool false, .none]))
    (hQ : ∀ h' tk' dx t₁ n' h1 h2 k1 k2, (∀ b o, b ≠ e → s.heap.get? b = some o → h'.get? b = some o) → s.heap.get? dx = none → h'.get? e = some (excObj C (some dx) #[.ref t₁, .none, .none, .none, .bool false, .none]) →
      h'.get? dx = some (dictOf [⟨h1, .str "code" k1, vc⟩, ⟨h2, .str "told" k2, vt⟩] n') → Q .none { s with heap := h', toks := tk' }) :
    wpAny (model prog w) A (call (.ref fI) [.ref e, vc, vt]) Q E s := by
  obtain ⟨o, ho, hod, hoc⟩ := X.obj
  obtain ⟨p0, p1, p2, p3, p4, p5, p6, p7, p8, p9, q1, q2, q3, q4, hbody, hmeth⟩ := X.body
  obtain ⟨ar, har, hara⟩ := X.head
  obtain ⟨cc, hclo, hcell⟩ := X.clo
  obtain ⟨cda, oc, vs, file, tf, f1, f2, f3, f4, f5⟩ := X.file
  obtain ⟨mg, mb, g1, g2, g3, g4⟩ := X.glob
  obtain ⟨cd, hcd, halong⟩ := X.cd
  refine wpAny_call (ks_codeAny_call_defAt hroom (base _ _ ho) hod (X.lim.keeps base) (X.code.keeps base) hbody (X.bind s _ _ _ base) X.nocell (fun x hx => ?_) (fun h₀ hns hk => ?_) X.co X.gen X.kind)
  · simp only [List.mem_cons, List.not_mem_nil, or_false] at hx
    rcases hx with rfl | rfl | rfl
    · exact X.l1
    · exact X.l2
    · exact X.l3
  have hL : (callEnv fd s.heap.objs.size fI).locals = s.heap.objs.size := rfl
  have base₀ : ∀ b o, hb.get? b = some o → h₀.get? b = some o := fun b o q => hk b o (base b o q)
  have hCne : e ≠ C := by
    rintro rfl
    unfold clsIn at hcd
    split at hcd
    · rename_i ho; rw [hK _ _ ho] at hen; cases hen
    · cases hcd
  have X₀ : K.In h₀ := hK.keeps base₀
  obtain ⟨nm, an, ps⟩ := ar
  dsimp only at hara
  subst hara
  obtain ⟨oC, hoC, hdC⟩ : ∃ oC, K.lookup C = some oC ∧ oC.data = .cls cd := by
    unfold clsIn at hcd
    split at hcd
    · rename_i ho; cases hcd; exact ⟨_, ho, rfl⟩
    · cases hcd
  have kL : (callEnv fd s.heap.objs.size fI).scope.kind = .function := X.kind
  have hLe : s.heap.objs.size ≠ e := fun q => by rw [← q] at he; exact absurd (Heap.lt_size he) (Nat.lt_irrefl _)
  have he₀ := hk _ _ he
  have hint : interactive (callEnv fd s.heap.objs.size fI) = false := by unfold interactive; rw [kL]; rfl
  unfold initBody
  obtain ⟨pl, hmeth⟩ := hmeth s.heap.objs.size
  refine ks_wpAt_execs_cons (ks_wpAt_Expr_any (ks_wpAt_MethodCall (pl := pl) ?_ hmeth) hint rfl)
  · refine ks_wpAt_super_base (env := callEnv fd s.heap.objs.size fI) X.l5 X.l4 rfl rfl (base₀ _ _ ho) hod har f1 (base₀ _ _ f2) f3 f4 f5 X.top ?_
    refine ks_loadName_global kL X.l5 (loadGlobal_builtin (g1.keeps base₀) g2 (g3.keeps base₀) g4 ⟨rfl, ?_⟩)
    refine wpAny_loadName_free kL X.l4 (c := cc) (by show fd.closure.lookup _ = _; rw [hclo]; rfl) (hcell.keeps base₀) ?_
    refine wpAny_loadName_local kL X.l1 hns rfl ?_
    refine ks_wpAny_isType_cls (X₀ _ _ hoC) hdC ⟨rfl, ?_⟩
    refine ks_wpAny_call_super (X₀ _ _ hoC) hdC he₀ rfl (fun c q => by cases q) (looks_mroIn X₀ X.self) fun h1 e1 k1 => ?_
    have X₁ : K.In h1 := X₀.keeps k1
    refine getMethod_super e1 (looks_opaque X₁ X.opq) ((looks_clsIn X₁ hcd).andThen .now) rfl X₁ (k1 _ _ he₀) rfl halong (looks_mroIn X₁ X.sub) hCne rfl ?_
    have k2 : ∀ b o, h1.get? b = some o → (h1.push (mwObj e)).get? b = some o := push_keeps
    have hmw : (h1.push (mwObj e)).get? h1.objs.size = some (mwObj e) := push_size
    refine callWith_of (P := fun h => h.get? h1.objs.size = some (mwObj e)) rfl (fun h q => ⟨.machine, .inr (.inl rfl), (Looks.ld q).andThen .now⟩) (evalArgs_plain (spliced_cons ?_))
    refine wpAny_Name (wpAny_loadName_local kL X.l2 ((hns.keeps k1).keeps k2) rfl (wpAny_pure ⟨hmw, ?_⟩)) rfl
    refine mw_call (X₁.keeps k2) hcd hmw (k2 _ _ (k1 _ _ he₀)) fun h3 t₁ k3 e3 => ?_
    have k03 : ∀ b o, b ≠ e → h₀.get? b = some o → h3.get? b = some o := fun b o hb q => k3 b o hb (k2 b o (k1 b o q))
    have X₃ : K.In h3 := hK.keeps fun b o q => k03 b o (fun z => by rw [z, hen] at q; cases q) (base₀ b o q)
    have hns3 := hns.at' fun o q => k03 _ o hLe q
    refine wpAt_of_wpAny (wpAny_execs_cons (plainObj_wpAny_Assign_Attribute (wpAny_Name (wpAny_loadName_local kL X.l2 hns3 rfl (wpAny_Name (wpAny_loadName_local kL X.l1 hns3 rfl ?_) rfl)) rfl) rfl))
    refine setAttr_first X₃ X.cls (by decide) e3 fun h4 dx n4 hs4 tk4 k4 d4 e4 D4 => ?_
    have X₄ : K.In h4 := hK.keeps fun b o q => k4 b o (fun z => by rw [z, hen] at q; cases q) (k03 b o (fun z => by rw [z, hen] at q; cases q) (base₀ b o q))
    have hns4 := hns3.at' fun o q => k4 _ o hLe q
    refine wpAny_execs_cons (plainObj_wpAny_Assign_Attribute (wpAny_Name (wpAny_loadName_local kL X.l3 hns4 rfl (wpAny_Name (wpAny_loadName_local kL X.l1 hns4 rfl ?_) rfl)) rfl) rfl)
    refine setAttr_second X₄ X.cls (by decide) e4 D4 rfl (by simp) fun h5 n5 hs5 tk5 k5 D5 => ?_
    have hdxe : dx ≠ e := fun q => by rw [q, e3] at d4; cases d4
    have hdx3 : ∀ b o, h3.get? b = some o → b ≠ dx := fun b o q z => by rw [z, d4] at q; cases q
    have hdxs : s.heap.get? dx = none := by
      cases q : s.heap.get? dx with
      | none => rfl
      | some o => have := k03 dx o hdxe (hk _ _ q); rw [d4] at this; cases this
    refine wpAny_execs_nil (hQ h5 tk5 dx t₁ n5 _ _ _ _ (fun b o hb q => ?_) hdxs ((k5.2 e (Ne.symm hdxe)).trans e4) D5)
    have q3 := k03 b o hb (hk _ _ q)
    exact (k5.2 b (hdx3 b o q3)).trans (k4 b o hb q3)
end
end Mine
end

section
open PySem PySem.W PyProof.Rows PySem.Spec PySem.Calls
set_option maxRecDepth 100000
namespace Mine

/-! an exception on its way, with the dict of its attributes -/
noncomputable def Tr (base h : Heap) (e C dx : Addr) (fl : Value) : Prop :=
  ∃ oe vs T oT ts, h.get? e = some oe ∧ oe.cls = .ref C ∧ oe.dict = some dx ∧ oe.data = .fields vs ∧ vs[1]? = some (.ref T) ∧ base.get? T = none ∧ T ≠ e ∧ h.get? T = some oT ∧ oT.data = .fields ts ∧ ts[3]? = some fl
structure HD (base : Heap) (l : List Env) (e C dx : Addr) (fl : Value) (h : Heap) : Prop where
  stays : base.StaysIn h
  new : base.get? e = none
  frames : h.FunFrames base l
  tr : Tr base h e C dx fl

section
variable {M : Model} {A : Around} {E : Value → Shared → Prop} {s : Shared} {base : Heap} {env : Env} {outer : List Env} {L e C dx : Addr} {fl : Value}

theorem entryD {oe : Obj} {vs : Array Value} {head : Value} {hadNext : Bool} {Q : Unit → Shared → Prop}
    (hfr : A.frames = some (env :: outer)) (hl : s.heap.FunFrames base (env :: outer)) (hf : env.frame = some L)
    (he : s.heap.get? e = some oe) (hkb : base.StaysIn s.heap) (hen : base.get? e = none) (hC : oe.cls = .ref C) (hdx : oe.dict = some dx) (hd : oe.data = .fields vs) (hsz : 1 < vs.size)
    (h : ∀ h', HD base (env :: outer) e C dx (rawInt L) h' → s.heap.UpToSlots h' → Q () { s with heap := h' }) :
    wpAny M A (do let a ← frameOf env; let pl ← entryPlaceOf L hadNext; let b ← EntryCells.newEntry head a .none (rawInt L) .none pl; setField (.ref e) 1 b) Q E s := by
  have notFrame : e ∉ (env :: outer).filterMap (·.frame) := fun hm => by
    obtain ⟨_, o, ho, hnf⟩ := hl.mem hm
    rw [he] at ho; cases ho; exact hnf vs hd
  refine wpAny_bind (wpAny_frameOf_fun hfr hl hf fun h₁ hs₁ => wpAny_bind (wpAny_entryPlaceOf fun pl hpl => ?_))
  unfold EntryCells.newEntry newFields
  refine wpAny_bind (wpAny_newObj_type ?_ (hpl.sizeOk5 _ _ _ _ _))
  generalize hTo : ({ cls := .type "traceback", dict := none, data := .fields ([head, .ref L, .none, rawInt L, .none] ++ (if pl.isEmpty then List.replicate 6 Value.none else pl)).toArray } : Obj) = oT
  have hTd : oT.data = .fields ([head, .ref L, .none, rawInt L, .none] ++ (if pl.isEmpty then List.replicate 6 Value.none else pl)).toArray := by rw [← hTo]
  have hTf : oT.isFreed = false := by rw [← hTo]; rfl
  have e1 : h₁.get? e = some oe := (hs₁.2.1 e notFrame).trans he
  have b1 : base.StaysIn h₁ := fun b o q => (hs₁.2.1 b fun hm => by rw [(hl.mem hm).1] at q; cases q).trans (hkb b o q)
  have e2 : (h₁.push oT).get? e = some oe := Heap.get?_push_of_some _ e1
  have d3 := Obj.data_mapFields hd (·.setIfInBounds 1 (Value.ref h₁.objs.size))
  have e3 := Heap.get?_update_self (Obj.mapFields (·.setIfInBounds 1 (Value.ref h₁.objs.size))) e2 (Obj.isFreed_of_fields d3)
  have hTe : h₁.objs.size ≠ e := Nat.ne_of_gt (Heap.lt_size e1)
  have hT3 := (Heap.get?_update_other (h₁.push oT) (Obj.mapFields (·.setIfInBounds 1 (Value.ref h₁.objs.size))) (Ne.symm hTe)).trans (Heap.get?_push_size h₁ hTf)
  have keep : ∀ b o, b ≠ e → h₁.get? b = some o → ((h₁.push oT).update e (Obj.mapFields (·.setIfInBounds 1 (Value.ref h₁.objs.size)))).get? b = some o := fun b o hb q => by
    rw [Heap.get?_update_other _ _ (Ne.symm hb)]; exact Heap.get?_push_of_some _ q
  have notE : ∀ b o, s.heap.get? b = some o → (∀ vs, o.data ≠ .fields vs) → b ≠ e := fun b o q hnf z => by
    rw [z, he] at q; cases q; exact hnf vs hd
  have hdict : (Obj.mapFields (·.setIfInBounds 1 (Value.ref h₁.objs.size)) oe).dict = some dx := by
    obtain ⟨c, dd, da, sl⟩ := oe
    cases hd; exact hdx
  refine wpAny_setField e2 hd hsz (h _ ⟨fun b o q => keep b o (fun z => by rw [z, hen] at q; cases q) (b1 b o q), hen, hl.of_keeps fun b o q hnf => ?_, ?_⟩ fun b o q hnf => ?_)
  · obtain ⟨sl, hs⟩ := hs₁.2.2 b o q
    exact ⟨_, keep b _ (notE b o q hnf) hs, rfl⟩
  · refine ⟨_, _, h₁.objs.size, _, _, e3, (Obj.cls_mapFields _ _).trans hC, hdict, d3, by simp [hsz], b1.fresh, hTe, hT3, hTd, ?_⟩
    rcases hpl with rfl | ⟨_, _, _, _, _, _, _, rfl⟩ <;> simp
  · obtain ⟨sl, hs⟩ := hs₁.2.2 b o q
    exact ⟨sl, keep b _ (notE b o q hnf) hs⟩

/-- the first note -/
theorem noteD_first {vs : Array Value} {oe : Obj} {Q : Unit → Shared → Prop} (hfr : A.frames = some (env :: outer)) (hl : s.heap.FunFrames base (env :: outer)) (hf : env.frame = some L)
    (he : s.heap.get? e = some oe) (hkb : base.StaysIn s.heap) (hen : base.get? e = none) (hC : oe.cls = .ref C) (hdx : oe.dict = some dx) (hd : oe.data = .fields vs) (h1 : vs[1]? = some .none)
    (h : ∀ h', HD base (env :: outer) e C dx (rawInt L) h' → s.heap.UpToSlots h' → Q () { s with heap := h' }) : wpAny M A (noteFrame (.ref e) env) Q E s := by
  unfold noteFrame
  simp only [hf]
  refine wpAny_bind (wpAny_field he hd h1 ?_)
  rw [if_neg (by decide)]
  exact entryD hfr hl hf he hkb hen hC hdx hd (Array.getElem?_eq_some_iff.mp h1).1 h

/-- the same frame again -/
theorem noteD_again {Q : Unit → Shared → Prop} (hf : env.frame = some L) (x : HD base outer e C dx (rawInt L) s.heap) (h : Q () s) : wpAny M A (noteFrame (.ref e) env) Q E s := by
  obtain ⟨_, _, _, oe, vs, T, oT, ts, he, _, _, hd, h1, hnT, hTe, hT, hdT, h3⟩ := x
  unfold noteFrame
  simp only [hf]
  refine wpAny_bind (wpAny_field he hd h1 ?_)
  rw [if_pos (show (Value.ref T != Value.none) = true from by simp)]
  refine wpAny_bind (wpAny_field hT hdT h3 ?_)
  rw [if_pos (show (rawInt L == rawInt L) = true from by simp)]
  exact wpAny_pure h

theorem HD.setT {x : Value} (H : HD base outer e C dx fl s.heap) {T : Addr} {oe : Obj} {vs : Array Value} (he : s.heap.get? e = some oe) (hd : oe.data = .fields vs) (h1 : vs[1]? = some (.ref T)) :
    HD base outer e C dx x (s.heap.update T (Obj.mapFields (·.setIfInBounds 3 x))) ∧ s.heap.UpToSlots (s.heap.update T (Obj.mapFields (·.setIfInBounds 3 x))) := by
  obtain ⟨k, n, l, oe', vs', T', oT, ts, he', c1, c2, hd', h1', hnT, hTe, hT, hdT, h3⟩ := H
  rw [he] at he'; cases he'
  rw [hd] at hd'; cases hd'
  rw [h1] at h1'; cases h1'
  have hs3 : 3 < ts.size := (Array.getElem?_eq_some_iff.mp h3).1
  have other : ∀ b, b ≠ T → (s.heap.update T (Obj.mapFields (·.setIfInBounds 3 x))).get? b = s.heap.get? b := fun b hb => Heap.get?_update_other _ _ (Ne.symm hb)
  have notT : ∀ b o, s.heap.get? b = some o → (∀ vs, o.data ≠ .fields vs) → b ≠ T := fun b o q hnf z => by
    rw [z, hT] at q; cases q; exact hnf ts hdT
  refine ⟨⟨fun b o q => (other b fun z => by rw [z, hnT] at q; cases q).trans (k b o q), n, l.of_keeps fun b o q hnf => ⟨o, (other b (notT b o q hnf)).trans q, rfl⟩, ?_⟩, fun b o q hnf => ⟨o.slots, (other b (notT b o q hnf)).trans q⟩⟩
  exact ⟨oe, vs, T, _, _, (other e (Ne.symm hTe)).trans he, c1, c2, hd, h1, hnT, hTe, Heap.get?_update_self _ hT (Obj.isFreed_of_fields (Obj.data_mapFields hdT _)), Obj.data_mapFields hdT _, by simp [hs3]⟩

theorem flightD {f : Option Addr} {Q : Unit → Shared → Prop} (H : HD base outer e C dx fl s.heap) (h : ∀ h', HD base outer e C dx (f.elim Value.none fun f => rawInt f) h' → s.heap.UpToSlots h' → Q () { s with heap := h' }) : wpAny M A (setFlight (.ref e) f) Q E s := by
  obtain ⟨oe, vs, T, oT, ts, he, c1, c2, hd, h1, hnT, hTe, hT, hdT, h3⟩ := id H.tr
  obtain ⟨q1, q2⟩ := H.setT (x := f.elim Value.none fun f => rawInt f) he hd h1
  unfold setFlight
  refine wpAny_bind (wpAny_field he hd h1 ?_)
  rw [if_pos (show (Value.ref T != Value.none) = true from by simp)]
  exact wpAny_setField hT hdT (Array.getElem?_eq_some_iff.mp h3).1 (h _ q1 q2)

/-- a further frame -/
theorem noteD_next {Q : Unit → Shared → Prop} (hfr : A.frames = some (env :: outer)) (hf : env.frame = some L) (H : HD base (env :: outer) e C dx .none s.heap)
    (h : ∀ h', HD base (env :: outer) e C dx (rawInt L) h' → s.heap.UpToSlots h' → Q () { s with heap := h' }) : wpAny M A (noteFrame (.ref e) env) Q E s := by
  obtain ⟨oe, vs, T, oT, ts, he, c1, c2, hd, h1, hnT, hTe, hT, hdT, h3⟩ := id H.tr
  obtain ⟨q1, q2⟩ := H.setT (x := Value.none) he hd h1
  unfold noteFrame
  simp only [hf]
  refine wpAny_bind (wpAny_field he hd h1 ?_)
  rw [if_pos (show (Value.ref T != Value.none) = true from by simp)]
  refine wpAny_bind (wpAny_field hT hdT h3 ?_)
  rw [if_neg (show ¬ ((Value.none == rawInt L) = true) from by simp [rawInt])]
  refine wpAny_bind (wpAny_setField hT hdT (Array.getElem?_eq_some_iff.mp h3).1 ?_)
  have he' : (s.heap.update T (Obj.mapFields (·.setIfInBounds 3 Value.none))).get? e = some oe := (Heap.get?_update_other _ _ hTe).trans he
  exact entryD hfr q1.frames hf he' q1.stays q1.new c1 c2 hd (Array.getElem?_eq_some_iff.mp h1).1 fun h' a b => h h' a (q2.trans b)

/-- the function is left -/
theorem leaveD {Q : Unit → Shared → Prop} (hf : env.frame = some L) (H : HD base (env :: outer) e C dx (rawInt L) s.heap) (h : ∀ h', HD base outer e C dx .none h' → s.heap.UpToSlots h' → Q () { s with heap := h' }) :
    wpAny M A (leaving env (.ref e)) Q E s := by
  unfold leaving
  refine wpAny_bind (noteD_again hf H (flightD H fun h' H' u => h h' ?_ u))
  obtain ⟨k1, k2, ⟨_, _, k3⟩, k4⟩ := H'
  exact ⟨k1, k2, k3, k4⟩
end
end Mine
end

section
open PySem PySem.W PyProof.Rows PySem.Spec PySem.Calls
set_option maxRecDepth 100000
namespace Mine

/-- the class object of the exceptions -/
structure ExcCls (hb : Heap) (C fI : Addr) : Prop where
  obj : ∃ nm q N bs hdct sn sub ab col dd k0 k1 k2 k3 k5 mN, hb.get? C = some (excClassObj nm q C N bs [.type "Exception", .type "BaseException", .type "object"] hdct sn sub ab col dd k0 k1 k2 k3 k5 "Exception.__new__") ∧ hb.Ns N mN ∧ mN ("__init__" : Str) = some (.ref fI)

/-- the exception that is on its way: its dict, and how it was noted -/
structure Rz (held : Bool) (fr : List Env) (C : Addr) (h₂ h' : Heap) (e : Addr) : Prop where
  kp : ∀ b o, h₂.get? b = some o → b ∉ frs fr → h'.get? b = some o
  sl : ∀ b o, h₂.get? b = some o → b ∈ frs fr → ∃ sl, h'.get? b = some { o with slots := sl }
  new : h₂.get? e = none
  st : ∃ dx es n t x, getL ("code" : Str) es = some (some (.str x t)) ∧ tb[6]? = some x ∧ h'.get? dx = some (dictOf es n) ∧ h₂.get? dx = none ∧
    ((held = false ∧ ∃ vs, h'.get? e = some (excObj C (some dx) vs) ∧ vs[1]? = some .none) ∨
      ∃ base env outer L, fr = env :: outer ∧ env.frame = some L ∧ HD base fr e C dx (rawInt L) h' ∧ base.get? dx = some (dictOf es n) ∧ (∀ b o, h₂.get? b = some o → b ∉ frs fr → base.get? b = some o))

section
variable (prog : Program) (w : World) (hb : Heap) (β : Gl) (B : Bk) (r : Nat) (C : Addr)
/-- a statement that raises -/
structure RxS (t : Sem Flow) (F : St → Option (List AObj)) : Prop where
  run : ∀ (A : Around) (fr : List Env) (adr : List Addr) (st : St) (objs : List AObj) (s : Shared) (Q : Flow → Shared → Prop) (E : Value → Shared → Prop),
    Amb A fr r → (∃ outer, fr = B.env :: outer) → Inv hb β B fr adr st s.heap → F st = some objs →
    (∀ (e : Addr) (adr' : List Addr) (st' : St) (h₂ h' : Heap) (tk' : Nat), Inv hb β B fr adr' st' h₂ → st'.objs = objs → Adv B.W (frs fr) adr s.heap adr' h₂ → (∃ hd, Rz hd fr C h₂ h' e) → E (.ref e) { s with heap := h', toks := tk' }) →
    wpAny (model prog w) A t Q E s
end

section
variable {prog : Program} {w : World} {hb : Heap} {β : Gl} {B : Bk} {r : Nat} {K : Frag} {C fI : Addr} {fd : FuncData}

theorem exc_make {A : Around} {E : Value → Shared → Prop} (X : ExcOk prog hb K C fI fd) (Y : ExcCls hb C fI) (hK : K.In hb) {s : Shared} {vc vt : Value} {Q : Value → Shared → Prop} (hroom : A.depth + 1 < recursionLimit) (base : ∀ b o, hb.get? b = some o → s.heap.get? b = some o)
    (hQ : ∀ h' tk' e dx t₁ n' h1 h2 k1 k2, (∀ b o, s.heap.get? b = some o → h'.get? b = some o) → s.heap.get? e = none → s.heap.get? dx = none → h'.get? e = some (excObj C (some dx) #[.ref t₁, .none, .none, .none, .bool false, .none]) →
      h'.get? dx = some (dictOf [⟨h1, .str "code" k1, vc⟩, ⟨h2, .str "told" k2, vt⟩] n') → Q (.ref e) { s with heap := h', toks := tk' }) :
    wpAny (model prog w) A (call (.ref C) [vc, vt]) Q E s := by
  obtain ⟨nm, q, N, bs, hdct, sn, sub, ab, col, dd, k0, k1, k2, k3, k5, mN, hC, hN, hi⟩ := Y.obj
  obtain ⟨o, ho, hod, hoc⟩ := X.obj
  obtain ⟨hh, g, d, t, os⟩ := s
  refine wpAny_call_exc_init F.excBase_Exception (base _ _ hC) (hN.keeps base) hi (base _ _ ho) hoc (fun h' e hm => ?_)
  obtain ⟨t₀, he, ht0, ht⟩ := hm.there
  have hen : hb.get? e = none := by
    cases q : hb.get? e with
    | none => rfl
    | some o => have := base _ _ q; rw [hm.new] at this; cases this
  refine exc_init_call (s := ⟨h', g, d, t, os⟩) X hK hroom (fun b o q => hm.keeps b o (base b o q)) hen he fun h'' tk' dx t₁ n' a1 a2 a3 a4 c1 c2 c3 c4 => ⟨rfl, ?_⟩
  refine hQ h'' tk' e dx t₁ n' a1 a2 a3 a4 (fun b o q => c1 b o (fun z => by rw [z, hm.new] at q; cases q) (hm.keeps b o q)) hm.new ?_ c3 c4
  cases q : hh.get? dx with
  | none => rfl
  | some o => have := hm.keeps _ _ q; rw [c2] at this; cases this

theorem raise_made {A : Around} {E : Value → Shared → Prop} {s : Shared} {env : Env} {x : Sem Value} {Q : Flow → Shared → Prop} (Y : ExcCls hb C fI) (hh : A.handled = none)
    (h : wpAny (model prog w) A x (fun v s₁ => ∃ e od t, v = .ref e ∧ (∀ b o, hb.get? b = some o → s₁.heap.get? b = some o) ∧ s₁.heap.get? e = some (excObj C od #[.ref t, .none, .none, .none, .bool false, .none]) ∧ E (.ref e) s₁) E s) :
    wpAny (model prog w) A (raiseStmt env (some x) none) Q E s := by
  obtain ⟨nm, q, N, bs, hdct, sn, sub, ab, col, dd, k0, k1, k2, k3, k5, mN, hC, hN, hi⟩ := Y.obj
  have hcB : (Value.ref C :: [.type "Exception", .type "BaseException", .type "object"]).contains (.type "BaseException") = true := by simp
  unfold raiseStmt
  refine wpAny_bind (wpAny_mono h (fun v s₁ h₁ => ?_) fun _ _ x => x)
  obtain ⟨e, od, t, rfl, base, he, hE⟩ := h₁
  have hC := base _ _ hC
  obtain ⟨hp, g, d, tk, os⟩ := s₁
  repeat (first | with_reducible refine wpAny_loadPart_at he ?_ | with_reducible refine wpAny_loadPart_at hC ?_ | (with_reducible refine wpAny_isSubtype_exc hC ?_; rw [hcB]) | wp_step)
  exact wpAny_raiseNew_none hh hE

noncomputable def r_raise (G : St → Option (List MV × St)) (st : St) : Option (List AObj) := match G st with
  | some ([.str 6, _], st') => some st'.objs
  | _ => none

theorem rx_raise (X : ExcOk prog hb K C fI fd) (Y : ExcCls hb C fI) (hK : K.In hb) (hr : 2 ≤ r) {x : Str} {np cpos pos : Pos} {args : List Expr} {G : St → Option (List MV × St)} (hn : NameG prog w hb B x (.ref C)) (hk : KeptBy prog w hb (.ref C))
    (hG : EsS prog w hb β B r (spliced (backTo cpos (starEach args B.env))) G) (hs : (backTo cpos (starEach args B.env)).any (·.1) = false) (he : ∀ (M : Model) (A : Around) (E : Value → Shared → Prop) (s : Shared) (Q : Args → Shared → Prop), wpAny M A (spliced (backTo cpos (starEach args B.env))) (fun vs s₁ => Q ⟨vs, []⟩ s₁) E s → wpAny M A (evalArgs (.ref C) true (backTo cpos (starEach args B.env)) []) Q E s) :
    RxS prog w hb β B r C (exec (.Raise (some (.Call (.Name x np) args [] cpos)) none pos) B.env) (r_raise G) := by
  refine ⟨?_⟩
  intro A fr adr st objs s Q E ha hfr hi e hE
  unfold r_raise at e
  split at e
  · rename_i m2 st' e1
    cases e
    rw [arm_exec_Raise]
    refine wpAny_bind (wpAny_standAt ?_)
    show wpAny _ A (raiseStmt B.env (some (do let v ← eval (.Call (.Name x np) args [] cpos) B.env; standAt pos; pure v)) none) Q E s
    refine raise_made Y ha.h (wpAny_bind (Call_ (hn A np s _ E hi.hp.base ?_)))
    refine callWith_of (P := fun h => ∀ b o, hb.get? b = some o → h.get? b = some o) (by rw [hs]; rfl) hk (he _ _ _ _ _ ?_)
    refine hG.run A fr adr st st' _ s _ E ha hi e1 fun vs adr1 h1 tk1 i1 r1 a1 => ⟨i1.hp.base, ?_⟩
    cases r1 with
    | cons ra rb =>
      cases rb with
      | cons rc rd =>
        cases rd
        cases ra with
        | @str xs _ t hx =>
          refine exc_make (s := { s with heap := h1, toks := tk1 }) X Y hK (by have := ha.d; omega) i1.hp.base fun h' tk' e dx t₁ n' z1 z2 y1 y2 kk en dn eo D => wpAny_bind (wpAny_standAt (wpAny_pure ?_))
          refine ⟨e, _, _, rfl, fun b o q => kk b o (i1.hp.base b o q), eo, ?_⟩
          exact hE e adr1 st' h1 h' tk' i1 rfl a1 ⟨false, fun b o q _ => kk b o q, fun b o q _ => ⟨o.slots, kk b o q⟩, en, dx, _, _, t, xs, rfl, hx, D, dn, .inl ⟨rfl, _, eo, rfl⟩⟩
  · cases e

noncomputable def r_if (T : St → Option (Bool × St)) (F : St → Option (List AObj)) (st : St) : Option (List AObj) := match T st with
  | some (true, st') => F st'
  | _ => none
theorem rx_if {t : Expr} {body orelse : List Stmt} {pos : Pos} {T : St → Option (Bool × St)} {F : St → Option (List AObj)} (hT : TsS prog w hb β B r (isTrue t B.env (eval t B.env)) T) (hF : RxS prog w hb β B r C (execs body B.env) F) :
    RxS prog w hb β B r C (exec (.If t body orelse pos) B.env) (r_if T F) := by
  refine ⟨?_⟩
  intro A fr adr st objs s Q E ha hfr hi e hE
  unfold r_if at e
  split at e
  · rename_i st1 e1
    refine wpAny_If (hT.run A fr adr st st1 _ s _ E ha hi e1 fun v adr1 h1 tk1 i1 r1 a1 => ?_)
    subst r1
    exact hF.run A fr adr1 st1 objs _ Q E ha hfr i1 e fun e adr2 st2 h₂ h' tk' i2 o2 a2 z => hE e adr2 st2 h₂ h' tk' i2 o2 (a1.trans a2) z
  · cases e

theorem rx_fail {t : Sem Flow} : RxS prog w hb β B r C t (fun _ => none) := by
  refine ⟨?_⟩
  intro A fr adr st objs s Q E ha hfr hi e hE
  cases e

/-- the first statement raises, or a later one -/
noncomputable def r_cons (R₁ : St → Option (List AObj)) (F : St → Option (Fl × St)) (R₂ : St → Option (List AObj)) (st : St) : Option (List AObj) := match R₁ st with
  | some o => some o
  | none => match F st with
    | some (.next, st') => R₂ st'
    | _ => none
theorem rx_cons {st₀ : Stmt} {rest : List Stmt} {R₁ R₂ : St → Option (List AObj)} {F : St → Option (Fl × St)} (h₁ : RxS prog w hb β B r C (exec st₀ B.env) R₁) (hF : ExS prog w hb β B r (exec st₀ B.env) F) (h₂ : RxS prog w hb β B r C (execs rest B.env) R₂) :
    RxS prog w hb β B r C (execs (st₀ :: rest) B.env) (r_cons R₁ F R₂) := by
  refine ⟨?_⟩
  intro A fr adr st objs s Q E ha hfr hi e hE
  unfold r_cons at e
  split at e
  · rename_i o e1
    cases e
    exact wpAny_execs_cons (h₁.run A fr adr st _ s _ E ha hfr hi e1 hE)
  · split at e
    · rename_i st1 e1
      refine wpAny_execs_cons (hF.run A fr adr st st1 _ s _ E ha hi e1 fun f adr1 h1 tk1 i1 r1 a1 => ?_)
      cases f with
      | next => exact h₂.run A fr adr1 st1 objs _ Q E ha hfr i1 e fun e adr2 st2 h₂ h' tk' i2 o2 a2 z => hE e adr2 st2 h₂ h' tk' i2 o2 (a1.trans a2) z
      | _ => exact r1.elim
    · cases e

/-- the note of a frame that stands -/
theorem note_ok {A : Around} {E : Value → Shared → Prop} {env : Env} {outer : List Env} {L e : Addr} {adr : List Addr} {objs : List AObj} {h₂ : Heap} {s : Shared} {Q : Unit → Shared → Prop} (hf : A.frames = some (env :: outer)) (hL : env.frame = some L)
    (hp : Hp hb β (env :: outer) adr objs h₂) {hd : Bool} (z : Rz hd (env :: outer) C h₂ s.heap e) (hQ : ∀ h', Rz true (env :: outer) C h₂ h' e → Q () { s with heap := h' }) : wpAny (model prog w) A (noteFrame (.ref e) env) Q E s := by
  obtain ⟨zk, zs, znew, dx, es, n, t, x, z1, z2, z3, z4, z5⟩ := z
  rcases z5 with ⟨_, vs, ve, v1⟩ | ⟨base, env', outer', L', hfr, hL', H, q1, q2⟩
  · have hsub : ∀ a, a ∈ frs (env :: outer) → ∃ o, s.heap.get? a = some o ∧ (∀ vs, o.data ≠ .fields vs) := fun a ha => by
      obtain ⟨ev, he, hfe⟩ := List.mem_filterMap.mp ha
      obtain ⟨_, L1, m, p1, p2, p3, p4⟩ := hp.fr ev he
      rw [hfe] at p1; cases p1
      obtain ⟨o, es, ep, ho, hd, _⟩ := p4
      obtain ⟨sl, ho'⟩ := zs _ o ho ha
      exact ⟨_, ho', fun vs q => by rw [hd] at q; cases q⟩
    have hbase : ∀ b o, s.heap.get? b = some o → b ≠ e → b ∉ frs (env :: outer) → (hideAll s.heap (e :: frs (env :: outer))).get? b = some o := fun b o q h1 h2 => hideAll_get _ q (by rw [List.mem_cons, not_or]; exact ⟨h1, h2⟩)
    have frames : s.heap.FunFrames (hideAll s.heap (e :: frs (env :: outer))) (env :: outer) := by
      have gen : ∀ l : List Env, (∀ ev ∈ l, ev ∈ env :: outer) → s.heap.FunFrames (hideAll s.heap (e :: frs (env :: outer))) l := by
        intro l
        induction l with
        | nil => intro _; trivial
        | cons ev l ih =>
          intro hl
          obtain ⟨p0, L1, m, p1, p2, p3, p4⟩ := hp.fr ev (hl ev (.head _))
          have hm : L1 ∈ frs (env :: outer) := List.mem_filterMap.mpr ⟨ev, hl ev (.head _), p1⟩
          obtain ⟨o, ho, hnf⟩ := hsub L1 hm
          exact ⟨p0, ⟨L1, o, p1, hideAll_none _ (.tail _ hm), ho, hnf⟩, ih fun x hx => hl x (.tail _ hx)⟩
      exact gen _ fun _ h => h
    have dxe : dx ≠ e := fun q => by rw [q, ve] at z3; cases z3
    have dxf : dx ∉ frs (env :: outer) := fun hm => by
      obtain ⟨ev, he, hfe⟩ := List.mem_filterMap.mp hm
      obtain ⟨_, L1, m, p1, _, _, p4⟩ := hp.fr ev he
      rw [hfe] at p1; cases p1
      obtain ⟨o, ho⟩ := ns_some p4
      rw [z4] at ho; cases ho
    refine noteD_first hf frames hL ve (fun b o q => of_hideAll _ q) (hideAll_none _ (.head _)) rfl rfl rfl v1 fun h' H u => ?_
    have q1 := hbase dx _ z3 dxe dxf
    have cover : ∀ b o, h₂.get? b = some o → b ∉ frs (env :: outer) → (hideAll s.heap (e :: frs (env :: outer))).get? b = some o := fun b o q hb' => hbase b o (zk b o q hb') (fun z => by rw [z, znew] at q; cases q) hb'
    refine hQ h' ⟨fun b o q hb' => H.stays b o (cover b o q hb'), fun b o q hb' => ?_, znew, dx, es, n, t, x, z1, z2, H.stays _ _ q1, z4, .inr ⟨_, env, outer, L, rfl, hL, H, q1, cover⟩⟩
    obtain ⟨sl, q'⟩ := zs b o q hb'
    obtain ⟨o', ho', hnf⟩ := hsub b hb'
    rw [q'] at ho'
    obtain ⟨sl2, q2⟩ := u b _ q' (by cases ho'; exact hnf)
    exact ⟨sl2, q2⟩
  · cases hfr
    rw [hL'] at hL; cases hL
    exact noteD_again hL' H (hQ _ ⟨zk, zs, znew, dx, es, n, t, x, z1, z2, z3, z4, .inr ⟨base, env, outer, L, rfl, hL', H, q1, q2⟩⟩)

theorem back_ok {A : Around} {E : Value → Shared → Prop} {env : Env} {outer : List Env} {e : Addr} {adr : List Addr} {objs : List AObj} {h₂ : Heap} {s : Shared}
    (hp : Hp hb β (env :: outer) adr objs h₂) (z : Rz true (env :: outer) C h₂ s.heap e) (hQ : ∀ h', Rz true (env :: outer) C h₂ h' e → E (.ref e) { s with heap := h' }) :
    cameBackBy (model prog w) A env E (.ref e) s := by
  obtain ⟨zk, zs, znew, dx, es, n, t, x, z1, z2, z3, z4, z5⟩ := z
  rcases z5 with ⟨q, _⟩ | ⟨base, env', outer', L', hfr, hL', H, q1, q2⟩
  · cases q
  · cases hfr
    obtain ⟨oe, vs, T, oT, ts, he, c1, c2, hd, h1, hnT, hTe, hT, hdT, h3⟩ := id H.tr
    unfold cameBackBy
    refine wpAny_bind (wpAny_field he hd h1 ?_)
    rw [if_neg (show ¬ ((Value.ref T == Value.none) = true) from by simp)]
    rw [hL']
    refine flightD (f := some L') H fun h' H' u => hQ h' ⟨fun b o q hb' => H'.stays b o (q2 b o q hb'), fun b o q hb' => ?_, znew, dx, es, n, t, x, z1, z2, H'.stays _ _ q1, z4, .inr ⟨base, env, outer, L', rfl, hL', H', q1, q2⟩⟩
    obtain ⟨sl, q'⟩ := zs b o q hb'
    obtain ⟨ev, hev, hfe⟩ := List.mem_filterMap.mp hb'
    obtain ⟨_, L1, m, p1, _, _, p4⟩ := hp.fr ev hev
    rw [hfe] at p1; cases p1
    obtain ⟨o', es', ep, ho', hd', _⟩ := p4
    rw [q] at ho'; cases ho'
    obtain ⟨sl2, q2⟩ := u b _ q' (fun vs q => by rw [hd'] at q; cases q)
    exact ⟨sl2, q2⟩

noncomputable def forR (item : Turns) (T : Itm → St → Option St) (Rb : St → Option (List AObj)) (Fb : St → Option (Fl × St)) : Nat → Nat → St → Option (List AObj)
  | 0, _, _ => none
  | k + 1, i, st => match item i st.objs with
    | some (some it) => match T it st with
      | none => none
      | some st₁ => match Rb st₁ with
        | some o => some o
        | none => match Fb st₁ with
          | some (.next, st₂) => forR item T Rb Fb k (i + 1) st₂
          | _ => none
    | _ => none
noncomputable def r_for (S : St → Option (Turns × St)) (T : Itm → St → Option St) (Rb : St → Option (List AObj)) (Fb : St → Option (Fl × St)) (st : St) : Option (List AObj) := match S st with
  | some (item, st') => forR item T Rb Fb 2000 0 st'
  | none => none

theorem rx_for {target iter : Expr} {body : List Stmt} {pos : Pos} {S : St → Option (Turns × St)} {T : Itm → St → Option St} {Rb : St → Option (List AObj)} {Fb : St → Option (Fl × St)} (hS : SrcS prog w hb β B r target iter S) (hT : TgS prog w hb β B r target T)
    (hR : RxS prog w hb β B r C (execs body B.env) Rb) (hF : ExS prog w hb β B r (execs body B.env) Fb) (hs : ∀ x, foldedSetIterable iter B.env x = pure x) (hfl : B.env.frame = some B.env.locals) :
    RxS prog w hb β B r C (exec (.For target iter body [] pos) B.env) (r_for S T Rb Fb) := by
  refine ⟨?_⟩
  intro A fr adr st objs s Q E ha hfr hi e hE
  unfold r_for at e
  split at e
  · rename_i item st1 e1
    refine wpAny_For (hS.run A fr adr st st1 item s _ E ha hi e1 fun it adr1 hA h1 tk1 i1 src a1 => ?_) hs
    obtain ⟨I, wr, Md, Sti, rfl, K, hst, hwr, hk⟩ := src
    have nsq := i1.noSeq
    have hwb : ∀ b ∈ wr, hb.get? b = none := fun b hm => by
      cases q : hb.get? b with
      | none => rfl
      | some o => have := i1.hp.base _ _ q; rw [hwr b hm] at this; cases this
    refine codeAny_forLoop_any (R := fun r s' => match r with | .ok f => Q f s' | .error e => cameBackBy (model prog w) A B.env E e s')
      (fun k s' => ∃ h tk adr' st₂ i, s' = { s with heap := h, toks := tk } ∧ Inv hb β B fr adr' st₂ h ∧ Adv B.W (frs fr) adr1 hA adr' h ∧ Sti i h ∧ forR item T Rb Fb k i st₂ = some objs) ?_ 2000
      ⟨h1, tk1, adr1, st1, 0, rfl, i1.keeps hk, .of_keeps hk, hst, e⟩
    rintro k s' ⟨h, tk, adr', st₂, i, rfl, inv, adv, hst', e⟩
    cases k with
    | zero => cases e
    | succ k =>
      have tr : ∀ v m, VR β hA adr1 v m → VR β h adr' v m := fun v m x => x.mono adv nsq
      have wrH : Wr hb wr h := ⟨hwb, K.obj i h hst'⟩
      rw [forR] at e
      split at e
      · rename_i x hit
        split at e
        · cases e
        · rename_i st₃ hT1
          refine K.item i x adr' fr st₂.objs _ _ _ hit hst' inv.hp tr fun v h₁ tk₁ hmd k₁ => ?_
          have inv₁ := inv.but wrH k₁
          have adv₁ := adv.but hwr k₁
          refine K.go i x v adr' _ _ _ hmd fun h₂ hir hst₂ k₂ => ?_
          have wrH₁ : Wr hb wr h₁ := ⟨hwb, K.mid i x v h₁ adr' hmd⟩
          have inv₂ := inv₁.but wrH₁ k₂
          have adv₂ := adv₁.but hwr k₂
          have fpKept : ∀ {adr₁ adr₂ : List Addr} {st : St} {g g' : Heap} {j : Nat}, Inv hb β B fr adr₁ st g → Sti j g → Adv B.W (frs fr) adr₁ g adr₂ g' → Sti j g' := fun iv sj av => K.frame _ _ _ sj fun b hb' o eo => by
            obtain ⟨o', eo', q⟩ := K.obj _ _ sj b hb'
            rw [eo] at eo'; cases eo'
            have w1 : Wr hb wr _ := ⟨hwb, K.obj _ _ sj⟩
            refine av.keep b o eo (fun hm => ?_) (w1.notAdr iv.hp hb') (fun hm => ?_)
            · have := iv.noSeq b (.inl hm) o eo; rw [iter_seq q] at this; cases this
            · have := iv.noSeq b (.inr hm) o eo; rw [iter_seq q] at this; cases this
          refine hT.run A fr adr' st₂ st₃ x v _ _ _ ha inv₂ hir hT1 fun h₃ tk₃ inv₃ a₃ => ?_
          have hst₃ := fpKept inv₂ hst₂ a₃
          split at e
          · rename_i o e4
            cases e
            refine hR.run A fr adr' st₃ objs _ _ _ ha hfr inv₃ e4 fun ex adr₄ st₄ g₂ g' tk₄ inv₄ o₄ a₄ z => ?_
            obtain ⟨hd, z⟩ := z
            obtain ⟨outer, rfl⟩ := hfr
            refine note_ok ha.f hfl inv₄.hp z fun h₅ z₅ => ?_
            exact back_ok (s := { s with heap := h₅, toks := tk₄ }) inv₄.hp z₅ fun h₆ z₆ => hE ex adr₄ st₄ g₂ h₆ tk₄ inv₄ o₄ ((a1.trans ((adv₂.trans a₃).trans a₄))) ⟨true, z₆⟩
          · split at e
            · rename_i st₄ e4
              refine hF.run A fr adr' st₃ st₄ _ _ _ _ ha inv₃ e4 fun f adr₄ h₄ tk₄ inv₄ r₄ a₄ => ?_
              cases f with
              | next => exact ⟨k, Nat.lt_succ_self k, h₄, tk₄, adr₄, st₄, i + 1, rfl, inv₄, (adv₂.trans a₃).trans a₄, fpKept inv₃ hst₃ a₄, e⟩
              | _ => exact r₄.elim
            · cases e
      · cases e
  · cases e
end
end Mine
end

section
open PySem PySem.W PyProof.Rows PySem.Spec PySem.Calls
set_option maxRecDepth 100000
namespace Mine

section
variable {prog : Program} {w : World} {hb : Heap} {β : Gl} {r : Nat} {C : Addr}

theorem def_enter {f : Addr} {fd : FuncData} {body : List Stmt} {ps ls : List Str} {ds : List Value} {dms : List MV} (D : DefOk hb f fd body ps ls ds) (hds : ∀ h adr, VRs β h adr ds dms)
    {A : Around} {fr : List Env} {adr : List Addr} {objs : List AObj} {ms0 : List MV} {vs0 : List Value} {s : Shared} {R : Result → Shared → Prop} (ha : Amb A fr (r + 1)) (hp : Hp hb β fr adr objs s.heap) (hv0 : VRs β s.heap adr vs0 ms0) (e : ms0.length + dms.length = ps.length)
    (hF : ∀ s₁ : Shared, (∃ h₁ tk₁, s₁ = { s with heap := h₁, toks := tk₁ }) → Inv hb β (defBk fd f (ps ++ ls) s.heap.objs.size) (callEnvC fd s.heap.objs.size f :: fr) adr ⟨(ms0 ++ dms) ++ List.replicate ls.length .undef, objs⟩ s₁.heap →
      Amb (A.deeper (callEnvC fd s.heap.objs.size f)) (callEnvC fd s.heap.objs.size f :: fr) r → (∀ b o, s.heap.get? b = some o → s₁.heap.get? b = some o) → (∀ a ∈ (defBk fd f (ps ++ ls) s.heap.objs.size).W, s.heap.get? a = none) →
      wpAny (model prog w) (A.deeper (callEnvC fd s.heap.objs.size f)) (execs body (callEnvC fd s.heap.objs.size f)) (fun f s' => R (.ok (.ret (match f with | .ret v => v | _ => .none))) s')
        (fun e s' => wpAny (model prog w) (A.deeper (callEnvC fd s.heap.objs.size f)) (leaving (callEnvC fd s.heap.objs.size f) e) (fun _ s'' => R (.error e) s'') (fun e' s'' => R (.error e') s'') s') s₁) :
    codeAny (model prog w) A (.call (.ref f) ⟨vs0, []⟩) R s := by
  · have hlen := e
    obtain ⟨o, ho, hd⟩ := D.obj
    have hvl0 : vs0.length + ds.length = ps.length := by rw [hv0.length, (hds s.heap adr).length]; exact hlen
    have hv : VRs β s.heap adr (vs0 ++ ds) (ms0 ++ dms) := hv0.append (hds s.heap adr)
    have hlen : (ms0 ++ dms).length = ps.length := by rw [List.length_append]; exact hlen
    generalize hvs : vs0 ++ ds = vs at hv
    generalize hms : ms0 ++ dms = ms at hv hlen hF
    have hvl : vs.length = ps.length := hv.length.trans hlen
    have hbind : BindsTo s fd ⟨vs0, []⟩ (ps.zip vs) := by rw [← hvs]; exact D.bind s vs0 hp.base hvl0
    refine (call_cellsB (by have := ha.d; omega) (hp.base _ _ ho) hd (nl_keeps D.lim hp.base) (D.code.keeps hp.base) D.body hbind D.clo (fun x hx => ?_) (fun s₁ x => ?_) D.co D.gen D.kind)
    · have hxp : x.1 ∈ ps := (List.of_mem_zip (a := x.1) (b := x.2) hx).1
      have := List.all_eq_true.mp D.kinds _ hxp
      rw [Bool.or_eq_true, Bool.and_eq_true, beq_iff_eq, beq_iff_eq] at this
      rcases this with q | ⟨q, q2⟩
      · exact .inl q
      · exact .inr ⟨q, cellsFrom_has (List.contains_iff_mem.mp q2)⟩
    · have hLs : s.heap.objs.size ≤ s.heap.objs.size := Nat.le_refl _
      have fresh : ∀ a, s.heap.objs.size ≤ a → s.heap.get? a = none := fun a h => by
        cases q : s.heap.get? a with
        | none => rfl
        | some o => exact absurd (Heap.lt_size q) (Nat.not_lt.mpr h)
      have hbn : ∀ a, s.heap.objs.size ≤ a → hb.get? a = none := fun a h => by
        cases q : hb.get? a with
        | none => rfl
        | some o => have := hp.base _ _ q; rw [fresh a h] at this; cases this
      have nadr : ∀ a, s.heap.objs.size ≤ a → a ∉ adr := fun a h hm => by
        obtain ⟨o, q⟩ := hp.alive a hm
        rw [fresh a h] at q; cases q
      have keep := x.toInCall.keep
      have hp1 : Hp hb β fr adr objs s₁.heap := hp.keeps keep
      have hL : (callEnvC fd s.heap.objs.size f).locals = s.heap.objs.size := rfl
      have hfr : (callEnvC fd s.heap.objs.size f).frame = some s.heap.objs.size := rfl
      have cabove : ∀ n c, (callEnvC fd s.heap.objs.size f).cells.lookup n = some c → s.heap.objs.size < c := fun n c h => x.above n c (mem_of_lookup h)
      have inv : Inv hb β (defBk fd f (ps ++ ls) s.heap.objs.size) (callEnvC fd s.heap.objs.size f :: fr) adr ⟨ms ++ List.replicate ls.length .undef, objs⟩ s₁.heap := by
        refine ⟨⟨hp1.base, hp1.off, hp1.low, hp1.big, hp1.nodup, hp1.len, hp1.objs, fun e he => ?_⟩, ⟨⟨_, x.toInCall.ns⟩, List.mem_cons_self, fun a ha => ?_, fun y c hc => ⟨nadr c (Nat.le_of_lt (cabove y c hc)), _, x.cell y c hc⟩, fun y hy hk => ?_, x.apart, fun i y mv h1 h2 h3 => ?_⟩⟩
        · rcases List.mem_cons.mp he with rfl | he
          · exact ⟨by show fd.scope.kind ≠ .module; rw [D.kind]; decide, _, _, hfr, hbn _ (Nat.le_refl _), nadr _ (Nat.le_refl _), x.toInCall.ns⟩
          · exact hp1.fr e he
        · rcases List.mem_cons.mp ha with rfl | ha
          · exact ⟨nadr _ (Nat.le_refl _), hbn _ (Nat.le_refl _), .inl ⟨_, x.toInCall.ns⟩⟩
          · obtain ⟨y, _, hy⟩ := List.mem_filterMap.mp ha
            have := Nat.le_of_lt (cabove y a hy)
            exact ⟨nadr _ this, hbn _ this, .inr ⟨_, x.cell y a hy⟩⟩
        · have := List.all_eq_true.mp D.cells y hy
          have hk' : fd.scope.names.lookup y = some .cell := hk
          rw [hk'] at this
          simp only [beq_self_eq_true, Bool.not_true, Bool.false_or] at this
          obtain ⟨c, hc⟩ := Option.isSome_iff_exists.mp (cellsFrom_has (n := s.heap.objs.size + 1) (acc := []) (List.contains_iff_mem.mp this))
          exact ⟨c, hc, List.mem_cons_of_mem _ (List.mem_filterMap.mpr ⟨y, hy, hc⟩)⟩
        · have hi : i < ms.length := by
            rcases Nat.lt_or_ge i ms.length with q | q
            · exact q
            · simp only [List.getElem?_append_right q] at h2
              rw [List.getElem?_replicate] at h2
              split at h2
              · cases h2; exact absurd rfl h3
              · cases h2
          simp only [List.getElem?_append_left hi] at h2
          have hip : i < ps.length := hlen ▸ hi
          have h1' : ps[i]? = some y := by
            have h1'' : (ps ++ ls)[i]? = some y := h1
            rwa [List.getElem?_append_left hip] at h1''
          obtain ⟨v, hv1, hv2⟩ := hv.get h2
          have hm := getElem?_zip h1' hv1
          have hmap : (ps.zip vs).map (·.1) = ps := List.map_fst_zip (Nat.le_of_eq hvl.symm)
          have := List.all_eq_true.mp D.kinds y (List.mem_of_getElem? h1')
          rw [Bool.or_eq_true, Bool.and_eq_true, beq_iff_eq, beq_iff_eq] at this
          refine ⟨v, ?_, hv2.keeps keep⟩
          rcases this with q | ⟨q, q2⟩
          · exact .inl ⟨q, _, x.toInCall.ns, bindL_in q (by rw [hmap]; exact D.nodup) hm⟩
          · obtain ⟨c, hc⟩ := Option.isSome_iff_exists.mp (cellsFrom_has (n := s.heap.objs.size + 1) (acc := []) (List.contains_iff_mem.mp q2))
            refine .inr ⟨.inl q, c, hc, ?_⟩
            have z := x.cell y c hc
            rwa [bindC_in q (by rw [hmap]; exact D.nodup) hm] at z
      have amb : Amb (A.deeper (callEnvC fd s.heap.objs.size f)) (callEnvC fd s.heap.objs.size f :: fr) r := by
        refine ⟨ha.h, Around.frames_deeper ha.f, ?_, ?_⟩
        · show A.depth + 1 + r < _; have := ha.d; omega
        · show A.units + 3 + 8 * r < _; have := ha.u; omega
      obtain ⟨h₁, tk₁, hs₁, _⟩ := x.done
      refine hF s₁ ⟨h₁, tk₁, hs₁⟩ inv amb keep fun a hm => ?_
      rcases List.mem_cons.mp hm with rfl | hm
      · exact fresh _ (Nat.le_refl _)
      · obtain ⟨y, _, hy⟩ := List.mem_filterMap.mp hm
        exact fresh _ (Nat.le_of_lt (cabove y a hy))

theorem Hp.offC {fr : List Env} {adr : List Addr} {objs : List AObj} {h h' : Heap} {D : Addr} (x : Hp hb β fr adr objs h) (hC : ∃ m, h.Ns D m) (k : ∀ b o, b ≠ D → h.get? b = some o → h'.get? b = some o) (h1 : D ∉ adr) (h3 : D ∉ frs fr) (h4 : hb.get? D = none) : Hp hb β fr adr objs h' := by
  obtain ⟨mC, hC⟩ := hC
  have ns : ∀ o, h.get? D = some o → isSeq o = false := fun o e => ns_notSeq hC e
  refine ⟨fun b o e => k b o (fun q => by subst q; rw [h4] at e; cases e) (x.base b o e), x.off, x.low, x.big, x.nodup, x.len, fun n o e => ?_, fun e he => ?_⟩
  · obtain ⟨a, e1, e2⟩ := x.objs n o e
    have ha : a ≠ D := fun q => h1 (q ▸ List.mem_of_getElem? e1)
    refine ⟨a, e1, ?_⟩
    cases e2 with
    | list e2 r => exact .list (k _ _ ha e2) (r.offC ns k)
    | attrs e2 r => exact .attrs (k _ _ ha e2) (r.offC ns k)
    | inst e2 r => exact .inst (k _ _ ha e2) r
    | dict e2 r => exact .dict (fun p => (e2 p).at fun o => k _ o ha) (r.offC ns k)
  · obtain ⟨p1, L, m, p2, p3, p4, p5⟩ := x.fr e he
    exact ⟨p1, L, m, p2, p3, p4, p5.at' fun o e => k _ _ (fun q => h3 (q ▸ List.mem_filterMap.mpr ⟨_, he, p2⟩)) e⟩

/-- an exception that has left a function -/
structure Fly (fr : List Env) (C : Addr) (h₂ h' : Heap) (e : Addr) : Prop where
  kp : ∀ b o, h₂.get? b = some o → b ∉ frs fr → h'.get? b = some o
  sl : ∀ b o, h₂.get? b = some o → b ∈ frs fr → ∃ sl, h'.get? b = some { o with slots := sl }
  st : ∃ dx es n t x base, getL ("code" : Str) es = some (some (.str x t)) ∧ tb[6]? = some x ∧ HD base fr e C dx .none h' ∧ base.get? dx = some (dictOf es n) ∧ (∀ b o, h₂.get? b = some o → b ∉ frs fr → base.get? b = some o)

noncomputable def CallR (prog : Program) (w : World) (hb : Heap) (β : Gl) (r : Nat) (C : Addr) (f : Value) (F : List MV → List AObj → Option (List AObj)) : Prop :=
  ∀ (A : Around) (fr : List Env) (adr : List Addr) (objs objs' : List AObj) (ms : List MV) (vs : List Value) (s : Shared) (Q E : Value → Shared → Prop),
    Amb A fr r → Hp hb β fr adr objs s.heap → VRs β s.heap adr vs ms → F ms objs = some objs' →
    (∀ (e : Addr) (adr' : List Addr) (h₂ h' : Heap) (tk' : Nat), Hp hb β fr adr' objs' h₂ → Adv [] (frs fr) adr s.heap adr' h₂ → Fly fr C h₂ h' e → E (.ref e) { s with heap := h', toks := tk' }) →
    wpAny (model prog w) A (call f vs) Q E s

noncomputable def raiseL (n : Nat) (k : Nat) (Fr : St → Option (List AObj)) (ms : List MV) (objs : List AObj) : Option (List AObj) := if ms.length = n then Fr ⟨ms ++ List.replicate k .undef, objs⟩ else none

theorem call_raise {f : Addr} {fd : FuncData} {body : List Stmt} {ps ls : List Str} {Fr : St → Option (List AObj)} (D : DefOk hb f fd body ps ls)
    (hF : ∀ L, RxS prog w hb β (defBk fd f (ps ++ ls) L) r C (execs body (defBk fd f (ps ++ ls) L).env) Fr) : CallR prog w hb β (r + 1) C (.ref f) (raiseL ps.length ls.length Fr) := by
  intro A fr adr objs objs' ms vs s Q E ha hp hv e hE
  unfold raiseL at e
  split at e
  · rename_i hlen
    refine wpAny_call (def_enter (dms := []) D (fun _ _ => .nil) ha hp hv (by simpa using hlen) fun s₁ hs₁ inv amb keep fresh => ?_)
    obtain ⟨h₁, tk₁, rfl⟩ := hs₁
    rw [List.append_nil] at inv
    refine (hF s.heap.objs.size).run _ _ adr _ objs' _ _ _ amb ⟨fr, rfl⟩ inv e fun ex adr' st' h₂ h' tk' i' o' a' z => ?_
    obtain ⟨hd, z⟩ := z
    have hLfr : (callEnvC fd s.heap.objs.size f).frame = some s.heap.objs.size := rfl
    have frameEq : frs (callEnvC fd s.heap.objs.size f :: fr) = s.heap.objs.size :: frs fr := rfl
    have hLns : ∃ m, h₂.Ns s.heap.objs.size m := i'.blk.ns
    have freshL : s.heap.get? s.heap.objs.size = none := fresh_none
    have hbL : hb.get? s.heap.objs.size = none := (i'.blk.own _ i'.blk.locW).2.1
    have adrL : s.heap.objs.size ∉ adr' := (i'.blk.own _ i'.blk.locW).1
    have frL : s.heap.objs.size ∉ frs fr := fun hm => by
      obtain ⟨ev, he, hf⟩ := List.mem_filterMap.mp hm
      obtain ⟨_, L, m, p1, _, _, p4⟩ := hp.fr ev he
      rw [hf] at p1; cases p1
      obtain ⟨o, q⟩ := ns_some p4; rw [freshL] at q; cases q
    unfold leaving
    refine wpAny_bind (note_ok amb.f hLfr i'.hp z fun h₃ z₃ => ?_)
    obtain ⟨zk, zs, znew, dx, es, n, t, x, z1, z2, z3, z4, z5⟩ := z₃
    rcases z5 with ⟨q, _⟩ | ⟨base, env', outer', L', hfr, hL', H, q1, q2⟩
    · cases q
    · cases hfr
      refine flightD (f := none) H fun h₄ H' u => ?_
      have hpO : Hp hb β fr adr' objs' h₂ := by
        have := i'.hp
        rw [o'] at this
        exact ⟨this.base, this.off, this.low, this.big, this.nodup, this.len, this.objs, fun e he => this.fr e (.tail _ he)⟩
      refine hE ex adr' (h₂.hide s.heap.objs.size) h₄ tk' (hpO.offC hLns (fun b o hb' q => (Heap.hide_ne h₂ hb').trans q) adrL frL hbL) ?_ ⟨fun b o q hb' => ?_, fun b o q hb' => ?_, dx, es, n, t, x, base, z1, z2, ?_, q1, fun b o q hb' => ?_⟩
      · have a2 : Adv [] (frs fr) adr s.heap adr' h₂ := by
          have a3 := (Adv.of_keeps (W := []) (F := frs (callEnvC fd s.heap.objs.size f :: fr)) (adr := adr) keep).off a' fresh
          refine ⟨a3.pre, a3.new, a3.alive, fun b o q h1 h2 h3 => a3.keep b o q h1 h2 (fun hm => ?_), fun b o q h1 h2 h3 => a3.slots b o q h1 h2 (by rw [frameEq]; exact .tail _ h3)⟩
          rw [frameEq] at hm
          rcases List.mem_cons.mp hm with rfl | hm
          · rw [freshL] at q; cases q
          · exact h3 hm
        have ne : ∀ b o, s.heap.get? b = some o → b ≠ s.heap.objs.size := fun b o q z => by subst z; rw [freshL] at q; cases q
        exact ⟨a2.pre, a2.new, fun b o q => by obtain ⟨o', q'⟩ := a2.alive b o q; exact ⟨o', (Heap.hide_ne h₂ (ne b o q)).trans q'⟩, fun b o q h1 h2 h3 => (Heap.hide_ne h₂ (ne b o q)).trans (a2.keep b o q h1 h2 h3),
          fun b o q h1 h2 h3 => by obtain ⟨sl, q'⟩ := a2.slots b o q h1 h2 h3; exact ⟨sl, (Heap.hide_ne h₂ (ne b o q)).trans q'⟩⟩
      · have hne : b ≠ s.heap.objs.size := fun z => by subst z; rw [Heap.hide_self] at q; cases q
        exact H'.stays b o (q2 b o (Heap.of_hide q) (by rw [frameEq, List.mem_cons, not_or]; exact ⟨hne, hb'⟩))
      · obtain ⟨sl, q'⟩ := zs b o (Heap.of_hide q) (by rw [frameEq]; exact .tail _ hb')
        obtain ⟨ev, hev, hfe⟩ := List.mem_filterMap.mp hb'
        obtain ⟨_, L1, m, p1, _, _, p4⟩ := hpO.fr ev hev
        rw [hfe] at p1; cases p1
        obtain ⟨o2, es2, ep2, ho2, hd2, _⟩ := p4
        rw [Heap.of_hide q] at ho2; cases ho2
        obtain ⟨sl2, q3⟩ := u b _ q' (fun vs q => by rw [hd2] at q; cases q)
        exact ⟨sl2, q3⟩
      · obtain ⟨k1, k2, ⟨_, _, k3⟩, k4⟩ := H'
        exact ⟨k1, k2, k3, k4⟩
      · have hne : b ≠ s.heap.objs.size := fun z => by subst z; rw [Heap.hide_self] at q; cases q
        exact q2 b o (Heap.of_hide q) (by rw [frameEq, List.mem_cons, not_or]; exact ⟨hne, hb'⟩)
  · cases e
end
end Mine
end

section
open PySem PySem.W PyProof.Rows PySem.Spec PySem.Calls
set_option maxRecDepth 100000
namespace Mine

section
variable {β : Gl} {adr : List Addr} {h h' : Heap}
mutual
theorem VR.seqk (k : ∀ b o, h.get? b = some o → isSeq o = true → h'.get? b = some o) : ∀ {v : Value} {d : MV}, VR β h adr v d → VR β h' adr v d
  | _, _, .undef v => .undef v
  | _, _, .none => .none
  | _, _, .bool b => .bool b
  | _, _, .int i t => .int i t
  | _, _, .sym k t => .sym k t
  | _, _, .str t e => .str t e
  | _, _, .list e ha r => .list (k _ _ e rfl) ha (VRs.seqk k r)
  | _, _, .ref e => .ref e
theorem VRs.seqk (k : ∀ b o, h.get? b = some o → isSeq o = true → h'.get? b = some o) : ∀ {vs : List Value} {ds : List MV}, VRs β h adr vs ds → VRs β h' adr vs ds
  | _, _, .nil => .nil
  | _, _, .cons a b => .cons (VR.seqk k a) (VRs.seqk k b)
end
theorem ERs.seqk (k : ∀ b o, h.get? b = some o → isSeq o = true → h'.get? b = some o) {es : List DictEntry} {ds : List (Nat × MV)} (r : ERs β h adr es ds) : ERs β h' adr es ds := by
  induction r with
  | nil => exact .nil
  | cons e v _ ih => exact .cons e (v.seqk k) ih
theorem KRs.seqk (k : ∀ b o, h.get? b = some o → isSeq o = true → h'.get? b = some o) {es : List (Str × Value)} {ds : List (Nat × MV)} (r : KRs β h adr es ds) : KRs β h' adr es ds := by
  induction r with
  | nil => exact .nil
  | cons e v _ ih => exact .cons e (v.seqk k) ih
theorem Hp.frames {hb : Heap} {fr : List Env} {objs : List AObj} (x : Hp hb β fr adr objs h) (k : ∀ b o, h.get? b = some o → b ∉ frs fr → h'.get? b = some o) (kf : ∀ L m, L ∈ frs fr → h.Ns L m → ∃ m', h'.Ns L m') : Hp hb β fr adr objs h' := by
  have fns : ∀ a ∈ frs fr, ∃ m, h.Ns a m := fun a ha => by
    obtain ⟨ev, he, hf⟩ := List.mem_filterMap.mp ha
    obtain ⟨_, L, m, p1, _, _, p4⟩ := x.fr ev he
    rw [hf] at p1; cases p1; exact ⟨m, p4⟩
  have ks : ∀ b o, h.get? b = some o → isSeq o = true → h'.get? b = some o := fun b o q hs => k b o q fun hm => by
    obtain ⟨m, hn⟩ := fns b hm
    rw [ns_notSeq hn q] at hs; cases hs
  refine ⟨fun b o e => k b o (x.base b o e) (fun hm => ?_), x.off, x.low, x.big, x.nodup, x.len, fun n o e => ?_, fun e he => ?_⟩
  · obtain ⟨ev, he, hf⟩ := List.mem_filterMap.mp hm
    obtain ⟨_, L, m, p1, p2, _, _⟩ := x.fr ev he
    rw [hf] at p1; cases p1; rw [p2] at e; cases e
  · obtain ⟨a, e1, e2⟩ := x.objs n o e
    have ha : a ∉ frs fr := fun hm => by
      obtain ⟨ev, he, hf⟩ := List.mem_filterMap.mp hm
      obtain ⟨_, L, m, p1, _, p3, _⟩ := x.fr ev he
      rw [hf] at p1; cases p1; exact p3 (List.mem_of_getElem? e1)
    refine ⟨a, e1, ?_⟩
    cases e2 with
    | list e2 r => exact .list (k _ _ e2 ha) (r.seqk ks)
    | attrs e2 r => exact .attrs (k _ _ e2 ha) (r.seqk ks)
    | inst e2 r => exact .inst (k _ _ e2 ha) r
    | dict e2 r => exact .dict (fun p => (e2 p).at fun o q => k _ o q ha) (r.seqk ks)
  · obtain ⟨p0, L, m, p1, p2, p3, p4⟩ := x.fr e he
    obtain ⟨m', h'⟩ := kf L m (List.mem_filterMap.mpr ⟨e, he, p1⟩) p4
    exact ⟨p0, L, m', p1, p2, p3, h'⟩
end

noncomputable def tryBody (pf cn wn : Str) (args : List Expr) (k : Nat) (p1 p2 p3 p4 p5 p6 a1 a2 c1 c2 b1 b2 : Pos) (E2 : Expr) (k1 k2 : Nat) (d1 d2 : Pos) : List Stmt × List ExceptHandler :=
  ([.Return (some (.Call (.Name pf p1) args [] p2)) p3],
   [.ExceptHandler (some (.Name cn p4)) (some wn) [.Return (some (.IfExp (.Compare (.Attribute (.Name wn a1) "code" a2) [.Eq] [.Constant (.str "BS") k c1] c2) (.BinOp (.Constant (.int 0) k1 d1) .Sub (.Constant (.int 1) k2 d2) b1) E2 b2)) p5] p6])

section
variable {prog : Program} {w : World} {hb : Heap} {β : Gl} {B : Bk} {r : Nat} {K : Frag} {C fI : Addr} {fd : FuncData} {names : List Str}

noncomputable def x_try (Fn : St → Option (MV × St)) (G : St → Option (List MV × St)) (Fr : List MV → List AObj → Option (List AObj)) (st : St) : Option (Fl × St) := match Fn st with
  | some (m, st') => some (.ret m, st')
  | none => match G st with
    | some (ms, st1) => match Fr ms st1.objs with
      | some objs' => some (.ret (.int (-1)), ⟨[], objs'⟩)
      | none => none
    | none => none

theorem x_try_ok (Y : ExcCls hb C fI) (hK : K.In hb) (hC : ClsOk K C names) (hin : names.contains ("code" : Str) = true) {f : Value} {r' : Nat} (hr : r' ≤ r) {pf cn wn : Str} {args : List Expr} {k : Nat} {p1 p2 p3 p4 p5 p6 a1 a2 c1 c2 b1 b2 : Pos} {E2 : Expr} {k1 k2 : Nat} {d1 d2 pos : Pos}
    {Fn : St → Option (MV × St)} {G : St → Option (List MV × St)} {Fr : List MV → List AObj → Option (List AObj)}
    (hFn : EvS prog w hb β B r (eval (.Call (.Name pf p1) args [] p2) B.env) Fn)
    (hn : NameG prog w hb B pf f) (hk : KeptBy prog w hb f) (hF : CallR prog w hb β r' C f Fr)
    (hG : EsS prog w hb β B r (spliced (backTo p2 (starEach args B.env))) G) (hs : (backTo p2 (starEach args B.env)).any (·.1) = false) (he : ∀ (M : Model) (A : Around) (E : Value → Shared → Prop) (s : Shared) (Q : Args → Shared → Prop), wpAny M A (spliced (backTo p2 (starEach args B.env))) (fun vs s₁ => Q ⟨vs, []⟩ s₁) E s → wpAny M A (evalArgs f true (backTo p2 (starEach args B.env)) []) Q E s)
    (hnC : NameG prog w hb B cn (.ref C)) (hsk : B.env.scope.kind = .function) (hfl : B.env.frame = some B.env.locals) (hwn : B.env.kindOf wn = some .local) (hdw : (wn == ("__debug__" : Str)) = false)
    :
    ∀ (A : Around) (fr : List Env) (adr : List Addr) (st st' : St) (m : Fl) (s : Shared) (Q : Flow → Shared → Prop) (E : Value → Shared → Prop),
      Amb A fr r → (∃ outer, fr = B.env :: outer) → Inv hb β B fr adr st s.heap → x_try Fn G Fr st = some (m, st') →
      (∀ (a : Flow) (adr' : List Addr) (h' : Heap) (tk' : Nat), Inv hb β B fr adr' st' h' → FlR β h' adr' a m → Adv B.W (frs fr) adr s.heap adr' h' → Q a { s with heap := h', toks := tk' }) →
      wpAny (model prog w) A (exec (.Try (tryBody pf cn wn args k p1 p2 p3 p4 p5 p6 a1 a2 c1 c2 b1 b2 E2 k1 k2 d1 d2).1 (tryBody pf cn wn args k p1 p2 p3 p4 p5 p6 a1 a2 c1 c2 b1 b2 E2 k1 k2 d1 d2).2 [] [] pos) B.env) Q E s := by
  intro A fr adr st st' m s Q E ha hfrx hi e hQ
  unfold x_try at e
  unfold tryBody
  split at e
  · rename_i m1 st1 e1
    cases e
    refine wpAny_Try_except (wpAny_execs_cons (wpAny_Return_some (hFn.run A fr adr st _ m1 s _ _ ha hi e1 fun v adr1 h1 tk1 i1 r1 a1 => ?_)))
    exact hQ (.ret v) adr1 h1 tk1 i1 r1 a1
  · split at e
    · rename_i ms st1 e1
      split at e
      · rename_i objs' e2
        cases e
        obtain ⟨outer, rfl⟩ := hfrx
        refine wpAny_Try_except (wpAny_execs_cons (wpAny_Return_some (Call_ (hn A p1 s _ _ hi.hp.base ?_))))
        refine callWith_of (P := fun h => ∀ b o, hb.get? b = some o → h.get? b = some o) (by rw [hs]; rfl) hk (he _ _ _ _ _ ?_)
        refine hG.run A _ adr st st1 ms s _ _ ha hi e1 fun vs adr1 h1 tk1 i1 r1 a1 => ⟨i1.hp.base, ?_⟩
        refine hF A _ adr1 st1.objs objs' ms vs { s with heap := h1, toks := tk1 } _ _ (ha.le hr) i1.hp r1 e2 fun ex adr2 h₂ h' tk' p2 a2 z => ?_
        obtain ⟨zk, zs, dx, es, n, t, x, base, z1, z2, H, z4, z5⟩ := z
        refine noteD_next ha.f hfl H fun h5 H5 u5 => ?_
        refine flightD (s := { s with heap := h5, toks := tk' }) (f := none) H5 fun h6 H6 u6 => ?_
        -- what stands
        have hbFr : ∀ b o, hb.get? b = some o → b ∉ frs (B.env :: outer) := fun b o q hm => by
          obtain ⟨ev, he, hf⟩ := List.mem_filterMap.mp hm
          obtain ⟨_, L, m, p1, p2', _, _⟩ := p2.fr ev he
          rw [hf] at p1; cases p1; rw [p2'] at q; cases q
        have hbB : ∀ b o, hb.get? b = some o → base.get? b = some o := fun b o q => z5 b o (p2.base b o q) (hbFr b o q)
        have base6 : ∀ b o, hb.get? b = some o → h6.get? b = some o := fun b o q => H6.stays b o (hbB b o q)
        have u26 : ∀ L m, L ∈ frs (B.env :: outer) → h₂.Ns L m → h6.Ns L m := fun L m hm q => by
          obtain ⟨o, es', ep, ho, hd', q'⟩ := q
          obtain ⟨sl, ho'⟩ := zs L o ho hm
          obtain ⟨sl5, h5'⟩ := u5 _ _ ho' (fun vs q => by rw [hd'] at q; cases q)
          obtain ⟨sl6, h6'⟩ := u6 _ _ h5' (fun vs q => by rw [hd'] at q; cases q)
          exact ⟨_, es', ep, h6', hd', q'⟩
        have hLm : B.env.locals ∈ frs (B.env :: outer) := List.mem_filterMap.mpr ⟨B.env, .head _, hfl⟩
        obtain ⟨mL, hL2⟩ : ∃ m, h₂.Ns B.env.locals m := by
          obtain ⟨_, L, m, q1, _, _, q4⟩ := p2.fr B.env (.head _)
          rw [hfl] at q1; cases q1; exact ⟨m, q4⟩
        have hp : (B.env.scope.kind == .class || (B.env.scope.kind == .module && B.env.locals != B.env.globals)) = false := by rw [hsk]; rfl
        obtain ⟨nm, q, N, bs, hdct, sn, sub, ab, col, dd, y0, y1, y2, y3, y5, mN, hCo, hN, hiN⟩ := Y.obj
        obtain ⟨oe, vse, T, oT, ts, t1, t2, t3, t4, t5, t6, t7, t8, t9, t10⟩ := id H6.tr
        refine wpAny_handleBy_cons (codeAny_handlers_test (hnC _ _ _ _ _ base6 ?_)) (by intro q; cases q)
        refine wpAny_excMatches_sub_self (base6 _ _ hCo) t1 t2 (by decide) (codeAny_handlers_suite_as ?_)
        refine flightD (s := { s with heap := h6, toks := tk' }) (f := none) H6 fun h7 H7 u7 => ?_
        have u27 : ∀ L m, L ∈ frs (B.env :: outer) → h₂.Ns L m → h7.Ns L m := fun L m hm q => u7.ns (u26 L m hm q)
        refine wpAny_storeName_local hwn (u27 _ _ hLm hL2) (fun h8 hns8 hs8 => ?_) hp
        obtain ⟨oe, vse, T, oT, ts, t1, t2, t3, t4, t5, t6, t7, t8, t9, t10⟩ := id H7.tr
        have eL : ex ≠ B.env.locals := fun q => by
          obtain ⟨o, es', ep, ho, hd', _⟩ := u27 _ _ hLm hL2
          rw [← q, t1] at ho; cases ho; rw [t4] at hd'; cases hd'
        have dL : dx ≠ B.env.locals := fun q => by
          obtain ⟨_, ⟨L', _, hf, hn', _⟩, _⟩ := H7.frames
          rw [hfl] at hf; cases hf
          rw [← q, z4] at hn'; cases hn'
        have e8 : h8.get? ex = some oe := (hs8.2 _ eL).trans t1
        have d8 : h8.get? dx = some (dictOf es n) := (hs8.2 _ dL).trans (H7.stays _ _ z4)
        have base8 : ∀ b o, hb.get? b = some o → h8.get? b = some o := fun b o q => (hs8.2 b fun z => hbFr b o q (z ▸ hLm)).trans (H7.stays b o (hbB b o q))
        have X8 : K.In h8 := hK.keeps base8
        have I8 : InstAt h8 ex oe C (some (dictOf es n)) := ⟨e8, t2, by unfold notCls; rw [t4], by rw [t3]; exact d8⟩
        refine wpAny_execs_cons (wpAny_Return_some (wpAny_IfExp (wpAny_isTrue_Compare1 (Attribute_Name_ (wpAny_Name (wpAny_loadName_local (v := .ref ex) hsk hwn hns8 (by simp) ?_) hdw)) rfl)))
        refine hC.get (v := .str x t) X8 I8 (findObj_own hC.dct (hC.at hin) rfl (by rw [lookIn_dict]; exact z1)) rfl ?_
        refine wpAny_Constant_str (PyProof.Rows.eq_str ?_)
        have hxs : x = ("BS" : Str) := by cases z2; rfl
        rw [hxs, show (("BS" : Str) == ("BS" : Str)) = true from by simp]
        refine wpAny_truthy_bool ?_
        rw [if_pos rfl]
        refine wpAny_BinOp (wpAny_Constant_int (wpAny_Constant_int (sub_int ?_)))
        refine wpAny_nameGoes hwn hns8 hp fun h9 m9 hns9 hs9 => ?_
        have k9 : ∀ b o, h₂.get? b = some o → b ∉ frs (B.env :: outer) → h9.get? b = some o := fun b o q hb' =>
          (hs9.2 b fun z => hb' (z ▸ hLm)).trans ((hs8.2 b fun z => hb' (z ▸ hLm)).trans (H7.stays b o (z5 b o q hb')))
        have f9 : ∀ L m, L ∈ frs (B.env :: outer) → h₂.Ns L m → ∃ m', h9.Ns L m' := fun L m hm q => by
          by_cases hL : L = B.env.locals
          · subst hL; exact ⟨m9, hns9⟩
          · exact ⟨m, ((u27 L m hm q).sameBut hs8 hL).sameBut hs9 hL⟩
        have p9 := p2.frames k9 f9
        have cellK : ∀ {c : Addr} {u : Option Value}, h₂.IsCell c u → h9.IsCell c u := fun {c} {u} y => cell_at y fun o q => k9 c o q fun hm => by
          obtain ⟨ev, he, hf⟩ := List.mem_filterMap.mp hm
          obtain ⟨_, L, m, p1', _, _, p4'⟩ := p2.fr ev he
          rw [hf] at p1'; cases p1'
          exact ns_notCell p4' y
        have b2 : Blk hb β B adr2 st1.vars h₂ := i1.blk.adv a2 fun a hm o q => i1.hp.frSeq hm q
        have adv12 : Adv B.W (frs (B.env :: outer)) adr s.heap adr2 h₂ := a1.trans (a2.mono fun a h => by cases h)
        refine hQ _ adr2 h9 _ ⟨p9, ⟨⟨m9, hns9⟩, b2.locW, fun a ha' => ?_, fun y c hc => ?_, b2.cellW, b2.apart, fun i y mv q1 q2 q3 => by cases q2⟩⟩ (.int _ _) ⟨adv12.pre, adv12.new, fun b o q => ?_, fun b o q w1 w2 w3 => ?_, fun b o q w1 w2 w3 => ?_⟩
        · obtain ⟨q1, q2, q3⟩ := b2.own a ha'
          refine ⟨q1, q2, ?_⟩
          rcases q3 with ⟨m, q3⟩ | ⟨v, q3⟩
          · by_cases hm : a ∈ frs (B.env :: outer)
            · exact .inl (f9 a m hm q3)
            · exact .inl ⟨m, q3.at' fun o q => k9 a o q hm⟩
          · exact .inr ⟨v, cellK q3⟩
        · obtain ⟨q1, v, q2⟩ := b2.cell y c hc
          exact ⟨q1, v, cellK q2⟩
        · obtain ⟨o', q'⟩ := adv12.alive b o q
          by_cases hm : b ∈ frs (B.env :: outer)
          · obtain ⟨ev, he, hf⟩ := List.mem_filterMap.mp hm
            obtain ⟨_, L, m, p1', _, _, p4'⟩ := p2.fr ev he
            rw [hf] at p1'; cases p1'
            obtain ⟨m', h'⟩ := f9 _ m hm p4'
            exact ns_some h'
          · exact ⟨o', k9 b o' q' hm⟩
        · exact k9 b o (adv12.keep b o q w1 w2 w3) w3
        · have hbL : b ≠ B.env.locals := fun z => w1 (z ▸ b2.locW)
          obtain ⟨sl, q'⟩ := adv12.slots b o q w1 w2 w3
          obtain ⟨sl2, q2⟩ := zs b _ q' w3
          have hnf : ∀ vs, o.data ≠ .fields vs := fun vs z => by
            obtain ⟨ev, he, hf⟩ := List.mem_filterMap.mp w3
            obtain ⟨_, L, m, p1', _, _, p4'⟩ := p2.fr ev he
            rw [hf] at p1'; cases p1'
            obtain ⟨o4, es4, ep4, ho4, hd4, _⟩ := p4'
            rw [q'] at ho4; cases ho4
            rw [show o.data = Data.dict es4 ep4 from hd4] at z; cases z
          obtain ⟨sl5, h5'⟩ := u5 _ _ q2 hnf
          obtain ⟨sl6, h6'⟩ := u6 _ _ h5' hnf
          obtain ⟨sl7, h7'⟩ := u7 _ _ h6' hnf
          exact ⟨sl7, (hs9.2 b hbL).trans ((hs8.2 b hbL).trans h7')⟩
      · cases e
    · cases e
end
end Mine
end

section
open PySem PySem.W PyProof.Rows PySem.Spec PySem.Calls
set_option maxRecDepth 100000
namespace Mine

section
variable {prog : Program} {w : World} {hb : Heap} {β : Gl} {r : Nat} {C : Addr}

/-- a statement that asks for its own frame on top -/
structure TxS (prog : Program) (w : World) (hb : Heap) (β : Gl) (B : Bk) (r : Nat) (t : Sem Flow) (F : St → Option (Fl × St)) : Prop where
  run : ∀ (A : Around) (fr : List Env) (adr : List Addr) (st st' : St) (m : Fl) (s : Shared) (Q : Flow → Shared → Prop) (E : Value → Shared → Prop),
    Amb A fr r → (∃ outer, fr = B.env :: outer) → Inv hb β B fr adr st s.heap → F st = some (m, st') →
    (∀ (a : Flow) (adr' : List Addr) (h' : Heap) (tk' : Nat), Inv hb β B fr adr' st' h' → FlR β h' adr' a m → Adv B.W (frs fr) adr s.heap adr' h' → Q a { s with heap := h', toks := tk' }) →
    wpAny (model prog w) A t Q E s

noncomputable def x_ret1 (F : St → Option (Fl × St)) (st : St) : Option (Fl × St) := match F st with
  | some (.ret m, st') => some (.ret m, st')
  | _ => none
theorem tx_one {B : Bk} {st₀ : Stmt} {F : St → Option (Fl × St)} (h : TxS prog w hb β B r (exec st₀ B.env) F) : TxS prog w hb β B r (execs [st₀] B.env) (x_ret1 F) := by
  refine ⟨?_⟩
  intro A fr adr st st' m s Q E ha hfr hi e hQ
  unfold x_ret1 at e
  split at e
  · rename_i m1 st1 e1
    cases e
    refine wpAny_execs_cons (h.run A fr adr st _ _ s _ E ha hfr hi e1 fun a adr' h' tk' i' r' a' => ?_)
    cases a with
    | ret v => exact hQ (.ret v) adr' h' tk' i' r' a'
    | _ => exact r'.elim
  · cases e

theorem call_defT {f : Addr} {fd : FuncData} {body : List Stmt} {ps ls : List Str} {Fb : St → Option (Fl × St)} (D : DefOk hb f fd body ps ls)
    (hF : ∀ L, TxS prog w hb β (defBk fd f (ps ++ ls) L) r (execs body (defBk fd f (ps ++ ls) L).env) Fb) : CallC prog w hb β (r + 1) (.ref f) (callL ps.length [] ls.length Fb) := by
  intro A fr adr objs objs' ms m vs s R ha hp hv e hQ
  unfold callL at e
  split at e
  · rename_i hlen
    refine def_enter (dms := []) D (fun _ _ => .nil) ha hp hv hlen fun s₁ hs₁ inv amb keep fresh => ?_
    obtain ⟨h₁, tk₁, rfl⟩ := hs₁
    unfold callF at e
    have frameEq : frs (callEnvC fd s.heap.objs.size f :: fr) = s.heap.objs.size :: frs fr := rfl
    have fin : ∀ {fl : Fl} {st' : St}, Fb ⟨(ms ++ []) ++ List.replicate ls.length .undef, objs⟩ = some (fl, st') → (∀ (f : Flow) (adr' : List Addr) (h' : Heap) (tk' : Nat), Hp hb β fr adr' st'.objs h' → FlR β h' adr' f fl → Adv [] (frs fr) adr s.heap adr' h' →
            R (.ok (.ret (match f with | .ret v => v | _ => .none))) { s with heap := h', toks := tk' }) →
          wpAny (model prog w) (A.deeper (callEnvC fd s.heap.objs.size f)) (execs body (callEnvC fd s.heap.objs.size f)) (fun f s' => R (.ok (.ret (match f with | .ret v => v | _ => .none))) s')
            (fun e s' => wpAny (model prog w) (A.deeper (callEnvC fd s.heap.objs.size f)) (leaving (callEnvC fd s.heap.objs.size f) e) (fun _ s'' => R (.error e) s'') (fun e' s'' => R (.error e') s'') s') { s with heap := h₁, toks := tk₁ } := by
      intro fl st' e1 hQ'
      refine (hF s.heap.objs.size).run _ _ adr _ st' fl _ _ _ amb ⟨fr, rfl⟩ inv e1 fun f' adr' h' tk' i' r' a' => ?_
      refine hQ' f' adr' h' tk' ⟨i'.hp.base, i'.hp.off, i'.hp.low, i'.hp.big, i'.hp.nodup, i'.hp.len, i'.hp.objs, fun e he => i'.hp.fr e (List.mem_cons_of_mem _ he)⟩ r' ?_
      have a3 := (Adv.of_keeps (W := []) (F := frs (callEnvC fd s.heap.objs.size f :: fr)) (adr := adr) keep).off a' fresh
      refine ⟨a3.pre, a3.new, a3.alive, fun b o q h1 h2 h3 => a3.keep b o q h1 h2 (fun hm => ?_), fun b o q h1 h2 h3 => a3.slots b o q h1 h2 (by rw [frameEq]; exact .tail _ h3)⟩
      rw [frameEq] at hm
      rcases List.mem_cons.mp hm with rfl | hm
      · rw [fresh_none] at q; cases q
      · exact h3 hm
    split at e
    · rename_i m' st' e1
      cases e
      refine fin e1 fun f' adr' h' tk' p' r' a' => ?_
      cases f' with
      | ret v => exact hQ v adr' h' tk' p' r' a'
      | _ => exact r'.elim
    · rename_i st' e1
      cases e
      refine fin e1 fun f' adr' h' tk' p' r' a' => ?_
      cases f' with
      | next => exact hQ .none adr' h' tk' p' .none a'
      | _ => exact r'.elim
    · cases e
  · cases e
variable {B : Bk}

theorem e_comp1 {elt target iter : Expr} {scope : Scope} {pos : Pos} {ns own : List Str} {src : List (Option Nat)} {S : St → Option (Turns × St)} {T : Itm → St → Option St} {G : Nat → St → Option St} 
    (hc : CompOk B scope ns own src) (hs : ∀ x, foldedSetIterable iter B.env x = pure x) (hS : SrcS prog w hb β B r target iter S) (hT : ∀ C, TgS prog w hb β (cBk B scope ns own C) r target T) (hG : ∀ C, AcS hb β (cBk B scope ns own C) r (bw1 prog w (cBk B scope ns own C) elt) G) :
    EvS prog w hb β B r (eval (.ListComp elt [⟨target, iter, [], 0⟩] scope pos) B.env) (f_comp src S T (t_const true) G) :=
  e_comp (BW := fun B' => bw1 prog w B' elt) (TW := fun _ => tw0) hc hS hs (fun C => turn1) hT (fun _ => te0) hG

theorem e_comp1if {elt target iter : Expr} {c : Expr} {scope : Scope} {pos : Pos} {ns own : List Str} {src : List (Option Nat)} {S : St → Option (Turns × St)} {T : Itm → St → Option St} {If : St → Option (Bool × St)} {G : Nat → St → Option St} 
    (hc : CompOk B scope ns own src) (hs : ∀ x, foldedSetIterable iter B.env x = pure x) (hS : SrcS prog w hb β B r target iter S) (hT : ∀ C, TgS prog w hb β (cBk B scope ns own C) r target T) (hI : ∀ C, TsS prog w hb β (cBk B scope ns own C) r (isTrue c (cBk B scope ns own C).env (eval c (cBk B scope ns own C).env)) If) (hG : ∀ C, AcS hb β (cBk B scope ns own C) r (bw1 prog w (cBk B scope ns own C) elt) G) :
    EvS prog w hb β B r (eval (.ListComp elt [⟨target, iter, [c], 0⟩] scope pos) B.env) (f_comp src S T If G) :=
  e_comp (BW := fun B' => bw1 prog w B' elt) (TW := fun B' => tw1 prog w B' c) hc hS hs (fun C => turn1if) hT (fun C => te1 (hI C)) hG

theorem e_comp2 {elt target iter : Expr} {t2 i2 : Expr} {scope : Scope} {pos : Pos} {ns own : List Str} {src : List (Option Nat)} {S : St → Option (Turns × St)} {T : Itm → St → Option St} {G : Nat → St → Option St} 
    (hc : CompOk B scope ns own src) (hs : ∀ x, foldedSetIterable iter B.env x = pure x) (hs2 : ∀ C x, foldedSetIterable i2 (cBk B scope ns own C).env x = pure x) (hS : SrcS prog w hb β B r target iter S) (hT : ∀ C, TgS prog w hb β (cBk B scope ns own C) r target T) (hG : ∀ C, AcS hb β (cBk B scope ns own C) r (bw2 prog w (cBk B scope ns own C) (.ListComp elt [⟨target, iter, [], 0⟩, ⟨t2, i2, [], 0⟩] scope pos) i2) G) :
    EvS prog w hb β B r (eval (.ListComp elt [⟨target, iter, [], 0⟩, ⟨t2, i2, [], 0⟩] scope pos) B.env) (f_comp src S T (t_const true) G) :=
  e_comp (BW := fun B' => bw2 prog w B' (.ListComp elt [⟨target, iter, [], 0⟩, ⟨t2, i2, [], 0⟩] scope pos) i2) (TW := fun _ => tw0) hc hS hs (fun C => turn2a (hs2 C)) hT (fun _ => te0) hG

theorem x_comp1 {y : Str} {py spos : Pos} (i : Nat) {elt target iter : Expr} {scope : Scope} {pos : Pos} {ns own : List Str} {src : List (Option Nat)} {S : St → Option (Turns × St)} {T : Itm → St → Option St} {G : Nat → St → Option St} (hsw : swapsWith (.ListComp elt [⟨target, iter, [], 0⟩] scope pos) (some (.Name y py)) spos.line B.env = pure true) (hx : B.ns[i]? = some y) (hd : distinct B.ns i y = true) (hk : kindSt B y = true) (hsk : B.env.scope.kind = .function) 
    (hc : CompOk B scope ns own src) (hs : ∀ x, foldedSetIterable iter B.env x = pure x) (hS : SrcS prog w hb β B r target iter S) (hT : ∀ C, TgS prog w hb β (cBk B scope ns own C) r target T) (hG : ∀ C, AcS hb β (cBk B scope ns own C) r (bw1 prog w (cBk B scope ns own C) elt) G) :
    ExS prog w hb β B r (exec (.Assign [.Name y py] (.ListComp elt [⟨target, iter, [], 0⟩] scope pos) spos) B.env) (x_st i (f_comp src S T (t_const true) G)) :=
  x_comp i (BW := fun B' => bw1 prog w B' elt) (TW := fun _ => tw0) hsw hx hd hk hsk hc hS hs (fun C => turn1) hT (fun _ => te0) hG

theorem x_comp1if {y : Str} {py spos : Pos} (i : Nat) {elt target iter : Expr} {c : Expr} {scope : Scope} {pos : Pos} {ns own : List Str} {src : List (Option Nat)} {S : St → Option (Turns × St)} {T : Itm → St → Option St} {If : St → Option (Bool × St)} {G : Nat → St → Option St} (hsw : swapsWith (.ListComp elt [⟨target, iter, [c], 0⟩] scope pos) (some (.Name y py)) spos.line B.env = pure true) (hx : B.ns[i]? = some y) (hd : distinct B.ns i y = true) (hk : kindSt B y = true) (hsk : B.env.scope.kind = .function) 
    (hc : CompOk B scope ns own src) (hs : ∀ x, foldedSetIterable iter B.env x = pure x) (hS : SrcS prog w hb β B r target iter S) (hT : ∀ C, TgS prog w hb β (cBk B scope ns own C) r target T) (hI : ∀ C, TsS prog w hb β (cBk B scope ns own C) r (isTrue c (cBk B scope ns own C).env (eval c (cBk B scope ns own C).env)) If) (hG : ∀ C, AcS hb β (cBk B scope ns own C) r (bw1 prog w (cBk B scope ns own C) elt) G) :
    ExS prog w hb β B r (exec (.Assign [.Name y py] (.ListComp elt [⟨target, iter, [c], 0⟩] scope pos) spos) B.env) (x_st i (f_comp src S T If G)) :=
  x_comp i (BW := fun B' => bw1 prog w B' elt) (TW := fun B' => tw1 prog w B' c) hsw hx hd hk hsk hc hS hs (fun C => turn1if) hT (fun C => te1 (hI C)) hG

theorem x_comp2 {y : Str} {py spos : Pos} (i : Nat) {elt target iter : Expr} {t2 i2 : Expr} {scope : Scope} {pos : Pos} {ns own : List Str} {src : List (Option Nat)} {S : St → Option (Turns × St)} {T : Itm → St → Option St} {G : Nat → St → Option St} (hsw : swapsWith (.ListComp elt [⟨target, iter, [], 0⟩, ⟨t2, i2, [], 0⟩] scope pos) (some (.Name y py)) spos.line B.env = pure true) (hx : B.ns[i]? = some y) (hd : distinct B.ns i y = true) (hk : kindSt B y = true) (hsk : B.env.scope.kind = .function) 
    (hc : CompOk B scope ns own src) (hs : ∀ x, foldedSetIterable iter B.env x = pure x) (hs2 : ∀ C x, foldedSetIterable i2 (cBk B scope ns own C).env x = pure x) (hS : SrcS prog w hb β B r target iter S) (hT : ∀ C, TgS prog w hb β (cBk B scope ns own C) r target T) (hG : ∀ C, AcS hb β (cBk B scope ns own C) r (bw2 prog w (cBk B scope ns own C) (.ListComp elt [⟨target, iter, [], 0⟩, ⟨t2, i2, [], 0⟩] scope pos) i2) G) :
    ExS prog w hb β B r (exec (.Assign [.Name y py] (.ListComp elt [⟨target, iter, [], 0⟩, ⟨t2, i2, [], 0⟩] scope pos) spos) B.env) (x_st i (f_comp src S T (t_const true) G)) :=
  x_comp i (BW := fun B' => bw2 prog w B' (.ListComp elt [⟨target, iter, [], 0⟩, ⟨t2, i2, [], 0⟩] scope pos) i2) (TW := fun _ => tw0) hsw hx hd hk hsk hc hS hs (fun C => turn2a (hs2 C)) hT (fun _ => te0) hG
end
end Mine
end

section
open PySem PySem.W PyProof.Rows
set_option maxRecDepth 100000
namespace Mine
noncomputable abbrev pg : Program := PySem.Challenge.rw_sa0062_01.row.prog
noncomputable def stAt (i j : Nat) : Stmt := match pg.main.body[i]?, j with
  | some st, 0 => st
  | some (.ClassDef _ _ _ b ..), j + 1 => (match b[j]? with | some st => st | none => .Pass default)
  | _, _ => .Pass default
noncomputable def stP : Stmt → Arguments
  | .FunctionDef _ a .. => a
  | _ => default
noncomputable def stB : Stmt → List Stmt
  | .FunctionDef _ _ b .. => b
  | _ => []
noncomputable def stS : Stmt → Scope
  | .FunctionDef _ _ _ _ _ _ s .. => s
  | _ => default
noncomputable def o2 (P : Params) : Obj := (@PySem.Obj.mk @PySem.Value.none none (@PySem.Data.dict (@List.toArray @PySem.DictEntry ((@PySem.DictEntry.mk (@PySem.PyData.keyHash P (Str.ofString "type.__subclasses__.Exception.0")) (@PySem.Value.str (Str.ofString "type.__subclasses__.Exception.0") (223 : @Nat)) (@PySem.Value.int (34 : @Int) (0 : @Nat))) :: ((@PySem.DictEntry.mk (@PySem.PyData.keyHash P (Str.ofString "type.__subclasses__.Exception.n")) (@PySem.Value.str (Str.ofString "type.__subclasses__.Exception.n") (224 : @Nat)) (@PySem.Value.int (1 : @Int) (0 : @Nat))) :: []))) (2 : @Nat)) (@List.toArray (@Option @PySem.Value) []))
noncomputable def o3 (P : Params) : Obj := (@PySem.Obj.mk (@PySem.Value.type "dict") none (@PySem.Data.dict (@List.toArray @PySem.DictEntry ((@PySem.DictEntry.mk (@PySem.PyData.keyHash P (Str.ofString "__name__")) (@PySem.Value.str (Str.ofString "__name__") (165 : @Nat)) (@PySem.Value.str (Str.ofString "law_sa0062_01") (565 : @Nat))) :: ((@PySem.DictEntry.mk (@PySem.PyData.keyHash P (Str.ofString "__doc__")) (@PySem.Value.str (Str.ofString "__doc__") (166 : @Nat)) @PySem.Value.none) :: ((@PySem.DictEntry.mk (@PySem.PyData.keyHash P (Str.ofString "__package__")) (@PySem.Value.str (Str.ofString "__package__") (167 : @Nat)) @PySem.Value.none) :: ((@PySem.DictEntry.mk (@PySem.PyData.keyHash P (Str.ofString "__loader__")) (@PySem.Value.str (Str.ofString "__loader__") (168 : @Nat)) (@PySem.Value.builtin "__main__.__loader__#opaque")) :: ((@PySem.DictEntry.mk (@PySem.PyData.keyHash P (Str.ofString "__spec__")) (@PySem.Value.str (Str.ofString "__spec__") (169 : @Nat)) @PySem.Value.none) :: ((@PySem.DictEntry.mk (@PySem.PyData.keyHash P (Str.ofString "__annotations__")) (@PySem.Value.str (Str.ofString "__annotations__") (170 : @Nat)) (@PySem.Value.ref (6 : @Nat))) :: ((@PySem.DictEntry.mk (@PySem.PyData.keyHash P (Str.ofString "__builtins__")) (@PySem.Value.str (Str.ofString "__builtins__") (171 : @Nat)) (@PySem.Value.ref (4 : @Nat))) :: ((@PySem.DictEntry.mk (@PySem.PyData.keyHash P (Str.ofString "__file__")) (@PySem.Value.str (Str.ofString "__file__") (173 : @Nat)) (@PySem.Value.str (Str.ofString "/claim/cut.py") (172 : @Nat))) :: ((@PySem.DictEntry.mk (@PySem.PyData.keyHash P (Str.ofString "__cached__")) (@PySem.Value.str (Str.ofString "__cached__") (174 : @Nat)) @PySem.Value.none) :: ((@PySem.DictEntry.mk (@PySem.PyData.keyHash P (Str.ofString "MOST_TEXT")) (@PySem.Value.str (Str.ofString "MOST_TEXT") (190 : @Nat)) (@PySem.Value.int (255 : @Int) (189 : @Nat))) :: ((@PySem.DictEntry.mk (@PySem.PyData.keyHash P (Str.ofString "MOST_EXPONENT")) (@PySem.Value.str (Str.ofString "MOST_EXPONENT") (192 : @Nat)) (@PySem.Value.int (99 : @Int) (191 : @Nat))) :: ((@PySem.DictEntry.mk (@PySem.PyData.keyHash P (Str.ofString "BasicError")) (@PySem.Value.str (Str.ofString "BasicError") (226 : @Nat)) (@PySem.Value.ref (34 : @Nat))) :: ((@PySem.DictEntry.mk (@PySem.PyData.keyHash P (Str.ofString "kind_of_name")) (@PySem.Value.str (Str.ofString "kind_of_name") (235 : @Nat)) (@PySem.Value.ref (44 : @Nat))) :: ((@PySem.DictEntry.mk (@PySem.PyData.keyHash P (Str.ofString "first_value")) (@PySem.Value.str (Str.ofString "first_value") (242 : @Nat)) (@PySem.Value.ref (51 : @Nat))) :: ((@PySem.DictEntry.mk (@PySem.PyData.keyHash P (Str.ofString "figures_of")) (@PySem.Value.str (Str.ofString "figures_of") (251 : @Nat)) (@PySem.Value.ref (58 : @Nat))) :: ((@PySem.DictEntry.mk (@PySem.PyData.keyHash P (Str.ofString "rounded_by")) (@PySem.Value.str (Str.ofString "rounded_by") (262 : @Nat)) (@PySem.Value.ref (65 : @Nat))) :: ((@PySem.DictEntry.mk (@PySem.PyData.keyHash P (Str.ofString "made")) (@PySem.Value.str (Str.ofString "made") (274 : @Nat)) (@PySem.Value.ref (72 : @Nat))) :: ((@PySem.DictEntry.mk (@PySem.PyData.keyHash P (Str.ofString "whole_near")) (@PySem.Value.str (Str.ofString "whole_near") (284 : @Nat)) (@PySem.Value.ref (79 : @Nat))) :: ((@PySem.DictEntry.mk (@PySem.PyData.keyHash P (Str.ofString "fits")) (@PySem.Value.str (Str.ofString "fits") (292 : @Nat)) (@PySem.Value.ref (86 : @Nat))) :: ((@PySem.DictEntry.mk (@PySem.PyData.keyHash P (Str.ofString "whole_of")) (@PySem.Value.str (Str.ofString "whole_of") (301 : @Nat)) (@PySem.Value.ref (93 : @Nat))) :: ((@PySem.DictEntry.mk (@PySem.PyData.keyHash P (Str.ofString "decimal_of")) (@PySem.Value.str (Str.ofString "decimal_of") (309 : @Nat)) (@PySem.Value.ref (100 : @Nat))) :: ((@PySem.DictEntry.mk (@PySem.PyData.keyHash P (Str.ofString "text_of")) (@PySem.Value.str (Str.ofString "text_of") (316 : @Nat)) (@PySem.Value.ref (107 : @Nat))) :: ((@PySem.DictEntry.mk (@PySem.PyData.keyHash P (Str.ofString "checked_text")) (@PySem.Value.str (Str.ofString "checked_text") (323 : @Nat)) (@PySem.Value.ref (114 : @Nat))) :: ((@PySem.DictEntry.mk (@PySem.PyData.keyHash P (Str.ofString "suited")) (@PySem.Value.str (Str.ofString "suited") (333 : @Nat)) (@PySem.Value.ref (121 : @Nat))) :: ((@PySem.DictEntry.mk (@PySem.PyData.keyHash P (Str.ofString "USUAL_HIGH")) (@PySem.Value.str (Str.ofString "USUAL_HIGH") (337 : @Nat)) (@PySem.Value.int (10 : @Int) (336 : @Nat))) :: ((@PySem.DictEntry.mk (@PySem.PyData.keyHash P (Str.ofString "Grid")) (@PySem.Value.str (Str.ofString "Grid") (372 : @Nat)) (@PySem.Value.ref (138 : @Nat))) :: ((@PySem.DictEntry.mk (@PySem.PyData.keyHash P (Str.ofString "count_of")) (@PySem.Value.str (Str.ofString "count_of") (382 : @Nat)) (@PySem.Value.ref (149 : @Nat))) :: ((@PySem.DictEntry.mk (@PySem.PyData.keyHash P (Str.ofString "kind_in")) (@PySem.Value.str (Str.ofString "kind_in") (390 : @Nat)) (@PySem.Value.ref (156 : @Nat))) :: ((@PySem.DictEntry.mk (@PySem.PyData.keyHash P (Str.ofString "check_highs")) (@PySem.Value.str (Str.ofString "check_highs") (399 : @Nat)) (@PySem.Value.ref (163 : @Nat))) :: ((@PySem.DictEntry.mk (@PySem.PyData.keyHash P (Str.ofString "dim")) (@PySem.Value.str (Str.ofString "dim") (408 : @Nat)) (@PySem.Value.ref (170 : @Nat))) :: ((@PySem.DictEntry.mk (@PySem.PyData.keyHash P (Str.ofString "grid_of")) (@PySem.Value.str (Str.ofString "grid_of") (417 : @Nat)) (@PySem.Value.ref (177 : @Nat))) :: ((@PySem.DictEntry.mk (@PySem.PyData.keyHash P (Str.ofString "option_base")) (@PySem.Value.str (Str.ofString "option_base") (425 : @Nat)) (@PySem.Value.ref (184 : @Nat))) :: ((@PySem.DictEntry.mk (@PySem.PyData.keyHash P (Str.ofString "place_of")) (@PySem.Value.str (Str.ofString "place_of") (436 : @Nat)) (@PySem.Value.ref (191 : @Nat))) :: ((@PySem.DictEntry.mk (@PySem.PyData.keyHash P (Str.ofString "subs_of")) (@PySem.Value.str (Str.ofString "subs_of") (446 : @Nat)) (@PySem.Value.ref (198 : @Nat))) :: ((@PySem.DictEntry.mk (@PySem.PyData.keyHash P (Str.ofString "get_item")) (@PySem.Value.str (Str.ofString "get_item") (456 : @Nat)) (@PySem.Value.ref (205 : @Nat))) :: ((@PySem.DictEntry.mk (@PySem.PyData.keyHash P (Str.ofString "set_item")) (@PySem.Value.str (Str.ofString "set_item") (468 : @Nat)) (@PySem.Value.ref (212 : @Nat))) :: ((@PySem.DictEntry.mk (@PySem.PyData.keyHash P (Str.ofString "redim")) (@PySem.Value.str (Str.ofString "redim") (477 : @Nat)) (@PySem.Value.ref (219 : @Nat))) :: ((@PySem.DictEntry.mk (@PySem.PyData.keyHash P (Str.ofString "rows_of")) (@PySem.Value.str (Str.ofString "rows_of") (483 : @Nat)) (@PySem.Value.ref (224 : @Nat))) :: ((@PySem.DictEntry.mk (@PySem.PyData.keyHash P (Str.ofString "put_rows")) (@PySem.Value.str (Str.ofString "put_rows") (497 : @Nat)) (@PySem.Value.ref (231 : @Nat))) :: ((@PySem.DictEntry.mk (@PySem.PyData.keyHash P (Str.ofString "World")) (@PySem.Value.str (Str.ofString "World") (564 : @Nat)) (@PySem.Value.ref (249 : @Nat))) :: ((@PySem.DictEntry.mk (@PySem.PyData.keyHash P (Str.ofString "_law_take")) (@PySem.Value.str (Str.ofString "_law_take") (576 : @Nat)) (@PySem.Value.ref (260 : @Nat))) :: ((@PySem.DictEntry.mk (@PySem.PyData.keyHash P (Str.ofString "_law_place")) (@PySem.Value.str (Str.ofString "_law_place") (585 : @Nat)) (@PySem.Value.ref (267 : @Nat))) :: ((@PySem.DictEntry.mk (@PySem.PyData.keyHash P (Str.ofString "_law_rows_of_places")) (@PySem.Value.str (Str.ofString "_law_rows_of_places") (591 : @Nat)) (@PySem.Value.ref (272 : @Nat))) :: ((@PySem.DictEntry.mk (@PySem.PyData.keyHash P (Str.ofString "_law_numbers_right")) (@PySem.Value.str (Str.ofString "_law_numbers_right") (597 : @Nat)) (@PySem.Value.ref (277 : @Nat))) :: ((@PySem.DictEntry.mk (@PySem.PyData.keyHash P (Str.ofString "_law_together_right")) (@PySem.Value.str (Str.ofString "_law_together_right") (617 : @Nat)) (@PySem.Value.ref (284 : @Nat))) :: ((@PySem.DictEntry.mk (@PySem.PyData.keyHash P (Str.ofString "_law_columns")) (@PySem.Value.str (Str.ofString "_law_columns") (623 : @Nat)) (@PySem.Value.ref (289 : @Nat))) :: ((@PySem.DictEntry.mk (@PySem.PyData.keyHash P (Str.ofString "_law_turned_right")) (@PySem.Value.str (Str.ofString "_law_turned_right") (629 : @Nat)) (@PySem.Value.ref (294 : @Nat))) :: ((@PySem.DictEntry.mk (@PySem.PyData.keyHash P (Str.ofString "law")) (@PySem.Value.str (Str.ofString "law") (635 : @Nat)) (@PySem.Value.ref (299 : @Nat))) :: []))))))))))))))))))))))))))))))))))))))))))))))))) (48 : @Nat)) (@List.toArray (@Option @PySem.Value) []))
noncomputable def o18 (P : Params) : Obj := (@PySem.Obj.mk (@PySem.Value.type "cell") none (@PySem.Data.cell (some (@PySem.Value.ref (34 : @Nat)))) (@List.toArray (@Option @PySem.Value) []))
noncomputable def o23 (P : Params) : Obj := (@PySem.Obj.mk (@PySem.Value.type "tuple") none (@PySem.Data.seq (@List.toArray @PySem.Value ((@PySem.Value.str (Str.ofString "") (205 : @Nat)) :: [])) (0 : @Nat)) (@List.toArray (@Option @PySem.Value) []))
noncomputable def o30 (P : Params) : Obj := (@PySem.Obj.mk (@PySem.Value.type "code") none (@PySem.Data.fields (@List.toArray @PySem.Value ((@PySem.Value.str (Str.ofString "__init__") (206 : @Nat)) :: ((@PySem.Value.str (Str.ofString "BasicError.__init__") (207 : @Nat)) :: ((@PySem.Value.str (Str.ofString "/claim/cut.py") (208 : @Nat)) :: ((@PySem.Value.int (6 : @Int) (0 : @Nat)) :: ((@PySem.Value.int (3 : @Int) (0 : @Nat)) :: ((@PySem.Value.int (0 : @Int) (0 : @Nat)) :: ((@PySem.Value.int (0 : @Int) (0 : @Nat)) :: ((@PySem.Value.int (3 : @Int) (0 : @Nat)) :: ((@PySem.Value.ref (25 : @Nat)) :: ((@PySem.Value.bool @Bool.true) :: ((@PySem.Value.int (181 : @Int) (0 : @Nat)) :: ((@PySem.Value.ref (26 : @Nat)) :: (@PySem.Value.none :: ((@PySem.Value.ref (27 : @Nat)) :: ((@PySem.Value.ref (28 : @Nat)) :: ((@PySem.Value.ref (29 : @Nat)) :: ((@PySem.Value.int (213 : @Int) (0 : @Nat)) :: ((@PySem.Value.int (6 : @Int) (0 : @Nat)) :: ((@PySem.Value.str (Str.ofString "/claim/cut.py") (214 : @Nat)) :: []))))))))))))))))))))) (@List.toArray (@Option @PySem.Value) []))
noncomputable def o31 (P : Params) : Obj := Obj.mk (@PySem.Value.type "function") none (Data.func (FuncData.mk (Str.ofString "__init__") (Str.ofString "BasicError.__init__") (stP (stAt 3 1)) (.stmts (stB (stAt 3 1))) (stS (stAt 3 1)) (3 : @Nat) ((@Prod.mk @PySem.Str @Nat (Str.ofString "__class__") (18 : @Nat)) :: []) (@PySem.Value.ref (23 : @Nat)) @PySem.Value.none @PySem.Value.none (@PySem.Value.str (Str.ofString "basicplus.values") (187 : @Nat)) none (@PySem.Value.ref (30 : @Nat)) (@PySem.Value.ref (24 : @Nat)) (0 : @Nat))) (@List.toArray (@Option @PySem.Value) [])
noncomputable def o33 (P : Params) : Obj := (@PySem.Obj.mk (@PySem.Value.type "dict") none (@PySem.Data.dict (@List.toArray @PySem.DictEntry ((@PySem.DictEntry.mk (@PySem.PyData.keyHash P (Str.ofString "__module__")) (@PySem.Value.str (Str.ofString "__module__") (200 : @Nat)) (@PySem.Value.str (Str.ofString "basicplus.values") (187 : @Nat))) :: ((@PySem.DictEntry.mk (@PySem.PyData.keyHash P (Str.ofString "__firstlineno__")) (@PySem.Value.str (Str.ofString "__firstlineno__") (204 : @Nat)) (@PySem.Value.int (4 : @Int) (203 : @Nat))) :: ((@PySem.DictEntry.mk (@PySem.PyData.keyHash P (Str.ofString "__init__")) (@PySem.Value.str (Str.ofString "__init__") (215 : @Nat)) (@PySem.Value.ref (31 : @Nat))) :: ((@PySem.DictEntry.mk (@PySem.PyData.keyHash P (Str.ofString "__static_attributes__")) (@PySem.Value.str (Str.ofString "__static_attributes__") (218 : @Nat)) (@PySem.Value.ref (32 : @Nat))) :: ((@PySem.DictEntry.mk (@PySem.PyData.keyHash P (Str.ofString "__weakref__")) (@PySem.Value.str (Str.ofString "__weakref__") (221 : @Nat)) (@PySem.Value.ref (35 : @Nat))) :: ((@PySem.DictEntry.mk (@PySem.PyData.keyHash P (Str.ofString "__doc__")) (@PySem.Value.str (Str.ofString "__doc__") (222 : @Nat)) @PySem.Value.none) :: []))))))) (4 : @Nat)) (@List.toArray (@Option @PySem.Value) []))
noncomputable def o34 (P : Params) : Obj := (@PySem.Obj.mk (@PySem.Value.type "type") none (@PySem.Data.cls (@PySem.ClassData.mk (Str.ofString "BasicError") ((@PySem.Value.type "Exception") :: []) ((@PySem.Value.ref (34 : @Nat)) :: ((@PySem.Value.type "Exception") :: ((@PySem.Value.type "BaseException") :: ((@PySem.Value.type "object") :: [])))) (33 : @Nat) (Str.ofString "BasicError") @Bool.true [] [] @Bool.false none @Bool.false)) (@List.toArray (@Option @PySem.Value) ((some (@PySem.Value.ref (15 : @Nat))) :: (none :: ((some (@PySem.Value.str (Str.ofString "BasicError") (193 : @Nat))) :: ((some (@PySem.Value.str (Str.ofString "BasicError") (201 : @Nat))) :: ((some (@PySem.Value.builtin "Exception.__new__")) :: ((some (@PySem.Value.bool @Bool.true)) :: []))))))))
noncomputable def o43 (P : Params) : Obj := (@PySem.Obj.mk (@PySem.Value.type "code") none (@PySem.Data.fields (@List.toArray @PySem.Value ((@PySem.Value.str (Str.ofString "kind_of_name") (227 : @Nat)) :: ((@PySem.Value.str (Str.ofString "kind_of_name") (228 : @Nat)) :: ((@PySem.Value.str (Str.ofString "/claim/cut.py") (229 : @Nat)) :: ((@PySem.Value.int (10 : @Int) (0 : @Nat)) :: ((@PySem.Value.int (2 : @Int) (0 : @Nat)) :: ((@PySem.Value.int (0 : @Int) (0 : @Nat)) :: ((@PySem.Value.int (0 : @Int) (0 : @Nat)) :: ((@PySem.Value.int (3 : @Int) (0 : @Nat)) :: ((@PySem.Value.ref (38 : @Nat)) :: ((@PySem.Value.bool @Bool.true) :: ((@PySem.Value.int (181 : @Int) (0 : @Nat)) :: ((@PySem.Value.ref (39 : @Nat)) :: (@PySem.Value.none :: ((@PySem.Value.ref (40 : @Nat)) :: ((@PySem.Value.ref (41 : @Nat)) :: ((@PySem.Value.ref (42 : @Nat)) :: ((@PySem.Value.int (233 : @Int) (0 : @Nat)) :: ((@PySem.Value.int (10 : @Int) (0 : @Nat)) :: ((@PySem.Value.str (Str.ofString "/claim/cut.py") (234 : @Nat)) :: []))))))))))))))))))))) (@List.toArray (@Option @PySem.Value) []))
noncomputable def o44 (P : Params) : Obj := Obj.mk (@PySem.Value.type "function") none (Data.func (FuncData.mk (Str.ofString "kind_of_name") (Str.ofString "kind_of_name") (stP (stAt 4 0)) (.stmts (stB (stAt 4 0))) (stS (stAt 4 0)) (3 : @Nat) [] @PySem.Value.none @PySem.Value.none @PySem.Value.none (@PySem.Value.str (Str.ofString "basicplus.values") (187 : @Nat)) none (@PySem.Value.ref (43 : @Nat)) @PySem.Value.none (0 : @Nat))) (@List.toArray (@Option @PySem.Value) [])
noncomputable def o50 (P : Params) : Obj := (@PySem.Obj.mk (@PySem.Value.type "code") none (@PySem.Data.fields (@List.toArray @PySem.Value ((@PySem.Value.str (Str.ofString "first_value") (236 : @Nat)) :: ((@PySem.Value.str (Str.ofString "first_value") (237 : @Nat)) :: ((@PySem.Value.str (Str.ofString "/claim/cut.py") (238 : @Nat)) :: ((@PySem.Value.int (17 : @Int) (0 : @Nat)) :: ((@PySem.Value.int (1 : @Int) (0 : @Nat)) :: ((@PySem.Value.int (0 : @Int) (0 : @Nat)) :: ((@PySem.Value.int (0 : @Int) (0 : @Nat)) :: ((@PySem.Value.int (3 : @Int) (0 : @Nat)) :: ((@PySem.Value.ref (45 : @Nat)) :: ((@PySem.Value.bool @Bool.true) :: ((@PySem.Value.int (181 : @Int) (0 : @Nat)) :: ((@PySem.Value.ref (46 : @Nat)) :: (@PySem.Value.none :: ((@PySem.Value.ref (47 : @Nat)) :: ((@PySem.Value.ref (48 : @Nat)) :: ((@PySem.Value.ref (49 : @Nat)) :: ((@PySem.Value.int (240 : @Int) (0 : @Nat)) :: ((@PySem.Value.int (17 : @Int) (0 : @Nat)) :: ((@PySem.Value.str (Str.ofString "/claim/cut.py") (241 : @Nat)) :: []))))))))))))))))))))) (@List.toArray (@Option @PySem.Value) []))
noncomputable def o51 (P : Params) : Obj := Obj.mk (@PySem.Value.type "function") none (Data.func (FuncData.mk (Str.ofString "first_value") (Str.ofString "first_value") (stP (stAt 5 0)) (.stmts (stB (stAt 5 0))) (stS (stAt 5 0)) (3 : @Nat) [] @PySem.Value.none @PySem.Value.none @PySem.Value.none (@PySem.Value.str (Str.ofString "basicplus.values") (187 : @Nat)) none (@PySem.Value.ref (50 : @Nat)) @PySem.Value.none (0 : @Nat))) (@List.toArray (@Option @PySem.Value) [])
noncomputable def o85 (P : Params) : Obj := (@PySem.Obj.mk (@PySem.Value.type "code") none (@PySem.Data.fields (@List.toArray @PySem.Value ((@PySem.Value.str (Str.ofString "fits") (285 : @Nat)) :: ((@PySem.Value.str (Str.ofString "fits") (286 : @Nat)) :: ((@PySem.Value.str (Str.ofString "/claim/cut.py") (287 : @Nat)) :: ((@PySem.Value.int (58 : @Int) (0 : @Nat)) :: ((@PySem.Value.int (2 : @Int) (0 : @Nat)) :: ((@PySem.Value.int (0 : @Int) (0 : @Nat)) :: ((@PySem.Value.int (0 : @Int) (0 : @Nat)) :: ((@PySem.Value.int (3 : @Int) (0 : @Nat)) :: ((@PySem.Value.ref (80 : @Nat)) :: ((@PySem.Value.bool @Bool.true) :: ((@PySem.Value.int (181 : @Int) (0 : @Nat)) :: ((@PySem.Value.ref (81 : @Nat)) :: (@PySem.Value.none :: ((@PySem.Value.ref (82 : @Nat)) :: ((@PySem.Value.ref (83 : @Nat)) :: ((@PySem.Value.ref (84 : @Nat)) :: ((@PySem.Value.int (290 : @Int) (0 : @Nat)) :: ((@PySem.Value.int (58 : @Int) (0 : @Nat)) :: ((@PySem.Value.str (Str.ofString "/claim/cut.py") (291 : @Nat)) :: []))))))))))))))))))))) (@List.toArray (@Option @PySem.Value) []))
noncomputable def o86 (P : Params) : Obj := Obj.mk (@PySem.Value.type "function") none (Data.func (FuncData.mk (Str.ofString "fits") (Str.ofString "fits") (stP (stAt 10 0)) (.stmts (stB (stAt 10 0))) (stS (stAt 10 0)) (3 : @Nat) [] @PySem.Value.none @PySem.Value.none @PySem.Value.none (@PySem.Value.str (Str.ofString "basicplus.values") (187 : @Nat)) none (@PySem.Value.ref (85 : @Nat)) @PySem.Value.none (0 : @Nat))) (@List.toArray (@Option @PySem.Value) [])
noncomputable def o92 (P : Params) : Obj := (@PySem.Obj.mk (@PySem.Value.type "code") none (@PySem.Data.fields (@List.toArray @PySem.Value ((@PySem.Value.str (Str.ofString "whole_of") (293 : @Nat)) :: ((@PySem.Value.str (Str.ofString "whole_of") (294 : @Nat)) :: ((@PySem.Value.str (Str.ofString "/claim/cut.py") (295 : @Nat)) :: ((@PySem.Value.int (60 : @Int) (0 : @Nat)) :: ((@PySem.Value.int (2 : @Int) (0 : @Nat)) :: ((@PySem.Value.int (0 : @Int) (0 : @Nat)) :: ((@PySem.Value.int (0 : @Int) (0 : @Nat)) :: ((@PySem.Value.int (3 : @Int) (0 : @Nat)) :: ((@PySem.Value.ref (87 : @Nat)) :: ((@PySem.Value.bool @Bool.true) :: ((@PySem.Value.int (181 : @Int) (0 : @Nat)) :: ((@PySem.Value.ref (88 : @Nat)) :: (@PySem.Value.none :: ((@PySem.Value.ref (89 : @Nat)) :: ((@PySem.Value.ref (90 : @Nat)) :: ((@PySem.Value.ref (91 : @Nat)) :: ((@PySem.Value.int (299 : @Int) (0 : @Nat)) :: ((@PySem.Value.int (60 : @Int) (0 : @Nat)) :: ((@PySem.Value.str (Str.ofString "/claim/cut.py") (300 : @Nat)) :: []))))))))))))))))))))) (@List.toArray (@Option @PySem.Value) []))
noncomputable def o93 (P : Params) : Obj := Obj.mk (@PySem.Value.type "function") none (Data.func (FuncData.mk (Str.ofString "whole_of") (Str.ofString "whole_of") (stP (stAt 11 0)) (.stmts (stB (stAt 11 0))) (stS (stAt 11 0)) (3 : @Nat) [] @PySem.Value.none @PySem.Value.none @PySem.Value.none (@PySem.Value.str (Str.ofString "basicplus.values") (187 : @Nat)) none (@PySem.Value.ref (92 : @Nat)) @PySem.Value.none (0 : @Nat))) (@List.toArray (@Option @PySem.Value) [])
noncomputable def o120 (P : Params) : Obj := (@PySem.Obj.mk (@PySem.Value.type "code") none (@PySem.Data.fields (@List.toArray @PySem.Value ((@PySem.Value.str (Str.ofString "suited") (324 : @Nat)) :: ((@PySem.Value.str (Str.ofString "suited") (325 : @Nat)) :: ((@PySem.Value.str (Str.ofString "/claim/cut.py") (326 : @Nat)) :: ((@PySem.Value.int (79 : @Int) (0 : @Nat)) :: ((@PySem.Value.int (4 : @Int) (0 : @Nat)) :: ((@PySem.Value.int (0 : @Int) (0 : @Nat)) :: ((@PySem.Value.int (0 : @Int) (0 : @Nat)) :: ((@PySem.Value.int (3 : @Int) (0 : @Nat)) :: ((@PySem.Value.ref (115 : @Nat)) :: ((@PySem.Value.bool @Bool.true) :: ((@PySem.Value.int (181 : @Int) (0 : @Nat)) :: ((@PySem.Value.ref (116 : @Nat)) :: (@PySem.Value.none :: ((@PySem.Value.ref (117 : @Nat)) :: ((@PySem.Value.ref (118 : @Nat)) :: ((@PySem.Value.ref (119 : @Nat)) :: ((@PySem.Value.int (331 : @Int) (0 : @Nat)) :: ((@PySem.Value.int (79 : @Int) (0 : @Nat)) :: ((@PySem.Value.str (Str.ofString "/claim/cut.py") (332 : @Nat)) :: []))))))))))))))))))))) (@List.toArray (@Option @PySem.Value) []))
noncomputable def o121 (P : Params) : Obj := Obj.mk (@PySem.Value.type "function") none (Data.func (FuncData.mk (Str.ofString "suited") (Str.ofString "suited") (stP (stAt 15 0)) (.stmts (stB (stAt 15 0))) (stS (stAt 15 0)) (3 : @Nat) [] @PySem.Value.none @PySem.Value.none @PySem.Value.none (@PySem.Value.str (Str.ofString "basicplus.values") (187 : @Nat)) none (@PySem.Value.ref (120 : @Nat)) @PySem.Value.none (0 : @Nat))) (@List.toArray (@Option @PySem.Value) [])
noncomputable def o134 (P : Params) : Obj := (@PySem.Obj.mk (@PySem.Value.type "code") none (@PySem.Data.fields (@List.toArray @PySem.Value ((@PySem.Value.str (Str.ofString "__init__") (350 : @Nat)) :: ((@PySem.Value.str (Str.ofString "Grid.__init__") (351 : @Nat)) :: ((@PySem.Value.str (Str.ofString "/claim/cut.py") (352 : @Nat)) :: ((@PySem.Value.int (87 : @Int) (0 : @Nat)) :: ((@PySem.Value.int (4 : @Int) (0 : @Nat)) :: ((@PySem.Value.int (0 : @Int) (0 : @Nat)) :: ((@PySem.Value.int (0 : @Int) (0 : @Nat)) :: ((@PySem.Value.int (3 : @Int) (0 : @Nat)) :: ((@PySem.Value.ref (129 : @Nat)) :: ((@PySem.Value.bool @Bool.true) :: ((@PySem.Value.int (181 : @Int) (0 : @Nat)) :: ((@PySem.Value.ref (130 : @Nat)) :: (@PySem.Value.none :: ((@PySem.Value.ref (131 : @Nat)) :: ((@PySem.Value.ref (132 : @Nat)) :: ((@PySem.Value.ref (133 : @Nat)) :: ((@PySem.Value.int (357 : @Int) (0 : @Nat)) :: ((@PySem.Value.int (87 : @Int) (0 : @Nat)) :: ((@PySem.Value.str (Str.ofString "/claim/cut.py") (358 : @Nat)) :: []))))))))))))))))))))) (@List.toArray (@Option @PySem.Value) []))
noncomputable def o135 (P : Params) : Obj := Obj.mk (@PySem.Value.type "function") none (Data.func (FuncData.mk (Str.ofString "__init__") (Str.ofString "Grid.__init__") (stP (stAt 18 1)) (.stmts (stB (stAt 18 1))) (stS (stAt 18 1)) (3 : @Nat) [] @PySem.Value.none @PySem.Value.none @PySem.Value.none (@PySem.Value.str (Str.ofString "basicplus.arrays") (334 : @Nat)) none (@PySem.Value.ref (134 : @Nat)) @PySem.Value.none (0 : @Nat))) (@List.toArray (@Option @PySem.Value) [])
noncomputable def o137 (P : Params) : Obj := (@PySem.Obj.mk (@PySem.Value.type "dict") none (@PySem.Data.dict (@List.toArray @PySem.DictEntry ((@PySem.DictEntry.mk (@PySem.PyData.keyHash P (Str.ofString "__module__")) (@PySem.Value.str (Str.ofString "__module__") (345 : @Nat)) (@PySem.Value.str (Str.ofString "basicplus.arrays") (334 : @Nat))) :: ((@PySem.DictEntry.mk (@PySem.PyData.keyHash P (Str.ofString "__firstlineno__")) (@PySem.Value.str (Str.ofString "__firstlineno__") (349 : @Nat)) (@PySem.Value.int (85 : @Int) (348 : @Nat))) :: ((@PySem.DictEntry.mk (@PySem.PyData.keyHash P (Str.ofString "__init__")) (@PySem.Value.str (Str.ofString "__init__") (359 : @Nat)) (@PySem.Value.ref (135 : @Nat))) :: ((@PySem.DictEntry.mk (@PySem.PyData.keyHash P (Str.ofString "__static_attributes__")) (@PySem.Value.str (Str.ofString "__static_attributes__") (365 : @Nat)) (@PySem.Value.ref (136 : @Nat))) :: ((@PySem.DictEntry.mk (@PySem.PyData.keyHash P (Str.ofString "__dict__")) (@PySem.Value.str (Str.ofString "__dict__") (367 : @Nat)) (@PySem.Value.ref (139 : @Nat))) :: ((@PySem.DictEntry.mk (@PySem.PyData.keyHash P (Str.ofString "__weakref__")) (@PySem.Value.str (Str.ofString "__weakref__") (369 : @Nat)) (@PySem.Value.ref (140 : @Nat))) :: ((@PySem.DictEntry.mk (@PySem.PyData.keyHash P (Str.ofString "__doc__")) (@PySem.Value.str (Str.ofString "__doc__") (370 : @Nat)) @PySem.Value.none) :: [])))))))) (4 : @Nat)) (@List.toArray (@Option @PySem.Value) []))
noncomputable def o138 (P : Params) : Obj := (@PySem.Obj.mk (@PySem.Value.type "type") none (@PySem.Data.cls (@PySem.ClassData.mk (Str.ofString "Grid") ((@PySem.Value.type "object") :: []) ((@PySem.Value.ref (138 : @Nat)) :: ((@PySem.Value.type "object") :: [])) (137 : @Nat) (Str.ofString "Grid") @Bool.true [] [] @Bool.false none @Bool.false)) (@List.toArray (@Option @PySem.Value) (none :: (none :: ((some (@PySem.Value.str (Str.ofString "Grid") (338 : @Nat))) :: ((some (@PySem.Value.str (Str.ofString "Grid") (346 : @Nat))) :: ((some (@PySem.Value.builtin "object.__new__")) :: ((some (@PySem.Value.bool @Bool.true)) :: []))))))))
noncomputable def o148 (P : Params) : Obj := (@PySem.Obj.mk (@PySem.Value.type "code") none (@PySem.Data.fields (@List.toArray @PySem.Value ((@PySem.Value.str (Str.ofString "count_of") (373 : @Nat)) :: ((@PySem.Value.str (Str.ofString "count_of") (374 : @Nat)) :: ((@PySem.Value.str (Str.ofString "/claim/cut.py") (375 : @Nat)) :: ((@PySem.Value.int (93 : @Int) (0 : @Nat)) :: ((@PySem.Value.int (2 : @Int) (0 : @Nat)) :: ((@PySem.Value.int (0 : @Int) (0 : @Nat)) :: ((@PySem.Value.int (0 : @Int) (0 : @Nat)) :: ((@PySem.Value.int (3 : @Int) (0 : @Nat)) :: ((@PySem.Value.ref (143 : @Nat)) :: ((@PySem.Value.bool @Bool.true) :: ((@PySem.Value.int (181 : @Int) (0 : @Nat)) :: ((@PySem.Value.ref (144 : @Nat)) :: (@PySem.Value.none :: ((@PySem.Value.ref (145 : @Nat)) :: ((@PySem.Value.ref (146 : @Nat)) :: ((@PySem.Value.ref (147 : @Nat)) :: ((@PySem.Value.int (380 : @Int) (0 : @Nat)) :: ((@PySem.Value.int (93 : @Int) (0 : @Nat)) :: ((@PySem.Value.str (Str.ofString "/claim/cut.py") (381 : @Nat)) :: []))))))))))))))))))))) (@List.toArray (@Option @PySem.Value) []))
noncomputable def o149 (P : Params) : Obj := Obj.mk (@PySem.Value.type "function") none (Data.func (FuncData.mk (Str.ofString "count_of") (Str.ofString "count_of") (stP (stAt 19 0)) (.stmts (stB (stAt 19 0))) (stS (stAt 19 0)) (3 : @Nat) [] @PySem.Value.none @PySem.Value.none @PySem.Value.none (@PySem.Value.str (Str.ofString "basicplus.arrays") (334 : @Nat)) none (@PySem.Value.ref (148 : @Nat)) @PySem.Value.none (0 : @Nat))) (@List.toArray (@Option @PySem.Value) [])
noncomputable def o155 (P : Params) : Obj := (@PySem.Obj.mk (@PySem.Value.type "code") none (@PySem.Data.fields (@List.toArray @PySem.Value ((@PySem.Value.str (Str.ofString "kind_in") (383 : @Nat)) :: ((@PySem.Value.str (Str.ofString "kind_in") (384 : @Nat)) :: ((@PySem.Value.str (Str.ofString "/claim/cut.py") (385 : @Nat)) :: ((@PySem.Value.int (98 : @Int) (0 : @Nat)) :: ((@PySem.Value.int (2 : @Int) (0 : @Nat)) :: ((@PySem.Value.int (0 : @Int) (0 : @Nat)) :: ((@PySem.Value.int (0 : @Int) (0 : @Nat)) :: ((@PySem.Value.int (3 : @Int) (0 : @Nat)) :: ((@PySem.Value.ref (150 : @Nat)) :: ((@PySem.Value.bool @Bool.true) :: ((@PySem.Value.int (181 : @Int) (0 : @Nat)) :: ((@PySem.Value.ref (151 : @Nat)) :: (@PySem.Value.none :: ((@PySem.Value.ref (152 : @Nat)) :: ((@PySem.Value.ref (153 : @Nat)) :: ((@PySem.Value.ref (154 : @Nat)) :: ((@PySem.Value.int (388 : @Int) (0 : @Nat)) :: ((@PySem.Value.int (98 : @Int) (0 : @Nat)) :: ((@PySem.Value.str (Str.ofString "/claim/cut.py") (389 : @Nat)) :: []))))))))))))))))))))) (@List.toArray (@Option @PySem.Value) []))
noncomputable def o156 (P : Params) : Obj := Obj.mk (@PySem.Value.type "function") none (Data.func (FuncData.mk (Str.ofString "kind_in") (Str.ofString "kind_in") (stP (stAt 20 0)) (.stmts (stB (stAt 20 0))) (stS (stAt 20 0)) (3 : @Nat) [] @PySem.Value.none @PySem.Value.none @PySem.Value.none (@PySem.Value.str (Str.ofString "basicplus.arrays") (334 : @Nat)) none (@PySem.Value.ref (155 : @Nat)) @PySem.Value.none (0 : @Nat))) (@List.toArray (@Option @PySem.Value) [])
noncomputable def o162 (P : Params) : Obj := (@PySem.Obj.mk (@PySem.Value.type "code") none (@PySem.Data.fields (@List.toArray @PySem.Value ((@PySem.Value.str (Str.ofString "check_highs") (391 : @Nat)) :: ((@PySem.Value.str (Str.ofString "check_highs") (392 : @Nat)) :: ((@PySem.Value.str (Str.ofString "/claim/cut.py") (393 : @Nat)) :: ((@PySem.Value.int (100 : @Int) (0 : @Nat)) :: ((@PySem.Value.int (2 : @Int) (0 : @Nat)) :: ((@PySem.Value.int (0 : @Int) (0 : @Nat)) :: ((@PySem.Value.int (0 : @Int) (0 : @Nat)) :: ((@PySem.Value.int (3 : @Int) (0 : @Nat)) :: ((@PySem.Value.ref (157 : @Nat)) :: ((@PySem.Value.bool @Bool.true) :: ((@PySem.Value.int (181 : @Int) (0 : @Nat)) :: ((@PySem.Value.ref (158 : @Nat)) :: (@PySem.Value.none :: ((@PySem.Value.ref (159 : @Nat)) :: ((@PySem.Value.ref (160 : @Nat)) :: ((@PySem.Value.ref (161 : @Nat)) :: ((@PySem.Value.int (397 : @Int) (0 : @Nat)) :: ((@PySem.Value.int (100 : @Int) (0 : @Nat)) :: ((@PySem.Value.str (Str.ofString "/claim/cut.py") (398 : @Nat)) :: []))))))))))))))))))))) (@List.toArray (@Option @PySem.Value) []))
noncomputable def o163 (P : Params) : Obj := Obj.mk (@PySem.Value.type "function") none (Data.func (FuncData.mk (Str.ofString "check_highs") (Str.ofString "check_highs") (stP (stAt 21 0)) (.stmts (stB (stAt 21 0))) (stS (stAt 21 0)) (3 : @Nat) [] @PySem.Value.none @PySem.Value.none @PySem.Value.none (@PySem.Value.str (Str.ofString "basicplus.arrays") (334 : @Nat)) none (@PySem.Value.ref (162 : @Nat)) @PySem.Value.none (0 : @Nat))) (@List.toArray (@Option @PySem.Value) [])
noncomputable def o169 (P : Params) : Obj := (@PySem.Obj.mk (@PySem.Value.type "code") none (@PySem.Data.fields (@List.toArray @PySem.Value ((@PySem.Value.str (Str.ofString "dim") (400 : @Nat)) :: ((@PySem.Value.str (Str.ofString "dim") (401 : @Nat)) :: ((@PySem.Value.str (Str.ofString "/claim/cut.py") (402 : @Nat)) :: ((@PySem.Value.int (108 : @Int) (0 : @Nat)) :: ((@PySem.Value.int (3 : @Int) (0 : @Nat)) :: ((@PySem.Value.int (0 : @Int) (0 : @Nat)) :: ((@PySem.Value.int (0 : @Int) (0 : @Nat)) :: ((@PySem.Value.int (3 : @Int) (0 : @Nat)) :: ((@PySem.Value.ref (164 : @Nat)) :: ((@PySem.Value.bool @Bool.true) :: ((@PySem.Value.int (181 : @Int) (0 : @Nat)) :: ((@PySem.Value.ref (165 : @Nat)) :: (@PySem.Value.none :: ((@PySem.Value.ref (166 : @Nat)) :: ((@PySem.Value.ref (167 : @Nat)) :: ((@PySem.Value.ref (168 : @Nat)) :: ((@PySem.Value.int (406 : @Int) (0 : @Nat)) :: ((@PySem.Value.int (108 : @Int) (0 : @Nat)) :: ((@PySem.Value.str (Str.ofString "/claim/cut.py") (407 : @Nat)) :: []))))))))))))))))))))) (@List.toArray (@Option @PySem.Value) []))
noncomputable def o170 (P : Params) : Obj := Obj.mk (@PySem.Value.type "function") none (Data.func (FuncData.mk (Str.ofString "dim") (Str.ofString "dim") (stP (stAt 22 0)) (.stmts (stB (stAt 22 0))) (stS (stAt 22 0)) (3 : @Nat) [] @PySem.Value.none @PySem.Value.none @PySem.Value.none (@PySem.Value.str (Str.ofString "basicplus.arrays") (334 : @Nat)) none (@PySem.Value.ref (169 : @Nat)) @PySem.Value.none (0 : @Nat))) (@List.toArray (@Option @PySem.Value) [])
noncomputable def o176 (P : Params) : Obj := (@PySem.Obj.mk (@PySem.Value.type "code") none (@PySem.Data.fields (@List.toArray @PySem.Value ((@PySem.Value.str (Str.ofString "grid_of") (409 : @Nat)) :: ((@PySem.Value.str (Str.ofString "grid_of") (410 : @Nat)) :: ((@PySem.Value.str (Str.ofString "/claim/cut.py") (411 : @Nat)) :: ((@PySem.Value.int (113 : @Int) (0 : @Nat)) :: ((@PySem.Value.int (3 : @Int) (0 : @Nat)) :: ((@PySem.Value.int (0 : @Int) (0 : @Nat)) :: ((@PySem.Value.int (0 : @Int) (0 : @Nat)) :: ((@PySem.Value.int (3 : @Int) (0 : @Nat)) :: ((@PySem.Value.ref (171 : @Nat)) :: ((@PySem.Value.bool @Bool.true) :: ((@PySem.Value.int (181 : @Int) (0 : @Nat)) :: ((@PySem.Value.ref (172 : @Nat)) :: (@PySem.Value.none :: ((@PySem.Value.ref (173 : @Nat)) :: ((@PySem.Value.ref (174 : @Nat)) :: ((@PySem.Value.ref (175 : @Nat)) :: ((@PySem.Value.int (415 : @Int) (0 : @Nat)) :: ((@PySem.Value.int (113 : @Int) (0 : @Nat)) :: ((@PySem.Value.str (Str.ofString "/claim/cut.py") (416 : @Nat)) :: []))))))))))))))))))))) (@List.toArray (@Option @PySem.Value) []))
noncomputable def o177 (P : Params) : Obj := Obj.mk (@PySem.Value.type "function") none (Data.func (FuncData.mk (Str.ofString "grid_of") (Str.ofString "grid_of") (stP (stAt 23 0)) (.stmts (stB (stAt 23 0))) (stS (stAt 23 0)) (3 : @Nat) [] @PySem.Value.none @PySem.Value.none @PySem.Value.none (@PySem.Value.str (Str.ofString "basicplus.arrays") (334 : @Nat)) none (@PySem.Value.ref (176 : @Nat)) @PySem.Value.none (0 : @Nat))) (@List.toArray (@Option @PySem.Value) [])
noncomputable def o183 (P : Params) : Obj := (@PySem.Obj.mk (@PySem.Value.type "code") none (@PySem.Data.fields (@List.toArray @PySem.Value ((@PySem.Value.str (Str.ofString "option_base") (418 : @Nat)) :: ((@PySem.Value.str (Str.ofString "option_base") (419 : @Nat)) :: ((@PySem.Value.str (Str.ofString "/claim/cut.py") (420 : @Nat)) :: ((@PySem.Value.int (117 : @Int) (0 : @Nat)) :: ((@PySem.Value.int (2 : @Int) (0 : @Nat)) :: ((@PySem.Value.int (0 : @Int) (0 : @Nat)) :: ((@PySem.Value.int (0 : @Int) (0 : @Nat)) :: ((@PySem.Value.int (3 : @Int) (0 : @Nat)) :: ((@PySem.Value.ref (178 : @Nat)) :: ((@PySem.Value.bool @Bool.true) :: ((@PySem.Value.int (181 : @Int) (0 : @Nat)) :: ((@PySem.Value.ref (179 : @Nat)) :: (@PySem.Value.none :: ((@PySem.Value.ref (180 : @Nat)) :: ((@PySem.Value.ref (181 : @Nat)) :: ((@PySem.Value.ref (182 : @Nat)) :: ((@PySem.Value.int (423 : @Int) (0 : @Nat)) :: ((@PySem.Value.int (117 : @Int) (0 : @Nat)) :: ((@PySem.Value.str (Str.ofString "/claim/cut.py") (424 : @Nat)) :: []))))))))))))))))))))) (@List.toArray (@Option @PySem.Value) []))
noncomputable def o184 (P : Params) : Obj := Obj.mk (@PySem.Value.type "function") none (Data.func (FuncData.mk (Str.ofString "option_base") (Str.ofString "option_base") (stP (stAt 24 0)) (.stmts (stB (stAt 24 0))) (stS (stAt 24 0)) (3 : @Nat) [] @PySem.Value.none @PySem.Value.none @PySem.Value.none (@PySem.Value.str (Str.ofString "basicplus.arrays") (334 : @Nat)) none (@PySem.Value.ref (183 : @Nat)) @PySem.Value.none (0 : @Nat))) (@List.toArray (@Option @PySem.Value) [])
noncomputable def o190 (P : Params) : Obj := (@PySem.Obj.mk (@PySem.Value.type "code") none (@PySem.Data.fields (@List.toArray @PySem.Value ((@PySem.Value.str (Str.ofString "place_of") (426 : @Nat)) :: ((@PySem.Value.str (Str.ofString "place_of") (427 : @Nat)) :: ((@PySem.Value.str (Str.ofString "/claim/cut.py") (428 : @Nat)) :: ((@PySem.Value.int (123 : @Int) (0 : @Nat)) :: ((@PySem.Value.int (2 : @Int) (0 : @Nat)) :: ((@PySem.Value.int (0 : @Int) (0 : @Nat)) :: ((@PySem.Value.int (0 : @Int) (0 : @Nat)) :: ((@PySem.Value.int (3 : @Int) (0 : @Nat)) :: ((@PySem.Value.ref (185 : @Nat)) :: ((@PySem.Value.bool @Bool.true) :: ((@PySem.Value.int (181 : @Int) (0 : @Nat)) :: ((@PySem.Value.ref (186 : @Nat)) :: (@PySem.Value.none :: ((@PySem.Value.ref (187 : @Nat)) :: ((@PySem.Value.ref (188 : @Nat)) :: ((@PySem.Value.ref (189 : @Nat)) :: ((@PySem.Value.int (434 : @Int) (0 : @Nat)) :: ((@PySem.Value.int (123 : @Int) (0 : @Nat)) :: ((@PySem.Value.str (Str.ofString "/claim/cut.py") (435 : @Nat)) :: []))))))))))))))))))))) (@List.toArray (@Option @PySem.Value) []))
noncomputable def o191 (P : Params) : Obj := Obj.mk (@PySem.Value.type "function") none (Data.func (FuncData.mk (Str.ofString "place_of") (Str.ofString "place_of") (stP (stAt 25 0)) (.stmts (stB (stAt 25 0))) (stS (stAt 25 0)) (3 : @Nat) [] @PySem.Value.none @PySem.Value.none @PySem.Value.none (@PySem.Value.str (Str.ofString "basicplus.arrays") (334 : @Nat)) none (@PySem.Value.ref (190 : @Nat)) @PySem.Value.none (0 : @Nat))) (@List.toArray (@Option @PySem.Value) [])
noncomputable def o197 (P : Params) : Obj := (@PySem.Obj.mk (@PySem.Value.type "code") none (@PySem.Data.fields (@List.toArray @PySem.Value ((@PySem.Value.str (Str.ofString "subs_of") (437 : @Nat)) :: ((@PySem.Value.str (Str.ofString "subs_of") (438 : @Nat)) :: ((@PySem.Value.str (Str.ofString "/claim/cut.py") (439 : @Nat)) :: ((@PySem.Value.int (132 : @Int) (0 : @Nat)) :: ((@PySem.Value.int (2 : @Int) (0 : @Nat)) :: ((@PySem.Value.int (0 : @Int) (0 : @Nat)) :: ((@PySem.Value.int (0 : @Int) (0 : @Nat)) :: ((@PySem.Value.int (3 : @Int) (0 : @Nat)) :: ((@PySem.Value.ref (192 : @Nat)) :: ((@PySem.Value.bool @Bool.true) :: ((@PySem.Value.int (181 : @Int) (0 : @Nat)) :: ((@PySem.Value.ref (193 : @Nat)) :: (@PySem.Value.none :: ((@PySem.Value.ref (194 : @Nat)) :: ((@PySem.Value.ref (195 : @Nat)) :: ((@PySem.Value.ref (196 : @Nat)) :: ((@PySem.Value.int (444 : @Int) (0 : @Nat)) :: ((@PySem.Value.int (132 : @Int) (0 : @Nat)) :: ((@PySem.Value.str (Str.ofString "/claim/cut.py") (445 : @Nat)) :: []))))))))))))))))))))) (@List.toArray (@Option @PySem.Value) []))
noncomputable def o198 (P : Params) : Obj := Obj.mk (@PySem.Value.type "function") none (Data.func (FuncData.mk (Str.ofString "subs_of") (Str.ofString "subs_of") (stP (stAt 26 0)) (.stmts (stB (stAt 26 0))) (stS (stAt 26 0)) (3 : @Nat) [] @PySem.Value.none @PySem.Value.none @PySem.Value.none (@PySem.Value.str (Str.ofString "basicplus.arrays") (334 : @Nat)) none (@PySem.Value.ref (197 : @Nat)) @PySem.Value.none (0 : @Nat))) (@List.toArray (@Option @PySem.Value) [])
noncomputable def o204 (P : Params) : Obj := (@PySem.Obj.mk (@PySem.Value.type "code") none (@PySem.Data.fields (@List.toArray @PySem.Value ((@PySem.Value.str (Str.ofString "get_item") (447 : @Nat)) :: ((@PySem.Value.str (Str.ofString "get_item") (448 : @Nat)) :: ((@PySem.Value.str (Str.ofString "/claim/cut.py") (449 : @Nat)) :: ((@PySem.Value.int (138 : @Int) (0 : @Nat)) :: ((@PySem.Value.int (3 : @Int) (0 : @Nat)) :: ((@PySem.Value.int (0 : @Int) (0 : @Nat)) :: ((@PySem.Value.int (0 : @Int) (0 : @Nat)) :: ((@PySem.Value.int (3 : @Int) (0 : @Nat)) :: ((@PySem.Value.ref (199 : @Nat)) :: ((@PySem.Value.bool @Bool.true) :: ((@PySem.Value.int (181 : @Int) (0 : @Nat)) :: ((@PySem.Value.ref (200 : @Nat)) :: (@PySem.Value.none :: ((@PySem.Value.ref (201 : @Nat)) :: ((@PySem.Value.ref (202 : @Nat)) :: ((@PySem.Value.ref (203 : @Nat)) :: ((@PySem.Value.int (454 : @Int) (0 : @Nat)) :: ((@PySem.Value.int (138 : @Int) (0 : @Nat)) :: ((@PySem.Value.str (Str.ofString "/claim/cut.py") (455 : @Nat)) :: []))))))))))))))))))))) (@List.toArray (@Option @PySem.Value) []))
noncomputable def o205 (P : Params) : Obj := Obj.mk (@PySem.Value.type "function") none (Data.func (FuncData.mk (Str.ofString "get_item") (Str.ofString "get_item") (stP (stAt 27 0)) (.stmts (stB (stAt 27 0))) (stS (stAt 27 0)) (3 : @Nat) [] @PySem.Value.none @PySem.Value.none @PySem.Value.none (@PySem.Value.str (Str.ofString "basicplus.arrays") (334 : @Nat)) none (@PySem.Value.ref (204 : @Nat)) @PySem.Value.none (0 : @Nat))) (@List.toArray (@Option @PySem.Value) [])
noncomputable def o211 (P : Params) : Obj := (@PySem.Obj.mk (@PySem.Value.type "code") none (@PySem.Data.fields (@List.toArray @PySem.Value ((@PySem.Value.str (Str.ofString "set_item") (457 : @Nat)) :: ((@PySem.Value.str (Str.ofString "set_item") (458 : @Nat)) :: ((@PySem.Value.str (Str.ofString "/claim/cut.py") (459 : @Nat)) :: ((@PySem.Value.int (141 : @Int) (0 : @Nat)) :: ((@PySem.Value.int (4 : @Int) (0 : @Nat)) :: ((@PySem.Value.int (0 : @Int) (0 : @Nat)) :: ((@PySem.Value.int (0 : @Int) (0 : @Nat)) :: ((@PySem.Value.int (3 : @Int) (0 : @Nat)) :: ((@PySem.Value.ref (206 : @Nat)) :: ((@PySem.Value.bool @Bool.true) :: ((@PySem.Value.int (181 : @Int) (0 : @Nat)) :: ((@PySem.Value.ref (207 : @Nat)) :: (@PySem.Value.none :: ((@PySem.Value.ref (208 : @Nat)) :: ((@PySem.Value.ref (209 : @Nat)) :: ((@PySem.Value.ref (210 : @Nat)) :: ((@PySem.Value.int (466 : @Int) (0 : @Nat)) :: ((@PySem.Value.int (141 : @Int) (0 : @Nat)) :: ((@PySem.Value.str (Str.ofString "/claim/cut.py") (467 : @Nat)) :: []))))))))))))))))))))) (@List.toArray (@Option @PySem.Value) []))
noncomputable def o212 (P : Params) : Obj := Obj.mk (@PySem.Value.type "function") none (Data.func (FuncData.mk (Str.ofString "set_item") (Str.ofString "set_item") (stP (stAt 28 0)) (.stmts (stB (stAt 28 0))) (stS (stAt 28 0)) (3 : @Nat) [] @PySem.Value.none @PySem.Value.none @PySem.Value.none (@PySem.Value.str (Str.ofString "basicplus.arrays") (334 : @Nat)) none (@PySem.Value.ref (211 : @Nat)) @PySem.Value.none (0 : @Nat))) (@List.toArray (@Option @PySem.Value) [])
noncomputable def o218 (P : Params) : Obj := (@PySem.Obj.mk (@PySem.Value.type "code") none (@PySem.Data.fields (@List.toArray @PySem.Value ((@PySem.Value.str (Str.ofString "redim") (469 : @Nat)) :: ((@PySem.Value.str (Str.ofString "redim") (470 : @Nat)) :: ((@PySem.Value.str (Str.ofString "/claim/cut.py") (471 : @Nat)) :: ((@PySem.Value.int (145 : @Int) (0 : @Nat)) :: ((@PySem.Value.int (3 : @Int) (0 : @Nat)) :: ((@PySem.Value.int (0 : @Int) (0 : @Nat)) :: ((@PySem.Value.int (0 : @Int) (0 : @Nat)) :: ((@PySem.Value.int (3 : @Int) (0 : @Nat)) :: ((@PySem.Value.ref (213 : @Nat)) :: ((@PySem.Value.bool @Bool.true) :: ((@PySem.Value.int (181 : @Int) (0 : @Nat)) :: ((@PySem.Value.ref (214 : @Nat)) :: (@PySem.Value.none :: ((@PySem.Value.ref (215 : @Nat)) :: ((@PySem.Value.ref (216 : @Nat)) :: ((@PySem.Value.ref (217 : @Nat)) :: ((@PySem.Value.int (475 : @Int) (0 : @Nat)) :: ((@PySem.Value.int (145 : @Int) (0 : @Nat)) :: ((@PySem.Value.str (Str.ofString "/claim/cut.py") (476 : @Nat)) :: []))))))))))))))))))))) (@List.toArray (@Option @PySem.Value) []))
noncomputable def o219 (P : Params) : Obj := Obj.mk (@PySem.Value.type "function") none (Data.func (FuncData.mk (Str.ofString "redim") (Str.ofString "redim") (stP (stAt 29 0)) (.stmts (stB (stAt 29 0))) (stS (stAt 29 0)) (3 : @Nat) [] @PySem.Value.none @PySem.Value.none @PySem.Value.none (@PySem.Value.str (Str.ofString "basicplus.arrays") (334 : @Nat)) none (@PySem.Value.ref (218 : @Nat)) @PySem.Value.none (0 : @Nat))) (@List.toArray (@Option @PySem.Value) [])
noncomputable def o223 (P : Params) : Obj := (@PySem.Obj.mk (@PySem.Value.type "code") none (@PySem.Data.fields (@List.toArray @PySem.Value ((@PySem.Value.str (Str.ofString "rows_of") (478 : @Nat)) :: ((@PySem.Value.str (Str.ofString "rows_of") (479 : @Nat)) :: ((@PySem.Value.str (Str.ofString "/claim/cut.py") (480 : @Nat)) :: ((@PySem.Value.int (151 : @Int) (0 : @Nat)) :: ((@PySem.Value.int (1 : @Int) (0 : @Nat)) :: ((@PySem.Value.int (0 : @Int) (0 : @Nat)) :: ((@PySem.Value.int (0 : @Int) (0 : @Nat)) :: ((@PySem.Value.int (3 : @Int) (0 : @Nat)) :: ((@PySem.Value.ref (220 : @Nat)) :: ((@PySem.Value.bool @Bool.true) :: ((@PySem.Value.int (181 : @Int) (0 : @Nat)) :: ((@PySem.Value.ref (221 : @Nat)) :: (@PySem.Value.none :: (@PySem.Value.none :: (@PySem.Value.none :: ((@PySem.Value.ref (222 : @Nat)) :: ((@PySem.Value.int (481 : @Int) (0 : @Nat)) :: ((@PySem.Value.int (151 : @Int) (0 : @Nat)) :: ((@PySem.Value.str (Str.ofString "/claim/cut.py") (482 : @Nat)) :: []))))))))))))))))))))) (@List.toArray (@Option @PySem.Value) []))
noncomputable def o224 (P : Params) : Obj := Obj.mk (@PySem.Value.type "function") none (Data.func (FuncData.mk (Str.ofString "rows_of") (Str.ofString "rows_of") (stP (stAt 30 0)) (.stmts (stB (stAt 30 0))) (stS (stAt 30 0)) (3 : @Nat) [] @PySem.Value.none @PySem.Value.none @PySem.Value.none (@PySem.Value.str (Str.ofString "basicplus.arrays") (334 : @Nat)) none (@PySem.Value.ref (223 : @Nat)) @PySem.Value.none (0 : @Nat))) (@List.toArray (@Option @PySem.Value) [])
noncomputable def o230 (P : Params) : Obj := (@PySem.Obj.mk (@PySem.Value.type "code") none (@PySem.Data.fields (@List.toArray @PySem.Value ((@PySem.Value.str (Str.ofString "put_rows") (484 : @Nat)) :: ((@PySem.Value.str (Str.ofString "put_rows") (485 : @Nat)) :: ((@PySem.Value.str (Str.ofString "/claim/cut.py") (486 : @Nat)) :: ((@PySem.Value.int (160 : @Int) (0 : @Nat)) :: ((@PySem.Value.int (3 : @Int) (0 : @Nat)) :: ((@PySem.Value.int (0 : @Int) (0 : @Nat)) :: ((@PySem.Value.int (0 : @Int) (0 : @Nat)) :: ((@PySem.Value.int (3 : @Int) (0 : @Nat)) :: ((@PySem.Value.ref (225 : @Nat)) :: ((@PySem.Value.bool @Bool.true) :: ((@PySem.Value.int (181 : @Int) (0 : @Nat)) :: ((@PySem.Value.ref (226 : @Nat)) :: (@PySem.Value.none :: ((@PySem.Value.ref (227 : @Nat)) :: ((@PySem.Value.ref (228 : @Nat)) :: ((@PySem.Value.ref (229 : @Nat)) :: ((@PySem.Value.int (495 : @Int) (0 : @Nat)) :: ((@PySem.Value.int (160 : @Int) (0 : @Nat)) :: ((@PySem.Value.str (Str.ofString "/claim/cut.py") (496 : @Nat)) :: []))))))))))))))))))))) (@List.toArray (@Option @PySem.Value) []))
noncomputable def o231 (P : Params) : Obj := Obj.mk (@PySem.Value.type "function") none (Data.func (FuncData.mk (Str.ofString "put_rows") (Str.ofString "put_rows") (stP (stAt 31 0)) (.stmts (stB (stAt 31 0))) (stS (stAt 31 0)) (3 : @Nat) [] @PySem.Value.none @PySem.Value.none @PySem.Value.none (@PySem.Value.str (Str.ofString "basicplus.arrays") (334 : @Nat)) none (@PySem.Value.ref (230 : @Nat)) @PySem.Value.none (0 : @Nat))) (@List.toArray (@Option @PySem.Value) [])
noncomputable def o239 (P : Params) : Obj := (@PySem.Obj.mk (@PySem.Value.type "tuple") none (@PySem.Data.seq (@List.toArray @PySem.Value ((@PySem.Value.int (16 : @Int) (512 : @Nat)) :: ((@PySem.Value.int (9 : @Int) (513 : @Nat)) :: ((@PySem.Value.int (2000 : @Int) (514 : @Nat)) :: ((@PySem.Value.int (20 : @Int) (515 : @Nat)) :: ((@PySem.Value.int (2000 : @Int) (516 : @Nat)) :: [])))))) (0 : @Nat)) (@List.toArray (@Option @PySem.Value) []))
noncomputable def o245 (P : Params) : Obj := (@PySem.Obj.mk (@PySem.Value.type "code") none (@PySem.Data.fields (@List.toArray @PySem.Value ((@PySem.Value.str (Str.ofString "__init__") (517 : @Nat)) :: ((@PySem.Value.str (Str.ofString "World.__init__") (518 : @Nat)) :: ((@PySem.Value.str (Str.ofString "/claim/cut.py") (519 : @Nat)) :: ((@PySem.Value.int (168 : @Int) (0 : @Nat)) :: ((@PySem.Value.int (6 : @Int) (0 : @Nat)) :: ((@PySem.Value.int (0 : @Int) (0 : @Nat)) :: ((@PySem.Value.int (0 : @Int) (0 : @Nat)) :: ((@PySem.Value.int (3 : @Int) (0 : @Nat)) :: ((@PySem.Value.ref (240 : @Nat)) :: ((@PySem.Value.bool @Bool.true) :: ((@PySem.Value.int (181 : @Int) (0 : @Nat)) :: ((@PySem.Value.ref (241 : @Nat)) :: (@PySem.Value.none :: ((@PySem.Value.ref (242 : @Nat)) :: ((@PySem.Value.ref (243 : @Nat)) :: ((@PySem.Value.ref (244 : @Nat)) :: ((@PySem.Value.int (526 : @Int) (0 : @Nat)) :: ((@PySem.Value.int (168 : @Int) (0 : @Nat)) :: ((@PySem.Value.str (Str.ofString "/claim/cut.py") (527 : @Nat)) :: []))))))))))))))))))))) (@List.toArray (@Option @PySem.Value) []))
noncomputable def o246 (P : Params) : Obj := Obj.mk (@PySem.Value.type "function") none (Data.func (FuncData.mk (Str.ofString "__init__") (Str.ofString "World.__init__") (stP (stAt 33 1)) (.stmts (stB (stAt 33 1))) (stS (stAt 33 1)) (3 : @Nat) [] (@PySem.Value.ref (239 : @Nat)) @PySem.Value.none @PySem.Value.none (@PySem.Value.str (Str.ofString "basicplus.world") (498 : @Nat)) none (@PySem.Value.ref (245 : @Nat)) @PySem.Value.none (0 : @Nat))) (@List.toArray (@Option @PySem.Value) [])
noncomputable def o248 (P : Params) : Obj := (@PySem.Obj.mk (@PySem.Value.type "dict") none (@PySem.Data.dict (@List.toArray @PySem.DictEntry ((@PySem.DictEntry.mk (@PySem.PyData.keyHash P (Str.ofString "__module__")) (@PySem.Value.str (Str.ofString "__module__") (507 : @Nat)) (@PySem.Value.str (Str.ofString "basicplus.world") (498 : @Nat))) :: ((@PySem.DictEntry.mk (@PySem.PyData.keyHash P (Str.ofString "__firstlineno__")) (@PySem.Value.str (Str.ofString "__firstlineno__") (511 : @Nat)) (@PySem.Value.int (166 : @Int) (510 : @Nat))) :: ((@PySem.DictEntry.mk (@PySem.PyData.keyHash P (Str.ofString "__init__")) (@PySem.Value.str (Str.ofString "__init__") (528 : @Nat)) (@PySem.Value.ref (246 : @Nat))) :: ((@PySem.DictEntry.mk (@PySem.PyData.keyHash P (Str.ofString "__static_attributes__")) (@PySem.Value.str (Str.ofString "__static_attributes__") (557 : @Nat)) (@PySem.Value.ref (247 : @Nat))) :: ((@PySem.DictEntry.mk (@PySem.PyData.keyHash P (Str.ofString "__dict__")) (@PySem.Value.str (Str.ofString "__dict__") (559 : @Nat)) (@PySem.Value.ref (250 : @Nat))) :: ((@PySem.DictEntry.mk (@PySem.PyData.keyHash P (Str.ofString "__weakref__")) (@PySem.Value.str (Str.ofString "__weakref__") (561 : @Nat)) (@PySem.Value.ref (251 : @Nat))) :: ((@PySem.DictEntry.mk (@PySem.PyData.keyHash P (Str.ofString "__doc__")) (@PySem.Value.str (Str.ofString "__doc__") (562 : @Nat)) @PySem.Value.none) :: [])))))))) (4 : @Nat)) (@List.toArray (@Option @PySem.Value) []))
noncomputable def o249 (P : Params) : Obj := (@PySem.Obj.mk (@PySem.Value.type "type") none (@PySem.Data.cls (@PySem.ClassData.mk (Str.ofString "World") ((@PySem.Value.type "object") :: []) ((@PySem.Value.ref (249 : @Nat)) :: ((@PySem.Value.type "object") :: [])) (248 : @Nat) (Str.ofString "World") @Bool.true [] [] @Bool.false none @Bool.false)) (@List.toArray (@Option @PySem.Value) (none :: (none :: ((some (@PySem.Value.str (Str.ofString "World") (500 : @Nat))) :: ((some (@PySem.Value.str (Str.ofString "World") (508 : @Nat))) :: ((some (@PySem.Value.builtin "object.__new__")) :: ((some (@PySem.Value.bool @Bool.true)) :: []))))))))
noncomputable def o259 (P : Params) : Obj := (@PySem.Obj.mk (@PySem.Value.type "code") none (@PySem.Data.fields (@List.toArray @PySem.Value ((@PySem.Value.str (Str.ofString "_law_take") (567 : @Nat)) :: ((@PySem.Value.str (Str.ofString "_law_take") (568 : @Nat)) :: ((@PySem.Value.str (Str.ofString "/claim/cut.py") (569 : @Nat)) :: ((@PySem.Value.int (198 : @Int) (0 : @Nat)) :: ((@PySem.Value.int (2 : @Int) (0 : @Nat)) :: ((@PySem.Value.int (0 : @Int) (0 : @Nat)) :: ((@PySem.Value.int (0 : @Int) (0 : @Nat)) :: ((@PySem.Value.int (3 : @Int) (0 : @Nat)) :: ((@PySem.Value.ref (254 : @Nat)) :: ((@PySem.Value.bool @Bool.true) :: ((@PySem.Value.int (181 : @Int) (0 : @Nat)) :: ((@PySem.Value.ref (255 : @Nat)) :: (@PySem.Value.none :: ((@PySem.Value.ref (256 : @Nat)) :: ((@PySem.Value.ref (257 : @Nat)) :: ((@PySem.Value.ref (258 : @Nat)) :: ((@PySem.Value.int (574 : @Int) (0 : @Nat)) :: ((@PySem.Value.int (198 : @Int) (0 : @Nat)) :: ((@PySem.Value.str (Str.ofString "/claim/cut.py") (575 : @Nat)) :: []))))))))))))))))))))) (@List.toArray (@Option @PySem.Value) []))
noncomputable def o260 (P : Params) : Obj := Obj.mk (@PySem.Value.type "function") none (Data.func (FuncData.mk (Str.ofString "_law_take") (Str.ofString "_law_take") (stP (stAt 35 0)) (.stmts (stB (stAt 35 0))) (stS (stAt 35 0)) (3 : @Nat) [] @PySem.Value.none @PySem.Value.none @PySem.Value.none (@PySem.Value.str (Str.ofString "law_sa0062_01") (565 : @Nat)) none (@PySem.Value.ref (259 : @Nat)) @PySem.Value.none (0 : @Nat))) (@List.toArray (@Option @PySem.Value) [])
noncomputable def o266 (P : Params) : Obj := (@PySem.Obj.mk (@PySem.Value.type "code") none (@PySem.Data.fields (@List.toArray @PySem.Value ((@PySem.Value.str (Str.ofString "_law_place") (577 : @Nat)) :: ((@PySem.Value.str (Str.ofString "_law_place") (578 : @Nat)) :: ((@PySem.Value.str (Str.ofString "/claim/cut.py") (579 : @Nat)) :: ((@PySem.Value.int (202 : @Int) (0 : @Nat)) :: ((@PySem.Value.int (2 : @Int) (0 : @Nat)) :: ((@PySem.Value.int (0 : @Int) (0 : @Nat)) :: ((@PySem.Value.int (0 : @Int) (0 : @Nat)) :: ((@PySem.Value.int (3 : @Int) (0 : @Nat)) :: ((@PySem.Value.ref (261 : @Nat)) :: ((@PySem.Value.bool @Bool.true) :: ((@PySem.Value.int (181 : @Int) (0 : @Nat)) :: ((@PySem.Value.ref (262 : @Nat)) :: (@PySem.Value.none :: ((@PySem.Value.ref (263 : @Nat)) :: ((@PySem.Value.ref (264 : @Nat)) :: ((@PySem.Value.ref (265 : @Nat)) :: ((@PySem.Value.int (583 : @Int) (0 : @Nat)) :: ((@PySem.Value.int (202 : @Int) (0 : @Nat)) :: ((@PySem.Value.str (Str.ofString "/claim/cut.py") (584 : @Nat)) :: []))))))))))))))))))))) (@List.toArray (@Option @PySem.Value) []))
noncomputable def o267 (P : Params) : Obj := Obj.mk (@PySem.Value.type "function") none (Data.func (FuncData.mk (Str.ofString "_law_place") (Str.ofString "_law_place") (stP (stAt 36 0)) (.stmts (stB (stAt 36 0))) (stS (stAt 36 0)) (3 : @Nat) [] @PySem.Value.none @PySem.Value.none @PySem.Value.none (@PySem.Value.str (Str.ofString "law_sa0062_01") (565 : @Nat)) none (@PySem.Value.ref (266 : @Nat)) @PySem.Value.none (0 : @Nat))) (@List.toArray (@Option @PySem.Value) [])
noncomputable def o271 (P : Params) : Obj := (@PySem.Obj.mk (@PySem.Value.type "code") none (@PySem.Data.fields (@List.toArray @PySem.Value ((@PySem.Value.str (Str.ofString "_law_rows_of_places") (586 : @Nat)) :: ((@PySem.Value.str (Str.ofString "_law_rows_of_places") (587 : @Nat)) :: ((@PySem.Value.str (Str.ofString "/claim/cut.py") (588 : @Nat)) :: ((@PySem.Value.int (207 : @Int) (0 : @Nat)) :: ((@PySem.Value.int (3 : @Int) (0 : @Nat)) :: ((@PySem.Value.int (0 : @Int) (0 : @Nat)) :: ((@PySem.Value.int (0 : @Int) (0 : @Nat)) :: ((@PySem.Value.int (3 : @Int) (0 : @Nat)) :: ((@PySem.Value.ref (268 : @Nat)) :: ((@PySem.Value.bool @Bool.true) :: ((@PySem.Value.int (181 : @Int) (0 : @Nat)) :: ((@PySem.Value.ref (269 : @Nat)) :: (@PySem.Value.none :: (@PySem.Value.none :: (@PySem.Value.none :: ((@PySem.Value.ref (270 : @Nat)) :: ((@PySem.Value.int (589 : @Int) (0 : @Nat)) :: ((@PySem.Value.int (207 : @Int) (0 : @Nat)) :: ((@PySem.Value.str (Str.ofString "/claim/cut.py") (590 : @Nat)) :: []))))))))))))))))))))) (@List.toArray (@Option @PySem.Value) []))
noncomputable def o272 (P : Params) : Obj := Obj.mk (@PySem.Value.type "function") none (Data.func (FuncData.mk (Str.ofString "_law_rows_of_places") (Str.ofString "_law_rows_of_places") (stP (stAt 37 0)) (.stmts (stB (stAt 37 0))) (stS (stAt 37 0)) (3 : @Nat) [] @PySem.Value.none @PySem.Value.none @PySem.Value.none (@PySem.Value.str (Str.ofString "law_sa0062_01") (565 : @Nat)) none (@PySem.Value.ref (271 : @Nat)) @PySem.Value.none (0 : @Nat))) (@List.toArray (@Option @PySem.Value) [])
noncomputable def o276 (P : Params) : Obj := (@PySem.Obj.mk (@PySem.Value.type "code") none (@PySem.Data.fields (@List.toArray @PySem.Value ((@PySem.Value.str (Str.ofString "_law_numbers_right") (592 : @Nat)) :: ((@PySem.Value.str (Str.ofString "_law_numbers_right") (593 : @Nat)) :: ((@PySem.Value.str (Str.ofString "/claim/cut.py") (594 : @Nat)) :: ((@PySem.Value.int (212 : @Int) (0 : @Nat)) :: ((@PySem.Value.int (2 : @Int) (0 : @Nat)) :: ((@PySem.Value.int (0 : @Int) (0 : @Nat)) :: ((@PySem.Value.int (0 : @Int) (0 : @Nat)) :: ((@PySem.Value.int (3 : @Int) (0 : @Nat)) :: ((@PySem.Value.ref (273 : @Nat)) :: ((@PySem.Value.bool @Bool.true) :: ((@PySem.Value.int (181 : @Int) (0 : @Nat)) :: ((@PySem.Value.ref (274 : @Nat)) :: (@PySem.Value.none :: (@PySem.Value.none :: (@PySem.Value.none :: ((@PySem.Value.ref (275 : @Nat)) :: ((@PySem.Value.int (595 : @Int) (0 : @Nat)) :: ((@PySem.Value.int (212 : @Int) (0 : @Nat)) :: ((@PySem.Value.str (Str.ofString "/claim/cut.py") (596 : @Nat)) :: []))))))))))))))))))))) (@List.toArray (@Option @PySem.Value) []))
noncomputable def o277 (P : Params) : Obj := Obj.mk (@PySem.Value.type "function") none (Data.func (FuncData.mk (Str.ofString "_law_numbers_right") (Str.ofString "_law_numbers_right") (stP (stAt 38 0)) (.stmts (stB (stAt 38 0))) (stS (stAt 38 0)) (3 : @Nat) [] @PySem.Value.none @PySem.Value.none @PySem.Value.none (@PySem.Value.str (Str.ofString "law_sa0062_01") (565 : @Nat)) none (@PySem.Value.ref (276 : @Nat)) @PySem.Value.none (0 : @Nat))) (@List.toArray (@Option @PySem.Value) [])
noncomputable def o283 (P : Params) : Obj := (@PySem.Obj.mk (@PySem.Value.type "code") none (@PySem.Data.fields (@List.toArray @PySem.Value ((@PySem.Value.str (Str.ofString "_law_together_right") (598 : @Nat)) :: ((@PySem.Value.str (Str.ofString "_law_together_right") (599 : @Nat)) :: ((@PySem.Value.str (Str.ofString "/claim/cut.py") (600 : @Nat)) :: ((@PySem.Value.int (225 : @Int) (0 : @Nat)) :: ((@PySem.Value.int (2 : @Int) (0 : @Nat)) :: ((@PySem.Value.int (0 : @Int) (0 : @Nat)) :: ((@PySem.Value.int (0 : @Int) (0 : @Nat)) :: ((@PySem.Value.int (3 : @Int) (0 : @Nat)) :: ((@PySem.Value.ref (278 : @Nat)) :: ((@PySem.Value.bool @Bool.true) :: ((@PySem.Value.int (181 : @Int) (0 : @Nat)) :: ((@PySem.Value.ref (279 : @Nat)) :: (@PySem.Value.none :: ((@PySem.Value.ref (280 : @Nat)) :: ((@PySem.Value.ref (281 : @Nat)) :: ((@PySem.Value.ref (282 : @Nat)) :: ((@PySem.Value.int (615 : @Int) (0 : @Nat)) :: ((@PySem.Value.int (225 : @Int) (0 : @Nat)) :: ((@PySem.Value.str (Str.ofString "/claim/cut.py") (616 : @Nat)) :: []))))))))))))))))))))) (@List.toArray (@Option @PySem.Value) []))
noncomputable def o284 (P : Params) : Obj := Obj.mk (@PySem.Value.type "function") none (Data.func (FuncData.mk (Str.ofString "_law_together_right") (Str.ofString "_law_together_right") (stP (stAt 39 0)) (.stmts (stB (stAt 39 0))) (stS (stAt 39 0)) (3 : @Nat) [] @PySem.Value.none @PySem.Value.none @PySem.Value.none (@PySem.Value.str (Str.ofString "law_sa0062_01") (565 : @Nat)) none (@PySem.Value.ref (283 : @Nat)) @PySem.Value.none (0 : @Nat))) (@List.toArray (@Option @PySem.Value) [])
noncomputable def o288 (P : Params) : Obj := (@PySem.Obj.mk (@PySem.Value.type "code") none (@PySem.Data.fields (@List.toArray @PySem.Value ((@PySem.Value.str (Str.ofString "_law_columns") (618 : @Nat)) :: ((@PySem.Value.str (Str.ofString "_law_columns") (619 : @Nat)) :: ((@PySem.Value.str (Str.ofString "/claim/cut.py") (620 : @Nat)) :: ((@PySem.Value.int (237 : @Int) (0 : @Nat)) :: ((@PySem.Value.int (1 : @Int) (0 : @Nat)) :: ((@PySem.Value.int (0 : @Int) (0 : @Nat)) :: ((@PySem.Value.int (0 : @Int) (0 : @Nat)) :: ((@PySem.Value.int (3 : @Int) (0 : @Nat)) :: ((@PySem.Value.ref (285 : @Nat)) :: ((@PySem.Value.bool @Bool.true) :: ((@PySem.Value.int (181 : @Int) (0 : @Nat)) :: ((@PySem.Value.ref (286 : @Nat)) :: (@PySem.Value.none :: (@PySem.Value.none :: (@PySem.Value.none :: ((@PySem.Value.ref (287 : @Nat)) :: ((@PySem.Value.int (621 : @Int) (0 : @Nat)) :: ((@PySem.Value.int (237 : @Int) (0 : @Nat)) :: ((@PySem.Value.str (Str.ofString "/claim/cut.py") (622 : @Nat)) :: []))))))))))))))))))))) (@List.toArray (@Option @PySem.Value) []))
noncomputable def o289 (P : Params) : Obj := Obj.mk (@PySem.Value.type "function") none (Data.func (FuncData.mk (Str.ofString "_law_columns") (Str.ofString "_law_columns") (stP (stAt 40 0)) (.stmts (stB (stAt 40 0))) (stS (stAt 40 0)) (3 : @Nat) [] @PySem.Value.none @PySem.Value.none @PySem.Value.none (@PySem.Value.str (Str.ofString "law_sa0062_01") (565 : @Nat)) none (@PySem.Value.ref (288 : @Nat)) @PySem.Value.none (0 : @Nat))) (@List.toArray (@Option @PySem.Value) [])
noncomputable def o293 (P : Params) : Obj := (@PySem.Obj.mk (@PySem.Value.type "code") none (@PySem.Data.fields (@List.toArray @PySem.Value ((@PySem.Value.str (Str.ofString "_law_turned_right") (624 : @Nat)) :: ((@PySem.Value.str (Str.ofString "_law_turned_right") (625 : @Nat)) :: ((@PySem.Value.str (Str.ofString "/claim/cut.py") (626 : @Nat)) :: ((@PySem.Value.int (239 : @Int) (0 : @Nat)) :: ((@PySem.Value.int (4 : @Int) (0 : @Nat)) :: ((@PySem.Value.int (0 : @Int) (0 : @Nat)) :: ((@PySem.Value.int (0 : @Int) (0 : @Nat)) :: ((@PySem.Value.int (3 : @Int) (0 : @Nat)) :: ((@PySem.Value.ref (290 : @Nat)) :: ((@PySem.Value.bool @Bool.true) :: ((@PySem.Value.int (181 : @Int) (0 : @Nat)) :: ((@PySem.Value.ref (291 : @Nat)) :: (@PySem.Value.none :: (@PySem.Value.none :: (@PySem.Value.none :: ((@PySem.Value.ref (292 : @Nat)) :: ((@PySem.Value.int (627 : @Int) (0 : @Nat)) :: ((@PySem.Value.int (239 : @Int) (0 : @Nat)) :: ((@PySem.Value.str (Str.ofString "/claim/cut.py") (628 : @Nat)) :: []))))))))))))))))))))) (@List.toArray (@Option @PySem.Value) []))
noncomputable def o294 (P : Params) : Obj := Obj.mk (@PySem.Value.type "function") none (Data.func (FuncData.mk (Str.ofString "_law_turned_right") (Str.ofString "_law_turned_right") (stP (stAt 41 0)) (.stmts (stB (stAt 41 0))) (stS (stAt 41 0)) (3 : @Nat) [] @PySem.Value.none @PySem.Value.none @PySem.Value.none (@PySem.Value.str (Str.ofString "law_sa0062_01") (565 : @Nat)) none (@PySem.Value.ref (293 : @Nat)) @PySem.Value.none (0 : @Nat))) (@List.toArray (@Option @PySem.Value) [])
noncomputable def as62 : List Addr := [2, 3, 18, 23, 30, 31, 33, 34, 43, 44, 50, 51, 85, 86, 92, 93, 120, 121, 134, 135, 137, 138, 148, 149, 155, 156, 162, 163, 169, 170, 176, 177, 183, 184, 190, 191, 197, 198, 204, 205, 211, 212, 218, 219, 223, 224, 230, 231, 239, 245, 246, 248, 249, 259, 260, 266, 267, 271, 272, 276, 277, 283, 284, 288, 289, 293, 294]
noncomputable def KK (P : Params) : Frag := [(2, o2 P), (3, o3 P), (18, o18 P), (23, o23 P), (30, o30 P), (31, o31 P), (33, o33 P), (34, o34 P), (43, o43 P), (44, o44 P), (50, o50 P), (51, o51 P), (85, o85 P), (86, o86 P), (92, o92 P), (93, o93 P), (120, o120 P), (121, o121 P), (134, o134 P), (135, o135 P), (137, o137 P), (138, o138 P), (148, o148 P), (149, o149 P), (155, o155 P), (156, o156 P), (162, o162 P), (163, o163 P), (169, o169 P), (170, o170 P), (176, o176 P), (177, o177 P), (183, o183 P), (184, o184 P), (190, o190 P), (191, o191 P), (197, o197 P), (198, o198 P), (204, o204 P), (205, o205 P), (211, o211 P), (212, o212 P), (218, o218 P), (219, o219 P), (223, o223 P), (224, o224 P), (230, o230 P), (231, o231 P), (239, o239 P), (245, o245 P), (246, o246 P), (248, o248 P), (249, o249 P), (259, o259 P), (260, o260 P), (266, o266 P), (267, o267 P), (271, o271 P), (272, o272 P), (276, o276 P), (277, o277 P), (283, o283 P), (284, o284 P), (288, o288 P), (289, o289 P), (293, o293 P), (294, o294 P)]
theorem keys62 : ∀ P, as62 = (KK P).map (·.1) := fun P => rfl
end Mine
end

section
open PySem PySem.W PyProof.Rows
set_option maxRecDepth 1000000
set_option maxHeartbeats 0
namespace Mine
noncomputable abbrev rr : OpenRow := PySem.Challenge.rw_sa0062_01.row
noncomputable def qv : Program := view pg [42]
noncomputable def loo : List Str := (["MOST_TEXT", "MOST_EXPONENT", "BasicError", "kind_of_name", "first_value", "figures_of", "rounded_by", "made", "whole_near", "fits", "whole_of", "decimal_of", "text_of", "checked_text", "suited", "USUAL_HIGH"] : List Str) ++ (["Grid", "count_of", "kind_in", "check_highs", "dim", "grid_of", "option_base", "place_of", "subs_of", "get_item", "set_item", "redim", "rows_of", "put_rows", "World"] : List Str) ++ (["_law_take", "_law_place", "_law_rows_of_places", "_law_numbers_right", "_law_together_right", "_law_columns", "_law_turned_right"] : List Str)
theorem opening62 : ∀ w : World, (fencedOpening treeTable pg w 3752).map (fun s => (s.heap, s.gens, s.drawn, s.toks)) = some (boot_heap w.params, Array.mk [], boot_drawn, boot_toks) := boot_open (by kernel_rfl) (by decide +kernel) (fun s => by kernel_rfl)
theorem run62 : ∀ (w : World) (os : OsState), (topFrom treeTable pg w 3752 ⟨boot_heap w.params, Array.mk [], boot_drawn, boot_toks, os⟩).map (fun s => (openSeen qv loo (importedModules pg.main.body) (fun s => xlAt qv [] s && recOk (RowW.records rr.toRowW) s) true s, (kHook KK as62 keys62).obs s)) = some (openGood qv loo, (kHook KK as62 keys62).val w) := by
  intro w os
  unfold topFrom
  rw [PySem.W.Fast.te14082659384304107361, PySem.W.Fast.te14364793385576792824, PySem.W.Fast.te4187177175401517315]
  kernel_rfl
end Mine
end

section
open PySem PySem.W PyProof.Rows
set_option maxRecDepth 1000000
set_option maxHeartbeats 0
namespace Mine
theorem left62 : LeftO pg qv loo (fun s => xlAt qv [] s && recOk (RowW.records rr.toRowW) s) (kHook KK as62 keys62).obs (kHook KK as62 keys62).val 3752 := fun w => by
  obtain ⟨⟨h, gs, d, k, os⟩, e, e'⟩ := Option.map_eq_some_iff.mp (opening62 w)
  obtain ⟨rfl, rfl, rfl, rfl⟩ : h = boot_heap w.params ∧ gs = Array.mk [] ∧ d = boot_drawn ∧ k = boot_toks := by simpa using e'
  unfold openEnds
  rw [e, Option.bind_some]
  exact run62 w os
open PySem.W.Fast in
theorem said62a : PySem.Challenge.rw_sa0062_01.row.wellSaid = true := by
  rw [te17960256430627541270]
  kernel_rfl
open PySem.W.Fast in
theorem said62 : PySem.Challenge.rw_sa0062_01.wellSaid = true := by
  unfold OpenLaw.wellSaid
  rw [te8326940854005059898, te17119622794617984870, te8179353310426384613, te9558739934217749035, te16286561074155671207, te10501279942588096481, sDec_eq]
  repeat' (with_reducible apply look_both)
  · exact said62a
  all_goals kernel_rfl
end Mine
end

section
open PySem PySem.W PyProof.Rows
set_option maxRecDepth 1000000
set_option maxHeartbeats 0
namespace Mine
noncomputable def d62 : DefRec := match defOf qv "law" with
  | some (d, _) => d
  | none => ⟨"law", default, [], default, default⟩
theorem def62 : defOf qv rr.name = some (d62, []) := by kernel_rfl
theorem the62 : rr.prog.theDef rr.name = some (d62.params, d62.body, d62.scope) := by kernel_rfl
theorem hw62 : rr.toRowW.promised := ⟨[ofPy (PyData.list [])], by decide +kernel, by decide +kernel⟩
theorem top62 (walk : WalkO qv loo (XL qv []) (kHook KK as62 keys62).says rr.toRowW d62 [] fun f vs => PySem.call f vs) : PySem.Challenge.rw_sa0062_01.Holds := by
  refine holds_law said62 fun said => ?_
  exact holds_open (q := qv) (loose := loo) (Xt := fun s => xlAt qv [] s && recOk (RowW.records rr.toRowW) s) (XP := XL qv []) (Yf := (kHook KK as62 keys62).obs) (Ya := (kHook KK as62 keys62).val) (YP := (kHook KK as62 keys62).says) (N := 3752) left62
    (kHook KK as62 keys62).of (kHook KK as62 keys62).keeps (fun s e => xl_of s (Bool.and_eq_true_iff.mp e).1) XL.keeps def62 the62 (by kernel_rfl) (fun s e => recFacts_of (Bool.and_eq_true_iff.mp e).2) (by kernel_rfl) said (by kernel_rfl) ⟨by kernel_rfl, by kernel_rfl, by kernel_rfl, by kernel_rfl, by kernel_rfl, by kernel_rfl⟩ hw62 walk
end Mine
end

section
open PySem PySem.W PyProof.Rows PySem.Spec PySem.Calls
set_option maxRecDepth 100000
set_option maxHeartbeats 4000000
namespace Mine
noncomputable def fdOf (o : Option Obj) : FuncData := match o with
  | some ⟨_, _, .func fd, _⟩ => fd
  | _ => default
noncomputable def bodyOf (fd : FuncData) : List Stmt := match fd.body with
  | .stmts b => b
  | _ => []
noncomputable abbrev KF := KK
noncomputable abbrev PG : Program := PySem.Challenge.rw_sa0062_01.row.prog
noncomputable abbrev fdN (P : Params) (n : Addr) : FuncData := fdOf ((KF P).lookup n)

/-- what stands at the start -/
structure Top0 (P : Params) (hb : Heap) where
  K : (KF P).In hb
  lim : hb.NoLimit
  mg : Str → Option Value
  mb : Str → Option Value
  g : hb.Ns mainGlobals mg
  b : hb.Ns builtinsNs mb
  bi : ∀ x : Str, x ≠ "__name__" → mb x = bootBuiltins x

section
variable {P : Params} {hb : Heap}

theorem fnIn_of {n : Addr} (h : fnIn (KF P) n = true) : ∃ o, (KF P).lookup n = some o ∧ o.data = .func (fdN P n) := by
  unfold fnIn at h
  split at h
  · rename_i q; exact ⟨_, q, by rw [fdN, q]; rfl⟩
  · cases h

theorem defOk_of (T : Top0 P hb) (n : Addr) (ps ls : List Str) (h1 : fnIn (KF P) n = true) (h2 : codeIn (KF P) (fdN P n).code (fdN P n).qualname = true) (h3 : (fdN P n).body = .stmts (bodyOf (fdN P n)))
    (h4 : ∀ vs : List Value, vs.length = ps.length → bindArgs (fdN P n) ⟨vs, []⟩ = pure (ps.zip vs)) (h5 : (fdN P n).closure = [])
    (h6 : (ps.all fun x => (fdN P n).scope.names.lookup x == some .local || ((fdN P n).scope.names.lookup x == some .cell && (fdN P n).scope.names.contains (x, .cell))) = true)
    (h7 : ((ps ++ ls).all fun x => !((fdN P n).scope.names.lookup x == some .cell) || (fdN P n).scope.names.contains (x, .cell)) = true) (h8 : ps.Nodup)
    (h9 : (fdN P n).scope.isCoroutine = false) (h10 : (fdN P n).scope.isGenerator = false) (h11 : (fdN P n).scope.kind = .function) : DefOk hb n (fdN P n) (bodyOf (fdN P n)) ps ls where
  obj := let ⟨o, q1, q2⟩ := fnIn_of h1; ⟨o, T.K _ _ q1, q2⟩
  lim := T.lim
  code := codeRec_of T.K h2
  body := h3
  bind := fun s vs _ hl => .of_eq (by rw [h4 vs (by simpa using hl)]; simp)
  clo := h5
  kinds := h6
  cells := h7
  nodup := h8
  co := h9
  gen := h10
  kind := h11

theorem nameG_mod {w : World} {B : Bk} {x : Str} {v : Value} (T : Top0 P hb) (hg : B.env.globals = mainGlobals) (e : nsIn (KF P) mainGlobals x = some (some v)) (hk : B.env.scope.kind = .function) (hx : B.env.kindOf x = some .globalImplicit) (hd : (x == ("__debug__" : Str)) = false) : NameG PG w hb B x v := by
  intro A p s Q E base h
  refine wpAny_Name (ks_loadName_global hk hx ?_) hd
  unfold loadGlobal
  refine wpAny_bind (wpAny_nsGet (by rw [hg]; exact T.g.keeps base) ?_)
  rw [mg_of T.K T.g e]
  exact wpAny_pure h
theorem nameG_bi {w : World} {B : Bk} {x : Str} {v : Value} (T : Top0 P hb) (hg : B.env.globals = mainGlobals) (hbn : B.env.builtins = builtinsNs) (e : nsIn (KF P) mainGlobals x = some none) (hv : bootBuiltins x = some v) (hn : (x == ("__name__" : Str)) = false) (hk : B.env.scope.kind = .function) (hx : B.env.kindOf x = some .globalImplicit) (hd : (x == ("__debug__" : Str)) = false) : NameG PG w hb B x v := by
  intro A p s Q E base h
  refine wpAny_Name (ks_loadName_global hk hx ?_) hd
  exact loadGlobal_builtin (by rw [hg]; exact T.g.keeps base) (mg_none_of T.K T.g e) (by rw [hbn]; exact T.b.keeps base) ((T.bi x (beq_eq_false_iff_ne.mp hn)).trans hv) h
theorem keptK {w : World} {f : Value} (T : Top0 P hb) (h : keepIn (KF P) f = true) : KeptBy PG w hb f := fun h' k => by
  obtain ⟨k, hk, L⟩ := looks_keep (M := model PG w) h (T.K.keeps k)
  exact ⟨k, hk.imp id .inl, L⟩

theorem clsGrid (P : Params) : ClsOk (KF P) 138 (["kind","highs","base","items","room"] : List Str) := ⟨getOk_plain (by kernel_rfl), by kernel_rfl, overOk_plain (by kernel_rfl), by kernel_rfl, by kernel_rfl⟩
theorem clsWorld (P : Params) : ClsOk (KF P) 249 (["bits","digits","most_steps","most_depth","names","arrays","kinds","fns","out","row","inputs","room","files","open","fields","data","spot","base","seed","steps","depth","handler","is_handling","error_line","error_code","is_traced","traces","common"] : List Str) := ⟨getOk_plain (by kernel_rfl), by kernel_rfl, overOk_plain (by kernel_rfl), by kernel_rfl, by kernel_rfl⟩
theorem makeGrid (P : Params) : MakeOk (KF P) 138 135 := ⟨by kernel_rfl, by kernel_rfl, by kernel_rfl⟩
theorem makeWorld (P : Params) : MakeOk (KF P) 249 246 := ⟨by kernel_rfl, by kernel_rfl, by kernel_rfl⟩
theorem notInst_str {prog : Program} {w : World} (A : Around) (s : Shared) (n : Int) (u : Tok) (Q E : Value → Shared → Prop) (h : Q (.bool false) { s with toks := s.toks + 1 }) : wpAny (model prog w) A (call (.builtin "isinstance") [.int n u, .type "str"]) Q E s := by
  exact IsiPair.int_str h
theorem notInst_tuple {prog : Program} {w : World} (A : Around) (s : Shared) (n : Int) (u : Tok) (Q E : Value → Shared → Prop) (h : Q (.bool false) { s with toks := s.toks + 1 }) : wpAny (model prog w) A (call (.builtin "isinstance") [.int n u, .type "tuple"]) Q E s := by
  exact IsiPair.int_tuple h
noncomputable def c_abs (ms : List MV) (objs : List AObj) : Option (MV × List AObj) := match ms with
  | [.int i] => some (.int (if i < 0 then -i else i), objs)
  | _ => none
theorem c_abs_ok {prog : Program} {w : World} {β : Gl} {r : Nat} : CallS prog w hb β r (.builtin "abs") c_abs := by
  intro A fr adr objs objs' ms m vs s Q E ha hp hv e hQ
  unfold c_abs at e
  split at e
  · cases e
    cases hv with
    | cons h1 h2 =>
      cases h2
      cases h1
      exact call_abs_int fun u tk => hQ _ adr s.heap tk hp (.int _ _) .refl
  · cases e
end
end Mine
end

section
open PySem PySem.W PyProof.Rows PySem.Spec PySem.Calls
set_option maxRecDepth 100000
set_option maxHeartbeats 4000000
namespace Mine
theorem ns_some_of {K : Frag} {h : Heap} {N : Addr} {mg : Str → Option Value} {n : Str} {v : Value} (X : K.In h) (G : h.Ns N mg) (e : nsIn K N n = some (some v)) : mg n = some v := by
  obtain ⟨o, es, ep, ho, hd, _, hf⟩ := G
  unfold nsIn at e
  split at e
  · rename_i c d es' n' sl q
    have := X _ _ q
    rw [ho] at this
    cases this
    cases hd
    split at e
    · rename_i en he
      rw [← hf]
      unfold nsFind findBy
      rw [← Array.find?_toList, he]
      simpa using e
    · split at e <;> cases e
  · cases e
noncomputable def exIn (K : Frag) (C fI : Addr) : Bool := match K.lookup C with
  | some ⟨.type "type", _, .cls cd, sl⟩ => (match cd.mro, sl.toList with
    | [.ref C', .type "Exception", .type "BaseException", .type "object"], [_, _, _, _, some (.builtin n), _] => C' == C && n == "Exception.__new__" && !cd.hasDel && nsOkIn K cd.ns && nsIn K cd.ns "__init__" == some (some (.ref fI))
    | _, _ => false)
  | _ => false
theorem excCls_of {K : Frag} {hb : Heap} {C fI : Addr} (X : K.In hb) (q : exIn K C fI = true) : ExcCls hb C fI := by
  unfold exIn at q
  split at q
  · rename_i dd cd sl ho
    split at q
    · rename_i C' k0 k1 k2 k3 n k5 hm hs
      simp only [Bool.and_eq_true, beq_iff_eq, Bool.not_eq_true'] at q
      obtain ⟨⟨⟨⟨rfl, rfl⟩, hdel⟩, hok⟩, hni⟩ := q
      obtain ⟨nm, bs, mro, ns, qn, hd, sn, sub, ab, col, del⟩ := cd
      dsimp only at hm hdel hok hni
      subst hm hdel
      have hsl : sl = #[k0, k1, k2, k3, some (.builtin "Exception.__new__"), k5] := by
        obtain ⟨l⟩ := sl
        simp only at hs
        rw [hs]
      subst hsl
      have hns : hb.Ns ns (hb.nsMap ns) := .of_isNs (isNs_of_in X hok)
      exact ⟨nm, qn, ns, bs, hd, sn, sub, ab, col, dd, k0, k1, k2, k3, k5, _, X _ _ ho, hns, ns_some_of X hns hni⟩
    · cases q
  · cases q
/-- attributes of an exception: BaseException.__getattribute__ -/
theorem getOk_exc {K : Frag} {C : Addr} (hga : findIn K (.ref C) "__getattribute__" = some (some (.builtin "BaseException.__getattribute__"))) (hgg : findIn K (.ref C) "__getattr__" = some none) (hb : mroIn K C (.type "BaseException") = some true) : GetOk K C := by
  intro prog w A E s x ox od name v expr Q X I hf hh q
  obtain ⟨hh', g, d, t, os⟩ := s
  have L0 := I.type (M := model prog w)
  have L1 := looks_findIn (M := model prog w) X hga
  have L2 := looks_findIn (M := model prog w) X hgg
  have L3 := looks_find (M := model prog w) X I hf
  have LB : Looks (model prog w) hh' (isInstance (.ref x) (.type "BaseException")) true := L0.andThen (looks_mroIn X hb)
  have FB := F.attr_Exception
  have f3 := FB.ga.bind (.ref x)
  have hx0 : (expr && onTheHeap (Value.builtin "BaseException.__getattribute__")) = false := by cases expr <;> rfl
  have hx2 : (Value.builtin "BaseException.__getattribute__" == Value.builtin "object.__getattribute__") = false := by decide +kernel
  unfold getAttr getAttrBy
  refine wpAny_bind (wpAny_mkText (wpAny_holding (wpAny_bind (L0.at (wpAny_bind (L1.at ?_))))))
  dsimp only
  rw [hx2, Bool.and_false, if_neg Bool.false_ne_true]
  unfold getAttrByItsOwn hookBefore callGetattribute boundAndCalled
  rw [if_pos (show onTheHeap (Value.ref C) = true from rfl), hx0, if_neg Bool.false_ne_true, f3]
  refine wpAny_bind (L2.at (wpAny_bind (wpAny_attempt (wpAny_holding ?_))))
  refine wpAny_bind (wpAny_pure ?_)
  refine wpAny_mono (Q := fun u s' => u = v ∧ s' = ⟨hh', g, d, t + 1, os⟩) (E := fun _ _ => False) (wpAny_call (codeAny_call_builtin FB.ga.plain F.entry_bexc_ga
    (@check_slot (model prog w) _ _ ⟨hh', g, d, t + 1, os⟩ "BaseException.__getattribute__" "BaseException" "__getattribute__" (.ref x) [.str name t] [] _ (by decide +kernel) (by decide +kernel) LB (F.args_bexc_ga _ _) ?_))) (fun u s' hu => ?_) fun _ _ z => z.elim
  · refine wpAny_bind (wpAny_pure (wpAny_bind (wpAny_pure (wpAny_bind (L0.at (wpAny_bind (L3.at ?_)))))))
    exact wpAny_pure ⟨rfl, rfl⟩
  · obtain ⟨rfl, rfl⟩ := hu
    show wpAny _ _ (handedOut u) _ _ _
    rw [handedOut_of hh]
    exact wpAny_pure q

theorem overOk_exc {K : Frag} {C : Addr} (h : ((clsIn K C).map (·.mro)) = some [.ref C, .type "Exception", .type "BaseException", .type "object"]) : OverOk K C := by
  obtain ⟨cd, hc, hm⟩ := Option.map_eq_some_iff.mp h
  refine ⟨cd, hc, by rw [hm]; rfl, by rw [hm]; simp, fun self => ?_⟩
  rw [hm, refuseLoop_ref]
  exact F.store_Exception.passes self

section
variable {P : Params} {hb : Heap}
theorem excCls (T : Top0 P hb) : ExcCls hb 34 31 := excCls_of T.K (by kernel_rfl)

theorem excOk (T : Top0 P hb) : ExcOk PG hb (KF P) 34 31 (fdN P 31) where
  cls := ⟨getOk_exc (by kernel_rfl) (by kernel_rfl) (by kernel_rfl), by kernel_rfl, overOk_exc (by kernel_rfl), by kernel_rfl, by kernel_rfl⟩
  cd := by
    have h : (clsIn (KF P) 34).isSome = true := by kernel_rfl
    obtain ⟨cd, hcd⟩ := Option.isSome_iff_exists.mp h
    refine ⟨cd, hcd, ?_⟩
    have h2 : ((clsIn (KF P) 34).map fun cd => alongIn (KF P) "__init__" ((cd.mro.dropWhile (· != .ref 34)).drop 1)) = some (some (some (.builtin "Exception.__init__"))) := by kernel_rfl
    rw [hcd] at h2
    exact Option.some.inj h2
  sub := by kernel_rfl
  self := by kernel_rfl
  opq := by kernel_rfl
  obj := by
    obtain ⟨o, q1, q2⟩ := fnIn_of (P := P) (n := 31) (by kernel_rfl)
    have h : typeIn (KF P) (.ref 31) = some (.type "function") := by kernel_rfl
    replace h : ((KF P).lookup 31).map (·.cls) = some (.type "function") := h
    rw [q1] at h
    exact ⟨o, T.K _ _ q1, q2, Option.some.inj h⟩
  lim := T.lim
  code := codeRec_of T.K (by kernel_rfl)
  bind := fun s a b c base => by
    refine binds_K (T := 23) (T.K.keeps base) rfl rfl rfl rfl rfl
  body := ⟨_, _, _, _, _, _, _, _, _, _, _, _, _, _, rfl, fun L => ⟨_, rfl⟩⟩
  nocell := by
    have h : ((fdN P 31).scope.names.all fun x => !(x.2 == .cell)) = true := by kernel_rfl
    intro x hx q
    have := List.all_eq_true.mp h x hx
    rw [q] at this
    cases this
  l1 := by kernel_rfl
  l2 := by kernel_rfl
  l3 := by kernel_rfl
  l4 := by kernel_rfl
  l5 := by kernel_rfl
  co := by kernel_rfl
  gen := by kernel_rfl
  kind := by kernel_rfl
  head := ⟨_, rfl, rfl⟩
  clo := ⟨18, by kernel_rfl, _, T.K 18 _ rfl, rfl⟩
  file := ⟨30, _, _, _, _, by kernel_rfl, T.K 30 _ rfl, rfl, rfl, by kernel_rfl⟩
  top := by kernel_rfl
  glob := ⟨T.mg, T.mb, T.g, mg_none_of T.K T.g (by kernel_rfl), T.b, (T.bi _ (by decide)).trans (by kernel_rfl)⟩
end
end Mine
end

section
open PySem PySem.W PyProof.Rows PySem.Spec PySem.Calls
set_option maxRecDepth 100000
set_option maxHeartbeats 4000000
namespace Mine
noncomputable def tupOf (o : Option Obj) : List Value := match o with
  | some ⟨_, _, .seq items _, _⟩ => items.toList
  | _ => []
noncomputable abbrev dsW (P : Params) : List Value := tupOf ((KF P).lookup 239)
noncomputable def intsIn : List Value → List Int → Bool
  | [], [] => true
  | .int i _ :: r, j :: s => i == j && intsIn r s
  | _, _ => false
theorem intsIn_vrs {β : Gl} {h : Heap} {adr : List Addr} : ∀ {vs : List Value} {is : List Int}, intsIn vs is = true → VRs β h adr vs (is.map .int)
  | [], [], _ => .nil
  | .int i t :: r, j :: s, e => by
    unfold intsIn at e
    rw [Bool.and_eq_true, beq_iff_eq] at e
    obtain ⟨rfl, e⟩ := e
    exact .cons (.int _ _) (intsIn_vrs e)
theorem dsW_len (P : Params) : intsIn (dsW P) [16, 9, 2000, 20, 2000] = true := by kernel_rfl
theorem dflW (P : Params) : (fdN P 246).defaults = .ref 239 := by kernel_rfl
end Mine
end

section
open PySem PySem.W PyProof.Rows PySem.Spec PySem.Calls
set_option maxRecDepth 100000
set_option maxHeartbeats 1000000
namespace Mine
theorem bindsW {s : Shared} {fd : FuncData} {a : Value} {T : Addr} {o : Obj} {i1 i2 i3 i4 i5 : Value} {n : Nat} {d : List Expr} {a0 a1 a2 a3 a4 a5 : Option Expr} {p0 p1 p2 p3 p4 p5 : Pos}
    (hp : fd.params = { posonlyargs := [], args := [⟨"self", a0, p0⟩, ⟨"bits", a1, p1⟩, ⟨"digits", a2, p2⟩, ⟨"most_steps", a3, p3⟩, ⟨"most_depth", a4, p4⟩, ⟨"room", a5, p5⟩], vararg := none, kwonlyargs := [], kw_defaults := [], kwarg := none, defaults := d })
    (hd : fd.defaults = .ref T) (hk : fd.kwdefaults = .none) (ho : s.heap.get? T = some o) (hs : o.data = .seq #[i1, i2, i3, i4, i5] n) :
    BindsTo s fd ⟨[a], []⟩ [("self", a), ("bits", i1), ("digits", i2), ("most_steps", i3), ("most_depth", i4), ("room", i5)] := by
  obtain ⟨_⟩ := fd
  dsimp only at hp hd hk
  subst hp hd hk
  exact BindsTo.of_defaults rfl ho hs rfl rfl
end Mine
end

section
open PySem PySem.W PyProof.Rows PySem.Spec PySem.Calls
set_option maxRecDepth 100000
set_option maxHeartbeats 1000000
namespace Mine
noncomputable def prmW (p : Arguments) : Bool := match p with
  | { posonlyargs := [], args := [⟨a, _, _⟩, ⟨b, _, _⟩, ⟨c, _, _⟩, ⟨d, _, _⟩, ⟨e, _, _⟩, ⟨f, _, _⟩], vararg := none, kwonlyargs := [], kw_defaults := [], kwarg := none, defaults := _ } => a == "self" && b == "bits" && c == "digits" && d == "most_steps" && e == "most_depth" && f == "room"
  | _ => false
theorem prmW_246 (P : Params) : prmW (fdN P 246).params = true := by kernel_rfl
end Mine
end

section
open PySem PySem.W PyProof.Rows PySem.Spec PySem.Calls
set_option maxRecDepth 100000
set_option maxHeartbeats 1000000
namespace Mine
noncomputable def five (o : Option Obj) : Bool := match o with
  | some ⟨_, _, .seq items _, _⟩ => (match items.toList with
    | [_, _, _, _, _] => true
    | _ => false)
  | _ => false
theorem intsIn_len : ∀ {vs : List Value} {is : List Int}, intsIn vs is = true → vs.length = is.length
  | [], [], _ => rfl
  | .int i t :: r, j :: s, e => by
    unfold intsIn at e
    rw [Bool.and_eq_true] at e
    rw [List.length_cons, List.length_cons, intsIn_len e.2]
theorem five_239 (P : Params) : five ((KF P).lookup 239) = true := by kernel_rfl
theorem kwd_246 (P : Params) : (fdN P 246).kwdefaults = .none := by kernel_rfl
theorem bind_246 {P : Params} {hb : Heap} (T : Top0 P hb) (s : Shared) (a : Value) (base : ∀ b o, hb.get? b = some o → s.heap.get? b = some o) :
    BindsTo s (fdN P 246) ⟨[a], []⟩ ((["self", "bits", "digits", "most_steps", "most_depth", "room"] : List Str).zip ([a] ++ dsW P)) := by
  have h5 := five_239 P
  have hp := prmW_246 P
  unfold prmW at hp
  split at hp
  · rename_i a1 b1 c1 d1 e1 f1 dd hpr
    simp only [Bool.and_eq_true, beq_iff_eq] at hp
    obtain ⟨⟨⟨⟨⟨rfl, rfl⟩, rfl⟩, rfl⟩, rfl⟩, rfl⟩ := hp
    unfold five at h5
    split at h5
    · rename_i c dct items n sl ho
      split at h5
      · rename_i i1 i2 i3 i4 i5 hi
        have hit : items = #[i1, i2, i3, i4, i5] := by apply Array.toList_inj.mp; rw [hi]
        have z := bindsW (s := s) (a := a) hpr (dflW P) (kwd_246 P) (base _ _ (T.K _ _ ho)) (by rw [hit])
        have hd : dsW P = [i1, i2, i3, i4, i5] := by unfold dsW; rw [ho]; exact hi
        rw [hd]
        exact z
      · cases h5
    · cases h5
  · cases hp
theorem d_World_init {P : Params} {hb : Heap} (T : Top0 P hb) : DefOk hb 246 (fdN P 246) (bodyOf (fdN P 246)) (["self", "bits", "digits", "most_steps", "most_depth", "room"] : List Str) ([] : List Str) (dsW P) where
  obj := let ⟨o, q1, q2⟩ := fnIn_of (P := P) (n := 246) (by kernel_rfl); ⟨o, T.K _ _ q1, q2⟩
  lim := T.lim
  code := codeRec_of T.K (by kernel_rfl)
  body := by kernel_rfl
  bind := fun s vs base hl => by
    have h5 : (dsW P).length = 5 := intsIn_len (dsW_len P)
    have h1 : vs.length = 1 := by rw [h5] at hl; simpa using hl
    match vs, h1 with
    | [a], _ => exact bind_246 T s a base
  clo := by kernel_rfl
  kinds := by kernel_rfl
  cells := by kernel_rfl
  nodup := by decide
  co := by kernel_rfl
  gen := by kernel_rfl
  kind := by kernel_rfl
end Mine
end

section
open PySem PySem.W PyProof.Rows PySem.Spec PySem.Calls
set_option maxRecDepth 100000
namespace Mine
/-- no object that may change -/
noncomputable def frz : Nat → MV → Bool
  | k + 1, .list xs => xs.all (frz k)
  | 0, .list _ => false
  | _, .ref _ => false
  | _, _ => true
section
variable {prog : Program} {w : World} {hb : Heap} {β : Gl} {B : Bk} {r : Nat} {fr : List Env} {adr : List Addr} {h h' : Heap}
mutual
theorem VR.frz : ∀ {k : Nat} {v : Value} {d : MV}, VR β h adr v d → frz k d = true → VR β h [] v d
  | _, _, _, .undef v, _ => .undef v
  | _, _, _, .none, _ => .none
  | _, _, _, .bool b, _ => .bool b
  | _, _, _, .int i t, _ => .int i t
  | _, _, _, .sym k t, _ => .sym k t
  | _, _, _, .str t e, _ => .str t e
  | 0, _, _, .list e ha r, q => by unfold Mine.frz at q; cases q
  | k + 1, _, _, .list e ha r, q => .list e (fun hm => by cases hm) (VRs.frz (k := k) r (by unfold Mine.frz at q; exact q))
  | 0, _, _, .ref e, q => by unfold Mine.frz at q; cases q
  | k + 1, _, _, .ref e, q => by unfold Mine.frz at q; cases q
theorem VRs.frz : ∀ {k : Nat} {vs : List Value} {ds : List MV}, VRs β h adr vs ds → ds.all (frz k) = true → VRs β h [] vs ds
  | _, _, _, .nil, _ => .nil
  | k, _, _, .cons a b, q => .cons (VR.frz (k := k) a (by rw [List.all_cons, Bool.and_eq_true] at q; exact q.1)) (VRs.frz (k := k) b (by rw [List.all_cons, Bool.and_eq_true] at q; exact q.2))
end
theorem VR.flat {v : Value} {d : MV} (x : VR β h adr v d) (q : Mine.frz 0 d = true) {adr' : List Addr} : VR β h adr' v d := by
  cases x with
  | undef v => exact .undef v
  | none => exact .none
  | bool b => exact .bool b
  | int i t => exact .int i t
  | sym k t => exact .sym k t
  | str t e => exact .str t e
  | list e ha r => cases q
  | ref e => cases q
theorem Adv.of_none {W F : List Addr} {adr' : List Addr} (x : Adv W F [] h adr' h') : Adv W F adr h adr h' where
  pre := List.prefix_refl _
  new := fun _ ha => .inl ha
  alive := x.alive
  keep := fun b o e hw _ hf => x.keep b o e hw (by simp) hf
  slots := fun b o e hw _ hf => x.slots b o e hw (by simp) hf
theorem Hp.none {objs : List AObj} (x : Hp hb β fr adr objs h) : Hp hb β fr [] [] h where
  base := x.base
  off := fun a ha => by cases ha
  low := fun a ha => by cases ha
  big := x.big
  nodup := .nil
  len := rfl
  objs := fun n o e => by cases e
  fr := fun e he => by
    obtain ⟨h1, L, m, h2, h3, h4, h5⟩ := x.fr e he
    exact ⟨h1, L, m, h2, h3, by simp, h5⟩
theorem Hp.over {objs objs' : List AObj} {adr' : List Addr} (x : Hp hb β fr adr objs h) (a : Adv [] (frs fr) [] h adr' h') (y : Hp hb β fr adr' objs' h') : Hp hb β fr adr objs h' where
  base := y.base
  off := x.off
  low := x.low
  big := x.big
  nodup := x.nodup
  len := x.len
  objs := fun n o e => by
    obtain ⟨b, h1, h2⟩ := x.objs n o e
    refine ⟨b, h1, h2.mono (adr := adr) (a.of_none) (fun c hc o e => ?_) fun o q => a.keep b o q (by simp) (by simp) fun hm => ?_⟩
    · rcases hc with hc | hc
      · cases hc
      · exact x.frSeq hc e
    · obtain ⟨env, he, hf⟩ := List.mem_filterMap.mp hm
      obtain ⟨_, L, m, h2, _, h4, _⟩ := x.fr env he
      rw [hf] at h2; cases h2
      exact h4 (List.mem_of_getElem? h1)
  fr := fun e he => by
    obtain ⟨h1, L, m, h2, h3, h4, h5⟩ := x.fr e he
    obtain ⟨_, L', m', h2', _, _, h5'⟩ := y.fr e he
    rw [h2] at h2'; cases h2'
    exact ⟨h1, L, m', h2, h3, h4, h5'⟩

/-- a call on data that do not change gives an answer that stands alone: all other objects are as before -/
noncomputable def aloneF (F : List MV → List AObj → Option (MV × List AObj)) (ms : List MV) (objs : List AObj) : Option (MV × List AObj) :=
  if ms.all (frz 4) then match F ms [] with
    | some (m, _) => if frz 0 m then some (m, objs) else none
    | none => none
  else none
theorem call_alone {f : Value} {F : List MV → List AObj → Option (MV × List AObj)} (hF : CallS prog w hb β r f F) : CallS prog w hb β r f (aloneF F) := by
  intro A fr adr objs objs' ms m vs s Q E ha hp hv e hQ
  unfold aloneF at e
  split at e
  · rename_i hz
    split at e
    · rename_i m' objs2 e1
      split at e
      · rename_i hm
        cases e
        refine hF A fr [] [] objs2 ms m vs s Q E ha hp.none (hv.frz hz) e1 fun v adr' h' tk' p' r' a' => ?_
        exact hQ v adr h' tk' (hp.over a' p') (r'.flat hm) a'.of_none
      · cases e
    · cases e
  · cases e
theorem call_less {f : Value} {F G : List MV → List AObj → Option (MV × List AObj)} (hF : CallS prog w hb β r f F) (h : ∀ ms objs p, G ms objs = some p → F ms objs = some p) : CallS prog w hb β r f G :=
  fun A fr adr objs objs' ms m vs s Q E ha hp hv e hQ => hF A fr adr objs objs' ms m vs s Q E ha hp hv (h _ _ _ e) hQ
/-- the last argument is told as a symbol -/
noncomputable def symF (F : List MV → List AObj → Option (MV × List AObj)) (b : Int) (ms : List MV) (objs : List AObj) : Option (MV × List AObj) := match ms with
  | [x, y, z, .int i] => if i = b then F [x, y, z, .sym 0] objs else none
  | _ => none
theorem call_sym {f : Value} {F : List MV → List AObj → Option (MV × List AObj)} (hF : CallS prog w hb β r f F) : CallS prog w hb β r f (symF F β.b) := by
  intro A fr adr objs objs' ms m vs s Q E ha hp hv e hQ
  unfold symF at e
  split at e
  · split at e
    · rename_i x y z i hi
      subst hi
      refine hF A fr adr objs objs' [x, y, z, .sym 0] m vs s Q E ha hp ?_ e hQ
      cases hv with
      | cons a hv =>
        cases hv with
        | cons b hv =>
          cases hv with
          | cons c hv =>
            cases hv with
            | cons d hv =>
              cases hv
              cases d with
              | int i t =>
                refine .cons a (.cons b (.cons c (.cons ?_ .nil)))
                have := VR.sym (β := β) (h := s.heap) (adr := adr) 0 t
                rwa [Int.add_zero] at this
    · cases e
  · cases e
end
end Mine
end

section
open PySem PySem.W PyProof.Rows PySem.Spec PySem.Calls
set_option maxRecDepth 100000
namespace Mine
section
variable {prog : Program} {w : World} {hb : Heap} {β : Gl} {B : Bk} {r : Nat}
/-- a call without arguments -/
theorem e_call0 {x : Str} {p pos : Pos} {f : Value} {r' : Nat} {F : List MV → List AObj → Option (MV × List AObj)} (hn : NameG prog w hb B x f) (hk : KeptBy prog w hb f) (hF : CallS prog w hb β r' f F) (hr : r' ≤ r) :
    EvS prog w hb β B r (eval (.Call (.Name x p) [] [] pos) B.env) (f_call F fs_nil) := by
  refine ⟨?_⟩
  intro A fr adr st st' m s Q E ha hi e hQ
  obtain ⟨ms, st1, e1, e⟩ := bnd_some e
  cases e1
  split at e
  · rename_i m' objs' e2
    cases e
    refine Call_ (hn A p s _ E hi.hp.base ?_)
    refine callWith_of (P := fun h => ∀ b o, hb.get? b = some o → h.get? b = some o) rfl hk (evalArgs_nil3 ⟨hi.hp.base, ?_⟩)
    exact call_use hF hr ha hi .nil e2 fun v adr2 h2 tk2 i2 r2 a2 => hQ v adr2 h2 tk2 i2 r2 a2
  · cases e
/-- a list written out, that may change -/
noncomputable def f_listM (F : St → Option (List MV × St)) : St → Option (MV × St) := bnd F fun xs st => if xs.length ≤ 1000 then some (.ref st.objs.length, ⟨st.vars, st.objs ++ [.list xs]⟩) else none
theorem e_listM {elts : List Expr} {pos : Pos} {F : St → Option (List MV × St)} (hF : EsS prog w hb β B r (spliced (backTo pos (starEach elts B.env))) F) : EvS prog w hb β B r (eval (.List elts pos) B.env) (f_listM F) := by
  refine ⟨?_⟩
  intro A fr adr st st' m s Q E ha hi e hQ
  obtain ⟨xs, st1, e1, e⟩ := bnd_some e
  split at e
  · rename_i hl
    cases e
    refine List_ (hF.run A fr adr st st1 xs s _ E ha hi e1 fun vs adr1 h1 tk1 i1 r1 a1 => ?_)
    refine wpAny_newList ?_ (by rw [r1.length, sizeLine_eq]; omega)
    exact hQ _ (adr1 ++ [h1.objs.size]) _ tk1 (i1.alloc (.list (vs := vs) push_size (r1.mono (W := []) (F := []) .alloc noF))) (VR.last (fr := fr) i1.hp.len) (a1.trans .alloc)
  · cases e
end
end Mine
end

section
open PySem PySem.W PyProof.Rows PySem.Spec PySem.Calls
set_option maxRecDepth 100000
set_option maxHeartbeats 4000000
namespace Mine
noncomputable def s_kind_of_name : PSigma fun F : St → Option (Fl × St) => ∀ (P : Params) (w : World) (hb : Heap) (β : Gl) (hw : β.w = w) (hβ : 1 ≤ β.b ∧ β.b ≤ 900) (T : Top0 P hb) (L : Addr), ExS PG w hb β (defBk (fdN P 44) 44 ((["name", "kinds"] : List Str) ++ (["last"] : List Str)) L) 10 (execs (bodyOf (fdN P 44)) (defBk (fdN P 44) 44 ((["name", "kinds"] : List Str) ++ (["last"] : List Str)) L).env) F := by
  apply PSigma.mk
  intro P w hb β hw hβ T L
  apply x_cons_ok
  · apply x_assign (i := 2) (hx := by kernel_rfl) (hd := by kernel_rfl) (hk := by kernel_rfl) (hsk := by kernel_rfl) (hs := by kernel_rfl)
    apply e_strAt (hs := fun _ _ => by kernel_rfl)
    · exact e_name 0 (by kernel_rfl) (by kernel_rfl) (by kernel_rfl)
    · apply e_bin
      · apply e_call (f := .builtin "len") (r' := 10) (hn := (nameG_bi T (by kernel_rfl) (by kernel_rfl) (by kernel_rfl) (by kernel_rfl) (by kernel_rfl) (by kernel_rfl) (by kernel_rfl) (by kernel_rfl))) (hk := kept_builtin) (hF := c_lenX_ok hw) (hr := by decide) (hs := by kernel_rfl) (he := fun _ _ _ _ _ h => evalArgs_plain h)
        apply es_cons (hx := by kernel_rfl)
        · exact e_name 0 (by kernel_rfl) (by kernel_rfl) (by kernel_rfl)
        · exact es_nil
      · exact e_int
  · apply x_cons_ok
    · apply x_if
      · apply t_cmp (hr := by decide) (hβ := hβ) (hm := by kernel_rfl)
        · exact e_name 2 (by kernel_rfl) (by kernel_rfl) (by kernel_rfl)
        · exact e_str (i := 5) (by kernel_rfl)
      · exact x_fail
      · exact x_nil_ok
    · apply x_cons_ok
      · apply x_if
        · apply t_cmp (hr := by decide) (hβ := hβ) (hm := by kernel_rfl)
          · exact e_name 2 (by kernel_rfl) (by kernel_rfl) (by kernel_rfl)
          · exact e_str (i := 4) (by kernel_rfl)
        · apply x_cons_ok
          · apply x_return
            exact e_str (i := 0) (by kernel_rfl)
          · exact x_nil_ok
        · exact x_nil_ok
      · apply x_cons_ok
        · exact x_fail
        · exact x_nil_ok
theorem d_kind_of_name {P : Params} {hb : Heap} (T : Top0 P hb) : DefOk hb 44 (fdN P 44) (bodyOf (fdN P 44)) (["name", "kinds"] : List Str) (["last"] : List Str) :=
  defOk_of T 44 _ _ (by kernel_rfl) (by kernel_rfl) (by kernel_rfl) (fun vs h => match vs, h with | [_, _], _ => by kernel_rfl) (by kernel_rfl) (by kernel_rfl) (by kernel_rfl) (by decide) (by kernel_rfl) (by kernel_rfl) (by kernel_rfl)
theorem c_kind_of_name (P : Params) (w : World) (β : Gl) (hw : β.w = w) (hb : Heap) (hβ : 1 ≤ β.b ∧ β.b ≤ 900) (T : Top0 P hb) : CallS PG w hb β 11 (.ref 44) (callL 2 [] 1 s_kind_of_name.1) :=
  call_def (d_kind_of_name T) (fun _ _ => .nil) fun L => s_kind_of_name.2 P w hb β hw hβ T L
end Mine
end

section
open PySem PySem.W PyProof.Rows PySem.Spec PySem.Calls
set_option maxRecDepth 100000
set_option maxHeartbeats 4000000
namespace Mine
noncomputable def s_first_value : PSigma fun F : St → Option (Fl × St) => ∀ (P : Params) (w : World) (hb : Heap) (β : Gl) (hw : β.w = w) (hβ : 1 ≤ β.b ∧ β.b ≤ 900) (T : Top0 P hb) (L : Addr), ExS PG w hb β (defBk (fdN P 51) 51 ((["kind"] : List Str) ++ ([] : List Str)) L) 10 (execs (bodyOf (fdN P 51)) (defBk (fdN P 51) 51 ((["kind"] : List Str) ++ ([] : List Str)) L).env) F := by
  apply PSigma.mk
  intro P w hb β hw hβ T L
  apply x_cons_ok
  · apply x_if
    · apply t_cmp (hr := by decide) (hβ := hβ) (hm := by kernel_rfl)
      · exact e_name 0 (by kernel_rfl) (by kernel_rfl) (by kernel_rfl)
      · exact e_str (i := 39) (by kernel_rfl)
    · exact x_fail
    · exact x_nil_ok
  · apply x_cons_ok
    · apply x_return
      apply e_ifexp
      · apply t_cmp (hr := by decide) (hβ := hβ) (hm := by kernel_rfl)
        · exact e_name 0 (by kernel_rfl) (by kernel_rfl) (by kernel_rfl)
        · exact e_str (i := 0) (by kernel_rfl)
      · exact e_int
      · exact e_fail
    · exact x_nil_ok
theorem d_first_value {P : Params} {hb : Heap} (T : Top0 P hb) : DefOk hb 51 (fdN P 51) (bodyOf (fdN P 51)) (["kind"] : List Str) ([] : List Str) :=
  defOk_of T 51 _ _ (by kernel_rfl) (by kernel_rfl) (by kernel_rfl) (fun vs h => match vs, h with | [_], _ => by kernel_rfl) (by kernel_rfl) (by kernel_rfl) (by kernel_rfl) (by decide) (by kernel_rfl) (by kernel_rfl) (by kernel_rfl)
theorem c_first_value (P : Params) (w : World) (β : Gl) (hw : β.w = w) (hb : Heap) (hβ : 1 ≤ β.b ∧ β.b ≤ 900) (T : Top0 P hb) : CallS PG w hb β 11 (.ref 51) (callL 1 [] 0 s_first_value.1) :=
  call_def (d_first_value T) (fun _ _ => .nil) fun L => s_first_value.2 P w hb β hw hβ T L
end Mine
end

section
open PySem PySem.W PyProof.Rows PySem.Spec PySem.Calls
set_option maxRecDepth 100000
set_option maxHeartbeats 4000000
namespace Mine
noncomputable def s_fits : PSigma fun F : St → Option (Fl × St) => ∀ (P : Params) (w : World) (hb : Heap) (β : Gl) (hw : β.w = w) (hβ : 1 ≤ β.b ∧ β.b ≤ 900) (T : Top0 P hb) (L : Addr), ExS PG w hb β (defBk (fdN P 86) 86 ((["number", "bits"] : List Str) ++ ([] : List Str)) L) 10 (execs (bodyOf (fdN P 86)) (defBk (fdN P 86) 86 ((["number", "bits"] : List Str) ++ ([] : List Str)) L).env) F := by
  apply PSigma.mk
  intro P w hb β hw hβ T L
  apply x_cons_ok
  · apply x_return
    apply e_chain2 (hr := by decide) (hβ := hβ) (hm := by kernel_rfl)
    · apply e_neg
      · apply e_bin
        · exact e_int
        · apply e_bin
          · exact e_name 1 (by kernel_rfl) (by kernel_rfl) (by kernel_rfl)
          · exact e_int
    · exact e_name 0 (by kernel_rfl) (by kernel_rfl) (by kernel_rfl)
    · apply e_bin
      · exact e_int
      · apply e_bin
        · exact e_name 1 (by kernel_rfl) (by kernel_rfl) (by kernel_rfl)
        · exact e_int
  · exact x_nil_ok
theorem d_fits {P : Params} {hb : Heap} (T : Top0 P hb) : DefOk hb 86 (fdN P 86) (bodyOf (fdN P 86)) (["number", "bits"] : List Str) ([] : List Str) :=
  defOk_of T 86 _ _ (by kernel_rfl) (by kernel_rfl) (by kernel_rfl) (fun vs h => match vs, h with | [_, _], _ => by kernel_rfl) (by kernel_rfl) (by kernel_rfl) (by kernel_rfl) (by decide) (by kernel_rfl) (by kernel_rfl) (by kernel_rfl)
theorem c_fits (P : Params) (w : World) (β : Gl) (hw : β.w = w) (hb : Heap) (hβ : 1 ≤ β.b ∧ β.b ≤ 900) (T : Top0 P hb) : CallS PG w hb β 11 (.ref 86) (callL 2 [] 0 s_fits.1) :=
  call_def (d_fits T) (fun _ _ => .nil) fun L => s_fits.2 P w hb β hw hβ T L
end Mine
end

section
open PySem PySem.W PyProof.Rows PySem.Spec PySem.Calls
set_option maxRecDepth 100000
set_option maxHeartbeats 4000000
namespace Mine
noncomputable def s_whole_of : PSigma fun F : St → Option (Fl × St) => ∀ (P : Params) (w : World) (hb : Heap) (β : Gl) (hw : β.w = w) (hβ : 1 ≤ β.b ∧ β.b ≤ 900) (T : Top0 P hb) (L : Addr), ExS PG w hb β (defBk (fdN P 93) 93 ((["value", "bits"] : List Str) ++ (["number"] : List Str)) L) 11 (execs (bodyOf (fdN P 93)) (defBk (fdN P 93) 93 ((["value", "bits"] : List Str) ++ (["number"] : List Str)) L).env) F := by
  apply PSigma.mk
  intro P w hb β hw hβ T L
  apply x_cons_ok
  · apply x_if
    · apply t_value (he := by kernel_rfl)
      · apply e_notInst (T := "str") (hn := (nameG_bi T (by kernel_rfl) (by kernel_rfl) (by kernel_rfl) (by kernel_rfl) (by kernel_rfl) (by kernel_rfl) (by kernel_rfl) (by kernel_rfl))) (hn' := (nameG_bi T (by kernel_rfl) (by kernel_rfl) (by kernel_rfl) (by kernel_rfl) (by kernel_rfl) (by kernel_rfl) (by kernel_rfl) (by kernel_rfl))) (hx := fun _ => by kernel_rfl) (hT := notInst_str)
        · exact e_name 0 (by kernel_rfl) (by kernel_rfl) (by kernel_rfl)
    · apply x_cons_ok
      · exact x_fail
      · exact x_nil_ok
    · exact x_nil_ok
  · apply x_cons_ok
    · apply x_assign (i := 2) (hx := by kernel_rfl) (hd := by kernel_rfl) (hk := by kernel_rfl) (hsk := by kernel_rfl) (hs := by kernel_rfl)
      apply e_ifexp
      · apply t_value (he := by kernel_rfl)
        · apply e_notInst (T := "tuple") (hn := (nameG_bi T (by kernel_rfl) (by kernel_rfl) (by kernel_rfl) (by kernel_rfl) (by kernel_rfl) (by kernel_rfl) (by kernel_rfl) (by kernel_rfl))) (hn' := (nameG_bi T (by kernel_rfl) (by kernel_rfl) (by kernel_rfl) (by kernel_rfl) (by kernel_rfl) (by kernel_rfl) (by kernel_rfl) (by kernel_rfl))) (hx := fun _ => by kernel_rfl) (hT := notInst_tuple)
          · exact e_name 0 (by kernel_rfl) (by kernel_rfl) (by kernel_rfl)
      · exact e_fail
      · exact e_name 0 (by kernel_rfl) (by kernel_rfl) (by kernel_rfl)
    · apply x_cons_ok
      · apply x_if
        · apply t_not1
          apply t_value (he := by kernel_rfl)
          · apply e_call (f := .ref 86) (hn := (nameG_mod T (by kernel_rfl) (by kernel_rfl) (by kernel_rfl) (by kernel_rfl) (by kernel_rfl))) (hk := keptK T (by kernel_rfl)) (hF := c_fits P w β hw hb hβ T) (hr := by decide) (hs := by kernel_rfl) (he := fun _ _ _ _ _ h => evalArgs_plain h)
            apply es_cons (hx := by kernel_rfl)
            · exact e_name 2 (by kernel_rfl) (by kernel_rfl) (by kernel_rfl)
            · apply es_cons (hx := by kernel_rfl)
              · exact e_name 1 (by kernel_rfl) (by kernel_rfl) (by kernel_rfl)
              · exact es_nil
        · apply x_cons_ok
          · exact x_fail
          · exact x_nil_ok
        · exact x_nil_ok
      · apply x_cons_ok
        · apply x_return
          exact e_name 2 (by kernel_rfl) (by kernel_rfl) (by kernel_rfl)
        · exact x_nil_ok
theorem d_whole_of {P : Params} {hb : Heap} (T : Top0 P hb) : DefOk hb 93 (fdN P 93) (bodyOf (fdN P 93)) (["value", "bits"] : List Str) (["number"] : List Str) :=
  defOk_of T 93 _ _ (by kernel_rfl) (by kernel_rfl) (by kernel_rfl) (fun vs h => match vs, h with | [_, _], _ => by kernel_rfl) (by kernel_rfl) (by kernel_rfl) (by kernel_rfl) (by decide) (by kernel_rfl) (by kernel_rfl) (by kernel_rfl)
theorem c_whole_of (P : Params) (w : World) (β : Gl) (hw : β.w = w) (hb : Heap) (hβ : 1 ≤ β.b ∧ β.b ≤ 900) (T : Top0 P hb) : CallS PG w hb β 12 (.ref 93) (callL 2 [] 1 s_whole_of.1) :=
  call_def (d_whole_of T) (fun _ _ => .nil) fun L => s_whole_of.2 P w hb β hw hβ T L
end Mine
end

section
open PySem PySem.W PyProof.Rows PySem.Spec PySem.Calls
set_option maxRecDepth 100000
set_option maxHeartbeats 4000000
namespace Mine
noncomputable def s_suited : PSigma fun F : St → Option (Fl × St) => ∀ (P : Params) (w : World) (hb : Heap) (β : Gl) (hw : β.w = w) (hβ : 1 ≤ β.b ∧ β.b ≤ 900) (T : Top0 P hb) (L : Addr), ExS PG w hb β (defBk (fdN P 121) 121 ((["value", "kind", "bits", "digits"] : List Str) ++ ([] : List Str)) L) 12 (execs (bodyOf (fdN P 121)) (defBk (fdN P 121) 121 ((["value", "kind", "bits", "digits"] : List Str) ++ ([] : List Str)) L).env) F := by
  apply PSigma.mk
  intro P w hb β hw hβ T L
  apply x_cons_ok
  · apply x_if
    · apply t_cmp (hr := by decide) (hβ := hβ) (hm := by kernel_rfl)
      · exact e_name 1 (by kernel_rfl) (by kernel_rfl) (by kernel_rfl)
      · exact e_str (i := 39) (by kernel_rfl)
    · exact x_fail
    · exact x_nil_ok
  · apply x_cons_ok
    · apply x_return
      apply e_ifexp
      · apply t_cmp (hr := by decide) (hβ := hβ) (hm := by kernel_rfl)
        · exact e_name 1 (by kernel_rfl) (by kernel_rfl) (by kernel_rfl)
        · exact e_str (i := 0) (by kernel_rfl)
      · apply e_call (f := .ref 93) (hn := (nameG_mod T (by kernel_rfl) (by kernel_rfl) (by kernel_rfl) (by kernel_rfl) (by kernel_rfl))) (hk := keptK T (by kernel_rfl)) (hF := c_whole_of P w β hw hb hβ T) (hr := by decide) (hs := by kernel_rfl) (he := fun _ _ _ _ _ h => evalArgs_plain h)
        apply es_cons (hx := by kernel_rfl)
        · exact e_name 0 (by kernel_rfl) (by kernel_rfl) (by kernel_rfl)
        · apply es_cons (hx := by kernel_rfl)
          · exact e_name 2 (by kernel_rfl) (by kernel_rfl) (by kernel_rfl)
          · exact es_nil
      · exact e_fail
    · exact x_nil_ok
theorem d_suited {P : Params} {hb : Heap} (T : Top0 P hb) : DefOk hb 121 (fdN P 121) (bodyOf (fdN P 121)) (["value", "kind", "bits", "digits"] : List Str) ([] : List Str) :=
  defOk_of T 121 _ _ (by kernel_rfl) (by kernel_rfl) (by kernel_rfl) (fun vs h => match vs, h with | [_, _, _, _], _ => by kernel_rfl) (by kernel_rfl) (by kernel_rfl) (by kernel_rfl) (by decide) (by kernel_rfl) (by kernel_rfl) (by kernel_rfl)
theorem c_suited (P : Params) (w : World) (β : Gl) (hw : β.w = w) (hb : Heap) (hβ : 1 ≤ β.b ∧ β.b ≤ 900) (T : Top0 P hb) : CallS PG w hb β 13 (.ref 121) (callL 4 [] 0 s_suited.1) :=
  call_def (d_suited T) (fun _ _ => .nil) fun L => s_suited.2 P w hb β hw hβ T L
end Mine
end

section
open PySem PySem.W PyProof.Rows PySem.Spec PySem.Calls
set_option maxRecDepth 100000
set_option maxHeartbeats 4000000
namespace Mine
noncomputable def s_count_of : PSigma fun F : St → Option (Fl × St) => ∀ (P : Params) (w : World) (hb : Heap) (β : Gl) (hw : β.w = w) (hβ : 1 ≤ β.b ∧ β.b ≤ 900) (T : Top0 P hb) (L : Addr), ExS PG w hb β (defBk (fdN P 149) 149 ((["highs", "base"] : List Str) ++ (["found", "high"] : List Str)) L) 10 (execs (bodyOf (fdN P 149)) (defBk (fdN P 149) 149 ((["highs", "base"] : List Str) ++ (["found", "high"] : List Str)) L).env) F := by
  apply PSigma.mk
  intro P w hb β hw hβ T L
  apply x_cons_ok
  · apply x_assign (i := 2) (hx := by kernel_rfl) (hd := by kernel_rfl) (hk := by kernel_rfl) (hsk := by kernel_rfl) (hs := by kernel_rfl)
    exact e_int
  · apply x_cons_ok
    · apply x_for_ok (hs := fun _ => by kernel_rfl)
      · apply src_list (ht := by kernel_rfl)
        exact e_name 0 (by kernel_rfl) (by kernel_rfl) (by kernel_rfl)
      · exact t_name 3 (by kernel_rfl) (by kernel_rfl) (by kernel_rfl) (by kernel_rfl)
      · apply x_cons_ok
        · apply x_assign (i := 2) (hx := by kernel_rfl) (hd := by kernel_rfl) (hk := by kernel_rfl) (hsk := by kernel_rfl) (hs := by kernel_rfl)
          apply e_bin
          · exact e_name 2 (by kernel_rfl) (by kernel_rfl) (by kernel_rfl)
          · apply e_bin
            · apply e_bin
              · exact e_name 3 (by kernel_rfl) (by kernel_rfl) (by kernel_rfl)
              · exact e_name 1 (by kernel_rfl) (by kernel_rfl) (by kernel_rfl)
            · exact e_int
        · exact x_nil_ok
    · apply x_cons_ok
      · apply x_return
        exact e_name 2 (by kernel_rfl) (by kernel_rfl) (by kernel_rfl)
      · exact x_nil_ok
theorem d_count_of {P : Params} {hb : Heap} (T : Top0 P hb) : DefOk hb 149 (fdN P 149) (bodyOf (fdN P 149)) (["highs", "base"] : List Str) (["found", "high"] : List Str) :=
  defOk_of T 149 _ _ (by kernel_rfl) (by kernel_rfl) (by kernel_rfl) (fun vs h => match vs, h with | [_, _], _ => by kernel_rfl) (by kernel_rfl) (by kernel_rfl) (by kernel_rfl) (by decide) (by kernel_rfl) (by kernel_rfl) (by kernel_rfl)
theorem c_count_of (P : Params) (w : World) (β : Gl) (hw : β.w = w) (hb : Heap) (hβ : 1 ≤ β.b ∧ β.b ≤ 900) (T : Top0 P hb) : CallS PG w hb β 11 (.ref 149) (callL 2 [] 2 s_count_of.1) :=
  call_def (d_count_of T) (fun _ _ => .nil) fun L => s_count_of.2 P w hb β hw hβ T L
end Mine
end

section
open PySem PySem.W PyProof.Rows PySem.Spec PySem.Calls
set_option maxRecDepth 100000
set_option maxHeartbeats 4000000
namespace Mine
noncomputable def s_Grid_init : PSigma fun F : St → Option (Fl × St) => ∀ (P : Params) (w : World) (hb : Heap) (β : Gl) (hw : β.w = w) (hβ : 1 ≤ β.b ∧ β.b ≤ 900) (T : Top0 P hb) (L : Addr), ExS PG w hb β (defBk (fdN P 135) 135 ((["self", "kind", "highs", "base"] : List Str) ++ ([] : List Str)) L) 11 (execs (bodyOf (fdN P 135)) (defBk (fdN P 135) 135 ((["self", "kind", "highs", "base"] : List Str) ++ ([] : List Str)) L).env) F := by
  apply PSigma.mk
  intro P w hb β hw hβ T L
  apply x_cons_ok
  · apply x_setattr_ok (C := 138) (i := 8) (hK := T.K) (hC := clsGrid P) (hin := by kernel_rfl) (hx := by kernel_rfl) (hs := by kernel_rfl)
    · exact e_name 1 (by kernel_rfl) (by kernel_rfl) (by kernel_rfl)
    · exact e_name 0 (by kernel_rfl) (by kernel_rfl) (by kernel_rfl)
  · apply x_cons_ok
    · apply x_setattr_ok (C := 138) (i := 9) (hK := T.K) (hC := clsGrid P) (hin := by kernel_rfl) (hx := by kernel_rfl) (hs := by kernel_rfl)
      · apply e_call (f := .type "list") (r' := 10) (hn := (nameG_bi T (by kernel_rfl) (by kernel_rfl) (by kernel_rfl) (by kernel_rfl) (by kernel_rfl) (by kernel_rfl) (by kernel_rfl) (by kernel_rfl))) (hk := kept_type) (hF := c_list_ok) (hr := by decide) (hs := by kernel_rfl) (he := fun _ _ _ _ _ h => evalArgs_plain h)
        apply es_cons (hx := by kernel_rfl)
        · exact e_name 2 (by kernel_rfl) (by kernel_rfl) (by kernel_rfl)
        · exact es_nil
      · exact e_name 0 (by kernel_rfl) (by kernel_rfl) (by kernel_rfl)
    · apply x_cons_ok
      · apply x_setattr_ok (C := 138) (i := 10) (hK := T.K) (hC := clsGrid P) (hin := by kernel_rfl) (hx := by kernel_rfl) (hs := by kernel_rfl)
        · exact e_name 3 (by kernel_rfl) (by kernel_rfl) (by kernel_rfl)
        · exact e_name 0 (by kernel_rfl) (by kernel_rfl) (by kernel_rfl)
      · apply x_cons_ok
        · apply x_setattr_ok (C := 138) (i := 11) (hK := T.K) (hC := clsGrid P) (hin := by kernel_rfl) (hx := by kernel_rfl) (hs := by kernel_rfl)
          · apply e_repM
            · apply es_cons (hx := by kernel_rfl)
              · apply e_call (f := .ref 51) (hn := (nameG_mod T (by kernel_rfl) (by kernel_rfl) (by kernel_rfl) (by kernel_rfl) (by kernel_rfl))) (hk := keptK T (by kernel_rfl)) (hF := c_first_value P w β hw hb hβ T) (hr := by decide) (hs := by kernel_rfl) (he := fun _ _ _ _ _ h => evalArgs_plain h)
                apply es_cons (hx := by kernel_rfl)
                · exact e_name 1 (by kernel_rfl) (by kernel_rfl) (by kernel_rfl)
                · exact es_nil
              · exact es_nil
            · apply e_call (f := .ref 149) (hn := (nameG_mod T (by kernel_rfl) (by kernel_rfl) (by kernel_rfl) (by kernel_rfl) (by kernel_rfl))) (hk := keptK T (by kernel_rfl)) (hF := c_count_of P w β hw hb hβ T) (hr := by decide) (hs := by kernel_rfl) (he := fun _ _ _ _ _ h => evalArgs_plain h)
              apply es_cons (hx := by kernel_rfl)
              · exact e_name 2 (by kernel_rfl) (by kernel_rfl) (by kernel_rfl)
              · apply es_cons (hx := by kernel_rfl)
                · exact e_name 3 (by kernel_rfl) (by kernel_rfl) (by kernel_rfl)
                · exact es_nil
          · exact e_name 0 (by kernel_rfl) (by kernel_rfl) (by kernel_rfl)
        · apply x_cons_ok
          · apply x_setattr_ok (C := 138) (i := 12) (hK := T.K) (hC := clsGrid P) (hin := by kernel_rfl) (hx := by kernel_rfl) (hs := by kernel_rfl)
            · apply e_call (f := .builtin "len") (r' := 10) (hn := (nameG_bi T (by kernel_rfl) (by kernel_rfl) (by kernel_rfl) (by kernel_rfl) (by kernel_rfl) (by kernel_rfl) (by kernel_rfl) (by kernel_rfl))) (hk := kept_builtin) (hF := c_lenX_ok hw) (hr := by decide) (hs := by kernel_rfl) (he := fun _ _ _ _ _ h => evalArgs_plain h)
              apply es_cons (hx := by kernel_rfl)
              · apply e_attr (C := 138) (i := 11) (hK := T.K) (hC := clsGrid P) (hin := by kernel_rfl) (hx := by kernel_rfl)
                · exact e_name 0 (by kernel_rfl) (by kernel_rfl) (by kernel_rfl)
              · exact es_nil
            · exact e_name 0 (by kernel_rfl) (by kernel_rfl) (by kernel_rfl)
          · exact x_nil_ok
theorem d_Grid_init {P : Params} {hb : Heap} (T : Top0 P hb) : DefOk hb 135 (fdN P 135) (bodyOf (fdN P 135)) (["self", "kind", "highs", "base"] : List Str) ([] : List Str) :=
  defOk_of T 135 _ _ (by kernel_rfl) (by kernel_rfl) (by kernel_rfl) (fun vs h => match vs, h with | [_, _, _, _], _ => by kernel_rfl) (by kernel_rfl) (by kernel_rfl) (by kernel_rfl) (by decide) (by kernel_rfl) (by kernel_rfl) (by kernel_rfl)
theorem c_Grid_init (P : Params) (w : World) (β : Gl) (hw : β.w = w) (hb : Heap) (hβ : 1 ≤ β.b ∧ β.b ≤ 900) (T : Top0 P hb) : CallC PG w hb β 12 (.ref 135) (callL 4 [] 0 s_Grid_init.1) :=
  call_defC (d_Grid_init T) (fun _ _ => .nil) fun L => s_Grid_init.2 P w hb β hw hβ T L
theorem c_Grid (P : Params) (w : World) (β : Gl) (hw : β.w = w) (hb : Heap) (hβ : 1 ≤ β.b ∧ β.b ≤ 900) (T : Top0 P hb) : CallS PG w hb β 13 (.ref 138) (c_make 138 (callL 4 [] 0 s_Grid_init.1)) :=
  call_class T.K (makeGrid P) (c_Grid_init P w β hw hb hβ T)
end Mine
end

section
open PySem PySem.W PyProof.Rows PySem.Spec PySem.Calls
set_option maxRecDepth 100000
set_option maxHeartbeats 4000000
namespace Mine
noncomputable def s_kind_in : PSigma fun F : St → Option (Fl × St) => ∀ (P : Params) (w : World) (hb : Heap) (β : Gl) (hw : β.w = w) (hβ : 1 ≤ β.b ∧ β.b ≤ 900) (T : Top0 P hb) (L : Addr), ExS PG w hb β (defBk (fdN P 156) 156 ((["world", "word"] : List Str) ++ ([] : List Str)) L) 11 (execs (bodyOf (fdN P 156)) (defBk (fdN P 156) 156 ((["world", "word"] : List Str) ++ ([] : List Str)) L).env) F := by
  apply PSigma.mk
  intro P w hb β hw hβ T L
  apply x_cons_ok
  · apply x_return
    apply e_call (f := .ref 44) (hn := (nameG_mod T (by kernel_rfl) (by kernel_rfl) (by kernel_rfl) (by kernel_rfl) (by kernel_rfl))) (hk := keptK T (by kernel_rfl)) (hF := c_kind_of_name P w β hw hb hβ T) (hr := by decide) (hs := by kernel_rfl) (he := fun _ _ _ _ _ h => evalArgs_plain h)
    apply es_cons (hx := by kernel_rfl)
    · exact e_name 1 (by kernel_rfl) (by kernel_rfl) (by kernel_rfl)
    · apply es_cons (hx := by kernel_rfl)
      · apply e_attr (C := 249) (i := 19) (hK := T.K) (hC := clsWorld P) (hin := by kernel_rfl) (hx := by kernel_rfl)
        · exact e_name 0 (by kernel_rfl) (by kernel_rfl) (by kernel_rfl)
      · exact es_nil
  · exact x_nil_ok
theorem d_kind_in {P : Params} {hb : Heap} (T : Top0 P hb) : DefOk hb 156 (fdN P 156) (bodyOf (fdN P 156)) (["world", "word"] : List Str) ([] : List Str) :=
  defOk_of T 156 _ _ (by kernel_rfl) (by kernel_rfl) (by kernel_rfl) (fun vs h => match vs, h with | [_, _], _ => by kernel_rfl) (by kernel_rfl) (by kernel_rfl) (by kernel_rfl) (by decide) (by kernel_rfl) (by kernel_rfl) (by kernel_rfl)
theorem c_kind_in (P : Params) (w : World) (β : Gl) (hw : β.w = w) (hb : Heap) (hβ : 1 ≤ β.b ∧ β.b ≤ 900) (T : Top0 P hb) : CallS PG w hb β 12 (.ref 156) (callL 2 [] 0 s_kind_in.1) :=
  call_def (d_kind_in T) (fun _ _ => .nil) fun L => s_kind_in.2 P w hb β hw hβ T L
end Mine
end

section
open PySem PySem.W PyProof.Rows PySem.Spec PySem.Calls
set_option maxRecDepth 100000
set_option maxHeartbeats 4000000
namespace Mine
noncomputable def s_check_highs : PSigma fun F : St → Option (Fl × St) => ∀ (P : Params) (w : World) (hb : Heap) (β : Gl) (hw : β.w = w) (hβ : 1 ≤ β.b ∧ β.b ≤ 900) (T : Top0 P hb) (L : Addr), ExS PG w hb β (defBk (fdN P 163) 163 ((["world", "highs"] : List Str) ++ (["high"] : List Str)) L) 11 (execs (bodyOf (fdN P 163)) (defBk (fdN P 163) 163 ((["world", "highs"] : List Str) ++ (["high"] : List Str)) L).env) F := by
  apply PSigma.mk
  intro P w hb β hw hβ T L
  apply x_cons_ok
  · apply x_if
    · apply t_cmp (hr := by decide) (hβ := hβ) (hm := by kernel_rfl)
      · apply e_call (f := .builtin "len") (r' := 10) (hn := (nameG_bi T (by kernel_rfl) (by kernel_rfl) (by kernel_rfl) (by kernel_rfl) (by kernel_rfl) (by kernel_rfl) (by kernel_rfl) (by kernel_rfl))) (hk := kept_builtin) (hF := c_lenX_ok hw) (hr := by decide) (hs := by kernel_rfl) (he := fun _ _ _ _ _ h => evalArgs_plain h)
        apply es_cons (hx := by kernel_rfl)
        · exact e_name 1 (by kernel_rfl) (by kernel_rfl) (by kernel_rfl)
        · exact es_nil
      · exact e_int
    · apply x_cons_ok
      · exact x_fail
      · exact x_nil_ok
    · exact x_nil_ok
  · apply x_cons_ok
    · apply x_for_ok (hs := fun _ => by kernel_rfl)
      · apply src_list (ht := by kernel_rfl)
        exact e_name 1 (by kernel_rfl) (by kernel_rfl) (by kernel_rfl)
      · exact t_name 2 (by kernel_rfl) (by kernel_rfl) (by kernel_rfl) (by kernel_rfl)
      · apply x_cons_ok
        · apply x_if
          · apply t_cmp (hr := by decide) (hβ := hβ) (hm := by kernel_rfl)
            · exact e_name 2 (by kernel_rfl) (by kernel_rfl) (by kernel_rfl)
            · apply e_attr (C := 249) (i := 10) (hK := T.K) (hC := clsWorld P) (hin := by kernel_rfl) (hx := by kernel_rfl)
              · exact e_name 0 (by kernel_rfl) (by kernel_rfl) (by kernel_rfl)
          · apply x_cons_ok
            · exact x_fail
            · exact x_nil_ok
          · exact x_nil_ok
        · exact x_nil_ok
    · apply x_cons_ok
      · apply x_if
        · apply t_cmp (hr := by decide) (hβ := hβ) (hm := by kernel_rfl)
          · apply e_call (f := .ref 149) (hn := (nameG_mod T (by kernel_rfl) (by kernel_rfl) (by kernel_rfl) (by kernel_rfl) (by kernel_rfl))) (hk := keptK T (by kernel_rfl)) (hF := c_count_of P w β hw hb hβ T) (hr := by decide) (hs := by kernel_rfl) (he := fun _ _ _ _ _ h => evalArgs_plain h)
            apply es_cons (hx := by kernel_rfl)
            · exact e_name 1 (by kernel_rfl) (by kernel_rfl) (by kernel_rfl)
            · apply es_cons (hx := by kernel_rfl)
              · apply e_attr (C := 249) (i := 10) (hK := T.K) (hC := clsWorld P) (hin := by kernel_rfl) (hx := by kernel_rfl)
                · exact e_name 0 (by kernel_rfl) (by kernel_rfl) (by kernel_rfl)
              · exact es_nil
          · apply e_attr (C := 249) (i := 12) (hK := T.K) (hC := clsWorld P) (hin := by kernel_rfl) (hx := by kernel_rfl)
            · exact e_name 0 (by kernel_rfl) (by kernel_rfl) (by kernel_rfl)
        · apply x_cons_ok
          · exact x_fail
          · exact x_nil_ok
        · exact x_nil_ok
      · exact x_nil_ok
theorem d_check_highs {P : Params} {hb : Heap} (T : Top0 P hb) : DefOk hb 163 (fdN P 163) (bodyOf (fdN P 163)) (["world", "highs"] : List Str) (["high"] : List Str) :=
  defOk_of T 163 _ _ (by kernel_rfl) (by kernel_rfl) (by kernel_rfl) (fun vs h => match vs, h with | [_, _], _ => by kernel_rfl) (by kernel_rfl) (by kernel_rfl) (by kernel_rfl) (by decide) (by kernel_rfl) (by kernel_rfl) (by kernel_rfl)
theorem c_check_highs (P : Params) (w : World) (β : Gl) (hw : β.w = w) (hb : Heap) (hβ : 1 ≤ β.b ∧ β.b ≤ 900) (T : Top0 P hb) : CallS PG w hb β 12 (.ref 163) (callL 2 [] 1 s_check_highs.1) :=
  call_def (d_check_highs T) (fun _ _ => .nil) fun L => s_check_highs.2 P w hb β hw hβ T L
end Mine
end

section
open PySem PySem.W PyProof.Rows PySem.Spec PySem.Calls
set_option maxRecDepth 100000
set_option maxHeartbeats 4000000
namespace Mine
noncomputable def s_dim : PSigma fun F : St → Option (Fl × St) => ∀ (P : Params) (w : World) (hb : Heap) (β : Gl) (hw : β.w = w) (hβ : 1 ≤ β.b ∧ β.b ≤ 900) (T : Top0 P hb) (L : Addr), ExS PG w hb β (defBk (fdN P 170) 170 ((["world", "word", "highs"] : List Str) ++ ([] : List Str)) L) 13 (execs (bodyOf (fdN P 170)) (defBk (fdN P 170) 170 ((["world", "word", "highs"] : List Str) ++ ([] : List Str)) L).env) F := by
  apply PSigma.mk
  intro P w hb β hw hβ T L
  apply x_cons_ok
  · apply x_if
    · apply t_inD_ok (neg := false) (hw := hw) (hm := by kernel_rfl)
      · exact e_name 1 (by kernel_rfl) (by kernel_rfl) (by kernel_rfl)
      · apply e_attr (C := 249) (i := 18) (hK := T.K) (hC := clsWorld P) (hin := by kernel_rfl) (hx := by kernel_rfl)
        · exact e_name 0 (by kernel_rfl) (by kernel_rfl) (by kernel_rfl)
    · apply x_cons_ok
      · exact x_fail
      · exact x_nil_ok
    · exact x_nil_ok
  · apply x_cons_ok
    · apply x_expr (hi' := by kernel_rfl) (hs := by kernel_rfl)
      apply e_call (f := .ref 163) (hn := (nameG_mod T (by kernel_rfl) (by kernel_rfl) (by kernel_rfl) (by kernel_rfl) (by kernel_rfl))) (hk := keptK T (by kernel_rfl)) (hF := c_check_highs P w β hw hb hβ T) (hr := by decide) (hs := by kernel_rfl) (he := fun _ _ _ _ _ h => evalArgs_plain h)
      apply es_cons (hx := by kernel_rfl)
      · exact e_name 0 (by kernel_rfl) (by kernel_rfl) (by kernel_rfl)
      · apply es_cons (hx := by kernel_rfl)
        · exact e_name 2 (by kernel_rfl) (by kernel_rfl) (by kernel_rfl)
        · exact es_nil
    · apply x_cons_ok
      · apply x_setD_ok (hw := hw) (hs := by kernel_rfl)
        · apply e_call (f := .ref 138) (hn := (nameG_mod T (by kernel_rfl) (by kernel_rfl) (by kernel_rfl) (by kernel_rfl) (by kernel_rfl))) (hk := keptK T (by kernel_rfl)) (hF := c_Grid P w β hw hb hβ T) (hr := by decide) (hs := by kernel_rfl) (he := fun _ _ _ _ _ h => evalArgs_plain h)
          apply es_cons (hx := by kernel_rfl)
          · apply e_call (f := .ref 156) (hn := (nameG_mod T (by kernel_rfl) (by kernel_rfl) (by kernel_rfl) (by kernel_rfl) (by kernel_rfl))) (hk := keptK T (by kernel_rfl)) (hF := c_kind_in P w β hw hb hβ T) (hr := by decide) (hs := by kernel_rfl) (he := fun _ _ _ _ _ h => evalArgs_plain h)
            apply es_cons (hx := by kernel_rfl)
            · exact e_name 0 (by kernel_rfl) (by kernel_rfl) (by kernel_rfl)
            · apply es_cons (hx := by kernel_rfl)
              · exact e_name 1 (by kernel_rfl) (by kernel_rfl) (by kernel_rfl)
              · exact es_nil
          · apply es_cons (hx := by kernel_rfl)
            · exact e_name 2 (by kernel_rfl) (by kernel_rfl) (by kernel_rfl)
            · apply es_cons (hx := by kernel_rfl)
              · apply e_attr (C := 249) (i := 10) (hK := T.K) (hC := clsWorld P) (hin := by kernel_rfl) (hx := by kernel_rfl)
                · exact e_name 0 (by kernel_rfl) (by kernel_rfl) (by kernel_rfl)
              · exact es_nil
        · apply e_attr (C := 249) (i := 18) (hK := T.K) (hC := clsWorld P) (hin := by kernel_rfl) (hx := by kernel_rfl)
          · exact e_name 0 (by kernel_rfl) (by kernel_rfl) (by kernel_rfl)
        · exact e_name 1 (by kernel_rfl) (by kernel_rfl) (by kernel_rfl)
      · exact x_nil_ok
theorem d_dim {P : Params} {hb : Heap} (T : Top0 P hb) : DefOk hb 170 (fdN P 170) (bodyOf (fdN P 170)) (["world", "word", "highs"] : List Str) ([] : List Str) :=
  defOk_of T 170 _ _ (by kernel_rfl) (by kernel_rfl) (by kernel_rfl) (fun vs h => match vs, h with | [_, _, _], _ => by kernel_rfl) (by kernel_rfl) (by kernel_rfl) (by kernel_rfl) (by decide) (by kernel_rfl) (by kernel_rfl) (by kernel_rfl)
theorem c_dim (P : Params) (w : World) (β : Gl) (hw : β.w = w) (hb : Heap) (hβ : 1 ≤ β.b ∧ β.b ≤ 900) (T : Top0 P hb) : CallS PG w hb β 14 (.ref 170) (callL 3 [] 0 s_dim.1) :=
  call_def (d_dim T) (fun _ _ => .nil) fun L => s_dim.2 P w hb β hw hβ T L
end Mine
end

section
open PySem PySem.W PyProof.Rows PySem.Spec PySem.Calls
set_option maxRecDepth 100000
set_option maxHeartbeats 4000000
namespace Mine
noncomputable def s_grid_of : PSigma fun F : St → Option (Fl × St) => ∀ (P : Params) (w : World) (hb : Heap) (β : Gl) (hw : β.w = w) (hβ : 1 ≤ β.b ∧ β.b ≤ 900) (T : Top0 P hb) (L : Addr), ExS PG w hb β (defBk (fdN P 177) 177 ((["world", "word", "many"] : List Str) ++ ([] : List Str)) L) 10 (execs (bodyOf (fdN P 177)) (defBk (fdN P 177) 177 ((["world", "word", "many"] : List Str) ++ ([] : List Str)) L).env) F := by
  apply PSigma.mk
  intro P w hb β hw hβ T L
  apply x_cons_ok
  · apply x_if
    · apply t_inD_ok (neg := true) (hw := hw) (hm := by kernel_rfl)
      · exact e_name 1 (by kernel_rfl) (by kernel_rfl) (by kernel_rfl)
      · apply e_attr (C := 249) (i := 18) (hK := T.K) (hC := clsWorld P) (hin := by kernel_rfl) (hx := by kernel_rfl)
        · exact e_name 0 (by kernel_rfl) (by kernel_rfl) (by kernel_rfl)
    · exact x_fail
    · exact x_nil_ok
  · apply x_cons_ok
    · apply x_return
      apply e_subD (hw := hw) (hs := fun _ _ => by kernel_rfl)
      · apply e_attr (C := 249) (i := 18) (hK := T.K) (hC := clsWorld P) (hin := by kernel_rfl) (hx := by kernel_rfl)
        · exact e_name 0 (by kernel_rfl) (by kernel_rfl) (by kernel_rfl)
      · exact e_name 1 (by kernel_rfl) (by kernel_rfl) (by kernel_rfl)
    · exact x_nil_ok
theorem d_grid_of {P : Params} {hb : Heap} (T : Top0 P hb) : DefOk hb 177 (fdN P 177) (bodyOf (fdN P 177)) (["world", "word", "many"] : List Str) ([] : List Str) :=
  defOk_of T 177 _ _ (by kernel_rfl) (by kernel_rfl) (by kernel_rfl) (fun vs h => match vs, h with | [_, _, _], _ => by kernel_rfl) (by kernel_rfl) (by kernel_rfl) (by kernel_rfl) (by decide) (by kernel_rfl) (by kernel_rfl) (by kernel_rfl)
theorem c_grid_of (P : Params) (w : World) (β : Gl) (hw : β.w = w) (hb : Heap) (hβ : 1 ≤ β.b ∧ β.b ≤ 900) (T : Top0 P hb) : CallS PG w hb β 11 (.ref 177) (callL 3 [] 0 s_grid_of.1) :=
  call_def (d_grid_of T) (fun _ _ => .nil) fun L => s_grid_of.2 P w hb β hw hβ T L
end Mine
end

section
open PySem PySem.W PyProof.Rows PySem.Spec PySem.Calls
set_option maxRecDepth 100000
set_option maxHeartbeats 4000000
namespace Mine
noncomputable def s_option_base : PSigma fun F : St → Option (Fl × St) => ∀ (P : Params) (w : World) (hb : Heap) (β : Gl) (hw : β.w = w) (hβ : 1 ≤ β.b ∧ β.b ≤ 900) (T : Top0 P hb) (L : Addr), ExS PG w hb β (defBk (fdN P 184) 184 ((["world", "base"] : List Str) ++ ([] : List Str)) L) 10 (execs (bodyOf (fdN P 184)) (defBk (fdN P 184) 184 ((["world", "base"] : List Str) ++ ([] : List Str)) L).env) F := by
  apply PSigma.mk
  intro P w hb β hw hβ T L
  apply x_cons_ok
  · apply x_if
    · apply t_ninT_ok (hm := by kernel_rfl)
      · exact e_name 1 (by kernel_rfl) (by kernel_rfl) (by kernel_rfl)
      · apply es_cons (hx := by kernel_rfl)
        · exact e_int
        · apply es_cons (hx := by kernel_rfl)
          · exact e_int
          · exact es_nil
    · apply x_cons_ok
      · exact x_fail
      · exact x_nil_ok
    · exact x_nil_ok
  · apply x_cons_ok
    · apply x_if
      · apply t_cmp (hr := by decide) (hβ := hβ) (hm := by kernel_rfl)
        · apply e_call (f := .builtin "len") (r' := 10) (hn := (nameG_bi T (by kernel_rfl) (by kernel_rfl) (by kernel_rfl) (by kernel_rfl) (by kernel_rfl) (by kernel_rfl) (by kernel_rfl) (by kernel_rfl))) (hk := kept_builtin) (hF := c_lenX_ok hw) (hr := by decide) (hs := by kernel_rfl) (he := fun _ _ _ _ _ h => evalArgs_plain h)
          apply es_cons (hx := by kernel_rfl)
          · apply e_attr (C := 249) (i := 18) (hK := T.K) (hC := clsWorld P) (hin := by kernel_rfl) (hx := by kernel_rfl)
            · exact e_name 0 (by kernel_rfl) (by kernel_rfl) (by kernel_rfl)
          · exact es_nil
        · exact e_int
      · apply x_cons_ok
        · exact x_fail
        · exact x_nil_ok
      · exact x_nil_ok
    · apply x_cons_ok
      · apply x_setattr_ok (C := 249) (i := 10) (hK := T.K) (hC := clsWorld P) (hin := by kernel_rfl) (hx := by kernel_rfl) (hs := by kernel_rfl)
        · exact e_name 1 (by kernel_rfl) (by kernel_rfl) (by kernel_rfl)
        · exact e_name 0 (by kernel_rfl) (by kernel_rfl) (by kernel_rfl)
      · exact x_nil_ok
theorem d_option_base {P : Params} {hb : Heap} (T : Top0 P hb) : DefOk hb 184 (fdN P 184) (bodyOf (fdN P 184)) (["world", "base"] : List Str) ([] : List Str) :=
  defOk_of T 184 _ _ (by kernel_rfl) (by kernel_rfl) (by kernel_rfl) (fun vs h => match vs, h with | [_, _], _ => by kernel_rfl) (by kernel_rfl) (by kernel_rfl) (by kernel_rfl) (by decide) (by kernel_rfl) (by kernel_rfl) (by kernel_rfl)
theorem c_option_base (P : Params) (w : World) (β : Gl) (hw : β.w = w) (hb : Heap) (hβ : 1 ≤ β.b ∧ β.b ≤ 900) (T : Top0 P hb) : CallS PG w hb β 11 (.ref 184) (callL 2 [] 0 s_option_base.1) :=
  call_def (d_option_base T) (fun _ _ => .nil) fun L => s_option_base.2 P w hb β hw hβ T L
end Mine
end

section
open PySem PySem.W PyProof.Rows PySem.Spec PySem.Calls
set_option maxRecDepth 100000
set_option maxHeartbeats 4000000
namespace Mine
noncomputable def s_place_of : PSigma fun F : St → Option (Fl × St) => ∀ (P : Params) (w : World) (hb : Heap) (β : Gl) (hw : β.w = w) (hβ : 1 ≤ β.b ∧ β.b ≤ 900) (T : Top0 P hb) (L : Addr), ExS PG w hb β (defBk (fdN P 191) 191 ((["grid", "subs"] : List Str) ++ (["found", "sub", "high"] : List Str)) L) 10 (execs (bodyOf (fdN P 191)) (defBk (fdN P 191) 191 ((["grid", "subs"] : List Str) ++ (["found", "sub", "high"] : List Str)) L).env) F := by
  apply PSigma.mk
  intro P w hb β hw hβ T L
  apply x_cons_ok
  · apply x_if
    · apply t_cmp (hr := by decide) (hβ := hβ) (hm := by kernel_rfl)
      · apply e_call (f := .builtin "len") (r' := 10) (hn := (nameG_bi T (by kernel_rfl) (by kernel_rfl) (by kernel_rfl) (by kernel_rfl) (by kernel_rfl) (by kernel_rfl) (by kernel_rfl) (by kernel_rfl))) (hk := kept_builtin) (hF := c_lenX_ok hw) (hr := by decide) (hs := by kernel_rfl) (he := fun _ _ _ _ _ h => evalArgs_plain h)
        apply es_cons (hx := by kernel_rfl)
        · exact e_name 1 (by kernel_rfl) (by kernel_rfl) (by kernel_rfl)
        · exact es_nil
      · apply e_call (f := .builtin "len") (r' := 10) (hn := (nameG_bi T (by kernel_rfl) (by kernel_rfl) (by kernel_rfl) (by kernel_rfl) (by kernel_rfl) (by kernel_rfl) (by kernel_rfl) (by kernel_rfl))) (hk := kept_builtin) (hF := c_lenX_ok hw) (hr := by decide) (hs := by kernel_rfl) (he := fun _ _ _ _ _ h => evalArgs_plain h)
        apply es_cons (hx := by kernel_rfl)
        · apply e_attr (C := 138) (i := 9) (hK := T.K) (hC := clsGrid P) (hin := by kernel_rfl) (hx := by kernel_rfl)
          · exact e_name 0 (by kernel_rfl) (by kernel_rfl) (by kernel_rfl)
        · exact es_nil
    · apply x_cons_ok
      · exact x_fail
      · exact x_nil_ok
    · exact x_nil_ok
  · apply x_cons_ok
    · apply x_assign (i := 2) (hx := by kernel_rfl) (hd := by kernel_rfl) (hk := by kernel_rfl) (hsk := by kernel_rfl) (hs := by kernel_rfl)
      exact e_int
    · apply x_cons_ok
      · apply x_for_ok (hs := fun _ => by kernel_rfl)
        · apply src_zip (hn := (nameG_bi T (by kernel_rfl) (by kernel_rfl) (by kernel_rfl) (by kernel_rfl) (by kernel_rfl) (by kernel_rfl) (by kernel_rfl) (by kernel_rfl))) (hs := by kernel_rfl) (he := fun _ _ _ _ _ h => evalArgs_plain h)
          apply es_cons (hx := by kernel_rfl)
          · exact e_name 1 (by kernel_rfl) (by kernel_rfl) (by kernel_rfl)
          · apply es_cons (hx := by kernel_rfl)
            · apply e_attr (C := 138) (i := 9) (hK := T.K) (hC := clsGrid P) (hin := by kernel_rfl) (hx := by kernel_rfl)
              · exact e_name 0 (by kernel_rfl) (by kernel_rfl) (by kernel_rfl)
            · exact es_nil
        · exact unpack_ok (.cons (t_name 3 (by kernel_rfl) (by kernel_rfl) (by kernel_rfl) (by kernel_rfl)) (.cons (t_name 4 (by kernel_rfl) (by kernel_rfl) (by kernel_rfl) (by kernel_rfl)) (.nil))) (by kernel_rfl) (by kernel_rfl) (by kernel_rfl)
        · apply x_cons_ok
          · apply x_if
            · apply t_not1
              apply t_chain2 (hr := by decide) (hβ := hβ) (hm := by kernel_rfl)
              · apply e_attr (C := 138) (i := 10) (hK := T.K) (hC := clsGrid P) (hin := by kernel_rfl) (hx := by kernel_rfl)
                · exact e_name 0 (by kernel_rfl) (by kernel_rfl) (by kernel_rfl)
              · exact e_name 3 (by kernel_rfl) (by kernel_rfl) (by kernel_rfl)
              · exact e_name 4 (by kernel_rfl) (by kernel_rfl) (by kernel_rfl)
            · apply x_cons_ok
              · exact x_fail
              · exact x_nil_ok
            · exact x_nil_ok
          · apply x_cons_ok
            · apply x_assign (i := 2) (hx := by kernel_rfl) (hd := by kernel_rfl) (hk := by kernel_rfl) (hsk := by kernel_rfl) (hs := by kernel_rfl)
              apply e_bin
              · apply e_bin
                · apply e_bin
                  · exact e_name 2 (by kernel_rfl) (by kernel_rfl) (by kernel_rfl)
                  · apply e_bin
                    · apply e_bin
                      · exact e_name 4 (by kernel_rfl) (by kernel_rfl) (by kernel_rfl)
                      · apply e_attr (C := 138) (i := 10) (hK := T.K) (hC := clsGrid P) (hin := by kernel_rfl) (hx := by kernel_rfl)
                        · exact e_name 0 (by kernel_rfl) (by kernel_rfl) (by kernel_rfl)
                    · exact e_int
                · exact e_name 3 (by kernel_rfl) (by kernel_rfl) (by kernel_rfl)
              · apply e_attr (C := 138) (i := 10) (hK := T.K) (hC := clsGrid P) (hin := by kernel_rfl) (hx := by kernel_rfl)
                · exact e_name 0 (by kernel_rfl) (by kernel_rfl) (by kernel_rfl)
            · exact x_nil_ok
      · apply x_cons_ok
        · apply x_return
          exact e_name 2 (by kernel_rfl) (by kernel_rfl) (by kernel_rfl)
        · exact x_nil_ok
theorem d_place_of {P : Params} {hb : Heap} (T : Top0 P hb) : DefOk hb 191 (fdN P 191) (bodyOf (fdN P 191)) (["grid", "subs"] : List Str) (["found", "sub", "high"] : List Str) :=
  defOk_of T 191 _ _ (by kernel_rfl) (by kernel_rfl) (by kernel_rfl) (fun vs h => match vs, h with | [_, _], _ => by kernel_rfl) (by kernel_rfl) (by kernel_rfl) (by kernel_rfl) (by decide) (by kernel_rfl) (by kernel_rfl) (by kernel_rfl)
theorem c_place_of (P : Params) (w : World) (β : Gl) (hw : β.w = w) (hb : Heap) (hβ : 1 ≤ β.b ∧ β.b ≤ 900) (T : Top0 P hb) : CallS PG w hb β 11 (.ref 191) (callL 2 [] 3 s_place_of.1) :=
  call_def (d_place_of T) (fun _ _ => .nil) fun L => s_place_of.2 P w hb β hw hβ T L
end Mine
end

section
open PySem PySem.W PyProof.Rows PySem.Spec PySem.Calls
set_option maxRecDepth 100000
set_option maxHeartbeats 4000000
namespace Mine
noncomputable def s_subs_of : PSigma fun F : St → Option (Fl × St) => ∀ (P : Params) (w : World) (hb : Heap) (β : Gl) (hw : β.w = w) (hβ : 1 ≤ β.b ∧ β.b ≤ 900) (T : Top0 P hb) (L : Addr), ExS PG w hb β (defBk (fdN P 198) 198 ((["grid", "place"] : List Str) ++ (["found", "high"] : List Str)) L) 10 (execs (bodyOf (fdN P 198)) (defBk (fdN P 198) 198 ((["grid", "place"] : List Str) ++ (["found", "high"] : List Str)) L).env) F := by
  apply PSigma.mk
  intro P w hb β hw hβ T L
  apply x_cons_ok
  · apply x_assign (i := 2) (hx := by kernel_rfl) (hd := by kernel_rfl) (hk := by kernel_rfl) (hsk := by kernel_rfl) (hs := by kernel_rfl)
    exact e_newM
  · apply x_cons_ok
    · apply x_for_ok (hs := fun _ => by kernel_rfl)
      · apply src_rev (hn := (nameG_bi T (by kernel_rfl) (by kernel_rfl) (by kernel_rfl) (by kernel_rfl) (by kernel_rfl) (by kernel_rfl) (by kernel_rfl) (by kernel_rfl))) (hs := by kernel_rfl) (he := fun _ _ _ _ _ h => evalArgs_plain h)
        apply es_cons (hx := by kernel_rfl)
        · apply e_attr (C := 138) (i := 9) (hK := T.K) (hC := clsGrid P) (hin := by kernel_rfl) (hx := by kernel_rfl)
          · exact e_name 0 (by kernel_rfl) (by kernel_rfl) (by kernel_rfl)
        · exact es_nil
      · exact t_name 3 (by kernel_rfl) (by kernel_rfl) (by kernel_rfl) (by kernel_rfl)
      · apply x_cons_ok
        · apply x_expr (hi' := by kernel_rfl) (hs := by kernel_rfl)
          apply e_append (hbase := by kernel_rfl) (hfew := by kernel_rfl) (hline := by kernel_rfl) (htrees := by kernel_rfl)
          · exact e_name 2 (by kernel_rfl) (by kernel_rfl) (by kernel_rfl)
          · apply e_bin
            · apply e_attr (C := 138) (i := 10) (hK := T.K) (hC := clsGrid P) (hin := by kernel_rfl) (hx := by kernel_rfl)
              · exact e_name 0 (by kernel_rfl) (by kernel_rfl) (by kernel_rfl)
            · apply e_bin
              · exact e_name 1 (by kernel_rfl) (by kernel_rfl) (by kernel_rfl)
              · apply e_bin
                · apply e_bin
                  · exact e_name 3 (by kernel_rfl) (by kernel_rfl) (by kernel_rfl)
                  · apply e_attr (C := 138) (i := 10) (hK := T.K) (hC := clsGrid P) (hin := by kernel_rfl) (hx := by kernel_rfl)
                    · exact e_name 0 (by kernel_rfl) (by kernel_rfl) (by kernel_rfl)
                · exact e_int
        · apply x_cons_ok
          · apply x_assign (i := 1) (hx := by kernel_rfl) (hd := by kernel_rfl) (hk := by kernel_rfl) (hsk := by kernel_rfl) (hs := by kernel_rfl)
            apply e_bin
            · exact e_name 1 (by kernel_rfl) (by kernel_rfl) (by kernel_rfl)
            · apply e_bin
              · apply e_bin
                · exact e_name 3 (by kernel_rfl) (by kernel_rfl) (by kernel_rfl)
                · apply e_attr (C := 138) (i := 10) (hK := T.K) (hC := clsGrid P) (hin := by kernel_rfl) (hx := by kernel_rfl)
                  · exact e_name 0 (by kernel_rfl) (by kernel_rfl) (by kernel_rfl)
              · exact e_int
          · exact x_nil_ok
    · apply x_cons_ok
      · apply x_return
        apply e_rev
        · exact e_name 2 (by kernel_rfl) (by kernel_rfl) (by kernel_rfl)
      · exact x_nil_ok
theorem d_subs_of {P : Params} {hb : Heap} (T : Top0 P hb) : DefOk hb 198 (fdN P 198) (bodyOf (fdN P 198)) (["grid", "place"] : List Str) (["found", "high"] : List Str) :=
  defOk_of T 198 _ _ (by kernel_rfl) (by kernel_rfl) (by kernel_rfl) (fun vs h => match vs, h with | [_, _], _ => by kernel_rfl) (by kernel_rfl) (by kernel_rfl) (by kernel_rfl) (by decide) (by kernel_rfl) (by kernel_rfl) (by kernel_rfl)
theorem c_subs_of (P : Params) (w : World) (β : Gl) (hw : β.w = w) (hb : Heap) (hβ : 1 ≤ β.b ∧ β.b ≤ 900) (T : Top0 P hb) : CallS PG w hb β 11 (.ref 198) (callL 2 [] 2 s_subs_of.1) :=
  call_def (d_subs_of T) (fun _ _ => .nil) fun L => s_subs_of.2 P w hb β hw hβ T L
end Mine
end

section
open PySem PySem.W PyProof.Rows PySem.Spec PySem.Calls
set_option maxRecDepth 100000
set_option maxHeartbeats 4000000
namespace Mine
noncomputable def s_get_item : PSigma fun F : St → Option (Fl × St) => ∀ (P : Params) (w : World) (hb : Heap) (β : Gl) (hw : β.w = w) (hβ : 1 ≤ β.b ∧ β.b ≤ 900) (T : Top0 P hb) (L : Addr), ExS PG w hb β (defBk (fdN P 205) 205 ((["world", "word", "subs"] : List Str) ++ (["grid"] : List Str)) L) 11 (execs (bodyOf (fdN P 205)) (defBk (fdN P 205) 205 ((["world", "word", "subs"] : List Str) ++ (["grid"] : List Str)) L).env) F := by
  apply PSigma.mk
  intro P w hb β hw hβ T L
  apply x_cons_ok
  · apply x_assign (i := 3) (hx := by kernel_rfl) (hd := by kernel_rfl) (hk := by kernel_rfl) (hsk := by kernel_rfl) (hs := by kernel_rfl)
    apply e_call (f := .ref 177) (hn := (nameG_mod T (by kernel_rfl) (by kernel_rfl) (by kernel_rfl) (by kernel_rfl) (by kernel_rfl))) (hk := keptK T (by kernel_rfl)) (hF := c_grid_of P w β hw hb hβ T) (hr := by decide) (hs := by kernel_rfl) (he := fun _ _ _ _ _ h => evalArgs_plain h)
    apply es_cons (hx := by kernel_rfl)
    · exact e_name 0 (by kernel_rfl) (by kernel_rfl) (by kernel_rfl)
    · apply es_cons (hx := by kernel_rfl)
      · exact e_name 1 (by kernel_rfl) (by kernel_rfl) (by kernel_rfl)
      · apply es_cons (hx := by kernel_rfl)
        · apply e_call (f := .builtin "len") (r' := 10) (hn := (nameG_bi T (by kernel_rfl) (by kernel_rfl) (by kernel_rfl) (by kernel_rfl) (by kernel_rfl) (by kernel_rfl) (by kernel_rfl) (by kernel_rfl))) (hk := kept_builtin) (hF := c_lenX_ok hw) (hr := by decide) (hs := by kernel_rfl) (he := fun _ _ _ _ _ h => evalArgs_plain h)
          apply es_cons (hx := by kernel_rfl)
          · exact e_name 2 (by kernel_rfl) (by kernel_rfl) (by kernel_rfl)
          · exact es_nil
        · exact es_nil
  · apply x_cons_ok
    · apply x_return
      apply e_sub (hs := fun _ _ => by kernel_rfl)
      · apply e_attr (C := 138) (i := 11) (hK := T.K) (hC := clsGrid P) (hin := by kernel_rfl) (hx := by kernel_rfl)
        · exact e_name 3 (by kernel_rfl) (by kernel_rfl) (by kernel_rfl)
      · apply e_call (f := .ref 191) (hn := (nameG_mod T (by kernel_rfl) (by kernel_rfl) (by kernel_rfl) (by kernel_rfl) (by kernel_rfl))) (hk := keptK T (by kernel_rfl)) (hF := c_place_of P w β hw hb hβ T) (hr := by decide) (hs := by kernel_rfl) (he := fun _ _ _ _ _ h => evalArgs_plain h)
        apply es_cons (hx := by kernel_rfl)
        · exact e_name 3 (by kernel_rfl) (by kernel_rfl) (by kernel_rfl)
        · apply es_cons (hx := by kernel_rfl)
          · exact e_name 2 (by kernel_rfl) (by kernel_rfl) (by kernel_rfl)
          · exact es_nil
    · exact x_nil_ok
theorem d_get_item {P : Params} {hb : Heap} (T : Top0 P hb) : DefOk hb 205 (fdN P 205) (bodyOf (fdN P 205)) (["world", "word", "subs"] : List Str) (["grid"] : List Str) :=
  defOk_of T 205 _ _ (by kernel_rfl) (by kernel_rfl) (by kernel_rfl) (fun vs h => match vs, h with | [_, _, _], _ => by kernel_rfl) (by kernel_rfl) (by kernel_rfl) (by kernel_rfl) (by decide) (by kernel_rfl) (by kernel_rfl) (by kernel_rfl)
theorem c_get_item (P : Params) (w : World) (β : Gl) (hw : β.w = w) (hb : Heap) (hβ : 1 ≤ β.b ∧ β.b ≤ 900) (T : Top0 P hb) : CallS PG w hb β 12 (.ref 205) (callL 3 [] 1 s_get_item.1) :=
  call_def (d_get_item T) (fun _ _ => .nil) fun L => s_get_item.2 P w hb β hw hβ T L
end Mine
end

section
open PySem PySem.W PyProof.Rows PySem.Spec PySem.Calls
set_option maxRecDepth 100000
set_option maxHeartbeats 4000000
namespace Mine
noncomputable def s_set_item : PSigma fun F : St → Option (Fl × St) => ∀ (P : Params) (w : World) (hb : Heap) (β : Gl) (hw : β.w = w) (hβ : 1 ≤ β.b ∧ β.b ≤ 900) (T : Top0 P hb) (L : Addr), ExS PG w hb β (defBk (fdN P 212) 212 ((["world", "word", "subs", "value"] : List Str) ++ (["grid", "place"] : List Str)) L) 13 (execs (bodyOf (fdN P 212)) (defBk (fdN P 212) 212 ((["world", "word", "subs", "value"] : List Str) ++ (["grid", "place"] : List Str)) L).env) F := by
  apply PSigma.mk
  intro P w hb β hw hβ T L
  apply x_cons_ok
  · apply x_assign (i := 4) (hx := by kernel_rfl) (hd := by kernel_rfl) (hk := by kernel_rfl) (hsk := by kernel_rfl) (hs := by kernel_rfl)
    apply e_call (f := .ref 177) (hn := (nameG_mod T (by kernel_rfl) (by kernel_rfl) (by kernel_rfl) (by kernel_rfl) (by kernel_rfl))) (hk := keptK T (by kernel_rfl)) (hF := c_grid_of P w β hw hb hβ T) (hr := by decide) (hs := by kernel_rfl) (he := fun _ _ _ _ _ h => evalArgs_plain h)
    apply es_cons (hx := by kernel_rfl)
    · exact e_name 0 (by kernel_rfl) (by kernel_rfl) (by kernel_rfl)
    · apply es_cons (hx := by kernel_rfl)
      · exact e_name 1 (by kernel_rfl) (by kernel_rfl) (by kernel_rfl)
      · apply es_cons (hx := by kernel_rfl)
        · apply e_call (f := .builtin "len") (r' := 10) (hn := (nameG_bi T (by kernel_rfl) (by kernel_rfl) (by kernel_rfl) (by kernel_rfl) (by kernel_rfl) (by kernel_rfl) (by kernel_rfl) (by kernel_rfl))) (hk := kept_builtin) (hF := c_lenX_ok hw) (hr := by decide) (hs := by kernel_rfl) (he := fun _ _ _ _ _ h => evalArgs_plain h)
          apply es_cons (hx := by kernel_rfl)
          · exact e_name 2 (by kernel_rfl) (by kernel_rfl) (by kernel_rfl)
          · exact es_nil
        · exact es_nil
  · apply x_cons_ok
    · apply x_assign (i := 5) (hx := by kernel_rfl) (hd := by kernel_rfl) (hk := by kernel_rfl) (hsk := by kernel_rfl) (hs := by kernel_rfl)
      apply e_call (f := .ref 191) (hn := (nameG_mod T (by kernel_rfl) (by kernel_rfl) (by kernel_rfl) (by kernel_rfl) (by kernel_rfl))) (hk := keptK T (by kernel_rfl)) (hF := c_place_of P w β hw hb hβ T) (hr := by decide) (hs := by kernel_rfl) (he := fun _ _ _ _ _ h => evalArgs_plain h)
      apply es_cons (hx := by kernel_rfl)
      · exact e_name 4 (by kernel_rfl) (by kernel_rfl) (by kernel_rfl)
      · apply es_cons (hx := by kernel_rfl)
        · exact e_name 2 (by kernel_rfl) (by kernel_rfl) (by kernel_rfl)
        · exact es_nil
    · apply x_cons_ok
      · apply x_setitem_ok (hs := by kernel_rfl)
        · apply e_call (f := .ref 121) (hn := (nameG_mod T (by kernel_rfl) (by kernel_rfl) (by kernel_rfl) (by kernel_rfl) (by kernel_rfl))) (hk := keptK T (by kernel_rfl)) (hF := c_suited P w β hw hb hβ T) (hr := by decide) (hs := by kernel_rfl) (he := fun _ _ _ _ _ h => evalArgs_plain h)
          apply es_cons (hx := by kernel_rfl)
          · exact e_name 3 (by kernel_rfl) (by kernel_rfl) (by kernel_rfl)
          · apply es_cons (hx := by kernel_rfl)
            · apply e_attr (C := 138) (i := 8) (hK := T.K) (hC := clsGrid P) (hin := by kernel_rfl) (hx := by kernel_rfl)
              · exact e_name 4 (by kernel_rfl) (by kernel_rfl) (by kernel_rfl)
            · apply es_cons (hx := by kernel_rfl)
              · apply e_attr (C := 249) (i := 13) (hK := T.K) (hC := clsWorld P) (hin := by kernel_rfl) (hx := by kernel_rfl)
                · exact e_name 0 (by kernel_rfl) (by kernel_rfl) (by kernel_rfl)
              · apply es_cons (hx := by kernel_rfl)
                · apply e_attr (C := 249) (i := 14) (hK := T.K) (hC := clsWorld P) (hin := by kernel_rfl) (hx := by kernel_rfl)
                  · exact e_name 0 (by kernel_rfl) (by kernel_rfl) (by kernel_rfl)
                · exact es_nil
        · apply e_attr (C := 138) (i := 11) (hK := T.K) (hC := clsGrid P) (hin := by kernel_rfl) (hx := by kernel_rfl)
          · exact e_name 4 (by kernel_rfl) (by kernel_rfl) (by kernel_rfl)
        · exact e_name 5 (by kernel_rfl) (by kernel_rfl) (by kernel_rfl)
      · exact x_nil_ok
theorem d_set_item {P : Params} {hb : Heap} (T : Top0 P hb) : DefOk hb 212 (fdN P 212) (bodyOf (fdN P 212)) (["world", "word", "subs", "value"] : List Str) (["grid", "place"] : List Str) :=
  defOk_of T 212 _ _ (by kernel_rfl) (by kernel_rfl) (by kernel_rfl) (fun vs h => match vs, h with | [_, _, _, _], _ => by kernel_rfl) (by kernel_rfl) (by kernel_rfl) (by kernel_rfl) (by decide) (by kernel_rfl) (by kernel_rfl) (by kernel_rfl)
theorem c_set_item (P : Params) (w : World) (β : Gl) (hw : β.w = w) (hb : Heap) (hβ : 1 ≤ β.b ∧ β.b ≤ 900) (T : Top0 P hb) : CallS PG w hb β 14 (.ref 212) (callL 4 [] 2 s_set_item.1) :=
  call_def (d_set_item T) (fun _ _ => .nil) fun L => s_set_item.2 P w hb β hw hβ T L
end Mine
end

section
open PySem PySem.W PyProof.Rows PySem.Spec PySem.Calls
set_option maxRecDepth 100000
set_option maxHeartbeats 4000000
namespace Mine
noncomputable def s_redim : PSigma fun F : St → Option (Fl × St) => ∀ (P : Params) (w : World) (hb : Heap) (β : Gl) (hw : β.w = w) (hβ : 1 ≤ β.b ∧ β.b ≤ 900) (T : Top0 P hb) (L : Addr), ExS PG w hb β (defBk (fdN P 219) 219 ((["world", "grid", "highs"] : List Str) ++ ([] : List Str)) L) 12 (execs (bodyOf (fdN P 219)) (defBk (fdN P 219) 219 ((["world", "grid", "highs"] : List Str) ++ ([] : List Str)) L).env) F := by
  apply PSigma.mk
  intro P w hb β hw hβ T L
  apply x_cons_ok
  · apply x_expr (hi' := by kernel_rfl) (hs := by kernel_rfl)
    apply e_call (f := .ref 163) (hn := (nameG_mod T (by kernel_rfl) (by kernel_rfl) (by kernel_rfl) (by kernel_rfl) (by kernel_rfl))) (hk := keptK T (by kernel_rfl)) (hF := c_check_highs P w β hw hb hβ T) (hr := by decide) (hs := by kernel_rfl) (he := fun _ _ _ _ _ h => evalArgs_plain h)
    apply es_cons (hx := by kernel_rfl)
    · exact e_name 0 (by kernel_rfl) (by kernel_rfl) (by kernel_rfl)
    · apply es_cons (hx := by kernel_rfl)
      · exact e_name 2 (by kernel_rfl) (by kernel_rfl) (by kernel_rfl)
      · exact es_nil
  · apply x_cons_ok
    · apply x_if
      · apply t_cmp (hr := by decide) (hβ := hβ) (hm := by kernel_rfl)
        · apply e_call (f := .ref 149) (hn := (nameG_mod T (by kernel_rfl) (by kernel_rfl) (by kernel_rfl) (by kernel_rfl) (by kernel_rfl))) (hk := keptK T (by kernel_rfl)) (hF := c_count_of P w β hw hb hβ T) (hr := by decide) (hs := by kernel_rfl) (he := fun _ _ _ _ _ h => evalArgs_plain h)
          apply es_cons (hx := by kernel_rfl)
          · exact e_name 2 (by kernel_rfl) (by kernel_rfl) (by kernel_rfl)
          · apply es_cons (hx := by kernel_rfl)
            · apply e_attr (C := 138) (i := 10) (hK := T.K) (hC := clsGrid P) (hin := by kernel_rfl) (hx := by kernel_rfl)
              · exact e_name 1 (by kernel_rfl) (by kernel_rfl) (by kernel_rfl)
            · exact es_nil
        · apply e_attr (C := 138) (i := 12) (hK := T.K) (hC := clsGrid P) (hin := by kernel_rfl) (hx := by kernel_rfl)
          · exact e_name 1 (by kernel_rfl) (by kernel_rfl) (by kernel_rfl)
      · apply x_cons_ok
        · exact x_fail
        · exact x_nil_ok
      · exact x_nil_ok
    · apply x_cons_ok
      · apply x_setattr_ok (C := 138) (i := 9) (hK := T.K) (hC := clsGrid P) (hin := by kernel_rfl) (hx := by kernel_rfl) (hs := by kernel_rfl)
        · apply e_call (f := .type "list") (r' := 10) (hn := (nameG_bi T (by kernel_rfl) (by kernel_rfl) (by kernel_rfl) (by kernel_rfl) (by kernel_rfl) (by kernel_rfl) (by kernel_rfl) (by kernel_rfl))) (hk := kept_type) (hF := c_list_ok) (hr := by decide) (hs := by kernel_rfl) (he := fun _ _ _ _ _ h => evalArgs_plain h)
          apply es_cons (hx := by kernel_rfl)
          · exact e_name 2 (by kernel_rfl) (by kernel_rfl) (by kernel_rfl)
          · exact es_nil
        · exact e_name 1 (by kernel_rfl) (by kernel_rfl) (by kernel_rfl)
      · apply x_cons_ok
        · apply x_setattr_ok (C := 138) (i := 11) (hK := T.K) (hC := clsGrid P) (hin := by kernel_rfl) (hx := by kernel_rfl) (hs := by kernel_rfl)
          · apply e_repM
            · apply es_cons (hx := by kernel_rfl)
              · apply e_call (f := .ref 51) (hn := (nameG_mod T (by kernel_rfl) (by kernel_rfl) (by kernel_rfl) (by kernel_rfl) (by kernel_rfl))) (hk := keptK T (by kernel_rfl)) (hF := c_first_value P w β hw hb hβ T) (hr := by decide) (hs := by kernel_rfl) (he := fun _ _ _ _ _ h => evalArgs_plain h)
                apply es_cons (hx := by kernel_rfl)
                · apply e_attr (C := 138) (i := 8) (hK := T.K) (hC := clsGrid P) (hin := by kernel_rfl) (hx := by kernel_rfl)
                  · exact e_name 1 (by kernel_rfl) (by kernel_rfl) (by kernel_rfl)
                · exact es_nil
              · exact es_nil
            · apply e_call (f := .ref 149) (hn := (nameG_mod T (by kernel_rfl) (by kernel_rfl) (by kernel_rfl) (by kernel_rfl) (by kernel_rfl))) (hk := keptK T (by kernel_rfl)) (hF := c_count_of P w β hw hb hβ T) (hr := by decide) (hs := by kernel_rfl) (he := fun _ _ _ _ _ h => evalArgs_plain h)
              apply es_cons (hx := by kernel_rfl)
              · exact e_name 2 (by kernel_rfl) (by kernel_rfl) (by kernel_rfl)
              · apply es_cons (hx := by kernel_rfl)
                · apply e_attr (C := 138) (i := 10) (hK := T.K) (hC := clsGrid P) (hin := by kernel_rfl) (hx := by kernel_rfl)
                  · exact e_name 1 (by kernel_rfl) (by kernel_rfl) (by kernel_rfl)
                · exact es_nil
          · exact e_name 1 (by kernel_rfl) (by kernel_rfl) (by kernel_rfl)
        · exact x_nil_ok
theorem d_redim {P : Params} {hb : Heap} (T : Top0 P hb) : DefOk hb 219 (fdN P 219) (bodyOf (fdN P 219)) (["world", "grid", "highs"] : List Str) ([] : List Str) :=
  defOk_of T 219 _ _ (by kernel_rfl) (by kernel_rfl) (by kernel_rfl) (fun vs h => match vs, h with | [_, _, _], _ => by kernel_rfl) (by kernel_rfl) (by kernel_rfl) (by kernel_rfl) (by decide) (by kernel_rfl) (by kernel_rfl) (by kernel_rfl)
theorem c_redim (P : Params) (w : World) (β : Gl) (hw : β.w = w) (hb : Heap) (hβ : 1 ≤ β.b ∧ β.b ≤ 900) (T : Top0 P hb) : CallS PG w hb β 13 (.ref 219) (callL 3 [] 0 s_redim.1) :=
  call_def (d_redim T) (fun _ _ => .nil) fun L => s_redim.2 P w hb β hw hβ T L
end Mine
end

section
open PySem PySem.W PyProof.Rows PySem.Spec PySem.Calls
set_option maxRecDepth 100000
set_option maxHeartbeats 4000000
namespace Mine
noncomputable def s_rows_of : PSigma fun F : St → Option (Fl × St) => ∀ (P : Params) (w : World) (hb : Heap) (β : Gl) (hw : β.w = w) (hβ : 1 ≤ β.b ∧ β.b ≤ 900) (T : Top0 P hb) (L : Addr), ExS PG w hb β (defBk (fdN P 224) 224 ((["grid"] : List Str) ++ (["first", "wide", "rows"] : List Str)) L) 10 (execs (bodyOf (fdN P 224)) (defBk (fdN P 224) 224 ((["grid"] : List Str) ++ (["first", "wide", "rows"] : List Str)) L).env) F := by
  apply PSigma.mk
  intro P w hb β hw hβ T L
  apply x_cons_ok
  · apply x_assign (i := 1) (hx := by kernel_rfl) (hd := by kernel_rfl) (hk := by kernel_rfl) (hsk := by kernel_rfl) (hs := by kernel_rfl)
    apply e_bin
    · exact e_int
    · apply e_attr (C := 138) (i := 10) (hK := T.K) (hC := clsGrid P) (hin := by kernel_rfl) (hx := by kernel_rfl)
      · exact e_name 0 (by kernel_rfl) (by kernel_rfl) (by kernel_rfl)
  · apply x_cons_ok
    · apply x_if
      · apply t_cmp (hr := by decide) (hβ := hβ) (hm := by kernel_rfl)
        · apply e_call (f := .builtin "len") (r' := 10) (hn := (nameG_bi T (by kernel_rfl) (by kernel_rfl) (by kernel_rfl) (by kernel_rfl) (by kernel_rfl) (by kernel_rfl) (by kernel_rfl) (by kernel_rfl))) (hk := kept_builtin) (hF := c_lenX_ok hw) (hr := by decide) (hs := by kernel_rfl) (he := fun _ _ _ _ _ h => evalArgs_plain h)
          apply es_cons (hx := by kernel_rfl)
          · apply e_attr (C := 138) (i := 9) (hK := T.K) (hC := clsGrid P) (hin := by kernel_rfl) (hx := by kernel_rfl)
            · exact e_name 0 (by kernel_rfl) (by kernel_rfl) (by kernel_rfl)
          · exact es_nil
        · exact e_int
      · apply x_cons_ok
        · apply x_return
          apply e_comp1 (ns := (["item"] : List Str)) (own := (["item"] : List Str)) (src := [none]) (hc := ⟨by kernel_rfl, by kernel_rfl, by kernel_rfl, by decide +kernel, by kernel_rfl, by kernel_rfl⟩) (hs := fun _ => by kernel_rfl)
          · apply src_list (ht := by kernel_rfl)
            apply e_from
            · apply e_attr (C := 138) (i := 11) (hK := T.K) (hC := clsGrid P) (hin := by kernel_rfl) (hx := by kernel_rfl)
              · exact e_name 0 (by kernel_rfl) (by kernel_rfl) (by kernel_rfl)
            · exact e_name 1 (by kernel_rfl) (by kernel_rfl) (by kernel_rfl)
          · intro C
            exact t_name 0 (by kernel_rfl) (by kernel_rfl) (by kernel_rfl) (by kernel_rfl)
          · intro C
            apply ac1
            apply e_list
            apply es_cons (hx := by kernel_rfl)
            · exact e_name 0 (by kernel_rfl) (by kernel_rfl) (by kernel_rfl)
            · exact es_nil
        · exact x_nil_ok
      · exact x_nil_ok
    · apply x_cons_ok
      · apply x_if
        · apply t_cmp (hr := by decide) (hβ := hβ) (hm := by kernel_rfl)
          · apply e_call (f := .builtin "len") (r' := 10) (hn := (nameG_bi T (by kernel_rfl) (by kernel_rfl) (by kernel_rfl) (by kernel_rfl) (by kernel_rfl) (by kernel_rfl) (by kernel_rfl) (by kernel_rfl))) (hk := kept_builtin) (hF := c_lenX_ok hw) (hr := by decide) (hs := by kernel_rfl) (he := fun _ _ _ _ _ h => evalArgs_plain h)
            apply es_cons (hx := by kernel_rfl)
            · apply e_attr (C := 138) (i := 9) (hK := T.K) (hC := clsGrid P) (hin := by kernel_rfl) (hx := by kernel_rfl)
              · exact e_name 0 (by kernel_rfl) (by kernel_rfl) (by kernel_rfl)
            · exact es_nil
          · exact e_int
        · apply x_cons_ok
          · exact x_fail
          · exact x_nil_ok
        · exact x_nil_ok
      · apply x_cons_ok
        · apply x_assign (i := 2) (hx := by kernel_rfl) (hd := by kernel_rfl) (hk := by kernel_rfl) (hsk := by kernel_rfl) (hs := by kernel_rfl)
          apply e_bin
          · apply e_bin
            · apply e_sub (hs := fun _ _ => by kernel_rfl)
              · apply e_attr (C := 138) (i := 9) (hK := T.K) (hC := clsGrid P) (hin := by kernel_rfl) (hx := by kernel_rfl)
                · exact e_name 0 (by kernel_rfl) (by kernel_rfl) (by kernel_rfl)
              · exact e_int
            · apply e_attr (C := 138) (i := 10) (hK := T.K) (hC := clsGrid P) (hin := by kernel_rfl) (hx := by kernel_rfl)
              · exact e_name 0 (by kernel_rfl) (by kernel_rfl) (by kernel_rfl)
          · exact e_int
        · apply x_cons_ok
          · apply x_comp1 (i := 3) (hsw := by kernel_rfl) (hx := by kernel_rfl) (hd := by kernel_rfl) (hk := by kernel_rfl) (hsk := by kernel_rfl) (ns := (["at", "grid", "wide"] : List Str)) (own := (["at"] : List Str)) (src := [none, some 0, some 2]) (hc := ⟨by kernel_rfl, by kernel_rfl, by kernel_rfl, by decide +kernel, by kernel_rfl, by kernel_rfl⟩) (hs := fun _ => by kernel_rfl)
            · apply src_range (hn := (nameG_bi T (by kernel_rfl) (by kernel_rfl) (by kernel_rfl) (by kernel_rfl) (by kernel_rfl) (by kernel_rfl) (by kernel_rfl) (by kernel_rfl))) (hs := by kernel_rfl) (he := fun _ _ _ _ _ h => evalArgs_plain h)
              apply es_cons (hx := by kernel_rfl)
              · exact e_int
              · apply es_cons (hx := by kernel_rfl)
                · apply e_call (f := .builtin "len") (r' := 10) (hn := (nameG_bi T (by kernel_rfl) (by kernel_rfl) (by kernel_rfl) (by kernel_rfl) (by kernel_rfl) (by kernel_rfl) (by kernel_rfl) (by kernel_rfl))) (hk := kept_builtin) (hF := c_lenX_ok hw) (hr := by decide) (hs := by kernel_rfl) (he := fun _ _ _ _ _ h => evalArgs_plain h)
                  apply es_cons (hx := by kernel_rfl)
                  · apply e_attr (C := 138) (i := 11) (hK := T.K) (hC := clsGrid P) (hin := by kernel_rfl) (hx := by kernel_rfl)
                    · exact e_name 0 (by kernel_rfl) (by kernel_rfl) (by kernel_rfl)
                  · exact es_nil
                · apply es_cons (hx := by kernel_rfl)
                  · exact e_name 2 (by kernel_rfl) (by kernel_rfl) (by kernel_rfl)
                  · exact es_nil
            · intro C
              exact t_name 0 (by kernel_rfl) (by kernel_rfl) (by kernel_rfl) (by kernel_rfl)
            · intro C
              apply ac1
              apply e_run
              · apply e_attr (C := 138) (i := 11) (hK := T.K) (hC := clsGrid P) (hin := by kernel_rfl) (hx := by kernel_rfl)
                · exact e_name 1 (by kernel_rfl) (by kernel_rfl) (by kernel_rfl)
              · exact e_name 0 (by kernel_rfl) (by kernel_rfl) (by kernel_rfl)
              · apply e_bin
                · exact e_name 0 (by kernel_rfl) (by kernel_rfl) (by kernel_rfl)
                · exact e_name 2 (by kernel_rfl) (by kernel_rfl) (by kernel_rfl)
          · apply x_cons_ok
            · apply x_return
              apply e_comp1 (ns := (["row", "first"] : List Str)) (own := (["row"] : List Str)) (src := [none, some 1]) (hc := ⟨by kernel_rfl, by kernel_rfl, by kernel_rfl, by decide +kernel, by kernel_rfl, by kernel_rfl⟩) (hs := fun _ => by kernel_rfl)
              · apply src_list (ht := by kernel_rfl)
                apply e_from
                · exact e_name 3 (by kernel_rfl) (by kernel_rfl) (by kernel_rfl)
                · exact e_name 1 (by kernel_rfl) (by kernel_rfl) (by kernel_rfl)
              · intro C
                exact t_name 0 (by kernel_rfl) (by kernel_rfl) (by kernel_rfl) (by kernel_rfl)
              · intro C
                apply ac1
                apply e_from
                · exact e_name 0 (by kernel_rfl) (by kernel_rfl) (by kernel_rfl)
                · exact e_name 1 (by kernel_rfl) (by kernel_rfl) (by kernel_rfl)
            · exact x_nil_ok
theorem d_rows_of {P : Params} {hb : Heap} (T : Top0 P hb) : DefOk hb 224 (fdN P 224) (bodyOf (fdN P 224)) (["grid"] : List Str) (["first", "wide", "rows"] : List Str) :=
  defOk_of T 224 _ _ (by kernel_rfl) (by kernel_rfl) (by kernel_rfl) (fun vs h => match vs, h with | [_], _ => by kernel_rfl) (by kernel_rfl) (by kernel_rfl) (by kernel_rfl) (by decide) (by kernel_rfl) (by kernel_rfl) (by kernel_rfl)
theorem c_rows_of (P : Params) (w : World) (β : Gl) (hw : β.w = w) (hb : Heap) (hβ : 1 ≤ β.b ∧ β.b ≤ 900) (T : Top0 P hb) : CallS PG w hb β 11 (.ref 224) (callL 1 [] 3 s_rows_of.1) :=
  call_def (d_rows_of T) (fun _ _ => .nil) fun L => s_rows_of.2 P w hb β hw hβ T L
end Mine
end

section
open PySem PySem.W PyProof.Rows PySem.Spec PySem.Calls
set_option maxRecDepth 100000
set_option maxHeartbeats 4000000
namespace Mine
noncomputable def s_put_rows : PSigma fun F : St → Option (Fl × St) => ∀ (P : Params) (w : World) (hb : Heap) (β : Gl) (hw : β.w = w) (hβ : 1 ≤ β.b ∧ β.b ≤ 900) (T : Top0 P hb) (L : Addr), ExS PG w hb β (defBk (fdN P 231) 231 ((["world", "grid", "rows"] : List Str) ++ (["row", "items", "column", "item", "subs"] : List Str)) L) 13 (execs (bodyOf (fdN P 231)) (defBk (fdN P 231) 231 ((["world", "grid", "rows"] : List Str) ++ (["row", "items", "column", "item", "subs"] : List Str)) L).env) F := by
  apply PSigma.mk
  intro P w hb β hw hβ T L
  apply x_cons_ok
  · apply x_for_ok (hs := fun _ => by kernel_rfl)
    · apply src_enum (hn := (nameG_bi T (by kernel_rfl) (by kernel_rfl) (by kernel_rfl) (by kernel_rfl) (by kernel_rfl) (by kernel_rfl) (by kernel_rfl) (by kernel_rfl))) (hs := by kernel_rfl) (he := fun _ _ _ _ _ h => evalArgs_plain h)
      apply es_cons (hx := by kernel_rfl)
      · exact e_name 2 (by kernel_rfl) (by kernel_rfl) (by kernel_rfl)
      · exact es_nil
    · exact unpack_ok (.cons (t_name 3 (by kernel_rfl) (by kernel_rfl) (by kernel_rfl) (by kernel_rfl)) (.cons (t_name 4 (by kernel_rfl) (by kernel_rfl) (by kernel_rfl) (by kernel_rfl)) (.nil))) (by kernel_rfl) (by kernel_rfl) (by kernel_rfl)
    · apply x_cons_ok
      · apply x_for_ok (hs := fun _ => by kernel_rfl)
        · apply src_enum (hn := (nameG_bi T (by kernel_rfl) (by kernel_rfl) (by kernel_rfl) (by kernel_rfl) (by kernel_rfl) (by kernel_rfl) (by kernel_rfl) (by kernel_rfl))) (hs := by kernel_rfl) (he := fun _ _ _ _ _ h => evalArgs_plain h)
          apply es_cons (hx := by kernel_rfl)
          · exact e_name 4 (by kernel_rfl) (by kernel_rfl) (by kernel_rfl)
          · exact es_nil
        · exact unpack_ok (.cons (t_name 5 (by kernel_rfl) (by kernel_rfl) (by kernel_rfl) (by kernel_rfl)) (.cons (t_name 6 (by kernel_rfl) (by kernel_rfl) (by kernel_rfl) (by kernel_rfl)) (.nil))) (by kernel_rfl) (by kernel_rfl) (by kernel_rfl)
        · apply x_cons_ok
          · apply x_assign (i := 7) (hx := by kernel_rfl) (hd := by kernel_rfl) (hk := by kernel_rfl) (hsk := by kernel_rfl) (hs := by kernel_rfl)
            apply e_ifexp
            · apply t_cmp (hr := by decide) (hβ := hβ) (hm := by kernel_rfl)
              · apply e_call (f := .builtin "len") (r' := 10) (hn := (nameG_bi T (by kernel_rfl) (by kernel_rfl) (by kernel_rfl) (by kernel_rfl) (by kernel_rfl) (by kernel_rfl) (by kernel_rfl) (by kernel_rfl))) (hk := kept_builtin) (hF := c_lenX_ok hw) (hr := by decide) (hs := by kernel_rfl) (he := fun _ _ _ _ _ h => evalArgs_plain h)
                apply es_cons (hx := by kernel_rfl)
                · apply e_attr (C := 138) (i := 9) (hK := T.K) (hC := clsGrid P) (hin := by kernel_rfl) (hx := by kernel_rfl)
                  · exact e_name 1 (by kernel_rfl) (by kernel_rfl) (by kernel_rfl)
                · exact es_nil
              · exact e_int
            · apply e_list
              apply es_cons (hx := by kernel_rfl)
              · apply e_bin
                · exact e_name 3 (by kernel_rfl) (by kernel_rfl) (by kernel_rfl)
                · exact e_int
              · exact es_nil
            · apply e_list
              apply es_cons (hx := by kernel_rfl)
              · apply e_bin
                · exact e_name 3 (by kernel_rfl) (by kernel_rfl) (by kernel_rfl)
                · exact e_int
              · apply es_cons (hx := by kernel_rfl)
                · apply e_bin
                  · exact e_name 5 (by kernel_rfl) (by kernel_rfl) (by kernel_rfl)
                  · exact e_int
                · exact es_nil
          · apply x_cons_ok
            · apply x_setitem_ok (hs := by kernel_rfl)
              · apply e_call (f := .ref 121) (hn := (nameG_mod T (by kernel_rfl) (by kernel_rfl) (by kernel_rfl) (by kernel_rfl) (by kernel_rfl))) (hk := keptK T (by kernel_rfl)) (hF := c_suited P w β hw hb hβ T) (hr := by decide) (hs := by kernel_rfl) (he := fun _ _ _ _ _ h => evalArgs_plain h)
                apply es_cons (hx := by kernel_rfl)
                · exact e_name 6 (by kernel_rfl) (by kernel_rfl) (by kernel_rfl)
                · apply es_cons (hx := by kernel_rfl)
                  · apply e_attr (C := 138) (i := 8) (hK := T.K) (hC := clsGrid P) (hin := by kernel_rfl) (hx := by kernel_rfl)
                    · exact e_name 1 (by kernel_rfl) (by kernel_rfl) (by kernel_rfl)
                  · apply es_cons (hx := by kernel_rfl)
                    · apply e_attr (C := 249) (i := 13) (hK := T.K) (hC := clsWorld P) (hin := by kernel_rfl) (hx := by kernel_rfl)
                      · exact e_name 0 (by kernel_rfl) (by kernel_rfl) (by kernel_rfl)
                    · apply es_cons (hx := by kernel_rfl)
                      · apply e_attr (C := 249) (i := 14) (hK := T.K) (hC := clsWorld P) (hin := by kernel_rfl) (hx := by kernel_rfl)
                        · exact e_name 0 (by kernel_rfl) (by kernel_rfl) (by kernel_rfl)
                      · exact es_nil
              · apply e_attr (C := 138) (i := 11) (hK := T.K) (hC := clsGrid P) (hin := by kernel_rfl) (hx := by kernel_rfl)
                · exact e_name 1 (by kernel_rfl) (by kernel_rfl) (by kernel_rfl)
              · apply e_call (f := .ref 191) (hn := (nameG_mod T (by kernel_rfl) (by kernel_rfl) (by kernel_rfl) (by kernel_rfl) (by kernel_rfl))) (hk := keptK T (by kernel_rfl)) (hF := c_place_of P w β hw hb hβ T) (hr := by decide) (hs := by kernel_rfl) (he := fun _ _ _ _ _ h => evalArgs_plain h)
                apply es_cons (hx := by kernel_rfl)
                · exact e_name 1 (by kernel_rfl) (by kernel_rfl) (by kernel_rfl)
                · apply es_cons (hx := by kernel_rfl)
                  · exact e_name 7 (by kernel_rfl) (by kernel_rfl) (by kernel_rfl)
                  · exact es_nil
            · exact x_nil_ok
      · exact x_nil_ok
  · exact x_nil_ok
theorem d_put_rows {P : Params} {hb : Heap} (T : Top0 P hb) : DefOk hb 231 (fdN P 231) (bodyOf (fdN P 231)) (["world", "grid", "rows"] : List Str) (["row", "items", "column", "item", "subs"] : List Str) :=
  defOk_of T 231 _ _ (by kernel_rfl) (by kernel_rfl) (by kernel_rfl) (fun vs h => match vs, h with | [_, _, _], _ => by kernel_rfl) (by kernel_rfl) (by kernel_rfl) (by kernel_rfl) (by decide) (by kernel_rfl) (by kernel_rfl) (by kernel_rfl)
theorem c_put_rows (P : Params) (w : World) (β : Gl) (hw : β.w = w) (hb : Heap) (hβ : 1 ≤ β.b ∧ β.b ≤ 900) (T : Top0 P hb) : CallS PG w hb β 14 (.ref 231) (callL 3 [] 5 s_put_rows.1) :=
  call_def (d_put_rows T) (fun _ _ => .nil) fun L => s_put_rows.2 P w hb β hw hβ T L
end Mine
end

section
open PySem PySem.W PyProof.Rows PySem.Spec PySem.Calls
set_option maxRecDepth 100000
set_option maxHeartbeats 4000000
namespace Mine
noncomputable def s__law_rows_of_places : PSigma fun F : St → Option (Fl × St) => ∀ (P : Params) (w : World) (hb : Heap) (β : Gl) (hw : β.w = w) (hβ : 1 ≤ β.b ∧ β.b ≤ 900) (T : Top0 P hb) (L : Addr), ExS PG w hb β (defBk (fdN P 272) 272 ((["highs", "base", "more"] : List Str) ++ (["found", "high"] : List Str)) L) 10 (execs (bodyOf (fdN P 272)) (defBk (fdN P 272) 272 ((["highs", "base", "more"] : List Str) ++ (["found", "high"] : List Str)) L).env) F := by
  apply PSigma.mk
  intro P w hb β hw hβ T L
  apply x_cons_ok
  · apply x_assign (i := 3) (hx := by kernel_rfl) (hd := by kernel_rfl) (hk := by kernel_rfl) (hsk := by kernel_rfl) (hs := by kernel_rfl)
    apply e_list
    apply es_cons (hx := by kernel_rfl)
    · apply e_list
      exact es_nil
    · exact es_nil
  · apply x_cons_ok
    · apply x_for_ok (hs := fun _ => by kernel_rfl)
      · apply src_list (ht := by kernel_rfl)
        exact e_name 0 (by kernel_rfl) (by kernel_rfl) (by kernel_rfl)
      · exact t_name 4 (by kernel_rfl) (by kernel_rfl) (by kernel_rfl) (by kernel_rfl)
      · apply x_cons_ok
        · apply x_comp2 (i := 3) (hsw := by kernel_rfl) (hx := by kernel_rfl) (hd := by kernel_rfl) (hk := by kernel_rfl) (hsk := by kernel_rfl) (ns := (["subs", "sub", "base", "more", "high"] : List Str)) (own := (["subs", "sub"] : List Str)) (src := [none, none, some 1, some 2, some 4]) (hc := ⟨by kernel_rfl, by kernel_rfl, by kernel_rfl, by decide +kernel, by kernel_rfl, by kernel_rfl⟩) (hs := fun _ => by kernel_rfl) (hs2 := fun _ _ => by kernel_rfl)
          · apply src_list (ht := by kernel_rfl)
            exact e_name 3 (by kernel_rfl) (by kernel_rfl) (by kernel_rfl)
          · intro C
            exact t_name 0 (by kernel_rfl) (by kernel_rfl) (by kernel_rfl) (by kernel_rfl)
          · intro C
            apply ac2
            · apply src_range (hn := (nameG_bi T (by kernel_rfl) (by kernel_rfl) (by kernel_rfl) (by kernel_rfl) (by kernel_rfl) (by kernel_rfl) (by kernel_rfl) (by kernel_rfl))) (hs := by kernel_rfl) (he := fun _ _ _ _ _ h => evalArgs_plain h)
              apply es_cons (hx := by kernel_rfl)
              · apply e_bin
                · exact e_name 2 (by kernel_rfl) (by kernel_rfl) (by kernel_rfl)
                · exact e_name 3 (by kernel_rfl) (by kernel_rfl) (by kernel_rfl)
              · apply es_cons (hx := by kernel_rfl)
                · apply e_bin
                  · apply e_bin
                    · exact e_name 4 (by kernel_rfl) (by kernel_rfl) (by kernel_rfl)
                    · exact e_name 3 (by kernel_rfl) (by kernel_rfl) (by kernel_rfl)
                  · exact e_int
                · exact es_nil
            · exact t_name 1 (by kernel_rfl) (by kernel_rfl) (by kernel_rfl) (by kernel_rfl)
            · apply ac1
              apply e_bin
              · exact e_name 0 (by kernel_rfl) (by kernel_rfl) (by kernel_rfl)
              · apply e_list
                apply es_cons (hx := by kernel_rfl)
                · exact e_name 1 (by kernel_rfl) (by kernel_rfl) (by kernel_rfl)
                · exact es_nil
        · exact x_nil_ok
    · apply x_cons_ok
      · apply x_return
        exact e_name 3 (by kernel_rfl) (by kernel_rfl) (by kernel_rfl)
      · exact x_nil_ok
theorem d__law_rows_of_places {P : Params} {hb : Heap} (T : Top0 P hb) : DefOk hb 272 (fdN P 272) (bodyOf (fdN P 272)) (["highs", "base", "more"] : List Str) (["found", "high"] : List Str) :=
  defOk_of T 272 _ _ (by kernel_rfl) (by kernel_rfl) (by kernel_rfl) (fun vs h => match vs, h with | [_, _, _], _ => by kernel_rfl) (by kernel_rfl) (by kernel_rfl) (by kernel_rfl) (by decide) (by kernel_rfl) (by kernel_rfl) (by kernel_rfl)
theorem c__law_rows_of_places (P : Params) (w : World) (β : Gl) (hw : β.w = w) (hb : Heap) (hβ : 1 ≤ β.b ∧ β.b ≤ 900) (T : Top0 P hb) : CallS PG w hb β 11 (.ref 272) (callL 3 [] 2 s__law_rows_of_places.1) :=
  call_def (d__law_rows_of_places T) (fun _ _ => .nil) fun L => s__law_rows_of_places.2 P w hb β hw hβ T L
end Mine
end

section
open PySem PySem.W PyProof.Rows PySem.Spec PySem.Calls
set_option maxRecDepth 100000
set_option maxHeartbeats 4000000
namespace Mine
noncomputable def s__law_columns : PSigma fun F : St → Option (Fl × St) => ∀ (P : Params) (w : World) (hb : Heap) (β : Gl) (hw : β.w = w) (hβ : 1 ≤ β.b ∧ β.b ≤ 900) (T : Top0 P hb) (L : Addr), ExS PG w hb β (defBk (fdN P 289) 289 ((["rows"] : List Str) ++ ([] : List Str)) L) 10 (execs (bodyOf (fdN P 289)) (defBk (fdN P 289) 289 ((["rows"] : List Str) ++ ([] : List Str)) L).env) F := by
  apply PSigma.mk
  intro P w hb β hw hβ T L
  apply x_cons_ok
  · apply x_return
    apply e_comp1 (ns := (["at", "rows"] : List Str)) (own := (["at"] : List Str)) (src := [none, some 0]) (hc := ⟨by kernel_rfl, by kernel_rfl, by kernel_rfl, by decide +kernel, by kernel_rfl, by kernel_rfl⟩) (hs := fun _ => by kernel_rfl)
    · apply src_range (hn := (nameG_bi T (by kernel_rfl) (by kernel_rfl) (by kernel_rfl) (by kernel_rfl) (by kernel_rfl) (by kernel_rfl) (by kernel_rfl) (by kernel_rfl))) (hs := by kernel_rfl) (he := fun _ _ _ _ _ h => evalArgs_plain h)
      apply es_cons (hx := by kernel_rfl)
      · apply e_call (f := .builtin "len") (r' := 10) (hn := (nameG_bi T (by kernel_rfl) (by kernel_rfl) (by kernel_rfl) (by kernel_rfl) (by kernel_rfl) (by kernel_rfl) (by kernel_rfl) (by kernel_rfl))) (hk := kept_builtin) (hF := c_lenX_ok hw) (hr := by decide) (hs := by kernel_rfl) (he := fun _ _ _ _ _ h => evalArgs_plain h)
        apply es_cons (hx := by kernel_rfl)
        · apply e_sub (hs := fun _ _ => by kernel_rfl)
          · exact e_name 0 (by kernel_rfl) (by kernel_rfl) (by kernel_rfl)
          · exact e_int
        · exact es_nil
      · exact es_nil
    · intro C
      exact t_name 0 (by kernel_rfl) (by kernel_rfl) (by kernel_rfl) (by kernel_rfl)
    · intro C
      apply ac1
      apply e_comp1 (ns := (["row", "at"] : List Str)) (own := (["row"] : List Str)) (src := [none, some 0]) (hc := ⟨by kernel_rfl, by kernel_rfl, by kernel_rfl, by decide +kernel, by kernel_rfl, by kernel_rfl⟩) (hs := fun _ => by kernel_rfl)
      · apply src_list (ht := by kernel_rfl)
        exact e_name 1 (by kernel_rfl) (by kernel_rfl) (by kernel_rfl)
      · intro C
        exact t_name 0 (by kernel_rfl) (by kernel_rfl) (by kernel_rfl) (by kernel_rfl)
      · intro C
        apply ac1
        apply e_sub (hs := fun _ _ => by kernel_rfl)
        · exact e_name 0 (by kernel_rfl) (by kernel_rfl) (by kernel_rfl)
        · exact e_name 1 (by kernel_rfl) (by kernel_rfl) (by kernel_rfl)
  · exact x_nil_ok
theorem d__law_columns {P : Params} {hb : Heap} (T : Top0 P hb) : DefOk hb 289 (fdN P 289) (bodyOf (fdN P 289)) (["rows"] : List Str) ([] : List Str) :=
  defOk_of T 289 _ _ (by kernel_rfl) (by kernel_rfl) (by kernel_rfl) (fun vs h => match vs, h with | [_], _ => by kernel_rfl) (by kernel_rfl) (by kernel_rfl) (by kernel_rfl) (by decide) (by kernel_rfl) (by kernel_rfl) (by kernel_rfl)
theorem c__law_columns (P : Params) (w : World) (β : Gl) (hw : β.w = w) (hb : Heap) (hβ : 1 ≤ β.b ∧ β.b ≤ 900) (T : Top0 P hb) : CallS PG w hb β 11 (.ref 289) (callL 1 [] 0 s__law_columns.1) :=
  call_def (d__law_columns T) (fun _ _ => .nil) fun L => s__law_columns.2 P w hb β hw hβ T L
end Mine
end

section
open PySem PySem.W PyProof.Rows PySem.Spec PySem.Calls
set_option maxRecDepth 100000
set_option maxHeartbeats 4000000
namespace Mine
noncomputable def r_place_of : PSigma fun F : St → Option (List AObj) => ∀ (P : Params) (w : World) (hb : Heap) (β : Gl) (hw : β.w = w) (hβ : 1 ≤ β.b ∧ β.b ≤ 900) (T : Top0 P hb) (L : Addr), RxS PG w hb β (defBk (fdN P 191) 191 ((["grid", "subs"] : List Str) ++ (["found", "sub", "high"] : List Str)) L) 12 34 (execs (bodyOf (fdN P 191)) (defBk (fdN P 191) 191 ((["grid", "subs"] : List Str) ++ (["found", "sub", "high"] : List Str)) L).env) F := by
  apply PSigma.mk
  intro P w hb β hw hβ T L
  apply rx_cons
  · exact rx_fail
  · apply x_if
    · apply t_cmp (hr := by decide) (hβ := hβ) (hm := by kernel_rfl)
      · apply e_call (f := .builtin "len") (r' := 10) (hn := (nameG_bi T (by kernel_rfl) (by kernel_rfl) (by kernel_rfl) (by kernel_rfl) (by kernel_rfl) (by kernel_rfl) (by kernel_rfl) (by kernel_rfl))) (hk := kept_builtin) (hF := c_lenX_ok hw) (hr := by decide) (hs := by kernel_rfl) (he := fun _ _ _ _ _ h => evalArgs_plain h)
        apply es_cons (hx := by kernel_rfl)
        · exact e_name 1 (by kernel_rfl) (by kernel_rfl) (by kernel_rfl)
        · exact es_nil
      · apply e_call (f := .builtin "len") (r' := 10) (hn := (nameG_bi T (by kernel_rfl) (by kernel_rfl) (by kernel_rfl) (by kernel_rfl) (by kernel_rfl) (by kernel_rfl) (by kernel_rfl) (by kernel_rfl))) (hk := kept_builtin) (hF := c_lenX_ok hw) (hr := by decide) (hs := by kernel_rfl) (he := fun _ _ _ _ _ h => evalArgs_plain h)
        apply es_cons (hx := by kernel_rfl)
        · apply e_attr (C := 138) (i := 9) (hK := T.K) (hC := clsGrid P) (hin := by kernel_rfl) (hx := by kernel_rfl)
          · exact e_name 0 (by kernel_rfl) (by kernel_rfl) (by kernel_rfl)
        · exact es_nil
    · apply x_cons_ok
      · exact x_fail
      · exact x_nil_ok
    · exact x_nil_ok
  · apply rx_cons
    · exact rx_fail
    · apply x_assign (i := 2) (hx := by kernel_rfl) (hd := by kernel_rfl) (hk := by kernel_rfl) (hsk := by kernel_rfl) (hs := by kernel_rfl)
      exact e_int
    · apply rx_cons
      · apply rx_for (hs := fun _ => by kernel_rfl) (hfl := by kernel_rfl)
        · apply src_zip (hn := (nameG_bi T (by kernel_rfl) (by kernel_rfl) (by kernel_rfl) (by kernel_rfl) (by kernel_rfl) (by kernel_rfl) (by kernel_rfl) (by kernel_rfl))) (hs := by kernel_rfl) (he := fun _ _ _ _ _ h => evalArgs_plain h)
          apply es_cons (hx := by kernel_rfl)
          · exact e_name 1 (by kernel_rfl) (by kernel_rfl) (by kernel_rfl)
          · apply es_cons (hx := by kernel_rfl)
            · apply e_attr (C := 138) (i := 9) (hK := T.K) (hC := clsGrid P) (hin := by kernel_rfl) (hx := by kernel_rfl)
              · exact e_name 0 (by kernel_rfl) (by kernel_rfl) (by kernel_rfl)
            · exact es_nil
        · exact unpack_ok (.cons (t_name 3 (by kernel_rfl) (by kernel_rfl) (by kernel_rfl) (by kernel_rfl)) (.cons (t_name 4 (by kernel_rfl) (by kernel_rfl) (by kernel_rfl) (by kernel_rfl)) (.nil))) (by kernel_rfl) (by kernel_rfl) (by kernel_rfl)
        · apply rx_cons
          · apply rx_if
            · apply t_not1
              apply t_chain2 (hr := by decide) (hβ := hβ) (hm := by kernel_rfl)
              · apply e_attr (C := 138) (i := 10) (hK := T.K) (hC := clsGrid P) (hin := by kernel_rfl) (hx := by kernel_rfl)
                · exact e_name 0 (by kernel_rfl) (by kernel_rfl) (by kernel_rfl)
              · exact e_name 3 (by kernel_rfl) (by kernel_rfl) (by kernel_rfl)
              · exact e_name 4 (by kernel_rfl) (by kernel_rfl) (by kernel_rfl)
            · apply rx_cons
              · apply rx_raise (X := excOk T) (Y := excCls T) (hK := T.K) (hr := by decide) (hn := (nameG_mod T (by kernel_rfl) (by kernel_rfl) (by kernel_rfl) (by kernel_rfl) (by kernel_rfl))) (hk := keptK T (by kernel_rfl)) (hs := by kernel_rfl) (he := fun _ _ _ _ _ h => evalArgs_plain h)
                apply es_cons (hx := by kernel_rfl)
                · exact e_str (i := 6) (by kernel_rfl)
                · apply es_cons (hx := by kernel_rfl)
                  · exact e_name 3 (by kernel_rfl) (by kernel_rfl) (by kernel_rfl)
                  · exact es_nil
              · exact x_fail
              · exact rx_fail
          · exact x_fail
          · exact rx_fail
        · apply x_cons_ok
          · apply x_if
            · apply t_not1
              apply t_chain2 (hr := by decide) (hβ := hβ) (hm := by kernel_rfl)
              · apply e_attr (C := 138) (i := 10) (hK := T.K) (hC := clsGrid P) (hin := by kernel_rfl) (hx := by kernel_rfl)
                · exact e_name 0 (by kernel_rfl) (by kernel_rfl) (by kernel_rfl)
              · exact e_name 3 (by kernel_rfl) (by kernel_rfl) (by kernel_rfl)
              · exact e_name 4 (by kernel_rfl) (by kernel_rfl) (by kernel_rfl)
            · apply x_cons_ok
              · exact x_fail
              · exact x_nil_ok
            · exact x_nil_ok
          · apply x_cons_ok
            · apply x_assign (i := 2) (hx := by kernel_rfl) (hd := by kernel_rfl) (hk := by kernel_rfl) (hsk := by kernel_rfl) (hs := by kernel_rfl)
              apply e_bin
              · apply e_bin
                · apply e_bin
                  · exact e_name 2 (by kernel_rfl) (by kernel_rfl) (by kernel_rfl)
                  · apply e_bin
                    · apply e_bin
                      · exact e_name 4 (by kernel_rfl) (by kernel_rfl) (by kernel_rfl)
                      · apply e_attr (C := 138) (i := 10) (hK := T.K) (hC := clsGrid P) (hin := by kernel_rfl) (hx := by kernel_rfl)
                        · exact e_name 0 (by kernel_rfl) (by kernel_rfl) (by kernel_rfl)
                    · exact e_int
                · exact e_name 3 (by kernel_rfl) (by kernel_rfl) (by kernel_rfl)
              · apply e_attr (C := 138) (i := 10) (hK := T.K) (hC := clsGrid P) (hin := by kernel_rfl) (hx := by kernel_rfl)
                · exact e_name 0 (by kernel_rfl) (by kernel_rfl) (by kernel_rfl)
            · exact x_nil_ok
      · exact x_fail
      · exact rx_fail
theorem cr_place_of (P : Params) (w : World) (β : Gl) (hw : β.w = w) (hb : Heap) (hβ : 1 ≤ β.b ∧ β.b ≤ 900) (T : Top0 P hb) : CallR PG w hb β 13 34 (.ref 191) (raiseL 2 3 r_place_of.1) :=
  call_raise (d_place_of T) fun L => r_place_of.2 P w hb β hw hβ T L
noncomputable def s__law_place : PSigma fun F : St → Option (Fl × St) => ∀ (P : Params) (w : World) (hb : Heap) (β : Gl) (hw : β.w = w) (hβ : 1 ≤ β.b ∧ β.b ≤ 900) (T : Top0 P hb) (L : Addr), TxS PG w hb β (defBk (fdN P 267) 267 ((["grid", "subs"] : List Str) ++ (["wrong"] : List Str)) L) 13 (execs (bodyOf (fdN P 267)) (defBk (fdN P 267) 267 ((["grid", "subs"] : List Str) ++ (["wrong"] : List Str)) L).env) F := by
  apply PSigma.mk
  intro P w hb β hw hβ T L
  apply tx_one
  apply TxS.mk
  apply x_try_ok (f := .ref 191) (r' := 13) (Y := excCls T) (hK := T.K) (hC := (excOk T).cls) (hin := by kernel_rfl) (hr := by decide) (hn := (nameG_mod T (by kernel_rfl) (by kernel_rfl) (by kernel_rfl) (by kernel_rfl) (by kernel_rfl))) (hk := keptK T (by kernel_rfl)) (hF := cr_place_of P w β hw hb hβ T) (hs := by kernel_rfl) (he := fun _ _ _ _ _ h => evalArgs_plain h) (hnC := (nameG_mod T (by kernel_rfl) (by kernel_rfl) (by kernel_rfl) (by kernel_rfl) (by kernel_rfl))) (hsk := by kernel_rfl) (hfl := by kernel_rfl) (hwn := by kernel_rfl) (hdw := by kernel_rfl)
  · apply e_call (f := .ref 191) (hn := (nameG_mod T (by kernel_rfl) (by kernel_rfl) (by kernel_rfl) (by kernel_rfl) (by kernel_rfl))) (hk := keptK T (by kernel_rfl)) (hF := c_place_of P w β hw hb hβ T) (hr := by decide) (hs := by kernel_rfl) (he := fun _ _ _ _ _ h => evalArgs_plain h)
    apply es_cons (hx := by kernel_rfl)
    · exact e_name 0 (by kernel_rfl) (by kernel_rfl) (by kernel_rfl)
    · apply es_cons (hx := by kernel_rfl)
      · exact e_name 1 (by kernel_rfl) (by kernel_rfl) (by kernel_rfl)
      · exact es_nil
  · apply es_cons (hx := by kernel_rfl)
    · exact e_name 0 (by kernel_rfl) (by kernel_rfl) (by kernel_rfl)
    · apply es_cons (hx := by kernel_rfl)
      · exact e_name 1 (by kernel_rfl) (by kernel_rfl) (by kernel_rfl)
      · exact es_nil
theorem d__law_place {P : Params} {hb : Heap} (T : Top0 P hb) : DefOk hb 267 (fdN P 267) (bodyOf (fdN P 267)) (["grid", "subs"] : List Str) (["wrong"] : List Str) :=
  defOk_of T 267 _ _ (by kernel_rfl) (by kernel_rfl) (by kernel_rfl) (fun vs h => match vs, h with | [_, _], _ => by kernel_rfl) (by kernel_rfl) (by kernel_rfl) (by kernel_rfl) (by decide) (by kernel_rfl) (by kernel_rfl) (by kernel_rfl)
theorem c__law_place (P : Params) (w : World) (β : Gl) (hw : β.w = w) (hb : Heap) (hβ : 1 ≤ β.b ∧ β.b ≤ 900) (T : Top0 P hb) : CallS PG w hb β 14 (.ref 267) (callL 2 [] 1 s__law_place.1) :=
  (call_defT (d__law_place T) fun L => s__law_place.2 P w hb β hw hβ T L).S
end Mine
end

section
open PySem PySem.W PyProof.Rows PySem.Spec PySem.Calls
set_option maxRecDepth 100000
set_option maxHeartbeats 4000000
namespace Mine
noncomputable def s__law_numbers_right : PSigma fun F : St → Option (Fl × St) => ∀ (P : Params) (w : World) (hb : Heap) (β : Gl) (hw : β.w = w) (hβ : 1 ≤ β.b ∧ β.b ≤ 900) (T : Top0 P hb) (L : Addr), ExS PG w hb β (defBk (fdN P 277) 277 ((["highs", "base"] : List Str) ++ (["grid", "shift", "other", "inside", "places", "place", "subs"] : List Str)) L) 14 (execs (bodyOf (fdN P 277)) (defBk (fdN P 277) 277 ((["highs", "base"] : List Str) ++ (["grid", "shift", "other", "inside", "places", "place", "subs"] : List Str)) L).env) F := by
  apply PSigma.mk
  intro P w hb β hw hβ T L
  apply x_cons_ok
  · apply x_tup_ok (hs := by kernel_rfl) (hw := by kernel_rfl)
    · apply es_cons (hx := by kernel_rfl)
      · apply e_call (f := .ref 138) (hn := (nameG_mod T (by kernel_rfl) (by kernel_rfl) (by kernel_rfl) (by kernel_rfl) (by kernel_rfl))) (hk := keptK T (by kernel_rfl)) (hF := c_Grid P w β hw hb hβ T) (hr := by decide) (hs := by kernel_rfl) (he := fun _ _ _ _ _ h => evalArgs_plain h)
        apply es_cons (hx := by kernel_rfl)
        · exact e_str (i := 0) (by kernel_rfl)
        · apply es_cons (hx := by kernel_rfl)
          · exact e_name 0 (by kernel_rfl) (by kernel_rfl) (by kernel_rfl)
          · apply es_cons (hx := by kernel_rfl)
            · exact e_name 1 (by kernel_rfl) (by kernel_rfl) (by kernel_rfl)
            · exact es_nil
      · apply es_cons (hx := by kernel_rfl)
        · apply e_bin
          · exact e_int
          · apply e_bin
            · exact e_int
            · exact e_name 1 (by kernel_rfl) (by kernel_rfl) (by kernel_rfl)
        · exact es_nil
    · exact unpack_ok (.cons (t_name 2 (by kernel_rfl) (by kernel_rfl) (by kernel_rfl) (by kernel_rfl)) (.cons (t_name 3 (by kernel_rfl) (by kernel_rfl) (by kernel_rfl) (by kernel_rfl)) (.nil))) (by kernel_rfl) (by kernel_rfl) (by kernel_rfl)
  · apply x_cons_ok
    · apply x_assign (i := 4) (hx := by kernel_rfl) (hd := by kernel_rfl) (hk := by kernel_rfl) (hsk := by kernel_rfl) (hs := by kernel_rfl)
      apply e_call (f := .ref 138) (hn := (nameG_mod T (by kernel_rfl) (by kernel_rfl) (by kernel_rfl) (by kernel_rfl) (by kernel_rfl))) (hk := keptK T (by kernel_rfl)) (hF := c_Grid P w β hw hb hβ T) (hr := by decide) (hs := by kernel_rfl) (he := fun _ _ _ _ _ h => evalArgs_plain h)
      apply es_cons (hx := by kernel_rfl)
      · exact e_str (i := 0) (by kernel_rfl)
      · apply es_cons (hx := by kernel_rfl)
        · apply e_comp1 (ns := (["high", "shift"] : List Str)) (own := (["high"] : List Str)) (src := [none, some 3]) (hc := ⟨by kernel_rfl, by kernel_rfl, by kernel_rfl, by decide +kernel, by kernel_rfl, by kernel_rfl⟩) (hs := fun _ => by kernel_rfl)
          · apply src_list (ht := by kernel_rfl)
            exact e_name 0 (by kernel_rfl) (by kernel_rfl) (by kernel_rfl)
          · intro C
            exact t_name 0 (by kernel_rfl) (by kernel_rfl) (by kernel_rfl) (by kernel_rfl)
          · intro C
            apply ac1
            apply e_bin
            · exact e_name 0 (by kernel_rfl) (by kernel_rfl) (by kernel_rfl)
            · exact e_name 1 (by kernel_rfl) (by kernel_rfl) (by kernel_rfl)
        · apply es_cons (hx := by kernel_rfl)
          · apply e_bin
            · exact e_name 1 (by kernel_rfl) (by kernel_rfl) (by kernel_rfl)
            · exact e_name 3 (by kernel_rfl) (by kernel_rfl) (by kernel_rfl)
          · exact es_nil
    · apply x_cons_ok
      · apply x_assign (i := 5) (hx := by kernel_rfl) (hd := by kernel_rfl) (hk := by kernel_rfl) (hsk := by kernel_rfl) (hs := by kernel_rfl)
        apply e_call (f := .ref 272) (hn := (nameG_mod T (by kernel_rfl) (by kernel_rfl) (by kernel_rfl) (by kernel_rfl) (by kernel_rfl))) (hk := keptK T (by kernel_rfl)) (hF := c__law_rows_of_places P w β hw hb hβ T) (hr := by decide) (hs := by kernel_rfl) (he := fun _ _ _ _ _ h => evalArgs_plain h)
        apply es_cons (hx := by kernel_rfl)
        · exact e_name 0 (by kernel_rfl) (by kernel_rfl) (by kernel_rfl)
        · apply es_cons (hx := by kernel_rfl)
          · exact e_name 1 (by kernel_rfl) (by kernel_rfl) (by kernel_rfl)
          · apply es_cons (hx := by kernel_rfl)
            · exact e_int
            · exact es_nil
      · apply x_cons_ok
        · apply x_comp1 (i := 6) (hsw := by kernel_rfl) (hx := by kernel_rfl) (hd := by kernel_rfl) (hk := by kernel_rfl) (hsk := by kernel_rfl) (ns := (["subs", "grid"] : List Str)) (own := (["subs"] : List Str)) (src := [none, some 2]) (hc := ⟨by kernel_rfl, by kernel_rfl, by kernel_rfl, by decide +kernel, by kernel_rfl, by kernel_rfl⟩) (hs := fun _ => by kernel_rfl)
          · apply src_list (ht := by kernel_rfl)
            apply e_call (f := .ref 272) (hn := (nameG_mod T (by kernel_rfl) (by kernel_rfl) (by kernel_rfl) (by kernel_rfl) (by kernel_rfl))) (hk := keptK T (by kernel_rfl)) (hF := c__law_rows_of_places P w β hw hb hβ T) (hr := by decide) (hs := by kernel_rfl) (he := fun _ _ _ _ _ h => evalArgs_plain h)
            apply es_cons (hx := by kernel_rfl)
            · exact e_name 0 (by kernel_rfl) (by kernel_rfl) (by kernel_rfl)
            · apply es_cons (hx := by kernel_rfl)
              · exact e_name 1 (by kernel_rfl) (by kernel_rfl) (by kernel_rfl)
              · apply es_cons (hx := by kernel_rfl)
                · exact e_int
                · exact es_nil
          · intro C
            exact t_name 0 (by kernel_rfl) (by kernel_rfl) (by kernel_rfl) (by kernel_rfl)
          · intro C
            apply ac1
            apply e_call (f := .ref 267) (hn := (nameG_mod T (by kernel_rfl) (by kernel_rfl) (by kernel_rfl) (by kernel_rfl) (by kernel_rfl))) (hk := keptK T (by kernel_rfl)) (hF := c__law_place P w β hw hb hβ T) (hr := by decide) (hs := by kernel_rfl) (he := fun _ _ _ _ _ h => evalArgs_plain h)
            apply es_cons (hx := by kernel_rfl)
            · exact e_name 1 (by kernel_rfl) (by kernel_rfl) (by kernel_rfl)
            · apply es_cons (hx := by kernel_rfl)
              · exact e_name 0 (by kernel_rfl) (by kernel_rfl) (by kernel_rfl)
              · exact es_nil
        · apply x_cons_ok
          · apply x_if
            · apply t_cmp (hr := by decide) (hβ := hβ) (hm := by kernel_rfl)
              · apply e_comp1if (ns := (["place"] : List Str)) (own := (["place"] : List Str)) (src := [none]) (hc := ⟨by kernel_rfl, by kernel_rfl, by kernel_rfl, by decide +kernel, by kernel_rfl, by kernel_rfl⟩) (hs := fun _ => by kernel_rfl)
                · apply src_list (ht := by kernel_rfl)
                  exact e_name 6 (by kernel_rfl) (by kernel_rfl) (by kernel_rfl)
                · intro C
                  exact t_name 0 (by kernel_rfl) (by kernel_rfl) (by kernel_rfl) (by kernel_rfl)
                · intro C
                  apply t_cmp (hr := by decide) (hβ := hβ) (hm := by kernel_rfl)
                  · exact e_name 0 (by kernel_rfl) (by kernel_rfl) (by kernel_rfl)
                  · apply e_bin
                    · exact e_int
                    · exact e_int
                · intro C
                  apply ac1
                  exact e_name 0 (by kernel_rfl) (by kernel_rfl) (by kernel_rfl)
              · apply e_listrange (hn := (nameG_bi T (by kernel_rfl) (by kernel_rfl) (by kernel_rfl) (by kernel_rfl) (by kernel_rfl) (by kernel_rfl) (by kernel_rfl) (by kernel_rfl))) (hn' := (nameG_bi T (by kernel_rfl) (by kernel_rfl) (by kernel_rfl) (by kernel_rfl) (by kernel_rfl) (by kernel_rfl) (by kernel_rfl) (by kernel_rfl))) (hs := by kernel_rfl) (he := fun _ _ _ _ _ h => evalArgs_plain h)
                apply es_cons (hx := by kernel_rfl)
                · apply e_call (f := .builtin "len") (r' := 10) (hn := (nameG_bi T (by kernel_rfl) (by kernel_rfl) (by kernel_rfl) (by kernel_rfl) (by kernel_rfl) (by kernel_rfl) (by kernel_rfl) (by kernel_rfl))) (hk := kept_builtin) (hF := c_lenX_ok hw) (hr := by decide) (hs := by kernel_rfl) (he := fun _ _ _ _ _ h => evalArgs_plain h)
                  apply es_cons (hx := by kernel_rfl)
                  · exact e_name 5 (by kernel_rfl) (by kernel_rfl) (by kernel_rfl)
                  · exact es_nil
                · exact es_nil
            · apply x_cons_ok
              · apply x_return
                exact e_bool
              · exact x_nil_ok
            · exact x_nil_ok
          · apply x_cons_ok
            · apply x_for_ok (hs := fun _ => by kernel_rfl)
              · apply src_enum (hn := (nameG_bi T (by kernel_rfl) (by kernel_rfl) (by kernel_rfl) (by kernel_rfl) (by kernel_rfl) (by kernel_rfl) (by kernel_rfl) (by kernel_rfl))) (hs := by kernel_rfl) (he := fun _ _ _ _ _ h => evalArgs_plain h)
                apply es_cons (hx := by kernel_rfl)
                · exact e_name 5 (by kernel_rfl) (by kernel_rfl) (by kernel_rfl)
                · exact es_nil
              · exact unpack_ok (.cons (t_name 7 (by kernel_rfl) (by kernel_rfl) (by kernel_rfl) (by kernel_rfl)) (.cons (t_name 8 (by kernel_rfl) (by kernel_rfl) (by kernel_rfl) (by kernel_rfl)) (.nil))) (by kernel_rfl) (by kernel_rfl) (by kernel_rfl)
              · apply x_cons_ok
                · apply x_if
                  · apply t_boolop
                    apply t_or_cons
                    · apply t_cmp (hr := by decide) (hβ := hβ) (hm := by kernel_rfl)
                      · apply e_call (f := .ref 267) (hn := (nameG_mod T (by kernel_rfl) (by kernel_rfl) (by kernel_rfl) (by kernel_rfl) (by kernel_rfl))) (hk := keptK T (by kernel_rfl)) (hF := c__law_place P w β hw hb hβ T) (hr := by decide) (hs := by kernel_rfl) (he := fun _ _ _ _ _ h => evalArgs_plain h)
                        apply es_cons (hx := by kernel_rfl)
                        · exact e_name 2 (by kernel_rfl) (by kernel_rfl) (by kernel_rfl)
                        · apply es_cons (hx := by kernel_rfl)
                          · exact e_name 8 (by kernel_rfl) (by kernel_rfl) (by kernel_rfl)
                          · exact es_nil
                      · exact e_name 7 (by kernel_rfl) (by kernel_rfl) (by kernel_rfl)
                    · apply t_or_cons
                      · apply t_cmp (hr := by decide) (hβ := hβ) (hm := by kernel_rfl)
                        · apply e_call (f := .ref 198) (hn := (nameG_mod T (by kernel_rfl) (by kernel_rfl) (by kernel_rfl) (by kernel_rfl) (by kernel_rfl))) (hk := keptK T (by kernel_rfl)) (hF := c_subs_of P w β hw hb hβ T) (hr := by decide) (hs := by kernel_rfl) (he := fun _ _ _ _ _ h => evalArgs_plain h)
                          apply es_cons (hx := by kernel_rfl)
                          · exact e_name 2 (by kernel_rfl) (by kernel_rfl) (by kernel_rfl)
                          · apply es_cons (hx := by kernel_rfl)
                            · exact e_name 7 (by kernel_rfl) (by kernel_rfl) (by kernel_rfl)
                            · exact es_nil
                        · exact e_name 8 (by kernel_rfl) (by kernel_rfl) (by kernel_rfl)
                      · exact t_or_nil
                  · apply x_cons_ok
                    · apply x_return
                      exact e_bool
                    · exact x_nil_ok
                  · exact x_nil_ok
                · apply x_cons_ok
                  · apply x_if
                    · apply t_cmp (hr := by decide) (hβ := hβ) (hm := by kernel_rfl)
                      · apply e_call (f := .ref 267) (hn := (nameG_mod T (by kernel_rfl) (by kernel_rfl) (by kernel_rfl) (by kernel_rfl) (by kernel_rfl))) (hk := keptK T (by kernel_rfl)) (hF := c__law_place P w β hw hb hβ T) (hr := by decide) (hs := by kernel_rfl) (he := fun _ _ _ _ _ h => evalArgs_plain h)
                        apply es_cons (hx := by kernel_rfl)
                        · exact e_name 4 (by kernel_rfl) (by kernel_rfl) (by kernel_rfl)
                        · apply es_cons (hx := by kernel_rfl)
                          · apply e_comp1 (ns := (["sub", "shift"] : List Str)) (own := (["sub"] : List Str)) (src := [none, some 3]) (hc := ⟨by kernel_rfl, by kernel_rfl, by kernel_rfl, by decide +kernel, by kernel_rfl, by kernel_rfl⟩) (hs := fun _ => by kernel_rfl)
                            · apply src_list (ht := by kernel_rfl)
                              exact e_name 8 (by kernel_rfl) (by kernel_rfl) (by kernel_rfl)
                            · intro C
                              exact t_name 0 (by kernel_rfl) (by kernel_rfl) (by kernel_rfl) (by kernel_rfl)
                            · intro C
                              apply ac1
                              apply e_bin
                              · exact e_name 0 (by kernel_rfl) (by kernel_rfl) (by kernel_rfl)
                              · exact e_name 1 (by kernel_rfl) (by kernel_rfl) (by kernel_rfl)
                          · exact es_nil
                      · exact e_name 7 (by kernel_rfl) (by kernel_rfl) (by kernel_rfl)
                    · apply x_cons_ok
                      · apply x_return
                        exact e_bool
                      · exact x_nil_ok
                    · exact x_nil_ok
                  · exact x_nil_ok
            · apply x_cons_ok
              · apply x_return
                apply e_cmp (hr := by decide) (hβ := hβ) (hm := by kernel_rfl)
                · apply e_call (f := .builtin "len") (r' := 10) (hn := (nameG_bi T (by kernel_rfl) (by kernel_rfl) (by kernel_rfl) (by kernel_rfl) (by kernel_rfl) (by kernel_rfl) (by kernel_rfl) (by kernel_rfl))) (hk := kept_builtin) (hF := c_lenX_ok hw) (hr := by decide) (hs := by kernel_rfl) (he := fun _ _ _ _ _ h => evalArgs_plain h)
                  apply es_cons (hx := by kernel_rfl)
                  · apply e_attr (C := 138) (i := 11) (hK := T.K) (hC := clsGrid P) (hin := by kernel_rfl) (hx := by kernel_rfl)
                    · exact e_name 2 (by kernel_rfl) (by kernel_rfl) (by kernel_rfl)
                  · exact es_nil
                · apply e_call (f := .builtin "len") (r' := 10) (hn := (nameG_bi T (by kernel_rfl) (by kernel_rfl) (by kernel_rfl) (by kernel_rfl) (by kernel_rfl) (by kernel_rfl) (by kernel_rfl) (by kernel_rfl))) (hk := kept_builtin) (hF := c_lenX_ok hw) (hr := by decide) (hs := by kernel_rfl) (he := fun _ _ _ _ _ h => evalArgs_plain h)
                  apply es_cons (hx := by kernel_rfl)
                  · exact e_name 5 (by kernel_rfl) (by kernel_rfl) (by kernel_rfl)
                  · exact es_nil
              · exact x_nil_ok
theorem d__law_numbers_right {P : Params} {hb : Heap} (T : Top0 P hb) : DefOk hb 277 (fdN P 277) (bodyOf (fdN P 277)) (["highs", "base"] : List Str) (["grid", "shift", "other", "inside", "places", "place", "subs"] : List Str) :=
  defOk_of T 277 _ _ (by kernel_rfl) (by kernel_rfl) (by kernel_rfl) (fun vs h => match vs, h with | [_, _], _ => by kernel_rfl) (by kernel_rfl) (by kernel_rfl) (by kernel_rfl) (by decide) (by kernel_rfl) (by kernel_rfl) (by kernel_rfl)
theorem c__law_numbers_right (P : Params) (w : World) (β : Gl) (hw : β.w = w) (hb : Heap) (hβ : 1 ≤ β.b ∧ β.b ≤ 900) (T : Top0 P hb) : CallS PG w hb β 15 (.ref 277) (callL 2 [] 7 s__law_numbers_right.1) :=
  call_def (d__law_numbers_right T) (fun _ _ => .nil) fun L => s__law_numbers_right.2 P w hb β hw hβ T L
end Mine
end

section
open PySem PySem.W PyProof.Rows PySem.Spec PySem.Calls
set_option maxRecDepth 100000
set_option maxHeartbeats 4000000
namespace Mine
noncomputable def s__law_together_right : PSigma fun F : St → Option (Fl × St) => ∀ (P : Params) (w : World) (hb : Heap) (β : Gl) (hw : β.w = w) (hβ : 1 ≤ β.b ∧ β.b ≤ 900) (T : Top0 P hb) (L : Addr), ExS PG w hb β (defBk (fdN P 284) 284 ((["highs", "base"] : List Str) ++ (["a", "b", "c", "whole", "front", "behind", "left", "right", "i", "j", "k", "place"] : List Str)) L) 13 (execs (bodyOf (fdN P 284)) (defBk (fdN P 284) 284 ((["highs", "base"] : List Str) ++ (["a", "b", "c", "whole", "front", "behind", "left", "right", "i", "j", "k", "place"] : List Str)) L).env) F := by
  apply PSigma.mk
  intro P w hb β hw hβ T L
  apply x_cons_ok
  · apply x_unpack_ok (hs := by kernel_rfl) (hw := by kernel_rfl)
    · exact e_name 0 (by kernel_rfl) (by kernel_rfl) (by kernel_rfl)
    · exact unpack_ok (.cons (t_name 2 (by kernel_rfl) (by kernel_rfl) (by kernel_rfl) (by kernel_rfl)) (.cons (t_name 3 (by kernel_rfl) (by kernel_rfl) (by kernel_rfl) (by kernel_rfl)) (.cons (t_name 4 (by kernel_rfl) (by kernel_rfl) (by kernel_rfl) (by kernel_rfl)) (.nil)))) (by kernel_rfl) (by kernel_rfl) (by kernel_rfl)
  · apply x_cons_ok
    · apply x_tupS_ok (names := (["whole", "front", "behind"] : List Str)) (is := [7, 6, 5]) (hsk := by kernel_rfl) (hN := .cons (by kernel_rfl) (by kernel_rfl) (by kernel_rfl) (.cons (by kernel_rfl) (by kernel_rfl) (by kernel_rfl) (.cons (by kernel_rfl) (by kernel_rfl) (by kernel_rfl) (.nil)))) (hs := by kernel_rfl) (hw := by kernel_rfl)
      apply es_cons (hx := by kernel_rfl)
      · apply e_call (f := .ref 138) (hn := (nameG_mod T (by kernel_rfl) (by kernel_rfl) (by kernel_rfl) (by kernel_rfl) (by kernel_rfl))) (hk := keptK T (by kernel_rfl)) (hF := c_Grid P w β hw hb hβ T) (hr := by decide) (hs := by kernel_rfl) (he := fun _ _ _ _ _ h => evalArgs_plain h)
        apply es_cons (hx := by kernel_rfl)
        · exact e_str (i := 0) (by kernel_rfl)
        · apply es_cons (hx := by kernel_rfl)
          · exact e_name 0 (by kernel_rfl) (by kernel_rfl) (by kernel_rfl)
          · apply es_cons (hx := by kernel_rfl)
            · exact e_name 1 (by kernel_rfl) (by kernel_rfl) (by kernel_rfl)
            · exact es_nil
      · apply es_cons (hx := by kernel_rfl)
        · apply e_call (f := .ref 138) (hn := (nameG_mod T (by kernel_rfl) (by kernel_rfl) (by kernel_rfl) (by kernel_rfl) (by kernel_rfl))) (hk := keptK T (by kernel_rfl)) (hF := c_Grid P w β hw hb hβ T) (hr := by decide) (hs := by kernel_rfl) (he := fun _ _ _ _ _ h => evalArgs_plain h)
          apply es_cons (hx := by kernel_rfl)
          · exact e_str (i := 0) (by kernel_rfl)
          · apply es_cons (hx := by kernel_rfl)
            · apply e_list
              apply es_cons (hx := by kernel_rfl)
              · exact e_name 2 (by kernel_rfl) (by kernel_rfl) (by kernel_rfl)
              · apply es_cons (hx := by kernel_rfl)
                · exact e_name 3 (by kernel_rfl) (by kernel_rfl) (by kernel_rfl)
                · exact es_nil
            · apply es_cons (hx := by kernel_rfl)
              · exact e_name 1 (by kernel_rfl) (by kernel_rfl) (by kernel_rfl)
              · exact es_nil
        · apply es_cons (hx := by kernel_rfl)
          · apply e_call (f := .ref 138) (hn := (nameG_mod T (by kernel_rfl) (by kernel_rfl) (by kernel_rfl) (by kernel_rfl) (by kernel_rfl))) (hk := keptK T (by kernel_rfl)) (hF := c_Grid P w β hw hb hβ T) (hr := by decide) (hs := by kernel_rfl) (he := fun _ _ _ _ _ h => evalArgs_plain h)
            apply es_cons (hx := by kernel_rfl)
            · exact e_str (i := 0) (by kernel_rfl)
            · apply es_cons (hx := by kernel_rfl)
              · apply e_list
                apply es_cons (hx := by kernel_rfl)
                · exact e_name 3 (by kernel_rfl) (by kernel_rfl) (by kernel_rfl)
                · apply es_cons (hx := by kernel_rfl)
                  · exact e_name 4 (by kernel_rfl) (by kernel_rfl) (by kernel_rfl)
                  · exact es_nil
              · apply es_cons (hx := by kernel_rfl)
                · exact e_name 1 (by kernel_rfl) (by kernel_rfl) (by kernel_rfl)
                · exact es_nil
          · exact es_nil
    · apply x_cons_ok
      · apply x_assign (i := 8) (hx := by kernel_rfl) (hd := by kernel_rfl) (hk := by kernel_rfl) (hsk := by kernel_rfl) (hs := by kernel_rfl)
        apply e_call (f := .ref 138) (hn := (nameG_mod T (by kernel_rfl) (by kernel_rfl) (by kernel_rfl) (by kernel_rfl) (by kernel_rfl))) (hk := keptK T (by kernel_rfl)) (hF := c_Grid P w β hw hb hβ T) (hr := by decide) (hs := by kernel_rfl) (he := fun _ _ _ _ _ h => evalArgs_plain h)
        apply es_cons (hx := by kernel_rfl)
        · exact e_str (i := 0) (by kernel_rfl)
        · apply es_cons (hx := by kernel_rfl)
          · apply e_list
            apply es_cons (hx := by kernel_rfl)
            · apply e_bin
              · apply e_bin
                · exact e_name 1 (by kernel_rfl) (by kernel_rfl) (by kernel_rfl)
                · apply e_call (f := .builtin "len") (r' := 10) (hn := (nameG_bi T (by kernel_rfl) (by kernel_rfl) (by kernel_rfl) (by kernel_rfl) (by kernel_rfl) (by kernel_rfl) (by kernel_rfl) (by kernel_rfl))) (hk := kept_builtin) (hF := c_lenX_ok hw) (hr := by decide) (hs := by kernel_rfl) (he := fun _ _ _ _ _ h => evalArgs_plain h)
                  apply es_cons (hx := by kernel_rfl)
                  · apply e_attr (C := 138) (i := 11) (hK := T.K) (hC := clsGrid P) (hin := by kernel_rfl) (hx := by kernel_rfl)
                    · exact e_name 6 (by kernel_rfl) (by kernel_rfl) (by kernel_rfl)
                  · exact es_nil
              · exact e_int
            · apply es_cons (hx := by kernel_rfl)
              · exact e_name 4 (by kernel_rfl) (by kernel_rfl) (by kernel_rfl)
              · exact es_nil
          · apply es_cons (hx := by kernel_rfl)
            · exact e_name 1 (by kernel_rfl) (by kernel_rfl) (by kernel_rfl)
            · exact es_nil
      · apply x_cons_ok
        · apply x_assign (i := 9) (hx := by kernel_rfl) (hd := by kernel_rfl) (hk := by kernel_rfl) (hsk := by kernel_rfl) (hs := by kernel_rfl)
          apply e_call (f := .ref 138) (hn := (nameG_mod T (by kernel_rfl) (by kernel_rfl) (by kernel_rfl) (by kernel_rfl) (by kernel_rfl))) (hk := keptK T (by kernel_rfl)) (hF := c_Grid P w β hw hb hβ T) (hr := by decide) (hs := by kernel_rfl) (he := fun _ _ _ _ _ h => evalArgs_plain h)
          apply es_cons (hx := by kernel_rfl)
          · exact e_str (i := 0) (by kernel_rfl)
          · apply es_cons (hx := by kernel_rfl)
            · apply e_list
              apply es_cons (hx := by kernel_rfl)
              · exact e_name 2 (by kernel_rfl) (by kernel_rfl) (by kernel_rfl)
              · apply es_cons (hx := by kernel_rfl)
                · apply e_bin
                  · apply e_bin
                    · exact e_name 1 (by kernel_rfl) (by kernel_rfl) (by kernel_rfl)
                    · apply e_call (f := .builtin "len") (r' := 10) (hn := (nameG_bi T (by kernel_rfl) (by kernel_rfl) (by kernel_rfl) (by kernel_rfl) (by kernel_rfl) (by kernel_rfl) (by kernel_rfl) (by kernel_rfl))) (hk := kept_builtin) (hF := c_lenX_ok hw) (hr := by decide) (hs := by kernel_rfl) (he := fun _ _ _ _ _ h => evalArgs_plain h)
                      apply es_cons (hx := by kernel_rfl)
                      · apply e_attr (C := 138) (i := 11) (hK := T.K) (hC := clsGrid P) (hin := by kernel_rfl) (hx := by kernel_rfl)
                        · exact e_name 7 (by kernel_rfl) (by kernel_rfl) (by kernel_rfl)
                      · exact es_nil
                  · exact e_int
                · exact es_nil
            · apply es_cons (hx := by kernel_rfl)
              · exact e_name 1 (by kernel_rfl) (by kernel_rfl) (by kernel_rfl)
              · exact es_nil
        · apply x_cons_ok
          · apply x_for_ok (hs := fun _ => by kernel_rfl)
            · apply src_list (ht := by kernel_rfl)
              apply e_call (f := .ref 272) (hn := (nameG_mod T (by kernel_rfl) (by kernel_rfl) (by kernel_rfl) (by kernel_rfl) (by kernel_rfl))) (hk := keptK T (by kernel_rfl)) (hF := c__law_rows_of_places P w β hw hb hβ T) (hr := by decide) (hs := by kernel_rfl) (he := fun _ _ _ _ _ h => evalArgs_plain h)
              apply es_cons (hx := by kernel_rfl)
              · exact e_name 0 (by kernel_rfl) (by kernel_rfl) (by kernel_rfl)
              · apply es_cons (hx := by kernel_rfl)
                · exact e_name 1 (by kernel_rfl) (by kernel_rfl) (by kernel_rfl)
                · apply es_cons (hx := by kernel_rfl)
                  · exact e_int
                  · exact es_nil
            · exact unpack_ok (.cons (t_name 10 (by kernel_rfl) (by kernel_rfl) (by kernel_rfl) (by kernel_rfl)) (.cons (t_name 11 (by kernel_rfl) (by kernel_rfl) (by kernel_rfl) (by kernel_rfl)) (.cons (t_name 12 (by kernel_rfl) (by kernel_rfl) (by kernel_rfl) (by kernel_rfl)) (.nil)))) (by kernel_rfl) (by kernel_rfl) (by kernel_rfl)
            · apply x_cons_ok
              · apply x_assign (i := 13) (hx := by kernel_rfl) (hd := by kernel_rfl) (hk := by kernel_rfl) (hsk := by kernel_rfl) (hs := by kernel_rfl)
                apply e_call (f := .ref 191) (hn := (nameG_mod T (by kernel_rfl) (by kernel_rfl) (by kernel_rfl) (by kernel_rfl) (by kernel_rfl))) (hk := keptK T (by kernel_rfl)) (hF := c_place_of P w β hw hb hβ T) (hr := by decide) (hs := by kernel_rfl) (he := fun _ _ _ _ _ h => evalArgs_plain h)
                apply es_cons (hx := by kernel_rfl)
                · exact e_name 5 (by kernel_rfl) (by kernel_rfl) (by kernel_rfl)
                · apply es_cons (hx := by kernel_rfl)
                  · apply e_list
                    apply es_cons (hx := by kernel_rfl)
                    · exact e_name 10 (by kernel_rfl) (by kernel_rfl) (by kernel_rfl)
                    · apply es_cons (hx := by kernel_rfl)
                      · exact e_name 11 (by kernel_rfl) (by kernel_rfl) (by kernel_rfl)
                      · apply es_cons (hx := by kernel_rfl)
                        · exact e_name 12 (by kernel_rfl) (by kernel_rfl) (by kernel_rfl)
                        · exact es_nil
                  · exact es_nil
              · apply x_cons_ok
                · apply x_if
                  · apply t_cmp (hr := by decide) (hβ := hβ) (hm := by kernel_rfl)
                    · apply e_call (f := .ref 191) (hn := (nameG_mod T (by kernel_rfl) (by kernel_rfl) (by kernel_rfl) (by kernel_rfl) (by kernel_rfl))) (hk := keptK T (by kernel_rfl)) (hF := c_place_of P w β hw hb hβ T) (hr := by decide) (hs := by kernel_rfl) (he := fun _ _ _ _ _ h => evalArgs_plain h)
                      apply es_cons (hx := by kernel_rfl)
                      · exact e_name 8 (by kernel_rfl) (by kernel_rfl) (by kernel_rfl)
                      · apply es_cons (hx := by kernel_rfl)
                        · apply e_list
                          apply es_cons (hx := by kernel_rfl)
                          · apply e_bin
                            · exact e_name 1 (by kernel_rfl) (by kernel_rfl) (by kernel_rfl)
                            · apply e_call (f := .ref 191) (hn := (nameG_mod T (by kernel_rfl) (by kernel_rfl) (by kernel_rfl) (by kernel_rfl) (by kernel_rfl))) (hk := keptK T (by kernel_rfl)) (hF := c_place_of P w β hw hb hβ T) (hr := by decide) (hs := by kernel_rfl) (he := fun _ _ _ _ _ h => evalArgs_plain h)
                              apply es_cons (hx := by kernel_rfl)
                              · exact e_name 6 (by kernel_rfl) (by kernel_rfl) (by kernel_rfl)
                              · apply es_cons (hx := by kernel_rfl)
                                · apply e_list
                                  apply es_cons (hx := by kernel_rfl)
                                  · exact e_name 10 (by kernel_rfl) (by kernel_rfl) (by kernel_rfl)
                                  · apply es_cons (hx := by kernel_rfl)
                                    · exact e_name 11 (by kernel_rfl) (by kernel_rfl) (by kernel_rfl)
                                    · exact es_nil
                                · exact es_nil
                          · apply es_cons (hx := by kernel_rfl)
                            · exact e_name 12 (by kernel_rfl) (by kernel_rfl) (by kernel_rfl)
                            · exact es_nil
                        · exact es_nil
                    · exact e_name 13 (by kernel_rfl) (by kernel_rfl) (by kernel_rfl)
                  · apply x_cons_ok
                    · apply x_return
                      exact e_bool
                    · exact x_nil_ok
                  · exact x_nil_ok
                · apply x_cons_ok
                  · apply x_if
                    · apply t_cmp (hr := by decide) (hβ := hβ) (hm := by kernel_rfl)
                      · apply e_call (f := .ref 191) (hn := (nameG_mod T (by kernel_rfl) (by kernel_rfl) (by kernel_rfl) (by kernel_rfl) (by kernel_rfl))) (hk := keptK T (by kernel_rfl)) (hF := c_place_of P w β hw hb hβ T) (hr := by decide) (hs := by kernel_rfl) (he := fun _ _ _ _ _ h => evalArgs_plain h)
                        apply es_cons (hx := by kernel_rfl)
                        · exact e_name 9 (by kernel_rfl) (by kernel_rfl) (by kernel_rfl)
                        · apply es_cons (hx := by kernel_rfl)
                          · apply e_list
                            apply es_cons (hx := by kernel_rfl)
                            · exact e_name 10 (by kernel_rfl) (by kernel_rfl) (by kernel_rfl)
                            · apply es_cons (hx := by kernel_rfl)
                              · apply e_bin
                                · exact e_name 1 (by kernel_rfl) (by kernel_rfl) (by kernel_rfl)
                                · apply e_call (f := .ref 191) (hn := (nameG_mod T (by kernel_rfl) (by kernel_rfl) (by kernel_rfl) (by kernel_rfl) (by kernel_rfl))) (hk := keptK T (by kernel_rfl)) (hF := c_place_of P w β hw hb hβ T) (hr := by decide) (hs := by kernel_rfl) (he := fun _ _ _ _ _ h => evalArgs_plain h)
                                  apply es_cons (hx := by kernel_rfl)
                                  · exact e_name 7 (by kernel_rfl) (by kernel_rfl) (by kernel_rfl)
                                  · apply es_cons (hx := by kernel_rfl)
                                    · apply e_list
                                      apply es_cons (hx := by kernel_rfl)
                                      · exact e_name 11 (by kernel_rfl) (by kernel_rfl) (by kernel_rfl)
                                      · apply es_cons (hx := by kernel_rfl)
                                        · exact e_name 12 (by kernel_rfl) (by kernel_rfl) (by kernel_rfl)
                                        · exact es_nil
                                    · exact es_nil
                              · exact es_nil
                          · exact es_nil
                      · exact e_name 13 (by kernel_rfl) (by kernel_rfl) (by kernel_rfl)
                    · apply x_cons_ok
                      · apply x_return
                        exact e_bool
                      · exact x_nil_ok
                    · exact x_nil_ok
                  · exact x_nil_ok
          · apply x_cons_ok
            · apply x_return
              exact e_bool
            · exact x_nil_ok
theorem d__law_together_right {P : Params} {hb : Heap} (T : Top0 P hb) : DefOk hb 284 (fdN P 284) (bodyOf (fdN P 284)) (["highs", "base"] : List Str) (["a", "b", "c", "whole", "front", "behind", "left", "right", "i", "j", "k", "place"] : List Str) :=
  defOk_of T 284 _ _ (by kernel_rfl) (by kernel_rfl) (by kernel_rfl) (fun vs h => match vs, h with | [_, _], _ => by kernel_rfl) (by kernel_rfl) (by kernel_rfl) (by kernel_rfl) (by decide) (by kernel_rfl) (by kernel_rfl) (by kernel_rfl)
theorem c__law_together_right (P : Params) (w : World) (β : Gl) (hw : β.w = w) (hb : Heap) (hβ : 1 ≤ β.b ∧ β.b ≤ 900) (T : Top0 P hb) : CallS PG w hb β 14 (.ref 284) (callL 2 [] 12 s__law_together_right.1) :=
  call_def (d__law_together_right T) (fun _ _ => .nil) fun L => s__law_together_right.2 P w hb β hw hβ T L
end Mine
end

section
open PySem PySem.W PyProof.Rows PySem.Spec PySem.Calls
set_option maxRecDepth 100000
set_option maxHeartbeats 4000000
namespace Mine
noncomputable def s_World_init : PSigma fun F : St → Option (Fl × St) => ∀ (P : Params) (w : World) (hb : Heap) (β : Gl) (hw : β.w = w) (hβ : 1 ≤ β.b ∧ β.b ≤ 900) (T : Top0 P hb) (L : Addr), ExS PG w hb β (defBk (fdN P 246) 246 ((["self", "bits", "digits", "most_steps", "most_depth", "room"] : List Str) ++ ([] : List Str)) L) 10 (execs (bodyOf (fdN P 246)) (defBk (fdN P 246) 246 ((["self", "bits", "digits", "most_steps", "most_depth", "room"] : List Str) ++ ([] : List Str)) L).env) F := by
  apply PSigma.mk
  intro P w hb β hw hβ T L
  apply x_cons_ok
  · apply x_setattr_ok (C := 249) (i := 13) (hK := T.K) (hC := clsWorld P) (hin := by kernel_rfl) (hx := by kernel_rfl) (hs := by kernel_rfl)
    · exact e_name 1 (by kernel_rfl) (by kernel_rfl) (by kernel_rfl)
    · exact e_name 0 (by kernel_rfl) (by kernel_rfl) (by kernel_rfl)
  · apply x_cons_ok
    · apply x_setattr_ok (C := 249) (i := 14) (hK := T.K) (hC := clsWorld P) (hin := by kernel_rfl) (hx := by kernel_rfl) (hs := by kernel_rfl)
      · exact e_name 2 (by kernel_rfl) (by kernel_rfl) (by kernel_rfl)
      · exact e_name 0 (by kernel_rfl) (by kernel_rfl) (by kernel_rfl)
    · apply x_cons_ok
      · apply x_setattr_ok (C := 249) (i := 15) (hK := T.K) (hC := clsWorld P) (hin := by kernel_rfl) (hx := by kernel_rfl) (hs := by kernel_rfl)
        · exact e_name 3 (by kernel_rfl) (by kernel_rfl) (by kernel_rfl)
        · exact e_name 0 (by kernel_rfl) (by kernel_rfl) (by kernel_rfl)
      · apply x_cons_ok
        · apply x_setattr_ok (C := 249) (i := 16) (hK := T.K) (hC := clsWorld P) (hin := by kernel_rfl) (hx := by kernel_rfl) (hs := by kernel_rfl)
          · exact e_name 4 (by kernel_rfl) (by kernel_rfl) (by kernel_rfl)
          · exact e_name 0 (by kernel_rfl) (by kernel_rfl) (by kernel_rfl)
        · apply x_cons_ok
          · apply x_setattr_ok (C := 249) (i := 12) (hK := T.K) (hC := clsWorld P) (hin := by kernel_rfl) (hx := by kernel_rfl) (hs := by kernel_rfl)
            · exact e_name 5 (by kernel_rfl) (by kernel_rfl) (by kernel_rfl)
            · exact e_name 0 (by kernel_rfl) (by kernel_rfl) (by kernel_rfl)
          · apply x_cons_ok
            · apply x_setattr_ok (C := 249) (i := 17) (hK := T.K) (hC := clsWorld P) (hin := by kernel_rfl) (hx := by kernel_rfl) (hs := by kernel_rfl)
              · exact e_newD
              · exact e_name 0 (by kernel_rfl) (by kernel_rfl) (by kernel_rfl)
            · apply x_cons_ok
              · apply x_setattr_ok (C := 249) (i := 18) (hK := T.K) (hC := clsWorld P) (hin := by kernel_rfl) (hx := by kernel_rfl) (hs := by kernel_rfl)
                · exact e_newD
                · exact e_name 0 (by kernel_rfl) (by kernel_rfl) (by kernel_rfl)
              · apply x_cons_ok
                · apply x_setattr_ok (C := 249) (i := 19) (hK := T.K) (hC := clsWorld P) (hin := by kernel_rfl) (hx := by kernel_rfl) (hs := by kernel_rfl)
                  · exact e_newD
                  · exact e_name 0 (by kernel_rfl) (by kernel_rfl) (by kernel_rfl)
                · apply x_cons_ok
                  · apply x_setattr_ok (C := 249) (i := 20) (hK := T.K) (hC := clsWorld P) (hin := by kernel_rfl) (hx := by kernel_rfl) (hs := by kernel_rfl)
                    · exact e_newD
                    · exact e_name 0 (by kernel_rfl) (by kernel_rfl) (by kernel_rfl)
                  · apply x_cons_ok
                    · apply x_setattr_ok (C := 249) (i := 21) (hK := T.K) (hC := clsWorld P) (hin := by kernel_rfl) (hx := by kernel_rfl) (hs := by kernel_rfl)
                      · apply e_list
                        exact es_nil
                      · exact e_name 0 (by kernel_rfl) (by kernel_rfl) (by kernel_rfl)
                    · apply x_cons_ok
                      · apply x_setattr_ok (C := 249) (i := 22) (hK := T.K) (hC := clsWorld P) (hin := by kernel_rfl) (hx := by kernel_rfl) (hs := by kernel_rfl)
                        · exact e_str (i := 7) (by kernel_rfl)
                        · exact e_name 0 (by kernel_rfl) (by kernel_rfl) (by kernel_rfl)
                      · apply x_cons_ok
                        · apply x_setattr_ok (C := 249) (i := 23) (hK := T.K) (hC := clsWorld P) (hin := by kernel_rfl) (hx := by kernel_rfl) (hs := by kernel_rfl)
                          · apply e_list
                            exact es_nil
                          · exact e_name 0 (by kernel_rfl) (by kernel_rfl) (by kernel_rfl)
                        · apply x_cons_ok
                          · apply x_setattr_ok (C := 249) (i := 24) (hK := T.K) (hC := clsWorld P) (hin := by kernel_rfl) (hx := by kernel_rfl) (hs := by kernel_rfl)
                            · exact e_newD
                            · exact e_name 0 (by kernel_rfl) (by kernel_rfl) (by kernel_rfl)
                          · apply x_cons_ok
                            · apply x_setattr_ok (C := 249) (i := 25) (hK := T.K) (hC := clsWorld P) (hin := by kernel_rfl) (hx := by kernel_rfl) (hs := by kernel_rfl)
                              · exact e_newD
                              · exact e_name 0 (by kernel_rfl) (by kernel_rfl) (by kernel_rfl)
                            · apply x_cons_ok
                              · apply x_setattr_ok (C := 249) (i := 26) (hK := T.K) (hC := clsWorld P) (hin := by kernel_rfl) (hx := by kernel_rfl) (hs := by kernel_rfl)
                                · exact e_newD
                                · exact e_name 0 (by kernel_rfl) (by kernel_rfl) (by kernel_rfl)
                              · apply x_cons_ok
                                · apply x_setattr_ok (C := 249) (i := 27) (hK := T.K) (hC := clsWorld P) (hin := by kernel_rfl) (hx := by kernel_rfl) (hs := by kernel_rfl)
                                  · apply e_list
                                    exact es_nil
                                  · exact e_name 0 (by kernel_rfl) (by kernel_rfl) (by kernel_rfl)
                                · apply x_cons_ok
                                  · apply x_setattr_ok (C := 249) (i := 28) (hK := T.K) (hC := clsWorld P) (hin := by kernel_rfl) (hx := by kernel_rfl) (hs := by kernel_rfl)
                                    · exact e_int
                                    · exact e_name 0 (by kernel_rfl) (by kernel_rfl) (by kernel_rfl)
                                  · apply x_cons_ok
                                    · apply x_setattr_ok (C := 249) (i := 10) (hK := T.K) (hC := clsWorld P) (hin := by kernel_rfl) (hx := by kernel_rfl) (hs := by kernel_rfl)
                                      · exact e_int
                                      · exact e_name 0 (by kernel_rfl) (by kernel_rfl) (by kernel_rfl)
                                    · apply x_cons_ok
                                      · apply x_setattr_ok (C := 249) (i := 29) (hK := T.K) (hC := clsWorld P) (hin := by kernel_rfl) (hx := by kernel_rfl) (hs := by kernel_rfl)
                                        · exact e_int
                                        · exact e_name 0 (by kernel_rfl) (by kernel_rfl) (by kernel_rfl)
                                      · apply x_cons_ok
                                        · apply x_setattr_ok (C := 249) (i := 30) (hK := T.K) (hC := clsWorld P) (hin := by kernel_rfl) (hx := by kernel_rfl) (hs := by kernel_rfl)
                                          · exact e_int
                                          · exact e_name 0 (by kernel_rfl) (by kernel_rfl) (by kernel_rfl)
                                        · apply x_cons_ok
                                          · apply x_setattr_ok (C := 249) (i := 31) (hK := T.K) (hC := clsWorld P) (hin := by kernel_rfl) (hx := by kernel_rfl) (hs := by kernel_rfl)
                                            · exact e_int
                                            · exact e_name 0 (by kernel_rfl) (by kernel_rfl) (by kernel_rfl)
                                          · apply x_cons_ok
                                            · apply x_setattr_ok (C := 249) (i := 32) (hK := T.K) (hC := clsWorld P) (hin := by kernel_rfl) (hx := by kernel_rfl) (hs := by kernel_rfl)
                                              · exact e_int
                                              · exact e_name 0 (by kernel_rfl) (by kernel_rfl) (by kernel_rfl)
                                            · apply x_cons_ok
                                              · apply x_setattr_ok (C := 249) (i := 33) (hK := T.K) (hC := clsWorld P) (hin := by kernel_rfl) (hx := by kernel_rfl) (hs := by kernel_rfl)
                                                · exact e_bool
                                                · exact e_name 0 (by kernel_rfl) (by kernel_rfl) (by kernel_rfl)
                                              · apply x_cons_ok
                                                · apply x_setattr_ok (C := 249) (i := 34) (hK := T.K) (hC := clsWorld P) (hin := by kernel_rfl) (hx := by kernel_rfl) (hs := by kernel_rfl)
                                                  · exact e_int
                                                  · exact e_name 0 (by kernel_rfl) (by kernel_rfl) (by kernel_rfl)
                                                · apply x_cons_ok
                                                  · apply x_setattr_ok (C := 249) (i := 35) (hK := T.K) (hC := clsWorld P) (hin := by kernel_rfl) (hx := by kernel_rfl) (hs := by kernel_rfl)
                                                    · exact e_str (i := 7) (by kernel_rfl)
                                                    · exact e_name 0 (by kernel_rfl) (by kernel_rfl) (by kernel_rfl)
                                                  · apply x_cons_ok
                                                    · apply x_setattr_ok (C := 249) (i := 36) (hK := T.K) (hC := clsWorld P) (hin := by kernel_rfl) (hx := by kernel_rfl) (hs := by kernel_rfl)
                                                      · exact e_bool
                                                      · exact e_name 0 (by kernel_rfl) (by kernel_rfl) (by kernel_rfl)
                                                    · apply x_cons_ok
                                                      · apply x_setattr_ok (C := 249) (i := 37) (hK := T.K) (hC := clsWorld P) (hin := by kernel_rfl) (hx := by kernel_rfl) (hs := by kernel_rfl)
                                                        · apply e_list
                                                          exact es_nil
                                                        · exact e_name 0 (by kernel_rfl) (by kernel_rfl) (by kernel_rfl)
                                                      · apply x_cons_ok
                                                        · apply x_setattr_ok (C := 249) (i := 38) (hK := T.K) (hC := clsWorld P) (hin := by kernel_rfl) (hx := by kernel_rfl) (hs := by kernel_rfl)
                                                          · apply e_list
                                                            exact es_nil
                                                          · exact e_name 0 (by kernel_rfl) (by kernel_rfl) (by kernel_rfl)
                                                        · exact x_nil_ok
theorem c_World_init (P : Params) (w : World) (β : Gl) (hw : β.w = w) (hb : Heap) (hβ : 1 ≤ β.b ∧ β.b ≤ 900) (T : Top0 P hb) : CallC PG w hb β 11 (.ref 246) (callL 6 (([16, 9, 2000, 20, 2000] : List Int).map MV.int) 0 s_World_init.1) :=
  call_defC (d_World_init T) (fun _ _ => intsIn_vrs (dsW_len P)) fun L => s_World_init.2 P w hb β hw hβ T L
theorem c_World (P : Params) (w : World) (β : Gl) (hw : β.w = w) (hb : Heap) (hβ : 1 ≤ β.b ∧ β.b ≤ 900) (T : Top0 P hb) : CallS PG w hb β 12 (.ref 249) (c_make 249 (callL 6 (([16, 9, 2000, 20, 2000] : List Int).map MV.int) 0 s_World_init.1)) :=
  call_class T.K (makeWorld P) (c_World_init P w β hw hb hβ T)
end Mine
end

section
open PySem PySem.W PyProof.Rows PySem.Spec PySem.Calls
set_option maxRecDepth 100000
set_option maxHeartbeats 4000000
namespace Mine
noncomputable def s__law_take : PSigma fun F : St → Option (Fl × St) => ∀ (P : Params) (w : World) (hb : Heap) (β : Gl) (hw : β.w = w) (hβ : 1 ≤ β.b ∧ β.b ≤ 900) (T : Top0 P hb) (L : Addr), ExS PG w hb β (defBk (fdN P 260) 260 ((["sack", "below"] : List Str) ++ (["cells", "turn"] : List Str)) L) 10 (execs (bodyOf (fdN P 260)) (defBk (fdN P 260) 260 ((["sack", "below"] : List Str) ++ (["cells", "turn"] : List Str)) L).env) F := by
  apply PSigma.mk
  intro P w hb β hw hβ T L
  apply x_cons_ok
  · apply x_unpack_ok (hs := by kernel_rfl) (hw := by kernel_rfl)
    · exact e_name 0 (by kernel_rfl) (by kernel_rfl) (by kernel_rfl)
    · exact unpack_ok (.cons (t_name 2 (by kernel_rfl) (by kernel_rfl) (by kernel_rfl) (by kernel_rfl)) (.cons (t_name 3 (by kernel_rfl) (by kernel_rfl) (by kernel_rfl) (by kernel_rfl)) (.nil))) (by kernel_rfl) (by kernel_rfl) (by kernel_rfl)
  · apply x_cons_ok
    · apply x_setitem_ok (hs := by kernel_rfl)
      · apply e_bin
        · exact e_name 3 (by kernel_rfl) (by kernel_rfl) (by kernel_rfl)
        · exact e_int
      · exact e_name 0 (by kernel_rfl) (by kernel_rfl) (by kernel_rfl)
      · exact e_int
    · apply x_cons_ok
      · apply x_return
        apply e_ifexp
        · apply t_cmp (hr := by decide) (hβ := hβ) (hm := by kernel_rfl)
          · exact e_name 3 (by kernel_rfl) (by kernel_rfl) (by kernel_rfl)
          · apply e_call (f := .builtin "len") (r' := 10) (hn := (nameG_bi T (by kernel_rfl) (by kernel_rfl) (by kernel_rfl) (by kernel_rfl) (by kernel_rfl) (by kernel_rfl) (by kernel_rfl) (by kernel_rfl))) (hk := kept_builtin) (hF := c_lenX_ok hw) (hr := by decide) (hs := by kernel_rfl) (he := fun _ _ _ _ _ h => evalArgs_plain h)
            apply es_cons (hx := by kernel_rfl)
            · exact e_name 2 (by kernel_rfl) (by kernel_rfl) (by kernel_rfl)
            · exact es_nil
        · apply e_bin
          · apply e_call (f := .builtin "abs") (r' := 10) (hn := (nameG_bi T (by kernel_rfl) (by kernel_rfl) (by kernel_rfl) (by kernel_rfl) (by kernel_rfl) (by kernel_rfl) (by kernel_rfl) (by kernel_rfl))) (hk := kept_builtin) (hF := c_abs_ok) (hr := by decide) (hs := by kernel_rfl) (he := fun _ _ _ _ _ h => evalArgs_plain h)
            apply es_cons (hx := by kernel_rfl)
            · apply e_sub (hs := fun _ _ => by kernel_rfl)
              · exact e_name 2 (by kernel_rfl) (by kernel_rfl) (by kernel_rfl)
              · exact e_name 3 (by kernel_rfl) (by kernel_rfl) (by kernel_rfl)
            · exact es_nil
          · exact e_name 1 (by kernel_rfl) (by kernel_rfl) (by kernel_rfl)
        · apply e_bin
          · apply e_bin
            · apply e_bin
              · apply e_bin
                · exact e_int
                · exact e_name 3 (by kernel_rfl) (by kernel_rfl) (by kernel_rfl)
              · apply e_bin
                · exact e_name 3 (by kernel_rfl) (by kernel_rfl) (by kernel_rfl)
                · exact e_int
            · exact e_int
          · exact e_name 1 (by kernel_rfl) (by kernel_rfl) (by kernel_rfl)
      · exact x_nil_ok
theorem d__law_take {P : Params} {hb : Heap} (T : Top0 P hb) : DefOk hb 260 (fdN P 260) (bodyOf (fdN P 260)) (["sack", "below"] : List Str) (["cells", "turn"] : List Str) :=
  defOk_of T 260 _ _ (by kernel_rfl) (by kernel_rfl) (by kernel_rfl) (fun vs h => match vs, h with | [_, _], _ => by kernel_rfl) (by kernel_rfl) (by kernel_rfl) (by kernel_rfl) (by decide) (by kernel_rfl) (by kernel_rfl) (by kernel_rfl)
theorem c__law_take (P : Params) (w : World) (β : Gl) (hw : β.w = w) (hb : Heap) (hβ : 1 ≤ β.b ∧ β.b ≤ 900) (T : Top0 P hb) : CallS PG w hb β 11 (.ref 260) (callL 2 [] 2 s__law_take.1) :=
  call_def (d__law_take T) (fun _ _ => .nil) fun L => s__law_take.2 P w hb β hw hβ T L
end Mine
end

section
open PySem PySem.W PyProof.Rows PySem.Spec PySem.Calls
set_option maxRecDepth 100000
set_option maxHeartbeats 4000000
namespace Mine
noncomputable def s__law_turned_right : PSigma fun F : St → Option (Fl × St) => ∀ (P : Params) (w : World) (hb : Heap) (β : Gl) (hw : β.w = w) (hβ : 1 ≤ β.b ∧ β.b ≤ 900) (T : Top0 P hb) (L : Addr), ExS PG w hb β (defBk (fdN P 294) 294 ((["tall", "wide", "base", "begin"] : List Str) ++ (["world", "last", "highs", "turned", "i", "j", "one", "other", "third", "place", "item", "rows", "due"] : List Str)) L) 14 (execs (bodyOf (fdN P 294)) (defBk (fdN P 294) 294 ((["tall", "wide", "base", "begin"] : List Str) ++ (["world", "last", "highs", "turned", "i", "j", "one", "other", "third", "place", "item", "rows", "due"] : List Str)) L).env) F := by
  apply PSigma.mk
  intro P w hb β hw hβ T L
  apply x_cons_ok
  · apply x_tupS_ok (names := (["world", "last"] : List Str)) (is := [5, 4]) (hsk := by kernel_rfl) (hN := .cons (by kernel_rfl) (by kernel_rfl) (by kernel_rfl) (.cons (by kernel_rfl) (by kernel_rfl) (by kernel_rfl) (.nil))) (hs := by kernel_rfl) (hw := by kernel_rfl)
    apply es_cons (hx := by kernel_rfl)
    · exact e_call0 (f := .ref 249) (hn := (nameG_mod T (by kernel_rfl) (by kernel_rfl) (by kernel_rfl) (by kernel_rfl) (by kernel_rfl))) (hk := keptK T (by kernel_rfl)) (hF := c_World P w β hw hb hβ T) (hr := by decide)
    · apply es_cons (hx := by kernel_rfl)
      · apply e_bin
        · apply e_bin
          · exact e_name 0 (by kernel_rfl) (by kernel_rfl) (by kernel_rfl)
          · exact e_name 1 (by kernel_rfl) (by kernel_rfl) (by kernel_rfl)
        · exact e_int
      · exact es_nil
  · apply x_cons_ok
    · apply x_tupS_ok (names := (["highs", "turned"] : List Str)) (is := [7, 6]) (hsk := by kernel_rfl) (hN := .cons (by kernel_rfl) (by kernel_rfl) (by kernel_rfl) (.cons (by kernel_rfl) (by kernel_rfl) (by kernel_rfl) (.nil))) (hs := by kernel_rfl) (hw := by kernel_rfl)
      apply es_cons (hx := by kernel_rfl)
      · apply e_list
        apply es_cons (hx := by kernel_rfl)
        · apply e_bin
          · apply e_bin
            · exact e_name 2 (by kernel_rfl) (by kernel_rfl) (by kernel_rfl)
            · exact e_name 0 (by kernel_rfl) (by kernel_rfl) (by kernel_rfl)
          · exact e_int
        · apply es_cons (hx := by kernel_rfl)
          · apply e_bin
            · apply e_bin
              · exact e_name 2 (by kernel_rfl) (by kernel_rfl) (by kernel_rfl)
              · exact e_name 1 (by kernel_rfl) (by kernel_rfl) (by kernel_rfl)
            · exact e_int
          · exact es_nil
      · apply es_cons (hx := by kernel_rfl)
        · apply e_list
          apply es_cons (hx := by kernel_rfl)
          · apply e_bin
            · apply e_bin
              · exact e_name 2 (by kernel_rfl) (by kernel_rfl) (by kernel_rfl)
              · exact e_name 1 (by kernel_rfl) (by kernel_rfl) (by kernel_rfl)
            · exact e_int
          · apply es_cons (hx := by kernel_rfl)
            · apply e_bin
              · apply e_bin
                · exact e_name 2 (by kernel_rfl) (by kernel_rfl) (by kernel_rfl)
                · exact e_name 0 (by kernel_rfl) (by kernel_rfl) (by kernel_rfl)
              · exact e_int
            · exact es_nil
        · exact es_nil
    · apply x_cons_ok
      · apply x_expr (hi' := by kernel_rfl) (hs := by kernel_rfl)
        apply e_call (f := .ref 184) (hn := (nameG_mod T (by kernel_rfl) (by kernel_rfl) (by kernel_rfl) (by kernel_rfl) (by kernel_rfl))) (hk := keptK T (by kernel_rfl)) (hF := c_option_base P w β hw hb hβ T) (hr := by decide) (hs := by kernel_rfl) (he := fun _ _ _ _ _ h => evalArgs_plain h)
        apply es_cons (hx := by kernel_rfl)
        · exact e_name 4 (by kernel_rfl) (by kernel_rfl) (by kernel_rfl)
        · apply es_cons (hx := by kernel_rfl)
          · exact e_name 2 (by kernel_rfl) (by kernel_rfl) (by kernel_rfl)
          · exact es_nil
      · apply x_cons_ok
        · apply x_expr (hi' := by kernel_rfl) (hs := by kernel_rfl)
          apply e_call (f := .ref 170) (hn := (nameG_mod T (by kernel_rfl) (by kernel_rfl) (by kernel_rfl) (by kernel_rfl) (by kernel_rfl))) (hk := keptK T (by kernel_rfl)) (hF := c_dim P w β hw hb hβ T) (hr := by decide) (hs := by kernel_rfl) (he := fun _ _ _ _ _ h => evalArgs_plain h)
          apply es_cons (hx := by kernel_rfl)
          · exact e_name 4 (by kernel_rfl) (by kernel_rfl) (by kernel_rfl)
          · apply es_cons (hx := by kernel_rfl)
            · exact e_str (i := 1) (by kernel_rfl)
            · apply es_cons (hx := by kernel_rfl)
              · exact e_name 6 (by kernel_rfl) (by kernel_rfl) (by kernel_rfl)
              · exact es_nil
        · apply x_cons_ok
          · apply x_expr (hi' := by kernel_rfl) (hs := by kernel_rfl)
            apply e_call (f := .ref 170) (hn := (nameG_mod T (by kernel_rfl) (by kernel_rfl) (by kernel_rfl) (by kernel_rfl) (by kernel_rfl))) (hk := keptK T (by kernel_rfl)) (hF := c_dim P w β hw hb hβ T) (hr := by decide) (hs := by kernel_rfl) (he := fun _ _ _ _ _ h => evalArgs_plain h)
            apply es_cons (hx := by kernel_rfl)
            · exact e_name 4 (by kernel_rfl) (by kernel_rfl) (by kernel_rfl)
            · apply es_cons (hx := by kernel_rfl)
              · exact e_str (i := 2) (by kernel_rfl)
              · apply es_cons (hx := by kernel_rfl)
                · exact e_name 7 (by kernel_rfl) (by kernel_rfl) (by kernel_rfl)
                · exact es_nil
          · apply x_cons_ok
            · apply x_expr (hi' := by kernel_rfl) (hs := by kernel_rfl)
              apply e_call (f := .ref 170) (hn := (nameG_mod T (by kernel_rfl) (by kernel_rfl) (by kernel_rfl) (by kernel_rfl) (by kernel_rfl))) (hk := keptK T (by kernel_rfl)) (hF := c_dim P w β hw hb hβ T) (hr := by decide) (hs := by kernel_rfl) (he := fun _ _ _ _ _ h => evalArgs_plain h)
              apply es_cons (hx := by kernel_rfl)
              · exact e_name 4 (by kernel_rfl) (by kernel_rfl) (by kernel_rfl)
              · apply es_cons (hx := by kernel_rfl)
                · exact e_str (i := 3) (by kernel_rfl)
                · apply es_cons (hx := by kernel_rfl)
                  · exact e_name 7 (by kernel_rfl) (by kernel_rfl) (by kernel_rfl)
                  · exact es_nil
            · apply x_cons_ok
              · apply x_for_ok (hs := fun _ => by kernel_rfl)
                · apply src_list (ht := by kernel_rfl)
                  apply e_call (f := .ref 272) (hn := (nameG_mod T (by kernel_rfl) (by kernel_rfl) (by kernel_rfl) (by kernel_rfl) (by kernel_rfl))) (hk := keptK T (by kernel_rfl)) (hF := c__law_rows_of_places P w β hw hb hβ T) (hr := by decide) (hs := by kernel_rfl) (he := fun _ _ _ _ _ h => evalArgs_plain h)
                  apply es_cons (hx := by kernel_rfl)
                  · exact e_name 6 (by kernel_rfl) (by kernel_rfl) (by kernel_rfl)
                  · apply es_cons (hx := by kernel_rfl)
                    · exact e_name 2 (by kernel_rfl) (by kernel_rfl) (by kernel_rfl)
                    · apply es_cons (hx := by kernel_rfl)
                      · exact e_int
                      · exact es_nil
                · exact unpack_ok (.cons (t_name 8 (by kernel_rfl) (by kernel_rfl) (by kernel_rfl) (by kernel_rfl)) (.cons (t_name 9 (by kernel_rfl) (by kernel_rfl) (by kernel_rfl) (by kernel_rfl)) (.nil))) (by kernel_rfl) (by kernel_rfl) (by kernel_rfl)
                · apply x_cons_ok
                  · apply x_expr (hi' := by kernel_rfl) (hs := by kernel_rfl)
                    apply e_call (f := .ref 212) (hn := (nameG_mod T (by kernel_rfl) (by kernel_rfl) (by kernel_rfl) (by kernel_rfl) (by kernel_rfl))) (hk := keptK T (by kernel_rfl)) (hF := c_set_item P w β hw hb hβ T) (hr := by decide) (hs := by kernel_rfl) (he := fun _ _ _ _ _ h => evalArgs_plain h)
                    apply es_cons (hx := by kernel_rfl)
                    · exact e_name 4 (by kernel_rfl) (by kernel_rfl) (by kernel_rfl)
                    · apply es_cons (hx := by kernel_rfl)
                      · exact e_str (i := 1) (by kernel_rfl)
                      · apply es_cons (hx := by kernel_rfl)
                        · apply e_list
                          apply es_cons (hx := by kernel_rfl)
                          · exact e_name 8 (by kernel_rfl) (by kernel_rfl) (by kernel_rfl)
                          · apply es_cons (hx := by kernel_rfl)
                            · exact e_name 9 (by kernel_rfl) (by kernel_rfl) (by kernel_rfl)
                            · exact es_nil
                        · apply es_cons (hx := by kernel_rfl)
                          · apply e_bin
                            · apply e_bin
                              · exact e_name 3 (by kernel_rfl) (by kernel_rfl) (by kernel_rfl)
                              · apply e_bin
                                · exact e_int
                                · exact e_name 8 (by kernel_rfl) (by kernel_rfl) (by kernel_rfl)
                            · apply e_bin
                              · exact e_int
                              · exact e_name 9 (by kernel_rfl) (by kernel_rfl) (by kernel_rfl)
                          · exact es_nil
                  · apply x_cons_ok
                    · apply x_expr (hi' := by kernel_rfl) (hs := by kernel_rfl)
                      apply e_call (f := .ref 212) (hn := (nameG_mod T (by kernel_rfl) (by kernel_rfl) (by kernel_rfl) (by kernel_rfl) (by kernel_rfl))) (hk := keptK T (by kernel_rfl)) (hF := c_set_item P w β hw hb hβ T) (hr := by decide) (hs := by kernel_rfl) (he := fun _ _ _ _ _ h => evalArgs_plain h)
                      apply es_cons (hx := by kernel_rfl)
                      · exact e_name 4 (by kernel_rfl) (by kernel_rfl) (by kernel_rfl)
                      · apply es_cons (hx := by kernel_rfl)
                        · exact e_str (i := 2) (by kernel_rfl)
                        · apply es_cons (hx := by kernel_rfl)
                          · apply e_list
                            apply es_cons (hx := by kernel_rfl)
                            · exact e_name 9 (by kernel_rfl) (by kernel_rfl) (by kernel_rfl)
                            · apply es_cons (hx := by kernel_rfl)
                              · exact e_name 8 (by kernel_rfl) (by kernel_rfl) (by kernel_rfl)
                              · exact es_nil
                          · apply es_cons (hx := by kernel_rfl)
                            · apply e_call (f := .ref 205) (hn := (nameG_mod T (by kernel_rfl) (by kernel_rfl) (by kernel_rfl) (by kernel_rfl) (by kernel_rfl))) (hk := keptK T (by kernel_rfl)) (hF := c_get_item P w β hw hb hβ T) (hr := by decide) (hs := by kernel_rfl) (he := fun _ _ _ _ _ h => evalArgs_plain h)
                              apply es_cons (hx := by kernel_rfl)
                              · exact e_name 4 (by kernel_rfl) (by kernel_rfl) (by kernel_rfl)
                              · apply es_cons (hx := by kernel_rfl)
                                · exact e_str (i := 1) (by kernel_rfl)
                                · apply es_cons (hx := by kernel_rfl)
                                  · apply e_list
                                    apply es_cons (hx := by kernel_rfl)
                                    · exact e_name 8 (by kernel_rfl) (by kernel_rfl) (by kernel_rfl)
                                    · apply es_cons (hx := by kernel_rfl)
                                      · exact e_name 9 (by kernel_rfl) (by kernel_rfl) (by kernel_rfl)
                                      · exact es_nil
                                  · exact es_nil
                            · exact es_nil
                    · exact x_nil_ok
              · apply x_cons_ok
                · apply x_tup_ok (hs := by kernel_rfl) (hw := by kernel_rfl)
                  · apply es_cons (hx := by kernel_rfl)
                    · apply e_subD (hw := hw) (hs := fun _ _ => by kernel_rfl)
                      · apply e_attr (C := 249) (i := 18) (hK := T.K) (hC := clsWorld P) (hin := by kernel_rfl) (hx := by kernel_rfl)
                        · exact e_name 4 (by kernel_rfl) (by kernel_rfl) (by kernel_rfl)
                      · exact e_str (i := 1) (by kernel_rfl)
                    · apply es_cons (hx := by kernel_rfl)
                      · apply e_subD (hw := hw) (hs := fun _ _ => by kernel_rfl)
                        · apply e_attr (C := 249) (i := 18) (hK := T.K) (hC := clsWorld P) (hin := by kernel_rfl) (hx := by kernel_rfl)
                          · exact e_name 4 (by kernel_rfl) (by kernel_rfl) (by kernel_rfl)
                        · exact e_str (i := 2) (by kernel_rfl)
                      · apply es_cons (hx := by kernel_rfl)
                        · apply e_subD (hw := hw) (hs := fun _ _ => by kernel_rfl)
                          · apply e_attr (C := 249) (i := 18) (hK := T.K) (hC := clsWorld P) (hin := by kernel_rfl) (hx := by kernel_rfl)
                            · exact e_name 4 (by kernel_rfl) (by kernel_rfl) (by kernel_rfl)
                          · exact e_str (i := 3) (by kernel_rfl)
                        · exact es_nil
                  · exact unpack_ok (.cons (t_name 10 (by kernel_rfl) (by kernel_rfl) (by kernel_rfl) (by kernel_rfl)) (.cons (t_name 11 (by kernel_rfl) (by kernel_rfl) (by kernel_rfl) (by kernel_rfl)) (.cons (t_name 12 (by kernel_rfl) (by kernel_rfl) (by kernel_rfl) (by kernel_rfl)) (.nil)))) (by kernel_rfl) (by kernel_rfl) (by kernel_rfl)
                · apply x_cons_ok
                  · apply x_for_ok (hs := fun _ => by kernel_rfl)
                    · apply src_enum (hn := (nameG_bi T (by kernel_rfl) (by kernel_rfl) (by kernel_rfl) (by kernel_rfl) (by kernel_rfl) (by kernel_rfl) (by kernel_rfl) (by kernel_rfl))) (hs := by kernel_rfl) (he := fun _ _ _ _ _ h => evalArgs_plain h)
                      apply es_cons (hx := by kernel_rfl)
                      · apply e_attr (C := 138) (i := 11) (hK := T.K) (hC := clsGrid P) (hin := by kernel_rfl) (hx := by kernel_rfl)
                        · exact e_name 10 (by kernel_rfl) (by kernel_rfl) (by kernel_rfl)
                      · exact es_nil
                    · exact unpack_ok (.cons (t_name 13 (by kernel_rfl) (by kernel_rfl) (by kernel_rfl) (by kernel_rfl)) (.cons (t_name 14 (by kernel_rfl) (by kernel_rfl) (by kernel_rfl) (by kernel_rfl)) (.nil))) (by kernel_rfl) (by kernel_rfl) (by kernel_rfl)
                    · apply x_cons_ok
                      · apply x_if
                        · apply t_boolop
                          apply t_or_cons
                          · apply t_cmp (hr := by decide) (hβ := hβ) (hm := by kernel_rfl)
                            · exact e_name 14 (by kernel_rfl) (by kernel_rfl) (by kernel_rfl)
                            · exact e_int
                          · apply t_or_cons
                            · apply t_cmp (hr := by decide) (hβ := hβ) (hm := by kernel_rfl)
                              · apply e_sub (hs := fun _ _ => by kernel_rfl)
                                · apply e_attr (C := 138) (i := 11) (hK := T.K) (hC := clsGrid P) (hin := by kernel_rfl) (hx := by kernel_rfl)
                                  · exact e_name 11 (by kernel_rfl) (by kernel_rfl) (by kernel_rfl)
                                · apply e_ifexp
                                  · apply t_cmp (hr := by decide) (hβ := hβ) (hm := by kernel_rfl)
                                    · exact e_name 13 (by kernel_rfl) (by kernel_rfl) (by kernel_rfl)
                                    · exact e_name 5 (by kernel_rfl) (by kernel_rfl) (by kernel_rfl)
                                  · exact e_name 5 (by kernel_rfl) (by kernel_rfl) (by kernel_rfl)
                                  · apply e_bin
                                    · apply e_bin
                                      · exact e_name 13 (by kernel_rfl) (by kernel_rfl) (by kernel_rfl)
                                      · exact e_name 0 (by kernel_rfl) (by kernel_rfl) (by kernel_rfl)
                                    · exact e_name 5 (by kernel_rfl) (by kernel_rfl) (by kernel_rfl)
                              · exact e_name 14 (by kernel_rfl) (by kernel_rfl) (by kernel_rfl)
                            · exact t_or_nil
                        · apply x_cons_ok
                          · apply x_return
                            exact e_bool
                          · exact x_nil_ok
                        · exact x_nil_ok
                      · exact x_nil_ok
                  · apply x_cons_ok
                    · apply x_assign (i := 15) (hx := by kernel_rfl) (hd := by kernel_rfl) (hk := by kernel_rfl) (hsk := by kernel_rfl) (hs := by kernel_rfl)
                      apply e_call (f := .ref 224) (hn := (nameG_mod T (by kernel_rfl) (by kernel_rfl) (by kernel_rfl) (by kernel_rfl) (by kernel_rfl))) (hk := keptK T (by kernel_rfl)) (hF := c_rows_of P w β hw hb hβ T) (hr := by decide) (hs := by kernel_rfl) (he := fun _ _ _ _ _ h => evalArgs_plain h)
                      apply es_cons (hx := by kernel_rfl)
                      · exact e_name 10 (by kernel_rfl) (by kernel_rfl) (by kernel_rfl)
                      · exact es_nil
                    · apply x_cons_ok
                      · apply x_expr (hi' := by kernel_rfl) (hs := by kernel_rfl)
                        apply e_call (f := .ref 231) (hn := (nameG_mod T (by kernel_rfl) (by kernel_rfl) (by kernel_rfl) (by kernel_rfl) (by kernel_rfl))) (hk := keptK T (by kernel_rfl)) (hF := c_put_rows P w β hw hb hβ T) (hr := by decide) (hs := by kernel_rfl) (he := fun _ _ _ _ _ h => evalArgs_plain h)
                        apply es_cons (hx := by kernel_rfl)
                        · exact e_name 4 (by kernel_rfl) (by kernel_rfl) (by kernel_rfl)
                        · apply es_cons (hx := by kernel_rfl)
                          · exact e_name 12 (by kernel_rfl) (by kernel_rfl) (by kernel_rfl)
                          · apply es_cons (hx := by kernel_rfl)
                            · apply e_call (f := .ref 289) (hn := (nameG_mod T (by kernel_rfl) (by kernel_rfl) (by kernel_rfl) (by kernel_rfl) (by kernel_rfl))) (hk := keptK T (by kernel_rfl)) (hF := c__law_columns P w β hw hb hβ T) (hr := by decide) (hs := by kernel_rfl) (he := fun _ _ _ _ _ h => evalArgs_plain h)
                              apply es_cons (hx := by kernel_rfl)
                              · exact e_name 15 (by kernel_rfl) (by kernel_rfl) (by kernel_rfl)
                              · exact es_nil
                            · exact es_nil
                      · apply x_cons_ok
                        · apply x_comp1 (i := 16) (hsw := by kernel_rfl) (hx := by kernel_rfl) (hd := by kernel_rfl) (hk := by kernel_rfl) (hsk := by kernel_rfl) (ns := (["place", "subs", "base", "other"] : List Str)) (own := (["place", "subs"] : List Str)) (src := [none, none, some 2, some 11]) (hc := ⟨by kernel_rfl, by kernel_rfl, by kernel_rfl, by decide +kernel, by kernel_rfl, by kernel_rfl⟩) (hs := fun _ => by kernel_rfl)
                          · apply src_enum (hn := (nameG_bi T (by kernel_rfl) (by kernel_rfl) (by kernel_rfl) (by kernel_rfl) (by kernel_rfl) (by kernel_rfl) (by kernel_rfl) (by kernel_rfl))) (hs := by kernel_rfl) (he := fun _ _ _ _ _ h => evalArgs_plain h)
                            apply es_cons (hx := by kernel_rfl)
                            · apply e_call (f := .ref 272) (hn := (nameG_mod T (by kernel_rfl) (by kernel_rfl) (by kernel_rfl) (by kernel_rfl) (by kernel_rfl))) (hk := keptK T (by kernel_rfl)) (hF := c__law_rows_of_places P w β hw hb hβ T) (hr := by decide) (hs := by kernel_rfl) (he := fun _ _ _ _ _ h => evalArgs_plain h)
                              apply es_cons (hx := by kernel_rfl)
                              · exact e_name 7 (by kernel_rfl) (by kernel_rfl) (by kernel_rfl)
                              · apply es_cons (hx := by kernel_rfl)
                                · exact e_name 2 (by kernel_rfl) (by kernel_rfl) (by kernel_rfl)
                                · apply es_cons (hx := by kernel_rfl)
                                  · exact e_int
                                  · exact es_nil
                            · exact es_nil
                          · intro C
                            exact unpack_ok (.cons (t_name 0 (by kernel_rfl) (by kernel_rfl) (by kernel_rfl) (by kernel_rfl)) (.cons (t_name 1 (by kernel_rfl) (by kernel_rfl) (by kernel_rfl) (by kernel_rfl)) (.nil))) (by kernel_rfl) (by kernel_rfl) (by kernel_rfl)
                          · intro C
                            apply ac1
                            apply e_ifexp
                            · apply t_boolop
                              apply t_and_cons
                              · apply t_cmp (hr := by decide) (hβ := hβ) (hm := by kernel_rfl)
                                · exact e_name 2 (by kernel_rfl) (by kernel_rfl) (by kernel_rfl)
                                · exact e_int
                              · apply t_and_cons
                                · apply t_inL_ok (hm := by kernel_rfl)
                                  · exact e_int
                                  · exact e_name 1 (by kernel_rfl) (by kernel_rfl) (by kernel_rfl)
                                · exact t_and_nil
                            · exact e_int
                            · apply e_sub (hs := fun _ _ => by kernel_rfl)
                              · apply e_attr (C := 138) (i := 11) (hK := T.K) (hC := clsGrid P) (hin := by kernel_rfl) (hx := by kernel_rfl)
                                · exact e_name 3 (by kernel_rfl) (by kernel_rfl) (by kernel_rfl)
                              · exact e_name 0 (by kernel_rfl) (by kernel_rfl) (by kernel_rfl)
                        · apply x_cons_ok
                          · apply x_if
                            · apply t_boolop
                              apply t_or_cons
                              · apply t_cmp (hr := by decide) (hβ := hβ) (hm := by kernel_rfl)
                                · apply e_attr (C := 138) (i := 11) (hK := T.K) (hC := clsGrid P) (hin := by kernel_rfl) (hx := by kernel_rfl)
                                  · exact e_name 12 (by kernel_rfl) (by kernel_rfl) (by kernel_rfl)
                                · exact e_name 16 (by kernel_rfl) (by kernel_rfl) (by kernel_rfl)
                              · apply t_or_cons
                                · apply t_cmp (hr := by decide) (hβ := hβ) (hm := by kernel_rfl)
                                  · apply e_call (f := .ref 224) (hn := (nameG_mod T (by kernel_rfl) (by kernel_rfl) (by kernel_rfl) (by kernel_rfl) (by kernel_rfl))) (hk := keptK T (by kernel_rfl)) (hF := c_rows_of P w β hw hb hβ T) (hr := by decide) (hs := by kernel_rfl) (he := fun _ _ _ _ _ h => evalArgs_plain h)
                                    apply es_cons (hx := by kernel_rfl)
                                    · exact e_name 12 (by kernel_rfl) (by kernel_rfl) (by kernel_rfl)
                                    · exact es_nil
                                  · apply e_call (f := .ref 224) (hn := (nameG_mod T (by kernel_rfl) (by kernel_rfl) (by kernel_rfl) (by kernel_rfl) (by kernel_rfl))) (hk := keptK T (by kernel_rfl)) (hF := c_rows_of P w β hw hb hβ T) (hr := by decide) (hs := by kernel_rfl) (he := fun _ _ _ _ _ h => evalArgs_plain h)
                                    apply es_cons (hx := by kernel_rfl)
                                    · exact e_name 11 (by kernel_rfl) (by kernel_rfl) (by kernel_rfl)
                                    · exact es_nil
                                · apply t_or_cons
                                  · apply t_cmp (hr := by decide) (hβ := hβ) (hm := by kernel_rfl)
                                    · apply e_call (f := .ref 289) (hn := (nameG_mod T (by kernel_rfl) (by kernel_rfl) (by kernel_rfl) (by kernel_rfl) (by kernel_rfl))) (hk := keptK T (by kernel_rfl)) (hF := c__law_columns P w β hw hb hβ T) (hr := by decide) (hs := by kernel_rfl) (he := fun _ _ _ _ _ h => evalArgs_plain h)
                                      apply es_cons (hx := by kernel_rfl)
                                      · apply e_call (f := .ref 224) (hn := (nameG_mod T (by kernel_rfl) (by kernel_rfl) (by kernel_rfl) (by kernel_rfl) (by kernel_rfl))) (hk := keptK T (by kernel_rfl)) (hF := c_rows_of P w β hw hb hβ T) (hr := by decide) (hs := by kernel_rfl) (he := fun _ _ _ _ _ h => evalArgs_plain h)
                                        apply es_cons (hx := by kernel_rfl)
                                        · exact e_name 12 (by kernel_rfl) (by kernel_rfl) (by kernel_rfl)
                                        · exact es_nil
                                      · exact es_nil
                                    · exact e_name 15 (by kernel_rfl) (by kernel_rfl) (by kernel_rfl)
                                  · exact t_or_nil
                            · apply x_cons_ok
                              · apply x_return
                                exact e_bool
                              · exact x_nil_ok
                            · exact x_nil_ok
                          · apply x_cons_ok
                            · apply x_expr (hi' := by kernel_rfl) (hs := by kernel_rfl)
                              apply e_call (f := .ref 219) (hn := (nameG_mod T (by kernel_rfl) (by kernel_rfl) (by kernel_rfl) (by kernel_rfl) (by kernel_rfl))) (hk := keptK T (by kernel_rfl)) (hF := c_redim P w β hw hb hβ T) (hr := by decide) (hs := by kernel_rfl) (he := fun _ _ _ _ _ h => evalArgs_plain h)
                              apply es_cons (hx := by kernel_rfl)
                              · exact e_name 4 (by kernel_rfl) (by kernel_rfl) (by kernel_rfl)
                              · apply es_cons (hx := by kernel_rfl)
                                · exact e_name 11 (by kernel_rfl) (by kernel_rfl) (by kernel_rfl)
                                · apply es_cons (hx := by kernel_rfl)
                                  · exact e_name 6 (by kernel_rfl) (by kernel_rfl) (by kernel_rfl)
                                  · exact es_nil
                            · apply x_cons_ok
                              · apply x_if
                                · apply t_cmp (hr := by decide) (hβ := hβ) (hm := by kernel_rfl)
                                  · apply e_attr (C := 138) (i := 11) (hK := T.K) (hC := clsGrid P) (hin := by kernel_rfl) (hx := by kernel_rfl)
                                    · exact e_name 11 (by kernel_rfl) (by kernel_rfl) (by kernel_rfl)
                                  · apply e_rep
                                    · apply es_cons (hx := by kernel_rfl)
                                      · exact e_int
                                      · exact es_nil
                                    · apply e_bin
                                      · exact e_name 5 (by kernel_rfl) (by kernel_rfl) (by kernel_rfl)
                                      · exact e_int
                                · apply x_cons_ok
                                  · apply x_return
                                    exact e_bool
                                  · exact x_nil_ok
                                · exact x_nil_ok
                              · apply x_cons_ok
                                · apply x_expr (hi' := by kernel_rfl) (hs := by kernel_rfl)
                                  apply e_call (f := .ref 231) (hn := (nameG_mod T (by kernel_rfl) (by kernel_rfl) (by kernel_rfl) (by kernel_rfl) (by kernel_rfl))) (hk := keptK T (by kernel_rfl)) (hF := c_put_rows P w β hw hb hβ T) (hr := by decide) (hs := by kernel_rfl) (he := fun _ _ _ _ _ h => evalArgs_plain h)
                                  apply es_cons (hx := by kernel_rfl)
                                  · exact e_name 4 (by kernel_rfl) (by kernel_rfl) (by kernel_rfl)
                                  · apply es_cons (hx := by kernel_rfl)
                                    · exact e_name 11 (by kernel_rfl) (by kernel_rfl) (by kernel_rfl)
                                    · apply es_cons (hx := by kernel_rfl)
                                      · exact e_name 15 (by kernel_rfl) (by kernel_rfl) (by kernel_rfl)
                                      · exact es_nil
                                · apply x_cons_ok
                                  · apply x_return
                                    apply e_and2
                                    · apply e_cmp (hr := by decide) (hβ := hβ) (hm := by kernel_rfl)
                                      · apply e_call (f := .ref 224) (hn := (nameG_mod T (by kernel_rfl) (by kernel_rfl) (by kernel_rfl) (by kernel_rfl) (by kernel_rfl))) (hk := keptK T (by kernel_rfl)) (hF := c_rows_of P w β hw hb hβ T) (hr := by decide) (hs := by kernel_rfl) (he := fun _ _ _ _ _ h => evalArgs_plain h)
                                        apply es_cons (hx := by kernel_rfl)
                                        · exact e_name 11 (by kernel_rfl) (by kernel_rfl) (by kernel_rfl)
                                        · exact es_nil
                                      · exact e_name 15 (by kernel_rfl) (by kernel_rfl) (by kernel_rfl)
                                    · apply e_cmp (hr := by decide) (hβ := hβ) (hm := by kernel_rfl)
                                      · apply e_attr (C := 138) (i := 9) (hK := T.K) (hC := clsGrid P) (hin := by kernel_rfl) (hx := by kernel_rfl)
                                        · exact e_name 11 (by kernel_rfl) (by kernel_rfl) (by kernel_rfl)
                                      · exact e_name 6 (by kernel_rfl) (by kernel_rfl) (by kernel_rfl)
                                  · exact x_nil_ok
theorem d__law_turned_right {P : Params} {hb : Heap} (T : Top0 P hb) : DefOk hb 294 (fdN P 294) (bodyOf (fdN P 294)) (["tall", "wide", "base", "begin"] : List Str) (["world", "last", "highs", "turned", "i", "j", "one", "other", "third", "place", "item", "rows", "due"] : List Str) :=
  defOk_of T 294 _ _ (by kernel_rfl) (by kernel_rfl) (by kernel_rfl) (fun vs h => match vs, h with | [_, _, _, _], _ => by kernel_rfl) (by kernel_rfl) (by kernel_rfl) (by kernel_rfl) (by decide) (by kernel_rfl) (by kernel_rfl) (by kernel_rfl)
theorem c__law_turned_right (P : Params) (w : World) (β : Gl) (hw : β.w = w) (hb : Heap) (hβ : 1 ≤ β.b ∧ β.b ≤ 900) (T : Top0 P hb) : CallS PG w hb β 15 (.ref 294) (callL 4 [] 13 s__law_turned_right.1) :=
  call_def (d__law_turned_right T) (fun _ _ => .nil) fun L => s__law_turned_right.2 P w hb β hw hβ T L
end Mine
end

section
open PySem PySem.W PyProof.Rows PySem.Spec PySem.Calls
set_option maxRecDepth 100000
set_option maxHeartbeats 4000000
namespace Mine
noncomputable abbrev fdL (pm cd doc dV kV : Value) : FuncData := { docDef d62.name d62.params d62.body d62.scope pm cd doc with defaults := dV, kwdefaults := kV }
theorem call_symB {prog : Program} {w : World} {hb : Heap} {bb : Int} {r : Nat} {f : Value} {F : List MV → List AObj → Option (MV × List AObj)} (hF : CallS prog w hb ⟨bb, w⟩ r f F) : CallS prog w hb ⟨bb, w⟩ r f (symF F bb) := call_sym hF
noncomputable def s_law (bb : Int) : PSigma fun F : St → Option (Fl × St) => ∀ (P : Params) (w : World) (hb : Heap) (hβ : 1 ≤ bb ∧ bb ≤ 900) (T : Top0 P hb) (pm cd doc dV kV : Value) (fa L : Addr), ExS PG w hb ⟨bb, w⟩ (defBk (fdL pm cd doc dV kV) fa ((["script"] : List Str) ++ (["sack", "base", "highs", "tall", "wide"] : List Str)) L) 15 (execs d62.body (defBk (fdL pm cd doc dV kV) fa ((["script"] : List Str) ++ (["sack", "base", "highs", "tall", "wide"] : List Str)) L).env) F := by
  apply PSigma.mk
  intro P w hb hβ T pm cd doc dV kV fa L
  apply x_cons_ok
  · apply x_assign (i := 1) (hx := by kernel_rfl) (hd := by kernel_rfl) (hk := by kernel_rfl) (hsk := by kernel_rfl) (hs := by kernel_rfl)
    apply e_listM
    apply es_cons (hx := by kernel_rfl)
    · apply e_upto
      · exact e_name 0 (by kernel_rfl) (by kernel_rfl) (by kernel_rfl)
      · exact e_int
    · apply es_cons (hx := by kernel_rfl)
      · exact e_int
      · exact es_nil
  · apply x_cons_ok
    · apply x_assign (i := 2) (hx := by kernel_rfl) (hd := by kernel_rfl) (hk := by kernel_rfl) (hsk := by kernel_rfl) (hs := by kernel_rfl)
      apply e_call (f := .ref 260) (hn := (nameG_mod T (by kernel_rfl) (by kernel_rfl) (by kernel_rfl) (by kernel_rfl) (by kernel_rfl))) (hk := keptK T (by kernel_rfl)) (hF := c__law_take P w ⟨bb, w⟩ rfl hb hβ T) (hr := by decide) (hs := by kernel_rfl) (he := fun _ _ _ _ _ h => evalArgs_plain h)
      apply es_cons (hx := by kernel_rfl)
      · exact e_name 1 (by kernel_rfl) (by kernel_rfl) (by kernel_rfl)
      · apply es_cons (hx := by kernel_rfl)
        · exact e_int
        · exact es_nil
    · apply x_cons_ok
      · apply x_comp1 (i := 3) (hsw := by kernel_rfl) (hx := by kernel_rfl) (hd := by kernel_rfl) (hk := by kernel_rfl) (hsk := by kernel_rfl) (ns := (["turn", "base", "sack"] : List Str)) (own := (["turn"] : List Str)) (src := [none, some 2, some 1]) (hc := ⟨by kernel_rfl, by kernel_rfl, by kernel_rfl, by decide +kernel, by kernel_rfl, by kernel_rfl⟩) (hs := fun _ => by kernel_rfl)
        · apply src_range (hn := (nameG_bi T (by kernel_rfl) (by kernel_rfl) (by kernel_rfl) (by kernel_rfl) (by kernel_rfl) (by kernel_rfl) (by kernel_rfl) (by kernel_rfl))) (hs := by kernel_rfl) (he := fun _ _ _ _ _ h => evalArgs_plain h)
          apply es_cons (hx := by kernel_rfl)
          · exact e_int
          · exact es_nil
        · intro C
          exact t_name 0 (by kernel_rfl) (by kernel_rfl) (by kernel_rfl) (by kernel_rfl)
        · intro C
          apply ac1
          apply e_bin
          · exact e_name 1 (by kernel_rfl) (by kernel_rfl) (by kernel_rfl)
          · apply e_call (f := .ref 260) (hn := (nameG_mod T (by kernel_rfl) (by kernel_rfl) (by kernel_rfl) (by kernel_rfl) (by kernel_rfl))) (hk := keptK T (by kernel_rfl)) (hF := c__law_take P w ⟨bb, w⟩ rfl hb hβ T) (hr := by decide) (hs := by kernel_rfl) (he := fun _ _ _ _ _ h => evalArgs_plain h)
            apply es_cons (hx := by kernel_rfl)
            · exact e_name 2 (by kernel_rfl) (by kernel_rfl) (by kernel_rfl)
            · apply es_cons (hx := by kernel_rfl)
              · exact e_int
              · exact es_nil
      · apply x_cons_ok
        · apply x_if
          · apply t_boolop
            apply t_or_cons
            · apply t_not1
              apply t_value (he := by kernel_rfl)
              · apply e_call (f := .ref 277) (hn := (nameG_mod T (by kernel_rfl) (by kernel_rfl) (by kernel_rfl) (by kernel_rfl) (by kernel_rfl))) (hk := keptK T (by kernel_rfl)) (hF := call_alone (c__law_numbers_right P w ⟨bb, w⟩ rfl hb hβ T)) (hr := by decide) (hs := by kernel_rfl) (he := fun _ _ _ _ _ h => evalArgs_plain h)
                apply es_cons (hx := by kernel_rfl)
                · apply e_upto
                  · exact e_name 3 (by kernel_rfl) (by kernel_rfl) (by kernel_rfl)
                  · apply e_bin
                    · exact e_int
                    · apply e_call (f := .ref 260) (hn := (nameG_mod T (by kernel_rfl) (by kernel_rfl) (by kernel_rfl) (by kernel_rfl) (by kernel_rfl))) (hk := keptK T (by kernel_rfl)) (hF := c__law_take P w ⟨bb, w⟩ rfl hb hβ T) (hr := by decide) (hs := by kernel_rfl) (he := fun _ _ _ _ _ h => evalArgs_plain h)
                      apply es_cons (hx := by kernel_rfl)
                      · exact e_name 1 (by kernel_rfl) (by kernel_rfl) (by kernel_rfl)
                      · apply es_cons (hx := by kernel_rfl)
                        · exact e_int
                        · exact es_nil
                · apply es_cons (hx := by kernel_rfl)
                  · exact e_name 2 (by kernel_rfl) (by kernel_rfl) (by kernel_rfl)
                  · exact es_nil
            · apply t_or_cons
              · apply t_not1
                apply t_value (he := by kernel_rfl)
                · apply e_call (f := .ref 284) (hn := (nameG_mod T (by kernel_rfl) (by kernel_rfl) (by kernel_rfl) (by kernel_rfl) (by kernel_rfl))) (hk := keptK T (by kernel_rfl)) (hF := call_alone (c__law_together_right P w ⟨bb, w⟩ rfl hb hβ T)) (hr := by decide) (hs := by kernel_rfl) (he := fun _ _ _ _ _ h => evalArgs_plain h)
                  apply es_cons (hx := by kernel_rfl)
                  · exact e_name 3 (by kernel_rfl) (by kernel_rfl) (by kernel_rfl)
                  · apply es_cons (hx := by kernel_rfl)
                    · exact e_name 2 (by kernel_rfl) (by kernel_rfl) (by kernel_rfl)
                    · exact es_nil
              · exact t_or_nil
          · apply x_cons_ok
            · apply x_return
              exact e_bool
            · exact x_nil_ok
          · exact x_nil_ok
        · apply x_cons_ok
          · apply x_tupS_ok (names := (["tall", "wide"] : List Str)) (is := [5, 4]) (hsk := by kernel_rfl) (hN := .cons (by kernel_rfl) (by kernel_rfl) (by kernel_rfl) (.cons (by kernel_rfl) (by kernel_rfl) (by kernel_rfl) (.nil))) (hs := by kernel_rfl) (hw := by kernel_rfl)
            apply es_cons (hx := by kernel_rfl)
            · apply e_bin
              · exact e_int
              · apply e_call (f := .ref 260) (hn := (nameG_mod T (by kernel_rfl) (by kernel_rfl) (by kernel_rfl) (by kernel_rfl) (by kernel_rfl))) (hk := keptK T (by kernel_rfl)) (hF := c__law_take P w ⟨bb, w⟩ rfl hb hβ T) (hr := by decide) (hs := by kernel_rfl) (he := fun _ _ _ _ _ h => evalArgs_plain h)
                apply es_cons (hx := by kernel_rfl)
                · exact e_name 1 (by kernel_rfl) (by kernel_rfl) (by kernel_rfl)
                · apply es_cons (hx := by kernel_rfl)
                  · exact e_int
                  · exact es_nil
            · apply es_cons (hx := by kernel_rfl)
              · apply e_bin
                · exact e_int
                · apply e_call (f := .ref 260) (hn := (nameG_mod T (by kernel_rfl) (by kernel_rfl) (by kernel_rfl) (by kernel_rfl) (by kernel_rfl))) (hk := keptK T (by kernel_rfl)) (hF := c__law_take P w ⟨bb, w⟩ rfl hb hβ T) (hr := by decide) (hs := by kernel_rfl) (he := fun _ _ _ _ _ h => evalArgs_plain h)
                  apply es_cons (hx := by kernel_rfl)
                  · exact e_name 1 (by kernel_rfl) (by kernel_rfl) (by kernel_rfl)
                  · apply es_cons (hx := by kernel_rfl)
                    · exact e_int
                    · exact es_nil
              · exact es_nil
          · apply x_cons_ok
            · apply x_return
              apply e_call (f := .ref 294) (hn := (nameG_mod T (by kernel_rfl) (by kernel_rfl) (by kernel_rfl) (by kernel_rfl) (by kernel_rfl))) (hk := keptK T (by kernel_rfl)) (hF := call_alone (call_symB (c__law_turned_right P w ⟨bb, w⟩ rfl hb hβ T))) (hr := by decide) (hs := by kernel_rfl) (he := fun _ _ _ _ _ h => evalArgs_plain h)
              apply es_cons (hx := by kernel_rfl)
              · exact e_name 4 (by kernel_rfl) (by kernel_rfl) (by kernel_rfl)
              · apply es_cons (hx := by kernel_rfl)
                · exact e_name 5 (by kernel_rfl) (by kernel_rfl) (by kernel_rfl)
                · apply es_cons (hx := by kernel_rfl)
                  · exact e_name 2 (by kernel_rfl) (by kernel_rfl) (by kernel_rfl)
                  · apply es_cons (hx := by kernel_rfl)
                    · apply e_bin
                      · exact e_int
                      · apply e_call (f := .ref 260) (hn := (nameG_mod T (by kernel_rfl) (by kernel_rfl) (by kernel_rfl) (by kernel_rfl) (by kernel_rfl))) (hk := keptK T (by kernel_rfl)) (hF := c__law_take P w ⟨bb, w⟩ rfl hb hβ T) (hr := by decide) (hs := by kernel_rfl) (he := fun _ _ _ _ _ h => evalArgs_plain h)
                        apply es_cons (hx := by kernel_rfl)
                        · exact e_name 1 (by kernel_rfl) (by kernel_rfl) (by kernel_rfl)
                        · apply es_cons (hx := by kernel_rfl)
                          · exact e_int
                          · exact es_nil
                    · exact es_nil
            · exact x_nil_ok
end Mine
end

section
open PySem PySem.W PyProof.Rows PySem.Spec PySem.Calls
set_option maxRecDepth 1000000
set_option maxHeartbeats 40000000
namespace Mine
noncomputable def okTrue : Option (MV × List AObj) → Bool
  | some (.bool true, _) => true
  | _ => false
end Mine
end

section
open PySem PySem.W PyProof.Rows PySem.Spec PySem.Calls
set_option maxRecDepth 1000000
set_option maxHeartbeats 40000000
namespace Mine
theorem n3_0_000 : okTrue (callL 2 [] 7 s__law_numbers_right.1 [.list [.int 0, .int 0, .int 0], .int 0] []) = true := by kernel_rfl
theorem n3_0_001 : okTrue (callL 2 [] 7 s__law_numbers_right.1 [.list [.int 0, .int 0, .int 1], .int 0] []) = true := by kernel_rfl
theorem n3_0_002 : okTrue (callL 2 [] 7 s__law_numbers_right.1 [.list [.int 0, .int 0, .int 2], .int 0] []) = true := by kernel_rfl
theorem n3_0_010 : okTrue (callL 2 [] 7 s__law_numbers_right.1 [.list [.int 0, .int 1, .int 0], .int 0] []) = true := by kernel_rfl
theorem n3_0_011 : okTrue (callL 2 [] 7 s__law_numbers_right.1 [.list [.int 0, .int 1, .int 1], .int 0] []) = true := by kernel_rfl
theorem n3_0_012 : okTrue (callL 2 [] 7 s__law_numbers_right.1 [.list [.int 0, .int 1, .int 2], .int 0] []) = true := by kernel_rfl
theorem n3_0_020 : okTrue (callL 2 [] 7 s__law_numbers_right.1 [.list [.int 0, .int 2, .int 0], .int 0] []) = true := by kernel_rfl
theorem n3_0_021 : okTrue (callL 2 [] 7 s__law_numbers_right.1 [.list [.int 0, .int 2, .int 1], .int 0] []) = true := by kernel_rfl
theorem n3_0_022 : okTrue (callL 2 [] 7 s__law_numbers_right.1 [.list [.int 0, .int 2, .int 2], .int 0] []) = true := by kernel_rfl
theorem n3_0_100 : okTrue (callL 2 [] 7 s__law_numbers_right.1 [.list [.int 1, .int 0, .int 0], .int 0] []) = true := by kernel_rfl
theorem n3_0_101 : okTrue (callL 2 [] 7 s__law_numbers_right.1 [.list [.int 1, .int 0, .int 1], .int 0] []) = true := by kernel_rfl
theorem n3_0_102 : okTrue (callL 2 [] 7 s__law_numbers_right.1 [.list [.int 1, .int 0, .int 2], .int 0] []) = true := by kernel_rfl
theorem n3_0_110 : okTrue (callL 2 [] 7 s__law_numbers_right.1 [.list [.int 1, .int 1, .int 0], .int 0] []) = true := by kernel_rfl
theorem n3_0_111 : okTrue (callL 2 [] 7 s__law_numbers_right.1 [.list [.int 1, .int 1, .int 1], .int 0] []) = true := by kernel_rfl
theorem n3_0_112 : okTrue (callL 2 [] 7 s__law_numbers_right.1 [.list [.int 1, .int 1, .int 2], .int 0] []) = true := by kernel_rfl
theorem n3_0_120 : okTrue (callL 2 [] 7 s__law_numbers_right.1 [.list [.int 1, .int 2, .int 0], .int 0] []) = true := by kernel_rfl
theorem n3_0_121 : okTrue (callL 2 [] 7 s__law_numbers_right.1 [.list [.int 1, .int 2, .int 1], .int 0] []) = true := by kernel_rfl
theorem n3_0_122 : okTrue (callL 2 [] 7 s__law_numbers_right.1 [.list [.int 1, .int 2, .int 2], .int 0] []) = true := by kernel_rfl
theorem n3_0_200 : okTrue (callL 2 [] 7 s__law_numbers_right.1 [.list [.int 2, .int 0, .int 0], .int 0] []) = true := by kernel_rfl
theorem n3_0_201 : okTrue (callL 2 [] 7 s__law_numbers_right.1 [.list [.int 2, .int 0, .int 1], .int 0] []) = true := by kernel_rfl
theorem n3_0_202 : okTrue (callL 2 [] 7 s__law_numbers_right.1 [.list [.int 2, .int 0, .int 2], .int 0] []) = true := by kernel_rfl
theorem n3_0_210 : okTrue (callL 2 [] 7 s__law_numbers_right.1 [.list [.int 2, .int 1, .int 0], .int 0] []) = true := by kernel_rfl
theorem n3_0_211 : okTrue (callL 2 [] 7 s__law_numbers_right.1 [.list [.int 2, .int 1, .int 1], .int 0] []) = true := by kernel_rfl
theorem n3_0_212 : okTrue (callL 2 [] 7 s__law_numbers_right.1 [.list [.int 2, .int 1, .int 2], .int 0] []) = true := by kernel_rfl
theorem n3_0_220 : okTrue (callL 2 [] 7 s__law_numbers_right.1 [.list [.int 2, .int 2, .int 0], .int 0] []) = true := by kernel_rfl
theorem n3_0_221 : okTrue (callL 2 [] 7 s__law_numbers_right.1 [.list [.int 2, .int 2, .int 1], .int 0] []) = true := by kernel_rfl
theorem n3_0_222 : okTrue (callL 2 [] 7 s__law_numbers_right.1 [.list [.int 2, .int 2, .int 2], .int 0] []) = true := by kernel_rfl
theorem n3_0 : ∀ x y z : Int, 0 ≤ x → x ≤ 2 → 0 ≤ y → y ≤ 2 → 0 ≤ z → z ≤ 2 → okTrue (callL 2 [] 7 s__law_numbers_right.1 [.list [.int x, .int y, .int z], .int 0] []) = true := by
  intro x y z hx1 hx2 hy1 hy2 hz1 hz2
  have ex : x = 0 ∨ x = 1 ∨ x = 2 := by omega
  have ey : y = 0 ∨ y = 1 ∨ y = 2 := by omega
  have ez : z = 0 ∨ z = 1 ∨ z = 2 := by omega
  clear hx1 hx2
  clear hy1 hy2
  clear hz1 hz2
  rcases ex with rfl | rfl | rfl <;> rcases ey with rfl | rfl | rfl <;> rcases ez with rfl | rfl | rfl
  · exact n3_0_000
  · exact n3_0_001
  · exact n3_0_002
  · exact n3_0_010
  · exact n3_0_011
  · exact n3_0_012
  · exact n3_0_020
  · exact n3_0_021
  · exact n3_0_022
  · exact n3_0_100
  · exact n3_0_101
  · exact n3_0_102
  · exact n3_0_110
  · exact n3_0_111
  · exact n3_0_112
  · exact n3_0_120
  · exact n3_0_121
  · exact n3_0_122
  · exact n3_0_200
  · exact n3_0_201
  · exact n3_0_202
  · exact n3_0_210
  · exact n3_0_211
  · exact n3_0_212
  · exact n3_0_220
  · exact n3_0_221
  · exact n3_0_222
end Mine
end

section
open PySem PySem.W PyProof.Rows PySem.Spec PySem.Calls
set_option maxRecDepth 1000000
set_option maxHeartbeats 40000000
namespace Mine
theorem n3_1_000 : okTrue (callL 2 [] 7 s__law_numbers_right.1 [.list [.int 1, .int 1, .int 1], .int 1] []) = true := by kernel_rfl
theorem n3_1_001 : okTrue (callL 2 [] 7 s__law_numbers_right.1 [.list [.int 1, .int 1, .int 2], .int 1] []) = true := by kernel_rfl
theorem n3_1_002 : okTrue (callL 2 [] 7 s__law_numbers_right.1 [.list [.int 1, .int 1, .int 3], .int 1] []) = true := by kernel_rfl
theorem n3_1_010 : okTrue (callL 2 [] 7 s__law_numbers_right.1 [.list [.int 1, .int 2, .int 1], .int 1] []) = true := by kernel_rfl
theorem n3_1_011 : okTrue (callL 2 [] 7 s__law_numbers_right.1 [.list [.int 1, .int 2, .int 2], .int 1] []) = true := by kernel_rfl
theorem n3_1_012 : okTrue (callL 2 [] 7 s__law_numbers_right.1 [.list [.int 1, .int 2, .int 3], .int 1] []) = true := by kernel_rfl
theorem n3_1_020 : okTrue (callL 2 [] 7 s__law_numbers_right.1 [.list [.int 1, .int 3, .int 1], .int 1] []) = true := by kernel_rfl
theorem n3_1_021 : okTrue (callL 2 [] 7 s__law_numbers_right.1 [.list [.int 1, .int 3, .int 2], .int 1] []) = true := by kernel_rfl
theorem n3_1_022 : okTrue (callL 2 [] 7 s__law_numbers_right.1 [.list [.int 1, .int 3, .int 3], .int 1] []) = true := by kernel_rfl
theorem n3_1_100 : okTrue (callL 2 [] 7 s__law_numbers_right.1 [.list [.int 2, .int 1, .int 1], .int 1] []) = true := by kernel_rfl
theorem n3_1_101 : okTrue (callL 2 [] 7 s__law_numbers_right.1 [.list [.int 2, .int 1, .int 2], .int 1] []) = true := by kernel_rfl
theorem n3_1_102 : okTrue (callL 2 [] 7 s__law_numbers_right.1 [.list [.int 2, .int 1, .int 3], .int 1] []) = true := by kernel_rfl
theorem n3_1_110 : okTrue (callL 2 [] 7 s__law_numbers_right.1 [.list [.int 2, .int 2, .int 1], .int 1] []) = true := by kernel_rfl
theorem n3_1_111 : okTrue (callL 2 [] 7 s__law_numbers_right.1 [.list [.int 2, .int 2, .int 2], .int 1] []) = true := by kernel_rfl
theorem n3_1_112 : okTrue (callL 2 [] 7 s__law_numbers_right.1 [.list [.int 2, .int 2, .int 3], .int 1] []) = true := by kernel_rfl
theorem n3_1_120 : okTrue (callL 2 [] 7 s__law_numbers_right.1 [.list [.int 2, .int 3, .int 1], .int 1] []) = true := by kernel_rfl
theorem n3_1_121 : okTrue (callL 2 [] 7 s__law_numbers_right.1 [.list [.int 2, .int 3, .int 2], .int 1] []) = true := by kernel_rfl
theorem n3_1_122 : okTrue (callL 2 [] 7 s__law_numbers_right.1 [.list [.int 2, .int 3, .int 3], .int 1] []) = true := by kernel_rfl
theorem n3_1_200 : okTrue (callL 2 [] 7 s__law_numbers_right.1 [.list [.int 3, .int 1, .int 1], .int 1] []) = true := by kernel_rfl
theorem n3_1_201 : okTrue (callL 2 [] 7 s__law_numbers_right.1 [.list [.int 3, .int 1, .int 2], .int 1] []) = true := by kernel_rfl
theorem n3_1_202 : okTrue (callL 2 [] 7 s__law_numbers_right.1 [.list [.int 3, .int 1, .int 3], .int 1] []) = true := by kernel_rfl
theorem n3_1_210 : okTrue (callL 2 [] 7 s__law_numbers_right.1 [.list [.int 3, .int 2, .int 1], .int 1] []) = true := by kernel_rfl
theorem n3_1_211 : okTrue (callL 2 [] 7 s__law_numbers_right.1 [.list [.int 3, .int 2, .int 2], .int 1] []) = true := by kernel_rfl
theorem n3_1_212 : okTrue (callL 2 [] 7 s__law_numbers_right.1 [.list [.int 3, .int 2, .int 3], .int 1] []) = true := by kernel_rfl
theorem n3_1_220 : okTrue (callL 2 [] 7 s__law_numbers_right.1 [.list [.int 3, .int 3, .int 1], .int 1] []) = true := by kernel_rfl
theorem n3_1_221 : okTrue (callL 2 [] 7 s__law_numbers_right.1 [.list [.int 3, .int 3, .int 2], .int 1] []) = true := by kernel_rfl
theorem n3_1_222 : okTrue (callL 2 [] 7 s__law_numbers_right.1 [.list [.int 3, .int 3, .int 3], .int 1] []) = true := by kernel_rfl
theorem n3_1 : ∀ x y z : Int, 1 ≤ x → x ≤ 3 → 1 ≤ y → y ≤ 3 → 1 ≤ z → z ≤ 3 → okTrue (callL 2 [] 7 s__law_numbers_right.1 [.list [.int x, .int y, .int z], .int 1] []) = true := by
  intro x y z hx1 hx2 hy1 hy2 hz1 hz2
  have ex : x = 1 ∨ x = 2 ∨ x = 3 := by omega
  have ey : y = 1 ∨ y = 2 ∨ y = 3 := by omega
  have ez : z = 1 ∨ z = 2 ∨ z = 3 := by omega
  clear hx1 hx2
  clear hy1 hy2
  clear hz1 hz2
  rcases ex with rfl | rfl | rfl <;> rcases ey with rfl | rfl | rfl <;> rcases ez with rfl | rfl | rfl
  · exact n3_1_000
  · exact n3_1_001
  · exact n3_1_002
  · exact n3_1_010
  · exact n3_1_011
  · exact n3_1_012
  · exact n3_1_020
  · exact n3_1_021
  · exact n3_1_022
  · exact n3_1_100
  · exact n3_1_101
  · exact n3_1_102
  · exact n3_1_110
  · exact n3_1_111
  · exact n3_1_112
  · exact n3_1_120
  · exact n3_1_121
  · exact n3_1_122
  · exact n3_1_200
  · exact n3_1_201
  · exact n3_1_202
  · exact n3_1_210
  · exact n3_1_211
  · exact n3_1_212
  · exact n3_1_220
  · exact n3_1_221
  · exact n3_1_222
end Mine
end

section
open PySem PySem.W PyProof.Rows PySem.Spec PySem.Calls
set_option maxRecDepth 1000000
set_option maxHeartbeats 40000000
namespace Mine
theorem n1_0_0 : okTrue (callL 2 [] 7 s__law_numbers_right.1 [.list [.int 0], .int 0] []) = true := by kernel_rfl
theorem n1_0_1 : okTrue (callL 2 [] 7 s__law_numbers_right.1 [.list [.int 1], .int 0] []) = true := by kernel_rfl
theorem n1_0_2 : okTrue (callL 2 [] 7 s__law_numbers_right.1 [.list [.int 2], .int 0] []) = true := by kernel_rfl
theorem n1_0 : ∀ x : Int, 0 ≤ x → x ≤ 2 → okTrue (callL 2 [] 7 s__law_numbers_right.1 [.list [.int x], .int 0] []) = true := by
  intro x hx1 hx2
  have ex : x = 0 ∨ x = 1 ∨ x = 2 := by omega
  clear hx1 hx2
  rcases ex with rfl | rfl | rfl
  · exact n1_0_0
  · exact n1_0_1
  · exact n1_0_2
theorem n2_0_00 : okTrue (callL 2 [] 7 s__law_numbers_right.1 [.list [.int 0, .int 0], .int 0] []) = true := by kernel_rfl
theorem n2_0_01 : okTrue (callL 2 [] 7 s__law_numbers_right.1 [.list [.int 0, .int 1], .int 0] []) = true := by kernel_rfl
theorem n2_0_02 : okTrue (callL 2 [] 7 s__law_numbers_right.1 [.list [.int 0, .int 2], .int 0] []) = true := by kernel_rfl
theorem n2_0_10 : okTrue (callL 2 [] 7 s__law_numbers_right.1 [.list [.int 1, .int 0], .int 0] []) = true := by kernel_rfl
theorem n2_0_11 : okTrue (callL 2 [] 7 s__law_numbers_right.1 [.list [.int 1, .int 1], .int 0] []) = true := by kernel_rfl
theorem n2_0_12 : okTrue (callL 2 [] 7 s__law_numbers_right.1 [.list [.int 1, .int 2], .int 0] []) = true := by kernel_rfl
theorem n2_0_20 : okTrue (callL 2 [] 7 s__law_numbers_right.1 [.list [.int 2, .int 0], .int 0] []) = true := by kernel_rfl
theorem n2_0_21 : okTrue (callL 2 [] 7 s__law_numbers_right.1 [.list [.int 2, .int 1], .int 0] []) = true := by kernel_rfl
theorem n2_0_22 : okTrue (callL 2 [] 7 s__law_numbers_right.1 [.list [.int 2, .int 2], .int 0] []) = true := by kernel_rfl
theorem n2_0 : ∀ x y : Int, 0 ≤ x → x ≤ 2 → 0 ≤ y → y ≤ 2 → okTrue (callL 2 [] 7 s__law_numbers_right.1 [.list [.int x, .int y], .int 0] []) = true := by
  intro x y hx1 hx2 hy1 hy2
  have ex : x = 0 ∨ x = 1 ∨ x = 2 := by omega
  have ey : y = 0 ∨ y = 1 ∨ y = 2 := by omega
  clear hx1 hx2
  clear hy1 hy2
  rcases ex with rfl | rfl | rfl <;> rcases ey with rfl | rfl | rfl
  · exact n2_0_00
  · exact n2_0_01
  · exact n2_0_02
  · exact n2_0_10
  · exact n2_0_11
  · exact n2_0_12
  · exact n2_0_20
  · exact n2_0_21
  · exact n2_0_22
theorem n1_1_0 : okTrue (callL 2 [] 7 s__law_numbers_right.1 [.list [.int 1], .int 1] []) = true := by kernel_rfl
theorem n1_1_1 : okTrue (callL 2 [] 7 s__law_numbers_right.1 [.list [.int 2], .int 1] []) = true := by kernel_rfl
theorem n1_1_2 : okTrue (callL 2 [] 7 s__law_numbers_right.1 [.list [.int 3], .int 1] []) = true := by kernel_rfl
theorem n1_1 : ∀ x : Int, 1 ≤ x → x ≤ 3 → okTrue (callL 2 [] 7 s__law_numbers_right.1 [.list [.int x], .int 1] []) = true := by
  intro x hx1 hx2
  have ex : x = 1 ∨ x = 2 ∨ x = 3 := by omega
  clear hx1 hx2
  rcases ex with rfl | rfl | rfl
  · exact n1_1_0
  · exact n1_1_1
  · exact n1_1_2
theorem n2_1_00 : okTrue (callL 2 [] 7 s__law_numbers_right.1 [.list [.int 1, .int 1], .int 1] []) = true := by kernel_rfl
theorem n2_1_01 : okTrue (callL 2 [] 7 s__law_numbers_right.1 [.list [.int 1, .int 2], .int 1] []) = true := by kernel_rfl
theorem n2_1_02 : okTrue (callL 2 [] 7 s__law_numbers_right.1 [.list [.int 1, .int 3], .int 1] []) = true := by kernel_rfl
theorem n2_1_10 : okTrue (callL 2 [] 7 s__law_numbers_right.1 [.list [.int 2, .int 1], .int 1] []) = true := by kernel_rfl
theorem n2_1_11 : okTrue (callL 2 [] 7 s__law_numbers_right.1 [.list [.int 2, .int 2], .int 1] []) = true := by kernel_rfl
theorem n2_1_12 : okTrue (callL 2 [] 7 s__law_numbers_right.1 [.list [.int 2, .int 3], .int 1] []) = true := by kernel_rfl
theorem n2_1_20 : okTrue (callL 2 [] 7 s__law_numbers_right.1 [.list [.int 3, .int 1], .int 1] []) = true := by kernel_rfl
theorem n2_1_21 : okTrue (callL 2 [] 7 s__law_numbers_right.1 [.list [.int 3, .int 2], .int 1] []) = true := by kernel_rfl
theorem n2_1_22 : okTrue (callL 2 [] 7 s__law_numbers_right.1 [.list [.int 3, .int 3], .int 1] []) = true := by kernel_rfl
theorem n2_1 : ∀ x y : Int, 1 ≤ x → x ≤ 3 → 1 ≤ y → y ≤ 3 → okTrue (callL 2 [] 7 s__law_numbers_right.1 [.list [.int x, .int y], .int 1] []) = true := by
  intro x y hx1 hx2 hy1 hy2
  have ex : x = 1 ∨ x = 2 ∨ x = 3 := by omega
  have ey : y = 1 ∨ y = 2 ∨ y = 3 := by omega
  clear hx1 hx2
  clear hy1 hy2
  rcases ex with rfl | rfl | rfl <;> rcases ey with rfl | rfl | rfl
  · exact n2_1_00
  · exact n2_1_01
  · exact n2_1_02
  · exact n2_1_10
  · exact n2_1_11
  · exact n2_1_12
  · exact n2_1_20
  · exact n2_1_21
  · exact n2_1_22
end Mine
end

section
open PySem PySem.W PyProof.Rows PySem.Spec PySem.Calls
set_option maxRecDepth 1000000
set_option maxHeartbeats 40000000
namespace Mine
theorem tog_0_000 : okTrue (callL 2 [] 12 s__law_together_right.1 [.list [.int 0, .int 0, .int 0], .int 0] []) = true := by kernel_rfl
theorem tog_0_001 : okTrue (callL 2 [] 12 s__law_together_right.1 [.list [.int 0, .int 0, .int 1], .int 0] []) = true := by kernel_rfl
theorem tog_0_002 : okTrue (callL 2 [] 12 s__law_together_right.1 [.list [.int 0, .int 0, .int 2], .int 0] []) = true := by kernel_rfl
theorem tog_0_010 : okTrue (callL 2 [] 12 s__law_together_right.1 [.list [.int 0, .int 1, .int 0], .int 0] []) = true := by kernel_rfl
theorem tog_0_011 : okTrue (callL 2 [] 12 s__law_together_right.1 [.list [.int 0, .int 1, .int 1], .int 0] []) = true := by kernel_rfl
theorem tog_0_012 : okTrue (callL 2 [] 12 s__law_together_right.1 [.list [.int 0, .int 1, .int 2], .int 0] []) = true := by kernel_rfl
theorem tog_0_020 : okTrue (callL 2 [] 12 s__law_together_right.1 [.list [.int 0, .int 2, .int 0], .int 0] []) = true := by kernel_rfl
theorem tog_0_021 : okTrue (callL 2 [] 12 s__law_together_right.1 [.list [.int 0, .int 2, .int 1], .int 0] []) = true := by kernel_rfl
theorem tog_0_022 : okTrue (callL 2 [] 12 s__law_together_right.1 [.list [.int 0, .int 2, .int 2], .int 0] []) = true := by kernel_rfl
theorem tog_0_100 : okTrue (callL 2 [] 12 s__law_together_right.1 [.list [.int 1, .int 0, .int 0], .int 0] []) = true := by kernel_rfl
theorem tog_0_101 : okTrue (callL 2 [] 12 s__law_together_right.1 [.list [.int 1, .int 0, .int 1], .int 0] []) = true := by kernel_rfl
theorem tog_0_102 : okTrue (callL 2 [] 12 s__law_together_right.1 [.list [.int 1, .int 0, .int 2], .int 0] []) = true := by kernel_rfl
theorem tog_0_110 : okTrue (callL 2 [] 12 s__law_together_right.1 [.list [.int 1, .int 1, .int 0], .int 0] []) = true := by kernel_rfl
theorem tog_0_111 : okTrue (callL 2 [] 12 s__law_together_right.1 [.list [.int 1, .int 1, .int 1], .int 0] []) = true := by kernel_rfl
theorem tog_0_112 : okTrue (callL 2 [] 12 s__law_together_right.1 [.list [.int 1, .int 1, .int 2], .int 0] []) = true := by kernel_rfl
theorem tog_0_120 : okTrue (callL 2 [] 12 s__law_together_right.1 [.list [.int 1, .int 2, .int 0], .int 0] []) = true := by kernel_rfl
theorem tog_0_121 : okTrue (callL 2 [] 12 s__law_together_right.1 [.list [.int 1, .int 2, .int 1], .int 0] []) = true := by kernel_rfl
theorem tog_0_122 : okTrue (callL 2 [] 12 s__law_together_right.1 [.list [.int 1, .int 2, .int 2], .int 0] []) = true := by kernel_rfl
theorem tog_0_200 : okTrue (callL 2 [] 12 s__law_together_right.1 [.list [.int 2, .int 0, .int 0], .int 0] []) = true := by kernel_rfl
theorem tog_0_201 : okTrue (callL 2 [] 12 s__law_together_right.1 [.list [.int 2, .int 0, .int 1], .int 0] []) = true := by kernel_rfl
theorem tog_0_202 : okTrue (callL 2 [] 12 s__law_together_right.1 [.list [.int 2, .int 0, .int 2], .int 0] []) = true := by kernel_rfl
theorem tog_0_210 : okTrue (callL 2 [] 12 s__law_together_right.1 [.list [.int 2, .int 1, .int 0], .int 0] []) = true := by kernel_rfl
theorem tog_0_211 : okTrue (callL 2 [] 12 s__law_together_right.1 [.list [.int 2, .int 1, .int 1], .int 0] []) = true := by kernel_rfl
theorem tog_0_212 : okTrue (callL 2 [] 12 s__law_together_right.1 [.list [.int 2, .int 1, .int 2], .int 0] []) = true := by kernel_rfl
theorem tog_0_220 : okTrue (callL 2 [] 12 s__law_together_right.1 [.list [.int 2, .int 2, .int 0], .int 0] []) = true := by kernel_rfl
theorem tog_0_221 : okTrue (callL 2 [] 12 s__law_together_right.1 [.list [.int 2, .int 2, .int 1], .int 0] []) = true := by kernel_rfl
theorem tog_0_222 : okTrue (callL 2 [] 12 s__law_together_right.1 [.list [.int 2, .int 2, .int 2], .int 0] []) = true := by kernel_rfl
theorem tog_0 : ∀ x y z : Int, 0 ≤ x → x ≤ 2 → 0 ≤ y → y ≤ 2 → 0 ≤ z → z ≤ 2 → okTrue (callL 2 [] 12 s__law_together_right.1 [.list [.int x, .int y, .int z], .int 0] []) = true := by
  intro x y z hx1 hx2 hy1 hy2 hz1 hz2
  have ex : x = 0 ∨ x = 1 ∨ x = 2 := by omega
  have ey : y = 0 ∨ y = 1 ∨ y = 2 := by omega
  have ez : z = 0 ∨ z = 1 ∨ z = 2 := by omega
  clear hx1 hx2
  clear hy1 hy2
  clear hz1 hz2
  rcases ex with rfl | rfl | rfl <;> rcases ey with rfl | rfl | rfl <;> rcases ez with rfl | rfl | rfl
  · exact tog_0_000
  · exact tog_0_001
  · exact tog_0_002
  · exact tog_0_010
  · exact tog_0_011
  · exact tog_0_012
  · exact tog_0_020
  · exact tog_0_021
  · exact tog_0_022
  · exact tog_0_100
  · exact tog_0_101
  · exact tog_0_102
  · exact tog_0_110
  · exact tog_0_111
  · exact tog_0_112
  · exact tog_0_120
  · exact tog_0_121
  · exact tog_0_122
  · exact tog_0_200
  · exact tog_0_201
  · exact tog_0_202
  · exact tog_0_210
  · exact tog_0_211
  · exact tog_0_212
  · exact tog_0_220
  · exact tog_0_221
  · exact tog_0_222
theorem tog_1_000 : okTrue (callL 2 [] 12 s__law_together_right.1 [.list [.int 1, .int 1, .int 1], .int 1] []) = true := by kernel_rfl
theorem tog_1_001 : okTrue (callL 2 [] 12 s__law_together_right.1 [.list [.int 1, .int 1, .int 2], .int 1] []) = true := by kernel_rfl
theorem tog_1_002 : okTrue (callL 2 [] 12 s__law_together_right.1 [.list [.int 1, .int 1, .int 3], .int 1] []) = true := by kernel_rfl
theorem tog_1_010 : okTrue (callL 2 [] 12 s__law_together_right.1 [.list [.int 1, .int 2, .int 1], .int 1] []) = true := by kernel_rfl
theorem tog_1_011 : okTrue (callL 2 [] 12 s__law_together_right.1 [.list [.int 1, .int 2, .int 2], .int 1] []) = true := by kernel_rfl
theorem tog_1_012 : okTrue (callL 2 [] 12 s__law_together_right.1 [.list [.int 1, .int 2, .int 3], .int 1] []) = true := by kernel_rfl
theorem tog_1_020 : okTrue (callL 2 [] 12 s__law_together_right.1 [.list [.int 1, .int 3, .int 1], .int 1] []) = true := by kernel_rfl
theorem tog_1_021 : okTrue (callL 2 [] 12 s__law_together_right.1 [.list [.int 1, .int 3, .int 2], .int 1] []) = true := by kernel_rfl
theorem tog_1_022 : okTrue (callL 2 [] 12 s__law_together_right.1 [.list [.int 1, .int 3, .int 3], .int 1] []) = true := by kernel_rfl
theorem tog_1_100 : okTrue (callL 2 [] 12 s__law_together_right.1 [.list [.int 2, .int 1, .int 1], .int 1] []) = true := by kernel_rfl
theorem tog_1_101 : okTrue (callL 2 [] 12 s__law_together_right.1 [.list [.int 2, .int 1, .int 2], .int 1] []) = true := by kernel_rfl
theorem tog_1_102 : okTrue (callL 2 [] 12 s__law_together_right.1 [.list [.int 2, .int 1, .int 3], .int 1] []) = true := by kernel_rfl
theorem tog_1_110 : okTrue (callL 2 [] 12 s__law_together_right.1 [.list [.int 2, .int 2, .int 1], .int 1] []) = true := by kernel_rfl
theorem tog_1_111 : okTrue (callL 2 [] 12 s__law_together_right.1 [.list [.int 2, .int 2, .int 2], .int 1] []) = true := by kernel_rfl
theorem tog_1_112 : okTrue (callL 2 [] 12 s__law_together_right.1 [.list [.int 2, .int 2, .int 3], .int 1] []) = true := by kernel_rfl
theorem tog_1_120 : okTrue (callL 2 [] 12 s__law_together_right.1 [.list [.int 2, .int 3, .int 1], .int 1] []) = true := by kernel_rfl
theorem tog_1_121 : okTrue (callL 2 [] 12 s__law_together_right.1 [.list [.int 2, .int 3, .int 2], .int 1] []) = true := by kernel_rfl
theorem tog_1_122 : okTrue (callL 2 [] 12 s__law_together_right.1 [.list [.int 2, .int 3, .int 3], .int 1] []) = true := by kernel_rfl
theorem tog_1_200 : okTrue (callL 2 [] 12 s__law_together_right.1 [.list [.int 3, .int 1, .int 1], .int 1] []) = true := by kernel_rfl
theorem tog_1_201 : okTrue (callL 2 [] 12 s__law_together_right.1 [.list [.int 3, .int 1, .int 2], .int 1] []) = true := by kernel_rfl
theorem tog_1_202 : okTrue (callL 2 [] 12 s__law_together_right.1 [.list [.int 3, .int 1, .int 3], .int 1] []) = true := by kernel_rfl
theorem tog_1_210 : okTrue (callL 2 [] 12 s__law_together_right.1 [.list [.int 3, .int 2, .int 1], .int 1] []) = true := by kernel_rfl
theorem tog_1_211 : okTrue (callL 2 [] 12 s__law_together_right.1 [.list [.int 3, .int 2, .int 2], .int 1] []) = true := by kernel_rfl
theorem tog_1_212 : okTrue (callL 2 [] 12 s__law_together_right.1 [.list [.int 3, .int 2, .int 3], .int 1] []) = true := by kernel_rfl
theorem tog_1_220 : okTrue (callL 2 [] 12 s__law_together_right.1 [.list [.int 3, .int 3, .int 1], .int 1] []) = true := by kernel_rfl
theorem tog_1_221 : okTrue (callL 2 [] 12 s__law_together_right.1 [.list [.int 3, .int 3, .int 2], .int 1] []) = true := by kernel_rfl
theorem tog_1_222 : okTrue (callL 2 [] 12 s__law_together_right.1 [.list [.int 3, .int 3, .int 3], .int 1] []) = true := by kernel_rfl
theorem tog_1 : ∀ x y z : Int, 1 ≤ x → x ≤ 3 → 1 ≤ y → y ≤ 3 → 1 ≤ z → z ≤ 3 → okTrue (callL 2 [] 12 s__law_together_right.1 [.list [.int x, .int y, .int z], .int 1] []) = true := by
  intro x y z hx1 hx2 hy1 hy2 hz1 hz2
  have ex : x = 1 ∨ x = 2 ∨ x = 3 := by omega
  have ey : y = 1 ∨ y = 2 ∨ y = 3 := by omega
  have ez : z = 1 ∨ z = 2 ∨ z = 3 := by omega
  clear hx1 hx2
  clear hy1 hy2
  clear hz1 hz2
  rcases ex with rfl | rfl | rfl <;> rcases ey with rfl | rfl | rfl <;> rcases ez with rfl | rfl | rfl
  · exact tog_1_000
  · exact tog_1_001
  · exact tog_1_002
  · exact tog_1_010
  · exact tog_1_011
  · exact tog_1_012
  · exact tog_1_020
  · exact tog_1_021
  · exact tog_1_022
  · exact tog_1_100
  · exact tog_1_101
  · exact tog_1_102
  · exact tog_1_110
  · exact tog_1_111
  · exact tog_1_112
  · exact tog_1_120
  · exact tog_1_121
  · exact tog_1_122
  · exact tog_1_200
  · exact tog_1_201
  · exact tog_1_202
  · exact tog_1_210
  · exact tog_1_211
  · exact tog_1_212
  · exact tog_1_220
  · exact tog_1_221
  · exact tog_1_222
end Mine
end

section
open PySem PySem.W PyProof.Rows PySem.Spec PySem.Calls
set_option maxRecDepth 1000000
set_option maxHeartbeats 40000000
namespace Mine
theorem tur_0_22 : okTrue (callL 4 [] 13 s__law_turned_right.1 [.int 2, .int 2, .int 0, .sym 0] []) = true := by kernel_rfl
theorem tur_0_23 : okTrue (callL 4 [] 13 s__law_turned_right.1 [.int 2, .int 3, .int 0, .sym 0] []) = true := by kernel_rfl
theorem tur_0_24 : okTrue (callL 4 [] 13 s__law_turned_right.1 [.int 2, .int 4, .int 0, .sym 0] []) = true := by kernel_rfl
theorem tur_0_32 : okTrue (callL 4 [] 13 s__law_turned_right.1 [.int 3, .int 2, .int 0, .sym 0] []) = true := by kernel_rfl
theorem tur_0_33 : okTrue (callL 4 [] 13 s__law_turned_right.1 [.int 3, .int 3, .int 0, .sym 0] []) = true := by kernel_rfl
theorem tur_0_34 : okTrue (callL 4 [] 13 s__law_turned_right.1 [.int 3, .int 4, .int 0, .sym 0] []) = true := by kernel_rfl
theorem tur_0_42 : okTrue (callL 4 [] 13 s__law_turned_right.1 [.int 4, .int 2, .int 0, .sym 0] []) = true := by kernel_rfl
theorem tur_0_43 : okTrue (callL 4 [] 13 s__law_turned_right.1 [.int 4, .int 3, .int 0, .sym 0] []) = true := by kernel_rfl
theorem tur_0_44 : okTrue (callL 4 [] 13 s__law_turned_right.1 [.int 4, .int 4, .int 0, .sym 0] []) = true := by kernel_rfl
theorem tur_0 : ∀ x y : Int, 2 ≤ x → x ≤ 4 → 2 ≤ y → y ≤ 4 → okTrue (callL 4 [] 13 s__law_turned_right.1 [.int x, .int y, .int 0, .sym 0] []) = true := by
  intro x y h1 h2 h3 h4
  have ex : x = 2 ∨ x = 3 ∨ x = 4 := by omega
  have ey : y = 2 ∨ y = 3 ∨ y = 4 := by omega
  clear h1 h2 h3 h4
  rcases ex with rfl | rfl | rfl <;> rcases ey with rfl | rfl | rfl
  · exact tur_0_22
  · exact tur_0_23
  · exact tur_0_24
  · exact tur_0_32
  · exact tur_0_33
  · exact tur_0_34
  · exact tur_0_42
  · exact tur_0_43
  · exact tur_0_44
theorem tur_1_22 : okTrue (callL 4 [] 13 s__law_turned_right.1 [.int 2, .int 2, .int 1, .sym 0] []) = true := by kernel_rfl
theorem tur_1_23 : okTrue (callL 4 [] 13 s__law_turned_right.1 [.int 2, .int 3, .int 1, .sym 0] []) = true := by kernel_rfl
theorem tur_1_24 : okTrue (callL 4 [] 13 s__law_turned_right.1 [.int 2, .int 4, .int 1, .sym 0] []) = true := by kernel_rfl
theorem tur_1_32 : okTrue (callL 4 [] 13 s__law_turned_right.1 [.int 3, .int 2, .int 1, .sym 0] []) = true := by kernel_rfl
theorem tur_1_33 : okTrue (callL 4 [] 13 s__law_turned_right.1 [.int 3, .int 3, .int 1, .sym 0] []) = true := by kernel_rfl
theorem tur_1_34 : okTrue (callL 4 [] 13 s__law_turned_right.1 [.int 3, .int 4, .int 1, .sym 0] []) = true := by kernel_rfl
theorem tur_1_42 : okTrue (callL 4 [] 13 s__law_turned_right.1 [.int 4, .int 2, .int 1, .sym 0] []) = true := by kernel_rfl
theorem tur_1_43 : okTrue (callL 4 [] 13 s__law_turned_right.1 [.int 4, .int 3, .int 1, .sym 0] []) = true := by kernel_rfl
theorem tur_1_44 : okTrue (callL 4 [] 13 s__law_turned_right.1 [.int 4, .int 4, .int 1, .sym 0] []) = true := by kernel_rfl
theorem tur_1 : ∀ x y : Int, 2 ≤ x → x ≤ 4 → 2 ≤ y → y ≤ 4 → okTrue (callL 4 [] 13 s__law_turned_right.1 [.int x, .int y, .int 1, .sym 0] []) = true := by
  intro x y h1 h2 h3 h4
  have ex : x = 2 ∨ x = 3 ∨ x = 4 := by omega
  have ey : y = 2 ∨ y = 3 ∨ y = 4 := by omega
  clear h1 h2 h3 h4
  rcases ex with rfl | rfl | rfl <;> rcases ey with rfl | rfl | rfl
  · exact tur_1_22
  · exact tur_1_23
  · exact tur_1_24
  · exact tur_1_32
  · exact tur_1_33
  · exact tur_1_34
  · exact tur_1_42
  · exact tur_1_43
  · exact tur_1_44
end Mine
end

section
open PySem PySem.W PyProof.Rows PySem.Spec PySem.Calls
set_option maxRecDepth 100000
set_option maxHeartbeats 4000000
namespace Mine
noncomputable abbrev FT := callL 2 [] 2 s__law_take.1
theorem fT_ret {t below v : Int} {ms : List MV} {rest : List AObj} {vars : List MV}
    (h : f_if (t_of (f_cmp CmpOp.Lt (f_ld 3) (f_call c_lenX (fs_cons (f_ld 2) fs_nil))))
                (f_bin Operator.Mod (f_call c_abs (fs_cons (f_sub (f_ld 2) (f_ld 3)) fs_nil)) (f_ld 1))
                (f_bin Operator.Mod
                  (f_bin Operator.Add
                    (f_bin Operator.Add (f_bin Operator.Mult (f_const (MV.int 4)) (f_ld 3))
                      (f_bin Operator.FloorDiv (f_ld 3) (f_const (MV.int 2))))
                    (f_const (MV.int 1)))
                  (f_ld 1)) ⟨[.ref 0, .int below, .list ms, .int t], .list [.list ms, .int (t + 1)] :: rest⟩ = some (.int v, ⟨vars, .list [.list ms, .int (t + 1)] :: rest⟩)) :
    FT [.ref 0, .int below] (.list [.list ms, .int t] :: rest) = some (.int v, .list [.list ms, .int (t + 1)] :: rest) := by
  have e : s__law_take.1 ⟨[.ref 0, .int below, .undef, .undef], .list [.list ms, .int t] :: rest⟩ = some (.ret (.int v), ⟨vars, .list [.list ms, .int (t + 1)] :: rest⟩) := by
    have e1 : s__law_take.1 ⟨[.ref 0, .int below, .undef, .undef], .list [.list ms, .int t] :: rest⟩ = x_cons (x_ret (f_if (t_of (f_cmp CmpOp.Lt (f_ld 3) (f_call c_lenX (fs_cons (f_ld 2) fs_nil))))
                (f_bin Operator.Mod (f_call c_abs (fs_cons (f_sub (f_ld 2) (f_ld 3)) fs_nil)) (f_ld 1))
                (f_bin Operator.Mod
                  (f_bin Operator.Add
                    (f_bin Operator.Add (f_bin Operator.Mult (f_const (MV.int 4)) (f_ld 3))
                      (f_bin Operator.FloorDiv (f_ld 3) (f_const (MV.int 2))))
                    (f_const (MV.int 1)))
                  (f_ld 1)))) x_nil ⟨[.ref 0, .int below, .list ms, .int t], .list [.list ms, .int (t + 1)] :: rest⟩ := by kernel_rfl
    rw [e1]
    unfold x_cons x_ret bnd
    rw [h]
  show callF 2 s__law_take.1 [.ref 0, .int below] _ = _
  unfold callF
  rw [show ([.ref 0, .int below] ++ List.replicate 2 MV.undef : List MV) = [.ref 0, .int below, .undef, .undef] from rfl, e]
theorem take_ok (is : List Int) (t : Nat) (below : Int) (rest : List AObj) (hl : is.length ≤ 20) (ht : t ≤ 100) (hb : 0 < below) :
    ∃ v : Int, 0 ≤ v ∧ v < below ∧ FT [.ref 0, .int below] (.list [.list (is.map .int), .int t] :: rest) = some (.int v, .list [.list (is.map .int), .int (t + 1)] :: rest) := by
  have hL : is.length ≤ 100000 := by omega
  have hS : ∀ x : Int, x = 4 ∨ x = 2 → small x = true := by rintro x (rfl | rfl) <;> decide
  have hbne : ¬ below = 0 := by omega
  have hb0 : (below == 0) = false := by rw [beq_eq_false_iff_ne]; omega
  rcases Nat.lt_or_ge t is.length with h | h
  · obtain ⟨i, hi⟩ : ∃ i, is[t]? = some i := ⟨_, List.getElem?_eq_getElem h⟩
    refine ⟨Int.fmod (if i < 0 then -i else i) below, Int.fmod_nonneg_of_pos _ hb, Int.fmod_lt_of_pos _ hb, fT_ret (vars := [.ref 0, .int below, .list (is.map .int), .int t]) ?_⟩
    have hg : is[t] = i := by have q := List.getElem?_eq_getElem h; rw [hi] at q; exact (Option.some.inj q).symm
    have hlt : decide ((t : Int) < ((is.map MV.int).length : Int)) = true := by rw [decide_eq_true_eq, List.length_map]; omega
    have hd : (is.map MV.int)[t]? = some (.int i) := by rw [List.getElem?_map, hi]; rfl
    simp [f_if, t_of, f_cmp, f_call, fs_cons, fs_nil, f_ld, bnd, readable, c_lenX, c_len, lookL, cmpS, cmpI, f_bin, binV, f_sub, c_abs, hb0, h, hi, hL, hbne, hg]
  · have hn : ¬ t < is.length := Nat.not_lt.mpr h
    refine ⟨Int.fmod (4 * t + Int.fdiv t 2 + 1) below, Int.fmod_nonneg_of_pos _ hb, Int.fmod_lt_of_pos _ hb, fT_ret (vars := [.ref 0, .int below, .list (is.map .int), .int t]) ?_⟩
    simp [f_if, t_of, f_cmp, f_call, fs_cons, fs_nil, f_ld, bnd, readable, c_lenX, c_len, lookL, cmpS, cmpI, f_bin, binV, f_sub, c_abs, f_const, hb0, hn, hL, hbne, hS]
end Mine
end

section
open PySem PySem.W PyProof.Rows PySem.Spec PySem.Calls
set_option maxRecDepth 100000
set_option maxHeartbeats 4000000
namespace Mine
theorem x_cons_next {F G : St → Option (Fl × St)} {st st' : St} (h : F st = some (.next, st')) : x_cons F G st = G st' := by unfold x_cons; rw [h]
theorem x_cons_ret {F G : St → Option (Fl × St)} {st st' : St} {m : MV} (h : F st = some (.ret m, st')) : x_cons F G st = some (.ret m, st') := by unfold x_cons; rw [h]
theorem x_st_eq {i : Nat} {F : St → Option (MV × St)} {st : St} {m : MV} {vs : List MV} {os : List AObj} (h : F st = some (m, ⟨vs, os⟩)) : x_st i F st = some (.next, ⟨vs.set i m, os⟩) := by unfold x_st bnd; rw [h]
theorem f_call_eq {F : List MV → List AObj → Option (MV × List AObj)} {G : St → Option (List MV × St)} {st : St} {ms : List MV} {m : MV} {vs : List MV} {os os' : List AObj} (hG : G st = some (ms, ⟨vs, os⟩)) (hF : F ms os = some (m, os')) : f_call F G st = some (m, ⟨vs, os'⟩) := by
  unfold f_call bnd
  rw [hG]
  show (match F ms os with | some (m, objs') => some (m, (⟨vs, objs'⟩ : St)) | none => none) = _
  rw [hF]
theorem bnd_eq {α μ : Type} {F : St → Option (α × St)} {G : α → St → Option (μ × St)} {st st' : St} {a : α} (h : F st = some (a, st')) : bnd F G st = G a st' := by unfold bnd; rw [h]
theorem f_bin_eq {op : Operator} {F G : St → Option (MV × St)} {st st1 st2 : St} {a b m : MV} (hF : F st = some (a, st1)) (hG : G st1 = some (b, st2)) (hv : binV op a b = some m) : f_bin op F G st = some (m, st2) := by
  refine (bnd_eq hF).trans ((bnd_eq hG).trans ?_)
  show (match binV op a b with | some m => some (m, st2) | none => none) = _
  rw [hv]
theorem fs_cons_eq {F : St → Option (MV × St)} {G : St → Option (List MV × St)} {st st1 st2 : St} {a : MV} {l : List MV} (hF : F st = some (a, st1)) (hG : G st1 = some (l, st2)) : fs_cons F G st = some (a :: l, st2) :=
  (bnd_eq hF).trans (bnd_eq hG)
theorem f_upto_eq {F G : St → Option (MV × St)} {st st1 st2 : St} {a : MV} {xs : List MV} {k : Int} (hF : F st = some (a, st1)) (hG : G st1 = some (.int k, st2)) (hl : lookL st2.objs a = some xs) (h0 : 0 ≤ k) (hn : xs.length ≤ 100000) : f_upto F G st = some (.list (xs.take k.toNat), st2) := by
  refine (bnd_eq hF).trans ((bnd_eq hG).trans ?_)
  show (match lookL st2.objs a, MV.int k with | some xs, .int k => _ | _, _ => none) = _
  rw [hl]
  show (if (decide (0 ≤ k) && decide (xs.length ≤ 100000)) = true then some (MV.list (xs.take k.toNat), st2) else none) = _
  rw [decide_eq_true h0, decide_eq_true hn]; rfl
theorem f_listM_eq {F : St → Option (List MV × St)} {st : St} {xs : List MV} {vs : List MV} {os : List AObj} (hF : F st = some (xs, ⟨vs, os⟩)) (hn : xs.length ≤ 1000) : f_listM F st = some (.ref os.length, ⟨vs, os ++ [.list xs]⟩) := by
  unfold f_listM bnd
  rw [hF]
  exact if_pos hn
theorem cLoop_next {item : Turns} {T : Itm → St → Option St} {If : St → Option (Bool × St)} {G : Nat → St → Option St} {n k i : Nat} {st st1 st2 st3 : St} {it : Itm} (h1 : item i st.objs = some (some it)) (h2 : T it st = some st1) (h3 : If st1 = some (true, st2)) (h4 : G n st2 = some st3) :
    cLoop item T If G n (k + 1) i st = cLoop item T If G n k (i + 1) st3 := by
  rw [cLoop, h1]; dsimp only; rw [h2]; dsimp only; rw [h3]; dsimp only; rw [h4]
theorem cLoop_end {item : Turns} {T : Itm → St → Option St} {If : St → Option (Bool × St)} {G : Nat → St → Option St} {n k i : Nat} {st : St} (h1 : item i st.objs = some none) : cLoop item T If G n (k + 1) i st = some st := by
  rw [cLoop, h1]
theorem g_app_eq {F : St → Option (MV × St)} {n : Nat} {st : St} {m : MV} {vs xs : List MV} {os : List AObj} (h : F st = some (m, ⟨vs, os⟩)) (ho : os[n]? = some (.list xs)) (hn : xs.length ≤ 10000) : g_app F n st = some ⟨vs, os.set n (.list (xs ++ [m]))⟩ := by
  unfold g_app
  rw [h]
  show (match os[n]? with | some (.list xs) => _ | _ => none) = _
  rw [ho]
  exact if_pos (decide_eq_true hn)
theorem noR_ints (k n : Nat) : ∀ l : List Int, (l.map MV.int).all (noR (k + 1) n) = true
  | [] => rfl
  | i :: l => by rw [List.map_cons, List.all_cons, noR_ints k n l]; rfl
theorem okTrue_iff {x : Option (MV × List AObj)} (h : okTrue x = true) : ∃ o, x = some (.bool true, o) := by
  unfold okTrue at h
  split at h
  · exact ⟨_, rfl⟩
  · cases h
theorem alone_true {F : List MV → List AObj → Option (MV × List AObj)} {ms : List MV} {objs : List AObj} (hz : ms.all (frz 4) = true) (h : okTrue (F ms []) = true) : aloneF F ms objs = some (.bool true, objs) := by
  obtain ⟨o, e⟩ := okTrue_iff h
  unfold aloneF
  rw [if_pos hz, e]
  rfl
end Mine
end

section
open PySem PySem.W PyProof.Rows PySem.Spec PySem.Calls
set_option maxRecDepth 100000
set_option maxHeartbeats 4000000
namespace Mine
theorem take_at (cs : List Int) (t : Nat) (ti tj below : Int) (rest : List AObj) (hl : cs.length ≤ 20) (ht : t ≤ 100) (hb : 0 < below) (h1 : ti = (t : Int)) (h2 : tj = ti + 1) :
    ∃ v : Int, 0 ≤ v ∧ v < below ∧ FT [.ref 0, .int below] (.list [.list (cs.map .int), .int ti] :: rest) = some (.int v, .list [.list (cs.map .int), .int tj] :: rest) := by
  subst h2; subst h1
  exact take_ok cs t below rest hl ht hb
theorem t_of_eq {F : St → Option (MV × St)} {st st' : St} {b : Bool} (h : F st = some (.bool b, st')) : t_of F st = some (b, st') := by unfold t_of; rw [h]
theorem t_not_eq {F : St → Option (Bool × St)} {st st' : St} {b : Bool} (h : F st = some (b, st')) : t_not F st = some (!b, st') := by unfold t_not; rw [h]
theorem t_or_false {F G : St → Option (Bool × St)} {st st' : St} (h : F st = some (false, st')) : t_or F G st = G st' := by unfold t_or; rw [h]
theorem f_if_false {α : Type} {T : St → Option (Bool × St)} {F G : St → Option (α × St)} {st st' : St} (h : T st = some (false, st')) : f_if T F G st = G st' := by unfold f_if; rw [h]
theorem x_ret_eq {F : St → Option (MV × St)} {st st' : St} {m : MV} (h : F st = some (m, st')) : x_ret F st = some (.ret m, st') := by unfold x_ret bnd; rw [h]

theorem comp3 (C : List MV) (hC : C.all (noR 3 1) = true) (S : MV) (v0 v1 v2 v3 : Int)
    (e1 : FT [.ref 0, .int 3] (.list [.list C, .int 1] :: [.list []]) = some (.int v1, .list [.list C, .int 2] :: [.list []]))
    (e2 : FT [.ref 0, .int 3] (.list [.list C, .int 2] :: [.list [.int (v0 + v1)]]) = some (.int v2, .list [.list C, .int 3] :: [.list [.int (v0 + v1)]]))
    (e3 : FT [.ref 0, .int 3] (.list [.list C, .int 3] :: [.list [.int (v0 + v1), .int (v0 + v2)]]) = some (.int v3, .list [.list C, .int 4] :: [.list [.int (v0 + v1), .int (v0 + v2)]])) :
    f_comp [none, some 2, some 1] (s_range (fs_cons (f_const (MV.int 3)) fs_nil)) (tg_name 0) (t_const true) (g_app (f_bin Operator.Add (f_ld 1) (f_call (callL 2 [] 2 s__law_take.fst) (fs_cons (f_ld 2) (fs_cons (f_const (MV.int 3)) fs_nil)))))
      ⟨[S, .ref 0, .int v0, .undef, .undef, .undef], [.list [.list C, .int 1]]⟩ = some (.list [.int (v0 + v1), .int (v0 + v2), .int (v0 + v3)], ⟨[S, .ref 0, .int v0, .undef, .undef, .undef], [.list [.list C, .int 4]]⟩) := by
  have L : cLoop (itemG 0 1 (rngLen (0, 3, 1))) (tg_name 0) (t_const true) (g_app (f_bin Operator.Add (f_ld 1) (f_call (callL 2 [] 2 s__law_take.fst) (fs_cons (f_ld 2) (fs_cons (f_const (MV.int 3)) fs_nil))))) 1 (1996 + 1 + 1 + 1 + 1) 0
      ⟨[.undef, .int v0, .ref 0], [.list [.list C, .int 1], .list []]⟩ = some ⟨[.int 2, .int v0, .ref 0], [.list [.list C, .int 4], .list [.int (v0 + v1), .int (v0 + v2), .int (v0 + v3)]]⟩ := by
    refine (cLoop_next (it := .one (.int 0)) (st1 := ⟨[.int 0, .int v0, .ref 0], [.list [.list C, .int 1], .list []]⟩) rfl rfl rfl (g_app_eq (f_bin_eq rfl (f_call_eq rfl e1) rfl) rfl (by decide))).trans ?_
    refine (cLoop_next (it := .one (.int 1)) (st1 := ⟨[.int 1, .int v0, .ref 0], [.list [.list C, .int 2], .list [.int (v0 + v1)]]⟩) rfl rfl rfl (g_app_eq (f_bin_eq rfl (f_call_eq rfl e2) rfl) rfl (by show (1 : Nat) ≤ 10000; decide))).trans ?_
    refine (cLoop_next (it := .one (.int 2)) (st1 := ⟨[.int 2, .int v0, .ref 0], [.list [.list C, .int 3], .list [.int (v0 + v1), .int (v0 + v2)]]⟩) rfl rfl rfl (g_app_eq (f_bin_eq rfl (f_call_eq rfl e3) rfl) rfl (by show (2 : Nat) ≤ 10000; decide))).trans ?_
    exact cLoop_end rfl
  unfold f_comp
  refine (bnd_eq (a := itemG 0 1 (rngLen (0, 3, 1))) (st' := ⟨[S, .ref 0, .int v0, .undef, .undef, .undef], [.list [.list C, .int 1]]⟩) rfl).trans ?_
  show (match cLoop (itemG 0 1 (rngLen (0, 3, 1))) (tg_name 0) (t_const true) (g_app (f_bin Operator.Add (f_ld 1) (f_call (callL 2 [] 2 s__law_take.fst) (fs_cons (f_ld 2) (fs_cons (f_const (MV.int 3)) fs_nil))))) 1 (1996 + 1 + 1 + 1 + 1) 0 ⟨[.undef, .int v0, .ref 0], [.list [.list C, .int 1], .list []]⟩ with | some st' => _ | none => none) = _
  rw [L]
  refine if_pos ?_
  show (Nat.beq 1 1 && ((noRO 1 (.list [.list C, .int 4]) && true) && _)) = true
  rw [show noRO 1 (.list [.list C, .int 4]) = true by unfold noRO; simp only [List.all_cons, noR, hC, List.all_nil]; rfl]
  rfl

theorem num_ok (v0 v1 v2 v3 v4 : Int) (a0 : 0 ≤ v0) (b0 : v0 < 2) (a1 : 0 ≤ v1) (b1 : v1 < 3) (a2 : 0 ≤ v2) (b2 : v2 < 3) (a3 : 0 ≤ v3) (b3 : v3 < 3) (a4 : 0 ≤ v4) (b4 : v4 < 3) (os : List AObj) :
    aloneF (callL 2 [] 7 s__law_numbers_right.fst) [.list (([.int (v0 + v1), .int (v0 + v2), .int (v0 + v3)] : List MV).take (3 - v4).toNat), .int v0] os = some (.bool true, os) := by
  have h0 : v0 = 0 ∨ v0 = 1 := by omega
  have h4 : v4 = 0 ∨ v4 = 1 ∨ v4 = 2 := by omega
  rcases h4 with rfl | rfl | rfl
  · refine alone_true rfl ?_
    rcases h0 with rfl | rfl
    · exact n3_0 _ _ _ (by omega) (by omega) (by omega) (by omega) (by omega) (by omega)
    · exact n3_1 _ _ _ (by omega) (by omega) (by omega) (by omega) (by omega) (by omega)
  · refine alone_true rfl ?_
    rcases h0 with rfl | rfl
    · exact n2_0 _ _ (by omega) (by omega) (by omega) (by omega)
    · exact n2_1 _ _ (by omega) (by omega) (by omega) (by omega)
  · refine alone_true rfl ?_
    rcases h0 with rfl | rfl
    · exact n1_0 _ (by omega) (by omega)
    · exact n1_1 _ (by omega) (by omega)
theorem together_ok (v0 v1 v2 v3 : Int) (a0 : 0 ≤ v0) (b0 : v0 < 2) (a1 : 0 ≤ v1) (b1 : v1 < 3) (a2 : 0 ≤ v2) (b2 : v2 < 3) (a3 : 0 ≤ v3) (b3 : v3 < 3) (os : List AObj) :
    aloneF (callL 2 [] 12 s__law_together_right.fst) [.list [.int (v0 + v1), .int (v0 + v2), .int (v0 + v3)], .int v0] os = some (.bool true, os) := by
  have h0 : v0 = 0 ∨ v0 = 1 := by omega
  refine alone_true rfl ?_
  rcases h0 with rfl | rfl
  · exact tog_0 _ _ _ (by omega) (by omega) (by omega) (by omega) (by omega) (by omega)
  · exact tog_1 _ _ _ (by omega) (by omega) (by omega) (by omega) (by omega) (by omega)
theorem turned_ok (bb v0 v5 v6 : Int) (a0 : 0 ≤ v0) (b0 : v0 < 2) (a5 : 0 ≤ v5) (b5 : v5 < 3) (a6 : 0 ≤ v6) (b6 : v6 < 3) (os : List AObj) :
    aloneF (symF (callL 4 [] 13 s__law_turned_right.fst) bb) [.int (2 + v5), .int (2 + v6), .int v0, .int bb] os = some (.bool true, os) := by
  have h0 : v0 = 0 ∨ v0 = 1 := by omega
  refine alone_true rfl ?_
  show okTrue (if bb = bb then callL 4 [] 13 s__law_turned_right.fst [.int (2 + v5), .int (2 + v6), .int v0, .sym 0] [] else none) = true
  rw [if_pos rfl]
  rcases h0 with rfl | rfl
  · exact tur_0 _ _ (by omega) (by omega) (by omega) (by omega)
  · exact tur_1 _ _ (by omega) (by omega) (by omega) (by omega)
end Mine
end

section
open PySem PySem.W PyProof.Rows PySem.Spec PySem.Calls
set_option maxRecDepth 100000
set_option maxHeartbeats 4000000
namespace Mine
noncomputable abbrev ar3 (a b : St → Option (MV × St)) : St → Option (List MV × St) := fs_cons a (fs_cons b fs_nil)
noncomputable abbrev tk (k : Int) : St → Option (MV × St) := f_call (callL 2 [] 2 s__law_take.fst) (fs_cons (f_ld 1) (fs_cons (f_const (MV.int k)) fs_nil))
theorem law_true (s : List Int) (hs : s.length ≤ 1000) : ∃ bb : Int, (1 ≤ bb ∧ bb ≤ 900) ∧ ∃ st', (s_law bb).1 ⟨[.list (s.map .int), .undef, .undef, .undef, .undef, .undef], []⟩ = some (.ret (.bool true), st') := by
  have hC : (s.take 20).length ≤ 20 := by rw [List.length_take]; exact Nat.min_le_left _ _
  have hm : (s.map MV.int).take (20 : Int).toNat = (s.take 20).map MV.int := by rw [List.map_take]; rfl
  generalize s.take 20 = cs at hC hm
  obtain ⟨v0, a0, b0, e0⟩ := take_at cs 0 0 1 2 [] hC (by decide) (by decide) rfl rfl
  obtain ⟨v1, a1, b1, e1⟩ := take_at cs 1 1 2 3 [.list []] hC (by decide) (by decide) rfl rfl
  obtain ⟨v2, a2, b2, e2⟩ := take_at cs 2 2 3 3 [.list [.int (v0 + v1)]] hC (by decide) (by decide) rfl rfl
  obtain ⟨v3, a3, b3, e3⟩ := take_at cs 3 3 4 3 [.list [.int (v0 + v1), .int (v0 + v2)]] hC (by decide) (by decide) rfl rfl
  obtain ⟨v4, a4, b4, e4⟩ := take_at cs 4 4 5 3 [] hC (by decide) (by decide) rfl rfl
  obtain ⟨v5, a5, b5, e5⟩ := take_at cs 5 5 6 3 [] hC (by decide) (by decide) rfl rfl
  obtain ⟨v6, a6, b6, e6⟩ := take_at cs 6 6 7 3 [] hC (by decide) (by decide) rfl rfl
  obtain ⟨v7, a7, b7, e7⟩ := take_at cs 7 7 8 900 [] hC (by decide) (by decide) rfl rfl
  have hN : (cs.map MV.int).all (noR 3 1) = true := noR_ints 2 1 cs
  generalize cs.map MV.int = C at *
  have hlen : (s.map MV.int).length ≤ 100000 := by rw [List.length_map]; omega
  generalize s.map MV.int = S at *
  refine ⟨1 + v7, ⟨by omega, by omega⟩, ⟨[.list S, .ref 0, .int v0, .list [.int (v0 + v1), .int (v0 + v2), .int (v0 + v3)], .int (2 + v5), .int (2 + v6)], [.list [.list C, .int 8]]⟩, ?_⟩
  have E : (s_law (1 + v7)).1 = x_cons (x_st 1 (f_listM (fs_cons (f_upto (f_ld 0) (f_const (MV.int 20))) (fs_cons (f_const (MV.int 0)) fs_nil))))
    (x_cons (x_st 2 (tk 2))
    (x_cons (x_st 3 (f_comp [none, some 2, some 1] (s_range (fs_cons (f_const (MV.int 3)) fs_nil)) (tg_name 0) (t_const true) (g_app (f_bin Operator.Add (f_ld 1) (f_call (callL 2 [] 2 s__law_take.fst) (fs_cons (f_ld 2) (fs_cons (f_const (MV.int 3)) fs_nil)))))))
    (x_cons (f_if (t_or (t_not (t_of (f_call (aloneF (callL 2 [] 7 s__law_numbers_right.fst)) (fs_cons (f_upto (f_ld 3) (f_bin Operator.Sub (f_const (MV.int 3)) (tk 3))) (fs_cons (f_ld 2) fs_nil)))))
        (t_or (t_not (t_of (f_call (aloneF (callL 2 [] 12 s__law_together_right.fst)) (fs_cons (f_ld 3) (fs_cons (f_ld 2) fs_nil))))) (t_const false))) (x_cons (x_ret (f_const (MV.bool false))) x_nil) x_nil)
    (x_cons (x_tupS (fs_cons (f_bin Operator.Add (f_const (MV.int 2)) (tk 3)) (fs_cons (f_bin Operator.Add (f_const (MV.int 2)) (tk 3)) fs_nil)) [5, 4])
    (x_cons (x_ret (f_call (aloneF (symF (callL 4 [] 13 s__law_turned_right.fst) (1 + v7))) (fs_cons (f_ld 4) (fs_cons (f_ld 5) (fs_cons (f_ld 2) (fs_cons (f_bin Operator.Add (f_const (MV.int 1)) (tk 900)) fs_nil)))))) x_nil))))) := by kernel_rfl
  rw [E]
  refine (x_cons_next (x_st_eq (f_listM_eq (fs_cons_eq (f_upto_eq (a := .list S) (xs := S) (k := 20) (st2 := ⟨[.list S, .undef, .undef, .undef, .undef, .undef], []⟩) rfl rfl rfl (by decide) hlen) rfl) (by show (2 : Nat) ≤ 1000; decide)))).trans ?_
  rw [hm]
  refine (x_cons_next (x_st_eq (f_call_eq (ms := [.ref 0, .int 2]) (os := [.list [.list C, .int 0]]) (vs := [.list S, .ref 0, .undef, .undef, .undef, .undef]) rfl e0))).trans ?_
  refine (x_cons_next (x_st_eq (comp3 C hN (.list S) v0 v1 v2 v3 e1 e2 e3))).trans ?_
  refine (x_cons_next (st' := ⟨[.list S, .ref 0, .int v0, .list [.int (v0 + v1), .int (v0 + v2), .int (v0 + v3)], .undef, .undef], [.list [.list C, .int 5]]⟩) ?_).trans ?_
  · refine (f_if_false ((t_or_false (t_not_eq (b := true) (t_of_eq (f_call_eq (os := [.list [.list C, .int 5]]) (vs := [.list S, .ref 0, .int v0, .list [.int (v0 + v1), .int (v0 + v2), .int (v0 + v3)], .undef, .undef]) (fs_cons_eq (f_upto_eq (a := .list [.int (v0 + v1), .int (v0 + v2), .int (v0 + v3)]) (xs := [.int (v0 + v1), .int (v0 + v2), .int (v0 + v3)]) (k := 3 - v4) (st2 := ⟨[.list S, .ref 0, .int v0, .list [.int (v0 + v1), .int (v0 + v2), .int (v0 + v3)], .undef, .undef], [.list [.list C, .int 5]]⟩) rfl
        (f_bin_eq rfl (f_call_eq (ms := [.ref 0, .int 3]) (os := [.list [.list C, .int 4]]) rfl e4) rfl) rfl (by omega) (by show (3 : Nat) ≤ 100000; decide)) rfl)
        (num_ok v0 v1 v2 v3 v4 a0 b0 a1 b1 a2 b2 a3 b3 a4 b4 _))))).trans
      (t_or_false (t_not_eq (b := true) (t_of_eq (f_call_eq (os := [.list [.list C, .int 5]]) (vs := [.list S, .ref 0, .int v0, .list [.int (v0 + v1), .int (v0 + v2), .int (v0 + v3)], .undef, .undef]) (ms := [.list [.int (v0 + v1), .int (v0 + v2), .int (v0 + v3)], .int v0]) rfl (together_ok v0 v1 v2 v3 a0 b0 a1 b1 a2 b2 a3 b3 _))))))).trans ?_
    rfl
  refine (x_cons_next (st' := ⟨[.list S, .ref 0, .int v0, .list [.int (v0 + v1), .int (v0 + v2), .int (v0 + v3)], .int (2 + v5), .int (2 + v6)], [.list [.list C, .int 7]]⟩) ?_).trans ?_
  · exact (bnd_eq (fs_cons_eq (f_bin_eq rfl (f_call_eq (ms := [.ref 0, .int 3]) (os := [.list [.list C, .int 5]]) (vs := [.list S, .ref 0, .int v0, .list [.int (v0 + v1), .int (v0 + v2), .int (v0 + v3)], .undef, .undef]) rfl e5) rfl)
      (fs_cons_eq (f_bin_eq rfl (f_call_eq (ms := [.ref 0, .int 3]) (os := [.list [.list C, .int 6]]) (vs := [.list S, .ref 0, .int v0, .list [.int (v0 + v1), .int (v0 + v2), .int (v0 + v3)], .undef, .undef]) rfl e6) rfl) rfl))).trans rfl
  refine x_cons_ret (x_ret_eq (f_call_eq (os := [.list [.list C, .int 8]]) (vs := [.list S, .ref 0, .int v0, .list [.int (v0 + v1), .int (v0 + v2), .int (v0 + v3)], .int (2 + v5), .int (2 + v6)]) (ms := [.int (2 + v5), .int (2 + v6), .int v0, .int (1 + v7)]) ?_ (turned_ok (1 + v7) v0 v5 v6 a0 b0 a5 b5 a6 b6 _)))
  exact fs_cons_eq rfl (fs_cons_eq rfl (fs_cons_eq rfl (fs_cons_eq (f_bin_eq rfl (f_call_eq (ms := [.ref 0, .int 900]) (os := [.list [.list C, .int 7]]) rfl e7) rfl) rfl)))
end Mine
end

section
open PySem PySem.W PyProof.Rows PySem.Spec PySem.Calls
set_option maxRecDepth 100000
set_option maxHeartbeats 4000000
namespace Mine
theorem well_vrs {β : Gl} {adr : List Addr} {P : Params} {h : Heap} : ∀ {xs : List Int} {vs : List Value}, WellAll P h vs (ofPys (xs.map PyData.int)) → VRs β h adr vs (xs.map .int)
  | [], vs, x => by
    simp only [List.map_nil, ofPys] at x
    cases x
    exact .nil
  | i :: xs, vs, x => by
    simp only [List.map_cons, ofPys, ofPy] at x
    cases x with
    | cons a b =>
      cases a
      exact .cons (.int _ _) (well_vrs b)
theorem defLaw {hb : Heap} {fa : Addr} {o : Obj} {pm cd doc : Value} (ho : hb.get? fa = some o) (hd : o.data = .func (fdL pm cd doc .none .none)) (hl : hb.NoLimit) (hcd : hb.CodeRec cd d62.name) :
    DefOk hb fa (fdL pm cd doc .none .none) d62.body (["script"] : List Str) (["sack", "base", "highs", "tall", "wide"] : List Str) where
  obj := ⟨o, ho, hd⟩
  lim := hl
  code := hcd
  body := rfl
  bind := fun s vs _ hl => .of_eq (by
    have h4 : ∀ vs : List Value, vs.length = (["script"] : List Str).length → bindArgs (fdL pm cd doc .none .none) ⟨vs, []⟩ = pure ((["script"] : List Str).zip vs) := fun vs h => match vs, h with | [_], _ => by kernel_rfl
    rw [h4 vs (by simpa using hl)]; simp)
  clo := rfl
  kinds := by kernel_rfl
  cells := by kernel_rfl
  nodup := by decide
  co := by kernel_rfl
  gen := by kernel_rfl
  kind := by kernel_rfl
theorem ambLaw : Amb callerA [] 16 := ⟨rfl, rfl, by decide +kernel, by decide +kernel⟩
theorem hpLaw {P : Params} {h : Heap} {β : Gl} (X : (KK P).In h) : Hp h β [] [] [] h where
  base := fun _ _ e => e
  off := fun a ha => by cases ha
  low := fun a ha => by cases ha
  big := ⟨34, _, by decide, X 34 _ rfl⟩
  nodup := .nil
  len := rfl
  objs := fun n o e => by cases e
  fr := fun e he => by cases he
theorem post62 (xs : List Int) : rr.claim.post [ofPy (PyData.list (List.map PyData.int xs))] (.bool true) [ofPy (PyData.list (List.map PyData.int xs))] = true := by kernel_rfl
theorem walk62 : WalkO qv loo (XL qv []) (kHook KK as62 keys62).says rr.toRowW d62 [] fun f vs => PySem.call f vs := by
  intro w s₀ s₁ mg mb G Y fa o pm cd doc dV kV ho hd hcd hD hmg hg args vals as hpre hlay hrd hwl hlo
  have hdV : dV = .none := hD.pos_none (by kernel_rfl)
  have hkV : kV = .none := hD.kw_none rfl
  subst hdV hkV
  have KX := kIn_of Y
  have T := G.T
  wrow_args hpre hlay hrd hwl hlo
  rename_i xs _ _ _ _ _ _ _ la _ _ _ _ w1 _ _ _ hlen _
  have hl : xs.length ≤ 1000 := by omega
  simp only [ofPy] at w1
  cases w1 with
  | list hget hall =>
    obtain ⟨bb, hβ, st', e⟩ := law_true xs hl
    have T0 : Top0 w.params s₁.heap := ⟨KX, T.nolimit, mg, mb, T.g, T.b, T.builtins⟩
    have hcall : CallS PG w s₁.heap ⟨bb, w⟩ 16 (.ref fa) (callL 1 [] 5 (s_law bb).1) := call_def (defLaw ho hd T.nolimit hcd) (fun _ _ => .nil) fun L => (s_law bb).2 w.params w s₁.heap hβ T0 pm cd doc .none .none fa L
    have eF : callL 1 [] 5 (s_law bb).1 [.list (xs.map .int)] [] = some (.bool true, st'.objs) := by
      unfold callL callF
      refine (if_pos rfl).trans ?_
      show (match (s_law bb).1 ⟨[.list (xs.map .int), .undef, .undef, .undef, .undef, .undef], []⟩ with | some (.ret m, st) => some (m, st.objs) | some (.next, st) => some (.none, st.objs) | none => none) = _
      rw [e]
    refine hcall callerA [] [] [] st'.objs [.list (xs.map .int)] (.bool true) [.ref la] s₁ _ _ ambLaw (hpLaw KX) (.cons (.list (n := 0) hget (by simp) (well_vrs hall)) .nil) eF fun v adr' h' tk' p' r' a' => ?_
    cases r'
    exact ⟨.inl ⟨_, _, [], rfl, fun _ => rfl, .bool true, post62 xs, fun _ => ⟨List.nodup_nil, fun _ hm => nomatch hm⟩⟩, .of_keep p'.base, rfl, .of_eq hg⟩
end Mine
theorem PySem.Challenge.cw_sa0062_01_holds : PySem.Challenge.rw_sa0062_01.Holds := by
  exact Mine.top62 Mine.walk62
end
