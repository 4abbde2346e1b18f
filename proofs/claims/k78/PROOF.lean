import PyProof.Rows.All
import Wide.All
import OpenK.AllK
import Wide.FinOn
import HandS.ForMost
import HandS.ForExc
import HandS.Flow
import HandS.Lambda
import HandS.HeadHook1
import HandS.Deep
import HandS.TupAny
import HandS.Wide
import HandS.IsInst
import KE.SortData
import HandS.More
import HandS.Defaults
import HandS.ExcCtx
import HandS.HotCalls
import HandS.ExcInit
import HandS.ExcIs
import HandS.ExcField
import HandS.Small
import HandS.Text
import HandS.StrMore
import HandS.HeadHook4
import HandS.Ends
import HandS.Head2
import KE.KStateDown
import Lean
import HandS.Head0
import HandS.Head1
import HandS.HeadWalk
import PySem.Challenge.RW_flushends_k78_deal_is_a_way
/-! ## Q0 -/
set_option Elab.async false
set_option linter.all false
set_option maxRecDepth 100000
/-! Q0: pure data D, cells, what stands for what (Rep), the world (WOk), what a step keeps (Ext). -/
namespace Qv
open PySem PySem.Spec PyProof.Rows L2

/-- pure data; cel i: the i-th of the mutable things; opq v f: a value that is only handed on (f: what stands at an address, never to change); flst xs: a list that is never written -/
inductive D where
  | non | bl (b : Bool) | int (i : Int) | str (x : Str) | lst (xs : List D) | tup (xs : List D) | cel (i : Nat) | opq (v : V) (f : Option (Addr × HO)) | flst (xs : List D)
/-- a mutable thing; dead: frozen since -/
inductive Cell where
  | dead
  | lst (xs : List D)
abbrev Cells := List Cell
abbrev Env := List (Option D)
/-- an error: its class's name, its one field -/
structure Exn where
  cls : Str
  arg : Option (Str × D)
inductive Out (α : Type) where
  | ok (a : α) (C : Cells)
  | exn (x : Exn) (C : Cells)
  | stuck

def SqF (K : PySem.W.Frag) (H : Hp) (a : Addr) (xs : List V) : Prop := (∃ o, H a = some (.frz o (.lst xs))) ∨
  ∃ (o : Obj) (its : Array Value) (n : Nat), K.lookup a = some o ∧ o.cls = .type "list" ∧ o.dict = none ∧ o.data = .seq its n ∧ its.size ≤ sizeLine ∧ Vals xs its.toList
theorem SqF.sq {K : PySem.W.Frag} {H : Hp} {a : Addr} {xs : List V} (h : SqF K H a xs) : SqL K H a xs := h.elim (fun h => .inl (.inr h)) .inr
mutual
inductive Rep (K : PySem.W.Frag) (B : Addr → Prop) (Γ : List Addr) (H : Hp) : V → D → Prop
  | non : Rep K B Γ H .non .non
  | bl (b : Bool) : Rep K B Γ H (.bl b) (.bl b)
  | int (i : Int) : Rep K B Γ H (.int i) (.int i)
  | str (x : Str) : Rep K B Γ H (.str x) (.str x)
  | lst {a : Addr} {vs : List V} {ds : List D} : ¬ B a → H a = some (.lst vs) → RepA K B Γ H vs ds → Rep K B Γ H (.ref a) (.lst ds)
  | tup {a : Addr} {vs : List V} {ds : List D} : SqT K H a vs → RepA K B Γ H vs ds → Rep K B Γ H (.ref a) (.tup ds)
  | cel {a : Addr} {i : Nat} : Γ[i]? = some a → Rep K B Γ H (.ref a) (.cel i)
  | opq {v : V} {f : Option (Addr × HO)} : (∀ p o, f = some (p, o) → H p = some o ∧ (∀ vs, o ≠ .lst vs) ∧ ∀ ps, o ≠ .tbl ps) → Rep K B Γ H v (.opq v f)
  | flst {a : Addr} {vs : List V} {ds : List D} : SqF K H a vs → RepA K B Γ H vs ds → Rep K B Γ H (.ref a) (.flst ds)
inductive RepA (K : PySem.W.Frag) (B : Addr → Prop) (Γ : List Addr) (H : Hp) : List V → List D → Prop
  | nil : RepA K B Γ H [] []
  | cons {v : V} {vs : List V} {d : D} {ds : List D} : Rep K B Γ H v d → RepA K B Γ H vs ds → RepA K B Γ H (v :: vs) (d :: ds)
end

/-- something that is no table stands at a -/
def NT (H : Hp) (a : Addr) : Prop := ∃ o, H a = some o ∧ ∀ ps, o ≠ .tbl ps
theorem NT.no {H : Hp} {a : Addr} (h : H a = none) : ¬ NT H a := fun ⟨_, e, _⟩ => by rw [h] at e; cases e
theorem NT.lst {H : Hp} {a : Addr} {vs : List V} (h : H a = some (.lst vs)) : NT H a := ⟨_, h, fun _ q => by cases q⟩
theorem NT.upd {H : Hp} {a p : Addr} {o : HO} (ho : ∀ ps, o ≠ .tbl ps) (h : NT H a) : NT (upd H p o) a := by
  by_cases e : a = p
  · subst e; exact ⟨o, upd_same, ho⟩
  · obtain ⟨u, h1, h2⟩ := h; exact ⟨u, by rw [upd_ne e]; exact h1, h2⟩
theorem NT.updN {H : Hp} {a p : Addr} {o : HO} (hp : H p = none) (h : NT H a) : NT (L2.upd H p o) a := by
  obtain ⟨u, h1, h2⟩ := h
  exact ⟨u, by rw [upd_ne (ne_of_none h1 hp)]; exact h1, h2⟩
/-- the cell at a lives -/
def Al (Γ : List Addr) (C : Cells) (a : Addr) : Prop := ∃ (i : Nat) (xs : List D), Γ[i]? = some a ∧ C[i]? = some (Cell.lst xs)
def Bad (Γ : List Addr) (C : Cells) (O : Addr → Prop) (a : Addr) : Prop := Al Γ C a ∨ O a

structure WOk (K : PySem.W.Frag) (T : List (Addr × Str)) (Γ : List Addr) (C : Cells) (O : Addr → Prop) (H : Hp) : Prop where
  len : Γ.length = C.length
  nd : Γ.Nodup
  cell : ∀ (i : Nat) (a : Addr) (xs : List D), Γ[i]? = some a → C[i]? = some (Cell.lst xs) → ∃ vs, H a = some (.lst vs) ∧ RepA K (Bad Γ C O) Γ H vs xs
  there : ∀ a, a ∈ Γ → NT H a
  ot : ∀ a, O a → NT H a
  dj : ∀ a, a ∈ Γ → ¬ O a
  tabs : LamX.Tabs T H

structure Ext (Γ : List Addr) (C : Cells) (H : Hp) (Γ' : List Addr) (C' : Cells) (H' : Hp) : Prop where
  pre : Γ <+: Γ'
  keep : ∀ a o, ¬ Al Γ C a → H a = some o → (∀ ps, o ≠ .tbl ps) → H' a = some o
  there : ∀ a, NT H a → NT H' a
  new : ∀ a, Al Γ' C' a → Al Γ C a ∨ ¬ NT H a

def SlotsOk (K : PySem.W.Frag) (B : Addr → Prop) (Γ : List Addr) (H : Hp) (σ : L2.St) (ρ : Env) : Prop :=
  σ.length = ρ.length ∧ ∀ (i : Nat) (d : D), ρ[i]? = some (some d) → ∃ v, σ[i]? = some (some v) ∧ Rep K B Γ H v d

section
variable {K : PySem.W.Frag} {B B' : Addr → Prop} {Γ Γ' Γ'' : List Addr} {C C' C'' : Cells} {O O' : Addr → Prop} {H H' H'' : Hp} {T : List (Addr × Str)}

theorem RepA.length : ∀ {vs : List V} {ds : List D}, RepA K B Γ H vs ds → vs.length = ds.length
  | _, _, .nil => rfl
  | _, _, .cons _ t => by simp [RepA.length t]
theorem RepA.get : ∀ {vs : List V} {ds : List D} {i : Nat} {d : D}, RepA K B Γ H vs ds → ds[i]? = some d → ∃ v, vs[i]? = some v ∧ Rep K B Γ H v d
  | _, _, _, _, .nil, e => by simp at e
  | _, _, 0, _, .cons r _, e => by simp at e; subst e; exact ⟨_, rfl, r⟩
  | _, _, i + 1, d, .cons _ t, e => by
    obtain ⟨v, h1, h2⟩ := RepA.get (i := i) (d := d) t (by simpa using e)
    exact ⟨v, by simpa using h1, h2⟩
theorem RepA.getV : ∀ {vs : List V} {ds : List D} {i : Nat} {v : V}, RepA K B Γ H vs ds → vs[i]? = some v → ∃ d, ds[i]? = some d ∧ Rep K B Γ H v d
  | _, _, _, _, .nil, e => by simp at e
  | _, _, 0, _, .cons r _, e => by simp at e; subst e; exact ⟨_, rfl, r⟩
  | _, _, i + 1, v, .cons _ t, e => by
    obtain ⟨d, h1, h2⟩ := RepA.getV (i := i) (v := v) t (by simpa using e)
    exact ⟨d, by simpa using h1, h2⟩
theorem RepA.append : ∀ {vs ws : List V} {ds es : List D}, RepA K B Γ H vs ds → RepA K B Γ H ws es → RepA K B Γ H (vs ++ ws) (ds ++ es)
  | _, _, _, _, .nil, s => s
  | _, _, _, _, .cons r t, s => .cons r (RepA.append t s)
theorem RepA.set : ∀ {vs : List V} {ds : List D} {v : V} {d : D} (i : Nat), RepA K B Γ H vs ds → Rep K B Γ H v d → RepA K B Γ H (vs.set i v) (ds.set i d)
  | _, _, _, _, _, .nil, _ => .nil
  | _, _, _, _, 0, .cons _ t, r => .cons r t
  | _, _, _, _, i + 1, .cons q t, r => .cons q (RepA.set i t r)
theorem RepA.take : ∀ {vs : List V} {ds : List D} (n : Nat), RepA K B Γ H vs ds → RepA K B Γ H (vs.take n) (ds.take n)
  | _, _, 0, _ => by simp; exact .nil
  | _, _, _ + 1, .nil => .nil
  | _, _, n + 1, .cons r t => .cons r (RepA.take n t)
theorem RepA.drop : ∀ {vs : List V} {ds : List D} (n : Nat), RepA K B Γ H vs ds → RepA K B Γ H (vs.drop n) (ds.drop n)
  | _, _, 0, r => r
  | _, _, _ + 1, .nil => .nil
  | _, _, n + 1, .cons _ t => RepA.drop n t
theorem RepA.eraseIdx : ∀ {vs : List V} {ds : List D} (n : Nat), RepA K B Γ H vs ds → RepA K B Γ H (vs.eraseIdx n) (ds.eraseIdx n)
  | _, _, _, .nil => .nil
  | _, _, 0, .cons _ t => t
  | _, _, n + 1, .cons r t => .cons r (RepA.eraseIdx n t)
theorem RepA.replicate {v : V} {d : D} (r : Rep K B Γ H v d) : ∀ n : Nat, RepA K B Γ H (List.replicate n v) (List.replicate n d)
  | 0 => .nil
  | n + 1 => .cons r (RepA.replicate r n)
theorem RepA.flat {vs : List V} {ds : List D} (r : RepA K B Γ H vs ds) : ∀ n : Nat, RepA K B Γ H (List.replicate n vs).flatten (List.replicate n ds).flatten
  | 0 => .nil
  | n + 1 => by
    rw [List.replicate_succ, List.replicate_succ, List.flatten_cons, List.flatten_cons]
    exact r.append (RepA.flat r n)
theorem RepA.snoc {vs : List V} {ds : List D} {v : V} {d : D} (r : RepA K B Γ H vs ds) (q : Rep K B Γ H v d) : RepA K B Γ H (vs ++ [v]) (ds ++ [d]) := r.append (.cons q .nil)

/-- moving: what a list's, a tuple's, a cell's reading needs -/
theorem Rep.move (hl : ∀ (a : Addr) (vs : List V), ¬ B a → H a = some (.lst vs) → ¬ B' a ∧ H' a = some (.lst vs)) (ht : ∀ (a : Addr) (vs : List V), SqT K H a vs → SqT K H' a vs)
    (hc : ∀ (i : Nat) (a : Addr), Γ[i]? = some a → Γ'[i]? = some a) (hx : ∀ p o, H p = some o → (∀ vs, o ≠ .lst vs) → (∀ ps, o ≠ .tbl ps) → H' p = some o) : ∀ {v : V} {d : D}, Rep K B Γ H v d → Rep K B' Γ' H' v d := fun {v d} r =>
  Rep.rec (motive_1 := fun v d _ => Rep K B' Γ' H' v d) (motive_2 := fun vs ds _ => RepA K B' Γ' H' vs ds)
    .non .bl .int .str (fun nb e _ ih => .lst (hl _ _ nb e).1 (hl _ _ nb e).2 ih) (fun s _ ih => .tup (ht _ _ s) ih) (fun e => .cel (hc _ _ e)) (fun h => .opq fun p o e => let z := h p o e; ⟨hx p o z.1 z.2.1 z.2.2, z.2⟩) (fun s _ ih => .flst (s.elim (fun ⟨o, e⟩ => .inl ⟨o, hx _ _ e (fun _ z => by cases z) fun _ z => by cases z⟩) .inr) ih) .nil (fun _ _ a b => .cons a b) r
theorem RepA.move (hl : ∀ (a : Addr) (vs : List V), ¬ B a → H a = some (.lst vs) → ¬ B' a ∧ H' a = some (.lst vs)) (ht : ∀ (a : Addr) (vs : List V), SqT K H a vs → SqT K H' a vs)
    (hc : ∀ (i : Nat) (a : Addr), Γ[i]? = some a → Γ'[i]? = some a) (hx : ∀ p o, H p = some o → (∀ vs, o ≠ .lst vs) → (∀ ps, o ≠ .tbl ps) → H' p = some o) : ∀ {vs : List V} {ds : List D}, RepA K B Γ H vs ds → RepA K B' Γ' H' vs ds
  | _, _, .nil => .nil
  | _, _, .cons r t => .cons (r.move hl ht hc hx) (RepA.move hl ht hc hx t)
theorem Rep.mono (hb : ∀ a, B' a → B a) {v : V} {d : D} (r : Rep K B Γ H v d) : Rep K B' Γ H v d := r.move (fun _ _ nb e => ⟨fun z => nb (hb _ z), e⟩) (fun _ _ s => s) (fun _ _ e => e) fun _ _ e _ _ => e
theorem RepA.mono (hb : ∀ a, B' a → B a) {vs : List V} {ds : List D} (r : RepA K B Γ H vs ds) : RepA K B' Γ H vs ds := r.move (fun _ _ nb e => ⟨fun z => nb (hb _ z), e⟩) (fun _ _ s => s) (fun _ _ e => e) fun _ _ e _ _ => e

theorem prefix_get {α : Type} {l m : List α} (p : l <+: m) {i : Nat} {a : α} (h : l[i]? = some a) : m[i]? = some a := by
  obtain ⟨r, rfl⟩ := p
  rw [List.getElem?_append_left (List.getElem?_eq_some_iff.mp h).1]
  exact h

theorem WOk.notTup (w : WOk K T Γ C O H) {a : Addr} (h : Al Γ C a) : ∃ vs, H a = some (.lst vs) := by
  obtain ⟨i, xs, e1, e2⟩ := h
  obtain ⟨vs, e, _⟩ := w.cell i a xs e1 e2
  exact ⟨vs, e⟩
theorem Al.mem {a : Addr} (h : Al Γ C a) : a ∈ Γ := by
  obtain ⟨i, xs, e1, _⟩ := h
  exact List.mem_of_getElem? e1
theorem WOk.djA (w : WOk K T Γ C O H) {a : Addr} (h : Al Γ C a) : ¬ O a := w.dj a h.mem
theorem WOk.tupKeep (w : WOk K T Γ C O H) (x : Ext Γ C H Γ' C' H') {a : Addr} {vs : List V} (s : SqT K H a vs) : SqT K H' a vs := by
  rcases s with (s | ⟨o, s⟩) | s
  · refine .inl (.inl (x.keep _ _ (fun z => ?_) s fun ps q => by cases q))
    obtain ⟨ws, e⟩ := w.notTup z
    rw [s] at e; cases e
  · refine .inl (.inr ⟨o, x.keep _ _ (fun z => ?_) s fun ps q => by cases q⟩)
    obtain ⟨ws, e⟩ := w.notTup z
    rw [s] at e; cases e
  · exact .inr s
theorem WOk.pinKeep (w : WOk K T Γ C O H) (x : Ext Γ C H Γ' C' H') {p : Addr} {o : HO} (e : H p = some o) (h1 : ∀ vs, o ≠ .lst vs) (h2 : ∀ ps, o ≠ .tbl ps) : H' p = some o :=
  x.keep p o (fun z => by
    obtain ⟨vs, q⟩ := w.notTup z
    rw [e] at q
    exact h1 vs (Option.some.inj q)) e h2
theorem Rep.ext (w : WOk K T Γ C O H) (x : Ext Γ C H Γ' C' H') {v : V} {d : D} (r : Rep K (Bad Γ C O) Γ H v d) : Rep K (Bad Γ' C' O) Γ' H' v d :=
  r.move (fun a vs nb e => ⟨fun z => z.elim (fun z => (x.new a z).elim (fun z => nb (.inl z)) fun z => z (.lst e)) fun z => nb (.inr z), x.keep _ _ (fun z => nb (.inl z)) e fun ps q => by cases q⟩)
    (fun a vs s => w.tupKeep x s) (fun i a e => prefix_get x.pre e) fun p o e h1 h2 => w.pinKeep x e h1 h2
theorem RepA.ext (w : WOk K T Γ C O H) (x : Ext Γ C H Γ' C' H') {vs : List V} {ds : List D} (r : RepA K (Bad Γ C O) Γ H vs ds) : RepA K (Bad Γ' C' O) Γ' H' vs ds :=
  r.move (fun a vs nb e => ⟨fun z => z.elim (fun z => (x.new a z).elim (fun z => nb (.inl z)) fun z => z (.lst e)) fun z => nb (.inr z), x.keep _ _ (fun z => nb (.inl z)) e fun ps q => by cases q⟩)
    (fun a vs s => w.tupKeep x s) (fun i a e => prefix_get x.pre e) fun p o e h1 h2 => w.pinKeep x e h1 h2
theorem SlotsOk.ext (w : WOk K T Γ C O H) (x : Ext Γ C H Γ' C' H') {σ : L2.St} {ρ : Env} (s : SlotsOk K (Bad Γ C O) Γ H σ ρ) : SlotsOk K (Bad Γ' C' O) Γ' H' σ ρ :=
  ⟨s.1, fun i d e => by
    obtain ⟨v, e1, r⟩ := s.2 i d e
    exact ⟨v, e1, r.ext w x⟩⟩
theorem SlotsOk.mono (hb : ∀ a, B' a → B a) {σ : L2.St} {ρ : Env} (s : SlotsOk K B Γ H σ ρ) : SlotsOk K B' Γ H σ ρ :=
  ⟨s.1, fun i d e => by
    obtain ⟨v, e1, r⟩ := s.2 i d e
    exact ⟨v, e1, r.mono hb⟩⟩
theorem SlotsOk.set {σ : L2.St} {ρ : Env} {v : V} {d : D} (s : SlotsOk K B Γ H σ ρ) (i : Nat) (r : Rep K B Γ H v d) : SlotsOk K B Γ H (σ.set i (some v)) (ρ.set i (some d)) :=
  ⟨by simp [s.1], fun j e h => by
    by_cases hj : i = j
    · subst hj
      by_cases hi : i < ρ.length
      · rw [List.getElem?_set_self hi] at h
        cases h
        exact ⟨v, List.getElem?_set_self (by rw [s.1]; exact hi), r⟩
      · rw [List.getElem?_eq_none (by simpa using hi)] at h; cases h
    · rw [List.getElem?_set_ne hj] at h
      obtain ⟨w, e1, r1⟩ := s.2 j e h
      exact ⟨w, by rw [List.getElem?_set_ne hj]; exact e1, r1⟩⟩

theorem Ext.refl : Ext Γ C H Γ C H := ⟨List.prefix_refl _, fun _ _ _ e _ => e, fun _ h => h, fun _ h => .inl h⟩
theorem Ext.trans (x : Ext Γ C H Γ' C' H') (y : Ext Γ' C' H' Γ'' C'' H'') : Ext Γ C H Γ'' C'' H'' where
  pre := x.pre.trans y.pre
  keep := fun a o na e nt => y.keep a o (fun z => (x.new a z).elim na fun z => z ⟨o, e, nt⟩) (x.keep a o na e nt) nt
  there := fun a h => y.there a (x.there a h)
  new := fun a z => (y.new a z).elim (fun z => x.new a z) fun z => .inr fun y => z (x.there a y)
theorem WOk.monoO (w : WOk K T Γ C O H) (h : ∀ a, O' a → O a) : WOk K T Γ C O' H :=
  ⟨w.len, w.nd, fun i a xs e1 e2 => by
    obtain ⟨vs, e, r⟩ := w.cell i a xs e1 e2
    exact ⟨vs, e, r.mono fun b z => z.imp id (h b)⟩, w.there, fun a z => w.ot a (h a z), fun a z y => w.dj a z (h a y), w.tabs⟩

/-- a new object is laid at p -/
theorem ext_new {p : Addr} {o : HO} (hp : H p = none) : Ext Γ C H Γ C (upd H p o) :=
  ⟨List.prefix_refl _, fun a u _ e _ => by rw [upd_ne (ne_of_none e hp)]; exact e, fun a h => h.updN hp, fun _ z => .inl z⟩
theorem tabs_new {p : Addr} {o : HO} (t : LamX.Tabs T H) (hp : H p = none) : LamX.Tabs T (upd H p o) := t.ext fun b u e => by rw [upd_ne (ne_of_none e hp)]; exact e
theorem WOk.new (w : WOk K T Γ C O H) {p : Addr} {o : HO} (hp : H p = none) : WOk K T Γ C O (upd H p o) where
  len := w.len
  nd := w.nd
  cell := fun i a xs e1 e2 => by
    obtain ⟨vs, e, r⟩ := w.cell i a xs e1 e2
    exact ⟨vs, by rw [upd_ne (ne_of_none e hp)]; exact e, r.ext w (ext_new hp)⟩
  there := fun a h => (ext_new (Γ := Γ) (C := C) hp).there a (w.there a h)
  ot := fun a h => (ext_new (Γ := Γ) (C := C) hp).there a (w.ot a h)
  dj := w.dj
  tabs := tabs_new w.tabs hp
/-- .. and set apart -/
theorem WOk.apart (w : WOk K T Γ C O H) {p : Addr} {o : HO} (hp : H p = none) (ho : ∀ ps, o ≠ .tbl ps := by exact fun _ q => by cases q) : WOk K T Γ C (fun a => O a ∨ a = p) (upd H p o) where
  len := w.len
  nd := w.nd
  cell := fun i a xs e1 e2 => by
    obtain ⟨vs, e, r⟩ := w.cell i a xs e1 e2
    refine ⟨vs, by rw [upd_ne (ne_of_none e hp)]; exact e, r.move (fun b us nb eb => ⟨fun z => ?_, by rw [upd_ne (ne_of_none eb hp)]; exact eb⟩) (fun b us s => w.tupKeep (ext_new hp) s) (fun _ _ e => e) fun q u e h1 h2 => w.pinKeep (ext_new hp) e h1 h2⟩
    rcases z with z | z | z
    · exact nb (.inl z)
    · exact nb (.inr z)
    · subst z; rw [hp] at eb; cases eb
  there := fun a h => (ext_new (Γ := Γ) (C := C) hp).there a (w.there a h)
  ot := fun a h => h.elim (fun h => (ext_new (Γ := Γ) (C := C) hp).there a (w.ot a h)) fun h => by subst h; exact ⟨o, upd_same, ho⟩
  dj := fun a z h => h.elim (w.dj a z) fun h => by
    subst h
    exact NT.no hp (w.there a z)
  tabs := tabs_new w.tabs hp
theorem apart_l {p : Addr} {o : HO} (hp : H p = none) (b : Addr) (us : List V) (nb : ¬ Bad Γ C O b) (eb : H b = some (.lst us)) : ¬ Bad Γ C (fun a => O a ∨ a = p) b ∧ upd H p o b = some (.lst us) := by
  refine ⟨fun z => ?_, by rw [upd_ne (ne_of_none eb hp)]; exact eb⟩
  rcases z with z | z | z
  · exact nb (.inl z)
  · exact nb (.inr z)
  · subst z; rw [hp] at eb; cases eb
theorem Rep.apart (w : WOk K T Γ C O H) {p : Addr} {o : HO} (hp : H p = none) {v : V} {d : D} (r : Rep K (Bad Γ C O) Γ H v d) : Rep K (Bad Γ C fun a => O a ∨ a = p) Γ (upd H p o) v d :=
  r.move (apart_l hp) (fun b us s => w.tupKeep (ext_new hp) s) (fun _ _ e => e) fun q u e h1 h2 => w.pinKeep (ext_new hp) e h1 h2
theorem RepA.apart (w : WOk K T Γ C O H) {p : Addr} {o : HO} (hp : H p = none) {v : List V} {d : List D} (r : RepA K (Bad Γ C O) Γ H v d) : RepA K (Bad Γ C fun a => O a ∨ a = p) Γ (upd H p o) v d :=
  r.move (apart_l hp) (fun b us s => w.tupKeep (ext_new hp) s) (fun _ _ e => e) fun q u e h1 h2 => w.pinKeep (ext_new hp) e h1 h2
theorem SlotsOk.apart (w : WOk K T Γ C O H) {p : Addr} {o : HO} (hp : H p = none) {σ : L2.St} {ρ : Env} (s : SlotsOk K (Bad Γ C O) Γ H σ ρ) : SlotsOk K (Bad Γ C fun a => O a ∨ a = p) Γ (upd H p o) σ ρ :=
  ⟨s.1, fun i d e => by
    obtain ⟨v, e1, r⟩ := s.2 i d e
    exact ⟨v, e1, r.apart w hp⟩⟩
end
end Qv

/-! ## Q1 -/
set_option Elab.async false
set_option linter.all false
set_option maxRecDepth 100000
/-! Q1: what an expression, a test, arguments, statements come to (denotations), and the judgements over them. -/
namespace Qv
open PySem PySem.Spec PyProof.Rows L2

def Out.bind {α β : Type} (o : Out α) (f : α → Cells → Out β) : Out β := match o with
  | .ok a C => f a C
  | .exn x C => .exn x C
  | .stuck => .stuck
abbrev DE := Env → Cells → Out D
abbrev DB := Env → Cells → Out Bool
abbrev DA := Env → Cells → Out (List D)
inductive SO where
  | nx (ρ : Env) (C : Cells) | rt (d : D) (C : Cells) | bk (ρ : Env) (C : Cells) | ct (ρ : Env) (C : Cells) | exn (x : Exn) (C : Cells) | stuck
abbrev DS := Env → Cells → SO
def Out.bindS {α : Type} (o : Out α) (f : α → Cells → SO) : SO := match o with
  | .ok a C => f a C
  | .exn x C => .exn x C
  | .stuck => .stuck

def ExRep (K : PySem.W.Frag) (B : Addr → Prop) (Γ : List Addr) (H : Hp) (u : Value) (dd : Option Addr) (x : Exn) : Prop :=
  u = .ref (He.ga K x.cls) ∧ match x.arg with
    | none => dd = none
    | some (f, d) => ∃ a v, dd = some a ∧ H a = some (.xd [(f, v)]) ∧ Rep K B Γ H v d

section
variable (K : PySem.W.Frag) (T : List (Addr × Str)) (EX : XK) (O : Addr → Prop) (Γ : List Addr) (C : Cells) (H : Hp)
def PostG {α β : Type} (rel : (Addr → Prop) → List Addr → Hp → β → α → Prop) (o : Out α) (Q : β → Hp → Prop) : Prop := match o with
  | .ok d C' => ∀ v H' Γ', Ext Γ C H Γ' C' H' → WOk K T Γ' C' O H' → rel (Bad Γ' C' O) Γ' H' v d → Q v H'
  | .exn x C' => ∀ u dd H' Γ', Ext Γ C H Γ' C' H' → WOk K T Γ' C' O H' → ExRep K (Bad Γ' C' O) Γ' H' u dd x → EX u dd H'
  | .stuck => False
abbrev relB : (Addr → Prop) → List Addr → Hp → Bool → Bool → Prop := fun _ _ _ b c => b = c
abbrev Post (o : Out D) (Q : VK) : Prop := PostG K T EX O Γ C H (Rep K) o Q
abbrev PostA (o : Out (List D)) (Q : List V → Hp → Prop) : Prop := PostG K T EX O Γ C H (RepA K) o Q
abbrev PostB (o : Out Bool) (Q : Bool → Hp → Prop) : Prop := PostG K T EX O Γ C H relB o Q
def PostS (o : SO) (D : Ends) : Prop := match o with
  | .nx ρ C' => ∀ σ' H' Γ', Ext Γ C H Γ' C' H' → WOk K T Γ' C' O H' → SlotsOk K (Bad Γ' C' O) Γ' H' σ' ρ → D.nx σ' H'
  | .bk ρ C' => ∀ σ' H' Γ', Ext Γ C H Γ' C' H' → WOk K T Γ' C' O H' → SlotsOk K (Bad Γ' C' O) Γ' H' σ' ρ → D.bk σ' H'
  | .ct ρ C' => ∀ σ' H' Γ', Ext Γ C H Γ' C' H' → WOk K T Γ' C' O H' → SlotsOk K (Bad Γ' C' O) Γ' H' σ' ρ → D.ct σ' H'
  | .rt d C' => ∀ v H' Γ', Ext Γ C H Γ' C' H' → WOk K T Γ' C' O H' → Rep K (Bad Γ' C' O) Γ' H' v d → D.rt v H'
  | .exn x C' => ∀ u dd H' Γ', Ext Γ C H Γ' C' H' → WOk K T Γ' C' O H' → ExRep K (Bad Γ' C' O) Γ' H' u dd x → EX u dd H'
  | .stuck => False
end

section
variable {K : PySem.W.Frag} {T : List (Addr × Str)} {EX : XK} {O : Addr → Prop} {Γ Γ' : List Addr} {C C' : Cells} {H H' : Hp}
theorem PostG.shift {α β : Type} {rel : (Addr → Prop) → List Addr → Hp → β → α → Prop} {o : Out α} {Q : β → Hp → Prop} (x : Ext Γ C H Γ' C' H') (h : PostG K T EX O Γ C H rel o Q) : PostG K T EX O Γ' C' H' rel o Q := by
  cases o with
  | ok d C'' => exact fun v H'' Γ'' y w r => h v H'' Γ'' (x.trans y) w r
  | exn e C'' => exact fun u dd H'' Γ'' y w r => h u dd H'' Γ'' (x.trans y) w r
  | stuck => exact h
theorem PostS.shift {o : SO} {D : Ends} (x : Ext Γ C H Γ' C' H') (h : PostS K T EX O Γ C H o D) : PostS K T EX O Γ' C' H' o D := by
  cases o with
  | nx ρ C'' => exact fun v H'' Γ'' y w r => h v H'' Γ'' (x.trans y) w r
  | bk ρ C'' => exact fun v H'' Γ'' y w r => h v H'' Γ'' (x.trans y) w r
  | ct ρ C'' => exact fun v H'' Γ'' y w r => h v H'' Γ'' (x.trans y) w r
  | rt d C'' => exact fun v H'' Γ'' y w r => h v H'' Γ'' (x.trans y) w r
  | exn e C'' => exact fun u dd H'' Γ'' y w r => h u dd H'' Γ'' (x.trans y) w r
  | stuck => exact h
theorem PostG.bind {α β α' β' : Type} {rel : (Addr → Prop) → List Addr → Hp → β → α → Prop} {rel' : (Addr → Prop) → List Addr → Hp → β' → α' → Prop} {o : Out α} {f : α → Cells → Out α'} {Q : β → Hp → Prop} {Q' : β' → Hp → Prop}
    (h : PostG K T EX O Γ C H rel' (o.bind f) Q')
    (k : ∀ d C' v H' Γ', Ext Γ C H Γ' C' H' → WOk K T Γ' C' O H' → rel (Bad Γ' C' O) Γ' H' v d → PostG K T EX O Γ' C' H' rel' (f d C') Q' → Q v H') : PostG K T EX O Γ C H rel o Q := by
  cases o with
  | ok d C1 => exact fun v H' Γ' x w r => k d C1 v H' Γ' x w r (PostG.shift x h)
  | exn e C1 => exact h
  | stuck => exact h
theorem PostG.bindS {α β : Type} {rel : (Addr → Prop) → List Addr → Hp → β → α → Prop} {o : Out α} {f : α → Cells → SO} {Q : β → Hp → Prop} {D : Ends}
    (h : PostS K T EX O Γ C H (o.bindS f) D)
    (k : ∀ d C' v H' Γ', Ext Γ C H Γ' C' H' → WOk K T Γ' C' O H' → rel (Bad Γ' C' O) Γ' H' v d → PostS K T EX O Γ' C' H' (f d C') D → Q v H') : PostG K T EX O Γ C H rel o Q := by
  cases o with
  | ok d C1 => exact fun v H' Γ' x w r => k d C1 v H' Γ' x w r (PostS.shift x h)
  | exn e C1 => exact h
  | stuck => exact h
end

/-! ### the readings, the judgements -/
section
variable (K : PySem.W.Frag) (T : List (Addr × Str)) (EX : XK)
def tE (f : DE) : TE := fun σ H Q => ∃ ρ Γ C O, WOk K T Γ C O H ∧ SlotsOk K (Bad Γ C O) Γ H σ ρ ∧ Post K T EX O Γ C H (f ρ C) Q
def tT (f : DB) : TT := fun σ H Q => ∃ ρ Γ C O, WOk K T Γ C O H ∧ SlotsOk K (Bad Γ C O) Γ H σ ρ ∧ PostB K T EX O Γ C H (f ρ C) Q
def tA (f : DA) : TA := fun σ H Q => ∃ ρ Γ C O, WOk K T Γ C O H ∧ SlotsOk K (Bad Γ C O) Γ H σ ρ ∧ PostA K T EX O Γ C H (f ρ C) Q
def tS (f : DS) : TS := fun D σ H => ∃ ρ Γ C O, WOk K T Γ C O H ∧ SlotsOk K (Bad Γ C O) Γ H σ ρ ∧ PostS K T EX O Γ C H (f ρ C) D
end
section
variable (X : Cx) (T : List (Addr × Str)) (EX : XK)
def QE (e : Expr) (f : DE) : Prop := PE X e (tE X.K T EX f)
def QT (e : Expr) (f : DB) : Prop := PT X e (tT X.K T EX f)
def QW (e : Expr) (f : DB) : Prop := PW X e (tT X.K T EX f)
def QA (es : List Expr) (f : DA) : Prop := PA X es (tA X.K T EX f)
def QS (st : Stmt) (f : DS) : Prop := PS X st (tS X.K T EX f)
def QSs (sts : List Stmt) (f : DS) : Prop := PSs X sts (tS X.K T EX f)
end

theorem PE.weak {X : Cx} {e : Expr} {t t' : TE} (h : PE X e t) (k : ∀ σ H Q, t' σ H Q → t σ H Q) : PE X e t' := ⟨fun pins s σ H Q I hw => h.run pins s σ H Q I (k _ _ _ hw)⟩
theorem PT.weak {X : Cx} {e : Expr} {t t' : TT} (h : PT X e t) (k : ∀ σ H Q, t' σ H Q → t σ H Q) : PT X e t' := ⟨fun pins s σ H Q I hw => h.run pins s σ H Q I (k _ _ _ hw)⟩
theorem PW.weak {X : Cx} {e : Expr} {t t' : TT} (h : PW X e t) (k : ∀ σ H Q, t' σ H Q → t σ H Q) : PW X e t' := ⟨fun wh pins s σ H Q I hw => h.run wh pins s σ H Q I (k _ _ _ hw)⟩
theorem PA.weak {X : Cx} {es : List Expr} {t t' : TA} (h : PA X es t) (k : ∀ σ H Q, t' σ H Q → t σ H Q) : PA X es t' := ⟨fun pos pins s σ H Q I hw => h.run pos pins s σ H Q I (k _ _ _ hw)⟩
theorem PS.weak {X : Cx} {st : Stmt} {t t' : TS} (h : PS X st t) (k : ∀ D σ H, t' D σ H → t D σ H) : PS X st t' := ⟨fun pins s σ H D I hw => h.run pins s σ H D I (k _ _ _ hw)⟩
theorem PSs.weak {X : Cx} {st : List Stmt} {t t' : TS} (h : PSs X st t) (k : ∀ D σ H, t' D σ H → t D σ H) : PSs X st t' := ⟨fun pins s σ H D I hw => h.run pins s σ H D I (k _ _ _ hw)⟩

section
variable {X : Cx} {T : List (Addr × Str)} {EX : XK}

/-! ### names, constants -/
def eSlot (i : Nat) : DE := fun ρ C => match ρ[i]? with
  | some (some d) => .ok d C
  | _ => .stuck
def eC (d : D) : DE := fun _ C => .ok d C
theorem qe_var (i : Nat) {x : Str} {pos : Pos} (hN : X.N[i]? = some x := by rfl) (hv : Vis X.env.scope x := by first | exact Or.inl rfl | exact Or.inr (Or.inl rfl) | exact Or.inr (Or.inr rfl)) (hd : (x == ("__debug__" : Str)) = false := by decide)
    (hcd : (x == ("__classdict__" : Str)) = false := by decide) : QE X T EX (.Name x pos) (eSlot i) :=
  PE.weak (pe_var hN hv hd hcd) fun σ H Q h => by
    obtain ⟨ρ, Γ, C, O, w, s, p⟩ := h
    unfold eSlot at p
    split at p
    · rename_i d e
      obtain ⟨v, e1, r⟩ := s.2 _ _ e
      exact ⟨v, e1, p v H Γ Ext.refl w r⟩
    · exact p.elim
theorem tE_C {d : D} {v : V} (hr : ∀ B Γ H, Rep X.K B Γ H v d) {σ : L2.St} {H : Hp} {Q : VK} (h : tE X.K T EX (eC d) σ H Q) : tC v σ H Q := by
  obtain ⟨ρ, Γ, C, O, w, s, p⟩ := h
  exact p v H Γ Ext.refl w (hr _ _ _)
theorem qe_int {i : Int} {j : Nat} {pos : Pos} : QE X T EX (.Constant (.int i) j pos) (eC (.int i)) := PE.weak pe_int fun _ _ _ => tE_C fun _ _ _ => .int i
theorem qe_bl {b : Bool} {j : Nat} {pos : Pos} : QE X T EX (.Constant (.bool b) j pos) (eC (.bl b)) := PE.weak pe_bl fun _ _ _ => tE_C fun _ _ _ => .bl b
theorem qe_non {j : Nat} {pos : Pos} : QE X T EX (.Constant .none j pos) (eC .non) := PE.weak pe_non fun _ _ _ => tE_C fun _ _ _ => .non
theorem qe_str {x : Str} {j : Nat} {pos : Pos} : QE X T EX (.Constant (.str x) j pos) (eC (.str x)) := PE.weak pe_str fun _ _ _ => tE_C fun _ _ _ => .str x
/-- a module's constant -/
theorem qe_glob {x : Str} {v : V} {d : D} {u : Value} {pos : Pos} (hg : Gl X x) (hm : X.mg x = some u) (r : RelV v u) (hr : ∀ B Γ H, Rep X.K B Γ H v d) (hd : (x == ("__debug__" : Str)) = false := by decide) : QE X T EX (.Name x pos) (eC d) :=
  PE.weak (pe_glob hg hm r hd) fun _ _ _ => tE_C hr

/-! ### arguments -/
def aNil : DA := fun _ C => .ok [] C
def aCons (f : DE) (g : DA) : DA := fun ρ C => (f ρ C).bind fun d C => (g ρ C).bind fun ds C => .ok (d :: ds) C
theorem qa_nil : QA X T EX [] aNil := PA.weak pa_nil fun σ H Q h => by
  obtain ⟨ρ, Γ, C, O, w, s, p⟩ := h
  exact p [] H Γ Ext.refl w .nil
theorem qa_cons {e : Expr} {es : List Expr} {f : DE} {g : DA} (he : QE X T EX e f) (hs : QA X T EX es g) (h1 : starEach (e :: es) X.env = (false, eval e X.env) :: starEach es X.env := by rfl) : QA X T EX (e :: es) (aCons f g) :=
  PA.weak (pa_cons he hs h1) fun σ H Q h => by
    obtain ⟨ρ, Γ, C, O, w, s, p⟩ := h
    refine ⟨ρ, Γ, C, O, w, s, PostG.bind p fun d C1 v H1 Γ1 x1 w1 r1 p1 => ?_⟩
    refine ⟨ρ, Γ1, C1, O, w1, s.ext w x1, PostG.bind p1 fun ds C2 vs H2 Γ2 x2 w2 r2 p2 => ?_⟩
    exact p2 (v :: vs) H2 Γ2 Ext.refl w2 (.cons (r1.ext w1 x2) r2)

/-! ### operators, by what they do to data -/
abbrev D2 := D → D → Cells → Option D
/-- an operator on data: where g says some, the values' rule gives it (a new thing may be laid) -/
def QOp (X : Cx) (T : List (Addr × Str)) (f : Value → Value → Sem Value) (g : D2) : Prop :=
  ∃ r : R2, OpR X f r ∧ ∀ x y dx dy d Γ C O H (Q : VK), g dx dy C = some d → WOk X.K T Γ C O H → Rep X.K (Bad Γ C O) Γ H x dx → Rep X.K (Bad Γ C O) Γ H y dy →
    (∀ v H', Ext Γ C H Γ C H' → WOk X.K T Γ C O H' → Rep X.K (Bad Γ C O) Γ H' v d → Q v H') → r x y H Q
def eOp (g : D2) (f1 f2 : DE) : DE := fun ρ C => (f1 ρ C).bind fun x C => (f2 ρ C).bind fun y C => match g x y C with
  | some d => .ok d C
  | none => .stuck
theorem tOp_ok {r : R2} {g : D2} {f : Value → Value → Sem Value} {f1 f2 : DE}
    (hr : ∀ x y dx dy d Γ C O H (Q : VK), g dx dy C = some d → WOk X.K T Γ C O H → Rep X.K (Bad Γ C O) Γ H x dx → Rep X.K (Bad Γ C O) Γ H y dy →
      (∀ v H', Ext Γ C H Γ C H' → WOk X.K T Γ C O H' → Rep X.K (Bad Γ C O) Γ H' v d → Q v H') → r x y H Q) {σ : L2.St} {H : Hp} {Q : VK} (h : tE X.K T EX (eOp g f1 f2) σ H Q) :
    tOp r (tE X.K T EX f1) (tE X.K T EX f2) σ H Q := by
  obtain ⟨ρ, Γ, C, O, w, s, p⟩ := h
  refine ⟨ρ, Γ, C, O, w, s, PostG.bind p fun d C1 v H1 Γ1 x1 w1 r1 p1 => ?_⟩
  refine ⟨ρ, Γ1, C1, O, w1, s.ext w x1, PostG.bind p1 fun d2 C2 v2 H2 Γ2 x2 w2 r2 p2 => ?_⟩
  cases e : g d d2 C2 with
  | none => rw [e] at p2; exact p2.elim
  | some d3 =>
    rw [e] at p2
    exact hr v v2 d d2 d3 Γ2 C2 O H2 Q e w2 (r1.ext w1 x2) r2 fun v3 H3 x3 w3 r3 => p2 v3 H3 Γ2 x3 w3 r3
theorem qe_op {op : Operator} {g : D2} {a b : Expr} {f1 f2 : DE} {pos : Pos} (ho : QOp X T (binaryOp op) g) (ha : QE X T EX a f1) (hb : QE X T EX b f2) : QE X T EX (.BinOp a op b pos) (eOp g f1 f2) := by
  obtain ⟨r, h1, h2⟩ := ho
  exact PE.weak (pe_op h1 ha hb) fun σ H Q => tOp_ok (f := binaryOp op) h2
theorem qe_cmp {op : CmpOp} {g : D2} {a b : Expr} {f1 f2 : DE} {pos : Pos} (ho : QOp X T (compareOp op) g) (ha : QE X T EX a f1) (hb : QE X T EX b f2) (hm : behindInMarks op b = false := by first | exact nomark _ | rfl) : QE X T EX (.Compare a [op] [b] pos) (eOp g f1 f2) := by
  obtain ⟨r, h1, h2⟩ := ho
  exact PE.weak (pe_cmpR h1 ha hb hm) fun σ H Q => tOp_ok (f := compareOp op) h2
end
end Qv

/-! ## Q2 -/
set_option Elab.async false
set_option linter.all false
set_option maxRecDepth 100000
/-! Q2: operators on data. -/
namespace Qv
open PySem PySem.Spec PyProof.Rows L2

mutual
/-- no cell within -/
def D.nc : D → Bool
  | .cel _ => false
  | .opq _ _ => false
  | .flst _ => false
  | .lst xs => D.ncs xs
  | .tup xs => D.ncs xs
  | _ => true
def D.ncs : List D → Bool
  | [] => true
  | x :: xs => x.nc && D.ncs xs
end
mutual
def D.py : D → PyData
  | .non => .none
  | .bl b => .bool b
  | .int i => .int i
  | .str x => .str x
  | .lst xs => .list (D.pys xs)
  | .tup xs => .tuple (D.pys xs)
  | .cel _ => .none
  | .opq _ _ => .none
  | .flst _ => .none
def D.pys : List D → List PyData
  | [] => []
  | x :: xs => x.py :: D.pys xs
end
/-- the items of a list, of a cell -/
def D.seq (C : Cells) : D → Option (List D)
  | .lst xs => some xs
  | .cel i => match C[i]? with
    | some (Cell.lst xs) => some xs
    | _ => none
  | _ => none

section
variable {K : PySem.W.Frag} {B : Addr → Prop} {Γ : List Addr} {C : Cells} {O : Addr → Prop} {H : Hp} {T : List (Addr × Str)}
theorem ncs_cons {x : D} {xs : List D} (h : D.ncs (x :: xs) = true) : x.nc = true ∧ D.ncs xs = true := by
  have h1 : (x.nc && D.ncs xs) = true := h
  exact Bool.and_eq_true_iff.mp h1
theorem Rep.dp {v : V} {d : D} (r : Rep K B Γ H v d) : d.nc = true → Dp K H v d.py :=
  Rep.rec (motive_1 := fun v d _ => d.nc = true → Dp K H v d.py) (motive_2 := fun vs ds _ => D.ncs ds = true → DpAll K H vs (D.pys ds))
    (fun _ => .non) (fun b _ => .bl b) (fun i _ => .int i) (fun x _ => .str x) (fun _ e _ ih h => .lst (.inl (.inl e)) (ih h)) (fun s _ ih h => .tup s (ih h)) (fun _ h => by cases h) (fun _ h => by cases h) (fun _ _ _ h => by cases h)
    (fun _ => .nil) (fun _ _ a b h => .cons (a (ncs_cons h).1) (b (ncs_cons h).2)) r
theorem Rep.anyB {B' : Addr → Prop} (hb : ∀ a, B' a → B a) {Γ' : List Addr} {v : V} {d : D} (r : Rep K B Γ H v d) : d.nc = true → Rep K B' Γ' H v d :=
  Rep.rec (motive_1 := fun v d _ => d.nc = true → Rep K B' Γ' H v d) (motive_2 := fun vs ds _ => D.ncs ds = true → RepA K B' Γ' H vs ds)
    (fun _ => .non) (fun b _ => .bl b) (fun i _ => .int i) (fun x _ => .str x) (fun nb e _ ih h => .lst (fun z => nb (hb _ z)) e (ih h)) (fun s _ ih h => .tup s (ih h)) (fun _ h => by cases h) (fun _ h => by cases h) (fun _ _ _ h => by cases h)
    (fun _ => .nil) (fun _ _ a b h => .cons (a (ncs_cons h).1) (b (ncs_cons h).2)) r
theorem RepA.anyB {B' : Addr → Prop} (hb : ∀ a, B' a → B a) {Γ' : List Addr} : ∀ {vs : List V} {ds : List D}, RepA K B Γ H vs ds → D.ncs ds = true → RepA K B' Γ' H vs ds
  | _, _, .nil, _ => .nil
  | _, _, .cons r t, h => .cons (r.anyB hb (ncs_cons h).1) (RepA.anyB hb t (ncs_cons h).2)
/-- a list's items as they stand -/
theorem Rep.seq (w : WOk K T Γ C O H) {v : V} {d : D} {xs : List D} (r : Rep K (Bad Γ C O) Γ H v d) (e : d.seq C = some xs) : ∃ a vs, v = .ref a ∧ H a = some (.lst vs) ∧ RepA K (Bad Γ C O) Γ H vs xs := by
  cases r with
  | lst nb e1 ra => cases e; exact ⟨_, _, rfl, e1, ra⟩
  | @cel a i e1 =>
    have e' : (match C[i]? with
      | some (Cell.lst xs) => some xs
      | _ => none) = some xs := e
    split at e'
    · rename_i ys q
      cases e'
      obtain ⟨vs, h1, h2⟩ := w.cell _ _ _ e1 q
      exact ⟨_, vs, rfl, h1, h2⟩
    · cases e'
  | non => cases e
  | bl => cases e
  | int => cases e
  | str => cases e
  | opq => cases e
  | flst => cases e
  | tup => cases e
theorem not_bad_new {p : Addr} (w : WOk K T Γ C O H) (hp : H p = none) : ¬ Bad Γ C O p := fun z => by
  rcases z with z | z
  · obtain ⟨vs, e⟩ := w.notTup z
    rw [hp] at e; cases e
  · exact NT.no hp (w.ot p z)
/-- a new list, a new tuple as values -/
theorem rep_lst (w : WOk K T Γ C O H) {p : Addr} {vs : List V} {xs : List D} (hp : H p = none) (r : RepA K (Bad Γ C O) Γ H vs xs) : Rep K (Bad Γ C O) Γ (upd H p (.lst vs)) (.ref p) (.lst xs) :=
  .lst (not_bad_new w hp) upd_same (r.ext w (ext_new hp))
theorem rep_tup (w : WOk K T Γ C O H) {p : Addr} {vs : List V} {xs : List D} (hp : H p = none) (r : RepA K (Bad Γ C O) Γ H vs xs) : Rep K (Bad Γ C O) Γ (upd H p (.tup vs)) (.ref p) (.tup xs) :=
  .tup (.inl (.inl upd_same)) (r.ext w (ext_new hp))
end

section
variable {X : Cx} {T : List (Addr × Str)} {EX : XK}
/-! ### arithmetic -/
def numOf : D → Option Int
  | .int i => some i
  | _ => none
def dAdd : D2 := fun x y C => match x, y with
  | .int i, .int j => some (.int (i + j))
  | .str a, .str b => if a.length + b.length ≤ sizeLine then some (.str (a ++ b)) else none
  | .tup xs, .tup ys => if xs.length + ys.length ≤ sizeLine then some (.tup (xs ++ ys)) else none
  | x, y => match x.seq C, y.seq C with
    | some xs, some ys => if xs.length + ys.length ≤ sizeLine then some (.lst (xs ++ ys)) else none
    | _, _ => none
theorem qop_add : QOp X T (binaryOp .Add) dAdd := by
  refine ⟨_, (op_add.or op_add_str).or (op_catA.or op_cat), fun x y dx dy d Γ C O H Q e w rx ry q => ?_⟩
  have hseq : ∀ xs ys : List D, dx.seq C = some xs → dy.seq C = some ys → xs.length + ys.length ≤ sizeLine → d = .lst (xs ++ ys) → rCat x y H Q := fun xs ys e1 e2 hz ed => by
    obtain ⟨a, vs, rfl, h1, r1⟩ := rx.seq w e1
    obtain ⟨b, ws, rfl, h2, r2⟩ := ry.seq w e2
    subst ed
    exact ⟨a, b, vs, ws, rfl, rfl, h1, h2, by rw [r1.length, r2.length]; exact hz, fun p hp => q _ _ (ext_new hp) (w.new hp) (rep_lst w hp (r1.append r2))⟩
  unfold dAdd at e
  split at e
  · cases rx; cases ry; cases e
    exact .inl (.inl ⟨_, _, rfl, rfl, q _ H Ext.refl w (.int _)⟩)
  · cases rx; cases ry
    split at e
    · cases e
      exact .inl (.inr ⟨_, _, rfl, rfl, by assumption, q _ H Ext.refl w (.str _)⟩)
    · cases e
  · rename_i xs ys
    split at e
    · cases e
      rename_i hz
      cases rx with
      | @tup a vs _ s1 r1 =>
        cases ry with
        | @tup b ws _ s2 r2 =>
          have hr : RepA X.K (Bad Γ C O) Γ H (vs ++ ws) (xs ++ ys) := r1.append r2
          refine .inr (.inl ⟨a, b, vs, ws, rfl, rfl, s1, s2, by rw [r1.length, r2.length]; exact hz, fun e1 => ?_, fun _ e2 => ?_, fun _ _ p hp => q _ _ (ext_new hp) (w.new hp) (rep_tup w hp hr)⟩)
          · subst e1
            exact q _ H Ext.refl w (.tup s2 hr)
          · subst e2
            rw [List.append_nil] at hr
            exact q _ H Ext.refl w (.tup s1 hr)
    · cases e
  · split at e
    · split at e
      · cases e
        exact .inr (.inr (hseq _ _ (by assumption) (by assumption) (by assumption) rfl))
      · cases e
    · cases e

def dSub : D2 := fun x y _ => match x, y with
  | .int i, .int j => some (.int (i - j))
  | _, _ => none
def int2 (c : Int → Int → Bool) (g : Int → Int → D) : D2 := fun x y _ => match x, y with
  | .int i, .int j => if c i j then some (g i j) else none
  | _, _ => none
def int20 (g : Int → Int → D) : D2 := fun x y _ => match x, y with
  | .int i, .int j => some (g i j)
  | _, _ => none
theorem qop_int {f : Value → Value → Sem Value} {g : Int → Int → D} {gV : Int → Int → V} {Cn : Int → Int → Prop} (c : Int → Int → Bool) (hc : ∀ i j, c i j = true → Cn i j) (h : OpR X f (rI Cn gV)) (hg : ∀ B Γ H i j, Rep X.K B Γ H (gV i j) (g i j)) :
    QOp X T f (int2 c g) := by
  refine ⟨_, h, fun x y dx dy d Γ C O H Q e w rx ry q => ?_⟩
  unfold int2 at e
  split at e
  · cases rx; cases ry
    split at e
    · cases e
      exact ⟨_, _, rfl, rfl, hc _ _ (by assumption), q _ H Ext.refl w (hg _ _ _ _ _)⟩
    · cases e
  · cases e
theorem qop_int0 {f : Value → Value → Sem Value} {g : Int → Int → D} {gV : Int → Int → V} (h : OpR X f (rI0 gV)) (hg : ∀ B Γ H i j, Rep X.K B Γ H (gV i j) (g i j)) :
    QOp X T f (int20 g) := by
  refine ⟨_, h, fun x y dx dy d Γ C O H Q e w rx ry q => ?_⟩
  unfold int20 at e
  split at e
  · cases rx; cases ry
    cases e
    exact ⟨_, _, rfl, rfl, q _ H Ext.refl w (hg _ _ _ _ _)⟩
  · cases e
theorem qop_sub : QOp X T (binaryOp .Sub) dSub := qop_int0 op_sub fun _ _ _ _ _ => .int _
/-- below 2 ^ 500000 -/
def wideB (i : Int) : Bool := decide (i.natAbs.log2 < 490000)
def dMul : D2 := fun x y C => match x, y with
  | .int i, .int j => if wideB i && wideB j then some (.int (i * j)) else none
  | x, .int k => match x.seq C with
    | some xs => if decide (-(2 ^ 63) ≤ k ∧ k < 2 ^ 63 ∧ xs.length * k.toNat ≤ sizeLine) then some (.lst (List.replicate k.toNat xs).flatten) else none
    | none => none
  | _, _ => none
theorem qop_mul : QOp X T (binaryOp .Mult) dMul := by
  refine ⟨_, op_mulW.or op_rep, fun x y dx dy d Γ C O H Q e w rx ry q => ?_⟩
  unfold dMul at e
  split at e
  · cases rx; cases ry
    split at e
    · cases e
      rename_i hw
      obtain ⟨h1, h2⟩ := Bool.and_eq_true_iff.mp hw
      have h1 := of_decide_eq_true h1
      have h2 := of_decide_eq_true h2
      exact .inl ⟨_, _, rfl, rfl, (by show _ < _; omega), q _ H Ext.refl w (.int _)⟩
    · cases e
  · split at e
    · split at e
      · cases e
        rename_i xs es hz
        have hz := of_decide_eq_true hz
        obtain ⟨a, vs, rfl, h1, r1⟩ := rx.seq w es
        cases ry
        exact .inr ⟨a, _, vs, rfl, rfl, h1, hz.1, hz.2.1, by rw [r1.length]; exact hz.2.2, fun p hp => q _ _ (ext_new hp) (w.new hp) (rep_lst w hp (r1.flat _))⟩
      · cases e
    · cases e
  · cases e
def dMod : D2 := fun x y _ => match x, y with
  | .int i, .int j => if decide (0 < j) then some (.int (i % j)) else none
  | _, _ => none
theorem qop_mod : QOp X T (binaryOp .Mod) dMod := qop_int (fun _ j => decide (0 < j)) (fun _ _ h => of_decide_eq_true h) op_mod fun _ _ _ _ _ => .int _
def dDiv : D2 := fun x y _ => match x, y with
  | .int i, .int j => if decide (0 < j ∧ j.natAbs.log2 < 9000) then some (.int (i / j)) else none
  | _, _ => none
theorem qop_div : QOp X T (binaryOp .FloorDiv) dDiv := qop_int (fun _ j => decide (0 < j ∧ j.natAbs.log2 < 9000)) (fun _ _ h => of_decide_eq_true h) op_fdivW fun _ _ _ _ _ => .int _
def dPow : D2 := fun x y _ => match x, y with
  | .int i, .int j => if decide (0 ≤ j ∧ j ≤ 1000000 ∧ i.natAbs < 2 ^ 64) then some (.int (i ^ j.toNat)) else none
  | _, _ => none
theorem qop_pow : QOp X T (binaryOp .Pow) dPow := qop_int (fun i j => decide (0 ≤ j ∧ j ≤ 1000000 ∧ i.natAbs < 2 ^ 64)) (fun _ _ h => of_decide_eq_true h) op_pow fun _ _ _ _ _ => .int _
/-! ### comparisons -/
def dLt : D2 := fun x y _ => match x, y with
  | .int i, .int j => some (.bl (decide (i < j)))
  | _, _ => none
def dLe : D2 := fun x y _ => match x, y with
  | .int i, .int j => some (.bl (decide (i ≤ j)))
  | _, _ => none
def dGt : D2 := fun x y _ => match x, y with
  | .int i, .int j => some (.bl (decide (j < i)))
  | _, _ => none
def dGe : D2 := fun x y _ => match x, y with
  | .int i, .int j => some (.bl (decide (j ≤ i)))
  | _, _ => none
theorem qop_lt : QOp X T (compareOp .Lt) dLt := qop_int0 op_lt fun _ _ _ _ _ => .bl _
theorem qop_le : QOp X T (compareOp .LtE) dLe := qop_int0 op_le fun _ _ _ _ _ => .bl _
theorem qop_gt : QOp X T (compareOp .Gt) dGt := qop_int0 op_gt fun _ _ _ _ _ => .bl _
theorem qop_ge : QOp X T (compareOp .GtE) dGe := qop_int0 op_ge fun _ _ _ _ _ => .bl _
/-- a value that may be compared -/
def D.cmp (d : D) : Bool := d.nc && SeqAt.shaped d.py
def dEq : D2 := fun x y _ => if x.cmp && y.cmp then some (.bl (PyData.eqv x.py y.py)) else none
def dNe : D2 := fun x y _ => if x.cmp && y.cmp then some (.bl (!PyData.eqv x.py y.py)) else none
theorem cmp_dp {K : PySem.W.Frag} {B : Addr → Prop} {Γ : List Addr} {H : Hp} {v : V} {d : D} (r : Rep K B Γ H v d) (h : d.cmp = true) : Dp K H v d.py ∧ SeqAt.shaped d.py = true :=
  ⟨r.dp (Bool.and_eq_true_iff.mp h).1, (Bool.and_eq_true_iff.mp h).2⟩
theorem qop_eq (hu : X.A.units + 100 < cLine) : QOp X T (compareOp .Eq) dEq := by
  refine ⟨_, op_eqD (by omega), fun x y dx dy d Γ C O H Q e w rx ry q => ?_⟩
  unfold dEq at e
  split at e
  · cases e
    rename_i h
    obtain ⟨h1, h2⟩ := Bool.and_eq_true_iff.mp h
    exact ⟨_, _, (cmp_dp rx h1).1, (cmp_dp ry h2).1, (cmp_dp rx h1).2, (cmp_dp ry h2).2, q _ H Ext.refl w (.bl _)⟩
  · cases e
theorem qop_ne (hu : X.A.units + 100 < cLine) : QOp X T (compareOp .NotEq) dNe := by
  refine ⟨_, op_neD (by omega), fun x y dx dy d Γ C O H Q e w rx ry q => ?_⟩
  unfold dNe at e
  split at e
  · cases e
    rename_i h
    obtain ⟨h1, h2⟩ := Bool.and_eq_true_iff.mp h
    exact ⟨_, _, (cmp_dp rx h1).1, (cmp_dp ry h2).1, (cmp_dp rx h1).2, (cmp_dp ry h2).2, q _ H Ext.refl w (.bl _)⟩
  · cases e
def dIs : D2 := fun x y _ => match x, y with
  | .non, .non => some (.bl true)
  | .opq _ _, _ => none
  | _, .non => some (.bl false)
  | _, _ => none
def dIsNot : D2 := fun x y _ => match x, y with
  | .non, .non => some (.bl false)
  | .opq _ _, _ => none
  | _, .non => some (.bl true)
  | _, _ => none
theorem qop_is : QOp X T (compareOp .Is) dIs := by
  refine ⟨_, op_isN, fun x y dx dy d Γ C O H Q e w rx ry q => ?_⟩
  unfold dIs at e
  split at e
  · cases rx; cases ry; cases e
    exact ⟨rfl, q _ H Ext.refl w (.bl _)⟩
  · cases e
  · rename_i hn ho
    cases ry; cases e
    refine ⟨rfl, q _ H Ext.refl w ?_⟩
    have hx : x ≠ .non := fun z => by
      subst z
      cases rx with
      | non => exact hn rfl
      | opq => exact ho _ _ rfl
    rw [decide_eq_false hx]
    exact .bl _
  · cases e
theorem qop_isnot : QOp X T (compareOp .IsNot) dIsNot := by
  refine ⟨_, op_notN, fun x y dx dy d Γ C O H Q e w rx ry q => ?_⟩
  unfold dIsNot at e
  split at e
  · cases rx; cases ry; cases e
    exact ⟨rfl, q _ H Ext.refl w (.bl _)⟩
  · cases e
  · rename_i hn ho
    cases ry; cases e
    refine ⟨rfl, q _ H Ext.refl w ?_⟩
    have hx : x ≠ .non := fun z => by
      subst z
      cases rx with
      | non => exact hn rfl
      | opq => exact ho _ _ rfl
    rw [decide_eq_false hx]
    exact .bl _
  · cases e
/-! ### in -/
def D.flat : D → Bool
  | .non => true
  | .bl _ => true
  | .int _ => true
  | .str _ => true
  | _ => false
theorem flat_eqV {K : PySem.W.Frag} {B : Addr → Prop} {Γ : List Addr} {H : Hp} {v w : V} {d e : D} (r : Rep K B Γ H v d) (q : Rep K B Γ H w e) (f : d.flat = true) (g : e.flat = true) : flatV v = true ∧ eqV v w = PyData.eqv d.py e.py := by
  cases r <;> cases q <;> first
    | (cases f; done)
    | (cases g; done)
    | exact ⟨rfl, rfl⟩
    | (refine ⟨rfl, ?_⟩; simp [eqV, D.py, PyData.eqv]; done)
theorem flat_all {K : PySem.W.Frag} {B : Addr → Prop} {Γ : List Addr} {H : Hp} {w : V} {e : D} (q : Rep K B Γ H w e) (g : e.flat = true) : ∀ {vs : List V} {ds : List D}, RepA K B Γ H vs ds → ds.all D.flat = true → vs.all flatV = true ∧ inV w vs = ds.any fun z => PyData.eqv z.py e.py
  | _, _, .nil, _ => ⟨rfl, rfl⟩
  | _, _, .cons r t, h => by
    rw [List.all_cons, Bool.and_eq_true] at h
    obtain ⟨h1, h2⟩ := flat_all q g t h.2
    obtain ⟨h3, h4⟩ := flat_eqV r q h.1 g
    refine ⟨by rw [List.all_cons, h3, h1]; rfl, ?_⟩
    show (eqV _ w || inV w _) = _
    rw [h2, List.any_cons, h4]
def strIn (a b : Str) : Bool := !(Builtin.Str.occurrences b a 0 b.length 1).isEmpty
def inD (x : D) (y : D) (C : Cells) : Option Bool := match y with
  | .tup ys => if x.flat && ys.all D.flat then some (ys.any fun z => PyData.eqv z.py x.py) else none
  | .str b => match x with
    | .str a => some (strIn a b)
    | _ => none
  | y => match y.seq C with
    | some ys => if x.cmp && (D.lst ys).cmp then some (ys.any fun z => PyData.eqv z.py x.py) else none
    | none => none
def dIn : D2 := fun x y C => (inD x y C).map D.bl
def dNotIn : D2 := fun x y C => (inD x y C).map fun b => .bl (!b)
theorem pys_map : ∀ xs : List D, D.pys xs = xs.map D.py
  | [] => rfl
  | x :: xs => by
    show x.py :: D.pys xs = _
    rw [pys_map xs]
    rfl
theorem any_pys (xs : List D) (f : PyData → Bool) : (D.pys xs).any f = xs.any fun z => f z.py := by
  rw [pys_map, List.any_map]
  rfl
theorem seq_dp {K : PySem.W.Frag} {T : List (Addr × Str)} {Γ : List Addr} {C : Cells} {O : Addr → Prop} {H : Hp} (w : WOk K T Γ C O H) {v : V} {d : D} {xs : List D} (r : Rep K (Bad Γ C O) Γ H v d) (e : d.seq C = some xs) (h : (D.lst xs).cmp = true) : Dp K H v (.list (D.pys xs)) := by
  obtain ⟨a, vs, rfl, h1, r1⟩ := r.seq w e
  have hn : D.ncs xs = true := (Bool.and_eq_true_iff.mp h).1
  have r2 : Rep K (fun _ => False) [] H (.ref a) (.lst xs) := .lst (fun z => z) h1 (r1.anyB (fun _ z => z.elim) hn)
  exact r2.dp hn
theorem qop_in (hu : X.A.units + 100 < cLine) : QOp X T (compareOp .In) dIn := by
  refine ⟨_, (op_in_seq.or op_in_str).or (op_inD (by omega)), fun x y dx dy d Γ C O H Q e w rx ry q => ?_⟩
  unfold dIn inD at e
  split at e
  · split at e
    · cases e
      rename_i h
      obtain ⟨h1, h2⟩ := Bool.and_eq_true_iff.mp h
      cases ry with
      | @tup a vs _ s1 r1 =>
        obtain ⟨f1, f2⟩ := flat_all rx h1 r1 h2
        have fx : flatV x = true := (flat_eqV rx rx h1 h1).1
        exact .inl (.inl ⟨a, vs, rfl, .inr s1, fx, f1, by rw [if_neg (by decide), f2]; exact q _ H Ext.refl w (.bl _)⟩)
    · cases e
  · split at e
    · cases e
      cases rx; cases ry
      exact .inl (.inr ⟨_, _, rfl, rfl, q _ H Ext.refl w (.bl _)⟩)
    · cases e
  · split at e
    · split at e
      · cases e
        rename_i ys es h
        obtain ⟨h1, h2⟩ := Bool.and_eq_true_iff.mp h
        refine .inr ⟨_, _, (cmp_dp rx h1).1, seq_dp w ry es h2, (cmp_dp rx h1).2, (Bool.and_eq_true_iff.mp h2).2, ?_⟩
        rw [any_pys]
        exact q _ H Ext.refl w (.bl _)
      · cases e
    · cases e
theorem qop_notin (hu : X.A.units + 100 < cLine) : QOp X T (compareOp .NotIn) dNotIn := by
  refine ⟨_, (op_notIn_seq.or op_notIn_str).or (op_notInD (by omega)), fun x y dx dy d Γ C O H Q e w rx ry q => ?_⟩
  unfold dNotIn inD at e
  split at e
  · split at e
    · cases e
      rename_i h
      obtain ⟨h1, h2⟩ := Bool.and_eq_true_iff.mp h
      cases ry with
      | @tup a vs _ s1 r1 =>
        obtain ⟨f1, f2⟩ := flat_all rx h1 r1 h2
        have fx : flatV x = true := (flat_eqV rx rx h1 h1).1
        exact .inl (.inl ⟨a, vs, rfl, .inr s1, fx, f1, by rw [if_pos rfl, f2]; exact q _ H Ext.refl w (.bl _)⟩)
    · cases e
  · split at e
    · cases e
      cases rx; cases ry
      exact .inl (.inr ⟨_, _, rfl, rfl, q _ H Ext.refl w (.bl _)⟩)
    · cases e
  · split at e
    · split at e
      · cases e
        rename_i ys es h
        obtain ⟨h1, h2⟩ := Bool.and_eq_true_iff.mp h
        refine .inr ⟨_, _, (cmp_dp rx h1).1, seq_dp w ry es h2, (cmp_dp rx h1).2, (Bool.and_eq_true_iff.mp h2).2, ?_⟩
        rw [any_pys]
        exact q _ H Ext.refl w (.bl _)
      · cases e
    · cases e
end
end Qv

/-! ## Q3 -/
set_option Elab.async false
set_option linter.all false
set_option maxRecDepth 100000
/-! Q3: tests, subscripts, slices, displays, built-ins. -/
namespace Qv
open PySem PySem.Spec PyProof.Rows L2

section
variable {X : Cx} {T : List (Addr × Str)} {EX : XK}
/-! ### one value through a rule that lays at most new things -/
def eMap (g : D → Cells → Option D) (f : DE) : DE := fun ρ C => (f ρ C).bind fun x C => match g x C with
  | some d => .ok d C
  | none => .stuck
abbrev R1 := V → Hp → VK → Prop
def Q1R (X : Cx) (T : List (Addr × Str)) (r : R1) (g : D → Cells → Option D) : Prop :=
  ∀ x dx d Γ C O H (Q : VK), g dx C = some d → WOk X.K T Γ C O H → Rep X.K (Bad Γ C O) Γ H x dx →
    (∀ v H', Ext Γ C H Γ C H' → WOk X.K T Γ C O H' → Rep X.K (Bad Γ C O) Γ H' v d → Q v H') → r x H Q
theorem tMap_ok {r : R1} {g : D → Cells → Option D} {f : DE} (h : Q1R X T r g) {σ : L2.St} {H : Hp} {Q : VK} (q : tE X.K T EX (eMap g f) σ H Q) : tE X.K T EX f σ H (fun x H1 => r x H1 Q) := by
  obtain ⟨ρ, Γ, C, O, w, s, p⟩ := q
  refine ⟨ρ, Γ, C, O, w, s, PostG.bind p fun d C1 v H1 Γ1 x1 w1 r1 p1 => ?_⟩
  cases e : g d C1 with
  | none => rw [e] at p1; exact p1.elim
  | some d2 =>
    rw [e] at p1
    exact h v d d2 Γ1 C1 O H1 Q e w1 r1 fun v3 H3 x3 w3 r3 => p1 v3 H3 Γ1 x3 w3 r3

/-! ### truth -/
def truD (C : Cells) : D → Option Bool
  | .non => some false
  | .bl b => some b
  | .int i => some (i != 0)
  | .str y => if y.length ≤ sizeLine then some ((y.length : Int) != 0) else none
  | .tup xs => some (!xs.isEmpty)
  | d => (d.seq C).map fun xs => !xs.isEmpty
theorem emp_of {K : PySem.W.Frag} {B : Addr → Prop} {Γ : List Addr} {H : Hp} {vs : List V} {ds : List D} (r : RepA K B Γ H vs ds) : vs.isEmpty = ds.isEmpty := by cases r <;> rfl
theorem tru_of {K : PySem.W.Frag} {Γ : List Addr} {C : Cells} {O : Addr → Prop} {H : Hp} {v : V} {d : D} {b : Bool} (w : WOk K T Γ C O H) (r : Rep K (Bad Γ C O) Γ H v d) (e : truD C d = some b) : TruV K v H b := by
  have hs : ∀ xs, d.seq C = some xs → b = !xs.isEmpty → TruV K v H b := fun xs e1 e2 => by
    obtain ⟨a, vs, rfl, h1, r1⟩ := r.seq w e1
    exact .inl ⟨vs, .inl (.inl h1), by rw [emp_of r1]; exact e2⟩
  have hd : ((d.seq C).map fun xs => !xs.isEmpty) = some b → TruV K v H b := fun e => by
    obtain ⟨xs, e1, e2⟩ := Option.map_eq_some_iff.mp e
    exact hs xs e1 e2.symm
  cases r with
  | non => cases e; rfl
  | bl => cases e; rfl
  | int => cases e; rfl
  | str x =>
    have e' : (if x.length ≤ sizeLine then some ((x.length : Int) != 0) else none) = some b := e
    split at e'
    · cases e'
      exact ⟨by assumption, rfl⟩
    · cases e'
  | tup s1 r1 =>
    cases e
    exact .inr (.inl ⟨_, s1, by rw [emp_of r1]⟩)
  | lst nb e1 r1 => exact hd e
  | cel e1 => exact hd e
  | opq => exact hd e
  | flst => exact hd e
def bTru (f : DE) : DB := fun ρ C => (f ρ C).bind fun x C => match truD C x with
  | some b => .ok b C
  | none => .stuck
theorem qt_val {e : Expr} {f : DE} (h : QE X T EX e f) (he : ∀ whole, isTrue e X.env whole = (do let v ← whole; standAt e.pos; holding [v] (truthy v)) := by intro _; rfl) : QT X T EX e (bTru f) :=
  PT.weak (pt_truth h he) fun σ H Q q => by
    obtain ⟨ρ, Γ, C, O, w, s, p⟩ := q
    refine ⟨ρ, Γ, C, O, w, s, PostG.bind p fun d C1 v H1 Γ1 x1 w1 r1 p1 => ?_⟩
    cases e : truD C1 d with
    | none => rw [e] at p1; exact p1.elim
    | some b =>
      rw [e] at p1
      exact ⟨b, tru_of w1 r1 e, p1 b H1 Γ1 Ext.refl w1 rfl⟩
def bNot (f : DB) : DB := fun ρ C => (f ρ C).bind fun b C => .ok (!b) C
def bAnd (f g : DB) : DB := fun ρ C => (f ρ C).bind fun b C => if b = true then g ρ C else .ok false C
def bOr (f g : DB) : DB := fun ρ C => (f ρ C).bind fun b C => if b = true then .ok true C else g ρ C
theorem qt_not {a : Expr} {f : DB} {pos : Pos} (h : QT X T EX a f) : QT X T EX (.UnaryOp .Not a pos) (bNot f) := PT.weak (pt_not h) fun σ H Q q => by
  obtain ⟨ρ, Γ, C, O, w, s, p⟩ := q
  refine ⟨ρ, Γ, C, O, w, s, PostG.bind p fun d C1 v H1 Γ1 x1 w1 r1 p1 => ?_⟩
  subst r1
  exact p1 _ H1 Γ1 Ext.refl w1 rfl
theorem QW.qt {e : Expr} {f : DB} (h : QW X T EX e f) : QT X T EX e f := PW.pt h
theorem qw_and1 {a : Expr} {f : DB} {pos : Pos} (h : QT X T EX a f) : QW X T EX (.BoolOp .And [a] pos) f := pw_and1 h
theorem qw_or1 {a : Expr} {f : DB} {pos : Pos} (h : QT X T EX a f) : QW X T EX (.BoolOp .Or [a] pos) f := pw_or1 h
theorem qw_and {a b : Expr} {rest : List Expr} {f g : DB} {pos : Pos} (h : QT X T EX a f) (h2 : QW X T EX (.BoolOp .And (b :: rest) pos) g) : QW X T EX (.BoolOp .And (a :: b :: rest) pos) (bAnd f g) :=
  PW.weak (pw_and h h2) fun σ H Q q => by
    obtain ⟨ρ, Γ, C, O, w, s, p⟩ := q
    refine ⟨ρ, Γ, C, O, w, s, PostG.bind p fun d C1 v H1 Γ1 x1 w1 r1 p1 => ?_⟩
    subst r1
    cases v with
    | true => exact ⟨ρ, Γ1, C1, O, w1, s.ext w x1, p1⟩
    | false => exact p1 _ H1 Γ1 Ext.refl w1 rfl
theorem qw_or {a b : Expr} {rest : List Expr} {f g : DB} {pos : Pos} (h : QT X T EX a f) (h2 : QW X T EX (.BoolOp .Or (b :: rest) pos) g) : QW X T EX (.BoolOp .Or (a :: b :: rest) pos) (bOr f g) :=
  PW.weak (pw_or h h2) fun σ H Q q => by
    obtain ⟨ρ, Γ, C, O, w, s, p⟩ := q
    refine ⟨ρ, Γ, C, O, w, s, PostG.bind p fun d C1 v H1 Γ1 x1 w1 r1 p1 => ?_⟩
    subst r1
    cases v with
    | true => exact p1 _ H1 Γ1 Ext.refl w1 rfl
    | false => exact ⟨ρ, Γ1, C1, O, w1, s.ext w x1, p1⟩
/-! ### and, or, not as values -/
def eAnd (f g : DE) : DE := fun ρ C => (f ρ C).bind fun x C => match truD C x with
  | some true => g ρ C
  | some false => .ok x C
  | none => .stuck
def eOr (f g : DE) : DE := fun ρ C => (f ρ C).bind fun x C => match truD C x with
  | some true => .ok x C
  | some false => g ρ C
  | none => .stuck
theorem qe_one {op : BoolOp} {a : Expr} {f : DE} {pos : Pos} (h : QE X T EX a f) : QE X T EX (.BoolOp op [a] pos) f := pe_one h
theorem qe_and {a b : Expr} {rest : List Expr} {f g : DE} {pos : Pos} (h : QE X T EX a f) (h2 : QE X T EX (.BoolOp .And (b :: rest) pos) g) : QE X T EX (.BoolOp .And (a :: b :: rest) pos) (eAnd f g) :=
  PE.weak (pe_andT h h2) fun σ H Q q => by
    obtain ⟨ρ, Γ, C, O, w, s, p⟩ := q
    refine ⟨ρ, Γ, C, O, w, s, PostG.bind p fun d C1 v H1 Γ1 x1 w1 r1 p1 => ?_⟩
    cases e : truD C1 d with
    | none => rw [e] at p1; exact p1.elim
    | some b =>
      rw [e] at p1
      refine ⟨b, tru_of w1 r1 e, ?_⟩
      cases b with
      | true => exact iteT ⟨ρ, Γ1, C1, O, w1, s.ext w x1, p1⟩
      | false => exact iteF (p1 _ H1 Γ1 Ext.refl w1 r1)
theorem qe_or {a b : Expr} {rest : List Expr} {f g : DE} {pos : Pos} (h : QE X T EX a f) (h2 : QE X T EX (.BoolOp .Or (b :: rest) pos) g) : QE X T EX (.BoolOp .Or (a :: b :: rest) pos) (eOr f g) :=
  PE.weak (pe_orT h h2) fun σ H Q q => by
    obtain ⟨ρ, Γ, C, O, w, s, p⟩ := q
    refine ⟨ρ, Γ, C, O, w, s, PostG.bind p fun d C1 v H1 Γ1 x1 w1 r1 p1 => ?_⟩
    cases e : truD C1 d with
    | none => rw [e] at p1; exact p1.elim
    | some b =>
      rw [e] at p1
      refine ⟨b, tru_of w1 r1 e, ?_⟩
      cases b with
      | true => exact iteT (p1 _ H1 Γ1 Ext.refl w1 r1)
      | false => exact iteF ⟨ρ, Γ1, C1, O, w1, s.ext w x1, p1⟩
theorem qe_not {a : Expr} {f : DE} {pos : Pos} (h : QE X T EX a f) : QE X T EX (.UnaryOp .Not a pos) (eMap (fun x C => (truD C x).map fun b => .bl (!b)) f) :=
  PE.weak (pe_notT h) fun σ H Q q => tMap_ok (r := fun x H1 Q => ∃ k, TruV X.K x H1 k ∧ Q (.bl (!k)) H1) (fun x dx d Γ C O H Q e w r k => by
    obtain ⟨b, e1, e2⟩ := Option.map_eq_some_iff.mp e
    subst e2
    exact ⟨b, tru_of w r e1, k _ H Ext.refl w (.bl _)⟩) q
def numNeg : D → Cells → Option D := fun x _ => match x with
  | .int i => some (.int (-i))
  | _ => none
theorem qe_neg {a : Expr} {f : DE} {pos : Pos} (h : QE X T EX a f) : QE X T EX (.UnaryOp .USub a pos) (eMap numNeg f) :=
  PE.weak (pe_un un_neg h) fun σ H Q q => tMap_ok (r := rU fun i => .int (-i)) (fun x dx d Γ C O H Q e w r k => by
    unfold numNeg at e
    split at e
    · cases e; cases r
      exact ⟨_, rfl, k _ H Ext.refl w (.int _)⟩
    · cases e) q
def eIf (c : DB) (f g : DE) : DE := fun ρ C => (c ρ C).bind fun b C => if b = true then f ρ C else g ρ C
theorem qe_if {c a b : Expr} {fc : DB} {f g : DE} {pos : Pos} (hc : QT X T EX c fc) (ha : QE X T EX a f) (hb : QE X T EX b g) : QE X T EX (.IfExp c a b pos) (eIf fc f g) :=
  PE.weak (pe_ifExp hc ha hb) fun σ H Q q => by
    obtain ⟨ρ, Γ, C, O, w, s, p⟩ := q
    refine ⟨ρ, Γ, C, O, w, s, PostG.bind p fun d C1 v H1 Γ1 x1 w1 r1 p1 => ?_⟩
    subst r1
    cases v with
    | true => exact iteT ⟨ρ, Γ1, C1, O, w1, s.ext w x1, p1⟩
    | false => exact iteF ⟨ρ, Γ1, C1, O, w1, s.ext w x1, p1⟩
/-! ### chains -/
def eChain (g g' : D2) (f1 f2 f3 : DE) : DE := fun ρ C => (f1 ρ C).bind fun x C => (f2 ρ C).bind fun y C => match g x y C with
  | some (.bl true) => (f3 ρ C).bind fun z C => match g' y z C with
    | some d => .ok d C
    | none => .stuck
  | some (.bl false) => .ok (.bl false) C
  | _ => .stuck
theorem tChain_ok {r r' : R2} {g g' : D2} {f1 f2 f3 : DE}
    (hr : ∀ x y dx dy d Γ C O H (Q : VK), g dx dy C = some d → WOk X.K T Γ C O H → Rep X.K (Bad Γ C O) Γ H x dx → Rep X.K (Bad Γ C O) Γ H y dy →
      (∀ v H', Ext Γ C H Γ C H' → WOk X.K T Γ C O H' → Rep X.K (Bad Γ C O) Γ H' v d → Q v H') → r x y H Q)
    (hr' : ∀ x y dx dy d Γ C O H (Q : VK), g' dx dy C = some d → WOk X.K T Γ C O H → Rep X.K (Bad Γ C O) Γ H x dx → Rep X.K (Bad Γ C O) Γ H y dy →
      (∀ v H', Ext Γ C H Γ C H' → WOk X.K T Γ C O H' → Rep X.K (Bad Γ C O) Γ H' v d → Q v H') → r' x y H Q) {σ : L2.St} {H : Hp} {Q : VK} (q : tE X.K T EX (eChain g g' f1 f2 f3) σ H Q) :
    tChain r r' (tE X.K T EX f1) (tE X.K T EX f2) (tE X.K T EX f3) σ H Q := by
  obtain ⟨ρ, Γ, C, O, w, s, p⟩ := q
  refine ⟨ρ, Γ, C, O, w, s, PostG.bind p fun d C1 v H1 Γ1 x1 w1 r1 p1 => ?_⟩
  refine ⟨ρ, Γ1, C1, O, w1, s.ext w x1, PostG.bind p1 fun d2 C2 v2 H2 Γ2 x2 w2 r2 p2 => ?_⟩
  cases e : g d d2 C2 with
  | none => rw [e] at p2; exact p2.elim
  | some d3 =>
    rw [e] at p2
    refine hr v v2 d d2 d3 Γ2 C2 O H2 _ e w2 (r1.ext w1 x2) r2 fun v3 H3 x3 w3 r3 => ?_
    have p3 := PostG.shift x3 p2
    cases r3 with
    | bl b =>
      refine ⟨b, rfl, ?_⟩
      cases b with
      | true =>
        refine iteT ⟨ρ, Γ2, C2, O, w3, (((s.ext w x1).ext w1 x2).ext w2 x3), PostG.bind p3 fun d4 C4 v4 H4 Γ4 x4 w4 r4 p4 => ?_⟩
        cases e2 : g' d2 d4 C4 with
        | none => rw [e2] at p4; exact p4.elim
        | some d5 =>
          rw [e2] at p4
          exact hr' v2 v4 d2 d4 d5 Γ4 C4 O H4 Q e2 w4 ((r2.ext w2 x3).ext w3 x4) r4 fun v5 H5 x5 w5 r5 => p4 v5 H5 Γ4 x5 w5 r5
      | false => exact iteF (p3 _ H3 Γ2 Ext.refl w3 (.bl _))
    | _ => exact p3.elim
theorem qe_chain {op op' : CmpOp} {g g' : D2} {a b c : Expr} {f1 f2 f3 : DE} {pos : Pos} (ho : QOp X T (compareOp op) g) (ho' : QOp X T (compareOp op') g') (ha : QE X T EX a f1) (hb : QE X T EX b f2) (hc : QE X T EX c f3)
    (hm : lastMarks [op, op'] [b, c] = false := by with_unfolding_all rfl) : QE X T EX (.Compare a [op, op'] [b, c] pos) (eChain g g' f1 f2 f3) := by
  obtain ⟨r, h1, h2⟩ := ho
  obtain ⟨r', h1', h2'⟩ := ho'
  exact PE.weak (pe_chain h1 h1' ha hb hc hm) fun σ H Q => tChain_ok h2 h2'
/-! ### subscripts -/
def strAt (z : Str) (i : Int) : Option D := if z.length ≤ sizeLine then (atI z.cps.toList i).map fun c => .str ⟨#[c]⟩ else none
def dIx : D2 := fun x y C => match y with
  | .int i => match x with
    | .tup xs => atI xs i
    | .str z => strAt z i
    | x => (x.seq C).bind fun xs => atI xs i
  | _ => none
theorem atI_rep {K : PySem.W.Frag} {B : Addr → Prop} {Γ : List Addr} {H : Hp} {vs : List V} {ds : List D} (r : RepA K B Γ H vs ds) {i : Int} {d : D} (e : atI ds i = some d) : ∃ v, atI vs i = some v ∧ Rep K B Γ H v d := by
  unfold atI at e ⊢
  rw [r.length]
  cases q : ixN ds.length i with
  | none => rw [q] at e; cases e
  | some j =>
    rw [q] at e
    obtain ⟨v, h1, h2⟩ := r.get (i := j) e
    exact ⟨v, h1, h2⟩
theorem qe_ix {a b : Expr} {f1 f2 : DE} {pos : Pos} (ha : QE X T EX a f1) (hb : QE X T EX b f2) (hs : PlainIx b := by exact fun _ _ => rfl) : QE X T EX (.Subscript a b pos) (eOp dIx f1 f2) :=
  PE.weak (pe_ix ix_seq ha hb hs) fun σ H Q => tOp_ok (f := fun _ _ => pure .none) (r := rIx X.K) fun x y dx dy d Γ C O H Q e w rx ry q => by
    have hseq : ∀ xs i, dx.seq C = some xs → y = .int i → atI xs i = some d → rIx X.K x y H Q := fun xs i e1 ey e2 => by
      obtain ⟨a, vs, rfl, h1, r1⟩ := rx.seq w e1
      obtain ⟨v, h2, r2⟩ := atI_rep r1 e2
      exact .inl ⟨a, vs, i, v, rfl, ey, SqL.of h1, h2, q v H Ext.refl w r2⟩
    unfold dIx at e
    split at e
    · cases ry
      split at e
      · cases rx with
        | tup s1 r1 =>
          obtain ⟨v, h2, r2⟩ := atI_rep r1 e
          exact .inr (.inl ⟨_, _, _, v, rfl, rfl, s1, h2, q v H Ext.refl w r2⟩)
      · cases rx
        unfold strAt at e
        split at e
        · obtain ⟨c, e1, e2⟩ := Option.map_eq_some_iff.mp e
          subst e2
          exact .inr (.inr ⟨_, _, c, rfl, rfl, by assumption, e1, q _ H Ext.refl w (.str _)⟩)
        · cases e
      · obtain ⟨xs, e1, e2⟩ := Option.bind_eq_some_iff.mp e
        exact hseq xs _ e1 rfl e2
    · cases e
/-! ### slices -/
abbrev DO := Env → Cells → Out (Option Int)
abbrev relO : (Addr → Prop) → List Addr → Hp → Option Int → Option Int → Prop := fun _ _ _ a b => a = b
def tO (K : PySem.W.Frag) (T : List (Addr × Str)) (EX : XK) (f : DO) : TO := fun σ H Q => ∃ ρ Γ C O, WOk K T Γ C O H ∧ SlotsOk K (Bad Γ C O) Γ H σ ρ ∧ PostG K T EX O Γ C H relO (f ρ C) Q
def QO (X : Cx) (T : List (Addr × Str)) (EX : XK) (e : Option Expr) (f : DO) : Prop := PO X e (tO X.K T EX f)
theorem PO.weak {X : Cx} {e : Option Expr} {t t' : TO} (h : PO X e t) (k : ∀ σ H Q, t' σ H Q → t σ H Q) : PO X e t' := ⟨fun pins s σ H Q I hw => h.run pins s σ H Q I (k _ _ _ hw)⟩
def oNone : DO := fun _ C => .ok none C
def oSome (f : DE) : DO := fun ρ C => (f ρ C).bind fun x C => match x with
  | .int i => .ok (some i) C
  | _ => .stuck
theorem qo_none : QO X T EX none oNone := PO.weak po_none fun σ H Q q => by
  obtain ⟨ρ, Γ, C, O, w, s, p⟩ := q
  exact p none H Γ Ext.refl w rfl
theorem qo_some {e : Expr} {f : DE} (h : QE X T EX e f) : QO X T EX (some e) (oSome f) := PO.weak (po_some h) fun σ H Q q => by
  obtain ⟨ρ, Γ, C, O, w, s, p⟩ := q
  refine ⟨ρ, Γ, C, O, w, s, PostG.bind p fun d C1 v H1 Γ1 x1 w1 r1 p1 => ?_⟩
  cases r1 with
  | int i => exact ⟨i, rfl, p1 (some i) H1 Γ1 Ext.refl w1 rfl⟩
  | _ => exact p1.elim
def cutG {α : Type} (xs : List α) (lo hi : Option Int) : List α := (xs.drop (HT.sIx xs.length 0 lo)).take (HT.sIx xs.length xs.length hi - HT.sIx xs.length 0 lo)
def cutD (x : D) (lo hi : Option Int) (C : Cells) : Option D := match x with
  | .tup xs => some (.tup (cutG xs lo hi))
  | .str z => if z.length ≤ sizeLine then some (.str (cutS z lo hi)) else none
  | x => (x.seq C).map fun xs => .lst (cutG xs lo hi)
theorem RepA.cut {K : PySem.W.Frag} {B : Addr → Prop} {Γ : List Addr} {H : Hp} {vs : List V} {ds : List D} (r : RepA K B Γ H vs ds) (lo hi : Option Int) : RepA K B Γ H (cutV vs lo hi) (cutG ds lo hi) := by
  unfold cutV cutG
  rw [r.length]
  exact (r.drop _).take _
def eSlice (f : DE) (l u : DO) : DE := fun ρ C => (f ρ C).bind fun x C => (l ρ C).bind fun lo C => (u ρ C).bind fun hi C => match cutD x lo hi C with
  | some d => .ok d C
  | none => .stuck
theorem cut_whole {α : Type} (xs : List α) (lo hi : Option Int) (h : HT.sIx xs.length 0 lo = 0 ∧ HT.sIx xs.length xs.length hi = xs.length) : cutG xs lo hi = xs := by
  unfold cutG
  rw [h.1, h.2]
  simp
theorem qe_slice {a : Expr} {lo hi : Option Expr} {f : DE} {l u : DO} {pos p2 : Pos} (ha : QE X T EX a f) (hl : QO X T EX lo l) (hu : QO X T EX hi u) : QE X T EX (.Subscript a (.Slice lo hi none p2) pos) (eSlice f l u) :=
  PE.weak (pe_slice ((sl_list.or sl_tupA).or sl_str) ha hl hu) fun σ H Q q => by
    obtain ⟨ρ, Γ, C, O, w, s, p⟩ := q
    refine ⟨ρ, Γ, C, O, w, s, PostG.bind p fun d C1 v H1 Γ1 x1 w1 r1 p1 => ?_⟩
    refine ⟨ρ, Γ1, C1, O, w1, s.ext w x1, PostG.bind p1 fun o2 C2 v2 H2 Γ2 x2 w2 r2 p2 => ?_⟩
    refine ⟨ρ, Γ2, C2, O, w2, (s.ext w x1).ext w1 x2, PostG.bind p2 fun o3 C3 v3 H3 Γ3 x3 w3 r3 p3 => ?_⟩
    subst r2 r3
    have r1' := (r1.ext w1 x2).ext w2 x3
    cases e : cutD d v2 v3 C3 with
    | none => rw [e] at p3; exact p3.elim
    | some d2 =>
      rw [e] at p3
      have hseq : ((d.seq C3).map fun xs => D.lst (cutG xs v2 v3)) = some d2 → rSlL X.K v v2 v3 H3 Q := fun e => by
        obtain ⟨xs, e1, e2⟩ := Option.map_eq_some_iff.mp e
        subst e2
        obtain ⟨a, vs, rfl, h1, ra⟩ := r1'.seq w3 e1
        exact ⟨a, vs, rfl, SqL.of h1, fun p hp => p3 _ _ _ (ext_new hp) (w3.new hp) (rep_lst w3 hp (ra.cut v2 v3))⟩
      cases r1' with
      | @tup a vs ds s1 ra =>
        cases e
        have hr : RepA X.K (Bad Γ3 C3 O) Γ3 H3 (cutV vs v2 v3) (cutG ds v2 v3) := ra.cut v2 v3
        refine .inl (.inr ⟨a, vs, rfl, s1, fun hw => ?_, fun _ p hp => p3 _ _ _ (ext_new hp) (w3.new hp) (rep_tup w3 hp hr)⟩)
        rw [ra.length] at hw
        refine p3 _ H3 _ Ext.refl w3 ?_
        rw [cut_whole _ _ _ hw]
        exact .tup s1 ra
      | str z =>
        have e' : (if z.length ≤ sizeLine then some (D.str (cutS z v2 v3)) else none) = some d2 := e
        split at e'
        · cases e'
          exact .inr ⟨z, rfl, by assumption, p3 _ H3 _ Ext.refl w3 (.str _)⟩
        · cases e'
      | lst nb e1 ra => exact .inl (.inl (hseq e))
      | cel e1 => exact .inl (.inl (hseq e))
      | non => cases e
      | bl => cases e
      | int => cases e
      | opq => cases e
      | flst => cases e
end
end Qv

/-! ## Q4 -/
set_option Elab.async false
set_option linter.all false
set_option maxRecDepth 100000
/-! Q4: calls of built-ins, displays, sorted. -/
namespace Qv
open PySem PySem.Spec PyProof.Rows L2

section
variable {X : Cx} {T : List (Addr × Str)} {EX : XK}
def eCall (g : List D → Cells → Option D) (f : DA) : DE := fun ρ C => (f ρ C).bind fun xs C => match g xs C with
  | some d => .ok d C
  | none => .stuck
abbrev RN := List V → Hp → VK → Prop
def QNR (X : Cx) (T : List (Addr × Str)) (r : RN) (g : List D → Cells → Option D) : Prop :=
  ∀ vs ds d Γ C O H (Q : VK), g ds C = some d → WOk X.K T Γ C O H → RepA X.K (Bad Γ C O) Γ H vs ds →
    (∀ v H', Ext Γ C H Γ C H' → WOk X.K T Γ C O H' → Rep X.K (Bad Γ C O) Γ H' v d → Q v H') → r vs H Q
theorem tCall_ok {r : RN} {g : List D → Cells → Option D} {f : DA} (h : QNR X T r g) {σ : L2.St} {H : Hp} {Q : VK} (q : tE X.K T EX (eCall g f) σ H Q) : tCB r (tA X.K T EX f) σ H Q := by
  obtain ⟨ρ, Γ, C, O, w, s, p⟩ := q
  refine ⟨ρ, Γ, C, O, w, s, PostG.bind p fun d C1 v H1 Γ1 x1 w1 r1 p1 => ?_⟩
  cases e : g d C1 with
  | none => rw [e] at p1; exact p1.elim
  | some d2 =>
    rw [e] at p1
    exact h v d d2 Γ1 C1 O H1 Q e w1 r1 fun v3 H3 x3 w3 r3 => p1 v3 H3 Γ1 x3 w3 r3
def QCall (X : Cx) (T : List (Addr × Str)) (f : Value) (g : List D → Cells → Option D) : Prop := ∃ r, CallR X f r ∧ QNR X T r g
theorem qe_callB {id : String} {x : Str} {g : List D → Cells → Option D} {e : Expr} {es : List Expr} {f : DA} {p pos : Pos} (h : QCall X T (.builtin id) g) (hg : Gl X x) (hm : X.mg x = none) (hv : bootBuiltins x = some (.builtin id)) (ha : QA X T EX (e :: es) f) (hn : x ≠ "__name__" := by decide) (hdb : (x == ("__debug__" : Str)) = false := by decide)
    (he : starEach (e :: es) X.env = (false, eval e X.env) :: starEach es X.env := by rfl) (hpl : (backTo pos (starEach es X.env)).any (·.1) = false := by rfl) : QE X T EX (.Call (.Name x p) (e :: es) [] pos) (eCall g f) := by
  obtain ⟨r, h1, h2⟩ := h
  exact PE.weak (pe_callB h1 hg hm hv ha hn hdb he hpl) fun σ H Q => tCall_ok h2
theorem qe_callTy {id : String} {x : Str} {g : List D → Cells → Option D} {e : Expr} {es : List Expr} {f : DA} {p pos : Pos} (h : QCall X T (.type id) g) (hg : Gl X x) (hm : X.mg x = none) (hv : bootBuiltins x = some (.type id)) (ha : QA X T EX (e :: es) f) (hn : x ≠ "__name__" := by decide) (hdb : (x == ("__debug__" : Str)) = false := by decide)
    (he : starEach (e :: es) X.env = (false, eval e X.env) :: starEach es X.env := by rfl) (hpl : (backTo pos (starEach es X.env)).any (·.1) = false := by rfl) : QE X T EX (.Call (.Name x p) (e :: es) [] pos) (eCall g f) := by
  obtain ⟨r, h1, h2⟩ := h
  exact PE.weak (pe_callTy h1 hg hm hv ha hn hdb he hpl) fun σ H Q => tCall_ok h2

theorem rep1 {K : PySem.W.Frag} {B : Addr → Prop} {Γ : List Addr} {H : Hp} {vs : List V} {d : D} (r : RepA K B Γ H vs [d]) : ∃ v, vs = [v] ∧ Rep K B Γ H v d := by
  cases r with
  | cons a b => cases b; exact ⟨_, rfl, a⟩
theorem rep2 {K : PySem.W.Frag} {B : Addr → Prop} {Γ : List Addr} {H : Hp} {vs : List V} {d e : D} (r : RepA K B Γ H vs [d, e]) : ∃ v w, vs = [v, w] ∧ Rep K B Γ H v d ∧ Rep K B Γ H w e := by
  cases r with
  | cons a b =>
    cases b with
    | cons c z => cases z; exact ⟨_, _, rfl, a, c⟩
/-- a function of one argument's value -/
def fn1 (g : D → Cells → Option D) : List D → Cells → Option D := fun xs C => match xs with
  | [x] => g x C
  | _ => none
def fn2 (g : D → D → Cells → Option D) : List D → Cells → Option D := fun xs C => match xs with
  | [x, y] => g x y C
  | _ => none
theorem qn1 {r : R1} {g : D → Cells → Option D} (h : Q1R X T r g) : QNR X T (fun vs H Q => ∃ v, vs = [v] ∧ r v H Q) (fn1 g) := fun vs ds d Γ C O H Q e w rs q => by
  unfold fn1 at e
  split at e
  · obtain ⟨v, rfl, rv⟩ := rep1 rs
    exact ⟨v, rfl, h v _ d Γ C O H Q e w rv q⟩
  · cases e
/-! ### len, int, abs, str -/
def lenD (d : D) (C : Cells) : Option D := match d with
  | .tup xs => some (.int xs.length)
  | .str z => if z.length ≤ sizeLine then some (.int z.length) else none
  | d => (d.seq C).map fun xs => .int xs.length
theorem qcall_len : QCall X T (.builtin "len") (fn1 lenD) := by
  refine ⟨_, call_len, fun vs ds d Γ C O H Q e w rs q => ?_⟩
  unfold fn1 at e
  split at e
  · obtain ⟨v, rfl, rv⟩ := rep1 rs
    rename_i x
    have hd : ((x.seq C).map fun xs => D.int xs.length) = some d → ∃ y n, [v] = [y] ∧ LenV X.K y H n ∧ Q (.int n) H := fun e => by
      obtain ⟨xs, e1, e2⟩ := Option.map_eq_some_iff.mp e
      subst e2
      obtain ⟨a, ws, rfl, h1, r1⟩ := rv.seq w e1
      exact ⟨_, ws.length, rfl, .inl ⟨ws, SqL.of h1, rfl⟩, by rw [r1.length]; exact q _ H Ext.refl w (.int _)⟩
    cases rv with
    | tup s1 r1 => cases e; exact ⟨_, _, rfl, .inr ⟨_, s1, rfl⟩, by rw [r1.length]; exact q _ H Ext.refl w (.int _)⟩
    | str z =>
      have e' : (if z.length ≤ sizeLine then some (D.int z.length) else none) = some d := e
      split at e'
      · cases e'
        exact ⟨_, _, rfl, ⟨by assumption, rfl⟩, q _ H Ext.refl w (.int _)⟩
      · cases e'
    | lst nb e1 r1 => exact hd e
    | cel e1 => exact hd e
    | non => cases e
    | bl => cases e
    | int => cases e
    | opq => cases e
    | flst => cases e
  · cases e
def intD (d : D) (_ : Cells) : Option D := match d with
  | .int i => some (.int i)
  | .bl b => some (.int (if b then 1 else 0))
  | _ => none
theorem qcall_int : QCall X T (.type "int") (fn1 intD) := by
  refine ⟨_, call_int1, fun vs ds d Γ C O H Q e w rs q => ?_⟩
  unfold fn1 at e
  split at e
  · obtain ⟨v, rfl, rv⟩ := rep1 rs
    unfold intD at e
    split at e
    · cases rv; cases e
      exact .inl ⟨_, rfl, q _ H Ext.refl w (.int _)⟩
    · cases rv; cases e
      exact .inr ⟨_, rfl, q _ H Ext.refl w (.int _)⟩
    · cases e
  · cases e
def absD (d : D) (_ : Cells) : Option D := match d with
  | .int i => some (.int (if i < 0 then -i else i))
  | _ => none
theorem qcall_abs : QCall X T (.builtin "abs") (fn1 absD) := by
  refine ⟨_, call_abs, fun vs ds d Γ C O H Q e w rs q => ?_⟩
  unfold fn1 at e
  split at e
  · obtain ⟨v, rfl, rv⟩ := rep1 rs
    unfold absD at e
    split at e
    · cases rv; cases e
      exact ⟨_, rfl, q _ H Ext.refl w (.int _)⟩
    · cases e
  · cases e
def strD (d : D) (_ : Cells) : Option D := match d with
  | .int i => if i.natAbs.log2 < 1920 then some (.str (toString i)) else none
  | _ => none
theorem qcall_str : QCall X T (.type "str") (fn1 strD) := by
  refine ⟨_, call_str_int, fun vs ds d Γ C O H Q e w rs q => ?_⟩
  unfold fn1 at e
  split at e
  · obtain ⟨v, rfl, rv⟩ := rep1 rs
    unfold strD at e
    split at e
    · cases rv
      split at e
      · cases e
        exact ⟨_, rfl, by assumption, q _ H Ext.refl w (.str _)⟩
      · cases e
    · cases e
  · cases e
/-! ### isinstance -/
def tyName : D → String
  | .non => "NoneType"
  | .bl _ => "bool"
  | .int _ => "int"
  | .str _ => "str"
  | .lst _ => "list"
  | .tup _ => "tuple"
  | .cel _ => "list"
  | .opq _ _ => "object"
  | .flst _ => "object"
theorem tyx_of {K : PySem.W.Frag} {Γ : List Addr} {C : Cells} {O : Addr → Prop} {H : Hp} {v : V} {d : D} (w : WOk K T Γ C O H) (r : Rep K (Bad Γ C O) Γ H v d) (hc : ∀ i, d = .cel i → ∃ xs, d.seq C = some xs) (ho : ∀ u f, d ≠ .opq u f) (hfl : ∀ xs, d ≠ .flst xs) : TyX K H v (.type (tyName d)) := by
  cases r with
  | non => exact .base .non
  | bl => exact .base (.bl _)
  | int => exact .base (.int _)
  | str => exact .base (.str _)
  | lst nb e1 r1 => exact .base (.lst e1)
  | tup s1 r1 =>
    rcases s1 with (s1 | ⟨o, s1⟩) | ⟨o, its, n, hk, hc, _⟩
    · exact .base (.tup s1)
    · exact .fTuple s1
    · exact .kTuple hk hc
  | @cel a i e1 =>
    obtain ⟨xs, e⟩ := hc i rfl
    have e' : (match C[i]? with
      | some (Cell.lst xs) => some xs
      | _ => none) = some xs := e
    split at e'
    · rename_i ys q
      obtain ⟨vs, h1, _⟩ := w.cell _ _ _ e1 q
      exact .base (.lst h1)
    · cases e'
  | opq => exact absurd rfl (ho _ _)
  | flst => exact absurd rfl (hfl _)
/-- may its type be asked -/
def tyOk (C : Cells) : D → Bool
  | .cel i => (D.seq C (.cel i)).isSome
  | .opq _ _ => false
  | .flst _ => false
  | _ => true
def isiD (n : String) (d : D) (C : Cells) : Option D := if tyOk C d then (kitB (tyName d) n).map D.bl else none
theorem tyOk_of {C : Cells} {d : D} (h : tyOk C d = true) : ∀ i, d = .cel i → ∃ xs, d.seq C = some xs := fun i e => by
  subst e
  exact Option.isSome_iff_exists.mp h
theorem tyOk_flst {C : Cells} {d : D} (h : tyOk C d = true) : ∀ xs, d ≠ .flst xs := fun xs e => by
  subst e
  cases h
theorem tyOk_opq {C : Cells} {d : D} (h : tyOk C d = true) : ∀ u f, d ≠ .opq u f := fun u f e => by
  subst e
  cases h
theorem qe_isi {n : String} {x y : Str} {a : Expr} {f : DE} {p p2 pos : Pos} (hg : Gl X x) (hm : X.mg x = none) (hv : bootBuiltins x = some (.builtin "isinstance")) (hg2 : Gl X y) (hm2 : X.mg y = none) (hv2 : bootBuiltins y = some (.type n)) (ha : QE X T EX a f) (hn : x ≠ "__name__" := by decide) (hdb : (x == ("__debug__" : Str)) = false := by decide)
    (hn2 : y ≠ "__name__" := by decide) (hdb2 : (y == ("__debug__" : Str)) = false := by decide)
    (he : starEach [a, .Name y p2] X.env = (false, eval a X.env) :: starEach [.Name y p2] X.env := by rfl) (he2 : starEach [.Name y p2] X.env = (false, eval (.Name y p2) X.env) :: starEach [] X.env := by rfl) (hpl : (backTo pos (starEach [.Name y p2] X.env)).any (·.1) = false := by rfl) :
    QE X T EX (.Call (.Name x p) [a, .Name y p2] [] pos) (eMap (isiD n) f) :=
  PE.weak (pe_callB call_isi hg hm hv (pa_cons ha (pa_cons (pe_bltn (v := .ty n) hg2 hm2 hv2 rfl hn2 hdb2) pa_nil he2) he) hn hdb he hpl) fun σ H Q q =>
    tMap_ok (r := fun x H2 Q => rIsi X.K [x, .ty n] H2 Q) (fun v dx d Γ C O H Q e w r k => by
      unfold isiD at e
      split at e
      · obtain ⟨b, e1, e2⟩ := Option.map_eq_some_iff.mp e
        subst e2
        exact ⟨v, .ty n, _, .type n, b, rfl, by constructor, tyx_of w r (tyOk_of (by assumption)) (tyOk_opq (by assumption)) (tyOk_flst (by assumption)), kit_ty e1, k _ H Ext.refl w (.bl _)⟩
      · cases e) q
/-! ### displays -/
def eTup (f : DA) : DE := fun ρ C => (f ρ C).bind fun xs C => if xs.length ≤ sizeLine then .ok (.tup xs) C else .stuck
def eLst (f : DA) : DE := fun ρ C => (f ρ C).bind fun xs C => if xs.length ≤ sizeLine then .ok (.lst xs) C else .stuck
theorem qe_tup {es : List Expr} {f : DA} {k : Nat} {pos : Pos} (h : QA X T EX es f) : QE X T EX (.Tuple es k pos) (eTup f) := PE.weak (pe_tup h) fun σ H Q q => by
  obtain ⟨ρ, Γ, C, O, w, s, p⟩ := q
  refine ⟨ρ, Γ, C, O, w, s, PostG.bind p fun d C1 v H1 Γ1 x1 w1 r1 p1 => ?_⟩
  split at p1
  · exact ⟨by rw [r1.length]; assumption, fun a hp => p1 _ _ _ (ext_new hp) (w1.new hp) (rep_tup w1 hp r1)⟩
  · exact p1.elim
theorem qe_lst {es : List Expr} {f : DA} {pos : Pos} (h : QA X T EX es f) : QE X T EX (.List es pos) (eLst f) := PE.weak (pe_lst h) fun σ H Q q => by
  obtain ⟨ρ, Γ, C, O, w, s, p⟩ := q
  refine ⟨ρ, Γ, C, O, w, s, PostG.bind p fun d C1 v H1 Γ1 x1 w1 r1 p1 => ?_⟩
  split at p1
  · exact ⟨by rw [r1.length]; assumption, fun a hp => p1 _ _ _ (ext_new hp) (w1.new hp) (rep_lst w1 hp r1)⟩
  · exact p1.elim
/-! ### list, tuple, max, min, sum, any, all -/
def toList (d : D) (C : Cells) : Option D := match d with
  | .tup xs => some (.lst xs)
  | d => (d.seq C).map .lst
theorem qcall_list : QCall X T (.type "list") (fn1 toList) := by
  refine ⟨_, call_list_of, fun vs ds d Γ C O H Q e w rs q => ?_⟩
  unfold fn1 at e
  split at e
  · obtain ⟨v, rfl, rv⟩ := rep1 rs
    rename_i x
    have hd : (x.seq C).map D.lst = some d → ∃ p ys, [v] = [.ref p] ∧ (SqL X.K H p ys ∨ SqT X.K H p ys) ∧ ∀ l, H l = none → Q (.ref l) (upd H l (.lst ys)) := fun e => by
      obtain ⟨xs, e1, e2⟩ := Option.map_eq_some_iff.mp e
      subst e2
      obtain ⟨a, ws, rfl, h1, r1⟩ := rv.seq w e1
      exact ⟨_, ws, rfl, .inl (SqL.of h1), fun l hl => q _ _ (ext_new hl) (w.new hl) (rep_lst w hl r1)⟩
    cases rv with
    | tup s1 r1 => cases e; exact ⟨_, _, rfl, .inr s1, fun l hl => q _ _ (ext_new hl) (w.new hl) (rep_lst w hl r1)⟩
    | lst nb e1 r1 => exact hd e
    | cel e1 => exact hd e
    | non => cases e
    | bl => cases e
    | int => cases e
    | str => cases e
    | opq => cases e
    | flst => cases e
  · cases e
def toTup (d : D) (C : Cells) : Option D := match d with
  | .tup xs => some (.tup xs)
  | d => (d.seq C).map .tup
theorem qcall_tuple : QCall X T (.type "tuple") (fn1 toTup) := by
  refine ⟨_, call_tuple_of, fun vs ds d Γ C O H Q e w rs q => ?_⟩
  unfold fn1 at e
  split at e
  · obtain ⟨v, rfl, rv⟩ := rep1 rs
    rename_i x
    have hd : (x.seq C).map D.tup = some d → ∃ p ys, [v] = [.ref p] ∧ ((SqL X.K H p ys ∧ ∀ l, H l = none → Q (.ref l) (upd H l (.tup ys))) ∨ (SqT X.K H p ys ∧ Q (.ref p) H)) := fun e => by
      obtain ⟨xs, e1, e2⟩ := Option.map_eq_some_iff.mp e
      subst e2
      obtain ⟨a, ws, rfl, h1, r1⟩ := rv.seq w e1
      exact ⟨_, ws, rfl, .inl ⟨SqL.of h1, fun l hl => q _ _ (ext_new hl) (w.new hl) (rep_tup w hl r1)⟩⟩
    cases rv with
    | tup s1 r1 => cases e; exact ⟨_, _, rfl, .inr ⟨s1, q _ H Ext.refl w (.tup s1 r1)⟩⟩
    | lst nb e1 r1 => exact hd e
    | cel e1 => exact hd e
    | non => cases e
    | bl => cases e
    | int => cases e
    | str => cases e
    | opq => cases e
    | flst => cases e
  · cases e
def allInt : List D → Option (List Int)
  | [] => some []
  | .int i :: r => (allInt r).map (i :: ·)
  | _ => none
theorem allInt_ok {K : PySem.W.Frag} {B : Addr → Prop} {Γ : List Addr} {H : Hp} : ∀ {ds : List D} {ns : List Int} {vs : List V}, allInt ds = some ns → RepA K B Γ H vs ds → vs = ns.map V.int
  | [], ns, vs, e, r => by
    cases e; cases r; rfl
  | .int i :: ds, ns, vs, e, r => by
    have e' : (allInt ds).map (i :: ·) = some ns := e
    obtain ⟨ms, e1, e2⟩ := Option.map_eq_some_iff.mp e'
    subst e2
    cases r with
    | cons a b =>
      cases a
      rw [allInt_ok e1 b]
      rfl
  | .non :: _, _, _, e, _ => by cases e
  | .bl _ :: _, _, _, e, _ => by cases e
  | .str _ :: _, _, _, e, _ => by cases e
  | .lst _ :: _, _, _, e, _ => by cases e
  | .tup _ :: _, _, _, e, _ => by cases e
  | .cel _ :: _, _, _, e, _ => by cases e
def allBl : List D → Option (List Bool)
  | [] => some []
  | .bl i :: r => (allBl r).map (i :: ·)
  | _ => none
theorem allBl_ok {K : PySem.W.Frag} {B : Addr → Prop} {Γ : List Addr} {H : Hp} : ∀ {ds : List D} {ns : List Bool} {vs : List V}, allBl ds = some ns → RepA K B Γ H vs ds → vs = ns.map V.bl
  | [], ns, vs, e, r => by
    cases e; cases r; rfl
  | .bl i :: ds, ns, vs, e, r => by
    have e' : (allBl ds).map (i :: ·) = some ns := e
    obtain ⟨ms, e1, e2⟩ := Option.map_eq_some_iff.mp e'
    subst e2
    cases r with
    | cons a b =>
      cases a
      rw [allBl_ok e1 b]
      rfl
  | .non :: _, _, _, e, _ => by cases e
  | .int _ :: _, _, _, e, _ => by cases e
  | .str _ :: _, _, _, e, _ => by cases e
  | .lst _ :: _, _, _, e, _ => by cases e
  | .tup _ :: _, _, _, e, _ => by cases e
  | .cel _ :: _, _, _, e, _ => by cases e
/-- a function of a list's ints -/
def onInts (g : List Int → Option D) (d : D) (C : Cells) : Option D := (d.seq C).bind fun xs => (allInt xs).bind g
def onBls (g : List Bool → Option D) (d : D) (C : Cells) : Option D := (d.seq C).bind fun xs => (allBl xs).bind g
theorem onInts_of {g : List Int → Option D} {d r : D} {C : Cells} (e : onInts g d C = some r) : ∃ xs ns, d.seq C = some xs ∧ allInt xs = some ns ∧ g ns = some r := by
  obtain ⟨xs, e1, e⟩ := Option.bind_eq_some_iff.mp e
  obtain ⟨ns, e2, e⟩ := Option.bind_eq_some_iff.mp e
  exact ⟨xs, ns, e1, e2, e⟩
theorem onBls_of {g : List Bool → Option D} {d r : D} {C : Cells} (e : onBls g d C = some r) : ∃ xs ns, d.seq C = some xs ∧ allBl xs = some ns ∧ g ns = some r := by
  obtain ⟨xs, e1, e⟩ := Option.bind_eq_some_iff.mp e
  obtain ⟨ns, e2, e⟩ := Option.bind_eq_some_iff.mp e
  exact ⟨xs, ns, e1, e2, e⟩
def maxI : List Int → Int
  | [] => 0
  | x :: xs => xs.foldl max x
def minI : List Int → Int
  | [] => 0
  | x :: xs => xs.foldl min x
theorem foldl_max_ge : ∀ (xs : List Int) (x : Int), x ≤ xs.foldl max x ∧ (∀ y ∈ xs, y ≤ xs.foldl max x) ∧ (xs.foldl max x = x ∨ xs.foldl max x ∈ xs)
  | [], x => ⟨Int.le_refl _, ⟨(fun y h => by cases h), Or.inl rfl⟩⟩
  | z :: xs, x => by
    obtain ⟨h1, h2, h3⟩ := foldl_max_ge xs (max x z)
    refine ⟨Int.le_trans (Int.le_max_left _ _) h1, fun y hy => ?_, ?_⟩
    · rcases List.mem_cons.mp hy with rfl | hy
      · exact Int.le_trans (Int.le_max_right _ _) h1
      · exact h2 y hy
    · show xs.foldl max (max x z) = x ∨ xs.foldl max (max x z) ∈ z :: xs
      rcases h3 with h3 | h3
      · rw [h3]
        by_cases hxz : x ≤ z
        · right; rw [Int.max_eq_right hxz]; exact List.mem_cons_self
        · left; exact Int.max_eq_left (by omega)
      · exact .inr (List.mem_cons_of_mem _ h3)
theorem maxI_spec {ns : List Int} (h : 0 < ns.length) {m : Int} (hm : m ∈ ns) (hle : ∀ y, y ∈ ns → y ≤ m) : m = maxI ns := by
  match ns, h with
  | x :: xs, _ =>
    obtain ⟨h1, h2, h3⟩ := foldl_max_ge xs x
    show m = xs.foldl max x
    have a : m ≤ xs.foldl max x := by
      rcases List.mem_cons.mp hm with rfl | hm
      · exact h1
      · exact h2 m hm
    have b : xs.foldl max x ≤ m := by
      rcases h3 with h3 | h3
      · rw [h3]; exact hle x List.mem_cons_self
      · exact hle _ (List.mem_cons_of_mem _ h3)
    omega
def sumD : D → Cells → Option D := onInts fun ns => some (.int ns.sum)
def maxD : D → Cells → Option D := onInts fun ns => if 0 < ns.length then some (.int (maxI ns)) else none
def anyD : D → Cells → Option D := onBls fun bs => some (.bl (bs.any id))
def allD : D → Cells → Option D := onBls fun bs => some (.bl (bs.all id))
theorem qcall_sum (hc : X.calm = true) : QCall X T (.builtin "sum") (fn1 sumD) := by
  refine ⟨_, cr_sum hc, fun vs ds d Γ C O H Q e w rs q => ?_⟩
  unfold fn1 at e
  split at e
  · obtain ⟨v, rfl, rv⟩ := rep1 rs
    obtain ⟨xs, ns, e1, e2, e3⟩ := onInts_of e
    cases e3
    obtain ⟨a, ws, rfl, h1, r1⟩ := rv.seq w e1
    have hw := allInt_ok e2 r1
    subst hw
    exact ⟨a, ns, rfl, SqL.of h1, q _ H Ext.refl w (.int _)⟩
  · cases e
theorem qcall_max (hc : X.calm = true) : QCall X T (.builtin "max") (fn1 maxD) := by
  refine ⟨_, cr_max hc, fun vs ds d Γ C O H Q e w rs q => ?_⟩
  unfold fn1 at e
  split at e
  · obtain ⟨v, rfl, rv⟩ := rep1 rs
    obtain ⟨xs, ns, e1, e2, e3⟩ := onInts_of e
    split at e3
    · cases e3
      obtain ⟨a, ws, rfl, h1, r1⟩ := rv.seq w e1
      have hw := allInt_ok e2 r1
      subst hw
      rename_i hz
      exact ⟨a, ns, rfl, SqL.of h1, hz, fun m hm hle => by rw [maxI_spec hz hm hle]; exact q _ H Ext.refl w (.int _)⟩
    · cases e3
  · cases e
theorem qcall_any (hc : X.calm = true) : QCall X T (.builtin "any") (fn1 anyD) := by
  refine ⟨_, cr_any hc, fun vs ds d Γ C O H Q e w rs q => ?_⟩
  unfold fn1 at e
  split at e
  · obtain ⟨v, rfl, rv⟩ := rep1 rs
    obtain ⟨xs, ns, e1, e2, e3⟩ := onBls_of e
    cases e3
    obtain ⟨a, ws, rfl, h1, r1⟩ := rv.seq w e1
    have hw := allBl_ok e2 r1
    subst hw
    exact ⟨a, ns, rfl, SqL.of h1, q _ H Ext.refl w (.bl _)⟩
  · cases e
theorem qcall_all (hc : X.calm = true) : QCall X T (.builtin "all") (fn1 allD) := by
  refine ⟨_, cr_all hc, fun vs ds d Γ C O H Q e w rs q => ?_⟩
  unfold fn1 at e
  split at e
  · obtain ⟨v, rfl, rv⟩ := rep1 rs
    obtain ⟨xs, ns, e1, e2, e3⟩ := onBls_of e
    cases e3
    obtain ⟨a, ws, rfl, h1, r1⟩ := rv.seq w e1
    have hw := allBl_ok e2 r1
    subst hw
    exact ⟨a, ns, rfl, SqL.of h1, q _ H Ext.refl w (.bl _)⟩
  · cases e
def max2D (x y : D) (_ : Cells) : Option D := match x, y with
  | .int i, .int j => some (.int (if j > i then j else i))
  | _, _ => none
def min2D (x y : D) (_ : Cells) : Option D := match x, y with
  | .int i, .int j => some (.int (if j < i then j else i))
  | _, _ => none
theorem qcall_max2 (hc : X.calm = true) : QCall X T (.builtin "max") (fn2 max2D) := by
  refine ⟨_, call_max2 hc, fun vs ds d Γ C O H Q e w rs q => ?_⟩
  unfold fn2 at e
  split at e
  · obtain ⟨v, v2, rfl, rv, rv2⟩ := rep2 rs
    unfold max2D at e
    split at e
    · cases rv; cases rv2; cases e
      exact ⟨_, _, rfl, q _ H Ext.refl w (.int _)⟩
    · cases e
  · cases e
theorem qcall_min2 (hc : X.calm = true) : QCall X T (.builtin "min") (fn2 min2D) := by
  refine ⟨_, call_min2 hc, fun vs ds d Γ C O H Q e w rs q => ?_⟩
  unfold fn2 at e
  split at e
  · obtain ⟨v, v2, rfl, rv, rv2⟩ := rep2 rs
    unfold min2D at e
    split at e
    · cases rv; cases rv2; cases e
      exact ⟨_, _, rfl, q _ H Ext.refl w (.int _)⟩
    · cases e
  · cases e
end
end Qv

/-! ## Q5 -/
set_option Elab.async false
set_option linter.all false
set_option maxRecDepth 100000
/-! Q5: sorted, of any data; any length. -/
namespace Qv
open PySem PySem.Spec PyProof.Rows L2

section
variable {X : Cx} {T : List (Addr × Str)} {EX : XK}
def rSortedD (K : PySem.W.Frag) : List V → Hp → VK → Prop := fun vs H Q => ∃ (a : Addr) (ps : List (V × D)), vs = [V.ref a] ∧ SqL K H a (ps.map (·.1)) ∧ (∀ p ∈ ps, Dp K H p.1 p.2.py) ∧
  PySem.W.AllAlike (ps.map fun p => p.2.py) ∧ PySem.W.Sortable (ps.map fun p => p.2.py) ∧ (∀ p ∈ ps, p.2.py.depth ≤ 64) ∧
  ∀ q, H q = none → Q (.ref q) (upd H q (.lst ((ps.mergeSort (PySem.W.dataLe false fun p => p.2.py)).map (·.1))))
theorem each_vals : ∀ {ps : List (V × D)} {us : List Value}, Vals (ps.map (·.1)) us → PySem.W.EachIs (fun (v : Value) (p : V × D) => RelV p.1 v) us ps
  | [], us, r => by cases r; exact .nil
  | p :: ps, us, r => by
    cases r with
    | cons a b => exact .cons a (each_vals b)
theorem vals_each : ∀ {ps : List (V × D)} {us : List Value}, PySem.W.EachIs (fun (v : Value) (p : V × D) => RelV p.1 v) us ps → Vals (ps.map (·.1)) us
  | _, _, .nil => .nil
  | _, _, .cons a b => .cons a (vals_each b)
theorem each_reads {pins : List (Addr × Obj)} {σ : L2.St} {H : Hp} {s : Shared} (I : Inv X pins σ H s) : ∀ {ps : List (V × D)} {us : List Value}, Vals (ps.map (·.1)) us → (∀ p ∈ ps, Dp X.K H p.1 p.2.py) → PySem.W.EachIs (fun (v : Value) (p : V × D) => ∃ as, Reads s.heap v p.2.py as) us ps
  | [], us, r, _ => by cases r; exact .nil
  | p :: ps, us, r, h => by
    cases r with
    | cons a b => exact .cons (Dp.reads I _ _ _ (h p List.mem_cons_self) a) (each_reads I b fun q hq => h q (List.mem_cons_of_mem _ hq))
theorem cr_sortedD (hu : X.A.units + 100 < cLine) : CallR X (.builtin "sorted") (rSortedD X.K) := by
  intro pins s σ H vs us Q I r h
  obtain ⟨a, ps, rfl, hs, hd, hal, hk, hdp, q⟩ := h
  obtain ⟨its, rv, hl, hz⟩ := I.list hs
  rw [Vals.ref1 r]
  have hz' : ps.length ≤ sizeLine := by rw [List.length_map] at hz; exact hz
  refine PySem.W.sorted_data (enc := fun p : V × D => p.2.py) hl.isList (each_vals rv) (each_reads I rv hd) hal hk hz' (fun b hb => by have := hdp b hb; omega) fun out hlen hout => ?_
  obtain ⟨ep, he'⟩ := PyProof.Rows.sortedAll_at s.heap its out.toArray
  have hlen2 : ((ps.mergeSort (PySem.W.dataLe false fun p : V × D => p.2.py)).map (·.1)).length ≤ sizeLine := by
    rw [List.length_map, List.length_mergeSort]
    exact hz'
  exact ⟨.ref _, upd H (s.heap.objs.size + 1) (.lst ((ps.mergeSort (PySem.W.dataLe false fun p : V × D => p.2.py)).map (·.1))), I.laid (t' := s.toks) (fun _ _ => PyProof.Rows.sortedAll_old) (Nat.le_succ _) ⟨hlen2, out, ep, vals_each hout, he'⟩, rfl, q _ (I.hok.fresh (Nat.le_succ _))⟩

/-- may these be sorted -/
def sortOk (xs : List D) : Bool :=
  (xs.all fun x => xs.all fun y => PySem.W.alike x.py y.py) && ((xs.all fun x => match x with
    | .tup (_ :: _) => true
    | _ => false) || xs.all fun x => match x with
    | .tup _ => false
    | .non => false
    | .cel _ => false
    | .opq _ _ => false
    | .flst _ => false
    | _ => true) && xs.all fun x => x.nc && decide (x.py.depth ≤ 64)
def sortL (xs : List D) : List D := xs.mergeSort (PySem.W.dataLe false D.py)
def sortD : D → Cells → Option D := fun d C => match d with
  | .tup _ => none
  | d => (d.seq C).bind fun xs => if sortOk xs then some (.lst (sortL xs)) else none
theorem zip_fst {K : PySem.W.Frag} {B : Addr → Prop} {Γ : List Addr} {H : Hp} : ∀ {vs : List V} {ds : List D}, RepA K B Γ H vs ds → (vs.zip ds).map (·.1) = vs ∧ (vs.zip ds).map (·.2) = ds ∧ ∀ p ∈ vs.zip ds, Rep K B Γ H p.1 p.2
  | _, _, .nil => ⟨rfl, ⟨rfl, (fun p h => by cases h)⟩⟩
  | _, _, .cons (v := v) (d := d) a b => by
    obtain ⟨h1, h2, h3⟩ := zip_fst b
    refine ⟨by rw [List.zip_cons_cons, List.map_cons, h1], by rw [List.zip_cons_cons, List.map_cons, h2], fun p hp => ?_⟩
    rw [List.zip_cons_cons] at hp
    rcases List.mem_cons.mp hp with rfl | hp
    · exact a
    · exact h3 p hp
theorem repA_map {K : PySem.W.Frag} {B : Addr → Prop} {Γ : List Addr} {H : Hp} : ∀ {ps : List (V × D)}, (∀ p ∈ ps, Rep K B Γ H p.1 p.2) → RepA K B Γ H (ps.map (·.1)) (ps.map (·.2))
  | [], _ => .nil
  | p :: ps, h => .cons (h p List.mem_cons_self) (repA_map fun q hq => h q (List.mem_cons_of_mem _ hq))
theorem sort_snd (ps : List (V × D)) : (ps.mergeSort (PySem.W.dataLe false fun p => p.2.py)).map (·.2) = sortL (ps.map (·.2)) := by
  unfold sortL
  rw [List.map_mergeSort]
  intro a _ b _
  rfl
theorem qcall_sorted (hu : X.A.units + 100 < cLine) : QCall X T (.builtin "sorted") (fn1 sortD) := by
  refine ⟨_, cr_sortedD hu, fun vs ds d Γ C O H Q e w rs q => ?_⟩
  unfold fn1 at e
  split at e
  · obtain ⟨v, rfl, rv⟩ := rep1 rs
    unfold sortD at e
    split at e
    · cases e
    · obtain ⟨xs, e1, e⟩ := Option.bind_eq_some_iff.mp e
      split at e
      · cases e
        rename_i hok
        obtain ⟨a, ws, rfl, h1, r1⟩ := rv.seq w e1
        obtain ⟨z1, z2, z3⟩ := zip_fst r1
        have hpy : (ws.zip xs).map (fun p => p.2.py) = xs.map D.py := by
          rw [← z2, List.map_map]
          simp only [z2]
          rfl
        unfold sortOk at hok
        simp only [Bool.and_eq_true, Bool.or_eq_true, List.all_eq_true, decide_eq_true_eq] at hok
        obtain ⟨⟨o1, o2⟩, o3⟩ := hok
        have hm : ∀ p ∈ ws.zip xs, p.2 ∈ xs := fun p hp => (List.of_mem_zip hp).2
        refine ⟨a, ws.zip xs, rfl, by rw [z1]; exact SqL.of h1, fun p hp => (z3 p hp).dp (o3 _ (hm p hp)).1, ?_, ?_, fun p hp => (o3 _ (hm p hp)).2, fun p hp => ?_⟩
        · rw [hpy]
          intro d hd d' hd'
          obtain ⟨x, hx, rfl⟩ := List.mem_map.mp hd
          obtain ⟨y, hy, rfl⟩ := List.mem_map.mp hd'
          exact o1 x hx y hy
        · rw [hpy]
          rcases o2 with o2 | o2
          · refine .inl fun d hd => ?_
            obtain ⟨x, hx, rfl⟩ := List.mem_map.mp hd
            have := o2 x hx
            split at this
            · exact ⟨_, _, rfl⟩
            · cases this
          · refine .inr fun d hd => ?_
            obtain ⟨x, hx, rfl⟩ := List.mem_map.mp hd
            have := o2 x hx
            cases x with
            | tup => cases this
            | non => cases this
            | cel => cases this
            | opq => cases this
            | flst => cases this
            | _ => exact ⟨(fun z => by cases z), (fun xs z => by cases z)⟩
        · have hr : RepA X.K (Bad Γ C O) Γ H (((ws.zip xs).mergeSort (PySem.W.dataLe false fun p => p.2.py)).map (·.1)) (sortL xs) := by
            have := repA_map (ps := (ws.zip xs).mergeSort (PySem.W.dataLe false fun p => p.2.py)) fun q hq => z3 q (List.mem_mergeSort.mp hq)
            rw [sort_snd, z2] at this
            exact this
          exact q _ _ (ext_new hp) (w.new hp) (rep_lst w hp hr)
      · cases e
  · cases e
end
end Qv

/-! ## Q6 -/
set_option Elab.async false
set_option linter.all false
set_option maxRecDepth 100000
/-! Q6: statements; new cells, writes to cells, methods of lists. -/
namespace Qv
open PySem PySem.Spec PyProof.Rows L2

section
variable {K : PySem.W.Frag} {Γ : List Addr} {C : Cells} {O : Addr → Prop} {H : Hp} {T : List (Addr × Str)}
/-! ### a cell is written -/
theorem al_set {k : Nat} {ys : List D} {a : Addr} (hk : ∃ xs, C[k]? = some (Cell.lst xs)) : Al Γ (C.set k (.lst ys)) a ↔ Al Γ C a := by
  obtain ⟨xs, hk⟩ := hk
  have hlt := (List.getElem?_eq_some_iff.mp hk).1
  constructor
  · rintro ⟨i, zs, e1, e2⟩
    by_cases hi : k = i
    · subst hi; exact ⟨k, xs, e1, hk⟩
    · rw [List.getElem?_set_ne hi] at e2; exact ⟨i, zs, e1, e2⟩
  · rintro ⟨i, zs, e1, e2⟩
    by_cases hi : k = i
    · subst hi; exact ⟨k, ys, e1, List.getElem?_set_self hlt⟩
    · exact ⟨i, zs, e1, by rw [List.getElem?_set_ne hi]; exact e2⟩
theorem nodup_at {l : List Addr} (nd : l.Nodup) {i j : Nat} {a : Addr} (h1 : l[i]? = some a) (h2 : l[j]? = some a) : i = j := nd_ix nd h1 h2
theorem tabs_upd {a : Addr} {vs ws : List V} (t : LamX.Tabs T H) (h : H a = some (.lst vs)) : LamX.Tabs T (upd H a (.lst ws)) := fun p hp => by
  obtain ⟨ps, e1, e2, e3⟩ := t p hp
  refine ⟨ps, by rw [upd_ne (ne_of e1 h (by intro z; cases z))]; exact e1, e2, fun pos cv hc => ?_⟩
  obtain ⟨c, f1, f2⟩ := e3 pos cv hc
  exact ⟨c, f1, by rw [upd_ne (ne_of f2 h (by intro z; unfold LamX.CodeO at z; cases z))]; exact f2⟩
theorem ext_write {k : Nat} {a : Addr} {xs ys : List D} {ws : List V} (w : WOk K T Γ C O H) (hk : Γ[k]? = some a) (hC : C[k]? = some (Cell.lst xs)) : Ext Γ C H Γ (C.set k (.lst ys)) (upd H a (.lst ws)) := by
  have ha : Al Γ C a := ⟨k, xs, hk, hC⟩
  refine ⟨List.prefix_refl _, fun b o nb e _ => ?_, fun b h => h.upd (fun _ q => by cases q), fun b z => .inl ((al_set ⟨xs, hC⟩).mp z)⟩
  rw [upd_ne (fun z => nb (by rw [z]; exact ha))]; exact e
theorem WOk.write {k : Nat} {a : Addr} {xs ys : List D} {ws : List V} (w : WOk K T Γ C O H) (hk : Γ[k]? = some a) (hC : C[k]? = some (Cell.lst xs)) (r : RepA K (Bad Γ C O) Γ H ws ys) : WOk K T Γ (C.set k (.lst ys)) O (upd H a (.lst ws)) := by
  have x := ext_write (ys := ys) (ws := ws) w hk hC
  obtain ⟨vs, e0, _⟩ := w.cell k a xs hk hC
  refine ⟨by rw [List.length_set]; exact w.len, w.nd, fun i b zs e1 e2 => ?_, fun b hb => x.there b (w.there b hb), fun b hb => x.there b (w.ot b hb), w.dj, tabs_upd w.tabs e0⟩
  by_cases hi : k = i
  · subst hi
    rw [hk] at e1
    cases e1
    rw [List.getElem?_set_self (List.getElem?_eq_some_iff.mp hC).1] at e2
    cases e2
    exact ⟨ws, upd_same, r.ext w x⟩
  · rw [List.getElem?_set_ne hi] at e2
    obtain ⟨us, e3, r3⟩ := w.cell i b zs e1 e2
    have hb : b ≠ a := fun z => hi (nodup_at w.nd (by rw [z] at e1; exact hk) (by rw [z] at e1; exact e1))
    exact ⟨us, by rw [upd_ne hb]; exact e3, r3.ext w x⟩
/-! ### a new cell -/
theorem al_snoc {p a : Addr} {xs : List D} (hl : Γ.length = C.length) : Al (Γ ++ [p]) (C ++ [.lst xs]) a ↔ Al Γ C a ∨ a = p := by
  constructor
  · rintro ⟨i, zs, e1, e2⟩
    by_cases hi : i < Γ.length
    · rw [List.getElem?_append_left hi] at e1
      rw [List.getElem?_append_left (by omega)] at e2
      exact .inl ⟨i, zs, e1, e2⟩
    · rw [List.getElem?_append_right (by omega)] at e1
      have : i - Γ.length = 0 := by
        obtain ⟨h, _⟩ := List.getElem?_eq_some_iff.mp e1
        simp at h
        omega
      rw [this] at e1
      simp at e1
      exact .inr e1.symm
  · rintro (⟨i, zs, e1, e2⟩ | rfl)
    · exact ⟨i, zs, by rw [List.getElem?_append_left (List.getElem?_eq_some_iff.mp e1).1]; exact e1, by rw [List.getElem?_append_left (List.getElem?_eq_some_iff.mp e2).1]; exact e2⟩
    · exact ⟨Γ.length, xs, by simp, by rw [hl]; simp⟩
/-- what lies apart at p becomes a cell -/
theorem WOk.cellOf {p : Addr} {vs : List V} {xs : List D} (w : WOk K T Γ C (fun a => O a ∨ a = p) H) (ho : ¬ O p) (hg : p ∉ Γ) (e : H p = some (.lst vs)) (r : RepA K (Bad Γ C fun a => O a ∨ a = p) Γ H vs xs) :
    WOk K T (Γ ++ [p]) (C ++ [.lst xs]) O H := by
  have hb : ∀ a, Bad (Γ ++ [p]) (C ++ [.lst xs]) O a → Bad Γ C (fun a => O a ∨ a = p) a := fun a z => by
    rcases z with z | z
    · rcases (al_snoc w.len).mp z with z | z
      · exact .inl z
      · exact .inr (.inr z)
    · exact .inr (.inl z)
  have mv : ∀ {us : List V} {zs : List D}, RepA K (Bad Γ C fun a => O a ∨ a = p) Γ H us zs → RepA K (Bad (Γ ++ [p]) (C ++ [.lst xs]) O) (Γ ++ [p]) H us zs := fun r =>
    r.move (fun a us nb e => ⟨fun z => nb (hb a z), e⟩) (fun _ _ s => s) (fun i a e => prefix_get (List.prefix_append _ _) e) fun _ _ e _ _ => e
  refine ⟨by simp [w.len], ?_, fun i a zs e1 e2 => ?_, fun a ha => ?_, fun a ha => w.ot a (.inl ha), fun a z z2 => ?_, w.tabs⟩
  · rw [List.nodup_append]
    refine ⟨w.nd, by simp, fun a ha b hb2 => ?_⟩
    have : b = p := by simpa using hb2
    subst this
    exact fun z => hg (z ▸ ha)
  · by_cases hi : i < Γ.length
    · rw [List.getElem?_append_left hi] at e1
      rw [List.getElem?_append_left (by rw [← w.len]; exact hi)] at e2
      obtain ⟨us, e3, r3⟩ := w.cell i a zs e1 e2
      exact ⟨us, e3, mv r3⟩
    · rw [List.getElem?_append_right (by omega)] at e1
      rw [List.getElem?_append_right (by rw [← w.len]; omega)] at e2
      have h0 : i - Γ.length = 0 := by
        obtain ⟨h, _⟩ := List.getElem?_eq_some_iff.mp e1
        simp at h
        omega
      rw [h0] at e1
      rw [← w.len, h0] at e2
      simp at e1 e2
      subst e1 e2
      exact ⟨vs, e, mv r⟩
  · rcases List.mem_append.mp ha with ha | ha
    · exact w.there a ha
    · have : a = p := by simpa using ha
      subst this
      exact .lst e
  · rcases List.mem_append.mp z with z | z
    · exact w.dj a z (.inl z2)
    · have : a = p := by simpa using z
      subst this; exact ho z2
theorem ext_cellOf {p : Addr} {Γ0 : List Addr} {C0 : Cells} {H0 : Hp} {xs : List D} (x : Ext Γ0 C0 H0 Γ C H) (hl : Γ.length = C.length) (hp : ¬ NT H0 p) : Ext Γ0 C0 H0 (Γ ++ [p]) (C ++ [.lst xs]) H :=
  ⟨x.pre.trans (List.prefix_append _ _), x.keep, x.there, fun a z => by
    rcases (al_snoc hl).mp z with z | z
    · exact x.new a z
    · subst z; exact .inr hp⟩
end

/-! ### fresh lists -/
abbrev DF := Env → Cells → Out (List D)
section
variable (K : PySem.W.Frag) (T : List (Addr × Str)) (EX : XK)
def PostF (O : Addr → Prop) (Γ : List Addr) (C : Cells) (H : Hp) (o : Out (List D)) (Q : VK) : Prop := match o with
  | .ok xs C' => ∀ p H' Γ' vs, Ext Γ C H Γ' C' H' → ¬ NT H p → WOk K T Γ' C' (fun a => O a ∨ a = p) H' → H' p = some (.lst vs) → RepA K (Bad Γ' C' fun a => O a ∨ a = p) Γ' H' vs xs → p ∉ Γ' → Q (.ref p) H'
  | .exn x C' => ∀ u dd H' Γ', Ext Γ C H Γ' C' H' → WOk K T Γ' C' O H' → ExRep K (Bad Γ' C' O) Γ' H' u dd x → EX u dd H'
  | .stuck => False
def tF (f : DF) : TE := fun σ H Q => ∃ ρ Γ C O, WOk K T Γ C O H ∧ SlotsOk K (Bad Γ C O) Γ H σ ρ ∧ PostF K T EX O Γ C H (f ρ C) Q
end
def QF (X : Cx) (T : List (Addr × Str)) (EX : XK) (e : Expr) (f : DF) : Prop := PE X e (tF X.K T EX f)
section
variable {X : Cx} {T : List (Addr × Str)} {EX : XK}
/-- as a value -/
def eVal (f : DF) : DE := fun ρ C => (f ρ C).bind fun xs C => .ok (.lst xs) C
/-- as a new cell -/
def eNew (f : DF) : DE := fun ρ C => (f ρ C).bind fun xs C => .ok (.cel C.length) (C ++ [.lst xs])
theorem qe_val {e : Expr} {f : DF} (h : QF X T EX e f) : QE X T EX e (eVal f) := PE.weak h fun σ H Q q => by
  obtain ⟨ρ, Γ, C, O, w, s, p⟩ := q
  refine ⟨ρ, Γ, C, O, w, s, ?_⟩
  unfold eVal at p
  cases e : f ρ C with
  | ok xs C' =>
    rw [e] at p
    intro a H' Γ' vs x hp w' ea r _
    refine p _ H' Γ' x (w'.monoO fun _ z => .inl z) (.lst (fun z => ?_) ea (r.mono fun b z => z.imp id .inl))
    rcases z with z | z
    · exact w'.djA z (.inr rfl)
    · exact hp (w.ot a z)
  | exn y C' => rw [e] at p; exact p
  | stuck => rw [e] at p; exact p
theorem qe_new {e : Expr} {f : DF} (h : QF X T EX e f) : QE X T EX e (eNew f) := PE.weak h fun σ H Q q => by
  obtain ⟨ρ, Γ, C, O, w, s, p⟩ := q
  refine ⟨ρ, Γ, C, O, w, s, ?_⟩
  unfold eNew at p
  cases e : f ρ C with
  | ok xs C' =>
    rw [e] at p
    intro a H' Γ' vs x hp w' ea r hg
    refine p _ H' (Γ' ++ [a]) (ext_cellOf x w'.len hp) (w'.cellOf (fun z => hp (w.ot a z)) hg ea r) (.cel ?_)
    rw [← w'.len]
    simp
  | exn y C' => rw [e] at p; exact p
  | stuck => rw [e] at p; exact p
/-- from a rule that lays a new list -/
theorem postF_new {O : Addr → Prop} {Γ Γ' : List Addr} {C C' : Cells} {H H' : Hp} {xs : List D} {vs : List V} {Q : VK} (p : PostF X.K T EX O Γ C H (.ok xs C') Q) (x : Ext Γ C H Γ' C' H') (w : WOk X.K T Γ' C' O H') (r : RepA X.K (Bad Γ' C' O) Γ' H' vs xs) (a : Addr) (ha : H' a = none) : Q (.ref a) (upd H' a (.lst vs)) := by
  have h0 : ¬ NT H a := fun z => NT.no ha (x.there a z)
  exact p a _ Γ' vs (x.trans (ext_new ha)) h0 (w.apart ha) upd_same (r.apart w ha) fun z => NT.no ha (w.there a z)
def fLst (f : DA) : DF := fun ρ C => (f ρ C).bind fun xs C => if xs.length ≤ sizeLine then .ok xs C else .stuck
theorem PostF.bind {α β : Type} {rel : (Addr → Prop) → List Addr → Hp → β → α → Prop} {O : Addr → Prop} {Γ : List Addr} {C : Cells} {H : Hp} {o : Out α} {f : α → Cells → Out (List D)} {Q : β → Hp → Prop} {Q' : VK}
    (h : PostF X.K T EX O Γ C H (o.bind f) Q')
    (k : ∀ d C' v H' Γ', Ext Γ C H Γ' C' H' → WOk X.K T Γ' C' O H' → rel (Bad Γ' C' O) Γ' H' v d → PostF X.K T EX O Γ' C' H' (f d C') Q' → Q v H') : PostG X.K T EX O Γ C H rel o Q := by
  cases o with
  | ok d C1 =>
    intro v H' Γ' x w r
    refine k d C1 v H' Γ' x w r ?_
    have h' : PostF X.K T EX O Γ C H (f d C1) Q' := h
    cases e : f d C1 with
    | ok xs C2 =>
      rw [e] at h'
      intro a H2 Γ2 vs x2 ha w2 ea r2 hg
      have h0 : ¬ NT H a := fun z => ha (x.there a z)
      exact h' a H2 Γ2 vs (x.trans x2) h0 w2 ea r2 hg
    | exn y C2 => rw [e] at h'; exact fun u dd H2 Γ2 x2 w2 r2 => h' u dd H2 Γ2 (x.trans x2) w2 r2
    | stuck => rw [e] at h'; exact h'
  | exn e C1 => exact h
  | stuck => exact h
theorem qf_lst {es : List Expr} {f : DA} {pos : Pos} (h : QA X T EX es f) : QF X T EX (.List es pos) (fLst f) := PE.weak (pe_lst h) fun σ H Q q => by
  obtain ⟨ρ, Γ, C, O, w, s, p⟩ := q
  refine ⟨ρ, Γ, C, O, w, s, PostF.bind p fun d C1 v H1 Γ1 x1 w1 r1 p1 => ?_⟩
  split at p1
  · exact ⟨by rw [r1.length]; assumption, fun a hp => postF_new p1 Ext.refl w1 r1 a hp⟩
  · exact p1.elim
/-- xs * k -/
def fRep (f1 f2 : DE) : DF := fun ρ C => (f1 ρ C).bind fun x C => (f2 ρ C).bind fun y C => match x.seq C, y with
  | some xs, .int k => if decide (-(2 ^ 63) ≤ k ∧ k < 2 ^ 63 ∧ xs.length * k.toNat ≤ sizeLine) then .ok (List.replicate k.toNat xs).flatten C else .stuck
  | _, _ => .stuck
theorem qf_rep {a b : Expr} {f1 f2 : DE} {pos : Pos} (ha : QE X T EX a f1) (hb : QE X T EX b f2) : QF X T EX (.BinOp a .Mult b pos) (fRep f1 f2) := PE.weak (pe_op op_rep ha hb) fun σ H Q q => by
  obtain ⟨ρ, Γ, C, O, w, s, p⟩ := q
  refine ⟨ρ, Γ, C, O, w, s, PostF.bind p fun d C1 v H1 Γ1 x1 w1 r1 p1 => ?_⟩
  refine ⟨ρ, Γ1, C1, O, w1, s.ext w x1, PostF.bind p1 fun d2 C2 v2 H2 Γ2 x2 w2 r2 p2 => ?_⟩
  split at p2
  · split at p2
    · rename_i xs k es hz
      have hz := of_decide_eq_true hz
      obtain ⟨a, vs, rfl, h1, ra⟩ := (r1.ext w1 x2).seq w2 es
      cases r2
      exact ⟨a, _, vs, rfl, rfl, h1, hz.1, hz.2.1, by rw [ra.length]; exact hz.2.2, fun p hp => postF_new p2 Ext.refl w2 (ra.flat _) p hp⟩
    · exact p2.elim
  · exact p2.elim
/-- xs + ys -/
def fCat (f1 f2 : DE) : DF := fun ρ C => (f1 ρ C).bind fun x C => (f2 ρ C).bind fun y C => match x.seq C, y.seq C with
  | some xs, some ys => if xs.length + ys.length ≤ sizeLine then .ok (xs ++ ys) C else .stuck
  | _, _ => .stuck
theorem qf_cat {a b : Expr} {f1 f2 : DE} {pos : Pos} (ha : QE X T EX a f1) (hb : QE X T EX b f2) : QF X T EX (.BinOp a .Add b pos) (fCat f1 f2) := PE.weak (pe_op op_cat ha hb) fun σ H Q q => by
  obtain ⟨ρ, Γ, C, O, w, s, p⟩ := q
  refine ⟨ρ, Γ, C, O, w, s, PostF.bind p fun d C1 v H1 Γ1 x1 w1 r1 p1 => ?_⟩
  refine ⟨ρ, Γ1, C1, O, w1, s.ext w x1, PostF.bind p1 fun d2 C2 v2 H2 Γ2 x2 w2 r2 p2 => ?_⟩
  split at p2
  · split at p2
    · rename_i xs ys e1 e2 hz
      obtain ⟨a, vs, rfl, h1, ra⟩ := (r1.ext w1 x2).seq w2 e1
      obtain ⟨b, ws, rfl, h2, rb⟩ := r2.seq w2 e2
      exact ⟨a, b, vs, ws, rfl, rfl, h1, h2, by rw [ra.length, rb.length]; exact hz, fun p hp => postF_new p2 Ext.refl w2 (ra.append rb) p hp⟩
    · exact p2.elim
  · exact p2.elim
/-- list(x) -/
def fList (f : DE) : DF := fun ρ C => (f ρ C).bind fun x C => match x with
  | .tup xs => .ok xs C
  | x => match x.seq C with
    | some xs => .ok xs C
    | none => .stuck
theorem qf_list {x : Str} {e : Expr} {f : DE} {p pos : Pos} (hg : Gl X x) (hm : X.mg x = none) (hv : bootBuiltins x = some (.type "list")) (ha : QE X T EX e f) (hn : x ≠ "__name__" := by decide) (hdb : (x == ("__debug__" : Str)) = false := by decide)
    (he : starEach [e] X.env = (false, eval e X.env) :: starEach [] X.env := by rfl) (hpl : (backTo pos (starEach [] X.env)).any (·.1) = false := by rfl) : QF X T EX (.Call (.Name x p) [e] [] pos) (fList f) :=
  PE.weak (pe_callTy call_list_of hg hm hv (pa_cons ha pa_nil he) hn hdb he hpl) fun σ H Q q => by
    obtain ⟨ρ, Γ, C, O, w, s, p⟩ := q
    refine ⟨ρ, Γ, C, O, w, s, PostF.bind p fun d C1 v H1 Γ1 x1 w1 r1 p1 => ?_⟩
    have hd : ∀ xs, d.seq C1 = some xs → PostF X.K T EX O Γ1 C1 H1 (.ok xs C1) Q → ∃ p ys, [v] = [.ref p] ∧ (SqL X.K H1 p ys ∨ SqT X.K H1 p ys) ∧ ∀ l, H1 l = none → Q (.ref l) (upd H1 l (.lst ys)) := fun xs e1 p2 => by
      obtain ⟨a, ws, rfl, h1, ra⟩ := r1.seq w1 e1
      exact ⟨_, ws, rfl, .inl (SqL.of h1), fun l hl => postF_new p2 Ext.refl w1 ra l hl⟩
    cases r1 with
    | tup s1 ra => exact ⟨_, _, rfl, .inr s1, fun l hl => postF_new p1 Ext.refl w1 ra l hl⟩
    | lst nb e1 ra => exact hd _ rfl p1
    | @cel a i e1 =>
      cases e : D.seq C1 (.cel i) with
      | none =>
        have p2 : PostF X.K T EX O Γ1 C1 H1 (match D.seq C1 (.cel i) with
          | some xs => .ok xs C1
          | none => .stuck) Q := p1
        rw [e] at p2; exact p2.elim
      | some xs =>
        have p2 : PostF X.K T EX O Γ1 C1 H1 (match D.seq C1 (.cel i) with
          | some xs => .ok xs C1
          | none => .stuck) Q := p1
        rw [e] at p2
        exact hd xs e p2
    | non => exact p1.elim
    | bl => exact p1.elim
    | int => exact p1.elim
    | str => exact p1.elim
    | opq => exact p1.elim
    | flst => exact p1.elim
end
end Qv

/-! ## Q7 -/
set_option Elab.async false
set_option linter.all false
set_option maxRecDepth 100000
/-! Q7: statements. -/
namespace Qv
open PySem PySem.Spec PyProof.Rows L2

section
variable {X : Cx} {T : List (Addr × Str)} {EX : XK}
/-! ### blocks -/
def sNil : DS := fun ρ C => .nx ρ C
def sSeq (f g : DS) : DS := fun ρ C => match f ρ C with
  | .nx ρ C => g ρ C
  | o => o
theorem qs_nil : QSs X T EX [] sNil := PSs.weak pss_nil fun D σ H q => by
  obtain ⟨ρ, Γ, C, O, w, s, p⟩ := q
  exact p σ H Γ Ext.refl w s
theorem seq_ok {f g : DS} {D : Ends} {σ : L2.St} {H : Hp} (q : tS X.K T EX (sSeq f g) D σ H) : tSeq (tS X.K T EX f) (tS X.K T EX g) D σ H := by
  obtain ⟨ρ, Γ, C, O, w, s, p⟩ := q
  refine ⟨ρ, Γ, C, O, w, s, ?_⟩
  unfold sSeq at p
  cases e : f ρ C with
  | nx ρ' C' =>
    rw [e] at p
    exact fun σ' H' Γ' x w' s' => ⟨ρ', Γ', C', O, w', s', PostS.shift x p⟩
  | _ => rw [e] at p; exact p
theorem qs_cons {st : Stmt} {rest : List Stmt} {f g : DS} (h : QS X T EX st f) (h2 : QSs X T EX rest g) : QSs X T EX (st :: rest) (sSeq f g) := PSs.weak (pss_cons h h2) fun D σ H => seq_ok
theorem qs_one {st : Stmt} {f : DS} (h : QS X T EX st f) : QSs X T EX [st] f := pss_one h
/-! ### small statements -/
def sRet (f : DE) : DS := fun ρ C => (f ρ C).bindS fun d C => .rt d C
def sRetN : DS := fun _ C => .rt .non C
def sDrop (f : DE) : DS := fun ρ C => (f ρ C).bindS fun _ C => .nx ρ C
def sBrk : DS := fun ρ C => .bk ρ C
def sCont : DS := fun ρ C => .ct ρ C
def sIf (c : DB) (f g : DS) : DS := fun ρ C => (c ρ C).bindS fun b C => if b = true then f ρ C else g ρ C
def sSet (i : Nat) (f : DE) : DS := fun ρ C => (f ρ C).bindS fun d C => .nx (ρ.set i (some d)) C
theorem qs_ret {e : Expr} {f : DE} {pos : Pos} (h : QE X T EX e f) : QS X T EX (.Return (some e) pos) (sRet f) := PS.weak (ps_ret h) fun D σ H q => by
  obtain ⟨ρ, Γ, C, O, w, s, p⟩ := q
  exact ⟨ρ, Γ, C, O, w, s, PostG.bindS p fun d C1 v H1 Γ1 x1 w1 r1 p1 => p1 v H1 Γ1 Ext.refl w1 r1⟩
theorem qs_retN {pos : Pos} : QS X T EX (.Return none pos) sRetN := PS.weak ps_retN fun D σ H q => by
  obtain ⟨ρ, Γ, C, O, w, s, p⟩ := q
  exact p .non H Γ Ext.refl w .non
theorem qs_drop {e : Expr} {f : DE} {pos : Pos} (h : QE X T EX e f) (hs : swapsWith e none pos.line X.env = pure false := by rfl) : QS X T EX (.Expr e pos) (sDrop f) := PS.weak (ps_expr h hs) fun D σ H q => by
  obtain ⟨ρ, Γ, C, O, w, s, p⟩ := q
  exact ⟨ρ, Γ, C, O, w, s, PostG.bindS p fun d C1 v H1 Γ1 x1 w1 r1 p1 => p1 σ H1 Γ1 Ext.refl w1 (s.ext w x1)⟩
theorem qs_pass {pos : Pos} : QS X T EX (.Pass pos) sNil := PS.weak ps_pass fun D σ H q => by
  obtain ⟨ρ, Γ, C, O, w, s, p⟩ := q
  exact p σ H Γ Ext.refl w s
theorem qs_break {pos : Pos} : QS X T EX (.Break pos) sBrk := PS.weak ps_break fun D σ H q => by
  obtain ⟨ρ, Γ, C, O, w, s, p⟩ := q
  exact p σ H Γ Ext.refl w s
theorem qs_continue {pos : Pos} : QS X T EX (.Continue pos) sCont := PS.weak ps_continue fun D σ H q => by
  obtain ⟨ρ, Γ, C, O, w, s, p⟩ := q
  exact p σ H Γ Ext.refl w s
theorem qs_if {c : Expr} {a b : List Stmt} {fc : DB} {f g : DS} {pos : Pos} (hc : QT X T EX c fc) (ha : QSs X T EX a f) (hb : QSs X T EX b g) : QS X T EX (.If c a b pos) (sIf fc f g) := PS.weak (ps_if hc ha hb) fun D σ H q => by
  obtain ⟨ρ, Γ, C, O, w, s, p⟩ := q
  refine ⟨ρ, Γ, C, O, w, s, PostG.bindS p fun d C1 v H1 Γ1 x1 w1 r1 p1 => ?_⟩
  subst r1
  cases v with
  | true => exact iteT ⟨ρ, Γ1, C1, O, w1, s.ext w x1, p1⟩
  | false => exact iteF ⟨ρ, Γ1, C1, O, w1, s.ext w x1, p1⟩
theorem qs_set (i : Nat) {x : Str} {e : Expr} {f : DE} {pos pos' : Pos} (hN : X.N.Nodup) (he : QE X T EX e f) (hi : X.N[i]? = some x := by rfl) (hx : Loc X.env.scope x := by first | exact Or.inl rfl | exact Or.inr rfl) (hs : swapsWith e (some (.Name x pos')) pos.line X.env = pure false := by rfl)
    (hf : X.fn x = true ∨ X.env.scope.names.lookup x = some .local := by first | exact .inl rfl | exact .inr rfl) : QS X T EX (.Assign [.Name x pos'] e pos) (sSet i f) :=
  PS.weak (ps_set (i := i) hN hi hx he hs hf) fun D σ H q => by
    obtain ⟨ρ, Γ, C, O, w, s, p⟩ := q
    exact ⟨ρ, Γ, C, O, w, s, PostG.bindS p fun d C1 v H1 Γ1 x1 w1 r1 p1 => p1 _ H1 Γ1 Ext.refl w1 ((s.ext w x1).set i r1)⟩
/-! ### targets -/
/-- a name's slot, or several in a row (a tuple of them) -/
inductive Tgt where
  | nm (i : Nat)
  | tp (l : List Tgt)
mutual
def Tgt.bind : Tgt → D → Env → Option Env
  | .nm i, d, ρ => some (ρ.set i (some d))
  | .tp l, .tup ds, ρ => Tgt.binds l ds ρ
  | .tp _, _, _ => none
def Tgt.binds : List Tgt → List D → Env → Option Env
  | [], [], ρ => some ρ
  | t :: ts, d :: ds, ρ => (t.bind d ρ).bind fun ρ => Tgt.binds ts ds ρ
  | _, _, _ => none
end
mutual
def Tgt.slots : Tgt → List Nat
  | .nm i => [i]
  | .tp l => Tgt.slotss l
def Tgt.slotss : List Tgt → List Nat
  | [] => []
  | t :: ts => t.slots ++ Tgt.slotss ts
end
/-- what a binding keeps: the slots that are not the target's -/
def Onl (vs : List Nat) (σ σ' : L2.St) : Prop := σ'.length = σ.length ∧ ∀ i, i ∉ vs → σ'[i]? = σ[i]?
theorem Onl.refl (vs : List Nat) (σ : L2.St) : Onl vs σ σ := ⟨rfl, fun _ _ => rfl⟩
theorem Onl.trans {vs ws : List Nat} {a b c : L2.St} (h : Onl vs a b) (h2 : Onl ws b c) : Onl (vs ++ ws) a c :=
  ⟨h2.1.trans h.1, fun i hi => (h2.2 i fun z => hi (List.mem_append_right _ z)).trans (h.2 i fun z => hi (List.mem_append_left _ z))⟩
def tG (K : PySem.W.Frag) (T : List (Addr × Str)) (g : D → Env → Option Env) (vs : List Nat) : TG := fun v σ H Q => ∃ Γ C O ρ ρ' d, WOk K T Γ C O H ∧ SlotsOk K (Bad Γ C O) Γ H σ ρ ∧ Rep K (Bad Γ C O) Γ H v d ∧ g d ρ = some ρ' ∧
  ∀ σ', SlotsOk K (Bad Γ C O) Γ H σ' ρ' → Onl vs σ σ' → Q σ' H
def tGs (K : PySem.W.Frag) (T : List (Addr × Str)) (g : List D → Env → Option Env) (vs : List Nat) : TGs := fun us σ H Q => ∃ Γ C O ρ ρ' ds, WOk K T Γ C O H ∧ SlotsOk K (Bad Γ C O) Γ H σ ρ ∧ RepA K (Bad Γ C O) Γ H us ds ∧ g ds ρ = some ρ' ∧
  ∀ σ', SlotsOk K (Bad Γ C O) Γ H σ' ρ' → Onl vs σ σ' → Q σ' H
def QG (X : Cx) (T : List (Addr × Str)) (tg : Expr) (t : Tgt) : Prop := PG X tg (tG X.K T t.bind t.slots)
def QGs (X : Cx) (T : List (Addr × Str)) (ts : List Expr) (l : List Tgt) : Prop := PGs X ts (tGs X.K T (Tgt.binds l) (Tgt.slotss l))
theorem PG.weak {X : Cx} {e : Expr} {t t' : TG} (h : PG X e t) (k : ∀ v σ H Q, t' v σ H Q → t v σ H Q) : PG X e t' := ⟨fun pins s σ H v u Q I r hw => h.run pins s σ H v u Q I r (k _ _ _ _ hw)⟩
theorem PGs.weak {X : Cx} {e : List Expr} {t t' : TGs} (h : PGs X e t) (k : ∀ v σ H Q, t' v σ H Q → t v σ H Q) : PGs X e t' := ⟨fun pins s σ H v u Q I r hw => h.run pins s σ H v u Q I r (k _ _ _ _ hw)⟩
theorem onl_set (i : Nat) (σ : L2.St) (v : Option V) : Onl [i] σ (σ.set i v) := ⟨by simp, fun j hj => List.getElem?_set_ne (fun z => hj (by simp [z]))⟩
theorem qg_name (i : Nat) {x : Str} {pos : Pos} (hN : X.N.Nodup) (hi : X.N[i]? = some x := by rfl) (hx : Loc X.env.scope x := by first | exact Or.inl rfl | exact Or.inr rfl)
    (hf : X.fn x = true ∨ X.env.scope.names.lookup x = some .local := by first | exact .inl rfl | exact .inr rfl) : QG X T (.Name x pos) (.nm i) :=
  PG.weak (pg_name (i := i) hN hi hx hf) fun v σ H Q q => by
    obtain ⟨Γ, C, O, ρ, ρ', d, w, s, r, e, k⟩ := q
    cases e
    exact k _ (s.set i r) (onl_set i σ _)
theorem qgs_nil : QGs X T [] [] := PGs.weak pgs_nil fun v σ H Q q => by
  obtain ⟨Γ, C, O, ρ, ρ', d, w, s, r, e, k⟩ := q
  cases r with
  | nil =>
    cases e
    exact ⟨rfl, k σ s (Onl.refl _ _)⟩
  | cons a b => cases e
theorem qgs_cons {e : Expr} {es : List Expr} {t : Tgt} {l : List Tgt} (h1 : QG X T e t) (h2 : QGs X T es l)
    (hs : (assignEach (e :: es) X.env).map (·.2) = assign e X.env :: (assignEach es X.env).map (·.2) := by rfl) : QGs X T (e :: es) (t :: l) :=
  PGs.weak (pgs_cons h1 h2 hs) fun v σ H Q q => by
    obtain ⟨Γ, C, O, ρ, ρ', d, w, s, r, e, k⟩ := q
    cases r with
    | nil => cases e
    | @cons v vs d ds a b =>
      obtain ⟨ρ1, e1, e2⟩ := Option.bind_eq_some_iff.mp (show (t.bind d ρ).bind (fun ρ => Tgt.binds l ds ρ) = some ρ' from e)
      refine ⟨v, vs, rfl, Γ, C, O, ρ, ρ1, d, w, s, a, e1, fun σ1 s1 o1 => ?_⟩
      exact ⟨Γ, C, O, ρ1, ρ', ds, w, s1, b, e2, fun σ2 s2 o2 => k σ2 s2 (o1.trans o2)⟩
theorem binds_length : ∀ {l : List Tgt} {ds : List D} {ρ ρ' : Env}, Tgt.binds l ds ρ = some ρ' → ds.length = l.length
  | [], [], _, _, _ => rfl
  | [], _ :: _, _, _, e => by cases e
  | _ :: _, [], _, _, e => by cases e
  | t :: ts, d :: ds, ρ, ρ', e => by
    obtain ⟨ρ1, e1, e2⟩ := Option.bind_eq_some_iff.mp (show (t.bind d ρ).bind (fun ρ => Tgt.binds ts ds ρ) = some ρ' from e)
    simp [binds_length e2]
theorem qg_tup {es : List Expr} {l : List Tgt} {k : Nat} {pos : Pos} (hc : X.calm = true) (h : QGs X T es l) (hl : (assignEach es X.env).length = l.length := by rfl) (hst : (assignEach es X.env).findIdx? (·.1) = none := by rfl) : QG X T (.Tuple es k pos) (.tp l) :=
  PG.weak (pg_tup (n := l.length) hc h hl hst) fun v σ H Q q => by
    obtain ⟨Γ, C, O, ρ, ρ', d, w, s, r, e, k⟩ := q
    cases r with
    | @tup a vs ds s1 r1 =>
      have e' : Tgt.binds l ds ρ = some ρ' := e
      exact ⟨a, vs, rfl, s1, by rw [r1.length]; exact binds_length e', Γ, C, O, ρ, ρ', ds, w, s, r1, e', k⟩
    | non => cases e
    | bl => cases e
    | int => cases e
    | str => cases e
    | opq => cases e
    | flst => cases e
    | lst => cases e
    | cel => cases e

def sAsg (t : Tgt) (f : DE) : DS := fun ρ C => (f ρ C).bindS fun d C => match t.bind d ρ with
  | some ρ' => .nx ρ' C
  | none => .stuck
theorem qs_asg {tg e : Expr} {t : Tgt} {f : DE} {pos : Pos} (he : QE X T EX e f) (hg : QG X T tg t) (hs : swapsWithSole [tg] e pos.line X.env = pure false := by rfl) (hw : swappedStores [tg] e X.env = pure none := by rfl) (h1 : (assignEach [tg] X.env).map (·.2) = [assign tg X.env] := by rfl) : QS X T EX (.Assign [tg] e pos) (sAsg t f) :=
  PS.weak (ps_asg he hg hs hw h1) fun D σ H q => by
    obtain ⟨ρ, Γ, C, O, w, s, p⟩ := q
    refine ⟨ρ, Γ, C, O, w, s, PostG.bindS p fun d C1 v H1 Γ1 x1 w1 r1 p1 => ?_⟩
    cases e : t.bind d ρ with
    | none => rw [e] at p1; exact p1.elim
    | some ρ' =>
      rw [e] at p1
      exact ⟨Γ1, C1, O, ρ, ρ', d, w1, s.ext w x1, r1, e, fun σ' s' _ => p1 σ' H1 Γ1 Ext.refl w1 s'⟩
/-! ### xs[i] = e, xs[i] += e -/
/-- the cell's items changed -/
def celPut (x : D) (C : Cells) (g : List D → Option (List D)) : Option Cells := match x with
  | .cel k => match C[k]? with
    | some (Cell.lst xs) => (g xs).map fun ys => C.set k (.lst ys)
    | _ => none
  | _ => none
theorem celPut_of {x : D} {C C' : Cells} {g : List D → Option (List D)} (e : celPut x C g = some C') : ∃ k xs ys, x = .cel k ∧ C[k]? = some (Cell.lst xs) ∧ g xs = some ys ∧ C' = C.set k (.lst ys) := by
  unfold celPut at e
  split at e
  · split at e
    · obtain ⟨ys, e1, e2⟩ := Option.map_eq_some_iff.mp e
      exact ⟨_, _, ys, rfl, by assumption, e1, e2.symm⟩
    · cases e
  · cases e
def setAt (i : Int) (d : D) (xs : List D) : Option (List D) := (ixN xs.length i).map fun j => xs.set j d
def sStore (fo fi fe : DE) : DS := fun ρ C => (fe ρ C).bindS fun d C => (fo ρ C).bindS fun x C => (fi ρ C).bindS fun y C => match y with
  | .int i => match celPut x C (setAt i d) with
    | some C' => .nx ρ C'
    | none => .stuck
  | _ => .stuck
theorem store_at {K : PySem.W.Frag} {Γ : List Addr} {C C' : Cells} {O : Addr → Prop} {H : Hp} {vx v : V} {x d : D} {i : Int} (w : WOk K T Γ C O H) (rx : Rep K (Bad Γ C O) Γ H vx x) (rv : Rep K (Bad Γ C O) Γ H v d) (e : celPut x C (setAt i d) = some C') :
    ∃ p vs j, vx = .ref p ∧ H p = some (.lst vs) ∧ ixN vs.length i = some j ∧ Ext Γ C H Γ C' (upd H p (.lst (vs.set j v))) ∧ WOk K T Γ C' O (upd H p (.lst (vs.set j v))) := by
  obtain ⟨k, xs, ys, rfl, hC, hg, rfl⟩ := celPut_of e
  cases rx with
  | cel ek =>
    obtain ⟨vs, e1, r1⟩ := w.cell _ _ _ ek hC
    obtain ⟨j, hj, rfl⟩ := Option.map_eq_some_iff.mp hg
    exact ⟨_, vs, j, rfl, e1, by rw [r1.length]; exact hj, ext_write w ek hC, w.write ek hC (r1.set j rv)⟩
theorem qs_store {o i e : Expr} {fo fi fe : DE} {pos tpos : Pos} (he : QE X T EX e fe) (ho : QE X T EX o fo) (hi : QE X T EX i fi) (hs : swapsWithSole [.Subscript o i tpos] e pos.line X.env = pure false := by rfl) (hw : swappedStores [.Subscript o i tpos] e X.env = pure none := by rfl)
    (h1 : (assignEach [.Subscript o i tpos] X.env).map (·.2) = [assign (.Subscript o i tpos) X.env] := by rfl)
    (ha : ∀ v, assign (.Subscript o i tpos) X.env v = (do
      let ov ← holding [v] (eval o X.env)
      let iv ← holding [v, ov] (eval i X.env)
      standAt tpos
      holding [v, ov, iv] (setItem ov iv v)
      release [v, ov, iv] []) := by intro _; rfl) :
    QS X T EX (.Assign [.Subscript o i tpos] e pos) (sStore fo fi fe) :=
  PS.weak (ps_asg he (pg_sub ho hi set_list ha) hs hw h1) fun D σ H q => by
    obtain ⟨ρ, Γ, C, O, w, s, p⟩ := q
    refine ⟨ρ, Γ, C, O, w, s, PostG.bindS p fun d C1 v H1 Γ1 x1 w1 r1 p1 => ?_⟩
    refine ⟨ρ, Γ1, C1, O, w1, s.ext w x1, PostG.bindS p1 fun x C2 v2 H2 Γ2 x2 w2 r2 p2 => ?_⟩
    refine ⟨ρ, Γ2, C2, O, w2, (s.ext w x1).ext w1 x2, PostG.bindS p2 fun y C3 v3 H3 Γ3 x3 w3 r3 p3 => ?_⟩
    have s3 := ((s.ext w x1).ext w1 x2).ext w2 x3
    split at p3
    · rename_i k
      cases r3
      cases e : celPut x C3 (setAt k d) with
      | none => rw [e] at p3; exact p3.elim
      | some C' =>
        rw [e] at p3
        obtain ⟨a, vs, j, rfl, h1, h2, x4, w4⟩ := store_at w3 (r2.ext w2 x3) ((r1.ext w1 x2).ext w2 x3) e
        exact ⟨a, vs, k, j, rfl, rfl, h1, h2, p3 σ _ Γ3 x4 w4 (s3.ext w3 x4)⟩
    · exact p3.elim
def rGetL (K : PySem.W.Frag) : V → V → Hp → VK → Prop := fun x y H Q => ∃ p xs i v, x = .ref p ∧ y = .int i ∧ SqL K H p xs ∧ atI xs i = some v ∧ Q v H
theorem get_list : PGet X (rGetL X.K) := by
  intro pins s σ H x y v u Q I rx ry h
  obtain ⟨p, xs, i, z, rfl, rfl, hq, he, q⟩ := h
  cases rx
  obtain ⟨t, rfl⟩ := ry
  obtain ⟨its, r, pl, hz⟩ := I.list hq
  obtain ⟨j, h1, h2, h3, h4, h5⟩ := atI_get he
  obtain ⟨w, ew, rw'⟩ := r.get h2
  have hl := r.length
  have hn := line63
  have fin : EP X pins σ Q w s := ⟨z, H, I, rw', q⟩
  by_cases h0 : 0 ≤ i
  · have hj : i.toNat = j := by
      rw [seqIndex_of h0 h5] at h1
      exact Option.some.inj h1
    exact wpAny_getItem_list pl.isList h0 (by omega) (by rw [hj]; simpa using ew) fin
  · have hj : (i + (its.toArray.size : Int)).toNat = j := by
      rw [seqIndex_neg (by omega) h4] at h1
      rw [List.size_toArray, ← hl]
      exact Option.some.inj h1
    exact wpAny_getItem_list_neg pl.isList (by omega) (by rw [List.size_toArray] <;> omega) (by omega) (by rw [hj]; simpa using ew) fin
def sAug (g : Int → Int → Int) (fo fi fe : DE) : DS := fun ρ C => (fo ρ C).bindS fun x C => (fi ρ C).bindS fun y C => match y with
  | .int i => match (x.seq C).bind fun xs => atI xs i with
    | some (.int a) => (fe ρ C).bindS fun z C => match z with
      | .int b => match celPut x C (setAt i (.int (g a b))) with
        | some C' => .nx ρ C'
        | none => .stuck
      | _ => .stuck
    | _ => .stuck
  | _ => .stuck
theorem aug_ok {op : Operator} {g : Int → Int → Int} (hp : PIp X op (ipI g)) {o i e : Expr} {fo fi fe : DE} {pos tpos : Pos} (ho : QE X T EX o fo) (hi : QE X T EX i fi) (he : QE X T EX e fe)
    (ha : ∀ ov iv new, augStore i ov iv new = (do holding [new, ov, iv] (setItem ov iv new); release [new, ov, iv] []; pure .next) := by intros; rfl) :
    QS X T EX (.AugAssign (.Subscript o i tpos) op e pos) (sAug g fo fi fe) :=
  PS.weak (ps_augS ho hi get_list he hp set_list ha) fun D σ H q => by
    obtain ⟨ρ, Γ, C, O, w, s, p⟩ := q
    refine ⟨ρ, Γ, C, O, w, s, PostG.bindS p fun x C1 v1 H1 Γ1 x1 w1 r1 p1 => ?_⟩
    refine ⟨ρ, Γ1, C1, O, w1, s.ext w x1, PostG.bindS p1 fun y C2 v2 H2 Γ2 x2 w2 r2 p2 => ?_⟩
    split at p2
    · rename_i k
      split at p2
      · rename_i a ea
        obtain ⟨xs, e1, e2⟩ := Option.bind_eq_some_iff.mp ea
        obtain ⟨pa, vs, rfl, h1, ra⟩ := (r1.ext w1 x2).seq w2 e1
        obtain ⟨va, e3, r3⟩ := atI_rep ra e2
        cases r2
        cases r3
        refine ⟨pa, vs, k, _, rfl, rfl, SqL.of h1, e3, ?_⟩
        refine ⟨ρ, Γ2, C2, O, w2, (s.ext w x1).ext w1 x2, PostG.bindS p2 fun z C3 v3 H3 Γ3 x3 w3 r3 p3 => ?_⟩
        have s3 := ((s.ext w x1).ext w1 x2).ext w2 x3
        split at p3
        · rename_i b
          cases r3
          refine ⟨_, _, rfl, rfl, ?_⟩
          cases e : celPut x C3 (setAt k (.int (g a b))) with
          | none => rw [e] at p3; exact p3.elim
          | some C' =>
            rw [e] at p3
            obtain ⟨a', vs', j, ev, h1', h2', x4, w4⟩ := store_at (v := .int (g a b)) w3 ((r1.ext w1 x2).ext w2 x3) (.int _) e
            cases ev
            exact ⟨_, vs', k, j, rfl, rfl, h1', h2', p3 σ _ Γ3 x4 w4 (s3.ext w3 x4)⟩
        · exact p3.elim
      · exact p2.elim
    · exact p2.elim
theorem qs_augAdd {o i e : Expr} {fo fi fe : DE} {pos tpos : Pos} (ho : QE X T EX o fo) (hi : QE X T EX i fi) (he : QE X T EX e fe)
    (ha : ∀ ov iv new, augStore i ov iv new = (do holding [new, ov, iv] (setItem ov iv new); release [new, ov, iv] []; pure .next) := by intros; rfl) :
    QS X T EX (.AugAssign (.Subscript o i tpos) .Add e pos) (sAug (fun a b => a + b) fo fi fe) := aug_ok ip_add ho hi he ha
theorem qs_augSub {o i e : Expr} {fo fi fe : DE} {pos tpos : Pos} (ho : QE X T EX o fo) (hi : QE X T EX i fi) (he : QE X T EX e fe)
    (ha : ∀ ov iv new, augStore i ov iv new = (do holding [new, ov, iv] (setItem ov iv new); release [new, ov, iv] []; pure .next) := by intros; rfl) :
    QS X T EX (.AugAssign (.Subscript o i tpos) .Sub e pos) (sAug (fun a b => a - b) fo fi fe) := aug_ok ip_sub ho hi he ha
/-! ### methods of a cell -/
def eMth (g : List D → List D → Option (List D × D)) (fo : DE) (fa : DA) : DE := fun ρ C => (fo ρ C).bind fun x C => match x with
  | .cel k => match C[k]? with
    | some (Cell.lst _) => (fa ρ C).bind fun ds C => match C[k]? with
      | some (Cell.lst xs) => match g xs ds with
        | some (ys, d) => .ok d (C.set k (.lst ys))
        | none => .stuck
      | _ => .stuck
    | _ => .stuck
  | _ => .stuck
/-- a method by values: the list at l, the arguments -/
def QMthR (X : Cx) (r : V → List V → Hp → VK → Prop) (g : List D → List D → Option (List D × D)) : Prop := ∀ (T : List (Addr × Str)) l vs xs as ds ys d Γ C O H (Q : VK), g xs ds = some (ys, d) → WOk X.K T Γ C O H → H l = some (.lst vs) → RepA X.K (Bad Γ C O) Γ H vs xs → RepA X.K (Bad Γ C O) Γ H as ds →
  (∀ ws v, RepA X.K (Bad Γ C O) Γ H ws ys → Rep X.K (Bad Γ C O) Γ H v d → Q v (upd H l (.lst ws))) → r (.ref l) as H Q
theorem mth_ok {g : List D → List D → Option (List D × D)} {r : V → List V → Hp → VK → Prop} {fo : DE} {fa : DA} (hr : QMthR X r g) {σ : L2.St} {H : Hp} {Q : VK} (q : tE X.K T EX (eMth g fo fa) σ H Q) :
    tBM X.K "list" r (tE X.K T EX fo) (tA X.K T EX fa) σ H Q := by
  obtain ⟨ρ, Γ, C, O, w, s, p⟩ := q
  refine ⟨ρ, Γ, C, O, w, s, PostG.bind p fun x C1 v1 H1 Γ1 x1 w1 r1 p1 => ?_⟩
  split at p1
  · rename_i k
    cases r1 with
    | @cel a _ ek =>
      split at p1
      · rename_i xs0 e0
        obtain ⟨vs0, f1, f2⟩ := w1.cell _ _ _ ek e0
        refine ⟨.inl ⟨rfl, vs0, SqL.of f1⟩, ρ, Γ1, C1, O, w1, s.ext w x1, PostG.bind p1 fun ds C2 as H2 Γ2 x2 w2 r2 p2 => ?_⟩
        have ek2 := prefix_get x2.pre ek
        split at p2
        · rename_i xs e2
          split at p2
          · rename_i ys d eg
            obtain ⟨vs, h1, ra⟩ := w2.cell _ _ _ ek2 e2
            exact hr T a vs xs as ds ys d Γ2 C2 O H2 Q eg w2 h1 ra r2 fun ws v rw' rv => p2 v _ Γ2 (ext_write w2 ek2 e2) (w2.write ek2 e2 rw') (rv.ext w2 (ext_write w2 ek2 e2))
          · exact p2.elim
        · exact p2.elim
      · exact p1.elim
  · exact p1.elim
theorem mth0_ok {g : List D → List D → Option (List D × D)} {r : V → List V → Hp → VK → Prop} {fo : DE} (hr : QMthR X r g) {σ : L2.St} {H : Hp} {Q : VK} (q : tE X.K T EX (eMth g fo aNil) σ H Q) :
    tBM0 X.K "list" r (tE X.K T EX fo) σ H Q := by
  obtain ⟨ρ, Γ, C, O, w, s, p⟩ := q
  refine ⟨ρ, Γ, C, O, w, s, PostG.bind p fun x C1 v1 H1 Γ1 x1 w1 r1 p1 => ?_⟩
  split at p1
  · rename_i k
    cases r1 with
    | @cel a _ ek =>
      split at p1
      · rename_i xs0 e0
        obtain ⟨vs0, f1, f2⟩ := w1.cell _ _ _ ek e0
        refine ⟨.inl ⟨rfl, vs0, SqL.of f1⟩, ?_⟩
        have p2 : PostG X.K T EX O Γ1 C1 H1 (Rep X.K) (match C1[k]? with
          | some (Cell.lst xs) => match g xs [] with
            | some (ys, d) => .ok d (C1.set k (.lst ys))
            | none => .stuck
          | _ => .stuck) Q := p1
        rw [e0] at p2
        have p3 : PostG X.K T EX O Γ1 C1 H1 (Rep X.K) (match g xs0 [] with
            | some (ys, d) => .ok d (C1.set k (.lst ys))
            | none => .stuck) Q := p2
        split at p3
        · rename_i ys d eg
          exact hr T a vs0 xs0 [] [] ys d Γ1 C1 O H1 Q eg w1 f1 f2 .nil fun ws v rw' rv => p3 v _ Γ1 (ext_write w1 ek e0) (w1.write ek e0 rw') (rv.ext w1 (ext_write w1 ek e0))
        · exact p3.elim
      · exact p1.elim
  · exact p1.elim
def mAppend : List D → List D → Option (List D × D) := fun xs ds => match ds with
  | [d] => if xs.length < sizeLine then some (xs ++ [d], .non) else none
  | _ => none
def mInsert : List D → List D → Option (List D × D) := fun xs ds => match ds with
  | [.int i, d] => if decide (xs.length < sizeLine ∧ 0 ≤ i ∧ i < 2 ^ 63) then some (xs.take i.toNat ++ [d] ++ xs.drop i.toNat, .non) else none
  | _ => none
def mPop : List D → List D → Option (List D × D) := fun xs ds => match ds with
  | [] => (xs[xs.length - 1]?).map fun d => (xs.dropLast, d)
  | _ => none
theorem app_r : QMthR X rAppend mAppend := fun T l vs xs as ds ys d Γ C O H Q e w h r ra k => by
  unfold mAppend at e
  split at e
  · split at e
    · cases e
      obtain ⟨v, rfl, rv⟩ := rep1 ra
      exact ⟨l, vs, v, rfl, rfl, h, by rw [r.length]; assumption, k _ .non (r.snoc rv) .non⟩
    · cases e
  · cases e
theorem ins_r : QMthR X (fun x vs H Q => ∃ (l : Addr) (xs : List V) (i : Int) (y : V), x = .ref l ∧ vs = [.int i, y] ∧ H l = some (.lst xs) ∧ xs.length < sizeLine ∧ 0 ≤ i ∧ i < 2 ^ 63 ∧
    Q .non (upd H l (.lst (xs.take i.toNat ++ [y] ++ xs.drop i.toNat)))) mInsert := fun T l vs xs as ds ys d Γ C O H Q e w h r ra k => by
  unfold mInsert at e
  split at e
  · split at e
    · cases e
      rename_i hz
      have hz := of_decide_eq_true hz
      obtain ⟨v, v2, rfl, rv, rv2⟩ := rep2 ra
      cases rv
      exact ⟨l, vs, _, v2, rfl, rfl, h, by rw [r.length]; exact hz.1, hz.2.1, hz.2.2, k _ .non (((r.take _).append (.cons rv2 .nil)).append (r.drop _)) .non⟩
    · cases e
  · cases e
theorem RepA.dropLast {K : PySem.W.Frag} {B : Addr → Prop} {Γ : List Addr} {H : Hp} {vs : List V} {ds : List D} (r : RepA K B Γ H vs ds) : RepA K B Γ H vs.dropLast ds.dropLast := by
  rw [List.dropLast_eq_take, List.dropLast_eq_take, r.length]
  exact r.take _
theorem pop_r : QMthR X rPop mPop := fun T l vs xs as ds ys d Γ C O H Q e w h r ra k => by
  unfold mPop at e
  split at e
  · obtain ⟨x, e1, e2⟩ := Option.map_eq_some_iff.mp e
    cases e2
    cases ra
    obtain ⟨v, e3, r3⟩ := r.get e1
    exact ⟨l, vs, v, rfl, rfl, h, by rw [r.length]; exact e3, k _ v r.dropLast r3⟩
  · cases e
section
variable {o e e2 : Expr} {fo : DE} {fa : DA} {apos cpos : Pos}
theorem qe_append (ho : QE X T EX o fo) (ha : QA X T EX [e] fa) (hbase : attributeBase o "append" X.env (eval o X.env) = eval o X.env := by rfl)
    (hfew : ((backTo cpos (starEach [e] X.env)).all (fun x => !x.1) && (backToKw cpos (keywordEach [] X.env)).all (fun x => x.1.isSome)
      && decide ([e].length + ([] : List Keyword).length + (if ([] : List Keyword).isEmpty then 0 else 1) < 30)) = true := by rfl)
    (hline : (apos.endLine == cpos.line) = true := by rfl) (hs : starEach [e] X.env = (false, eval e X.env) :: starEach [] X.env := by rfl) (hplain : (backTo cpos (starEach [] X.env)).any (·.1) = false := by rfl) :
    QE X T EX (.Call (.Attribute o "append" apos) [e] [] cpos) (eMth mAppend fo fa) :=
  PE.weak (pe_bm PySem.F.plainAttrs_list PySem.F.slot_list_append PySem.F.type_list_append mt_append ho ha hbase hfew hline hs hplain) fun σ H Q => mth_ok app_r
theorem qe_insert (ho : QE X T EX o fo) (ha : QA X T EX [e, e2] fa) (hbase : attributeBase o "insert" X.env (eval o X.env) = eval o X.env := by rfl)
    (hfew : ((backTo cpos (starEach [e, e2] X.env)).all (fun x => !x.1) && (backToKw cpos (keywordEach [] X.env)).all (fun x => x.1.isSome)
      && decide ([e, e2].length + ([] : List Keyword).length + (if ([] : List Keyword).isEmpty then 0 else 1) < 30)) = true := by rfl)
    (hline : (apos.endLine == cpos.line) = true := by rfl) (hs : starEach [e, e2] X.env = (false, eval e X.env) :: starEach [e2] X.env := by rfl) (hplain : (backTo cpos (starEach [e2] X.env)).any (·.1) = false := by rfl) :
    QE X T EX (.Call (.Attribute o "insert" apos) [e, e2] [] cpos) (eMth mInsert fo fa) :=
  PE.weak (pe_bm PySem.F.plainAttrs_list PySem.F.slot_list_insert PySem.F.type_list_insert mt_insert ho ha hbase hfew hline hs hplain) fun σ H Q => mth_ok ins_r
theorem qe_pop (ho : QE X T EX o fo) (hbase : attributeBase o "pop" X.env (eval o X.env) = eval o X.env := by rfl) (hline : (apos.endLine == cpos.line) = true := by rfl) :
    QE X T EX (.Call (.Attribute o "pop" apos) [] [] cpos) (eMth mPop fo aNil) :=
  PE.weak (pe_bm0 PySem.F.plainAttrs_list PySem.F.slot_list_pop PySem.F.type_list_pop mt_pop ho hbase hline) fun σ H Q => mth0_ok pop_r
end
/-! ### a cell is frozen -/
def frz (d : D) (C : Cells) : Option (D × Cells) := match d with
  | .cel k => match C[k]? with
    | some (Cell.lst xs) => if D.ncs xs then some (.lst xs, C.set k .dead) else none
    | _ => none
  | d => if d.nc then some (d, C) else none
def eFrz (f : DE) : DE := fun ρ C => (f ρ C).bind fun d C => match frz d C with
  | some (d, C) => .ok d C
  | none => .stuck
theorem al_dead {Γ : List Addr} {C : Cells} {k : Nat} {a : Addr} (h : Al Γ (C.set k .dead) a) : Al Γ C a ∧ ∃ i : Nat, i ≠ k ∧ Γ[i]? = some a := by
  obtain ⟨i, xs, e1, e2⟩ := h
  by_cases hi : k = i
  · subst hi
    by_cases hl : k < C.length
    · rw [List.getElem?_set_self hl] at e2; cases e2
    · rw [List.getElem?_eq_none (by simpa using hl)] at e2; cases e2
  · rw [List.getElem?_set_ne hi] at e2
    exact ⟨⟨i, xs, e1, e2⟩, i, fun z => hi z.symm, e1⟩
theorem frz_ok {K : PySem.W.Frag} {Γ : List Addr} {C C' : Cells} {O : Addr → Prop} {H : Hp} {v : V} {d d' : D} (w : WOk K T Γ C O H) (r : Rep K (Bad Γ C O) Γ H v d) (e : frz d C = some (d', C')) :
    Ext Γ C H Γ C' H ∧ WOk K T Γ C' O H ∧ Rep K (Bad Γ C' O) Γ H v d' := by
  have plain : (if d.nc then some (d, C) else none) = some (d', C') → Ext Γ C H Γ C' H ∧ WOk K T Γ C' O H ∧ Rep K (Bad Γ C' O) Γ H v d' := fun e => by
    split at e
    · cases e
      exact ⟨Ext.refl, w, r⟩
    · cases e
  cases r with
  | @cel a k ek =>
    have e' : (match C[k]? with
      | some (Cell.lst xs) => if D.ncs xs then some (D.lst xs, C.set k .dead) else none
      | _ => none) = some (d', C') := e
    split at e'
    · rename_i xs hC
      split at e'
      · cases e'
        obtain ⟨vs, e1, r1⟩ := w.cell _ _ _ ek hC
        have hb : ∀ b, Bad Γ (C.set k .dead) O b → Bad Γ C O b := fun b z => z.imp (fun z => (al_dead z).1) id
        refine ⟨⟨List.prefix_refl _, fun _ _ _ e _ => e, fun _ h => h, fun b z => .inl (al_dead z).1⟩, ⟨by rw [List.length_set]; exact w.len, w.nd, fun i b ys e2 e3 => ?_, w.there, w.ot, w.dj, w.tabs⟩, .lst (fun z => ?_) e1 (r1.mono hb)⟩
        · by_cases hi : k = i
          · subst hi
            rw [List.getElem?_set_self (List.getElem?_eq_some_iff.mp hC).1] at e3
            cases e3
          · rw [List.getElem?_set_ne hi] at e3
            obtain ⟨us, e4, r4⟩ := w.cell i b ys e2 e3
            exact ⟨us, e4, r4.mono hb⟩
        · rcases z with z | z
          · obtain ⟨_, i, hi, e2⟩ := al_dead z
            exact hi (nodup_at w.nd e2 ek)
          · exact w.djA ⟨k, xs, ek, hC⟩ z
      · cases e'
    · cases e'
  | non => exact plain e
  | bl => exact plain e
  | int => exact plain e
  | str => exact plain e
  | opq => exact plain e
  | flst => exact plain e
  | lst nb e1 ra => exact plain e
  | tup s1 ra => exact plain e
theorem qe_frz {e : Expr} {f : DE} (h : QE X T EX e f) : QE X T EX e (eFrz f) := PE.weak h fun σ H Q q => by
  obtain ⟨ρ, Γ, C, O, w, s, p⟩ := q
  refine ⟨ρ, Γ, C, O, w, s, PostG.bind p fun d C1 v H1 Γ1 x1 w1 r1 p1 => ?_⟩
  cases e : frz d C1 with
  | none => rw [e] at p1; exact p1.elim
  | some z =>
    obtain ⟨d', C'⟩ := z
    rw [e] at p1
    obtain ⟨x2, w2, r2⟩ := frz_ok w1 r1 e
    exact p1 v H1 Γ1 x2 w2 r2
end
end Qv

/-! ## Q8 -/
set_option Elab.async false
set_option linter.all false
set_option maxRecDepth 100000
/-! Q8: what is walked; for; comprehensions. -/
namespace Qv
open PySem PySem.Spec PyProof.Rows L2

section
variable {K : PySem.W.Frag} {T : List (Addr × Str)} {Γ Γ' : List Addr} {C C' : Cells} {O O' : Addr → Prop} {H H' : Hp}
/-- as Rep.ext, with more set apart -/
theorem extO_l (x : Ext Γ C H Γ' C' H') (ho : ∀ a, O' a → O a ∨ ¬ NT H a) (a : Addr) (vs : List V) (nb : ¬ Bad Γ C O a) (e : H a = some (.lst vs)) : ¬ Bad Γ' C' O' a ∧ H' a = some (.lst vs) := by
  refine ⟨fun z => ?_, x.keep _ _ (fun z => nb (.inl z)) e fun ps q => by cases q⟩
  rcases z with z | z
  · rcases x.new a z with z | z
    · exact nb (.inl z)
    · exact z (.lst e)
  · rcases ho a z with z | z
    · exact nb (.inr z)
    · exact z (.lst e)
theorem Rep.extO (w : WOk K T Γ C O H) (x : Ext Γ C H Γ' C' H') (ho : ∀ a, O' a → O a ∨ ¬ NT H a) {v : V} {d : D} (r : Rep K (Bad Γ C O) Γ H v d) : Rep K (Bad Γ' C' O') Γ' H' v d :=
  r.move (extO_l x ho) (fun a vs s => w.tupKeep x s) (fun i a e => prefix_get x.pre e) fun p o e h1 h2 => w.pinKeep x e h1 h2
theorem RepA.extO (w : WOk K T Γ C O H) (x : Ext Γ C H Γ' C' H') (ho : ∀ a, O' a → O a ∨ ¬ NT H a) {v : List V} {d : List D} (r : RepA K (Bad Γ C O) Γ H v d) : RepA K (Bad Γ' C' O') Γ' H' v d :=
  r.move (extO_l x ho) (fun a vs s => w.tupKeep x s) (fun i a e => prefix_get x.pre e) fun p o e h1 h2 => w.pinKeep x e h1 h2
theorem SlotsOk.extO (w : WOk K T Γ C O H) (x : Ext Γ C H Γ' C' H') (ho : ∀ a, O' a → O a ∨ ¬ NT H a) {σ : L2.St} {ρ : Env} (s : SlotsOk K (Bad Γ C O) Γ H σ ρ) : SlotsOk K (Bad Γ' C' O') Γ' H' σ ρ :=
  ⟨s.1, fun i d e => by
    obtain ⟨v, e1, r⟩ := s.2 i d e
    exact ⟨v, e1, r.extO w x ho⟩⟩
end

/-- J walks ds, from (Γ, C, H) on -/
def Walks (K : PySem.W.Frag) (T : List (Addr × Str)) (O : Addr → Prop) (Γ : List Addr) (C : Cells) (H : Hp) (J : It) (ds : List D) : Prop :=
  ∀ (i : Nat) (Γ' : List Addr) (C' : Cells) (H' : Hp) (O' : Addr → Prop), (∀ a, O' a → O a ∨ ¬ NT H a) → Ext Γ C H Γ' C' H' → WOk K T Γ' C' O' H' →
    (∀ d, ds[i]? = some d → J.go i H' ∧ ∀ x H'', J.yld i H' x H'' → Ext Γ' C' H' Γ' C' H'' ∧ WOk K T Γ' C' O' H'' ∧ (∀ a, H'' a = none → H' a = none) ∧ (∀ a o, H' a = some o → H'' a = some o) ∧ Rep K (Bad Γ' C' O') Γ' H'' x d) ∧ (ds.length ≤ i → J.stop i H')
def PostI (K : PySem.W.Frag) (T : List (Addr × Str)) (EX : XK) (O : Addr → Prop) (Γ : List Addr) (C : Cells) (H : Hp) (o : Out (List D)) (R : It → Hp → Prop) : Prop := match o with
  | .ok ds C' => ∀ J H' Γ', Ext Γ C H Γ' C' H' → WOk K T Γ' C' O H' → Walks K T O Γ' C' H' J ds → R J H'
  | .exn x C' => ∀ u dd H' Γ', Ext Γ C H Γ' C' H' → WOk K T Γ' C' O H' → ExRep K (Bad Γ' C' O) Γ' H' u dd x → EX u dd H'
  | .stuck => False
def tI (K : PySem.W.Frag) (T : List (Addr × Str)) (EX : XK) (f : DA) : TI := fun σ H R => ∃ ρ Γ C O, WOk K T Γ C O H ∧ SlotsOk K (Bad Γ C O) Γ H σ ρ ∧ PostI K T EX O Γ C H (f ρ C) R
def QI (X : Cx) (T : List (Addr × Str)) (EX : XK) (tg iter : Expr) (f : DA) : Prop := PI X tg iter (tI X.K T EX f)
theorem PI.weak {X : Cx} {tg e : Expr} {t t' : TI} (h : PI X tg e t) (k : ∀ σ H Q, t' σ H Q → t σ H Q) : PI X tg e t' := ⟨fun pins s σ H R I hw => h.run pins s σ H R I (k _ _ _ hw)⟩
section
variable {X : Cx} {T : List (Addr × Str)} {EX : XK}
theorem PostI.bind {α β : Type} {rel : (Addr → Prop) → List Addr → Hp → β → α → Prop} {O : Addr → Prop} {Γ : List Addr} {C : Cells} {H : Hp} {o : Out α} {f : α → Cells → Out (List D)} {Q : β → Hp → Prop} {R : It → Hp → Prop}
    (h : PostI X.K T EX O Γ C H (o.bind f) R)
    (k : ∀ d C' v H' Γ', Ext Γ C H Γ' C' H' → WOk X.K T Γ' C' O H' → rel (Bad Γ' C' O) Γ' H' v d → PostI X.K T EX O Γ' C' H' (f d C') R → Q v H') : PostG X.K T EX O Γ C H rel o Q := by
  cases o with
  | ok d C1 =>
    intro v H' Γ' x w r
    refine k d C1 v H' Γ' x w r ?_
    have h' : PostI X.K T EX O Γ C H (f d C1) R := h
    cases e : f d C1 with
    | ok xs C2 => rw [e] at h'; exact fun J H2 Γ2 x2 w2 wk => h' J H2 Γ2 (x.trans x2) w2 wk
    | exn y C2 => rw [e] at h'; exact fun u dd H2 Γ2 x2 w2 r2 => h' u dd H2 Γ2 (x.trans x2) w2 r2
    | stuck => rw [e] at h'; exact h'
  | exn e C1 => exact h
  | stuck => exact h
/-! ### lists and tuples -/
theorem walks_list {O : Addr → Prop} {Γ : List Addr} {C : Cells} {H : Hp} {a : Addr} {vs : List V} {ds : List D} (w : WOk X.K T Γ C O H) (nb : ¬ Bad Γ C O a) (e : H a = some (.lst vs)) (r : RepA X.K (Bad Γ C O) Γ H vs ds) : Walks X.K T O Γ C H (Itl X.K a) ds :=
  fun i Γ' C' H' O' ho x w' => by
    obtain ⟨_, e'⟩ := extO_l x ho a vs nb e
    have r' := r.extO w x ho
    refine ⟨fun d hd => ?_, fun hi => ⟨vs, SqL.of e', by rw [r'.length]; exact hi⟩⟩
    obtain ⟨v, hv, rv⟩ := r'.get hd
    refine ⟨⟨vs, v, SqL.of e', hv⟩, fun y H'' hy => ?_⟩
    obtain ⟨e1, h1⟩ := hy
    subst e1
    have := h1 vs (SqL.of e')
    rw [hv] at this
    cases this
    exact ⟨Ext.refl, w', fun _ h => h, fun _ _ h => h, rv⟩
theorem walks_flst {O : Addr → Prop} {Γ : List Addr} {C : Cells} {H : Hp} {a : Addr} {vs : List V} {ds : List D} (w : WOk X.K T Γ C O H) (e : SqF X.K H a vs) (r : RepA X.K (Bad Γ C O) Γ H vs ds) : Walks X.K T O Γ C H (Itl X.K a) ds :=
  fun i Γ' C' H' O' ho x w' => by
    have e' : SqF X.K H' a vs := e.elim (fun ⟨o, e⟩ => .inl ⟨o, w.pinKeep x e (fun _ z => by cases z) fun _ z => by cases z⟩) .inr
    have r' := r.extO w x ho
    refine ⟨fun d hd => ?_, fun hi => ⟨vs, e'.sq, by rw [r'.length]; exact hi⟩⟩
    obtain ⟨v, hv, rv⟩ := r'.get hd
    refine ⟨⟨vs, v, e'.sq, hv⟩, fun y H'' hy => ?_⟩
    obtain ⟨e1, h1⟩ := hy
    subst e1
    have := h1 vs e'.sq
    rw [hv] at this
    cases this
    exact ⟨Ext.refl, w', fun _ h => h, fun _ _ h => h, rv⟩
theorem walks_tup {O : Addr → Prop} {Γ : List Addr} {C : Cells} {H : Hp} {a : Addr} {vs : List V} {ds : List D} (w : WOk X.K T Γ C O H) (e : SqT X.K H a vs) (r : RepA X.K (Bad Γ C O) Γ H vs ds) (inj : ∀ H' ws, SqT X.K H' a vs → SqT X.K H' a ws → ws = vs) : Walks X.K T O Γ C H (Itt X.K a) ds :=
  fun i Γ' C' H' O' ho x w' => by
    have e' := w.tupKeep x e
    have r' := r.extO w x ho
    refine ⟨fun d hd => ?_, fun hi => ⟨vs, e', by rw [r'.length]; exact hi⟩⟩
    obtain ⟨v, hv, rv⟩ := r'.get hd
    refine ⟨⟨vs, v, e', hv⟩, fun y H'' hy => ?_⟩
    obtain ⟨e1, h1⟩ := hy
    subst e1
    have := h1 vs e'
    rw [hv] at this
    cases this
    exact ⟨Ext.refl, w', fun _ h => h, fun _ _ h => h, rv⟩
/-- a value's items (a cell is frozen first) -/
def iSeq (f : DE) : DA := fun ρ C => (f ρ C).bind fun x C => match x with
  | .lst xs => .ok xs C
  | .tup xs => .ok xs C
  | .flst xs => .ok xs C
  | _ => .stuck
theorem qi_seq {tg l : Expr} {f : DE} (hl : QE X T EX l f) : QI X T EX tg l (iSeq f) := by
  refine ⟨fun pins s σ H R I h => ?_⟩
  obtain ⟨ρ, Γ, C, O, w, sl, p⟩ := h
  refine thn (hl.run pins s σ H (fun x H1 => (∃ a, x = .ref a ∧ (∃ xs, SqL X.K H1 a xs) ∧ R (Itl X.K a) H1) ∨ (∃ a, x = .ref a ∧ (∃ xs, SqT X.K H1 a xs) ∧ R (Itt X.K a) H1)) I ⟨ρ, Γ, C, O, w, sl, PostI.bind p fun d C1 v H1 Γ1 x1 w1 r1 p1 => ?_⟩) fun v s1 ⟨x, H1, I1, r1, q1⟩ => ?_
  · cases r1 with
    | @lst a vs ds nb e ra => exact .inl ⟨a, rfl, ⟨vs, SqL.of e⟩, p1 _ H1 Γ1 Ext.refl w1 (walks_list w1 nb e ra)⟩
    | @tup a vs ds e ra =>
      refine .inr ⟨a, rfl, ⟨vs, e⟩, p1 _ H1 Γ1 Ext.refl w1 fun i Γ' C' H' O' ho x w' => ?_⟩
      have e' := w1.tupKeep x e
      have r' := ra.extO w1 x ho
      refine ⟨fun d hd => ?_, fun hi => ⟨vs, e', by rw [r'.length]; exact hi⟩⟩
      obtain ⟨v, hv, rv⟩ := r'.get hd
      refine ⟨⟨vs, v, e', hv⟩, fun y H'' hy => ?_⟩
      obtain ⟨e1, h1⟩ := hy
      subst e1
      have := h1 vs e'
      rw [hv] at this
      cases this
      exact ⟨Ext.refl, w', fun _ h => h, fun _ _ h => h, rv⟩
    | non => exact p1.elim
    | bl => exact p1.elim
    | int => exact p1.elim
    | str => exact p1.elim
    | opq => exact p1.elim
    | @flst a vs ds e ra => exact .inl ⟨a, rfl, ⟨vs, e.sq⟩, p1 _ H1 Γ1 Ext.refl w1 (walks_flst w1 e ra)⟩
    | cel => exact p1.elim
  · rcases q1 with ⟨a, e, ⟨xs, hq⟩, q⟩ | ⟨a, e, ⟨xs, hq⟩, q⟩
    · subst e
      cases r1
      obtain ⟨its, rv, p, hz⟩ := I1.list hq
      refine wpAny_pyIter_list p.isList ?_
      refine ⟨s1.heap.objs.size, [s1.heap.objs.size], _, _, H1, rfl, I1.kept (t' := s1.toks) fun b o e => Heap.get?_push_of_some _ e, turn_list a _, ⟨_, Heap.get?_push_size _ rfl, rfl, rfl⟩, fun b hb => ?_, q⟩
      have e : b = s1.heap.objs.size := by simpa using hb
      subst e
      exact I1.fpOk (Nat.le_refl _) (I1.hok.fresh (Nat.le_refl _))
    · subst e
      cases r1
      obtain ⟨its, rv, p, hz⟩ := I1.tuple hq
      refine wpAny_pyIter_tuple (show s1.heap.IsTuple a its.toArray from p) ?_
      refine ⟨s1.heap.objs.size, [s1.heap.objs.size], _, _, H1, rfl, I1.kept (t' := s1.toks) fun b o e => Heap.get?_push_of_some _ e, turn_tuple a _, ⟨_, Heap.get?_push_size _ rfl, rfl, rfl⟩, fun b hb => ?_, q⟩
      have e : b = s1.heap.objs.size := by simpa using hb
      subst e
      exact I1.fpOk (Nat.le_refl _) (I1.hok.fresh (Nat.le_refl _))
/-! ### range -/
def rangeD (lo : Int) (n : Nat) : List D := (List.range n).map fun (k : Nat) => D.int (lo + k)
theorem rangeD_at {lo : Int} {n i : Nat} {d : D} (h : (rangeD lo n)[i]? = some d) : i < n ∧ d = .int (lo + i) := by
  unfold rangeD at h
  rw [List.getElem?_map] at h
  by_cases hi : i < n
  · rw [List.getElem?_range hi] at h
    cases h
    exact ⟨hi, rfl⟩
  · rw [List.getElem?_eq_none (by simp; omega)] at h
    cases h
theorem walks_range {O : Addr → Prop} {Γ : List Addr} {C : Cells} {H : Hp} (lo : Int) (n : Nat) : Walks X.K T O Γ C H (Itr lo n) (rangeD lo n) :=
  fun i Γ' C' H' O' ho x w' => by
    refine ⟨fun d hd => ?_, fun hi => ?_⟩
    · obtain ⟨h1, h2⟩ := rangeD_at hd
      subst h2
      refine ⟨h1, fun y H'' hy => ?_⟩
      obtain ⟨e1, e2⟩ := hy
      subst e1 e2
      exact ⟨Ext.refl, w', fun _ h => h, fun _ _ h => h, .int _⟩
    · have : (rangeD lo n).length = n := by simp [rangeD]
      rw [this] at hi
      exact hi
def iRange1 (f : DE) : DA := fun ρ C => (f ρ C).bind fun x C => match x with
  | .int j => if decide (-(2 ^ 62) ≤ j ∧ j < 2 ^ 62) then .ok (rangeD 0 j.toNat) C else .stuck
  | _ => .stuck
def iRange2 (f g : DE) : DA := fun ρ C => (f ρ C).bind fun x C => (g ρ C).bind fun y C => match x, y with
  | .int i, .int j => if decide (-(2 ^ 62) ≤ i ∧ i < 2 ^ 62 ∧ -(2 ^ 62) ≤ j ∧ j < 2 ^ 62) then .ok (rangeD i (j - i).toNat) C else .stuck
  | _, _ => .stuck
theorem qi_range1 {tg a : Expr} {f : DE} {p pos : Pos} (hg : Gl X "range") (hm : X.mg "range" = none) (ha : QE X T EX a f) (hs : starEach [a] X.env = [(false, eval a X.env)] := by rfl) (h1 : starEach [a] X.env = (false, eval a X.env) :: starEach [] X.env := by rfl) :
    QI X T EX tg (.Call (.Name "range" p) [a] [] pos) (iRange1 f) := PI.weak (pi_range1 hg hm (pa_cons ha pa_nil h1) hs) fun σ H R q => by
  obtain ⟨ρ, Γ, C, O, w, s, p⟩ := q
  refine ⟨ρ, Γ, C, O, w, s, PostI.bind p fun d C1 v H1 Γ1 x1 w1 r1 p1 => ?_⟩
  split at p1
  · split at p1
    · rename_i j hz
      have hz := of_decide_eq_true hz
      cases r1
      exact ⟨j, rfl, hz.1, hz.2, p1 _ H1 Γ1 Ext.refl w1 (walks_range 0 _)⟩
    · exact p1.elim
  · exact p1.elim
theorem qi_range2 {tg a b : Expr} {f g : DE} {p pos : Pos} (hg : Gl X "range") (hm : X.mg "range" = none) (ha : QE X T EX a f) (hb : QE X T EX b g) (hs : starEach [a, b] X.env = [(false, eval a X.env), (false, eval b X.env)] := by rfl) (hs2 : starEach [b] X.env = [(false, eval b X.env)] := by rfl)
    (h1 : starEach [a, b] X.env = (false, eval a X.env) :: starEach [b] X.env := by rfl) (h2 : starEach [b] X.env = (false, eval b X.env) :: starEach [] X.env := by rfl) :
    QI X T EX tg (.Call (.Name "range" p) [a, b] [] pos) (iRange2 f g) := PI.weak (pi_range2 hg hm (pa_cons ha (pa_cons hb pa_nil h2) h1) hs hs2) fun σ H R q => by
  obtain ⟨ρ, Γ, C, O, w, s, p⟩ := q
  refine ⟨ρ, Γ, C, O, w, s, PostI.bind p fun d C1 v H1 Γ1 x1 w1 r1 p1 => ?_⟩
  refine ⟨ρ, Γ1, C1, O, w1, s.ext w x1, PostI.bind p1 fun d2 C2 v2 H2 Γ2 x2 w2 r2 p2 => ?_⟩
  split at p2
  · split at p2
    · rename_i i j hz
      have hz := of_decide_eq_true hz
      cases r1; cases r2
      exact ⟨i, j, rfl, hz, p2 _ H2 Γ2 Ext.refl w2 (walks_range i _)⟩
    · exact p2.elim
  · exact p2.elim
/-! ### enumerate, zip of lists -/
def enumD (xs : List D) : List D := (List.range xs.length).zipWith (fun (i : Nat) x => D.tup [.int i, x]) xs
theorem enumD_at {xs : List D} {i : Nat} {d : D} (h : (enumD xs)[i]? = some d) : ∃ x, xs[i]? = some x ∧ d = .tup [.int i, x] := by
  unfold enumD at h
  rw [List.getElem?_zipWith] at h
  by_cases hi : i < xs.length
  · rw [List.getElem?_range hi, List.getElem?_eq_getElem hi] at h
    cases h
    exact ⟨_, List.getElem?_eq_getElem hi, rfl⟩
  · rw [List.getElem?_eq_none (l := List.range xs.length) (by simp; omega)] at h
    cases h
theorem enumD_length (xs : List D) : (enumD xs).length = xs.length := by simp [enumD]
def iEnumD (f : DE) : DA := fun ρ C => (f ρ C).bind fun x C => match x with
  | .lst xs => .ok (enumD xs) C
  | _ => .stuck
theorem qi_enum {e : Expr} {f : DE} {p pos tpos : Pos} {elts : List Expr} {kk : Nat} (hg : Gl X "enumerate") (hm : X.mg "enumerate" = none) (ha : QE X T EX e f) (hs : starEach [e] X.env = [(false, eval e X.env)] := by rfl) (h1 : starEach [e] X.env = (false, eval e X.env) :: starEach [] X.env := by rfl) :
    QI X T EX (.Tuple elts kk tpos) (.Call (.Name "enumerate" p) [e] [] pos) (iEnumD f) := PI.weak (pi_enum hg hm (pa_cons ha pa_nil h1) hs) fun σ H R q => by
  obtain ⟨ρ, Γ, C, O, w, s, p⟩ := q
  refine ⟨ρ, Γ, C, O, w, s, PostI.bind p fun d C1 v H1 Γ1 x1 w1 r1 p1 => ?_⟩
  split at p1
  · cases r1 with
    | @lst a vs xs nb e ra =>
      refine ⟨a, vs, rfl, SqL.of e, p1 _ H1 Γ1 Ext.refl w1 fun i Γ' C' H' O' ho x w' => ?_⟩
      obtain ⟨_, e'⟩ := extO_l x ho a vs nb e
      have r' := ra.extO w1 x ho
      refine ⟨fun d hd => ?_, fun hi => ⟨vs, SqL.of e', by rw [r'.length, ← enumD_length]; exact hi⟩⟩
      obtain ⟨z, hz, rfl⟩ := enumD_at hd
      obtain ⟨v, hv, rv⟩ := r'.get hz
      refine ⟨⟨vs, v, SqL.of e', hv⟩, fun y H'' hy => ?_⟩
      obtain ⟨t, y', rfl, ht, rfl, h2⟩ := hy
      have := h2 vs (SqL.of e')
      rw [hv] at this
      cases this
      refine ⟨ext_new ht, w'.new ht, fun b hb => ?_, fun b o hb => by rw [upd_ne (ne_of_none hb ht)]; exact hb, rep_tup w' ht (.cons (.int _) (.cons rv .nil))⟩
      by_cases eb : b = t
      · subst eb; exact ht
      · rw [upd_ne eb] at hb; exact hb
  · exact p1.elim
def zipD (xs ys : List D) : List D := xs.zipWith (fun x y => D.tup [x, y]) ys
theorem zipD_at {xs ys : List D} {i : Nat} {d : D} (h : (zipD xs ys)[i]? = some d) : ∃ x y, xs[i]? = some x ∧ ys[i]? = some y ∧ d = .tup [x, y] := by
  unfold zipD at h
  rw [List.getElem?_zipWith] at h
  split at h
  · cases h
    exact ⟨_, _, by assumption, by assumption, rfl⟩
  · cases h
def iZipD (f g : DE) : DA := fun ρ C => (f ρ C).bind fun x C => (g ρ C).bind fun y C => match x, y with
  | .lst xs, .lst ys => .ok (zipD xs ys) C
  | _, _ => .stuck
theorem qi_zip {e e2 : Expr} {f g : DE} {p pos tpos : Pos} {elts : List Expr} {kk : Nat} (hg : Gl X "zip") (hm : X.mg "zip" = none) (ha : QE X T EX e f) (hb : QE X T EX e2 g)
    (hs : starEach [e, e2] X.env = (false, eval e X.env) :: starEach [e2] X.env := by rfl) (hs2 : starEach [e2] X.env = (false, eval e2 X.env) :: starEach [] X.env := by rfl) (hpl : (backTo pos (starEach [e2] X.env)).any (·.1) = false := by rfl) :
    QI X T EX (.Tuple elts kk tpos) (.Call (.Name "zip" p) [e, e2] [] pos) (iZipD f g) := PI.weak (pi_zip hg hm (pa_cons ha (pa_cons hb pa_nil hs2) hs) hs hpl) fun σ H R q => by
  obtain ⟨ρ, Γ, C, O, w, s, p⟩ := q
  refine ⟨ρ, Γ, C, O, w, s, PostI.bind p fun d C1 v H1 Γ1 x1 w1 r1 p1 => ?_⟩
  refine ⟨ρ, Γ1, C1, O, w1, s.ext w x1, PostI.bind p1 fun d2 C2 v2 H2 Γ2 x2 w2 r2 p2 => ?_⟩
  split at p2
  · have r1' := r1.ext w1 x2
    cases r1' with
    | @lst a vs xs nb ea ra =>
      cases r2 with
      | @lst b ws ys nb2 eb rb =>
        refine ⟨a, b, vs, ws, rfl, SqL.of ea, SqL.of eb, p2 _ H2 Γ2 Ext.refl w2 fun i Γ' C' H' O' ho x w' => ?_⟩
        obtain ⟨_, ea'⟩ := extO_l x ho a vs nb ea
        obtain ⟨_, eb'⟩ := extO_l x ho b ws nb2 eb
        have ra' := ra.extO w2 x ho
        have rb' := rb.extO w2 x ho
        refine ⟨fun d hd => ?_, fun hi => ⟨vs, ws, SqL.of ea', SqL.of eb', ?_⟩⟩
        · obtain ⟨z1, z2, hz1, hz2, rfl⟩ := zipD_at hd
          obtain ⟨v, hv, rv⟩ := ra'.get hz1
          obtain ⟨u, hu, ru⟩ := rb'.get hz2
          refine ⟨⟨vs, ws, v, u, SqL.of ea', SqL.of eb', hv, hu⟩, fun y H'' hy => ?_⟩
          obtain ⟨t, y1, y2, rfl, ht, rfl, h1, h2⟩ := hy
          have q1 := h1 vs (SqL.of ea')
          have q2 := h2 ws (SqL.of eb')
          rw [hv] at q1
          rw [hu] at q2
          cases q1; cases q2
          refine ⟨ext_new ht, w'.new ht, fun b hb => ?_, fun b o hb => by rw [upd_ne (ne_of_none hb ht)]; exact hb, rep_tup w' ht (.cons rv (.cons ru .nil))⟩
          by_cases eb : b = t
          · subst eb; exact ht
          · rw [upd_ne eb] at hb; exact hb
        · rw [ra'.length, rb'.length]
          simp only [zipD, List.length_zipWith] at hi
          omega
  · exact p2.elim
/-! ### for -/
def loopF (t : Tgt) (b : DS) : List D → Env → Cells → SO
  | [], ρ, C => .nx ρ C
  | d :: ds, ρ, C => match t.bind d ρ with
    | none => .stuck
    | some ρ' => match b ρ' C with
      | .nx ρ2 C2 => loopF t b ds ρ2 C2
      | .ct ρ2 C2 => loopF t b ds ρ2 C2
      | .bk ρ2 C2 => .nx ρ2 C2
      | .rt d C2 => .rt d C2
      | .exn x C2 => .exn x C2
      | .stuck => .stuck
def sFor (t : Tgt) (fi : DA) (b : DS) : DS := fun ρ C => (fi ρ C).bindS fun ds C => loopF t b ds ρ C
theorem PostI.bindS {O : Addr → Prop} {Γ : List Addr} {C : Cells} {H : Hp} {o : Out (List D)} {f : List D → Cells → SO} {D' : Ends} {R : It → Hp → Prop} {K : PySem.W.Frag}
    (h : PostS K T EX O Γ C H (o.bindS f) D')
    (k : ∀ ds C' J H' Γ', Ext Γ C H Γ' C' H' → WOk K T Γ' C' O H' → Walks K T O Γ' C' H' J ds → PostS K T EX O Γ' C' H' (f ds C') D' → R J H') : PostI K T EX O Γ C H o R := by
  cases o with
  | ok ds C1 => exact fun J H' Γ' x w wk => k ds C1 J H' Γ' x w wk (PostS.shift x h)
  | exn e C1 => exact h
  | stuck => exact h
theorem for_ok {t : Tgt} {fi : DA} {b : DS} {D' : Ends} {σ : L2.St} {H : Hp} {K : PySem.W.Frag} (q : tS K T EX (sFor t fi b) D' σ H) : tFor (tI K T EX fi) (tG K T t.bind t.slots) (tS K T EX b) D' σ H := by
  obtain ⟨ρ, Γ, C, O, w, s, p⟩ := q
  refine ⟨ρ, Γ, C, O, w, s, PostI.bindS p fun ds C1 J H1 Γ1 x1 w1 wk p1 => ?_⟩
  refine ⟨fun i m σ H => m = ds.length - i ∧ i ≤ ds.length ∧ ∃ ρ' Γ' C', Ext Γ1 C1 H1 Γ' C' H ∧ WOk K T Γ' C' O H ∧ SlotsOk K (Bad Γ' C' O) Γ' H σ ρ' ∧ PostS K T EX O Γ' C' H (loopF t b (ds.drop i) ρ' C') D',
    ⟨_, rfl, Nat.zero_le _, ρ, Γ1, C1, Ext.refl, w1, s.ext w x1, p1⟩, ?_⟩
  rintro i m σ2 H2 ⟨rfl, hi, ρ2, Γ2, C2, x2, w2, s2, p2⟩
  obtain ⟨hgo, hstop⟩ := wk i Γ2 C2 H2 O (fun _ z => .inl z) x2 w2
  by_cases hlt : i < ds.length
  · have hd : ds[i]? = some ds[i] := List.getElem?_eq_getElem hlt
    obtain ⟨g1, g2⟩ := hgo _ hd
    have ed : ds.drop i = ds[i] :: ds.drop (i + 1) := List.drop_eq_getElem_cons hlt
    rw [ed] at p2
    refine .inr ⟨g1, fun σ' H' => ∃ ρ' Γ' C', Ext Γ1 C1 H1 Γ' C' H' ∧ WOk K T Γ' C' O H' ∧ SlotsOk K (Bad Γ' C' O) Γ' H' σ' ρ' ∧ PostS K T EX O Γ' C' H' (loopF t b (ds.drop (i + 1)) ρ' C') D', fun σ' H' n => ⟨ds.length - (i + 1), by omega, rfl, hlt, n⟩, fun y H3 hy => ?_⟩
    obtain ⟨x3, w3, _, _, r3⟩ := g2 y H3 hy
    have p3 := PostS.shift x3 p2
    unfold loopF at p3
    cases et : t.bind ds[i] ρ2 with
    | none => rw [et] at p3; exact p3.elim
    | some ρ3 =>
      rw [et] at p3
      dsimp only at p3
      refine ⟨Γ2, C2, O, ρ2, ρ3, ds[i], w3, s2.ext w2 x3, r3, et, fun σ4 s4 _ => ?_⟩
      refine ⟨ρ3, Γ2, C2, O, w3, s4, ?_⟩
      have xx := x2.trans x3
      cases eb : b ρ3 C2 with
      | nx ρ5 C5 =>
        rw [eb] at p3
        exact fun σ5 H5 Γ5 x5 w5 s5 => ⟨ρ5, Γ5, C5, xx.trans x5, w5, s5, PostS.shift x5 p3⟩
      | ct ρ5 C5 =>
        rw [eb] at p3
        exact fun σ5 H5 Γ5 x5 w5 s5 => ⟨ρ5, Γ5, C5, xx.trans x5, w5, s5, PostS.shift x5 p3⟩
      | bk ρ5 C5 => rw [eb] at p3; exact p3
      | rt d5 C5 => rw [eb] at p3; exact p3
      | exn x5 C5 => rw [eb] at p3; exact p3
      | stuck => rw [eb] at p3; exact p3
  · have e : i = ds.length := by omega
    subst e
    refine .inl ⟨hstop (Nat.le_refl _), ?_⟩
    rw [List.drop_length] at p2
    exact p2 σ2 H2 Γ2 Ext.refl w2 s2
theorem qs_for {tg iter : Expr} {body : List Stmt} {t : Tgt} {fi : DA} {b : DS} {pos : Pos} (hp : PassesOwn (model X.prog X.w) X.A X.env X.xe) (hc : X.calm = true) (hi : QI X T EX tg iter fi) (hg : QG X T tg t) (hb : QSs X T EX body b)
    (hs : ∀ x, foldedSetIterable iter X.env x = pure x := by intro _; rfl) : QS X T EX (.For tg iter body [] pos) (sFor t fi b) :=
  PS.weak (ps_for hp hc hi hg hb hs) fun D σ H => for_ok
end
end Qv

/-! ## Q9 -/
set_option Elab.async false
set_option linter.all false
set_option maxRecDepth 100000
/-! Q9: list comprehensions. -/
namespace Qv
open PySem PySem.Spec PyProof.Rows L2

def wipeE (ρ : Env) : List Nat → Env
  | [] => ρ
  | v :: vs => (wipeE ρ vs).set v none
theorem wipeE_length (ρ : Env) : ∀ vs : List Nat, (wipeE ρ vs).length = ρ.length
  | [] => rfl
  | v :: vs => by unfold wipeE; rw [List.length_set, wipeE_length ρ vs]
theorem wipeE_some {ρ : Env} {i : Nat} {x : D} : ∀ {vs : List Nat}, (wipeE ρ vs)[i]? = some (some x) → ρ[i]? = some (some x) ∧ i ∉ vs
  | [], h => ⟨h, by simp⟩
  | v :: vs, h => by
    unfold wipeE at h
    by_cases hi : v = i
    · subst hi
      by_cases hv : v < (wipeE ρ vs).length
      · rw [List.getElem?_set_self hv] at h; cases h
      · rw [List.getElem?_eq_none (by simpa using hv)] at h; cases h
    · rw [List.getElem?_set_ne hi] at h
      obtain ⟨h1, h2⟩ := wipeE_some h
      exact ⟨h1, by simp only [List.mem_cons, not_or]; exact ⟨fun e => hi e.symm, h2⟩⟩
theorem wipe_no {σ : L2.St} {i : Nat} : ∀ {vs : List Nat}, i ∉ vs → (wipe σ vs)[i]? = σ[i]?
  | [], _ => rfl
  | v :: vs, h => by
    unfold wipe
    simp only [List.mem_cons, not_or] at h
    rw [List.getElem?_set_ne (fun e => h.1 e.symm)]
    exact wipe_no h.2
theorem wipe_yes {σ : L2.St} {i : Nat} : ∀ {vs : List Nat}, i ∈ vs → i < σ.length → (wipe σ vs)[i]? = some none
  | v :: vs, h, hl => by
    unfold wipe
    by_cases e : v = i
    · subst e; rw [List.getElem?_set_self (by rw [wipe_length]; exact hl)]
    · rw [List.getElem?_set_ne e]
      exact wipe_yes ((List.mem_cons.mp h).resolve_left fun z => e z.symm) hl
theorem wipe_onl {a b : L2.St} {ws vs : List Nat} (h : Onl ws a b) (hs : ∀ i ∈ ws, i ∈ vs) : wipe b vs = wipe a vs := by
  apply List.ext_getElem?
  intro i
  by_cases hi : i ∈ vs
  · by_cases hl : i < a.length
    · rw [wipe_yes hi hl, wipe_yes hi (by rw [h.1]; exact hl)]
    · rw [List.getElem?_eq_none (by rw [wipe_length, h.1]; omega), List.getElem?_eq_none (by rw [wipe_length]; omega)]
  · rw [wipe_no hi, wipe_no hi]
    exact h.2 i fun z => hi (hs i z)
theorem wipe_wipe (σ : L2.St) (vs : List Nat) : wipe (wipe σ vs) vs = wipe σ vs := by
  apply List.ext_getElem?
  intro i
  by_cases hi : i ∈ vs
  · by_cases hl : i < σ.length
    · rw [wipe_yes hi hl, wipe_yes hi (by rw [wipe_length]; exact hl)]
    · rw [List.getElem?_eq_none (by rw [wipe_length, wipe_length]; omega), List.getElem?_eq_none (by rw [wipe_length]; omega)]
  · rw [wipe_no hi]
theorem SlotsOk.wipe {K : PySem.W.Frag} {B : Addr → Prop} {Γ : List Addr} {H : Hp} {σ : L2.St} {ρ : Env} (s : SlotsOk K B Γ H σ ρ) (vs : List Nat) : SlotsOk K B Γ H (wipe σ vs) (wipeE ρ vs) :=
  ⟨by rw [wipe_length, wipeE_length]; exact s.1, fun i d e => by
    obtain ⟨e1, e2⟩ := wipeE_some e
    obtain ⟨v, e3, r⟩ := s.2 i d e1
    exact ⟨v, by rw [wipe_no e2]; exact e3, r⟩⟩

def loopC (t : Tgt) (c : DB) (e : DE) (ρ : Env) : List D → List D → Cells → Out (List D)
  | [], acc, C => .ok acc C
  | d :: ds, acc, C => match t.bind d ρ with
    | none => .stuck
    | some ρ' => match c ρ' C with
      | .ok true C => match e ρ' C with
        | .ok x C => if acc.length < sizeLine then loopC t c e ρ ds (acc ++ [x]) C else .stuck
        | _ => .stuck
      | .ok false C => loopC t c e ρ ds acc C
      | _ => .stuck
def fComp (t : Tgt) (vs : List Nat) (fi : DA) (c : DB) (e : DE) : DF := fun ρ C => (fi ρ C).bind fun ds C => loopC t c e (wipeE ρ vs) ds [] C
def bYes : DB := fun _ C => .ok true C
theorem loopC_noexn (t : Tgt) (c : DB) (e : DE) (ρ : Env) : ∀ (ds acc : List D) (C : Cells) (x : Exn) (C' : Cells), loopC t c e ρ ds acc C ≠ .exn x C'
  | [], acc, C, x, C' => fun h => by cases h
  | d :: ds, acc, C, x, C' => fun h => by
    unfold loopC at h
    split at h
    · cases h
    · split at h
      · split at h
        · split at h
          · exact loopC_noexn t c e ρ ds _ _ _ _ h
          · cases h
        · cases h
      · exact loopC_noexn t c e ρ ds _ _ _ _ h
      · cases h

section
variable {K : PySem.W.Frag} {T : List (Addr × Str)} {Γ Γ' : List Addr} {C C' : Cells} {O : Addr → Prop} {H H' : Hp}
/-- what lies apart at a is written anew -/
theorem apart_write {a : Addr} {vs ws : List V} (w : WOk K T Γ C (fun b => O b ∨ b = a) H) (e : H a = some (.lst vs)) : WOk K T Γ C (fun b => O b ∨ b = a) (upd H a (.lst ws)) ∧
    ∀ {us : List V} {ds : List D}, RepA K (Bad Γ C fun b => O b ∨ b = a) Γ H us ds → RepA K (Bad Γ C fun b => O b ∨ b = a) Γ (upd H a (.lst ws)) us ds := by
  have mv : ∀ {us : List V} {ds : List D}, RepA K (Bad Γ C fun b => O b ∨ b = a) Γ H us ds → RepA K (Bad Γ C fun b => O b ∨ b = a) Γ (upd H a (.lst ws)) us ds := fun r => by
    refine r.move (fun b us nb eb => ⟨nb, by rw [upd_ne (fun z => nb (.inr (.inr z)))]; exact eb⟩) (fun b us s => ?_) (fun _ _ q => q) fun p o q h1 _ => by rw [upd_ne (fun z => by rw [z, e] at q; exact h1 vs (Option.some.inj q).symm)]; exact q
    rcases s with (s | ⟨o, s⟩) | s
    · exact .inl (.inl (by rw [upd_ne (ne_of s e (by intro z; cases z))]; exact s))
    · exact .inl (.inr ⟨o, by rw [upd_ne (ne_of s e (by intro z; cases z))]; exact s⟩)
    · exact .inr s
  have th : ∀ b, NT H b → NT (upd H a (.lst ws)) b := fun b h => h.upd fun _ q => by cases q
  refine ⟨⟨w.len, w.nd, fun i b xs e1 e2 => ?_, fun b hb => th b (w.there b hb), fun b hb => th b (w.ot b hb), w.dj, tabs_upd w.tabs e⟩, mv⟩
  obtain ⟨us, e3, r3⟩ := w.cell i b xs e1 e2
  have hb : b ≠ a := fun z => w.djA ⟨i, xs, e1, e2⟩ (.inr z)
  exact ⟨us, by rw [upd_ne hb]; exact e3, mv r3⟩
theorem ext_apart {a : Addr} {o : HO} (x : Ext Γ C H Γ' C' H') (ha : H a = none) (ho : ∀ ps, o ≠ .tbl ps := by exact fun _ q => by cases q) : Ext Γ C H Γ' C' (upd H' a o) :=
  ⟨x.pre, fun b u nb e nt => by rw [upd_ne (ne_of_none e ha)]; exact x.keep b u nb e nt, fun b h => (x.there b h).upd ho, x.new⟩
end

theorem lc_ok {K : PySem.W.Frag} {T : List (Addr × Str)} {EX : XK} {t : Tgt} {vs : List Nat} {fi : DA} {c : DB} {e : DE} {σ : L2.St} {H : Hp} {Q : VK} (hsub : ∀ i ∈ t.slots, i ∈ vs) (q : tF K T EX (fComp t vs fi c e) σ H Q) :
    tLc (tI K T EX fi) (tG K T t.bind t.slots) (tT K T E0 c) (tE K T E0 e) vs σ H Q := by
  obtain ⟨ρ, Γ, C, O, w, s, p⟩ := q
  have p' : PostF K T EX O Γ C H ((fi ρ C).bind fun ds C => loopC t c e (wipeE ρ vs) ds [] C) Q := p
  cases ef : fi ρ C with
  | exn y C1 =>
    rw [ef] at p'
    exact ⟨ρ, Γ, C, O, w, s, by rw [ef]; exact p'⟩
  | stuck => rw [ef] at p'; exact p'.elim
  | ok ds C1 =>
    rw [ef] at p'
    refine ⟨ρ, Γ, C, O, w, s, by
      rw [ef]
      intro J H1 Γ1 x1 w1 wk A hA
      have p1 : PostF K T EX O Γ C H (loopC t c e (wipeE ρ vs) ds [] C1) Q := p'
      have s1 := s.ext w x1
      have hA0 : ¬ NT H A := fun z => NT.no hA (x1.there A z)
      have w2 := w1.apart (o := .lst []) hA
      refine ⟨fun i m H2 => m = ds.length - i ∧ i ≤ ds.length ∧ ∃ Γ2 C2 us acc, Ext Γ1 C1 H1 Γ2 C2 H2 ∧ WOk K T Γ2 C2 (fun b => O b ∨ b = A) H2 ∧ H2 A = some (.lst us) ∧ RepA K (Bad Γ2 C2 fun b => O b ∨ b = A) Γ2 H2 us acc ∧ A ∉ Γ2 ∧ PostF K T EX O Γ C H (loopC t c e (wipeE ρ vs) (ds.drop i) acc C2) Q,
        ⟨_, rfl, Nat.zero_le _, Γ1, C1, [], [], ext_apart Ext.refl hA, w2, upd_same, .nil, (fun z => NT.no hA (w1.there A z)), p1⟩, ?_⟩
      rintro i m H2 ⟨rfl, hi, Γ2, C2, us, acc, x2, w2, eA, ra, hg, p2⟩
      have ho : ∀ a, (O a ∨ a = A) → O a ∨ ¬ NT H1 a := fun a z => z.imp id fun z => by subst z; exact NT.no hA
      obtain ⟨hgo, hstop⟩ := wk i Γ2 C2 H2 (fun b => O b ∨ b = A) ho x2 w2
      by_cases hlt : i < ds.length
      · have hd : ds[i]? = some ds[i] := List.getElem?_eq_getElem hlt
        obtain ⟨g1, g2⟩ := hgo _ hd
        have ed : ds.drop i = ds[i] :: ds.drop (i + 1) := List.drop_eq_getElem_cons hlt
        rw [ed] at p2
        refine .inr ⟨g1, fun H' => ∃ Γ2 C2 us acc, Ext Γ1 C1 H1 Γ2 C2 H' ∧ WOk K T Γ2 C2 (fun b => O b ∨ b = A) H' ∧ H' A = some (.lst us) ∧ RepA K (Bad Γ2 C2 fun b => O b ∨ b = A) Γ2 H' us acc ∧ A ∉ Γ2 ∧ PostF K T EX O Γ C H (loopC t c e (wipeE ρ vs) (ds.drop (i + 1)) acc C2) Q,
          fun H' n => ⟨ds.length - (i + 1), by omega, rfl, hlt, n⟩, fun y H3 hy => ?_⟩
        obtain ⟨x3, w3, _, k3, r3⟩ := g2 y H3 hy
        have s3 : SlotsOk K (Bad Γ2 C2 fun b => O b ∨ b = A) Γ2 H3 σ ρ := s1.extO w1 (x2.trans x3) ho
        unfold loopC at p2
        cases et : t.bind ds[i] (wipeE ρ vs) with
        | none => rw [et] at p2; exact p2.elim
        | some ρ4 =>
          rw [et] at p2
          dsimp only at p2
          refine ⟨Γ2, C2, _, wipeE ρ vs, ρ4, ds[i], w3, s3.wipe vs, r3, et, fun σ4 s4 o4 => ⟨by rw [wipe_onl o4 hsub, wipe_wipe], ?_⟩⟩
          refine ⟨ρ4, Γ2, C2, _, w3, s4, ?_⟩
          cases ec : c ρ4 C2 with
          | exn y C3 => rw [ec] at p2; exact p2.elim
          | stuck => rw [ec] at p2; exact p2.elim
          | ok b C3 =>
            rw [ec] at p2
            intro b' H5 Γ5 x5 w5 eb
            subst eb
            have x15 := (x2.trans x3).trans x5
            have eA5 : H5 A = some (.lst us) := x5.keep A _ (fun z => w3.djA z (.inr rfl)) (k3 _ _ eA) (fun ps z => by cases z)
            have ra5 := (ra.ext w2 x3).ext w3 x5
            have hg5 : A ∉ Γ5 := fun z => w5.dj A z (.inr rfl)
            cases b' with
            | false =>
              exact iteF ⟨Γ5, C3, us, acc, x15, w5, eA5, ra5, hg5, p2⟩
            | true =>
              dsimp only at p2
              refine iteT ⟨ρ4, Γ5, C3, _, w5, s4.ext w3 x5, ?_⟩
              cases ee : e ρ4 C3 with
              | exn y C4 => rw [ee] at p2; exact p2.elim
              | stuck => rw [ee] at p2; exact p2.elim
              | ok z C4 =>
                rw [ee] at p2
                dsimp only at p2
                intro v H6 Γ6 x6 w6 rv
                have eA6 : H6 A = some (.lst us) := x6.keep A _ (fun z => w5.djA z (.inr rfl)) eA5 (fun ps z => by cases z)
                have ra6 := ra5.ext w5 x6
                have hg6 : A ∉ Γ6 := fun z => w6.dj A z (.inr rfl)
                split at p2
                · rename_i hz
                  obtain ⟨w7, mv⟩ := apart_write (ws := us ++ [v]) w6 eA6
                  exact ⟨us, eA6, by rw [ra6.length]; exact hz, Γ6, C4, us ++ [v], acc ++ [z], ext_apart (x15.trans x6) hA, w7, upd_same, mv (ra6.snoc rv), hg6, p2⟩
                · exact p2.elim
      · have e : i = ds.length := by omega
        subst e
        refine .inl ⟨hstop (Nat.le_refl _), ?_⟩
        rw [List.drop_length] at p2
        exact p2 A H2 Γ2 us (x1.trans x2) hA0 w2 eA ra hg⟩

section
variable {X : Cx} {T : List (Addr × Str)} {EX : XK}
def QTs (X : Cx) (T : List (Addr × Str)) (ifs : List Expr) (f : DB) : Prop := PTs X ifs (tT X.K T E0 f)
theorem PTs.weak {X : Cx} {e : List Expr} {t t' : TT} (h : PTs X e t) (k : ∀ σ H Q, t' σ H Q → t σ H Q) : PTs X e t' := ⟨fun pins s σ H Q I hw => h.run pins s σ H Q I (k _ _ _ hw)⟩
theorem qts_nil : QTs X T [] bYes := PTs.weak pts_nil fun σ H Q q => by
  obtain ⟨ρ, Γ, C, O, w, s, p⟩ := q
  exact p true H Γ Ext.refl w rfl
theorem qts_one {c : Expr} {f : DB} (h : QT X T E0 c f) : QTs X T [c] f := pts_one h
/-- [elt for tg in iter if ..], as a fresh list -/
theorem qf_lc {elt tg iter : Expr} {ifs : List Expr} {scope : Scope} (own : List (Str × Nat)) {pos : Pos} {t : Tgt} {fi : DA} {c : DB} {e : DE} (hc : X.calm = true) (hN : X.N.Nodup) (hi : QI X T EX tg iter fi) (ok : BlkOk X.N X.env.scope scope own)
    (hg : ∀ (s : Shared) (H : Hp) (C : Addr) (cl : List (Str × Addr)) (fp : List Addr), QG (X.blk s H scope (compEnvC scope cl C X.env) fp) T tg t) (ht : ∀ (s : Shared) (H : Hp) (C : Addr) (cl : List (Str × Addr)) (fp : List Addr), QTs (X.blk s H scope (compEnvC scope cl C X.env) fp) T ifs c)
    (he : ∀ (s : Shared) (H : Hp) (C : Addr) (cl : List (Str × Addr)) (fp : List Addr), QE (X.blk s H scope (compEnvC scope cl C X.env) fp) T E0 elt e) (hsub : ∀ i ∈ t.slots, i ∈ own.map (·.2) := by decide) (hs : ∀ x, foldedSetIterable iter X.env x = pure x := by intro _; rfl) :
    QF X T EX (.ListComp elt [⟨tg, iter, ifs, 0⟩] scope pos) (fComp t (own.map (·.2)) fi c e) :=
  PE.weak (pe_lc (g := tG X.K T t.bind t.slots) (tt := tT X.K T E0 c) (te := tE X.K T E0 e) hc hN hi ok hg ht he hs) fun σ H Q => lc_ok hsub
/-- y = [..] : the list as a value, or as a new cell -/
theorem qs_lc (i : Nat) {y : Str} {py : Pos} {elt tg iter : Expr} {ifs : List Expr} {scope : Scope} (own : List (Str × Nat)) {pos spos : Pos} {t : Tgt} {fi : DA} {c : DB} {e : DE} (wr : DF → DE) (hwr : wr = eVal ∨ wr = eNew) (hc : X.calm = true) (hN : X.N.Nodup)
    (hi : QI X T EX tg iter fi) (ok : BlkOk X.N X.env.scope scope own)
    (hg : ∀ (s : Shared) (H : Hp) (C : Addr) (cl : List (Str × Addr)) (fp : List Addr), QG (X.blk s H scope (compEnvC scope cl C X.env) fp) T tg t) (ht : ∀ (s : Shared) (H : Hp) (C : Addr) (cl : List (Str × Addr)) (fp : List Addr), QTs (X.blk s H scope (compEnvC scope cl C X.env) fp) T ifs c)
    (he : ∀ (s : Shared) (H : Hp) (C : Addr) (cl : List (Str × Addr)) (fp : List Addr), QE (X.blk s H scope (compEnvC scope cl C X.env) fp) T E0 elt e)
    (hy : X.N[i]? = some y := by rfl) (hyl : X.env.scope.names.lookup y = some .local := by rfl) (hsw : swapsWith (.ListComp elt [⟨tg, iter, ifs, 0⟩] scope pos) (some (.Name y py)) spos.line X.env = pure true := by exact sw_true rfl rfl rfl (by decide +kernel))
    (hsub : ∀ i ∈ t.slots, i ∈ own.map (·.2) := by decide) (hs : ∀ x, foldedSetIterable iter X.env x = pure x := by intro _; rfl) :
    QS X T EX (.Assign [.Name y py] (.ListComp elt [⟨tg, iter, ifs, 0⟩] scope pos) spos) (sSet i (wr (fComp t (own.map (·.2)) fi c e))) :=
  PS.weak (ps_setLc (i := i) (g := tG X.K T t.bind t.slots) (tt := tT X.K T E0 c) (te := tE X.K T E0 e) hc hN hy hyl hsw hi ok hg ht he hs) fun D σ H q => by
    obtain ⟨ρ, Γ, C, O, w, s, p⟩ := q
    have main : tF X.K T EX (fComp t (own.map (·.2)) fi c e) σ H (fun x H1 => D.nx (σ.set i (some x)) H1) := by
      refine ⟨ρ, Γ, C, O, w, s, ?_⟩
      have hexn : ∀ y C', wr (fComp t (own.map (·.2)) fi c e) ρ C = .exn y C' → PostF X.K T EX O Γ C H (.exn y C') (fun x H1 => D.nx (σ.set i (some x)) H1) := fun y C' z => by
        unfold sSet at p
        rw [z] at p
        exact p
      cases ef : fComp t (own.map (·.2)) fi c e ρ C with
      | ok xs C' =>
        intro a H' Γ' vs x hp w' ea r hg
        rcases hwr with rfl | rfl
        · have p2 : PostS X.K T EX O Γ C H (.nx (ρ.set i (some (.lst xs))) C') D := by
            have p3 := p
            unfold sSet eVal at p3
            rw [ef] at p3
            exact p3
          refine p2 _ H' Γ' x (w'.monoO fun _ z => .inl z) ((s.ext w x).set i (.lst (fun z => ?_) ea (r.mono fun b z => z.imp id .inl)))
          rcases z with z | z
          · exact w'.djA z (.inr rfl)
          · exact hp (w.ot a z)
        · have p2 : PostS X.K T EX O Γ C H (.nx (ρ.set i (some (.cel C'.length))) (C' ++ [.lst xs])) D := by
            have p3 := p
            unfold sSet eNew at p3
            rw [ef] at p3
            exact p3
          have x2 := ext_cellOf (xs := xs) x w'.len hp
          have w2 := w'.cellOf (fun z => hp (w.ot a z)) hg ea r
          refine p2 _ H' (Γ' ++ [a]) x2 w2 ((s.ext w x2).set i (.cel ?_))
          rw [← w'.len]
          simp
      | exn y C' =>
        refine hexn y C' ?_
        rcases hwr with rfl | rfl
        · unfold eVal; rw [ef]; rfl
        · unfold eNew; rw [ef]; rfl
      | stuck =>
        exfalso
        unfold sSet at p
        rcases hwr with rfl | rfl
        · unfold eVal at p; rw [ef] at p; exact p
        · unfold eNew at p; rw [ef] at p; exact p
    exact lc_ok hsub main
end
end Qv

/-! ## Q10 -/
set_option Elab.async false
set_option linter.all false
set_option maxRecDepth 100000
/-! Q10: defs and their calls. -/
namespace Qv
open PySem PySem.Spec PyProof.Rows L2

/-- what a def does, from its block -/
def runM (n : Nat) (F : DS) (ds : List D) (C : Cells) : Out D := match F (ds.map some ++ List.replicate (n - ds.length) none) C with
  | .rt d C' => .ok d C'
  | .nx _ C' => .ok .non C'
  | .exn x C' => .exn x C'
  | _ => .stuck
abbrev MD := List D → Cells → Out D
def spM (K : PySem.W.Frag) (T : List (Addr × Str)) (n : Nat) (m : MD) : Sp := fun vs H Q E => vs.length = n ∧ ∃ ds Γ C O, WOk K T Γ C O H ∧ RepA K (Bad Γ C O) Γ H vs ds ∧ Post K T E O Γ C H (m ds C) Q
theorem slots_start {K : PySem.W.Frag} {B : Addr → Prop} {Γ : List Addr} {H : Hp} {vs : List V} {ds : List D} (N : List Str) (r : RepA K B Γ H vs ds) : SlotsOk K B Γ H (L2.start N vs) (ds.map some ++ List.replicate (N.length - ds.length) none) := by
  refine ⟨by unfold L2.start; simp [r.length], fun i d e => ?_⟩
  by_cases hi : i < ds.length
  · rw [List.getElem?_append_left (by simpa using hi), List.getElem?_map, List.getElem?_eq_getElem hi] at e
    cases e
    obtain ⟨v, h1, h2⟩ := r.get (List.getElem?_eq_getElem hi)
    refine ⟨v, ?_, h2⟩
    unfold L2.start
    rw [List.getElem?_append_left (by rw [List.length_map, r.length]; exact hi), List.getElem?_map, h1]
    rfl
  · rw [List.getElem?_append_right (by simpa using hi)] at e
    rw [List.getElem?_replicate] at e
    split at e <;> cases e
section
variable {P : Program} {w : World} {K : PySem.W.Frag} {mg : Str → Option Value} {base : Heap} {T : List (Addr × Str)}
theorem okM {x qual : Str} {params : Arguments} {body : List Stmt} {scope : Scope} {f : Addr} {fd : FuncData} {N ps : List Str} {k : Nat} {F : DS} {m : MD} (Fd : FunD K x qual params body scope [] [] f fd) (S : FnScope N ps scope)
    (hm : ∀ ds C, ds.length = ps.length → m ds C = runM N.length F ds C)
    (h : ∀ (cdv : Value) (A : Around) (outer : List PySem.Env) (s : Shared) (H : Hp) (E : XK), Room k (A.deeper (envOfC qual scope s.heap.objs.size f cdv)) → QSs (cxOf (L2N.CX P w) P w K mg base N qual scope f cdv A outer s H E) T E body F) :
    FnOk P w K mg base (L2N.CX P w) (k + 1) f fd ps (spM K T ps.length m) := by
  refine Fd.ok S (fun vs H Q E q => q.1) (fun cdv A outer s H vs Q E hr q => ⟨_, h cdv A outer s H E hr, ?_⟩)
  obtain ⟨hl, ds, Γ, C, O, wk, r, p⟩ := q
  have hd : ds.length = ps.length := by rw [← r.length]; exact hl
  refine ⟨_, Γ, C, O, wk, slots_start N r, ?_⟩
  rw [hm ds C hd] at p
  unfold runM at p
  cases e : F (ds.map some ++ List.replicate (N.length - ds.length) none) C with
  | nx ρ' C' => rw [e] at p; exact fun σ' H' Γ' x w' s' => p .non H' Γ' x w' .non
  | rt d C' => rw [e] at p; exact p
  | exn y C' => rw [e] at p; exact p
  | bk ρ' C' => rw [e] at p; exact p.elim
  | ct ρ' C' => rw [e] at p; exact p.elim
  | stuck => rw [e] at p; exact p.elim
end
section
variable {X : Cx} {T : List (Addr × Str)} {EX : XK}
/-! ### a call -/
def eCallM (n : Nat) (m : MD) (fa : DA) : DE := fun ρ C => (fa ρ C).bind fun ds C => if ds.length = n then m ds C else .stuck
/-- the callee sees no cell, no cell leaves it -/
def exnNc (x : Exn) : Bool := match x.arg with
  | none => true
  | some (_, d) => d.nc
def pureM (m : MD) (ds : List D) (C : Cells) : Out D := match m ds [] with
  | .ok d _ => if d.nc then .ok d C else .stuck
  | .exn x _ => if exnNc x then .exn x C else .stuck
  | .stuck => .stuck
def eCallP (n : Nat) (m : MD) (fa : DA) : DE := fun ρ C => (fa ρ C).bind fun ds C => if ds.length = n ∧ D.ncs ds = true then pureM m ds C else .stuck
theorem qe_callM {k n : Nat} {f : Addr} {fd : FuncData} {ps : List Str} {m : MD} {x : Str} {e : Expr} {es : List Expr} {fa : DA} {p pos : Pos} (F : FnOk X.prog X.w X.K X.mg X.base (L2N.CX X.prog X.w) k f fd ps (spM X.K T n m)) (hr : Room k X.A) (hg : Gl X x) (hm : X.mg x = some (.ref f)) (hk : PySem.W.keepIn X.K (.ref f) = true) (hb : Binds X.K fd ps [])
    (hx : Passes (L2N.CX X.prog X.w) X EX) (ha : QA X T EX (e :: es) fa) (hdb : (x == ("__debug__" : Str)) = false := by decide) (he : starEach (e :: es) X.env = (false, eval e X.env) :: starEach es X.env := by rfl) (hpl : (backTo pos (starEach es X.env)).any (·.1) = false := by rfl) :
    QE X T EX (.Call (.Name x p) (e :: es) [] pos) (eCallM n m fa) :=
  PE.weak (pe_call (E := EX) F hr hg hm hk hb .nil hx ha hdb he hpl) fun σ H Q q => by
    obtain ⟨ρ, Γ, C, O, w, s, p⟩ := q
    refine ⟨ρ, Γ, C, O, w, s, PostG.bind p fun ds C1 vs H1 Γ1 x1 w1 r1 p1 => ?_⟩
    rw [List.append_nil]
    split at p1
    · rename_i hn
      exact ⟨by rw [r1.length]; exact hn, ds, Γ1, C1, O, w1, r1, p1⟩
    · exact p1.elim
/-- a call from the empty world -/
theorem same_world {K : PySem.W.Frag} {Γ Γ2 : List Addr} {C C2 : Cells} {O O2 : Addr → Prop} {H H' : Hp} (w : WOk K T Γ C O H) (x : Ext [] [] H Γ2 C2 H') (w2 : WOk K T Γ2 C2 O2 H') : Ext Γ C H Γ C H' ∧ WOk K T Γ C O H' := by
  have al : ∀ a, ¬ Al [] [] a := fun a z => by
    obtain ⟨i, xs, e1, _⟩ := z
    simp at e1
  have kp : ∀ a o, H a = some o → (∀ ps, o ≠ .tbl ps) → H' a = some o := fun a o e nt => x.keep a o (al a) e nt
  have x' : Ext Γ C H Γ C H' := ⟨List.prefix_refl _, fun a o _ e nt => kp a o e nt, x.there, fun a z => .inl z⟩
  refine ⟨x', w.len, w.nd, fun i a xs e1 e2 => ?_, fun a h => x.there a (w.there a h), fun a h => x.there a (w.ot a h), w.dj, w2.tabs⟩
  obtain ⟨vs, e, r⟩ := w.cell i a xs e1 e2
  exact ⟨vs, kp _ _ e (fun ps z => by cases z), r.ext w x'⟩
theorem WOk.empty {K : PySem.W.Frag} {Γ : List Addr} {C : Cells} {O O2 : Addr → Prop} {H : Hp} (w : WOk K T Γ C O H) (h : ∀ a, O2 a → NT H a) : WOk K T [] [] O2 H :=
  ⟨rfl, List.nodup_nil, fun i a xs e => by simp at e, fun a h => by simp at h, h, fun a h => by simp at h, w.tabs⟩
theorem ExRep.move {K : PySem.W.Frag} {B B' : Addr → Prop} {Γ Γ' : List Addr} {H : Hp} {u : Value} {dd : Option Addr} {x : Exn} (h : ExRep K B Γ H u dd x) (hb : ∀ a, B' a → B a) (hn : exnNc x = true) : ExRep K B' Γ' H u dd x := by
  obtain ⟨h1, h2⟩ := h
  refine ⟨h1, ?_⟩
  unfold exnNc at hn
  cases e : x.arg with
  | none => rw [e] at h2; exact h2
  | some fd =>
    rw [e] at h2 hn
    obtain ⟨a, v, h3, h4, h5⟩ := h2
    exact ⟨a, v, h3, h4, h5.anyB hb hn⟩
theorem qe_callP {k n : Nat} {f : Addr} {fd : FuncData} {ps : List Str} {m : MD} {x : Str} {e : Expr} {es : List Expr} {fa : DA} {p pos : Pos} (F : FnOk X.prog X.w X.K X.mg X.base (L2N.CX X.prog X.w) k f fd ps (spM X.K T n m)) (hr : Room k X.A) (hg : Gl X x) (hm : X.mg x = some (.ref f)) (hk : PySem.W.keepIn X.K (.ref f) = true) (hb : Binds X.K fd ps [])
    (hx : Passes (L2N.CX X.prog X.w) X EX) (ha : QA X T EX (e :: es) fa) (hdb : (x == ("__debug__" : Str)) = false := by decide) (he : starEach (e :: es) X.env = (false, eval e X.env) :: starEach es X.env := by rfl) (hpl : (backTo pos (starEach es X.env)).any (·.1) = false := by rfl) :
    QE X T EX (.Call (.Name x p) (e :: es) [] pos) (eCallP n m fa) :=
  PE.weak (pe_call (E := EX) F hr hg hm hk hb .nil hx ha hdb he hpl) fun σ H Q q => by
    obtain ⟨ρ, Γ, C, O, w, s, p⟩ := q
    refine ⟨ρ, Γ, C, O, w, s, PostG.bind p fun ds C1 vs H1 Γ1 x1 w1 r1 p1 => ?_⟩
    rw [List.append_nil]
    split at p1
    · rename_i hn
      have w0 : WOk X.K T [] [] (Bad Γ1 C1 O) H1 := w1.empty fun a z => z.elim (fun z => w1.there a z.mem) (w1.ot a)
      have hbad : ∀ a, Bad [] [] (Bad Γ1 C1 O) a → Bad Γ1 C1 O a := fun a z => z.elim (fun z => by obtain ⟨i, xs, e1, _⟩ := z; simp at e1) id
      refine ⟨by rw [r1.length]; exact hn.1, ds, [], [], Bad Γ1 C1 O, w0, r1.anyB hbad hn.2, ?_⟩
      unfold pureM at p1
      cases em : m ds [] with
      | ok d C2 =>
        rw [em] at p1
        dsimp only at p1
        split at p1
        · rename_i hd
          intro v H2 Γ2 x2 w2 rv
          obtain ⟨x3, w3⟩ := same_world w1 x2 w2
          exact p1 v H2 Γ1 x3 w3 (rv.anyB (fun a z => .inr z) hd)
        · exact p1.elim
      | exn y C2 =>
        rw [em] at p1
        dsimp only at p1
        split at p1
        · rename_i hd
          intro u dd H2 Γ2 x2 w2 rv
          obtain ⟨x3, w3⟩ := same_world w1 x2 w2
          exact p1 u dd H2 Γ1 x3 w3 (rv.move (fun a z => .inr z) hd)
        · exact p1.elim
      | stuck => rw [em] at p1; exact p1.elim
    · exact p1.elim
/-! ### .. where cells are shown, and what comes back is flat -/
mutual
def D.view (C : Cells) : D → Option D
  | .cel k => match C[k]? with
    | some (Cell.lst xs) => if D.ncs xs then some (.lst xs) else none
    | _ => none
  | .lst xs => (D.views C xs).map .lst
  | .tup xs => (D.views C xs).map .tup
  | .non => some .non
  | .bl b => some (.bl b)
  | .int i => some (.int i)
  | .str x => some (.str x)
  | .opq _ _ => none
  | .flst _ => none
def D.views (C : Cells) : List D → Option (List D)
  | [] => some []
  | x :: xs => (x.view C).bind fun y => (D.views C xs).map fun ys => y :: ys
end
def exnFlat (x : Exn) : Bool := match x.arg with
  | none => true
  | some (_, d) => d.flat
def flatM (m : MD) (ds : List D) (C : Cells) : Out D := match m ds [] with
  | .ok d _ => if d.flat then .ok d C else .stuck
  | .exn x _ => if exnFlat x then .exn x C else .stuck
  | .stuck => .stuck
def eCallV (n : Nat) (m : MD) (fa : DA) : DE := fun ρ C => (fa ρ C).bind fun ds C => if ds.length = n then match D.views C ds with
  | some es => flatM m es C
  | none => .stuck else .stuck
theorem Rep.view {K : PySem.W.Frag} {Γ : List Addr} {C : Cells} {O : Addr → Prop} {H : Hp} (w : WOk K T Γ C O H) {v : V} {d : D} (r : Rep K (Bad Γ C O) Γ H v d) : ∀ e, d.view C = some e → Rep K (fun _ => False) [] H v e :=
  Rep.rec (motive_1 := fun v d _ => ∀ e, d.view C = some e → Rep K (fun _ => False) [] H v e) (motive_2 := fun vs ds _ => ∀ es, D.views C ds = some es → RepA K (fun _ => False) [] H vs es)
    (fun e h => by cases h; exact .non) (fun b e h => by cases h; exact .bl _) (fun i e h => by cases h; exact .int _) (fun x e h => by cases h; exact .str _)
    (fun nb e1 _ ih e h => by
      obtain ⟨ys, h1, h2⟩ := Option.map_eq_some_iff.mp (show (D.views C _).map D.lst = some e from h)
      subst h2
      exact .lst (fun z => z) e1 (ih ys h1))
    (fun s1 _ ih e h => by
      obtain ⟨ys, h1, h2⟩ := Option.map_eq_some_iff.mp (show (D.views C _).map D.tup = some e from h)
      subst h2
      exact .tup s1 (ih ys h1))
    (fun {a k} ek e h => by
      have h' : (match C[k]? with
        | some (Cell.lst xs) => if D.ncs xs then some (D.lst xs) else none
        | _ => none) = some e := h
      split at h'
      · split at h'
        · cases h'
          rename_i hC hn
          obtain ⟨vs, e1, r1⟩ := w.cell _ _ _ ek hC
          exact .lst (fun z => z) e1 (r1.anyB (fun _ z => z.elim) hn)
        · cases h'
      · cases h')
    (fun _ _ h => by cases h)
    (fun _ _ _ _ h => by cases h)
    (fun es h => by cases h; exact .nil)
    (fun _ _ a b es h => by
      obtain ⟨y, h1, h2⟩ := Option.bind_eq_some_iff.mp (show (D.view C _).bind (fun y => (D.views C _).map fun ys => y :: ys) = some es from h)
      obtain ⟨ys, h3, h4⟩ := Option.map_eq_some_iff.mp h2
      subst h4
      exact .cons (a y h1) (b ys h3)) r
theorem RepA.view {K : PySem.W.Frag} {Γ : List Addr} {C : Cells} {O : Addr → Prop} {H : Hp} (w : WOk K T Γ C O H) : ∀ {vs : List V} {ds es : List D}, RepA K (Bad Γ C O) Γ H vs ds → D.views C ds = some es → RepA K (fun _ => False) [] H vs es ∧ es.length = ds.length
  | _, _, _, .nil, h => by cases h; exact ⟨.nil, rfl⟩
  | _, _, _, .cons r t, h => by
    obtain ⟨y, h1, h2⟩ := Option.bind_eq_some_iff.mp (show (D.view C _).bind (fun y => (D.views C _).map fun ys => y :: ys) = some _ from h)
    obtain ⟨ys, h3, h4⟩ := Option.map_eq_some_iff.mp h2
    subst h4
    obtain ⟨h5, h6⟩ := RepA.view w t h3
    exact ⟨.cons (r.view w y h1) h5, by simp [h6]⟩
theorem Rep.flat {K : PySem.W.Frag} {B B' : Addr → Prop} {Γ Γ' : List Addr} {H : Hp} {v : V} {d : D} (r : Rep K B Γ H v d) (h : d.flat = true) : Rep K B' Γ' H v d := by
  cases r with
  | non => exact .non
  | bl => exact .bl _
  | int => exact .int _
  | str => exact .str _
  | opq => cases h
  | flst => cases h
  | lst => cases h
  | tup => cases h
  | cel => cases h
theorem qe_callV {k n : Nat} {f : Addr} {fd : FuncData} {ps : List Str} {m : MD} {x : Str} {e : Expr} {es : List Expr} {fa : DA} {p pos : Pos} (F : FnOk X.prog X.w X.K X.mg X.base (L2N.CX X.prog X.w) k f fd ps (spM X.K T n m)) (hr : Room k X.A) (hg : Gl X x) (hm : X.mg x = some (.ref f)) (hk : PySem.W.keepIn X.K (.ref f) = true) (hb : Binds X.K fd ps [])
    (hx : Passes (L2N.CX X.prog X.w) X EX) (ha : QA X T EX (e :: es) fa) (hdb : (x == ("__debug__" : Str)) = false := by decide) (he : starEach (e :: es) X.env = (false, eval e X.env) :: starEach es X.env := by rfl) (hpl : (backTo pos (starEach es X.env)).any (·.1) = false := by rfl) :
    QE X T EX (.Call (.Name x p) (e :: es) [] pos) (eCallV n m fa) :=
  PE.weak (pe_call (E := EX) F hr hg hm hk hb .nil hx ha hdb he hpl) fun σ H Q q => by
    obtain ⟨ρ, Γ, C, O, w, s, p⟩ := q
    refine ⟨ρ, Γ, C, O, w, s, PostG.bind p fun ds C1 vs H1 Γ1 x1 w1 r1 p1 => ?_⟩
    rw [List.append_nil]
    split at p1
    · rename_i hn
      cases ev : D.views C1 ds with
      | none => rw [ev] at p1; exact p1.elim
      | some es =>
        rw [ev] at p1
        dsimp only at p1
        have w0 : WOk X.K T [] [] (fun _ => False) H1 := w1.empty fun a z => z.elim
        have hbad : ∀ a, Bad [] [] (fun _ => False) a → False := fun a z => z.elim (fun z => by obtain ⟨i, xs, e1, _⟩ := z; simp at e1) id
        obtain ⟨r2, _⟩ := r1.view w1 ev
        refine ⟨by rw [r1.length]; exact hn, es, [], [], fun _ => False, w0, r2.mono (fun a z => hbad a z), ?_⟩
        unfold flatM at p1
        cases em : m es [] with
        | ok d C2 =>
          rw [em] at p1
          dsimp only at p1
          split at p1
          · rename_i hd
            intro v H2 Γ2 x2 w2 rv
            obtain ⟨x3, w3⟩ := same_world w1 x2 w2
            exact p1 v H2 Γ1 x3 w3 (rv.flat hd)
          · exact p1.elim
        | exn y C2 =>
          rw [em] at p1
          dsimp only at p1
          split at p1
          · rename_i hd
            intro u dd H2 Γ2 x2 w2 rv
            obtain ⟨x3, w3⟩ := same_world w1 x2 w2
            refine p1 u dd H2 Γ1 x3 w3 ?_
            obtain ⟨h1, h2⟩ := rv
            refine ⟨h1, ?_⟩
            unfold exnFlat at hd
            cases ea : y.arg with
            | none => rw [ea] at h2; exact h2
            | some fd =>
              rw [ea] at h2 hd
              obtain ⟨a, v, h3, h4, h5⟩ := h2
              exact ⟨a, v, h3, h4, h5.flat hd⟩
          · exact p1.elim
        | stuck => rw [em] at p1; exact p1.elim
    · exact p1.elim
end
end Qv

/-! ## Q11 -/
set_option Elab.async false
set_option linter.all false
set_option maxRecDepth 100000
/-! Q11: raise of own classes: without arguments, or with one field. -/
namespace Qv
open PySem PySem.Spec PyProof.Rows L2

/-! ### Bool checks -/
def oexClsB (K : PySem.W.Frag) (C : Addr) : Bool := match K.lookup C with
  | some ⟨.type "type", _, .cls cd, sl⟩ => (match cd.mro, sl.toList with
    | .ref C' :: bm, [_, _, _, _, some (.builtin n), _] => decide (C' = C) && (decide (n = "ValueError.__new__") && (!cd.hasDel && (cd.hasDict && PySem.HandSPX.refsVE bm)))
    | _, _ => false)
  | _ => false
theorem oexClsB_ok {K : PySem.W.Frag} {C : Addr} (h : oexClsB K C = true) :
    ∃ nm q N bs bm sn sub ab col dd k0 k1 k2 k3 k5, K.lookup C = some (excClassObj nm q C N bs bm true sn sub ab col dd k0 k1 k2 k3 k5 "ValueError.__new__") ∧ PySem.HandSPX.refsVE bm = true := by
  unfold oexClsB at h
  split at h
  · rename_i dd cd sl ho
    split at h
    · rename_i C' bm k0 k1 k2 k3 n k5 hm hs
      obtain ⟨h1, h⟩ := Bool.and_eq_true_iff.mp h
      obtain ⟨h2, h⟩ := Bool.and_eq_true_iff.mp h
      obtain ⟨h3, h⟩ := Bool.and_eq_true_iff.mp h
      obtain ⟨h4, h5⟩ := Bool.and_eq_true_iff.mp h
      have h1 := of_decide_eq_true h1
      have h2 := of_decide_eq_true h2
      subst h1 h2
      obtain ⟨nm, bs, mro, ns, qn, hd, sn, sub, ab, col, del⟩ := cd
      dsimp only at hm h3 h4
      subst hm h4
      have hdel : del = false := by simpa using h3
      subst hdel
      have hsl : sl = #[k0, k1, k2, k3, some (.builtin "ValueError.__new__"), k5] := by
        obtain ⟨l⟩ := sl
        simp only at hs
        rw [hs]
      subst hsl
      exact ⟨nm, qn, ns, bs, bm, sn, sub, ab, col, dd, k0, k1, k2, k3, k5, ho, h5⟩
    · cases h
  · cases h
/-- the class x, whose own __init__ sets the field f -/
def oexB (x f : Str) (K : PySem.W.Frag) : Bool := oexClsB K (He.ga K x) && (decide (PySem.W.findIn K (.ref (He.ga K x)) "__setattr__" = some (some (.builtin "object.__setattr__"))) && (decide (PySem.W.subIn K (.ref (He.ga K x)) (.type "BaseException") = some true) &&
  (decide (PySem.W.typeIn K (.ref (He.ga K x)) = some (.type "type")) && (PySem.W.keepIn K (.ref (He.ga K x)) && (decide (PySem.W.findIn K (.ref (He.ga K x)) f = some none) &&
  (decide (PySem.W.findIn K (.ref (He.ga K x)) "__init__" = some (some (.ref (He.ma K (He.ga K x) "__init__")))) && decide (PySem.W.typeIn K (.ref (He.ma K (He.ga K x) "__init__")) = some (.type "function"))))))))
structure OexF (K : PySem.W.Frag) (x f : Str) : Prop where
  T : OexC K (He.ga K x)
  no : PySem.W.findIn K (.ref (He.ga K x)) f = some none
  iC : PySem.W.findIn K (.ref (He.ga K x)) "__init__" = some (some (.ref (He.ma K (He.ga K x) "__init__")))
  tI : PySem.W.typeIn K (.ref (He.ma K (He.ga K x) "__init__")) = some (.type "function")
theorem oexB_ok {K : PySem.W.Frag} {x f : Str} (h : oexB x f K = true) : OexF K x f := by
  obtain ⟨h1, h⟩ := Bool.and_eq_true_iff.mp h
  obtain ⟨h2, h⟩ := Bool.and_eq_true_iff.mp h
  obtain ⟨h3, h⟩ := Bool.and_eq_true_iff.mp h
  obtain ⟨h4, h⟩ := Bool.and_eq_true_iff.mp h
  obtain ⟨h5, h⟩ := Bool.and_eq_true_iff.mp h
  obtain ⟨h6, h⟩ := Bool.and_eq_true_iff.mp h
  obtain ⟨h7, h8⟩ := Bool.and_eq_true_iff.mp h
  exact ⟨⟨oexClsB_ok h1, of_decide_eq_true h2, of_decide_eq_true h3, of_decide_eq_true h4, h5⟩, of_decide_eq_true h6, of_decide_eq_true h7, of_decide_eq_true h8⟩

section
variable {X : Cx}
/-! ### X() -/
theorem pmk_own0 {C : Addr} {x : Str} {p pos : Pos} (q : PySem.W.excIn X.K C He.veBase "ValueError.__new__" = true) (gC : X.mg x = some (.ref C)) (kC : PySem.W.keepIn X.K (.ref C) = true) (r : Raises X (.ref C)) (hg : Gl X x)
    (hdb : (x == ("__debug__" : Str)) = false := by decide) : L2N.PMk X (.Call (.Name x p) [] [] pos) (fun _ H Q => Q (.ref C) none H) := by
  intro pins s σ H Q I h
  refine wpAny_Call_Name_kw (ld_glob I hg gC (PySem.W.callWith_K0 I.kIn kC ?_) hdb)
  obtain ⟨bm, N, nm, qn, bs, hdct, sn, sub, ab, col, dd, k0, k1, k2, k3, k5, mN, hC, hN, hni, T⟩ := exc_obj I.kIn q
  exact wpAny_call_exc_subT PySem.F.excBase_ValueError T hC hN hni (fun h' e hm => L2N.mk_of I hm r h (I.hok.gone hm.new)) (by show 0 ≤ sizeLine; exact Nat.zero_le _)
/-! ### X(e), the __init__ of which sets one field -/
/-- what the __init__ keeps -/
def spI (K : PySem.W.Frag) (C : Addr) (f : Str) : Sp := fun vs H Q _ => ∃ (a : Addr) (y : V), vs = [.ref a, y] ∧ H a = some (exo a C none) ∧ ∀ dx, H dx = none → dx ≠ a → Q .non (upd (upd H dx (exd dx [(f, y)])) a (exo a C (some dx)))
theorem pmk_oex1 {CX : CXT} {x f : Str} {e : Expr} {ta : TA} {p pos : Pos} {k : Nat} {fd : FuncData} {ps : List Str} (T : OexF X.K x f)
    (F1 : FnOk X.prog X.w X.K X.mg X.base CX k (He.ma X.K (He.ga X.K x) "__init__") fd ps (spI X.K (He.ga X.K x) f)) (hr : Room (k + 1) X.A) (hb : Binds X.K fd ps []) (hx : Passes CX X (fun _ _ _ => False)) (hg : Gl X x) (hm : X.mg x = some (.ref (He.ga X.K x))) (ha : PA X [e] ta)
    (hdb : (x == ("__debug__" : Str)) = false := by decide) (he : starEach [e] X.env = (false, eval e X.env) :: starEach [] X.env := by rfl) (hpl : (backTo pos (starEach [] X.env)).any (·.1) = false := by rfl) :
    L2N.PMk X (.Call (.Name x p) [e] [] pos) (fun σ H Q => ta σ H fun vs H1 => ∃ y, vs = [y] ∧ ∀ d, H1 d = none → Q (.ref (He.ga X.K x)) (some d) (upd H1 d (.xd [(f, y)]))) := by
  intro pins s σ H Q I h
  obtain ⟨nm, q, N, bs, bm, sn, sub, ab, col, dd, k0, k1, k2, k3, k5, hC, hbm⟩ := T.T.cls
  refine wpAny_Call_Name_kw (ld_glob I hg hm (PySem.W.callWith_K (h₀ := X.base) I.ok.mod.kin T.T.kC (thn (ha.run pos pins s σ H _ I h) fun us s1 ⟨vs, H1, I1, r1, y, ev, q1⟩ => ⟨I1.kIn, ?_⟩) he hpl) hdb)
  subst ev
  obtain ⟨hp, g, dr, tk, os⟩ := s1
  -- the new exception's address: behind its tuple of arguments
  have lo : hp.objs.size ≤ hp.objs.size + 1 := Nat.le_succ _
  generalize hA : hp.objs.size + 1 = A at lo
  have nA : H1 A = none := I1.hok.fresh lo
  generalize hG : (hp.push (PySem.W.kdv_tup us)).push (PySem.HandSPX.excO (He.ga X.K x) hp.objs.size) = G
  have kk : ∀ b o, hp.get? b = some o → G.get? b = some o := fun b o e => by rw [← hG]; exact Heap.get?_push_of_some _ (Heap.get?_push_of_some _ e)
  have gA : G.get? A = some (PySem.HandSPX.excO (He.ga X.K x) hp.objs.size) := by rw [← hG, ← hA]; heap_get
  have I2 : Inv X pins σ (upd H1 A (exo A (He.ga X.K x) none)) ⟨G, g, dr, tk, os⟩ := I1.laid (t' := tk) (h' := G) kk lo (exo_ok gA)
  have rv : Vals [V.ref A, y] (Value.ref A :: us) := .cons rfl r1
  have hn : us.length = 1 := by rw [← r1.length]; rfl
  have sp : spI X.K (He.ga X.K x) f [V.ref A, y] (upd H1 A (exo A (He.ga X.K x) none)) (fun v H2 => v = .non ∧ ∃ d, H2 A = some (exo A (He.ga X.K x) (some d)) ∧ H2 d = some (exd d [(f, y)]) ∧ H1 d = none ∧ Q (.ref (He.ga X.K x)) (some d) (upd (del H2 A) d (.xd [(f, y)]))) (fun _ _ _ => False) := by
    refine ⟨A, y, rfl, upd_same, fun d hd hne => ⟨rfl, d, upd_same, by rw [upd_ne hne, upd_same], ?_, ?_⟩⟩
    · rw [upd_ne hne] at hd; exact hd
    · rw [upd_ne hne] at hd
      have e : upd (del (upd (upd (upd H1 A (exo A (He.ga X.K x) none)) d (exd d [(f, y)])) A (exo A (He.ga X.K x) (some d))) A) d (.xd [(f, y)]) = upd H1 d (.xd [(f, y)]) := by
        funext b
        by_cases e1 : b = d
        · subst e1; rw [upd_same, upd_same]
        · rw [upd_ne e1, upd_ne e1]
          by_cases e2 : b = A
          · subst e2; rw [del_same]; exact nA.symm
          · rw [del_ne e2, upd_ne e2, upd_ne e1, upd_ne e2]
      rw [e]; exact q1 d hd
  have hl : (Value.ref A :: us).length = ps.length := (Paired.length rv).symm.trans (F1.len _ _ _ _ sp)
  have bd := hb ⟨G, g, dr, tk, os⟩ (Value.ref A :: us) I2.kIn (by rw [List.append_nil]; exact hl)
  rw [List.append_nil] at bd
  have run := F1.run (X.A.under (.builtin "type.__call__" ⟨.ref (He.ga X.K x) :: us, []⟩)) X.stack ⟨G, g, dr, tk, os⟩ _ ⟨Value.ref A :: us, []⟩ (Value.ref A :: us) _ _ (fun _ _ _ => False) (hr.make _ us []) (I2.env0.make _ us []) bd rv sp
  show wpAny _ _ (call (.ref (He.ga X.K x)) us) _ _ _
  refine wpAny_call (PySem.HandSPX.call_own PySem.F.excBase_ValueError (fun Y => PySem.HandSPX.refsVE_contains Y bm hbm) (I1.kIn _ _ hC) (PySem.W.looks_findIn I1.kIn T.iC) (fun self => PySem.W.bind_fn I1.kIn self T.tI) (by rw [hn, sizeLine_eq]; omega) ?_)
  rw [hG, hA]
  refine codeAny_mono run fun r s' hq => ?_
  cases r with
  | error er => exact hx pins σ _ _ er s' I2 hq
  | ok fl =>
    cases fl with
    | ret u =>
      obtain ⟨v, H2, os2, bare2, un2, hok2, ru, ev, d, ea, ed, hd1, q2⟩ := hq
      subst ev
      obtain ⟨h2, g2, d2, t2, os'⟩ := s'
      obtain ⟨t0, B, J, kB, ge, hoe, na⟩ := mk_end0 (d2 := d2) (t2 := t2) I1 lo kk un2 hok2 os2 bare2 ea ed hd1
      exact ⟨ru, A, _, _, ⟨B, g2, d2, t2, os'⟩, _, .ref (He.ga X.K x), some d, rfl, J, kB, ge, hoe, ⟨rfl, rfl, fun vs hv => by cases hv; rfl⟩, rfl, rfl, na, rfl, bare2, raises_own T.T.exC T.T.tyC, q2⟩
    | next => exact False.elim hq
    | brk => exact False.elim hq
    | cont => exact False.elim hq
/-- def __init__(self, y): self.f = y -/
theorem okI {P : Program} {w : World} {K : PySem.W.Frag} {mg : Str → Option Value} {base : Heap} {x f qual y : Str} {params : Arguments} {p1 p2 p3 pos : Pos} {scope : Scope} {fI : Addr} {fd : FuncData} {k : Nat} (T : OexF K x f)
    (Fd : FunD K "__init__" qual params [.Assign [.Attribute (.Name "self" p1) f p2] (.Name y p3) pos] scope [] [] fI fd) (S : FnScope ["self", y] ["self", y] scope) (hv1 : Vis scope "self") (hv2 : Vis scope y)
    (hd2 : (y == ("__debug__" : Str)) = false := by decide) (hcd2 : (y == ("__classdict__" : Str)) = false := by decide)
    (hs : ∀ env, swapsWith (.Name y p3) (some (.Attribute (.Name "self" p1) f p2)) pos.line env = pure false := by intros; rfl) :
    FnOk P w K mg base (L2N.CX P w) (k + 1) fI fd ["self", y] (spI K (He.ga K x) f) := by
  refine Fd.ok S (fun vs H Q E q => by obtain ⟨a, z, rfl, _⟩ := q; rfl) (fun cdv A outer s H vs Q E hr q => ⟨_, pss_one (ps_ost (f := f) (pe_var (i := 0) rfl hv1 (by decide) (by decide)) (pe_var (i := 1) rfl hv2 hd2 hcd2) (hs _)), ?_⟩)
  obtain ⟨a, z, rfl, e1, q⟩ := q
  exact ⟨z, rfl, .ref a, rfl, a, _, rfl, T.T, T.no, .inl ⟨e1, fun dx h1 h2 => q dx h1 h2⟩⟩
end

/-! ### the statements -/
def sRaise0 (x : Str) : DS := fun _ C => .exn ⟨x, none⟩ C
def sRaise1 (x f : Str) (fe : DA) : DS := fun ρ C => (fe ρ C).bindS fun ds C => match ds with
  | [d] => .exn ⟨x, some (f, d)⟩ C
  | _ => .stuck
section
variable {X : Cx} {T : List (Addr × Str)} {EX : XK}
theorem qs_raise0 {x : Str} {p pos pos' : Pos} (hc : X.calm = true) (tk : L2N.Takes X (fun c d _ H => EX c d H)) (hf : (He.Fa.exc x).ok X.K = true) (hg : Gl X x) (hm : X.mg x = some (.ref (He.ga X.K x))) (hdb : (x == ("__debug__" : Str)) = false := by decide) :
    QS X T EX (.Raise (some (.Call (.Name x p) [] [] pos)) none pos') (sRaise0 x) := by
  obtain ⟨h1, h2, h3, h4⟩ := He.exc_ok hf
  exact PS.weak (L2N.ps_raise hc tk (pmk_own0 h1 hm h2 (raises_own h3 h4) hg hdb)) fun D σ H q => by
    obtain ⟨ρ, Γ, C, O, w, s, p⟩ := q
    exact p _ none H Γ Ext.refl w ⟨rfl, rfl⟩
theorem qs_raise1 {CX : CXT} {x f : Str} {e : Expr} {fe : DA} {p pos pos' : Pos} {k : Nat} {fd : FuncData} {ps : List Str} (hc : X.calm = true) (tk : L2N.Takes X (fun c d _ H => EX c d H)) (F : OexF X.K x f)
    (F1 : FnOk X.prog X.w X.K X.mg X.base CX k (He.ma X.K (He.ga X.K x) "__init__") fd ps (spI X.K (He.ga X.K x) f)) (hr : Room (k + 1) X.A) (hb : Binds X.K fd ps []) (hx : Passes CX X (fun _ _ _ => False)) (hg : Gl X x) (hm : X.mg x = some (.ref (He.ga X.K x))) (ha : QA X T EX [e] fe)
    (hdb : (x == ("__debug__" : Str)) = false := by decide) (he : starEach [e] X.env = (false, eval e X.env) :: starEach [] X.env := by rfl) (hpl : (backTo pos (starEach [] X.env)).any (·.1) = false := by rfl) :
    QS X T EX (.Raise (some (.Call (.Name x p) [e] [] pos)) none pos') (sRaise1 x f fe) :=
  PS.weak (L2N.ps_raise hc tk (pmk_oex1 F F1 hr hb hx hg hm ha hdb he hpl)) fun D σ H q => by
    obtain ⟨ρ, Γ, C, O, w, s, p⟩ := q
    refine ⟨ρ, Γ, C, O, w, s, PostG.bindS p fun ds C1 vs H1 Γ1 x1 w1 r1 p1 => ?_⟩
    split at p1
    · rename_i d
      obtain ⟨v, rfl, rv⟩ := rep1 r1
      refine ⟨v, rfl, fun a ha => ?_⟩
      have x2 : Ext Γ1 C1 H1 Γ1 C1 (upd H1 a (.xd [(f, v)])) := ext_new ha
      exact p1 _ (some a) _ Γ1 x2 (w1.new ha) ⟨rfl, a, v, rfl, upd_same, rv.ext w1 x2⟩
    · exact p1.elim
end
end Qv

/-! ## Q12 -/
set_option Elab.async false
set_option linter.all false
set_option maxRecDepth 100000
/-! Q12: a comprehension over range within an except suite. -/
namespace Qv
open PySem PySem.Spec PyProof.Rows L2
open L2H (PIH PIEH TurnH HotC Hot1)

section
variable {X : Cx} {pins : List (Addr × Obj)} {σ : L2.St} {H : Hp} {s : Shared}
/-- p is pinned in the block too -/
theorem blk_pin {scope : Scope} {ce : PySem.Env} {fp : List Addr} {σ' : L2.St} {H' : Hp} {s' : Shared} {p : Addr × Obj} (I : Inv X pins σ H s) (hp : p ∈ X.pn ++ pins) (J : Inv (X.blk s H scope ce fp) [] σ' H' s') (hL : ce.locals = s.heap.objs.size)
    (k : ∀ b o, s.heap.get? b = some o → s'.heap.get? b = some o) (hn : H' p.1 = none) : Inv (X.blk s H scope ce fp) [p] σ' H' s' := by
  obtain ⟨e1, _, e3, e4, e5⟩ := I.pin p hp
  refine J.pins_of fun q hq => ?_
  have eq : q = p := by simpa using hq
  subst eq
  refine ⟨k _ _ e1, hn, ?_, fun z => ?_, e5⟩
  · show q.1 ≠ ce.locals
    rw [hL]
    exact Nat.ne_of_lt (Heap.lt_size e1)
  · have z : q.1 ∈ frs X.stack := z
    rcases List.mem_cons.mp (I.stkSub _ z) with y | y
    · exact e3 y
    · exact e4 y
/-- what a thing of Turn with the hot exception asks, where it is only pinned -/
theorem hot_run {α : Type} {p : Addr × Obj} {t : Sem α} {Q : α → Shared → Prop} {E : Value → Shared → Prop} (I : Inv X pins σ H s) (hp : p ∈ X.pn ++ pins) (h1 : Hot1 X.A p)
    (h : ∀ X' : Cx, X' = X.tr (X.pn ++ pins) X.xe → HotC X' → Inv X' [] σ H s → wpAny (model X.prog X.w) X.A t Q E s) : wpAny (model X.prog X.w) X.A t Q E s :=
  h _ rfl ⟨p, h1, hp⟩ (I.toTry X.xe)
theorem pe_lcH {elt tg iter : Expr} {ifs : List Expr} {scope : Scope} {own : List (Str × Nat)} {pos : Pos} {wi : TI} {g : TG} {tt : TT} {te : TE} {p : Addr × Obj} (hpn : p ∈ X.pn) (hot : Hot1 X.A p) (hN : X.N.Nodup) (hi : PIH X tg iter wi) (ok : BlkOk X.N X.env.scope scope own)
    (hg : ∀ (s : Shared) (H : Hp) (C : Addr) (cl : List (Str × Addr)) (fp : List Addr), PG (X.blk s H scope (compEnvC scope cl C X.env) fp) tg g) (ht : ∀ (s : Shared) (H : Hp) (C : Addr) (cl : List (Str × Addr)) (fp : List Addr), PTs (X.blk s H scope (compEnvC scope cl C X.env) fp) ifs tt)
    (he : ∀ (s : Shared) (H : Hp) (C : Addr) (cl : List (Str × Addr)) (fp : List Addr), PE (X.blk s H scope (compEnvC scope cl C X.env) fp) elt te) (hs : ∀ x, foldedSetIterable iter X.env x = pure x := by intro _; rfl) :
    PE X (.ListComp elt [⟨tg, iter, ifs, 0⟩] scope pos) (tLc wi g tt te (own.map (·.2))) := by
  refine ⟨fun pins s σ H Q I h => ?_⟩
  have hfree : ∀ y ∈ scope.names, y.2 = .free → ∃ c, X.env.cells.lookup y.1 = some c := fun y hy e => (ok.free y hy e).elim (fun k => I.ok.has _ (.inl k)) fun k => I.ok.has _ (.inr k)
  rw [eval_ListComp]
  refine wpAny_comprehension_free (use := none) rfl hs (closure_ok hfree) ok.kind (fun y hy e => by rw [ok.uniq y hy, e]) (thn (hi.run pins s σ H _ I h) fun xv s1 hx => thn hx fun itv s2 h2 => ?_)
  obtain ⟨it, fp, tn, J, H2, rfl, I2, T, st2, f2, q⟩ := h2
  refine wpAny_newObj_type (newEnv_comp ?_) (by show 0 ≤ sizeLine; decide)
  generalize hD : s2.heap.objs.size = D
  have hDn : H2 D = none := I2.hok.fresh (Nat.le_of_eq hD)
  obtain ⟨W, ⟨m0, w0⟩, turn⟩ := q D hDn
  generalize hs3 : ({ s2 with heap := s2.heap.push { cls := .type "list", data := .seq ([] : List Value).toArray } } : Shared) = s3
  have h3 : s3.heap = s2.heap.push { cls := .type "list", data := .seq ([] : List Value).toArray } := by rw [← hs3]
  have k3 : ∀ b o, s2.heap.get? b = some o → s3.heap.get? b = some o := fun b o e => by rw [h3]; exact Heap.get?_push_of_some _ e
  have I3 : Inv X pins σ (upd H2 D (.lst [])) s3 := by
    rw [← hs3]
    refine I2.laid (t' := s2.toks) (fun b o e => Heap.get?_push_of_some _ e) (Nat.le_of_eq hD) ⟨Nat.zero_le _, [], 0, .nil, ?_⟩
    rw [← hD]
    exact Heap.get?_push_size _ rfl
  have sz : ∀ b ∈ fp, b < s2.heap.objs.size := fun b hb => by
    obtain ⟨o, e, _⟩ := T.obj _ _ st2 b hb
    exact Heap.lt_size e
  generalize hH3 : upd H2 D (.lst []) = H3 at I3 w0
  have f3 : ∀ b ∈ fp, FpOk X pins H3 b ∧ b < s3.heap.objs.size := fun b hb => by
    have lt := sz b hb
    refine ⟨⟨?_, (f2 b hb).2⟩, by rw [h3, Heap.size_push]; exact Nat.lt_succ_of_lt lt⟩
    rw [← hH3, upd_ne (by rw [← hD]; exact Nat.ne_of_lt lt)]
    exact (f2 b hb).1
  have st3 : tn 0 s3.heap := T.keep _ _ _ st2 fun b _ o e => k3 b o e
  have I4 := block_start I3 ok hN f3
  have nfp : ∀ b ∈ fp, H3 b = none := fun b hb => (f3 b hb).1.1
  have pin3 := I3.pin p (List.mem_append_left _ hpn)
  have np : ∀ b ∈ fp, p.1 ≠ b := fun b hb => (f3 b hb).1.2.2.2.2.2 p (List.mem_append_left _ hpn)
  have pg := hg s3 H3 s3.heap.objs.size (cellsFrom (s3.heap.objs.size + 1) scope.names (cloFrom X.env.cells scope.names [])) fp
  have pt := ht s3 H3 s3.heap.objs.size (cellsFrom (s3.heap.objs.size + 1) scope.names (cloFrom X.env.cells scope.names [])) fp
  have pe := he s3 H3 s3.heap.objs.size (cellsFrom (s3.heap.objs.size + 1) scope.names (cloFrom X.env.cells scope.names [])) fp
  show codeAny _ _ (.compStart (.ListComp elt [⟨tg, iter, ifs, 0⟩] scope pos) 0 (.ref it) (.ref D) (compEnvC scope (cellsFrom (s3.heap.objs.size + 1) scope.names (cloFrom X.env.cells scope.names [])) s3.heap.objs.size X.env)) (compPost (model X.prog X.w) X.A X.xe none (EP X pins σ Q) (.ref D) s3.heap.objs.size) { s3 with heap := pushCells (s3.heap.push { cls := .type "dict", data := .dict #[] }) scope.names }
  generalize hce : compEnvC scope (cellsFrom (s3.heap.objs.size + 1) scope.names (cloFrom X.env.cells scope.names [])) s3.heap.objs.size X.env = ce at I4 pg pt pe ⊢
  have cL : ce.locals = s3.heap.objs.size := by subst hce; rfl
  generalize hs4 : ({ s3 with heap := pushCells (s3.heap.push { cls := .type "dict", data := .dict #[] }) scope.names } : Shared) = s4 at I4 ⊢
  have k4 : ∀ b o, s3.heap.get? b = some o → s4.heap.get? b = some o := fun b o e => by rw [← hs4]; exact pushCells_keeps _ _ _ _ (Heap.get?_push_of_some _ e)
  have st4 : tn 0 s4.heap := T.keep _ _ _ st3 fun b _ o e => k4 b o e
  have I4' : Inv (X.blk s3 H3 scope ce fp) [p] (wipe σ (own.map (·.2))) H3 s4 := blk_pin I3 (List.mem_append_left _ hpn) I4 cL k4 pin3.2.1
  have stat : ∀ {σ' : L2.St} {H' : Hp} {s' : Shared}, Inv (X.blk s3 H3 scope ce fp) [p] σ' H' s' → (∀ b ∈ fp, H' b = none) → ∀ b ∈ fp, FpOk (X.blk s3 H3 scope ce fp) [p] H' b := fun {σ' H' s'} I' hn b hb =>
    ⟨hn b hb, (I'.ok.exf b hb).1, I'.ok.exfs b hb, .inl hb, fun x c e => (I'.ok.exf b hb).2 x c e, fun r hr => by
      have er : r = p := by simpa using hr
      subst er
      exact np b hb⟩
  have loop : codeAny (model X.prog X.w) X.A (.compLoop (.ListComp elt [⟨tg, iter, ifs, 0⟩] scope pos) 0 (.ref it) (.ref D) ce) (compPost (model X.prog X.w) X.A X.xe none (EP X pins σ Q) (.ref D) s3.heap.objs.size) s4 := by
    refine compLoop_any (fun n s' => ∃ i H', Inv (X.blk s3 H3 scope ce fp) [p] (wipe σ (own.map (·.2))) H' s' ∧ tn i s'.heap ∧ (∀ b ∈ fp, H' b = none) ∧ W i n H') ?_ m0 ⟨0, H3, I4', st4, nfp, w0⟩
    rintro n s5 ⟨i, H5, I5, st5, n5, w5⟩
    have hotX : ∀ X' : Cx, X' = (X.blk s3 H3 scope ce fp).tr ((X.blk s3 H3 scope ce fp).pn ++ [p]) (X.blk s3 H3 scope ce fp).xe → HotC X' ∧ Inv X' [] (wipe σ (own.map (·.2))) H5 s5 ∧ ∀ b ∈ fp, FpOk X' [] H5 b := fun X' e => by
      subst e
      refine ⟨⟨p, hot, by simp⟩, I5.toTry _, fun b hb => ?_⟩
      obtain ⟨z0, z1, z2, z3, z4, z5⟩ := stat I5 n5 b hb
      exact ⟨z0, z1, z2, z3, z4, fun r hr => z5 r (by simpa using hr)⟩
    obtain ⟨hh, I5t, fpt⟩ := hotX _ rfl
    rcases turn i n H5 w5 with ⟨stop, qq⟩ | ⟨go, Nx, hNx, step⟩
    · refine thnF (T.done ((X.blk s3 H3 scope ce fp).tr ((X.blk s3 H3 scope ce fp).pn ++ [p]) (X.blk s3 H3 scope ce fp).xe) rfl rfl rfl hh i [] s5 _ H5 (fun _ _ => False) I5t fpt st5 stop) fun r s6 ⟨hr, I6t⟩ => ?_
      subst hr
      have I6 : Inv (X.blk s3 H3 scope ce fp) [p] (wipe σ (own.map (·.2))) H5 s6 := I6t.ofTry (pins := [p]) I5.ok
      have I7 : Inv X pins σ H5 s6 := I3.call' (ch := fp) I6.os I6.base I6.hok I6.bare fun b hb => ⟨(f3 b hb).1.2.2.2.1, (f3 b hb).1.2.1, (f3 b hb).1.2.2.2.2.1, (f3 b hb).1.2.2.2.2.2⟩
      have nC : H5 s3.heap.objs.size = none := by
        have z : H5 ce.locals = none := I6.free
        rwa [cL] at z
      obtain ⟨m, hn, _⟩ := I6.loc
      have hn : s6.heap.Ns ce.locals m := hn
      rw [cL] at hn
      refine ⟨m, hn, fun h'' sb => ?_⟩
      obtain ⟨z0, z1, z2, z3, z4, z5⟩ := I3.fpOk (Nat.le_refl _) nC
      exact ⟨.ref D, H5, I7.turned (t' := s6.toks) (fun b o hb e => (sb.2 b hb).trans e) z0 z1 z3 z4 z5, rfl, qq⟩
    · refine thnF (T.item ((X.blk s3 H3 scope ce fp).tr ((X.blk s3 H3 scope ce fp).pn ++ [p]) (X.blk s3 H3 scope ce fp).xe) rfl rfl rfl hh i [] s5 _ H5 (fun _ _ => False) I5t fpt st5 go) fun r s6 ⟨u, hr, h6⟩ => ?_
      subst hr
      refine thnF h6 fun _ s7 ⟨x, H7, I7t, r7, y7, st7, n7⟩ => ?_
      have I7 : Inv (X.blk s3 H3 scope ce fp) [p] (wipe σ (own.map (·.2))) H7 s7 := I7t.ofTry (pins := [p]) I5.ok
      have I7' := I7.pinned (stat I7 n7) (T.obj _ _ st7)
      refine thnF (pg.run _ s7 _ H7 x u _ I7' r7 (step x H7 y7)) fun _ s8 ⟨σ8, H8, I8, hw8, q8⟩ => thnF (pt.run _ s8 σ8 H8 _ I8 q8) fun b s9 ⟨H9, I9, q9⟩ => ?_
      have fin : ∀ {s' : Shared} {H' : Hp}, Inv (X.blk s3 H3 scope ce fp) ([p] ++ pinsAt fp s7.heap) σ8 H' s' → Nx H' → ∃ m, m < n ∧ ∃ i H', Inv (X.blk s3 H3 scope ce fp) [p] (wipe σ (own.map (·.2))) H' s' ∧ tn i s'.heap ∧ (∀ b ∈ fp, H' b = none) ∧ W i m H' := fun {s' H'} I' nx => by
        obtain ⟨m', hm, w'⟩ := hNx H' nx
        have pin' : ∀ b ∈ fp, ∀ o, s7.heap.get? b = some o → s'.heap.get? b = some o ∧ H' b = none := fun b hb o e =>
          let z := I'.pin (b, o) (List.mem_append_right _ (List.mem_append_right _ (mem_pinsAt hb e)))
          ⟨z.1, z.2.1⟩
        refine ⟨m', hm, i + 1, H', I'.unpinned.weak (by rw [← hw8, wipe_length]) (fun j v e => ?_), T.keep _ _ _ st7 fun b hb o e => (pin' b hb o e).1, fun b hb => ?_, w'⟩
        · rw [← hw8] at e
          exact (wipe_some e).1
        · obtain ⟨o, e, _⟩ := T.obj _ _ st7 b hb
          exact (pin' b hb o e).2
      cases b with
      | false =>
        simp only [Bool.false_eq_true, if_false] at q9 ⊢
        exact fin I9 q9
      | true =>
        simp only [if_true] at q9 ⊢
        refine thnF (pe.run _ s9 σ8 H9 _ I9 q9) fun z s10 ⟨yv, H10, I10, r10, acc, hD10, hz10, nx⟩ => ?_
        exact app_ok (X := X.blk s3 H3 scope ce fp) I10 hD10 hz10 r10 fun s11 I11 => fin I11 nx
  exact codeAny_compStart_list loop (T.self X.A 0 _ _ _ st4 loop)
end
/-! ### as a fresh list -/
def QIH (X : Cx) (T : List (Addr × Str)) (EX : XK) (tg iter : Expr) (f : DA) : Prop := PIH X tg iter (tI X.K T EX f)
section
variable {X : Cx} {T : List (Addr × Str)} {EX : XK}
theorem qi_range1H {tg a : Expr} {f : DE} {p pos : Pos} (hg : Gl X "range") (hm : X.mg "range" = none) (ha : QE X T EX a f) (hs : starEach [a] X.env = [(false, eval a X.env)] := by rfl) (h1 : starEach [a] X.env = (false, eval a X.env) :: starEach [] X.env := by rfl) :
    QIH X T EX tg (.Call (.Name "range" p) [a] [] pos) (iRange1 f) := ⟨fun pins s σ H R I q => (L2H.pi_range1H hg hm (pa_cons ha pa_nil h1) hs).run pins s σ H R I (by
  obtain ⟨ρ, Γ, C, O, w, s, p⟩ := q
  refine ⟨ρ, Γ, C, O, w, s, PostI.bind p fun d C1 v H1 Γ1 x1 w1 r1 p1 => ?_⟩
  split at p1
  · split at p1
    · rename_i j hz
      have hz := of_decide_eq_true hz
      cases r1
      exact ⟨j, rfl, hz.1, hz.2, p1 _ H1 Γ1 Ext.refl w1 (walks_range 0 _)⟩
    · exact p1.elim
  · exact p1.elim)⟩
theorem qf_lcH {elt tg iter : Expr} {ifs : List Expr} {scope : Scope} (own : List (Str × Nat)) {pos : Pos} {t : Tgt} {fi : DA} {c : DB} {e : DE} {p : Addr × Obj} (hpn : p ∈ X.pn) (hot : Hot1 X.A p) (hN : X.N.Nodup) (hi : QIH X T EX tg iter fi) (ok : BlkOk X.N X.env.scope scope own)
    (hg : ∀ (s : Shared) (H : Hp) (C : Addr) (cl : List (Str × Addr)) (fp : List Addr), QG (X.blk s H scope (compEnvC scope cl C X.env) fp) T tg t) (ht : ∀ (s : Shared) (H : Hp) (C : Addr) (cl : List (Str × Addr)) (fp : List Addr), QTs (X.blk s H scope (compEnvC scope cl C X.env) fp) T ifs c)
    (he : ∀ (s : Shared) (H : Hp) (C : Addr) (cl : List (Str × Addr)) (fp : List Addr), QE (X.blk s H scope (compEnvC scope cl C X.env) fp) T E0 elt e) (hsub : ∀ i ∈ t.slots, i ∈ own.map (·.2) := by decide) (hs : ∀ x, foldedSetIterable iter X.env x = pure x := by intro _; rfl) :
    QF X T EX (.ListComp elt [⟨tg, iter, ifs, 0⟩] scope pos) (fComp t (own.map (·.2)) fi c e) :=
  PE.weak (pe_lcH (g := tG X.K T t.bind t.slots) (tt := tT X.K T E0 c) (te := tE X.K T E0 e) hpn hot hN hi ok hg ht he hs) fun σ H Q => lc_ok hsub
end
end Qv

/-! ## Q13 -/
set_option Elab.async false
set_option linter.all false
set_option maxRecDepth 100000
/-! Q13: split, join, strip; a caught exception's class and field. -/
namespace Qv
open PySem PySem.Spec PyProof.Rows L2

section
variable {X : Cx} {T : List (Addr × Str)} {EX : XK}
theorem RepA.strs {K : PySem.W.Frag} {B : Addr → Prop} {Γ : List Addr} {H : Hp} : ∀ xs : List Str, RepA K B Γ H (xs.map V.str) (xs.map D.str)
  | [] => .nil
  | x :: xs => .cons (.str x) (RepA.strs xs)
def fSplit (fo fe : DE) : DF := fun ρ C => (fo ρ C).bind fun x C => match x with
  | .str a => (fe ρ C).bind fun y C => match y with
    | .str b => if (!(b.length == 0) && decide (a.length + 2 ≤ sizeLine)) = true then .ok ((Txt.split a b).map D.str) C else .stuck
    | _ => .stuck
  | _ => .stuck
theorem qf_split {o e : Expr} {fo fe : DE} {apos pos : Pos} (ho : QE X T EX o fo) (he : QE X T EX e fe) (hs : starEach [e] X.env = [(false, eval e X.env)] := by rfl) (hbase : attributeBase o "split" X.env (eval o X.env) = eval o X.env := by rfl) (hline : (apos.endLine == pos.line) = true := by rfl) :
    QF X T EX (.Call (.Attribute o "split" apos) [e] [] pos) (fSplit fo fe) := PE.weak (pe_split ho he hs hbase hline) fun σ H Q q => by
  obtain ⟨ρ, Γ, C, O, w, s, p⟩ := q
  refine ⟨ρ, Γ, C, O, w, s, PostF.bind p fun d C1 v H1 Γ1 x1 w1 r1 p1 => ?_⟩
  split at p1
  · rename_i a
    cases r1
    refine ⟨⟨a, rfl⟩, ρ, Γ1, C1, O, w1, s.ext w x1, PostF.bind p1 fun d2 C2 v2 H2 Γ2 x2 w2 r2 p2 => ?_⟩
    split at p2
    · rename_i b
      cases r2
      split at p2
      · rename_i hz
        obtain ⟨h1, h2⟩ := Bool.and_eq_true_iff.mp hz
        exact ⟨a, b, rfl, rfl, by simpa using h1, of_decide_eq_true h2, fun p hp => postF_new p2 Ext.refl w2 (RepA.strs _) p hp⟩
      · exact p2.elim
    · exact p2.elim
  · exact p1.elim
def allStr : List D → Option (List Str)
  | [] => some []
  | .str x :: r => (allStr r).map fun l => x :: l
  | _ :: _ => none
theorem allStr_eq : ∀ {ds : List D} {xs : List Str}, allStr ds = some xs → ds = xs.map D.str
  | [], _, h => by cases h; rfl
  | .str x :: r, xs, h => by
    obtain ⟨l, h1, h2⟩ := Option.map_eq_some_iff.mp (show (allStr r).map (fun l => x :: l) = some xs from h)
    subst h2
    rw [List.map_cons, allStr_eq h1]
theorem RepA.strs_of {K : PySem.W.Frag} {B : Addr → Prop} {Γ : List Addr} {H : Hp} : ∀ {xs : List Str} {vs : List V}, RepA K B Γ H vs (xs.map D.str) → vs = xs.map V.str
  | [], vs, h => by cases h; rfl
  | x :: xs, vs, h => by
    cases h with
    | cons a b =>
      cases a
      rw [List.map_cons, RepA.strs_of b]
def eJoin (fo fe : DE) : DE := fun ρ C => (fo ρ C).bind fun x C => match x with
  | .str a => (fe ρ C).bind fun y C => match (y.seq C).bind allStr with
    | some ys => if (ys.map (·.length)).sum + ys.length * a.length ≤ 16777216 then .ok (.str (Txt.join a ys)) C else .stuck
    | none => .stuck
  | _ => .stuck
theorem qe_join {o e : Expr} {fo fe : DE} {apos pos : Pos} (ho : QE X T EX o fo) (he : QE X T EX e fe) (hs : starEach [e] X.env = [(false, eval e X.env)] := by rfl) (hbase : attributeBase o "join" X.env (eval o X.env) = eval o X.env := by rfl) (hline : (apos.endLine == pos.line) = true := by rfl) :
    QE X T EX (.Call (.Attribute o "join" apos) [e] [] pos) (eJoin fo fe) := PE.weak (pe_join ho he hs hbase hline) fun σ H Q q => by
  obtain ⟨ρ, Γ, C, O, w, s, p⟩ := q
  refine ⟨ρ, Γ, C, O, w, s, PostG.bind p fun d C1 v H1 Γ1 x1 w1 r1 p1 => ?_⟩
  split at p1
  · rename_i a
    cases r1
    refine ⟨⟨a, rfl⟩, ρ, Γ1, C1, O, w1, s.ext w x1, PostG.bind p1 fun d2 C2 v2 H2 Γ2 x2 w2 r2 p2 => ?_⟩
    split at p2
    · rename_i ys ey
      split at p2
      · rename_i hz
        obtain ⟨ds, e1, e2⟩ := Option.bind_eq_some_iff.mp ey
        obtain ⟨pa, vs, rfl, h1, ra⟩ := r2.seq w2 e1
        rw [allStr_eq e2] at ra
        rw [RepA.strs_of ra] at h1
        exact ⟨a, pa, ys, rfl, rfl, .inl (SqL.of h1), hz, p2 _ H2 Γ2 Ext.refl w2 (.str _)⟩
      · exact p2.elim
    · exact p2.elim
  · exact p1.elim
def eStrip (fo fe : DE) : DE := fun ρ C => (fo ρ C).bind fun x C => match x with
  | .str a => (fe ρ C).bind fun y C => match y with
    | .str b => if a.length ≤ sizeLine then .ok (.str (Txt.stripChars a b)) C else .stuck
    | _ => .stuck
  | _ => .stuck
theorem qe_strip {o e : Expr} {fo fe : DE} {apos pos : Pos} (ho : QE X T EX o fo) (he : QE X T EX e fe) (hs : starEach [e] X.env = [(false, eval e X.env)] := by rfl) (hbase : attributeBase o "strip" X.env (eval o X.env) = eval o X.env := by rfl) (hline : (apos.endLine == pos.line) = true := by rfl) :
    QE X T EX (.Call (.Attribute o "strip" apos) [e] [] pos) (eStrip fo fe) := PE.weak (pe_m1 PySem.F.slot_str_strip PySem.F.type_str_strip mt_stripChars ho he hs hbase hline) fun σ H Q q => by
  obtain ⟨ρ, Γ, C, O, w, s, p⟩ := q
  refine ⟨ρ, Γ, C, O, w, s, PostG.bind p fun d C1 v H1 Γ1 x1 w1 r1 p1 => ?_⟩
  split at p1
  · rename_i a
    cases r1
    refine ⟨⟨a, rfl⟩, ρ, Γ1, C1, O, w1, s.ext w x1, PostG.bind p1 fun d2 C2 v2 H2 Γ2 x2 w2 r2 p2 => ?_⟩
    split at p2
    · rename_i b
      cases r2
      split at p2
      · exact ⟨a, b, rfl, rfl, by assumption, p2 _ H2 Γ2 Ext.refl w2 (.str _)⟩
      · exact p2.elim
    · exact p2.elim
  · exact p1.elim
end

/-! ### isinstance of a caught exception -/
def excCB (K : PySem.W.Frag) (D : Addr) : Bool := decide (PySem.W.findIn K (.ref D) "__getattribute__" = some (some (.builtin "BaseException.__getattribute__"))) && (decide (PySem.W.findIn K (.ref D) "__getattr__" = some none) &&
  (decide (PySem.W.subIn K (.ref D) (.type "BaseException") = some true) && (PySem.W.hasDictIn K D && (decide (PySem.W.findIn K (.ref D) "__class__" = some (some (.builtin "object.__class__"))) &&
  (decide (PySem.W.specialIn K (.builtin "object.__class__") "__get__" = some (some (.builtin "getset_descriptor.__get__"))) && (decide (PySem.W.takesIn K (.builtin "object.__class__") = some true) && decide (PySem.W.mroIn K D (.type "object") = some true)))))))
theorem excCB_ok {K : PySem.W.Frag} {D : Addr} (h : excCB K D = true) : ExcC K D := by
  obtain ⟨h1, h⟩ := Bool.and_eq_true_iff.mp h
  obtain ⟨h2, h⟩ := Bool.and_eq_true_iff.mp h
  obtain ⟨h3, h⟩ := Bool.and_eq_true_iff.mp h
  obtain ⟨h4, h⟩ := Bool.and_eq_true_iff.mp h
  obtain ⟨h5, h⟩ := Bool.and_eq_true_iff.mp h
  obtain ⟨h6, h⟩ := Bool.and_eq_true_iff.mp h
  obtain ⟨h7, h8⟩ := Bool.and_eq_true_iff.mp h
  exact ⟨of_decide_eq_true h1, of_decide_eq_true h2, of_decide_eq_true h3, h4, of_decide_eq_true h5, of_decide_eq_true h6, of_decide_eq_true h7, of_decide_eq_true h8⟩
section
open PySem.W PySem.Calls
variable {prog : Program} {w : World} {A : Around} {E : Value → Shared → Prop} {s : Shared} {K : Frag} {x D : Addr} {ox : Obj} {od : Option Obj}
/-- e.__class__, with a dict or without -/
theorem exc_class {Q : Option Value → Shared → Prop} (c : ExcC K D) (X : K.In s.heap) (I : InstAt s.heap x ox D od) (h : Q (some (.ref D)) { s with toks := s.toks + 1 }) : wpAny (model prog w) A (getAttr? (.ref x) "__class__") Q E s := by
  have hf : findObj K D od "__class__" = some (.bind (.builtin "getset_descriptor.__get__") (.builtin "object.__class__")) := by
    obtain ⟨cd, hc, _⟩ := any_some c.hd
    unfold findObj
    rw [hc, Option.bind_some, c.ha, Option.bind_some]
    simp [c.hn, c.ht]
  obtain ⟨hp, g, d, t, os⟩ := s
  have T0 := I.type (M := model prog w)
  have T1 := looks_findIn (M := model prog w) X c.hg
  have T2 := looks_findIn (M := model prog w) X c.hk
  have T3 := looks_find (M := model prog w) X I hf
  have sub : Looks (model prog w) hp (isInstance (.ref x) (.type "BaseException")) true := T0.andThen (looks_subIn X c.hs)
  have z2 : (Value.builtin "BaseException.__getattribute__" == Value.builtin "object.__getattribute__") = false := by decide +kernel
  have z1 : (onTheHeap (Value.ref D) && Value.builtin "BaseException.__getattribute__" == Value.builtin "object.__getattribute__") = false := by rw [z2]; rfl
  unfold getAttr? getAttrBy? getAttrBy
  refine wpAny_bind (wpAny_mkText (wpAny_bind (wpAny_attempt (wpAny_holding (wpAny_bind (T0.at (wpAny_bind (T1.at ?_))))))))
  show wpAny _ _ (if (onTheHeap (Value.ref D) && Value.builtin "BaseException.__getattribute__" == Value.builtin "object.__getattribute__") = true then _ else _) _ _ _
  rw [z1, if_neg Bool.false_ne_true]
  unfold getAttrByItsOwn hookBefore
  refine wpAny_bind ?_
  rw [if_pos (show onTheHeap (Value.ref D) = true from rfl)]
  refine T2.at (wpAny_bind (wpAny_attempt (wpAny_holding ?_)))
  unfold callGetattribute
  rw [show (false && onTheHeap (Value.builtin "BaseException.__getattribute__")) = false from rfl, if_neg Bool.false_ne_true]
  unfold boundAndCalled
  rw [PySem.F.excAttr_ValueError.ga.bind (.ref x)]
  refine wpAny_bind (wpAny_pure ?_)
  show wpAny _ _ (call (.builtin "BaseException.__getattribute__") [.ref x, .str "__class__" t]) _ _ _
  refine wpAny_call (codeAny_call_builtin PySem.F.excAttr_ValueError.ga.plain PySem.F.entry_bexc_ga ?_)
  refine @check_slot (model prog w) _ _ ⟨hp, g, d, t + 1, os⟩ "BaseException.__getattribute__" "BaseException" "__getattribute__" (.ref x) [.str "__class__" t] [] _ (by decide +kernel) (by decide +kernel) sub (PySem.F.args_bexc_ga (.ref x) (.str "__class__" t)) ?_
  unfold Builtin.«object.__getattribute__»
  refine wpAny_bind (wpAny_of_eq (a := ((Value.ref x : Value), [Value.str "__class__" t])) (by first | rfl | (simp only [slotArgs]; rfl)) ?_)
  refine wpAny_bind (wpAny_pure (wpAny_bind (T0.at (wpAny_bind (T3.at ?_)))))
  show wpAny _ _ (holding [Value.builtin "object.__class__"] (call (.builtin "getset_descriptor.__get__") [.builtin "object.__class__", .ref x, .ref D]) >>= ret) _ _ _
  refine wpAny_bind (wpAny_holding (wpAny_call (class_get (s := ⟨hp, g, d, t + 1, os⟩) (ox := ox) (od := od) X I c.hm (wpAny_pure ?_))))
  show wpAny _ _ (handedOut (.ref D)) _ _ _
  rw [handedOut_of (v := .ref D) rfl]
  first
    | exact wpAny_pure (wpAny_pure h)
    | exact wpAny_pure h
    | exact wpAny_pure (wpAny_bind (wpAny_pure (wpAny_pure h)))
theorem exc_kit (c : ExcC K D) : KitX K (.ref x) (.ref D) (fun h => ∃ od, InstAt h x ox D od) where
  ty := fun _ _ _ ⟨_, I⟩ => I.type
  it := fun _ _ X _ => by
    obtain ⟨cdD, hcD, _⟩ := any_some c.hd
    unfold clsIn at hcD
    split at hcD
    · rename_i c' d' cd' sl' ho
      intro A' Q' E' s' k q
      unfold isType loadHead
      exact wpAny_bind (wpAny_loadPart (k _ _ (X _ _ ho)) (wpAny_pure q))
    · cases hcD
  ne := fun h tp dd its n sl X htp => by
    obtain ⟨cdD, hcD, _⟩ := any_some c.hd
    refine Bool.eq_false_iff.mpr fun q => ?_
    have e : D = tp := Value.ref.inj (beq_iff_eq.mp q)
    subst e
    unfold clsIn at hcD
    split at hcD
    · rename_i c' d' cd' sl' ho
      have z := (X _ _ ho).symm.trans htp
      cases z
    · cases hcD
  ca := fun X ⟨_, I⟩ k => exc_class c X I k
end
/-- what the slot of a caught exception holds -/
def isEv (a : Addr) (d : Option Addr) : D → Bool
  | .opq (.ref a') none => d == none && a' == a
  | .opq (.ref a') (some (dd, .xd _)) => d == some dd && a' == a
  | _ => false
section
variable {X : Cx} {T : List (Addr × Str)} {EX : XK}
theorem isEv_of {K : PySem.W.Frag} {B : Addr → Prop} {Γ : List Addr} {H : Hp} {a : Addr} {d : Option Addr} {z : D} {v : V} (r : Rep K B Γ H v z) (h : isEv a d z = true) : v = .ref a ∧ ∀ dd, d = some dd → ∃ fs, H dd = some (.xd fs) := by
  unfold isEv at h
  split at h
  · cases r
    simp only [Bool.and_eq_true, beq_iff_eq] at h
    obtain ⟨h1, h2⟩ := h
    subst h1 h2
    exact ⟨rfl, fun dd e => by cases e⟩
  · rename_i a' dd fs
    cases r with
    | opq hf =>
      simp only [Bool.and_eq_true, beq_iff_eq] at h
      obtain ⟨h1, h2⟩ := h
      subst h1 h2
      exact ⟨rfl, fun d2 e => by cases e; exact ⟨fs, (hf _ _ rfl).1⟩⟩
  · cases h
/-- isinstance(e, C) -/
def eIsE (a : Addr) (d : Option Addr) (b : Bool) (fe : DE) : DE := fun ρ C => (fe ρ C).bind fun z C => if isEv a d z = true then .ok (.bl b) C else .stuck
theorem call_isEd {a D : Addr} {oe : Obj} {d : Option Addr} {pn : List (Addr × Obj)} (C : ExcC X.K D) (hz : Zc (.ref D) d oe) (hf : ∃ vs, oe.data = .fields vs) : CallR (X.suite a ((a, oe) :: pn)) (.builtin "isinstance")
    (fun xs H Q => ∃ (c : V) (cv : Value) (b : Bool), xs = [.ref a, c] ∧ (∀ u, RelV c u → u = cv) ∧ PySem.W.kitOne X.K (.ref D) cv = some b ∧ (∀ dd, d = some dd → ∃ fs, H dd = some (.xd fs)) ∧ Q (.bl b) H) := by
  intro pins s σ H xs us Q I r h
  obtain ⟨c, cv, b, rfl, hcv, e, hd, q⟩ := h
  cases r with
  | cons rx rr =>
    cases rr with
    | cons rt rr =>
      cases rr
      cases rx
      cases hcv _ rt
      obtain ⟨hget, _⟩ := I.pin (a, oe) (List.mem_append.mpr (.inl List.mem_cons_self))
      obtain ⟨vs, hv⟩ := hf
      have J : ∃ od, PySem.W.InstAt s.heap a oe D od := by
        cases ed : d with
        | none =>
          rw [ed] at hz
          refine ⟨none, hget, hz.1, ?_, ?_⟩
          · unfold PySem.W.notCls; rw [hv]
          · rw [hz.2]; trivial
        | some dd =>
          obtain ⟨fs, ea⟩ := hd dd ed
          have hx : ObjOk X.prog X.w H s.heap dd (.xd fs) := I.hok dd _ ea
          obtain ⟨mA, hns, hr⟩ := hx
          obtain ⟨od, ho, hl⟩ := lookIn_ns hns
          rw [ed] at hz
          refine ⟨some od, hget, hz.1, ?_, ?_⟩
          · unfold PySem.W.notCls; rw [hv]
          · rw [hz.2]; exact ho
      exact PySem.W.kia_one (exc_kit C) I.kIn J e (fun z => nomatch z) fun tk => ⟨.bl b, H, I.kept (t' := tk) fun _ _ z => z, rfl, q⟩
theorem qe_isE {a D : Addr} {oe : Obj} {d : Option Addr} {pn : List (Addr × Obj)} {x y : Str} {C : Addr} {e : Expr} {fe : DE} {b : Bool} {p p2 pos : Pos} (hC : ExcC X.K D) (hz : Zc (.ref D) d oe) (hf : ∃ vs, oe.data = .fields vs) (hg : Gl X x) (hm : X.mg x = none) (hv : bootBuiltins x = some (.builtin "isinstance"))
    (hg2 : Gl X y) (hm2 : X.mg y = some (.ref C)) (hk : PySem.W.kitOne X.K (.ref D) (.ref C) = some b) (he : QE (X.suite a ((a, oe) :: pn)) T EX e fe) (hn : x ≠ "__name__" := by decide) (hdb : (x == ("__debug__" : Str)) = false := by decide) (hdb2 : (y == ("__debug__" : Str)) = false := by decide)
    (hs : starEach [e, .Name y p2] (X.suite a ((a, oe) :: pn)).env = (false, eval e (X.suite a ((a, oe) :: pn)).env) :: starEach [.Name y p2] (X.suite a ((a, oe) :: pn)).env := by rfl) (hs2 : starEach [.Name y p2] (X.suite a ((a, oe) :: pn)).env = (false, eval (.Name y p2) (X.suite a ((a, oe) :: pn)).env) :: starEach [] (X.suite a ((a, oe) :: pn)).env := by rfl)
    (hpl : (backTo pos (starEach [.Name y p2] (X.suite a ((a, oe) :: pn)).env)).any (·.1) = false := by rfl) : QE (X.suite a ((a, oe) :: pn)) T EX (.Call (.Name x p) [e, .Name y p2] [] pos) (eIsE a d b fe) :=
  PE.weak (pe_callB (call_isEd hC hz hf) hg hm hv (pa_cons he (pa_cons (pe_glob (v := .ref C) hg2 hm2 rfl hdb2) pa_nil hs2) hs) hn hdb hs hpl) fun σ H Q q => by
    obtain ⟨ρ, Γ, C', O, w, s, p⟩ := q
    refine ⟨ρ, Γ, C', O, w, s, PostG.bind p fun z C1 v H1 Γ1 x1 w1 r1 p1 => ?_⟩
    split at p1
    · rename_i hz
      obtain ⟨rfl, h2⟩ := isEv_of r1 hz
      exact ⟨.ref C, .ref C, b, rfl, fun u hu => hu, hk, h2, p1 _ H1 Γ1 Ext.refl w1 (.bl b)⟩
    · exact p1.elim
/-- e.f -/
def eXat (a : Addr) (d : Option Addr) (f : Str) (fe : DE) : DE := fun ρ C => (fe ρ C).bind fun z C => match z with
  | .opq (.ref a') (some (dd, .xd fs)) => if a' = a ∧ d = some dd then (match fs.lookup f with
    | some v => .ok (.opq v none) C
    | none => .stuck) else .stuck
  | _ => .stuck
theorem Rep.opqN {K : PySem.W.Frag} {B : Addr → Prop} {Γ : List Addr} {H : Hp} (v : V) : Rep K B Γ H v (.opq v none) := .opq fun _ _ z => by cases z
theorem qe_xat {a D : Addr} {oe : Obj} {d : Option Addr} {pn : List (Addr × Obj)} {f : Str} {e : Expr} {fe : DE} {pos : Pos} (hx : XfC X.K D) (hno : PySem.W.findIn X.K (.ref D) f = some none) (hz : Zc (.ref D) d oe) (hf : ∃ vs, oe.data = .fields vs) (he : QE (X.suite a ((a, oe) :: pn)) T EX e fe)
    (hb : attributeBase e f X.env (eval e X.env) = eval e X.env := by rfl) : QE (X.suite a ((a, oe) :: pn)) T EX (.Attribute e f pos) (eXat a d f fe) :=
  PE.weak (pe_xf hx hno hz hf he hb) fun σ H Q q => by
    obtain ⟨ρ, Γ, C', O, w, s, p⟩ := q
    refine ⟨ρ, Γ, C', O, w, s, PostG.bind p fun z C1 v H1 Γ1 x1 w1 r1 p1 => ?_⟩
    split at p1
    · rename_i a' dd fs
      split at p1
      · rename_i hh
        obtain ⟨rfl, rfl⟩ := hh
        split at p1
        · rename_i u hl
          cases r1 with
          | opq hq => exact ⟨rfl, rfl, dd, fs, u, rfl, (hq _ _ rfl).1, hl, p1 _ H1 Γ1 Ext.refl w1 (Rep.opqN u)⟩
        · exact p1.elim
      · exact p1.elim
    · exact p1.elim
end
end Qv

/-! ## Q14 -/
set_option Elab.async false
set_option linter.all false
set_option maxRecDepth 100000
/-! Q14: x(lambda: body), x a def that calls it in a try and tells the class of what it raised. -/
namespace Qv
open PySem PySem.Spec PyProof.Rows L2 LamX

/-- the context of a lambda's body; what it lets out has no context -/
abbrev lamN (X : Cx) (A : Around) (outer : List PySem.Env) (s : Shared) (H : Hp) (E : XK) (scope : Scope) (f c' : Addr) : Cx := (lamCx X A outer s H E scope f c').tr ([] ++ []) fun e s' =>
  wpAny (model X.prog X.w) (A.deeper (lamEnv X scope s.heap.objs.size f c')) (leaving (lamEnv X scope s.heap.objs.size f c') e) (fun _ s'' => L2N.CX X.prog X.w outer H s E e s'') (fun e' s'' => L2N.CX X.prog X.w outer H s E e' s'') s'
section
variable {X : Cx} {pins : List (Addr × Obj)} {σ : L2.St} {H HZ : Hp} {s s1 : Shared}
theorem pe_actN {CXg : CXT} {Eg : XK} {Ng : List Str} {qg : Str} {sg : Scope} {g f c' : Addr} {cdg pm ctv : Value} {params : Arguments} {body : Expr} {scope : Scope} {k : Nat} {a : Str} {pn : List (Addr × Obj)} {xe : Value → Shared → Prop} {W : WX} {tb : XK → TE} {p1 p2 : Pos}
    (I : Inv X pins σ H s) (L : LamS X.env.scope scope) (hf : s.heap.get? f = some (PySem.W.kla_obj "<lambda>" (X.env.qual ++ "<lambda>") params body scope (cloFrom X.env.cells scope.names []) pm c' ctv)) (hfn : H f = none) (hfr : f ∉ frs X.stack)
    (hbind : bindArgs (PySem.W.kla_fn "<lambda>" (X.env.qual ++ "<lambda>") params body scope (cloFrom X.env.cells scope.names []) pm (.ref c') ctv) ⟨[], []⟩ = pure [])
    (tk : L2N.Takes ((cxOf CXg X.prog X.w X.K X.mg X.base Ng qg sg g cdg X.A X.stack s H Eg).tr pn xe) W) (hr : Room (k + 1) (X.A.deeper (envOfC qg sg s.heap.objs.size g cdg)))
    (hbody : ∀ (A : Around) (outer : List PySem.Env) (s : Shared) (H : Hp) (E : XK), Room k (A.deeper (lamEnv X scope s.heap.objs.size f c')) → PE (lamN X A outer s H E scope f c') body (tb E))
    (hN : Ng[0]? = some a) (hv : Vis sg a) (hd : (a == ("__debug__" : Str)) = false := by decide) (hcd : (a == ("__classdict__" : Str)) = false := by decide) :
    PE ((cxOf CXg X.prog X.w X.K X.mg X.base Ng qg sg g cdg X.A X.stack s H Eg).tr pn xe) (.Call (.Name a p1) [] [] p2)
      (fun σZ HZ Q => σZ[0]? = some (some (.ref f)) ∧ HZ c' = some (CodeO c' (X.env.qual ++ "<lambda>")) ∧ tb (fun cls d H' => W cls d σZ H') σ HZ Q) := by
  refine ⟨fun pinsZ sZ σZ HZ Q IZ ⟨hs, hc, ht⟩ => ?_⟩
  refine wpAny_Call_Name_kw (thn ((pe_var (pos := p1) (i := 0) hN hv hd hcd).run pinsZ sZ σZ HZ (fun v H1 => v = .ref f ∧ H1 = HZ) IZ ⟨.ref f, hs, rfl, rfl⟩) fun u s1 ⟨v, H1, I1, r1, ev, eH⟩ => ?_)
  subst ev eH
  obtain rfl : u = Value.ref f := r1
  have of1 := I1.base.keep f _ hf hfn hfr (fun z => nomatch (show f ∈ ([] : List Addr) from z))
  refine PySem.W.callWith_F0 ⟨_, _, _, _, of1⟩ ?_
  have un : Un (frs X.stack) [] H H1 s.heap s1.heap := I1.base
  obtain ⟨⟨oc, vs, t, hoc, hdc, hvc⟩, _, _⟩ := I1.hok c' _ hc
  generalize hE : (fun cls d H' => W cls d σZ H' : XK) = E at ht
  have rc : codeAny (model X.prog X.w) (X.A.deeper (envOfC qg sg s.heap.objs.size g cdg)) (.call (.ref f) ⟨[], []⟩) (CR (L2N.CX X.prog X.w) (envOfC qg sg s.heap.objs.size g cdg :: X.stack) X.prog X.w H1 s1 Q E) s1 := by
    refine PySem.W.kla_callFunE hr.depth of1 rfl L.co L.gen rfl ⟨c', oc, vs, t, rfl, hoc, hdc, hvc⟩ ?_
    rw [hbind]
    refine wpAny_pure (wpAny_newFunctionEnv (fun y hy => (L.own y hy).2) (fun y hy => absurd hy (by simp)) (fun h₁ hns hsb => ⟨I1.nolimit.fresh _ hsb, ?_⟩) L.kind)
    show codeAny _ _ (.expr body (lamEnv X scope s1.heap.objs.size f c')) _ _
    have kp : ∀ b o, s1.heap.get? b = some o → h₁.get? b = some o := fun b o e => hsb.extBut b o (Nat.ne_of_lt (Heap.lt_size e)) (Heap.get?_push_of_some _ e)
    have J : Inv (lamCx X (X.A.deeper (envOfC qg sg s.heap.objs.size g cdg)) (envOfC qg sg s.heap.objs.size g cdg :: X.stack) s1 H1 E scope f c') [] σ H1 { s1 with heap := h₁, toks := s1.toks + ([] : List (Str × Value)).length } := lam_start2 I L I1.env0 hr.hd un hns kp
    refine PySem.W.kla_codeExpr (wpAny_mono ((hbody _ _ s1 H1 E (hr.deeper _)).run [] _ _ H1 Q (J.toTry _) ht) (fun v s' ⟨w', H', J', rv, q⟩ => ?_) fun e s' hq => hq)
    exact ⟨w', H', J'.os, J'.bare, J'.base, J'.hok, rv, q⟩
  refine wpAny_call (codeAny_mono rc fun r s' hq => ?_)
  cases r with
  | error e => exact tk e s' (L2N.XE.of_call I1 (fun cls d H' h => by rw [← hE] at h; exact h) hq)
  | ok fl =>
    cases fl with
    | ret u => exact I1.after hq
    | next => exact False.elim hq
    | brk => exact False.elim hq
    | cont => exact False.elim hq
end

/-! ### what the def tells -/
structure Teller where
  names : List Str
  fld : Str → Option Str
def Teller.word (t : Teller) (x : Exn) : Option (Str × D) := if t.names.contains x.cls then (match t.fld x.cls with
  | some f => (match x.arg with
    | some (f', d) => if f' = f then some (x.cls, d) else none
    | none => none)
  | none => some (x.cls, .non)) else none
def Teller.tell (t : Teller) : Out D → Out D
  | .ok d C => .ok (.tup [.str "told", d]) C
  | .exn x C => (match t.word x with
    | some (w, d) => .ok (.tup [.str w, d]) C
    | none => .stuck)
  | .stuck => .stuck
def eTold (t : Teller) (f : DE) : DE := fun ρ C => t.tell (f ρ C)
/-- the def's promise -/
def Tells (P : Program) (w : World) (K : PySem.W.Frag) (mg : Str → Option Value) (base : Heap) (T : List (Addr × Str)) (k : Nat) (t : Teller) (Ng : List Str) (x : Str) (sg : Scope) (g : Addr) (bg : List Stmt) (a : Str) : Prop :=
  ∀ (cdv : Value) (A : Around) (outer : List PySem.Env) (s : Shared) (H : Hp) (f c' : Addr) (q : Str) (tl : XK → Hp → VK → Prop), Room k (A.deeper (envOfC x sg s.heap.objs.size g cdv)) →
    (∀ (W : WX) (pn : List (Addr × Obj)) (xe : Value → Shared → Prop) (p1 p2 : Pos), L2N.Takes ((cxOf (L2N.CX P w) P w K mg base Ng x sg g cdv A outer s H C8.E0).tr pn xe) W →
      PE ((cxOf (L2N.CX P w) P w K mg base Ng x sg g cdv A outer s H C8.E0).tr pn xe) (.Call (.Name a p1) [] [] p2) (fun σZ HZ Q => σZ[0]? = some (some (.ref f)) ∧ HZ c' = some (CodeO c' q) ∧ tl (fun cls d H' => W cls d σZ H') HZ Q)) →
    PSs (cxOf (L2N.CX P w) P w K mg base Ng x sg g cdv A outer s H C8.E0) bg (fun De σZ HZ => σZ[0]? = some (some (.ref f)) ∧ σZ.length = Ng.length ∧ HZ c' = some (CodeO c' q) ∧
      ∃ (Γ : List Addr) (C : Cells) (O : Addr → Prop) (o : Out D), WOk K T Γ C O HZ ∧ (∀ E Q', Post K T E O Γ C HZ o Q' → tl E HZ Q') ∧ Post K T E0 O Γ C HZ (t.tell o) De.rt)
theorem ext_n {Γ : List Addr} {C : Cells} {H H1 : Hp} (e : ExtN H H1) : Ext Γ C H Γ C H1 := ⟨List.prefix_refl _, fun a o _ h nt => e a o h nt, fun a ⟨o, h, nt⟩ => ⟨o, e a o h nt, nt⟩, fun _ z => .inl z⟩
theorem WOk.extN {K : PySem.W.Frag} {T : List (Addr × Str)} {Γ : List Addr} {C : Cells} {O : Addr → Prop} {H H1 : Hp} (w : WOk K T Γ C O H) (e : ExtN H H1) (t : Tabs T H1) : WOk K T Γ C O H1 :=
  ⟨w.len, w.nd, fun i a xs h1 h2 => by
    obtain ⟨vs, h3, r⟩ := w.cell i a xs h1 h2
    exact ⟨vs, e _ _ h3 (fun _ z => by cases z), r.ext w (ext_n e)⟩, fun a h => (ext_n (Γ := Γ) (C := C) e).there a (w.there a h), fun a h => (ext_n (Γ := Γ) (C := C) e).there a (w.ot a h), w.dj, t⟩
section
variable {X : Cx} {T : List (Addr × Str)} {EX : XK}
theorem qe_told {t : Teller} {x a : Str} {g c P : Addr} {k : Nat} {pg : Arguments} {bg : List Stmt} {sg : Scope} {fd : FuncData} {Ng : List Str} {params : Arguments} {body : Expr} {scope : Scope} {f : DE} {p lpos pos : Pos}
    (hg : Gl X x) (hm : X.mg x = some (.ref g)) (Fd : FunD X.K x x pg bg sg [] [] g fd) (hb : L2.Binds X.K fd [a] []) (Sg : FnScope Ng [a] sg) (hNg : Ng[0]? = some a) (hva : Vis sg a)
    (hG : Tells X.prog X.w X.K X.mg X.base T (k + 1) t Ng x sg g bg a)
    (TB : TabB X.base X.mg c P) (hcode : X.env.code = .ref c) (hmT : (P, X.env.qual ++ "<lambda>") ∈ T) (hu : ∀ p ∈ T, p.1 = P → p.2 = X.env.qual ++ "<lambda>") (hr : Room (k + 2) X.A) (L : LamS X.env.scope scope) (hdef : defaultsOf params X.env = ([], []))
    (hbind : ∀ (q : Str) (cl : List (Str × Addr)) (pm cv ctv : Value), bindArgs (PySem.W.kla_fn "<lambda>" q params body scope cl pm cv ctv) ⟨[], []⟩ = pure [])
    (hbody : ∀ (A : Around) (outer : List PySem.Env) (s : Shared) (H : Hp) (E : XK) (f0 c' : Addr), Room k (A.deeper (lamEnv X scope s.heap.objs.size f0 c')) → QE (lamN X A outer s H E scope f0 c') T E body f)
    (hdb : (x == ("__debug__" : Str)) = false := by decide) (hd : (a == ("__debug__" : Str)) = false := by decide) (hcd : (a == ("__classdict__" : Str)) = false := by decide) :
    QE X T EX (.Call (.Name x p) [.Lambda params body scope lpos] [] pos) (eTold t f) := by
  refine ⟨fun pins s σ H Q I h => ?_⟩
  obtain ⟨ρ, Γ, C, O, w, sl, pp⟩ := h
  obtain ⟨oc, od, dV, kV, doc, pm, an, cdv, ct, osl, rfl, lk, hcg, _, _⟩ := Fd.ex
  refine wpAny_Call_Name_kw (ld_glob I hg hm ?_ hdb)
  refine PySem.W.callWith_K (h₀ := X.base) I.ok.mod.kin Fd.kp ?_ (by rfl) (by rfl)
  show wpAny _ _ (spliced ((false, eval (.Lambda params body scope lpos) X.env) :: backTo pos (starEach [] X.env))) _ _ s
  refine Calls.spliced_cons (lam_make2 I TB hcode hmT hu w.tabs hdef (L.has I.ok) fun f0 c' pm' ctv H1 s' I1 eN T1 hf hfn hfr hco => ?_)
  refine Calls.spliced_nil ⟨I1.kIn, ?_⟩
  have x1 : Ext Γ C H Γ C H1 := ext_n eN
  have w1 := w.extN eN T1
  have rc : codeAny (model X.prog X.w) X.A (.call (.ref g) ⟨[.ref f0], []⟩) (CR (L2N.CX X.prog X.w) X.stack X.prog X.w H1 s' Q C8.E0) s' := by
    refine run_ofS (N := Ng) (ps := [a]) (us := [.ref f0]) (vs := [.ref f0]) lk hcg Sg hr I1.env0 (hb s' [.ref f0] I1.kIn rfl) (.cons rfl .nil) rfl fun hr' => ?_
    refine ⟨_, hG cdv X.A X.stack s' H1 f0 c' (X.env.qual ++ "<lambda>") (fun E H' Q' => tE X.K T E f σ H' Q') hr' (fun W pn xe p1 p2 tk => pe_actN (tb := fun E => tE X.K T E f) I1 L hf hfn hfr (hbind _ _ _ _ _) tk hr' (fun A outer s H E hr2 => hbody A outer s H E f0 c' hr2) hNg hva hd hcd), ?_⟩
    refine ⟨?_, ?_, hco, Γ, C, O, f ρ C, w1, fun E Q' p => ⟨ρ, Γ, C, O, w1, sl.ext w x1, p⟩, ?_⟩
    · have : (0 : Nat) < [V.ref f0].length := by simp
      rfl
    · unfold L2.start
      have := congrArg List.length Sg.pre
      rw [List.length_take] at this
      simp at this ⊢
      omega
    · have p2 : Post X.K T EX O Γ C H (t.tell (f ρ C)) Q := pp
      have p3 := PostG.shift x1 p2
      have noexn : ∀ x C', t.tell (f ρ C) ≠ .exn x C' := fun x C' => by
        cases e : f ρ C with
        | ok d C2 => exact fun z => by cases z
        | exn y C2 =>
          unfold Teller.tell
          dsimp only
          split <;> exact fun z => by cases z
        | stuck => exact fun z => by cases z
      cases e : t.tell (f ρ C) with
      | ok d C2 => rw [e] at p3; exact p3
      | exn y C2 => exact absurd e (noexn y C2)
      | stuck => rw [e] at p3; exact p3
  refine wpAny_call (codeAny_mono rc fun r s2 hq => ?_)
  cases r with
  | error e =>
    obtain ⟨_, _, _, _, _, _, _, _, _, _, _, _, z⟩ := hq
    exact z.elim
  | ok fl =>
    cases fl with
    | ret u => exact I1.after hq
    | next => exact False.elim hq
    | brk => exact False.elim hq
    | cont => exact False.elim hq
end
/-! ### the def's walk, from its suite's -/
section
variable {P : Program} {w : World} {K : PySem.W.Frag} {mg : Str → Option Value} {base : Heap} {T : List (Addr × Str)}
theorem tells_of {k : Nat} {t : Teller} {Ng : List Str} {x a n ce : Str} {CE : Addr} {sg : Scope} {g : Addr} {b₀ : Stmt} {suite : List Stmt} {j kk : Nat} {q1 q2 q3 q4 q5 q6 q7 q8 : Pos} {fS : Addr → Option Addr → Str → DS}
    (hN : Ng.Nodup) (hi : Ng[1]? = some n) (hln : ∀ L f cd, (envOfC x sg L f cd).kindOf n = some .local) (hge : sg.names.lookup ce = some .globalImplicit) (hde : (ce == ("__debug__" : Str)) = false) (hme : mg ce = some (.ref CE))
    (hex : ∀ c ∈ t.names, PySem.W.exmOne K (.ref (He.ga K c)) (.ref CE) = some true)
    (hS : ∀ c ∈ t.names, ∀ (cdv : Value) (A : Around) (outer : List PySem.Env) (s : Shared) (H : Hp) (a : Addr) (oe : Obj) (d : Option Addr) (pn : List (Addr × Obj)), Room k (A.deeper (envOfC x sg s.heap.objs.size g cdv)) → L2N.Zn (.ref (He.ga K c)) d oe → (∃ vs, oe.data = .fields vs) →
      QSs ((cxOf (L2N.CX P w) P w K mg base Ng x sg g cdv A outer s H C8.E0).suite a ((a, oe) :: pn)) T E0 (b₀ :: suite) (fS a d c))
    (h0 : ∀ c ∈ t.names, t.fld c = none → ∀ a d ev ρ C, isEv a d ev = true → ρ.length = Ng.length → ρ[1]? = some (some ev) → fS a d c ρ C = .rt (.tup [.str c, .non]) C)
    (h1 : ∀ c ∈ t.names, ∀ f, t.fld c = some f → ∀ a dd v ρ C, ρ.length = Ng.length → ρ[1]? = some (some (.opq (.ref a) (some (dd, .xd [(f, v)])))) → fS a (some dd) c ρ C = .rt (.tup [.str c, .opq v none]) C) :
    Tells P w K mg base T k t Ng x sg g [.Try [.Return (some (.Tuple [.Constant (.str "told") j q1, .Call (.Name a q2) [] [] q3] kk q4)) q5] [.ExceptHandler (some (.Name ce q6)) (some n) (b₀ :: suite) q7] [] [] q8] a := by
  intro cdv A outer s H f c' q tl hr act
  refine PSs.weak (pss_one (L2N.ps_try_as (X := cxOf (L2N.CX P w) P w K mg base Ng x sg g cdv A outer s H C8.E0) (c := .ref CE) (i := 1) (Wout := fun _ _ _ _ => False)
      (ts := fun a cls d De σ H => ∃ c ∈ t.names, cls = .ref (He.ga K c) ∧ tS K T E0 (fS a d c) De σ H) rfl rfl hN hi (hln _ _ _) ⟨hge, hde, .inl hme⟩ (fun _ _ z => by
        obtain ⟨_, _, _, _, _, _, _, _, _, _, _, _, _, _, _, _, z⟩ := z
        exact z.elim)
      (fun W pn xe tk _ => pss_one (ps_ret (pe_tup (pa_cons pe_str (pa_cons (act W pn xe q2 q3 tk) pa_nil))))) (fun a oe cls d pn hz hf => ⟨fun pins s' σ H' De I hh => by
        obtain ⟨c, hc, rfl, h'⟩ := hh
        exact (hS c hc cdv A outer s H a oe d pn hr hz hf).run pins s' σ H' De I h'⟩))) fun De σZ HZ hh => ?_
  obtain ⟨e0, el, ec, Γ, C, O, o, w0, ht, p⟩ := hh
  refine ⟨e0, ec, ht _ _ ?_⟩
  cases o with
  | stuck => exact p.elim
  | ok d C' =>
    intro v H' Γ' x1 w1 r1
    refine ⟨by show 2 ≤ sizeLine; rw [sizeLine_eq]; omega, fun a ha => ?_⟩
    exact p (.ref a) _ Γ' (x1.trans (ext_new ha)) (w1.new ha) (rep_tup w1 ha (.cons (.str _) (.cons r1 .nil)))
  | exn y C' =>
    intro u dd H' Γ' x1 w1 r1
    obtain ⟨rfl, r2⟩ := r1
    have p2 : Post K T E0 O Γ C HZ (match t.word y with
      | some (w, d) => .ok (.tup [.str w, d]) C'
      | none => .stuck) De.rt := p
    have hy : y.cls ∈ t.names := by
      by_cases h : t.names.contains y.cls = true
      · simpa using h
      · have : t.word y = none := by unfold Teller.word; rw [if_neg h]
        rw [this] at p2
        exact p2.elim
    have hc : t.names.contains y.cls = true := by simpa using hy
    refine ⟨true, hex _ hy, fun _ a ha => ⟨y.cls, hy, rfl, ?_⟩, fun z => Bool.noConfusion z⟩
    -- the slots: only e's
    have slots : ∀ ev : D, Rep K (Bad Γ' C' O) Γ' H' (.ref a) ev → SlotsOk K (Bad Γ' C' O) Γ' H' (σZ.set 1 (some (.ref a))) ((List.replicate Ng.length none).set 1 (some ev)) := fun ev rv =>
      SlotsOk.set ⟨by rw [el]; simp, fun i d e => by rw [List.getElem?_replicate] at e; split at e <;> cases e⟩ 1 rv
    have h1N : 1 < Ng.length := (List.getElem?_eq_some_iff.mp hi).1
    have g1 : ∀ ev : D, ((List.replicate Ng.length none).set 1 (some ev) : Env)[1]? = some (some ev) := fun ev => List.getElem?_set_self (by simpa using h1N)
    have lN : ∀ ev : D, ((List.replicate Ng.length none).set 1 (some ev) : Env).length = Ng.length := fun ev => by simp
    cases ef : t.fld y.cls with
    | none =>
      have ew : t.word y = some (y.cls, .non) := by unfold Teller.word; rw [if_pos hc, ef]
      rw [ew] at p2
      have fin : ∀ ev, isEv a dd ev = true → Rep K (Bad Γ' C' O) Γ' H' (.ref a) ev → tS K T E0 (fS a dd y.cls) { nx := fun σ' H' => De.nx (σ'.set 1 none) H', rt := De.rt, bk := fun σ' H' => De.bk (σ'.set 1 none) H', ct := fun σ' H' => De.ct (σ'.set 1 none) H' } (σZ.set 1 (some (.ref a))) H' := fun ev he rv => by
        refine ⟨_, Γ', C', O, w1, slots ev rv, ?_⟩
        rw [h0 y.cls hy ef a dd ev _ C' he (lN ev) (g1 ev)]
        exact fun v H2 Γ2 x2 w2 r3 => p2 v H2 Γ2 (x1.trans x2) w2 r3
      cases ea : y.arg with
      | none =>
        rw [ea] at r2
        dsimp only at r2
        subst r2
        exact fin (.opq (.ref a) none) (by unfold isEv; simp) (Rep.opqN _)
      | some fd =>
        rw [ea] at r2
        obtain ⟨b, v, rfl, hb, rv⟩ := r2
        exact fin (.opq (.ref a) (some (b, .xd [(fd.1, v)]))) (by unfold isEv; simp) (.opq fun p o e => by cases e; exact ⟨hb, (fun _ z => by cases z), fun _ z => by cases z⟩)
    | some f1 =>
      cases ea : y.arg with
      | none =>
        have ew : t.word y = none := by unfold Teller.word; rw [if_pos hc, ef, ea]
        rw [ew] at p2
        exact p2.elim
      | some fd =>
        obtain ⟨f2, dt⟩ := fd
        rw [ea] at r2
        obtain ⟨b, v, rfl, hb, rv⟩ := r2
        by_cases hff : f2 = f1
        · subst hff
          have ew : t.word y = some (y.cls, dt) := by unfold Teller.word; rw [if_pos hc, ef, ea]; simp
          rw [ew] at p2
          have rev : Rep K (Bad Γ' C' O) Γ' H' (.ref a) (.opq (.ref a) (some (b, .xd [(f2, v)]))) := .opq fun p o e => by cases e; exact ⟨hb, (fun _ z => by cases z), fun _ z => by cases z⟩
          refine ⟨_, Γ', C', O, w1, slots _ rev, ?_⟩
          rw [h1 y.cls hy f2 ef a b v _ C' (lN _) (g1 _)]
          intro u2 H2 Γ2 x2 w2 r3
          refine p2 u2 H2 Γ2 (x1.trans x2) w2 ?_
          cases r3 with
          | tup s3 ra =>
            cases ra with
            | cons r4 ra =>
              cases ra with
              | cons r5 ra =>
                cases ra
                cases r5
                exact .tup s3 (.cons r4 (.cons (rv.ext w1 x2) .nil))
        · have ew : t.word y = none := by unfold Teller.word; rw [if_pos hc, ef, ea]; simp [hff]
          rw [ew] at p2
          exact p2.elim
end
end Qv

/-! ## Q15 -/
set_option Elab.async false
set_option linter.all false
set_option maxRecDepth 100000
/-! Q15: defs by names, constants, isinstance of two types. -/
namespace Qv
open PySem PySem.Spec PyProof.Rows L2

theorem hu_of {k : Nat} {A : Around} (r : Room k A) : A.units + 100 < cLine := by have := r.un; omega
/-- the def that the module's name x stands for -/
structure Cal (P : Program) (w : World) (K : PySem.W.Frag) (mg : Str → Option Value) (base : Heap) (T : List (Addr × Str)) (x : Str) (ps : List Str) (k : Nat) (m : MD) : Prop where
  ex : ∃ fd, FnOk P w K mg base (L2N.CX P w) k (He.ga K x) fd ps (spM K T ps.length m) ∧ L2.Binds K fd ps []
  gl : mg x = some (.ref (He.ga K x))
  kp : PySem.W.keepIn K (.ref (He.ga K x)) = true
section
variable {P : Program} {w : World} {K : PySem.W.Frag} {mg : Str → Option Value} {base : Heap} {T : List (Addr × Str)}
theorem cal_of {x y qual : Str} {params : Arguments} {body : List Stmt} {scope : Scope} {N ps : List Str} {k : Nat} {F : DS} (Fd : ∃ fd, FunD K y qual params body scope [] [] (He.ga K x) fd) (S : FnScope N ps scope) (gl : mg x = some (.ref (He.ga K x)))
    (hb : ∀ (kV doc pm : Value) (an : Option Addr) (cdv ct : Value) (us : List Value), us.length = ps.length → bindArgs (PySem.W.fnOf y qual params body scope .none kV doc pm an cdv ct) ⟨us, []⟩ = pure (ps.zip us))
    (h : ∀ (cdv : Value) (A : Around) (outer : List PySem.Env) (s : Shared) (H : Hp) (E : XK), Room k (A.deeper (envOfC qual scope s.heap.objs.size (He.ga K x) cdv)) → QSs (cxOf (L2N.CX P w) P w K mg base N qual scope (He.ga K x) cdv A outer s H E) T E body F) :
    Cal P w K mg base T x ps (k + 1) (runM N.length F) := by
  obtain ⟨fd, Fd⟩ := Fd
  exact ⟨⟨fd, okM Fd S (fun _ _ _ => rfl) h, Fd.bindsN hb⟩, gl, Fd.kp⟩
/-- .. whose code object is known (a def that makes lambdas) -/
theorem fn_ofL {x y qual : Str} {params : Arguments} {body : List Stmt} {scope : Scope} {N ps : List Str} {k : Nat} {F : DS} {fd : FuncData} (Fd : FunD K y qual params body scope [] [] (He.ga K x) fd) (S : FnScope N ps scope)
    (h : ∀ (A : Around) (outer : List PySem.Env) (s : Shared) (H : Hp) (E : XK), Room k (A.deeper (envOfC qual scope s.heap.objs.size (He.ga K x) (.ref (He.codeOf K (x, none))))) → QSs (cxOf (L2N.CX P w) P w K mg base N qual scope (He.ga K x) (.ref (He.codeOf K (x, none))) A outer s H E) T E body F) :
    FnOk P w K mg base (L2N.CX P w) (k + 1) (He.ga K x) fd ps (spM K T ps.length (runM N.length F)) := by
  obtain ⟨oc, od, dV, kV, doc, pm, an, cdv, ct, osl, rfl, lk, hcd, _, _⟩ := Fd.ex
  obtain ⟨c, rfl⟩ := He.codeIn_ref hcd
  have ec : He.codeOf K (x, none) = c := He.codeOf_eq (p := (x, none)) lk rfl
  refine fn_of lk hcd S (fun vs H Q E q => q.1) (fun A outer s H vs Q E hr q => ?_)
  have hh := h A outer s H E
  rw [ec] at hh
  refine ⟨_, hh hr, ?_⟩
  obtain ⟨hl, ds, Γ, C, O, wk, r, p⟩ := q
  refine ⟨_, Γ, C, O, wk, slots_start N r, ?_⟩
  unfold runM at p
  cases e : F (ds.map some ++ List.replicate (N.length - ds.length) none) C with
  | nx ρ' C' => rw [e] at p; exact fun σ' H' Γ' x w' s' => p .non H' Γ' x w' .non
  | rt d C' => rw [e] at p; exact p
  | exn y C' => rw [e] at p; exact p
  | bk ρ' C' => rw [e] at p; exact p.elim
  | ct ρ' C' => rw [e] at p; exact p.elim
  | stuck => rw [e] at p; exact p.elim
theorem cal_ofL {x y qual : Str} {params : Arguments} {body : List Stmt} {scope : Scope} {N ps : List Str} {k : Nat} {F : DS} (Fd : ∃ fd, FunD K y qual params body scope [] [] (He.ga K x) fd) (S : FnScope N ps scope) (gl : mg x = some (.ref (He.ga K x)))
    (hb : ∀ (kV doc pm : Value) (an : Option Addr) (cdv ct : Value) (us : List Value), us.length = ps.length → bindArgs (PySem.W.fnOf y qual params body scope .none kV doc pm an cdv ct) ⟨us, []⟩ = pure (ps.zip us))
    (h : ∀ (A : Around) (outer : List PySem.Env) (s : Shared) (H : Hp) (E : XK), Room k (A.deeper (envOfC qual scope s.heap.objs.size (He.ga K x) (.ref (He.codeOf K (x, none))))) → QSs (cxOf (L2N.CX P w) P w K mg base N qual scope (He.ga K x) (.ref (He.codeOf K (x, none))) A outer s H E) T E body F) :
    Cal P w K mg base T x ps (k + 1) (runM N.length F) := by
  obtain ⟨fd, Fd⟩ := Fd
  exact ⟨⟨fd, fn_ofL Fd S h, Fd.bindsN hb⟩, gl, Fd.kp⟩
/-- out of fuel -/
theorem cal_stuck {x y qual : Str} {params : Arguments} {body : List Stmt} {scope : Scope} {N ps : List Str} (Fd : ∃ fd, FunD K y qual params body scope [] [] (He.ga K x) fd) (S : FnScope N ps scope) (gl : mg x = some (.ref (He.ga K x)))
    (hb : ∀ (kV doc pm : Value) (an : Option Addr) (cdv ct : Value) (us : List Value), us.length = ps.length → bindArgs (PySem.W.fnOf y qual params body scope .none kV doc pm an cdv ct) ⟨us, []⟩ = pure (ps.zip us)) :
    Cal P w K mg base T x ps 1 (fun _ _ => .stuck) := by
  obtain ⟨fd, Fd⟩ := Fd
  exact ⟨⟨fd, Fd.ok S (fun vs H Q E q => q.1) (fun cdv A outer s H vs Q E hr q => by
    obtain ⟨_, _, _, _, _, _, _, p⟩ := q
    exact p.elim), Fd.bindsN hb⟩, gl, Fd.kp⟩
theorem passE0 {X : Cx} : Passes (L2N.CX X.prog X.w) X E0 := fun _ _ _ _ _ _ _ h => by
  obtain ⟨_, _, _, _, _, _, _, _, _, _, _, _, z⟩ := h
  exact z.elim
end
section
variable {X : Cx} {T : List (Addr × Str)} {EX : XK}
theorem qe_cM {x : Str} {ps : List Str} {k j : Nat} {m : MD} {e : Expr} {es : List Expr} {fa : DA} {p pos : Pos} (c : Cal X.prog X.w X.K X.mg X.base T x ps k m) (hr : Room j X.A) (hj : k ≤ j) (hg : Gl X x) (hx : Passes (L2N.CX X.prog X.w) X EX) (ha : QA X T EX (e :: es) fa)
    (hdb : (x == ("__debug__" : Str)) = false := by decide) (he : starEach (e :: es) X.env = (false, eval e X.env) :: starEach es X.env := by rfl) (hpl : (backTo pos (starEach es X.env)).any (·.1) = false := by rfl) :
    QE X T EX (.Call (.Name x p) (e :: es) [] pos) (eCallM ps.length m fa) := by
  obtain ⟨fd, F, b⟩ := c.ex
  exact qe_callM F (hr.mono hj) hg c.gl c.kp b hx ha hdb he hpl
theorem qe_cP {x : Str} {ps : List Str} {k j : Nat} {m : MD} {e : Expr} {es : List Expr} {fa : DA} {p pos : Pos} (c : Cal X.prog X.w X.K X.mg X.base T x ps k m) (hr : Room j X.A) (hj : k ≤ j) (hg : Gl X x) (hx : Passes (L2N.CX X.prog X.w) X EX) (ha : QA X T EX (e :: es) fa)
    (hdb : (x == ("__debug__" : Str)) = false := by decide) (he : starEach (e :: es) X.env = (false, eval e X.env) :: starEach es X.env := by rfl) (hpl : (backTo pos (starEach es X.env)).any (·.1) = false := by rfl) :
    QE X T EX (.Call (.Name x p) (e :: es) [] pos) (eCallP ps.length m fa) := by
  obtain ⟨fd, F, b⟩ := c.ex
  exact qe_callP F (hr.mono hj) hg c.gl c.kp b hx ha hdb he hpl
theorem qe_cV {x : Str} {ps : List Str} {k j : Nat} {m : MD} {e : Expr} {es : List Expr} {fa : DA} {p pos : Pos} (c : Cal X.prog X.w X.K X.mg X.base T x ps k m) (hr : Room j X.A) (hj : k ≤ j) (hg : Gl X x) (hx : Passes (L2N.CX X.prog X.w) X EX) (ha : QA X T EX (e :: es) fa)
    (hdb : (x == ("__debug__" : Str)) = false := by decide) (he : starEach (e :: es) X.env = (false, eval e X.env) :: starEach es X.env := by rfl) (hpl : (backTo pos (starEach es X.env)).any (·.1) = false := by rfl) :
    QE X T EX (.Call (.Name x p) (e :: es) [] pos) (eCallV ps.length m fa) := by
  obtain ⟨fd, F, b⟩ := c.ex
  exact qe_callV F (hr.mono hj) hg c.gl c.kp b hx ha hdb he hpl
/-! ### comparisons as tests -/
def bTst (f : DE) : DB := fun ρ C => (f ρ C).bind fun x C => match x with
  | .bl b => .ok b C
  | _ => .stuck
theorem tst_ok {f : DE} {t : TE} (h : ∀ σ H Q, tE X.K T EX f σ H Q → t σ H Q) {σ : L2.St} {H : Hp} {Q : Bool → Hp → Prop} (q : tT X.K T EX (bTst f) σ H Q) : tTest t σ H Q := by
  obtain ⟨ρ, Γ, C, O, w, s, p⟩ := q
  refine h _ _ _ ⟨ρ, Γ, C, O, w, s, PostG.bind p fun d C1 v H1 Γ1 x1 w1 r1 p1 => ?_⟩
  split at p1
  · cases r1
    exact ⟨_, rfl, p1 _ H1 Γ1 Ext.refl w1 rfl⟩
  · exact p1.elim
theorem qt_cmp {op : CmpOp} {g : D2} {a b : Expr} {f1 f2 : DE} {pos : Pos} (ho : QOp X T (compareOp op) g) (ha : QE X T EX a f1) (hb : QE X T EX b f2) (hm : behindInMarks op b = false := by first | exact nomark _ | rfl) : QT X T EX (.Compare a [op] [b] pos) (bTst (eOp g f1 f2)) := by
  obtain ⟨r, h1, h2⟩ := ho
  exact PT.weak (pt_cmpR h1 ha hb hm) fun σ H Q => tst_ok fun σ H Q => tOp_ok (f := compareOp op) h2
theorem qt_chain {op op' : CmpOp} {g g' : D2} {a b c : Expr} {f1 f2 f3 : DE} {pos : Pos} (ho : QOp X T (compareOp op) g) (ho' : QOp X T (compareOp op') g') (ha : QE X T EX a f1) (hb : QE X T EX b f2) (hc : QE X T EX c f3)
    (hm : lastMarks [op, op'] [b, c] = false := by with_unfolding_all rfl) : QT X T EX (.Compare a [op, op'] [b, c] pos) (bTst (eChain g g' f1 f2 f3)) := by
  obtain ⟨r, h1, h2⟩ := ho
  obtain ⟨r', h1', h2'⟩ := ho'
  exact PT.weak (pt_chain h1 h1' ha hb hc hm) fun σ H Q => tst_ok fun σ H Q => tChain_ok h2 h2'
/-! ### a block's names, as a Bool -/
def blkB (N : List Str) (sc scope : Scope) (own : List (Str × Nat)) : Bool := scope.kind == .function && (scope.names.all (fun y => scope.names.lookup y.1 == some y.2) && (own.all (fun p => N[p.2]? == some p.1) &&
  (scope.names.all (fun y => !(y.2 == .free) || (sc.names.lookup y.1 == some .cell || sc.names.lookup y.1 == some .free)) && scope.names.all fun y => !(y.2 == .local || y.2 == .cell) || ((own.map (·.1)).contains y.1 || !N.contains y.1))))
theorem blk_of {N : List Str} {sc scope : Scope} {own : List (Str × Nat)} (h : blkB N sc scope own = true) : BlkOk N sc scope own := by
  obtain ⟨h1, h⟩ := Bool.and_eq_true_iff.mp h
  obtain ⟨h2, h⟩ := Bool.and_eq_true_iff.mp h
  obtain ⟨h3, h⟩ := Bool.and_eq_true_iff.mp h
  obtain ⟨h4, h5⟩ := Bool.and_eq_true_iff.mp h
  rw [List.all_eq_true] at h2 h3 h4 h5
  refine ⟨by simpa using h1, fun y hy => by simpa using h2 y hy, fun p hp => by simpa using h3 p hp, fun y hy e => ?_, fun y hy e => ?_⟩
  · have := h4 y hy
    simp [e] at this
    exact this
  · have := h5 y hy
    rcases e with e | e <;> simpa [e] using this
/-! ### the module's constants -/
theorem qe_gint {x : Str} {i : Int} {pos : Pos} (hg : Gl X x) (h : ∃ t, X.mg x = some (.int i t)) (hd : (x == ("__debug__" : Str)) = false := by decide) : QE X T EX (.Name x pos) (eC (.int i)) := by
  obtain ⟨t, e⟩ := h
  exact qe_glob (v := .int i) hg e ⟨t, rfl⟩ (fun _ _ _ => .int i) hd
theorem qe_gstr {x z : Str} {pos : Pos} (hg : Gl X x) (h : ∃ t, X.mg x = some (.str z t)) (hd : (x == ("__debug__" : Str)) = false := by decide) : QE X T EX (.Name x pos) (eC (.str z)) := by
  obtain ⟨t, e⟩ := h
  exact qe_glob (v := .str z) hg e ⟨t, rfl⟩ (fun _ _ _ => .str z) hd
/-- the name x stands for a tuple of texts -/
def tupB (x : Str) (zs : List Str) (K : PySem.W.Frag) : Bool := match K.lookup (He.ga K x) with
  | some ⟨.type "tuple", _, .seq its _, _⟩ => decide (its.toList.length = zs.length) && (its.toList.zip zs).all fun p => match p.1 with
    | .str y _ => decide (y = p.2)
    | _ => false
  | _ => false
theorem zip_vals : ∀ {us : List Value} {zs : List Str}, us.length = zs.length → ((us.zip zs).all fun p => match p.1 with
    | .str y _ => decide (y = p.2)
    | _ => false) = true → Vals (zs.map V.str) us
  | [], [], _, _ => .nil
  | u :: us, z :: zs, hl, h => by
    rw [List.zip_cons_cons, List.all_cons, Bool.and_eq_true] at h
    refine .cons ?_ (zip_vals (by simpa using hl) h.2)
    have h1 := h.1
    dsimp only at h1
    split at h1
    · have e := of_decide_eq_true h1
      subst e
      exact ⟨_, rfl⟩
    · cases h1
theorem qe_gtup {x : Str} {zs : List Str} {pos : Pos} (hg : Gl X x) (h : X.mg x = some (.ref (He.ga X.K x))) (hb : tupB x zs X.K = true) (hz : zs.length ≤ 1000) (hd : (x == ("__debug__" : Str)) = false := by decide) : QE X T EX (.Name x pos) (eC (.tup (zs.map D.str))) := by
  refine qe_glob (v := .ref (He.ga X.K x)) hg h rfl (fun B Γ H => ?_) hd
  unfold tupB at hb
  split at hb
  · rename_i dd its n sl ho
    obtain ⟨h1, h2⟩ := Bool.and_eq_true_iff.mp hb
    have h1 := of_decide_eq_true h1
    exact .tup (.inr ⟨_, its, _, ho, rfl, rfl, by rw [← Array.length_toList, h1, sizeLine_eq]; omega, zip_vals h1 h2⟩) (RepA.strs zs)
  · cases hb
/-! ### isinstance(x, (list, tuple)) -/
def isi2D (n1 n2 : String) (d : D) (C : Cells) : Option D := if tyOk C d then (match kitB (tyName d) n1 with
  | some true => some (.bl true)
  | some false => (kitB (tyName d) n2).map D.bl
  | none => none) else none
theorem qe_isi2 {n1 n2 : String} {x y1 y2 : Str} {a : Expr} {f : DE} {kk : Nat} {p p2 p3 p4 pos : Pos} (hg : Gl X x) (hm : X.mg x = none) (hv : bootBuiltins x = some (.builtin "isinstance")) (hg1 : Gl X y1) (hm1 : X.mg y1 = none) (hv1 : bootBuiltins y1 = some (.type n1)) (hg2 : Gl X y2) (hm2 : X.mg y2 = none) (hv2 : bootBuiltins y2 = some (.type n2)) (ha : QE X T EX a f)
    (hn : x ≠ "__name__" := by decide) (hdb : (x == ("__debug__" : Str)) = false := by decide) (hn1 : y1 ≠ "__name__" := by decide) (hdb1 : (y1 == ("__debug__" : Str)) = false := by decide) (hn2 : y2 ≠ "__name__" := by decide) (hdb2 : (y2 == ("__debug__" : Str)) = false := by decide)
    (he : starEach [a, .Tuple [.Name y1 p2, .Name y2 p3] kk p4] X.env = (false, eval a X.env) :: starEach [.Tuple [.Name y1 p2, .Name y2 p3] kk p4] X.env := by rfl) (he2 : starEach [.Tuple [.Name y1 p2, .Name y2 p3] kk p4] X.env = (false, eval (.Tuple [.Name y1 p2, .Name y2 p3] kk p4) X.env) :: starEach [] X.env := by rfl)
    (he3 : starEach [.Name y1 p2, .Name y2 p3] X.env = (false, eval (.Name y1 p2) X.env) :: starEach [.Name y2 p3] X.env := by rfl) (he4 : starEach [.Name y2 p3] X.env = (false, eval (.Name y2 p3) X.env) :: starEach [] X.env := by rfl)
    (hpl : (backTo pos (starEach [.Tuple [.Name y1 p2, .Name y2 p3] kk p4] X.env)).any (·.1) = false := by rfl) : QE X T EX (.Call (.Name x p) [a, .Tuple [.Name y1 p2, .Name y2 p3] kk p4] [] pos) (eMap (isi2D n1 n2) f) :=
  PE.weak (pe_callB call_isiT hg hm hv (pa_cons ha (pa_cons (pe_tup (pa_cons (pe_bltn (v := .ty n1) hg1 hm1 hv1 rfl hn1 hdb1) (pa_cons (pe_bltn (v := .ty n2) hg2 hm2 hv2 rfl hn2 hdb2) pa_nil he4) he3)) pa_nil he2) he) hn hdb he hpl) fun σ H Q q => by
    obtain ⟨ρ, Γ, C, O, w, s, p⟩ := q
    refine ⟨ρ, Γ, C, O, w, s, PostG.bind p fun d C1 v H1 Γ1 x1 w1 r1 p1 => ⟨by show 2 ≤ sizeLine; rw [sizeLine_eq]; omega, fun tp ht => ?_⟩⟩
    cases e : isi2D n1 n2 d C1 with
    | none => rw [e] at p1; exact p1.elim
    | some z =>
      rw [e] at p1
      unfold isi2D at e
      split at e
      · rename_i hz
        have x2 : Ext Γ1 C1 H1 Γ1 C1 (upd H1 tp (.tup [.ty n1, .ty n2])) := ext_new ht
        have w2 : WOk X.K T Γ1 C1 O (upd H1 tp (.tup [.ty n1, .ty n2])) := w1.new ht
        have ty := tyx_of w2 (r1.ext w1 x2) (tyOk_of hz) (tyOk_opq hz) (tyOk_flst hz)
        have ans : ∀ b, PySem.W.kitAny X.K (.type (tyName d)) [.type n1, .type n2] = some b → z = .bl b → rIsiT X.K [v, .ref tp] (upd H1 tp (.tup [.ty n1, .ty n2])) Q := fun b hb hz => by
          subst hz
          exact ⟨v, tp, [.ty n1, .ty n2], _, [.type n1, .type n2], b, rfl, upd_same, .cons (.ty _) (.cons (.ty _) .nil), ty, hb, p1 _ _ Γ1 x2 w2 (.bl b)⟩
        split at e
        · rename_i h1
          cases e
          exact ans true (kitAny_cons (kit_ty h1) (fun z => by cases z) fun _ => rfl) rfl
        · rename_i h1
          obtain ⟨b, h2, h3⟩ := Option.map_eq_some_iff.mp e
          refine ans b (kitAny_cons (kit_ty h1) (fun _ => ?_) fun z => by cases z) h3.symm
          exact kitAny_cons (kit_ty h2) (fun hb => by subst hb; rfl) fun hb => hb
        · cases e
      · cases e
end
/-! ### what a law's head tells -/
structure Bs (fa : List He.Fa) (fn : List He.DefD) (tf : List He.Defn) (ex : PySem.W.Frag → Bool) (K : PySem.W.Frag) (mg : Str → Option Value) (base : Heap) (T : List (Addr × Str)) : Prop where
  kin : K.In base
  ns : base.Ns mainGlobals mg
  fact : ∀ (i : Nat) (f : He.Fa), fa[i]? = some f → f.ok K = true
  fd : ∀ (i : Nat) (d : He.DefD), fn[i]? = some d → ∃ fd, FunD K d.name d.qual d.params d.body d.scope (d.dvs K) (d.kws K) (He.fAd K d.at_) fd
  ex : ex K = true
  tb : ∀ p ∈ tf, LamX.TabB base mg (He.cT K p).1 (He.cT K p).2
  tT : T = tf.map fun p => ((He.cT K p).2, (p.1 ++ ".<locals>.") ++ "<lambda>")
  tN : ∀ p ∈ tf, ∀ q ∈ tf, (He.cT K p).2 = (He.cT K q).2 → p = q
section
variable {X : Cx} {T : List (Addr × Str)} {EX : XK} {fa : List He.Fa} {fn : List He.DefD} {tf : List He.Defn} {ex : PySem.W.Frag → Bool}
theorem tellR (B : Bs fa fn tf ex X.K X.mg X.base T) {t : Teller} {x a : Str} {k : Nat} {pg : Arguments} {bg : List Stmt} {sg : Scope} {Ng : List Str} {params : Arguments} {body : Expr} {scope : Scope} {f : DE} {p lpos pos : Pos}
    (Fd : ∃ fd, FunD X.K x x pg bg sg [] [] (He.ga X.K x) fd) (hm : X.mg x = some (.ref (He.ga X.K x))) (hb : ∀ (kV doc pm : Value) (an : Option Addr) (cdv ct : Value) (us : List Value), us.length = [a].length → bindArgs (PySem.W.fnOf x x pg bg sg .none kV doc pm an cdv ct) ⟨us, []⟩ = pure ([a].zip us))
    (Sg : FnScope Ng [a] sg) (hNg : Ng[0]? = some a) (hva : Vis sg a) (hG : ∀ k, Tells X.prog X.w X.K X.mg X.base T k t Ng x sg (He.ga X.K x) bg a)
    (hg : Gl X x) (i : Nat) {q : He.Defn} (hq : tf[i]? = some q) (hql : X.env.qual = q.1 ++ ".<locals>.") (hcode : X.env.code = .ref (He.codeOf X.K q)) (hr : Room (k + 2) X.A) (L : LamX.LamS X.env.scope scope) (hdef : defaultsOf params X.env = ([], []))
    (hbind : ∀ (q : Str) (cl : List (Str × Addr)) (pm cv ctv : Value), bindArgs (PySem.W.kla_fn "<lambda>" q params body scope cl pm cv ctv) ⟨[], []⟩ = pure [])
    (hbody : ∀ (A : Around) (outer : List PySem.Env) (s : Shared) (H : Hp) (E : XK) (f0 c' : Addr), Room k (A.deeper (LamX.lamEnv X scope s.heap.objs.size f0 c')) → QE (lamN X A outer s H E scope f0 c') T E body f)
    (hdb : (x == ("__debug__" : Str)) = false := by decide) (hd : (a == ("__debug__" : Str)) = false := by decide) (hcd : (a == ("__classdict__" : Str)) = false := by decide) :
    QE X T EX (.Call (.Name x p) [.Lambda params body scope lpos] [] pos) (eTold t f) := by
  obtain ⟨fd, Fd⟩ := Fd
  have hmem : q ∈ tf := List.mem_of_getElem? hq
  refine qe_told (P := (He.cT X.K q).2) (c := (He.cT X.K q).1) hg hm Fd (Fd.bindsN hb) Sg hNg hva (hG _) (B.tb q hmem) hcode ?_ ?_ hr L hdef hbind hbody hdb hd hcd
  · rw [hql, B.tT]
    exact List.mem_map.mpr ⟨q, hmem, rfl⟩
  · intro z hz e
    rw [B.tT] at hz
    obtain ⟨q', hq', rfl⟩ := List.mem_map.mp hz
    have := B.tN q' hq' q hmem e
    rw [this, hql]
end
end Qv

/-! ## Q16 -/
set_option Elab.async false
set_option linter.all false
set_option maxRecDepth 100000
/-! Q16: the head's frame, each address once, found by bits (less work for the kernel than by comparing). -/
namespace Qv
open PySem PySem.Spec PyProof.Rows L2
/-- what is new of as, and the bits of what was met -/
def uniqB : Nat → List Addr → List Addr × Nat
  | m, [] => ([], m)
  | m, a :: as => match Nat.beq (Nat.land (Nat.shiftRight m a) 1) 1 with
    | true => uniqB m as
    | false => match uniqB (Nat.lor m (Nat.shiftLeft 1 a)) as with
      | (l, m') => (a :: l, m')
def reachB (g : Addr → Option Obj) : Nat → Nat → List Addr → List Addr
  | 0, _, _ => []
  | n + 1, m, fr => match uniqB m (fr.flatMap fun a => match g a with
    | some o => He.refsD o
    | none => []) with
    | (l, m') => l ++ reachB g n m' l
def asY (g : Addr → Option Obj) (n : Nat) : List Addr := mainGlobals :: reachB g n (Nat.shiftLeft 1 mainGlobals) [mainGlobals]
def obsY (n : Nat) (fa : List He.Fa) (fn : List He.DefD) (tf : List He.Defn) (ex : PySem.W.Frag → Bool) (g : Addr → Option Obj) : He.AlX := (He.obsT fa fn [] (He.frT g (asY g n)), ex (He.frT g (asY g n)) && He.tabsB g tf (He.frT g (asY g n)))
theorem saysY {as : List Addr} {fa : List He.Fa} {fn : List He.DefD} {tf : List He.Defn} {ex : PySem.W.Frag → Bool} {w : World} {h : Heap} (e1 : He.obsT fa fn [] (He.frT h.get? as) = He.valT fn [] w) (e2 : (ex (He.frT h.get? as) && He.tabsB h.get? tf (He.frT h.get? as)) = true) : He.SaysX fa fn [] tf ex w h (He.frT h.get? as) := by
  obtain ⟨h1, h2⟩ := Bool.and_eq_true_iff.mp e2
  have key : ∀ p ∈ tf, PySem.W.codeHdIn (He.frT h.get? as) (He.cT (He.frT h.get? as) p).1 (He.cT (He.frT h.get? as) p).2 = true ∧ ∃ o, h.get? (He.cT (He.frT h.get? as) p).2 = some o ∧ He.emptyTab o = true := fun p hp => by
    obtain ⟨h3, h4⟩ := Bool.and_eq_true_iff.mp (List.all_eq_true.mp h2 p hp)
    cases q : h.get? (He.cT (He.frT h.get? as) p).2 with
    | none => rw [q] at h4; cases h4
    | some o => rw [q] at h4; exact ⟨h3, o, rfl, h4⟩
  refine ⟨e1, h1, fun p hp => (key p hp).1, fun p hp => ?_, fun p hp => ?_⟩
  · obtain ⟨_, o, q, z⟩ := key p hp
    exact He.frT_none q z
  · obtain ⟨_, o, q, z⟩ := key p hp
    rw [q, He.emptyTab_eq z]
def hookY (n : Nat) (fa : List He.Fa) (fn : List He.DefD) (tf : List He.Defn) (ex : PySem.W.Frag → Bool) : PySem.W.Hook where
  α := He.AlX
  obs := fun s => obsY n fa fn tf ex s.heap.get?
  val := fun w => He.valX fn [] w
  says := fun w h => ∃ K : PySem.W.Frag, K.In h ∧ He.SaysX fa fn [] tf ex w h K
  of := fun _ _ e => ⟨_, He.frT_in, saysY (congrArg (fun z : He.AlX => z.1) e) (congrArg (fun z : He.AlX => z.2) e)⟩
  keeps := fun _ _ _ ⟨K, hK, c⟩ k => ⟨K, PySem.W.Frag.In.keeps hK k, ⟨c.t, c.more, c.hd, c.out, fun p hp => k _ _ (c.empty p hp)⟩⟩
end Qv

/-! ## K78F -/
set_option Elab.async false
set_option linter.all false
set_option maxRecDepth 100000
set_option maxHeartbeats 1000000

/-! the facts: law_k78_deal_is_a_way (printed by genwalk.py) -/
namespace Qv
open PySem PySem.Spec PyProof.Rows L2
def top (i : Nat) : Stmt := PySem.Challenge.pw_flushends_k78_deal_is_a_way.main.body.getD i (.Pass ⟨0, 0, 0, 0⟩)
def trySuite (b : List Stmt) : List Stmt := match b with
  | .Try _ [.ExceptHandler _ _ s _] _ _ _ :: _ => s
  | _ => []
def dd0 : He.DefD := ⟨("is_number", none), "is_number", "is_number", defArgs (top 32), defBody (top 32), defScope (top 32), [], []⟩
def dd1 : He.DefD := ⟨("is_between", none), "is_between", "is_between", defArgs (top 33), defBody (top 33), defScope (top 33), [], []⟩
def dd2 : He.DefD := ⟨("is_word", none), "is_word", "is_word", defArgs (top 34), defBody (top 34), defScope (top 34), [], []⟩
def dd3 : He.DefD := ⟨("are_parts", none), "are_parts", "are_parts", defArgs (top 35), defBody (top 35), defScope (top 35), [], []⟩
def dd4 : He.DefD := ⟨("are_rules", none), "are_rules", "are_rules", defArgs (top 36), defBody (top 36), defScope (top 36), [], []⟩
def dd5 : He.DefD := ⟨("is_trade", none), "is_trade", "is_trade", defArgs (top 37), defBody (top 37), defScope (top 37), [], []⟩
def dd6 : He.DefD := ⟨("is_stretch", none), "is_stretch", "is_stretch", defArgs (top 38), defBody (top 38), defScope (top 38), [], []⟩
def dd7 : He.DefD := ⟨("fits", none), "fits", "fits", defArgs (top 39), defBody (top 39), defScope (top 39), [], []⟩
def dd8 : He.DefD := ⟨("wrong_piece", none), "wrong_piece", "wrong_piece", defArgs (top 40), defBody (top 40), defScope (top 40), [], []⟩
def dd9 : He.DefD := ⟨("check_trade", none), "check_trade", "check_trade", defArgs (top 41), defBody (top 41), defScope (top 41), [], []⟩
def dd10 : He.DefD := ⟨("check_stock", none), "check_stock", "check_stock", defArgs (top 42), defBody (top 42), defScope (top 42), [], []⟩
def dd11 : He.DefD := ⟨("check_asks", none), "check_asks", "check_asks", defArgs (top 43), defBody (top 43), defScope (top 43), [], []⟩
def dd12 : He.DefD := ⟨("legs_of", none), "legs_of", "legs_of", defArgs (top 45), defBody (top 45), defScope (top 45), [], []⟩
def dd13 : He.DefD := ⟨("is_whole", none), "is_whole", "is_whole", defArgs (top 46), defBody (top 46), defScope (top 46), [], []⟩
def dd14 : He.DefD := ⟨("legs_ahead", none), "legs_ahead", "legs_ahead", defArgs (top 47), defBody (top 47), defScope (top 47), [], []⟩
def dd15 : He.DefD := ⟨("holds", none), "holds", "holds", defArgs (top 48), defBody (top 48), defScope (top 48), [], []⟩
def dd16 : He.DefD := ⟨("shares", none), "shares", "shares", defArgs (top 49), defBody (top 49), defScope (top 49), [], []⟩
def dd17 : He.DefD := ⟨("runs_of", none), "runs_of", "runs_of", defArgs (top 50), defBody (top 50), defScope (top 50), [], []⟩
def dd18 : He.DefD := ⟨("free_legs", none), "free_legs", "free_legs", defArgs (top 52), defBody (top 52), defScope (top 52), [], []⟩
def dd19 : He.DefD := ⟨("check_hall", none), "check_hall", "check_hall", defArgs (top 54), defBody (top 54), defScope (top 54), [], []⟩
def dd20 : He.DefD := ⟨("check_line_counting", none), "check_line", "check_line", defArgs (top 55), defBody (top 55), defScope (top 55), [], []⟩
def dd21 : He.DefD := ⟨("end_of", none), "end_of", "end_of", defArgs (top 57), defBody (top 57), defScope (top 57), [], []⟩
def dd22 : He.DefD := ⟨("fault_word", none), "fault_word", "fault_word", defArgs (top 58), defBody (top 58), defScope (top 58), [], []⟩
def dd23 : He.DefD := ⟨("first_fault", none), "first_fault", "first_fault", defArgs (top 59), defBody (top 59), defScope (top 59), [], []⟩
def dd24 : He.DefD := ⟨("leg_counts", none), "leg_counts", "leg_counts", defArgs (top 60), defBody (top 60), defScope (top 60), [], []⟩
def dd25 : He.DefD := ⟨("over_leg", none), "over_leg", "over_leg", defArgs (top 61), defBody (top 61), defScope (top 61), [], []⟩
def dd26 : He.DefD := ⟨("counting_fault", none), "counting_fault", "counting_fault", defArgs (top 62), defBody (top 62), defScope (top 62), [], []⟩
def dd27 : He.DefD := ⟨("check_line_deals", none), "check_line", "check_line", defArgs (top 64), defBody (top 64), defScope (top 64), [], []⟩
def dd28 : He.DefD := ⟨("free_runs", none), "free_runs", "free_runs", defArgs (top 66), defBody (top 66), defScope (top 66), [], []⟩
def dd29 : He.DefD := ⟨("run_middle", none), "run_middle", "run_middle", defArgs (top 67), defBody (top 67), defScope (top 67), [], []⟩
def dd30 : He.DefD := ⟨("deal_order", none), "deal_order", "deal_order", defArgs (top 68), defBody (top 68), defScope (top 68), [], []⟩
def dd31 : He.DefD := ⟨("free_place", none), "free_place", "free_place", defArgs (top 69), defBody (top 69), defScope (top 69), [], []⟩
def dd32 : He.DefD := ⟨("deal", none), "deal", "deal", defArgs (top 70), defBody (top 70), defScope (top 70), [], []⟩
def dd33 : He.DefD := ⟨("middle_of", none), "middle_of", "middle_of", defArgs (top 71), defBody (top 71), defScope (top 71), [], []⟩
def dd34 : He.DefD := ⟨("_law_mix", none), "_law_mix", "_law_mix", defArgs (top 73), defBody (top 73), defScope (top 73), [], []⟩
def dd35 : He.DefD := ⟨("_law_store", none), "_law_store", "_law_store", defArgs (top 74), defBody (top 74), defScope (top 74), [], []⟩
def dd36 : He.DefD := ⟨("_law_take", none), "_law_take", "_law_take", defArgs (top 75), defBody (top 75), defScope (top 75), [], []⟩
def dd37 : He.DefD := ⟨("_law_odds", none), "_law_odds", "_law_odds", defArgs (top 76), defBody (top 76), defScope (top 76), [], []⟩
def dd38 : He.DefD := ⟨("_law_number", none), "_law_number", "_law_number", defArgs (top 77), defBody (top 77), defScope (top 77), [], []⟩
def dd39 : He.DefD := ⟨("_law_pick", none), "_law_pick", "_law_pick", defArgs (top 78), defBody (top 78), defScope (top 78), [], []⟩
def dd40 : He.DefD := ⟨("_law_shuffle", none), "_law_shuffle", "_law_shuffle", defArgs (top 79), defBody (top 79), defScope (top 79), [], []⟩
def dd41 : He.DefD := ⟨("_law_counting", none), "_law_counting", "_law_counting", defArgs (top 80), defBody (top 80), defScope (top 80), [], []⟩
def dd42 : He.DefD := ⟨("_law_within_counts", none), "_law_within_counts", "_law_within_counts", defArgs (top 81), defBody (top 81), defScope (top 81), [], []⟩
def dd43 : He.DefD := ⟨("_law_spoilt", none), "_law_spoilt", "_law_spoilt", defArgs (top 82), defBody (top 82), defScope (top 82), [], []⟩
def dd44 : He.DefD := ⟨("_law_is_number", none), "_law_is_number", "_law_is_number", defArgs (top 83), defBody (top 83), defScope (top 83), [], []⟩
def dd45 : He.DefD := ⟨("_law_numbers", none), "_law_numbers", "_law_numbers", defArgs (top 84), defBody (top 84), defScope (top 84), [], []⟩
def dd46 : He.DefD := ⟨("_law_legs", none), "_law_legs", "_law_legs", defArgs (top 85), defBody (top 85), defScope (top 85), [], []⟩
def dd47 : He.DefD := ⟨("_law_holds", none), "_law_holds", "_law_holds", defArgs (top 86), defBody (top 86), defScope (top 86), [], []⟩
def dd48 : He.DefD := ⟨("_law_way_places", none), "_law_way_places", "_law_way_places", defArgs (top 87), defBody (top 87), defScope (top 87), [], []⟩
def dd49 : He.DefD := ⟨("_law_told", none), "_law_told", "_law_told", defArgs (top 88), defBody (top 88), defScope (top 88), [], []⟩
def dd50 : He.DefD := ⟨("_law_equal", none), "_law_equal", "_law_equal", defArgs (top 89), defBody (top 89), defScope (top 89), [], []⟩
def dd51 : He.DefD := ⟨("_law_wrong", none), "_law_wrong", "_law_wrong", defArgs (top 90), defBody (top 90), defScope (top 90), [], []⟩
def dd52 : He.DefD := ⟨("_law_untrade", none), "_law_untrade", "_law_untrade", defArgs (top 91), defBody (top 91), defScope (top 91), [], []⟩
def dd53 : He.DefD := ⟨("_law_dealt", none), "_law_dealt", "_law_dealt", defArgs (top 92), defBody (top 92), defScope (top 92), [], []⟩
def dd54 : He.DefD := ⟨("_law_middle", none), "_law_middle", "_law_middle", defArgs (top 93), defBody (top 93), defScope (top 93), [], []⟩
def dd55 : He.DefD := ⟨("_law_middles", none), "_law_middles", "_law_middles", defArgs (top 94), defBody (top 94), defScope (top 94), [], []⟩
def dd56 : He.DefD := ⟨("_law_more", none), "_law_more", "_law_more", defArgs (top 95), defBody (top 95), defScope (top 95), [], []⟩
def dd57 : He.DefD := ⟨("_law_no_count", none), "_law_no_count", "_law_no_count", defArgs (top 96), defBody (top 96), defScope (top 96), [], []⟩
def dd58 : He.DefD := ⟨("_law_line", none), "_law_line", "_law_line", defArgs (top 97), defBody (top 97), defScope (top 97), [], []⟩
def dd59 : He.DefD := ⟨("_law_refused", none), "_law_refused", "_law_refused", defArgs (top 98), defBody (top 98), defScope (top 98), [], []⟩
def dd60 : He.DefD := ⟨("law", none), "law", "law", defArgs (top 99), defBody (top 99), defScope (top 99), [], []⟩
def dd61 : He.DefD := ⟨("BadStock", some "__init__"), "__init__", "BadStock.__init__", defArgs (inClass (top 4) 0), defBody (inClass (top 4) 0), defScope (inClass (top 4) 0), [], []⟩
def dd62 : He.DefD := ⟨("BadAsk", some "__init__"), "__init__", "BadAsk.__init__", defArgs (inClass (top 5) 0), defBody (inClass (top 5) 0), defScope (inClass (top 5) 0), [], []⟩
def dd63 : He.DefD := ⟨("BadEvent", some "__init__"), "__init__", "BadEvent.__init__", defArgs (inClass (top 6) 0), defBody (inClass (top 6) 0), defScope (inClass (top 6) 0), [], []⟩
def dd64 : He.DefD := ⟨("BadRule", some "__init__"), "__init__", "BadRule.__init__", defArgs (inClass (top 8) 0), defBody (inClass (top 8) 0), defScope (inClass (top 8) 0), [], []⟩
def dd65 : He.DefD := ⟨("Taken", some "__init__"), "__init__", "Taken.__init__", defArgs (inClass (top 11) 0), defBody (inClass (top 11) 0), defScope (inClass (top 11) 0), [], []⟩
def dd66 : He.DefD := ⟨("NoSuch", some "__init__"), "__init__", "NoSuch.__init__", defArgs (inClass (top 12) 0), defBody (inClass (top 12) 0), defScope (inClass (top 12) 0), [], []⟩
def dd67 : He.DefD := ⟨("Occupied", some "__init__"), "__init__", "Occupied.__init__", defArgs (inClass (top 14) 0), defBody (inClass (top 14) 0), defScope (inClass (top 14) 0), [], []⟩
def dd68 : He.DefD := ⟨("TooMany", some "__init__"), "__init__", "TooMany.__init__", defArgs (inClass (top 17) 0), defBody (inClass (top 17) 0), defScope (inClass (top 17) 0), [], []⟩
def lfn : List He.DefD := [dd0, dd1, dd2, dd3, dd4, dd5, dd6, dd7, dd8, dd9, dd10, dd11, dd12, dd13, dd14, dd15, dd16, dd17, dd18, dd19, dd20, dd21, dd22, dd23, dd24, dd25, dd26, dd27, dd28, dd29, dd30, dd31, dd32, dd33, dd34, dd35, dd36, dd37, dd38, dd39, dd40, dd41, dd42, dd43, dd44, dd45, dd46, dd47, dd48, dd49, dd50, dd51, dd52, dd53, dd54, dd55, dd56, dd57, dd58, dd59, dd60, dd61, dd62, dd63, dd64, dd65, dd66, dd67, dd68]
def tnames : List Str := ["BadTrade", "BadShape", "BadStock", "BadAsk", "BadEvent", "BadDesk", "BadRule", "BadText", "BadName", "Taken", "NoSuch", "BadSeat", "Occupied", "BadPick", "BadWay", "TooMany", "NoPick", "NotCalm", "NotCounting"]
def exNames (K : PySem.W.Frag) : Bool := tnames.all fun c => excCB K (He.ga K c) && (xfB K (He.ga K c) && (decide (PySem.W.findIn K (.ref (He.ga K c)) "at" = some none) && (decide (PySem.W.exmOne K (.ref (He.ga K c)) (.ref (He.ga K "FlushError")) = some true) && tnames.all fun y => decide (PySem.W.kitOne K (.ref (He.ga K c)) (.ref (He.ga K y)) = some (decide (y = c))))))
def ltf : List He.Defn := [("_law_dealt", none), ("_law_middles", none), ("_law_refused", none), ("law", none)]
def exTabs (K : PySem.W.Frag) : Bool := ltf.all fun p => ltf.all fun q => decide ((He.cT K p).2 = (He.cT K q).2 → p = q)
def exl (K : PySem.W.Frag) : List Bool := [tupB "HALLS" ["line", "round"] K, oexB "BadAsk" "at" K, oexB "BadStock" "at" K, exNames K, exTabs K]
def lex (K : PySem.W.Frag) : Bool := (exl K).all id
theorem exl_at {K : PySem.W.Frag} (h : lex K = true) (i : Nat) {b : Bool} (e : (exl K)[i]? = some b) : b = true := List.all_eq_true.mp h b (List.mem_of_getElem? e)
def lfa : List He.Fa := [.glo "is_number", .glo "is_between", .glo "is_word", .glo "are_parts", .glo "are_rules", .glo "is_trade", .glo "is_stretch", .glo "fits", .glo "wrong_piece", .glo "check_trade", .glo "check_stock", .glo "check_asks", .glo "legs_of", .glo "is_whole", .glo "legs_ahead", .glo "holds", .glo "shares", .glo "runs_of", .glo "free_legs", .glo "check_hall", .glo "check_line_counting", .glo "end_of", .glo "fault_word", .glo "first_fault", .glo "leg_counts", .glo "over_leg", .glo "counting_fault", .glo "check_line_deals", .glo "free_runs", .glo "run_middle", .glo "deal_order", .glo "free_place", .glo "deal", .glo "middle_of", .glo "_law_mix", .glo "_law_store", .glo "_law_take", .glo "_law_odds", .glo "_law_number", .glo "_law_pick", .glo "_law_shuffle", .glo "_law_counting", .glo "_law_within_counts", .glo "_law_spoilt", .glo "_law_is_number", .glo "_law_numbers", .glo "_law_legs", .glo "_law_holds", .glo "_law_way_places", .glo "_law_told", .glo "_law_equal", .glo "_law_wrong", .glo "_law_untrade", .glo "_law_dealt", .glo "_law_middle", .glo "_law_middles", .glo "_law_more", .glo "_law_no_count", .glo "_law_line", .glo "_law_refused", .glo "law", .glo "FlushError", .glo "BadTrade", .glo "BadShape", .glo "BadStock", .glo "BadAsk", .glo "BadEvent", .glo "BadDesk", .glo "BadRule", .glo "BadText", .glo "BadName", .glo "Taken", .glo "NoSuch", .glo "BadSeat", .glo "Occupied", .glo "BadPick", .glo "BadWay", .glo "TooMany", .glo "NoPick", .glo "NotCalm", .glo "NotCounting", .free "abs", .free "all", .free "any", .free "bool", .free "enumerate", .free "int", .free "isinstance", .free "len", .free "list", .free "max", .free "min", .free "range", .free "sorted", .free "str", .free "sum", .free "tuple", .glo "HALLS", .int "LEAST_PARTS" 2, .str "LETTERS" "abcdefghijklmnopqrstuvwxyz", .int "MOST_KINDS" 12, .int "MOST_LEGS" 24, .int "MOST_NUMBER" 1000000, .int "MOST_PARTS" 6, .int "MOST_SAW" 99, .int "MOST_SIGNS" 8, .str "NAME_SIGNS" "abcdefghijklmnopqrstuvwxyz0123456789", .exc "BadShape", .exc "BadTrade", .exc "NoPick", .exc "NotCounting"]
section
variable {K : PySem.W.Frag} {mg : Str → Option Value} {base : Heap} {T : List (Addr × Str)}
theorem Bs.g_is_number (B : Bs lfa lfn ltf lex K mg base T) : mg "is_number" = some (.ref (He.ga K "is_number")) := He.glo_ok B.kin B.ns (B.fact 0 (.glo "is_number") rfl)
theorem Bs.g_is_between (B : Bs lfa lfn ltf lex K mg base T) : mg "is_between" = some (.ref (He.ga K "is_between")) := He.glo_ok B.kin B.ns (B.fact 1 (.glo "is_between") rfl)
theorem Bs.g_is_word (B : Bs lfa lfn ltf lex K mg base T) : mg "is_word" = some (.ref (He.ga K "is_word")) := He.glo_ok B.kin B.ns (B.fact 2 (.glo "is_word") rfl)
theorem Bs.g_are_parts (B : Bs lfa lfn ltf lex K mg base T) : mg "are_parts" = some (.ref (He.ga K "are_parts")) := He.glo_ok B.kin B.ns (B.fact 3 (.glo "are_parts") rfl)
theorem Bs.g_are_rules (B : Bs lfa lfn ltf lex K mg base T) : mg "are_rules" = some (.ref (He.ga K "are_rules")) := He.glo_ok B.kin B.ns (B.fact 4 (.glo "are_rules") rfl)
theorem Bs.g_is_trade (B : Bs lfa lfn ltf lex K mg base T) : mg "is_trade" = some (.ref (He.ga K "is_trade")) := He.glo_ok B.kin B.ns (B.fact 5 (.glo "is_trade") rfl)
theorem Bs.g_is_stretch (B : Bs lfa lfn ltf lex K mg base T) : mg "is_stretch" = some (.ref (He.ga K "is_stretch")) := He.glo_ok B.kin B.ns (B.fact 6 (.glo "is_stretch") rfl)
theorem Bs.g_fits (B : Bs lfa lfn ltf lex K mg base T) : mg "fits" = some (.ref (He.ga K "fits")) := He.glo_ok B.kin B.ns (B.fact 7 (.glo "fits") rfl)
theorem Bs.g_wrong_piece (B : Bs lfa lfn ltf lex K mg base T) : mg "wrong_piece" = some (.ref (He.ga K "wrong_piece")) := He.glo_ok B.kin B.ns (B.fact 8 (.glo "wrong_piece") rfl)
theorem Bs.g_check_trade (B : Bs lfa lfn ltf lex K mg base T) : mg "check_trade" = some (.ref (He.ga K "check_trade")) := He.glo_ok B.kin B.ns (B.fact 9 (.glo "check_trade") rfl)
theorem Bs.g_check_stock (B : Bs lfa lfn ltf lex K mg base T) : mg "check_stock" = some (.ref (He.ga K "check_stock")) := He.glo_ok B.kin B.ns (B.fact 10 (.glo "check_stock") rfl)
theorem Bs.g_check_asks (B : Bs lfa lfn ltf lex K mg base T) : mg "check_asks" = some (.ref (He.ga K "check_asks")) := He.glo_ok B.kin B.ns (B.fact 11 (.glo "check_asks") rfl)
theorem Bs.g_legs_of (B : Bs lfa lfn ltf lex K mg base T) : mg "legs_of" = some (.ref (He.ga K "legs_of")) := He.glo_ok B.kin B.ns (B.fact 12 (.glo "legs_of") rfl)
theorem Bs.g_is_whole (B : Bs lfa lfn ltf lex K mg base T) : mg "is_whole" = some (.ref (He.ga K "is_whole")) := He.glo_ok B.kin B.ns (B.fact 13 (.glo "is_whole") rfl)
theorem Bs.g_legs_ahead (B : Bs lfa lfn ltf lex K mg base T) : mg "legs_ahead" = some (.ref (He.ga K "legs_ahead")) := He.glo_ok B.kin B.ns (B.fact 14 (.glo "legs_ahead") rfl)
theorem Bs.g_holds (B : Bs lfa lfn ltf lex K mg base T) : mg "holds" = some (.ref (He.ga K "holds")) := He.glo_ok B.kin B.ns (B.fact 15 (.glo "holds") rfl)
theorem Bs.g_shares (B : Bs lfa lfn ltf lex K mg base T) : mg "shares" = some (.ref (He.ga K "shares")) := He.glo_ok B.kin B.ns (B.fact 16 (.glo "shares") rfl)
theorem Bs.g_runs_of (B : Bs lfa lfn ltf lex K mg base T) : mg "runs_of" = some (.ref (He.ga K "runs_of")) := He.glo_ok B.kin B.ns (B.fact 17 (.glo "runs_of") rfl)
theorem Bs.g_free_legs (B : Bs lfa lfn ltf lex K mg base T) : mg "free_legs" = some (.ref (He.ga K "free_legs")) := He.glo_ok B.kin B.ns (B.fact 18 (.glo "free_legs") rfl)
theorem Bs.g_check_hall (B : Bs lfa lfn ltf lex K mg base T) : mg "check_hall" = some (.ref (He.ga K "check_hall")) := He.glo_ok B.kin B.ns (B.fact 19 (.glo "check_hall") rfl)
theorem Bs.g_check_line_counting (B : Bs lfa lfn ltf lex K mg base T) : mg "check_line_counting" = some (.ref (He.ga K "check_line_counting")) := He.glo_ok B.kin B.ns (B.fact 20 (.glo "check_line_counting") rfl)
theorem Bs.g_end_of (B : Bs lfa lfn ltf lex K mg base T) : mg "end_of" = some (.ref (He.ga K "end_of")) := He.glo_ok B.kin B.ns (B.fact 21 (.glo "end_of") rfl)
theorem Bs.g_fault_word (B : Bs lfa lfn ltf lex K mg base T) : mg "fault_word" = some (.ref (He.ga K "fault_word")) := He.glo_ok B.kin B.ns (B.fact 22 (.glo "fault_word") rfl)
theorem Bs.g_first_fault (B : Bs lfa lfn ltf lex K mg base T) : mg "first_fault" = some (.ref (He.ga K "first_fault")) := He.glo_ok B.kin B.ns (B.fact 23 (.glo "first_fault") rfl)
theorem Bs.g_leg_counts (B : Bs lfa lfn ltf lex K mg base T) : mg "leg_counts" = some (.ref (He.ga K "leg_counts")) := He.glo_ok B.kin B.ns (B.fact 24 (.glo "leg_counts") rfl)
theorem Bs.g_over_leg (B : Bs lfa lfn ltf lex K mg base T) : mg "over_leg" = some (.ref (He.ga K "over_leg")) := He.glo_ok B.kin B.ns (B.fact 25 (.glo "over_leg") rfl)
theorem Bs.g_counting_fault (B : Bs lfa lfn ltf lex K mg base T) : mg "counting_fault" = some (.ref (He.ga K "counting_fault")) := He.glo_ok B.kin B.ns (B.fact 26 (.glo "counting_fault") rfl)
theorem Bs.g_check_line_deals (B : Bs lfa lfn ltf lex K mg base T) : mg "check_line_deals" = some (.ref (He.ga K "check_line_deals")) := He.glo_ok B.kin B.ns (B.fact 27 (.glo "check_line_deals") rfl)
theorem Bs.g_free_runs (B : Bs lfa lfn ltf lex K mg base T) : mg "free_runs" = some (.ref (He.ga K "free_runs")) := He.glo_ok B.kin B.ns (B.fact 28 (.glo "free_runs") rfl)
theorem Bs.g_run_middle (B : Bs lfa lfn ltf lex K mg base T) : mg "run_middle" = some (.ref (He.ga K "run_middle")) := He.glo_ok B.kin B.ns (B.fact 29 (.glo "run_middle") rfl)
theorem Bs.g_deal_order (B : Bs lfa lfn ltf lex K mg base T) : mg "deal_order" = some (.ref (He.ga K "deal_order")) := He.glo_ok B.kin B.ns (B.fact 30 (.glo "deal_order") rfl)
theorem Bs.g_free_place (B : Bs lfa lfn ltf lex K mg base T) : mg "free_place" = some (.ref (He.ga K "free_place")) := He.glo_ok B.kin B.ns (B.fact 31 (.glo "free_place") rfl)
theorem Bs.g_deal (B : Bs lfa lfn ltf lex K mg base T) : mg "deal" = some (.ref (He.ga K "deal")) := He.glo_ok B.kin B.ns (B.fact 32 (.glo "deal") rfl)
theorem Bs.g_middle_of (B : Bs lfa lfn ltf lex K mg base T) : mg "middle_of" = some (.ref (He.ga K "middle_of")) := He.glo_ok B.kin B.ns (B.fact 33 (.glo "middle_of") rfl)
theorem Bs.g__law_mix (B : Bs lfa lfn ltf lex K mg base T) : mg "_law_mix" = some (.ref (He.ga K "_law_mix")) := He.glo_ok B.kin B.ns (B.fact 34 (.glo "_law_mix") rfl)
theorem Bs.g__law_store (B : Bs lfa lfn ltf lex K mg base T) : mg "_law_store" = some (.ref (He.ga K "_law_store")) := He.glo_ok B.kin B.ns (B.fact 35 (.glo "_law_store") rfl)
theorem Bs.g__law_take (B : Bs lfa lfn ltf lex K mg base T) : mg "_law_take" = some (.ref (He.ga K "_law_take")) := He.glo_ok B.kin B.ns (B.fact 36 (.glo "_law_take") rfl)
theorem Bs.g__law_odds (B : Bs lfa lfn ltf lex K mg base T) : mg "_law_odds" = some (.ref (He.ga K "_law_odds")) := He.glo_ok B.kin B.ns (B.fact 37 (.glo "_law_odds") rfl)
theorem Bs.g__law_number (B : Bs lfa lfn ltf lex K mg base T) : mg "_law_number" = some (.ref (He.ga K "_law_number")) := He.glo_ok B.kin B.ns (B.fact 38 (.glo "_law_number") rfl)
theorem Bs.g__law_pick (B : Bs lfa lfn ltf lex K mg base T) : mg "_law_pick" = some (.ref (He.ga K "_law_pick")) := He.glo_ok B.kin B.ns (B.fact 39 (.glo "_law_pick") rfl)
theorem Bs.g__law_shuffle (B : Bs lfa lfn ltf lex K mg base T) : mg "_law_shuffle" = some (.ref (He.ga K "_law_shuffle")) := He.glo_ok B.kin B.ns (B.fact 40 (.glo "_law_shuffle") rfl)
theorem Bs.g__law_counting (B : Bs lfa lfn ltf lex K mg base T) : mg "_law_counting" = some (.ref (He.ga K "_law_counting")) := He.glo_ok B.kin B.ns (B.fact 41 (.glo "_law_counting") rfl)
theorem Bs.g__law_within_counts (B : Bs lfa lfn ltf lex K mg base T) : mg "_law_within_counts" = some (.ref (He.ga K "_law_within_counts")) := He.glo_ok B.kin B.ns (B.fact 42 (.glo "_law_within_counts") rfl)
theorem Bs.g__law_spoilt (B : Bs lfa lfn ltf lex K mg base T) : mg "_law_spoilt" = some (.ref (He.ga K "_law_spoilt")) := He.glo_ok B.kin B.ns (B.fact 43 (.glo "_law_spoilt") rfl)
theorem Bs.g__law_is_number (B : Bs lfa lfn ltf lex K mg base T) : mg "_law_is_number" = some (.ref (He.ga K "_law_is_number")) := He.glo_ok B.kin B.ns (B.fact 44 (.glo "_law_is_number") rfl)
theorem Bs.g__law_numbers (B : Bs lfa lfn ltf lex K mg base T) : mg "_law_numbers" = some (.ref (He.ga K "_law_numbers")) := He.glo_ok B.kin B.ns (B.fact 45 (.glo "_law_numbers") rfl)
theorem Bs.g__law_legs (B : Bs lfa lfn ltf lex K mg base T) : mg "_law_legs" = some (.ref (He.ga K "_law_legs")) := He.glo_ok B.kin B.ns (B.fact 46 (.glo "_law_legs") rfl)
theorem Bs.g__law_holds (B : Bs lfa lfn ltf lex K mg base T) : mg "_law_holds" = some (.ref (He.ga K "_law_holds")) := He.glo_ok B.kin B.ns (B.fact 47 (.glo "_law_holds") rfl)
theorem Bs.g__law_way_places (B : Bs lfa lfn ltf lex K mg base T) : mg "_law_way_places" = some (.ref (He.ga K "_law_way_places")) := He.glo_ok B.kin B.ns (B.fact 48 (.glo "_law_way_places") rfl)
theorem Bs.g__law_told (B : Bs lfa lfn ltf lex K mg base T) : mg "_law_told" = some (.ref (He.ga K "_law_told")) := He.glo_ok B.kin B.ns (B.fact 49 (.glo "_law_told") rfl)
theorem Bs.g__law_equal (B : Bs lfa lfn ltf lex K mg base T) : mg "_law_equal" = some (.ref (He.ga K "_law_equal")) := He.glo_ok B.kin B.ns (B.fact 50 (.glo "_law_equal") rfl)
theorem Bs.g__law_wrong (B : Bs lfa lfn ltf lex K mg base T) : mg "_law_wrong" = some (.ref (He.ga K "_law_wrong")) := He.glo_ok B.kin B.ns (B.fact 51 (.glo "_law_wrong") rfl)
theorem Bs.g__law_untrade (B : Bs lfa lfn ltf lex K mg base T) : mg "_law_untrade" = some (.ref (He.ga K "_law_untrade")) := He.glo_ok B.kin B.ns (B.fact 52 (.glo "_law_untrade") rfl)
theorem Bs.g__law_dealt (B : Bs lfa lfn ltf lex K mg base T) : mg "_law_dealt" = some (.ref (He.ga K "_law_dealt")) := He.glo_ok B.kin B.ns (B.fact 53 (.glo "_law_dealt") rfl)
theorem Bs.g__law_middle (B : Bs lfa lfn ltf lex K mg base T) : mg "_law_middle" = some (.ref (He.ga K "_law_middle")) := He.glo_ok B.kin B.ns (B.fact 54 (.glo "_law_middle") rfl)
theorem Bs.g__law_middles (B : Bs lfa lfn ltf lex K mg base T) : mg "_law_middles" = some (.ref (He.ga K "_law_middles")) := He.glo_ok B.kin B.ns (B.fact 55 (.glo "_law_middles") rfl)
theorem Bs.g__law_more (B : Bs lfa lfn ltf lex K mg base T) : mg "_law_more" = some (.ref (He.ga K "_law_more")) := He.glo_ok B.kin B.ns (B.fact 56 (.glo "_law_more") rfl)
theorem Bs.g__law_no_count (B : Bs lfa lfn ltf lex K mg base T) : mg "_law_no_count" = some (.ref (He.ga K "_law_no_count")) := He.glo_ok B.kin B.ns (B.fact 57 (.glo "_law_no_count") rfl)
theorem Bs.g__law_line (B : Bs lfa lfn ltf lex K mg base T) : mg "_law_line" = some (.ref (He.ga K "_law_line")) := He.glo_ok B.kin B.ns (B.fact 58 (.glo "_law_line") rfl)
theorem Bs.g__law_refused (B : Bs lfa lfn ltf lex K mg base T) : mg "_law_refused" = some (.ref (He.ga K "_law_refused")) := He.glo_ok B.kin B.ns (B.fact 59 (.glo "_law_refused") rfl)
theorem Bs.g_law (B : Bs lfa lfn ltf lex K mg base T) : mg "law" = some (.ref (He.ga K "law")) := He.glo_ok B.kin B.ns (B.fact 60 (.glo "law") rfl)
theorem Bs.g_FlushError (B : Bs lfa lfn ltf lex K mg base T) : mg "FlushError" = some (.ref (He.ga K "FlushError")) := He.glo_ok B.kin B.ns (B.fact 61 (.glo "FlushError") rfl)
theorem Bs.g_BadTrade (B : Bs lfa lfn ltf lex K mg base T) : mg "BadTrade" = some (.ref (He.ga K "BadTrade")) := He.glo_ok B.kin B.ns (B.fact 62 (.glo "BadTrade") rfl)
theorem Bs.g_BadShape (B : Bs lfa lfn ltf lex K mg base T) : mg "BadShape" = some (.ref (He.ga K "BadShape")) := He.glo_ok B.kin B.ns (B.fact 63 (.glo "BadShape") rfl)
theorem Bs.g_BadStock (B : Bs lfa lfn ltf lex K mg base T) : mg "BadStock" = some (.ref (He.ga K "BadStock")) := He.glo_ok B.kin B.ns (B.fact 64 (.glo "BadStock") rfl)
theorem Bs.g_BadAsk (B : Bs lfa lfn ltf lex K mg base T) : mg "BadAsk" = some (.ref (He.ga K "BadAsk")) := He.glo_ok B.kin B.ns (B.fact 65 (.glo "BadAsk") rfl)
theorem Bs.g_BadEvent (B : Bs lfa lfn ltf lex K mg base T) : mg "BadEvent" = some (.ref (He.ga K "BadEvent")) := He.glo_ok B.kin B.ns (B.fact 66 (.glo "BadEvent") rfl)
theorem Bs.g_BadDesk (B : Bs lfa lfn ltf lex K mg base T) : mg "BadDesk" = some (.ref (He.ga K "BadDesk")) := He.glo_ok B.kin B.ns (B.fact 67 (.glo "BadDesk") rfl)
theorem Bs.g_BadRule (B : Bs lfa lfn ltf lex K mg base T) : mg "BadRule" = some (.ref (He.ga K "BadRule")) := He.glo_ok B.kin B.ns (B.fact 68 (.glo "BadRule") rfl)
theorem Bs.g_BadText (B : Bs lfa lfn ltf lex K mg base T) : mg "BadText" = some (.ref (He.ga K "BadText")) := He.glo_ok B.kin B.ns (B.fact 69 (.glo "BadText") rfl)
theorem Bs.g_BadName (B : Bs lfa lfn ltf lex K mg base T) : mg "BadName" = some (.ref (He.ga K "BadName")) := He.glo_ok B.kin B.ns (B.fact 70 (.glo "BadName") rfl)
theorem Bs.g_Taken (B : Bs lfa lfn ltf lex K mg base T) : mg "Taken" = some (.ref (He.ga K "Taken")) := He.glo_ok B.kin B.ns (B.fact 71 (.glo "Taken") rfl)
theorem Bs.g_NoSuch (B : Bs lfa lfn ltf lex K mg base T) : mg "NoSuch" = some (.ref (He.ga K "NoSuch")) := He.glo_ok B.kin B.ns (B.fact 72 (.glo "NoSuch") rfl)
theorem Bs.g_BadSeat (B : Bs lfa lfn ltf lex K mg base T) : mg "BadSeat" = some (.ref (He.ga K "BadSeat")) := He.glo_ok B.kin B.ns (B.fact 73 (.glo "BadSeat") rfl)
theorem Bs.g_Occupied (B : Bs lfa lfn ltf lex K mg base T) : mg "Occupied" = some (.ref (He.ga K "Occupied")) := He.glo_ok B.kin B.ns (B.fact 74 (.glo "Occupied") rfl)
theorem Bs.g_BadPick (B : Bs lfa lfn ltf lex K mg base T) : mg "BadPick" = some (.ref (He.ga K "BadPick")) := He.glo_ok B.kin B.ns (B.fact 75 (.glo "BadPick") rfl)
theorem Bs.g_BadWay (B : Bs lfa lfn ltf lex K mg base T) : mg "BadWay" = some (.ref (He.ga K "BadWay")) := He.glo_ok B.kin B.ns (B.fact 76 (.glo "BadWay") rfl)
theorem Bs.g_TooMany (B : Bs lfa lfn ltf lex K mg base T) : mg "TooMany" = some (.ref (He.ga K "TooMany")) := He.glo_ok B.kin B.ns (B.fact 77 (.glo "TooMany") rfl)
theorem Bs.g_NoPick (B : Bs lfa lfn ltf lex K mg base T) : mg "NoPick" = some (.ref (He.ga K "NoPick")) := He.glo_ok B.kin B.ns (B.fact 78 (.glo "NoPick") rfl)
theorem Bs.g_NotCalm (B : Bs lfa lfn ltf lex K mg base T) : mg "NotCalm" = some (.ref (He.ga K "NotCalm")) := He.glo_ok B.kin B.ns (B.fact 79 (.glo "NotCalm") rfl)
theorem Bs.g_NotCounting (B : Bs lfa lfn ltf lex K mg base T) : mg "NotCounting" = some (.ref (He.ga K "NotCounting")) := He.glo_ok B.kin B.ns (B.fact 80 (.glo "NotCounting") rfl)
theorem Bs.f_abs (B : Bs lfa lfn ltf lex K mg base T) : mg "abs" = none := He.free_ok B.kin B.ns (B.fact 81 (.free "abs") rfl)
theorem Bs.f_all (B : Bs lfa lfn ltf lex K mg base T) : mg "all" = none := He.free_ok B.kin B.ns (B.fact 82 (.free "all") rfl)
theorem Bs.f_any (B : Bs lfa lfn ltf lex K mg base T) : mg "any" = none := He.free_ok B.kin B.ns (B.fact 83 (.free "any") rfl)
theorem Bs.f_bool (B : Bs lfa lfn ltf lex K mg base T) : mg "bool" = none := He.free_ok B.kin B.ns (B.fact 84 (.free "bool") rfl)
theorem Bs.f_enumerate (B : Bs lfa lfn ltf lex K mg base T) : mg "enumerate" = none := He.free_ok B.kin B.ns (B.fact 85 (.free "enumerate") rfl)
theorem Bs.f_int (B : Bs lfa lfn ltf lex K mg base T) : mg "int" = none := He.free_ok B.kin B.ns (B.fact 86 (.free "int") rfl)
theorem Bs.f_isinstance (B : Bs lfa lfn ltf lex K mg base T) : mg "isinstance" = none := He.free_ok B.kin B.ns (B.fact 87 (.free "isinstance") rfl)
theorem Bs.f_len (B : Bs lfa lfn ltf lex K mg base T) : mg "len" = none := He.free_ok B.kin B.ns (B.fact 88 (.free "len") rfl)
theorem Bs.f_list (B : Bs lfa lfn ltf lex K mg base T) : mg "list" = none := He.free_ok B.kin B.ns (B.fact 89 (.free "list") rfl)
theorem Bs.f_max (B : Bs lfa lfn ltf lex K mg base T) : mg "max" = none := He.free_ok B.kin B.ns (B.fact 90 (.free "max") rfl)
theorem Bs.f_min (B : Bs lfa lfn ltf lex K mg base T) : mg "min" = none := He.free_ok B.kin B.ns (B.fact 91 (.free "min") rfl)
theorem Bs.f_range (B : Bs lfa lfn ltf lex K mg base T) : mg "range" = none := He.free_ok B.kin B.ns (B.fact 92 (.free "range") rfl)
theorem Bs.f_sorted (B : Bs lfa lfn ltf lex K mg base T) : mg "sorted" = none := He.free_ok B.kin B.ns (B.fact 93 (.free "sorted") rfl)
theorem Bs.f_str (B : Bs lfa lfn ltf lex K mg base T) : mg "str" = none := He.free_ok B.kin B.ns (B.fact 94 (.free "str") rfl)
theorem Bs.f_sum (B : Bs lfa lfn ltf lex K mg base T) : mg "sum" = none := He.free_ok B.kin B.ns (B.fact 95 (.free "sum") rfl)
theorem Bs.f_tuple (B : Bs lfa lfn ltf lex K mg base T) : mg "tuple" = none := He.free_ok B.kin B.ns (B.fact 96 (.free "tuple") rfl)
theorem Bs.g_HALLS (B : Bs lfa lfn ltf lex K mg base T) : mg "HALLS" = some (.ref (He.ga K "HALLS")) := He.glo_ok B.kin B.ns (B.fact 97 (.glo "HALLS") rfl)
theorem Bs.c_HALLS (B : Bs lfa lfn ltf lex K mg base T) : tupB "HALLS" ["line", "round"] K = true := (exl_at B.ex 0 rfl)
theorem Bs.c_LEAST_PARTS (B : Bs lfa lfn ltf lex K mg base T) : ∃ t, mg "LEAST_PARTS" = some (.int 2 t) := He.int_ok B.kin B.ns (B.fact 98 (.int "LEAST_PARTS" 2) rfl)
theorem Bs.c_LETTERS (B : Bs lfa lfn ltf lex K mg base T) : ∃ t, mg "LETTERS" = some (.str "abcdefghijklmnopqrstuvwxyz" t) := He.str_ok B.kin B.ns (B.fact 99 (.str "LETTERS" "abcdefghijklmnopqrstuvwxyz") rfl)
theorem Bs.c_MOST_KINDS (B : Bs lfa lfn ltf lex K mg base T) : ∃ t, mg "MOST_KINDS" = some (.int 12 t) := He.int_ok B.kin B.ns (B.fact 100 (.int "MOST_KINDS" 12) rfl)
theorem Bs.c_MOST_LEGS (B : Bs lfa lfn ltf lex K mg base T) : ∃ t, mg "MOST_LEGS" = some (.int 24 t) := He.int_ok B.kin B.ns (B.fact 101 (.int "MOST_LEGS" 24) rfl)
theorem Bs.c_MOST_NUMBER (B : Bs lfa lfn ltf lex K mg base T) : ∃ t, mg "MOST_NUMBER" = some (.int 1000000 t) := He.int_ok B.kin B.ns (B.fact 102 (.int "MOST_NUMBER" 1000000) rfl)
theorem Bs.c_MOST_PARTS (B : Bs lfa lfn ltf lex K mg base T) : ∃ t, mg "MOST_PARTS" = some (.int 6 t) := He.int_ok B.kin B.ns (B.fact 103 (.int "MOST_PARTS" 6) rfl)
theorem Bs.c_MOST_SAW (B : Bs lfa lfn ltf lex K mg base T) : ∃ t, mg "MOST_SAW" = some (.int 99 t) := He.int_ok B.kin B.ns (B.fact 104 (.int "MOST_SAW" 99) rfl)
theorem Bs.c_MOST_SIGNS (B : Bs lfa lfn ltf lex K mg base T) : ∃ t, mg "MOST_SIGNS" = some (.int 8 t) := He.int_ok B.kin B.ns (B.fact 105 (.int "MOST_SIGNS" 8) rfl)
theorem Bs.c_NAME_SIGNS (B : Bs lfa lfn ltf lex K mg base T) : ∃ t, mg "NAME_SIGNS" = some (.str "abcdefghijklmnopqrstuvwxyz0123456789" t) := He.str_ok B.kin B.ns (B.fact 106 (.str "NAME_SIGNS" "abcdefghijklmnopqrstuvwxyz0123456789") rfl)
theorem Bs.x_BadShape (B : Bs lfa lfn ltf lex K mg base T) : (He.Fa.exc "BadShape").ok K = true := (B.fact 107 (.exc "BadShape") rfl)
theorem Bs.x_BadTrade (B : Bs lfa lfn ltf lex K mg base T) : (He.Fa.exc "BadTrade").ok K = true := (B.fact 108 (.exc "BadTrade") rfl)
theorem Bs.x_NoPick (B : Bs lfa lfn ltf lex K mg base T) : (He.Fa.exc "NoPick").ok K = true := (B.fact 109 (.exc "NoPick") rfl)
theorem Bs.x_NotCounting (B : Bs lfa lfn ltf lex K mg base T) : (He.Fa.exc "NotCounting").ok K = true := (B.fact 110 (.exc "NotCounting") rfl)
theorem Bs.o_BadAsk (B : Bs lfa lfn ltf lex K mg base T) : OexF K "BadAsk" "at" := oexB_ok (exl_at B.ex 1 rfl)
theorem Bs.o_BadStock (B : Bs lfa lfn ltf lex K mg base T) : OexF K "BadStock" "at" := oexB_ok (exl_at B.ex 2 rfl)
theorem Bs.names (B : Bs lfa lfn ltf lex K mg base T) : exNames K = true := (exl_at B.ex 3 rfl)
theorem Bs.tabs (B : Bs lfa lfn ltf lex K mg base T) : exTabs K = true := (exl_at B.ex 4 rfl)
theorem Bs.d_is_number (B : Bs lfa lfn ltf lex K mg base T) : ∃ fd, FunD K "is_number" "is_number" (defArgs (top 32)) (defBody (top 32)) (defScope (top 32)) [] [] (He.ga K "is_number") fd := B.fd 0 dd0 rfl
theorem Bs.d_is_between (B : Bs lfa lfn ltf lex K mg base T) : ∃ fd, FunD K "is_between" "is_between" (defArgs (top 33)) (defBody (top 33)) (defScope (top 33)) [] [] (He.ga K "is_between") fd := B.fd 1 dd1 rfl
theorem Bs.d_is_word (B : Bs lfa lfn ltf lex K mg base T) : ∃ fd, FunD K "is_word" "is_word" (defArgs (top 34)) (defBody (top 34)) (defScope (top 34)) [] [] (He.ga K "is_word") fd := B.fd 2 dd2 rfl
theorem Bs.d_are_parts (B : Bs lfa lfn ltf lex K mg base T) : ∃ fd, FunD K "are_parts" "are_parts" (defArgs (top 35)) (defBody (top 35)) (defScope (top 35)) [] [] (He.ga K "are_parts") fd := B.fd 3 dd3 rfl
theorem Bs.d_are_rules (B : Bs lfa lfn ltf lex K mg base T) : ∃ fd, FunD K "are_rules" "are_rules" (defArgs (top 36)) (defBody (top 36)) (defScope (top 36)) [] [] (He.ga K "are_rules") fd := B.fd 4 dd4 rfl
theorem Bs.d_is_trade (B : Bs lfa lfn ltf lex K mg base T) : ∃ fd, FunD K "is_trade" "is_trade" (defArgs (top 37)) (defBody (top 37)) (defScope (top 37)) [] [] (He.ga K "is_trade") fd := B.fd 5 dd5 rfl
theorem Bs.d_is_stretch (B : Bs lfa lfn ltf lex K mg base T) : ∃ fd, FunD K "is_stretch" "is_stretch" (defArgs (top 38)) (defBody (top 38)) (defScope (top 38)) [] [] (He.ga K "is_stretch") fd := B.fd 6 dd6 rfl
theorem Bs.d_fits (B : Bs lfa lfn ltf lex K mg base T) : ∃ fd, FunD K "fits" "fits" (defArgs (top 39)) (defBody (top 39)) (defScope (top 39)) [] [] (He.ga K "fits") fd := B.fd 7 dd7 rfl
theorem Bs.d_wrong_piece (B : Bs lfa lfn ltf lex K mg base T) : ∃ fd, FunD K "wrong_piece" "wrong_piece" (defArgs (top 40)) (defBody (top 40)) (defScope (top 40)) [] [] (He.ga K "wrong_piece") fd := B.fd 8 dd8 rfl
theorem Bs.d_check_trade (B : Bs lfa lfn ltf lex K mg base T) : ∃ fd, FunD K "check_trade" "check_trade" (defArgs (top 41)) (defBody (top 41)) (defScope (top 41)) [] [] (He.ga K "check_trade") fd := B.fd 9 dd9 rfl
theorem Bs.d_check_stock (B : Bs lfa lfn ltf lex K mg base T) : ∃ fd, FunD K "check_stock" "check_stock" (defArgs (top 42)) (defBody (top 42)) (defScope (top 42)) [] [] (He.ga K "check_stock") fd := B.fd 10 dd10 rfl
theorem Bs.d_check_asks (B : Bs lfa lfn ltf lex K mg base T) : ∃ fd, FunD K "check_asks" "check_asks" (defArgs (top 43)) (defBody (top 43)) (defScope (top 43)) [] [] (He.ga K "check_asks") fd := B.fd 11 dd11 rfl
theorem Bs.d_legs_of (B : Bs lfa lfn ltf lex K mg base T) : ∃ fd, FunD K "legs_of" "legs_of" (defArgs (top 45)) (defBody (top 45)) (defScope (top 45)) [] [] (He.ga K "legs_of") fd := B.fd 12 dd12 rfl
theorem Bs.d_is_whole (B : Bs lfa lfn ltf lex K mg base T) : ∃ fd, FunD K "is_whole" "is_whole" (defArgs (top 46)) (defBody (top 46)) (defScope (top 46)) [] [] (He.ga K "is_whole") fd := B.fd 13 dd13 rfl
theorem Bs.d_legs_ahead (B : Bs lfa lfn ltf lex K mg base T) : ∃ fd, FunD K "legs_ahead" "legs_ahead" (defArgs (top 47)) (defBody (top 47)) (defScope (top 47)) [] [] (He.ga K "legs_ahead") fd := B.fd 14 dd14 rfl
theorem Bs.d_holds (B : Bs lfa lfn ltf lex K mg base T) : ∃ fd, FunD K "holds" "holds" (defArgs (top 48)) (defBody (top 48)) (defScope (top 48)) [] [] (He.ga K "holds") fd := B.fd 15 dd15 rfl
theorem Bs.d_shares (B : Bs lfa lfn ltf lex K mg base T) : ∃ fd, FunD K "shares" "shares" (defArgs (top 49)) (defBody (top 49)) (defScope (top 49)) [] [] (He.ga K "shares") fd := B.fd 16 dd16 rfl
theorem Bs.d_runs_of (B : Bs lfa lfn ltf lex K mg base T) : ∃ fd, FunD K "runs_of" "runs_of" (defArgs (top 50)) (defBody (top 50)) (defScope (top 50)) [] [] (He.ga K "runs_of") fd := B.fd 17 dd17 rfl
theorem Bs.d_free_legs (B : Bs lfa lfn ltf lex K mg base T) : ∃ fd, FunD K "free_legs" "free_legs" (defArgs (top 52)) (defBody (top 52)) (defScope (top 52)) [] [] (He.ga K "free_legs") fd := B.fd 18 dd18 rfl
theorem Bs.d_check_hall (B : Bs lfa lfn ltf lex K mg base T) : ∃ fd, FunD K "check_hall" "check_hall" (defArgs (top 54)) (defBody (top 54)) (defScope (top 54)) [] [] (He.ga K "check_hall") fd := B.fd 19 dd19 rfl
theorem Bs.d_check_line_counting (B : Bs lfa lfn ltf lex K mg base T) : ∃ fd, FunD K "check_line" "check_line" (defArgs (top 55)) (defBody (top 55)) (defScope (top 55)) [] [] (He.ga K "check_line_counting") fd := B.fd 20 dd20 rfl
theorem Bs.d_end_of (B : Bs lfa lfn ltf lex K mg base T) : ∃ fd, FunD K "end_of" "end_of" (defArgs (top 57)) (defBody (top 57)) (defScope (top 57)) [] [] (He.ga K "end_of") fd := B.fd 21 dd21 rfl
theorem Bs.d_fault_word (B : Bs lfa lfn ltf lex K mg base T) : ∃ fd, FunD K "fault_word" "fault_word" (defArgs (top 58)) (defBody (top 58)) (defScope (top 58)) [] [] (He.ga K "fault_word") fd := B.fd 22 dd22 rfl
theorem Bs.d_first_fault (B : Bs lfa lfn ltf lex K mg base T) : ∃ fd, FunD K "first_fault" "first_fault" (defArgs (top 59)) (defBody (top 59)) (defScope (top 59)) [] [] (He.ga K "first_fault") fd := B.fd 23 dd23 rfl
theorem Bs.d_leg_counts (B : Bs lfa lfn ltf lex K mg base T) : ∃ fd, FunD K "leg_counts" "leg_counts" (defArgs (top 60)) (defBody (top 60)) (defScope (top 60)) [] [] (He.ga K "leg_counts") fd := B.fd 24 dd24 rfl
theorem Bs.d_over_leg (B : Bs lfa lfn ltf lex K mg base T) : ∃ fd, FunD K "over_leg" "over_leg" (defArgs (top 61)) (defBody (top 61)) (defScope (top 61)) [] [] (He.ga K "over_leg") fd := B.fd 25 dd25 rfl
theorem Bs.d_counting_fault (B : Bs lfa lfn ltf lex K mg base T) : ∃ fd, FunD K "counting_fault" "counting_fault" (defArgs (top 62)) (defBody (top 62)) (defScope (top 62)) [] [] (He.ga K "counting_fault") fd := B.fd 26 dd26 rfl
theorem Bs.d_check_line_deals (B : Bs lfa lfn ltf lex K mg base T) : ∃ fd, FunD K "check_line" "check_line" (defArgs (top 64)) (defBody (top 64)) (defScope (top 64)) [] [] (He.ga K "check_line_deals") fd := B.fd 27 dd27 rfl
theorem Bs.d_free_runs (B : Bs lfa lfn ltf lex K mg base T) : ∃ fd, FunD K "free_runs" "free_runs" (defArgs (top 66)) (defBody (top 66)) (defScope (top 66)) [] [] (He.ga K "free_runs") fd := B.fd 28 dd28 rfl
theorem Bs.d_run_middle (B : Bs lfa lfn ltf lex K mg base T) : ∃ fd, FunD K "run_middle" "run_middle" (defArgs (top 67)) (defBody (top 67)) (defScope (top 67)) [] [] (He.ga K "run_middle") fd := B.fd 29 dd29 rfl
theorem Bs.d_deal_order (B : Bs lfa lfn ltf lex K mg base T) : ∃ fd, FunD K "deal_order" "deal_order" (defArgs (top 68)) (defBody (top 68)) (defScope (top 68)) [] [] (He.ga K "deal_order") fd := B.fd 30 dd30 rfl
theorem Bs.d_free_place (B : Bs lfa lfn ltf lex K mg base T) : ∃ fd, FunD K "free_place" "free_place" (defArgs (top 69)) (defBody (top 69)) (defScope (top 69)) [] [] (He.ga K "free_place") fd := B.fd 31 dd31 rfl
theorem Bs.d_deal (B : Bs lfa lfn ltf lex K mg base T) : ∃ fd, FunD K "deal" "deal" (defArgs (top 70)) (defBody (top 70)) (defScope (top 70)) [] [] (He.ga K "deal") fd := B.fd 32 dd32 rfl
theorem Bs.d_middle_of (B : Bs lfa lfn ltf lex K mg base T) : ∃ fd, FunD K "middle_of" "middle_of" (defArgs (top 71)) (defBody (top 71)) (defScope (top 71)) [] [] (He.ga K "middle_of") fd := B.fd 33 dd33 rfl
theorem Bs.d_law_mix (B : Bs lfa lfn ltf lex K mg base T) : ∃ fd, FunD K "_law_mix" "_law_mix" (defArgs (top 73)) (defBody (top 73)) (defScope (top 73)) [] [] (He.ga K "_law_mix") fd := B.fd 34 dd34 rfl
theorem Bs.d_law_store (B : Bs lfa lfn ltf lex K mg base T) : ∃ fd, FunD K "_law_store" "_law_store" (defArgs (top 74)) (defBody (top 74)) (defScope (top 74)) [] [] (He.ga K "_law_store") fd := B.fd 35 dd35 rfl
theorem Bs.d_law_take (B : Bs lfa lfn ltf lex K mg base T) : ∃ fd, FunD K "_law_take" "_law_take" (defArgs (top 75)) (defBody (top 75)) (defScope (top 75)) [] [] (He.ga K "_law_take") fd := B.fd 36 dd36 rfl
theorem Bs.d_law_odds (B : Bs lfa lfn ltf lex K mg base T) : ∃ fd, FunD K "_law_odds" "_law_odds" (defArgs (top 76)) (defBody (top 76)) (defScope (top 76)) [] [] (He.ga K "_law_odds") fd := B.fd 37 dd37 rfl
theorem Bs.d_law_number (B : Bs lfa lfn ltf lex K mg base T) : ∃ fd, FunD K "_law_number" "_law_number" (defArgs (top 77)) (defBody (top 77)) (defScope (top 77)) [] [] (He.ga K "_law_number") fd := B.fd 38 dd38 rfl
theorem Bs.d_law_pick (B : Bs lfa lfn ltf lex K mg base T) : ∃ fd, FunD K "_law_pick" "_law_pick" (defArgs (top 78)) (defBody (top 78)) (defScope (top 78)) [] [] (He.ga K "_law_pick") fd := B.fd 39 dd39 rfl
theorem Bs.d_law_shuffle (B : Bs lfa lfn ltf lex K mg base T) : ∃ fd, FunD K "_law_shuffle" "_law_shuffle" (defArgs (top 79)) (defBody (top 79)) (defScope (top 79)) [] [] (He.ga K "_law_shuffle") fd := B.fd 40 dd40 rfl
theorem Bs.d_law_counting (B : Bs lfa lfn ltf lex K mg base T) : ∃ fd, FunD K "_law_counting" "_law_counting" (defArgs (top 80)) (defBody (top 80)) (defScope (top 80)) [] [] (He.ga K "_law_counting") fd := B.fd 41 dd41 rfl
theorem Bs.d_law_within_counts (B : Bs lfa lfn ltf lex K mg base T) : ∃ fd, FunD K "_law_within_counts" "_law_within_counts" (defArgs (top 81)) (defBody (top 81)) (defScope (top 81)) [] [] (He.ga K "_law_within_counts") fd := B.fd 42 dd42 rfl
theorem Bs.d_law_spoilt (B : Bs lfa lfn ltf lex K mg base T) : ∃ fd, FunD K "_law_spoilt" "_law_spoilt" (defArgs (top 82)) (defBody (top 82)) (defScope (top 82)) [] [] (He.ga K "_law_spoilt") fd := B.fd 43 dd43 rfl
theorem Bs.d_law_is_number (B : Bs lfa lfn ltf lex K mg base T) : ∃ fd, FunD K "_law_is_number" "_law_is_number" (defArgs (top 83)) (defBody (top 83)) (defScope (top 83)) [] [] (He.ga K "_law_is_number") fd := B.fd 44 dd44 rfl
theorem Bs.d_law_numbers (B : Bs lfa lfn ltf lex K mg base T) : ∃ fd, FunD K "_law_numbers" "_law_numbers" (defArgs (top 84)) (defBody (top 84)) (defScope (top 84)) [] [] (He.ga K "_law_numbers") fd := B.fd 45 dd45 rfl
theorem Bs.d_law_legs (B : Bs lfa lfn ltf lex K mg base T) : ∃ fd, FunD K "_law_legs" "_law_legs" (defArgs (top 85)) (defBody (top 85)) (defScope (top 85)) [] [] (He.ga K "_law_legs") fd := B.fd 46 dd46 rfl
theorem Bs.d_law_holds (B : Bs lfa lfn ltf lex K mg base T) : ∃ fd, FunD K "_law_holds" "_law_holds" (defArgs (top 86)) (defBody (top 86)) (defScope (top 86)) [] [] (He.ga K "_law_holds") fd := B.fd 47 dd47 rfl
theorem Bs.d_law_way_places (B : Bs lfa lfn ltf lex K mg base T) : ∃ fd, FunD K "_law_way_places" "_law_way_places" (defArgs (top 87)) (defBody (top 87)) (defScope (top 87)) [] [] (He.ga K "_law_way_places") fd := B.fd 48 dd48 rfl
theorem Bs.d_law_told (B : Bs lfa lfn ltf lex K mg base T) : ∃ fd, FunD K "_law_told" "_law_told" (defArgs (top 88)) (defBody (top 88)) (defScope (top 88)) [] [] (He.ga K "_law_told") fd := B.fd 49 dd49 rfl
theorem Bs.d_law_equal (B : Bs lfa lfn ltf lex K mg base T) : ∃ fd, FunD K "_law_equal" "_law_equal" (defArgs (top 89)) (defBody (top 89)) (defScope (top 89)) [] [] (He.ga K "_law_equal") fd := B.fd 50 dd50 rfl
theorem Bs.d_law_wrong (B : Bs lfa lfn ltf lex K mg base T) : ∃ fd, FunD K "_law_wrong" "_law_wrong" (defArgs (top 90)) (defBody (top 90)) (defScope (top 90)) [] [] (He.ga K "_law_wrong") fd := B.fd 51 dd51 rfl
theorem Bs.d_law_untrade (B : Bs lfa lfn ltf lex K mg base T) : ∃ fd, FunD K "_law_untrade" "_law_untrade" (defArgs (top 91)) (defBody (top 91)) (defScope (top 91)) [] [] (He.ga K "_law_untrade") fd := B.fd 52 dd52 rfl
theorem Bs.d_law_dealt (B : Bs lfa lfn ltf lex K mg base T) : ∃ fd, FunD K "_law_dealt" "_law_dealt" (defArgs (top 92)) (defBody (top 92)) (defScope (top 92)) [] [] (He.ga K "_law_dealt") fd := B.fd 53 dd53 rfl
theorem Bs.d_law_middle (B : Bs lfa lfn ltf lex K mg base T) : ∃ fd, FunD K "_law_middle" "_law_middle" (defArgs (top 93)) (defBody (top 93)) (defScope (top 93)) [] [] (He.ga K "_law_middle") fd := B.fd 54 dd54 rfl
theorem Bs.d_law_middles (B : Bs lfa lfn ltf lex K mg base T) : ∃ fd, FunD K "_law_middles" "_law_middles" (defArgs (top 94)) (defBody (top 94)) (defScope (top 94)) [] [] (He.ga K "_law_middles") fd := B.fd 55 dd55 rfl
theorem Bs.d_law_more (B : Bs lfa lfn ltf lex K mg base T) : ∃ fd, FunD K "_law_more" "_law_more" (defArgs (top 95)) (defBody (top 95)) (defScope (top 95)) [] [] (He.ga K "_law_more") fd := B.fd 56 dd56 rfl
theorem Bs.d_law_no_count (B : Bs lfa lfn ltf lex K mg base T) : ∃ fd, FunD K "_law_no_count" "_law_no_count" (defArgs (top 96)) (defBody (top 96)) (defScope (top 96)) [] [] (He.ga K "_law_no_count") fd := B.fd 57 dd57 rfl
theorem Bs.d_law_line (B : Bs lfa lfn ltf lex K mg base T) : ∃ fd, FunD K "_law_line" "_law_line" (defArgs (top 97)) (defBody (top 97)) (defScope (top 97)) [] [] (He.ga K "_law_line") fd := B.fd 58 dd58 rfl
theorem Bs.d_law_refused (B : Bs lfa lfn ltf lex K mg base T) : ∃ fd, FunD K "_law_refused" "_law_refused" (defArgs (top 98)) (defBody (top 98)) (defScope (top 98)) [] [] (He.ga K "_law_refused") fd := B.fd 59 dd59 rfl
theorem Bs.d_law (B : Bs lfa lfn ltf lex K mg base T) : ∃ fd, FunD K "law" "law" (defArgs (top 99)) (defBody (top 99)) (defScope (top 99)) [] [] (He.ga K "law") fd := B.fd 60 dd60 rfl
theorem Bs.e_BadStock (B : Bs lfa lfn ltf lex K mg base T) : ∃ fd, FunD K "__init__" "BadStock.__init__" (defArgs (inClass (top 4) 0)) (defBody (inClass (top 4) 0)) (defScope (inClass (top 4) 0)) [] [] (He.ma K (He.ga K "BadStock") "__init__") fd := B.fd 61 dd61 rfl
theorem S_init_BadStock : FnScope ["self", "at"] ["self", "at"] (defScope (inClass (top 4) 0)) := ⟨rfl, rfl, rfl, by decide +kernel, rfl, by decide +kernel, by decide +kernel⟩
theorem Bs.in_BadStock {P : Program} {w : World} (B : Bs lfa lfn ltf lex K mg base T) : ∃ fd, FnOk P w K mg base (L2N.CX P w) 1 (He.ma K (He.ga K "BadStock") "__init__") fd ["self", "at"] (spI K (He.ga K "BadStock") "at") ∧ L2.Binds K fd ["self", "at"] [] := by
  obtain ⟨fd, F⟩ := B.e_BadStock
  exact ⟨fd, okI B.o_BadStock F S_init_BadStock (Or.inl rfl) (Or.inl rfl), F.bindsN fun _ _ _ _ _ _ us hl => match us, hl with | [_, _], _ => rfl⟩
theorem Bs.e_BadAsk (B : Bs lfa lfn ltf lex K mg base T) : ∃ fd, FunD K "__init__" "BadAsk.__init__" (defArgs (inClass (top 5) 0)) (defBody (inClass (top 5) 0)) (defScope (inClass (top 5) 0)) [] [] (He.ma K (He.ga K "BadAsk") "__init__") fd := B.fd 62 dd62 rfl
theorem S_init_BadAsk : FnScope ["self", "at"] ["self", "at"] (defScope (inClass (top 5) 0)) := ⟨rfl, rfl, rfl, by decide +kernel, rfl, by decide +kernel, by decide +kernel⟩
theorem Bs.in_BadAsk {P : Program} {w : World} (B : Bs lfa lfn ltf lex K mg base T) : ∃ fd, FnOk P w K mg base (L2N.CX P w) 1 (He.ma K (He.ga K "BadAsk") "__init__") fd ["self", "at"] (spI K (He.ga K "BadAsk") "at") ∧ L2.Binds K fd ["self", "at"] [] := by
  obtain ⟨fd, F⟩ := B.e_BadAsk
  exact ⟨fd, okI B.o_BadAsk F S_init_BadAsk (Or.inl rfl) (Or.inl rfl), F.bindsN fun _ _ _ _ _ _ us hl => match us, hl with | [_, _], _ => rfl⟩
end
theorem bt_abs : bootBuiltins "abs" = some (.builtin "abs") := by decide +kernel
theorem bt_all : bootBuiltins "all" = some (.builtin "all") := by decide +kernel
theorem bt_any : bootBuiltins "any" = some (.builtin "any") := by decide +kernel
theorem bt_bool : bootBuiltins "bool" = some (.type "bool") := by decide +kernel
theorem bt_int : bootBuiltins "int" = some (.type "int") := by decide +kernel
theorem bt_isinstance : bootBuiltins "isinstance" = some (.builtin "isinstance") := by decide +kernel
theorem bt_len : bootBuiltins "len" = some (.builtin "len") := by decide +kernel
theorem bt_list : bootBuiltins "list" = some (.type "list") := by decide +kernel
theorem bt_max : bootBuiltins "max" = some (.builtin "max") := by decide +kernel
theorem bt_min : bootBuiltins "min" = some (.builtin "min") := by decide +kernel
theorem bt_sorted : bootBuiltins "sorted" = some (.builtin "sorted") := by decide +kernel
theorem bt_str : bootBuiltins "str" = some (.type "str") := by decide +kernel
theorem bt_sum : bootBuiltins "sum" = some (.builtin "sum") := by decide +kernel
theorem bt_tuple : bootBuiltins "tuple" = some (.type "tuple") := by decide +kernel
end Qv

/-! ## K78H -/
set_option Elab.async false
set_option linter.all false
set_option maxRecDepth 100000
set_option maxHeartbeats 0
/-! the head's run: law_k78_deal_is_a_way (printed by genhead4.py) -/
namespace Qv
open PySem PySem.Spec PyProof.Rows L2
abbrev hR : PySem.W.OpenRow := PySem.W.OpenLaw.row PySem.Challenge.rw_flushends_k78_deal_is_a_way
abbrev hHk : PySem.W.Hook := hookY 4 lfa lfn ltf lex
def hOb (s : PySem.W.SharedT) : He.AlX := obsY 4 lfa lfn ltf lex (HandSHeadRun.getT s)
theorem hOb_eq (s : PySem.W.SharedT) : hOb s = hHk.obs s.abs := congrArg (obsY 4 lfa lfn ltf lex) (funext (HandSHeadRun.getT_eq s))
def hLoose : List PySem.Str := (["FlushError", "BadTrade", "BadShape", "BadStock", "BadAsk", "BadEvent", "BadDesk", "BadRule", "BadText", "BadName", "Taken", "NoSuch"] : List PySem.Str) ++ (["BadSeat", "Occupied", "BadPick", "BadWay", "TooMany", "NoPick", "NotCalm", "NotCounting", "HALLS", "MOST_LEGS", "MOST_SAW", "MOST_KINDS"] : List PySem.Str) ++ (["LEAST_PARTS", "MOST_PARTS", "MOST_NUMBER", "MOST_SIGNS", "LETTERS", "NAME_SIGNS", "is_number", "is_between", "is_word", "are_parts", "are_rules", "is_trade"] : List PySem.Str) ++ (["is_stretch", "fits", "wrong_piece", "check_trade", "check_stock", "check_asks", "legs_of", "is_whole", "legs_ahead", "holds", "shares", "runs_of"] : List PySem.Str) ++ (["free_legs", "check_hall", "check_line", "check_line_counting", "end_of", "fault_word", "first_fault", "leg_counts", "over_leg", "counting_fault", "check_line_deals", "free_runs"] : List PySem.Str) ++ (["run_middle", "deal_order", "free_place", "deal", "middle_of", "_law_mix", "_law_store", "_law_take", "_law_odds", "_law_number", "_law_pick", "_law_shuffle"] : List PySem.Str) ++ (["_law_counting", "_law_within_counts", "_law_spoilt", "_law_is_number", "_law_numbers", "_law_legs", "_law_holds", "_law_way_places", "_law_told", "_law_equal", "_law_wrong", "_law_untrade"] : List PySem.Str) ++ (["_law_dealt", "_law_middle", "_law_middles", "_law_more", "_law_no_count", "_law_line", "_law_refused"] : List PySem.Str)
theorem opt3 {α β γ δ : Type} {o : Option α} {f : α → β} {g : α → γ} {h : α → δ} {b : β} {c : γ} {d : δ} (e1 : o.map (fun s => (f s, g s)) = some (b, c)) (e2 : o.map h = some d) : o.map (fun s => (f s, g s, h s)) = some (b, c, d) := by
  cases o with
  | none => cases e2
  | some s =>
    have h1 : (f s, g s) = (b, c) := Option.some.inj e1
    have h2 : h s = d := Option.some.inj e2
    cases h1
    cases h2
    rfl
theorem hRunA (w : World) (os : OsState) : (HandSHeadRun.endF (HandSHeadRun.stepQ (HandSHeadRun.denQ HandSHeadRun.tabQ) hR.prog w) 8000 hR.prog w os).map (fun s => (HandSHeadRun.looksF hR.prog (W.boot_heap w.params) s.abs, HandSHeadRun.seenQ (W.view hR.prog [99]) hLoose (importedModules hR.prog.main.body) (fun s => W.xlAt (W.view hR.prog [99]) [] s && W.recOk hR.records s) s.abs)) = some (true, W.openGood (W.view hR.prog [99]) hLoose) := by
  kernel_rfl
theorem hRunB (w : World) (os : OsState) : (HandSHeadRun.endF (HandSHeadRun.stepQ (HandSHeadRun.denQ HandSHeadRun.tabQ) hR.prog w) 8000 hR.prog w os).map (fun s => hOb s) = some (hHk.val w) := by
  kernel_rfl
theorem hRun (w : World) : HandSHeadRun.RunEq hR (PySem.W.view hR.prog [99]) hHk hOb 8000 hLoose w := by
  unfold HandSHeadRun.RunEq
  intro os
  exact opt3 (hRunA w os) (hRunB w os)
end Qv

/-! ## K78T -/
set_option Elab.async false
set_option linter.all false
set_option maxRecDepth 100000
set_option maxHeartbeats 1000000

/-! the walk: law_k78_deal_is_a_way (printed by genwalk.py) -/
namespace Qv
open PySem PySem.Spec PyProof.Rows L2
variable {P : Program} {w : World} {K : PySem.W.Frag} {mg : Str → Option Value} {base : Heap} {T : List (Addr × Str)}
theorem oexR {X : Cx} {T : List (Addr × Str)} {EX : XK} {x f y : Str} {e : Expr} {fe : DA} {j : Nat} {p pos pos' : Pos} (_ : Bs lfa lfn ltf lex X.K X.mg X.base T) (F : OexF X.K x f) (hr : Room j X.A) (tk : L2N.Takes X (fun c d _ H => EX c d H)) (hg : Gl X x) (hm : X.mg x = some (.ref (He.ga X.K x)))
    (F1 : ∃ fd, FnOk X.prog X.w X.K X.mg X.base (L2N.CX X.prog X.w) 1 (He.ma X.K (He.ga X.K x) "__init__") fd ["self", y] (spI X.K (He.ga X.K x) f) ∧ L2.Binds X.K fd ["self", y] []) (ha : QA X T EX [e] fe) (hc : X.calm = true := by rfl) (hj : 2 ≤ j := by decide)
    (hdb : (x == ("__debug__" : Str)) = false := by decide) (he : starEach [e] X.env = (false, eval e X.env) :: starEach [] X.env := by rfl) (hpl : (backTo pos (starEach [] X.env)).any (·.1) = false := by rfl) :
    QS X T EX (.Raise (some (.Call (.Name x p) [e] [] pos)) none pos') (sRaise1 x f fe) := by
  obtain ⟨fd, F1, b⟩ := F1
  exact qs_raise1 hc tk F F1 (hr.mono hj) b passE0 hg hm ha hdb he hpl
def N_law_told : List Str := ["call", "e", "told", "words", "word", "k"]
theorem S_law_told : FnScope N_law_told ["call"] (defScope (top 88)) := ⟨rfl, rfl, rfl, by decide +kernel, rfl, by decide +kernel, by decide +kernel⟩
def teller : Teller := ⟨tnames, fun c => if c = "BadStock" ∨ c = "BadAsk" ∨ c = "BadEvent" ∨ c = "BadRule" then some ("at" : Str) else none⟩
def fS_told (a : Addr) (d : Option Addr) (c : Str) : DS := (sSeq (sSet 2 (eLst (aCons (eIsE a d (decide ("BadTrade" = c)) (eSlot 1)) (aCons (eIsE a d (decide ("BadShape" = c)) (eSlot 1)) (aCons (eIsE a d (decide ("BadStock" = c)) (eSlot 1)) (aCons (eIsE a d (decide ("BadAsk" = c)) (eSlot 1)) (aCons (eIsE a d (decide ("BadEvent" = c)) (eSlot 1)) (aCons (eIsE a d (decide ("BadDesk" = c)) (eSlot 1)) (aCons (eIsE a d (decide ("BadRule" = c)) (eSlot 1)) (aCons (eIsE a d (decide ("BadText" = c)) (eSlot 1)) (aCons (eIsE a d (decide ("BadName" = c)) (eSlot 1)) (aCons (eIsE a d (decide ("Taken" = c)) (eSlot 1)) (aCons (eIsE a d (decide ("NoSuch" = c)) (eSlot 1)) (aCons (eIsE a d (decide ("BadSeat" = c)) (eSlot 1)) (aCons (eIsE a d (decide ("Occupied" = c)) (eSlot 1)) (aCons (eIsE a d (decide ("BadPick" = c)) (eSlot 1)) (aCons (eIsE a d (decide ("BadWay" = c)) (eSlot 1)) (aCons (eIsE a d (decide ("TooMany" = c)) (eSlot 1)) (aCons (eIsE a d (decide ("NoPick" = c)) (eSlot 1)) (aCons (eIsE a d (decide ("NotCalm" = c)) (eSlot 1)) (aCons (eIsE a d (decide ("NotCounting" = c)) (eSlot 1)) aNil)))))))))))))))))))))
    (sSeq (sSet 3 (eC (.str "BadTrade BadShape BadStock BadAsk BadEvent BadDesk BadRule BadText BadName Taken NoSuch BadSeat")))
    (sSeq (sSet 3 (eVal (fSplit (eOp dAdd (eSlot 3) (eC (.str " Occupied BadPick BadWay TooMany NoPick NotCalm NotCounting"))) (eC (.str " ")))))
    (sSeq (sSet 4 (eJoin (eC (.str "")) (eVal (fComp (.nm 5) (([("k", 5)] : List (Str × Nat)).map (·.2)) (iRange1 (eC (.int 19))) (bTru (eOp dIx (eSlot 2) (eSlot 5))) (eOp dIx (eSlot 3) (eSlot 5))))))
    (sSeq (sIf (bTst (eOp dIn (eSlot 4) (eTup (aCons (eC (.str "BadStock")) (aCons (eC (.str "BadAsk")) (aCons (eC (.str "BadEvent")) (aCons (eC (.str "BadRule")) aNil))))))) (sRet (eTup (aCons (eSlot 4) (aCons (eXat a d "at" (eSlot 1)) aNil)))) sNil)
    (sRet (eTup (aCons (eSlot 4) (aCons (eC .non) aNil)))))))))
theorem hot_of {X : Cx} {a : Addr} {oe : Obj} {cls : Value} {d : Option Addr} {pn : List (Addr × Obj)} (hz : L2N.Zn cls d oe) (hf : ∃ vs, oe.data = .fields vs) : L2H.Hot1 (X.suite a ((a, oe) :: pn)).A (a, oe) := by
  obtain ⟨vs, e⟩ := hf
  exact ⟨rfl, vs, e, hz.2.2 vs e⟩
theorem Bs.nm (B : Bs lfa lfn ltf lex K mg base T) : ∀ c ∈ tnames, ExcC K (He.ga K c) ∧ XfC K (He.ga K c) ∧ PySem.W.findIn K (.ref (He.ga K c)) "at" = some none ∧ PySem.W.exmOne K (.ref (He.ga K c)) (.ref (He.ga K "FlushError")) = some true ∧
    ∀ y ∈ tnames, PySem.W.kitOne K (.ref (He.ga K c)) (.ref (He.ga K y)) = some (decide (y = c)) := fun c hc => by
  have h := List.all_eq_true.mp B.names c hc
  obtain ⟨h1, h⟩ := Bool.and_eq_true_iff.mp h
  obtain ⟨h2, h⟩ := Bool.and_eq_true_iff.mp h
  obtain ⟨h3, h⟩ := Bool.and_eq_true_iff.mp h
  obtain ⟨h4, h5⟩ := Bool.and_eq_true_iff.mp h
  exact ⟨excCB_ok h1, xfB_ok h2, of_decide_eq_true h3, of_decide_eq_true h4, fun y hy => of_decide_eq_true (List.all_eq_true.mp h5 y hy)⟩
set_option maxHeartbeats 4000000 in
theorem told_suite (B : Bs lfa lfn ltf lex K mg base T) {k : Nat} {c : Str} (hc : c ∈ tnames) (cdv : Value) (A : Around) (outer : List PySem.Env) (s : Shared) (H : Hp) (a : Addr) (oe : Obj) (d : Option Addr) (pn : List (Addr × Obj)) (hr : Room k (A.deeper (envOfC "_law_told" (defScope (top 88)) s.heap.objs.size (He.ga K "_law_told") cdv))) (hz : L2N.Zn (.ref (He.ga K c)) d oe) (hf : ∃ vs, oe.data = .fields vs) :
    QSs ((cxOf (L2N.CX P w) P w K mg base N_law_told "_law_told" (defScope (top 88)) (He.ga K "_law_told") cdv A outer s H C8.E0).suite a ((a, oe) :: pn)) T E0 (trySuite (defBody (top 88))) (fS_told a d c) := by
  have hot := hot_of (X := cxOf (L2N.CX P w) P w K mg base N_law_told "_law_told" (defScope (top 88)) (He.ga K "_law_told") cdv A outer s H C8.E0) (a := a) (pn := pn) hz hf
  have hu := hu_of hr
  have hEx : ∀ c ∈ tnames, ExcC K (He.ga K c) := fun c hc => (B.nm c hc).1
  have hXf : ∀ c ∈ tnames, XfC K (He.ga K c) := fun c hc => (B.nm c hc).2.1
  have hNo : ∀ c ∈ tnames, PySem.W.findIn K (.ref (He.ga K c)) "at" = some none := fun c hc => (B.nm c hc).2.2.1
  have hKi : ∀ c ∈ tnames, ∀ y ∈ tnames, PySem.W.kitOne K (.ref (He.ga K c)) (.ref (He.ga K y)) = some (decide (y = c)) := fun c hc => (B.nm c hc).2.2.2.2
  exact (qs_cons (qs_set 2 S_law_told.nd (qe_lst (qa_cons (qe_isE (hEx _ hc) hz.zc hf rfl B.f_isinstance bt_isinstance rfl B.g_BadTrade (hKi _ hc "BadTrade" (by decide)) (qe_var 1)) (qa_cons (qe_isE (hEx _ hc) hz.zc hf rfl B.f_isinstance bt_isinstance rfl B.g_BadShape (hKi _ hc "BadShape" (by decide)) (qe_var 1)) (qa_cons (qe_isE (hEx _ hc) hz.zc hf rfl B.f_isinstance bt_isinstance rfl B.g_BadStock (hKi _ hc "BadStock" (by decide)) (qe_var 1)) (qa_cons (qe_isE (hEx _ hc) hz.zc hf rfl B.f_isinstance bt_isinstance rfl B.g_BadAsk (hKi _ hc "BadAsk" (by decide)) (qe_var 1)) (qa_cons (qe_isE (hEx _ hc) hz.zc hf rfl B.f_isinstance bt_isinstance rfl B.g_BadEvent (hKi _ hc "BadEvent" (by decide)) (qe_var 1)) (qa_cons (qe_isE (hEx _ hc) hz.zc hf rfl B.f_isinstance bt_isinstance rfl B.g_BadDesk (hKi _ hc "BadDesk" (by decide)) (qe_var 1)) (qa_cons (qe_isE (hEx _ hc) hz.zc hf rfl B.f_isinstance bt_isinstance rfl B.g_BadRule (hKi _ hc "BadRule" (by decide)) (qe_var 1)) (qa_cons (qe_isE (hEx _ hc) hz.zc hf rfl B.f_isinstance bt_isinstance rfl B.g_BadText (hKi _ hc "BadText" (by decide)) (qe_var 1)) (qa_cons (qe_isE (hEx _ hc) hz.zc hf rfl B.f_isinstance bt_isinstance rfl B.g_BadName (hKi _ hc "BadName" (by decide)) (qe_var 1)) (qa_cons (qe_isE (hEx _ hc) hz.zc hf rfl B.f_isinstance bt_isinstance rfl B.g_Taken (hKi _ hc "Taken" (by decide)) (qe_var 1)) (qa_cons (qe_isE (hEx _ hc) hz.zc hf rfl B.f_isinstance bt_isinstance rfl B.g_NoSuch (hKi _ hc "NoSuch" (by decide)) (qe_var 1)) (qa_cons (qe_isE (hEx _ hc) hz.zc hf rfl B.f_isinstance bt_isinstance rfl B.g_BadSeat (hKi _ hc "BadSeat" (by decide)) (qe_var 1)) (qa_cons (qe_isE (hEx _ hc) hz.zc hf rfl B.f_isinstance bt_isinstance rfl B.g_Occupied (hKi _ hc "Occupied" (by decide)) (qe_var 1)) (qa_cons (qe_isE (hEx _ hc) hz.zc hf rfl B.f_isinstance bt_isinstance rfl B.g_BadPick (hKi _ hc "BadPick" (by decide)) (qe_var 1)) (qa_cons (qe_isE (hEx _ hc) hz.zc hf rfl B.f_isinstance bt_isinstance rfl B.g_BadWay (hKi _ hc "BadWay" (by decide)) (qe_var 1)) (qa_cons (qe_isE (hEx _ hc) hz.zc hf rfl B.f_isinstance bt_isinstance rfl B.g_TooMany (hKi _ hc "TooMany" (by decide)) (qe_var 1)) (qa_cons (qe_isE (hEx _ hc) hz.zc hf rfl B.f_isinstance bt_isinstance rfl B.g_NoPick (hKi _ hc "NoPick" (by decide)) (qe_var 1)) (qa_cons (qe_isE (hEx _ hc) hz.zc hf rfl B.f_isinstance bt_isinstance rfl B.g_NotCalm (hKi _ hc "NotCalm" (by decide)) (qe_var 1)) (qa_cons (qe_isE (hEx _ hc) hz.zc hf rfl B.f_isinstance bt_isinstance rfl B.g_NotCounting (hKi _ hc "NotCounting" (by decide)) (qe_var 1)) qa_nil)))))))))))))))))))))
    (qs_cons (qs_set 3 S_law_told.nd qe_str)
    (qs_cons (qs_set 3 S_law_told.nd (qe_val (qf_split (qe_op qop_add (qe_var 3) qe_str) qe_str)))
    (qs_cons (qs_set 4 S_law_told.nd (qe_join qe_str (qe_val (qf_lcH [("k", 5)] List.mem_cons_self hot S_law_told.nd (qi_range1H rfl B.f_range qe_int) (blk_of rfl) (fun _ _ _ _ _ => (qg_name 5 S_law_told.nd)) (fun _ _ _ _ _ => (qts_one (qt_val (qe_ix (qe_var 2) (qe_var 5))))) (fun _ _ _ _ _ => (qe_ix (qe_var 3) (qe_var 5)))))))
    (qs_cons (qs_if (qt_cmp (qop_in hu) (qe_var 4) (qe_tup (qa_cons qe_str (qa_cons qe_str (qa_cons qe_str (qa_cons qe_str qa_nil)))))) (qs_one (qs_ret (qe_tup (qa_cons (qe_var 4) (qa_cons (qe_xat (hXf _ hc) (hNo _ hc) hz.zc hf (qe_var 1)) qa_nil))))) qs_nil)
    (qs_one (qs_ret (qe_tup (qa_cons (qe_var 4) (qa_cons qe_non qa_nil))))))))))
end Qv

/-! ## K78U -/
set_option Elab.async false
set_option linter.all false
set_option maxRecDepth 100000
set_option maxHeartbeats 4000000
namespace Qv
open PySem PySem.Spec PyProof.Rows L2
theorem isE_ok {a : Addr} {d : Option Addr} {b : Bool} {i : Nat} {ev : D} {ρ : Env} {C : Cells} (h : ρ[i]? = some (some ev)) (he : isEv a d ev = true) : eIsE a d b (eSlot i) ρ C = .ok (.bl b) C := by
  unfold eIsE eSlot
  rw [h]
  show (if isEv a d ev = true then Out.ok (D.bl b) C else .stuck) = _
  rw [if_pos he]
def fS_list (c : Str) : List D := tnames.map fun y => .bl (decide (y = c))
/-- behind the first row -/
def fS_rest (a : Addr) (d : Option Addr) : DS := (sSeq (sSet 3 (eC (.str "BadTrade BadShape BadStock BadAsk BadEvent BadDesk BadRule BadText BadName Taken NoSuch BadSeat")))
    (sSeq (sSet 3 (eVal (fSplit (eOp dAdd (eSlot 3) (eC (.str " Occupied BadPick BadWay TooMany NoPick NotCalm NotCounting"))) (eC (.str " ")))))
    (sSeq (sSet 4 (eJoin (eC (.str "")) (eVal (fComp (.nm 5) (([("k", 5)] : List (Str × Nat)).map (·.2)) (iRange1 (eC (.int 19))) (bTru (eOp dIx (eSlot 2) (eSlot 5))) (eOp dIx (eSlot 3) (eSlot 5))))))
    (sSeq (sIf (bTst (eOp dIn (eSlot 4) (eTup (aCons (eC (.str "BadStock")) (aCons (eC (.str "BadAsk")) (aCons (eC (.str "BadEvent")) (aCons (eC (.str "BadRule")) aNil))))))) (sRet (eTup (aCons (eSlot 4) (aCons (eXat a d "at" (eSlot 1)) aNil)))) sNil)
    (sRet (eTup (aCons (eSlot 4) (aCons (eC .non) aNil))))))))
theorem fS_first {a : Addr} {d : Option Addr} {c : Str} {ev : D} {ρ : Env} {C : Cells} (h : ρ[1]? = some (some ev)) (he : isEv a d ev = true) : fS_told a d c ρ C = fS_rest a d (ρ.set 2 (some (.lst (fS_list c)))) C := by
  unfold fS_told
  simp only [sSeq, sSet, eLst, aCons, aNil, isE_ok h he, Out.bind, Out.bindS]
  rfl
def fS_tail (a : Addr) (d : Option Addr) : DS := sSeq (sIf (bTst (eOp dIn (eSlot 4) (eTup (aCons (eC (.str "BadStock")) (aCons (eC (.str "BadAsk")) (aCons (eC (.str "BadEvent")) (aCons (eC (.str "BadRule")) aNil))))))) (sRet (eTup (aCons (eSlot 4) (aCons (eXat a d "at" (eSlot 1)) aNil)))) sNil)
    (sRet (eTup (aCons (eSlot 4) (aCons (eC .non) aNil))))
def tWords : List D := (Txt.split "BadTrade BadShape BadStock BadAsk BadEvent BadDesk BadRule BadText BadName Taken NoSuch BadSeat Occupied BadPick BadWay TooMany NoPick NotCalm NotCounting" " ").map D.str
def tMid (c : Str) : Prop := ∀ (a : Addr) (d : Option Addr) (ev : D) (x0 x3 x4 x5 : Option D) (C : Cells), fS_rest a d [x0, some ev, some (.lst (fS_list c)), x3, x4, x5] C = fS_tail a d [x0, some ev, some (.lst (fS_list c)), some (.lst tWords), some (.str c), x5] C
theorem tMid_all : ∀ c ∈ tnames, tMid c := by
  unfold tnames
  simp only [List.mem_cons, List.not_mem_nil, or_false]
  rintro c (h | h | h | h | h | h | h | h | h | h | h | h | h | h | h | h | h | h | h) <;> subst h <;> (intro a d ev x0 x3 x4 x5 C; with_unfolding_all rfl)
/-- is the class's field told -/
def fldB (c : Str) : Bool := c == "BadStock" || c == "BadAsk" || c == "BadEvent" || c == "BadRule"
theorem tail0 {a : Addr} {d : Option Addr} {x0 x1 x2 x3 x5 : Option D} {C : Cells} : ∀ c ∈ tnames, fldB c = false → fS_tail a d [x0, x1, x2, x3, some (.str c), x5] C = .rt (.tup [.str c, .non]) C := by
  unfold tnames
  simp only [List.mem_cons, List.not_mem_nil, or_false]
  rintro c (h | h | h | h | h | h | h | h | h | h | h | h | h | h | h | h | h | h | h) <;> subst h <;> first
    | (intro hh; exact absurd hh (by decide))
    | (intro _; with_unfolding_all rfl)
theorem tail1 {a dd : Addr} {v : V} {x0 x2 x3 x5 : Option D} {C : Cells} : ∀ c ∈ tnames, fldB c = true → fS_tail a (some dd) [x0, some (.opq (.ref a) (some (dd, .xd [("at", v)]))), x2, x3, some (.str c), x5] C = .rt (.tup [.str c, .opq v none]) C := by
  have hx : ∀ c : Str, (sRet (eTup (aCons (eSlot 4) (aCons (eXat a (some dd) "at" (eSlot 1)) aNil)))) [x0, some (.opq (.ref a) (some (dd, .xd [("at", v)]))), x2, x3, some (.str c), x5] C = .rt (.tup [.str c, .opq v none]) C := fun c => by
    simp [sRet, eTup, aCons, aNil, eSlot, eXat, Out.bind, Out.bindS, List.lookup, sizeLine_eq]
  have key : ∀ c ∈ tnames, fldB c = true → fS_tail a (some dd) [x0, some (.opq (.ref a) (some (dd, .xd [("at", v)]))), x2, x3, some (.str c), x5] C = (match (sRet (eTup (aCons (eSlot 4) (aCons (eXat a (some dd) "at" (eSlot 1)) aNil)))) [x0, some (.opq (.ref a) (some (dd, .xd [("at", v)]))), x2, x3, some (.str c), x5] C with
    | .nx ρ C => (sRet (eTup (aCons (eSlot 4) (aCons (eC .non) aNil)))) ρ C
    | o => o) := by
    unfold tnames
    simp only [List.mem_cons, List.not_mem_nil, or_false]
    rintro c (h | h | h | h | h | h | h | h | h | h | h | h | h | h | h | h | h | h | h) <;> subst h <;> first
      | (intro hh; exact absurd hh (by decide))
      | (intro _; with_unfolding_all rfl)
  intro c hc hf
  rw [key c hc hf, hx c]
theorem six {α : Type} {l : List α} (h : l.length = 6) : ∃ a b c d e f, l = [a, b, c, d, e, f] := by
  match l, h with
  | [a, b, c, d, e, f], _ => exact ⟨a, b, c, d, e, f, rfl⟩
theorem fld_eq (c : Str) : teller.fld c = if fldB c = true then some ("at" : Str) else none := by
  show (if c = "BadStock" ∨ c = "BadAsk" ∨ c = "BadEvent" ∨ c = "BadRule" then some ("at" : Str) else none) = _
  unfold fldB
  simp only [Bool.or_eq_true, beq_iff_eq, or_assoc]
theorem told_h0 : ∀ c ∈ teller.names, teller.fld c = none → ∀ a d ev ρ C, isEv a d ev = true → ρ.length = N_law_told.length → ρ[1]? = some (some ev) → fS_told a d c ρ C = .rt (.tup [.str c, .non]) C := by
  intro c hc hf a d ev ρ C he hl h1
  rw [fS_first h1 he]
  obtain ⟨x0, x1, x2, x3, x4, x5, rfl⟩ := six (show ρ.length = 6 from hl)
  cases h1
  have hb : fldB c = false := by
    rw [fld_eq] at hf
    cases h : fldB c with
    | false => rfl
    | true => rw [h] at hf; cases hf
  show fS_rest a d [x0, some ev, some (.lst (fS_list c)), x3, x4, x5] C = _
  rw [tMid_all c hc]
  exact tail0 c hc hb
theorem told_h1 : ∀ c ∈ teller.names, ∀ f, teller.fld c = some f → ∀ a dd v ρ C, ρ.length = N_law_told.length → ρ[1]? = some (some (.opq (.ref a) (some (dd, .xd [(f, v)])))) → fS_told a (some dd) c ρ C = .rt (.tup [.str c, .opq v none]) C := by
  intro c hc f hf a dd v ρ C hl h1
  have hb : fldB c = true ∧ f = "at" := by
    rw [fld_eq] at hf
    split at hf
    · cases hf; exact ⟨by assumption, rfl⟩
    · cases hf
  obtain ⟨hb, rfl⟩ := hb
  rw [fS_first h1 (by unfold isEv; simp)]
  obtain ⟨x0, x1, x2, x3, x4, x5, rfl⟩ := six (show ρ.length = 6 from hl)
  cases h1
  show fS_rest a (some dd) [x0, some (.opq (.ref a) (some (dd, .xd [("at", v)]))), some (.lst (fS_list c)), x3, x4, x5] C = _
  rw [tMid_all c hc]
  exact tail1 c hc hb
variable {P : Program} {w : World} {K : PySem.W.Frag} {mg : Str → Option Value} {base : Heap} {T : List (Addr × Str)}
theorem told_ok (B : Bs lfa lfn ltf lex K mg base T) (k : Nat) : Tells P w K mg base T k teller N_law_told "_law_told" (defScope (top 88)) (He.ga K "_law_told") (defBody (top 88)) "call" :=
  tells_of (n := "e") (ce := "FlushError") (fS := fS_told) S_law_told.nd rfl (fun _ _ _ => rfl) rfl (by decide) B.g_FlushError (fun c hc => (B.nm c hc).2.2.2.1) (fun c hc cdv A outer s H a oe d pn hr hz hf => told_suite B hc cdv A outer s H a oe d pn hr hz hf) told_h0 told_h1
theorem tellL {X : Cx} {EX : XK} (B : Bs lfa lfn ltf lex X.K X.mg X.base T) {k : Nat} {params : Arguments} {body : Expr} {scope : Scope} {f : DE} {p lpos pos : Pos} (hg : Gl X "_law_told") (i : Nat) {q : He.Defn} (hq : ltf[i]? = some q) (hql : X.env.qual = q.1 ++ ".<locals>.") (hcode : X.env.code = .ref (He.codeOf X.K q)) (hr : Room (k + 2) X.A)
    (L : LamX.LamS X.env.scope scope) (hdef : defaultsOf params X.env = ([], []))
    (hbind : ∀ (q : Str) (cl : List (Str × Addr)) (pm cv ctv : Value), bindArgs (PySem.W.kla_fn "<lambda>" q params body scope cl pm cv ctv) ⟨[], []⟩ = pure [])
    (hbody : ∀ (A : Around) (outer : List PySem.Env) (s : Shared) (H : Hp) (E : XK) (f0 c' : Addr), Room k (A.deeper (LamX.lamEnv X scope s.heap.objs.size f0 c')) → QE (lamN X A outer s H E scope f0 c') T E body f) :
    QE X T EX (.Call (.Name "_law_told" p) [.Lambda params body scope lpos] [] pos) (eTold teller f) :=
  tellR B B.d_law_told B.g__law_told (fun _ _ _ _ _ _ us hl => match us, hl with | [_], _ => rfl) S_law_told rfl (Or.inl rfl) (fun k => told_ok B k) hg i hq hql hcode hr L hdef hbind hbody
end Qv

/-! ## K78W0 -/
set_option Elab.async false
set_option linter.all false
set_option maxRecDepth 100000
set_option maxHeartbeats 1000000
/-! the walk, 0: law_k78_deal_is_a_way (printed by genwalk.py) -/
namespace Qv
open PySem PySem.Spec PyProof.Rows L2
variable {P : Program} {w : World} {K : PySem.W.Frag} {mg : Str → Option Value} {base : Heap} {T : List (Addr × Str)}
def N_is_number : List Str := ["value"]
theorem S_is_number : FnScope N_is_number ["value"] (defScope (top 32)) := ⟨rfl, rfl, rfl, by decide +kernel, rfl, by decide +kernel, by decide +kernel⟩
def F_is_number : DS := (sRet (eAnd (eMap (isiD "int") (eSlot 0)) (eMap (fun x C => (truD C x).map fun b => .bl (!b)) (eMap (isiD "bool") (eSlot 0)))))
def m_is_number : MD := runM N_is_number.length F_is_number
set_option maxHeartbeats 2000000 in
theorem ok_is_number (B : Bs lfa lfn ltf lex K mg base T) : Cal P w K mg base T "is_number" ["value"] 1 m_is_number := cal_of (k := 0) (F := F_is_number) (B.d_is_number) S_is_number B.g_is_number (fun _ _ _ _ _ _ us hl => match us, hl with | [_], _ => rfl) (fun cdv A outer s H E hr => (qs_one (qs_ret (qe_and (qe_isi rfl B.f_isinstance bt_isinstance rfl B.f_int bt_int (qe_var 0)) (qe_one (qe_not (qe_isi rfl B.f_isinstance bt_isinstance rfl B.f_bool bt_bool (qe_var 0))))))))
def N_is_word : List Str := ["value"]
theorem S_is_word : FnScope N_is_word ["value"] (defScope (top 34)) := ⟨rfl, rfl, rfl, by decide +kernel, rfl, by decide +kernel, by decide +kernel⟩
def F_is_word : DS := (sSeq (sIf (bOr (bNot (bTru (eMap (isiD "str") (eSlot 0)))) (bNot (bTst (eChain dLe dLe (eC (.int 1)) (eCall (fn1 lenD) (aCons (eSlot 0) aNil)) (eC (.int 8)))))) (sRet (eC (.bl false))) sNil)
    (sRet (eAnd (eOp dIn (eOp dIx (eSlot 0) (eC (.int 0))) (eC (.str "abcdefghijklmnopqrstuvwxyz"))) (eOp dEq (eStrip (eSlot 0) (eC (.str "abcdefghijklmnopqrstuvwxyz0123456789"))) (eC (.str ""))))))
def m_is_word : MD := runM N_is_word.length F_is_word
set_option maxHeartbeats 2000000 in
theorem ok_is_word (B : Bs lfa lfn ltf lex K mg base T) : Cal P w K mg base T "is_word" ["value"] 1 m_is_word := cal_of (k := 0) (F := F_is_word) (B.d_is_word) S_is_word B.g_is_word (fun _ _ _ _ _ _ us hl => match us, hl with | [_], _ => rfl) (fun cdv A outer s H E hr => (qs_cons (qs_if (QW.qt (qw_or (qt_not (qt_val (qe_isi rfl B.f_isinstance bt_isinstance rfl B.f_str bt_str (qe_var 0)))) (qw_or1 (qt_not (qt_chain qop_le qop_le qe_int (qe_callB qcall_len rfl B.f_len bt_len (qa_cons (qe_var 0) qa_nil)) (qe_gint rfl (B.c_MOST_SIGNS))))))) (qs_one (qs_ret qe_bl)) qs_nil)
    (qs_one (qs_ret (qe_and (qe_cmp (qop_in (hu_of hr)) (qe_ix (qe_var 0) qe_int) (qe_gstr rfl (B.c_LETTERS))) (qe_one (qe_cmp (qop_eq (hu_of hr)) (qe_strip (qe_var 0) (qe_gstr rfl (B.c_NAME_SIGNS))) qe_str)))))))
def N_are_parts : List Str := ["parts", "earlier", "part"]
theorem S_are_parts : FnScope N_are_parts ["parts", "earlier"] (defScope (top 35)) := ⟨rfl, rfl, rfl, by decide +kernel, rfl, by decide +kernel, by decide +kernel⟩
def F_are_parts : DS := (sSeq (sIf (bNot (bTru (eMap (isiD "tuple") (eSlot 0)))) (sRet (eC (.bl false))) sNil)
    (sSeq (sIf (bTst (eOp dEq (eCall (fn1 lenD) (aCons (eSlot 0) aNil)) (eC (.int 0)))) (sRet (eC (.bl true))) sNil)
    (sSeq (sIf (bNot (bTst (eChain dLe dLe (eC (.int 2)) (eCall (fn1 lenD) (aCons (eSlot 0) aNil)) (eC (.int 6))))) (sRet (eC (.bl false))) sNil)
    (sRet (eCall (fn1 allD) (aCons (eVal (fComp (.nm 2) (([("part", 2)] : List (Str × Nat)).map (·.2)) (iSeq (eSlot 0)) bYes (eOp dIn (eSlot 2) (eSlot 1)))) aNil))))))
def m_are_parts : MD := runM N_are_parts.length F_are_parts
set_option maxHeartbeats 2000000 in
theorem ok_are_parts (B : Bs lfa lfn ltf lex K mg base T) : Cal P w K mg base T "are_parts" ["parts", "earlier"] 1 m_are_parts := cal_of (k := 0) (F := F_are_parts) (B.d_are_parts) S_are_parts B.g_are_parts (fun _ _ _ _ _ _ us hl => match us, hl with | [_, _], _ => rfl) (fun cdv A outer s H E hr => (qs_cons (qs_if (qt_not (qt_val (qe_isi rfl B.f_isinstance bt_isinstance rfl B.f_tuple bt_tuple (qe_var 0)))) (qs_one (qs_ret qe_bl)) qs_nil)
    (qs_cons (qs_if (qt_cmp (qop_eq (hu_of hr)) (qe_callB qcall_len rfl B.f_len bt_len (qa_cons (qe_var 0) qa_nil)) qe_int) (qs_one (qs_ret qe_bl)) qs_nil)
    (qs_cons (qs_if (qt_not (qt_chain qop_le qop_le (qe_gint rfl (B.c_LEAST_PARTS)) (qe_callB qcall_len rfl B.f_len bt_len (qa_cons (qe_var 0) qa_nil)) (qe_gint rfl (B.c_MOST_PARTS)))) (qs_one (qs_ret qe_bl)) qs_nil)
    (qs_one (qs_ret (qe_callB (qcall_all rfl) rfl B.f_all bt_all (qa_cons (qe_val (qf_lc [("part", 2)] rfl S_are_parts.nd (qi_seq (qe_var 0)) (blk_of rfl) (fun _ _ _ _ _ => (qg_name 2 S_are_parts.nd)) (fun _ _ _ _ _ => qts_nil) (fun _ _ _ _ _ => (qe_cmp (qop_in (hu_of hr)) (qe_var 2) (qe_var 1))))) qa_nil))))))))
def N_legs_of : List Str := ["trade", "piece", "count", "start", "many", "step"]
theorem S_legs_of : FnScope N_legs_of ["trade", "piece"] (defScope (top 45)) := ⟨rfl, rfl, rfl, by decide +kernel, rfl, by decide +kernel, by decide +kernel⟩
def F_legs_of : DS := (sSeq (sSet 2 (eOp dIx (eSlot 0) (eC (.int 1))))
    (sSeq (sAsg (.tp [(.nm 3), (.nm 4)]) (eSlot 1))
    (sRet (eVal (fComp (.nm 5) (([("step", 5)] : List (Str × Nat)).map (·.2)) (iRange1 (eSlot 4)) bYes (eOp dMod (eOp dAdd (eSlot 3) (eSlot 5)) (eSlot 2)))))))
def m_legs_of : MD := runM N_legs_of.length F_legs_of
set_option maxHeartbeats 2000000 in
theorem ok_legs_of (B : Bs lfa lfn ltf lex K mg base T) : Cal P w K mg base T "legs_of" ["trade", "piece"] 1 m_legs_of := cal_of (k := 0) (F := F_legs_of) (B.d_legs_of) S_legs_of B.g_legs_of (fun _ _ _ _ _ _ us hl => match us, hl with | [_, _], _ => rfl) (fun cdv A outer s H E hr => (qs_cons (qs_set 2 S_legs_of.nd (qe_ix (qe_var 0) qe_int))
    (qs_cons (qs_asg (qe_var 1) (qg_tup rfl (qgs_cons (qg_name 3 S_legs_of.nd) (qgs_cons (qg_name 4 S_legs_of.nd) qgs_nil))))
    (qs_one (qs_ret (qe_val (qf_lc [("step", 5)] rfl S_legs_of.nd (qi_range1 rfl B.f_range (qe_var 4)) (blk_of rfl) (fun _ _ _ _ _ => (qg_name 5 S_legs_of.nd)) (fun _ _ _ _ _ => qts_nil) (fun _ _ _ _ _ => (qe_op qop_mod (qe_op qop_add (qe_var 3) (qe_var 5)) (qe_var 2))))))))))
def N_is_whole : List Str := ["trade", "piece"]
theorem S_is_whole : FnScope N_is_whole ["trade", "piece"] (defScope (top 46)) := ⟨rfl, rfl, rfl, by decide +kernel, rfl, by decide +kernel, by decide +kernel⟩
def F_is_whole : DS := (sRet (eAnd (eOp dEq (eOp dIx (eSlot 0) (eC (.int 0))) (eC (.str "round"))) (eOp dEq (eOp dIx (eSlot 1) (eC (.int 1))) (eOp dIx (eSlot 0) (eC (.int 1))))))
def m_is_whole : MD := runM N_is_whole.length F_is_whole
set_option maxHeartbeats 2000000 in
theorem ok_is_whole (B : Bs lfa lfn ltf lex K mg base T) : Cal P w K mg base T "is_whole" ["trade", "piece"] 1 m_is_whole := cal_of (k := 0) (F := F_is_whole) (B.d_is_whole) S_is_whole B.g_is_whole (fun _ _ _ _ _ _ us hl => match us, hl with | [_, _], _ => rfl) (fun cdv A outer s H E hr => (qs_one (qs_ret (qe_and (qe_cmp (qop_eq (hu_of hr)) (qe_ix (qe_var 0) qe_int) qe_str) (qe_one (qe_cmp (qop_eq (hu_of hr)) (qe_ix (qe_var 1) qe_int) (qe_ix (qe_var 0) qe_int)))))))
def N_legs_ahead : List Str := ["trade", "piece", "ask"]
theorem S_legs_ahead : FnScope N_legs_ahead ["trade", "piece", "ask"] (defScope (top 47)) := ⟨rfl, rfl, rfl, by decide +kernel, rfl, by decide +kernel, by decide +kernel⟩
def F_legs_ahead : DS := (sRet (eOp dMod (eOp dSub (eOp dIx (eSlot 2) (eC (.int 0))) (eOp dIx (eSlot 1) (eC (.int 0)))) (eOp dIx (eSlot 0) (eC (.int 1)))))
def m_legs_ahead : MD := runM N_legs_ahead.length F_legs_ahead
set_option maxHeartbeats 2000000 in
theorem ok_legs_ahead (B : Bs lfa lfn ltf lex K mg base T) : Cal P w K mg base T "legs_ahead" ["trade", "piece", "ask"] 1 m_legs_ahead := cal_of (k := 0) (F := F_legs_ahead) (B.d_legs_ahead) S_legs_ahead B.g_legs_ahead (fun _ _ _ _ _ _ us hl => match us, hl with | [_, _, _], _ => rfl) (fun cdv A outer s H E hr => (qs_one (qs_ret (qe_op qop_mod (qe_op qop_sub (qe_ix (qe_var 2) qe_int) (qe_ix (qe_var 1) qe_int)) (qe_ix (qe_var 0) qe_int)))))
def N_runs_of : List Str := ["trade", "legs", "runs", "leg", "first", "last"]
theorem S_runs_of : FnScope N_runs_of ["trade", "legs"] (defScope (top 50)) := ⟨rfl, rfl, rfl, by decide +kernel, rfl, by decide +kernel, by decide +kernel⟩
def F_runs_of : DS := (sSeq (sSet 2 (eNew (fLst aNil)))
    (sSeq (sFor (.nm 3) (iSeq (eSlot 1)) (sIf (bAnd (bTst (eOp dGt (eCall (fn1 lenD) (aCons (eSlot 2) aNil)) (eC (.int 0)))) (bTst (eOp dEq (eOp dAdd (eOp dIx (eOp dIx (eSlot 2) (eMap numNeg (eC (.int 1)))) (eC (.int 0))) (eOp dIx (eOp dIx (eSlot 2) (eMap numNeg (eC (.int 1)))) (eC (.int 1)))) (eSlot 3)))) (sStore (eSlot 2) (eMap numNeg (eC (.int 1))) (eTup (aCons (eOp dIx (eOp dIx (eSlot 2) (eMap numNeg (eC (.int 1)))) (eC (.int 0))) (aCons (eOp dAdd (eOp dIx (eOp dIx (eSlot 2) (eMap numNeg (eC (.int 1)))) (eC (.int 1))) (eC (.int 1))) aNil)))) (sDrop (eMth mAppend (eSlot 2) (aCons (eTup (aCons (eSlot 3) (aCons (eC (.int 1)) aNil))) aNil)))))
    (sSeq (sIf (bOr (bTst (eOp dEq (eOp dIx (eSlot 0) (eC (.int 0))) (eC (.str "line")))) (bTst (eOp dLt (eCall (fn1 lenD) (aCons (eSlot 2) aNil)) (eC (.int 2))))) (sRet (eFrz (eSlot 2))) sNil)
    (sSeq (sSet 4 (eOp dIx (eSlot 2) (eC (.int 0))))
    (sSeq (sSet 5 (eOp dIx (eSlot 2) (eMap numNeg (eC (.int 1)))))
    (sSeq (sIf (bOr (bTst (eOp dNe (eOp dIx (eSlot 4) (eC (.int 0))) (eC (.int 0)))) (bTst (eOp dNe (eOp dAdd (eOp dIx (eSlot 5) (eC (.int 0))) (eOp dIx (eSlot 5) (eC (.int 1)))) (eOp dIx (eSlot 0) (eC (.int 1)))))) (sRet (eFrz (eSlot 2))) sNil)
    (sRet (eOp dAdd (eSlice (eSlot 2) (oSome (eC (.int 1))) (oSome (eMap numNeg (eC (.int 1))))) (eLst (aCons (eTup (aCons (eOp dIx (eSlot 5) (eC (.int 0))) (aCons (eOp dAdd (eOp dIx (eSlot 5) (eC (.int 1))) (eOp dIx (eSlot 4) (eC (.int 1)))) aNil))) aNil))))))))))
def m_runs_of : MD := runM N_runs_of.length F_runs_of
set_option maxHeartbeats 2000000 in
theorem ok_runs_of (B : Bs lfa lfn ltf lex K mg base T) : Cal P w K mg base T "runs_of" ["trade", "legs"] 1 m_runs_of := cal_of (k := 0) (F := F_runs_of) (B.d_runs_of) S_runs_of B.g_runs_of (fun _ _ _ _ _ _ us hl => match us, hl with | [_, _], _ => rfl) (fun cdv A outer s H E hr => (qs_cons (qs_set 2 S_runs_of.nd (qe_new (qf_lst qa_nil)))
    (qs_cons (qs_for (passes_of rfl) rfl (qi_seq (qe_var 1)) (qg_name 3 S_runs_of.nd) (qs_one (qs_if (QW.qt (qw_and (qt_cmp qop_gt (qe_callB qcall_len rfl B.f_len bt_len (qa_cons (qe_var 2) qa_nil)) qe_int) (qw_and1 (qt_cmp (qop_eq (hu_of hr)) (qe_op qop_add (qe_ix (qe_ix (qe_var 2) (qe_neg qe_int)) qe_int) (qe_ix (qe_ix (qe_var 2) (qe_neg qe_int)) qe_int)) (qe_var 3))))) (qs_one (qs_store (qe_tup (qa_cons (qe_ix (qe_ix (qe_var 2) (qe_neg qe_int)) qe_int) (qa_cons (qe_op qop_add (qe_ix (qe_ix (qe_var 2) (qe_neg qe_int)) qe_int) qe_int) qa_nil))) (qe_var 2) (qe_neg qe_int))) (qs_one (qs_drop (qe_append (qe_var 2) (qa_cons (qe_tup (qa_cons (qe_var 3) (qa_cons qe_int qa_nil))) qa_nil)))))))
    (qs_cons (qs_if (QW.qt (qw_or (qt_cmp (qop_eq (hu_of hr)) (qe_ix (qe_var 0) qe_int) qe_str) (qw_or1 (qt_cmp qop_lt (qe_callB qcall_len rfl B.f_len bt_len (qa_cons (qe_var 2) qa_nil)) qe_int)))) (qs_one (qs_ret (qe_frz (qe_var 2)))) qs_nil)
    (qs_cons (qs_set 4 S_runs_of.nd (qe_ix (qe_var 2) qe_int))
    (qs_cons (qs_set 5 S_runs_of.nd (qe_ix (qe_var 2) (qe_neg qe_int)))
    (qs_cons (qs_if (QW.qt (qw_or (qt_cmp (qop_ne (hu_of hr)) (qe_ix (qe_var 4) qe_int) qe_int) (qw_or1 (qt_cmp (qop_ne (hu_of hr)) (qe_op qop_add (qe_ix (qe_var 5) qe_int) (qe_ix (qe_var 5) qe_int)) (qe_ix (qe_var 0) qe_int))))) (qs_one (qs_ret (qe_frz (qe_var 2)))) qs_nil)
    (qs_one (qs_ret (qe_op qop_add (qe_slice (qe_var 2) (qo_some qe_int) (qo_some (qe_neg qe_int))) (qe_lst (qa_cons (qe_tup (qa_cons (qe_ix (qe_var 5) qe_int) (qa_cons (qe_op qop_add (qe_ix (qe_var 5) qe_int) (qe_ix (qe_var 4) qe_int)) qa_nil))) qa_nil))))))))))))
def N_end_of : List Str := ["piece"]
theorem S_end_of : FnScope N_end_of ["piece"] (defScope (top 57)) := ⟨rfl, rfl, rfl, by decide +kernel, rfl, by decide +kernel, by decide +kernel⟩
def F_end_of : DS := (sRet (eOp dAdd (eOp dIx (eSlot 0) (eC (.int 0))) (eOp dIx (eSlot 0) (eC (.int 1)))))
def m_end_of : MD := runM N_end_of.length F_end_of
set_option maxHeartbeats 2000000 in
theorem ok_end_of (B : Bs lfa lfn ltf lex K mg base T) : Cal P w K mg base T "end_of" ["piece"] 1 m_end_of := cal_of (k := 0) (F := F_end_of) (B.d_end_of) S_end_of B.g_end_of (fun _ _ _ _ _ _ us hl => match us, hl with | [_], _ => rfl) (fun cdv A outer s H E hr => (qs_one (qs_ret (qe_op qop_add (qe_ix (qe_var 0) qe_int) (qe_ix (qe_var 0) qe_int)))))
end Qv

/-! ## K78W1 -/
set_option Elab.async false
set_option linter.all false
set_option maxRecDepth 100000
set_option maxHeartbeats 1000000
/-! the walk, 1: law_k78_deal_is_a_way (printed by genwalk.py) -/
namespace Qv
open PySem PySem.Spec PyProof.Rows L2
variable {P : Program} {w : World} {K : PySem.W.Frag} {mg : Str → Option Value} {base : Heap} {T : List (Addr × Str)}
def N_run_middle : List Str := ["pieces", "run", "begin", "end", "ends", "start", "many"]
theorem S_run_middle : FnScope N_run_middle ["pieces", "run"] (defScope (top 67)) := ⟨rfl, rfl, rfl, by decide +kernel, rfl, by decide +kernel, by decide +kernel⟩
def F_run_middle : DS := (sSeq (sSet 2 (eOp dIx (eSlot 1) (eC (.int 0))))
    (sSeq (sSet 3 (eOp dAdd (eOp dIx (eSlot 1) (eC (.int 0))) (eOp dIx (eSlot 1) (eC (.int 1)))))
    (sSeq (sSet 4 (eVal (fComp (.tp [(.nm 5), (.nm 6)]) (([("start", 5), ("many", 6)] : List (Str × Nat)).map (·.2)) (iSeq (eSlot 0)) (bAnd (bTst (eOp dGe (eSlot 5) (eSlot 2))) (bTst (eOp dLt (eOp dAdd (eSlot 5) (eSlot 6)) (eSlot 3)))) (eOp dAdd (eSlot 5) (eSlot 6)))))
    (sRet (eCall (fn1 maxD) (aCons (eOp dAdd (eLst (aCons (eSlot 2) aNil)) (eSlot 4)) aNil))))))
def m_run_middle : MD := runM N_run_middle.length F_run_middle
set_option maxHeartbeats 2000000 in
theorem ok_run_middle (B : Bs lfa lfn ltf lex K mg base T) : Cal P w K mg base T "run_middle" ["pieces", "run"] 1 m_run_middle := cal_of (k := 0) (F := F_run_middle) (B.d_run_middle) S_run_middle B.g_run_middle (fun _ _ _ _ _ _ us hl => match us, hl with | [_, _], _ => rfl) (fun cdv A outer s H E hr => (qs_cons (qs_set 2 S_run_middle.nd (qe_ix (qe_var 1) qe_int))
    (qs_cons (qs_set 3 S_run_middle.nd (qe_op qop_add (qe_ix (qe_var 1) qe_int) (qe_ix (qe_var 1) qe_int)))
    (qs_cons (qs_lc 4 [("start", 5), ("many", 6)] eVal (.inl rfl) rfl S_run_middle.nd (qi_seq (qe_var 0)) (blk_of rfl) (fun _ _ _ _ _ => (qg_tup rfl (qgs_cons (qg_name 5 S_run_middle.nd) (qgs_cons (qg_name 6 S_run_middle.nd) qgs_nil)))) (fun _ _ _ _ _ => (qts_one (QW.qt (qw_and (qt_cmp qop_ge (qe_var 5) (qe_var 2)) (qw_and1 (qt_cmp qop_lt (qe_op qop_add (qe_var 5) (qe_var 6)) (qe_var 3))))))) (fun _ _ _ _ _ => (qe_op qop_add (qe_var 5) (qe_var 6))))
    (qs_one (qs_ret (qe_callB (qcall_max rfl) rfl B.f_max bt_max (qa_cons (qe_op qop_add (qe_lst (qa_cons (qe_var 2) qa_nil)) (qe_var 4)) qa_nil))))))))
def N_deal_order : List Str := ["row", "run", "middle", "begin", "end", "inside", "index", "ask", "across", "first", "behind", "later", "earlier", "order", "below"]
theorem S_deal_order : FnScope N_deal_order ["row", "run", "middle"] (defScope (top 68)) := ⟨rfl, rfl, rfl, by decide +kernel, rfl, by decide +kernel, by decide +kernel⟩
def F_deal_order : DS := (sSeq (sSet 3 (eOp dIx (eSlot 1) (eC (.int 0))))
    (sSeq (sSet 4 (eOp dAdd (eOp dIx (eSlot 1) (eC (.int 0))) (eOp dIx (eSlot 1) (eC (.int 1)))))
    (sSeq (sSet 5 (eVal (fComp (.tp [(.nm 6), (.nm 7)]) (([("index", 6), ("ask", 7)] : List (Str × Nat)).map (·.2)) (iEnumD (eSlot 0)) (bTst (eChain dLe dLt (eSlot 3) (eOp dIx (eSlot 7) (eC (.int 0))) (eSlot 4))) (eTup (aCons (eSlot 6) (aCons (eOp dIx (eSlot 7) (eC (.int 0))) (aCons (eOp dAdd (eOp dIx (eSlot 7) (eC (.int 0))) (eOp dIx (eSlot 7) (eC (.int 1)))) aNil)))))))
    (sSeq (sSet 8 (eVal (fComp (.tp [(.nm 6), (.nm 9), (.nm 10)]) (([("index", 6), ("first", 9), ("behind", 10)] : List (Str × Nat)).map (·.2)) (iSeq (eSlot 5)) (bTst (eChain dLt dLt (eSlot 9) (eSlot 2) (eSlot 10))) (eSlot 6))))
    (sSeq (sSet 11 (eCall (fn1 sortD) (aCons (eVal (fComp (.tp [(.nm 6), (.nm 9), (.nm 10)]) (([("index", 6), ("first", 9), ("behind", 10)] : List (Str × Nat)).map (·.2)) (iSeq (eSlot 5)) (bTst (eOp dGe (eSlot 9) (eSlot 2))) (eTup (aCons (eSlot 9) (aCons (eSlot 6) aNil))))) aNil)))
    (sSeq (sSet 12 (eCall (fn1 sortD) (aCons (eVal (fComp (.tp [(.nm 6), (.nm 9), (.nm 10)]) (([("index", 6), ("first", 9), ("behind", 10)] : List (Str × Nat)).map (·.2)) (iSeq (eSlot 5)) (bTst (eOp dLe (eSlot 10) (eSlot 2))) (eTup (aCons (eMap numNeg (eSlot 10)) (aCons (eSlot 6) aNil))))) aNil)))
    (sSeq (sSet 13 (eVal (fComp (.nm 6) (([("index", 6)] : List (Str × Nat)).map (·.2)) (iSeq (eSlot 8)) bYes (eTup (aCons (eSlot 6) (aCons (eTup (aCons (eOp dSub (eSlot 2) (eC (.int 1))) (aCons (eC (.int 2)) aNil))) aNil))))))
    (sSeq (sSet 13 (eOp dAdd (eSlot 13) (eVal (fComp (.tp [(.nm 9), (.nm 6)]) (([("index", 6), ("first", 9)] : List (Str × Nat)).map (·.2)) (iSeq (eSlot 11)) bYes (eTup (aCons (eSlot 6) (aCons (eTup (aCons (eSlot 9) (aCons (eC (.int 1)) aNil))) aNil)))))))
    (sRet (eOp dAdd (eSlot 13) (eVal (fComp (.tp [(.nm 14), (.nm 6)]) (([("index", 6), ("below", 14)] : List (Str × Nat)).map (·.2)) (iSeq (eSlot 12)) bYes (eTup (aCons (eSlot 6) (aCons (eTup (aCons (eOp dSub (eMap numNeg (eSlot 14)) (eC (.int 1))) (aCons (eC (.int 1)) aNil))) aNil)))))))))))))))
def m_deal_order : MD := runM N_deal_order.length F_deal_order
set_option maxHeartbeats 2000000 in
theorem ok_deal_order (B : Bs lfa lfn ltf lex K mg base T) : Cal P w K mg base T "deal_order" ["row", "run", "middle"] 1 m_deal_order := cal_of (k := 0) (F := F_deal_order) (B.d_deal_order) S_deal_order B.g_deal_order (fun _ _ _ _ _ _ us hl => match us, hl with | [_, _, _], _ => rfl) (fun cdv A outer s H E hr => (qs_cons (qs_set 3 S_deal_order.nd (qe_ix (qe_var 1) qe_int))
    (qs_cons (qs_set 4 S_deal_order.nd (qe_op qop_add (qe_ix (qe_var 1) qe_int) (qe_ix (qe_var 1) qe_int)))
    (qs_cons (qs_lc 5 [("index", 6), ("ask", 7)] eVal (.inl rfl) rfl S_deal_order.nd (qi_enum rfl B.f_enumerate (qe_var 0)) (blk_of rfl) (fun _ _ _ _ _ => (qg_tup rfl (qgs_cons (qg_name 6 S_deal_order.nd) (qgs_cons (qg_name 7 S_deal_order.nd) qgs_nil)))) (fun _ _ _ _ _ => (qts_one (qt_chain qop_le qop_lt (qe_var 3) (qe_ix (qe_var 7) qe_int) (qe_var 4)))) (fun _ _ _ _ _ => (qe_tup (qa_cons (qe_var 6) (qa_cons (qe_ix (qe_var 7) qe_int) (qa_cons (qe_op qop_add (qe_ix (qe_var 7) qe_int) (qe_ix (qe_var 7) qe_int)) qa_nil))))))
    (qs_cons (qs_lc 8 [("index", 6), ("first", 9), ("behind", 10)] eVal (.inl rfl) rfl S_deal_order.nd (qi_seq (qe_var 5)) (blk_of rfl) (fun _ _ _ _ _ => (qg_tup rfl (qgs_cons (qg_name 6 S_deal_order.nd) (qgs_cons (qg_name 9 S_deal_order.nd) (qgs_cons (qg_name 10 S_deal_order.nd) qgs_nil))))) (fun _ _ _ _ _ => (qts_one (qt_chain qop_lt qop_lt (qe_var 9) (qe_var 2) (qe_var 10)))) (fun _ _ _ _ _ => (qe_var 6)))
    (qs_cons (qs_set 11 S_deal_order.nd (qe_callB (qcall_sorted (hu_of hr)) rfl B.f_sorted bt_sorted (qa_cons (qe_val (qf_lc [("index", 6), ("first", 9), ("behind", 10)] rfl S_deal_order.nd (qi_seq (qe_var 5)) (blk_of rfl) (fun _ _ _ _ _ => (qg_tup rfl (qgs_cons (qg_name 6 S_deal_order.nd) (qgs_cons (qg_name 9 S_deal_order.nd) (qgs_cons (qg_name 10 S_deal_order.nd) qgs_nil))))) (fun _ _ _ _ _ => (qts_one (qt_cmp qop_ge (qe_var 9) (qe_var 2)))) (fun _ _ _ _ _ => (qe_tup (qa_cons (qe_var 9) (qa_cons (qe_var 6) qa_nil)))))) qa_nil)))
    (qs_cons (qs_set 12 S_deal_order.nd (qe_callB (qcall_sorted (hu_of hr)) rfl B.f_sorted bt_sorted (qa_cons (qe_val (qf_lc [("index", 6), ("first", 9), ("behind", 10)] rfl S_deal_order.nd (qi_seq (qe_var 5)) (blk_of rfl) (fun _ _ _ _ _ => (qg_tup rfl (qgs_cons (qg_name 6 S_deal_order.nd) (qgs_cons (qg_name 9 S_deal_order.nd) (qgs_cons (qg_name 10 S_deal_order.nd) qgs_nil))))) (fun _ _ _ _ _ => (qts_one (qt_cmp qop_le (qe_var 10) (qe_var 2)))) (fun _ _ _ _ _ => (qe_tup (qa_cons (qe_neg (qe_var 10)) (qa_cons (qe_var 6) qa_nil)))))) qa_nil)))
    (qs_cons (qs_lc 13 [("index", 6)] eVal (.inl rfl) rfl S_deal_order.nd (qi_seq (qe_var 8)) (blk_of rfl) (fun _ _ _ _ _ => (qg_name 6 S_deal_order.nd)) (fun _ _ _ _ _ => qts_nil) (fun _ _ _ _ _ => (qe_tup (qa_cons (qe_var 6) (qa_cons (qe_tup (qa_cons (qe_op qop_sub (qe_var 2) qe_int) (qa_cons qe_int qa_nil))) qa_nil)))))
    (qs_cons (qs_set 13 S_deal_order.nd (qe_op qop_add (qe_var 13) (qe_val (qf_lc [("index", 6), ("first", 9)] rfl S_deal_order.nd (qi_seq (qe_var 11)) (blk_of rfl) (fun _ _ _ _ _ => (qg_tup rfl (qgs_cons (qg_name 9 S_deal_order.nd) (qgs_cons (qg_name 6 S_deal_order.nd) qgs_nil)))) (fun _ _ _ _ _ => qts_nil) (fun _ _ _ _ _ => (qe_tup (qa_cons (qe_var 6) (qa_cons (qe_tup (qa_cons (qe_var 9) (qa_cons qe_int qa_nil))) qa_nil))))))))
    (qs_one (qs_ret (qe_op qop_add (qe_var 13) (qe_val (qf_lc [("index", 6), ("below", 14)] rfl S_deal_order.nd (qi_seq (qe_var 12)) (blk_of rfl) (fun _ _ _ _ _ => (qg_tup rfl (qgs_cons (qg_name 14 S_deal_order.nd) (qgs_cons (qg_name 6 S_deal_order.nd) qgs_nil)))) (fun _ _ _ _ _ => qts_nil) (fun _ _ _ _ _ => (qe_tup (qa_cons (qe_var 6) (qa_cons (qe_tup (qa_cons (qe_op qop_sub (qe_neg (qe_var 14)) qe_int) (qa_cons qe_int qa_nil))) qa_nil))))))))))))))))))
def N_law_mix : List Str := ["seed", "step", "low", "high", "one", "two"]
theorem S_law_mix : FnScope N_law_mix ["seed", "step"] (defScope (top 73)) := ⟨rfl, rfl, rfl, by decide +kernel, rfl, by decide +kernel, by decide +kernel⟩
def F_law_mix : DS := (sSeq (sSet 2 (eOp dAdd (eOp dAdd (eOp dMod (eCall (fn1 intD) (aCons (eSlot 0) aNil)) (eC (.int 2147483647))) (eOp dMul (eOp dMod (eCall (fn1 intD) (aCons (eSlot 1) aNil)) (eC (.int 1000003))) (eC (.int 48271)))) (eC (.int 11))))
    (sSeq (sSet 3 (eOp dAdd (eOp dAdd (eOp dMod (eOp dDiv (eCall (fn1 intD) (aCons (eSlot 0) aNil)) (eC (.int 2147483647))) (eC (.int 2147483629))) (eOp dMul (eOp dMod (eCall (fn1 intD) (aCons (eSlot 1) aNil)) (eC (.int 1000003))) (eC (.int 69621)))) (eC (.int 5))))
    (sSeq (sSet 4 (eOp dMod (eCall (fn1 intD) (aCons (eOp dAdd (eOp dMul (eSlot 2) (eSlot 2)) (eOp dMul (eC (.int 40692)) (eSlot 3))) aNil)) (eC (.int 2147483647))))
    (sSeq (sSet 5 (eOp dMod (eCall (fn1 intD) (aCons (eOp dAdd (eOp dAdd (eOp dMul (eSlot 3) (eSlot 3)) (eOp dMul (eC (.int 48271)) (eSlot 4))) (eSlot 2)) aNil)) (eC (.int 2147483629))))
    (sSeq (sSet 4 (eOp dMod (eCall (fn1 intD) (aCons (eOp dAdd (eOp dAdd (eOp dMul (eSlot 4) (eSlot 4)) (eOp dMul (eC (.int 16807)) (eSlot 5))) (eSlot 3)) aNil)) (eC (.int 2147483399))))
    (sSeq (sSet 5 (eOp dMod (eCall (fn1 intD) (aCons (eOp dAdd (eOp dAdd (eOp dMul (eSlot 5) (eSlot 5)) (eOp dMul (eC (.int 39373)) (eSlot 4))) (eSlot 2)) aNil)) (eC (.int 2147483579))))
    (sRet (eOp dAdd (eOp dMul (eSlot 4) (eC (.int 2147483579))) (eSlot 5)))))))))
def m_law_mix : MD := runM N_law_mix.length F_law_mix
set_option maxHeartbeats 2000000 in
theorem ok_law_mix (B : Bs lfa lfn ltf lex K mg base T) : Cal P w K mg base T "_law_mix" ["seed", "step"] 1 m_law_mix := cal_of (k := 0) (F := F_law_mix) (B.d_law_mix) S_law_mix B.g__law_mix (fun _ _ _ _ _ _ us hl => match us, hl with | [_, _], _ => rfl) (fun cdv A outer s H E hr => (qs_cons (qs_set 2 S_law_mix.nd (qe_op qop_add (qe_op qop_add (qe_op qop_mod (qe_callTy qcall_int rfl B.f_int bt_int (qa_cons (qe_var 0) qa_nil)) qe_int) (qe_op qop_mul (qe_op qop_mod (qe_callTy qcall_int rfl B.f_int bt_int (qa_cons (qe_var 1) qa_nil)) qe_int) qe_int)) qe_int))
    (qs_cons (qs_set 3 S_law_mix.nd (qe_op qop_add (qe_op qop_add (qe_op qop_mod (qe_op qop_div (qe_callTy qcall_int rfl B.f_int bt_int (qa_cons (qe_var 0) qa_nil)) qe_int) qe_int) (qe_op qop_mul (qe_op qop_mod (qe_callTy qcall_int rfl B.f_int bt_int (qa_cons (qe_var 1) qa_nil)) qe_int) qe_int)) qe_int))
    (qs_cons (qs_set 4 S_law_mix.nd (qe_op qop_mod (qe_callTy qcall_int rfl B.f_int bt_int (qa_cons (qe_op qop_add (qe_op qop_mul (qe_var 2) (qe_var 2)) (qe_op qop_mul qe_int (qe_var 3))) qa_nil)) qe_int))
    (qs_cons (qs_set 5 S_law_mix.nd (qe_op qop_mod (qe_callTy qcall_int rfl B.f_int bt_int (qa_cons (qe_op qop_add (qe_op qop_add (qe_op qop_mul (qe_var 3) (qe_var 3)) (qe_op qop_mul qe_int (qe_var 4))) (qe_var 2)) qa_nil)) qe_int))
    (qs_cons (qs_set 4 S_law_mix.nd (qe_op qop_mod (qe_callTy qcall_int rfl B.f_int bt_int (qa_cons (qe_op qop_add (qe_op qop_add (qe_op qop_mul (qe_var 4) (qe_var 4)) (qe_op qop_mul qe_int (qe_var 5))) (qe_var 3)) qa_nil)) qe_int))
    (qs_cons (qs_set 5 S_law_mix.nd (qe_op qop_mod (qe_callTy qcall_int rfl B.f_int bt_int (qa_cons (qe_op qop_add (qe_op qop_add (qe_op qop_mul (qe_var 5) (qe_var 5)) (qe_op qop_mul qe_int (qe_var 4))) (qe_var 2)) qa_nil)) qe_int))
    (qs_one (qs_ret (qe_op qop_add (qe_op qop_mul (qe_var 4) qe_int) (qe_var 5)))))))))))
def N_law_store : List Str := ["script", "cells", "cell", "seed"]
theorem S_law_store : FnScope N_law_store ["script"] (defScope (top 74)) := ⟨rfl, rfl, rfl, by decide +kernel, rfl, by decide +kernel, by decide +kernel⟩
def F_law_store : DS := (sSeq (sSet 1 (eVal (fComp (.nm 2) (([("cell", 2)] : List (Str × Nat)).map (·.2)) (iSeq (eSlot 0)) bYes (eCall (fn1 intD) (aCons (eSlot 2) aNil)))))
    (sSeq (sSet 3 (eOp dAdd (eC (.int 17)) (eCall (fn1 lenD) (aCons (eSlot 1) aNil))))
    (sSeq (sFor (.nm 2) (iSeq (eSlot 1)) (sSet 3 (eOp dMod (eCall (fn1 intD) (aCons (eOp dAdd (eOp dAdd (eOp dMul (eSlot 3) (eC (.int 1000003))) (eOp dMod (eSlot 2) (eC (.int 2305843009213693951)))) (eC (.int 1))) aNil)) (eC (.int 2305843009213693951)))))
    (sRet (eNew (fLst (aCons (eSlot 1) (aCons (eC (.int 0)) (aCons (eC (.int 0)) (aCons (eC (.int 0)) (aCons (eSlot 3) aNil)))))))))))
def m_law_store : MD := runM N_law_store.length F_law_store
set_option maxHeartbeats 2000000 in
theorem ok_law_store (B : Bs lfa lfn ltf lex K mg base T) : Cal P w K mg base T "_law_store" ["script"] 1 m_law_store := cal_of (k := 0) (F := F_law_store) (B.d_law_store) S_law_store B.g__law_store (fun _ _ _ _ _ _ us hl => match us, hl with | [_], _ => rfl) (fun cdv A outer s H E hr => (qs_cons (qs_lc 1 [("cell", 2)] eVal (.inl rfl) rfl S_law_store.nd (qi_seq (qe_var 0)) (blk_of rfl) (fun _ _ _ _ _ => (qg_name 2 S_law_store.nd)) (fun _ _ _ _ _ => qts_nil) (fun _ _ _ _ _ => (qe_callTy qcall_int rfl B.f_int bt_int (qa_cons (qe_var 2) qa_nil))))
    (qs_cons (qs_set 3 S_law_store.nd (qe_op qop_add qe_int (qe_callB qcall_len rfl B.f_len bt_len (qa_cons (qe_var 1) qa_nil))))
    (qs_cons (qs_for (passes_of rfl) rfl (qi_seq (qe_var 1)) (qg_name 2 S_law_store.nd) (qs_one (qs_set 3 S_law_store.nd (qe_op qop_mod (qe_callTy qcall_int rfl B.f_int bt_int (qa_cons (qe_op qop_add (qe_op qop_add (qe_op qop_mul (qe_var 3) qe_int) (qe_op qop_mod (qe_var 2) qe_int)) qe_int) qa_nil)) qe_int))))
    (qs_one (qs_ret (qe_new (qf_lst (qa_cons (qe_var 1) (qa_cons qe_int (qa_cons qe_int (qa_cons qe_int (qa_cons (qe_var 3) qa_nil)))))))))))))
def N_law_is_number : List Str := ["value"]
theorem S_law_is_number : FnScope N_law_is_number ["value"] (defScope (top 83)) := ⟨rfl, rfl, rfl, by decide +kernel, rfl, by decide +kernel, by decide +kernel⟩
def F_law_is_number : DS := (sRet (eAnd (eMap (isiD "int") (eSlot 0)) (eMap (fun x C => (truD C x).map fun b => .bl (!b)) (eMap (isiD "bool") (eSlot 0)))))
def m_law_is_number : MD := runM N_law_is_number.length F_law_is_number
set_option maxHeartbeats 2000000 in
theorem ok_law_is_number (B : Bs lfa lfn ltf lex K mg base T) : Cal P w K mg base T "_law_is_number" ["value"] 1 m_law_is_number := cal_of (k := 0) (F := F_law_is_number) (B.d_law_is_number) S_law_is_number B.g__law_is_number (fun _ _ _ _ _ _ us hl => match us, hl with | [_], _ => rfl) (fun cdv A outer s H E hr => (qs_one (qs_ret (qe_and (qe_isi rfl B.f_isinstance bt_isinstance rfl B.f_int bt_int (qe_var 0)) (qe_one (qe_not (qe_isi rfl B.f_isinstance bt_isinstance rfl B.f_bool bt_bool (qe_var 0))))))))
def N_law_legs : List Str := ["trade", "piece", "k"]
theorem S_law_legs : FnScope N_law_legs ["trade", "piece"] (defScope (top 85)) := ⟨rfl, rfl, rfl, by decide +kernel, rfl, by decide +kernel, by decide +kernel⟩
def F_law_legs : DS := (sRet (eVal (fComp (.nm 2) (([("k", 2)] : List (Str × Nat)).map (·.2)) (iRange1 (eOp dIx (eSlot 1) (eC (.int 1)))) bYes (eOp dMod (eCall (fn1 intD) (aCons (eOp dAdd (eOp dIx (eSlot 1) (eC (.int 0))) (eSlot 2)) aNil)) (eOp dIx (eSlot 0) (eC (.int 1)))))))
def m_law_legs : MD := runM N_law_legs.length F_law_legs
set_option maxHeartbeats 2000000 in
theorem ok_law_legs (B : Bs lfa lfn ltf lex K mg base T) : Cal P w K mg base T "_law_legs" ["trade", "piece"] 1 m_law_legs := cal_of (k := 0) (F := F_law_legs) (B.d_law_legs) S_law_legs B.g__law_legs (fun _ _ _ _ _ _ us hl => match us, hl with | [_, _], _ => rfl) (fun cdv A outer s H E hr => (qs_one (qs_ret (qe_val (qf_lc [("k", 2)] rfl S_law_legs.nd (qi_range1 rfl B.f_range (qe_ix (qe_var 1) qe_int)) (blk_of rfl) (fun _ _ _ _ _ => (qg_name 2 S_law_legs.nd)) (fun _ _ _ _ _ => qts_nil) (fun _ _ _ _ _ => (qe_op qop_mod (qe_callTy qcall_int rfl B.f_int bt_int (qa_cons (qe_op qop_add (qe_ix (qe_var 1) qe_int) (qe_var 2)) qa_nil)) (qe_ix (qe_var 0) qe_int))))))))
def N_law_no_count : List Str := ["trade", "piece", "first", "many", "bad"]
theorem S_law_no_count : FnScope N_law_no_count ["trade", "piece"] (defScope (top 96)) := ⟨rfl, rfl, rfl, by decide +kernel, rfl, by decide +kernel, by decide +kernel⟩
def F_law_no_count : DS := (sSeq (sAsg (.tp [(.nm 2), (.nm 3)]) (eSlot 1))
    (sSeq (sSet 4 (eNew (fLst aNil)))
    (sSeq (sIf (bTst (eOp dLt (eOp dAdd (eSlot 2) (eSlot 3)) (eOp dIx (eSlot 0) (eC (.int 1))))) (sSeq (sSet 4 (eNew (fCat (eSlot 4) (eLst (aCons (eTup (aCons (eOp dAdd (eSlot 2) (eSlot 3)) (aCons (eOp dSub (eOp dSub (eOp dIx (eSlot 0) (eC (.int 1))) (eSlot 2)) (eSlot 3)) aNil))) (aCons (eTup (aCons (eOp dAdd (eSlot 2) (eSlot 3)) (aCons (eC (.int 1)) aNil))) aNil))))))
    (sIf (bTst (eOp dGt (eSlot 3) (eC (.int 1)))) (sDrop (eMth mAppend (eSlot 4) (aCons (eTup (aCons (eOp dAdd (eSlot 2) (eC (.int 1))) (aCons (eSlot 3) aNil))) aNil))) sNil)) sNil)
    (sSeq (sIf (bTst (eOp dGt (eSlot 2) (eC (.int 0)))) (sSet 4 (eNew (fCat (eSlot 4) (eLst (aCons (eTup (aCons (eOp dSub (eSlot 2) (eC (.int 1))) (aCons (eC (.int 1)) aNil))) (aCons (eTup (aCons (eC (.int 0)) (aCons (eSlot 2) aNil))) aNil)))))) sNil)
    (sSeq (sIf (bTst (eOp dGt (eSlot 3) (eC (.int 2)))) (sDrop (eMth mAppend (eSlot 4) (aCons (eTup (aCons (eOp dAdd (eSlot 2) (eC (.int 1))) (aCons (eOp dSub (eSlot 3) (eC (.int 2))) aNil))) aNil))) sNil)
    (sRet (eFrz (eSlot 4))))))))
def m_law_no_count : MD := runM N_law_no_count.length F_law_no_count
set_option maxHeartbeats 2000000 in
theorem ok_law_no_count (B : Bs lfa lfn ltf lex K mg base T) : Cal P w K mg base T "_law_no_count" ["trade", "piece"] 1 m_law_no_count := cal_of (k := 0) (F := F_law_no_count) (B.d_law_no_count) S_law_no_count B.g__law_no_count (fun _ _ _ _ _ _ us hl => match us, hl with | [_, _], _ => rfl) (fun cdv A outer s H E hr => (qs_cons (qs_asg (qe_var 1) (qg_tup rfl (qgs_cons (qg_name 2 S_law_no_count.nd) (qgs_cons (qg_name 3 S_law_no_count.nd) qgs_nil))))
    (qs_cons (qs_set 4 S_law_no_count.nd (qe_new (qf_lst qa_nil)))
    (qs_cons (qs_if (qt_cmp qop_lt (qe_op qop_add (qe_var 2) (qe_var 3)) (qe_ix (qe_var 0) qe_int)) (qs_cons (qs_set 4 S_law_no_count.nd (qe_new (qf_cat (qe_var 4) (qe_lst (qa_cons (qe_tup (qa_cons (qe_op qop_add (qe_var 2) (qe_var 3)) (qa_cons (qe_op qop_sub (qe_op qop_sub (qe_ix (qe_var 0) qe_int) (qe_var 2)) (qe_var 3)) qa_nil))) (qa_cons (qe_tup (qa_cons (qe_op qop_add (qe_var 2) (qe_var 3)) (qa_cons qe_int qa_nil))) qa_nil))))))
    (qs_one (qs_if (qt_cmp qop_gt (qe_var 3) qe_int) (qs_one (qs_drop (qe_append (qe_var 4) (qa_cons (qe_tup (qa_cons (qe_op qop_add (qe_var 2) qe_int) (qa_cons (qe_var 3) qa_nil))) qa_nil)))) qs_nil))) qs_nil)
    (qs_cons (qs_if (qt_cmp qop_gt (qe_var 2) qe_int) (qs_one (qs_set 4 S_law_no_count.nd (qe_new (qf_cat (qe_var 4) (qe_lst (qa_cons (qe_tup (qa_cons (qe_op qop_sub (qe_var 2) qe_int) (qa_cons qe_int qa_nil))) (qa_cons (qe_tup (qa_cons qe_int (qa_cons (qe_var 2) qa_nil))) qa_nil))))))) qs_nil)
    (qs_cons (qs_if (qt_cmp qop_gt (qe_var 3) qe_int) (qs_one (qs_drop (qe_append (qe_var 4) (qa_cons (qe_tup (qa_cons (qe_op qop_add (qe_var 2) qe_int) (qa_cons (qe_op qop_sub (qe_var 3) qe_int) qa_nil))) qa_nil)))) qs_nil)
    (qs_one (qs_ret (qe_frz (qe_var 4))))))))))
def N_is_between : List Str := ["value", "least", "most"]
theorem S_is_between : FnScope N_is_between ["value", "least", "most"] (defScope (top 33)) := ⟨rfl, rfl, rfl, by decide +kernel, rfl, by decide +kernel, by decide +kernel⟩
def F_is_between : DS := (sRet (eAnd (eCallP 1 m_is_number (aCons (eSlot 0) aNil)) (eChain dLe dLe (eSlot 1) (eSlot 0) (eSlot 2))))
def m_is_between : MD := runM N_is_between.length F_is_between
set_option maxHeartbeats 2000000 in
theorem ok_is_between (B : Bs lfa lfn ltf lex K mg base T) : Cal P w K mg base T "is_between" ["value", "least", "most"] 2 m_is_between := cal_of (k := 1) (F := F_is_between) (B.d_is_between) S_is_between B.g_is_between (fun _ _ _ _ _ _ us hl => match us, hl with | [_, _, _], _ => rfl) (fun cdv A outer s H E hr => (qs_one (qs_ret (qe_and (qe_cP (ok_is_number B) hr (by decide) rfl (L2N.passes_call (L2N.takes_of rfl rfl rfl rfl) (fun _ _ _ _ h => h)) (qa_cons (qe_var 0) qa_nil)) (qe_one (qe_chain qop_le qop_le (qe_var 1) (qe_var 0) (qe_var 2)))))))
end Qv

/-! ## K78W2 -/
set_option Elab.async false
set_option linter.all false
set_option maxRecDepth 100000
set_option maxHeartbeats 1000000
/-! the walk, 2: law_k78_deal_is_a_way (printed by genwalk.py) -/
namespace Qv
open PySem PySem.Spec PyProof.Rows L2
variable {P : Program} {w : World} {K : PySem.W.Frag} {mg : Str → Option Value} {base : Heap} {T : List (Addr × Str)}
def N_are_rules : List Str := ["rules", "earlier", "pair", "kind", "parts"]
theorem S_are_rules : FnScope N_are_rules ["rules"] (defScope (top 36)) := ⟨rfl, rfl, rfl, by decide +kernel, rfl, by decide +kernel, by decide +kernel⟩
def F_are_rules : DS := (sSeq (sIf (bOr (bNot (bTru (eMap (isiD "tuple") (eSlot 0)))) (bNot (bTst (eChain dLe dLe (eC (.int 1)) (eCall (fn1 lenD) (aCons (eSlot 0) aNil)) (eC (.int 12)))))) (sRet (eC (.bl false))) sNil)
    (sSeq (sSet 1 (eNew (fLst aNil)))
    (sSeq (sFor (.nm 2) (iSeq (eSlot 0)) (sSeq (sIf (bOr (bNot (bTru (eMap (isiD "tuple") (eSlot 2)))) (bTst (eOp dNe (eCall (fn1 lenD) (aCons (eSlot 2) aNil)) (eC (.int 2))))) (sRet (eC (.bl false))) sNil)
    (sSeq (sAsg (.tp [(.nm 3), (.nm 4)]) (eSlot 2))
    (sSeq (sIf (bOr (bNot (bTru (eCallP 1 m_is_word (aCons (eSlot 3) aNil)))) (bOr (bTst (eOp dIn (eSlot 3) (eSlot 1))) (bNot (bTru (eCallV 2 m_are_parts (aCons (eSlot 4) (aCons (eSlot 1) aNil))))))) (sRet (eC (.bl false))) sNil)
    (sDrop (eMth mAppend (eSlot 1) (aCons (eSlot 3) aNil)))))))
    (sRet (eC (.bl true))))))
def m_are_rules : MD := runM N_are_rules.length F_are_rules
set_option maxHeartbeats 2000000 in
theorem ok_are_rules (B : Bs lfa lfn ltf lex K mg base T) : Cal P w K mg base T "are_rules" ["rules"] 2 m_are_rules := cal_of (k := 1) (F := F_are_rules) (B.d_are_rules) S_are_rules B.g_are_rules (fun _ _ _ _ _ _ us hl => match us, hl with | [_], _ => rfl) (fun cdv A outer s H E hr => (qs_cons (qs_if (QW.qt (qw_or (qt_not (qt_val (qe_isi rfl B.f_isinstance bt_isinstance rfl B.f_tuple bt_tuple (qe_var 0)))) (qw_or1 (qt_not (qt_chain qop_le qop_le qe_int (qe_callB qcall_len rfl B.f_len bt_len (qa_cons (qe_var 0) qa_nil)) (qe_gint rfl (B.c_MOST_KINDS))))))) (qs_one (qs_ret qe_bl)) qs_nil)
    (qs_cons (qs_set 1 S_are_rules.nd (qe_new (qf_lst qa_nil)))
    (qs_cons (qs_for (passes_of rfl) rfl (qi_seq (qe_var 0)) (qg_name 2 S_are_rules.nd) (qs_cons (qs_if (QW.qt (qw_or (qt_not (qt_val (qe_isi rfl B.f_isinstance bt_isinstance rfl B.f_tuple bt_tuple (qe_var 2)))) (qw_or1 (qt_cmp (qop_ne (hu_of hr)) (qe_callB qcall_len rfl B.f_len bt_len (qa_cons (qe_var 2) qa_nil)) qe_int)))) (qs_one (qs_ret qe_bl)) qs_nil)
    (qs_cons (qs_asg (qe_var 2) (qg_tup rfl (qgs_cons (qg_name 3 S_are_rules.nd) (qgs_cons (qg_name 4 S_are_rules.nd) qgs_nil))))
    (qs_cons (qs_if (QW.qt (qw_or (qt_not (qt_val (qe_cP (ok_is_word B) hr (by decide) rfl (L2N.passes_call (L2N.takes_of rfl rfl rfl rfl) (fun _ _ _ _ h => h)) (qa_cons (qe_var 3) qa_nil)))) (qw_or (qt_cmp (qop_in (hu_of hr)) (qe_var 3) (qe_var 1)) (qw_or1 (qt_not (qt_val (qe_cV (ok_are_parts B) hr (by decide) rfl (L2N.passes_call (L2N.takes_of rfl rfl rfl rfl) (fun _ _ _ _ h => h)) (qa_cons (qe_var 4) (qa_cons (qe_var 1) qa_nil))))))))) (qs_one (qs_ret qe_bl)) qs_nil)
    (qs_one (qs_drop (qe_append (qe_var 1) (qa_cons (qe_var 3) qa_nil))))))))
    (qs_one (qs_ret qe_bl))))))
def N_is_stretch : List Str := ["trade", "thing", "first", "legs", "shape", "most"]
theorem S_is_stretch : FnScope N_is_stretch ["trade", "thing"] (defScope (top 38)) := ⟨rfl, rfl, rfl, by decide +kernel, rfl, by decide +kernel, by decide +kernel⟩
def F_is_stretch : DS := (sSeq (sIf (bOr (bNot (bTru (eMap (isiD "tuple") (eSlot 1)))) (bTst (eOp dNe (eCall (fn1 lenD) (aCons (eSlot 1) aNil)) (eC (.int 2))))) (sRet (eC (.bl false))) sNil)
    (sSeq (sAsg (.tp [(.nm 2), (.nm 3)]) (eSlot 1))
    (sSeq (sIf (bOr (bNot (bTru (eCallP 1 m_is_number (aCons (eSlot 2) aNil)))) (bNot (bTru (eCallP 1 m_is_number (aCons (eSlot 3) aNil))))) (sRet (eC (.bl false))) sNil)
    (sSeq (sAsg (.tp [(.nm 4), (.nm 5)]) (eSlot 0))
    (sSeq (sIf (bTst (eOp dEq (eSlot 4) (eC (.str "line")))) (sRet (eAnd (eOp dLe (eC (.int 0)) (eSlot 2)) (eAnd (eOp dLe (eC (.int 1)) (eSlot 3)) (eOp dLe (eOp dAdd (eSlot 2) (eSlot 3)) (eSlot 5))))) sNil)
    (sSeq (sIf (bTst (eOp dEq (eSlot 3) (eSlot 5))) (sRet (eOp dEq (eSlot 2) (eC (.int 0)))) sNil)
    (sRet (eAnd (eChain dLe dLt (eC (.int 0)) (eSlot 2) (eSlot 5)) (eChain dLe dLt (eC (.int 1)) (eSlot 3) (eSlot 5))))))))))
def m_is_stretch : MD := runM N_is_stretch.length F_is_stretch
set_option maxHeartbeats 2000000 in
theorem ok_is_stretch (B : Bs lfa lfn ltf lex K mg base T) : Cal P w K mg base T "is_stretch" ["trade", "thing"] 2 m_is_stretch := cal_of (k := 1) (F := F_is_stretch) (B.d_is_stretch) S_is_stretch B.g_is_stretch (fun _ _ _ _ _ _ us hl => match us, hl with | [_, _], _ => rfl) (fun cdv A outer s H E hr => (qs_cons (qs_if (QW.qt (qw_or (qt_not (qt_val (qe_isi rfl B.f_isinstance bt_isinstance rfl B.f_tuple bt_tuple (qe_var 1)))) (qw_or1 (qt_cmp (qop_ne (hu_of hr)) (qe_callB qcall_len rfl B.f_len bt_len (qa_cons (qe_var 1) qa_nil)) qe_int)))) (qs_one (qs_ret qe_bl)) qs_nil)
    (qs_cons (qs_asg (qe_var 1) (qg_tup rfl (qgs_cons (qg_name 2 S_is_stretch.nd) (qgs_cons (qg_name 3 S_is_stretch.nd) qgs_nil))))
    (qs_cons (qs_if (QW.qt (qw_or (qt_not (qt_val (qe_cP (ok_is_number B) hr (by decide) rfl (L2N.passes_call (L2N.takes_of rfl rfl rfl rfl) (fun _ _ _ _ h => h)) (qa_cons (qe_var 2) qa_nil)))) (qw_or1 (qt_not (qt_val (qe_cP (ok_is_number B) hr (by decide) rfl (L2N.passes_call (L2N.takes_of rfl rfl rfl rfl) (fun _ _ _ _ h => h)) (qa_cons (qe_var 3) qa_nil))))))) (qs_one (qs_ret qe_bl)) qs_nil)
    (qs_cons (qs_asg (qe_var 0) (qg_tup rfl (qgs_cons (qg_name 4 S_is_stretch.nd) (qgs_cons (qg_name 5 S_is_stretch.nd) qgs_nil))))
    (qs_cons (qs_if (qt_cmp (qop_eq (hu_of hr)) (qe_var 4) qe_str) (qs_one (qs_ret (qe_and (qe_cmp qop_le qe_int (qe_var 2)) (qe_and (qe_cmp qop_le qe_int (qe_var 3)) (qe_one (qe_cmp qop_le (qe_op qop_add (qe_var 2) (qe_var 3)) (qe_var 5))))))) qs_nil)
    (qs_cons (qs_if (qt_cmp (qop_eq (hu_of hr)) (qe_var 3) (qe_var 5)) (qs_one (qs_ret (qe_cmp (qop_eq (hu_of hr)) (qe_var 2) qe_int))) qs_nil)
    (qs_one (qs_ret (qe_and (qe_chain qop_le qop_lt qe_int (qe_var 2) (qe_var 5)) (qe_one (qe_chain qop_le qop_lt qe_int (qe_var 3) (qe_var 5)))))))))))))
def N_holds : List Str := ["trade", "piece", "ask"]
theorem S_holds : FnScope N_holds ["trade", "piece", "ask"] (defScope (top 48)) := ⟨rfl, rfl, rfl, by decide +kernel, rfl, by decide +kernel, by decide +kernel⟩
def F_holds : DS := (sSeq (sIf (bTru (eCallP 2 m_is_whole (aCons (eSlot 0) (aCons (eSlot 1) aNil)))) (sRet (eC (.bl true))) sNil)
    (sRet (eOp dLe (eOp dAdd (eCallP 3 m_legs_ahead (aCons (eSlot 0) (aCons (eSlot 1) (aCons (eSlot 2) aNil)))) (eOp dIx (eSlot 2) (eC (.int 1)))) (eOp dIx (eSlot 1) (eC (.int 1))))))
def m_holds : MD := runM N_holds.length F_holds
set_option maxHeartbeats 2000000 in
theorem ok_holds (B : Bs lfa lfn ltf lex K mg base T) : Cal P w K mg base T "holds" ["trade", "piece", "ask"] 2 m_holds := cal_of (k := 1) (F := F_holds) (B.d_holds) S_holds B.g_holds (fun _ _ _ _ _ _ us hl => match us, hl with | [_, _, _], _ => rfl) (fun cdv A outer s H E hr => (qs_cons (qs_if (qt_val (qe_cP (ok_is_whole B) hr (by decide) rfl (L2N.passes_call (L2N.takes_of rfl rfl rfl rfl) (fun _ _ _ _ h => h)) (qa_cons (qe_var 0) (qa_cons (qe_var 1) qa_nil)))) (qs_one (qs_ret qe_bl)) qs_nil)
    (qs_one (qs_ret (qe_cmp qop_le (qe_op qop_add (qe_cP (ok_legs_ahead B) hr (by decide) rfl (L2N.passes_call (L2N.takes_of rfl rfl rfl rfl) (fun _ _ _ _ h => h)) (qa_cons (qe_var 0) (qa_cons (qe_var 1) (qa_cons (qe_var 2) qa_nil)))) (qe_ix (qe_var 2) qe_int)) (qe_ix (qe_var 1) qe_int))))))
def N_shares : List Str := ["trade", "piece", "other"]
theorem S_shares : FnScope N_shares ["trade", "piece", "other"] (defScope (top 49)) := ⟨rfl, rfl, rfl, by decide +kernel, rfl, by decide +kernel, by decide +kernel⟩
def F_shares : DS := (sSeq (sIf (bTst (eOp dLt (eCallP 3 m_legs_ahead (aCons (eSlot 0) (aCons (eSlot 1) (aCons (eSlot 2) aNil)))) (eOp dIx (eSlot 1) (eC (.int 1))))) (sRet (eC (.bl true))) sNil)
    (sRet (eOp dLt (eCallP 3 m_legs_ahead (aCons (eSlot 0) (aCons (eSlot 2) (aCons (eSlot 1) aNil)))) (eOp dIx (eSlot 2) (eC (.int 1))))))
def m_shares : MD := runM N_shares.length F_shares
set_option maxHeartbeats 2000000 in
theorem ok_shares (B : Bs lfa lfn ltf lex K mg base T) : Cal P w K mg base T "shares" ["trade", "piece", "other"] 2 m_shares := cal_of (k := 1) (F := F_shares) (B.d_shares) S_shares B.g_shares (fun _ _ _ _ _ _ us hl => match us, hl with | [_, _, _], _ => rfl) (fun cdv A outer s H E hr => (qs_cons (qs_if (qt_cmp qop_lt (qe_cP (ok_legs_ahead B) hr (by decide) rfl (L2N.passes_call (L2N.takes_of rfl rfl rfl rfl) (fun _ _ _ _ h => h)) (qa_cons (qe_var 0) (qa_cons (qe_var 1) (qa_cons (qe_var 2) qa_nil)))) (qe_ix (qe_var 1) qe_int)) (qs_one (qs_ret qe_bl)) qs_nil)
    (qs_one (qs_ret (qe_cmp qop_lt (qe_cP (ok_legs_ahead B) hr (by decide) rfl (L2N.passes_call (L2N.takes_of rfl rfl rfl rfl) (fun _ _ _ _ h => h)) (qa_cons (qe_var 0) (qa_cons (qe_var 2) (qa_cons (qe_var 1) qa_nil)))) (qe_ix (qe_var 2) qe_int))))))
def N_free_legs : List Str := ["trade", "stock", "counts", "leg", "piece"]
theorem S_free_legs : FnScope N_free_legs ["trade", "stock"] (defScope (top 52)) := ⟨rfl, rfl, rfl, by decide +kernel, rfl, by decide +kernel, by decide +kernel⟩
def F_free_legs : DS := (sSeq (sSet 2 (eNew (fComp (.nm 3) (([("leg", 3)] : List (Str × Nat)).map (·.2)) (iRange1 (eOp dIx (eSlot 0) (eC (.int 1)))) bYes (eC (.int 0)))))
    (sSeq (sFor (.nm 4) (iSeq (eSlot 1)) (sFor (.nm 3) (iSeq (eCallP 2 m_legs_of (aCons (eSlot 0) (aCons (eSlot 4) aNil)))) (sAug (fun a b => a + b) (eSlot 2) (eSlot 3) (eC (.int 1)))))
    (sRet (eFrz (eSlot 2)))))
def m_free_legs : MD := runM N_free_legs.length F_free_legs
set_option maxHeartbeats 2000000 in
theorem ok_free_legs (B : Bs lfa lfn ltf lex K mg base T) : Cal P w K mg base T "free_legs" ["trade", "stock"] 2 m_free_legs := cal_of (k := 1) (F := F_free_legs) (B.d_free_legs) S_free_legs B.g_free_legs (fun _ _ _ _ _ _ us hl => match us, hl with | [_, _], _ => rfl) (fun cdv A outer s H E hr => (qs_cons (qs_lc 2 [("leg", 3)] eNew (.inr rfl) rfl S_free_legs.nd (qi_range1 rfl B.f_range (qe_ix (qe_var 0) qe_int)) (blk_of rfl) (fun _ _ _ _ _ => (qg_name 3 S_free_legs.nd)) (fun _ _ _ _ _ => qts_nil) (fun _ _ _ _ _ => qe_int))
    (qs_cons (qs_for (passes_of rfl) rfl (qi_seq (qe_var 1)) (qg_name 4 S_free_legs.nd) (qs_one (qs_for (passes_of rfl) rfl (qi_seq (qe_cP (ok_legs_of B) hr (by decide) rfl (L2N.passes_call (L2N.takes_of rfl rfl rfl rfl) (fun _ _ _ _ h => h)) (qa_cons (qe_var 0) (qa_cons (qe_var 4) qa_nil)))) (qg_name 3 S_free_legs.nd) (qs_one (qs_augAdd (qe_var 2) (qe_var 3) qe_int)))))
    (qs_one (qs_ret (qe_frz (qe_var 2)))))))
def N_law_take : List Str := ["store", "many", "step", "digit", "cell"]
theorem S_law_take : FnScope N_law_take ["store", "many"] (defScope (top 75)) := ⟨rfl, rfl, rfl, by decide +kernel, rfl, by decide +kernel, by decide +kernel⟩
def F_law_take : DS := (sSeq (sSet 2 (eOp dIx (eSlot 0) (eC (.int 3))))
    (sSeq (sStore (eSlot 0) (eC (.int 3)) (eOp dAdd (eSlot 2) (eC (.int 1))))
    (sSeq (sIf (bTst (eOp dLt (eSlot 1) (eC (.int 2)))) (sRet (eC (.int 0))) sNil)
    (sSeq (sIf (bTst (eOp dGe (eOp dIx (eSlot 0) (eC (.int 2))) (eSlot 1))) (sSeq (sSet 3 (eOp dMod (eCall (fn1 intD) (aCons (eOp dIx (eSlot 0) (eC (.int 2))) aNil)) (eSlot 1)))
    (sSeq (sStore (eSlot 0) (eC (.int 2)) (eOp dDiv (eOp dIx (eSlot 0) (eC (.int 2))) (eSlot 1)))
    (sRet (eSlot 3)))) sNil)
    (sSeq (sStore (eSlot 0) (eC (.int 2)) (eC (.int 0)))
    (sSeq (sIf (bTst (eOp dGe (eOp dIx (eSlot 0) (eC (.int 1))) (eCall (fn1 lenD) (aCons (eOp dIx (eSlot 0) (eC (.int 0))) aNil)))) (sRet (eOp dMod (eCall (fn1 intD) (aCons (eCallP 2 m_law_mix (aCons (eOp dIx (eSlot 0) (eC (.int 4))) (aCons (eSlot 2) aNil))) aNil)) (eSlot 1))) sNil)
    (sSeq (sSet 4 (eOp dIx (eOp dIx (eSlot 0) (eC (.int 0))) (eOp dIx (eSlot 0) (eC (.int 1)))))
    (sSeq (sStore (eSlot 0) (eC (.int 1)) (eOp dAdd (eOp dIx (eSlot 0) (eC (.int 1))) (eC (.int 1))))
    (sSeq (sIf (bTst (eOp dLt (eCall (fn1 absD) (aCons (eSlot 4) aNil)) (eOp dPow (eC (.int 10)) (eC (.int 18))))) (sRet (eOp dMod (eCall (fn1 intD) (aCons (eCallP 2 m_law_mix (aCons (eSlot 4) (aCons (eSlot 2) aNil))) aNil)) (eSlot 1))) sNil)
    (sSeq (sStore (eSlot 0) (eC (.int 2)) (eOp dDiv (eCall (fn1 absD) (aCons (eSlot 4) aNil)) (eSlot 1)))
    (sRet (eOp dMod (eCall (fn1 absD) (aCons (eSlot 4) aNil)) (eSlot 1)))))))))))))
def m_law_take : MD := runM N_law_take.length F_law_take
set_option maxHeartbeats 2000000 in
theorem ok_law_take (B : Bs lfa lfn ltf lex K mg base T) : Cal P w K mg base T "_law_take" ["store", "many"] 2 m_law_take := cal_of (k := 1) (F := F_law_take) (B.d_law_take) S_law_take B.g__law_take (fun _ _ _ _ _ _ us hl => match us, hl with | [_, _], _ => rfl) (fun cdv A outer s H E hr => (qs_cons (qs_set 2 S_law_take.nd (qe_ix (qe_var 0) qe_int))
    (qs_cons (qs_store (qe_op qop_add (qe_var 2) qe_int) (qe_var 0) qe_int)
    (qs_cons (qs_if (qt_cmp qop_lt (qe_var 1) qe_int) (qs_one (qs_ret qe_int)) qs_nil)
    (qs_cons (qs_if (qt_cmp qop_ge (qe_ix (qe_var 0) qe_int) (qe_var 1)) (qs_cons (qs_set 3 S_law_take.nd (qe_op qop_mod (qe_callTy qcall_int rfl B.f_int bt_int (qa_cons (qe_ix (qe_var 0) qe_int) qa_nil)) (qe_var 1)))
    (qs_cons (qs_store (qe_op qop_div (qe_ix (qe_var 0) qe_int) (qe_var 1)) (qe_var 0) qe_int)
    (qs_one (qs_ret (qe_var 3))))) qs_nil)
    (qs_cons (qs_store qe_int (qe_var 0) qe_int)
    (qs_cons (qs_if (qt_cmp qop_ge (qe_ix (qe_var 0) qe_int) (qe_callB qcall_len rfl B.f_len bt_len (qa_cons (qe_ix (qe_var 0) qe_int) qa_nil))) (qs_one (qs_ret (qe_op qop_mod (qe_callTy qcall_int rfl B.f_int bt_int (qa_cons (qe_cP (ok_law_mix B) hr (by decide) rfl (L2N.passes_call (L2N.takes_of rfl rfl rfl rfl) (fun _ _ _ _ h => h)) (qa_cons (qe_ix (qe_var 0) qe_int) (qa_cons (qe_var 2) qa_nil))) qa_nil)) (qe_var 1)))) qs_nil)
    (qs_cons (qs_set 4 S_law_take.nd (qe_ix (qe_ix (qe_var 0) qe_int) (qe_ix (qe_var 0) qe_int)))
    (qs_cons (qs_store (qe_op qop_add (qe_ix (qe_var 0) qe_int) qe_int) (qe_var 0) qe_int)
    (qs_cons (qs_if (qt_cmp qop_lt (qe_callB qcall_abs rfl B.f_abs bt_abs (qa_cons (qe_var 4) qa_nil)) (qe_op qop_pow qe_int qe_int)) (qs_one (qs_ret (qe_op qop_mod (qe_callTy qcall_int rfl B.f_int bt_int (qa_cons (qe_cP (ok_law_mix B) hr (by decide) rfl (L2N.passes_call (L2N.takes_of rfl rfl rfl rfl) (fun _ _ _ _ h => h)) (qa_cons (qe_var 4) (qa_cons (qe_var 2) qa_nil))) qa_nil)) (qe_var 1)))) qs_nil)
    (qs_cons (qs_store (qe_op qop_div (qe_callB qcall_abs rfl B.f_abs bt_abs (qa_cons (qe_var 4) qa_nil)) (qe_var 1)) (qe_var 0) qe_int)
    (qs_one (qs_ret (qe_op qop_mod (qe_callB qcall_abs rfl B.f_abs bt_abs (qa_cons (qe_var 4) qa_nil)) (qe_var 1)))))))))))))))
def N_law_numbers : List Str := ["value", "many", "thing"]
theorem S_law_numbers : FnScope N_law_numbers ["value", "many"] (defScope (top 84)) := ⟨rfl, rfl, rfl, by decide +kernel, rfl, by decide +kernel, by decide +kernel⟩
def F_law_numbers : DS := (sRet (eAnd (eMap (isiD "list") (eSlot 0)) (eAnd (eOp dEq (eCall (fn1 lenD) (aCons (eSlot 0) aNil)) (eSlot 1)) (eCall (fn1 allD) (aCons (eVal (fComp (.nm 2) (([("thing", 2)] : List (Str × Nat)).map (·.2)) (iSeq (eSlot 0)) bYes (eCallP 1 m_law_is_number (aCons (eSlot 2) aNil)))) aNil)))))
def m_law_numbers : MD := runM N_law_numbers.length F_law_numbers
set_option maxHeartbeats 2000000 in
theorem ok_law_numbers (B : Bs lfa lfn ltf lex K mg base T) : Cal P w K mg base T "_law_numbers" ["value", "many"] 2 m_law_numbers := cal_of (k := 1) (F := F_law_numbers) (B.d_law_numbers) S_law_numbers B.g__law_numbers (fun _ _ _ _ _ _ us hl => match us, hl with | [_, _], _ => rfl) (fun cdv A outer s H E hr => (qs_one (qs_ret (qe_and (qe_isi rfl B.f_isinstance bt_isinstance rfl B.f_list bt_list (qe_var 0)) (qe_and (qe_cmp (qop_eq (hu_of hr)) (qe_callB qcall_len rfl B.f_len bt_len (qa_cons (qe_var 0) qa_nil)) (qe_var 1)) (qe_one (qe_callB (qcall_all rfl) rfl B.f_all bt_all (qa_cons (qe_val (qf_lc [("thing", 2)] rfl S_law_numbers.nd (qi_seq (qe_var 0)) (blk_of rfl) (fun _ _ _ _ _ => (qg_name 2 S_law_numbers.nd)) (fun _ _ _ _ _ => qts_nil) (fun _ _ _ _ _ => (qe_cP (ok_law_is_number B) hr (by decide) rfl passE0 (qa_cons (qe_var 2) qa_nil))))) qa_nil))))))))
def N_law_holds : List Str := ["trade", "piece", "ask", "legs", "leg"]
theorem S_law_holds : FnScope N_law_holds ["trade", "piece", "ask"] (defScope (top 86)) := ⟨rfl, rfl, rfl, by decide +kernel, rfl, by decide +kernel, by decide +kernel⟩
def F_law_holds : DS := (sSeq (sSet 3 (eCallP 2 m_law_legs (aCons (eSlot 0) (aCons (eSlot 1) aNil))))
    (sRet (eCall (fn1 allD) (aCons (eVal (fComp (.nm 4) (([("leg", 4)] : List (Str × Nat)).map (·.2)) (iSeq (eCallP 2 m_law_legs (aCons (eSlot 0) (aCons (eSlot 2) aNil)))) bYes (eOp dIn (eSlot 4) (eSlot 3)))) aNil))))
def m_law_holds : MD := runM N_law_holds.length F_law_holds
set_option maxHeartbeats 2000000 in
theorem ok_law_holds (B : Bs lfa lfn ltf lex K mg base T) : Cal P w K mg base T "_law_holds" ["trade", "piece", "ask"] 2 m_law_holds := cal_of (k := 1) (F := F_law_holds) (B.d_law_holds) S_law_holds B.g__law_holds (fun _ _ _ _ _ _ us hl => match us, hl with | [_, _, _], _ => rfl) (fun cdv A outer s H E hr => (qs_cons (qs_set 3 S_law_holds.nd (qe_cP (ok_law_legs B) hr (by decide) rfl (L2N.passes_call (L2N.takes_of rfl rfl rfl rfl) (fun _ _ _ _ h => h)) (qa_cons (qe_var 0) (qa_cons (qe_var 1) qa_nil))))
    (qs_one (qs_ret (qe_callB (qcall_all rfl) rfl B.f_all bt_all (qa_cons (qe_val (qf_lc [("leg", 4)] rfl S_law_holds.nd (qi_seq (qe_cP (ok_law_legs B) hr (by decide) rfl (L2N.passes_call (L2N.takes_of rfl rfl rfl rfl) (fun _ _ _ _ h => h)) (qa_cons (qe_var 0) (qa_cons (qe_var 2) qa_nil)))) (blk_of rfl) (fun _ _ _ _ _ => (qg_name 4 S_law_holds.nd)) (fun _ _ _ _ _ => qts_nil) (fun _ _ _ _ _ => (qe_cmp (qop_in (hu_of hr)) (qe_var 4) (qe_var 3))))) qa_nil))))))
end Qv

/-! ## K78W3 -/
set_option Elab.async false
set_option linter.all false
set_option maxRecDepth 100000
set_option maxHeartbeats 1000000
/-! the walk, 3: law_k78_deal_is_a_way (printed by genwalk.py) -/
namespace Qv
open PySem PySem.Spec PyProof.Rows L2
variable {P : Program} {w : World} {K : PySem.W.Frag} {mg : Str → Option Value} {base : Heap} {T : List (Addr × Str)}
def N_law_middle : List Str := ["trade", "stock", "leg", "free", "piece", "at", "begin", "end", "k", "ends"]
theorem S_law_middle : FnScope N_law_middle ["trade", "stock", "leg"] (defScope (top 93)) := ⟨rfl, rfl, rfl, by decide +kernel, rfl, by decide +kernel, by decide +kernel⟩
def F_law_middle : DS := (sSeq (sSet 3 (eNew (fRep (eLst (aCons (eC (.int 0)) aNil)) (eOp dAdd (eOp dIx (eSlot 0) (eC (.int 1))) (eC (.int 1))))))
    (sSeq (sFor (.nm 4) (iSeq (eSlot 1)) (sFor (.nm 5) (iSeq (eCallP 2 m_law_legs (aCons (eSlot 0) (aCons (eSlot 4) aNil)))) (sStore (eSlot 3) (eSlot 5) (eC (.int 1)))))
    (sSeq (sIf (bTst (eOp dEq (eOp dIx (eSlot 3) (eSlot 2)) (eC (.int 0)))) (sRet (eC .non)) sNil)
    (sSeq (sSet 6 (eSlot 2))
    (sSeq (sSet 7 (eSlot 2))
    (sSeq (sFor (.nm 8) (iRange1 (eOp dIx (eSlot 0) (eC (.int 1)))) (sSeq (sIf (bAnd (bTst (eOp dGt (eSlot 6) (eC (.int 0)))) (bTst (eOp dEq (eOp dIx (eSlot 3) (eOp dSub (eSlot 6) (eC (.int 1)))) (eC (.int 1))))) (sSet 6 (eOp dSub (eSlot 6) (eC (.int 1)))) sNil)
    (sIf (bTst (eOp dEq (eOp dIx (eSlot 3) (eSlot 7)) (eC (.int 1)))) (sSet 7 (eOp dAdd (eSlot 7) (eC (.int 1)))) sNil)))
    (sSeq (sSet 9 (eVal (fComp (.nm 4) (([("piece", 4)] : List (Str × Nat)).map (·.2)) (iSeq (eSlot 1)) (bAnd (bTst (eOp dLe (eSlot 6) (eOp dIx (eSlot 4) (eC (.int 0))))) (bTst (eOp dLt (eOp dAdd (eOp dIx (eSlot 4) (eC (.int 0))) (eOp dIx (eSlot 4) (eC (.int 1)))) (eSlot 7)))) (eOp dAdd (eOp dIx (eSlot 4) (eC (.int 0))) (eOp dIx (eSlot 4) (eC (.int 1)))))))
    (sRet (eCall (fn1 maxD) (aCons (eOp dAdd (eLst (aCons (eSlot 6) aNil)) (eSlot 9)) aNil))))))))))
def m_law_middle : MD := runM N_law_middle.length F_law_middle
set_option maxHeartbeats 2000000 in
theorem ok_law_middle (B : Bs lfa lfn ltf lex K mg base T) : Cal P w K mg base T "_law_middle" ["trade", "stock", "leg"] 2 m_law_middle := cal_of (k := 1) (F := F_law_middle) (B.d_law_middle) S_law_middle B.g__law_middle (fun _ _ _ _ _ _ us hl => match us, hl with | [_, _, _], _ => rfl) (fun cdv A outer s H E hr => (qs_cons (qs_set 3 S_law_middle.nd (qe_new (qf_rep (qe_lst (qa_cons qe_int qa_nil)) (qe_op qop_add (qe_ix (qe_var 0) qe_int) qe_int))))
    (qs_cons (qs_for (passes_of rfl) rfl (qi_seq (qe_var 1)) (qg_name 4 S_law_middle.nd) (qs_one (qs_for (passes_of rfl) rfl (qi_seq (qe_cP (ok_law_legs B) hr (by decide) rfl (L2N.passes_call (L2N.takes_of rfl rfl rfl rfl) (fun _ _ _ _ h => h)) (qa_cons (qe_var 0) (qa_cons (qe_var 4) qa_nil)))) (qg_name 5 S_law_middle.nd) (qs_one (qs_store qe_int (qe_var 3) (qe_var 5))))))
    (qs_cons (qs_if (qt_cmp (qop_eq (hu_of hr)) (qe_ix (qe_var 3) (qe_var 2)) qe_int) (qs_one (qs_ret qe_non)) qs_nil)
    (qs_cons (qs_set 6 S_law_middle.nd (qe_var 2))
    (qs_cons (qs_set 7 S_law_middle.nd (qe_var 2))
    (qs_cons (qs_for (passes_of rfl) rfl (qi_range1 rfl B.f_range (qe_ix (qe_var 0) qe_int)) (qg_name 8 S_law_middle.nd) (qs_cons (qs_if (QW.qt (qw_and (qt_cmp qop_gt (qe_var 6) qe_int) (qw_and1 (qt_cmp (qop_eq (hu_of hr)) (qe_ix (qe_var 3) (qe_op qop_sub (qe_var 6) qe_int)) qe_int)))) (qs_one (qs_set 6 S_law_middle.nd (qe_op qop_sub (qe_var 6) qe_int))) qs_nil)
    (qs_one (qs_if (qt_cmp (qop_eq (hu_of hr)) (qe_ix (qe_var 3) (qe_var 7)) qe_int) (qs_one (qs_set 7 S_law_middle.nd (qe_op qop_add (qe_var 7) qe_int))) qs_nil))))
    (qs_cons (qs_lc 9 [("piece", 4)] eVal (.inl rfl) rfl S_law_middle.nd (qi_seq (qe_var 1)) (blk_of rfl) (fun _ _ _ _ _ => (qg_name 4 S_law_middle.nd)) (fun _ _ _ _ _ => (qts_one (QW.qt (qw_and (qt_cmp qop_le (qe_var 6) (qe_ix (qe_var 4) qe_int)) (qw_and1 (qt_cmp qop_lt (qe_op qop_add (qe_ix (qe_var 4) qe_int) (qe_ix (qe_var 4) qe_int)) (qe_var 7))))))) (fun _ _ _ _ _ => (qe_op qop_add (qe_ix (qe_var 4) qe_int) (qe_ix (qe_var 4) qe_int))))
    (qs_one (qs_ret (qe_callB (qcall_max rfl) rfl B.f_max bt_max (qa_cons (qe_op qop_add (qe_lst (qa_cons (qe_var 6) qa_nil)) (qe_var 9)) qa_nil))))))))))))
def N_is_trade : List Str := ["trade", "shape", "rest"]
theorem S_is_trade : FnScope N_is_trade ["trade"] (defScope (top 37)) := ⟨rfl, rfl, rfl, by decide +kernel, rfl, by decide +kernel, by decide +kernel⟩
def F_is_trade : DS := (sSeq (sIf (bOr (bNot (bTru (eMap (isiD "tuple") (eSlot 0)))) (bTst (eOp dNe (eCall (fn1 lenD) (aCons (eSlot 0) aNil)) (eC (.int 2))))) (sRet (eC (.bl false))) sNil)
    (sSeq (sAsg (.tp [(.nm 1), (.nm 2)]) (eSlot 0))
    (sSeq (sIf (bTst (eOp dIn (eSlot 1) (eC (.tup ((["line", "round"] : List Str).map D.str))))) (sRet (eCallP 3 m_is_between (aCons (eSlot 2) (aCons (eC (.int 1)) (aCons (eC (.int 24)) aNil))))) sNil)
    (sSeq (sIf (bTst (eOp dEq (eSlot 1) (eC (.str "yard")))) (sRet (eCallP 3 m_is_between (aCons (eSlot 2) (aCons (eC (.int 0)) (aCons (eC (.int 99)) aNil))))) sNil)
    (sSeq (sIf (bTst (eOp dEq (eSlot 1) (eC (.str "till")))) (sRet (eCallP 3 m_is_between (aCons (eSlot 2) (aCons (eC (.int 0)) (aCons (eC (.int 0)) aNil))))) sNil)
    (sRet (eAnd (eOp dEq (eSlot 1) (eC (.str "packing"))) (eCallP 1 m_are_rules (aCons (eSlot 2) aNil)))))))))
def m_is_trade : MD := runM N_is_trade.length F_is_trade
set_option maxHeartbeats 2000000 in
theorem ok_is_trade (B : Bs lfa lfn ltf lex K mg base T) : Cal P w K mg base T "is_trade" ["trade"] 3 m_is_trade := cal_of (k := 2) (F := F_is_trade) (B.d_is_trade) S_is_trade B.g_is_trade (fun _ _ _ _ _ _ us hl => match us, hl with | [_], _ => rfl) (fun cdv A outer s H E hr => (qs_cons (qs_if (QW.qt (qw_or (qt_not (qt_val (qe_isi rfl B.f_isinstance bt_isinstance rfl B.f_tuple bt_tuple (qe_var 0)))) (qw_or1 (qt_cmp (qop_ne (hu_of hr)) (qe_callB qcall_len rfl B.f_len bt_len (qa_cons (qe_var 0) qa_nil)) qe_int)))) (qs_one (qs_ret qe_bl)) qs_nil)
    (qs_cons (qs_asg (qe_var 0) (qg_tup rfl (qgs_cons (qg_name 1 S_is_trade.nd) (qgs_cons (qg_name 2 S_is_trade.nd) qgs_nil))))
    (qs_cons (qs_if (qt_cmp (qop_in (hu_of hr)) (qe_var 1) (qe_gtup rfl (B.g_HALLS) (B.c_HALLS) (by decide))) (qs_one (qs_ret (qe_cP (ok_is_between B) hr (by decide) rfl (L2N.passes_call (L2N.takes_of rfl rfl rfl rfl) (fun _ _ _ _ h => h)) (qa_cons (qe_var 2) (qa_cons qe_int (qa_cons (qe_gint rfl (B.c_MOST_LEGS)) qa_nil)))))) qs_nil)
    (qs_cons (qs_if (qt_cmp (qop_eq (hu_of hr)) (qe_var 1) qe_str) (qs_one (qs_ret (qe_cP (ok_is_between B) hr (by decide) rfl (L2N.passes_call (L2N.takes_of rfl rfl rfl rfl) (fun _ _ _ _ h => h)) (qa_cons (qe_var 2) (qa_cons qe_int (qa_cons (qe_gint rfl (B.c_MOST_SAW)) qa_nil)))))) qs_nil)
    (qs_cons (qs_if (qt_cmp (qop_eq (hu_of hr)) (qe_var 1) qe_str) (qs_one (qs_ret (qe_cP (ok_is_between B) hr (by decide) rfl (L2N.passes_call (L2N.takes_of rfl rfl rfl rfl) (fun _ _ _ _ h => h)) (qa_cons (qe_var 2) (qa_cons qe_int (qa_cons qe_int qa_nil)))))) qs_nil)
    (qs_one (qs_ret (qe_and (qe_cmp (qop_eq (hu_of hr)) (qe_var 1) qe_str) (qe_one (qe_cP (ok_are_rules B) hr (by decide) rfl (L2N.passes_call (L2N.takes_of rfl rfl rfl rfl) (fun _ _ _ _ h => h)) (qa_cons (qe_var 2) qa_nil))))))))))))
def N_fits : List Str := ["trade", "thing", "pair"]
theorem S_fits : FnScope N_fits ["trade", "thing"] (defScope (top 39)) := ⟨rfl, rfl, rfl, by decide +kernel, rfl, by decide +kernel, by decide +kernel⟩
def F_fits : DS := (sSeq (sIf (bTst (eOp dIn (eOp dIx (eSlot 0) (eC (.int 0))) (eC (.tup ((["line", "round"] : List Str).map D.str))))) (sRet (eCallP 2 m_is_stretch (aCons (eSlot 0) (aCons (eSlot 1) aNil)))) sNil)
    (sSeq (sIf (bTst (eOp dEq (eOp dIx (eSlot 0) (eC (.int 0))) (eC (.str "packing")))) (sRet (eOp dIn (eSlot 1) (eVal (fComp (.nm 2) (([("pair", 2)] : List (Str × Nat)).map (·.2)) (iSeq (eOp dIx (eSlot 0) (eC (.int 1)))) bYes (eOp dIx (eSlot 2) (eC (.int 0))))))) sNil)
    (sRet (eCallP 3 m_is_between (aCons (eSlot 1) (aCons (eC (.int 1)) (aCons (eC (.int 1000000)) aNil)))))))
def m_fits : MD := runM N_fits.length F_fits
set_option maxHeartbeats 2000000 in
theorem ok_fits (B : Bs lfa lfn ltf lex K mg base T) : Cal P w K mg base T "fits" ["trade", "thing"] 3 m_fits := cal_of (k := 2) (F := F_fits) (B.d_fits) S_fits B.g_fits (fun _ _ _ _ _ _ us hl => match us, hl with | [_, _], _ => rfl) (fun cdv A outer s H E hr => (qs_cons (qs_if (qt_cmp (qop_in (hu_of hr)) (qe_ix (qe_var 0) qe_int) (qe_gtup rfl (B.g_HALLS) (B.c_HALLS) (by decide))) (qs_one (qs_ret (qe_cP (ok_is_stretch B) hr (by decide) rfl (L2N.passes_call (L2N.takes_of rfl rfl rfl rfl) (fun _ _ _ _ h => h)) (qa_cons (qe_var 0) (qa_cons (qe_var 1) qa_nil))))) qs_nil)
    (qs_cons (qs_if (qt_cmp (qop_eq (hu_of hr)) (qe_ix (qe_var 0) qe_int) qe_str) (qs_one (qs_ret (qe_cmp (qop_in (hu_of hr)) (qe_var 1) (qe_val (qf_lc [("pair", 2)] rfl S_fits.nd (qi_seq (qe_ix (qe_var 0) qe_int)) (blk_of rfl) (fun _ _ _ _ _ => (qg_name 2 S_fits.nd)) (fun _ _ _ _ _ => qts_nil) (fun _ _ _ _ _ => (qe_ix (qe_var 2) qe_int))))))) qs_nil)
    (qs_one (qs_ret (qe_cP (ok_is_between B) hr (by decide) rfl (L2N.passes_call (L2N.takes_of rfl rfl rfl rfl) (fun _ _ _ _ h => h)) (qa_cons (qe_var 1) (qa_cons qe_int (qa_cons (qe_gint rfl (B.c_MOST_NUMBER)) qa_nil)))))))))
def N_fault_word : List Str := ["trade", "piece", "other"]
theorem S_fault_word : FnScope N_fault_word ["trade", "piece", "other"] (defScope (top 58)) := ⟨rfl, rfl, rfl, by decide +kernel, rfl, by decide +kernel, by decide +kernel⟩
def F_fault_word : DS := (sSeq (sIf (bTst (eOp dEq (eCallP 1 m_end_of (aCons (eSlot 1) aNil)) (eOp dIx (eSlot 2) (eC (.int 0))))) (sRet (eC (.str "touch"))) sNil)
    (sSeq (sIf (bAnd (bTst (eOp dNe (eOp dIx (eSlot 1) (eC (.int 0))) (eOp dIx (eSlot 2) (eC (.int 0))))) (bAnd (bTst (eOp dNe (eCallP 1 m_end_of (aCons (eSlot 1) aNil)) (eCallP 1 m_end_of (aCons (eSlot 2) aNil)))) (bTru (eCallP 3 m_shares (aCons (eSlot 0) (aCons (eSlot 1) (aCons (eSlot 2) aNil))))))) (sRet (eC (.str "ends"))) sNil)
    (sRet (eC .non))))
def m_fault_word : MD := runM N_fault_word.length F_fault_word
set_option maxHeartbeats 2000000 in
theorem ok_fault_word (B : Bs lfa lfn ltf lex K mg base T) : Cal P w K mg base T "fault_word" ["trade", "piece", "other"] 3 m_fault_word := cal_of (k := 2) (F := F_fault_word) (B.d_fault_word) S_fault_word B.g_fault_word (fun _ _ _ _ _ _ us hl => match us, hl with | [_, _, _], _ => rfl) (fun cdv A outer s H E hr => (qs_cons (qs_if (qt_cmp (qop_eq (hu_of hr)) (qe_cP (ok_end_of B) hr (by decide) rfl (L2N.passes_call (L2N.takes_of rfl rfl rfl rfl) (fun _ _ _ _ h => h)) (qa_cons (qe_var 1) qa_nil)) (qe_ix (qe_var 2) qe_int)) (qs_one (qs_ret qe_str)) qs_nil)
    (qs_cons (qs_if (QW.qt (qw_and (qt_cmp (qop_ne (hu_of hr)) (qe_ix (qe_var 1) qe_int) (qe_ix (qe_var 2) qe_int)) (qw_and (qt_cmp (qop_ne (hu_of hr)) (qe_cP (ok_end_of B) hr (by decide) rfl (L2N.passes_call (L2N.takes_of rfl rfl rfl rfl) (fun _ _ _ _ h => h)) (qa_cons (qe_var 1) qa_nil)) (qe_cP (ok_end_of B) hr (by decide) rfl (L2N.passes_call (L2N.takes_of rfl rfl rfl rfl) (fun _ _ _ _ h => h)) (qa_cons (qe_var 2) qa_nil))) (qw_and1 (qt_val (qe_cP (ok_shares B) hr (by decide) rfl (L2N.passes_call (L2N.takes_of rfl rfl rfl rfl) (fun _ _ _ _ h => h)) (qa_cons (qe_var 0) (qa_cons (qe_var 1) (qa_cons (qe_var 2) qa_nil))))))))) (qs_one (qs_ret qe_str)) qs_nil)
    (qs_one (qs_ret qe_non)))))
def N_free_place : List Str := ["trade", "pieces", "loads", "part", "found", "place", "piece", "ask"]
theorem S_free_place : FnScope N_free_place ["trade", "pieces", "loads", "part"] (defScope (top 69)) := ⟨rfl, rfl, rfl, by decide +kernel, rfl, by decide +kernel, by decide +kernel⟩
def F_free_place : DS := (sSeq (sSet 4 (eVal (fComp (.tp [(.nm 5), (.nm 6)]) (([("place", 5), ("piece", 6)] : List (Str × Nat)).map (·.2)) (iEnumD (eSlot 1)) (bAnd (bTru (eCallP 3 m_holds (aCons (eSlot 0) (aCons (eSlot 6) (aCons (eSlot 3) aNil))))) (bNot (bTru (eCall (fn1 anyD) (aCons (eVal (fComp (.nm 7) (([("ask", 7)] : List (Str × Nat)).map (·.2)) (iSeq (eOp dIx (eSlot 2) (eSlot 5))) bYes (eCallP 3 m_shares (aCons (eSlot 0) (aCons (eSlot 3) (aCons (eSlot 7) aNil)))))) aNil))))) (eSlot 5))))
    (sRet (eOp dIx (eSlot 4) (eC (.int 0)))))
def m_free_place : MD := runM N_free_place.length F_free_place
set_option maxHeartbeats 2000000 in
theorem ok_free_place (B : Bs lfa lfn ltf lex K mg base T) : Cal P w K mg base T "free_place" ["trade", "pieces", "loads", "part"] 3 m_free_place := cal_of (k := 2) (F := F_free_place) (B.d_free_place) S_free_place B.g_free_place (fun _ _ _ _ _ _ us hl => match us, hl with | [_, _, _, _], _ => rfl) (fun cdv A outer s H E hr => (qs_cons (qs_lc 4 [("place", 5), ("piece", 6)] eVal (.inl rfl) rfl S_free_place.nd (qi_enum rfl B.f_enumerate (qe_var 1)) (blk_of rfl) (fun _ _ _ _ _ => (qg_tup rfl (qgs_cons (qg_name 5 S_free_place.nd) (qgs_cons (qg_name 6 S_free_place.nd) qgs_nil)))) (fun _ _ _ _ _ => (qts_one (QW.qt (qw_and (qt_val (qe_cP (ok_holds B) hr (by decide) rfl passE0 (qa_cons (qe_var 0) (qa_cons (qe_var 6) (qa_cons (qe_var 3) qa_nil))))) (qw_and1 (qt_not (qt_val (qe_callB (qcall_any rfl) rfl B.f_any bt_any (qa_cons (qe_val (qf_lc [("ask", 7)] rfl S_free_place.nd (qi_seq (qe_ix (qe_var 2) (qe_var 5))) (blk_of rfl) (fun _ _ _ _ _ => (qg_name 7 S_free_place.nd)) (fun _ _ _ _ _ => qts_nil) (fun _ _ _ _ _ => (qe_cP (ok_shares B) hr (by decide) rfl passE0 (qa_cons (qe_var 0) (qa_cons (qe_var 3) (qa_cons (qe_var 7) qa_nil))))))) qa_nil))))))))) (fun _ _ _ _ _ => (qe_var 5)))
    (qs_one (qs_ret (qe_ix (qe_var 4) qe_int)))))
def N_law_odds : List Str := ["store", "many"]
theorem S_law_odds : FnScope N_law_odds ["store", "many"] (defScope (top 76)) := ⟨rfl, rfl, rfl, by decide +kernel, rfl, by decide +kernel, by decide +kernel⟩
def F_law_odds : DS := (sRet (eOp dEq (eCallM 2 m_law_take (aCons (eSlot 0) (aCons (eSlot 1) aNil))) (eC (.int 0))))
def m_law_odds : MD := runM N_law_odds.length F_law_odds
set_option maxHeartbeats 2000000 in
theorem ok_law_odds (B : Bs lfa lfn ltf lex K mg base T) : Cal P w K mg base T "_law_odds" ["store", "many"] 3 m_law_odds := cal_of (k := 2) (F := F_law_odds) (B.d_law_odds) S_law_odds B.g__law_odds (fun _ _ _ _ _ _ us hl => match us, hl with | [_, _], _ => rfl) (fun cdv A outer s H E hr => (qs_one (qs_ret (qe_cmp (qop_eq (hu_of hr)) (qe_cM (ok_law_take B) hr (by decide) rfl (L2N.passes_call (L2N.takes_of rfl rfl rfl rfl) (fun _ _ _ _ h => h)) (qa_cons (qe_var 0) (qa_cons (qe_var 1) qa_nil))) qe_int))))
def N_law_pick : List Str := ["store", "things"]
theorem S_law_pick : FnScope N_law_pick ["store", "things"] (defScope (top 78)) := ⟨rfl, rfl, rfl, by decide +kernel, rfl, by decide +kernel, by decide +kernel⟩
def F_law_pick : DS := (sRet (eOp dIx (eSlot 1) (eCallM 2 m_law_take (aCons (eSlot 0) (aCons (eCall (fn1 lenD) (aCons (eSlot 1) aNil)) aNil)))))
def m_law_pick : MD := runM N_law_pick.length F_law_pick
set_option maxHeartbeats 2000000 in
theorem ok_law_pick (B : Bs lfa lfn ltf lex K mg base T) : Cal P w K mg base T "_law_pick" ["store", "things"] 3 m_law_pick := cal_of (k := 2) (F := F_law_pick) (B.d_law_pick) S_law_pick B.g__law_pick (fun _ _ _ _ _ _ us hl => match us, hl with | [_, _], _ => rfl) (fun cdv A outer s H E hr => (qs_one (qs_ret (qe_ix (qe_var 1) (qe_cM (ok_law_take B) hr (by decide) rfl (L2N.passes_call (L2N.takes_of rfl rfl rfl rfl) (fun _ _ _ _ h => h)) (qa_cons (qe_var 0) (qa_cons (qe_callB qcall_len rfl B.f_len bt_len (qa_cons (qe_var 1) qa_nil)) qa_nil)))))))
def N_law_shuffle : List Str := ["store", "things", "row", "k", "last", "at", "thing"]
theorem S_law_shuffle : FnScope N_law_shuffle ["store", "things"] (defScope (top 79)) := ⟨rfl, rfl, rfl, by decide +kernel, rfl, by decide +kernel, by decide +kernel⟩
def F_law_shuffle : DS := (sSeq (sSet 2 (eNew (fList (eSlot 1))))
    (sSeq (sFor (.nm 3) (iRange1 (eOp dSub (eCall (fn1 lenD) (aCons (eSlot 1) aNil)) (eC (.int 1)))) (sSeq (sSet 4 (eOp dSub (eOp dSub (eCall (fn1 lenD) (aCons (eSlot 1) aNil)) (eC (.int 1))) (eSlot 3)))
    (sSeq (sSet 5 (eCallM 2 m_law_take (aCons (eSlot 0) (aCons (eOp dAdd (eSlot 4) (eC (.int 1))) aNil))))
    (sSeq (sSet 6 (eOp dIx (eSlot 2) (eSlot 5)))
    (sSeq (sStore (eSlot 2) (eSlot 5) (eOp dIx (eSlot 2) (eSlot 4)))
    (sStore (eSlot 2) (eSlot 4) (eSlot 6)))))))
    (sRet (eFrz (eSlot 2)))))
def m_law_shuffle : MD := runM N_law_shuffle.length F_law_shuffle
set_option maxHeartbeats 2000000 in
theorem ok_law_shuffle (B : Bs lfa lfn ltf lex K mg base T) : Cal P w K mg base T "_law_shuffle" ["store", "things"] 3 m_law_shuffle := cal_of (k := 2) (F := F_law_shuffle) (B.d_law_shuffle) S_law_shuffle B.g__law_shuffle (fun _ _ _ _ _ _ us hl => match us, hl with | [_, _], _ => rfl) (fun cdv A outer s H E hr => (qs_cons (qs_set 2 S_law_shuffle.nd (qe_new (qf_list rfl B.f_list bt_list (qe_var 1))))
    (qs_cons (qs_for (passes_of rfl) rfl (qi_range1 rfl B.f_range (qe_op qop_sub (qe_callB qcall_len rfl B.f_len bt_len (qa_cons (qe_var 1) qa_nil)) qe_int)) (qg_name 3 S_law_shuffle.nd) (qs_cons (qs_set 4 S_law_shuffle.nd (qe_op qop_sub (qe_op qop_sub (qe_callB qcall_len rfl B.f_len bt_len (qa_cons (qe_var 1) qa_nil)) qe_int) (qe_var 3)))
    (qs_cons (qs_set 5 S_law_shuffle.nd (qe_cM (ok_law_take B) hr (by decide) rfl (L2N.passes_call (L2N.takes_of rfl rfl rfl rfl) (fun _ _ _ _ h => h)) (qa_cons (qe_var 0) (qa_cons (qe_op qop_add (qe_var 4) qe_int) qa_nil))))
    (qs_cons (qs_set 6 S_law_shuffle.nd (qe_ix (qe_var 2) (qe_var 5)))
    (qs_cons (qs_store (qe_ix (qe_var 2) (qe_var 4)) (qe_var 2) (qe_var 5))
    (qs_one (qs_store (qe_var 6) (qe_var 2) (qe_var 4))))))))
    (qs_one (qs_ret (qe_frz (qe_var 2)))))))
end Qv

/-! ## K78W4 -/
set_option Elab.async false
set_option linter.all false
set_option maxRecDepth 100000
set_option maxHeartbeats 1000000
/-! the walk, 4: law_k78_deal_is_a_way (printed by genwalk.py) -/
namespace Qv
open PySem PySem.Spec PyProof.Rows L2
variable {P : Program} {w : World} {K : PySem.W.Frag} {mg : Str → Option Value} {base : Heap} {T : List (Addr × Str)}
def N_law_way_places : List Str := ["trade", "stock", "asks", "way", "row", "loads", "piece", "k", "at", "legs", "leg"]
theorem S_law_way_places : FnScope N_law_way_places ["trade", "stock", "asks", "way"] (defScope (top 87)) := ⟨rfl, rfl, rfl, by decide +kernel, rfl, by decide +kernel, by decide +kernel⟩
def F_law_way_places : DS := (sSeq (sIf (bNot (bTru (eCallP 2 m_law_numbers (aCons (eSlot 3) (aCons (eCall (fn1 lenD) (aCons (eSlot 2) aNil)) aNil))))) (sRet (eC (.bl false))) sNil)
    (sSeq (sSet 4 (eCall (fn1 sortD) (aCons (eSlot 1) aNil)))
    (sSeq (sSet 5 (eVal (fComp (.nm 6) (([("piece", 6)] : List (Str × Nat)).map (·.2)) (iSeq (eSlot 4)) bYes (eNew (fLst aNil)))))
    (sSeq (sFor (.nm 7) (iRange1 (eCall (fn1 lenD) (aCons (eSlot 2) aNil))) (sSeq (sSet 8 (eOp dIx (eSlot 3) (eSlot 7)))
    (sSeq (sIf (bOr (bTst (eOp dLt (eSlot 8) (eC (.int 0)))) (bTst (eOp dGe (eSlot 8) (eCall (fn1 lenD) (aCons (eSlot 4) aNil))))) (sRet (eC (.bl false))) sNil)
    (sIf (bTst (eOp dEq (eOp dIx (eSlot 0) (eC (.int 0))) (eC (.str "yard")))) (sSeq (sDrop (eMth mAppend (eOp dIx (eSlot 5) (eSlot 8)) (aCons (eOp dAdd (eOp dIx (eSlot 2) (eSlot 7)) (eOp dIx (eSlot 0) (eC (.int 1)))) aNil)))
    (sIf (bTst (eOp dGt (eCall (fn1 sumD) (aCons (eOp dIx (eSlot 5) (eSlot 8)) aNil)) (eOp dAdd (eOp dIx (eSlot 4) (eSlot 8)) (eOp dIx (eSlot 0) (eC (.int 1)))))) (sRet (eC (.bl false))) sNil)) (sSeq (sSet 9 (eCallP 2 m_law_legs (aCons (eSlot 0) (aCons (eOp dIx (eSlot 2) (eSlot 7)) aNil))))
    (sSeq (sIf (bOr (bNot (bTru (eCallP 3 m_law_holds (aCons (eSlot 0) (aCons (eOp dIx (eSlot 4) (eSlot 8)) (aCons (eOp dIx (eSlot 2) (eSlot 7)) aNil)))))) (bTru (eCall (fn1 anyD) (aCons (eVal (fComp (.nm 10) (([("leg", 10)] : List (Str × Nat)).map (·.2)) (iSeq (eSlot 9)) bYes (eOp dIn (eSlot 10) (eOp dIx (eSlot 5) (eSlot 8))))) aNil)))) (sRet (eC (.bl false))) sNil)
    (sFor (.nm 10) (iSeq (eSlot 9)) (sDrop (eMth mAppend (eOp dIx (eSlot 5) (eSlot 8)) (aCons (eSlot 10) aNil))))))))))
    (sRet (eC (.bl true)))))))
def m_law_way_places : MD := runM N_law_way_places.length F_law_way_places
set_option maxHeartbeats 2000000 in
theorem ok_law_way_places (B : Bs lfa lfn ltf lex K mg base T) : Cal P w K mg base T "_law_way_places" ["trade", "stock", "asks", "way"] 3 m_law_way_places := cal_of (k := 2) (F := F_law_way_places) (B.d_law_way_places) S_law_way_places B.g__law_way_places (fun _ _ _ _ _ _ us hl => match us, hl with | [_, _, _, _], _ => rfl) (fun cdv A outer s H E hr => (qs_cons (qs_if (qt_not (qt_val (qe_cP (ok_law_numbers B) hr (by decide) rfl (L2N.passes_call (L2N.takes_of rfl rfl rfl rfl) (fun _ _ _ _ h => h)) (qa_cons (qe_var 3) (qa_cons (qe_callB qcall_len rfl B.f_len bt_len (qa_cons (qe_var 2) qa_nil)) qa_nil))))) (qs_one (qs_ret qe_bl)) qs_nil)
    (qs_cons (qs_set 4 S_law_way_places.nd (qe_callB (qcall_sorted (hu_of hr)) rfl B.f_sorted bt_sorted (qa_cons (qe_var 1) qa_nil)))
    (qs_cons (qs_set 5 S_law_way_places.nd (qe_val (qf_lc [("piece", 6)] rfl S_law_way_places.nd (qi_seq (qe_var 4)) (blk_of rfl) (fun _ _ _ _ _ => (qg_name 6 S_law_way_places.nd)) (fun _ _ _ _ _ => qts_nil) (fun _ _ _ _ _ => (qe_new (qf_lst qa_nil))))))
    (qs_cons (qs_for (passes_of rfl) rfl (qi_range1 rfl B.f_range (qe_callB qcall_len rfl B.f_len bt_len (qa_cons (qe_var 2) qa_nil))) (qg_name 7 S_law_way_places.nd) (qs_cons (qs_set 8 S_law_way_places.nd (qe_ix (qe_var 3) (qe_var 7)))
    (qs_cons (qs_if (QW.qt (qw_or (qt_cmp qop_lt (qe_var 8) qe_int) (qw_or1 (qt_cmp qop_ge (qe_var 8) (qe_callB qcall_len rfl B.f_len bt_len (qa_cons (qe_var 4) qa_nil)))))) (qs_one (qs_ret qe_bl)) qs_nil)
    (qs_one (qs_if (qt_cmp (qop_eq (hu_of hr)) (qe_ix (qe_var 0) qe_int) qe_str) (qs_cons (qs_drop (qe_append (qe_ix (qe_var 5) (qe_var 8)) (qa_cons (qe_op qop_add (qe_ix (qe_var 2) (qe_var 7)) (qe_ix (qe_var 0) qe_int)) qa_nil)))
    (qs_one (qs_if (qt_cmp qop_gt (qe_callB (qcall_sum rfl) rfl B.f_sum bt_sum (qa_cons (qe_ix (qe_var 5) (qe_var 8)) qa_nil)) (qe_op qop_add (qe_ix (qe_var 4) (qe_var 8)) (qe_ix (qe_var 0) qe_int))) (qs_one (qs_ret qe_bl)) qs_nil))) (qs_cons (qs_set 9 S_law_way_places.nd (qe_cP (ok_law_legs B) hr (by decide) rfl (L2N.passes_call (L2N.takes_of rfl rfl rfl rfl) (fun _ _ _ _ h => h)) (qa_cons (qe_var 0) (qa_cons (qe_ix (qe_var 2) (qe_var 7)) qa_nil))))
    (qs_cons (qs_if (QW.qt (qw_or (qt_not (qt_val (qe_cP (ok_law_holds B) hr (by decide) rfl (L2N.passes_call (L2N.takes_of rfl rfl rfl rfl) (fun _ _ _ _ h => h)) (qa_cons (qe_var 0) (qa_cons (qe_ix (qe_var 4) (qe_var 8)) (qa_cons (qe_ix (qe_var 2) (qe_var 7)) qa_nil)))))) (qw_or1 (qt_val (qe_callB (qcall_any rfl) rfl B.f_any bt_any (qa_cons (qe_val (qf_lc [("leg", 10)] rfl S_law_way_places.nd (qi_seq (qe_var 9)) (blk_of rfl) (fun _ _ _ _ _ => (qg_name 10 S_law_way_places.nd)) (fun _ _ _ _ _ => qts_nil) (fun _ _ _ _ _ => (qe_cmp (qop_in (hu_of hr)) (qe_var 10) (qe_ix (qe_var 5) (qe_var 8)))))) qa_nil)))))) (qs_one (qs_ret qe_bl)) qs_nil)
    (qs_one (qs_for (passes_of rfl) rfl (qi_seq (qe_var 9)) (qg_name 10 S_law_way_places.nd) (qs_one (qs_drop (qe_append (qe_ix (qe_var 5) (qe_var 8)) (qa_cons (qe_var 10) qa_nil)))))))))))))
    (qs_one (qs_ret qe_bl)))))))
def N_wrong_piece : List Str := ["trade", "things", "at", "thing"]
theorem S_wrong_piece : FnScope N_wrong_piece ["trade", "things"] (defScope (top 40)) := ⟨rfl, rfl, rfl, by decide +kernel, rfl, by decide +kernel, by decide +kernel⟩
def F_wrong_piece : DS := (sSeq (sIf (bNot (bTru (eMap (isiD "list") (eSlot 1)))) (sRet (eMap numNeg (eC (.int 1)))) sNil)
    (sSeq (sFor (.tp [(.nm 2), (.nm 3)]) (iEnumD (eSlot 1)) (sIf (bNot (bTru (eCallP 2 m_fits (aCons (eSlot 0) (aCons (eSlot 3) aNil))))) (sRet (eSlot 2)) sNil))
    (sRet (eC .non))))
def m_wrong_piece : MD := runM N_wrong_piece.length F_wrong_piece
set_option maxHeartbeats 2000000 in
theorem ok_wrong_piece (B : Bs lfa lfn ltf lex K mg base T) : Cal P w K mg base T "wrong_piece" ["trade", "things"] 4 m_wrong_piece := cal_of (k := 3) (F := F_wrong_piece) (B.d_wrong_piece) S_wrong_piece B.g_wrong_piece (fun _ _ _ _ _ _ us hl => match us, hl with | [_, _], _ => rfl) (fun cdv A outer s H E hr => (qs_cons (qs_if (qt_not (qt_val (qe_isi rfl B.f_isinstance bt_isinstance rfl B.f_list bt_list (qe_var 1)))) (qs_one (qs_ret (qe_neg qe_int))) qs_nil)
    (qs_cons (qs_for (passes_of rfl) rfl (qi_enum rfl B.f_enumerate (qe_var 1)) (qg_tup rfl (qgs_cons (qg_name 2 S_wrong_piece.nd) (qgs_cons (qg_name 3 S_wrong_piece.nd) qgs_nil))) (qs_one (qs_if (qt_not (qt_val (qe_cP (ok_fits B) hr (by decide) rfl (L2N.passes_call (L2N.takes_of rfl rfl rfl rfl) (fun _ _ _ _ h => h)) (qa_cons (qe_var 0) (qa_cons (qe_var 3) qa_nil))))) (qs_one (qs_ret (qe_var 2))) qs_nil)))
    (qs_one (qs_ret qe_non)))))
def N_check_trade : List Str := ["trade"]
theorem S_check_trade : FnScope N_check_trade ["trade"] (defScope (top 41)) := ⟨rfl, rfl, rfl, by decide +kernel, rfl, by decide +kernel, by decide +kernel⟩
def F_check_trade : DS := (sSeq (sIf (bNot (bTru (eCallP 1 m_is_trade (aCons (eSlot 0) aNil)))) (sRaise0 "BadTrade") sNil)
    (sRet (eC (.bl true))))
def m_check_trade : MD := runM N_check_trade.length F_check_trade
set_option maxHeartbeats 2000000 in
theorem ok_check_trade (B : Bs lfa lfn ltf lex K mg base T) : Cal P w K mg base T "check_trade" ["trade"] 4 m_check_trade := cal_of (k := 3) (F := F_check_trade) (B.d_check_trade) S_check_trade B.g_check_trade (fun _ _ _ _ _ _ us hl => match us, hl with | [_], _ => rfl) (fun cdv A outer s H E hr => (qs_cons (qs_if (qt_not (qt_val (qe_cP (ok_is_trade B) hr (by decide) rfl (L2N.passes_call (L2N.takes_of rfl rfl rfl rfl) (fun _ _ _ _ h => h)) (qa_cons (qe_var 0) qa_nil)))) (qs_one (qs_raise0 rfl (L2N.takes_of rfl rfl rfl rfl) B.x_BadTrade rfl B.g_BadTrade)) qs_nil)
    (qs_one (qs_ret qe_bl))))
def N_first_fault : List Str := ["trade", "pieces", "at", "piece", "other", "word"]
theorem S_first_fault : FnScope N_first_fault ["trade", "pieces"] (defScope (top 59)) := ⟨rfl, rfl, rfl, by decide +kernel, rfl, by decide +kernel, by decide +kernel⟩
def F_first_fault : DS := (sSeq (sFor (.tp [(.nm 2), (.nm 3)]) (iEnumD (eSlot 1)) (sFor (.nm 4) (iSeq (eSlice (eSlot 1) (oSome (eOp dAdd (eSlot 2) (eC (.int 1)))) oNone)) (sSeq (sSet 5 (eCallP 3 m_fault_word (aCons (eSlot 0) (aCons (eSlot 3) (aCons (eSlot 4) aNil)))))
    (sIf (bTst (eOp dIsNot (eSlot 5) (eC .non))) (sRet (eTup (aCons (eSlot 5) (aCons (eSlot 3) (aCons (eSlot 4) aNil))))) sNil))))
    (sRet (eC .non)))
def m_first_fault : MD := runM N_first_fault.length F_first_fault
set_option maxHeartbeats 2000000 in
theorem ok_first_fault (B : Bs lfa lfn ltf lex K mg base T) : Cal P w K mg base T "first_fault" ["trade", "pieces"] 4 m_first_fault := cal_of (k := 3) (F := F_first_fault) (B.d_first_fault) S_first_fault B.g_first_fault (fun _ _ _ _ _ _ us hl => match us, hl with | [_, _], _ => rfl) (fun cdv A outer s H E hr => (qs_cons (qs_for (passes_of rfl) rfl (qi_enum rfl B.f_enumerate (qe_var 1)) (qg_tup rfl (qgs_cons (qg_name 2 S_first_fault.nd) (qgs_cons (qg_name 3 S_first_fault.nd) qgs_nil))) (qs_one (qs_for (passes_of rfl) rfl (qi_seq (qe_slice (qe_var 1) (qo_some (qe_op qop_add (qe_var 2) qe_int)) qo_none)) (qg_name 4 S_first_fault.nd) (qs_cons (qs_set 5 S_first_fault.nd (qe_cP (ok_fault_word B) hr (by decide) rfl (L2N.passes_call (L2N.takes_of rfl rfl rfl rfl) (fun _ _ _ _ h => h)) (qa_cons (qe_var 0) (qa_cons (qe_var 3) (qa_cons (qe_var 4) qa_nil)))))
    (qs_one (qs_if (qt_cmp qop_isnot (qe_var 5) qe_non) (qs_one (qs_ret (qe_tup (qa_cons (qe_var 5) (qa_cons (qe_var 3) (qa_cons (qe_var 4) qa_nil)))))) qs_nil))))))
    (qs_one (qs_ret qe_non))))
def N_law_number : List Str := ["store", "low", "high"]
theorem S_law_number : FnScope N_law_number ["store", "low", "high"] (defScope (top 77)) := ⟨rfl, rfl, rfl, by decide +kernel, rfl, by decide +kernel, by decide +kernel⟩
def F_law_number : DS := (sSeq (sIf (bTst (eOp dLe (eSlot 2) (eSlot 1))) (sRet (eSlot 1)) sNil)
    (sSeq (sIf (bTru (eCallM 2 m_law_odds (aCons (eSlot 0) (aCons (eC (.int 3)) aNil)))) (sRet (eOp dIx (eLst (aCons (eSlot 1) (aCons (eSlot 2) (aCons (eOp dAdd (eSlot 1) (eC (.int 1))) (aCons (eOp dSub (eSlot 2) (eC (.int 1))) aNil))))) (eCallM 2 m_law_take (aCons (eSlot 0) (aCons (eC (.int 4)) aNil))))) sNil)
    (sRet (eOp dAdd (eSlot 1) (eCallM 2 m_law_take (aCons (eSlot 0) (aCons (eOp dAdd (eOp dSub (eSlot 2) (eSlot 1)) (eC (.int 1))) aNil)))))))
def m_law_number : MD := runM N_law_number.length F_law_number
set_option maxHeartbeats 2000000 in
theorem ok_law_number (B : Bs lfa lfn ltf lex K mg base T) : Cal P w K mg base T "_law_number" ["store", "low", "high"] 4 m_law_number := cal_of (k := 3) (F := F_law_number) (B.d_law_number) S_law_number B.g__law_number (fun _ _ _ _ _ _ us hl => match us, hl with | [_, _, _], _ => rfl) (fun cdv A outer s H E hr => (qs_cons (qs_if (qt_cmp qop_le (qe_var 2) (qe_var 1)) (qs_one (qs_ret (qe_var 1))) qs_nil)
    (qs_cons (qs_if (qt_val (qe_cM (ok_law_odds B) hr (by decide) rfl (L2N.passes_call (L2N.takes_of rfl rfl rfl rfl) (fun _ _ _ _ h => h)) (qa_cons (qe_var 0) (qa_cons qe_int qa_nil)))) (qs_one (qs_ret (qe_ix (qe_lst (qa_cons (qe_var 1) (qa_cons (qe_var 2) (qa_cons (qe_op qop_add (qe_var 1) qe_int) (qa_cons (qe_op qop_sub (qe_var 2) qe_int) qa_nil))))) (qe_cM (ok_law_take B) hr (by decide) rfl (L2N.passes_call (L2N.takes_of rfl rfl rfl rfl) (fun _ _ _ _ h => h)) (qa_cons (qe_var 0) (qa_cons qe_int qa_nil)))))) qs_nil)
    (qs_one (qs_ret (qe_op qop_add (qe_var 1) (qe_cM (ok_law_take B) hr (by decide) rfl (L2N.passes_call (L2N.takes_of rfl rfl rfl rfl) (fun _ _ _ _ h => h)) (qa_cons (qe_var 0) (qa_cons (qe_op qop_add (qe_op qop_sub (qe_var 2) (qe_var 1)) qe_int) qa_nil)))))))))
def N_law_spoilt : List Str := ["store", "things", "bads", "at", "row"]
theorem S_law_spoilt : FnScope N_law_spoilt ["store", "things", "bads"] (defScope (top 82)) := ⟨rfl, rfl, rfl, by decide +kernel, rfl, by decide +kernel, by decide +kernel⟩
def F_law_spoilt : DS := (sSeq (sIf (bTru (eCallM 2 m_law_odds (aCons (eSlot 0) (aCons (eC (.int 6)) aNil)))) (sRet (eTup (aCons (eCallM 2 m_law_pick (aCons (eSlot 0) (aCons (eLst (aCons (eCall (fn1 toTup) (aCons (eSlot 1) aNil)) (aCons (eC .non) (aCons (eC (.int 0)) (aCons (eC (.bl true)) (aCons (eC (.str "")) (aCons (eC (.str "-")) (aCons (eC (.str "0+1")) (aCons (eTup aNil) aNil))))))))) aNil))) (aCons (eMap numNeg (eC (.int 1))) aNil)))) sNil)
    (sSeq (sSet 3 (eCallM 2 m_law_take (aCons (eSlot 0) (aCons (eOp dAdd (eCall (fn1 lenD) (aCons (eSlot 1) aNil)) (eC (.int 1))) aNil))))
    (sSeq (sSet 4 (eNew (fList (eSlot 1))))
    (sSeq (sDrop (eMth mInsert (eSlot 4) (aCons (eSlot 3) (aCons (eCallM 2 m_law_pick (aCons (eSlot 0) (aCons (eSlot 2) aNil))) aNil))))
    (sSeq (sIf (bTru (eCallM 2 m_law_odds (aCons (eSlot 0) (aCons (eC (.int 3)) aNil)))) (sDrop (eMth mAppend (eSlot 4) (aCons (eCallM 2 m_law_pick (aCons (eSlot 0) (aCons (eSlot 2) aNil))) aNil))) sNil)
    (sRet (eTup (aCons (eFrz (eSlot 4)) (aCons (eSlot 3) aNil)))))))))
def m_law_spoilt : MD := runM N_law_spoilt.length F_law_spoilt
set_option maxHeartbeats 2000000 in
theorem ok_law_spoilt (B : Bs lfa lfn ltf lex K mg base T) : Cal P w K mg base T "_law_spoilt" ["store", "things", "bads"] 4 m_law_spoilt := cal_of (k := 3) (F := F_law_spoilt) (B.d_law_spoilt) S_law_spoilt B.g__law_spoilt (fun _ _ _ _ _ _ us hl => match us, hl with | [_, _, _], _ => rfl) (fun cdv A outer s H E hr => (qs_cons (qs_if (qt_val (qe_cM (ok_law_odds B) hr (by decide) rfl (L2N.passes_call (L2N.takes_of rfl rfl rfl rfl) (fun _ _ _ _ h => h)) (qa_cons (qe_var 0) (qa_cons qe_int qa_nil)))) (qs_one (qs_ret (qe_tup (qa_cons (qe_cM (ok_law_pick B) hr (by decide) rfl (L2N.passes_call (L2N.takes_of rfl rfl rfl rfl) (fun _ _ _ _ h => h)) (qa_cons (qe_var 0) (qa_cons (qe_lst (qa_cons (qe_callTy qcall_tuple rfl B.f_tuple bt_tuple (qa_cons (qe_var 1) qa_nil)) (qa_cons qe_non (qa_cons qe_int (qa_cons qe_bl (qa_cons qe_str (qa_cons qe_str (qa_cons qe_str (qa_cons (qe_tup qa_nil) qa_nil))))))))) qa_nil))) (qa_cons (qe_neg qe_int) qa_nil))))) qs_nil)
    (qs_cons (qs_set 3 S_law_spoilt.nd (qe_cM (ok_law_take B) hr (by decide) rfl (L2N.passes_call (L2N.takes_of rfl rfl rfl rfl) (fun _ _ _ _ h => h)) (qa_cons (qe_var 0) (qa_cons (qe_op qop_add (qe_callB qcall_len rfl B.f_len bt_len (qa_cons (qe_var 1) qa_nil)) qe_int) qa_nil))))
    (qs_cons (qs_set 4 S_law_spoilt.nd (qe_new (qf_list rfl B.f_list bt_list (qe_var 1))))
    (qs_cons (qs_drop (qe_insert (qe_var 4) (qa_cons (qe_var 3) (qa_cons (qe_cM (ok_law_pick B) hr (by decide) rfl (L2N.passes_call (L2N.takes_of rfl rfl rfl rfl) (fun _ _ _ _ h => h)) (qa_cons (qe_var 0) (qa_cons (qe_var 2) qa_nil))) qa_nil))))
    (qs_cons (qs_if (qt_val (qe_cM (ok_law_odds B) hr (by decide) rfl (L2N.passes_call (L2N.takes_of rfl rfl rfl rfl) (fun _ _ _ _ h => h)) (qa_cons (qe_var 0) (qa_cons qe_int qa_nil)))) (qs_one (qs_drop (qe_append (qe_var 4) (qa_cons (qe_cM (ok_law_pick B) hr (by decide) rfl (L2N.passes_call (L2N.takes_of rfl rfl rfl rfl) (fun _ _ _ _ h => h)) (qa_cons (qe_var 0) (qa_cons (qe_var 2) qa_nil))) qa_nil)))) qs_nil)
    (qs_one (qs_ret (qe_tup (qa_cons (qe_frz (qe_var 4)) (qa_cons (qe_var 3) qa_nil)))))))))))
def N_law_wrong : List Str := ["store", "trade", "n", "near", "kind"]
theorem S_law_wrong : FnScope N_law_wrong ["store", "trade"] (defScope (top 90)) := ⟨rfl, rfl, rfl, by decide +kernel, rfl, by decide +kernel, by decide +kernel⟩
def F_law_wrong : DS := (sSeq (sIf (bTst (eOp dIn (eOp dIx (eSlot 1) (eC (.int 0))) (eTup (aCons (eC (.str "line")) (aCons (eC (.str "round")) aNil))))) (sSeq (sSet 2 (eOp dIx (eSlot 1) (eC (.int 1))))
    (sSeq (sSet 3 (eLst (aCons (eTup (aCons (eC (.int 0)) (aCons (eOp dAdd (eSlot 2) (eC (.int 1))) aNil))) (aCons (eTup (aCons (eSlot 2) (aCons (eC (.int 1)) aNil))) (aCons (eTup (aCons (eMap numNeg (eC (.int 1))) (aCons (eC (.int 1)) aNil))) (aCons (eTup (aCons (eC (.int 1)) (aCons (eSlot 2) aNil))) (aCons (eTup (aCons (eC (.int 0)) (aCons (eC (.int 0)) aNil))) (aCons (eTup (aCons (eC (.int 0)) (aCons (eC (.bl true)) aNil))) (aCons (eTup (aCons (eC (.bl false)) (aCons (eC (.int 1)) aNil))) (aCons (eLst (aCons (eC (.int 0)) (aCons (eC (.int 1)) aNil))) (aCons (eTup (aCons (eC (.int 0)) aNil)) (aCons (eTup (aCons (eC (.int 0)) (aCons (eC (.int 1)) (aCons (eC (.int 1)) aNil)))) (aCons (eC (.str "0+1")) aNil)))))))))))))
    (sRet (eCallM 2 m_law_pick (aCons (eSlot 0) (aCons (eOp dAdd (eSlot 3) (eLst (aCons (eC .non) (aCons (eC (.int 1)) (aCons (eTup (aCons (eC (.str "0")) (aCons (eC (.int 1)) aNil))) aNil))))) aNil)))))) sNil)
    (sSeq (sIf (bTst (eOp dEq (eOp dIx (eSlot 1) (eC (.int 0))) (eC (.str "packing")))) (sSeq (sSet 4 (eOp dIx (eCallM 2 m_law_pick (aCons (eSlot 0) (aCons (eOp dIx (eSlot 1) (eC (.int 1))) aNil))) (eC (.int 0))))
    (sRet (eCallM 2 m_law_pick (aCons (eSlot 0) (aCons (eLst (aCons (eOp dAdd (eC (.str "Z")) (eSlot 4)) (aCons (eOp dAdd (eSlot 4) (eC (.str " "))) (aCons (eC (.str "")) (aCons (eTup (aCons (eSlot 4) aNil)) (aCons (eLst (aCons (eSlot 4) aNil)) (aCons (eC .non) (aCons (eC (.bl true)) (aCons (eC (.int 0)) (aCons (eC (.int 1)) (aCons (eTup (aCons (eC (.int 0)) (aCons (eC (.int 1)) aNil))) aNil))))))))))) aNil))))) sNil)
    (sRet (eCallM 2 m_law_pick (aCons (eSlot 0) (aCons (eLst (aCons (eC (.int 0)) (aCons (eMap numNeg (eC (.int 1))) (aCons (eOp dAdd (eOp dPow (eC (.int 10)) (eC (.int 6))) (eC (.int 1))) (aCons (eC (.bl true)) (aCons (eC (.bl false)) (aCons (eC .non) (aCons (eC (.str "1")) (aCons (eC (.str "")) (aCons (eLst (aCons (eC (.int 1)) aNil)) (aCons (eTup (aCons (eC (.int 1)) aNil)) (aCons (eTup (aCons (eC (.int 1)) (aCons (eC (.int 1)) aNil))) (aCons (eC (.int 999999999999)) aNil))))))))))))) aNil))))))
def m_law_wrong : MD := runM N_law_wrong.length F_law_wrong
set_option maxHeartbeats 2000000 in
theorem ok_law_wrong (B : Bs lfa lfn ltf lex K mg base T) : Cal P w K mg base T "_law_wrong" ["store", "trade"] 4 m_law_wrong := cal_of (k := 3) (F := F_law_wrong) (B.d_law_wrong) S_law_wrong B.g__law_wrong (fun _ _ _ _ _ _ us hl => match us, hl with | [_, _], _ => rfl) (fun cdv A outer s H E hr => (qs_cons (qs_if (qt_cmp (qop_in (hu_of hr)) (qe_ix (qe_var 1) qe_int) (qe_tup (qa_cons qe_str (qa_cons qe_str qa_nil)))) (qs_cons (qs_set 2 S_law_wrong.nd (qe_ix (qe_var 1) qe_int))
    (qs_cons (qs_set 3 S_law_wrong.nd (qe_lst (qa_cons (qe_tup (qa_cons qe_int (qa_cons (qe_op qop_add (qe_var 2) qe_int) qa_nil))) (qa_cons (qe_tup (qa_cons (qe_var 2) (qa_cons qe_int qa_nil))) (qa_cons (qe_tup (qa_cons (qe_neg qe_int) (qa_cons qe_int qa_nil))) (qa_cons (qe_tup (qa_cons qe_int (qa_cons (qe_var 2) qa_nil))) (qa_cons (qe_tup (qa_cons qe_int (qa_cons qe_int qa_nil))) (qa_cons (qe_tup (qa_cons qe_int (qa_cons qe_bl qa_nil))) (qa_cons (qe_tup (qa_cons qe_bl (qa_cons qe_int qa_nil))) (qa_cons (qe_lst (qa_cons qe_int (qa_cons qe_int qa_nil))) (qa_cons (qe_tup (qa_cons qe_int qa_nil)) (qa_cons (qe_tup (qa_cons qe_int (qa_cons qe_int (qa_cons qe_int qa_nil)))) (qa_cons qe_str qa_nil)))))))))))))
    (qs_one (qs_ret (qe_cM (ok_law_pick B) hr (by decide) rfl (L2N.passes_call (L2N.takes_of rfl rfl rfl rfl) (fun _ _ _ _ h => h)) (qa_cons (qe_var 0) (qa_cons (qe_op qop_add (qe_var 3) (qe_lst (qa_cons qe_non (qa_cons qe_int (qa_cons (qe_tup (qa_cons qe_str (qa_cons qe_int qa_nil))) qa_nil))))) qa_nil))))))) qs_nil)
    (qs_cons (qs_if (qt_cmp (qop_eq (hu_of hr)) (qe_ix (qe_var 1) qe_int) qe_str) (qs_cons (qs_set 4 S_law_wrong.nd (qe_ix (qe_cM (ok_law_pick B) hr (by decide) rfl (L2N.passes_call (L2N.takes_of rfl rfl rfl rfl) (fun _ _ _ _ h => h)) (qa_cons (qe_var 0) (qa_cons (qe_ix (qe_var 1) qe_int) qa_nil))) qe_int))
    (qs_one (qs_ret (qe_cM (ok_law_pick B) hr (by decide) rfl (L2N.passes_call (L2N.takes_of rfl rfl rfl rfl) (fun _ _ _ _ h => h)) (qa_cons (qe_var 0) (qa_cons (qe_lst (qa_cons (qe_op qop_add qe_str (qe_var 4)) (qa_cons (qe_op qop_add (qe_var 4) qe_str) (qa_cons qe_str (qa_cons (qe_tup (qa_cons (qe_var 4) qa_nil)) (qa_cons (qe_lst (qa_cons (qe_var 4) qa_nil)) (qa_cons qe_non (qa_cons qe_bl (qa_cons qe_int (qa_cons qe_int (qa_cons (qe_tup (qa_cons qe_int (qa_cons qe_int qa_nil))) qa_nil))))))))))) qa_nil)))))) qs_nil)
    (qs_one (qs_ret (qe_cM (ok_law_pick B) hr (by decide) rfl (L2N.passes_call (L2N.takes_of rfl rfl rfl rfl) (fun _ _ _ _ h => h)) (qa_cons (qe_var 0) (qa_cons (qe_lst (qa_cons qe_int (qa_cons (qe_neg qe_int) (qa_cons (qe_op qop_add (qe_op qop_pow qe_int qe_int) qe_int) (qa_cons qe_bl (qa_cons qe_bl (qa_cons qe_non (qa_cons qe_str (qa_cons qe_str (qa_cons (qe_lst (qa_cons qe_int qa_nil)) (qa_cons (qe_tup (qa_cons qe_int qa_nil)) (qa_cons (qe_tup (qa_cons qe_int (qa_cons qe_int qa_nil))) (qa_cons qe_int qa_nil))))))))))))) qa_nil))))))))
def N_law_untrade : List Str := ["store", "trade", "near"]
theorem S_law_untrade : FnScope N_law_untrade ["store", "trade"] (defScope (top 91)) := ⟨rfl, rfl, rfl, by decide +kernel, rfl, by decide +kernel, by decide +kernel⟩
def F_law_untrade : DS := (sSeq (sSet 2 (eLst (aCons (eTup (aCons (eOp dIx (eSlot 1) (eC (.int 0))) aNil)) (aCons (eVal (fList (eSlot 1))) (aCons (eOp dAdd (eSlot 1) (eTup (aCons (eC (.int 0)) aNil))) (aCons (eTup (aCons (eOp dAdd (eOp dIx (eSlot 1) (eC (.int 0))) (eC (.str "s"))) (aCons (eOp dIx (eSlot 1) (eC (.int 1))) aNil))) (aCons (eTup (aCons (eC (.str "line")) (aCons (eC (.int 25)) aNil))) (aCons (eTup (aCons (eC (.str "round")) (aCons (eC (.int 0)) aNil))) (aCons (eTup (aCons (eC (.str "till")) (aCons (eC (.int 1)) aNil))) aNil)))))))))
    (sRet (eCallM 2 m_law_pick (aCons (eSlot 0) (aCons (eOp dAdd (eSlot 2) (eLst (aCons (eTup (aCons (eC (.str "yard")) (aCons (eC (.int 100)) aNil))) (aCons (eTup (aCons (eC (.str "packing")) (aCons (eTup aNil) aNil))) (aCons (eTup (aCons (eC (.str "packing")) (aCons (eTup (aCons (eTup (aCons (eC (.str "q")) (aCons (eTup (aCons (eC (.str "q")) (aCons (eC (.str "q")) aNil))) aNil))) aNil)) aNil))) (aCons (eOp dIx (eSlot 1) (eC (.int 0))) (aCons (eC .non) aNil))))))) aNil)))))
def m_law_untrade : MD := runM N_law_untrade.length F_law_untrade
set_option maxHeartbeats 2000000 in
theorem ok_law_untrade (B : Bs lfa lfn ltf lex K mg base T) : Cal P w K mg base T "_law_untrade" ["store", "trade"] 4 m_law_untrade := cal_of (k := 3) (F := F_law_untrade) (B.d_law_untrade) S_law_untrade B.g__law_untrade (fun _ _ _ _ _ _ us hl => match us, hl with | [_, _], _ => rfl) (fun cdv A outer s H E hr => (qs_cons (qs_set 2 S_law_untrade.nd (qe_lst (qa_cons (qe_tup (qa_cons (qe_ix (qe_var 1) qe_int) qa_nil)) (qa_cons (qe_val (qf_list rfl B.f_list bt_list (qe_var 1))) (qa_cons (qe_op qop_add (qe_var 1) (qe_tup (qa_cons qe_int qa_nil))) (qa_cons (qe_tup (qa_cons (qe_op qop_add (qe_ix (qe_var 1) qe_int) qe_str) (qa_cons (qe_ix (qe_var 1) qe_int) qa_nil))) (qa_cons (qe_tup (qa_cons qe_str (qa_cons qe_int qa_nil))) (qa_cons (qe_tup (qa_cons qe_str (qa_cons qe_int qa_nil))) (qa_cons (qe_tup (qa_cons qe_str (qa_cons qe_int qa_nil))) qa_nil)))))))))
    (qs_one (qs_ret (qe_cM (ok_law_pick B) hr (by decide) rfl (L2N.passes_call (L2N.takes_of rfl rfl rfl rfl) (fun _ _ _ _ h => h)) (qa_cons (qe_var 0) (qa_cons (qe_op qop_add (qe_var 2) (qe_lst (qa_cons (qe_tup (qa_cons qe_str (qa_cons qe_int qa_nil))) (qa_cons (qe_tup (qa_cons qe_str (qa_cons (qe_tup qa_nil) qa_nil))) (qa_cons (qe_tup (qa_cons qe_str (qa_cons (qe_tup (qa_cons (qe_tup (qa_cons qe_str (qa_cons (qe_tup (qa_cons qe_str (qa_cons qe_str qa_nil))) qa_nil))) qa_nil)) qa_nil))) (qa_cons (qe_ix (qe_var 1) qe_int) (qa_cons qe_non qa_nil))))))) qa_nil)))))))
end Qv

/-! ## K78W5 -/
set_option Elab.async false
set_option linter.all false
set_option maxRecDepth 100000
set_option maxHeartbeats 1000000
/-! the walk, 5: law_k78_deal_is_a_way (printed by genwalk.py) -/
namespace Qv
open PySem PySem.Spec PyProof.Rows L2
variable {P : Program} {w : World} {K : PySem.W.Frag} {mg : Str → Option Value} {base : Heap} {T : List (Addr × Str)}
def N_law_more : List Str := ["store", "trade", "stock", "asks", "free", "piece", "leg", "ask"]
theorem S_law_more : FnScope N_law_more ["store", "trade", "stock", "asks"] (defScope (top 95)) := ⟨rfl, rfl, rfl, by decide +kernel, rfl, by decide +kernel, by decide +kernel⟩
def F_law_more : DS := (sSeq (sSet 4 (eNew (fRep (eLst (aCons (eC (.int 0)) aNil)) (eOp dIx (eSlot 1) (eC (.int 1))))))
    (sSeq (sFor (.nm 5) (iSeq (eSlot 2)) (sFor (.nm 6) (iSeq (eCallP 2 m_law_legs (aCons (eSlot 1) (aCons (eSlot 5) aNil)))) (sStore (eSlot 4) (eSlot 6) (eOp dAdd (eOp dIx (eSlot 4) (eSlot 6)) (eC (.int 1))))))
    (sSeq (sFor (.nm 7) (iSeq (eSlot 3)) (sFor (.nm 6) (iSeq (eCallP 2 m_law_legs (aCons (eSlot 1) (aCons (eSlot 7) aNil)))) (sStore (eSlot 4) (eSlot 6) (eOp dSub (eOp dIx (eSlot 4) (eSlot 6)) (eC (.int 1))))))
    (sRet (eTup (aCons (eCallM 2 m_law_pick (aCons (eSlot 0) (aCons (eOp dAdd (eVal (fComp (.nm 6) (([("leg", 6)] : List (Str × Nat)).map (·.2)) (iRange1 (eOp dIx (eSlot 1) (eC (.int 1)))) (bTst (eOp dEq (eOp dIx (eSlot 4) (eSlot 6)) (eC (.int 0)))) (eSlot 6))) (eLst (aCons (eMap numNeg (eC (.int 1))) aNil))) aNil))) (aCons (eC (.int 1)) aNil)))))))
def m_law_more : MD := runM N_law_more.length F_law_more
set_option maxHeartbeats 2000000 in
theorem ok_law_more (B : Bs lfa lfn ltf lex K mg base T) : Cal P w K mg base T "_law_more" ["store", "trade", "stock", "asks"] 4 m_law_more := cal_of (k := 3) (F := F_law_more) (B.d_law_more) S_law_more B.g__law_more (fun _ _ _ _ _ _ us hl => match us, hl with | [_, _, _, _], _ => rfl) (fun cdv A outer s H E hr => (qs_cons (qs_set 4 S_law_more.nd (qe_new (qf_rep (qe_lst (qa_cons qe_int qa_nil)) (qe_ix (qe_var 1) qe_int))))
    (qs_cons (qs_for (passes_of rfl) rfl (qi_seq (qe_var 2)) (qg_name 5 S_law_more.nd) (qs_one (qs_for (passes_of rfl) rfl (qi_seq (qe_cP (ok_law_legs B) hr (by decide) rfl (L2N.passes_call (L2N.takes_of rfl rfl rfl rfl) (fun _ _ _ _ h => h)) (qa_cons (qe_var 1) (qa_cons (qe_var 5) qa_nil)))) (qg_name 6 S_law_more.nd) (qs_one (qs_store (qe_op qop_add (qe_ix (qe_var 4) (qe_var 6)) qe_int) (qe_var 4) (qe_var 6))))))
    (qs_cons (qs_for (passes_of rfl) rfl (qi_seq (qe_var 3)) (qg_name 7 S_law_more.nd) (qs_one (qs_for (passes_of rfl) rfl (qi_seq (qe_cP (ok_law_legs B) hr (by decide) rfl (L2N.passes_call (L2N.takes_of rfl rfl rfl rfl) (fun _ _ _ _ h => h)) (qa_cons (qe_var 1) (qa_cons (qe_var 7) qa_nil)))) (qg_name 6 S_law_more.nd) (qs_one (qs_store (qe_op qop_sub (qe_ix (qe_var 4) (qe_var 6)) qe_int) (qe_var 4) (qe_var 6))))))
    (qs_one (qs_ret (qe_tup (qa_cons (qe_cM (ok_law_pick B) hr (by decide) rfl (L2N.passes_call (L2N.takes_of rfl rfl rfl rfl) (fun _ _ _ _ h => h)) (qa_cons (qe_var 0) (qa_cons (qe_op qop_add (qe_val (qf_lc [("leg", 6)] rfl S_law_more.nd (qi_range1 rfl B.f_range (qe_ix (qe_var 1) qe_int)) (blk_of rfl) (fun _ _ _ _ _ => (qg_name 6 S_law_more.nd)) (fun _ _ _ _ _ => (qts_one (qt_cmp (qop_eq (hu_of hr)) (qe_ix (qe_var 4) (qe_var 6)) qe_int))) (fun _ _ _ _ _ => (qe_var 6)))) (qe_lst (qa_cons (qe_neg qe_int) qa_nil))) qa_nil))) (qa_cons qe_int qa_nil)))))))))
def N_check_stock : List Str := ["trade", "stock", "at"]
theorem S_check_stock : FnScope N_check_stock ["trade", "stock"] (defScope (top 42)) := ⟨rfl, rfl, rfl, by decide +kernel, rfl, by decide +kernel, by decide +kernel⟩
def F_check_stock : DS := (sSeq (sDrop (eCallP 1 m_check_trade (aCons (eSlot 0) aNil)))
    (sSeq (sSet 2 (eCallP 2 m_wrong_piece (aCons (eSlot 0) (aCons (eSlot 1) aNil))))
    (sSeq (sIf (bTst (eOp dIsNot (eSlot 2) (eC .non))) (sRaise1 "BadStock" "at" (aCons (eSlot 2) aNil)) sNil)
    (sRet (eCall (fn1 sortD) (aCons (eSlot 1) aNil))))))
def m_check_stock : MD := runM N_check_stock.length F_check_stock
set_option maxHeartbeats 2000000 in
theorem ok_check_stock (B : Bs lfa lfn ltf lex K mg base T) : Cal P w K mg base T "check_stock" ["trade", "stock"] 5 m_check_stock := cal_of (k := 4) (F := F_check_stock) (B.d_check_stock) S_check_stock B.g_check_stock (fun _ _ _ _ _ _ us hl => match us, hl with | [_, _], _ => rfl) (fun cdv A outer s H E hr => (qs_cons (qs_drop (qe_cP (ok_check_trade B) hr (by decide) rfl (L2N.passes_call (L2N.takes_of rfl rfl rfl rfl) (fun _ _ _ _ h => h)) (qa_cons (qe_var 0) qa_nil)))
    (qs_cons (qs_set 2 S_check_stock.nd (qe_cP (ok_wrong_piece B) hr (by decide) rfl (L2N.passes_call (L2N.takes_of rfl rfl rfl rfl) (fun _ _ _ _ h => h)) (qa_cons (qe_var 0) (qa_cons (qe_var 1) qa_nil))))
    (qs_cons (qs_if (qt_cmp qop_isnot (qe_var 2) qe_non) (qs_one (oexR B (B.o_BadStock) hr (L2N.takes_of rfl rfl rfl rfl) rfl B.g_BadStock (B.in_BadStock) (qa_cons (qe_var 2) qa_nil))) qs_nil)
    (qs_one (qs_ret (qe_callB (qcall_sorted (hu_of hr)) rfl B.f_sorted bt_sorted (qa_cons (qe_var 1) qa_nil))))))))
def N_check_asks : List Str := ["trade", "asks", "at"]
theorem S_check_asks : FnScope N_check_asks ["trade", "asks"] (defScope (top 43)) := ⟨rfl, rfl, rfl, by decide +kernel, rfl, by decide +kernel, by decide +kernel⟩
def F_check_asks : DS := (sSeq (sDrop (eCallP 1 m_check_trade (aCons (eSlot 0) aNil)))
    (sSeq (sSet 2 (eCallP 2 m_wrong_piece (aCons (eSlot 0) (aCons (eSlot 1) aNil))))
    (sSeq (sIf (bTst (eOp dIsNot (eSlot 2) (eC .non))) (sRaise1 "BadAsk" "at" (aCons (eSlot 2) aNil)) sNil)
    (sRet (eVal (fList (eSlot 1)))))))
def m_check_asks : MD := runM N_check_asks.length F_check_asks
set_option maxHeartbeats 2000000 in
theorem ok_check_asks (B : Bs lfa lfn ltf lex K mg base T) : Cal P w K mg base T "check_asks" ["trade", "asks"] 5 m_check_asks := cal_of (k := 4) (F := F_check_asks) (B.d_check_asks) S_check_asks B.g_check_asks (fun _ _ _ _ _ _ us hl => match us, hl with | [_, _], _ => rfl) (fun cdv A outer s H E hr => (qs_cons (qs_drop (qe_cP (ok_check_trade B) hr (by decide) rfl (L2N.passes_call (L2N.takes_of rfl rfl rfl rfl) (fun _ _ _ _ h => h)) (qa_cons (qe_var 0) qa_nil)))
    (qs_cons (qs_set 2 S_check_asks.nd (qe_cP (ok_wrong_piece B) hr (by decide) rfl (L2N.passes_call (L2N.takes_of rfl rfl rfl rfl) (fun _ _ _ _ h => h)) (qa_cons (qe_var 0) (qa_cons (qe_var 1) qa_nil))))
    (qs_cons (qs_if (qt_cmp qop_isnot (qe_var 2) qe_non) (qs_one (oexR B (B.o_BadAsk) hr (L2N.takes_of rfl rfl rfl rfl) rfl B.g_BadAsk (B.in_BadAsk) (qa_cons (qe_var 2) qa_nil))) qs_nil)
    (qs_one (qs_ret (qe_val (qf_list rfl B.f_list bt_list (qe_var 1)))))))))
def N_check_hall : List Str := ["trade"]
theorem S_check_hall : FnScope N_check_hall ["trade"] (defScope (top 54)) := ⟨rfl, rfl, rfl, by decide +kernel, rfl, by decide +kernel, by decide +kernel⟩
def F_check_hall : DS := (sSeq (sDrop (eCallP 1 m_check_trade (aCons (eSlot 0) aNil)))
    (sIf (bAnd (bTst (eOp dNe (eOp dIx (eSlot 0) (eC (.int 0))) (eC (.str "line")))) (bTst (eOp dNe (eOp dIx (eSlot 0) (eC (.int 0))) (eC (.str "round"))))) (sRaise0 "BadShape") sNil))
def m_check_hall : MD := runM N_check_hall.length F_check_hall
set_option maxHeartbeats 2000000 in
theorem ok_check_hall (B : Bs lfa lfn ltf lex K mg base T) : Cal P w K mg base T "check_hall" ["trade"] 5 m_check_hall := cal_of (k := 4) (F := F_check_hall) (B.d_check_hall) S_check_hall B.g_check_hall (fun _ _ _ _ _ _ us hl => match us, hl with | [_], _ => rfl) (fun cdv A outer s H E hr => (qs_cons (qs_drop (qe_cP (ok_check_trade B) hr (by decide) rfl (L2N.passes_call (L2N.takes_of rfl rfl rfl rfl) (fun _ _ _ _ h => h)) (qa_cons (qe_var 0) qa_nil)))
    (qs_one (qs_if (QW.qt (qw_and (qt_cmp (qop_ne (hu_of hr)) (qe_ix (qe_var 0) qe_int) qe_str) (qw_and1 (qt_cmp (qop_ne (hu_of hr)) (qe_ix (qe_var 0) qe_int) qe_str)))) (qs_one (qs_raise0 rfl (L2N.takes_of rfl rfl rfl rfl) B.x_BadShape rfl B.g_BadShape)) qs_nil))))
def N_check_line_counting : List Str := ["trade"]
theorem S_check_line_counting : FnScope N_check_line_counting ["trade"] (defScope (top 55)) := ⟨rfl, rfl, rfl, by decide +kernel, rfl, by decide +kernel, by decide +kernel⟩
def F_check_line_counting : DS := (sSeq (sDrop (eCallP 1 m_check_trade (aCons (eSlot 0) aNil)))
    (sIf (bTst (eOp dNe (eOp dIx (eSlot 0) (eC (.int 0))) (eC (.str "line")))) (sRaise0 "BadShape") sNil))
def m_check_line_counting : MD := runM N_check_line_counting.length F_check_line_counting
set_option maxHeartbeats 2000000 in
theorem ok_check_line_counting (B : Bs lfa lfn ltf lex K mg base T) : Cal P w K mg base T "check_line_counting" ["trade"] 5 m_check_line_counting := cal_of (k := 4) (F := F_check_line_counting) (B.d_check_line_counting) S_check_line_counting B.g_check_line_counting (fun _ _ _ _ _ _ us hl => match us, hl with | [_], _ => rfl) (fun cdv A outer s H E hr => (qs_cons (qs_drop (qe_cP (ok_check_trade B) hr (by decide) rfl (L2N.passes_call (L2N.takes_of rfl rfl rfl rfl) (fun _ _ _ _ h => h)) (qa_cons (qe_var 0) qa_nil)))
    (qs_one (qs_if (qt_cmp (qop_ne (hu_of hr)) (qe_ix (qe_var 0) qe_int) qe_str) (qs_one (qs_raise0 rfl (L2N.takes_of rfl rfl rfl rfl) B.x_BadShape rfl B.g_BadShape)) qs_nil))))
def N_check_line_deals : List Str := ["trade"]
theorem S_check_line_deals : FnScope N_check_line_deals ["trade"] (defScope (top 64)) := ⟨rfl, rfl, rfl, by decide +kernel, rfl, by decide +kernel, by decide +kernel⟩
def F_check_line_deals : DS := (sSeq (sDrop (eCallP 1 m_check_trade (aCons (eSlot 0) aNil)))
    (sIf (bTst (eOp dNe (eOp dIx (eSlot 0) (eC (.int 0))) (eC (.str "line")))) (sRaise0 "BadShape") sNil))
def m_check_line_deals : MD := runM N_check_line_deals.length F_check_line_deals
set_option maxHeartbeats 2000000 in
theorem ok_check_line_deals (B : Bs lfa lfn ltf lex K mg base T) : Cal P w K mg base T "check_line_deals" ["trade"] 5 m_check_line_deals := cal_of (k := 4) (F := F_check_line_deals) (B.d_check_line_deals) S_check_line_deals B.g_check_line_deals (fun _ _ _ _ _ _ us hl => match us, hl with | [_], _ => rfl) (fun cdv A outer s H E hr => (qs_cons (qs_drop (qe_cP (ok_check_trade B) hr (by decide) rfl (L2N.passes_call (L2N.takes_of rfl rfl rfl rfl) (fun _ _ _ _ h => h)) (qa_cons (qe_var 0) qa_nil)))
    (qs_one (qs_if (qt_cmp (qop_ne (hu_of hr)) (qe_ix (qe_var 0) qe_int) qe_str) (qs_one (qs_raise0 rfl (L2N.takes_of rfl rfl rfl rfl) B.x_BadShape rfl B.g_BadShape)) qs_nil))))
def N_law_counting : List Str := ["store", "trade", "many", "n", "at", "stock", "k", "end", "cut", "j", "mode", "first"]
theorem S_law_counting : FnScope N_law_counting ["store", "trade", "many"] (defScope (top 80)) := ⟨rfl, rfl, rfl, by decide +kernel, rfl, by decide +kernel, by decide +kernel⟩
def F_law_counting : DS := (sSeq (sSet 3 (eOp dIx (eSlot 1) (eC (.int 1))))
    (sSeq (sSet 4 (eCallM 2 m_law_take (aCons (eSlot 0) (aCons (eCall (fn2 min2D) (aCons (eSlot 3) (aCons (eC (.int 3)) aNil))) aNil))))
    (sSeq (sSet 5 (eNew (fLst aNil)))
    (sSeq (sFor (.nm 6) (iRange1 (eSlot 3)) (sSeq (sIf (bTst (eOp dGe (eSlot 4) (eSlot 3))) sBrk sNil)
    (sSeq (sSet 7 (eCallM 3 m_law_number (aCons (eSlot 0) (aCons (eOp dAdd (eSlot 4) (eC (.int 1))) (aCons (eSlot 3) aNil)))))
    (sSeq (sSet 8 (eCallM 3 m_law_number (aCons (eSlot 0) (aCons (eSlot 4) (aCons (eSlot 7) aNil)))))
    (sSeq (sFor (.nm 9) (iRange1 (eOp dAdd (eC (.int 1)) (eCallM 2 m_law_take (aCons (eSlot 0) (aCons (eC (.int 4)) aNil))))) (sSeq (sSet 10 (eCallM 2 m_law_take (aCons (eSlot 0) (aCons (eC (.int 3)) aNil))))
    (sIf (bAnd (bTst (eOp dEq (eSlot 10) (eC (.int 0)))) (bTst (eOp dGt (eSlot 8) (eSlot 4)))) (sDrop (eMth mAppend (eSlot 5) (aCons (eTup (aCons (eSlot 4) (aCons (eCallM 3 m_law_number (aCons (eSlot 0) (aCons (eC (.int 1)) (aCons (eOp dSub (eSlot 8) (eSlot 4)) aNil)))) aNil))) aNil))) (sIf (bAnd (bTst (eOp dEq (eSlot 10) (eC (.int 1)))) (bTst (eOp dLt (eOp dAdd (eSlot 8) (eC (.int 1))) (eSlot 7)))) (sSeq (sSet 11 (eCallM 3 m_law_number (aCons (eSlot 0) (aCons (eOp dAdd (eSlot 8) (eC (.int 1))) (aCons (eOp dSub (eSlot 7) (eC (.int 1))) aNil)))))
    (sDrop (eMth mAppend (eSlot 5) (aCons (eTup (aCons (eSlot 11) (aCons (eOp dSub (eSlot 7) (eSlot 11)) aNil))) aNil)))) (sDrop (eMth mAppend (eSlot 5) (aCons (eTup (aCons (eSlot 4) (aCons (eOp dSub (eSlot 7) (eSlot 4)) aNil))) aNil)))))))
    (sSet 4 (eOp dAdd (eOp dAdd (eSlot 7) (eC (.int 1))) (eCallM 2 m_law_take (aCons (eSlot 0) (aCons (eC (.int 2)) aNil))))))))))
    (sRet (eSlice (eCallM 2 m_law_shuffle (aCons (eSlot 0) (aCons (eSlot 5) aNil))) oNone (oSome (eSlot 2))))))))
def m_law_counting : MD := runM N_law_counting.length F_law_counting
set_option maxHeartbeats 2000000 in
theorem ok_law_counting (B : Bs lfa lfn ltf lex K mg base T) : Cal P w K mg base T "_law_counting" ["store", "trade", "many"] 5 m_law_counting := cal_of (k := 4) (F := F_law_counting) (B.d_law_counting) S_law_counting B.g__law_counting (fun _ _ _ _ _ _ us hl => match us, hl with | [_, _, _], _ => rfl) (fun cdv A outer s H E hr => (qs_cons (qs_set 3 S_law_counting.nd (qe_ix (qe_var 1) qe_int))
    (qs_cons (qs_set 4 S_law_counting.nd (qe_cM (ok_law_take B) hr (by decide) rfl (L2N.passes_call (L2N.takes_of rfl rfl rfl rfl) (fun _ _ _ _ h => h)) (qa_cons (qe_var 0) (qa_cons (qe_callB (qcall_min2 rfl) rfl B.f_min bt_min (qa_cons (qe_var 3) (qa_cons qe_int qa_nil))) qa_nil))))
    (qs_cons (qs_set 5 S_law_counting.nd (qe_new (qf_lst qa_nil)))
    (qs_cons (qs_for (passes_of rfl) rfl (qi_range1 rfl B.f_range (qe_var 3)) (qg_name 6 S_law_counting.nd) (qs_cons (qs_if (qt_cmp qop_ge (qe_var 4) (qe_var 3)) (qs_one qs_break) qs_nil)
    (qs_cons (qs_set 7 S_law_counting.nd (qe_cM (ok_law_number B) hr (by decide) rfl (L2N.passes_call (L2N.takes_of rfl rfl rfl rfl) (fun _ _ _ _ h => h)) (qa_cons (qe_var 0) (qa_cons (qe_op qop_add (qe_var 4) qe_int) (qa_cons (qe_var 3) qa_nil)))))
    (qs_cons (qs_set 8 S_law_counting.nd (qe_cM (ok_law_number B) hr (by decide) rfl (L2N.passes_call (L2N.takes_of rfl rfl rfl rfl) (fun _ _ _ _ h => h)) (qa_cons (qe_var 0) (qa_cons (qe_var 4) (qa_cons (qe_var 7) qa_nil)))))
    (qs_cons (qs_for (passes_of rfl) rfl (qi_range1 rfl B.f_range (qe_op qop_add qe_int (qe_cM (ok_law_take B) hr (by decide) rfl (L2N.passes_call (L2N.takes_of rfl rfl rfl rfl) (fun _ _ _ _ h => h)) (qa_cons (qe_var 0) (qa_cons qe_int qa_nil))))) (qg_name 9 S_law_counting.nd) (qs_cons (qs_set 10 S_law_counting.nd (qe_cM (ok_law_take B) hr (by decide) rfl (L2N.passes_call (L2N.takes_of rfl rfl rfl rfl) (fun _ _ _ _ h => h)) (qa_cons (qe_var 0) (qa_cons qe_int qa_nil))))
    (qs_one (qs_if (QW.qt (qw_and (qt_cmp (qop_eq (hu_of hr)) (qe_var 10) qe_int) (qw_and1 (qt_cmp qop_gt (qe_var 8) (qe_var 4))))) (qs_one (qs_drop (qe_append (qe_var 5) (qa_cons (qe_tup (qa_cons (qe_var 4) (qa_cons (qe_cM (ok_law_number B) hr (by decide) rfl (L2N.passes_call (L2N.takes_of rfl rfl rfl rfl) (fun _ _ _ _ h => h)) (qa_cons (qe_var 0) (qa_cons qe_int (qa_cons (qe_op qop_sub (qe_var 8) (qe_var 4)) qa_nil)))) qa_nil))) qa_nil)))) (qs_one (qs_if (QW.qt (qw_and (qt_cmp (qop_eq (hu_of hr)) (qe_var 10) qe_int) (qw_and1 (qt_cmp qop_lt (qe_op qop_add (qe_var 8) qe_int) (qe_var 7))))) (qs_cons (qs_set 11 S_law_counting.nd (qe_cM (ok_law_number B) hr (by decide) rfl (L2N.passes_call (L2N.takes_of rfl rfl rfl rfl) (fun _ _ _ _ h => h)) (qa_cons (qe_var 0) (qa_cons (qe_op qop_add (qe_var 8) qe_int) (qa_cons (qe_op qop_sub (qe_var 7) qe_int) qa_nil)))))
    (qs_one (qs_drop (qe_append (qe_var 5) (qa_cons (qe_tup (qa_cons (qe_var 11) (qa_cons (qe_op qop_sub (qe_var 7) (qe_var 11)) qa_nil))) qa_nil))))) (qs_one (qs_drop (qe_append (qe_var 5) (qa_cons (qe_tup (qa_cons (qe_var 4) (qa_cons (qe_op qop_sub (qe_var 7) (qe_var 4)) qa_nil))) qa_nil))))))))))
    (qs_one (qs_set 4 S_law_counting.nd (qe_op qop_add (qe_op qop_add (qe_var 7) qe_int) (qe_cM (ok_law_take B) hr (by decide) rfl (L2N.passes_call (L2N.takes_of rfl rfl rfl rfl) (fun _ _ _ _ h => h)) (qa_cons (qe_var 0) (qa_cons qe_int qa_nil)))))))))))
    (qs_one (qs_ret (qe_slice (qe_cM (ok_law_shuffle B) hr (by decide) rfl (L2N.passes_call (L2N.takes_of rfl rfl rfl rfl) (fun _ _ _ _ h => h)) (qa_cons (qe_var 0) (qa_cons (qe_var 5) qa_nil))) qo_none (qo_some (qe_var 2))))))))))
def N_law_within_counts : List Str := ["store", "trade", "stock", "many", "n", "free", "leg", "piece", "k", "asks", "j", "firsts", "first", "wide"]
theorem S_law_within_counts : FnScope N_law_within_counts ["store", "trade", "stock", "many"] (defScope (top 81)) := ⟨rfl, rfl, rfl, by decide +kernel, rfl, by decide +kernel, by decide +kernel⟩
def F_law_within_counts : DS := (sSeq (sSet 4 (eOp dIx (eSlot 1) (eC (.int 1))))
    (sSeq (sSet 5 (eNew (fComp (.nm 6) (([("leg", 6)] : List (Str × Nat)).map (·.2)) (iRange1 (eSlot 4)) bYes (eC (.int 0)))))
    (sSeq (sFor (.nm 7) (iSeq (eSlot 2)) (sFor (.nm 8) (iRange1 (eOp dIx (eSlot 7) (eC (.int 1)))) (sAug (fun a b => a + b) (eSlot 5) (eOp dMod (eCall (fn1 intD) (aCons (eOp dAdd (eOp dIx (eSlot 7) (eC (.int 0))) (eSlot 8)) aNil)) (eSlot 4)) (eC (.int 1)))))
    (sSeq (sSet 9 (eNew (fLst aNil)))
    (sSeq (sFor (.nm 10) (iRange1 (eCallM 3 m_law_number (aCons (eSlot 0) (aCons (eC (.int 0)) (aCons (eSlot 3) aNil))))) (sSeq (sSet 11 (eVal (fComp (.nm 6) (([("leg", 6)] : List (Str × Nat)).map (·.2)) (iRange1 (eSlot 4)) (bTst (eOp dGt (eOp dIx (eSlot 5) (eSlot 6)) (eC (.int 0)))) (eSlot 6))))
    (sSeq (sIf (bNot (bTru (eSlot 11))) sBrk sNil)
    (sSeq (sSet 12 (eCallM 2 m_law_pick (aCons (eSlot 0) (aCons (eSlot 11) aNil))))
    (sSeq (sSet 13 (eC (.int 0)))
    (sSeq (sFor (.nm 8) (iRange1 (eSlot 4)) (sIf (bAnd (bTst (eOp dEq (eSlot 13) (eSlot 8))) (bAnd (bTst (eOp dGt (eOp dIx (eSlot 5) (eOp dMod (eCall (fn1 intD) (aCons (eOp dAdd (eSlot 12) (eSlot 8)) aNil)) (eSlot 4))) (eC (.int 0)))) (bOr (bTst (eOp dEq (eOp dIx (eSlot 1) (eC (.int 0))) (eC (.str "round")))) (bTst (eOp dLt (eOp dAdd (eSlot 12) (eSlot 8)) (eSlot 4)))))) (sSet 13 (eOp dAdd (eSlot 8) (eC (.int 1)))) sNil))
    (sSeq (sSet 13 (eCallM 3 m_law_number (aCons (eSlot 0) (aCons (eC (.int 1)) (aCons (eSlot 13) aNil)))))
    (sSeq (sFor (.nm 8) (iRange1 (eSlot 13)) (sAug (fun a b => a - b) (eSlot 5) (eOp dMod (eCall (fn1 intD) (aCons (eOp dAdd (eSlot 12) (eSlot 8)) aNil)) (eSlot 4)) (eC (.int 1))))
    (sSeq (sIf (bAnd (bTst (eOp dEq (eOp dIx (eSlot 1) (eC (.int 0))) (eC (.str "round")))) (bTst (eOp dEq (eSlot 13) (eSlot 4)))) (sSet 12 (eC (.int 0))) sNil)
    (sDrop (eMth mAppend (eSlot 9) (aCons (eTup (aCons (eSlot 12) (aCons (eSlot 13) aNil))) aNil))))))))))))
    (sRet (eFrz (eSlot 9))))))))
def m_law_within_counts : MD := runM N_law_within_counts.length F_law_within_counts
set_option maxHeartbeats 2000000 in
theorem ok_law_within_counts (B : Bs lfa lfn ltf lex K mg base T) : Cal P w K mg base T "_law_within_counts" ["store", "trade", "stock", "many"] 5 m_law_within_counts := cal_of (k := 4) (F := F_law_within_counts) (B.d_law_within_counts) S_law_within_counts B.g__law_within_counts (fun _ _ _ _ _ _ us hl => match us, hl with | [_, _, _, _], _ => rfl) (fun cdv A outer s H E hr => (qs_cons (qs_set 4 S_law_within_counts.nd (qe_ix (qe_var 1) qe_int))
    (qs_cons (qs_set 5 S_law_within_counts.nd (qe_new (qf_lc [("leg", 6)] rfl S_law_within_counts.nd (qi_range1 rfl B.f_range (qe_var 4)) (blk_of rfl) (fun _ _ _ _ _ => (qg_name 6 S_law_within_counts.nd)) (fun _ _ _ _ _ => qts_nil) (fun _ _ _ _ _ => qe_int))))
    (qs_cons (qs_for (passes_of rfl) rfl (qi_seq (qe_var 2)) (qg_name 7 S_law_within_counts.nd) (qs_one (qs_for (passes_of rfl) rfl (qi_range1 rfl B.f_range (qe_ix (qe_var 7) qe_int)) (qg_name 8 S_law_within_counts.nd) (qs_one (qs_augAdd (qe_var 5) (qe_op qop_mod (qe_callTy qcall_int rfl B.f_int bt_int (qa_cons (qe_op qop_add (qe_ix (qe_var 7) qe_int) (qe_var 8)) qa_nil)) (qe_var 4)) qe_int)))))
    (qs_cons (qs_set 9 S_law_within_counts.nd (qe_new (qf_lst qa_nil)))
    (qs_cons (qs_for (passes_of rfl) rfl (qi_range1 rfl B.f_range (qe_cM (ok_law_number B) hr (by decide) rfl (L2N.passes_call (L2N.takes_of rfl rfl rfl rfl) (fun _ _ _ _ h => h)) (qa_cons (qe_var 0) (qa_cons qe_int (qa_cons (qe_var 3) qa_nil))))) (qg_name 10 S_law_within_counts.nd) (qs_cons (qs_lc 11 [("leg", 6)] eVal (.inl rfl) rfl S_law_within_counts.nd (qi_range1 rfl B.f_range (qe_var 4)) (blk_of rfl) (fun _ _ _ _ _ => (qg_name 6 S_law_within_counts.nd)) (fun _ _ _ _ _ => (qts_one (qt_cmp qop_gt (qe_ix (qe_var 5) (qe_var 6)) qe_int))) (fun _ _ _ _ _ => (qe_var 6)))
    (qs_cons (qs_if (qt_not (qt_val (qe_var 11))) (qs_one qs_break) qs_nil)
    (qs_cons (qs_set 12 S_law_within_counts.nd (qe_cM (ok_law_pick B) hr (by decide) rfl (L2N.passes_call (L2N.takes_of rfl rfl rfl rfl) (fun _ _ _ _ h => h)) (qa_cons (qe_var 0) (qa_cons (qe_var 11) qa_nil))))
    (qs_cons (qs_set 13 S_law_within_counts.nd qe_int)
    (qs_cons (qs_for (passes_of rfl) rfl (qi_range1 rfl B.f_range (qe_var 4)) (qg_name 8 S_law_within_counts.nd) (qs_one (qs_if (QW.qt (qw_and (qt_cmp (qop_eq (hu_of hr)) (qe_var 13) (qe_var 8)) (qw_and (qt_cmp qop_gt (qe_ix (qe_var 5) (qe_op qop_mod (qe_callTy qcall_int rfl B.f_int bt_int (qa_cons (qe_op qop_add (qe_var 12) (qe_var 8)) qa_nil)) (qe_var 4))) qe_int) (qw_and1 (QW.qt (qw_or (qt_cmp (qop_eq (hu_of hr)) (qe_ix (qe_var 1) qe_int) qe_str) (qw_or1 (qt_cmp qop_lt (qe_op qop_add (qe_var 12) (qe_var 8)) (qe_var 4))))))))) (qs_one (qs_set 13 S_law_within_counts.nd (qe_op qop_add (qe_var 8) qe_int))) qs_nil)))
    (qs_cons (qs_set 13 S_law_within_counts.nd (qe_cM (ok_law_number B) hr (by decide) rfl (L2N.passes_call (L2N.takes_of rfl rfl rfl rfl) (fun _ _ _ _ h => h)) (qa_cons (qe_var 0) (qa_cons qe_int (qa_cons (qe_var 13) qa_nil)))))
    (qs_cons (qs_for (passes_of rfl) rfl (qi_range1 rfl B.f_range (qe_var 13)) (qg_name 8 S_law_within_counts.nd) (qs_one (qs_augSub (qe_var 5) (qe_op qop_mod (qe_callTy qcall_int rfl B.f_int bt_int (qa_cons (qe_op qop_add (qe_var 12) (qe_var 8)) qa_nil)) (qe_var 4)) qe_int)))
    (qs_cons (qs_if (QW.qt (qw_and (qt_cmp (qop_eq (hu_of hr)) (qe_ix (qe_var 1) qe_int) qe_str) (qw_and1 (qt_cmp (qop_eq (hu_of hr)) (qe_var 13) (qe_var 4))))) (qs_one (qs_set 12 S_law_within_counts.nd qe_int)) qs_nil)
    (qs_one (qs_drop (qe_append (qe_var 9) (qa_cons (qe_tup (qa_cons (qe_var 12) (qa_cons (qe_var 13) qa_nil))) qa_nil)))))))))))))
    (qs_one (qs_ret (qe_frz (qe_var 9))))))))))
end Qv

/-! ## K78W6 -/
set_option Elab.async false
set_option linter.all false
set_option maxRecDepth 100000
set_option maxHeartbeats 1000000
/-! the walk, 6: law_k78_deal_is_a_way (printed by genwalk.py) -/
namespace Qv
open PySem PySem.Spec PyProof.Rows L2
variable {P : Program} {w : World} {K : PySem.W.Frag} {mg : Str → Option Value} {base : Heap} {T : List (Addr × Str)}
def N_leg_counts : List Str := ["trade", "things"]
theorem S_leg_counts : FnScope N_leg_counts ["trade", "things"] (defScope (top 60)) := ⟨rfl, rfl, rfl, by decide +kernel, rfl, by decide +kernel, by decide +kernel⟩
def F_leg_counts : DS := (sSeq (sDrop (eCallP 1 m_check_hall (aCons (eSlot 0) aNil)))
    (sRet (eCallP 2 m_free_legs (aCons (eSlot 0) (aCons (eCallP 2 m_check_stock (aCons (eSlot 0) (aCons (eSlot 1) aNil))) aNil)))))
def m_leg_counts : MD := runM N_leg_counts.length F_leg_counts
set_option maxHeartbeats 2000000 in
theorem ok_leg_counts (B : Bs lfa lfn ltf lex K mg base T) : Cal P w K mg base T "leg_counts" ["trade", "things"] 6 m_leg_counts := cal_of (k := 5) (F := F_leg_counts) (B.d_leg_counts) S_leg_counts B.g_leg_counts (fun _ _ _ _ _ _ us hl => match us, hl with | [_, _], _ => rfl) (fun cdv A outer s H E hr => (qs_cons (qs_drop (qe_cP (ok_check_hall B) hr (by decide) rfl (L2N.passes_call (L2N.takes_of rfl rfl rfl rfl) (fun _ _ _ _ h => h)) (qa_cons (qe_var 0) qa_nil)))
    (qs_one (qs_ret (qe_cP (ok_free_legs B) hr (by decide) rfl (L2N.passes_call (L2N.takes_of rfl rfl rfl rfl) (fun _ _ _ _ h => h)) (qa_cons (qe_var 0) (qa_cons (qe_cP (ok_check_stock B) hr (by decide) rfl (L2N.passes_call (L2N.takes_of rfl rfl rfl rfl) (fun _ _ _ _ h => h)) (qa_cons (qe_var 0) (qa_cons (qe_var 1) qa_nil))) qa_nil)))))))
def N_over_leg : List Str := ["trade", "stock", "asks", "pieces", "wanted", "there", "leg", "count"]
theorem S_over_leg : FnScope N_over_leg ["trade", "stock", "asks"] (defScope (top 61)) := ⟨rfl, rfl, rfl, by decide +kernel, rfl, by decide +kernel, by decide +kernel⟩
def F_over_leg : DS := (sSeq (sDrop (eCallP 1 m_check_hall (aCons (eSlot 0) aNil)))
    (sSeq (sSet 3 (eCallP 2 m_check_stock (aCons (eSlot 0) (aCons (eSlot 1) aNil))))
    (sSeq (sSet 4 (eCallP 2 m_check_asks (aCons (eSlot 0) (aCons (eSlot 2) aNil))))
    (sSeq (sSet 5 (eCallP 2 m_free_legs (aCons (eSlot 0) (aCons (eSlot 3) aNil))))
    (sSeq (sFor (.tp [(.nm 6), (.nm 7)]) (iEnumD (eCallP 2 m_free_legs (aCons (eSlot 0) (aCons (eSlot 4) aNil)))) (sIf (bTst (eOp dGt (eSlot 7) (eOp dIx (eSlot 5) (eSlot 6)))) (sRet (eSlot 6)) sNil))
    (sRet (eC .non)))))))
def m_over_leg : MD := runM N_over_leg.length F_over_leg
set_option maxHeartbeats 2000000 in
theorem ok_over_leg (B : Bs lfa lfn ltf lex K mg base T) : Cal P w K mg base T "over_leg" ["trade", "stock", "asks"] 6 m_over_leg := cal_of (k := 5) (F := F_over_leg) (B.d_over_leg) S_over_leg B.g_over_leg (fun _ _ _ _ _ _ us hl => match us, hl with | [_, _, _], _ => rfl) (fun cdv A outer s H E hr => (qs_cons (qs_drop (qe_cP (ok_check_hall B) hr (by decide) rfl (L2N.passes_call (L2N.takes_of rfl rfl rfl rfl) (fun _ _ _ _ h => h)) (qa_cons (qe_var 0) qa_nil)))
    (qs_cons (qs_set 3 S_over_leg.nd (qe_cP (ok_check_stock B) hr (by decide) rfl (L2N.passes_call (L2N.takes_of rfl rfl rfl rfl) (fun _ _ _ _ h => h)) (qa_cons (qe_var 0) (qa_cons (qe_var 1) qa_nil))))
    (qs_cons (qs_set 4 S_over_leg.nd (qe_cP (ok_check_asks B) hr (by decide) rfl (L2N.passes_call (L2N.takes_of rfl rfl rfl rfl) (fun _ _ _ _ h => h)) (qa_cons (qe_var 0) (qa_cons (qe_var 2) qa_nil))))
    (qs_cons (qs_set 5 S_over_leg.nd (qe_cP (ok_free_legs B) hr (by decide) rfl (L2N.passes_call (L2N.takes_of rfl rfl rfl rfl) (fun _ _ _ _ h => h)) (qa_cons (qe_var 0) (qa_cons (qe_var 3) qa_nil))))
    (qs_cons (qs_for (passes_of rfl) rfl (qi_enum rfl B.f_enumerate (qe_cP (ok_free_legs B) hr (by decide) rfl (L2N.passes_call (L2N.takes_of rfl rfl rfl rfl) (fun _ _ _ _ h => h)) (qa_cons (qe_var 0) (qa_cons (qe_var 4) qa_nil)))) (qg_tup rfl (qgs_cons (qg_name 6 S_over_leg.nd) (qgs_cons (qg_name 7 S_over_leg.nd) qgs_nil))) (qs_one (qs_if (qt_cmp qop_gt (qe_var 7) (qe_ix (qe_var 5) (qe_var 6))) (qs_one (qs_ret (qe_var 6))) qs_nil)))
    (qs_one (qs_ret qe_non))))))))
def N_counting_fault : List Str := ["trade", "stock"]
theorem S_counting_fault : FnScope N_counting_fault ["trade", "stock"] (defScope (top 62)) := ⟨rfl, rfl, rfl, by decide +kernel, rfl, by decide +kernel, by decide +kernel⟩
def F_counting_fault : DS := (sSeq (sDrop (eCallP 1 m_check_line_counting (aCons (eSlot 0) aNil)))
    (sRet (eCallP 2 m_first_fault (aCons (eSlot 0) (aCons (eCallP 2 m_check_stock (aCons (eSlot 0) (aCons (eSlot 1) aNil))) aNil)))))
def m_counting_fault : MD := runM N_counting_fault.length F_counting_fault
set_option maxHeartbeats 2000000 in
theorem ok_counting_fault (B : Bs lfa lfn ltf lex K mg base T) : Cal P w K mg base T "counting_fault" ["trade", "stock"] 6 m_counting_fault := cal_of (k := 5) (F := F_counting_fault) (B.d_counting_fault) S_counting_fault B.g_counting_fault (fun _ _ _ _ _ _ us hl => match us, hl with | [_, _], _ => rfl) (fun cdv A outer s H E hr => (qs_cons (qs_drop (qe_cP (ok_check_line_counting B) hr (by decide) rfl (L2N.passes_call (L2N.takes_of rfl rfl rfl rfl) (fun _ _ _ _ h => h)) (qa_cons (qe_var 0) qa_nil)))
    (qs_one (qs_ret (qe_cP (ok_first_fault B) hr (by decide) rfl (L2N.passes_call (L2N.takes_of rfl rfl rfl rfl) (fun _ _ _ _ h => h)) (qa_cons (qe_var 0) (qa_cons (qe_cP (ok_check_stock B) hr (by decide) rfl (L2N.passes_call (L2N.takes_of rfl rfl rfl rfl) (fun _ _ _ _ h => h)) (qa_cons (qe_var 0) (qa_cons (qe_var 1) qa_nil))) qa_nil)))))))
def N_law_line : List Str := ["store", "n", "many", "least", "trade", "stock", "piece"]
theorem S_law_line : FnScope N_law_line ["store"] (defScope (top 97)) := ⟨rfl, rfl, rfl, by decide +kernel, rfl, by decide +kernel, by decide +kernel⟩
def F_law_line : DS := (sSeq (sAsg (.tp [(.nm 1), (.nm 2), (.nm 3)]) (eCallM 2 m_law_pick (aCons (eSlot 0) (aCons (eLst (aCons (eTup (aCons (eC (.int 8)) (aCons (eC (.int 6)) (aCons (eC (.int 1)) aNil)))) (aCons (eTup (aCons (eC (.int 8)) (aCons (eC (.int 6)) (aCons (eC (.int 1)) aNil)))) (aCons (eTup (aCons (eC (.int 8)) (aCons (eC (.int 6)) (aCons (eC (.int 1)) aNil)))) (aCons (eTup (aCons (eC (.int 24)) (aCons (eC (.int 39)) (aCons (eC (.int 24)) aNil)))) aNil))))) aNil))))
    (sSeq (sSet 4 (eTup (aCons (eC (.str "line")) (aCons (eCallM 3 m_law_number (aCons (eSlot 0) (aCons (eSlot 3) (aCons (eSlot 1) aNil)))) aNil))))
    (sSeq (sSet 5 (eLst aNil))
    (sSeq (sFor (.nm 6) (iSeq (eCallM 3 m_law_counting (aCons (eSlot 0) (aCons (eSlot 4) (aCons (eSlot 2) aNil))))) (sSet 5 (eOp dAdd (eSlot 5) (eOp dMul (eLst (aCons (eSlot 6) aNil)) (eOp dAdd (eC (.int 1)) (eCallM 2 m_law_take (aCons (eSlot 0) (aCons (eOp dAdd (eC (.int 1)) (eOp dDiv (eSlot 2) (eC (.int 5)))) aNil))))))))
    (sSeq (sSet 5 (eSlice (eCallM 2 m_law_shuffle (aCons (eSlot 0) (aCons (eSlot 5) aNil))) oNone (oSome (eSlot 2))))
    (sSeq (sIf (bTru (eCallM 2 m_law_odds (aCons (eSlot 0) (aCons (eC (.int 3)) aNil)))) (sRet (eTup (aCons (eSlot 4) (aCons (eSlot 5) (aCons (eCallM 2 m_law_shuffle (aCons (eSlot 0) (aCons (eSlot 5) aNil))) aNil))))) sNil)
    (sRet (eTup (aCons (eSlot 4) (aCons (eSlot 5) (aCons (eCallM 4 m_law_within_counts (aCons (eSlot 0) (aCons (eSlot 4) (aCons (eSlot 5) (aCons (eSlot 2) aNil))))) aNil)))))))))))
def m_law_line : MD := runM N_law_line.length F_law_line
set_option maxHeartbeats 2000000 in
theorem ok_law_line (B : Bs lfa lfn ltf lex K mg base T) : Cal P w K mg base T "_law_line" ["store"] 6 m_law_line := cal_of (k := 5) (F := F_law_line) (B.d_law_line) S_law_line B.g__law_line (fun _ _ _ _ _ _ us hl => match us, hl with | [_], _ => rfl) (fun cdv A outer s H E hr => (qs_cons (qs_asg (qe_cM (ok_law_pick B) hr (by decide) rfl (L2N.passes_call (L2N.takes_of rfl rfl rfl rfl) (fun _ _ _ _ h => h)) (qa_cons (qe_var 0) (qa_cons (qe_lst (qa_cons (qe_tup (qa_cons qe_int (qa_cons qe_int (qa_cons qe_int qa_nil)))) (qa_cons (qe_tup (qa_cons qe_int (qa_cons qe_int (qa_cons qe_int qa_nil)))) (qa_cons (qe_tup (qa_cons qe_int (qa_cons qe_int (qa_cons qe_int qa_nil)))) (qa_cons (qe_tup (qa_cons qe_int (qa_cons qe_int (qa_cons qe_int qa_nil)))) qa_nil))))) qa_nil))) (qg_tup rfl (qgs_cons (qg_name 1 S_law_line.nd) (qgs_cons (qg_name 2 S_law_line.nd) (qgs_cons (qg_name 3 S_law_line.nd) qgs_nil)))))
    (qs_cons (qs_set 4 S_law_line.nd (qe_tup (qa_cons qe_str (qa_cons (qe_cM (ok_law_number B) hr (by decide) rfl (L2N.passes_call (L2N.takes_of rfl rfl rfl rfl) (fun _ _ _ _ h => h)) (qa_cons (qe_var 0) (qa_cons (qe_var 3) (qa_cons (qe_var 1) qa_nil)))) qa_nil))))
    (qs_cons (qs_set 5 S_law_line.nd (qe_lst qa_nil))
    (qs_cons (qs_for (passes_of rfl) rfl (qi_seq (qe_cM (ok_law_counting B) hr (by decide) rfl (L2N.passes_call (L2N.takes_of rfl rfl rfl rfl) (fun _ _ _ _ h => h)) (qa_cons (qe_var 0) (qa_cons (qe_var 4) (qa_cons (qe_var 2) qa_nil))))) (qg_name 6 S_law_line.nd) (qs_one (qs_set 5 S_law_line.nd (qe_op qop_add (qe_var 5) (qe_op qop_mul (qe_lst (qa_cons (qe_var 6) qa_nil)) (qe_op qop_add qe_int (qe_cM (ok_law_take B) hr (by decide) rfl (L2N.passes_call (L2N.takes_of rfl rfl rfl rfl) (fun _ _ _ _ h => h)) (qa_cons (qe_var 0) (qa_cons (qe_op qop_add qe_int (qe_op qop_div (qe_var 2) qe_int)) qa_nil)))))))))
    (qs_cons (qs_set 5 S_law_line.nd (qe_slice (qe_cM (ok_law_shuffle B) hr (by decide) rfl (L2N.passes_call (L2N.takes_of rfl rfl rfl rfl) (fun _ _ _ _ h => h)) (qa_cons (qe_var 0) (qa_cons (qe_var 5) qa_nil))) qo_none (qo_some (qe_var 2))))
    (qs_cons (qs_if (qt_val (qe_cM (ok_law_odds B) hr (by decide) rfl (L2N.passes_call (L2N.takes_of rfl rfl rfl rfl) (fun _ _ _ _ h => h)) (qa_cons (qe_var 0) (qa_cons qe_int qa_nil)))) (qs_one (qs_ret (qe_tup (qa_cons (qe_var 4) (qa_cons (qe_var 5) (qa_cons (qe_cM (ok_law_shuffle B) hr (by decide) rfl (L2N.passes_call (L2N.takes_of rfl rfl rfl rfl) (fun _ _ _ _ h => h)) (qa_cons (qe_var 0) (qa_cons (qe_var 5) qa_nil))) qa_nil)))))) qs_nil)
    (qs_one (qs_ret (qe_tup (qa_cons (qe_var 4) (qa_cons (qe_var 5) (qa_cons (qe_cM (ok_law_within_counts B) hr (by decide) rfl (L2N.passes_call (L2N.takes_of rfl rfl rfl rfl) (fun _ _ _ _ h => h)) (qa_cons (qe_var 0) (qa_cons (qe_var 4) (qa_cons (qe_var 5) (qa_cons (qe_var 2) qa_nil))))) qa_nil)))))))))))))
def N_free_runs : List Str := ["trade", "pieces", "counts", "leg", "many"]
theorem S_free_runs : FnScope N_free_runs ["trade", "pieces"] (defScope (top 66)) := ⟨rfl, rfl, rfl, by decide +kernel, rfl, by decide +kernel, by decide +kernel⟩
def F_free_runs : DS := (sSeq (sSet 2 (eCallP 2 m_leg_counts (aCons (eSlot 0) (aCons (eSlot 1) aNil))))
    (sRet (eCallP 2 m_runs_of (aCons (eSlot 0) (aCons (eVal (fComp (.tp [(.nm 3), (.nm 4)]) (([("leg", 3), ("many", 4)] : List (Str × Nat)).map (·.2)) (iEnumD (eSlot 2)) (bTst (eOp dGt (eSlot 4) (eC (.int 0)))) (eSlot 3))) aNil)))))
def m_free_runs : MD := runM N_free_runs.length F_free_runs
set_option maxHeartbeats 2000000 in
theorem ok_free_runs (B : Bs lfa lfn ltf lex K mg base T) : Cal P w K mg base T "free_runs" ["trade", "pieces"] 7 m_free_runs := cal_of (k := 6) (F := F_free_runs) (B.d_free_runs) S_free_runs B.g_free_runs (fun _ _ _ _ _ _ us hl => match us, hl with | [_, _], _ => rfl) (fun cdv A outer s H E hr => (qs_cons (qs_set 2 S_free_runs.nd (qe_cP (ok_leg_counts B) hr (by decide) rfl (L2N.passes_call (L2N.takes_of rfl rfl rfl rfl) (fun _ _ _ _ h => h)) (qa_cons (qe_var 0) (qa_cons (qe_var 1) qa_nil))))
    (qs_one (qs_ret (qe_cP (ok_runs_of B) hr (by decide) rfl (L2N.passes_call (L2N.takes_of rfl rfl rfl rfl) (fun _ _ _ _ h => h)) (qa_cons (qe_var 0) (qa_cons (qe_val (qf_lc [("leg", 3), ("many", 4)] rfl S_free_runs.nd (qi_enum rfl B.f_enumerate (qe_var 2)) (blk_of rfl) (fun _ _ _ _ _ => (qg_tup rfl (qgs_cons (qg_name 3 S_free_runs.nd) (qgs_cons (qg_name 4 S_free_runs.nd) qgs_nil)))) (fun _ _ _ _ _ => (qts_one (qt_cmp qop_gt (qe_var 4) qe_int))) (fun _ _ _ _ _ => (qe_var 3)))) qa_nil)))))))
def N_deal : List Str := ["trade", "stock", "asks", "pieces", "row", "way", "ask", "loads", "piece", "run", "index", "part", "place"]
theorem S_deal : FnScope N_deal ["trade", "stock", "asks"] (defScope (top 70)) := ⟨rfl, rfl, rfl, by decide +kernel, rfl, by decide +kernel, by decide +kernel⟩
def F_deal : DS := (sSeq (sDrop (eCallP 1 m_check_line_deals (aCons (eSlot 0) aNil)))
    (sSeq (sSet 3 (eCallP 2 m_check_stock (aCons (eSlot 0) (aCons (eSlot 1) aNil))))
    (sSeq (sSet 4 (eCallP 2 m_check_asks (aCons (eSlot 0) (aCons (eSlot 2) aNil))))
    (sSeq (sIf (bTst (eOp dIsNot (eCallP 3 m_over_leg (aCons (eSlot 0) (aCons (eSlot 3) (aCons (eSlot 4) aNil)))) (eC .non))) (sRaise0 "NoPick") sNil)
    (sSeq (sIf (bTst (eOp dIsNot (eCallP 2 m_counting_fault (aCons (eSlot 0) (aCons (eSlot 3) aNil))) (eC .non))) (sRaise0 "NotCounting") sNil)
    (sSeq (sSet 5 (eNew (fComp (.nm 6) (([("ask", 6)] : List (Str × Nat)).map (·.2)) (iSeq (eSlot 4)) bYes (eC (.int 0)))))
    (sSeq (sSet 7 (eVal (fComp (.nm 8) (([("piece", 8)] : List (Str × Nat)).map (·.2)) (iSeq (eSlot 3)) bYes (eNew (fLst aNil)))))
    (sSeq (sFor (.nm 9) (iSeq (eCallP 2 m_free_runs (aCons (eSlot 0) (aCons (eSlot 3) aNil)))) (sFor (.tp [(.nm 10), (.nm 11)]) (iSeq (eCallP 3 m_deal_order (aCons (eSlot 4) (aCons (eSlot 9) (aCons (eCallP 2 m_run_middle (aCons (eSlot 3) (aCons (eSlot 9) aNil))) aNil))))) (sSeq (sSet 12 (eCallV 4 m_free_place (aCons (eSlot 0) (aCons (eSlot 3) (aCons (eSlot 7) (aCons (eSlot 11) aNil))))))
    (sSeq (sStore (eSlot 5) (eSlot 10) (eSlot 12))
    (sDrop (eMth mAppend (eOp dIx (eSlot 7) (eSlot 12)) (aCons (eOp dIx (eSlot 4) (eSlot 10)) aNil)))))))
    (sRet (eSlot 5))))))))))
def m_deal : MD := runM N_deal.length F_deal
set_option maxHeartbeats 2000000 in
theorem ok_deal (B : Bs lfa lfn ltf lex K mg base T) : Cal P w K mg base T "deal" ["trade", "stock", "asks"] 8 m_deal := cal_of (k := 7) (F := F_deal) (B.d_deal) S_deal B.g_deal (fun _ _ _ _ _ _ us hl => match us, hl with | [_, _, _], _ => rfl) (fun cdv A outer s H E hr => (qs_cons (qs_drop (qe_cP (ok_check_line_deals B) hr (by decide) rfl (L2N.passes_call (L2N.takes_of rfl rfl rfl rfl) (fun _ _ _ _ h => h)) (qa_cons (qe_var 0) qa_nil)))
    (qs_cons (qs_set 3 S_deal.nd (qe_cP (ok_check_stock B) hr (by decide) rfl (L2N.passes_call (L2N.takes_of rfl rfl rfl rfl) (fun _ _ _ _ h => h)) (qa_cons (qe_var 0) (qa_cons (qe_var 1) qa_nil))))
    (qs_cons (qs_set 4 S_deal.nd (qe_cP (ok_check_asks B) hr (by decide) rfl (L2N.passes_call (L2N.takes_of rfl rfl rfl rfl) (fun _ _ _ _ h => h)) (qa_cons (qe_var 0) (qa_cons (qe_var 2) qa_nil))))
    (qs_cons (qs_if (qt_cmp qop_isnot (qe_cP (ok_over_leg B) hr (by decide) rfl (L2N.passes_call (L2N.takes_of rfl rfl rfl rfl) (fun _ _ _ _ h => h)) (qa_cons (qe_var 0) (qa_cons (qe_var 3) (qa_cons (qe_var 4) qa_nil)))) qe_non) (qs_one (qs_raise0 rfl (L2N.takes_of rfl rfl rfl rfl) B.x_NoPick rfl B.g_NoPick)) qs_nil)
    (qs_cons (qs_if (qt_cmp qop_isnot (qe_cP (ok_counting_fault B) hr (by decide) rfl (L2N.passes_call (L2N.takes_of rfl rfl rfl rfl) (fun _ _ _ _ h => h)) (qa_cons (qe_var 0) (qa_cons (qe_var 3) qa_nil))) qe_non) (qs_one (qs_raise0 rfl (L2N.takes_of rfl rfl rfl rfl) B.x_NotCounting rfl B.g_NotCounting)) qs_nil)
    (qs_cons (qs_lc 5 [("ask", 6)] eNew (.inr rfl) rfl S_deal.nd (qi_seq (qe_var 4)) (blk_of rfl) (fun _ _ _ _ _ => (qg_name 6 S_deal.nd)) (fun _ _ _ _ _ => qts_nil) (fun _ _ _ _ _ => qe_int))
    (qs_cons (qs_lc 7 [("piece", 8)] eVal (.inl rfl) rfl S_deal.nd (qi_seq (qe_var 3)) (blk_of rfl) (fun _ _ _ _ _ => (qg_name 8 S_deal.nd)) (fun _ _ _ _ _ => qts_nil) (fun _ _ _ _ _ => (qe_new (qf_lst qa_nil))))
    (qs_cons (qs_for (passes_of rfl) rfl (qi_seq (qe_cP (ok_free_runs B) hr (by decide) rfl (L2N.passes_call (L2N.takes_of rfl rfl rfl rfl) (fun _ _ _ _ h => h)) (qa_cons (qe_var 0) (qa_cons (qe_var 3) qa_nil)))) (qg_name 9 S_deal.nd) (qs_one (qs_for (passes_of rfl) rfl (qi_seq (qe_cP (ok_deal_order B) hr (by decide) rfl (L2N.passes_call (L2N.takes_of rfl rfl rfl rfl) (fun _ _ _ _ h => h)) (qa_cons (qe_var 4) (qa_cons (qe_var 9) (qa_cons (qe_cP (ok_run_middle B) hr (by decide) rfl (L2N.passes_call (L2N.takes_of rfl rfl rfl rfl) (fun _ _ _ _ h => h)) (qa_cons (qe_var 3) (qa_cons (qe_var 9) qa_nil))) qa_nil))))) (qg_tup rfl (qgs_cons (qg_name 10 S_deal.nd) (qgs_cons (qg_name 11 S_deal.nd) qgs_nil))) (qs_cons (qs_set 12 S_deal.nd (qe_cV (ok_free_place B) hr (by decide) rfl (L2N.passes_call (L2N.takes_of rfl rfl rfl rfl) (fun _ _ _ _ h => h)) (qa_cons (qe_var 0) (qa_cons (qe_var 3) (qa_cons (qe_var 7) (qa_cons (qe_var 11) qa_nil))))))
    (qs_cons (qs_store (qe_var 12) (qe_var 5) (qe_var 10))
    (qs_one (qs_drop (qe_append (qe_ix (qe_var 7) (qe_var 12)) (qa_cons (qe_ix (qe_var 4) (qe_var 10)) qa_nil)))))))))
    (qs_one (qs_ret (qe_var 5))))))))))))
def N_middle_of : List Str := ["trade", "stock", "leg", "pieces", "run"]
theorem S_middle_of : FnScope N_middle_of ["trade", "stock", "leg"] (defScope (top 71)) := ⟨rfl, rfl, rfl, by decide +kernel, rfl, by decide +kernel, by decide +kernel⟩
def F_middle_of : DS := (sSeq (sDrop (eCallP 1 m_check_line_deals (aCons (eSlot 0) aNil)))
    (sSeq (sSet 3 (eCallP 2 m_check_stock (aCons (eSlot 0) (aCons (eSlot 1) aNil))))
    (sSeq (sFor (.nm 4) (iSeq (eCallP 2 m_free_runs (aCons (eSlot 0) (aCons (eSlot 3) aNil)))) (sIf (bTst (eChain dLe dLt (eOp dIx (eSlot 4) (eC (.int 0))) (eSlot 2) (eOp dAdd (eOp dIx (eSlot 4) (eC (.int 0))) (eOp dIx (eSlot 4) (eC (.int 1)))))) (sRet (eCallP 2 m_run_middle (aCons (eSlot 3) (aCons (eSlot 4) aNil)))) sNil))
    (sRet (eC .non)))))
def m_middle_of : MD := runM N_middle_of.length F_middle_of
set_option maxHeartbeats 2000000 in
theorem ok_middle_of (B : Bs lfa lfn ltf lex K mg base T) : Cal P w K mg base T "middle_of" ["trade", "stock", "leg"] 8 m_middle_of := cal_of (k := 7) (F := F_middle_of) (B.d_middle_of) S_middle_of B.g_middle_of (fun _ _ _ _ _ _ us hl => match us, hl with | [_, _, _], _ => rfl) (fun cdv A outer s H E hr => (qs_cons (qs_drop (qe_cP (ok_check_line_deals B) hr (by decide) rfl (L2N.passes_call (L2N.takes_of rfl rfl rfl rfl) (fun _ _ _ _ h => h)) (qa_cons (qe_var 0) qa_nil)))
    (qs_cons (qs_set 3 S_middle_of.nd (qe_cP (ok_check_stock B) hr (by decide) rfl (L2N.passes_call (L2N.takes_of rfl rfl rfl rfl) (fun _ _ _ _ h => h)) (qa_cons (qe_var 0) (qa_cons (qe_var 1) qa_nil))))
    (qs_cons (qs_for (passes_of rfl) rfl (qi_seq (qe_cP (ok_free_runs B) hr (by decide) rfl (L2N.passes_call (L2N.takes_of rfl rfl rfl rfl) (fun _ _ _ _ h => h)) (qa_cons (qe_var 0) (qa_cons (qe_var 3) qa_nil)))) (qg_name 4 S_middle_of.nd) (qs_one (qs_if (qt_chain qop_le qop_lt (qe_ix (qe_var 4) qe_int) (qe_var 2) (qe_op qop_add (qe_ix (qe_var 4) qe_int) (qe_ix (qe_var 4) qe_int))) (qs_one (qs_ret (qe_cP (ok_run_middle B) hr (by decide) rfl (L2N.passes_call (L2N.takes_of rfl rfl rfl rfl) (fun _ _ _ _ h => h)) (qa_cons (qe_var 3) (qa_cons (qe_var 4) qa_nil))))) qs_nil)))
    (qs_one (qs_ret qe_non))))))
def N_law_equal : List Str := ["told", "due", "k", "one", "two"]
theorem S_law_equal : FnScope N_law_equal ["told", "due"] (defScope (top 89)) := ⟨rfl, rfl, rfl, by decide +kernel, rfl, by decide +kernel, by decide +kernel⟩
def F_law_equal (m0 : MD) : DS := (sSeq (sIf (bTru (eMap (isi2D "list" "tuple") (eSlot 1))) (sSeq (sIf (bOr (bTst (eOp dNe (eMap (isiD "list") (eSlot 1)) (eMap (isiD "list") (eSlot 0)))) (bTst (eOp dNe (eMap (isiD "tuple") (eSlot 1)) (eMap (isiD "tuple") (eSlot 0))))) (sRet (eC (.bl false))) sNil)
    (sRet (eAnd (eOp dEq (eCall (fn1 lenD) (aCons (eSlot 0) aNil)) (eCall (fn1 lenD) (aCons (eSlot 1) aNil))) (eCall (fn1 allD) (aCons (eVal (fComp (.nm 2) (([("k", 2)] : List (Str × Nat)).map (·.2)) (iRange1 (eCall (fn1 lenD) (aCons (eSlot 1) aNil))) bYes (eCallP 2 m0 (aCons (eOp dIx (eSlot 0) (eSlot 2)) (aCons (eOp dIx (eSlot 1) (eSlot 2)) aNil))))) aNil))))) sNil)
    (sSeq (sSet 3 (eLst (aCons (eMap (isiD "bool") (eSlot 0)) (aCons (eMap (isiD "int") (eSlot 0)) (aCons (eMap (isiD "str") (eSlot 0)) (aCons (eOp dIs (eSlot 0) (eC .non)) aNil))))))
    (sSeq (sSet 4 (eLst (aCons (eMap (isiD "bool") (eSlot 1)) (aCons (eMap (isiD "int") (eSlot 1)) (aCons (eMap (isiD "str") (eSlot 1)) (aCons (eOp dIs (eSlot 1) (eC .non)) aNil))))))
    (sRet (eAnd (eOp dEq (eSlot 3) (eSlot 4)) (eOp dEq (eSlot 0) (eSlot 1)))))))
def m_law_equal : Nat → MD
  | 0 => fun _ _ => .stuck
  | k + 1 => runM N_law_equal.length (F_law_equal (m_law_equal k))
set_option maxHeartbeats 2000000 in
theorem ok_law_equal (B : Bs lfa lfn ltf lex K mg base T) : ∀ k, Cal P w K mg base T "_law_equal" ["told", "due"] (k + 1) (m_law_equal k)
  | 0 => cal_stuck (B.d_law_equal) S_law_equal B.g__law_equal (fun _ _ _ _ _ _ us hl => match us, hl with | [_, _], _ => rfl)
  | k + 1 => show Cal P w K mg base T "_law_equal" ["told", "due"] (k + 1 + 1) (runM N_law_equal.length (F_law_equal (m_law_equal k))) from cal_of (F := F_law_equal (m_law_equal k)) (B.d_law_equal) S_law_equal B.g__law_equal (fun _ _ _ _ _ _ us hl => match us, hl with | [_, _], _ => rfl) (fun cdv A outer s H E hr => (qs_cons (qs_if (qt_val (qe_isi2 rfl B.f_isinstance bt_isinstance rfl B.f_list bt_list rfl B.f_tuple bt_tuple (qe_var 1))) (qs_cons (qs_if (QW.qt (qw_or (qt_cmp (qop_ne (hu_of hr)) (qe_isi rfl B.f_isinstance bt_isinstance rfl B.f_list bt_list (qe_var 1)) (qe_isi rfl B.f_isinstance bt_isinstance rfl B.f_list bt_list (qe_var 0))) (qw_or1 (qt_cmp (qop_ne (hu_of hr)) (qe_isi rfl B.f_isinstance bt_isinstance rfl B.f_tuple bt_tuple (qe_var 1)) (qe_isi rfl B.f_isinstance bt_isinstance rfl B.f_tuple bt_tuple (qe_var 0)))))) (qs_one (qs_ret qe_bl)) qs_nil)
    (qs_one (qs_ret (qe_and (qe_cmp (qop_eq (hu_of hr)) (qe_callB qcall_len rfl B.f_len bt_len (qa_cons (qe_var 0) qa_nil)) (qe_callB qcall_len rfl B.f_len bt_len (qa_cons (qe_var 1) qa_nil))) (qe_one (qe_callB (qcall_all rfl) rfl B.f_all bt_all (qa_cons (qe_val (qf_lc [("k", 2)] rfl S_law_equal.nd (qi_range1 rfl B.f_range (qe_callB qcall_len rfl B.f_len bt_len (qa_cons (qe_var 1) qa_nil))) (blk_of rfl) (fun _ _ _ _ _ => (qg_name 2 S_law_equal.nd)) (fun _ _ _ _ _ => qts_nil) (fun _ _ _ _ _ => (qe_cP (x := "_law_equal") (ps := ["told", "due"]) (m := m_law_equal k) (k := k + 1) (j := k + 1) (ok_law_equal B k) hr (Nat.le_refl _) rfl passE0 (qa_cons (qe_ix (qe_var 0) (qe_var 2)) (qa_cons (qe_ix (qe_var 1) (qe_var 2)) qa_nil)))))) qa_nil))))))) qs_nil)
    (qs_cons (qs_set 3 S_law_equal.nd (qe_lst (qa_cons (qe_isi rfl B.f_isinstance bt_isinstance rfl B.f_bool bt_bool (qe_var 0)) (qa_cons (qe_isi rfl B.f_isinstance bt_isinstance rfl B.f_int bt_int (qe_var 0)) (qa_cons (qe_isi rfl B.f_isinstance bt_isinstance rfl B.f_str bt_str (qe_var 0)) (qa_cons (qe_cmp qop_is (qe_var 0) qe_non) qa_nil))))))
    (qs_cons (qs_set 4 S_law_equal.nd (qe_lst (qa_cons (qe_isi rfl B.f_isinstance bt_isinstance rfl B.f_bool bt_bool (qe_var 1)) (qa_cons (qe_isi rfl B.f_isinstance bt_isinstance rfl B.f_int bt_int (qe_var 1)) (qa_cons (qe_isi rfl B.f_isinstance bt_isinstance rfl B.f_str bt_str (qe_var 1)) (qa_cons (qe_cmp qop_is (qe_var 1) qe_non) qa_nil))))))
    (qs_one (qs_ret (qe_and (qe_cmp (qop_eq (hu_of hr)) (qe_var 3) (qe_var 4)) (qe_one (qe_cmp (qop_eq (hu_of hr)) (qe_var 0) (qe_var 1))))))))))
end Qv

/-! ## K78W7 -/
set_option Elab.async false
set_option linter.all false
set_option maxRecDepth 100000
set_option maxHeartbeats 1000000
/-! the walk, 7: law_k78_deal_is_a_way (printed by genwalk.py) -/
namespace Qv
open PySem PySem.Spec PyProof.Rows L2
variable {P : Program} {w : World} {K : PySem.W.Frag} {mg : Str → Option Value} {base : Heap} {T : List (Addr × Str)}
def N_law_dealt : List Str := ["trade", "stock", "asks", "one", "two", "turn", "answer", "row"]
theorem S_law_dealt : FnScope N_law_dealt ["trade", "stock", "asks"] (defScope (top 92)) := ⟨rfl, rfl, rfl, by decide +kernel, rfl, by decide +kernel, by decide +kernel⟩
def F_law_dealt : DS := (sSeq (sSet 3 (eVal (fList (eSlot 1))))
    (sSeq (sSet 4 (eVal (fList (eSlot 2))))
    (sSeq (sFor (.nm 5) (iRange1 (eC (.int 2))) (sSeq (sSet 6 (eTold teller (eCallM 3 m_deal (aCons (eSlot 0) (aCons (eSlot 3) (aCons (eSlot 4) aNil))))))
    (sSeq (sIf (bOr (bTst (eOp dNe (eOp dIx (eSlot 6) (eC (.int 0))) (eC (.str "told")))) (bNot (bTru (eCallV 4 m_law_way_places (aCons (eSlot 0) (aCons (eSlot 1) (aCons (eSlot 2) (aCons (eOp dIx (eSlot 6) (eC (.int 1))) aNil)))))))) (sRet (eC (.bl false))) sNil)
    (sSeq (sSet 7 (eOp dIx (eSlot 6) (eC (.int 1))))
    (sDrop (eMth mAppend (eSlot 7) (aCons (eC (.int 0)) aNil)))))))
    (sRet (eAnd (eCallP 2 (m_law_equal 8) (aCons (eSlot 3) (aCons (eSlot 1) aNil))) (eCallP 2 (m_law_equal 8) (aCons (eSlot 4) (aCons (eSlot 2) aNil))))))))
def m_law_dealt : MD := runM N_law_dealt.length F_law_dealt
set_option maxHeartbeats 2000000 in
theorem ok_law_dealt (B : Bs lfa lfn ltf lex K mg base T) : Cal P w K mg base T "_law_dealt" ["trade", "stock", "asks"] 11 m_law_dealt := cal_ofL (k := 10) (F := F_law_dealt) (B.d_law_dealt) S_law_dealt B.g__law_dealt (fun _ _ _ _ _ _ us hl => match us, hl with | [_, _, _], _ => rfl) (fun A outer s H E hr => (qs_cons (qs_set 3 S_law_dealt.nd (qe_val (qf_list rfl B.f_list bt_list (qe_var 1))))
    (qs_cons (qs_set 4 S_law_dealt.nd (qe_val (qf_list rfl B.f_list bt_list (qe_var 2))))
    (qs_cons (qs_for (passes_of rfl) rfl (qi_range1 rfl B.f_range qe_int) (qg_name 5 S_law_dealt.nd) (qs_cons (qs_set 6 S_law_dealt.nd (tellL B (k := 8) rfl 0 rfl rfl rfl (hr.mono (by decide)) (LamX.lamS_by rfl) rfl (fun _ _ _ _ _ => rfl) (fun A outer s H E f0 c' hr2 => (qe_cM (ok_deal B) hr2 (by decide) rfl (L2N.passes_call (L2N.takes_of rfl rfl rfl rfl) (fun _ _ _ _ h => h)) (qa_cons (qe_var 0) (qa_cons (qe_var 3) (qa_cons (qe_var 4) qa_nil)))))))
    (qs_cons (qs_if (QW.qt (qw_or (qt_cmp (qop_ne (hu_of hr)) (qe_ix (qe_var 6) qe_int) qe_str) (qw_or1 (qt_not (qt_val (qe_cV (ok_law_way_places B) hr (by decide) rfl (L2N.passes_call (L2N.takes_of rfl rfl rfl rfl) (fun _ _ _ _ h => h)) (qa_cons (qe_var 0) (qa_cons (qe_var 1) (qa_cons (qe_var 2) (qa_cons (qe_ix (qe_var 6) qe_int) qa_nil)))))))))) (qs_one (qs_ret qe_bl)) qs_nil)
    (qs_cons (qs_set 7 S_law_dealt.nd (qe_ix (qe_var 6) qe_int))
    (qs_one (qs_drop (qe_append (qe_var 7) (qa_cons qe_int qa_nil))))))))
    (qs_one (qs_ret (qe_and (qe_cP (x := "_law_equal") (ps := ["told", "due"]) (m := m_law_equal 8) (k := 9) (ok_law_equal B 8) hr (by decide) rfl (L2N.passes_call (L2N.takes_of rfl rfl rfl rfl) (fun _ _ _ _ h => h)) (qa_cons (qe_var 3) (qa_cons (qe_var 1) qa_nil))) (qe_one (qe_cP (x := "_law_equal") (ps := ["told", "due"]) (m := m_law_equal 8) (k := 9) (ok_law_equal B 8) hr (by decide) rfl (L2N.passes_call (L2N.takes_of rfl rfl rfl rfl) (fun _ _ _ _ h => h)) (qa_cons (qe_var 4) (qa_cons (qe_var 2) qa_nil)))))))))))
def N_law_middles : List Str := ["trade", "stock", "one", "leg"]
theorem S_law_middles : FnScope N_law_middles ["trade", "stock"] (defScope (top 94)) := ⟨rfl, rfl, rfl, by decide +kernel, rfl, by decide +kernel, by decide +kernel⟩
def F_law_middles : DS := (sSeq (sSet 2 (eVal (fList (eSlot 1))))
    (sSeq (sFor (.nm 3) (iRange1 (eOp dIx (eSlot 0) (eC (.int 1)))) (sIf (bNot (bTru (eCallP 2 (m_law_equal 8) (aCons (eTold teller (eCallP 3 m_middle_of (aCons (eSlot 0) (aCons (eSlot 2) (aCons (eSlot 3) aNil))))) (aCons (eTup (aCons (eC (.str "told")) (aCons (eCallP 3 m_law_middle (aCons (eSlot 0) (aCons (eSlot 1) (aCons (eSlot 3) aNil)))) aNil))) aNil))))) (sRet (eC (.bl false))) sNil))
    (sRet (eCallP 2 (m_law_equal 8) (aCons (eSlot 2) (aCons (eSlot 1) aNil))))))
def m_law_middles : MD := runM N_law_middles.length F_law_middles
set_option maxHeartbeats 2000000 in
theorem ok_law_middles (B : Bs lfa lfn ltf lex K mg base T) : Cal P w K mg base T "_law_middles" ["trade", "stock"] 11 m_law_middles := cal_ofL (k := 10) (F := F_law_middles) (B.d_law_middles) S_law_middles B.g__law_middles (fun _ _ _ _ _ _ us hl => match us, hl with | [_, _], _ => rfl) (fun A outer s H E hr => (qs_cons (qs_set 2 S_law_middles.nd (qe_val (qf_list rfl B.f_list bt_list (qe_var 1))))
    (qs_cons (qs_for (passes_of rfl) rfl (qi_range1 rfl B.f_range (qe_ix (qe_var 0) qe_int)) (qg_name 3 S_law_middles.nd) (qs_one (qs_if (qt_not (qt_val (qe_cP (x := "_law_equal") (ps := ["told", "due"]) (m := m_law_equal 8) (k := 9) (ok_law_equal B 8) hr (by decide) rfl (L2N.passes_call (L2N.takes_of rfl rfl rfl rfl) (fun _ _ _ _ h => h)) (qa_cons (tellL B (k := 8) rfl 1 rfl rfl rfl (hr.mono (by decide)) (LamX.lamS_by rfl) rfl (fun _ _ _ _ _ => rfl) (fun A outer s H E f0 c' hr2 => (qe_cP (ok_middle_of B) hr2 (by decide) rfl (L2N.passes_call (L2N.takes_of rfl rfl rfl rfl) (fun _ _ _ _ h => h)) (qa_cons (qe_var 0) (qa_cons (qe_var 2) (qa_cons (qe_var 3) qa_nil)))))) (qa_cons (qe_tup (qa_cons qe_str (qa_cons (qe_cP (ok_law_middle B) hr (by decide) rfl (L2N.passes_call (L2N.takes_of rfl rfl rfl rfl) (fun _ _ _ _ h => h)) (qa_cons (qe_var 0) (qa_cons (qe_var 1) (qa_cons (qe_var 3) qa_nil)))) qa_nil))) qa_nil))))) (qs_one (qs_ret qe_bl)) qs_nil)))
    (qs_one (qs_ret (qe_cP (x := "_law_equal") (ps := ["told", "due"]) (m := m_law_equal 8) (k := 9) (ok_law_equal B 8) hr (by decide) rfl (L2N.passes_call (L2N.takes_of rfl rfl rfl rfl) (fun _ _ _ _ h => h)) (qa_cons (qe_var 2) (qa_cons (qe_var 1) qa_nil))))))))
def N_law_refused : List Str := ["store", "trade", "stock", "asks", "mode", "at", "due"]
theorem S_law_refused : FnScope N_law_refused ["store", "trade", "stock", "asks"] (defScope (top 98)) := ⟨rfl, rfl, rfl, by decide +kernel, rfl, by decide +kernel, by decide +kernel⟩
def F_law_refused : DS := (sSeq (sSet 4 (eCallM 2 m_law_take (aCons (eSlot 0) (aCons (eC (.int 4)) aNil))))
    (sSeq (sAsg (.tp [(.nm 3), (.nm 5)]) (eCallM 3 m_law_spoilt (aCons (eSlot 0) (aCons (eSlot 3) (aCons (eLst (aCons (eCallM 2 m_law_wrong (aCons (eSlot 0) (aCons (eSlot 1) aNil))) aNil)) aNil)))))
    (sSeq (sSet 6 (eTup (aCons (eC (.str "BadAsk")) (aCons (eSlot 5) aNil))))
    (sSeq (sIf (bTst (eOp dLt (eSlot 4) (eC (.int 3)))) (sSeq (sAsg (.tp [(.nm 2), (.nm 5)]) (eCallM 3 m_law_spoilt (aCons (eSlot 0) (aCons (eSlot 2) (aCons (eLst (aCons (eCallM 2 m_law_wrong (aCons (eSlot 0) (aCons (eSlot 1) aNil))) aNil)) aNil)))))
    (sSet 6 (eTup (aCons (eC (.str "BadStock")) (aCons (eSlot 5) aNil))))) sNil)
    (sSeq (sIf (bTst (eOp dLt (eSlot 4) (eC (.int 2)))) (sSeq (sSet 1 (eCallM 2 m_law_pick (aCons (eSlot 0) (aCons (eLst (aCons (eTup (aCons (eC (.str "round")) (aCons (eOp dIx (eSlot 1) (eC (.int 1))) aNil))) (aCons (eTup (aCons (eC (.str "yard")) (aCons (eC (.int 2)) aNil))) (aCons (eTup (aCons (eC (.str "till")) (aCons (eC (.int 0)) aNil))) (aCons (eTup (aCons (eC (.str "packing")) (aCons (eTup (aCons (eTup (aCons (eC (.str "q")) (aCons (eTup aNil) aNil))) aNil)) aNil))) aNil))))) aNil))))
    (sSet 6 (eTup (aCons (eC (.str "BadShape")) (aCons (eC .non) aNil))))) sNil)
    (sSeq (sIf (bTst (eOp dLt (eSlot 4) (eC (.int 1)))) (sSeq (sSet 1 (eCallM 2 m_law_untrade (aCons (eSlot 0) (aCons (eSlot 1) aNil))))
    (sSet 6 (eTup (aCons (eC (.str "BadTrade")) (aCons (eC .non) aNil))))) sNil)
    (sSeq (sIf (bAnd (bTst (eOp dLt (eSlot 4) (eC (.int 3)))) (bNot (bTru (eCallP 2 (m_law_equal 8) (aCons (eTold teller (eCallP 3 m_middle_of (aCons (eSlot 1) (aCons (eSlot 2) (aCons (eC (.int 0)) aNil))))) (aCons (eSlot 6) aNil)))))) (sRet (eC (.bl false))) sNil)
    (sRet (eCallP 2 (m_law_equal 8) (aCons (eTold teller (eCallM 3 m_deal (aCons (eSlot 1) (aCons (eSlot 2) (aCons (eSlot 3) aNil))))) (aCons (eSlot 6) aNil)))))))))))
def m_law_refused : MD := runM N_law_refused.length F_law_refused
set_option maxHeartbeats 2000000 in
theorem ok_law_refused (B : Bs lfa lfn ltf lex K mg base T) : Cal P w K mg base T "_law_refused" ["store", "trade", "stock", "asks"] 11 m_law_refused := cal_ofL (k := 10) (F := F_law_refused) (B.d_law_refused) S_law_refused B.g__law_refused (fun _ _ _ _ _ _ us hl => match us, hl with | [_, _, _, _], _ => rfl) (fun A outer s H E hr => (qs_cons (qs_set 4 S_law_refused.nd (qe_cM (ok_law_take B) hr (by decide) rfl (L2N.passes_call (L2N.takes_of rfl rfl rfl rfl) (fun _ _ _ _ h => h)) (qa_cons (qe_var 0) (qa_cons qe_int qa_nil))))
    (qs_cons (qs_asg (qe_cM (ok_law_spoilt B) hr (by decide) rfl (L2N.passes_call (L2N.takes_of rfl rfl rfl rfl) (fun _ _ _ _ h => h)) (qa_cons (qe_var 0) (qa_cons (qe_var 3) (qa_cons (qe_lst (qa_cons (qe_cM (ok_law_wrong B) hr (by decide) rfl (L2N.passes_call (L2N.takes_of rfl rfl rfl rfl) (fun _ _ _ _ h => h)) (qa_cons (qe_var 0) (qa_cons (qe_var 1) qa_nil))) qa_nil)) qa_nil)))) (qg_tup rfl (qgs_cons (qg_name 3 S_law_refused.nd) (qgs_cons (qg_name 5 S_law_refused.nd) qgs_nil))))
    (qs_cons (qs_set 6 S_law_refused.nd (qe_tup (qa_cons qe_str (qa_cons (qe_var 5) qa_nil))))
    (qs_cons (qs_if (qt_cmp qop_lt (qe_var 4) qe_int) (qs_cons (qs_asg (qe_cM (ok_law_spoilt B) hr (by decide) rfl (L2N.passes_call (L2N.takes_of rfl rfl rfl rfl) (fun _ _ _ _ h => h)) (qa_cons (qe_var 0) (qa_cons (qe_var 2) (qa_cons (qe_lst (qa_cons (qe_cM (ok_law_wrong B) hr (by decide) rfl (L2N.passes_call (L2N.takes_of rfl rfl rfl rfl) (fun _ _ _ _ h => h)) (qa_cons (qe_var 0) (qa_cons (qe_var 1) qa_nil))) qa_nil)) qa_nil)))) (qg_tup rfl (qgs_cons (qg_name 2 S_law_refused.nd) (qgs_cons (qg_name 5 S_law_refused.nd) qgs_nil))))
    (qs_one (qs_set 6 S_law_refused.nd (qe_tup (qa_cons qe_str (qa_cons (qe_var 5) qa_nil)))))) qs_nil)
    (qs_cons (qs_if (qt_cmp qop_lt (qe_var 4) qe_int) (qs_cons (qs_set 1 S_law_refused.nd (qe_cM (ok_law_pick B) hr (by decide) rfl (L2N.passes_call (L2N.takes_of rfl rfl rfl rfl) (fun _ _ _ _ h => h)) (qa_cons (qe_var 0) (qa_cons (qe_lst (qa_cons (qe_tup (qa_cons qe_str (qa_cons (qe_ix (qe_var 1) qe_int) qa_nil))) (qa_cons (qe_tup (qa_cons qe_str (qa_cons qe_int qa_nil))) (qa_cons (qe_tup (qa_cons qe_str (qa_cons qe_int qa_nil))) (qa_cons (qe_tup (qa_cons qe_str (qa_cons (qe_tup (qa_cons (qe_tup (qa_cons qe_str (qa_cons (qe_tup qa_nil) qa_nil))) qa_nil)) qa_nil))) qa_nil))))) qa_nil))))
    (qs_one (qs_set 6 S_law_refused.nd (qe_tup (qa_cons qe_str (qa_cons qe_non qa_nil)))))) qs_nil)
    (qs_cons (qs_if (qt_cmp qop_lt (qe_var 4) qe_int) (qs_cons (qs_set 1 S_law_refused.nd (qe_cM (ok_law_untrade B) hr (by decide) rfl (L2N.passes_call (L2N.takes_of rfl rfl rfl rfl) (fun _ _ _ _ h => h)) (qa_cons (qe_var 0) (qa_cons (qe_var 1) qa_nil))))
    (qs_one (qs_set 6 S_law_refused.nd (qe_tup (qa_cons qe_str (qa_cons qe_non qa_nil)))))) qs_nil)
    (qs_cons (qs_if (QW.qt (qw_and (qt_cmp qop_lt (qe_var 4) qe_int) (qw_and1 (qt_not (qt_val (qe_cP (x := "_law_equal") (ps := ["told", "due"]) (m := m_law_equal 8) (k := 9) (ok_law_equal B 8) hr (by decide) rfl (L2N.passes_call (L2N.takes_of rfl rfl rfl rfl) (fun _ _ _ _ h => h)) (qa_cons (tellL B (k := 8) rfl 2 rfl rfl rfl (hr.mono (by decide)) (LamX.lamS_by rfl) rfl (fun _ _ _ _ _ => rfl) (fun A outer s H E f0 c' hr2 => (qe_cP (ok_middle_of B) hr2 (by decide) rfl (L2N.passes_call (L2N.takes_of rfl rfl rfl rfl) (fun _ _ _ _ h => h)) (qa_cons (qe_var 1) (qa_cons (qe_var 2) (qa_cons qe_int qa_nil)))))) (qa_cons (qe_var 6) qa_nil)))))))) (qs_one (qs_ret qe_bl)) qs_nil)
    (qs_one (qs_ret (qe_cP (x := "_law_equal") (ps := ["told", "due"]) (m := m_law_equal 8) (k := 9) (ok_law_equal B 8) hr (by decide) rfl (L2N.passes_call (L2N.takes_of rfl rfl rfl rfl) (fun _ _ _ _ h => h)) (qa_cons (tellL B (k := 8) rfl 2 rfl rfl rfl (hr.mono (by decide)) (LamX.lamS_by rfl) rfl (fun _ _ _ _ _ => rfl) (fun A outer s H E f0 c' hr2 => (qe_cM (ok_deal B) hr2 (by decide) rfl (L2N.passes_call (L2N.takes_of rfl rfl rfl rfl) (fun _ _ _ _ h => h)) (qa_cons (qe_var 1) (qa_cons (qe_var 2) (qa_cons (qe_var 3) qa_nil)))))) (qa_cons (qe_var 6) qa_nil)))))))))))))
def N_law : List Str := ["script", "store", "trade", "stock", "asks", "more", "over", "piece", "bad", "row"]
theorem S_law : FnScope N_law ["script"] (defScope (top 99)) := ⟨rfl, rfl, rfl, by decide +kernel, rfl, by decide +kernel, by decide +kernel⟩
def F_law : DS := (sSeq (sSet 1 (eCallM 1 m_law_store (aCons (eSlot 0) aNil)))
    (sSeq (sAsg (.tp [(.nm 2), (.nm 3), (.nm 4)]) (eCallM 1 m_law_line (aCons (eSlot 1) aNil)))
    (sSeq (sIf (bOr (bTst (eOp dIsNot (eCallP 2 m_counting_fault (aCons (eSlot 2) (aCons (eVal (fList (eSlot 3))) aNil))) (eC .non))) (bNot (bTru (eCallP 3 m_law_dealt (aCons (eSlot 2) (aCons (eSlot 3) (aCons (eSlot 4) aNil))))))) (sRet (eC (.bl false))) sNil)
    (sSeq (sIf (bOr (bNot (bTru (eCallP 3 m_law_dealt (aCons (eSlot 2) (aCons (eOp dAdd (eSlot 3) (eSlice (eSlot 3) oNone (oSome (eC (.int 1))))) (aCons (eOp dAdd (eSlot 4) (eSlice (eSlot 3) oNone (oSome (eC (.int 1))))) aNil)))))) (bNot (bTru (eCallP 3 m_law_dealt (aCons (eSlot 2) (aCons (eSlot 3) (aCons (eLst aNil) aNil))))))) (sRet (eC (.bl false))) sNil)
    (sSeq (sIf (bNot (bTru (eCallP 2 m_law_middles (aCons (eSlot 2) (aCons (eSlot 3) aNil))))) (sRet (eC (.bl false))) sNil)
    (sSeq (sSet 5 (eCallM 4 m_law_more (aCons (eSlot 1) (aCons (eSlot 2) (aCons (eSlot 3) (aCons (eSlot 4) aNil))))))
    (sSeq (sSet 6 (eNew (fList (eSlot 4))))
    (sSeq (sDrop (eMth mInsert (eSlot 6) (aCons (eCallM 2 m_law_take (aCons (eSlot 1) (aCons (eOp dAdd (eCall (fn1 lenD) (aCons (eSlot 4) aNil)) (eC (.int 1))) aNil))) (aCons (eSlot 5) aNil))))
    (sSeq (sIf (bAnd (bTst (eOp dGe (eOp dIx (eSlot 5) (eC (.int 0))) (eC (.int 0)))) (bNot (bTru (eCallP 2 (m_law_equal 8) (aCons (eTold teller (eCallM 3 m_deal (aCons (eSlot 2) (aCons (eSlot 3) (aCons (eFrz (eSlot 6)) aNil))))) (aCons (eTup (aCons (eC (.str "NoPick")) (aCons (eC .non) aNil))) aNil)))))) (sRet (eC (.bl false))) sNil)
    (sSeq (sFor (.nm 7) (iSeq (eSlice (eCallM 2 m_law_shuffle (aCons (eSlot 1) (aCons (eCallP 2 m_law_no_count (aCons (eSlot 2) (aCons (eOp dIx (eSlot 3) (eC (.int 0))) aNil))) aNil))) oNone (oSome (eC (.int 2))))) (sSeq (sSet 8 (eOp dAdd (eSlot 3) (eLst (aCons (eSlot 7) aNil))))
    (sSeq (sIf (bOr (bTst (eOp dIs (eCallP 2 m_counting_fault (aCons (eSlot 2) (aCons (eVal (fList (eSlot 8))) aNil))) (eC .non))) (bNot (bTru (eCallP 2 m_law_middles (aCons (eSlot 2) (aCons (eSlot 8) aNil)))))) (sRet (eC (.bl false))) sNil)
    (sSeq (sFor (.nm 9) (iSeq (eLst (aCons (eLst aNil) (aCons (eSlot 4) aNil)))) (sIf (bNot (bTru (eCallP 2 (m_law_equal 8) (aCons (eTold teller (eCallM 3 m_deal (aCons (eSlot 2) (aCons (eVal (fList (eSlot 8))) (aCons (eVal (fList (eSlot 9))) aNil))))) (aCons (eTup (aCons (eC (.str "NotCounting")) (aCons (eC .non) aNil))) aNil))))) (sRet (eC (.bl false))) sNil))
    (sIf (bNot (bTru (eCallP 2 (m_law_equal 8) (aCons (eTold teller (eCallM 3 m_deal (aCons (eSlot 2) (aCons (eLst (aCons (eSlot 7) (aCons (eOp dIx (eSlot 3) (eC (.int 0))) aNil))) (aCons (eOp dMul (eSlice (eSlot 3) oNone (oSome (eC (.int 1)))) (eC (.int 3))) aNil))))) (aCons (eTup (aCons (eC (.str "NoPick")) (aCons (eC .non) aNil))) aNil))))) (sRet (eC (.bl false))) sNil)))))
    (sRet (eCallM 4 m_law_refused (aCons (eSlot 1) (aCons (eSlot 2) (aCons (eSlice (eSlot 3) oNone (oSome (eC (.int 30)))) (aCons (eSlice (eSlot 4) oNone (oSome (eC (.int 30)))) aNil))))))))))))))))
def m_law : MD := runM N_law.length F_law
set_option maxHeartbeats 2000000 in
theorem body_law (B : Bs lfa lfn ltf lex K mg base T) (A : Around) (outer : List PySem.Env) (s : Shared) (H : Hp) (E : XK) (hr : Room 11 (A.deeper (envOfC "law" (defScope (top 99)) s.heap.objs.size (He.ga K "law") (.ref (He.codeOf K ("law", none)))))) : QSs (cxOf (L2N.CX P w) P w K mg base N_law "law" (defScope (top 99)) (He.ga K "law") (.ref (He.codeOf K ("law", none))) A outer s H E) T E (defBody (top 99)) F_law := (qs_cons (qs_set 1 S_law.nd (qe_cM (ok_law_store B) hr (by decide) rfl (L2N.passes_call (L2N.takes_of rfl rfl rfl rfl) (fun _ _ _ _ h => h)) (qa_cons (qe_var 0) qa_nil)))
    (qs_cons (qs_asg (qe_cM (ok_law_line B) hr (by decide) rfl (L2N.passes_call (L2N.takes_of rfl rfl rfl rfl) (fun _ _ _ _ h => h)) (qa_cons (qe_var 1) qa_nil)) (qg_tup rfl (qgs_cons (qg_name 2 S_law.nd) (qgs_cons (qg_name 3 S_law.nd) (qgs_cons (qg_name 4 S_law.nd) qgs_nil)))))
    (qs_cons (qs_if (QW.qt (qw_or (qt_cmp qop_isnot (qe_cP (ok_counting_fault B) hr (by decide) rfl (L2N.passes_call (L2N.takes_of rfl rfl rfl rfl) (fun _ _ _ _ h => h)) (qa_cons (qe_var 2) (qa_cons (qe_val (qf_list rfl B.f_list bt_list (qe_var 3))) qa_nil))) qe_non) (qw_or1 (qt_not (qt_val (qe_cP (ok_law_dealt B) hr (by decide) rfl (L2N.passes_call (L2N.takes_of rfl rfl rfl rfl) (fun _ _ _ _ h => h)) (qa_cons (qe_var 2) (qa_cons (qe_var 3) (qa_cons (qe_var 4) qa_nil))))))))) (qs_one (qs_ret qe_bl)) qs_nil)
    (qs_cons (qs_if (QW.qt (qw_or (qt_not (qt_val (qe_cP (ok_law_dealt B) hr (by decide) rfl (L2N.passes_call (L2N.takes_of rfl rfl rfl rfl) (fun _ _ _ _ h => h)) (qa_cons (qe_var 2) (qa_cons (qe_op qop_add (qe_var 3) (qe_slice (qe_var 3) qo_none (qo_some qe_int))) (qa_cons (qe_op qop_add (qe_var 4) (qe_slice (qe_var 3) qo_none (qo_some qe_int))) qa_nil)))))) (qw_or1 (qt_not (qt_val (qe_cP (ok_law_dealt B) hr (by decide) rfl (L2N.passes_call (L2N.takes_of rfl rfl rfl rfl) (fun _ _ _ _ h => h)) (qa_cons (qe_var 2) (qa_cons (qe_var 3) (qa_cons (qe_lst qa_nil) qa_nil))))))))) (qs_one (qs_ret qe_bl)) qs_nil)
    (qs_cons (qs_if (qt_not (qt_val (qe_cP (ok_law_middles B) hr (by decide) rfl (L2N.passes_call (L2N.takes_of rfl rfl rfl rfl) (fun _ _ _ _ h => h)) (qa_cons (qe_var 2) (qa_cons (qe_var 3) qa_nil))))) (qs_one (qs_ret qe_bl)) qs_nil)
    (qs_cons (qs_set 5 S_law.nd (qe_cM (ok_law_more B) hr (by decide) rfl (L2N.passes_call (L2N.takes_of rfl rfl rfl rfl) (fun _ _ _ _ h => h)) (qa_cons (qe_var 1) (qa_cons (qe_var 2) (qa_cons (qe_var 3) (qa_cons (qe_var 4) qa_nil))))))
    (qs_cons (qs_set 6 S_law.nd (qe_new (qf_list rfl B.f_list bt_list (qe_var 4))))
    (qs_cons (qs_drop (qe_insert (qe_var 6) (qa_cons (qe_cM (ok_law_take B) hr (by decide) rfl (L2N.passes_call (L2N.takes_of rfl rfl rfl rfl) (fun _ _ _ _ h => h)) (qa_cons (qe_var 1) (qa_cons (qe_op qop_add (qe_callB qcall_len rfl B.f_len bt_len (qa_cons (qe_var 4) qa_nil)) qe_int) qa_nil))) (qa_cons (qe_var 5) qa_nil))))
    (qs_cons (qs_if (QW.qt (qw_and (qt_cmp qop_ge (qe_ix (qe_var 5) qe_int) qe_int) (qw_and1 (qt_not (qt_val (qe_cP (x := "_law_equal") (ps := ["told", "due"]) (m := m_law_equal 8) (k := 9) (ok_law_equal B 8) hr (by decide) rfl (L2N.passes_call (L2N.takes_of rfl rfl rfl rfl) (fun _ _ _ _ h => h)) (qa_cons (tellL B (k := 8) rfl 3 rfl rfl rfl (hr.mono (by decide)) (LamX.lamS_by rfl) rfl (fun _ _ _ _ _ => rfl) (fun A outer s H E f0 c' hr2 => (qe_cM (ok_deal B) hr2 (by decide) rfl (L2N.passes_call (L2N.takes_of rfl rfl rfl rfl) (fun _ _ _ _ h => h)) (qa_cons (qe_var 2) (qa_cons (qe_var 3) (qa_cons (qe_frz (qe_var 6)) qa_nil)))))) (qa_cons (qe_tup (qa_cons qe_str (qa_cons qe_non qa_nil))) qa_nil)))))))) (qs_one (qs_ret qe_bl)) qs_nil)
    (qs_cons (qs_for (passes_of rfl) rfl (qi_seq (qe_slice (qe_cM (ok_law_shuffle B) hr (by decide) rfl (L2N.passes_call (L2N.takes_of rfl rfl rfl rfl) (fun _ _ _ _ h => h)) (qa_cons (qe_var 1) (qa_cons (qe_cP (ok_law_no_count B) hr (by decide) rfl (L2N.passes_call (L2N.takes_of rfl rfl rfl rfl) (fun _ _ _ _ h => h)) (qa_cons (qe_var 2) (qa_cons (qe_ix (qe_var 3) qe_int) qa_nil))) qa_nil))) qo_none (qo_some qe_int))) (qg_name 7 S_law.nd) (qs_cons (qs_set 8 S_law.nd (qe_op qop_add (qe_var 3) (qe_lst (qa_cons (qe_var 7) qa_nil))))
    (qs_cons (qs_if (QW.qt (qw_or (qt_cmp qop_is (qe_cP (ok_counting_fault B) hr (by decide) rfl (L2N.passes_call (L2N.takes_of rfl rfl rfl rfl) (fun _ _ _ _ h => h)) (qa_cons (qe_var 2) (qa_cons (qe_val (qf_list rfl B.f_list bt_list (qe_var 8))) qa_nil))) qe_non) (qw_or1 (qt_not (qt_val (qe_cP (ok_law_middles B) hr (by decide) rfl (L2N.passes_call (L2N.takes_of rfl rfl rfl rfl) (fun _ _ _ _ h => h)) (qa_cons (qe_var 2) (qa_cons (qe_var 8) qa_nil)))))))) (qs_one (qs_ret qe_bl)) qs_nil)
    (qs_cons (qs_for (passes_of rfl) rfl (qi_seq (qe_lst (qa_cons (qe_lst qa_nil) (qa_cons (qe_var 4) qa_nil)))) (qg_name 9 S_law.nd) (qs_one (qs_if (qt_not (qt_val (qe_cP (x := "_law_equal") (ps := ["told", "due"]) (m := m_law_equal 8) (k := 9) (ok_law_equal B 8) hr (by decide) rfl (L2N.passes_call (L2N.takes_of rfl rfl rfl rfl) (fun _ _ _ _ h => h)) (qa_cons (tellL B (k := 8) rfl 3 rfl rfl rfl (hr.mono (by decide)) (LamX.lamS_by rfl) rfl (fun _ _ _ _ _ => rfl) (fun A outer s H E f0 c' hr2 => (qe_cM (ok_deal B) hr2 (by decide) rfl (L2N.passes_call (L2N.takes_of rfl rfl rfl rfl) (fun _ _ _ _ h => h)) (qa_cons (qe_var 2) (qa_cons (qe_val (qf_list rfl B.f_list bt_list (qe_var 8))) (qa_cons (qe_val (qf_list rfl B.f_list bt_list (qe_var 9))) qa_nil)))))) (qa_cons (qe_tup (qa_cons qe_str (qa_cons qe_non qa_nil))) qa_nil))))) (qs_one (qs_ret qe_bl)) qs_nil)))
    (qs_one (qs_if (qt_not (qt_val (qe_cP (x := "_law_equal") (ps := ["told", "due"]) (m := m_law_equal 8) (k := 9) (ok_law_equal B 8) hr (by decide) rfl (L2N.passes_call (L2N.takes_of rfl rfl rfl rfl) (fun _ _ _ _ h => h)) (qa_cons (tellL B (k := 8) rfl 3 rfl rfl rfl (hr.mono (by decide)) (LamX.lamS_by rfl) rfl (fun _ _ _ _ _ => rfl) (fun A outer s H E f0 c' hr2 => (qe_cM (ok_deal B) hr2 (by decide) rfl (L2N.passes_call (L2N.takes_of rfl rfl rfl rfl) (fun _ _ _ _ h => h)) (qa_cons (qe_var 2) (qa_cons (qe_lst (qa_cons (qe_var 7) (qa_cons (qe_ix (qe_var 3) qe_int) qa_nil))) (qa_cons (qe_op qop_mul (qe_slice (qe_var 3) qo_none (qo_some qe_int)) qe_int) qa_nil)))))) (qa_cons (qe_tup (qa_cons qe_str (qa_cons qe_non qa_nil))) qa_nil))))) (qs_one (qs_ret qe_bl)) qs_nil))))))
    (qs_one (qs_ret (qe_cM (ok_law_refused B) hr (by decide) rfl (L2N.passes_call (L2N.takes_of rfl rfl rfl rfl) (fun _ _ _ _ h => h)) (qa_cons (qe_var 1) (qa_cons (qe_var 2) (qa_cons (qe_slice (qe_var 3) qo_none (qo_some qe_int)) (qa_cons (qe_slice (qe_var 4) qo_none (qo_some qe_int)) qa_nil)))))))))))))))))
end Qv

/-! ## M0 -/
set_option Elab.async false
set_option linter.all false
set_option maxRecDepth 100000
set_option maxHeartbeats 400000
namespace Qv
open PySem PySem.Spec PyProof.Rows L2
/-! evaluation of denotations, as rules for simp -/
section
variable {α β : Type} {ρ : Env} {C : Cells} {f g h : DE} {fa : DA} {c : DB} {i : Nat} {d x y : D}
@[simp] theorem ev_bind_ok (a : α) (k : α → Cells → Out β) : (Out.ok a C).bind k = k a C := rfl
@[simp] theorem ev_bind_exn (e : Exn) (k : α → Cells → Out β) : (Out.exn e C).bind k = .exn e C := rfl
@[simp] theorem ev_bindS_ok (a : α) (k : α → Cells → SO) : (Out.ok a C).bindS k = k a C := rfl
@[simp] theorem ev_bindS_exn (e : Exn) (k : α → Cells → SO) : (Out.exn e C).bindS k = .exn e C := rfl
@[simp] theorem ev_slot : eSlot i ρ C = match ρ[i]? with
  | some (some d) => .ok d C
  | _ => .stuck := rfl
@[simp] theorem ev_C : eC d ρ C = .ok d C := rfl
@[simp] theorem ev_aNil : aNil ρ C = .ok [] C := rfl
@[simp] theorem ev_aCons {g : DA} : aCons f g ρ C = (f ρ C).bind fun d C => (g ρ C).bind fun ds C => .ok (d :: ds) C := rfl
@[simp] theorem ev_op {o : D2} : eOp o f g ρ C = (f ρ C).bind fun x C => (g ρ C).bind fun y C => match o x y C with
  | some d => .ok d C
  | none => .stuck := rfl
@[simp] theorem ev_map {o : D → Cells → Option D} : eMap o f ρ C = (f ρ C).bind fun x C => match o x C with
  | some d => .ok d C
  | none => .stuck := rfl
@[simp] theorem ev_call {o : List D → Cells → Option D} : eCall o fa ρ C = (fa ρ C).bind fun x C => match o x C with
  | some d => .ok d C
  | none => .stuck := rfl
@[simp] theorem ev_callP {n : Nat} {m : MD} : eCallP n m fa ρ C = (fa ρ C).bind fun ds C => if ds.length = n ∧ D.ncs ds = true then pureM m ds C else .stuck := rfl
@[simp] theorem ev_callM {n : Nat} {m : MD} : eCallM n m fa ρ C = (fa ρ C).bind fun ds C => if ds.length = n then m ds C else .stuck := rfl
@[simp] theorem ev_tup : eTup fa ρ C = (fa ρ C).bind fun xs C => if xs.length ≤ sizeLine then .ok (.tup xs) C else .stuck := rfl
@[simp] theorem ev_lst : eLst fa ρ C = (fa ρ C).bind fun xs C => if xs.length ≤ sizeLine then .ok (.lst xs) C else .stuck := rfl
@[simp] theorem ev_if : eIf c f g ρ C = (c ρ C).bind fun b C => if b = true then f ρ C else g ρ C := rfl
@[simp] theorem ev_and : eAnd f g ρ C = (f ρ C).bind fun x C => match truD C x with
  | some b => if b = true then g ρ C else .ok x C
  | none => .stuck := by
  unfold eAnd
  cases f ρ C with
  | ok a C' => simp only [Out.bind]; cases truD C' a with
    | none => rfl
    | some b => cases b <;> rfl
  | exn e C' => rfl
  | stuck => rfl
@[simp] theorem ev_or : eOr f g ρ C = (f ρ C).bind fun x C => match truD C x with
  | some b => if b = true then .ok x C else g ρ C
  | none => .stuck := by
  unfold eOr
  cases f ρ C with
  | ok a C' => simp only [Out.bind]; cases truD C' a with
    | none => rfl
    | some b => cases b <;> rfl
  | exn e C' => rfl
  | stuck => rfl
@[simp] theorem ev_tru : bTru f ρ C = (f ρ C).bind fun x C => match truD C x with
  | some b => .ok b C
  | none => .stuck := rfl
@[simp] theorem ev_tst : bTst f ρ C = (f ρ C).bind fun x C => match x with
  | .bl b => .ok b C
  | _ => .stuck := rfl
@[simp] theorem ev_not {c : DB} : bNot c ρ C = (c ρ C).bind fun b C => .ok (!b) C := rfl
@[simp] theorem ev_bAnd {c e : DB} : bAnd c e ρ C = (c ρ C).bind fun b C => if b = true then e ρ C else .ok false C := rfl
@[simp] theorem ev_bOr {c e : DB} : bOr c e ρ C = (c ρ C).bind fun b C => if b = true then .ok true C else e ρ C := rfl
@[simp] theorem ev_bYes : bYes ρ C = .ok true C := rfl
/-! statements -/
@[simp] theorem ev_nil : sNil ρ C = .nx ρ C := rfl
@[simp] theorem ev_seq {f g : DS} : sSeq f g ρ C = match f ρ C with
  | .nx ρ C => g ρ C
  | o => o := rfl
@[simp] theorem ev_ret : sRet f ρ C = (f ρ C).bindS fun d C => .rt d C := rfl
@[simp] theorem ev_drop : sDrop f ρ C = (f ρ C).bindS fun _ C => .nx ρ C := rfl
@[simp] theorem ev_sif {f g : DS} : sIf c f g ρ C = (c ρ C).bindS fun b C => if b = true then f ρ C else g ρ C := rfl
@[simp] theorem ev_set : sSet i f ρ C = (f ρ C).bindS fun d C => .nx (ρ.set i (some d)) C := rfl
@[simp] theorem ev_asg {t : Tgt} : sAsg t f ρ C = (f ρ C).bindS fun d C => match t.bind d ρ with
  | some ρ' => .nx ρ' C
  | none => .stuck := rfl
@[simp] theorem ev_raise0 {x : Str} : sRaise0 x ρ C = .exn ⟨x, none⟩ C := rfl
@[simp] theorem ev_raise1 {x f : Str} : sRaise1 x f fa ρ C = (fa ρ C).bindS fun ds C => match ds with
  | [d] => .exn ⟨x, some (f, d)⟩ C
  | _ => .stuck := rfl
@[simp] theorem ev_for {t : Tgt} {b : DS} : sFor t fa b ρ C = (fa ρ C).bindS fun ds C => loopF t b ds ρ C := rfl
@[simp] theorem ev_brk : sBrk ρ C = .bk ρ C := rfl
@[simp] theorem ev_run (n : Nat) (F : DS) (ds : List D) : runM n F ds C = match F (ds.map some ++ List.replicate (n - ds.length) none) C with
  | .rt d C' => .ok d C'
  | .nx _ C' => .ok .non C'
  | .exn x C' => .exn x C'
  | _ => .stuck := rfl
@[simp] theorem ev_bind_nm : (Tgt.nm i).bind d ρ = some (ρ.set i (some d)) := by simp [Tgt.bind]
@[simp] theorem ev_bind_tp {l : List Tgt} {ds : List D} : (Tgt.tp l).bind (.tup ds) ρ = Tgt.binds l ds ρ := by simp [Tgt.bind]
@[simp] theorem ev_binds_nil : Tgt.binds [] [] ρ = some ρ := by simp [Tgt.binds]
@[simp] theorem ev_binds_cons {t : Tgt} {l : List Tgt} {ds : List D} : Tgt.binds (t :: l) (d :: ds) ρ = (t.bind d ρ).bind fun ρ => Tgt.binds l ds ρ := by simp [Tgt.binds]
/-! operators -/
variable {a b : Int}
@[simp] theorem nc_int : (D.int a).nc = true := rfl
@[simp] theorem nc_bl {b : Bool} : (D.bl b).nc = true := rfl
@[simp] theorem nc_str {z : Str} : (D.str z).nc = true := rfl
@[simp] theorem nc_non : D.non.nc = true := rfl
@[simp] theorem nc_tup {l : List D} : (D.tup l).nc = D.ncs l := by simp [D.nc]
@[simp] theorem nc_lst {l : List D} : (D.lst l).nc = D.ncs l := by simp [D.nc]
@[simp] theorem ncs_nil : D.ncs [] = true := by simp [D.ncs]
@[simp] theorem ncs_cons' {l : List D} : D.ncs (d :: l) = (d.nc && D.ncs l) := by simp [D.ncs]
@[simp] theorem dAdd_ii : dAdd (.int a) (.int b) C = some (.int (a + b)) := rfl
@[simp] theorem dSub_ii : dSub (.int a) (.int b) C = some (.int (a - b)) := rfl
@[simp] theorem dMod_ii : dMod (.int a) (.int b) C = if 0 < b then some (.int (a % b)) else none := by simp [dMod]
@[simp] theorem dLt_ii : dLt (.int a) (.int b) C = some (.bl (decide (a < b))) := rfl
@[simp] theorem dLe_ii : dLe (.int a) (.int b) C = some (.bl (decide (a ≤ b))) := rfl
@[simp] theorem dGt_ii : dGt (.int a) (.int b) C = some (.bl (decide (b < a))) := rfl
@[simp] theorem dGe_ii : dGe (.int a) (.int b) C = some (.bl (decide (b ≤ a))) := rfl
@[simp] theorem dEq_ii : dEq (.int a) (.int b) C = some (.bl (decide (a = b))) := by with_unfolding_all rfl
@[simp] theorem dNe_ii : dNe (.int a) (.int b) C = some (.bl (!decide (a = b))) := by with_unfolding_all rfl
@[simp] theorem eq_line_line : dEq (.str "line") (.str "line") C = some (.bl true) := by with_unfolding_all rfl
@[simp] theorem ne_line_line : dNe (.str "line") (.str "line") C = some (.bl false) := by with_unfolding_all rfl
@[simp] theorem eq_line_round : dEq (.str "line") (.str "round") C = some (.bl false) := by with_unfolding_all rfl
@[simp] theorem ne_line_round : dNe (.str "line") (.str "round") C = some (.bl true) := by with_unfolding_all rfl
@[simp] theorem eq_line_yard : dEq (.str "line") (.str "yard") C = some (.bl false) := by with_unfolding_all rfl
@[simp] theorem ne_line_yard : dNe (.str "line") (.str "yard") C = some (.bl true) := by with_unfolding_all rfl
@[simp] theorem eq_line_till : dEq (.str "line") (.str "till") C = some (.bl false) := by with_unfolding_all rfl
@[simp] theorem ne_line_till : dNe (.str "line") (.str "till") C = some (.bl true) := by with_unfolding_all rfl
@[simp] theorem eq_line_packing : dEq (.str "line") (.str "packing") C = some (.bl false) := by with_unfolding_all rfl
@[simp] theorem ne_line_packing : dNe (.str "line") (.str "packing") C = some (.bl true) := by with_unfolding_all rfl
@[simp] theorem eq_round_line : dEq (.str "round") (.str "line") C = some (.bl false) := by with_unfolding_all rfl
@[simp] theorem ne_round_line : dNe (.str "round") (.str "line") C = some (.bl true) := by with_unfolding_all rfl
@[simp] theorem eq_round_round : dEq (.str "round") (.str "round") C = some (.bl true) := by with_unfolding_all rfl
@[simp] theorem ne_round_round : dNe (.str "round") (.str "round") C = some (.bl false) := by with_unfolding_all rfl
@[simp] theorem eq_round_yard : dEq (.str "round") (.str "yard") C = some (.bl false) := by with_unfolding_all rfl
@[simp] theorem ne_round_yard : dNe (.str "round") (.str "yard") C = some (.bl true) := by with_unfolding_all rfl
@[simp] theorem eq_round_till : dEq (.str "round") (.str "till") C = some (.bl false) := by with_unfolding_all rfl
@[simp] theorem ne_round_till : dNe (.str "round") (.str "till") C = some (.bl true) := by with_unfolding_all rfl
@[simp] theorem eq_round_packing : dEq (.str "round") (.str "packing") C = some (.bl false) := by with_unfolding_all rfl
@[simp] theorem ne_round_packing : dNe (.str "round") (.str "packing") C = some (.bl true) := by with_unfolding_all rfl
@[simp] theorem eq_yard_line : dEq (.str "yard") (.str "line") C = some (.bl false) := by with_unfolding_all rfl
@[simp] theorem ne_yard_line : dNe (.str "yard") (.str "line") C = some (.bl true) := by with_unfolding_all rfl
@[simp] theorem eq_yard_round : dEq (.str "yard") (.str "round") C = some (.bl false) := by with_unfolding_all rfl
@[simp] theorem ne_yard_round : dNe (.str "yard") (.str "round") C = some (.bl true) := by with_unfolding_all rfl
@[simp] theorem eq_yard_yard : dEq (.str "yard") (.str "yard") C = some (.bl true) := by with_unfolding_all rfl
@[simp] theorem ne_yard_yard : dNe (.str "yard") (.str "yard") C = some (.bl false) := by with_unfolding_all rfl
@[simp] theorem eq_yard_till : dEq (.str "yard") (.str "till") C = some (.bl false) := by with_unfolding_all rfl
@[simp] theorem ne_yard_till : dNe (.str "yard") (.str "till") C = some (.bl true) := by with_unfolding_all rfl
@[simp] theorem eq_yard_packing : dEq (.str "yard") (.str "packing") C = some (.bl false) := by with_unfolding_all rfl
@[simp] theorem ne_yard_packing : dNe (.str "yard") (.str "packing") C = some (.bl true) := by with_unfolding_all rfl
@[simp] theorem eq_till_line : dEq (.str "till") (.str "line") C = some (.bl false) := by with_unfolding_all rfl
@[simp] theorem ne_till_line : dNe (.str "till") (.str "line") C = some (.bl true) := by with_unfolding_all rfl
@[simp] theorem eq_till_round : dEq (.str "till") (.str "round") C = some (.bl false) := by with_unfolding_all rfl
@[simp] theorem ne_till_round : dNe (.str "till") (.str "round") C = some (.bl true) := by with_unfolding_all rfl
@[simp] theorem eq_till_yard : dEq (.str "till") (.str "yard") C = some (.bl false) := by with_unfolding_all rfl
@[simp] theorem ne_till_yard : dNe (.str "till") (.str "yard") C = some (.bl true) := by with_unfolding_all rfl
@[simp] theorem eq_till_till : dEq (.str "till") (.str "till") C = some (.bl true) := by with_unfolding_all rfl
@[simp] theorem ne_till_till : dNe (.str "till") (.str "till") C = some (.bl false) := by with_unfolding_all rfl
@[simp] theorem eq_till_packing : dEq (.str "till") (.str "packing") C = some (.bl false) := by with_unfolding_all rfl
@[simp] theorem ne_till_packing : dNe (.str "till") (.str "packing") C = some (.bl true) := by with_unfolding_all rfl
@[simp] theorem eq_packing_line : dEq (.str "packing") (.str "line") C = some (.bl false) := by with_unfolding_all rfl
@[simp] theorem ne_packing_line : dNe (.str "packing") (.str "line") C = some (.bl true) := by with_unfolding_all rfl
@[simp] theorem eq_packing_round : dEq (.str "packing") (.str "round") C = some (.bl false) := by with_unfolding_all rfl
@[simp] theorem ne_packing_round : dNe (.str "packing") (.str "round") C = some (.bl true) := by with_unfolding_all rfl
@[simp] theorem eq_packing_yard : dEq (.str "packing") (.str "yard") C = some (.bl false) := by with_unfolding_all rfl
@[simp] theorem ne_packing_yard : dNe (.str "packing") (.str "yard") C = some (.bl true) := by with_unfolding_all rfl
@[simp] theorem eq_packing_till : dEq (.str "packing") (.str "till") C = some (.bl false) := by with_unfolding_all rfl
@[simp] theorem ne_packing_till : dNe (.str "packing") (.str "till") C = some (.bl true) := by with_unfolding_all rfl
@[simp] theorem eq_packing_packing : dEq (.str "packing") (.str "packing") C = some (.bl true) := by with_unfolding_all rfl
@[simp] theorem ne_packing_packing : dNe (.str "packing") (.str "packing") C = some (.bl false) := by with_unfolding_all rfl
@[simp] theorem in_line : dIn (.str "line") (.tup [.str "line", .str "round"]) C = some (.bl true) := by with_unfolding_all rfl
@[simp] theorem in_round : dIn (.str "round") (.tup [.str "line", .str "round"]) C = some (.bl true) := by with_unfolding_all rfl
@[simp] theorem in_yard : dIn (.str "yard") (.tup [.str "line", .str "round"]) C = some (.bl false) := by with_unfolding_all rfl
@[simp] theorem in_till : dIn (.str "till") (.tup [.str "line", .str "round"]) C = some (.bl false) := by with_unfolding_all rfl
@[simp] theorem in_packing : dIn (.str "packing") (.tup [.str "line", .str "round"]) C = some (.bl false) := by with_unfolding_all rfl
@[simp] theorem truD_bl {b : Bool} : truD C (.bl b) = some b := rfl
@[simp] theorem dIs_nn : dIs .non .non C = some (.bl true) := rfl
@[simp] theorem dIsNot_nn : dIsNot .non .non C = some (.bl false) := rfl
@[simp] theorem dIs_in : dIs (.int a) .non C = some (.bl false) := rfl
@[simp] theorem dIsNot_in : dIsNot (.int a) .non C = some (.bl true) := rfl
@[simp] theorem dIs_tn {l : List D} : dIs (.tup l) .non C = some (.bl false) := rfl
@[simp] theorem dIsNot_tn {l : List D} : dIsNot (.tup l) .non C = some (.bl true) := rfl
@[simp] theorem dIsNot_sn {z : Str} : dIsNot (.str z) .non C = some (.bl true) := rfl
@[simp] theorem numNeg_i : numNeg (.int a) C = some (.int (-a)) := rfl
@[simp] theorem isi_tt {l : List D} : isiD "tuple" (.tup l) C = some (.bl true) := by with_unfolding_all rfl
@[simp] theorem isi_ll {l : List D} : isiD "list" (.lst l) C = some (.bl true) := by with_unfolding_all rfl
@[simp] theorem isi_ii : isiD "int" (.int a) C = some (.bl true) := by with_unfolding_all rfl
@[simp] theorem isi_ib : isiD "bool" (.int a) C = some (.bl false) := by with_unfolding_all rfl
@[simp] theorem len_t {l : List D} : fn1 lenD [.tup l] C = some (.int l.length) := rfl
@[simp] theorem len_l {l : List D} : fn1 lenD [.lst l] C = some (.int l.length) := rfl
@[simp] theorem ch_ii {f1 f2 f3 : DE} {o o' : D2} : eChain o o' f1 f2 f3 ρ C = (f1 ρ C).bind fun x C => (f2 ρ C).bind fun y C => match o x y C with
  | some (.bl true) => (f3 ρ C).bind fun z C => (match o' y z C with
    | some d => .ok d C
    | none => .stuck)
  | some (.bl false) => .ok (.bl false) C
  | _ => .stuck := by
  unfold eChain
  rfl
@[simp] theorem ix_t {l : List D} : dIx (.tup l) (.int a) C = atI l a := rfl
@[simp] theorem ix_l {l : List D} : dIx (.lst l) (.int a) C = atI l a := rfl
theorem at_nat {α : Type} {l : List α} {k : Nat} {z : α} (h : l[k]? = some z) : atI l (k : Int) = some z := by
  have hk := (List.getElem?_eq_some_iff.mp h).1
  unfold atI ixN
  rw [if_pos (by omega), if_pos (by omega)]
  simpa using h
@[simp] theorem at_0 {l : List D} : atI (d :: l) 0 = some d := at_nat (k := 0) rfl
@[simp] theorem at_1 {l : List D} : atI (x :: d :: l) 1 = some d := at_nat (k := 1) rfl
@[simp] theorem at_2 {l : List D} : atI (x :: y :: d :: l) 2 = some d := at_nat (k := 2) rfl
/-! pure calls: what is told of m, for any cells -/
theorem pure_ok {m : MD} {ds : List D} {d : D} {C' : Cells} (h : m ds [] = .ok d C') (hd : d.nc = true) : pureM m ds C = .ok d C := by
  unfold pureM
  rw [h]
  exact if_pos hd
theorem pure_exn {m : MD} {ds : List D} {e : Exn} {C' : Cells} (h : m ds [] = .exn e C') (hd : exnNc e = true) : pureM m ds C = .exn e C := by
  unfold pureM
  rw [h]
  exact if_pos hd
/-! the first specs -/
@[simp] theorem sp_is_number : pureM m_is_number [.int a] C = .ok (.bl true) C := pure_ok (C' := []) (by simp [m_is_number, N_is_number, F_is_number, truD]) rfl
@[simp] theorem sp_is_between {c : Int} : pureM m_is_between [.int a, .int b, .int c] C = .ok (.bl (decide (b ≤ a ∧ a ≤ c))) C := pure_ok (C' := []) (by
  simp [m_is_between, N_is_between, F_is_between]
  by_cases h : b ≤ a <;> simp [h]) rfl
/-- ('line', n) -/
def dLine (n : Int) : D := .tup [.str "line", .int n]
/-- (first, legs) -/
def dPc (p : Int × Int) : D := .tup [.int p.1, .int p.2]
def okPc (n : Int) (p : Int × Int) : Bool := decide (0 ≤ p.1 ∧ 1 ≤ p.2 ∧ p.1 + p.2 ≤ n)
theorem sp_is_stretch {n : Int} {p : Int × Int} : pureM m_is_stretch [dLine n, dPc p] C = .ok (.bl (okPc n p)) C := pure_ok (C' := []) (by
  obtain ⟨u, v⟩ := p
  simp [m_is_stretch, N_is_stretch, F_is_stretch, dLine, dPc, okPc]
  by_cases h1 : 0 ≤ u <;> by_cases h2 : 1 ≤ v <;> simp [h1, h2]) rfl
@[simp] theorem sp_fits_line {n : Int} {p : Int × Int} : pureM m_fits [dLine n, dPc p] C = .ok (.bl (okPc n p)) C := pure_ok (C' := []) (by
  have h := sp_is_stretch (C := []) (n := n) (p := p)
  obtain ⟨u, v⟩ := p
  simp [m_fits, N_fits, F_fits, dLine, dPc] at h ⊢
  simp [h]) rfl
@[simp] theorem sp_is_trade {n : Int} : pureM m_is_trade [dLine n] C = .ok (.bl (decide (1 ≤ n ∧ n ≤ 24))) C := pure_ok (C' := []) (by
  simp [m_is_trade, N_is_trade, F_is_trade, dLine]) rfl
theorem sp_check_trade {n : Int} (h : 1 ≤ n ∧ n ≤ 24) : pureM m_check_trade [dLine n] C = .ok (.bl true) C := pure_ok (C' := []) (by
  have h1 := sp_is_trade (C := []) (n := n)
  simp [dLine] at h1
  simp [m_check_trade, N_check_trade, F_check_trade, dLine, h1, h]) rfl
/-! enumerate -/
def enumK : Nat → List D → List D
  | _, [] => []
  | k, x :: xs => .tup [.int k, x] :: enumK (k + 1) xs
theorem enumD_eq (xs : List D) : enumD xs = enumK 0 xs := by
  have h : ∀ (xs : List D) (k : Nat), ((List.range' k xs.length).zipWith (fun (i : Nat) x => D.tup [.int i, x]) xs) = enumK k xs := by
    intro xs
    induction xs with
    | nil => intro k; rfl
    | cons x xs ih =>
      intro k
      rw [List.length_cons, List.range'_succ, List.zipWith_cons_cons, ih (k + 1)]
      rfl
  unfold enumD
  rw [List.range_eq_range']
  exact h xs 0
end
end Qv

/-! ## M1 -/
set_option Elab.async false
set_option linter.all false
set_option maxRecDepth 100000
set_option maxHeartbeats 400000
namespace Qv
open PySem PySem.Spec PyProof.Rows L2
section
variable {ρ : Env} {C : Cells}
theorem loop_nil {t : Tgt} {b : DS} : loopF t b [] ρ C = .nx ρ C := rfl
theorem loop_cons {t : Tgt} {b : DS} {d : D} {ds : List D} : loopF t b (d :: ds) ρ C = match t.bind d ρ with
  | none => .stuck
  | some ρ' => match b ρ' C with
    | .nx ρ2 C2 => loopF t b ds ρ2 C2
    | .ct ρ2 C2 => loopF t b ds ρ2 C2
    | .bk ρ2 C2 => .nx ρ2 C2
    | .rt d C2 => .rt d C2
    | .exn x C2 => .exn x C2
    | .stuck => .stuck := rfl
/-! wrong_piece -/
/-- the first that does not fit, from k on -/
def wrongI (fit : D → Bool) : Nat → List D → D
  | _, [] => .non
  | k, x :: xs => if fit x then wrongI fit (k + 1) xs else .int k
theorem wrong_loop {n : D} {fit : D → Bool} (hn : n.nc = true) : ∀ (xs : List D) (k : Nat) (ρ : Env), (∀ d ∈ xs, d.nc = true ∧ pureM m_fits [n, d] C = .ok (.bl (fit d)) C) → ρ.length = 4 → ρ[0]? = some (some n) →
    (∃ i, wrongI fit k xs = .int i ∧ loopF (.tp [.nm 2, .nm 3]) (sIf (bNot (bTru (eCallP 2 m_fits (aCons (eSlot 0) (aCons (eSlot 3) aNil))))) (sRet (eSlot 2)) sNil) (enumK k xs) ρ C = .rt (.int i) C) ∨
    (wrongI fit k xs = .non ∧ ∃ ρ', loopF (.tp [.nm 2, .nm 3]) (sIf (bNot (bTru (eCallP 2 m_fits (aCons (eSlot 0) (aCons (eSlot 3) aNil))))) (sRet (eSlot 2)) sNil) (enumK k xs) ρ C = .nx ρ' C)
  | [], k, ρ, _, _, _ => .inr ⟨rfl, ρ, rfl⟩
  | x :: xs, k, ρ, h, hl, h0 => by
    obtain ⟨hx, hf⟩ := h x (by simp)
    match ρ, hl with
    | [a0, a1, a2, a3], _ =>
      simp at h0
      subst h0
      unfold enumK wrongI
      rw [loop_cons]
      cases hfx : fit x with
      | false => exact .inl ⟨k, by simp, by simp [hx, hn, hf, hfx]⟩
      | true =>
        rcases wrong_loop hn xs (k + 1) [some n, a1, some (.int k), some x] (fun d hd => h d (by simp [hd])) rfl rfl with ⟨i, e1, e2⟩ | ⟨e1, ρ', e2⟩
        · exact .inl ⟨i, by simpa using e1, by simpa [hx, hn, hf, hfx] using e2⟩
        · exact .inr ⟨by simpa using e1, ρ', by simpa [hx, hn, hf, hfx] using e2⟩
end
theorem sp_wrong_piece {n : D} {xs : List D} {fit : D → Bool} {C : Cells} (hn : n.nc = true) (h : ∀ d ∈ xs, d.nc = true ∧ ∀ C, pureM m_fits [n, d] C = .ok (.bl (fit d)) C) : pureM m_wrong_piece [n, .lst xs] C = .ok (wrongI fit 0 xs) C := by
  rcases wrong_loop (C := []) hn xs 0 [some n, some (.lst xs), none, none] (fun d hd => ⟨(h d hd).1, (h d hd).2 []⟩) rfl rfl with ⟨i, e1, e2⟩ | ⟨e1, ρ', e2⟩
  · exact pure_ok (C' := []) (by simp [m_wrong_piece, N_wrong_piece, F_wrong_piece, iEnumD, enumD_eq, e2, e1]) (by rw [e1]; rfl)
  · exact pure_ok (C' := []) (by simp [m_wrong_piece, N_wrong_piece, F_wrong_piece, iEnumD, enumD_eq, e2, e1]) (by rw [e1]; rfl)
def dPcs (ps : List (Int × Int)) : List D := ps.map dPc
theorem wrongI_ok {n : Int} : ∀ (ps : List (Int × Int)) (k : Nat), (∀ p ∈ ps, okPc n p = true) → ∀ fit : D → Bool, (∀ p : Int × Int, fit (dPc p) = okPc n p) → wrongI fit k (dPcs ps) = .non
  | [], _, _, _, _ => rfl
  | p :: ps, k, h, fit, hf => by
    show (if fit (dPc p) = true then wrongI fit (k + 1) (dPcs ps) else _) = _
    rw [if_pos (by rw [hf]; exact h p (by simp))]
    exact wrongI_ok ps (k + 1) (fun q hq => h q (by simp [hq])) fit hf
@[simp] theorem nc_dPc {p : Int × Int} : (dPc p).nc = true := by simp [dPc]
@[simp] theorem ncs_dPcs {ps : List (Int × Int)} : D.ncs (dPcs ps) = true := by
  induction ps with
  | nil => simp [dPcs]
  | cons p ps ih => simp [dPcs] at ih ⊢; exact ih
@[simp] theorem nc_dLine {n : Int} : (dLine n).nc = true := by simp [dLine]
/-- fits, as a Bool of the thing -/
def fitB (n : Int) (d : D) : Bool := match m_fits [dLine n, d] [] with
  | .ok (.bl b) _ => b
  | _ => false
theorem fitB_pc {n : Int} {p : Int × Int} : fitB n (dPc p) = okPc n p := by
  have h := sp_fits_line (C := []) (n := n) (p := p)
  unfold fitB
  unfold pureM at h
  split at h
  · rename_i d C' e
    split at h
    · cases h
      rw [e]
    · cases h
  · split at h <;> cases h
  · cases h
theorem sp_wrong_ok {n : Int} {ps : List (Int × Int)} {C : Cells} (h : ∀ p ∈ ps, okPc n p = true) : pureM m_wrong_piece [dLine n, .lst (dPcs ps)] C = .ok .non C := by
  rw [sp_wrong_piece (fit := fitB n) nc_dLine (fun d hd => by
    obtain ⟨p, _, rfl⟩ := List.mem_map.mp hd
    exact ⟨nc_dPc, fun C => by rw [fitB_pc]; exact sp_fits_line⟩), wrongI_ok ps 0 h (fitB n) fun p => fitB_pc]
/-! check_stock, check_asks -/
theorem dIs_non {C : Cells} {d : D} (h : d = .non) : dIsNot d .non C = some (.bl false) := by subst h; rfl
theorem sp_check_asks {n : Int} {ps : List (Int × Int)} {C : Cells} (hn : 1 ≤ n ∧ n ≤ 24) (h : ∀ p ∈ ps, okPc n p = true) : pureM m_check_asks [dLine n, .lst (dPcs ps)] C = .ok (.lst (dPcs ps)) C := pure_ok (C' := []) (by
  simp [m_check_asks, N_check_asks, F_check_asks, sp_check_trade hn, sp_wrong_ok h, eVal, fList, D.seq]) (by simp)
/-! sorted, of pairs of ints -/
def pcLe (p q : Int × Int) : Bool := decide (p.1 < q.1 ∨ (p.1 = q.1 ∧ p.2 ≤ q.2))
theorem itemLt_i (a b : Int) : PyProof.Rows.itemLt (.inl a) (.inl b) = decide (a < b) := rfl
theorem le_pc (p q : Int × Int) : PySem.W.dataLe false D.py (dPc p) (dPc q) = pcLe p q := by
  obtain ⟨a, b⟩ := p
  obtain ⟨c, d⟩ := q
  have h : ∀ u v : Int, PySem.W.keyToks (D.py (dPc (u, v))) = [.inl 1, .inl u, .inl 1, .inl v, .inl 0] := fun u v => by simp [dPc, D.py, D.pys, PySem.W.keyToks, PySem.W.keyToksAll]
  unfold PySem.W.dataLe PySem.W.sortLe pcLe
  simp only [h, cond_false]
  simp [PyProof.Rows.lexLt, PyProof.Rows.itemOrd, itemLt_i]
  by_cases h1 : a < c
  · have h2 : ¬ c < a := by omega
    simp [h1, h2]
  · by_cases h2 : c < a
    · have h3 : a ≠ c := by omega
      simp [h1, h2, h3]
    · have h3 : a = c := by omega
      subst h3
      by_cases h4 : b < d
      · have h5 : b ≤ d := by omega
        simp [h4, h5]
      · by_cases h5 : d < b
        · simp [h4, h5]
        · have h6 : b = d := by omega
          subst h6
          simp
def sortP (ps : List (Int × Int)) : List (Int × Int) := ps.mergeSort pcLe
theorem sortL_pcs (ps : List (Int × Int)) : sortL (dPcs ps) = dPcs (sortP ps) := by
  unfold sortL dPcs sortP
  exact (List.map_mergeSort fun a _ b _ => (le_pc a b).symm).symm
theorem sortP_perm (ps : List (Int × Int)) : (sortP ps).Perm ps := List.mergeSort_perm _ _
theorem sortP_mem {ps : List (Int × Int)} {p : Int × Int} : p ∈ sortP ps ↔ p ∈ ps := (sortP_perm ps).mem_iff
theorem pcLe_trans (a b c : Int × Int) (h1 : pcLe a b = true) (h2 : pcLe b c = true) : pcLe a c = true := by
  unfold pcLe at *
  simp only [decide_eq_true_eq] at *
  omega
theorem pcLe_total (a b : Int × Int) : (pcLe a b || pcLe b a) = true := by
  unfold pcLe
  simp only [Bool.or_eq_true, decide_eq_true_eq]
  omega
theorem sortP_sorted (ps : List (Int × Int)) : (sortP ps).Pairwise fun a b => pcLe a b = true := List.pairwise_mergeSort pcLe_trans pcLe_total ps
theorem alike_pc (p q : Int × Int) : PySem.W.alike (D.py (dPc p)) (D.py (dPc q)) = true := by
  simp [dPc, D.py, D.pys, PySem.W.alike, PySem.W.alikeAll]
theorem sortOk_pcs (ps : List (Int × Int)) : sortOk (dPcs ps) = true := by
  unfold sortOk dPcs
  simp only [Bool.and_eq_true, Bool.or_eq_true, List.all_eq_true, List.mem_map]
  refine ⟨⟨?_, .inl ?_⟩, ?_⟩
  · rintro _ ⟨p, _, rfl⟩ _ ⟨q, _, rfl⟩
    exact alike_pc p q
  · rintro _ ⟨p, _, rfl⟩
    rfl
  · rintro _ ⟨p, _, rfl⟩
    simp [dPc, D.py, D.pys, PyData.depth, PyData.depthAll]
theorem sp_check_stock {n : Int} {ps : List (Int × Int)} {C : Cells} (hn : 1 ≤ n ∧ n ≤ 24) (h : ∀ p ∈ ps, okPc n p = true) : pureM m_check_stock [dLine n, .lst (dPcs ps)] C = .ok (.lst (dPcs (sortP ps))) C := pure_ok (C' := []) (by
  simp [m_check_stock, N_check_stock, F_check_stock, sp_check_trade hn, sp_wrong_ok h, fn1, sortD, D.seq, sortOk_pcs, sortL_pcs]) (by simp)
end Qv

/-! ## M2 -/
set_option Elab.async false
set_option linter.all false
set_option maxRecDepth 100000
set_option maxHeartbeats 400000
namespace Qv
open PySem PySem.Spec PyProof.Rows L2
/-! comprehensions without effect -/
theorem comp_ok {t : Tgt} {c : DB} {e : DE} {ρ : Env} {C : Cells} (p : D → Bool) (g : D → D) : ∀ (ds acc : List D), (∀ d ∈ ds, ∃ ρd, t.bind d ρ = some ρd ∧ c ρd C = .ok (p d) C ∧ (p d = true → e ρd C = .ok (g d) C)) → acc.length + ds.length ≤ sizeLine →
    loopC t c e ρ ds acc C = .ok (acc ++ (ds.filter p).map g) C
  | [], acc, _, _ => by simp [loopC]
  | d :: ds, acc, h, hl => by
    obtain ⟨ρd, h1, h2, h3⟩ := h d (by simp)
    unfold loopC
    simp only [h1, h2]
    simp only [List.length_cons] at hl
    cases hp : p d with
    | false =>
      simp only [hp]
      rw [comp_ok p g ds acc (fun x hx => h x (by simp [hx])) (by omega)]
      simp [hp]
    | true =>
      simp only [hp, h3 hp]
      rw [if_pos (by omega), comp_ok p g ds (acc ++ [g d]) (fun x hx => h x (by simp [hx])) (by simp; omega)]
      simp [hp]
theorem fcomp_ok {t : Tgt} {vs : List Nat} {fi : DA} {c : DB} {e : DE} {ρ : Env} {C C' : Cells} {ds : List D} (p : D → Bool) (g : D → D) (hi : fi ρ C = .ok ds C') (hl : ds.length ≤ sizeLine)
    (h : ∀ d ∈ ds, ∃ ρd, t.bind d (wipeE ρ vs) = some ρd ∧ c ρd C' = .ok (p d) C' ∧ (p d = true → e ρd C' = .ok (g d) C')) : fComp t vs fi c e ρ C = .ok ((ds.filter p).map g) C' := by
  unfold fComp
  rw [hi]
  show loopC t c e (wipeE ρ vs) ds [] C' = _
  rw [comp_ok p g ds [] h (by simpa using hl)]
  simp
theorem fcomp_all {t : Tgt} {vs : List Nat} {fi : DA} {e : DE} {ρ : Env} {C C' : Cells} {ds : List D} (g : D → D) (hi : fi ρ C = .ok ds C') (hl : ds.length ≤ sizeLine)
    (h : ∀ d ∈ ds, ∃ ρd, t.bind d (wipeE ρ vs) = some ρd ∧ e ρd C' = .ok (g d) C') : fComp t vs fi bYes e ρ C = .ok (ds.map g) C' := by
  rw [fcomp_ok (fun _ => true) g hi hl (fun d hd => by
    obtain ⟨ρd, h1, h2⟩ := h d hd
    exact ⟨ρd, h1, rfl, fun _ => h2⟩)]
  congr 1
  exact congrArg _ (List.filter_eq_self.mpr fun _ _ => rfl)
theorem ncs_of {l : List D} (h : ∀ x ∈ l, x.nc = true) : D.ncs l = true := by
  induction l with
  | nil => simp
  | cons x l ih => simp [h x (by simp), ih fun y hy => h y (by simp [hy])]
theorem ncs_ints {α : Type} (l : List α) (g : α → Int) : D.ncs (l.map fun x => D.int (g x)) = true := ncs_of fun x hx => by
  obtain ⟨y, _, rfl⟩ := List.mem_map.mp hx
  rfl
/-! loops by an invariant -/
theorem loop_inv {t : Tgt} {b : DS} (I : Nat → Env → Cells → Prop) : ∀ (ds : List D) (k : Nat) (ρ : Env) (C : Cells), I k ρ C → (∀ (j : Nat) d, ds[j]? = some d → ∀ ρ C, I (k + j) ρ C → ∃ ρ1, t.bind d ρ = some ρ1 ∧ ∃ ρ2 C2, (b ρ1 C = .nx ρ2 C2 ∨ b ρ1 C = .ct ρ2 C2) ∧ I (k + j + 1) ρ2 C2) →
    ∃ ρ' C', loopF t b ds ρ C = .nx ρ' C' ∧ I (k + ds.length) ρ' C'
  | [], k, ρ, C, h, _ => ⟨ρ, C, rfl, h⟩
  | d :: ds, k, ρ, C, h, st => by
    obtain ⟨ρ1, e1, ρ2, C2, e2, h2⟩ := st 0 d rfl ρ C h
    obtain ⟨ρ', C', e3, h3⟩ := loop_inv I ds (k + 1) ρ2 C2 h2 (fun j d' hd ρ C hI => by
      have e : k + 1 + j = k + (j + 1) := by omega
      rw [e] at hI ⊢
      exact st (j + 1) d' (by simpa using hd) ρ C hI)
    refine ⟨ρ', C', ?_, by rw [List.length_cons]; have e : k + 1 + ds.length = k + (ds.length + 1) := by omega
                           rwa [e] at h3⟩
    rw [loop_cons, e1]
    rcases e2 with e2 | e2 <;> simp only [e2] <;> exact e3
/-! counts in a cell -/
def cntL (n : Nat) (f : Nat → Int) : List D := (List.range n).map fun l => D.int (f l)
theorem cntL_len {n : Nat} {f : Nat → Int} : (cntL n f).length = n := by simp [cntL]
theorem cntL_get {n : Nat} {f : Nat → Int} {i : Nat} (h : i < n) : (cntL n f)[i]? = some (.int (f i)) := by simp [cntL, h]
theorem cntL_set {n : Nat} {f : Nat → Int} {i : Nat} {v : Int} (h : i < n) : (cntL n f).set i (.int v) = cntL n fun l => if l = i then v else f l := by
  apply List.ext_getElem?
  intro j
  by_cases hj : j < n
  · by_cases e : i = j
    · subst e
      rw [List.getElem?_set_self (by rw [cntL_len]; exact h), cntL_get h]
      simp
    · rw [List.getElem?_set_ne e, cntL_get hj, cntL_get hj]
      have : j ≠ i := fun z => e z.symm
      simp [this]
  · rw [List.getElem?_eq_none (by rw [List.length_set, cntL_len]; omega), List.getElem?_eq_none (by rw [cntL_len]; omega)]
theorem aug_ok' {g : Int → Int → Int} {fo fi fe : DE} {ρ : Env} {C : Cells} {k n : Nat} {f : Nat → Int} {i : Nat} {b : Int} (ho : fo ρ C = .ok (.cel k) C) (hi : fi ρ C = .ok (.int i) C) (he : fe ρ C = .ok (.int b) C) (hk : C[k]? = some (.lst (cntL n f))) (hn : i < n) :
    sAug g fo fi fe ρ C = .nx ρ (C.set k (.lst (cntL n fun l => if l = i then g (f i) b else f l))) := by
  unfold sAug
  have hix : ixN (cntL n f).length (i : Int) = some i := by unfold ixN; rw [cntL_len, if_pos (by omega), if_pos (by omega)]; simp
  simp [ho, hi, he, D.seq, hk, at_nat (cntL_get hn), celPut, setAt, hix, cntL_set hn]
/-! legs_of -/
theorem rangeD_mem {lo : Int} {n : Nat} {d : D} : d ∈ rangeD lo n ↔ ∃ k : Nat, k < n ∧ d = .int (lo + k) := by
  unfold rangeD
  simp [List.mem_map, eq_comm]
theorem sp_legs_of {n : Int} {p : Int × Int} {C : Cells} (hn : 1 ≤ n ∧ n ≤ 24) (h : okPc n p = true) : pureM m_legs_of [dLine n, dPc p] C = .ok (.lst ((List.range p.2.toNat).map fun k => D.int (p.1 + (k : Nat)))) C := by
  obtain ⟨a, b⟩ := p
  unfold okPc at h
  simp only [decide_eq_true_eq] at h
  have hc : fComp (.nm 5) [5] (iRange1 (eSlot 4)) bYes (eOp dMod (eOp dAdd (eSlot 3) (eSlot 5)) (eSlot 2)) [some (dLine n), some (dPc (a, b)), some (.int n), some (.int a), some (.int b), none] [] = .ok ((rangeD 0 b.toNat).map fun d => match d with
      | .int k => .int (a + k)
      | d => d) [] := by
    refine fcomp_all _ (by simp [iRange1]; omega) (by simp [rangeD, sizeLine_eq]; omega) (fun d hd => ?_)
    obtain ⟨k, hk, rfl⟩ := rangeD_mem.mp hd
    refine ⟨_, ev_bind_nm, ?_⟩
    have e : (a + (k : Int)) % n = a + (k : Int) := Int.emod_eq_of_lt (by omega) (by omega)
    have e0 : 0 < n := by omega
    simp [wipeE, e, e0]
  refine pure_ok (C' := []) ?_ (by simp [ncs_ints])
  simp [dLine, dPc] at hc
  simp [m_legs_of, N_legs_of, F_legs_of, dLine, dPc, eVal, hc, rangeD]
def cov (l : Nat) (p : Int × Int) : Bool := decide (p.1 ≤ l ∧ (l : Int) < p.1 + p.2)
/-- how many of the pieces have the leg -/
def cnt (ps : List (Int × Int)) (l : Nat) : Int := (ps.countP (cov l) : Nat)
theorem ncs_cntL {n : Nat} {f : Nat → Int} : D.ncs (cntL n f) = true := ncs_ints _ _
theorem rangeD_len {lo : Int} {n : Nat} : (rangeD lo n).length = n := by unfold rangeD; rw [List.length_map, List.length_range]
theorem line_le {n : Nat} (h : n ≤ 1000000) : n ≤ sizeLine := by rw [sizeLine_eq]; omega
theorem cnt_nil {l : Nat} : cnt [] l = 0 := rfl
theorem cnt_snoc {ps : List (Int × Int)} {p : Int × Int} {l : Nat} : cnt (ps ++ [p]) l = cnt ps l + if cov l p then 1 else 0 := by
  unfold cnt
  rw [List.countP_append, List.countP_singleton]
  split <;> simp
theorem cntL_congr {n : Nat} {f g : Nat → Int} (h : ∀ l, l < n → f l = g l) : cntL n f = cntL n g := by
  unfold cntL
  apply List.map_congr_left
  intro l hl
  rw [h l (by simpa using hl)]
/-- the inner loop of free_legs -/
theorem free_inner {n : Nat} {a b : Int} (h : 0 ≤ a ∧ 1 ≤ b ∧ a + b ≤ n) {f : Nat → Int} {x0 x1 x3 x4 : Option D} :
    ∃ x3', loopF (.nm 3) (sAug (fun a b => a + b) (eSlot 2) (eSlot 3) (eC (.int 1))) ((List.range b.toNat).map fun k => D.int (a + (k : Nat))) [x0, x1, some (.cel 0), x3, x4] [.lst (cntL n f)] =
      .nx [x0, x1, some (.cel 0), x3', x4] [.lst (cntL n fun l => f l + if cov l (a, b) then 1 else 0)] := by
  obtain ⟨ρ', C', e, x3', rfl, rfl⟩ := loop_inv (t := .nm 3) (b := sAug (fun a b => a + b) (eSlot 2) (eSlot 3) (eC (.int 1))) (fun k ρ C => ∃ x3, ρ = [x0, x1, some (.cel 0), x3, x4] ∧ C = [.lst (cntL n fun l => f l + if a ≤ l ∧ (l : Int) < a + k then 1 else 0)])
    ((List.range b.toNat).map fun k => D.int (a + (k : Nat))) 0 [x0, x1, some (.cel 0), x3, x4] [.lst (cntL n f)] ⟨x3, rfl, by
      congr 1
      congr 1
      exact cntL_congr fun l _ => by rw [if_neg (by omega)]; omega⟩ (fun j d hd ρ C hI => by
      obtain ⟨y3, rfl, rfl⟩ := hI
      have hj : j < b.toNat := by
        have := (List.getElem?_eq_some_iff.mp hd).1
        simpa using this
      have ed : d = .int (a + (j : Nat)) := by
        rw [List.getElem?_map, List.getElem?_range hj] at hd
        exact (Option.some.inj hd).symm
      subst ed
      obtain ⟨i, hi⟩ : ∃ i : Nat, a + (j : Int) = (i : Int) := ⟨(a + j).toNat, by omega⟩
      refine ⟨_, ev_bind_nm, _, _, .inl (aug_ok' (k := 0) (n := n) (f := fun l => f l + if a ≤ l ∧ (l : Int) < a + ((0 + j : Nat) : Int) then 1 else 0) (i := i) (b := 1) (by simp) (by simp [hi]) rfl rfl (by omega)), some (.int (a + (j : Nat))), by simp, ?_⟩
      simp only [List.set_cons_zero]
      congr 1
      congr 1
      refine cntL_congr fun l hl => ?_
      simp only [Nat.zero_add]
      by_cases e : l = i
      · subst e
        rw [if_pos rfl, if_neg (by omega), if_pos (by omega)]
        omega
      · rw [if_neg e]
        by_cases e2 : a ≤ (l : Int) ∧ (l : Int) < a + (j : Int)
        · rw [if_pos e2, if_pos (by omega)]
        · rw [if_neg e2, if_neg (by omega)])
  refine ⟨x3', ?_⟩
  rw [e]
  congr 1
  congr 1
  congr 1
  refine cntL_congr fun l _ => ?_
  simp only [cov, decide_eq_true_eq, List.length_map, List.length_range, Nat.zero_add]
  have : ((b.toNat : Nat) : Int) = b := by omega
  rw [this]
theorem small62 {j : Int} (h0 : 0 ≤ j) (h : j ≤ 1000000) : decide (-(2 ^ 62) ≤ j ∧ j < 2 ^ 62) = true := by
  simp
  omega
theorem rng1 {f : DE} {ρ : Env} {C : Cells} {j : Int} (h : f ρ C = .ok (.int j) C) (h0 : 0 ≤ j) (h1 : j ≤ 1000000) : iRange1 f ρ C = .ok (rangeD 0 j.toNat) C := by
  unfold iRange1
  rw [h]
  exact if_pos (small62 h0 h1)
theorem free_h0 {n : Nat} {s : D} (hn : 1 ≤ n ∧ n ≤ 24) : fComp (.nm 3) [3] (iRange1 (eOp dIx (eSlot 0) (eC (.int 1)))) bYes (eC (.int 0)) [some (dLine n), some s, none, none, none] [] = .ok (cntL n (cnt [])) [] := by
  rw [fcomp_all (fun _ => .int 0) (rng1 (j := n) (by simp [dLine]) (by omega) (by omega)) (by rw [rangeD_len]; exact line_le (by omega)) (fun d _ => ⟨_, ev_bind_nm, rfl⟩)]
  simp [cntL, rangeD, cnt]
theorem free_outer {n : Nat} {ps : List (Int × Int)} (hn : 1 ≤ n ∧ n ≤ 24) (h : ∀ p ∈ ps, okPc n p = true) : ∃ x3 x4, loopF (.nm 4) (sFor (.nm 3) (iSeq (eCallP 2 m_legs_of (aCons (eSlot 0) (aCons (eSlot 4) aNil)))) (sAug (fun a b => a + b) (eSlot 2) (eSlot 3) (eC (.int 1)))) (dPcs ps) [some (dLine n), some (.lst (dPcs ps)), some (.cel 0), none, none] [.lst (cntL n (cnt []))] =
    .nx [some (dLine n), some (.lst (dPcs ps)), some (.cel 0), x3, x4] [.lst (cntL n (cnt ps))] := by
  obtain ⟨ρ', C', e, x3, x4, rfl, rfl⟩ := loop_inv (t := .nm 4) (b := sFor (.nm 3) (iSeq (eCallP 2 m_legs_of (aCons (eSlot 0) (aCons (eSlot 4) aNil)))) (sAug (fun a b => a + b) (eSlot 2) (eSlot 3) (eC (.int 1))))
    (fun k ρ C => ∃ x3 x4, ρ = [some (dLine n), some (.lst (dPcs ps)), some (.cel 0), x3, x4] ∧ C = [.lst (cntL n (cnt (ps.take k)))]) (dPcs ps) 0 [some (dLine n), some (.lst (dPcs ps)), some (.cel 0), none, none] [.lst (cntL n (cnt []))] ⟨none, none, rfl, by simp⟩ (fun j d hd ρ C hI => by
      obtain ⟨y3, y4, rfl, rfl⟩ := hI
      obtain ⟨p, hp, rfl⟩ : ∃ p, ps[j]? = some p ∧ d = dPc p := by
        unfold dPcs at hd
        rw [List.getElem?_map] at hd
        obtain ⟨p, h1, h2⟩ := Option.map_eq_some_iff.mp hd
        exact ⟨p, h1, h2.symm⟩
      have hok := h p (List.mem_of_getElem? hp)
      have hok' := hok
      unfold okPc at hok'
      simp only [decide_eq_true_eq] at hok'
      obtain ⟨x3', e⟩ := free_inner (n := n) (a := p.1) (b := p.2) hok' (f := cnt (ps.take j)) (x0 := some (dLine n)) (x1 := some (.lst (dPcs ps))) (x3 := y3) (x4 := some (dPc p))
      refine ⟨_, ev_bind_nm, [some (dLine n), some (.lst (dPcs ps)), some (.cel 0), x3', some (dPc p)], [.lst (cntL n (cnt (ps.take (j + 1))))], .inl ?_, x3', some (dPc p), rfl, by simp⟩
      have el := sp_legs_of (n := n) (p := p) (C := [.lst (cntL n (cnt (ps.take j)))]) (by omega) hok
      simp [iSeq, el, e]
      refine cntL_congr fun l _ => ?_
      have et : ps.take (j + 1) = ps.take j ++ [p] := by
        rw [List.take_add_one, hp]
        rfl
      rw [et, cnt_snoc])
  have ed : (dPcs ps).length = ps.length := by simp [dPcs]
  rw [Nat.zero_add, ed, List.take_length] at e
  exact ⟨x3, x4, e⟩
end Qv

/-! ## M3 -/
set_option Elab.async false
set_option linter.all false
set_option maxRecDepth 100000
set_option maxHeartbeats 400000
namespace Qv
open PySem PySem.Spec PyProof.Rows L2
@[simp] theorem ev_iSeq {f : DE} {ρ : Env} {C : Cells} : iSeq f ρ C = (f ρ C).bind fun x C => match x with
  | .lst xs => .ok xs C
  | .tup xs => .ok xs C
  | .flst xs => .ok xs C
  | _ => .stuck := rfl
@[simp] theorem ev_new {f : DF} {ρ : Env} {C : Cells} : eNew f ρ C = (f ρ C).bind fun xs C => .ok (.cel C.length) (C ++ [.lst xs]) := rfl
@[simp] theorem ev_val {f : DF} {ρ : Env} {C : Cells} : eVal f ρ C = (f ρ C).bind fun xs C => .ok (.lst xs) C := rfl
@[simp] theorem ev_frz {f : DE} {ρ : Env} {C : Cells} : eFrz f ρ C = (f ρ C).bind fun d C => match frz d C with
  | some (d, C) => .ok d C
  | none => .stuck := rfl
theorem frz_cel {k : Nat} {C : Cells} {xs : List D} (h : C[k]? = some (.lst xs)) (hn : D.ncs xs = true) : frz (.cel k) C = some (.lst xs, C.set k .dead) := by
  show (match C[k]? with
    | some (Cell.lst xs) => if D.ncs xs = true then some (D.lst xs, C.set k .dead) else none
    | _ => none) = _
  rw [h]
  exact if_pos hn
theorem run_rt {n : Nat} {F : DS} {ds : List D} {ρ0 : Env} {C C' : Cells} {d : D} (h0 : ds.map some ++ List.replicate (n - ds.length) none = ρ0) (h : F ρ0 C = .rt d C') : runM n F ds C = .ok d C' := by
  unfold runM
  rw [h0, h]
theorem run_exn {n : Nat} {F : DS} {ds : List D} {ρ0 : Env} {C C' : Cells} {x : Exn} (h0 : ds.map some ++ List.replicate (n - ds.length) none = ρ0) (h : F ρ0 C = .exn x C') : runM n F ds C = .exn x C' := by
  unfold runM
  rw [h0, h]
theorem run_nx {n : Nat} {F : DS} {ds : List D} {ρ0 ρ' : Env} {C C' : Cells} (h0 : ds.map some ++ List.replicate (n - ds.length) none = ρ0) (h : F ρ0 C = .nx ρ' C') : runM n F ds C = .ok .non C' := by
  unfold runM
  rw [h0, h]
theorem seq_nx {f g : DS} {ρ ρ' : Env} {C C' : Cells} (h : f ρ C = .nx ρ' C') : sSeq f g ρ C = g ρ' C' := by
  unfold sSeq
  rw [h]
theorem seq_rt {f g : DS} {ρ : Env} {C C' : Cells} {d : D} (h : f ρ C = .rt d C') : sSeq f g ρ C = .rt d C' := by
  unfold sSeq
  rw [h]
theorem seq_exn {f g : DS} {ρ : Env} {C C' : Cells} {x : Exn} (h : f ρ C = .exn x C') : sSeq f g ρ C = .exn x C' := by
  unfold sSeq
  rw [h]
theorem sp_free_legs {n : Nat} {ps : List (Int × Int)} {C : Cells} (hn : 1 ≤ n ∧ n ≤ 24) (h : ∀ p ∈ ps, okPc n p = true) : pureM m_free_legs [dLine n, .lst (dPcs ps)] C = .ok (.lst (cntL n (cnt ps))) C := by
  obtain ⟨x3, x4, e⟩ := free_outer hn h
  refine pure_ok (C' := [.dead]) (run_rt (ρ0 := [some (dLine n), some (.lst (dPcs ps)), none, none, none]) rfl ?_) (by rw [nc_lst]; exact ncs_cntL)
  unfold F_free_legs
  rw [seq_nx (ρ' := [some (dLine n), some (.lst (dPcs ps)), some (.cel 0), none, none]) (C' := [.lst (cntL n (cnt []))]) (by
    rw [ev_set, ev_new]
    rw [show (([("leg", 3)] : List (Str × Nat)).map (·.2)) = [3] from rfl, free_h0 hn]
    rfl)]
  rw [seq_nx (ρ' := [some (dLine n), some (.lst (dPcs ps)), some (.cel 0), x3, x4]) (C' := [.lst (cntL n (cnt ps))]) (by rw [ev_for]; exact e)]
  rw [ev_ret, ev_frz]
  show Out.bindS (match frz (.cel 0) [.lst (cntL n (cnt ps))] with
    | some (d, C) => .ok d C
    | none => .stuck) _ = _
  rw [frz_cel (xs := cntL n (cnt ps)) rfl ncs_cntL]
  rfl
end Qv

/-! ## M4 -/
set_option Elab.async false
set_option linter.all false
set_option maxRecDepth 100000
set_option maxHeartbeats 400000
namespace Qv
open PySem PySem.Spec PyProof.Rows L2
/-- a loop that returns at the first hit -/
theorem loop_first {t : Tgt} {b : DS} {C : Cells} (I : Nat → Env → Prop) (hit : D → Bool) (res : D → D) : ∀ (ds : List D) (k : Nat) (ρ : Env), I k ρ →
    (∀ (j : Nat) d, ds[j]? = some d → ∀ ρ, I (k + j) ρ → ∃ ρ1, t.bind d ρ = some ρ1 ∧ ((hit d = true ∧ b ρ1 C = .rt (res d) C) ∨ (hit d = false ∧ ∃ ρ2, b ρ1 C = .nx ρ2 C ∧ I (k + j + 1) ρ2))) →
    (∃ d, ds.find? hit = some d ∧ loopF t b ds ρ C = .rt (res d) C) ∨ (ds.find? hit = none ∧ ∃ ρ', loopF t b ds ρ C = .nx ρ' C ∧ I (k + ds.length) ρ')
  | [], k, ρ, h, _ => .inr ⟨rfl, ρ, rfl, h⟩
  | d :: ds, k, ρ, h, st => by
    obtain ⟨ρ1, e1, e2⟩ := st 0 d rfl ρ h
    rw [loop_cons, e1]
    rcases e2 with ⟨hd, e2⟩ | ⟨hd, ρ2, e2, h2⟩
    · exact .inl ⟨d, by simp [List.find?_cons, hd], by simp only [e2]⟩
    · have ih := loop_first I hit res ds (k + 1) ρ2 h2 (fun j d' hd' ρ hI => by
        have e : k + 1 + j = k + (j + 1) := by omega
        rw [e] at hI ⊢
        exact st (j + 1) d' (by simpa using hd') ρ hI)
      rcases ih with ⟨d', f1, f2⟩ | ⟨f1, ρ', f2, f3⟩
      · exact .inl ⟨d', by simp [List.find?_cons, hd, f1], by simp only [e2]; exact f2⟩
      · refine .inr ⟨by simp [List.find?_cons, hd, f1], ρ', by simp only [e2]; exact f2, ?_⟩
        rw [List.length_cons]
        have e : k + 1 + ds.length = k + (ds.length + 1) := by omega
        rwa [e] at f3
section
variable {C : Cells} {n : Nat} {ps as : List (Int × Int)}
theorem sp_check_hall (hn : 1 ≤ n ∧ n ≤ 24) : pureM m_check_hall [dLine n] C = .ok .non C := pure_ok (C' := []) (by
  have h := sp_check_trade (C := []) (n := n) (by omega)
  simp [dLine] at h
  simp [m_check_hall, N_check_hall, F_check_hall, dLine, h]) rfl
theorem sp_check_line1 (hn : 1 ≤ n ∧ n ≤ 24) : pureM m_check_line_counting [dLine n] C = .ok .non C := pure_ok (C' := []) (by
  have h := sp_check_trade (C := []) (n := n) (by omega)
  simp [dLine] at h
  simp [m_check_line_counting, N_check_line_counting, F_check_line_counting, dLine, h]) rfl
theorem sp_check_line2 (hn : 1 ≤ n ∧ n ≤ 24) : pureM m_check_line_deals [dLine n] C = .ok .non C := pure_ok (C' := []) (by
  have h := sp_check_trade (C := []) (n := n) (by omega)
  simp [dLine] at h
  simp [m_check_line_deals, N_check_line_deals, F_check_line_deals, dLine, h]) rfl
theorem cnt_sort {l : Nat} : cnt (sortP ps) l = cnt ps l := by
  unfold cnt
  rw [(sortP_perm ps).countP_eq]
theorem sort_ok {m : Int} (h : ∀ p ∈ ps, okPc m p = true) : ∀ p ∈ sortP ps, okPc m p = true := fun p hp => h p (sortP_mem.mp hp)
theorem sp_leg_counts (hn : 1 ≤ n ∧ n ≤ 24) (h : ∀ p ∈ ps, okPc n p = true) : pureM m_leg_counts [dLine n, .lst (dPcs ps)] C = .ok (.lst (cntL n (cnt ps))) C := pure_ok (C' := []) (by
  refine run_rt (ρ0 := [some (dLine n), some (.lst (dPcs ps))]) rfl ?_
  unfold F_leg_counts
  rw [seq_nx (ρ' := [some (dLine n), some (.lst (dPcs ps))]) (C' := []) (by simp [sp_check_hall hn])]
  simp [sp_check_stock (n := n) (by omega) h, sp_free_legs hn (sort_ok h)]
  exact cntL_congr fun l _ => cnt_sort) (by rw [nc_lst]; exact ncs_cntL)
/-- the least leg that is asked for too often -/
def overD (n : Nat) (ps as : List (Int × Int)) : D := match (List.range n).find? fun l => decide (cnt ps l < cnt as l) with
  | some l => .int l
  | none => .non
theorem enumK_cnt {f : Nat → Int} : ∀ (n k : Nat), enumK k ((List.range' k n).map fun l : Nat => D.int (f l)) = (List.range' k n).map fun l : Nat => D.tup [.int (l : Int), .int (f l)]
  | 0, k => rfl
  | n + 1, k => by
    rw [List.range'_succ, List.map_cons, List.map_cons]
    show D.tup [.int k, .int (f k)] :: enumK (k + 1) _ = _
    rw [enumK_cnt n (k + 1)]
theorem enumD_cnt {f : Nat → Int} : enumD (cntL n f) = (List.range n).map fun l : Nat => D.tup [.int (l : Int), .int (f l)] := by
  rw [enumD_eq, cntL, List.range_eq_range']
  exact enumK_cnt n 0
theorem sp_over_leg (hn : 1 ≤ n ∧ n ≤ 24) (h : ∀ p ∈ ps, okPc n p = true) (ha : ∀ p ∈ as, okPc n p = true) : pureM m_over_leg [dLine n, .lst (dPcs ps), .lst (dPcs as)] C = .ok (overD n ps as) C := by
  have key : F_over_leg [some (dLine n), some (.lst (dPcs ps)), some (.lst (dPcs as)), none, none, none, none, none] [] = .rt (overD n ps as) [] := by
    unfold F_over_leg
    rw [seq_nx (ρ' := [some (dLine n), some (.lst (dPcs ps)), some (.lst (dPcs as)), none, none, none, none, none]) (C' := []) (by simp [sp_check_hall hn])]
    rw [seq_nx (ρ' := [some (dLine n), some (.lst (dPcs ps)), some (.lst (dPcs as)), some (.lst (dPcs (sortP ps))), none, none, none, none]) (C' := []) (by simp [sp_check_stock (n := n) (by omega) h])]
    rw [seq_nx (ρ' := [some (dLine n), some (.lst (dPcs ps)), some (.lst (dPcs as)), some (.lst (dPcs (sortP ps))), some (.lst (dPcs as)), none, none, none]) (C' := []) (by simp [sp_check_asks (n := n) (by omega) ha])]
    rw [seq_nx (ρ' := [some (dLine n), some (.lst (dPcs ps)), some (.lst (dPcs as)), some (.lst (dPcs (sortP ps))), some (.lst (dPcs as)), some (.lst (cntL n (cnt (sortP ps)))), none, none]) (C' := []) (by simp [sp_free_legs hn (sort_ok h)])]
    have lp := loop_first (t := .tp [.nm 6, .nm 7]) (C := []) (b := sIf (bTst (eOp dGt (eSlot 7) (eOp dIx (eSlot 5) (eSlot 6)))) (sRet (eSlot 6)) sNil) (fun _ ρ => ∃ x6 x7, ρ = [some (dLine n), some (.lst (dPcs ps)), some (.lst (dPcs as)), some (.lst (dPcs (sortP ps))), some (.lst (dPcs as)), some (.lst (cntL n (cnt (sortP ps)))), x6, x7])
      (fun d => match d with
        | .tup [.int l, _] => decide (cnt ps l.toNat < cnt as l.toNat)
        | _ => false) (fun d => match d with
        | .tup [l, _] => l
        | d => d) ((List.range n).map fun l : Nat => D.tup [.int (l : Int), .int (cnt as l)]) 0 [some (dLine n), some (.lst (dPcs ps)), some (.lst (dPcs as)), some (.lst (dPcs (sortP ps))), some (.lst (dPcs as)), some (.lst (cntL n (cnt (sortP ps)))), none, none] ⟨none, none, rfl⟩ (fun j d hd ρ hI => by
        obtain ⟨x6, x7, rfl⟩ := hI
        have hj : j < n := by
          have := (List.getElem?_eq_some_iff.mp hd).1
          simpa using this
        have ed : d = .tup [.int j, .int (cnt as j)] := by
          rw [List.getElem?_map, List.getElem?_range hj] at hd
          exact (Option.some.inj hd).symm
        subst ed
        have ea : atI (cntL n (cnt (sortP ps))) (j : Int) = some (.int (cnt ps j)) := by rw [at_nat (cntL_get hj), cnt_sort]
        refine ⟨[some (dLine n), some (.lst (dPcs ps)), some (.lst (dPcs as)), some (.lst (dPcs (sortP ps))), some (.lst (dPcs as)), some (.lst (cntL n (cnt (sortP ps)))), some (.int j), some (.int (cnt as j))], by simp, ?_⟩
        by_cases hc : cnt ps j < cnt as j
        · exact .inl ⟨by simp [hc], by simp [ea, hc]⟩
        · exact .inr ⟨by simp [hc], [some (dLine n), some (.lst (dPcs ps)), some (.lst (dPcs as)), some (.lst (dPcs (sortP ps))), some (.lst (dPcs as)), some (.lst (cntL n (cnt (sortP ps)))), some (.int j), some (.int (cnt as j))], by simp [ea, hc], _, _, rfl⟩)
    have fe : ((List.range n).map fun l : Nat => D.tup [.int (l : Int), .int (cnt as l)]).find? (fun d => match d with
        | .tup [.int l, _] => decide (cnt ps l.toNat < cnt as l.toNat)
        | _ => false) = ((List.range n).find? fun l => decide (cnt ps l < cnt as l)).map fun l : Nat => D.tup [.int (l : Int), .int (cnt as l)] := by
      rw [List.find?_map]
      rfl
    have hfor : sFor (.tp [.nm 6, .nm 7]) (iEnumD (eCallP 2 m_free_legs (aCons (eSlot 0) (aCons (eSlot 4) aNil)))) (sIf (bTst (eOp dGt (eSlot 7) (eOp dIx (eSlot 5) (eSlot 6)))) (sRet (eSlot 6)) sNil) [some (dLine n), some (.lst (dPcs ps)), some (.lst (dPcs as)), some (.lst (dPcs (sortP ps))), some (.lst (dPcs as)), some (.lst (cntL n (cnt (sortP ps)))), none, none] [] =
        loopF (.tp [.nm 6, .nm 7]) (sIf (bTst (eOp dGt (eSlot 7) (eOp dIx (eSlot 5) (eSlot 6)))) (sRet (eSlot 6)) sNil) ((List.range n).map fun l : Nat => D.tup [.int (l : Int), .int (cnt as l)]) [some (dLine n), some (.lst (dPcs ps)), some (.lst (dPcs as)), some (.lst (dPcs (sortP ps))), some (.lst (dPcs as)), some (.lst (cntL n (cnt (sortP ps)))), none, none] [] := by
      rw [← enumD_cnt]
      simp [iEnumD, sp_free_legs hn ha]
    rcases lp with ⟨d, f1, f2⟩ | ⟨f1, ρ', f2, _⟩
    · rw [fe] at f1
      obtain ⟨l, g1, rfl⟩ := Option.map_eq_some_iff.mp f1
      rw [seq_rt (hfor.trans f2)]
      unfold overD
      rw [g1]
    · rw [fe] at f1
      rw [seq_nx (hfor.trans f2)]
      unfold overD
      rw [Option.map_eq_none_iff.mp f1]
      rfl
  refine pure_ok (C' := []) (run_rt (ρ0 := [some (dLine n), some (.lst (dPcs ps)), some (.lst (dPcs as)), none, none, none, none, none]) rfl key) ?_
  unfold overD
  split <;> rfl
end
end Qv

/-! ## M5 -/
set_option Elab.async false
set_option linter.all false
set_option maxRecDepth 100000
set_option maxHeartbeats 400000
namespace Qv
open PySem PySem.Spec PyProof.Rows L2
abbrev Pc := Int × Int
def overlap (p q : Pc) : Bool := decide (p.1 < q.1 + q.2 ∧ q.1 < p.1 + p.2)
def inside (q p : Pc) : Bool := decide (p.1 ≤ q.1 ∧ q.1 + q.2 ≤ p.1 + p.2)
theorem mod_cases {n x : Int} (h1 : -n < x) (h2 : x < n) : x % n = if 0 ≤ x then x else x + n := by
  split
  · exact Int.emod_eq_of_lt (by omega) h2
  · rw [← Int.add_emod_right]
    exact Int.emod_eq_of_lt (by omega) (by omega)
theorem okPc_iff {n : Int} {p : Pc} : okPc n p = true ↔ 0 ≤ p.1 ∧ 1 ≤ p.2 ∧ p.1 + p.2 ≤ n := by unfold okPc; simp
section
variable {C : Cells} {n : Nat} {p q : Pc}
theorem sp_ahead (hn : 1 ≤ n) : pureM m_legs_ahead [dLine n, dPc p, dPc q] C = .ok (.int ((q.1 - p.1) % n)) C := pure_ok (C' := []) (by
  have h0 : 0 < n := by omega
  simp [m_legs_ahead, N_legs_ahead, F_legs_ahead, dLine, dPc, h0]) rfl
theorem shares_core {u v : Int} (h1 : pureM m_legs_ahead [dLine n, dPc p, dPc q] [] = .ok (.int u) []) (h2 : pureM m_legs_ahead [dLine n, dPc q, dPc p] [] = .ok (.int v) []) : pureM m_shares [dLine n, dPc p, dPc q] C = .ok (.bl (decide (u < p.2) || decide (v < q.2))) C := pure_ok (C' := []) (by
  obtain ⟨a, b⟩ := p
  obtain ⟨c, d⟩ := q
  simp only [dLine, dPc] at h1 h2
  by_cases hb : u < b <;> simp [m_shares, N_shares, F_shares, dLine, dPc, h1, h2, hb]) rfl
theorem sp_shares (hn : 1 ≤ n) (hp : okPc n p = true) (hq : okPc n q = true) : pureM m_shares [dLine n, dPc p, dPc q] C = .ok (.bl (overlap p q)) C := by
  rw [shares_core (sp_ahead hn) (sp_ahead hn)]
  rw [okPc_iff] at hp hq
  rw [mod_cases (n := n) (x := q.1 - p.1) (by omega) (by omega), mod_cases (n := n) (x := p.1 - q.1) (by omega) (by omega)]
  have e : (decide ((if 0 ≤ q.1 - p.1 then q.1 - p.1 else q.1 - p.1 + n) < p.2) || decide ((if 0 ≤ p.1 - q.1 then p.1 - q.1 else p.1 - q.1 + n) < q.2)) = overlap p q := by
    unfold overlap
    rw [← Bool.decide_or]
    apply decide_eq_decide.mpr
    split <;> split <;> omega
  rw [e]
theorem sp_is_whole : pureM m_is_whole [dLine n, dPc p] C = .ok (.bl false) C := pure_ok (C' := []) (by
  simp [m_is_whole, N_is_whole, F_is_whole, dLine, dPc]) rfl
theorem holds_core {u : Int} (h1 : pureM m_legs_ahead [dLine n, dPc p, dPc q] [] = .ok (.int u) []) : pureM m_holds [dLine n, dPc p, dPc q] C = .ok (.bl (decide (u + q.2 ≤ p.2))) C := pure_ok (C' := []) (by
  have hw := sp_is_whole (C := []) (n := n) (p := p)
  obtain ⟨a, b⟩ := p
  obtain ⟨c, d⟩ := q
  simp only [dLine, dPc] at h1 hw
  simp [m_holds, N_holds, F_holds, dLine, dPc, h1, hw]) rfl
theorem sp_holds (hn : 1 ≤ n) (hp : okPc n p = true) (hq : okPc n q = true) : pureM m_holds [dLine n, dPc p, dPc q] C = .ok (.bl (inside q p)) C := by
  rw [holds_core (sp_ahead hn)]
  rw [okPc_iff] at hp hq
  rw [mod_cases (n := n) (x := q.1 - p.1) (by omega) (by omega)]
  have e : decide ((if 0 ≤ q.1 - p.1 then q.1 - p.1 else q.1 - p.1 + n) + q.2 ≤ p.2) = inside q p := by
    unfold inside
    apply decide_eq_decide.mpr
    split <;> omega
  rw [e]
theorem sp_end_of : pureM m_end_of [dPc p] C = .ok (.int (p.1 + p.2)) C := pure_ok (C' := []) (by
  simp [m_end_of, N_end_of, F_end_of, dPc]) rfl
def faultB (p q : Pc) : Option Str := if p.1 + p.2 = q.1 then some ("touch" : Str) else if p.1 ≠ q.1 ∧ p.1 + p.2 ≠ q.1 + q.2 ∧ overlap p q = true then some ("ends" : Str) else none
def wordD : Option Str → D
  | some z => .str z
  | none => .non
theorem sp_fault_word (hn : 1 ≤ n) (hp : okPc n p = true) (hq : okPc n q = true) : pureM m_fault_word [dLine n, dPc p, dPc q] C = .ok (wordD (faultB p q)) C := pure_ok (C' := []) (by
  have h1 := sp_shares (C := []) hn hp hq
  have h2 := sp_end_of (C := []) (p := p)
  have h3 := sp_end_of (C := []) (p := q)
  obtain ⟨a, b⟩ := p
  obtain ⟨c, d⟩ := q
  simp only [dLine, dPc] at h1 h2 h3
  by_cases e1 : a + b = c
  · simp [m_fault_word, N_fault_word, F_fault_word, dLine, dPc, h1, h2, h3, faultB, e1, wordD]
  · by_cases e2 : a = c
    · subst e2
      simp [m_fault_word, N_fault_word, F_fault_word, dLine, dPc, h1, h2, h3, faultB, e1, wordD]
    · by_cases e3 : a + b = c + d
      · have e4 : ¬ c + d = c := by omega
        simp [e4, m_fault_word, N_fault_word, F_fault_word, dLine, dPc, h1, h2, h3, faultB, e1, e2, e3, wordD]
      · cases e4 : overlap (a, b) (c, d) <;> simp [m_fault_word, N_fault_word, F_fault_word, dLine, dPc, h1, h2, h3, faultB, e1, e2, e3, e4, wordD]) (by
  unfold faultB
  split
  · rfl
  · split <;> rfl)
/-! first_fault -/
def ffRow (p : Pc) : List Pc → Option D
  | [] => none
  | q :: qs => match faultB p q with
    | some z => some (.tup [.str z, dPc p, dPc q])
    | none => ffRow p qs
def ff : List Pc → D
  | [] => .non
  | p :: ps => match ffRow p ps with
    | some d => d
    | none => ff ps
theorem ncs_ffRow : ∀ {l : List Pc} {d : D}, ffRow p l = some d → d.nc = true ∧ ∃ xs, d = .tup xs
  | [], d, h => by cases h
  | q :: qs, d, h => by
    unfold ffRow at h
    split at h
    · cases h
      exact ⟨by simp, _, rfl⟩
    · exact ncs_ffRow h
theorem nc_ff : ∀ {l : List Pc}, (ff l).nc = true ∧ (ff l = .non ∨ ∃ xs, ff l = .tup xs)
  | [] => ⟨rfl, .inl rfl⟩
  | p :: ps => by
    unfold ff
    split
    · rename_i d h
      obtain ⟨h1, xs, h2⟩ := ncs_ffRow h
      exact ⟨h1, .inr ⟨xs, h2⟩⟩
    · exact nc_ff
theorem cut_from {xs : List D} {k : Nat} : cutG xs (some (k : Int)) none = xs.drop k := by
  unfold cutG
  rw [HT.sIx_nat, HT.sIx_none]
  by_cases h : k ≤ xs.length
  · rw [Nat.min_eq_left h]
    exact List.take_of_length_le (by simp)
  · rw [Nat.min_eq_right (by omega), List.drop_length, List.drop_eq_nil_of_le (by omega)]
    simp
@[simp] theorem ev_slice {f : DE} {l u : DO} {ρ : Env} : eSlice f l u ρ C = (f ρ C).bind fun x C => (l ρ C).bind fun lo C => (u ρ C).bind fun hi C => match cutD x lo hi C with
  | some d => .ok d C
  | none => .stuck := rfl
@[simp] theorem ev_oNone {ρ : Env} : oNone ρ C = .ok none C := rfl
@[simp] theorem cut_l {xs : List D} {lo hi : Option Int} : cutD (.lst xs) lo hi C = some (.lst (cutG xs lo hi)) := rfl
/-- the row of one piece -/
theorem ff_row (hn : 1 ≤ n) (hp : okPc n p = true) {x1 x2 : Option D} : ∀ (qs : List Pc) (x4 x5 : Option D), (∀ q ∈ qs, okPc n q = true) →
    (∃ d, ffRow p qs = some d ∧ loopF (.nm 4) (sSeq (sSet 5 (eCallP 3 m_fault_word (aCons (eSlot 0) (aCons (eSlot 3) (aCons (eSlot 4) aNil))))) (sIf (bTst (eOp dIsNot (eSlot 5) (eC .non))) (sRet (eTup (aCons (eSlot 5) (aCons (eSlot 3) (aCons (eSlot 4) aNil))))) sNil)) (dPcs qs) [some (dLine n), x1, x2, some (dPc p), x4, x5] C = .rt d C) ∨
    (ffRow p qs = none ∧ ∃ x4' x5', loopF (.nm 4) (sSeq (sSet 5 (eCallP 3 m_fault_word (aCons (eSlot 0) (aCons (eSlot 3) (aCons (eSlot 4) aNil))))) (sIf (bTst (eOp dIsNot (eSlot 5) (eC .non))) (sRet (eTup (aCons (eSlot 5) (aCons (eSlot 3) (aCons (eSlot 4) aNil))))) sNil)) (dPcs qs) [some (dLine n), x1, x2, some (dPc p), x4, x5] C = .nx [some (dLine n), x1, x2, some (dPc p), x4', x5'] C)
  | [], x4, x5, _ => .inr ⟨rfl, x4, x5, rfl⟩
  | q :: qs, x4, x5, h => by
    have hq := h q (by simp)
    show (∃ d, ffRow p (q :: qs) = some d ∧ loopF _ _ (dPc q :: dPcs qs) _ _ = _) ∨ (ffRow p (q :: qs) = none ∧ ∃ x4' x5', loopF _ _ (dPc q :: dPcs qs) _ _ = _)
    rw [loop_cons, ev_bind_nm]
    have hw := sp_fault_word (C := C) hn hp hq
    cases e : faultB p q with
    | some z =>
      refine .inl ⟨_, by simp [ffRow, e]; rfl, ?_⟩
      rw [e] at hw
      have hl : 3 ≤ sizeLine := line_le (by omega)
      have hd : dIsNot (.str z) .non C = some (.bl true) := rfl
      simp [hw, wordD, hl, hd]
    | none =>
      rw [e] at hw
      have hs : (sSeq (sSet 5 (eCallP 3 m_fault_word (aCons (eSlot 0) (aCons (eSlot 3) (aCons (eSlot 4) aNil))))) (sIf (bTst (eOp dIsNot (eSlot 5) (eC .non))) (sRet (eTup (aCons (eSlot 5) (aCons (eSlot 3) (aCons (eSlot 4) aNil))))) sNil)) ([some (dLine n), x1, x2, some (dPc p), x4, x5].set 4 (some (dPc q))) C = .nx [some (dLine n), x1, x2, some (dPc p), some (dPc q), some .non] C := by
        simp [hw, wordD]
      rcases ff_row hn hp qs (some (dPc q)) (some .non) (fun r hr => h r (by simp [hr])) with ⟨d, e1, e2⟩ | ⟨e1, x4', x5', e2⟩
      · exact .inl ⟨d, by simp [ffRow, e, e1], by simp only [hs]; exact e2⟩
      · exact .inr ⟨by simp [ffRow, e, e1], x4', x5', by simp only [hs]; exact e2⟩
end
end Qv

/-! ## M6 -/
set_option Elab.async false
set_option linter.all false
set_option maxRecDepth 100000
set_option maxHeartbeats 400000
namespace Qv
open PySem PySem.Spec PyProof.Rows L2
section
variable {C : Cells} {n : Nat} {p q : Pc}
def ffBody : DS := sFor (.nm 4) (iSeq (eSlice (eSlot 1) (oSome (eOp dAdd (eSlot 2) (eC (.int 1)))) oNone)) (sSeq (sSet 5 (eCallP 3 m_fault_word (aCons (eSlot 0) (aCons (eSlot 3) (aCons (eSlot 4) aNil))))) (sIf (bTst (eOp dIsNot (eSlot 5) (eC .non))) (sRet (eTup (aCons (eSlot 5) (aCons (eSlot 3) (aCons (eSlot 4) aNil))))) sNil))
theorem ffBody_eq {ps : List Pc} {k : Nat} {x3 x4 x5 : Option D} : ffBody [some (dLine n), some (.lst (dPcs ps)), some (.int (k : Nat)), x3, x4, x5] C = loopF (.nm 4) (sSeq (sSet 5 (eCallP 3 m_fault_word (aCons (eSlot 0) (aCons (eSlot 3) (aCons (eSlot 4) aNil))))) (sIf (bTst (eOp dIsNot (eSlot 5) (eC .non))) (sRet (eTup (aCons (eSlot 5) (aCons (eSlot 3) (aCons (eSlot 4) aNil))))) sNil)) (dPcs (ps.drop (k + 1))) [some (dLine n), some (.lst (dPcs ps)), some (.int (k : Nat)), x3, x4, x5] C := by
  have e : cutG (dPcs ps) (some ((k : Int) + 1)) none = dPcs (ps.drop (k + 1)) := by
    have h := cut_from (xs := dPcs ps) (k := k + 1)
    rw [show ((k : Int) + 1) = ((k + 1 : Nat) : Int) by omega, h]
    simp [dPcs]
  unfold ffBody
  rw [ev_for]
  have hi : iSeq (eSlice (eSlot 1) (oSome (eOp dAdd (eSlot 2) (eC (.int 1)))) oNone) [some (dLine n), some (.lst (dPcs ps)), some (.int (k : Nat)), x3, x4, x5] C = .ok (dPcs (ps.drop (k + 1))) C := by
    have ho : oSome (eOp dAdd (eSlot 2) (eC (.int 1))) [some (dLine n), some (.lst (dPcs ps)), some (.int (k : Nat)), x3, x4, x5] C = .ok (some ((k : Int) + 1)) C := by
      unfold oSome
      simp
    rw [ev_iSeq, ev_slice]
    simp [ho, e]
  rw [hi]
  rfl
theorem ff_loop (hn : 1 ≤ n) {all : List Pc} : ∀ (ps : List Pc) (k : Nat) (x2 x3 x4 x5 : Option D), all.drop k = ps → (∀ p ∈ ps, okPc n p = true) →
    (ff ps ≠ .non ∧ loopF (.tp [.nm 2, .nm 3]) ffBody (enumK k (dPcs ps)) [some (dLine n), some (.lst (dPcs all)), x2, x3, x4, x5] C = .rt (ff ps) C) ∨
    (ff ps = .non ∧ ∃ ρ', loopF (.tp [.nm 2, .nm 3]) ffBody (enumK k (dPcs ps)) [some (dLine n), some (.lst (dPcs all)), x2, x3, x4, x5] C = .nx ρ' C)
  | [], k, x2, x3, x4, x5, _, _ => .inr ⟨rfl, _, rfl⟩
  | p :: ps, k, x2, x3, x4, x5, ha, h => by
    have hp := h p (by simp)
    have hd : all.drop (k + 1) = ps := by
      have : all.drop (k + 1) = (all.drop k).drop 1 := by rw [List.drop_drop]
      rw [this, ha]
      rfl
    have hb : (Tgt.tp [.nm 2, .nm 3]).bind (.tup [.int (k : Nat), dPc p]) [some (dLine n), some (.lst (dPcs all)), x2, x3, x4, x5] = some [some (dLine n), some (.lst (dPcs all)), some (.int (k : Nat)), some (dPc p), x4, x5] := by simp
    show (ff (p :: ps) ≠ .non ∧ loopF _ _ (.tup [.int (k : Nat), dPc p] :: enumK (k + 1) (dPcs ps)) _ _ = _) ∨ (ff (p :: ps) = .non ∧ ∃ ρ', loopF _ _ (.tup [.int (k : Nat), dPc p] :: enumK (k + 1) (dPcs ps)) _ _ = _)
    rw [loop_cons, hb]
    dsimp only
    rw [ffBody_eq, hd]
    rcases ff_row (C := C) hn hp (x1 := some (.lst (dPcs all))) (x2 := some (.int (k : Nat))) ps x4 x5 (fun q hq => h q (by simp [hq])) with ⟨d, e1, e2⟩ | ⟨e1, x4', x5', e2⟩
    · have ef : ff (p :: ps) = d := by unfold ff; rw [e1]
      refine .inl ⟨?_, by rw [e2, ef]⟩
      obtain ⟨_, xs, e3⟩ := ncs_ffRow e1
      rw [ef, e3]
      exact fun z => by cases z
    · have ef : ff (p :: ps) = ff ps := by
        show (match ffRow p ps with
          | some d => d
          | none => ff ps) = _
        rw [e1]
      rw [ef, e2]
      exact ff_loop hn ps (k + 1) _ _ _ _ hd fun q hq => h q (by simp [hq])
theorem sp_first_fault {ps : List Pc} (hn : 1 ≤ n) (h : ∀ p ∈ ps, okPc n p = true) : pureM m_first_fault [dLine n, .lst (dPcs ps)] C = .ok (ff ps) C := by
  have hfor : sFor (.tp [.nm 2, .nm 3]) (iEnumD (eSlot 1)) ffBody [some (dLine n), some (.lst (dPcs ps)), none, none, none, none] [] = loopF (.tp [.nm 2, .nm 3]) ffBody (enumK 0 (dPcs ps)) [some (dLine n), some (.lst (dPcs ps)), none, none, none, none] [] := by
    rw [ev_for, ← enumD_eq]
    rfl
  refine pure_ok (C' := []) (run_rt (ρ0 := [some (dLine n), some (.lst (dPcs ps)), none, none, none, none]) rfl ?_) nc_ff.1
  show sSeq (sFor (.tp [.nm 2, .nm 3]) (iEnumD (eSlot 1)) ffBody) (sRet (eC .non)) _ _ = _
  rcases ff_loop (C := []) hn ps 0 none none none none rfl h with ⟨_, e⟩ | ⟨e0, ρ', e⟩
  · exact seq_rt (hfor.trans e)
  · rw [seq_nx (hfor.trans e), e0]
    rfl
theorem sp_counting_fault {ps : List Pc} (hn : 1 ≤ n ∧ n ≤ 24) (h : ∀ p ∈ ps, okPc n p = true) : pureM m_counting_fault [dLine n, .lst (dPcs ps)] C = .ok (ff (sortP ps)) C := by
  refine pure_ok (C' := []) (run_rt (ρ0 := [some (dLine n), some (.lst (dPcs ps))]) rfl ?_) nc_ff.1
  unfold F_counting_fault
  rw [seq_nx (ρ' := [some (dLine n), some (.lst (dPcs ps))]) (C' := []) (by simp [sp_check_line1 hn])]
  simp [sp_check_stock (n := n) (by omega) h, sp_first_fault hn.1 (sort_ok h)]
/-- no pair with a fault -/
theorem ffRow_none : ∀ {l : List Pc}, ffRow p l = none ↔ ∀ q ∈ l, faultB p q = none
  | [] => by simp [ffRow]
  | q :: l => by
    cases e : faultB p q with
    | some z => simp [ffRow, e]
    | none => simp [ffRow, e, ffRow_none]
theorem ff_none : ∀ {l : List Pc}, ff l = .non ↔ l.Pairwise fun p q => faultB p q = none
  | [] => by simp [ff]
  | p :: l => by
    cases e : ffRow p l with
    | some d =>
      obtain ⟨_, xs, e3⟩ := ncs_ffRow e
      have : ¬ ∀ q ∈ l, faultB p q = none := fun z => by rw [ffRow_none.mpr z] at e; cases e
      simp only [ff, e, List.pairwise_cons]
      constructor
      · intro z; rw [e3] at z; cases z
      · exact fun z => absurd z.1 this
    | none =>
      simp only [ff, e, List.pairwise_cons]
      rw [ff_none]
      exact ⟨fun z => ⟨ffRow_none.mp e, z⟩, fun z => z.2⟩
end
end Qv

/-! ## M7 -/
set_option Elab.async false
set_option linter.all false
set_option maxRecDepth 100000
set_option maxHeartbeats 400000
namespace Qv
open PySem PySem.Spec PyProof.Rows L2
/-! runs_of, on a line -/
def runStep (rs : List Pc) (leg : Int) : List Pc := match rs.getLast? with
  | some r => if r.1 + r.2 = leg then rs.dropLast ++ [(r.1, r.2 + 1)] else rs ++ [(leg, 1)]
  | none => [(leg, 1)]
def runsF (legs : List Int) : List Pc := legs.foldl runStep []
theorem dPcs_app {a b : List Pc} : dPcs (a ++ b) = dPcs a ++ dPcs b := by simp [dPcs]
theorem at_last {α : Type} {l : List α} {x : α} : atI (l ++ [x]) (-1) = some x := by
  unfold atI ixN
  have h : (l ++ [x]).length = l.length + 1 := by simp
  rw [h, if_neg (by omega), if_pos (by omega)]
  have e : (-1 + ((l.length + 1 : Nat) : Int)).toNat = l.length := by omega
  rw [e]
  simp
theorem set_last {l : List D} {x y : D} : setAt (-1) y (l ++ [x]) = some (l ++ [y]) := by
  unfold setAt ixN
  have h : (l ++ [x]).length = l.length + 1 := by simp
  rw [h, if_neg (by omega), if_pos (by omega)]
  have e : (-1 + ((l.length + 1 : Nat) : Int)).toNat = l.length := by omega
  show some ((l ++ [x]).set (-1 + ((l.length + 1 : Nat) : Int)).toNat y) = _
  rw [e]
  simp [List.set_append]
@[simp] theorem ev_store {fo fi fe : DE} {ρ : Env} {C : Cells} : sStore fo fi fe ρ C = (fe ρ C).bindS fun d C => (fo ρ C).bindS fun x C => (fi ρ C).bindS fun y C => match y with
  | .int i => match celPut x C (setAt i d) with
    | some C' => .nx ρ C'
    | none => .stuck
  | _ => .stuck := rfl
@[simp] theorem ev_mth {g : List D → List D → Option (List D × D)} {fo : DE} {fa : DA} {ρ : Env} {C : Cells} : eMth g fo fa ρ C = (fo ρ C).bind fun x C => match x with
  | .cel k => match C[k]? with
    | some (Cell.lst _) => (fa ρ C).bind fun ds C => match C[k]? with
      | some (Cell.lst xs) => match g xs ds with
        | some (ys, d) => .ok d (C.set k (.lst ys))
        | none => .stuck
      | _ => .stuck
    | _ => .stuck
  | _ => .stuck := rfl
theorem app_one {xs : List D} {d : D} (h : xs.length < sizeLine) : mAppend xs [d] = some (xs ++ [d], .non) := if_pos h
theorem put_cel {k : Nat} {C : Cells} {xs ys : List D} {g : List D → Option (List D)} (h : C[k]? = some (.lst xs)) (hg : g xs = some ys) : celPut (.cel k) C g = some (C.set k (.lst ys)) := by
  show (match C[k]? with
    | some (Cell.lst xs) => (g xs).map fun ys => C.set k (.lst ys)
    | _ => none) = _
  rw [h]
  show (g xs).map _ = _
  rw [hg]
  rfl
@[simp] theorem len_c0 {xs : List D} {C : Cells} : fn1 lenD [.cel 0] (.lst xs :: C) = some (.int xs.length) := rfl
@[simp] theorem ix_c0 {xs : List D} {C : Cells} {i : Int} : dIx (.cel 0) (.int i) (.lst xs :: C) = atI xs i := rfl
def runBody : DS := (sIf (bAnd (bTst (eOp dGt (eCall (fn1 lenD) (aCons (eSlot 2) aNil)) (eC (.int 0)))) (bTst (eOp dEq (eOp dAdd (eOp dIx (eOp dIx (eSlot 2) (eMap numNeg (eC (.int 1)))) (eC (.int 0))) (eOp dIx (eOp dIx (eSlot 2) (eMap numNeg (eC (.int 1)))) (eC (.int 1)))) (eSlot 3)))) (sStore (eSlot 2) (eMap numNeg (eC (.int 1))) (eTup (aCons (eOp dIx (eOp dIx (eSlot 2) (eMap numNeg (eC (.int 1)))) (eC (.int 0))) (aCons (eOp dAdd (eOp dIx (eOp dIx (eSlot 2) (eMap numNeg (eC (.int 1)))) (eC (.int 1))) (eC (.int 1))) aNil)))) (sDrop (eMth mAppend (eSlot 2) (aCons (eTup (aCons (eSlot 3) (aCons (eC (.int 1)) aNil))) aNil))))
theorem run_body {rs : List Pc} {leg : Int} {x0 x1 x4 x5 : Option D} (hl : rs.length < 1000) : runBody [x0, x1, some (.cel 0), some (.int leg), x4, x5] [.lst (dPcs rs)] = .nx [x0, x1, some (.cel 0), some (.int leg), x4, x5] [.lst (dPcs (runStep rs leg))] := by
  have h2 : 2 ≤ sizeLine := line_le (by omega)
  have hlen : (dPcs rs).length < sizeLine := by
    have : (dPcs rs).length = rs.length := by simp [dPcs]
    rw [this, sizeLine_eq]; omega
  rcases List.eq_nil_or_concat rs with rfl | ⟨l, r, rfl⟩
  · have ha : mAppend (dPcs []) [.tup [.int leg, .int 1]] = some (dPcs [] ++ [.tup [.int leg, .int 1]], .non) := app_one hlen
    simp [dPcs] at ha
    simp [runBody, dPcs, h2, ha, runStep, dPc]
  · obtain ⟨a, m⟩ := r
    rw [List.concat_eq_append] at *
    have hat : atI (dPcs (l ++ [(a, m)])) (-1) = some (dPc (a, m)) := by rw [dPcs_app]; exact at_last
    have hpos : 0 < (dPcs (l ++ [(a, m)])).length := by simp [dPcs]
    have hlast : (l ++ [(a, m)]).getLast? = some (a, m) := by simp
    by_cases he : a + m = leg
    · have hs : runStep (l ++ [(a, m)]) leg = l ++ [(a, m + 1)] := by
        unfold runStep
        rw [hlast]
        simp [he]
      have hp : celPut (.cel 0) [.lst (dPcs (l ++ [(a, m)]))] (setAt (-1) (.tup [.int a, .int (m + 1)])) = some [.lst (dPcs (l ++ [(a, m + 1)]))] := by
        rw [put_cel (k := 0) (C := [.lst (dPcs (l ++ [(a, m)]))]) (xs := dPcs (l ++ [(a, m)])) (ys := dPcs (l ++ [(a, m + 1)])) rfl (by rw [dPcs_app, dPcs_app]; exact set_last)]
        rfl
      rw [hs]
      simp [dPc] at hat
      simp [runBody, hat, hpos, he, h2, hp]
    · have hs : runStep (l ++ [(a, m)]) leg = (l ++ [(a, m)]) ++ [(leg, 1)] := by
        unfold runStep
        rw [hlast]
        simp [he]
      have ha : mAppend (dPcs (l ++ [(a, m)])) [.tup [.int leg, .int 1]] = some (dPcs (l ++ [(a, m)]) ++ [.tup [.int leg, .int 1]], .non) := app_one hlen
      have hs2 : dPcs (runStep (l ++ [(a, m)]) leg) = dPcs (l ++ [(a, m)]) ++ [.tup [.int leg, .int 1]] := by
        rw [hs, dPcs_app (b := [(leg, 1)])]
        rfl
      rw [hs2]
      simp [dPc] at hat
      simp [runBody, hat, hpos, he, h2, ha]
theorem run_loop {x0 x1 x4 x5 : Option D} : ∀ (legs : List Int) (rs : List Pc) (x3 : Option D), rs.length + legs.length < 1000 → ∃ x3', loopF (.nm 3) runBody (legs.map D.int) [x0, x1, some (.cel 0), x3, x4, x5] [.lst (dPcs rs)] = .nx [x0, x1, some (.cel 0), x3', x4, x5] [.lst (dPcs (legs.foldl runStep rs))]
  | [], rs, x3, _ => ⟨x3, rfl⟩
  | leg :: legs, rs, x3, h => by
    have hl : (runStep rs leg).length ≤ rs.length + 1 := by
      unfold runStep
      split
      · split
        · simp
        · simp
      · simp
    simp only [List.length_cons] at h
    obtain ⟨x3', e⟩ := run_loop legs (runStep rs leg) (some (.int leg)) (by omega)
    refine ⟨x3', ?_⟩
    rw [List.map_cons, loop_cons, ev_bind_nm]
    have hb := run_body (x0 := x0) (x1 := x1) (x4 := x4) (x5 := x5) (rs := rs) (leg := leg) (by omega)
    show (match runBody [x0, x1, some (.cel 0), some (.int leg), x4, x5] [.lst (dPcs rs)] with
      | .nx ρ2 C2 => loopF (.nm 3) runBody (legs.map D.int) ρ2 C2
      | .ct ρ2 C2 => loopF (.nm 3) runBody (legs.map D.int) ρ2 C2
      | .bk ρ2 C2 => .nx ρ2 C2
      | .rt d C2 => .rt d C2
      | .exn x C2 => .exn x C2
      | .stuck => .stuck) = _
    rw [hb]
    exact e
theorem sp_runs_of {n : Int} {legs : List Int} {C : Cells} (h : legs.length < 1000) : pureM m_runs_of [dLine n, .lst (legs.map D.int)] C = .ok (.lst (dPcs (runsF legs))) C := by
  obtain ⟨x3', e⟩ := run_loop (x0 := some (dLine n)) (x1 := some (.lst (legs.map D.int))) (x4 := none) (x5 := none) legs [] none (by simpa using h)
  refine pure_ok (C' := [.dead]) (run_rt (ρ0 := [some (dLine n), some (.lst (legs.map D.int)), none, none, none, none]) rfl ?_) (by simp)
  unfold F_runs_of
  rw [seq_nx (ρ' := [some (dLine n), some (.lst (legs.map D.int)), some (.cel 0), none, none, none]) (C' := [.lst (dPcs [])]) (by simp [fLst, dPcs])]
  rw [seq_nx (ρ' := [some (dLine n), some (.lst (legs.map D.int)), some (.cel 0), x3', none, none]) (C' := [.lst (dPcs (runsF legs))]) (by rw [ev_for]; exact e)]
  refine seq_rt ?_
  have hf : frz (.cel 0) [.lst (dPcs (runsF legs))] = some (.lst (dPcs (runsF legs)), [.dead]) := frz_cel rfl ncs_dPcs
  simp [dLine, hf]
end Qv

/-! ## M8 -/
set_option Elab.async false
set_option linter.all false
set_option maxRecDepth 100000
set_option maxHeartbeats 400000
namespace Qv
open PySem PySem.Spec PyProof.Rows L2
section
variable {C : Cells} {n : Nat} {ps : List Pc}
def covL (n : Nat) (f : Nat → Int) : List Int := ((List.range n).filter fun l => decide (0 < f l)).map fun l : Nat => (l : Int)
/-- the runs of used legs -/
def runsOf (n : Nat) (ps : List Pc) : List Pc := runsF (covL n (cnt ps))
theorem covL_len {f : Nat → Int} : (covL n f).length ≤ n := by
  unfold covL
  rw [List.length_map]
  exact Nat.le_trans (List.length_filter_le _ _) (by simp)
theorem enumD_len (xs : List D) : (enumD xs).length = xs.length := enumD_length xs
theorem sp_free_runs (hn : 1 ≤ n ∧ n ≤ 24) (h : ∀ p ∈ ps, okPc n p = true) : pureM m_free_runs [dLine n, .lst (dPcs ps)] C = .ok (.lst (dPcs (runsOf n ps))) C := by
  refine pure_ok (C' := []) (run_rt (ρ0 := [some (dLine n), some (.lst (dPcs ps)), none, none, none]) rfl ?_) (by simp)
  unfold F_free_runs
  rw [seq_nx (ρ' := [some (dLine n), some (.lst (dPcs ps)), some (.lst (cntL n (cnt ps))), none, none]) (C' := []) (by simp [sp_leg_counts hn h])]
  have hc : fComp (.tp [.nm 3, .nm 4]) [3, 4] (iEnumD (eSlot 2)) (bTst (eOp dGt (eSlot 4) (eC (.int 0)))) (eSlot 3) [some (dLine n), some (.lst (dPcs ps)), some (.lst (cntL n (cnt ps))), none, none] [] = .ok ((covL n (cnt ps)).map D.int) [] := by
    rw [fcomp_ok (ds := (List.range n).map fun l : Nat => D.tup [.int (l : Int), .int (cnt ps l)]) (fun d => match d with
      | .tup [_, .int m] => decide (0 < m)
      | _ => false) (fun d => match d with
      | .tup [l, _] => l
      | d => d) (by
        show Out.ok (enumD (cntL n (cnt ps))) [] = _
        rw [enumD_cnt]) (by rw [List.length_map, List.length_range]; exact line_le (by omega)) (fun d hd => by
        obtain ⟨l, _, rfl⟩ := List.mem_map.mp hd
        exact ⟨[some (dLine n), some (.lst (dPcs ps)), some (.lst (cntL n (cnt ps))), some (.int l), some (.int (cnt ps l))], by simp [wipeE], by simp, fun _ => by simp⟩)]
    unfold covL
    rw [List.filter_map, List.map_map, List.map_map]
    rfl
  simp [hc, sp_runs_of (n := n) (legs := covL n (cnt ps)) (by have := covL_len (n := n) (f := cnt ps); omega), runsOf, show D.ncs ((covL n (cnt ps)).map D.int) = true from ncs_ints _ _]
/-! run_middle -/
def midOf (ps : List Pc) (r : Pc) : Int := maxI (r.1 :: (ps.filter fun p => decide (r.1 ≤ p.1 ∧ p.1 + p.2 < r.1 + r.2)).map fun p => p.1 + p.2)
theorem allInt_map {l : List Int} : allInt (l.map D.int) = some l := by
  induction l with
  | nil => rfl
  | cons x l ih =>
    show (allInt (l.map D.int)).map _ = _
    rw [ih]
    rfl
theorem sp_run_middle {r : Pc} (hz : ps.length < 1000) : pureM m_run_middle [.lst (dPcs ps), dPc r] C = .ok (.int (midOf ps r)) C := by
  obtain ⟨b, m⟩ := r
  refine pure_ok (C' := []) (run_rt (ρ0 := [some (.lst (dPcs ps)), some (dPc (b, m)), none, none, none, none, none]) rfl ?_) rfl
  unfold F_run_middle
  rw [seq_nx (ρ' := [some (.lst (dPcs ps)), some (dPc (b, m)), some (.int b), none, none, none, none]) (C' := []) (by simp [dPc])]
  rw [seq_nx (ρ' := [some (.lst (dPcs ps)), some (dPc (b, m)), some (.int b), some (.int (b + m)), none, none, none]) (C' := []) (by simp [dPc])]
  have hc : fComp (.tp [.nm 5, .nm 6]) [5, 6] (iSeq (eSlot 0)) (bAnd (bTst (eOp dGe (eSlot 5) (eSlot 2))) (bTst (eOp dLt (eOp dAdd (eSlot 5) (eSlot 6)) (eSlot 3)))) (eOp dAdd (eSlot 5) (eSlot 6)) [some (.lst (dPcs ps)), some (dPc (b, m)), some (.int b), some (.int (b + m)), none, none, none] [] =
      .ok (((ps.filter fun p => decide (b ≤ p.1 ∧ p.1 + p.2 < b + m)).map fun p => p.1 + p.2).map D.int) [] := by
    have hl : (dPcs ps).length ≤ sizeLine := line_le (by simp [dPcs]; omega)
    rw [fcomp_ok (ds := dPcs ps) (C' := []) (fun d => match d with
      | .tup [.int u, .int v] => decide (b ≤ u ∧ u + v < b + m)
      | _ => false) (fun d => match d with
      | .tup [.int u, .int v] => .int (u + v)
      | d => d) (by simp) hl (fun d hd => by
        obtain ⟨⟨u, v⟩, _, rfl⟩ := List.mem_map.mp hd
        refine ⟨[some (.lst (dPcs ps)), some (dPc (b, m)), some (.int b), some (.int (b + m)), none, some (.int u), some (.int v)], by simp [wipeE, dPc], ?_, fun _ => by simp [dPc]⟩
        by_cases hb : b ≤ u <;> simp [dPc, hb])]
    unfold dPcs
    rw [List.filter_map, List.map_map, List.map_map]
    rfl
  rw [seq_nx (ρ' := [some (.lst (dPcs ps)), some (dPc (b, m)), some (.int b), some (.int (b + m)), some (.lst (((ps.filter fun p => decide (b ≤ p.1 ∧ p.1 + p.2 < b + m)).map fun p => p.1 + p.2).map D.int)), none, none]) (C' := []) (by simp only [ev_set, ev_val, show (([("start", 5), ("many", 6)] : List (Str × Nat)).map (·.2)) = [5, 6] from rfl, hc]; rfl)]
  have h1 : 1 ≤ sizeLine := line_le (by omega)
  have hadd : ∀ l : List Int, l.length < 1000 → dAdd (.lst [.int b]) (.lst (l.map D.int)) [] = some (.lst ((b :: l).map D.int)) := by
    intro l hl
    have hs : 1 + l.length ≤ sizeLine := line_le (by omega)
    simp [dAdd, D.seq, Nat.add_comm] at hs ⊢
    omega
  have hlen : ((ps.filter fun p => decide (b ≤ p.1 ∧ p.1 + p.2 < b + m)).map fun p => p.1 + p.2).length < 1000 := by
    rw [List.length_map]
    exact Nat.lt_of_le_of_lt (List.length_filter_le _ _) hz
  have hmax : fn1 maxD [.lst ((b :: ((ps.filter fun p => decide (b ≤ p.1 ∧ p.1 + p.2 < b + m)).map fun p => p.1 + p.2)).map D.int)] [] = some (.int (midOf ps (b, m))) := by
    show (Option.bind (some _) fun xs => (allInt xs).bind fun ns => if 0 < ns.length then some (D.int (maxI ns)) else none) = _
    rw [Option.bind_some, allInt_map]
    rfl
  have ha := hadd _ hlen
  generalize ((ps.filter fun p => decide (b ≤ p.1 ∧ p.1 + p.2 < b + m)).map fun p => p.1 + p.2) = E at ha hmax
  simp only [List.map_cons] at ha hmax
  simp [h1, ha, hmax]
end
end Qv

/-! ## M9 -/
set_option Elab.async false
set_option linter.all false
set_option maxRecDepth 100000
set_option maxHeartbeats 400000
namespace Qv
open PySem PySem.Spec PyProof.Rows L2
/-! the runs, plainly -/
structure RunsOk (u : Int → Prop) (k : Int) (rs : List Pc) : Prop where
  run : ∀ r ∈ rs, 0 ≤ r.1 ∧ 1 ≤ r.2 ∧ r.1 + r.2 ≤ k ∧ (∀ l, r.1 ≤ l → l < r.1 + r.2 → u l) ∧ ¬ u (r.1 - 1) ∧ (r.1 + r.2 < k → ¬ u (r.1 + r.2))
  all : ∀ l, 0 ≤ l → l < k → u l → ∃ r ∈ rs, r.1 ≤ l ∧ l < r.1 + r.2
  pw : rs.Pairwise fun r s => r.1 + r.2 < s.1
theorem RunsOk.last {u : Int → Prop} {k : Int} {l : List Pc} {r : Pc} (h : RunsOk u k (l ++ [r])) {s : Pc} (hs : s ∈ l ++ [r]) (e : s.1 + s.2 = k) : s = r := by
  rcases List.mem_append.mp hs with h1 | h1
  · have h2 := (List.pairwise_append.mp h.pw).2.2 s h1 r (by simp)
    have h3 := h.run r (by simp)
    omega
  · simpa using h1
theorem RunsOk.skip {u : Int → Prop} {k : Int} {rs : List Pc} (h : RunsOk u k rs) (hk : ¬ u k) : RunsOk u (k + 1) rs where
  run := fun r hr => by
    obtain ⟨h1, h2, h3, h4, h5, h6⟩ := h.run r hr
    refine ⟨h1, h2, by omega, h4, h5, fun h7 => ?_⟩
    by_cases e : r.1 + r.2 = k
    · rw [e]; exact hk
    · exact h6 (by omega)
  all := fun l h0 hl hu => by
    by_cases e : l = k
    · subst e; exact absurd hu hk
    · exact h.all l h0 (by omega) hu
  pw := h.pw
theorem RunsOk.step {u : Int → Prop} {k : Int} {rs : List Pc} (h : RunsOk u k rs) (h0 : 0 ≤ k) (hneg : ∀ l, l < 0 → ¬ u l) (hk : u k) : RunsOk u (k + 1) (runStep rs k) := by
  -- a new run
  have new : (∀ s ∈ rs, s.1 + s.2 < k) → RunsOk u (k + 1) (rs ++ [(k, 1)]) := fun hs => by
    refine ⟨fun r hr => ?_, fun l hl0 hl hu => ?_, ?_⟩
    · rcases List.mem_append.mp hr with hr | hr
      · obtain ⟨h1, h2, h3, h4, h5, h6⟩ := h.run r hr
        exact ⟨h1, h2, by omega, h4, h5, fun _ => h6 (hs r hr)⟩
      · have : r = (k, 1) := by simpa using hr
        subst this
        refine ⟨h0, by omega, by show k + 1 ≤ k + 1; omega, fun l a b => ?_, fun z => ?_, fun z => ?_⟩
        · have : l = k := by
            have b : l < k + 1 := b
            have a : k ≤ l := a
            omega
          rw [this]; exact hk
        · have z : u (k - 1) := z
          by_cases e : k = 0
          · exact hneg _ (by omega) z
          · obtain ⟨s, hs1, hs2, hs3⟩ := h.all (k - 1) (by omega) (by omega) z
            have := hs s hs1
            omega
        · have z : k + 1 < k + 1 := z
          omega
    · by_cases e : l = k
      · exact ⟨(k, 1), by simp, by show k ≤ l; omega, by show l < k + 1; omega⟩
      · obtain ⟨r, h1, h2⟩ := h.all l hl0 (by omega) hu
        exact ⟨r, by simp [h1], h2⟩
    · rw [List.pairwise_append]
      refine ⟨h.pw, by simp, fun a ha b hb => ?_⟩
      have : b = (k, 1) := by simpa using hb
      subst this
      exact hs a ha
  rcases List.eq_nil_or_concat rs with rfl | ⟨l, r, rfl⟩
  · have := new (fun s hs => by cases hs)
    simpa [runStep] using this
  · rw [List.concat_eq_append] at h new ⊢
    obtain ⟨a, m⟩ := r
    have hlast : (l ++ [(a, m)]).getLast? = some (a, m) := by simp
    obtain ⟨r1, r2, r3, r4, r5, r6⟩ := h.run (a, m) (by simp)
    dsimp only at r1 r2 r3 r4 r5 r6
    by_cases he : a + m = k
    · have hs : runStep (l ++ [(a, m)]) k = l ++ [(a, m + 1)] := by
        unfold runStep
        rw [hlast]
        simp [he]
      rw [hs]
      have pwl := List.pairwise_append.mp h.pw
      refine ⟨fun r hr => ?_, fun x hx0 hx hu => ?_, ?_⟩
      · rcases List.mem_append.mp hr with hr | hr
        · obtain ⟨h1, h2, h3, h4, h5, h6⟩ := h.run r (by simp [hr])
          have := pwl.2.2 r hr (a, m) (by simp)
          dsimp only at this
          exact ⟨h1, h2, by omega, h4, h5, fun _ => h6 (by omega)⟩
        · have : r = (a, m + 1) := by simpa using hr
          subst this
          refine ⟨r1, by show 1 ≤ m + 1; omega, by show a + (m + 1) ≤ k + 1; omega, fun x p q => ?_, r5, fun z => ?_⟩
          · have q : x < a + (m + 1) := q
            by_cases e : x = k
            · rw [e]; exact hk
            · exact r4 x p (by omega)
          · have z : a + (m + 1) < k + 1 := z
            omega
      · by_cases e : x = k
        · exact ⟨(a, m + 1), by simp, by show a ≤ x; omega, by show x < a + (m + 1); omega⟩
        · obtain ⟨r, h1, h2, h3⟩ := h.all x hx0 (by omega) hu
          rcases List.mem_append.mp h1 with h1 | h1
          · exact ⟨r, by simp [h1], h2, h3⟩
          · have : r = (a, m) := by simpa using h1
            subst this
            exact ⟨(a, m + 1), by simp, h2, by show x < a + (m + 1); dsimp only at h3; omega⟩
      · rw [List.pairwise_append]
        refine ⟨pwl.1, by simp, fun p hp q hq => ?_⟩
        have : q = (a, m + 1) := by simpa using hq
        subst this
        exact pwl.2.2 p hp (a, m) (by simp)
    · have hs : runStep (l ++ [(a, m)]) k = (l ++ [(a, m)]) ++ [(k, 1)] := by
        unfold runStep
        rw [hlast]
        simp [he]
      rw [hs]
      refine new fun s hs => ?_
      have h3 := (h.run s hs).2.2.1
      by_cases e : s.1 + s.2 = k
      · have := h.last hs e
        subst this
        exact absurd e he
      · omega
/-- a used leg -/
def usedBy (n : Nat) (f : Nat → Int) (l : Int) : Prop := ∃ i : Nat, l = i ∧ i < n ∧ 0 < f i
theorem covL_succ {n : Nat} {f : Nat → Int} : covL (n + 1) f = covL n f ++ if 0 < f n then [(n : Int)] else [] := by
  unfold covL
  rw [List.range_succ, List.filter_append, List.map_append]
  congr 1
  by_cases h : 0 < f n <;> simp [h]
theorem runs_upto {n : Nat} {f : Nat → Int} : ∀ k : Nat, k ≤ n → RunsOk (usedBy n f) k (runsF (covL k f))
  | 0, _ => ⟨fun r hr => by simp [covL, runsF] at hr, (fun l h0 hl _ => by
    exfalso
    have : l < ((0 : Nat) : Int) := hl
    omega), by simp [covL, runsF]⟩
  | k + 1, hk => by
    have ih := runs_upto (n := n) (f := f) k (by omega)
    have e : runsF (covL (k + 1) f) = if 0 < f k then runStep (runsF (covL k f)) k else runsF (covL k f) := by
      unfold runsF
      rw [covL_succ, List.foldl_append]
      by_cases h : 0 < f k <;> simp [h]
    rw [e]
    by_cases h : 0 < f k
    · rw [if_pos h]
      exact ih.step (by omega) (fun l hl z => by
        obtain ⟨i, e, _⟩ := z
        omega) ⟨k, rfl, by omega, h⟩
    · rw [if_neg h]
      refine ih.skip fun ⟨i, e, _, h2⟩ => ?_
      have : i = k := by omega
      subst this
      exact h h2
theorem runs_ok {n : Nat} {ps : List Pc} : RunsOk (usedBy n (cnt ps)) n (runsOf n ps) := runs_upto n (Nat.le_refl n)
theorem cnt_pos {ps : List Pc} {l : Nat} : 0 < cnt ps l ↔ ∃ p ∈ ps, cov l p = true := by
  unfold cnt
  have h : 0 < ps.countP (cov l) ↔ ∃ p ∈ ps, cov l p = true := List.countP_pos_iff
  rw [← h]
  omega
end Qv

/-! ## M10 -/
set_option Elab.async false
set_option linter.all false
set_option maxRecDepth 100000
set_option maxHeartbeats 400000
namespace Qv
open PySem PySem.Spec PyProof.Rows L2
section
variable {C : Cells} {n : Nat} {ps : List Pc}
theorem runsOf_sort : runsOf n (sortP ps) = runsOf n ps := by
  unfold runsOf
  congr 2
  funext l
  exact cnt_sort
def hasLeg (leg : Int) (r : Pc) : Bool := decide (r.1 ≤ leg ∧ leg < r.1 + r.2)
/-- the middle of the leg's run, if it is used -/
def midD (n : Nat) (ps : List Pc) (leg : Int) : D := match (runsOf n ps).find? (hasLeg leg) with
  | some r => .int (midOf (sortP ps) r)
  | none => .non
theorem sortP_len : (sortP ps).length = ps.length := (sortP_perm ps).length_eq
theorem sp_middle_of {leg : Int} (hn : 1 ≤ n ∧ n ≤ 24) (hz : ps.length < 1000) (h : ∀ p ∈ ps, okPc n p = true) : pureM m_middle_of [dLine n, .lst (dPcs ps), .int leg] C = .ok (midD n ps leg) C := by
  refine pure_ok (C' := []) (run_rt (ρ0 := [some (dLine n), some (.lst (dPcs ps)), some (.int leg), none, none]) rfl ?_) (by unfold midD; split <;> rfl)
  unfold F_middle_of
  rw [seq_nx (ρ' := [some (dLine n), some (.lst (dPcs ps)), some (.int leg), none, none]) (C' := []) (by simp [sp_check_line2 hn])]
  rw [seq_nx (ρ' := [some (dLine n), some (.lst (dPcs ps)), some (.int leg), some (.lst (dPcs (sortP ps))), none]) (C' := []) (by simp [sp_check_stock (n := n) (by omega) h])]
  have lp := loop_first (t := .nm 4) (C := []) (b := sIf (bTst (eChain dLe dLt (eOp dIx (eSlot 4) (eC (.int 0))) (eSlot 2) (eOp dAdd (eOp dIx (eSlot 4) (eC (.int 0))) (eOp dIx (eSlot 4) (eC (.int 1)))))) (sRet (eCallP 2 m_run_middle (aCons (eSlot 3) (aCons (eSlot 4) aNil)))) sNil)
    (fun _ ρ => ∃ x4, ρ = [some (dLine n), some (.lst (dPcs ps)), some (.int leg), some (.lst (dPcs (sortP ps))), x4])
    (fun d => match d with
      | .tup [.int a, .int m] => hasLeg leg (a, m)
      | _ => false) (fun d => match d with
      | .tup [.int a, .int m] => .int (midOf (sortP ps) (a, m))
      | d => d) (dPcs (runsOf n ps)) 0 [some (dLine n), some (.lst (dPcs ps)), some (.int leg), some (.lst (dPcs (sortP ps))), none] ⟨none, rfl⟩ (fun j d hd ρ hI => by
      obtain ⟨x4, rfl⟩ := hI
      obtain ⟨⟨a, m⟩, _, rfl⟩ := List.mem_map.mp (List.mem_of_getElem? hd)
      refine ⟨[some (dLine n), some (.lst (dPcs ps)), some (.int leg), some (.lst (dPcs (sortP ps))), some (dPc (a, m))], by simp, ?_⟩
      have hm := sp_run_middle (C := []) (ps := sortP ps) (r := (a, m)) (by rw [sortP_len]; exact hz)
      simp only [dPc] at hm
      by_cases h1 : a ≤ leg
      · by_cases h2 : leg < a + m
        · exact .inl ⟨by simp [dPc, hasLeg, h1, h2], by simp [dPc, h1, h2, hm]⟩
        · exact .inr ⟨by simp [dPc, hasLeg, h1, h2], [some (dLine n), some (.lst (dPcs ps)), some (.int leg), some (.lst (dPcs (sortP ps))), some (dPc (a, m))], by simp [dPc, h1, h2], _, rfl⟩
      · exact .inr ⟨by simp [dPc, hasLeg, h1], [some (dLine n), some (.lst (dPcs ps)), some (.int leg), some (.lst (dPcs (sortP ps))), some (dPc (a, m))], by simp [dPc, h1], _, rfl⟩)
  have fe : (dPcs (runsOf n ps)).find? (fun d => match d with
      | .tup [.int a, .int m] => hasLeg leg (a, m)
      | _ => false) = ((runsOf n ps).find? (hasLeg leg)).map dPc := by
    unfold dPcs
    rw [List.find?_map]
    rfl
  have hfr := sp_free_runs (C := []) hn (sort_ok h)
  rw [runsOf_sort] at hfr
  have hfor : sFor (.nm 4) (iSeq (eCallP 2 m_free_runs (aCons (eSlot 0) (aCons (eSlot 3) aNil)))) (sIf (bTst (eChain dLe dLt (eOp dIx (eSlot 4) (eC (.int 0))) (eSlot 2) (eOp dAdd (eOp dIx (eSlot 4) (eC (.int 0))) (eOp dIx (eSlot 4) (eC (.int 1)))))) (sRet (eCallP 2 m_run_middle (aCons (eSlot 3) (aCons (eSlot 4) aNil)))) sNil) [some (dLine n), some (.lst (dPcs ps)), some (.int leg), some (.lst (dPcs (sortP ps))), none] [] =
      loopF (.nm 4) (sIf (bTst (eChain dLe dLt (eOp dIx (eSlot 4) (eC (.int 0))) (eSlot 2) (eOp dAdd (eOp dIx (eSlot 4) (eC (.int 0))) (eOp dIx (eSlot 4) (eC (.int 1)))))) (sRet (eCallP 2 m_run_middle (aCons (eSlot 3) (aCons (eSlot 4) aNil)))) sNil) (dPcs (runsOf n ps)) [some (dLine n), some (.lst (dPcs ps)), some (.int leg), some (.lst (dPcs (sortP ps))), none] [] := by
    rw [ev_for]
    have hi : iSeq (eCallP 2 m_free_runs (aCons (eSlot 0) (aCons (eSlot 3) aNil))) [some (dLine n), some (.lst (dPcs ps)), some (.int leg), some (.lst (dPcs (sortP ps))), none] [] = .ok (dPcs (runsOf n ps)) [] := by simp [hfr]
    rw [hi]
    rfl
  rcases lp with ⟨d, f1, f2⟩ | ⟨f1, ρ', f2, _⟩
  · rw [fe] at f1
    obtain ⟨r, g1, rfl⟩ := Option.map_eq_some_iff.mp f1
    rw [seq_rt (hfor.trans f2)]
    unfold midD
    rw [g1]
    rfl
  · rw [fe] at f1
    rw [seq_nx (hfor.trans f2)]
    unfold midD
    rw [Option.map_eq_none_iff.mp f1]
    rfl
end
end Qv

/-! ## M11 -/
set_option Elab.async false
set_option linter.all false
set_option maxRecDepth 100000
set_option maxHeartbeats 800000
namespace Qv
open PySem PySem.Spec PyProof.Rows L2
/-! deal_order -/
def enumP : Nat → List Pc → List (Int × Pc)
  | _, [] => []
  | k, p :: ps => ((k : Int), p) :: enumP (k + 1) ps
def dIt (x : Int × Pc) : D := .tup [.int x.1, dPc x.2]
theorem enumK_pcs : ∀ (ps : List Pc) (k : Nat), enumK k (dPcs ps) = (enumP k ps).map dIt
  | [], _ => rfl
  | p :: ps, k => by
    show D.tup [.int k, dPc p] :: enumK (k + 1) (dPcs ps) = _
    rw [enumK_pcs ps (k + 1)]
    rfl
theorem enumP_len : ∀ (ps : List Pc) (k : Nat), (enumP k ps).length = ps.length
  | [], _ => rfl
  | p :: ps, k => by simp [enumP, enumP_len ps (k + 1)]
def insideL (as : List Pc) (r : Pc) : List (Int × Pc) := (enumP 0 as).filter fun x => decide (r.1 ≤ x.2.1 ∧ x.2.1 < r.1 + r.2)
def dTri (x : Int × Pc) : D := .tup [.int x.1, .int x.2.1, .int (x.2.1 + x.2.2)]
def acrossL (as : List Pc) (r : Pc) (mid : Int) : List (Int × Pc) := (insideL as r).filter fun x => decide (x.2.1 < mid ∧ mid < x.2.1 + x.2.2)
def laterL (as : List Pc) (r : Pc) (mid : Int) : List Pc := sortP (((insideL as r).filter fun x => decide (mid ≤ x.2.1)).map fun x => (x.2.1, x.1))
def earlierL (as : List Pc) (r : Pc) (mid : Int) : List Pc := sortP (((insideL as r).filter fun x => decide (x.2.1 + x.2.2 ≤ mid)).map fun x => (-(x.2.1 + x.2.2), x.1))
/-- the row of (index, part) -/
def orderOf (as : List Pc) (r : Pc) (mid : Int) : List (Int × Pc) := (acrossL as r mid).map (fun x => (x.1, (mid - 1, 2))) ++ (laterL as r mid).map (fun x => (x.2, (x.1, 1))) ++ (earlierL as r mid).map (fun x => (x.2, (-x.1 - 1, 1)))
section
variable {C : Cells} {as : List Pc} {r : Pc} {mid : Int}
theorem inside_len : (insideL as r).length ≤ as.length := by
  unfold insideL
  exact Nat.le_trans (List.length_filter_le _ _) (by rw [enumP_len]; exact Nat.le_refl _)
theorem ncs_map {α : Type} {l : List α} {g : α → D} (h : ∀ x, (g x).nc = true) : D.ncs (l.map g) = true := ncs_of fun y hy => by
  obtain ⟨x, _, rfl⟩ := List.mem_map.mp hy
  exact h x
theorem dTri_nc (x : Int × Pc) : (dTri x).nc = true := by simp [dTri]
theorem dIt_nc (x : Int × Pc) : (dIt x).nc = true := by simp [dIt]
theorem filt_map {α : Type} {l : List α} {g : α → D} {p : D → Bool} {q : α → Bool} (h : ∀ x, p (g x) = q x) : (l.map g).filter p = (l.filter q).map g := by
  rw [List.filter_map]
  congr 1
  exact List.filter_congr fun x _ => h x
theorem sorted_pcs {l : List Pc} : fn1 sortD [.lst (dPcs l)] C = some (.lst (dPcs (sortP l))) := by
  show (Option.bind (some (dPcs l)) fun xs => if sortOk xs then some (D.lst (sortL xs)) else none) = _
  rw [Option.bind_some, if_pos (sortOk_pcs l), sortL_pcs]
/-- the slots of deal_order -/
def rhoD (as : List Pc) (r : Pc) (mid : Int) (x5 x6 x7 x8 x9 x10 x11 x12 x13 x14 : Option D) : Env := [some (.lst (dPcs as)), some (dPc r), some (.int mid), some (.int r.1), some (.int (r.1 + r.2)), x5, x6, x7, x8, x9, x10, x11, x12, x13, x14]
theorem do_inside (hz : as.length < 1000) {x5 x6 x7 x8 x9 x10 x11 x12 x13 x14 : Option D} : fComp (.tp [(.nm 6), (.nm 7)]) [6, 7] (iEnumD (eSlot 0)) (bTst (eChain dLe dLt (eSlot 3) (eOp dIx (eSlot 7) (eC (.int 0))) (eSlot 4))) (eTup (aCons (eSlot 6) (aCons (eOp dIx (eSlot 7) (eC (.int 0))) (aCons (eOp dAdd (eOp dIx (eSlot 7) (eC (.int 0))) (eOp dIx (eSlot 7) (eC (.int 1)))) aNil)))) (rhoD as r mid x5 x6 x7 x8 x9 x10 x11 x12 x13 x14) [] = .ok ((insideL as r).map dTri) [] := by
  have h3 : 3 ≤ sizeLine := line_le (by omega)
  rw [fcomp_ok (ds := (enumP 0 as).map dIt) (C' := []) (fun d => match d with
    | .tup [_, .tup [.int f, _]] => decide (r.1 ≤ f ∧ f < r.1 + r.2)
    | _ => false) (fun d => match d with
    | .tup [i, .tup [.int f, .int w]] => .tup [i, .int f, .int (f + w)]
    | d => d) (by
      show Out.ok (enumD (dPcs as)) [] = _
      rw [enumD_eq, enumK_pcs]) (line_le (by rw [List.length_map, enumP_len]; omega)) (fun d hd => by
      obtain ⟨⟨i, f, w⟩, _, rfl⟩ := List.mem_map.mp hd
      refine ⟨rhoD as r mid x5 (some (.int i)) (some (dPc (f, w))) x8 x9 x10 x11 x12 x13 x14, by simp [wipeE, dIt, rhoD], ?_, fun _ => by simp [rhoD, dPc, dIt, h3]⟩
      by_cases h1 : r.1 ≤ f <;> simp [rhoD, dPc, dIt, h1])]
  rw [filt_map (q := fun x => decide (r.1 ≤ x.2.1 ∧ x.2.1 < r.1 + r.2)) (fun x => rfl), List.map_map]
  rfl
theorem tri_bind {x : Int × Pc} {x5 x6 x7 x8 x9 x10 x11 x12 x13 x14 : Option D} : (Tgt.tp [.nm 6, .nm 9, .nm 10]).bind (dTri x) (wipeE (rhoD as r mid x5 x6 x7 x8 x9 x10 x11 x12 x13 x14) [6, 9, 10]) = some (rhoD as r mid x5 (some (.int x.1)) x7 x8 (some (.int x.2.1)) (some (.int (x.2.1 + x.2.2))) x11 x12 x13 x14) := by
  simp [wipeE, dTri, rhoD]
theorem do_across (hz : as.length < 1000) {x6 x7 x8 x9 x10 x11 x12 x13 x14 : Option D} : fComp (.tp [(.nm 6), (.nm 9), (.nm 10)]) [6, 9, 10] (iSeq (eSlot 5)) (bTst (eChain dLt dLt (eSlot 9) (eSlot 2) (eSlot 10))) (eSlot 6) (rhoD as r mid (some (.lst ((insideL as r).map dTri))) x6 x7 x8 x9 x10 x11 x12 x13 x14) [] = .ok ((acrossL as r mid).map fun x => D.int x.1) [] := by
  rw [fcomp_ok (ds := (insideL as r).map dTri) (C' := []) (fun d => match d with
    | .tup [_, .int f, .int b] => decide (f < mid ∧ mid < b)
    | _ => false) (fun d => match d with
    | .tup [i, _, _] => i
    | d => d) (by simp [rhoD]) (line_le (by rw [List.length_map]; have := inside_len (as := as) (r := r); omega)) (fun d hd => by
      obtain ⟨x, _, rfl⟩ := List.mem_map.mp hd
      refine ⟨_, tri_bind, ?_, fun _ => by simp [rhoD, dTri]⟩
      by_cases h1 : x.2.1 < mid <;> simp [rhoD, dTri, h1])]
  rw [filt_map (q := fun x => decide (x.2.1 < mid ∧ mid < x.2.1 + x.2.2)) (fun x => rfl), List.map_map]
  rfl
theorem do_later (hz : as.length < 1000) {x6 x7 x8 x9 x10 x11 x12 x13 x14 : Option D} : fComp (.tp [(.nm 6), (.nm 9), (.nm 10)]) [6, 9, 10] (iSeq (eSlot 5)) (bTst (eOp dGe (eSlot 9) (eSlot 2))) (eTup (aCons (eSlot 9) (aCons (eSlot 6) aNil))) (rhoD as r mid (some (.lst ((insideL as r).map dTri))) x6 x7 x8 x9 x10 x11 x12 x13 x14) [] = .ok (dPcs (((insideL as r).filter fun x => decide (mid ≤ x.2.1)).map fun x => (x.2.1, x.1))) [] := by
  have h2 : 2 ≤ sizeLine := line_le (by omega)
  rw [fcomp_ok (ds := (insideL as r).map dTri) (C' := []) (fun d => match d with
    | .tup [_, .int f, _] => decide (mid ≤ f)
    | _ => false) (fun d => match d with
    | .tup [i, f, _] => .tup [f, i]
    | d => d) (by simp [rhoD]) (line_le (by rw [List.length_map]; have := inside_len (as := as) (r := r); omega)) (fun d hd => by
      obtain ⟨x, _, rfl⟩ := List.mem_map.mp hd
      exact ⟨_, tri_bind, by simp [rhoD, dTri], fun _ => by simp [rhoD, dTri, h2]⟩)]
  rw [filt_map (q := fun x => decide (mid ≤ x.2.1)) (fun x => rfl), List.map_map]
  unfold dPcs
  rw [List.map_map]
  rfl
theorem do_earlier (hz : as.length < 1000) {x6 x7 x8 x9 x10 x11 x12 x13 x14 : Option D} : fComp (.tp [(.nm 6), (.nm 9), (.nm 10)]) [6, 9, 10] (iSeq (eSlot 5)) (bTst (eOp dLe (eSlot 10) (eSlot 2))) (eTup (aCons (eMap numNeg (eSlot 10)) (aCons (eSlot 6) aNil))) (rhoD as r mid (some (.lst ((insideL as r).map dTri))) x6 x7 x8 x9 x10 x11 x12 x13 x14) [] = .ok (dPcs (((insideL as r).filter fun x => decide (x.2.1 + x.2.2 ≤ mid)).map fun x => (-(x.2.1 + x.2.2), x.1))) [] := by
  have h2 : 2 ≤ sizeLine := line_le (by omega)
  rw [fcomp_ok (ds := (insideL as r).map dTri) (C' := []) (fun d => match d with
    | .tup [_, _, .int b] => decide (b ≤ mid)
    | _ => false) (fun d => match d with
    | .tup [i, _, .int b] => .tup [.int (-b), i]
    | d => d) (by simp [rhoD]) (line_le (by rw [List.length_map]; have := inside_len (as := as) (r := r); omega)) (fun d hd => by
      obtain ⟨x, _, rfl⟩ := List.mem_map.mp hd
      exact ⟨_, tri_bind, by simp [rhoD, dTri], fun _ => by simp [rhoD, dTri, h2]⟩)]
  rw [filt_map (q := fun x => decide (x.2.1 + x.2.2 ≤ mid)) (fun x => rfl), List.map_map]
  unfold dPcs
  rw [List.map_map]
  rfl
end
end Qv

/-! ## M12 -/
set_option Elab.async false
set_option linter.all false
set_option maxRecDepth 100000
set_option maxHeartbeats 800000
namespace Qv
open PySem PySem.Spec PyProof.Rows L2
section
variable {C : Cells} {as : List Pc} {r : Pc} {mid : Int}
theorem rhoD_set5 {x5 x6 x7 x8 x9 x10 x11 x12 x13 x14 : Option D} {d : D} : (rhoD as r mid x5 x6 x7 x8 x9 x10 x11 x12 x13 x14).set 5 (some d) = rhoD as r mid (some d) x6 x7 x8 x9 x10 x11 x12 x13 x14 := rfl
/-- [(i, (a, b)) ..] -/
theorem do_ord {α : Type} {l : List α} {g : α → D} {t : Tgt} {vs : List Nat} {fi : DA} {e : DE} {ρ : Env} (k : α → Int × Pc) (hl : l.length < 1000) (hi : fi ρ [] = .ok (l.map g) []) (h : ∀ x, ∃ ρd, t.bind (g x) (wipeE ρ vs) = some ρd ∧ e ρd [] = .ok (dIt (k x)) []) :
    fComp t vs fi bYes e ρ [] = .ok (l.map fun x => dIt (k x)) [] := by
  have key : ∀ (l : List α) (acc : List D), acc.length + l.length < 2000 → loopC t bYes e (wipeE ρ vs) (l.map g) acc [] = .ok (acc ++ l.map fun x => dIt (k x)) [] := by
    intro l
    induction l with
    | nil => intro acc _; simp [loopC]
    | cons x l ih =>
      intro acc hz
      obtain ⟨ρd, h1, h2⟩ := h x
      simp only [List.length_cons] at hz
      rw [List.map_cons]
      unfold loopC
      simp only [h1, h2, bYes]
      rw [if_pos (by rw [sizeLine_eq]; omega), ih (acc ++ [dIt (k x)]) (by simp; omega)]
      simp
  unfold fComp
  rw [hi]
  show loopC t bYes e (wipeE ρ vs) (l.map g) [] [] = _
  rw [key l [] (by simp; omega)]
  simp
theorem cat_l {a b : List D} (h : a.length + b.length < 100000) : dAdd (.lst a) (.lst b) C = some (.lst (a ++ b)) := by
  have hs : a.length + b.length ≤ sizeLine := line_le (by omega)
  simp [dAdd, D.seq, hs]
theorem op_ok {o : D2} {f g : DE} {ρ : Env} {x y d : D} (h1 : f ρ C = .ok x C) (h2 : g ρ C = .ok y C) (h3 : o x y C = some d) : eOp o f g ρ C = .ok d C := by
  rw [ev_op, h1, ev_bind_ok, h2, ev_bind_ok, h3]
theorem val_ok {f : DF} {ρ : Env} {xs : List D} (h : f ρ C = .ok xs C) : eVal f ρ C = .ok (.lst xs) C := by
  rw [ev_val, h]
  rfl
theorem across_len : (acrossL as r mid).length ≤ as.length := Nat.le_trans (List.length_filter_le _ _) inside_len
theorem later_len : (laterL as r mid).length ≤ as.length := by
  unfold laterL
  rw [sortP_len, List.length_map]
  exact Nat.le_trans (List.length_filter_le _ _) inside_len
theorem earlier_len : (earlierL as r mid).length ≤ as.length := by
  unfold earlierL
  rw [sortP_len, List.length_map]
  exact Nat.le_trans (List.length_filter_le _ _) inside_len
theorem sp_deal_order (hz : as.length < 1000) : pureM m_deal_order [.lst (dPcs as), dPc r, .int mid] C = .ok (.lst ((orderOf as r mid).map dIt)) C := by
  have h2 : 2 ≤ sizeLine := line_le (by omega)
  refine pure_ok (C' := []) (run_rt (ρ0 := [some (.lst (dPcs as)), some (dPc r), some (.int mid), none, none, none, none, none, none, none, none, none, none, none, none]) rfl ?_) (by rw [nc_lst]; exact ncs_map dIt_nc)
  unfold F_deal_order
  rw [seq_nx (ρ' := [some (.lst (dPcs as)), some (dPc r), some (.int mid), some (.int r.1), none, none, none, none, none, none, none, none, none, none, none]) (C' := []) (by simp [dPc])]
  rw [seq_nx (ρ' := rhoD as r mid none none none none none none none none none none) (C' := []) (by simp [dPc, rhoD])]
  rw [seq_nx (ρ' := rhoD as r mid (some (.lst ((insideL as r).map dTri))) none none none none none none none none none) (C' := []) (by
    rw [ev_set, ev_val, show (([("index", 6), ("ask", 7)] : List (Str × Nat)).map (·.2)) = [6, 7] from rfl, do_inside hz]
    rfl)]
  rw [seq_nx (ρ' := rhoD as r mid (some (.lst ((insideL as r).map dTri))) none none (some (.lst ((acrossL as r mid).map fun x => D.int x.1))) none none none none none none) (C' := []) (by
    rw [ev_set, ev_val, show (([("index", 6), ("first", 9), ("behind", 10)] : List (Str × Nat)).map (·.2)) = [6, 9, 10] from rfl, do_across hz]
    rfl)]
  rw [seq_nx (ρ' := rhoD as r mid (some (.lst ((insideL as r).map dTri))) none none (some (.lst ((acrossL as r mid).map fun x => D.int x.1))) none none (some (.lst (dPcs (laterL as r mid)))) none none none) (C' := []) (by
    rw [ev_set, ev_call, ev_aCons, ev_val, show (([("index", 6), ("first", 9), ("behind", 10)] : List (Str × Nat)).map (·.2)) = [6, 9, 10] from rfl, do_later hz]
    simp only [ev_bind_ok, ev_aNil, sorted_pcs, ev_bindS_ok]
    rfl)]
  rw [seq_nx (ρ' := rhoD as r mid (some (.lst ((insideL as r).map dTri))) none none (some (.lst ((acrossL as r mid).map fun x => D.int x.1))) none none (some (.lst (dPcs (laterL as r mid)))) (some (.lst (dPcs (earlierL as r mid)))) none none) (C' := []) (by
    rw [ev_set, ev_call, ev_aCons, ev_val, show (([("index", 6), ("first", 9), ("behind", 10)] : List (Str × Nat)).map (·.2)) = [6, 9, 10] from rfl, do_earlier hz]
    simp only [ev_bind_ok, ev_aNil, sorted_pcs, ev_bindS_ok]
    rfl)]
  rw [seq_nx (ρ' := rhoD as r mid (some (.lst ((insideL as r).map dTri))) none none (some (.lst ((acrossL as r mid).map fun x => D.int x.1))) none none (some (.lst (dPcs (laterL as r mid)))) (some (.lst (dPcs (earlierL as r mid)))) (some (.lst ((acrossL as r mid).map fun x => dIt (x.1, (mid - 1, 2))))) none) (C' := []) (by
    rw [ev_set, ev_val, show (([("index", 6)] : List (Str × Nat)).map (·.2)) = [6] from rfl, do_ord (l := acrossL as r mid) (g := fun x => D.int x.1) (fun x => (x.1, (mid - 1, 2))) (by have := across_len (as := as) (r := r) (mid := mid); omega) (by simp [rhoD]) (fun x => ⟨_, ev_bind_nm, by simp [rhoD, wipeE, dIt, dPc, h2]⟩)]
    rfl)]
  rw [seq_nx (ρ' := rhoD as r mid (some (.lst ((insideL as r).map dTri))) none none (some (.lst ((acrossL as r mid).map fun x => D.int x.1))) none none (some (.lst (dPcs (laterL as r mid)))) (some (.lst (dPcs (earlierL as r mid)))) (some (.lst (((acrossL as r mid).map fun x => dIt (x.1, (mid - 1, 2))) ++ (laterL as r mid).map fun x => dIt (x.2, (x.1, 1))))) none) (C' := []) (by
    have hl : dAdd (.lst ((acrossL as r mid).map fun x => dIt (x.1, (mid - 1, 2)))) (.lst ((laterL as r mid).map fun x => dIt (x.2, (x.1, 1)))) [] = some (.lst (((acrossL as r mid).map fun x => dIt (x.1, (mid - 1, 2))) ++ (laterL as r mid).map fun x => dIt (x.2, (x.1, 1)))) := cat_l (by
      rw [List.length_map, List.length_map]
      have h3 := across_len (as := as) (r := r) (mid := mid)
      have h4 := later_len (as := as) (r := r) (mid := mid)
      omega)
    rw [ev_set, op_ok (x := .lst ((acrossL as r mid).map fun x => dIt (x.1, (mid - 1, 2)))) (y := .lst ((laterL as r mid).map fun x => dIt (x.2, (x.1, 1)))) (by simp [rhoD]) (val_ok (by
      rw [show (([("index", 6), ("first", 9)] : List (Str × Nat)).map (·.2)) = [6, 9] from rfl]
      exact do_ord (l := laterL as r mid) (g := dPc) (fun x => (x.2, (x.1, 1))) (by have := later_len (as := as) (r := r) (mid := mid); omega) (by simp [rhoD, dPcs]) (fun x => ⟨rhoD as r mid (some (.lst ((insideL as r).map dTri))) (some (.int x.2)) none (some (.lst ((acrossL as r mid).map fun x => D.int x.1))) (some (.int x.1)) none (some (.lst (dPcs (laterL as r mid)))) (some (.lst (dPcs (earlierL as r mid)))) (some (.lst ((acrossL as r mid).map fun x => dIt (x.1, (mid - 1, 2))))) none, by simp [rhoD, wipeE, dPc], by simp [rhoD, dIt, dPc, h2]⟩))) hl]
    rfl)]
  have hl : dAdd (.lst (((acrossL as r mid).map fun x => dIt (x.1, (mid - 1, 2))) ++ (laterL as r mid).map fun x => dIt (x.2, (x.1, 1)))) (.lst ((earlierL as r mid).map fun x => dIt (x.2, (-x.1 - 1, 1)))) [] = some (.lst ((((acrossL as r mid).map fun x => dIt (x.1, (mid - 1, 2))) ++ (laterL as r mid).map fun x => dIt (x.2, (x.1, 1))) ++ (earlierL as r mid).map fun x => dIt (x.2, (-x.1 - 1, 1)))) := cat_l (by
    rw [List.length_append, List.length_map, List.length_map, List.length_map]
    have h3 := across_len (as := as) (r := r) (mid := mid)
    have h4 := later_len (as := as) (r := r) (mid := mid)
    have h5 := earlier_len (as := as) (r := r) (mid := mid)
    omega)
  rw [ev_ret, op_ok (x := .lst (((acrossL as r mid).map fun x => dIt (x.1, (mid - 1, 2))) ++ (laterL as r mid).map fun x => dIt (x.2, (x.1, 1)))) (y := .lst ((earlierL as r mid).map fun x => dIt (x.2, (-x.1 - 1, 1)))) (by simp [rhoD]) (val_ok (by
    rw [show (([("index", 6), ("below", 14)] : List (Str × Nat)).map (·.2)) = [6, 14] from rfl]
    exact do_ord (l := earlierL as r mid) (g := dPc) (fun x => (x.2, (-x.1 - 1, 1))) (by have := earlier_len (as := as) (r := r) (mid := mid); omega) (by simp [rhoD, dPcs]) (fun x => ⟨rhoD as r mid (some (.lst ((insideL as r).map dTri))) (some (.int x.2)) none (some (.lst ((acrossL as r mid).map fun x => D.int x.1))) none none (some (.lst (dPcs (laterL as r mid)))) (some (.lst (dPcs (earlierL as r mid)))) (some (.lst (((acrossL as r mid).map fun x => dIt (x.1, (mid - 1, 2))) ++ (laterL as r mid).map fun x => dIt (x.2, (x.1, 1))))) (some (.int x.1)), by simp [rhoD, wipeE, dPc], by simp [rhoD, dIt, dPc, h2]⟩))) hl]
  rw [ev_bindS_ok]
  unfold orderOf
  rw [List.map_append, List.map_append, List.map_map, List.map_map, List.map_map]
  rfl
end
end Qv

/-! ## M13 -/
set_option Elab.async false
set_option linter.all false
set_option maxRecDepth 100000
set_option maxHeartbeats 800000
namespace Qv
open PySem PySem.Spec PyProof.Rows L2
section
variable {C : Cells} {n : Nat} {ps : List Pc} {part : Pc}
def dLoads (ls : List (List Pc)) : D := .lst (ls.map fun l => .lst (dPcs l))
/-- may the part go to the place x.1, the piece x.2 -/
def goes (ls : List (List Pc)) (part : Pc) (x : Int × Pc) : Bool := inside part x.2 && !((ls.getD x.1.toNat []).any fun a => overlap part a)
def placeOf (ps : List Pc) (ls : List (List Pc)) (part : Pc) : List Int := ((enumP 0 ps).filter (goes ls part)).map (·.1)
theorem allBl_map {α : Type} {l : List α} {g : α → Bool} : allBl (l.map fun x => D.bl (g x)) = some (l.map g) := by
  induction l with
  | nil => rfl
  | cons x l ih =>
    show (allBl (l.map fun x => D.bl (g x))).map _ = _
    rw [ih]
    rfl
theorem any_map {α : Type} {l : List α} {g : α → Bool} : fn1 anyD [.lst (l.map fun x => D.bl (g x))] C = some (.bl (l.any g)) := by
  show (Option.bind (some _) fun xs => (allBl xs).bind fun bs => some (D.bl (bs.any id))) = _
  rw [Option.bind_some, allBl_map, Option.bind_some, List.any_map]
  rfl
theorem enumP_mem : ∀ {ps : List Pc} {k : Nat} {x : Int × Pc}, x ∈ enumP k ps → ∃ i : Nat, x.1 = ((k + i : Nat) : Int) ∧ ps[i]? = some x.2
  | [], k, x, h => by cases h
  | p :: ps, k, x, h => by
    rcases List.mem_cons.mp h with rfl | h
    · exact ⟨0, rfl, rfl⟩
    · obtain ⟨i, h1, h2⟩ := enumP_mem h
      exact ⟨i + 1, by rw [h1]; congr 1; omega, by simpa using h2⟩
theorem sp_free_place {ls : List (List Pc)} {i : Int} {is : List Int} (hn : 1 ≤ n ∧ n ≤ 24) (hz : ps.length < 1000) (hp : ∀ p ∈ ps, okPc n p = true) (hl : ls.length = ps.length) (hlz : ∀ l ∈ ls, l.length < 100000 ∧ ∀ a ∈ l, okPc n a = true) (hpt : okPc n part = true)
    (hi : placeOf ps ls part = i :: is) : m_free_place [dLine n, .lst (dPcs ps), dLoads ls, dPc part] [] = .ok (.int i) [] := by
  refine run_rt (ρ0 := [some (dLine n), some (.lst (dPcs ps)), some (dLoads ls), some (dPc part), none, none, none, none]) rfl ?_
  unfold F_free_place
  have hc : fComp (.tp [(.nm 5), (.nm 6)]) [5, 6] (iEnumD (eSlot 1)) (bAnd (bTru (eCallP 3 m_holds (aCons (eSlot 0) (aCons (eSlot 6) (aCons (eSlot 3) aNil))))) (bNot (bTru (eCall (fn1 anyD) (aCons (eVal (fComp (.nm 7) (([("ask", 7)] : List (Str × Nat)).map (·.2)) (iSeq (eOp dIx (eSlot 2) (eSlot 5))) bYes (eCallP 3 m_shares (aCons (eSlot 0) (aCons (eSlot 3) (aCons (eSlot 7) aNil)))))) aNil))))) (eSlot 5) [some (dLine n), some (.lst (dPcs ps)), some (dLoads ls), some (dPc part), none, none, none, none] [] = .ok ((placeOf ps ls part).map D.int) [] := by
    have hmem : ∀ x ∈ enumP 0 ps, ∃ ρd, (Tgt.tp [(.nm 5), (.nm 6)]).bind (dIt x) (wipeE [some (dLine n), some (.lst (dPcs ps)), some (dLoads ls), some (dPc part), none, none, none, none] [5, 6]) = some ρd ∧
        (bAnd (bTru (eCallP 3 m_holds (aCons (eSlot 0) (aCons (eSlot 6) (aCons (eSlot 3) aNil))))) (bNot (bTru (eCall (fn1 anyD) (aCons (eVal (fComp (.nm 7) (([("ask", 7)] : List (Str × Nat)).map (·.2)) (iSeq (eOp dIx (eSlot 2) (eSlot 5))) bYes (eCallP 3 m_shares (aCons (eSlot 0) (aCons (eSlot 3) (aCons (eSlot 7) aNil)))))) aNil)))) : DB) ρd [] = .ok (goes ls part x) [] ∧ eSlot 5 ρd [] = .ok (.int x.1) [] := fun x hx => by
      obtain ⟨j, h1, h2⟩ := enumP_mem hx
      obtain ⟨xi, xp⟩ := x
      dsimp only at h1 h2
      rw [Nat.zero_add] at h1
      subst h1
      have hok := hp xp (List.mem_of_getElem? h2)
      have hj : j < ls.length := by
        rw [hl]
        exact (List.getElem?_eq_some_iff.mp h2).1
      have hg : ls[j]? = some ls[j] := List.getElem?_eq_getElem hj
      obtain ⟨hl1, hl2⟩ := hlz _ (List.getElem_mem hj)
      refine ⟨[some (dLine n), some (.lst (dPcs ps)), some (dLoads ls), some (dPc part), none, some (.int j), some (dPc xp), none], by simp [wipeE, dIt], ?_, by simp⟩
      have hin : fComp (.nm 7) [7] (iSeq (eOp dIx (eSlot 2) (eSlot 5))) bYes (eCallP 3 m_shares (aCons (eSlot 0) (aCons (eSlot 3) (aCons (eSlot 7) aNil)))) [some (dLine n), some (.lst (dPcs ps)), some (dLoads ls), some (dPc part), none, some (.int j), some (dPc xp), none] [] = .ok (ls[j].map fun a => D.bl (overlap part a)) [] := by
        have hat : atI (ls.map fun l => D.lst (dPcs l)) (j : Int) = some (.lst (dPcs ls[j])) := at_nat (by rw [List.getElem?_map, hg]; rfl)
        rw [fcomp_ok (ds := dPcs ls[j]) (C' := []) (fun _ => true) (fun d => match d with
          | .tup [.int a, .int b] => .bl (overlap part (a, b))
          | d => d) (by simp [dLoads, hat]) (line_le (by simp [dPcs]; omega)) (fun d hd => by
            obtain ⟨a, ha, rfl⟩ := List.mem_map.mp hd
            refine ⟨_, ev_bind_nm, rfl, fun _ => ?_⟩
            simp [wipeE, sp_shares (C := []) hn.1 hpt (hl2 a ha)]
            rfl)]
        rw [List.filter_eq_self.mpr fun _ _ => rfl]
        unfold dPcs
        rw [List.map_map]
        rfl
      have hh := sp_holds (C := []) hn.1 hok hpt
      have hgoes : goes ls part ((j : Int), xp) = (inside part xp && !(ls[j].any fun a => overlap part a)) := by
        unfold goes
        simp [List.getD, hg]
      rw [hgoes]
      have ha := any_map (C := []) (l := ls[j]) (g := fun a => overlap part a)
      cases hin2 : inside part xp with
      | false => rw [hin2] at hh; simp [hh]
      | true =>
        rw [hin2] at hh
        have hv : eVal (fComp (.nm 7) (([("ask", 7)] : List (Str × Nat)).map (·.2)) (iSeq (eOp dIx (eSlot 2) (eSlot 5))) bYes (eCallP 3 m_shares (aCons (eSlot 0) (aCons (eSlot 3) (aCons (eSlot 7) aNil))))) [some (dLine n), some (.lst (dPcs ps)), some (dLoads ls), some (dPc part), none, some (.int j), some (dPc xp), none] [] = .ok (.lst (ls[j].map fun a => D.bl (overlap part a))) [] := val_ok hin
        have h1 : bTru (eCallP 3 m_holds (aCons (eSlot 0) (aCons (eSlot 6) (aCons (eSlot 3) aNil)))) [some (dLine n), some (.lst (dPcs ps)), some (dLoads ls), some (dPc part), none, some (.int j), some (dPc xp), none] [] = .ok true [] := by simp [hh]
        rw [ev_bAnd, h1, ev_bind_ok, if_pos rfl, ev_not, ev_tru, ev_call, ev_aCons, hv]
        simp only [ev_bind_ok, ev_aNil, ha, truD_bl, Bool.true_and]
    rw [fcomp_ok (ds := (enumP 0 ps).map dIt) (C' := []) (fun d => match d with
      | .tup [.int i, .tup [.int a, .int b]] => goes ls part (i, (a, b))
      | _ => false) (fun d => match d with
      | .tup [i, _] => i
      | d => d) (by
        show Out.ok (enumD (dPcs ps)) [] = _
        rw [enumD_eq, enumK_pcs]) (line_le (by rw [List.length_map, enumP_len]; omega)) (fun d hd => by
        obtain ⟨x, hx, rfl⟩ := List.mem_map.mp hd
        obtain ⟨ρd, h1, h2, h3⟩ := hmem x hx
        exact ⟨ρd, h1, h2, fun _ => h3⟩)]
    rw [filt_map (q := goes ls part) (fun x => rfl), List.map_map]
    unfold placeOf
    rw [List.map_map]
    rfl
  rw [seq_nx (ρ' := [some (dLine n), some (.lst (dPcs ps)), some (dLoads ls), some (dPc part), some (.lst ((placeOf ps ls part).map D.int)), none, none, none]) (C' := []) (by
    rw [ev_set, val_ok (xs := (placeOf ps ls part).map D.int) (by
      rw [show (([("place", 5), ("piece", 6)] : List (Str × Nat)).map (·.2)) = [5, 6] from rfl]
      exact hc)]
    rfl)]
  rw [hi]
  simp
end
end Qv

/-! ## M14 -/
set_option Elab.async false
set_option linter.all false
set_option maxRecDepth 100000
set_option maxHeartbeats 800000
namespace Qv
open PySem PySem.Spec PyProof.Rows L2
section
variable {n : Nat} {ps as : List Pc} {part : Pc}
/-- deal's cells behind C0: the way, the loads -/
def dealC (C0 : Cells) (way : List Int) (ls : List (List Pc)) : Cells := C0 ++ Cell.lst (way.map D.int) :: ls.map fun l => Cell.lst (dPcs l)
def loadRefs (k m : Nat) : List D := (List.range m).map fun j => D.cel (k + 1 + j)
theorem dealC_way {C0 : Cells} {way : List Int} {ls : List (List Pc)} : (dealC C0 way ls)[C0.length]? = some (.lst (way.map D.int)) := by
  unfold dealC
  rw [List.getElem?_append_right (Nat.le_refl _)]
  simp
theorem dealC_load {C0 : Cells} {way : List Int} {ls : List (List Pc)} {j : Nat} {l : List Pc} (h : ls[j]? = some l) : (dealC C0 way ls)[C0.length + 1 + j]? = some (.lst (dPcs l)) := by
  unfold dealC
  rw [List.getElem?_append_right (by omega)]
  have e : C0.length + 1 + j - C0.length = j + 1 := by omega
  rw [e, List.getElem?_cons_succ, List.getElem?_map, h]
  rfl
theorem dealC_setway {C0 : Cells} {way way' : List Int} {ls : List (List Pc)} : (dealC C0 way ls).set C0.length (.lst (way'.map D.int)) = dealC C0 way' ls := by
  unfold dealC
  rw [List.set_append_right _ _ (Nat.le_refl _)]
  simp
theorem dealC_setload {C0 : Cells} {way : List Int} {ls : List (List Pc)} {j : Nat} {l : List Pc} : (dealC C0 way ls).set (C0.length + 1 + j) (.lst (dPcs l)) = dealC C0 way (ls.set j l) := by
  unfold dealC
  rw [List.set_append_right _ _ (by omega)]
  have e : C0.length + 1 + j - C0.length = j + 1 := by omega
  rw [e, List.set_cons_succ, List.map_set]
theorem view_pcs {C : Cells} : ∀ ps : List Pc, D.views C (dPcs ps) = some (dPcs ps)
  | [] => by simp [dPcs, D.views]
  | p :: ps => by
    have ih := view_pcs (C := C) ps
    simp only [dPcs] at ih
    simp [dPcs, D.views, dPc, D.view, ih]
theorem view_refs {C0 : Cells} {way : List Int} {ls : List (List Pc)} : ∀ (m k : Nat), k + m = ls.length → D.views (dealC C0 way ls) ((List.range' k m).map fun j => D.cel (C0.length + 1 + j)) = some ((ls.drop k).map fun l => D.lst (dPcs l))
  | 0, k, h => by
    have : ls.drop k = [] := List.drop_eq_nil_of_le (by omega)
    simp [this, D.views]
  | m + 1, k, h => by
    have hk : k < ls.length := by omega
    have ih := view_refs (C0 := C0) (way := way) (ls := ls) m (k + 1) (by omega)
    have hv : D.view (dealC C0 way ls) (.cel (C0.length + 1 + k)) = some (.lst (dPcs ls[k])) := by
      show (match (dealC C0 way ls)[C0.length + 1 + k]? with
        | some (Cell.lst xs) => if D.ncs xs = true then some (D.lst xs) else none
        | _ => none) = _
      rw [dealC_load (List.getElem?_eq_getElem hk)]
      exact if_pos ncs_dPcs
    rw [List.range'_succ, List.map_cons, List.drop_eq_getElem_cons hk, List.map_cons]
    show (D.view _ _).bind (fun y => (D.views _ _).map fun ys => y :: ys) = _
    rw [hv, ih]
    rfl
theorem view_loads {C0 : Cells} {way : List Int} {ls : List (List Pc)} : D.view (dealC C0 way ls) (.lst (loadRefs C0.length ls.length)) = some (dLoads ls) := by
  show (D.views _ _).map D.lst = _
  unfold loadRefs
  rw [List.range_eq_range', view_refs ls.length 0 (by omega)]
  rfl
@[simp] theorem ev_callV {k : Nat} {m : MD} {fa : DA} {ρ : Env} {C : Cells} : eCallV k m fa ρ C = (fa ρ C).bind fun ds C => if ds.length = k then match D.views C ds with
  | some es => flatM m es C
  | none => .stuck else .stuck := rfl
def dealBody : DS := (sSeq (sSet 12 (eCallV 4 m_free_place (aCons (eSlot 0) (aCons (eSlot 3) (aCons (eSlot 7) (aCons (eSlot 11) aNil))))))
    (sSeq (sStore (eSlot 5) (eSlot 10) (eSlot 12))
    (sDrop (eMth mAppend (eOp dIx (eSlot 7) (eSlot 12)) (aCons (eOp dIx (eSlot 4) (eSlot 10)) aNil)))))
theorem set_at {l : List D} {i : Nat} {d : D} (h : i < l.length) : setAt (i : Int) d l = some (l.set i d) := by
  unfold setAt ixN
  rw [if_pos (by omega), if_pos (by omega)]
  simp
theorem deal_body {C0 : Cells} {way : List Int} {ls : List (List Pc)} {x1 x2 x6 x8 x9 x12 : Option D} {i j : Nat} {is : List Int} {a : Pc} {l : List Pc} (hn : 1 ≤ n ∧ n ≤ 24) (hz : ps.length < 1000) (hp : ∀ p ∈ ps, okPc n p = true) (hl : ls.length = ps.length) (hlz : ∀ l ∈ ls, l.length < 100000 ∧ ∀ a ∈ l, okPc n a = true) (hpt : okPc n part = true)
    (hi : placeOf ps ls part = (j : Int) :: is) (ha : as[i]? = some a) (hw : way.length = as.length) (hj : ls[j]? = some l) :
    dealBody [some (dLine n), x1, x2, some (.lst (dPcs ps)), some (.lst (dPcs as)), some (.cel C0.length), x6, some (.lst (loadRefs C0.length ls.length)), x8, x9, some (.int i), some (dPc part), x12] (dealC C0 way ls) =
      .nx [some (dLine n), x1, x2, some (.lst (dPcs ps)), some (.lst (dPcs as)), some (.cel C0.length), x6, some (.lst (loadRefs C0.length ls.length)), x8, x9, some (.int i), some (dPc part), some (.int j)] (dealC C0 (way.set i j) (ls.set j (l ++ [a]))) := by
  have hfp := sp_free_place hn hz hp hl hlz hpt hi
  have hlt : j < ls.length := (List.getElem?_eq_some_iff.mp hj).1
  have hia : i < as.length := (List.getElem?_eq_some_iff.mp ha).1
  unfold dealBody
  have hvs : D.views (dealC C0 way ls) [dLine n, .lst (dPcs ps), .lst (loadRefs C0.length ls.length), dPc part] = some [dLine n, .lst (dPcs ps), dLoads ls, dPc part] := by
    have h1 : (D.views (dealC C0 way ls) (loadRefs C0.length ls.length)).map D.lst = some (dLoads ls) := view_loads (C0 := C0) (way := way) (ls := ls)
    have h2 := view_pcs (C := dealC C0 way ls) ps
    simp [D.views, h1, D.view, dLine, dPc, h2]
  have hv : eCallV 4 m_free_place (aCons (eSlot 0) (aCons (eSlot 3) (aCons (eSlot 7) (aCons (eSlot 11) aNil)))) [some (dLine n), x1, x2, some (.lst (dPcs ps)), some (.lst (dPcs as)), some (.cel C0.length), x6, some (.lst (loadRefs C0.length ls.length)), x8, x9, some (.int i), some (dPc part), x12] (dealC C0 way ls) = .ok (.int j) (dealC C0 way ls) := by
    have hf : flatM m_free_place [dLine n, .lst (dPcs ps), dLoads ls, dPc part] (dealC C0 way ls) = .ok (.int j) (dealC C0 way ls) := by
      unfold flatM
      rw [hfp]
      rfl
    simp [hvs, hf]
  rw [seq_nx (ρ' := [some (dLine n), x1, x2, some (.lst (dPcs ps)), some (.lst (dPcs as)), some (.cel C0.length), x6, some (.lst (loadRefs C0.length ls.length)), x8, x9, some (.int i), some (dPc part), some (.int j)]) (C' := dealC C0 way ls) (by rw [ev_set, hv]; rfl)]
  have hput : celPut (.cel C0.length) (dealC C0 way ls) (setAt (i : Int) (.int j)) = some (dealC C0 (way.set i j) ls) := by
    rw [put_cel dealC_way (set_at (by rw [List.length_map, hw]; exact hia)), ← List.map_set, dealC_setway]
  rw [seq_nx (ρ' := [some (dLine n), x1, x2, some (.lst (dPcs ps)), some (.lst (dPcs as)), some (.cel C0.length), x6, some (.lst (loadRefs C0.length ls.length)), x8, x9, some (.int i), some (dPc part), some (.int j)]) (C' := dealC C0 (way.set i j) ls) (by simp [hput])]
  have hix : atI (loadRefs C0.length ls.length) (j : Int) = some (.cel (C0.length + 1 + j)) := at_nat (by unfold loadRefs; simp [hlt])
  have hia2 : atI (dPcs as) (i : Int) = some (dPc a) := at_nat (by unfold dPcs; rw [List.getElem?_map, ha]; rfl)
  have hll := (hlz l (List.mem_of_getElem? hj)).1
  have happ : mAppend (dPcs l) [dPc a] = some (dPcs l ++ [dPc a], .non) := app_one (by rw [sizeLine_eq]; simp [dPcs]; omega)
  have hcl := dealC_load (C0 := C0) (way := way.set i j) hj
  have hset : (dealC C0 (way.set i j) ls).set (C0.length + 1 + j) (.lst (dPcs l ++ [dPc a])) = dealC C0 (way.set i j) (ls.set j (l ++ [a])) := by
    have e : dPcs l ++ [dPc a] = dPcs (l ++ [a]) := by simp [dPcs]
    rw [e, dealC_setload]
  simp [hix, hia2, hcl, happ, hset]
end
end Qv

/-! ## M15 -/
set_option Elab.async false
set_option linter.all false
set_option maxRecDepth 100000
set_option maxHeartbeats 800000
namespace Qv
open PySem PySem.Spec PyProof.Rows L2
section
variable {n : Nat} {ps as : List Pc}
/-- the dealing, plainly -/
def dealSteps (ps as : List Pc) : List (Int × Pc) → List Int → List (List Pc) → Option (List Int × List (List Pc))
  | [], way, ls => some (way, ls)
  | (i, part) :: rest, way, ls => match placeOf ps ls part with
    | j :: _ => match as[i.toNat]?, ls[j.toNat]? with
      | some a, some l => dealSteps ps as rest (way.set i.toNat j) (ls.set j.toNat (l ++ [a]))
      | _, _ => none
    | [] => none
structure DealInv (n : Nat) (ps as : List Pc) (way : List Int) (ls : List (List Pc)) (m : Nat) : Prop where
  lw : way.length = as.length
  ll : ls.length = ps.length
  lo : ∀ l ∈ ls, l.length + m < 100000 ∧ ∀ a ∈ l, okPc n a = true
theorem placeOf_mem {ls : List (List Pc)} {part : Pc} {j : Int} (h : j ∈ placeOf ps ls part) : ∃ k : Nat, j = k ∧ k < ps.length := by
  unfold placeOf at h
  obtain ⟨x, hx, rfl⟩ := List.mem_map.mp h
  obtain ⟨i, h1, h2⟩ := enumP_mem (List.mem_filter.mp hx).1
  exact ⟨0 + i, h1, by have := (List.getElem?_eq_some_iff.mp h2).1; omega⟩
theorem deal_inner (hn : 1 ≤ n ∧ n ≤ 24) (hz : ps.length < 1000) (hp : ∀ p ∈ ps, okPc n p = true) (haok : ∀ a ∈ as, okPc n a = true) {C0 : Cells} {x1 x2 x6 x8 x9 : Option D} : ∀ (ord : List (Int × Pc)) (way : List Int) (ls : List (List Pc)) (m : Nat) (x10 x11 x12 : Option D) (way' : List Int) (ls' : List (List Pc)),
    (∀ x ∈ ord, ∃ i : Nat, x.1 = i ∧ i < as.length ∧ okPc n x.2 = true) → DealInv n ps as way ls (ord.length + m) → dealSteps ps as ord way ls = some (way', ls') →
    DealInv n ps as way' ls' m ∧ ∃ x10' x11' x12', loopF (.tp [.nm 10, .nm 11]) dealBody (ord.map dIt) [some (dLine n), x1, x2, some (.lst (dPcs ps)), some (.lst (dPcs as)), some (.cel C0.length), x6, some (.lst (loadRefs C0.length ps.length)), x8, x9, x10, x11, x12] (dealC C0 way ls) =
      .nx [some (dLine n), x1, x2, some (.lst (dPcs ps)), some (.lst (dPcs as)), some (.cel C0.length), x6, some (.lst (loadRefs C0.length ps.length)), x8, x9, x10', x11', x12'] (dealC C0 way' ls')
  | [], way, ls, m, x10, x11, x12, way', ls', _, inv, h => by
    cases h
    refine ⟨⟨inv.lw, inv.ll, fun l hl => ⟨?_, (inv.lo l hl).2⟩⟩, x10, x11, x12, rfl⟩
    have := (inv.lo l hl).1
    simpa using this
  | (i0, part) :: ord, way, ls, m, x10, x11, x12, way', ls', hord, inv, h => by
    obtain ⟨i, e, hi, hpt⟩ := hord (i0, part) (by simp)
    dsimp only at e hpt
    subst e
    unfold dealSteps at h
    split at h
    · rename_i j0 is hpl
      obtain ⟨j, rfl, hj⟩ := placeOf_mem (ps := ps) (ls := ls) (part := part) (j := j0) (by rw [hpl]; simp)
      have ha : as[i]? = some as[i] := List.getElem?_eq_getElem hi
      have hjl : j < ls.length := by rw [inv.ll]; exact hj
      have hl : ls[j]? = some ls[j] := List.getElem?_eq_getElem hjl
      rw [Int.toNat_natCast, Int.toNat_natCast, ha, hl] at h
      dsimp only at h
      have hlz : ∀ l ∈ ls, l.length < 100000 ∧ ∀ a ∈ l, okPc n a = true := fun l hl => ⟨by have := (inv.lo l hl).1; omega, (inv.lo l hl).2⟩
      have hb := deal_body (as := as) (C0 := C0) (way := way) (x1 := x1) (x2 := x2) (x6 := x6) (x8 := x8) (x9 := x9) (x12 := x12) hn hz hp inv.ll hlz hpt hpl ha inv.lw hl
      have inv' : DealInv n ps as (way.set i j) (ls.set j (ls[j] ++ [as[i]])) (ord.length + m) := by
        refine ⟨by rw [List.length_set]; exact inv.lw, by rw [List.length_set]; exact inv.ll, fun l hl => ?_⟩
        rcases List.mem_or_eq_of_mem_set hl with h1 | h1
        · have := inv.lo l h1
          simp only [List.length_cons] at this
          exact ⟨by omega, this.2⟩
        · subst h1
          have := inv.lo ls[j] (List.getElem_mem hjl)
          simp only [List.length_cons] at this
          refine ⟨by simp; omega, fun a ha => ?_⟩
          rcases List.mem_append.mp ha with h2 | h2
          · exact this.2 a h2
          · have : a = as[i] := by simpa using h2
            subst this
            exact haok _ (List.getElem_mem hi)
      obtain ⟨inv2, y10, y11, y12, e2⟩ := deal_inner hn hz hp haok (C0 := C0) (x1 := x1) (x2 := x2) (x6 := x6) (x8 := x8) (x9 := x9) ord (way.set i j) (ls.set j (ls[j] ++ [as[i]])) m (some (.int i)) (some (dPc part)) (some (.int j)) way' ls' (fun x hx => hord x (by simp [hx])) inv' h
      refine ⟨inv2, y10, y11, y12, ?_⟩
      have hbind : (Tgt.tp [.nm 10, .nm 11]).bind (dIt ((i : Int), part)) [some (dLine n), x1, x2, some (.lst (dPcs ps)), some (.lst (dPcs as)), some (.cel C0.length), x6, some (.lst (loadRefs C0.length ps.length)), x8, x9, x10, x11, x12] = some [some (dLine n), x1, x2, some (.lst (dPcs ps)), some (.lst (dPcs as)), some (.cel C0.length), x6, some (.lst (loadRefs C0.length ps.length)), x8, x9, some (.int i), some (dPc part), x12] := by simp [dIt]
      rw [List.map_cons, loop_cons, hbind]
      dsimp only
      rw [inv.ll] at hb
      rw [hb]
      exact e2
    · cases h
/-- over the runs -/
def dealRuns (ps as : List Pc) : List Pc → List Int → List (List Pc) → Option (List Int × List (List Pc))
  | [], way, ls => some (way, ls)
  | r :: rs, way, ls => match dealSteps ps as (orderOf as r (midOf ps r)) way ls with
    | some (way, ls) => dealRuns ps as rs way ls
    | none => none
end
end Qv

/-! ## M16 -/
set_option Elab.async false
set_option linter.all false
set_option maxRecDepth 100000
set_option maxHeartbeats 800000
namespace Qv
open PySem PySem.Spec PyProof.Rows L2
section
variable {n : Nat} {ps as : List Pc}
theorem inside_ok (ha : ∀ a ∈ as, okPc n a = true) {r : Pc} {x : Int × Pc} (h : x ∈ insideL as r) : ∃ i : Nat, x.1 = i ∧ i < as.length ∧ okPc n x.2 = true ∧ as[i]? = some x.2 := by
  obtain ⟨i, h1, h2⟩ := enumP_mem (List.mem_filter.mp h).1
  rw [Nat.zero_add] at h1
  exact ⟨i, h1, (List.getElem?_eq_some_iff.mp h2).1, ha _ (List.mem_of_getElem? h2), h2⟩
theorem order_ok (ha : ∀ a ∈ as, okPc n a = true) {r : Pc} {mid : Int} : ∀ x ∈ orderOf as r mid, ∃ i : Nat, x.1 = i ∧ i < as.length ∧ okPc n x.2 = true := by
  intro x hx
  unfold orderOf at hx
  rcases List.mem_append.mp hx with hx | hx
  · rcases List.mem_append.mp hx with hx | hx
    · obtain ⟨y, hy, rfl⟩ := List.mem_map.mp hx
      obtain ⟨h1, h2⟩ := List.mem_filter.mp hy
      obtain ⟨i, e, hi, hok, _⟩ := inside_ok ha h1
      have h2 := of_decide_eq_true h2
      rw [okPc_iff] at hok
      exact ⟨i, e, hi, by rw [okPc_iff]; dsimp only; omega⟩
    · obtain ⟨y, hy, rfl⟩ := List.mem_map.mp hx
      have hy := sortP_mem.mp hy
      obtain ⟨z, hz, rfl⟩ := List.mem_map.mp hy
      obtain ⟨i, e, hi, hok, _⟩ := inside_ok ha (List.mem_filter.mp hz).1
      rw [okPc_iff] at hok
      exact ⟨i, e, hi, by rw [okPc_iff]; dsimp only; omega⟩
  · obtain ⟨y, hy, rfl⟩ := List.mem_map.mp hx
    have hy := sortP_mem.mp hy
    obtain ⟨z, hz, rfl⟩ := List.mem_map.mp hy
    obtain ⟨i, e, hi, hok, _⟩ := inside_ok ha (List.mem_filter.mp hz).1
    rw [okPc_iff] at hok
    exact ⟨i, e, hi, by rw [okPc_iff]; dsimp only; omega⟩
theorem order_len {r : Pc} {mid : Int} : (orderOf as r mid).length ≤ 3 * as.length := by
  unfold orderOf
  rw [List.length_append, List.length_append, List.length_map, List.length_map, List.length_map]
  have h3 := across_len (as := as) (r := r) (mid := mid)
  have h4 := later_len (as := as) (r := r) (mid := mid)
  have h5 := earlier_len (as := as) (r := r) (mid := mid)
  omega
def dealOuter : DS := sFor (.tp [(.nm 10), (.nm 11)]) (iSeq (eCallP 3 m_deal_order (aCons (eSlot 4) (aCons (eSlot 9) (aCons (eCallP 2 m_run_middle (aCons (eSlot 3) (aCons (eSlot 9) aNil))) aNil))))) dealBody
theorem deal_outer (hn : 1 ≤ n ∧ n ≤ 24) (hz : ps.length < 1000) (hza : as.length < 1000) (hp : ∀ p ∈ ps, okPc n p = true) (haok : ∀ a ∈ as, okPc n a = true) {C0 : Cells} {x1 x2 x6 x8 : Option D} : ∀ (rs : List Pc) (way : List Int) (ls : List (List Pc)) (x9 x10 x11 x12 : Option D) (way' : List Int) (ls' : List (List Pc)),
    DealInv n ps as way ls (rs.length * (3 * as.length)) → dealRuns ps as rs way ls = some (way', ls') →
    DealInv n ps as way' ls' 0 ∧ ∃ x9' x10' x11' x12', loopF (.nm 9) dealOuter (dPcs rs) [some (dLine n), x1, x2, some (.lst (dPcs ps)), some (.lst (dPcs as)), some (.cel C0.length), x6, some (.lst (loadRefs C0.length ps.length)), x8, x9, x10, x11, x12] (dealC C0 way ls) =
      .nx [some (dLine n), x1, x2, some (.lst (dPcs ps)), some (.lst (dPcs as)), some (.cel C0.length), x6, some (.lst (loadRefs C0.length ps.length)), x8, x9', x10', x11', x12'] (dealC C0 way' ls')
  | [], way, ls, x9, x10, x11, x12, way', ls', inv, h => by
    cases h
    refine ⟨⟨inv.lw, inv.ll, fun l hl => ⟨?_, (inv.lo l hl).2⟩⟩, x9, x10, x11, x12, rfl⟩
    have := (inv.lo l hl).1
    simpa using this
  | r :: rs, way, ls, x9, x10, x11, x12, way', ls', inv, h => by
    unfold dealRuns at h
    split at h
    · rename_i way1 ls1 hs
      have inv0 : DealInv n ps as way ls ((orderOf as r (midOf ps r)).length + rs.length * (3 * as.length)) := ⟨inv.lw, inv.ll, fun l hl => by
        have h1 := inv.lo l hl
        have h2 := order_len (as := as) (r := r) (mid := midOf ps r)
        have h3 : (r :: rs).length * (3 * as.length) = rs.length * (3 * as.length) + 3 * as.length := by rw [List.length_cons, Nat.add_mul, Nat.one_mul]
        rw [h3] at h1
        exact ⟨by omega, h1.2⟩⟩
      obtain ⟨inv1, y10, y11, y12, e1⟩ := deal_inner hn hz hp haok (C0 := C0) (x1 := x1) (x2 := x2) (x6 := x6) (x8 := x8) (x9 := some (dPc r)) (orderOf as r (midOf ps r)) way ls (rs.length * (3 * as.length)) x10 x11 x12 way1 ls1 (order_ok haok) inv0 hs
      obtain ⟨inv2, y9, z10, z11, z12, e2⟩ := deal_outer hn hz hza hp haok (C0 := C0) (x1 := x1) (x2 := x2) (x6 := x6) (x8 := x8) rs way1 ls1 (some (dPc r)) y10 y11 y12 way' ls' inv1 h
      refine ⟨inv2, y9, z10, z11, z12, ?_⟩
      show loopF _ _ (dPc r :: dPcs rs) _ _ = _
      rw [loop_cons, ev_bind_nm]
      have hi : iSeq (eCallP 3 m_deal_order (aCons (eSlot 4) (aCons (eSlot 9) (aCons (eCallP 2 m_run_middle (aCons (eSlot 3) (aCons (eSlot 9) aNil))) aNil)))) [some (dLine n), x1, x2, some (.lst (dPcs ps)), some (.lst (dPcs as)), some (.cel C0.length), x6, some (.lst (loadRefs C0.length ps.length)), x8, some (dPc r), x10, x11, x12] (dealC C0 way ls) = .ok ((orderOf as r (midOf ps r)).map dIt) (dealC C0 way ls) := by
        simp [sp_run_middle hz, sp_deal_order hza]
      have hb : dealOuter ([some (dLine n), x1, x2, some (.lst (dPcs ps)), some (.lst (dPcs as)), some (.cel C0.length), x6, some (.lst (loadRefs C0.length ps.length)), x8, x9, x10, x11, x12].set 9 (some (dPc r))) (dealC C0 way ls) = .nx [some (dLine n), x1, x2, some (.lst (dPcs ps)), some (.lst (dPcs as)), some (.cel C0.length), x6, some (.lst (loadRefs C0.length ps.length)), x8, some (dPc r), y10, y11, y12] (dealC C0 way1 ls1) := by
        unfold dealOuter
        rw [ev_for]
        show Out.bindS (iSeq _ [some (dLine n), x1, x2, some (.lst (dPcs ps)), some (.lst (dPcs as)), some (.cel C0.length), x6, some (.lst (loadRefs C0.length ps.length)), x8, some (dPc r), x10, x11, x12] (dealC C0 way ls)) _ = _
        rw [hi, ev_bindS_ok]
        exact e1
      dsimp only
      rw [hb]
      exact e2
    · cases h
end
end Qv

/-! ## M17 -/
set_option Elab.async false
set_option linter.all false
set_option maxRecDepth 100000
set_option maxHeartbeats 800000
namespace Qv
open PySem PySem.Spec PyProof.Rows L2
section
variable {n : Nat} {ps as : List Pc}
theorem new_cells {ρ : Env} {t : Tgt} : ∀ (ds acc : List D) (C : Cells), (∀ d ∈ ds, ∃ ρd, t.bind d ρ = some ρd) → acc.length + ds.length < 100000 →
    loopC t bYes (eNew (fLst aNil)) ρ ds acc C = .ok (acc ++ (List.range ds.length).map fun j => D.cel (C.length + j)) (C ++ List.replicate ds.length (Cell.lst []))
  | [], acc, C, _, _ => by simp [loopC]
  | d :: ds, acc, C, h, hz => by
    obtain ⟨ρd, h1⟩ := h d (by simp)
    simp only [List.length_cons] at hz
    have he : eNew (fLst aNil) ρd C = .ok (.cel C.length) (C ++ [.lst []]) := by simp [fLst]
    unfold loopC
    simp only [h1, bYes, he]
    rw [if_pos (by rw [sizeLine_eq]; omega), new_cells ds (acc ++ [D.cel C.length]) (C ++ [Cell.lst []]) (fun x hx => h x (by simp [hx])) (by simp; omega)]
    have e1 : (List.range (ds.length + 1)).map (fun j => D.cel (C.length + j)) = D.cel C.length :: (List.range ds.length).map fun j => D.cel (C.length + 1 + j) := by
      rw [List.range_succ_eq_map, List.map_cons, List.map_map]
      congr 1
      apply List.map_congr_left
      intro j _
      show D.cel (C.length + (j + 1)) = _
      congr 1
      omega
    simp [e1, List.replicate_succ]
theorem val_ok0 {f : DF} {ρ : Env} {xs : List D} {C C' : Cells} (h : f ρ C = .ok xs C') : eVal f ρ C = .ok (.lst xs) C' := by
  rw [ev_val, h]
  rfl
theorem overD_sort : overD n (sortP ps) as = overD n ps as := by
  unfold overD
  have : (fun l => decide (cnt (sortP ps) l < cnt as l)) = fun l => decide (cnt ps l < cnt as l) := by
    funext l
    rw [cnt_sort]
  rw [this]
theorem sp_deal (hn : 1 ≤ n ∧ n ≤ 24) (hz : ps.length < 1000) (hza : as.length < 1000) (hp : ∀ p ∈ ps, okPc n p = true) (haok : ∀ a ∈ as, okPc n a = true) {C0 : Cells} {way : List Int} {ls : List (List Pc)} (ho : overD n ps as = .non) (hf : ff (sortP (sortP ps)) = .non)
    (hd : dealRuns (sortP ps) as (runsOf n ps) (List.replicate as.length 0) (List.replicate ps.length []) = some (way, ls)) (hrl : (runsOf n ps).length ≤ 24) :
    m_deal [dLine n, .lst (dPcs ps), .lst (dPcs as)] C0 = .ok (.cel C0.length) (dealC C0 way ls) := by
  have hps := sort_ok hp
  have hzs : (sortP ps).length < 1000 := by rw [sortP_len]; exact hz
  refine run_rt (ρ0 := [some (dLine n), some (.lst (dPcs ps)), some (.lst (dPcs as)), none, none, none, none, none, none, none, none, none, none]) rfl ?_
  unfold F_deal
  rw [seq_nx (ρ' := [some (dLine n), some (.lst (dPcs ps)), some (.lst (dPcs as)), none, none, none, none, none, none, none, none, none, none]) (C' := C0) (by simp [sp_check_line2 hn])]
  rw [seq_nx (ρ' := [some (dLine n), some (.lst (dPcs ps)), some (.lst (dPcs as)), some (.lst (dPcs (sortP ps))), none, none, none, none, none, none, none, none, none]) (C' := C0) (by simp [sp_check_stock (n := n) (by omega) hp])]
  rw [seq_nx (ρ' := [some (dLine n), some (.lst (dPcs ps)), some (.lst (dPcs as)), some (.lst (dPcs (sortP ps))), some (.lst (dPcs as)), none, none, none, none, none, none, none, none]) (C' := C0) (by simp [sp_check_asks (n := n) (by omega) haok])]
  rw [seq_nx (ρ' := [some (dLine n), some (.lst (dPcs ps)), some (.lst (dPcs as)), some (.lst (dPcs (sortP ps))), some (.lst (dPcs as)), none, none, none, none, none, none, none, none]) (C' := C0) (by simp [sp_over_leg hn hps haok, overD_sort, ho])]
  rw [seq_nx (ρ' := [some (dLine n), some (.lst (dPcs ps)), some (.lst (dPcs as)), some (.lst (dPcs (sortP ps))), some (.lst (dPcs as)), none, none, none, none, none, none, none, none]) (C' := C0) (by simp [sp_counting_fault hn hps, hf])]
  have hw : fComp (.nm 6) [6] (iSeq (eSlot 4)) bYes (eC (.int 0)) [some (dLine n), some (.lst (dPcs ps)), some (.lst (dPcs as)), some (.lst (dPcs (sortP ps))), some (.lst (dPcs as)), none, none, none, none, none, none, none, none] C0 = .ok ((List.replicate as.length 0).map D.int) C0 := by
    rw [fcomp_all (fun _ => .int 0) (ds := dPcs as) (C' := C0) (by simp) (line_le (by simp [dPcs]; omega)) (fun d _ => ⟨_, ev_bind_nm, rfl⟩)]
    congr 1
    unfold dPcs
    rw [List.map_map, List.map_replicate]
    have hc : ∀ l : List Pc, l.map ((fun _ => D.int 0) ∘ dPc) = List.replicate l.length (D.int 0) := fun l => by
      induction l with
      | nil => rfl
      | cons x l ih => rw [List.map_cons, ih]; rfl
    exact hc as
  rw [seq_nx (ρ' := [some (dLine n), some (.lst (dPcs ps)), some (.lst (dPcs as)), some (.lst (dPcs (sortP ps))), some (.lst (dPcs as)), some (.cel C0.length), none, none, none, none, none, none, none]) (C' := C0 ++ [.lst ((List.replicate as.length 0).map D.int)]) (by
    rw [ev_set, ev_new, show (([("ask", 6)] : List (Str × Nat)).map (·.2)) = [6] from rfl, hw]
    rfl)]
  have hl : fComp (.nm 8) [8] (iSeq (eSlot 3)) bYes (eNew (fLst aNil)) [some (dLine n), some (.lst (dPcs ps)), some (.lst (dPcs as)), some (.lst (dPcs (sortP ps))), some (.lst (dPcs as)), some (.cel C0.length), none, none, none, none, none, none, none] (C0 ++ [.lst ((List.replicate as.length 0).map D.int)]) =
      .ok (loadRefs C0.length (sortP ps).length) (dealC C0 (List.replicate as.length 0) (List.replicate ps.length [])) := by
    unfold fComp
    have hi : iSeq (eSlot 3) [some (dLine n), some (.lst (dPcs ps)), some (.lst (dPcs as)), some (.lst (dPcs (sortP ps))), some (.lst (dPcs as)), some (.cel C0.length), none, none, none, none, none, none, none] (C0 ++ [.lst ((List.replicate as.length 0).map D.int)]) = .ok (dPcs (sortP ps)) (C0 ++ [.lst ((List.replicate as.length 0).map D.int)]) := by simp
    rw [hi, ev_bind_ok, new_cells _ _ _ (fun d _ => ⟨_, ev_bind_nm⟩) (by simp [dPcs]; omega)]
    have e1 : (dPcs (sortP ps)).length = ps.length := by simp [dPcs, sortP_len]
    rw [e1, sortP_len]
    unfold loadRefs dealC
    simp [List.append_assoc, dPcs]
  rw [seq_nx (ρ' := [some (dLine n), some (.lst (dPcs ps)), some (.lst (dPcs as)), some (.lst (dPcs (sortP ps))), some (.lst (dPcs as)), some (.cel C0.length), none, some (.lst (loadRefs C0.length (sortP ps).length)), none, none, none, none, none]) (C' := dealC C0 (List.replicate as.length 0) (List.replicate ps.length [])) (by
    rw [ev_set, val_ok0 (by
      rw [show (([("piece", 8)] : List (Str × Nat)).map (·.2)) = [8] from rfl]
      exact hl)]
    rfl)]
  have inv : DealInv n (sortP ps) as (List.replicate as.length 0) (List.replicate ps.length []) ((runsOf n ps).length * (3 * as.length)) := ⟨by simp, by simp [sortP_len], fun l hl => by
    have : l = [] := (List.mem_replicate.mp hl).2
    subst this
    refine ⟨?_, by simp⟩
    have h1 : (runsOf n ps).length * (3 * as.length) ≤ 24 * (3 * as.length) := Nat.mul_le_mul_right _ hrl
    simp
    omega⟩
  obtain ⟨_, x9, x10, x11, x12, e⟩ := deal_outer hn hzs hza hps haok (C0 := C0) (x1 := some (.lst (dPcs ps))) (x2 := some (.lst (dPcs as))) (x6 := none) (x8 := none) (runsOf n ps) _ _ none none none none way ls inv hd
  have hfr := sp_free_runs (C := dealC C0 (List.replicate as.length 0) (List.replicate ps.length [])) hn hps
  rw [runsOf_sort] at hfr
  refine (seq_nx (f := sFor (.nm 9) (iSeq (eCallP 2 m_free_runs (aCons (eSlot 0) (aCons (eSlot 3) aNil)))) dealOuter) (ρ' := [some (dLine n), some (.lst (dPcs ps)), some (.lst (dPcs as)), some (.lst (dPcs (sortP ps))), some (.lst (dPcs as)), some (.cel C0.length), none, some (.lst (loadRefs C0.length (sortP ps).length)), none, x9, x10, x11, x12]) (C' := dealC C0 way ls) ?_).trans ?_
  · rw [ev_for]
    have hi : iSeq (eCallP 2 m_free_runs (aCons (eSlot 0) (aCons (eSlot 3) aNil))) [some (dLine n), some (.lst (dPcs ps)), some (.lst (dPcs as)), some (.lst (dPcs (sortP ps))), some (.lst (dPcs as)), some (.cel C0.length), none, some (.lst (loadRefs C0.length (sortP ps).length)), none, none, none, none, none] (dealC C0 (List.replicate as.length 0) (List.replicate ps.length [])) = .ok (dPcs (runsOf n ps)) (dealC C0 (List.replicate as.length 0) (List.replicate ps.length [])) := by simp [hfr]
    rw [hi, ev_bindS_ok]
    exact e
  · simp
end
end Qv

/-! ## M18 -/
set_option Elab.async false
set_option linter.all false
set_option maxRecDepth 100000
set_option maxHeartbeats 800000
namespace Qv
open PySem PySem.Spec PyProof.Rows L2
/-! a stock that counts -/
def NoFault (p q : Pc) : Prop := p.1 + p.2 ≠ q.1 ∧ (p.1 = q.1 ∨ p.1 + p.2 = q.1 + q.2 ∨ ¬ (p.1 < q.1 + q.2 ∧ q.1 < p.1 + p.2))
theorem noFault_of {p q : Pc} (h : faultB p q = none) : NoFault p q := by
  unfold faultB at h
  split at h
  · cases h
  · rename_i h1
    split at h
    · cases h
    · rename_i h2
      unfold NoFault
      unfold overlap at h2
      simp only [decide_eq_true_eq] at h2
      omega
theorem pairs_of {n : Int} : ∀ {l : List Pc}, (∀ p ∈ l, okPc n p = true) → l.Pairwise (fun a b => pcLe a b = true) → l.Pairwise (fun p q => faultB p q = none) → ∀ p ∈ l, ∀ q ∈ l, NoFault p q
  | [], _, _, _, p, hp, _, _ => by cases hp
  | a :: l, hok, hs, hf, p, hp, q, hq => by
    have hs := List.pairwise_cons.mp hs
    have hf := List.pairwise_cons.mp hf
    have same : ∀ r ∈ a :: l, NoFault r r := fun r hr => by
      have := okPc_iff.mp (hok r hr)
      unfold NoFault
      omega
    rcases List.mem_cons.mp hp with rfl | hp'
    · rcases List.mem_cons.mp hq with rfl | hq'
      · exact same _ (by simp)
      · exact noFault_of (hf.1 q hq')
    · rcases List.mem_cons.mp hq with rfl | hq'
      · have h1 := noFault_of (hf.1 p hp')
        have h2 := hs.1 p hp'
        have h3 := okPc_iff.mp (hok p (by simp [hp']))
        unfold pcLe at h2
        simp only [decide_eq_true_eq] at h2
        unfold NoFault at h1 ⊢
        omega
      · exact pairs_of (fun r hr => hok r (by simp [hr])) hs.2 hf.2 p hp' q hq'
/-- the stock counts -/
def Counts (ps : List Pc) : Prop := ∀ p ∈ ps, ∀ q ∈ ps, NoFault p q
theorem counts_of {n : Int} {ps : List Pc} (hok : ∀ p ∈ ps, okPc n p = true) (h : ff (sortP ps) = .non) : Counts ps := fun p hp q hq =>
  pairs_of (sort_ok hok) (sortP_sorted ps) (ff_none.mp h) p (sortP_mem.mpr hp) q (sortP_mem.mpr hq)
/-! a run of a stock -/
section
variable {n : Nat} {ps : List Pc} {r : Pc}
theorem used_iff (hok : ∀ p ∈ ps, okPc n p = true) {l : Int} : usedBy n (cnt ps) l ↔ ∃ p ∈ ps, p.1 ≤ l ∧ l < p.1 + p.2 := by
  constructor
  · rintro ⟨i, rfl, hi, hc⟩
    obtain ⟨p, hp, hv⟩ := cnt_pos.mp hc
    unfold cov at hv
    exact ⟨p, hp, of_decide_eq_true hv⟩
  · rintro ⟨p, hp, h1, h2⟩
    have h3 := okPc_iff.mp (hok p hp)
    refine ⟨l.toNat, by omega, by omega, cnt_pos.mpr ⟨p, hp, ?_⟩⟩
    unfold cov
    exact decide_eq_true (by omega)
/-- a piece with a leg of the run lies in it -/
theorem run_in (hok : ∀ p ∈ ps, okPc n p = true) (hr : r ∈ runsOf n ps) {p : Pc} (hp : p ∈ ps) (h : p.1 < r.1 + r.2 ∧ r.1 < p.1 + p.2) : r.1 ≤ p.1 ∧ p.1 + p.2 ≤ r.1 + r.2 := by
  obtain ⟨h1, h2, h3, h4, h5, h6⟩ := runs_ok.run r hr
  have hpo := okPc_iff.mp (hok p hp)
  refine ⟨?_, ?_⟩
  · by_cases hc : r.1 ≤ p.1
    · exact hc
    · exact absurd ((used_iff hok).mpr ⟨p, hp, by omega, by omega⟩) h5
  · by_cases hc : p.1 + p.2 ≤ r.1 + r.2
    · exact hc
    · exact absurd ((used_iff hok).mpr ⟨p, hp, by omega, by omega⟩) (h6 (by omega))
/-- the greatest of a list by its end -/
theorem exists_max {l : List Pc} {f : Pc → Int} : l ≠ [] → ∃ m ∈ l, ∀ x ∈ l, f x ≤ f m := by
  induction l with
  | nil => intro h; exact absurd rfl h
  | cons a l ih =>
    intro _
    by_cases hl : l = []
    · subst hl
      exact ⟨a, by simp, fun x hx => by simp at hx; subst hx; omega⟩
    · obtain ⟨m, hm, h⟩ := ih hl
      by_cases hc : f m ≤ f a
      · refine ⟨a, by simp, fun x hx => ?_⟩
        rcases List.mem_cons.mp hx with rfl | hx
        · omega
        · have := h x hx; omega
      · refine ⟨m, by simp [hm], fun x hx => ?_⟩
        rcases List.mem_cons.mp hx with rfl | hx
        · omega
        · exact h x hx
/-- a stock that counts has the run itself as a piece -/
theorem run_whole (hok : ∀ p ∈ ps, okPc n p = true) (hc : Counts ps) (hr : r ∈ runsOf n ps) : r ∈ ps := by
  obtain ⟨h1, h2, h3, h4, h5, h6⟩ := runs_ok.run r hr
  -- the pieces from the run's beginning on
  obtain ⟨p0, hp0, a1, a2⟩ := (used_iff hok).mp (h4 r.1 (Int.le_refl _) (by omega))
  have hp0b : p0.1 = r.1 := by
    have := (run_in hok hr hp0 ⟨by omega, by omega⟩).1
    omega
  obtain ⟨m, hm, hmax⟩ := exists_max (l := ps.filter fun p => decide (p.1 = r.1)) (f := fun p => p.1 + p.2) (fun z => by
    have : p0 ∈ ps.filter fun p => decide (p.1 = r.1) := List.mem_filter.mpr ⟨hp0, decide_eq_true hp0b⟩
    rw [z] at this
    cases this)
  obtain ⟨hm1, hm2⟩ := List.mem_filter.mp hm
  have hm2 := of_decide_eq_true hm2
  have hmo := okPc_iff.mp (hok m hm1)
  have hme := (run_in hok hr hm1 ⟨by omega, by omega⟩).2
  by_cases he : m.1 + m.2 = r.1 + r.2
  · have : m = r := by
      obtain ⟨u, v⟩ := m
      obtain ⟨u', v'⟩ := r
      dsimp only at hm2 he
      subst hm2
      have : v = v' := by omega
      rw [this]
    rw [← this]
    exact hm1
  · exfalso
    obtain ⟨q, hq, b1, b2⟩ := (used_iff hok).mp (h4 (m.1 + m.2) (by omega) (by omega))
    have hf := hc m hm1 q hq
    have hqo := okPc_iff.mp (hok q hq)
    unfold NoFault at hf
    by_cases hq1 : q.1 = r.1
    · have h9 := hmax q (List.mem_filter.mpr ⟨hq, decide_eq_true hq1⟩)
      omega
    · omega
/-- .. and each other one begins or ends with it -/
theorem run_sides (hok : ∀ p ∈ ps, okPc n p = true) (hc : Counts ps) (hr : r ∈ runsOf n ps) {p : Pc} (hp : p ∈ ps) (h : p.1 < r.1 + r.2 ∧ r.1 < p.1 + p.2) : p.1 = r.1 ∨ p.1 + p.2 = r.1 + r.2 := by
  have hf := hc p hp r (run_whole hok hc hr)
  have h2 := (runs_ok.run r hr).2.1
  unfold NoFault at hf
  omega
end
end Qv

/-! ## M19 -/
set_option Elab.async false
set_option linter.all false
set_option maxRecDepth 100000
set_option maxHeartbeats 800000
namespace Qv
open PySem PySem.Spec PyProof.Rows L2
theorem foldl_max : ∀ (l : List Int) (x : Int), x ≤ l.foldl max x ∧ (∀ y ∈ l, y ≤ l.foldl max x) ∧ (l.foldl max x = x ∨ l.foldl max x ∈ l)
  | [], x => ⟨Int.le_refl _, by simp, .inl rfl⟩
  | a :: l, x => by
    obtain ⟨h1, h2, h3⟩ := foldl_max l (max x a)
    rw [List.foldl_cons]
    refine ⟨by omega, fun y hy => ?_, ?_⟩
    · rcases List.mem_cons.mp hy with rfl | hy
      · omega
      · exact h2 y hy
    · rcases h3 with h3 | h3
      · rw [h3]
        by_cases hc : x ≤ a
        · right
          rw [show max x a = a by omega]
          simp
        · left
          omega
      · exact .inr (by simp [h3])
section
variable {n : Nat} {ps : List Pc} {r : Pc}
theorem mid_ge : r.1 ≤ midOf ps r := (foldl_max _ _).1
theorem mid_max {p : Pc} (hp : p ∈ ps) (h1 : r.1 ≤ p.1) (h2 : p.1 + p.2 < r.1 + r.2) : p.1 + p.2 ≤ midOf ps r :=
  (foldl_max _ _).2.1 _ (List.mem_map.mpr ⟨p, List.mem_filter.mpr ⟨hp, decide_eq_true ⟨h1, h2⟩⟩, rfl⟩)
theorem mid_is : midOf ps r = r.1 ∨ ∃ p ∈ ps, r.1 ≤ p.1 ∧ p.1 + p.2 < r.1 + r.2 ∧ midOf ps r = p.1 + p.2 := by
  rcases (foldl_max ((ps.filter fun p => decide (r.1 ≤ p.1 ∧ p.1 + p.2 < r.1 + r.2)).map fun p => p.1 + p.2) r.1).2.2 with h | h
  · exact .inl h
  · obtain ⟨p, hp, e⟩ := List.mem_map.mp h
    obtain ⟨h1, h2⟩ := List.mem_filter.mp hp
    have h2 := of_decide_eq_true h2
    exact .inr ⟨p, h1, h2.1, h2.2, e.symm⟩
theorem mid_lt (h : 1 ≤ r.2) : midOf ps r < r.1 + r.2 := by
  rcases mid_is (ps := ps) (r := r) with e | ⟨p, _, _, h2, e⟩ <;> omega
/-- a piece that begins within the run begins behind the middle -/
theorem mid_right (hok : ∀ p ∈ ps, okPc n p = true) (hc : Counts ps) (hr : r ∈ runsOf n ps) {q : Pc} (hq : q ∈ ps) (h1 : r.1 < q.1) (h2 : q.1 < r.1 + r.2) : midOf ps r < q.1 ∧ q.1 + q.2 = r.1 + r.2 := by
  have hqo := okPc_iff.mp (hok q hq)
  have he : q.1 + q.2 = r.1 + r.2 := by
    rcases run_sides hok hc hr hq ⟨h2, by omega⟩ with h | h
    · omega
    · exact h
  refine ⟨?_, he⟩
  rcases mid_is (ps := ps) (r := r) with e | ⟨p, hp, p1, p2, e⟩
  · omega
  · have hpo := okPc_iff.mp (hok p hp)
    have hpb : p.1 = r.1 := by
      rcases run_sides hok hc hr hp ⟨by omega, by omega⟩ with h | h
      · exact h
      · omega
    have hf := hc p hp q hq
    unfold NoFault at hf
    omega
/-- a piece of the run that holds the middle leg, or one in front of and at it, is the run itself -/
theorem mid_across (hok : ∀ p ∈ ps, okPc n p = true) (hc : Counts ps) (hr : r ∈ runsOf n ps) {q : Pc} (hq : q ∈ ps) (h1 : q.1 ≤ midOf ps r) (h2 : midOf ps r < q.1 + q.2) (h3 : r.1 < q.1 + q.2) : q.1 = r.1 ∧ q.1 + q.2 = r.1 + r.2 := by
  have hr2 := (runs_ok.run r hr).2.1
  have hlt := mid_lt (ps := ps) (r := r) hr2
  have hin := run_in hok hr hq ⟨by omega, h3⟩
  by_cases hb : q.1 = r.1
  · refine ⟨hb, ?_⟩
    by_cases he : q.1 + q.2 = r.1 + r.2
    · exact he
    · have := mid_max (ps := ps) (r := r) hq (by omega) (by omega)
      omega
  · have := (mid_right hok hc hr hq (by omega) (by omega)).1
    omega
/-- a piece that holds a leg from the middle on reaches the run's end -/
theorem mid_later (hok : ∀ p ∈ ps, okPc n p = true) (hr : r ∈ runsOf n ps) {q : Pc} {l : Int} (hq : q ∈ ps) (hl : midOf ps r ≤ l) (hle : l < r.1 + r.2) (h1 : q.1 ≤ l) (h2 : l < q.1 + q.2) : q.1 + q.2 = r.1 + r.2 := by
  have hge := mid_ge (ps := ps) (r := r)
  have hin := run_in hok hr hq ⟨by omega, by omega⟩
  by_cases he : q.1 + q.2 = r.1 + r.2
  · exact he
  · have := mid_max (ps := ps) (r := r) hq hin.1 (by omega)
    omega
/-- a piece that holds a leg ahead of the middle begins with the run -/
theorem mid_earlier (hok : ∀ p ∈ ps, okPc n p = true) (hc : Counts ps) (hr : r ∈ runsOf n ps) {q : Pc} {l : Int} (hq : q ∈ ps) (hl : l < midOf ps r) (hle : r.1 ≤ l) (h1 : q.1 ≤ l) (h2 : l < q.1 + q.2) : q.1 = r.1 := by
  have hr2 := (runs_ok.run r hr).2.1
  have hlt := mid_lt (ps := ps) (r := r) hr2
  have hin := run_in hok hr hq ⟨by omega, by omega⟩
  by_cases hb : q.1 = r.1
  · exact hb
  · have := (mid_right hok hc hr hq (by omega) (by omega)).1
    omega
end
end Qv

/-! ## M20 -/
set_option Elab.async false
set_option linter.all false
set_option maxRecDepth 100000
set_option maxHeartbeats 800000
namespace Qv
open PySem PySem.Spec PyProof.Rows L2
/-! a place is there -/
/-- the loads that have the leg -/
def loadN (l : Nat) (ls : List (List Pc)) : Nat := (ls.map fun x => x.countP (cov l)).sum
theorem pigeon {l : Nat} : ∀ {ps : List Pc} {ls : List (List Pc)}, ls.length = ps.length → loadN l ls < ps.countP (cov l) → ∃ j : Nat, ∃ (p : Pc) (x : List Pc), ps[j]? = some p ∧ ls[j]? = some x ∧ cov l p = true ∧ ∀ a ∈ x, cov l a = false
  | [], ls, _, h => by simp at h
  | p :: ps, [], hl, _ => by simp at hl
  | p :: ps, x :: ls, hl, h => by
    unfold loadN at h
    rw [List.map_cons, List.sum_cons, List.countP_cons] at h
    by_cases hx : cov l p = true ∧ x.countP (cov l) = 0
    · refine ⟨0, p, x, rfl, rfl, hx.1, fun a ha => ?_⟩
      have := List.countP_eq_zero.mp hx.2 a ha
      simpa using this
    · have h2 : loadN l ls < ps.countP (cov l) := by
        unfold loadN
        by_cases hp : cov l p = true
        · have : x.countP (cov l) ≠ 0 := fun z => hx ⟨hp, z⟩
          rw [if_pos hp] at h
          omega
        · rw [if_neg hp] at h
          omega
      obtain ⟨j, p', x', h3, h4, h5, h6⟩ := pigeon (by simpa using hl) h2
      exact ⟨j + 1, p', x', by simpa using h3, by simpa using h4, h5, h6⟩
/-- where some piece may take the part there is a first one -/
theorem place_some {ps : List Pc} {ls : List (List Pc)} {part : Pc} {j : Nat} {p : Pc} {x : List Pc} (hp : ps[j]? = some p) (hx : ls[j]? = some x) (hi : inside part p = true) (ho : ∀ a ∈ x, overlap part a = false) : ∃ i is, placeOf ps ls part = i :: is := by
  have hm : ∀ (ps : List Pc) (k j : Nat), ps[j]? = some p → (((k + j : Nat) : Int), p) ∈ enumP k ps := by
    intro ps
    induction ps with
    | nil => intro k j h; simp at h
    | cons q ps ih =>
      intro k j h
      cases j with
      | zero =>
        simp at h
        subst h
        simp [enumP]
      | succ j =>
        have := ih (k + 1) j (by simpa using h)
        have e : k + 1 + j = k + (j + 1) := by omega
        rw [e] at this
        simp only [enumP, List.mem_cons]
        exact .inr this
  have hmem := hm ps 0 j hp
  rw [Nat.zero_add] at hmem
  have hg : goes ls part ((j : Int), p) = true := by
    unfold goes
    rw [hi]
    have e : ls.getD j [] = x := by simp [List.getD, hx]
    simp only [Int.toNat_natCast, e, Bool.true_and, Bool.not_eq_true']
    rw [List.any_eq_false]
    intro a ha
    rw [ho a ha]
    exact Bool.false_ne_true
  have : (j : Int) ∈ placeOf ps ls part := List.mem_map.mpr ⟨_, List.mem_filter.mpr ⟨hmem, hg⟩, rfl⟩
  cases e : placeOf ps ls part with
  | nil => rw [e] at this; cases this
  | cons i is => exact ⟨i, is, rfl⟩
/-- what a place says -/
theorem place_says {ps : List Pc} {ls : List (List Pc)} {part : Pc} {j : Int} {is : List Int} (h : placeOf ps ls part = j :: is) : ∃ (k : Nat) (p : Pc), j = k ∧ ps[k]? = some p ∧ inside part p = true ∧ ∀ a ∈ ls.getD k [], overlap part a = false := by
  have hj : j ∈ placeOf ps ls part := by rw [h]; simp
  unfold placeOf at hj
  obtain ⟨x, hx, rfl⟩ := List.mem_map.mp hj
  obtain ⟨h1, h2⟩ := List.mem_filter.mp hx
  obtain ⟨i, e, hi⟩ := enumP_mem h1
  rw [Nat.zero_add] at e
  unfold goes at h2
  rw [Bool.and_eq_true] at h2
  refine ⟨i, x.2, e, hi, h2.1, fun a ha => ?_⟩
  have h3 := h2.2
  rw [e, Int.toNat_natCast, Bool.not_eq_true', List.any_eq_false] at h3
  simpa using h3 a ha
end Qv

/-! ## M21 -/
set_option Elab.async false
set_option linter.all false
set_option maxRecDepth 100000
set_option maxHeartbeats 800000
namespace Qv
open PySem PySem.Spec PyProof.Rows L2
section
variable {n : Nat} {ps as : List Pc} {r : Pc}
theorem cov_iff {l : Nat} {p : Pc} : cov l p = true ↔ p.1 ≤ l ∧ (l : Int) < p.1 + p.2 := by unfold cov; simp
theorem overlap_one {l : Nat} {a : Pc} : overlap ((l : Int), 1) a = cov l a := by
  unfold overlap cov
  apply decide_eq_decide.mpr
  dsimp only
  omega
theorem inside_one {l : Nat} {p : Pc} : inside ((l : Int), 1) p = cov l p := by
  unfold inside cov
  apply decide_eq_decide.mpr
  dsimp only
  omega
/-- one leg: a place is there while the loads on it are fewer than the pieces -/
theorem place_one {ls : List (List Pc)} {l : Nat} (hl : ls.length = ps.length) (h : loadN l ls < ps.countP (cov l)) : ∃ i is, placeOf ps ls ((l : Int), 1) = i :: is := by
  obtain ⟨j, p, x, h1, h2, h3, h4⟩ := pigeon hl h
  exact place_some h1 h2 (by rw [inside_one]; exact h3) fun a ha => by rw [overlap_one]; exact h4 a ha
/-- across the middle -/
theorem place_two {ls : List (List Pc)} (hok : ∀ p ∈ ps, okPc n p = true) (hc : Counts ps) (hr : r ∈ runsOf n ps) {l : Nat} (hmid : midOf ps r = l) (hm : r.1 < midOf ps r) (hl : ls.length = ps.length) (h : loadN l ls < ps.countP (cov l))
    (hin : ∀ (j : Nat) p x, ps[j]? = some p → ls[j]? = some x → ∀ a ∈ x, p.1 ≤ a.1 ∧ a.1 + a.2 ≤ p.1 + p.2) (hac : ∀ x ∈ ls, ∀ a ∈ x, r.1 ≤ a.1 → a.1 < r.1 + r.2 → a.1 < midOf ps r ∧ midOf ps r < a.1 + a.2) : ∃ i is, placeOf ps ls (midOf ps r - 1, 2) = i :: is := by
  obtain ⟨j, p, x, h1, h2, h3, h4⟩ := pigeon hl h
  rw [cov_iff] at h3
  have hp := List.mem_of_getElem? h1
  have hw := mid_across hok hc hr hp (by omega) (by omega) (by omega)
  have hlt := mid_lt (ps := ps) (r := r) (runs_ok.run r hr).2.1
  refine place_some h1 h2 ?_ fun a ha => ?_
  · unfold inside
    exact decide_eq_true (by dsimp only; omega)
  · have ha1 := hin j p x h1 h2 a ha
    have ha2 := h4 a ha
    cases ho : overlap (midOf ps r - 1, 2) a with
    | false => rfl
    | true =>
      unfold overlap at ho
      have ho := of_decide_eq_true ho
      dsimp only at ho
      have := hac x (List.mem_of_getElem? h2) a ha (by omega) (by omega)
      have hcv : cov l a = true := by rw [cov_iff]; omega
      rw [hcv] at ha2
      cases ha2
/-- the piece that takes a part takes the whole ask: across -/
theorem takes_across (hok : ∀ p ∈ ps, okPc n p = true) (hc : Counts ps) (hr : r ∈ runsOf n ps) {p a : Pc} (hp : p ∈ ps) (hm : r.1 < midOf ps r) (hi : inside (midOf ps r - 1, 2) p = true) (ha : r.1 ≤ a.1 ∧ a.1 + a.2 ≤ r.1 + r.2) : inside a p = true := by
  unfold inside at hi ⊢
  have hi := of_decide_eq_true hi
  dsimp only at hi
  have hw := mid_across hok hc hr hp (by omega) (by omega) (by omega)
  exact decide_eq_true (by omega)
/-- .. later -/
theorem takes_later (hok : ∀ p ∈ ps, okPc n p = true) (hr : r ∈ runsOf n ps) {p a : Pc} (hp : p ∈ ps) (ha : midOf ps r ≤ a.1 ∧ 1 ≤ a.2 ∧ a.1 + a.2 ≤ r.1 + r.2) (hi : inside (a.1, 1) p = true) : inside a p = true := by
  unfold inside at hi ⊢
  have hi := of_decide_eq_true hi
  dsimp only at hi
  have := mid_later hok hr hp ha.1 (by omega) hi.1 (by omega)
  exact decide_eq_true (by omega)
/-- .. earlier -/
theorem takes_earlier (hok : ∀ p ∈ ps, okPc n p = true) (hc : Counts ps) (hr : r ∈ runsOf n ps) {p a : Pc} (hp : p ∈ ps) (ha : a.1 + a.2 ≤ midOf ps r ∧ 1 ≤ a.2 ∧ r.1 ≤ a.1) (hi : inside (a.1 + a.2 - 1, 1) p = true) : inside a p = true := by
  unfold inside at hi ⊢
  have hi := of_decide_eq_true hi
  dsimp only at hi
  have := mid_earlier hok hc hr hp (l := a.1 + a.2 - 1) (by omega) (by omega) hi.1 (by omega)
  exact decide_eq_true (by omega)
end
end Qv

/-! ## M22 -/
set_option Elab.async false
set_option linter.all false
set_option maxRecDepth 100000
set_option maxHeartbeats 800000
namespace Qv
open PySem PySem.Spec PyProof.Rows L2
/-- distinct places of a list: no more hits than the list has -/
theorem nodup_count {f : Pc → Bool} : ∀ (n : Nat) (as : List Pc), as.length = n → ∀ dn : List Nat, dn.Nodup → (∀ i ∈ dn, i < n) → dn.countP (fun i => (as[i]?).any f) ≤ as.countP f
  | 0, as, hl, dn, _, hb => by
    cases dn with
    | nil => simp
    | cons i dn => have := hb i (by simp); omega
  | n + 1, as, hl, dn, nd, hb => by
    obtain ⟨init, a, rfl⟩ : ∃ init a, as = init ++ [a] := by
      rcases List.eq_nil_or_concat as with rfl | ⟨l, x, rfl⟩
      · simp at hl
      · exact ⟨l, x, by rw [List.concat_eq_append]⟩
    have hin : init.length = n := by simpa using hl
    have low : ∀ d : List Nat, (∀ i ∈ d, i < n) → d.countP (fun i => ((init ++ [a])[i]?).any f) = d.countP (fun i => (init[i]?).any f) := fun d hd => by
      apply List.countP_congr
      intro i hi
      rw [List.getElem?_append_left (by rw [hin]; exact hd i hi)]
    rw [List.countP_append, List.countP_singleton]
    by_cases hk : n ∈ dn
    · have hp := List.perm_cons_erase hk
      have nd' := nd.erase n
      have hb' : ∀ i ∈ dn.erase n, i < n := fun i hi => by
        have h1 := (nd.mem_erase_iff.mp hi)
        have h2 := hb i h1.2
        have h3 := h1.1
        omega
      have ih := nodup_count (f := f) n init hin (dn.erase n) nd' hb'
      rw [hp.countP_eq, List.countP_cons, low _ hb']
      have e : ((init ++ [a])[n]?).any f = f a := by
        rw [List.getElem?_append_right (by omega), hin]
        simp
      rw [e]
      omega
    · have hb' : ∀ i ∈ dn, i < n := fun i hi => by
        have h2 := hb i hi
        have h3 : i ≠ n := fun z => hk (z ▸ hi)
        omega
      have ih := nodup_count (f := f) n init hin dn nd hb'
      rw [low _ hb']
      omega
/-- one more load on a leg -/
theorem loadN_set {l : Nat} {a : Pc} : ∀ {ls : List (List Pc)} {j : Nat} {x : List Pc}, ls[j]? = some x → loadN l (ls.set j (x ++ [a])) = loadN l ls + if cov l a = true then 1 else 0
  | [], j, x, h => by simp at h
  | y :: ls, 0, x, h => by
    simp at h
    subst h
    unfold loadN
    rw [List.set_cons_zero, List.map_cons, List.map_cons, List.sum_cons, List.sum_cons, List.countP_append, List.countP_singleton]
    omega
  | y :: ls, j + 1, x, h => by
    have ih := loadN_set (l := l) (a := a) (ls := ls) (j := j) (x := x) (by simpa using h)
    unfold loadN at ih ⊢
    rw [List.set_cons_succ, List.map_cons, List.map_cons, List.sum_cons, List.sum_cons, ih]
    omega
end Qv

/-! ## M23 -/
set_option Elab.async false
set_option linter.all false
set_option maxRecDepth 100000
set_option maxHeartbeats 800000
namespace Qv
open PySem PySem.Spec PyProof.Rows L2
section
variable {n : Nat} {qs as : List Pc} {r : Pc}
/-- the dealing so far: dn are the asks dealt -/
structure DI (qs as : List Pc) (dn : List Nat) (way : List Int) (ls : List (List Pc)) : Prop where
  nd : dn.Nodup
  lt : ∀ i ∈ dn, i < as.length
  lw : way.length = as.length
  ll : ls.length = qs.length
  ld : ∀ l, loadN l ls = dn.countP fun i => (as[i]?).any (cov l)
  inn : ∀ (j : Nat) p x, qs[j]? = some p → ls[j]? = some x → ∀ a ∈ x, inside a p = true
  frm : ∀ x ∈ ls, ∀ a ∈ x, ∃ i ∈ dn, as[i]? = some a
  pos : ∀ i ∈ dn, ∀ a, as[i]? = some a → ∃ (j : Nat) (p : Pc) (x : List Pc), way[i]? = some (j : Int) ∧ qs[j]? = some p ∧ inside a p = true ∧ ls[j]? = some x ∧ a ∈ x
  apt : ∀ i ∈ dn, ∀ k ∈ dn, ∀ a b, i ≠ k → as[i]? = some a → as[k]? = some b → way[i]? = way[k]? → overlap a b = false
theorem overlap_comm {p q : Pc} : overlap p q = overlap q p := by
  unfold overlap
  apply decide_eq_decide.mpr
  omega
theorem deal_one {dn : List Nat} {way : List Int} {ls : List (List Pc)} (inv : DI qs as dn way ls) {i : Nat} {a part : Pc} (ha : as[i]? = some a) (hnew : i ∉ dn) {rest : List (Int × Pc)} (hpl : ∃ j is, placeOf qs ls part = j :: is)
    (hb : ∀ p ∈ qs, inside part p = true → inside a p = true) (hc : ∀ (j : Nat) p x, qs[j]? = some p → ls[j]? = some x → inside part p = true → ∀ b ∈ x, overlap part b = false → overlap a b = false) :
    ∃ way' ls', dealSteps qs as (((i : Int), part) :: rest) way ls = dealSteps qs as rest way' ls' ∧ DI qs as (i :: dn) way' ls' := by
  obtain ⟨j0, is, hj⟩ := hpl
  obtain ⟨j, p, rfl, hp, hin, hov⟩ := place_says hj
  have hjl : j < ls.length := by rw [inv.ll]; exact (List.getElem?_eq_some_iff.mp hp).1
  have hx : ls[j]? = some ls[j] := List.getElem?_eq_getElem hjl
  have hov' : ∀ b ∈ ls[j], overlap part b = false := by
    have : ls.getD j [] = ls[j] := by simp [List.getD, hx]
    rw [this] at hov
    exact hov
  have hil : i < as.length := (List.getElem?_eq_some_iff.mp ha).1
  have hap := hb p (List.mem_of_getElem? hp) hin
  have hnb := hc j p ls[j] hp hx hin
  refine ⟨way.set i j, ls.set j (ls[j] ++ [a]), ?_, ?_⟩
  · conv => lhs; unfold dealSteps
    rw [hj]
    dsimp only
    rw [Int.toNat_natCast, Int.toNat_natCast, ha, hx]
  · have hwi : (way.set i (j : Int))[i]? = some (j : Int) := by
      rw [List.getElem?_set_self]
      rw [inv.lw]
      exact hil
    have hwk : ∀ k ∈ dn, (way.set i (j : Int))[k]? = way[k]? := fun k hk => List.getElem?_set_ne (fun e : i = k => hnew (by rw [e]; exact hk))
    have hlj : (ls.set j (ls[j] ++ [a]))[j]? = some (ls[j] ++ [a]) := List.getElem?_set_self hjl
    have hlk : ∀ k, k ≠ j → (ls.set j (ls[j] ++ [a]))[k]? = ls[k]? := fun k hk => List.getElem?_set_ne (fun e : j = k => hk e.symm)
    -- an ask in dn whose way is j is apart from a
    have key : ∀ k ∈ dn, ∀ b, as[k]? = some b → way[k]? = some (j : Int) → overlap a b = false := fun k hk b hkb hw => by
      obtain ⟨j', p', x', w1, w2, w3, w4, w5⟩ := inv.pos k hk b hkb
      rw [hw] at w1
      have : j = j' := by
        have := Option.some.inj w1
        omega
      subst this
      rw [hx] at w4
      cases w4
      exact hnb b w5 (hov' b w5)
    refine ⟨List.nodup_cons.mpr ⟨hnew, inv.nd⟩, fun k hk => ?_, by rw [List.length_set]; exact inv.lw, by rw [List.length_set]; exact inv.ll, fun l => ?_, fun k p' x hp' hx' b hbx => ?_, fun x hxm b hbx => ?_, fun k hk b hkb => ?_, fun k hk m hm b c hne hkb hmc hw => ?_⟩
    · rcases List.mem_cons.mp hk with rfl | hk
      · exact hil
      · exact inv.lt k hk
    · rw [loadN_set hx, inv.ld l, List.countP_cons, ha]
      rfl
    · by_cases e : k = j
      · subst e
        rw [hlj] at hx'
        rw [hp] at hp'
        cases hx'
        cases hp'
        rcases List.mem_append.mp hbx with h1 | h1
        · exact inv.inn k p ls[k] hp hx b h1
        · have : b = a := by simpa using h1
          subst this
          exact hap
      · rw [hlk k e] at hx'
        exact inv.inn k p' x hp' hx' b hbx
    · rcases List.mem_or_eq_of_mem_set hxm with h1 | h1
      · obtain ⟨k, hk, e⟩ := inv.frm x h1 b hbx
        exact ⟨k, by simp [hk], e⟩
      · subst h1
        rcases List.mem_append.mp hbx with h2 | h2
        · obtain ⟨k, hk, e⟩ := inv.frm ls[j] (List.getElem_mem hjl) b h2
          exact ⟨k, by simp [hk], e⟩
        · have : b = a := by simpa using h2
          subst this
          exact ⟨i, by simp, ha⟩
    · rcases List.mem_cons.mp hk with rfl | hk
      · rw [ha] at hkb
        cases hkb
        exact ⟨j, p, _, hwi, hp, hap, hlj, by simp⟩
      · obtain ⟨j', p', x', w1, w2, w3, w4, w5⟩ := inv.pos k hk b hkb
        by_cases e : j' = j
        · subst e
          rw [hx] at w4
          cases w4
          exact ⟨j', p', _, by rw [hwk k hk]; exact w1, w2, w3, hlj, by simp [w5]⟩
        · exact ⟨j', p', x', by rw [hwk k hk]; exact w1, w2, w3, by rw [hlk j' e]; exact w4, w5⟩
    · rcases List.mem_cons.mp hk with e1 | hk1
      · rcases List.mem_cons.mp hm with e2 | hm1
        · exact absurd (e1.trans e2.symm) hne
        · subst e1
          rw [ha] at hkb
          cases hkb
          rw [hwi, hwk m hm1] at hw
          exact key m hm1 c hmc hw.symm
      · rcases List.mem_cons.mp hm with e2 | hm1
        · subst e2
          rw [ha] at hmc
          cases hmc
          rw [hwi, hwk k hk1] at hw
          rw [overlap_comm]
          exact key k hk1 b hkb hw
        · rw [hwk k hk1, hwk m hm1] at hw
          exact inv.apt k hk1 m hm1 b c hne hkb hmc hw
end
end Qv

/-! ## M24 -/
set_option Elab.async false
set_option linter.all false
set_option maxRecDepth 100000
set_option maxHeartbeats 800000
namespace Qv
open PySem PySem.Spec PyProof.Rows L2
section
variable {n : Nat} {qs as : List Pc} {r : Pc}
def inRun (r a : Pc) : Prop := r.1 ≤ a.1 ∧ a.1 < r.1 + r.2
/-- what is asked of one step -/
def Step (qs as : List Pc) (r : Pc) (dn : List Nat) (i : Nat) (part : Pc) : Prop := i ∉ dn ∧ ∃ a, as[i]? = some a ∧ inRun r a ∧
  ((part = (midOf qs r - 1, 2) ∧ a.1 < midOf qs r ∧ midOf qs r < a.1 + a.2 ∧ ∀ k ∈ dn, ∀ b, as[k]? = some b → inRun r b → b.1 < midOf qs r ∧ midOf qs r < b.1 + b.2)
  ∨ (part = (a.1, 1) ∧ midOf qs r ≤ a.1 ∧ ∀ k ∈ dn, ∀ b, as[k]? = some b → inRun r b → b.1 ≤ a.1)
  ∨ (part = (a.1 + a.2 - 1, 1) ∧ a.1 + a.2 ≤ midOf qs r ∧ ∀ k ∈ dn, ∀ b, as[k]? = some b → inRun r b → a.1 + a.2 ≤ b.1 + b.2))
/-- an ask that begins in a run lies in it -/
theorem ask_in (hok : ∀ p ∈ qs, okPc n p = true) (hr : r ∈ runsOf n qs) (hov : ∀ l : Nat, as.countP (cov l) ≤ qs.countP (cov l)) {a : Pc} (ha : a ∈ as) (hao : okPc n a = true) (h : inRun r a) : a.1 + a.2 ≤ r.1 + r.2 := by
  obtain ⟨h1, h2, h3, h4, h5, h6⟩ := runs_ok.run r hr
  rw [okPc_iff] at hao
  unfold inRun at h
  by_cases hc : a.1 + a.2 ≤ r.1 + r.2
  · exact hc
  · exfalso
    refine h6 (by omega) ⟨(r.1 + r.2).toNat, by omega, by omega, ?_⟩
    unfold cnt
    have : 0 < as.countP (cov (r.1 + r.2).toNat) := List.countP_pos_iff.mpr ⟨a, ha, by rw [cov_iff]; omega⟩
    have := hov (r.1 + r.2).toNat
    omega
/-- fewer loads than pieces -/
theorem room (hov : ∀ l : Nat, as.countP (cov l) ≤ qs.countP (cov l)) {dn : List Nat} {way : List Int} {ls : List (List Pc)} (inv : DI qs as dn way ls) {i : Nat} {a : Pc} (ha : as[i]? = some a) (hnew : i ∉ dn) {l : Nat} (hl : cov l a = true) : loadN l ls < qs.countP (cov l) := by
  have h1 := nodup_count (f := cov l) as.length as rfl (i :: dn) (List.nodup_cons.mpr ⟨hnew, inv.nd⟩) (fun k hk => by
    rcases List.mem_cons.mp hk with e | hk
    · rw [e]; exact (List.getElem?_eq_some_iff.mp ha).1
    · exact inv.lt k hk)
  rw [List.countP_cons, ha] at h1
  have h2 := hov l
  rw [inv.ld l]
  have : (Option.some a).any (cov l) = true := hl
  rw [if_pos this] at h1
  omega
theorem deal_step (hok : ∀ p ∈ qs, okPc n p = true) (hc : Counts qs) (haok : ∀ a ∈ as, okPc n a = true) (hov : ∀ l : Nat, as.countP (cov l) ≤ qs.countP (cov l)) (hr : r ∈ runsOf n qs) {dn : List Nat} {way : List Int} {ls : List (List Pc)} (inv : DI qs as dn way ls) {i : Nat} {part : Pc} (hs : Step qs as r dn i part) {rest : List (Int × Pc)} :
    ∃ way' ls', dealSteps qs as (((i : Int), part) :: rest) way ls = dealSteps qs as rest way' ls' ∧ DI qs as (i :: dn) way' ls' := by
  obtain ⟨hnew, a, ha, hin, hs⟩ := hs
  have ham := List.mem_of_getElem? ha
  have hao := okPc_iff.mp (haok a ham)
  have hend := ask_in hok hr hov ham (haok a ham) hin
  have hge := mid_ge (ps := qs) (r := r)
  have hrr := runs_ok.run r hr
  have hlt := mid_lt (ps := qs) (r := r) hrr.2.1
  unfold inRun at hin
  -- a load in a piece of the run is an ask dealt that lies in the run
  have load : ∀ (j : Nat) p x, qs[j]? = some p → ls[j]? = some x → p.1 < r.1 + r.2 ∧ r.1 < p.1 + p.2 → ∀ b ∈ x, ∃ k ∈ dn, as[k]? = some b ∧ inRun r b ∧ p.1 ≤ b.1 ∧ b.1 + b.2 ≤ p.1 + p.2 ∧ 1 ≤ b.2 := fun j p x hp hx hpr b hb => by
    obtain ⟨k, hk, e⟩ := inv.frm x (List.mem_of_getElem? hx) b hb
    have h1 := inv.inn j p x hp hx b hb
    unfold inside at h1
    have h1 := of_decide_eq_true h1
    have h2 := run_in hok hr (List.mem_of_getElem? hp) hpr
    have h3 := okPc_iff.mp (haok b (List.mem_of_getElem? e))
    exact ⟨k, hk, e, ⟨by omega, by omega⟩, h1.1, h1.2, h3.2.1⟩
  rcases hs with ⟨e, a1, a2, hdn⟩ | ⟨e, a1, hdn⟩ | ⟨e, a1, hdn⟩
  · subst e
    have hm : r.1 < midOf qs r := by omega
    have hmid : midOf qs r = ((midOf qs r).toNat : Int) := by omega
    refine deal_one inv ha hnew ?_ (fun p hp hi => takes_across hok hc hr hp hm hi ⟨hin.1, hend⟩) (fun j p x hp hx hi b hb hf => ?_)
    · refine place_two hok hc hr hmid hm inv.ll (room hov inv ha hnew (by rw [cov_iff]; omega)) (fun j p x hp hx b hb => ?_) (fun x hx b hb b1 b2 => ?_)
      · have h1 := inv.inn j p x hp hx b hb
        unfold inside at h1
        exact of_decide_eq_true h1
      · obtain ⟨k, hk, e⟩ := inv.frm x hx b hb
        exact hdn k hk b e ⟨b1, b2⟩
    · unfold inside at hi
      have hi := of_decide_eq_true hi
      dsimp only at hi
      obtain ⟨k, hk, e, hir, _⟩ := load j p x hp hx (by omega) b hb
      have := hdn k hk b e hir
      unfold overlap at hf
      have hf := of_decide_eq_false hf
      dsimp only at hf
      omega
  · subst e
    have hl : a.1 = ((a.1.toNat : Nat) : Int) := by omega
    refine deal_one inv ha hnew ?_ (fun p hp hi => takes_later hok hr hp ⟨a1, hao.2.1, hend⟩ hi) (fun j p x hp hx hi b hb hf => ?_)
    · rw [hl]
      exact place_one inv.ll (room hov inv ha hnew (by rw [cov_iff]; omega))
    · unfold inside at hi
      have hi := of_decide_eq_true hi
      dsimp only at hi
      obtain ⟨k, hk, e, hir, _, _, hb1⟩ := load j p x hp hx (by omega) b hb
      have := hdn k hk b e hir
      unfold overlap at hf ⊢
      have hf := of_decide_eq_false hf
      dsimp only at hf
      exact decide_eq_false (by omega)
  · subst e
    have hl : a.1 + a.2 - 1 = (((a.1 + a.2 - 1).toNat : Nat) : Int) := by omega
    refine deal_one inv ha hnew ?_ (fun p hp hi => takes_earlier hok hc hr hp ⟨a1, hao.2.1, hin.1⟩ hi) (fun j p x hp hx hi b hb hf => ?_)
    · rw [hl]
      exact place_one inv.ll (room hov inv ha hnew (by rw [cov_iff]; omega))
    · unfold inside at hi
      have hi := of_decide_eq_true hi
      dsimp only at hi
      obtain ⟨k, hk, e, hir, _, _, hb1⟩ := load j p x hp hx (by omega) b hb
      have := hdn k hk b e hir
      unfold overlap at hf ⊢
      have hf := of_decide_eq_false hf
      dsimp only at hf
      exact decide_eq_false (by omega)
/-- a row of steps -/
def Ready (qs as : List Pc) (r : Pc) : List (Int × Pc) → List Nat → Prop
  | [], _ => True
  | x :: xs, dn => (∃ i : Nat, x.1 = i ∧ Step qs as r dn i x.2) ∧ Ready qs as r xs (x.1.toNat :: dn)
theorem ready_app : ∀ {xs ys : List (Int × Pc)} {dn : List Nat}, Ready qs as r xs dn → Ready qs as r ys ((xs.map fun x => x.1.toNat).reverse ++ dn) → Ready qs as r (xs ++ ys) dn
  | [], ys, dn, _, h => by simpa using h
  | x :: xs, ys, dn, h1, h2 => by
    refine ⟨h1.1, ready_app h1.2 ?_⟩
    simpa using h2
theorem deal_ready (hok : ∀ p ∈ qs, okPc n p = true) (hc : Counts qs) (haok : ∀ a ∈ as, okPc n a = true) (hov : ∀ l : Nat, as.countP (cov l) ≤ qs.countP (cov l)) (hr : r ∈ runsOf n qs) : ∀ {xs : List (Int × Pc)} {dn : List Nat} {way : List Int} {ls : List (List Pc)}, DI qs as dn way ls → Ready qs as r xs dn →
    ∃ way' ls', dealSteps qs as xs way ls = some (way', ls') ∧ DI qs as ((xs.map fun x => x.1.toNat).reverse ++ dn) way' ls'
  | [], dn, way, ls, inv, _ => ⟨way, ls, rfl, by simpa using inv⟩
  | (i0, part) :: xs, dn, way, ls, inv, h => by
    obtain ⟨⟨i, e, hs⟩, h2⟩ := h
    dsimp only at e
    subst e
    obtain ⟨way1, ls1, e1, inv1⟩ := deal_step hok hc haok hov hr inv hs (rest := xs)
    dsimp only at h2
    rw [Int.toNat_natCast] at h2
    obtain ⟨way2, ls2, e2, inv2⟩ := deal_ready hok hc haok hov hr inv1 h2
    exact ⟨way2, ls2, by rw [e1]; exact e2, by simpa using inv2⟩
end
end Qv

/-! ## M25 -/
set_option Elab.async false
set_option linter.all false
set_option maxRecDepth 100000
set_option maxHeartbeats 800000
namespace Qv
open PySem PySem.Spec PyProof.Rows L2
section
variable {n : Nat} {qs as : List Pc} {r : Pc} {mid : Int}
theorem ready_gen (P : Pc → Pc → Prop) (R : Pc → Pc → Prop) (hPR : ∀ (dn : List Nat) (i : Nat) part a, i ∉ dn → as[i]? = some a → inRun r a → P part a → (∀ k ∈ dn, ∀ b, as[k]? = some b → inRun r b → R a b) → Step qs as r dn i part) :
    ∀ (xs : List (Int × Pc)) (dn : List Nat), (∀ x ∈ xs, ∃ (i : Nat) (a : Pc), x.1 = i ∧ as[i]? = some a ∧ inRun r a ∧ P x.2 a ∧ i ∉ dn) → (xs.map fun x => x.1.toNat).Nodup →
      xs.Pairwise (fun x y => ∀ a b, as[x.1.toNat]? = some a → as[y.1.toNat]? = some b → R b a) → (∀ x ∈ xs, ∀ a, as[x.1.toNat]? = some a → ∀ k ∈ dn, ∀ b, as[k]? = some b → inRun r b → R a b) → Ready qs as r xs dn
  | [], dn, _, _, _, _ => trivial
  | x :: xs, dn, h1, h2, h3, h4 => by
    obtain ⟨i, a, e, ha, hin, hP, hnew⟩ := h1 x (by simp)
    have ei : x.1.toNat = i := by omega
    rw [List.map_cons, List.nodup_cons] at h2
    have h3 := List.pairwise_cons.mp h3
    refine ⟨⟨i, e, hPR dn i x.2 a hnew ha hin hP (h4 x (by simp) a (by rw [ei]; exact ha))⟩, ready_gen P R hPR xs (x.1.toNat :: dn) (fun y hy => ?_) h2.2 h3.2 (fun y hy b hb k hk c hc hic => ?_)⟩
    · obtain ⟨k, b, ek, hb, hbn, hP, hkn⟩ := h1 y (by simp [hy])
      refine ⟨k, b, ek, hb, hbn, hP, fun hm => ?_⟩
      rcases List.mem_cons.mp hm with h | h
      · refine h2.1 (List.mem_map.mpr ⟨y, hy, ?_⟩)
        omega
      · exact hkn h
    · rcases List.mem_cons.mp hk with h | h
      · subst h
        exact h3.1 y hy c b hc hb
      · exact h4 y (by simp [hy]) b hb k h c hc hic
theorem enumP_nodup : ∀ (ps : List Pc) (k : Nat), ((enumP k ps).map fun x => x.1.toNat).Nodup
  | [], k => by simp [enumP]
  | p :: ps, k => by
    show (((k : Int).toNat) :: (enumP (k + 1) ps).map fun x => x.1.toNat).Nodup
    refine List.nodup_cons.mpr ⟨fun h => ?_, enumP_nodup ps (k + 1)⟩
    obtain ⟨x, hx, e⟩ := List.mem_map.mp h
    obtain ⟨i, h1, _⟩ := enumP_mem hx
    omega
theorem insideL_mem {x : Int × Pc} : x ∈ insideL as r ↔ ∃ i : Nat, x.1 = i ∧ as[i]? = some x.2 ∧ inRun r x.2 := by
  unfold insideL inRun
  rw [List.mem_filter]
  constructor
  · rintro ⟨h1, h2⟩
    obtain ⟨i, e, h3⟩ := enumP_mem h1
    rw [Nat.zero_add] at e
    exact ⟨i, e, h3, of_decide_eq_true h2⟩
  · rintro ⟨i, e, h3, h4⟩
    refine ⟨?_, decide_eq_true h4⟩
    have hm : ∀ (ps : List Pc) (k j : Nat) p, ps[j]? = some p → (((k + j : Nat) : Int), p) ∈ enumP k ps := by
      intro ps
      induction ps with
      | nil => intro k j p h; simp at h
      | cons q ps ih =>
        intro k j p h
        cases j with
        | zero =>
          simp at h
          subst h
          simp [enumP]
        | succ j =>
          have := ih (k + 1) j p (by simpa using h)
          have e : k + 1 + j = k + (j + 1) := by omega
          rw [e] at this
          simp only [enumP, List.mem_cons]
          exact .inr this
    have := hm as 0 i x.2 h3
    rw [Nat.zero_add, ← e] at this
    exact this
theorem insideL_nodup (f : Int × Pc → Bool) : (((insideL as r).filter f).map fun x => x.1.toNat).Nodup :=
  (enumP_nodup as 0).sublist (((List.filter_sublist (p := f)).trans (List.filter_sublist)).map _)
theorem across_mem {x : Int × Pc} : x ∈ acrossL as r mid ↔ ∃ i : Nat, x.1 = i ∧ as[i]? = some x.2 ∧ inRun r x.2 ∧ x.2.1 < mid ∧ mid < x.2.1 + x.2.2 := by
  unfold acrossL
  rw [List.mem_filter, insideL_mem]
  constructor
  · rintro ⟨⟨i, h1, h2, h3⟩, h4⟩
    exact ⟨i, h1, h2, h3, of_decide_eq_true h4⟩
  · rintro ⟨i, h1, h2, h3, h4⟩
    exact ⟨⟨i, h1, h2, h3⟩, decide_eq_true h4⟩
theorem later_mem {x : Pc} : x ∈ laterL as r mid ↔ ∃ (i : Nat) (a : Pc), x = (a.1, (i : Int)) ∧ as[i]? = some a ∧ inRun r a ∧ mid ≤ a.1 := by
  unfold laterL
  rw [sortP_mem, List.mem_map]
  constructor
  · rintro ⟨y, hy, rfl⟩
    obtain ⟨h1, h2⟩ := List.mem_filter.mp hy
    obtain ⟨i, e, h3, h4⟩ := insideL_mem.mp h1
    exact ⟨i, y.2, by rw [e], h3, h4, of_decide_eq_true h2⟩
  · rintro ⟨i, a, rfl, h2, h3, h4⟩
    exact ⟨((i : Int), a), List.mem_filter.mpr ⟨insideL_mem.mpr ⟨i, rfl, h2, h3⟩, decide_eq_true h4⟩, rfl⟩
theorem earlier_mem {x : Pc} : x ∈ earlierL as r mid ↔ ∃ (i : Nat) (a : Pc), x = (-(a.1 + a.2), (i : Int)) ∧ as[i]? = some a ∧ inRun r a ∧ a.1 + a.2 ≤ mid := by
  unfold earlierL
  rw [sortP_mem, List.mem_map]
  constructor
  · rintro ⟨y, hy, rfl⟩
    obtain ⟨h1, h2⟩ := List.mem_filter.mp hy
    obtain ⟨i, e, h3, h4⟩ := insideL_mem.mp h1
    exact ⟨i, y.2, by rw [e], h3, h4, of_decide_eq_true h2⟩
  · rintro ⟨i, a, rfl, h2, h3, h4⟩
    exact ⟨((i : Int), a), List.mem_filter.mpr ⟨insideL_mem.mpr ⟨i, rfl, h2, h3⟩, decide_eq_true h4⟩, rfl⟩
theorem snd_nodup {l : List (Int × Pc)} {g : Int × Pc → Int} (h : (l.map fun x => x.1.toNat).Nodup) : ((sortP (l.map fun x => (g x, x.1))).map fun x => x.2.toNat).Nodup := by
  refine (((sortP_perm (l.map fun x => (g x, x.1))).map fun x => x.2.toNat).nodup_iff).mpr ?_
  rw [List.map_map]
  exact h
end
end Qv

/-! ## M26 -/
set_option Elab.async false
set_option linter.all false
set_option maxRecDepth 100000
set_option maxHeartbeats 800000
namespace Qv
open PySem PySem.Spec PyProof.Rows L2
section
variable {n : Nat} {qs as : List Pc} {r : Pc}
def outA (as : List Pc) (r : Pc) (mid : Int) : List (Int × Pc) := (acrossL as r mid).map fun x => (x.1, (mid - 1, 2))
def outL (as : List Pc) (r : Pc) (mid : Int) : List (Int × Pc) := (laterL as r mid).map fun x => (x.2, (x.1, 1))
def outE (as : List Pc) (r : Pc) (mid : Int) : List (Int × Pc) := (earlierL as r mid).map fun x => (x.2, (-x.1 - 1, 1))
theorem outA_mem {mid : Int} {x : Int × Pc} : x ∈ outA as r mid ↔ ∃ (i : Nat) (a : Pc), x = ((i : Int), (mid - 1, 2)) ∧ as[i]? = some a ∧ inRun r a ∧ a.1 < mid ∧ mid < a.1 + a.2 := by
  unfold outA
  rw [List.mem_map]
  constructor
  · rintro ⟨y, hy, rfl⟩
    obtain ⟨i, e, h1, h2, h3⟩ := across_mem.mp hy
    exact ⟨i, y.2, by rw [e], h1, h2, h3⟩
  · rintro ⟨i, a, rfl, h1, h2, h3⟩
    exact ⟨((i : Int), a), across_mem.mpr ⟨i, rfl, h1, h2, h3⟩, rfl⟩
theorem outL_mem {mid : Int} {x : Int × Pc} : x ∈ outL as r mid ↔ ∃ (i : Nat) (a : Pc), x = ((i : Int), (a.1, 1)) ∧ as[i]? = some a ∧ inRun r a ∧ mid ≤ a.1 := by
  unfold outL
  rw [List.mem_map]
  constructor
  · rintro ⟨y, hy, rfl⟩
    obtain ⟨i, a, rfl, h1, h2, h3⟩ := later_mem.mp hy
    exact ⟨i, a, rfl, h1, h2, h3⟩
  · rintro ⟨i, a, rfl, h1, h2, h3⟩
    exact ⟨(a.1, (i : Int)), later_mem.mpr ⟨i, a, rfl, h1, h2, h3⟩, rfl⟩
theorem outE_mem {mid : Int} {x : Int × Pc} : x ∈ outE as r mid ↔ ∃ (i : Nat) (a : Pc), x = ((i : Int), (a.1 + a.2 - 1, 1)) ∧ as[i]? = some a ∧ inRun r a ∧ a.1 + a.2 ≤ mid := by
  unfold outE
  rw [List.mem_map]
  constructor
  · rintro ⟨y, hy, rfl⟩
    obtain ⟨i, a, rfl, h1, h2, h3⟩ := earlier_mem.mp hy
    exact ⟨i, a, by dsimp only; rw [show - -(a.1 + a.2) - 1 = a.1 + a.2 - 1 by omega], h1, h2, h3⟩
  · rintro ⟨i, a, rfl, h1, h2, h3⟩
    exact ⟨(-(a.1 + a.2), (i : Int)), earlier_mem.mpr ⟨i, a, rfl, h1, h2, h3⟩, by dsimp only; rw [show - -(a.1 + a.2) - 1 = a.1 + a.2 - 1 by omega]⟩
theorem outA_nodup {mid : Int} : ((outA as r mid).map fun x => x.1.toNat).Nodup := by
  unfold outA
  rw [List.map_map]
  exact insideL_nodup _
theorem outL_nodup {mid : Int} : ((outL as r mid).map fun x => x.1.toNat).Nodup := by
  unfold outL
  rw [List.map_map]
  exact snd_nodup (g := fun x => x.2.1) (insideL_nodup _)
theorem outE_nodup {mid : Int} : ((outE as r mid).map fun x => x.1.toNat).Nodup := by
  unfold outE
  rw [List.map_map]
  exact snd_nodup (g := fun x => -(x.2.1 + x.2.2)) (insideL_nodup _)
theorem order_eq {mid : Int} : orderOf as r mid = outA as r mid ++ outL as r mid ++ outE as r mid := rfl
theorem order_mem {mid : Int} {k : Nat} : k ∈ (orderOf as r mid).map (fun x => x.1.toNat) ↔ ∃ a, as[k]? = some a ∧ inRun r a := by
  rw [List.mem_map]
  constructor
  · rintro ⟨x, hx, e⟩
    rw [order_eq] at hx
    rcases List.mem_append.mp hx with hx | hx
    · rcases List.mem_append.mp hx with hx | hx
      · obtain ⟨i, a, rfl, h1, h2, _⟩ := outA_mem.mp hx
        have : i = k := by simpa using e
        exact ⟨a, this ▸ h1, h2⟩
      · obtain ⟨i, a, rfl, h1, h2, _⟩ := outL_mem.mp hx
        have : i = k := by simpa using e
        exact ⟨a, this ▸ h1, h2⟩
    · obtain ⟨i, a, rfl, h1, h2, _⟩ := outE_mem.mp hx
      have : i = k := by simpa using e
      exact ⟨a, this ▸ h1, h2⟩
  · rintro ⟨a, h1, h2⟩
    rw [order_eq]
    by_cases hm : mid ≤ a.1
    · exact ⟨_, List.mem_append_left _ (List.mem_append_right _ (outL_mem.mpr ⟨k, a, rfl, h1, h2, hm⟩)), by simp⟩
    · by_cases hb : a.1 + a.2 ≤ mid
      · exact ⟨_, List.mem_append_right _ (outE_mem.mpr ⟨k, a, rfl, h1, h2, hb⟩), by simp⟩
      · exact ⟨_, List.mem_append_left _ (List.mem_append_left _ (outA_mem.mpr ⟨k, a, rfl, h1, h2, by omega, by omega⟩)), by simp⟩
theorem mem_idx {xs : List (Int × Pc)} {k : Nat} (h : k ∈ (xs.map fun x => x.1.toNat).reverse) : ∃ x ∈ xs, x.1.toNat = k := by
  rw [List.mem_reverse] at h
  exact List.mem_map.mp h
theorem order_ready (haok : ∀ a ∈ as, okPc n a = true) {dn : List Nat} (hdn : ∀ k ∈ dn, ∀ b, as[k]? = some b → ¬ inRun r b) : Ready qs as r (orderOf as r (midOf qs r)) dn := by
  have wide : ∀ (k : Nat) b, as[k]? = some b → 1 ≤ b.2 := fun k b h => (okPc_iff.mp (haok b (List.mem_of_getElem? h))).2.1
  have inA : ∀ k ∈ ((outA as r (midOf qs r)).map fun x => x.1.toNat).reverse, ∀ b, as[k]? = some b → b.1 < midOf qs r ∧ midOf qs r < b.1 + b.2 := fun k hk b hb => by
    obtain ⟨x, hx, e⟩ := mem_idx hk
    obtain ⟨i, a, rfl, h1, h2, h3⟩ := outA_mem.mp hx
    have : i = k := by simpa using e
    rw [this, hb] at h1
    cases h1
    exact h3
  have inL : ∀ k ∈ ((outL as r (midOf qs r)).map fun x => x.1.toNat).reverse, ∀ b, as[k]? = some b → midOf qs r ≤ b.1 := fun k hk b hb => by
    obtain ⟨x, hx, e⟩ := mem_idx hk
    obtain ⟨i, a, rfl, h1, h2, h3⟩ := outL_mem.mp hx
    have : i = k := by simpa using e
    rw [this, hb] at h1
    cases h1
    exact h3
  rw [order_eq]
  refine ready_app (ready_app ?_ ?_) ?_
  · refine ready_gen (fun part a => part = (midOf qs r - 1, 2) ∧ a.1 < midOf qs r ∧ midOf qs r < a.1 + a.2) (fun _ b => b.1 < midOf qs r ∧ midOf qs r < b.1 + b.2) (fun dn i part a h1 h2 h3 h4 h5 => ⟨h1, a, h2, h3, .inl ⟨h4.1, h4.2.1, h4.2.2, h5⟩⟩) _ dn (fun x hx => ?_) outA_nodup ?_ (fun x hx a ha k hk b hb hbr => absurd hbr (hdn k hk b hb))
    · obtain ⟨i, a, rfl, h1, h2, h3⟩ := outA_mem.mp hx
      exact ⟨i, a, rfl, h1, h2, ⟨rfl, h3⟩, fun hk => hdn i hk a h1 h2⟩
    · rw [List.pairwise_iff_getElem]
      intro i j hi hj _ a b ha hb
      obtain ⟨k, c, e, h1, h2, h3⟩ := outA_mem.mp (List.getElem_mem hi)
      rw [e] at ha
      dsimp only at ha
      rw [Int.toNat_natCast, h1] at ha
      cases ha
      exact h3
  · refine ready_gen (fun part a => part = (a.1, 1) ∧ midOf qs r ≤ a.1) (fun a b => b.1 ≤ a.1) (fun dn i part a h1 h2 h3 h4 h5 => ⟨h1, a, h2, h3, .inr (.inl ⟨h4.1, h4.2, h5⟩)⟩) _ _ (fun x hx => ?_) outL_nodup ?_ (fun x hx a ha k hk b hb hbr => ?_)
    · obtain ⟨i, a, rfl, h1, h2, h3⟩ := outL_mem.mp hx
      refine ⟨i, a, rfl, h1, h2, ⟨rfl, h3⟩, fun hk => ?_⟩
      rcases List.mem_append.mp hk with hk | hk
      · have := inA i hk a h1
        omega
      · exact hdn i hk a h1 h2
    · unfold outL
      rw [List.pairwise_map]
      refine List.Pairwise.imp_of_mem (R := fun a b => pcLe a b = true) (fun {x y} hx hy hle a b ha hb => ?_) (sortP_sorted _)
      obtain ⟨i, c, rfl, h1, _, _⟩ := later_mem.mp hx
      obtain ⟨j, d, rfl, h2, _, _⟩ := later_mem.mp hy
      dsimp only at ha hb
      rw [Int.toNat_natCast] at ha hb
      rw [h1] at ha
      rw [h2] at hb
      cases ha
      cases hb
      unfold pcLe at hle
      have hle := of_decide_eq_true hle
      dsimp only at hle
      omega
    · obtain ⟨i, c, rfl, h1, h2, h3⟩ := outL_mem.mp hx
      dsimp only at ha
      rw [Int.toNat_natCast, h1] at ha
      cases ha
      rcases List.mem_append.mp hk with hk | hk
      · have := inA k hk b hb
        omega
      · exact absurd hbr (hdn k hk b hb)
  · refine ready_gen (fun part a => part = (a.1 + a.2 - 1, 1) ∧ a.1 + a.2 ≤ midOf qs r) (fun a b => a.1 + a.2 ≤ b.1 + b.2) (fun dn i part a h1 h2 h3 h4 h5 => ⟨h1, a, h2, h3, .inr (.inr ⟨h4.1, h4.2, h5⟩)⟩) _ _ (fun x hx => ?_) outE_nodup ?_ (fun x hx a ha k hk b hb hbr => ?_)
    · obtain ⟨i, a, rfl, h1, h2, h3⟩ := outE_mem.mp hx
      refine ⟨i, a, rfl, h1, h2, ⟨rfl, h3⟩, fun hk => ?_⟩
      have hw := wide i a h1
      rw [List.map_append, List.reverse_append, List.append_assoc] at hk
      rcases List.mem_append.mp hk with hk | hk
      · have := inL i hk a h1
        omega
      · rcases List.mem_append.mp hk with hk | hk
        · have := inA i hk a h1
          omega
        · exact hdn i hk a h1 h2
    · unfold outE
      rw [List.pairwise_map]
      refine List.Pairwise.imp_of_mem (R := fun a b => pcLe a b = true) (fun {x y} hx hy hle a b ha hb => ?_) (sortP_sorted _)
      obtain ⟨i, c, rfl, h1, _, _⟩ := earlier_mem.mp hx
      obtain ⟨j, d, rfl, h2, _, _⟩ := earlier_mem.mp hy
      dsimp only at ha hb
      rw [Int.toNat_natCast] at ha hb
      rw [h1] at ha
      rw [h2] at hb
      cases ha
      cases hb
      unfold pcLe at hle
      have hle := of_decide_eq_true hle
      dsimp only at hle
      omega
    · obtain ⟨i, c, rfl, h1, h2, h3⟩ := outE_mem.mp hx
      dsimp only at ha
      rw [Int.toNat_natCast, h1] at ha
      cases ha
      have hw := wide k b hb
      rw [List.map_append, List.reverse_append, List.append_assoc] at hk
      rcases List.mem_append.mp hk with hk | hk
      · have := inL k hk b hb
        omega
      · rcases List.mem_append.mp hk with hk | hk
        · have := inA k hk b hb
          omega
        · exact absurd hbr (hdn k hk b hb)
end
end Qv

/-! ## M27 -/
set_option Elab.async false
set_option linter.all false
set_option maxRecDepth 100000
set_option maxHeartbeats 800000
namespace Qv
open PySem PySem.Spec PyProof.Rows L2
section
variable {n : Nat} {qs as : List Pc}
theorem deal_runs (hok : ∀ p ∈ qs, okPc n p = true) (hc : Counts qs) (haok : ∀ a ∈ as, okPc n a = true) (hov : ∀ l : Nat, as.countP (cov l) ≤ qs.countP (cov l)) : ∀ (rs : List Pc) (dn : List Nat) (way : List Int) (ls : List (List Pc)),
    (∀ r ∈ rs, r ∈ runsOf n qs) → rs.Pairwise (fun r s => r.1 + r.2 < s.1) → DI qs as dn way ls → (∀ k ∈ dn, ∀ b, as[k]? = some b → ∀ r ∈ rs, ¬ inRun r b) →
    ∃ way' ls' dn', dealRuns qs as rs way ls = some (way', ls') ∧ DI qs as dn' way' ls' ∧ ∀ k, k ∈ dn' ↔ k ∈ dn ∨ ∃ r ∈ rs, ∃ a, as[k]? = some a ∧ inRun r a
  | [], dn, way, ls, _, _, inv, _ => ⟨way, ls, dn, rfl, inv, fun k => by simp⟩
  | r :: rs, dn, way, ls, hrs, hpw, inv, hdn => by
    have hpw := List.pairwise_cons.mp hpw
    obtain ⟨way1, ls1, e1, inv1⟩ := deal_ready hok hc haok hov (hrs r (by simp)) inv (order_ready (qs := qs) (r := r) haok fun k hk b hb => hdn k hk b hb r (by simp))
    obtain ⟨way2, ls2, dn2, e2, inv2, hm⟩ := deal_runs hok hc haok hov rs _ way1 ls1 (fun s hs => hrs s (by simp [hs])) hpw.2 inv1 (fun k hk b hb s hs hin => by
      rcases List.mem_append.mp hk with h | h
      · rw [List.mem_reverse] at h
        obtain ⟨a, ha, har⟩ := order_mem.mp h
        rw [hb] at ha
        cases ha
        have := hpw.1 s hs
        unfold inRun at hin har
        omega
      · exact hdn k h b hb s (by simp [hs]) hin)
    refine ⟨way2, ls2, dn2, ?_, inv2, fun k => ?_⟩
    · unfold dealRuns
      rw [e1]
      exact e2
    · rw [hm k, List.mem_append, List.mem_reverse, order_mem]
      constructor
      · rintro ((h | h) | ⟨s, hs, h⟩)
        · exact .inr ⟨r, by simp, h⟩
        · exact .inl h
        · exact .inr ⟨s, by simp [hs], h⟩
      · rintro (h | ⟨s, hs, h⟩)
        · exact .inl (.inr h)
        · rcases List.mem_cons.mp hs with e | hs
          · rw [e] at h
            exact .inl (.inl h)
          · exact .inr ⟨s, hs, h⟩
/-- what the judge asks of a way -/
structure WayOk (qs as : List Pc) (way : List Int) : Prop where
  lw : way.length = as.length
  pos : ∀ (i : Nat) (a : Pc), as[i]? = some a → ∃ (j : Nat) (p : Pc), way[i]? = some (j : Int) ∧ qs[j]? = some p ∧ inside a p = true
  apt : ∀ (i k : Nat) (a b : Pc), i ≠ k → as[i]? = some a → as[k]? = some b → way[i]? = way[k]? → overlap a b = false
theorem deal_done (hok : ∀ p ∈ qs, okPc n p = true) (hc : Counts qs) (haok : ∀ a ∈ as, okPc n a = true) (hov : ∀ l : Nat, as.countP (cov l) ≤ qs.countP (cov l)) :
    ∃ way ls, dealRuns qs as (runsOf n qs) (List.replicate as.length 0) (List.replicate qs.length []) = some (way, ls) ∧ WayOk qs as way := by
  have inv0 : DI qs as [] (List.replicate as.length 0) (List.replicate qs.length []) := by
    refine ⟨List.nodup_nil, by simp, by simp, by simp, fun l => ?_, fun j p x hp hx a ha => ?_, fun x hx a ha => ?_, by simp, by simp⟩
    · unfold loadN
      rw [List.map_replicate]
      simp
    · have := List.mem_of_getElem? hx
      rw [List.mem_replicate] at this
      rw [this.2] at ha
      cases ha
    · rw [List.mem_replicate] at hx
      rw [hx.2] at ha
      cases ha
  obtain ⟨way, ls, dn, e, inv, hm⟩ := deal_runs hok hc haok hov (runsOf n qs) [] _ _ (fun _ h => h) runs_ok.pw inv0 (by simp)
  have all : ∀ (i : Nat) (a : Pc), as[i]? = some a → i ∈ dn := fun i a ha => by
    have hao := okPc_iff.mp (haok a (List.mem_of_getElem? ha))
    have hu : usedBy n (cnt qs) a.1 := ⟨a.1.toNat, by omega, by omega, by
      unfold cnt
      have : 0 < as.countP (cov a.1.toNat) := List.countP_pos_iff.mpr ⟨a, List.mem_of_getElem? ha, by rw [cov_iff]; omega⟩
      have := hov a.1.toNat
      omega⟩
    obtain ⟨r, hr, h1, h2⟩ := (runs_ok (n := n) (ps := qs)).all a.1 (by omega) (by omega) hu
    exact (hm i).mpr (.inr ⟨r, hr, a, ha, h1, h2⟩)
  refine ⟨way, ls, e, inv.lw, fun i a ha => ?_, fun i k a b hne ha hb hw => inv.apt i (all i a ha) k (all k b hb) a b hne ha hb hw⟩
  obtain ⟨j, p, x, h1, h2, h3, _, _⟩ := inv.pos i (all i a ha) a ha
  exact ⟨j, p, h1, h2, h3⟩
end
end Qv

/-! ## M28 -/
set_option Elab.async false
set_option linter.all false
set_option maxRecDepth 100000
set_option maxHeartbeats 800000
namespace Qv
open PySem PySem.Spec PyProof.Rows L2
section
variable {C : Cells} {a b : Int}
theorem wide_ok {x : Int} (h : x.natAbs < 2 ^ 64) : wideB x = true := by
  unfold wideB
  refine decide_eq_true ?_
  by_cases h0 : x.natAbs = 0
  · rw [h0]; decide
  · have := (Nat.log2_lt h0).mpr h
    omega
theorem dMul_ii (ha : a.natAbs < 2 ^ 64) (hb : b.natAbs < 2 ^ 64) : dMul (.int a) (.int b) C = some (.int (a * b)) := by
  show (if (wideB a && wideB b) = true then _ else _) = _
  rw [wide_ok ha, wide_ok hb]
  rfl
theorem dDiv_ii (hb : 0 < b) (hl : b.natAbs < 2 ^ 64) : dDiv (.int a) (.int b) C = some (.int (a / b)) := by
  show (if decide (0 < b ∧ b.natAbs.log2 < 9000) = true then _ else _) = _
  have := (Nat.log2_lt (n := b.natAbs) (k := 64) (by omega)).mpr hl
  rw [if_pos (decide_eq_true ⟨hb, by omega⟩)]
@[simp] theorem int_i : fn1 intD [.int a] C = some (.int a) := rfl
@[simp] theorem abs_i : fn1 absD [.int a] C = some (.int a.natAbs) := by
  show some (D.int (if a < 0 then -a else a)) = _
  congr 2
  split <;> omega
theorem mix_tail {low high : Int} {x0 x1 x4 x5 : Option D} (hl : 0 ≤ low ∧ low < 2 ^ 40) (hh : 0 ≤ high ∧ high < 2 ^ 40) : ∃ z, (sSeq (sSet 4 (eOp dMod (eCall (fn1 intD) (aCons (eOp dAdd (eOp dMul (eSlot 2) (eSlot 2)) (eOp dMul (eC (.int 40692)) (eSlot 3))) aNil)) (eC (.int 2147483647))))
    (sSeq (sSet 5 (eOp dMod (eCall (fn1 intD) (aCons (eOp dAdd (eOp dAdd (eOp dMul (eSlot 3) (eSlot 3)) (eOp dMul (eC (.int 48271)) (eSlot 4))) (eSlot 2)) aNil)) (eC (.int 2147483629))))
    (sSeq (sSet 4 (eOp dMod (eCall (fn1 intD) (aCons (eOp dAdd (eOp dAdd (eOp dMul (eSlot 4) (eSlot 4)) (eOp dMul (eC (.int 16807)) (eSlot 5))) (eSlot 3)) aNil)) (eC (.int 2147483399))))
    (sSeq (sSet 5 (eOp dMod (eCall (fn1 intD) (aCons (eOp dAdd (eOp dAdd (eOp dMul (eSlot 5) (eSlot 5)) (eOp dMul (eC (.int 39373)) (eSlot 4))) (eSlot 2)) aNil)) (eC (.int 2147483579))))
    (sRet (eOp dAdd (eOp dMul (eSlot 4) (eC (.int 2147483579))) (eSlot 5))))))) [x0, x1, some (.int low), some (.int high), x4, x5] C = .rt (.int z) C := by
  rw [seq_nx (ρ' := [x0, x1, some (.int low), some (.int high), some (.int ((low * low + 40692 * high) % 2147483647)), x5]) (C' := C) (by
    simp [dMul_ii (a := low) (b := low) (by omega) (by omega), dMul_ii (a := 40692) (b := high) (by omega) (by omega)])]
  have h1 : 0 ≤ (low * low + 40692 * high) % 2147483647 ∧ (low * low + 40692 * high) % 2147483647 < 2 ^ 40 := by omega
  generalize (low * low + 40692 * high) % 2147483647 = one at h1
  rw [seq_nx (ρ' := [x0, x1, some (.int low), some (.int high), some (.int one), some (.int ((high * high + 48271 * one + low) % 2147483629))]) (C' := C) (by
    simp [dMul_ii (a := high) (b := high) (by omega) (by omega), dMul_ii (a := 48271) (b := one) (by omega) (by omega)])]
  have h2 : 0 ≤ (high * high + 48271 * one + low) % 2147483629 ∧ (high * high + 48271 * one + low) % 2147483629 < 2 ^ 40 := by omega
  generalize (high * high + 48271 * one + low) % 2147483629 = two at h2
  rw [seq_nx (ρ' := [x0, x1, some (.int low), some (.int high), some (.int ((one * one + 16807 * two + high) % 2147483399)), some (.int two)]) (C' := C) (by
    simp [dMul_ii (a := one) (b := one) (by omega) (by omega), dMul_ii (a := 16807) (b := two) (by omega) (by omega)])]
  have h3 : 0 ≤ (one * one + 16807 * two + high) % 2147483399 ∧ (one * one + 16807 * two + high) % 2147483399 < 2 ^ 40 := by omega
  generalize (one * one + 16807 * two + high) % 2147483399 = one2 at h3
  rw [seq_nx (ρ' := [x0, x1, some (.int low), some (.int high), some (.int one2), some (.int ((two * two + 39373 * one2 + low) % 2147483579))]) (C' := C) (by
    simp [dMul_ii (a := two) (b := two) (by omega) (by omega), dMul_ii (a := 39373) (b := one2) (by omega) (by omega)])]
  exact ⟨one2 * 2147483579 + (two * two + 39373 * one2 + low) % 2147483579, by
    simp [dMul_ii (a := one2) (b := 2147483579) (by omega) (by omega)]⟩
theorem sp_mix : ∃ z, pureM m_law_mix [.int a, .int b] C = .ok (.int z) C := by
  obtain ⟨z, e⟩ := mix_tail (C := []) (low := a % 2147483647 + b % 1000003 * 48271 + 11) (high := a / 2147483647 % 2147483629 + b % 1000003 * 69621 + 5) (x0 := some (.int a)) (x1 := some (.int b)) (x4 := none) (x5 := none) (by omega) (by omega)
  refine ⟨z, pure_ok (C' := []) (run_rt (ρ0 := [some (.int a), some (.int b), none, none, none, none]) rfl ?_) rfl⟩
  unfold F_law_mix
  rw [seq_nx (ρ' := [some (.int a), some (.int b), some (.int (a % 2147483647 + b % 1000003 * 48271 + 11)), none, none, none]) (C' := []) (by
    simp [dMul_ii (a := b % 1000003) (b := 48271) (by omega) (by omega)])]
  rw [seq_nx (ρ' := [some (.int a), some (.int b), some (.int (a % 2147483647 + b % 1000003 * 48271 + 11)), some (.int (a / 2147483647 % 2147483629 + b % 1000003 * 69621 + 5)), none, none]) (C' := []) (by
    simp [dMul_ii (a := b % 1000003) (b := 69621) (by omega) (by omega), dDiv_ii (a := a) (b := 2147483647) (by omega) (by omega)])]
  exact e
end
end Qv

/-! ## V0 -/
set_option Elab.async false
set_option linter.all false
set_option maxRecDepth 100000
set_option maxHeartbeats 800000
namespace Qv
open PySem PySem.Spec PyProof.Rows L2
/-! what holds behind a run: the run is pushed in front, what comes behind it waits in K -/
/-- a mark that leans on K: so simp leaves K as it is until it is reached -/
def Tg {β : Type} (_ : β → Prop) : Type := Bool
def tg : Bool := true
@[irreducible] def V {α : Type} (o : Out α) (K : Out α → Prop) (_t : Tg K := tg) : Prop := K o
@[irreducible] def W (o : SO) (K : SO → Prop) (_t : Tg K := tg) : Prop := K o
/-- what is to be shown at last: left as it stands -/
def Ti (_ : Env → Cells → Prop) : Type := Bool
@[irreducible] def Hold (I : Env → Cells → Prop) (ρ : Env) (C : Cells) (_t : Ti I := tg) : Prop := I ρ C
theorem hold {I : Env → Cells → Prop} {ρ : Env} {C : Cells} (h : I ρ C) : Hold I ρ C := by
  unfold Hold
  exact h
theorem Hold.un {I : Env → Cells → Prop} {ρ : Env} {C : Cells} (h : Hold I ρ C) : I ρ C := by
  unfold Hold at h
  exact h
/-- two ways, both left as they stand until the test is known -/
@[irreducible] def Vif {α : Type} (b : Bool) (f g : Env → Cells → Out α) (ρ : Env) (C : Cells) (K : Out α → Prop) (_t : Tg K := tg) : Prop := K (if b = true then f ρ C else g ρ C)
@[irreducible] def Wif (b : Bool) (f g : DS) (ρ : Env) (C : Cells) (K : SO → Prop) (_t : Tg K := tg) : Prop := K (if b = true then f ρ C else g ρ C)
def onOk {α β : Type} (f : α → Cells → Prop) (K : Out β → Prop) : Out α → Prop
  | .ok a C => f a C
  | .exn x C => K (.exn x C)
  | .stuck => K .stuck
def onOkS {α : Type} (f : α → Cells → Prop) (K : SO → Prop) : Out α → Prop
  | .ok a C => f a C
  | .exn x C => K (.exn x C)
  | .stuck => K .stuck
def onNx (f : Env → Cells → Prop) (K : SO → Prop) : SO → Prop
  | .nx ρ C => f ρ C
  | o => K o
def onRun (K : Out D → Prop) : SO → Prop
  | .rt d C => K (.ok d C)
  | .nx _ C => K (.ok .non C)
  | .exn x C => K (.exn x C)
  | _ => K .stuck
def onLoop (I : Env → Cells → Prop) (K : SO → Prop) : SO → Prop
  | .nx ρ C => Hold I ρ C
  | .ct ρ C => Hold I ρ C
  | .bk ρ C => K (.nx ρ C)
  | .rt d C => K (.rt d C)
  | .exn x C => K (.exn x C)
  | .stuck => K .stuck
def ofO {α : Type} : Option α → Cells → Out α
  | some a, C => .ok a C
  | none, _ => .stuck
@[irreducible] def OptP {α : Type} (o : Option α) (f : α → Prop) (_t : Tg f := tg) : Prop := match o with
  | some a => f a
  | none => False
theorem V_def {α : Type} {o : Out α} {K : Out α → Prop} : V o K = K o := by with_unfolding_all rfl
theorem W_def {o : SO} {K : SO → Prop} : W o K = K o := by with_unfolding_all rfl
theorem OptP_no {α : Type} {f : α → Prop} (h : OptP none f) : False := by
  with_unfolding_all exact h
section
variable {α β : Type} {ρ : Env} {C : Cells} {f g h : DE} {fa : DA} {c : DB} {i : Nat} {d x y : D} {a : α} {e : Exn} {fo : α → Cells → Prop} {Kb : Out β → Prop} {Ka : Out α → Prop} {K : Out D → Prop} {KA : Out (List D) → Prop} {KB : Out Bool → Prop} {S : SO → Prop} {n : Env → Cells → Prop}
@[simp ↓] theorem onOk_ok : onOk fo Kb (.ok a C) = fo a C := by with_unfolding_all rfl
@[simp ↓] theorem onOk_exn : onOk fo Kb (.exn e C) = Kb (.exn e C) := by with_unfolding_all rfl
@[simp ↓] theorem onOkS_ok : onOkS fo S (.ok a C) = fo a C := by with_unfolding_all rfl
@[simp ↓] theorem onOkS_exn : onOkS fo S (.exn e C) = S (.exn e C) := by with_unfolding_all rfl
@[simp ↓] theorem onNx_nx : onNx n S (.nx ρ C) = n ρ C := by with_unfolding_all rfl
@[simp ↓] theorem onNx_rt : onNx n S (.rt d C) = S (.rt d C) := by with_unfolding_all rfl
@[simp ↓] theorem onNx_bk : onNx n S (.bk ρ C) = S (.bk ρ C) := by with_unfolding_all rfl
@[simp ↓] theorem onNx_ct : onNx n S (.ct ρ C) = S (.ct ρ C) := by with_unfolding_all rfl
@[simp ↓] theorem onNx_exn : onNx n S (.exn e C) = S (.exn e C) := by with_unfolding_all rfl
@[simp ↓] theorem onRun_rt : onRun K (.rt d C) = K (.ok d C) := by with_unfolding_all rfl
@[simp ↓] theorem onRun_nx : onRun K (.nx ρ C) = K (.ok .non C) := by with_unfolding_all rfl
@[simp ↓] theorem onRun_exn : onRun K (.exn e C) = K (.exn e C) := by with_unfolding_all rfl
@[simp ↓] theorem onLoop_nx : onLoop n S (.nx ρ C) = Hold n ρ C := by with_unfolding_all rfl
@[simp ↓] theorem onLoop_ct : onLoop n S (.ct ρ C) = Hold n ρ C := by with_unfolding_all rfl
@[simp ↓] theorem onLoop_bk : onLoop n S (.bk ρ C) = S (.nx ρ C) := by with_unfolding_all rfl
@[simp ↓] theorem onLoop_rt : onLoop n S (.rt d C) = S (.rt d C) := by with_unfolding_all rfl
@[simp ↓] theorem onLoop_exn : onLoop n S (.exn e C) = S (.exn e C) := by with_unfolding_all rfl
@[simp] theorem ofO_some : ofO (some a) C = .ok a C := by with_unfolding_all rfl
@[simp] theorem OptP_some {f : α → Prop} : OptP (some a) f = f a := by with_unfolding_all rfl
@[simp] theorem V_ok : V (.ok a C) Ka = Ka (.ok a C) := by with_unfolding_all rfl
@[simp] theorem V_exn : V (.exn e C) Ka = Ka (.exn e C) := by with_unfolding_all rfl
@[simp] theorem W_nx : W (.nx ρ C) S = S (.nx ρ C) := by with_unfolding_all rfl
@[simp] theorem W_rt : W (.rt d C) S = S (.rt d C) := by with_unfolding_all rfl
@[simp] theorem W_exn : W (.exn e C) S = S (.exn e C) := by with_unfolding_all rfl
theorem V_onOk {o : Out α} {f f' : α → Cells → Prop} (h : ∀ a C, f a C = f' a C) : V o (onOk f Kb) = V o (onOk f' Kb) := by
  have : f = f' := funext fun a => funext fun C => h a C
  rw [this]
theorem V_onOkS {o : Out α} {f f' : α → Cells → Prop} (h : ∀ a C, f a C = f' a C) : V o (onOkS f S) = V o (onOkS f' S) := by
  have : f = f' := funext fun a => funext fun C => h a C
  rw [this]
theorem V_bind {o : Out α} {k : α → Cells → Out β} : V (o.bind k) Kb = V o (onOk (fun a C => V (k a C) Kb) Kb) := by cases o <;> with_unfolding_all rfl
theorem W_bindS {o : Out α} {k : α → Cells → SO} : W (o.bindS k) S = V o (onOkS (fun a C => W (k a C) S) S) := by cases o <;> with_unfolding_all rfl
theorem V_ofm {o : Option α} : V (match o with
  | some d => .ok d C
  | none => .stuck) Ka = V (ofO o C) Ka := by cases o <;> with_unfolding_all rfl
@[simp ↓] theorem V_aNil : V (aNil ρ C) KA = KA (.ok [] C) := by with_unfolding_all rfl
@[simp ↓] theorem V_aCons {ga : DA} : V (aCons f ga ρ C) KA = V (f ρ C) (onOk (fun d C => V (ga ρ C) (onOk (fun ds C => KA (.ok (d :: ds) C)) KA)) KA) := by
  rw [ev_aCons, V_bind]
  refine V_onOk fun d C => ?_
  rw [V_bind]
  with_unfolding_all rfl
@[simp ↓] theorem V_op {o : D2} : V (eOp o f g ρ C) K = V (f ρ C) (onOk (fun x C => V (g ρ C) (onOk (fun y C => V (ofO (o x y C) C) K) K)) K) := by
  rw [ev_op, V_bind]
  refine V_onOk fun x C => ?_
  rw [V_bind]
  refine V_onOk fun y C => ?_
  cases o x y C <;> with_unfolding_all rfl
@[simp ↓] theorem V_map {o : D → Cells → Option D} : V (eMap o f ρ C) K = V (f ρ C) (onOk (fun x C => V (ofO (o x C) C) K) K) := by
  rw [ev_map, V_bind]
  refine V_onOk fun d C => ?_
  cases o d C <;> with_unfolding_all rfl
@[simp ↓] theorem V_call {o : List D → Cells → Option D} : V (eCall o fa ρ C) K = V (fa ρ C) (onOk (fun x C => V (ofO (o x C) C) K) K) := by
  rw [ev_call, V_bind]
  refine V_onOk fun d C => ?_
  cases o d C <;> with_unfolding_all rfl
/-- a test on a Prop, where it holds -/
def iff {γ : Type} (p : Prop) [Decidable p] (x y : Out γ) : Out γ := if p then x else y
@[simp ↓] theorem V_callP {n : Nat} {m : MD} : V (eCallP n m fa ρ C) K = V (fa ρ C) (onOk (fun ds C => V (if ds.length = n ∧ D.ncs ds = true then pureM m ds C else .stuck) K) K) := by rw [ev_callP, V_bind]
@[simp ↓] theorem V_callM {n : Nat} {m : MD} : V (eCallM n m fa ρ C) K = V (fa ρ C) (onOk (fun ds C => V (if ds.length = n then m ds C else .stuck) K) K) := by rw [ev_callM, V_bind]
@[simp ↓] theorem V_tup : V (eTup fa ρ C) K = V (fa ρ C) (onOk (fun xs C => V (if xs.length ≤ sizeLine then .ok (.tup xs) C else .stuck) K) K) := by rw [ev_tup, V_bind]
@[simp ↓] theorem V_lst : V (eLst fa ρ C) K = V (fa ρ C) (onOk (fun xs C => V (if xs.length ≤ sizeLine then .ok (.lst xs) C else .stuck) K) K) := by rw [ev_lst, V_bind]
@[simp] theorem Vif_t {f g : Env → Cells → Out α} : Vif true f g ρ C Ka = V (f ρ C) Ka := by with_unfolding_all rfl
@[simp] theorem Vif_f {f g : Env → Cells → Out α} : Vif false f g ρ C Ka = V (g ρ C) Ka := by with_unfolding_all rfl
@[simp] theorem Wif_t {f g : DS} : Wif true f g ρ C S = W (f ρ C) S := by with_unfolding_all rfl
@[simp] theorem Wif_f {f g : DS} : Wif false f g ρ C S = W (g ρ C) S := by with_unfolding_all rfl
theorem Vif_b {b : Bool} {f g : Env → Cells → Out α} (h1 : b = true → V (f ρ C) Ka) (h2 : b = false → V (g ρ C) Ka) : Vif b f g ρ C Ka := by
  cases b
  · with_unfolding_all exact h2 rfl
  · with_unfolding_all exact h1 rfl
theorem Wif_b {b : Bool} {f g : DS} (h1 : b = true → W (f ρ C) S) (h2 : b = false → W (g ρ C) S) : Wif b f g ρ C S := by
  cases b
  · with_unfolding_all exact h2 rfl
  · with_unfolding_all exact h1 rfl
theorem Vif_d {p : Prop} [Decidable p] {f g : Env → Cells → Out α} (h1 : p → V (f ρ C) Ka) (h2 : ¬ p → V (g ρ C) Ka) : Vif (decide p) f g ρ C Ka := Vif_b (fun h => h1 (of_decide_eq_true h)) fun h => h2 (of_decide_eq_false h)
theorem Wif_d {p : Prop} [Decidable p] {f g : DS} (h1 : p → W (f ρ C) S) (h2 : ¬ p → W (g ρ C) S) : Wif (decide p) f g ρ C S := Wif_b (fun h => h1 (of_decide_eq_true h)) fun h => h2 (of_decide_eq_false h)
@[simp ↓] theorem V_eif : V (eIf c f g ρ C) K = V (c ρ C) (onOk (fun b C => Vif b f g ρ C K) K) := by
  rw [ev_if, V_bind]
  with_unfolding_all rfl
@[simp ↓] theorem V_tru : V (bTru f ρ C) KB = V (f ρ C) (onOk (fun x C => V (ofO (truD C x) C) KB) KB) := by
  rw [ev_tru, V_bind]
  refine V_onOk fun d C => ?_
  cases truD C d <;> with_unfolding_all rfl
def asB : D → Option Bool
  | .bl b => some b
  | _ => none
@[simp] theorem asB_bl {b : Bool} : asB (.bl b) = some b := by with_unfolding_all rfl
@[simp ↓] theorem V_tst : V (bTst f ρ C) KB = V (f ρ C) (onOk (fun x C => V (ofO (asB x) C) KB) KB) := by
  rw [ev_tst, V_bind]
  refine V_onOk fun d C => ?_
  cases d <;> with_unfolding_all rfl
@[simp ↓] theorem V_not : V (bNot c ρ C) KB = V (c ρ C) (onOk (fun b C => KB (.ok (!b) C)) KB) := by
  rw [ev_not, V_bind]
  with_unfolding_all rfl
@[simp ↓] theorem V_bAnd {e : DB} : V (bAnd c e ρ C) KB = V (c ρ C) (onOk (fun b C => Vif b e (fun _ C => .ok false C) ρ C KB) KB) := by
  rw [ev_bAnd, V_bind]
  with_unfolding_all rfl
@[simp ↓] theorem V_bOr {e : DB} : V (bOr c e ρ C) KB = V (c ρ C) (onOk (fun b C => Vif b (fun _ C => .ok true C) e ρ C KB) KB) := by
  rw [ev_bOr, V_bind]
  with_unfolding_all rfl
@[simp ↓] theorem V_bYes : V (bYes ρ C) KB = KB (.ok true C) := by with_unfolding_all rfl
def seqO : D → Cells → Out (List D)
  | .lst xs, C => .ok xs C
  | .tup xs, C => .ok xs C
  | .flst xs, C => .ok xs C
  | _, _ => .stuck
@[simp] theorem seqO_l {xs : List D} : seqO (.lst xs) C = .ok xs C := by with_unfolding_all rfl
@[simp] theorem seqO_t {xs : List D} : seqO (.tup xs) C = .ok xs C := by with_unfolding_all rfl
@[simp] theorem seqO_f {xs : List D} : seqO (.flst xs) C = .ok xs C := by with_unfolding_all rfl
def listO : D → Cells → Out (List D)
  | .lst xs, C => .ok xs C
  | .tup xs, C => .ok xs C
  | .cel k, C => (match C[k]? with
    | some (Cell.lst xs) => .ok xs C
    | _ => .stuck)
  | _, _ => .stuck
@[simp] theorem listO_l {xs : List D} : listO (.lst xs) C = .ok xs C := by with_unfolding_all rfl
@[simp] theorem listO_t {xs : List D} : listO (.tup xs) C = .ok xs C := by with_unfolding_all rfl
@[simp] theorem listO_c {k : Nat} : listO (.cel k) C = match C[k]? with
    | some (Cell.lst xs) => .ok xs C
    | _ => .stuck := by with_unfolding_all rfl
def frzO : Option (D × Cells) → Out D
  | some (d, C) => .ok d C
  | none => .stuck
@[simp] theorem frzO_s : frzO (some (d, C)) = .ok d C := by with_unfolding_all rfl
def nxO : Option Env → Cells → SO
  | some ρ, C => .nx ρ C
  | none, _ => .stuck
@[simp] theorem nxO_s : nxO (some ρ) C = .nx ρ C := by with_unfolding_all rfl
def raiO (x z : Str) : List D → Cells → SO
  | [d], C => .exn ⟨x, some (z, d)⟩ C
  | _, _ => .stuck
@[simp] theorem raiO_s {x z : Str} : raiO x z [d] C = .exn ⟨x, some (z, d)⟩ C := by with_unfolding_all rfl
def putO (ρ : Env) (x d : D) : D → Cells → SO
  | .int i, C => (match celPut x C (setAt i d) with
    | some C' => .nx ρ C'
    | none => .stuck)
  | _, _ => .stuck
@[simp] theorem putO_i {i : Int} : putO ρ x d (.int i) C = match celPut x C (setAt i d) with
    | some C' => .nx ρ C'
    | none => .stuck := by with_unfolding_all rfl
def chk : D → Cells → Out Nat
  | .cel k, C => (match C[k]? with
    | some (Cell.lst _) => .ok k C
    | _ => .stuck)
  | _, _ => .stuck
@[simp] theorem chk_c {k : Nat} : chk (.cel k) C = match C[k]? with
    | some (Cell.lst _) => .ok k C
    | _ => .stuck := by with_unfolding_all rfl
def appO (g : List D → List D → Option (List D × D)) (k : Nat) (ds : List D) (C : Cells) : Out D := match C[k]? with
  | some (Cell.lst xs) => (match g xs ds with
    | some (ys, d) => .ok d (C.set k (.lst ys))
    | none => .stuck)
  | _ => .stuck
/-- x and g, x or g -/
@[irreducible] def andO (g : DE) (ρ : Env) (x : D) (C : Cells) (K : Out D → Prop) (_t : Tg K := tg) : Prop := match truD C x with
  | some b => Vif b g (fun _ C => .ok x C) ρ C K
  | none => K .stuck
@[irreducible] def orO (g : DE) (ρ : Env) (x : D) (C : Cells) (K : Out D → Prop) (_t : Tg K := tg) : Prop := match truD C x with
  | some b => Vif b (fun _ C => .ok x C) g ρ C K
  | none => K .stuck
@[simp ↓] theorem andO_b {b : Bool} : andO g ρ (.bl b) C K = Vif b g (fun _ C => .ok (.bl b) C) ρ C K := by with_unfolding_all rfl
@[simp ↓] theorem orO_b {b : Bool} : orO g ρ (.bl b) C K = Vif b (fun _ C => .ok (.bl b) C) g ρ C K := by with_unfolding_all rfl
@[simp ↓] theorem V_eAnd : V (eAnd f g ρ C) K = V (f ρ C) (onOk (fun x C => andO g ρ x C K) K) := by
  rw [ev_and, V_bind]
  refine V_onOk fun x C => ?_
  unfold andO
  cases truD C x <;> with_unfolding_all rfl
@[simp ↓] theorem V_eOr : V (eOr f g ρ C) K = V (f ρ C) (onOk (fun x C => orO g ρ x C K) K) := by
  rw [ev_or, V_bind]
  refine V_onOk fun x C => ?_
  unfold orO
  cases truD C x <;> with_unfolding_all rfl
@[simp ↓] theorem V_iSeq : V (iSeq f ρ C) KA = V (f ρ C) (onOk (fun x C => V (seqO x C) KA) KA) := by
  rw [ev_iSeq, V_bind]
  refine V_onOk fun d C => ?_
  cases d <;> with_unfolding_all rfl
@[simp ↓] theorem V_new {f : DF} : V (eNew f ρ C) K = V (f ρ C) (onOk (fun xs C => K (.ok (.cel C.length) (C ++ [.lst xs]))) K) := by
  rw [ev_new, V_bind]
  with_unfolding_all rfl
@[simp ↓] theorem V_val {f : DF} : V (eVal f ρ C) K = V (f ρ C) (onOk (fun xs C => K (.ok (.lst xs) C)) K) := by
  rw [ev_val, V_bind]
  with_unfolding_all rfl
@[simp ↓] theorem V_frz : V (eFrz f ρ C) K = V (f ρ C) (onOk (fun d C => V (frzO (frz d C)) K) K) := by
  rw [ev_frz, V_bind]
  refine V_onOk fun d C => ?_
  cases frz d C <;> with_unfolding_all rfl
def rngO : D → Cells → Out (List D)
  | .int j, C => if decide (-(2 ^ 62) ≤ j ∧ j < 2 ^ 62) then .ok (rangeD 0 j.toNat) C else .stuck
  | _, _ => .stuck
@[simp ↓] theorem V_rng1 : V (iRange1 f ρ C) KA = V (f ρ C) (onOk (fun x C => V (rngO x C) KA) KA) := by
  with_unfolding_all show V ((f ρ C).bind _) _ = _
  rw [V_bind]
  refine V_onOk fun d C => ?_
  cases d <;> with_unfolding_all rfl
theorem V_rng {j : Int} (h : -1000000 ≤ j ∧ j ≤ 1000000) (k : KA (.ok (rangeD 0 j.toNat) C)) : V (rngO (.int j) C) KA := by
  have e : rngO (.int j) C = .ok (rangeD 0 j.toNat) C := by
    refine if_pos (decide_eq_true ?_)
    omega
  rw [e, V_def]
  exact k
@[simp ↓] theorem V_fLst : V (fLst fa ρ C) KA = V (fa ρ C) (onOk (fun xs C => V (if xs.length ≤ sizeLine then .ok xs C else .stuck) KA) KA) := by
  with_unfolding_all show V ((fa ρ C).bind _) _ = _
  rw [V_bind]
@[simp ↓] theorem V_fList : V (fList f ρ C) KA = V (f ρ C) (onOk (fun x C => V (listO x C) KA) KA) := by
  with_unfolding_all show V ((f ρ C).bind _) _ = _
  rw [V_bind]
  refine V_onOk fun d C => ?_
  cases d <;> try with_unfolding_all rfl
  rename_i k
  rw [V_def, V_def]
  show KA (match (match C[k]? with
    | some (Cell.lst xs) => some xs
    | _ => none) with
    | some xs => Out.ok xs C
    | none => .stuck) = KA (match C[k]? with
    | some (Cell.lst xs) => .ok xs C
    | _ => .stuck)
  cases C[k]? with
  | none => rfl
  | some c => cases c <;> rfl
/-! statements -/
@[simp ↓] theorem W_nil : W (sNil ρ C) S = S (.nx ρ C) := by with_unfolding_all rfl
@[simp ↓] theorem W_seq {f g : DS} : W (sSeq f g ρ C) S = W (f ρ C) (onNx (fun ρ C => W (g ρ C) S) S) := by
  unfold sSeq W
  cases f ρ C <;> with_unfolding_all rfl
@[simp ↓] theorem W_ret : W (sRet f ρ C) S = V (f ρ C) (onOkS (fun d C => S (.rt d C)) S) := by
  rw [ev_ret, W_bindS]
  with_unfolding_all rfl
@[simp ↓] theorem W_drop : W (sDrop f ρ C) S = V (f ρ C) (onOkS (fun _ C => S (.nx ρ C)) S) := by
  rw [ev_drop, W_bindS]
  with_unfolding_all rfl
@[simp ↓] theorem W_if {f g : DS} : W (sIf c f g ρ C) S = V (c ρ C) (onOkS (fun b C => Wif b f g ρ C S) S) := by
  rw [ev_sif, W_bindS]
  with_unfolding_all rfl
@[simp ↓] theorem W_set : W (sSet i f ρ C) S = V (f ρ C) (onOkS (fun d C => S (.nx (ρ.set i (some d)) C)) S) := by
  rw [ev_set, W_bindS]
  with_unfolding_all rfl
@[simp ↓] theorem W_asg {t : Tgt} : W (sAsg t f ρ C) S = V (f ρ C) (onOkS (fun d C => W (nxO (t.bind d ρ) C) S) S) := by
  rw [ev_asg, W_bindS]
  refine V_onOkS fun d C => ?_
  cases t.bind d ρ <;> with_unfolding_all rfl
@[simp ↓] theorem W_raise0 {x : Str} : W (sRaise0 x ρ C) S = S (.exn ⟨x, none⟩ C) := by with_unfolding_all rfl
@[simp ↓] theorem W_raise1 {x z : Str} : W (sRaise1 x z fa ρ C) S = V (fa ρ C) (onOkS (fun ds C => W (raiO x z ds C) S) S) := by
  rw [ev_raise1, W_bindS]
  refine V_onOkS fun ds C => ?_
  match ds with
  | [] => with_unfolding_all rfl
  | [d] => with_unfolding_all rfl
  | _ :: _ :: _ => with_unfolding_all rfl
@[simp ↓] theorem W_for {t : Tgt} {b : DS} : W (sFor t fa b ρ C) S = V (fa ρ C) (onOkS (fun ds C => W (loopF t b ds ρ C) S) S) := by rw [ev_for, W_bindS]
@[simp ↓] theorem W_brk : W (sBrk ρ C) S = S (.bk ρ C) := by with_unfolding_all rfl
@[simp ↓] theorem W_store {fo fi fe : DE} : W (sStore fo fi fe ρ C) S = V (fe ρ C) (onOkS (fun d C => V (fo ρ C) (onOkS (fun x C => V (fi ρ C) (onOkS (fun y C => W (putO ρ x d y C) S) S)) S)) S) := by
  rw [ev_store, W_bindS]
  refine V_onOkS fun d C => ?_
  rw [W_bindS]
  refine V_onOkS fun x C => ?_
  rw [W_bindS]
  refine V_onOkS fun y C => ?_
  cases y <;> with_unfolding_all rfl
@[simp ↓] theorem V_mth {g : List D → List D → Option (List D × D)} : V (eMth g f fa ρ C) K = V (f ρ C) (onOk (fun x C => V (chk x C) (onOk (fun k C => V (fa ρ C) (onOk (fun ds C => V (appO g k ds C) K) K)) K)) K) := by
  rw [ev_mth, V_bind]
  refine V_onOk fun x C => ?_
  cases x <;> try with_unfolding_all rfl
  rename_i k
  rw [chk_c]
  have e1 : ∀ o : Option Cell, C[k]? = o → V (match C[k]? with
    | some (Cell.lst _) => (fa ρ C).bind fun ds C => match C[k]? with
      | some (Cell.lst xs) => match g xs ds with
        | some (ys, d) => .ok d (C.set k (.lst ys))
        | none => .stuck
      | _ => .stuck
    | _ => .stuck) K = V (match C[k]? with
    | some (Cell.lst _) => Out.ok k C
    | _ => .stuck) (onOk (fun k C => V (fa ρ C) (onOk (fun ds C => V (appO g k ds C) K) K)) K) := fun o hc => by
    cases o with
    | none => rw [hc]; with_unfolding_all rfl
    | some c =>
      cases c with
      | dead => rw [hc]; with_unfolding_all rfl
      | lst xs =>
        rw [hc]
        dsimp only
        rw [V_bind, V_ok, onOk_ok]
        refine V_onOk fun ds C => ?_
        unfold appO
        cases C[k]? with
        | none => with_unfolding_all rfl
        | some c =>
          cases c with
          | dead => with_unfolding_all rfl
          | lst ys => with_unfolding_all rfl
  exact e1 _ rfl
@[simp ↓] theorem V_bindI {o : Out α} {k : α → Cells → Out β} : V (o.bind k) Kb = V o (onOk (fun a C => V (k a C) Kb) Kb) := V_bind
@[simp ↓] theorem V_run {n : Nat} {F : DS} {ds : List D} : V (runM n F ds C) K = W (F (ds.map some ++ List.replicate (n - ds.length) none) C) (onRun K) := by
  unfold runM V W
  cases F (ds.map some ++ List.replicate (n - ds.length) none) C <;> with_unfolding_all rfl
theorem W_ite {p : Prop} [Decidable p] {u v : SO} (h1 : p → W u S) (h2 : ¬ p → W v S) : W (if p then u else v) S := by
  split
  · exact h1 ‹_›
  · exact h2 ‹_›
theorem V_ite {p : Prop} [Decidable p] {u v : Out α} (h1 : p → V u Ka) (h2 : ¬ p → V v Ka) : V (if p then u else v) Ka := by
  split
  · exact h1 ‹_›
  · exact h2 ‹_›
theorem V_of {o o' : Out α} (e : o = o') (h : Ka o') : V o Ka := by
  rw [e, V_def]
  exact h
theorem W_loop {t : Tgt} {b : DS} (I : Nat → Env → Cells → Prop) : ∀ {ds : List D} {k : Nat} {ρ : Env} {C : Cells}, I k ρ C → (∀ (j : Nat) d, ds[j]? = some d → ∀ ρ C, I (k + j) ρ C → OptP (t.bind d ρ) fun ρ1 => W (b ρ1 C) (onLoop (I (k + j + 1)) S)) → (∀ ρ C, I (k + ds.length) ρ C → S (.nx ρ C)) → W (loopF t b ds ρ C) S
  | [], k, ρ, C, h, _, he => by
    rw [W_def]
    exact he ρ C h
  | d :: ds, k, ρ, C, h, st, he => by
    have h1 := st 0 d rfl ρ C h
    rw [loop_cons]
    cases e : t.bind d ρ with
    | none => rw [e] at h1; exact (OptP_no h1).elim
    | some ρ1 =>
      rw [e, OptP_some] at h1
      have h1 : W (b ρ1 C) (onLoop (I (k + 1)) S) := h1
      have more : ∀ ρ2 C2, I (k + 1) ρ2 C2 → W (loopF t b ds ρ2 C2) S := fun ρ2 C2 h2 => W_loop I h2 (fun j d' hd ρ C hI => by
        have ek : k + 1 + j = k + (j + 1) := by omega
        rw [ek] at hI ⊢
        exact st (j + 1) d' (by simpa using hd) ρ C hI) (fun ρ C hI => he ρ C (by
        have ek : k + 1 + ds.length = k + (d :: ds).length := by rw [List.length_cons]; omega
        rwa [ek] at hI))
      dsimp only
      rw [W_def] at h1
      cases eb : b ρ1 C with
      | nx ρ2 C2 => rw [eb] at h1; exact more ρ2 C2 h1.un
      | ct ρ2 C2 => rw [eb] at h1; exact more ρ2 C2 h1.un
      | bk ρ2 C2 => rw [eb] at h1; rw [W_def]; exact h1
      | rt d C2 => rw [eb] at h1; rw [W_def]; exact h1
      | exn x C2 => rw [eb] at h1; rw [W_def]; exact h1
      | stuck => rw [eb] at h1; rw [W_def]; exact h1
/-- a loop over a row of things -/
theorem W_loopM {t : Tgt} {b : DS} {γ : Type} {xs : List γ} {enc : γ → D} (I : Nat → Env → Cells → Prop) (h0 : I 0 ρ C) (hs : ∀ (j : Nat) (x : γ), xs[j]? = some x → ∀ ρ C, I j ρ C → OptP (t.bind (enc x) ρ) fun ρ1 => W (b ρ1 C) (onLoop (I (j + 1)) S)) (he : ∀ ρ C, I xs.length ρ C → S (.nx ρ C)) :
    W (loopF t b (xs.map enc) ρ C) S := W_loop (k := 0) I h0 (fun j d hd ρ C hI => by
  rw [List.getElem?_map] at hd
  obtain ⟨x, h1, rfl⟩ := Option.map_eq_some_iff.mp hd
  rw [Nat.zero_add] at hI ⊢
  exact hs j x h1 ρ C hI) fun ρ C hI => he ρ C (by simpa using hI)
/-- .. over range(n) -/
theorem W_loopR {t : Tgt} {b : DS} {m : Nat} (I : Nat → Env → Cells → Prop) (h0 : I 0 ρ C) (hs : ∀ (j : Nat), j < m → ∀ ρ C, I j ρ C → OptP (t.bind (.int j) ρ) fun ρ1 => W (b ρ1 C) (onLoop (I (j + 1)) S)) (he : ∀ ρ C, I m ρ C → S (.nx ρ C)) :
    W (loopF t b (rangeD 0 m) ρ C) S := W_loop (k := 0) I h0 (fun j d hd ρ C hI => by
  have hj : j < m := by
    have := (List.getElem?_eq_some_iff.mp hd).1
    rwa [rangeD_len] at this
  unfold rangeD at hd
  rw [List.getElem?_map, List.getElem?_range hj] at hd
  have hd : D.int (0 + (j : Int)) = d := Option.some.inj hd
  rw [Int.zero_add] at hd
  subst hd
  rw [Nat.zero_add] at hI ⊢
  exact hs j hj ρ C hI) fun ρ C hI => he ρ C (by simpa [rangeD_len] using hI)
/-- a comprehension over a row of things -/
theorem V_comp {t : Tgt} {vs : List Nat} {fi : DA} {e : DE} {γ : Type} {xs : List γ} {enc g : γ → D} {C' : Cells} (p : γ → Bool) (hi : fi ρ C = .ok (xs.map enc) C') (hl : xs.length ≤ 1000000)
    (h : ∀ x ∈ xs, OptP (t.bind (enc x) (wipeE ρ vs)) fun ρd => V (c ρd C') (fun o => o = .ok (p x) C') ∧ (p x = true → V (e ρd C') fun o => o = .ok (g x) C')) (k : KA (.ok ((xs.filter p).map g) C')) : V (fComp t vs fi c e ρ C) KA := by
  have key : ∀ (l : List γ) (acc : List D), (∀ x ∈ l, x ∈ xs) → acc.length + l.length ≤ sizeLine → loopC t c e (wipeE ρ vs) (l.map enc) acc C' = .ok (acc ++ (l.filter p).map g) C' := by
    intro l
    induction l with
    | nil => intro acc _ _; simp [loopC]
    | cons x l ih =>
      intro acc hm hz
      have hx := h x (hm x (by simp))
      simp only [List.length_cons] at hz
      rw [List.map_cons]
      unfold loopC
      cases eb : t.bind (enc x) (wipeE ρ vs) with
      | none => rw [eb] at hx; exact (OptP_no hx).elim
      | some ρd =>
        rw [eb, OptP_some] at hx
        obtain ⟨h1, h2⟩ := hx
        rw [V_def] at h1 h2
        have h1 : c ρd C' = .ok (p x) C' := h1
        simp only [h1]
        cases hp : p x with
        | false =>
          simp only [hp]
          rw [ih acc (fun y hy => hm y (by simp [hy])) (by omega)]
          simp [hp]
        | true =>
          have h2 : e ρd C' = .ok (g x) C' := h2 hp
          simp only [hp, h2]
          rw [if_pos (by omega), ih (acc ++ [g x]) (fun y hy => hm y (by simp [hy])) (by simp; omega)]
          simp [hp]
  rw [V_def]
  unfold fComp
  rw [hi]
  show KA (loopC t c e (wipeE ρ vs) (xs.map enc) [] C')
  rw [key xs [] (fun _ h => h) (by simpa using line_le hl)]
  exact k
/-- .. all of them -/
theorem V_compA {t : Tgt} {vs : List Nat} {fi : DA} {e : DE} {γ : Type} {xs : List γ} {enc g : γ → D} {C' : Cells} (hi : fi ρ C = .ok (xs.map enc) C') (hl : xs.length ≤ 1000000)
    (h : ∀ x ∈ xs, OptP (t.bind (enc x) (wipeE ρ vs)) fun ρd => V (e ρd C') fun o => o = .ok (g x) C') (k : KA (.ok (xs.map g) C')) : V (fComp t vs fi bYes e ρ C) KA := V_comp (fun _ => true) hi hl (fun x hx => by
  have := h x hx
  cases eb : t.bind (enc x) (wipeE ρ vs) with
  | none => rw [eb] at this; exact (OptP_no this).elim
  | some ρd =>
    rw [eb, OptP_some] at this
    rw [OptP_some]
    refine ⟨?_, fun _ => this⟩
    rw [V_def]
    rfl) (by
  rw [List.filter_eq_self.mpr fun _ _ => by with_unfolding_all rfl]
  exact k)
end
/-- a spec read as an equation -/
theorem V_eq {α : Type} {o o' : Out α} (h : V o fun z => z = o') : o = o' := by
  rw [V_def] at h
  exact h
theorem pure_V {m : MD} {ds : List D} {d : D} {C : Cells} (h : V (m ds []) fun o => ∃ C', o = .ok d C') (hd : d.nc = true) : pureM m ds C = .ok d C := by
  rw [V_def] at h
  obtain ⟨C', e⟩ := h
  exact pure_ok e hd
theorem pure_VX {m : MD} {ds : List D} {x : Exn} {C : Cells} (h : V (m ds []) fun o => ∃ C', o = .exn x C') (hd : exnNc x = true) : pureM m ds C = .exn x C := by
  rw [V_def] at h
  obtain ⟨C', e⟩ := h
  exact pure_exn e hd
end Qv

/-! ## M29 -/
set_option Elab.async false
set_option linter.all false
set_option maxRecDepth 100000
set_option maxHeartbeats 800000
namespace Qv
open PySem PySem.Spec PyProof.Rows L2
/-! the store is the first cell -/
def stoL (cs : List Int) (a b st sd : Int) : List D := [.lst (cs.map D.int), .int a, .int b, .int st, .int sd]
def IsSto (s : Cell) : Prop := ∃ cs a b st sd, s = .lst (stoL cs a b st sd) ∧ 0 ≤ a
section
variable {s : Cell} {R : Cells} {xs : List D} {i many : Int} {d : D}
@[simp] theorem st_ix0 : dIx (.cel 0) (.int i) (Cell.lst xs :: R) = atI xs i := rfl
@[simp] theorem st_put0 {g : List D → Option (List D)} : celPut (.cel 0) (Cell.lst xs :: R) g = (g xs).map fun ys => Cell.lst ys :: R := rfl
variable {cs : List Int} {a b st sd : Int}
@[simp] theorem sto_0 : atI (stoL cs a b st sd) 0 = some (.lst (cs.map D.int)) := at_0
@[simp] theorem sto_1 : atI (stoL cs a b st sd) 1 = some (.int a) := at_1
@[simp] theorem sto_2 : atI (stoL cs a b st sd) 2 = some (.int b) := at_2
@[simp] theorem sto_3 : atI (stoL cs a b st sd) 3 = some (.int st) := at_nat (k := 3) rfl
@[simp] theorem sto_4 : atI (stoL cs a b st sd) 4 = some (.int sd) := at_nat (k := 4) rfl
@[simp] theorem st_p1 {x : Int} : setAt 1 (.int x) (stoL cs a b st sd) = some (stoL cs x b st sd) := rfl
@[simp] theorem st_p2 {x : Int} : setAt 2 (.int x) (stoL cs a b st sd) = some (stoL cs a x st sd) := rfl
@[simp] theorem st_p3 {x : Int} : setAt 3 (.int x) (stoL cs a b st sd) = some (stoL cs a b x sd) := rfl
@[simp] theorem pow_18 {C : Cells} : dPow (.int 10) (.int 18) C = some (.int 1000000000000000000) := by with_unfolding_all rfl
theorem sp_take (hs : IsSto s) (hm : many < 1000000) : ∃ r s', IsSto s' ∧ m_law_take [.cel 0, .int many] (s :: R) = .ok (.int r) (s' :: R) ∧ 0 ≤ r ∧ (2 ≤ many → r < many) ∧ (many < 2 → r = 0) := by
  obtain ⟨cs, a, b, st, sd, rfl, ha⟩ := hs
  by_cases h2 : many < 2
  · refine ⟨0, .lst (stoL cs a b (st + 1) sd), ⟨cs, a, b, st + 1, sd, rfl, ha⟩, ?_, by omega, by omega, fun _ => rfl⟩
    simp [m_law_take, N_law_take, F_law_take, h2]
  · have hdiv : ∀ (x : Int) (C : Cells), dDiv (.int x) (.int many) C = some (.int (x / many)) := fun x C => dDiv_ii (by omega) (by omega)
    have hp : 0 < many := by omega
    have mod : ∀ x : Int, 0 ≤ x % many ∧ x % many < many := fun x => ⟨Int.emod_nonneg _ (by omega), Int.emod_lt_of_pos _ hp⟩
    by_cases h3 : many ≤ b
    · refine ⟨b % many, .lst (stoL cs a (b / many) (st + 1) sd), ⟨cs, a, b / many, st + 1, sd, rfl, ha⟩, ?_, (mod _).1, fun _ => (mod _).2, fun h => absurd h h2⟩
      simp [m_law_take, N_law_take, F_law_take, h2, h3, hp, hdiv]
    · by_cases h4 : (cs.length : Int) ≤ a
      · obtain ⟨z, hz⟩ := sp_mix (a := sd) (b := st) (C := Cell.lst (stoL cs a 0 (st + 1) sd) :: R)
        refine ⟨z % many, .lst (stoL cs a 0 (st + 1) sd), ⟨cs, a, 0, st + 1, sd, rfl, ha⟩, ?_, (mod _).1, fun _ => (mod _).2, fun h => absurd h h2⟩
        simp [m_law_take, N_law_take, F_law_take, h2, h3, h4, hp, hdiv, hz]
      · obtain ⟨k, rfl⟩ : ∃ k : Nat, a = k := ⟨a.toNat, by omega⟩
        have hk : k < cs.length := by omega
        have hc : atI (cs.map D.int) (k : Int) = some (.int cs[k]) := at_nat (by simp [hk])
        by_cases h5 : ((cs[k].natAbs : Nat) : Int) < 1000000000000000000
        · obtain ⟨z, hz⟩ := sp_mix (a := cs[k]) (b := st) (C := Cell.lst (stoL cs (k + 1) 0 (st + 1) sd) :: R)
          refine ⟨z % many, .lst (stoL cs (k + 1) 0 (st + 1) sd), ⟨cs, (k : Int) + 1, 0, st + 1, sd, rfl, by omega⟩, ?_, (mod _).1, fun _ => (mod _).2, fun h => absurd h h2⟩
          have h4' : ¬ cs.length ≤ k := by omega
          simp [m_law_take, N_law_take, F_law_take, h2, h3, h4', hp, hdiv, hz, hc, h5]
        · refine ⟨(cs[k].natAbs : Int) % many, .lst (stoL cs (k + 1) ((cs[k].natAbs : Int) / many) (st + 1) sd), ⟨cs, (k : Int) + 1, _, st + 1, sd, rfl, by omega⟩, ?_, (mod _).1, fun _ => (mod _).2, fun h => absurd h h2⟩
          have h4' : ¬ cs.length ≤ k := by omega
          simp [m_law_take, N_law_take, F_law_take, h2, h3, h4', hp, hdiv, hc, h5]
end
end Qv

/-! ## M30 -/
set_option Elab.async false
set_option linter.all false
set_option maxRecDepth 100000
set_option maxHeartbeats 800000
namespace Qv
open PySem PySem.Spec PyProof.Rows L2
/-! drawing -/
section
variable {s : Cell} {R : Cells} {many : Int}
theorem sp_odds (hs : IsSto s) (hm : many < 1000000) : ∃ b s', IsSto s' ∧ m_law_odds [.cel 0, .int many] (s :: R) = .ok (.bl b) (s' :: R) := by
  obtain ⟨r, s', h1, e, _⟩ := sp_take (R := R) hs hm
  exact ⟨decide (r = 0), s', h1, by simp [m_law_odds, N_law_odds, F_law_odds, e]⟩
@[simp] theorem at_3 {x y z d : D} {l : List D} : atI (x :: y :: z :: d :: l) 3 = some d := at_nat (k := 3) rfl
theorem lst_ok {l : List D} (h : l.length ≤ 1000000) : (l.length ≤ sizeLine) = True := eq_true (line_le h)
theorem sp_number {low high : Int} (hs : IsSto s) (hl : high - low < 900000) : ∃ r s', IsSto s' ∧ m_law_number [.cel 0, .int low, .int high] (s :: R) = .ok (.int r) (s' :: R) ∧ (high ≤ low → r = low) ∧ (low < high → low ≤ r ∧ r ≤ high) := by
  by_cases h : high ≤ low
  · exact ⟨low, s, hs, by simp [m_law_number, N_law_number, F_law_number, h], fun _ => rfl, fun z => by omega⟩
  · obtain ⟨b, s1, h1, e1⟩ := sp_odds (R := R) (many := 3) hs (by omega)
    have h4 : 4 ≤ sizeLine := line_le (by omega)
    cases b with
    | true =>
      obtain ⟨r, s2, h2, e2, r0, r4, _⟩ := sp_take (R := R) (many := 4) h1 (by omega)
      have r4 := r4 (by omega)
      have fin : ∀ q : Int, low ≤ q → q ≤ high → atI [D.int low, .int high, .int (low + 1), .int (high - 1)] r = some (.int q) → ∃ r s', IsSto s' ∧ m_law_number [.cel 0, .int low, .int high] (s :: R) = .ok (.int r) (s' :: R) ∧ (high ≤ low → r = low) ∧ (low < high → low ≤ r ∧ r ≤ high) := fun q q1 q2 hq =>
        ⟨q, s2, h2, by simp [m_law_number, N_law_number, F_law_number, h, e1, e2, h4, hq], fun z => absurd z h, fun _ => ⟨q1, q2⟩⟩
      rcases (show r = 0 ∨ r = 1 ∨ r = 2 ∨ r = 3 by omega) with rfl | rfl | rfl | rfl
      · exact fin low (by omega) (by omega) at_0
      · exact fin high (by omega) (by omega) at_1
      · exact fin (low + 1) (by omega) (by omega) at_2
      · exact fin (high - 1) (by omega) (by omega) at_3
    | false =>
      obtain ⟨r, s2, h2, e2, r0, r4, r5⟩ := sp_take (R := R) (many := high - low + 1) h1 (by omega)
      have r4 := r4 (by omega)
      exact ⟨low + r, s2, h2, by simp [m_law_number, N_law_number, F_law_number, h, e1, e2], fun z => absurd z h, fun _ => by omega⟩
/-- .. as a number between two -/
theorem sp_between {low high : Int} (hs : IsSto s) (h : low ≤ high) (hl : high - low < 900000) : ∃ r s', IsSto s' ∧ m_law_number [.cel 0, .int low, .int high] (s :: R) = .ok (.int r) (s' :: R) ∧ low ≤ r ∧ r ≤ high := by
  obtain ⟨r, s', h1, e, h2, h3⟩ := sp_number (R := R) hs hl
  exact ⟨r, s', h1, e, by omega, by omega⟩
theorem sp_below (hs : IsSto s) (h : 1 ≤ many) (hm : many < 1000000) : ∃ r s', IsSto s' ∧ m_law_take [.cel 0, .int many] (s :: R) = .ok (.int r) (s' :: R) ∧ 0 ≤ r ∧ r < many := by
  obtain ⟨r, s', h1, e, h2, h3, h4⟩ := sp_take (R := R) hs hm
  exact ⟨r, s', h1, e, h2, by omega⟩
theorem sp_pick {xs : List D} (hs : IsSto s) (h0 : xs ≠ []) (hl : xs.length < 1000000) : ∃ (i : Nat) (d : D) (s' : Cell), IsSto s' ∧ m_law_pick [.cel 0, .lst xs] (s :: R) = .ok d (s' :: R) ∧ xs[i]? = some d := by
  have h1 : 0 < xs.length := List.length_pos_iff.mpr h0
  obtain ⟨r, s', h2, e, r0, r1⟩ := sp_below (R := R) (many := xs.length) hs (by omega) (by omega)
  obtain ⟨i, rfl⟩ : ∃ i : Nat, r = i := ⟨r.toNat, by omega⟩
  have hi : i < xs.length := by omega
  have hg : xs[i]? = some xs[i] := List.getElem?_eq_getElem hi
  exact ⟨i, xs[i], s', h2, by simp [m_law_pick, N_law_pick, F_law_pick, e, at_nat hg], hg⟩
end
/-! a row is shuffled -/
theorem get_app {s : Cell} {R : Cells} {c : Cell} : (s :: (R ++ [c]))[R.length + 1]? = some c := by simp
theorem set_app {s : Cell} {R : Cells} {c c' : Cell} : (s :: (R ++ [c])).set (R.length + 1) c' = s :: (R ++ [c']) := by simp [List.set_append]
theorem set_nat {xs : List D} {k : Nat} {d : D} (h : k < xs.length) : setAt (k : Int) d xs = some (xs.set k d) := by
  unfold setAt ixN
  rw [if_pos (by omega), if_pos (by omega)]
  simp
end Qv

/-! ## M31 -/
set_option Elab.async false
set_option linter.all false
set_option maxRecDepth 100000
set_option maxHeartbeats 800000
namespace Qv
open PySem PySem.Spec PyProof.Rows L2
theorem small_le (k : Nat) (h : k ≤ 1000000) : (k ≤ sizeLine) = True := eq_true (line_le h)
section
variable {s : Cell} {R : Cells} {K : Out D → Prop}
theorem v_take {many : Int} (hs : IsSto s) (h : 1 ≤ many) (hm : many < 1000000) (k : ∀ r s', IsSto s' → 0 ≤ r → r < many → K (.ok (.int r) (s' :: R))) : V (m_law_take [.cel 0, .int many] (s :: R)) K := by
  obtain ⟨r, s', h1, e, h2, h3⟩ := sp_below (R := R) hs h hm
  exact V_of e (k r s' h1 h2 h3)
theorem v_odds {many : Int} (hs : IsSto s) (hm : many < 1000000) (k : ∀ b s', IsSto s' → K (.ok (.bl b) (s' :: R))) : V (m_law_odds [.cel 0, .int many] (s :: R)) K := by
  obtain ⟨b, s', h1, e⟩ := sp_odds (R := R) hs hm
  exact V_of e (k b s' h1)
theorem v_number {low high : Int} (hs : IsSto s) (h : low ≤ high) (hl : high - low < 900000) (k : ∀ r s', IsSto s' → low ≤ r → r ≤ high → K (.ok (.int r) (s' :: R))) : V (m_law_number [.cel 0, .int low, .int high] (s :: R)) K := by
  obtain ⟨r, s', h1, e, h2, h3⟩ := sp_between (R := R) hs h hl
  exact V_of e (k r s' h1 h2 h3)
theorem v_pick {xs : List D} (hs : IsSto s) (h0 : xs ≠ []) (hl : xs.length < 1000000) (k : ∀ (i : Nat) d s', IsSto s' → xs[i]? = some d → K (.ok d (s' :: R))) : V (m_law_pick [.cel 0, .lst xs] (s :: R)) K := by
  obtain ⟨i, d, s', h1, e, h2⟩ := sp_pick (R := R) hs h0 hl
  exact V_of e (k i d s' h1 h2)
@[simp] theorem celPut_c {k : Nat} {C : Cells} {g : List D → Option (List D)} : celPut (.cel k) C g = match C[k]? with
    | some (Cell.lst xs) => (g xs).map fun ys => C.set k (.lst ys)
    | _ => none := rfl
@[simp] theorem dIx_c {k : Nat} {C : Cells} {i : Int} : dIx (.cel k) (.int i) C = match C[k]? with
    | some (Cell.lst xs) => atI xs i
    | _ => none := by
  show (match C[k]? with
    | some (Cell.lst xs) => some xs
    | _ => none).bind _ = _
  split <;> rfl
@[simp] theorem len_cel {k : Nat} {C : Cells} : fn1 lenD [.cel k] C = match C[k]? with
    | some (Cell.lst xs) => some (.int xs.length)
    | _ => none := by
  show lenD (.cel k) C = _
  unfold lenD
  show (match C[k]? with
    | some (Cell.lst xs) => some xs
    | _ => none).map _ = _
  split <;> rfl
@[simp] theorem frz_c {k : Nat} {C : Cells} : frz (.cel k) C = match C[k]? with
    | some (Cell.lst xs) => if D.ncs xs = true then some (.lst xs, C.set k .dead) else none
    | _ => none := rfl
end
section
variable {C : Cells} {n : Int} {p : Int × Int}
@[simp] theorem ix_line0 : dIx (dLine n) (.int 0) C = some (.str "line") := at_0
@[simp] theorem ix_line1 : dIx (dLine n) (.int 1) C = some (.int n) := at_1
@[simp] theorem ix_pc0 : dIx (dPc p) (.int 0) C = some (.int p.1) := at_0
@[simp] theorem ix_pc1 : dIx (dPc p) (.int 1) C = some (.int p.2) := at_1
theorem pc_tup {a b : Int} : D.tup [.int a, .int b] = dPc (a, b) := rfl
theorem line_tup : D.tup [.str "line", .int n] = dLine n := rfl
theorem dPcs_snoc {ps : List (Int × Int)} : dPcs (ps ++ [p]) = dPcs ps ++ [dPc p] := by simp [dPcs]
theorem dPcs_len {ps : List (Int × Int)} : (dPcs ps).length = ps.length := by simp [dPcs]
@[simp] theorem min2_i {a b : Int} : fn2 min2D [.int a, .int b] C = some (.int (if b < a then b else a)) := rfl
@[simp] theorem max2_i {a b : Int} : fn2 max2D [.int a, .int b] C = some (.int (if a < b then b else a)) := rfl
/-- one more at a cell's end -/
theorem V_app1 {k : Nat} {xs : List D} {d : D} {K : Out D → Prop} (h : C[k]? = some (.lst xs)) (hl : xs.length < 900000) (hk : K (.ok .non (C.set k (.lst (xs ++ [d]))))) : V (appO mAppend k [d] C) K := by
  have e : mAppend xs [d] = some (xs ++ [d], .non) := app_one (by have := line_le (n := xs.length + 1) (by omega); omega)
  unfold appO
  rw [h]
  dsimp only
  rw [e, V_def]
  exact hk
end
section
variable {ρ : Env} {C : Cells} {f : DE} {l u : DO} {K : Out D → Prop} {KO : Out (Option Int) → Prop}
@[simp ↓] theorem V_oNone : V (oNone ρ C) KO = KO (.ok none C) := by with_unfolding_all rfl
def intO : D → Cells → Out (Option Int)
  | .int i, C => .ok (some i) C
  | _, _ => .stuck
@[simp] theorem intO_i {i : Int} : intO (.int i) C = .ok (some i) C := rfl
@[simp ↓] theorem V_oSome : V (oSome f ρ C) KO = V (f ρ C) (onOk (fun x C => V (intO x C) KO) KO) := by
  unfold oSome
  rw [V_bind]
  refine V_onOk fun x C => ?_
  cases x <;> with_unfolding_all rfl
@[simp ↓] theorem V_slice : V (eSlice f l u ρ C) K = V (f ρ C) (onOk (fun x C => V (l ρ C) (onOk (fun lo C => V (u ρ C) (onOk (fun hi C => V (ofO (cutD x lo hi C) C) K) K)) K)) K) := by
  rw [ev_slice, V_bind]
  refine V_onOk fun x C => ?_
  rw [V_bind]
  refine V_onOk fun lo C => ?_
  rw [V_bind]
  refine V_onOk fun hi C => ?_
  cases cutD x lo hi C <;> with_unfolding_all rfl
theorem cut_to {xs : List D} {j : Int} (h : 0 ≤ j) : cutG xs none (some j) = xs.take j.toNat := by
  obtain ⟨k, rfl⟩ : ∃ k : Nat, j = k := ⟨j.toNat, by omega⟩
  unfold cutG
  rw [HT.sIx_nat, HT.sIx_none]
  by_cases h : k ≤ xs.length
  · rw [Nat.min_eq_left h]
    simp
  · rw [Nat.min_eq_right (by omega)]
    simp
    rw [List.take_of_length_le (by omega)]
end
/-! a loop that may break -/
def onJ (J : Env → Cells → Prop) (S : SO → Prop) : SO → Prop
  | .nx ρ C => Hold J ρ C
  | o => S o
section
variable {ρ : Env} {C : Cells} {J : Env → Cells → Prop} {S : SO → Prop} {d : D} {e : Exn}
@[simp ↓] theorem onJ_nx : onJ J S (.nx ρ C) = Hold J ρ C := rfl
@[simp ↓] theorem onJ_rt : onJ J S (.rt d C) = S (.rt d C) := rfl
@[simp ↓] theorem onJ_exn : onJ J S (.exn e C) = S (.exn e C) := rfl
theorem W_mono {o : SO} {S' : SO → Prop} (h : W o S') (k : ∀ o, S' o → S o) : W o S := by
  rw [W_def] at h ⊢
  exact k _ h
theorem W_loopJ {t : Tgt} {b : DS} {ds : List D} (I : Nat → Env → Cells → Prop) (J : Env → Cells → Prop) (h0 : I 0 ρ C) (hs : ∀ (j : Nat) d, ds[j]? = some d → ∀ ρ C, I j ρ C → OptP (t.bind d ρ) fun ρ1 => W (b ρ1 C) (onLoop (I (j + 1)) (onJ J S))) (he : ∀ ρ C, I ds.length ρ C → J ρ C) (hJ : ∀ ρ C, J ρ C → S (.nx ρ C)) : W (loopF t b ds ρ C) S :=
  W_mono (S' := onJ J S) (W_loop (k := 0) I h0 (fun j d hd ρ C hI => by
    rw [Nat.zero_add] at hI ⊢
    exact hs j d hd ρ C hI) fun ρ C hI => hold (he ρ C (by rw [Nat.zero_add] at hI; exact hI))) fun o h => by
    cases o with
    | nx ρ C => exact hJ ρ C h.un
    | _ => exact h
theorem W_loopMJ {t : Tgt} {b : DS} {γ : Type} {xs : List γ} {enc : γ → D} (I : Nat → Env → Cells → Prop) (J : Env → Cells → Prop) (h0 : I 0 ρ C) (hs : ∀ (j : Nat) (x : γ), xs[j]? = some x → ∀ ρ C, I j ρ C → OptP (t.bind (enc x) ρ) fun ρ1 => W (b ρ1 C) (onLoop (I (j + 1)) (onJ J S))) (he : ∀ ρ C, I xs.length ρ C → J ρ C) (hJ : ∀ ρ C, J ρ C → S (.nx ρ C)) : W (loopF t b (xs.map enc) ρ C) S :=
  W_mono (S' := onJ J S) (W_loopM I h0 hs fun ρ C hI => hold (he ρ C hI)) fun o h => by
    cases o with
    | nx ρ C => exact hJ ρ C h.un
    | _ => exact h
theorem W_loopRJ {t : Tgt} {b : DS} {m : Nat} (I : Nat → Env → Cells → Prop) (J : Env → Cells → Prop) (h0 : I 0 ρ C) (hs : ∀ (j : Nat), j < m → ∀ ρ C, I j ρ C → OptP (t.bind (.int j) ρ) fun ρ1 => W (b ρ1 C) (onLoop (I (j + 1)) (onJ J S))) (he : ∀ ρ C, I m ρ C → J ρ C) (hJ : ∀ ρ C, J ρ C → S (.nx ρ C)) : W (loopF t b (rangeD 0 m) ρ C) S :=
  W_mono (S' := onJ J S) (W_loopR I h0 hs fun ρ C hI => hold (he ρ C hI)) fun o h => by
    cases o with
    | nx ρ C => exact hJ ρ C h.un
    | _ => exact h
end
/-! l[i] += b -/
def augA : D → D → Cells → Out Int
  | x, .int i, C => (match (x.seq C).bind fun xs => atI xs i with
    | some (.int a) => .ok a C
    | _ => .stuck)
  | _, _, _ => .stuck
def augP (g : Int → Int → Int) (ρ : Env) (x y : D) (a : Int) : D → Cells → SO
  | .int b, C => putO ρ x (.int (g a b)) y C
  | _, _ => .stuck
section
variable {ρ : Env} {C : Cells} {S : SO → Prop} {x y : D} {a b i : Int} {g : Int → Int → Int}
@[simp] theorem augP_i : augP g ρ x y a (.int b) C = putO ρ x (.int (g a b)) y C := rfl
@[simp] theorem augA_c {k : Nat} : augA (.cel k) (.int i) C = match C[k]? with
    | some (Cell.lst xs) => (match atI xs i with
      | some (.int a) => .ok a C
      | _ => .stuck)
    | _ => .stuck := by
  show (match (match C[k]? with
    | some (Cell.lst xs) => some xs
    | _ => none).bind (fun xs => atI xs i) with
    | some (D.int a) => Out.ok a C
    | _ => .stuck) = _
  cases C[k]? with
  | none => rfl
  | some c => cases c <;> rfl
@[simp ↓] theorem W_aug {fo fi fe : DE} : W (sAug g fo fi fe ρ C) S = V (fo ρ C) (onOkS (fun x C => V (fi ρ C) (onOkS (fun y C => V (augA x y C) (onOkS (fun a C => V (fe ρ C) (onOkS (fun z C => W (augP g ρ x y a z C) S) S)) S)) S)) S) := by
  unfold sAug
  rw [W_bindS]
  refine V_onOkS fun x C => ?_
  rw [W_bindS]
  refine V_onOkS fun y C => ?_
  cases y <;> try with_unfolding_all rfl
  rename_i i
  have e1 : ∀ o : Option D, W (match o with
    | some (.int a) => (fe ρ C).bindS fun z C => match z with
      | .int b => match celPut x C (setAt i (.int (g a b))) with
        | some C' => .nx ρ C'
        | none => .stuck
      | _ => .stuck
    | _ => .stuck) S = V (match o with
    | some (.int a) => Out.ok a C
    | _ => .stuck) (onOkS (fun a C => V (fe ρ C) (onOkS (fun z C => W (augP g ρ x (.int i) a z C) S) S)) S) := fun o => by
    cases o with
    | none => with_unfolding_all rfl
    | some d =>
      cases d <;> try with_unfolding_all rfl
      dsimp only
      rw [W_bindS, V_ok, onOkS_ok]
      refine V_onOkS fun z C => ?_
      cases z <;> with_unfolding_all rfl
  exact e1 _
end
section
variable {n : Nat} {f : Nat → Int} {i : Nat}
theorem at_cnt (h : i < n) : atI (cntL n f) (i : Int) = some (.int (f i)) := at_nat (cntL_get h)
theorem set_cnt {v : Int} (h : i < n) : setAt (i : Int) (.int v) (cntL n f) = some (cntL n fun l => if l = i then v else f l) := by
  rw [set_nat (by rw [cntL_len]; exact h), cntL_set h]
end
/-! comprehensions over range(n), over a list -/
section
variable {ρ : Env} {C : Cells} {t : Tgt} {vs : List Nat} {f e : DE} {c : DB} {KA : Out (List D) → Prop}
theorem V_compR {n : Nat} (p : Nat → Bool) (g : Nat → D) (hf : f ρ C = .ok (.int n) C) (hl : n ≤ 1000000) (h : ∀ l, l < n → OptP (t.bind (.int l) (wipeE ρ vs)) fun ρd => V (c ρd C) (fun o => o = .ok (p l) C) ∧ (p l = true → V (e ρd C) fun o => o = .ok (g l) C))
    (k : KA (.ok (((List.range n).filter p).map g) C)) : V (fComp t vs (iRange1 f) c e ρ C) KA :=
  V_comp (xs := List.range n) (enc := fun l : Nat => D.int l) (C' := C) p (by
    rw [rng1 hf (by omega) (by omega)]
    unfold rangeD
    rw [Int.toNat_natCast]
    simp only [Int.zero_add]) (by rw [List.length_range]; exact hl) (fun l hl => h l (List.mem_range.mp hl)) k
theorem V_compRA {n : Nat} (g : Nat → D) (hf : f ρ C = .ok (.int n) C) (hl : n ≤ 1000000) (h : ∀ l, l < n → OptP (t.bind (.int l) (wipeE ρ vs)) fun ρd => V (e ρd C) fun o => o = .ok (g l) C)
    (k : KA (.ok ((List.range n).map g) C)) : V (fComp t vs (iRange1 f) bYes e ρ C) KA :=
  V_compA (xs := List.range n) (enc := fun l : Nat => D.int l) (C' := C) (by
    rw [rng1 hf (by omega) (by omega)]
    unfold rangeD
    rw [Int.toNat_natCast]
    simp only [Int.zero_add]) (by rw [List.length_range]; exact hl) (fun l hl => h l (List.mem_range.mp hl)) k
theorem V_compL {γ : Type} {xs : List γ} {enc : γ → D} (p : γ → Bool) (g : γ → D) (hf : f ρ C = .ok (.lst (xs.map enc)) C) (hl : xs.length ≤ 1000000) (h : ∀ x ∈ xs, OptP (t.bind (enc x) (wipeE ρ vs)) fun ρd => V (c ρd C) (fun o => o = .ok (p x) C) ∧ (p x = true → V (e ρd C) fun o => o = .ok (g x) C))
    (k : KA (.ok ((xs.filter p).map g) C)) : V (fComp t vs (iSeq f) c e ρ C) KA :=
  V_comp (xs := xs) (enc := enc) (C' := C) p (by rw [ev_iSeq, hf]; rfl) hl h k
theorem V_compLA {γ : Type} {xs : List γ} {enc : γ → D} (g : γ → D) (hf : f ρ C = .ok (.lst (xs.map enc)) C) (hl : xs.length ≤ 1000000) (h : ∀ x ∈ xs, OptP (t.bind (enc x) (wipeE ρ vs)) fun ρd => V (e ρd C) fun o => o = .ok (g x) C)
    (k : KA (.ok (xs.map g) C)) : V (fComp t vs (iSeq f) bYes e ρ C) KA :=
  V_compA (xs := xs) (enc := enc) (C' := C) (by rw [ev_iSeq, hf]; rfl) hl h k
end
@[simp] theorem truD_lst {C : Cells} {xs : List D} : truD C (.lst xs) = some (!xs.isEmpty) := rfl
/-! xs * k -/
section
variable {ρ : Env} {C : Cells} {f g : DE} {KA : Out (List D) → Prop} {xs : List D} {j : Int}
def repO (x y : D) (C : Cells) : Out (List D) := match x.seq C, y with
  | some xs, .int k => if decide (-(2 ^ 63) ≤ k ∧ k < 2 ^ 63 ∧ xs.length * k.toNat ≤ sizeLine) then .ok (List.replicate k.toNat xs).flatten C else .stuck
  | _, _ => .stuck
@[simp ↓] theorem V_fRep : V (fRep f g ρ C) KA = V (f ρ C) (onOk (fun x C => V (g ρ C) (onOk (fun y C => V (repO x y C) KA) KA)) KA) := by
  unfold fRep
  rw [V_bind]
  refine V_onOk fun x C => ?_
  rw [V_bind]
  refine V_onOk fun y C => ?_
  rw [V_def, V_def]
  unfold repO
  cases x.seq C with
  | none => rfl
  | some xs => cases y <;> rfl
theorem V_rep (h0 : 0 ≤ j) (h : (xs.length : Int) * j ≤ 1000000) (hj : j ≤ 1000000) (k : KA (.ok (List.replicate j.toNat xs).flatten C)) : V (repO (.lst xs) (.int j) C) KA := by
  obtain ⟨m, rfl⟩ : ∃ m : Nat, j = m := ⟨j.toNat, by omega⟩
  have hb : xs.length * m ≤ sizeLine := line_le (by
    have : ((xs.length * m : Nat) : Int) ≤ 1000000 := by rw [Int.natCast_mul]; exact h
    omega)
  have e : repO (.lst xs) (.int m) C = .ok (List.replicate ((m : Int)).toNat xs).flatten C := by
    simp only [repO, D.seq]
    rw [if_pos]
    refine decide_eq_true ⟨by omega, by omega, ?_⟩
    rw [Int.toNat_natCast]
    exact hb
  rw [e, V_def]
  exact k
@[simp] theorem natlt0 {j : Nat} : ((j : Int) < 0) = False := by simp
end
end Qv

/-! ## M32 -/
set_option Elab.async false
set_option linter.all false
set_option maxRecDepth 100000
set_option maxHeartbeats 800000
namespace Qv
open PySem PySem.Spec PyProof.Rows L2
section
variable {s : Cell} {R : Cells} {K : Out D → Prop}
theorem ncs_perm {xs ys : List D} (h : ys.Perm xs) (hn : D.ncs xs = true) : D.ncs ys = true := ncs_of fun y hy => by
  have : ∀ {l : List D}, D.ncs l = true → ∀ z ∈ l, z.nc = true := by
    intro l
    induction l with
    | nil => intro _ z hz; cases hz
    | cons a l ih =>
      intro h z hz
      rw [ncs_cons', Bool.and_eq_true] at h
      rcases List.mem_cons.mp hz with rfl | hz
      · exact h.1
      · exact ih h.2 z hz
  exact this hn y (h.mem_iff.mp hy)
theorem v_shuffle0 {th : D} {xs : List D} (hs : IsSto s) (hth : listO th (s :: R) = .ok xs (s :: R)) (hlen : ∀ s Z, fn1 lenD [th] (s :: (R ++ Z)) = some (.int xs.length)) (hn : D.ncs xs = true) (hl : xs.length < 100000) (k : ∀ ys s' Z, IsSto s' → ys.Perm xs → K (.ok (.lst ys) (s' :: (R ++ Z)))) : V (m_law_shuffle [.cel 0, th] (s :: R)) K := by
  unfold m_law_shuffle N_law_shuffle F_law_shuffle
  simp -dsimp [hth, hlen]
  refine V_rng (by omega) ?_
  simp -dsimp
  refine W_loopR (I := fun _ ρ C => ∃ x3 x4 x5 x6 s1 ys, ρ = [some (.cel 0), some th, some (.cel (R.length + 1)), x3, x4, x5, x6] ∧ C = s1 :: (R ++ [.lst ys]) ∧ IsSto s1 ∧ ys.Perm xs) ⟨_, _, _, _, _, _, rfl, rfl, hs, .refl _⟩ (fun j hj ρ C hI => ?_) (fun ρ C hI => ?_)
  · obtain ⟨x3, x4, x5, x6, s1, ys, rfl, rfl, h1, h2⟩ := hI
    have hly := h2.length_eq
    simp -dsimp [hlen]
    refine v_take h1 (by omega) (by omega) fun r s2 h3 r0 r1 => ?_
    obtain ⟨i, rfl⟩ : ∃ i : Nat, r = i := ⟨r.toNat, by omega⟩
    obtain ⟨l, hlast⟩ : ∃ l : Nat, (xs.length : Int) - 1 - (j : Int) = l := ⟨((xs.length : Int) - 1 - j).toNat, by omega⟩
    have hi : i < ys.length := by omega
    have hl' : l < ys.length := by omega
    have hgi : atI ys (i : Int) = some ys[i] := at_nat (List.getElem?_eq_getElem hi)
    have hgl : atI ys (l : Int) = some ys[l] := at_nat (List.getElem?_eq_getElem hl')
    have hset1 : setAt (i : Int) ys[l] ys = some (ys.set i ys[l]) := set_nat hi
    have hset2 : setAt (l : Int) ys[i] (ys.set i ys[l]) = some ((ys.set i ys[l]).set l ys[i]) := set_nat (by simpa using hl')
    simp -dsimp [hlast, hgi, hgl, hset1, hset2]
    exact hold ⟨_, _, _, _, _, _, rfl, rfl, h3, (List.set_set_perm hi hl').trans h2⟩
  · obtain ⟨x3, x4, x5, x6, s1, ys, rfl, rfl, h1, h2⟩ := hI
    simp -dsimp [ncs_perm h2 hn]
    exact k ys s1 [.dead] h1 h2
theorem v_shuffle {xs : List D} (hs : IsSto s) (hn : D.ncs xs = true) (hl : xs.length < 100000) (k : ∀ ys s' Z, IsSto s' → ys.Perm xs → K (.ok (.lst ys) (s' :: (R ++ Z)))) : V (m_law_shuffle [.cel 0, .lst xs] (s :: R)) K := v_shuffle0 hs rfl (fun _ _ => rfl) hn hl k
theorem v_shuffleC {i : Nat} {xs : List D} (hs : IsSto s) (hi : R[i]? = some (.lst xs)) (hn : D.ncs xs = true) (hl : xs.length < 100000) (k : ∀ ys s' Z, IsSto s' → ys.Perm xs → K (.ok (.lst ys) (s' :: (R ++ Z)))) : V (m_law_shuffle [.cel 0, .cel (i + 1)] (s :: R)) K := v_shuffle0 hs (by simp [hi]) (fun s Z => by
  have : (R ++ Z)[i]? = some (.lst xs) := by
    rw [List.getElem?_append_left (List.getElem?_eq_some_iff.mp hi).1]
    exact hi
  simp [this]) hn hl k
/-- .. of things -/
theorem perm_enc {γ : Type} {enc : γ → D} {dec : D → γ} (hd : ∀ x, dec (enc x) = x) {xs : List γ} {ys : List D} (h : ys.Perm (xs.map enc)) : ∃ zs : List γ, ys = zs.map enc ∧ zs.Perm xs := by
  refine ⟨ys.map dec, ?_, ?_⟩
  · rw [List.map_map]
    have : ∀ y ∈ ys, (enc ∘ dec) y = y := fun y hy => by
      obtain ⟨x, _, rfl⟩ := List.mem_map.mp (h.mem_iff.mp hy)
      show enc (dec (enc x)) = enc x
      rw [hd]
    have e := List.map_congr_left (f := enc ∘ dec) (g := id) this
    rw [e, List.map_id]
  · have h2 := h.map dec
    rw [List.map_map, show dec ∘ enc = id from funext hd, List.map_id] at h2
    exact h2
def unPc : D → Int × Int
  | .tup [.int a, .int b] => (a, b)
  | _ => (0, 0)
theorem perm_pcs {ps : List (Int × Int)} {ys : List D} (h : ys.Perm (dPcs ps)) : ∃ qs : List (Int × Int), ys = dPcs qs ∧ qs.Perm ps := perm_enc (enc := dPc) (dec := unPc) (fun _ => rfl) h
end
end Qv

/-! ## M33 -/
set_option Elab.async false
set_option linter.all false
set_option maxRecDepth 100000
set_option maxHeartbeats 800000
namespace Qv
open PySem PySem.Spec PyProof.Rows L2
/-! a stock that counts is built -/
section
variable {s : Cell} {R : Cells} {K : Out D → Prop} {n many : Int}
/-- the pieces so far: those before lie before at -/
structure Cnt0 (n at_ : Int) (ps : List Pc) : Prop where
  ok : ∀ p ∈ ps, okPc n p = true
  cn : Counts ps
  be : ∀ p ∈ ps, p.1 + p.2 < at_
/-- .. and in the run [a, e) with the cut c -/
structure Cnt1 (n a c e : Int) (ps : List Pc) : Prop where
  ok : ∀ p ∈ ps, okPc n p = true
  cn : Counts ps
  be : ∀ p ∈ ps, p.1 + p.2 < a ∨ (p.1 = a ∧ p.1 + p.2 ≤ c) ∨ (c < p.1 ∧ p.1 + p.2 = e) ∨ (p.1 = a ∧ p.1 + p.2 = e)
theorem Cnt1.add {a c e : Int} {ps : List Pc} (h : Cnt1 n a c e ps) (ha : 0 ≤ a) (hae : a < e) (hc : a ≤ c ∧ c ≤ e) {p : Pc} (hp : okPc n p = true) (hs : (p.1 = a ∧ p.1 + p.2 ≤ c) ∨ (c < p.1 ∧ p.1 + p.2 = e) ∨ (p.1 = a ∧ p.1 + p.2 = e)) : Cnt1 n a c e (ps ++ [p]) where
  ok := fun q hq => by
    rcases List.mem_append.mp hq with hq | hq
    · exact h.ok q hq
    · have : q = p := by simpa using hq
      rw [this]; exact hp
  cn := fun q hq r hr => by
    have hp' := okPc_iff.mp hp
    rcases List.mem_append.mp hq with hq | hq
    · rcases List.mem_append.mp hr with hr | hr
      · exact h.cn q hq r hr
      · have : r = p := by simpa using hr
        subst this
        have h1 := h.be q ‹_›
        have h2 := okPc_iff.mp (h.ok q ‹_›)
        unfold NoFault
        omega
    · have : q = p := by simpa using hq
      subst this
      rcases List.mem_append.mp hr with hr | hr
      · have h1 := h.be r hr
        have h2 := okPc_iff.mp (h.ok r hr)
        unfold NoFault
        omega
      · have : r = q := by simpa using hr
        subst this
        unfold NoFault
        omega
  be := fun q hq => by
    rcases List.mem_append.mp hq with hq | hq
    · exact h.be q hq
    · have : q = p := by simpa using hq
      subst this
      exact .inr hs
/-- the slots of _law_counting -/
def rhoC (R : Cells) (n many at_ : Int) (x6 x7 x8 x9 x10 x11 : Option D) : Env := [some (.cel 0), some (dLine n), some (.int many), some (.int n), some (.int at_), some (.cel (R.length + 1)), x6, x7, x8, x9, x10, x11]
theorem v_counting (hs : IsSto s) (hn : 1 ≤ n ∧ n ≤ 24) (hm : 1 ≤ many ∧ many ≤ 100) (k : ∀ ps s' Z, IsSto s' → (∀ p ∈ ps, okPc n p = true) → Counts ps → ps ≠ [] → ps.length ≤ 100 → (ps.length : Int) ≤ many → K (.ok (.lst (dPcs ps)) (s' :: (R ++ Z)))) : V (m_law_counting [.cel 0, dLine n, .int many] (s :: R)) K := by
  have h2s : 2 ≤ sizeLine := line_le (by omega)
  unfold m_law_counting N_law_counting F_law_counting
  simp -dsimp
  refine v_take hs (by split <;> omega) (by split <;> omega) fun a0 s1 h1 a0l a0h => ?_
  have ha0 : a0 < n := by split at a0h <;> omega
  simp -dsimp
  refine V_rng (by omega) ?_
  simp -dsimp
  refine W_loopRJ (I := fun k ρ C => ∃ at_ x6 x7 x8 x9 x10 x11 s1 ps, ρ = rhoC R n many at_ x6 x7 x8 x9 x10 x11 ∧ C = s1 :: (R ++ [.lst (dPcs ps)]) ∧ IsSto s1 ∧ Cnt0 n at_ ps ∧ ps.length ≤ 4 * k ∧ 0 ≤ at_ ∧ (k = 0 → at_ < n) ∧ (0 < k → ps ≠ []))
    (J := fun ρ C => ∃ at_ x6 x7 x8 x9 x10 x11 s1 ps, ρ = rhoC R n many at_ x6 x7 x8 x9 x10 x11 ∧ C = s1 :: (R ++ [.lst (dPcs ps)]) ∧ IsSto s1 ∧ Cnt0 n at_ ps ∧ ps.length ≤ 100 ∧ ps ≠ [])
    ⟨a0, _, _, _, _, _, _, s1, [], rfl, rfl, h1, ⟨by simp, (fun p hp => by simp at hp), by simp⟩, by simp, a0l, fun _ => ha0, by omega⟩ (fun j hj ρ C hI => ?_) (fun ρ C hI => ?_) (fun ρ C hJ => ?_)
  · obtain ⟨at_, x6, x7, x8, x9, x10, x11, s1, ps, rfl, rfl, h1, h2, h3, h4, h5, h6⟩ := hI
    unfold rhoC
    simp -dsimp
    refine Wif_d (fun hge => ?_) fun hlt => ?_
    · simp -dsimp
      exact hold ⟨at_, _, _, _, _, _, _, s1, ps, rfl, rfl, h1, h2, by omega, h6 (by omega)⟩
    · simp -dsimp
      refine v_number h1 (by omega) (by omega) fun e s2 h7 e1 e2 => ?_
      simp -dsimp
      refine v_number h7 (by omega) (by omega) fun c s3 h8 c1 c2 => ?_
      simp -dsimp
      refine v_take h8 (by omega) (by omega) fun m s4 h9 m1 m2 => ?_
      simp -dsimp
      refine V_rng (by omega) ?_
      simp -dsimp
      have start : Cnt1 n at_ c e ps := ⟨h2.ok, h2.cn, fun p hp => .inl (h2.be p hp)⟩
      refine W_loopR (I := fun k ρ C => ∃ x9 x10 x11 s1 qs, ρ = rhoC R n many at_ (some (.int j)) (some (.int e)) (some (.int c)) x9 x10 x11 ∧ C = s1 :: (R ++ [.lst (dPcs qs)]) ∧ IsSto s1 ∧ Cnt1 n at_ c e qs ∧ qs.length = ps.length + k)
        ⟨_, _, _, s4, ps, rfl, rfl, h9, start, rfl⟩ (fun i hi ρ C hI => ?_) (fun ρ C hI => ?_)
      · obtain ⟨x9, x10, x11, s1, qs, rfl, rfl, h1, h2, h10⟩ := hI
        unfold rhoC
        simp -dsimp
        refine v_take h1 (by omega) (by omega) fun md s2 h11 q1 q2 => ?_
        simp -dsimp
        refine Vif_d (fun hm0 => ?_) fun hm0 => ?_
        · simp -dsimp
          refine Wif_d (fun hc => ?_) fun hc => ?_
          · simp -dsimp
            refine v_number h11 (by omega) (by omega) fun u s3 h12 u1 u2 => ?_
            simp -dsimp [h2s, pc_tup]
            refine V_app1 (xs := dPcs qs) get_app (by rw [dPcs_len]; omega) ?_
            simp -dsimp
            exact hold ⟨_, _, _, s3, qs ++ [(at_, u)], rfl, by rw [dPcs_snoc], h12, h2.add (by omega) (by omega) ⟨by omega, by omega⟩ (okPc_iff.mpr ⟨by omega, by omega, by simp; omega⟩) (.inl ⟨rfl, by simp; omega⟩), by simp; omega⟩
          · have hm1 : ¬ md = 1 := by omega
            simp -dsimp [hm1]
            simp -dsimp [h2s, pc_tup]
            refine V_app1 (xs := dPcs qs) get_app (by rw [dPcs_len]; omega) ?_
            simp -dsimp
            exact hold ⟨_, _, _, _, qs ++ [(at_, e - at_)], rfl, by rw [dPcs_snoc], h11, h2.add (by omega) (by omega) ⟨by omega, by omega⟩ (okPc_iff.mpr ⟨by omega, by simp; omega, by simp; omega⟩) (.inr (.inr ⟨rfl, by simp; omega⟩)), by simp; omega⟩
        · simp -dsimp
          refine Vif_d (fun hm1 => ?_) fun hm1 => ?_
          · simp -dsimp
            refine Wif_d (fun hc => ?_) fun hc => ?_
            · simp -dsimp
              refine v_number h11 (by omega) (by omega) fun u s3 h12 u1 u2 => ?_
              simp -dsimp [h2s, pc_tup]
              refine V_app1 (xs := dPcs qs) get_app (by rw [dPcs_len]; omega) ?_
              simp -dsimp
              exact hold ⟨_, _, _, s3, qs ++ [(u, e - u)], rfl, by rw [dPcs_snoc], h12, h2.add (by omega) (by omega) ⟨by omega, by omega⟩ (okPc_iff.mpr ⟨by simp; omega, by simp; omega, by simp; omega⟩) (.inr (.inl ⟨by simp; omega, by simp; omega⟩)), by simp; omega⟩
            · simp -dsimp [h2s, pc_tup]
              refine V_app1 (xs := dPcs qs) get_app (by rw [dPcs_len]; omega) ?_
              simp -dsimp
              exact hold ⟨_, _, _, _, qs ++ [(at_, e - at_)], rfl, by rw [dPcs_snoc], h11, h2.add (by omega) (by omega) ⟨by omega, by omega⟩ (okPc_iff.mpr ⟨by omega, by simp; omega, by simp; omega⟩) (.inr (.inr ⟨rfl, by simp; omega⟩)), by simp; omega⟩
          · simp -dsimp
            simp -dsimp [h2s, pc_tup]
            refine V_app1 (xs := dPcs qs) get_app (by rw [dPcs_len]; omega) ?_
            simp -dsimp
            exact hold ⟨_, _, _, _, qs ++ [(at_, e - at_)], rfl, by rw [dPcs_snoc], h11, h2.add (by omega) (by omega) ⟨by omega, by omega⟩ (okPc_iff.mpr ⟨by omega, by simp; omega, by simp; omega⟩) (.inr (.inr ⟨rfl, by simp; omega⟩)), by simp; omega⟩
      · obtain ⟨x9, x10, x11, s1, qs, rfl, rfl, h1, h2, h10⟩ := hI
        unfold rhoC
        simp -dsimp
        refine v_take h1 (by omega) (by omega) fun g s2 h11 q1 q2 => ?_
        simp -dsimp
        have : (1 + m).toNat ≤ 4 ∧ 1 ≤ (1 + m).toNat := by omega
        exact hold ⟨_, _, _, _, _, _, _, s2, qs, rfl, rfl, h11, ⟨h2.ok, h2.cn, fun p hp => by have := h2.be p hp; omega⟩, by omega, by omega, by omega, fun _ z => by
          rw [z] at h10
          simp at h10
          omega⟩
  · obtain ⟨at_, x6, x7, x8, x9, x10, x11, s1, ps, rfl, rfl, h1, h2, h3, h4, h5, h6⟩ := hI
    exact ⟨at_, _, _, _, _, _, _, s1, ps, rfl, rfl, h1, h2, by omega, h6 (by omega)⟩
  · obtain ⟨at_, x6, x7, x8, x9, x10, x11, s1, ps, rfl, rfl, h1, h2, h3, h4⟩ := hJ
    unfold rhoC
    simp -dsimp
    refine v_shuffleC (i := R.length) (xs := dPcs ps) h1 (by simp) ncs_dPcs (by rw [dPcs_len]; omega) fun ys s2 Z h5 h6 => ?_
    obtain ⟨qs, rfl, h7⟩ := perm_pcs h6
    simp -dsimp [cut_to (show (0 : Int) ≤ many by omega)]
    have e : (dPcs qs).take many.toNat = dPcs (qs.take many.toNat) := by simp [dPcs]
    rw [e]
    refine k _ _ ([Cell.lst (dPcs ps)] ++ Z) h5 (fun p hp => h2.ok p (h7.mem_iff.mp (List.mem_of_mem_take hp))) (fun p hp q hq => h2.cn p (h7.mem_iff.mp (List.mem_of_mem_take hp)) q (h7.mem_iff.mp (List.mem_of_mem_take hq))) (fun z => ?_) ?_ ?_
    · have hl := h7.length_eq
      have hz : (qs.take many.toNat).length = 0 := by rw [z]; rfl
      rw [List.length_take] at hz
      have : 0 < ps.length := List.length_pos_iff.mpr h4
      omega
    · rw [List.length_take]
      have hl := h7.length_eq
      omega
    · rw [List.length_take]
      omega
end
end Qv

/-! ## M34 -/
set_option Elab.async false
set_option linter.all false
set_option maxRecDepth 100000
set_option maxHeartbeats 800000
namespace Qv
open PySem PySem.Spec PyProof.Rows L2
/-! asks within the counts are drawn -/
section
variable {s : Cell} {R : Cells} {K : Out D → Prop} {n : Nat} {many : Int}
/-- f, with g at the legs a .. a + k - 1 -/
def legF (g : Int → Int) (a : Int) (k : Nat) (f : Nat → Int) : Nat → Int := fun l => if a ≤ l ∧ (l : Int) < a + k then g (f l) else f l
theorem legF_0 {g : Int → Int} {a : Int} {f : Nat → Int} : legF g a 0 f = f := by
  funext l
  unfold legF
  rw [if_neg (by omega)]
theorem legF_s {g : Int → Int} {a : Int} {k i : Nat} {f : Nat → Int} (hi : a + k = (i : Int)) : (fun l => if l = i then g (legF g a k f i) else legF g a k f l) = legF g a (k + 1) f := by
  funext l
  unfold legF
  by_cases e : l = i
  · subst e
    rw [if_pos rfl, if_neg (by omega), if_pos (by omega)]
  · rw [if_neg e]
    by_cases e2 : a ≤ (l : Int) ∧ (l : Int) < a + k
    · rw [if_pos e2, if_pos (by omega)]
    · rw [if_neg e2, if_neg (by omega)]
theorem legF_at {g : Int → Int} {a : Int} {k i : Nat} {f : Nat → Int} (hi : a + k = (i : Int)) : legF g a k f i = f i := by
  unfold legF
  rw [if_neg (by omega)]
/-- the slots -/
def rhoW (R : Cells) (n : Nat) (ps : List Pc) (many : Int) (x5 x6 x7 x8 x9 x10 x11 x12 x13 : Option D) : Env := [some (.cel 0), some (dLine n), some (.lst (dPcs ps)), some (.int many), some (.int n), x5, x6, x7, x8, x9, x10, x11, x12, x13]
theorem rng_list {m : Nat} : rangeD 0 m = (List.range m).map fun l : Nat => D.int (0 + (l : Int)) := rfl
theorem v_within {ps : List Pc} (hs : IsSto s) (hn : 1 ≤ n ∧ n ≤ 24) (hm : 0 ≤ many ∧ many ≤ 100) (hp : ∀ p ∈ ps, okPc n p = true) (hl : ps.length ≤ 100) (k : ∀ as s' Z, IsSto s' → (∀ p ∈ as, okPc n p = true) → (∀ l, cnt as l ≤ cnt ps l) → (as.length : Int) ≤ many → K (.ok (.lst (dPcs as)) (s' :: (R ++ Z)))) :
    V (m_law_within_counts [.cel 0, dLine n, .lst (dPcs ps), .int many] (s :: R)) K := by
  have h2s : 2 ≤ sizeLine := line_le (by omega)
  unfold m_law_within_counts N_law_within_counts F_law_within_counts
  simp -dsimp
  refine V_compRA (n := n) (fun _ => D.int 0) (by simp) (by omega) (fun l hl => by simp -dsimp) ?_
  have e0 : (List.range n).map (fun _ => D.int 0) = cntL n (cnt []) := rfl
  rw [e0]
  simp -dsimp
  refine W_loopM (xs := ps) (enc := dPc) (I := fun k ρ C => ∃ x6 x7 x8 x9 x10 x11 x12 x13, ρ = rhoW R n ps many (some (.cel (R.length + 1))) x6 x7 x8 x9 x10 x11 x12 x13 ∧ C = s :: (R ++ [.lst (cntL n (cnt (ps.take k)))])) ⟨_, _, _, _, _, _, _, _, rfl, by simp⟩ (fun j p hpj ρ C hI => ?_) (fun ρ C hI => ?_)
  · obtain ⟨x6, x7, x8, x9, x10, x11, x12, x13, rfl, rfl⟩ := hI
    have hok := okPc_iff.mp (hp p (List.mem_of_getElem? hpj))
    unfold rhoW
    simp -dsimp
    refine V_rng (by omega) ?_
    simp -dsimp
    refine W_loopR (I := fun k ρ C => ∃ x8, ρ = rhoW R n ps many (some (.cel (R.length + 1))) x6 (some (dPc p)) x8 x9 x10 x11 x12 x13 ∧ C = s :: (R ++ [.lst (cntL n (legF (· + 1) p.1 k (cnt (ps.take j))))])) ⟨_, rfl, by rw [legF_0]⟩ (fun i hi ρ C hI => ?_) (fun ρ C hI => ?_)
    · obtain ⟨x8, rfl, rfl⟩ := hI
      obtain ⟨m, hm⟩ : ∃ m : Nat, p.1 + (i : Int) = m := ⟨(p.1 + i).toNat, by omega⟩
      have hmn : m < n := by omega
      have hmod : ((m : Nat) : Int) % (n : Int) = m := Int.emod_eq_of_lt (by omega) (by omega)
      have hpos : 0 < n := by omega
      unfold rhoW
      simp -dsimp [hm, hmod, hpos, at_cnt hmn, set_cnt hmn]
      refine hold ⟨_, rfl, ?_⟩
      rw [legF_s (g := (· + 1)) hm]
    · obtain ⟨x8, rfl, rfl⟩ := hI
      simp -dsimp
      refine hold ⟨_, _, _, _, _, _, _, _, rfl, ?_⟩
      congr 3
      have et : ps.take (j + 1) = ps.take j ++ [p] := by
        rw [List.take_add_one, hpj]
        rfl
      refine congrArg _ (cntL_congr fun l _ => ?_)
      rw [et, cnt_snoc]
      unfold legF cov
      have : ((p.2.toNat : Nat) : Int) = p.2 := by omega
      rw [this]
      simp only [decide_eq_true_eq]
      split <;> simp
  · obtain ⟨x6, x7, x8, x9, x10, x11, x12, x13, rfl, rfl⟩ := hI
    rw [List.take_length]
    unfold rhoW
    simp -dsimp
    refine v_number hs (by omega) (by omega) fun m0 s1 h1 m1 m2 => ?_
    simp -dsimp
    refine V_rng (by omega) ?_
    simp -dsimp
    have ex : ∀ {f : Nat → Int} {l : Nat}, legF (· - 1) 0 0 f l = f l := by intros; rw [legF_0]
    refine W_loopRJ (I := fun k ρ C => ∃ x6 x8 x10 x11 x12 x13 s1 as, ρ = rhoW R n ps many (some (.cel (R.length + 1))) x6 x7 x8 (some (.cel (R.length + 2))) x10 x11 x12 x13 ∧ C = s1 :: (R ++ [.lst (cntL n fun l => cnt ps l - cnt as l), .lst (dPcs as)]) ∧ IsSto s1 ∧ (∀ p ∈ as, okPc n p = true) ∧ (∀ l, cnt as l ≤ cnt ps l) ∧ as.length = k)
      (J := fun ρ C => ∃ x6 x8 x10 x11 x12 x13 s1 as, ρ = rhoW R n ps many (some (.cel (R.length + 1))) x6 x7 x8 (some (.cel (R.length + 2))) x10 x11 x12 x13 ∧ C = s1 :: (R ++ [.lst (cntL n fun l => cnt ps l - cnt as l), .lst (dPcs as)]) ∧ IsSto s1 ∧ (∀ p ∈ as, okPc n p = true) ∧ (∀ l, cnt as l ≤ cnt ps l) ∧ (as.length : Int) ≤ many)
      ⟨_, _, _, _, _, _, s1, [], rfl, by simp [dPcs, cnt_nil], h1, by simp, fun l => by rw [cnt_nil]; unfold cnt; omega, rfl⟩ (fun j hj ρ C hI => ?_) (fun ρ C hI => ?_) (fun ρ C hJ => ?_)
    · obtain ⟨x6, x8, x10, x11, x12, x13, s1, as, rfl, rfl, h1, h2, h3, h4⟩ := hI
      unfold rhoW
      simp -dsimp
      refine V_compR (n := n) (fun l => decide (0 < cnt ps l - cnt as l)) (fun l => D.int l) (by simp) (by omega) (fun l hl => ?_) ?_
      · simp -dsimp [wipeE, at_cnt hl]
      generalize hF : (List.range n).filter (fun l => decide (0 < cnt ps l - cnt as l)) = F
      have hFl : F.length ≤ n := by
        rw [← hF]
        exact Nat.le_trans (List.length_filter_le _ _) (by simp)
      by_cases hFe : F = []
      · subst hFe
        simp -dsimp
        exact hold ⟨_, _, _, _, _, _, s1, as, rfl, rfl, h1, h2, h3, by omega⟩
      have hFe2 : F.isEmpty = false := by simpa using hFe
      simp -dsimp [hFe2]
      refine v_pick h1 (by simpa using hFe) (by simp; omega) fun i d s2 h5 hd => ?_
      rw [List.getElem?_map] at hd
      obtain ⟨l, hl1, rfl⟩ := Option.map_eq_some_iff.mp hd
      have hl2 : l ∈ F := List.mem_of_getElem? hl1
      rw [← hF] at hl2
      obtain ⟨hl3, hl4⟩ := List.mem_filter.mp hl2
      have hl3 := List.mem_range.mp hl3
      have hl4 := of_decide_eq_true hl4
      simp -dsimp
      refine V_rng (by omega) ?_
      simp -dsimp
      refine W_loopR (I := fun k ρ C => ∃ x8, ∃ wide : Nat, ρ = rhoW R n ps many (some (.cel (R.length + 1))) x6 x7 x8 (some (.cel (R.length + 2))) (some (.int j)) (some (.lst (F.map fun l : Nat => D.int l))) (some (.int l)) (some (.int wide)) ∧ C = s2 :: (R ++ [.lst (cntL n fun l => cnt ps l - cnt as l), .lst (dPcs as)]) ∧ wide ≤ k ∧ (0 < k → 1 ≤ wide) ∧ ∀ m : Nat, m < wide → l + m < n ∧ 0 < cnt ps (l + m) - cnt as (l + m))
        ⟨_, 0, rfl, rfl, by omega, by omega, fun m hm => by omega⟩ (fun i hi ρ C hI => ?_) (fun ρ C hI => ?_)
      · obtain ⟨x8, wide, rfl, rfl, w1, w2, w3⟩ := hI
        obtain ⟨m, hm⟩ : ∃ m : Nat, ((l : Int) + (i : Int)) % (n : Int) = m := ⟨(((l : Int) + i) % n).toNat, by have := Int.emod_nonneg ((l : Int) + i) (show (n : Int) ≠ 0 by omega); omega⟩
        have hmn : m < n := by
          have := Int.emod_lt_of_pos ((l : Int) + i) (show (0 : Int) < n by omega)
          omega
        have hpos : 0 < n := by omega
        have hme : (l : Int) + i < n → m = l + i := fun h => by
          rw [Int.emod_eq_of_lt (by omega) h] at hm
          omega
        unfold rhoW
        simp -dsimp
        refine Vif_d (fun c1 => ?_) fun c1 => ?_
        · simp -dsimp [hm, hpos, at_cnt hmn]
          refine Vif_d (fun c2 => ?_) fun c2 => ?_
          · simp -dsimp
            refine Wif_d (fun c3 => ?_) fun c3 => ?_
            · simp -dsimp
              refine hold ⟨_, i + 1, rfl, rfl, by omega, by omega, fun z hz => ?_⟩
              by_cases e : z = i
              · have := hme c3
                rw [e, ← this]
                omega
              · exact w3 z (by omega)
            · simp -dsimp
              exact hold ⟨_, wide, rfl, rfl, by omega, by omega, w3⟩
          · simp -dsimp
            refine hold ⟨_, wide, rfl, rfl, by omega, fun _ => ?_, w3⟩
            by_cases e : i = 0
            · subst e
              have e2 := hme (by omega)
              rw [Nat.add_zero] at e2
              subst e2
              omega
            · omega
        · simp -dsimp
          exact hold ⟨_, wide, rfl, rfl, by omega, by omega, w3⟩
      · obtain ⟨x8, wide, rfl, rfl, w1, w2, w3⟩ := hI
        unfold rhoW
        simp -dsimp
        refine v_number h5 (by omega) (by omega) fun wd s3 h6 wd1 wd2 => ?_
        obtain ⟨wd, rfl⟩ : ∃ z : Nat, wd = z := ⟨wd.toNat, by omega⟩
        simp -dsimp
        refine V_rng (by omega) ?_
        simp -dsimp
        refine W_loopR (I := fun k ρ C => ∃ x8, ρ = rhoW R n ps many (some (.cel (R.length + 1))) x6 x7 x8 (some (.cel (R.length + 2))) (some (.int j)) (some (.lst (F.map fun l : Nat => D.int l))) (some (.int l)) (some (.int wd)) ∧ C = s3 :: (R ++ [.lst (cntL n (legF (· - 1) l k fun l => cnt ps l - cnt as l)), .lst (dPcs as)]))
          ⟨_, rfl, by rw [legF_0]⟩ (fun i hi ρ C hI => ?_) (fun ρ C hI => ?_)
        · obtain ⟨x8, rfl, rfl⟩ := hI
          obtain ⟨hin, _⟩ := w3 i (by omega)
          have hm : (l : Int) + (i : Int) = ((l + i : Nat) : Int) := by omega
          have hmod : ((l + i : Nat) : Int) % (n : Int) = ((l + i : Nat) : Int) := Int.emod_eq_of_lt (by omega) (by omega)
          have hpos : 0 < n := by omega
          unfold rhoW
          simp -dsimp [-Int.natCast_add, hm, hmod, hpos, at_cnt hin, set_cnt hin]
          refine hold ⟨_, rfl, ?_⟩
          rw [legF_s (g := (· - 1)) hm]
        · obtain ⟨x8, rfl, rfl⟩ := hI
          unfold rhoW
          simp -dsimp [h2s, pc_tup]
          refine V_app1 (xs := dPcs as) (by simp) (by rw [dPcs_len]; omega) ?_
          simp -dsimp
          have hwd : 1 ≤ wd ∧ wd ≤ wide := by omega
          have hnew : ∀ z, cnt (as ++ [((l : Int), (wd : Int))]) z = cnt as z + if cov z ((l : Int), (wd : Int)) then 1 else 0 := fun z => cnt_snoc
          refine hold ⟨_, _, _, _, _, _, s3, as ++ [((l : Int), (wd : Int))], rfl, ?_, h6, fun p hp => ?_, fun z => ?_, by simp; omega⟩
          · rw [dPcs_snoc]
            have e : cntL n (legF (· - 1) l wd fun l => cnt ps l - cnt as l) = cntL n fun z => cnt ps z - cnt (as ++ [((l : Int), (wd : Int))]) z := cntL_congr fun z _ => by
              rw [hnew z]
              unfold legF cov
              simp only [decide_eq_true_eq]
              split <;> omega
            rw [e]
          · rcases List.mem_append.mp hp with hp | hp
            · exact h2 p hp
            · have : p = ((l : Int), (wd : Int)) := by simpa using hp
              subst this
              have := w3 (wd - 1) (by omega)
              exact okPc_iff.mpr ⟨by simp, by simp; omega, by simp; omega⟩
          · rw [hnew z]
            unfold cov
            simp only [decide_eq_true_eq]
            split
            · have := w3 (z - l) (by omega)
              rw [show l + (z - l) = z by omega] at this
              omega
            · have := h3 z
              omega
    · obtain ⟨x6, x8, x10, x11, x12, x13, s1, as, rfl, rfl, h1, h2, h3, h4⟩ := hI
      exact ⟨_, _, _, _, _, _, s1, as, rfl, rfl, h1, h2, h3, by omega⟩
    · obtain ⟨x6, x8, x10, x11, x12, x13, s1, as, rfl, rfl, h1, h2, h3, h4⟩ := hJ
      unfold rhoW
      simp -dsimp
      refine k as s1 _ h1 h2 h3 h4
end
end Qv

/-! ## M35 -/
set_option Elab.async false
set_option linter.all false
set_option maxRecDepth 100000
set_option maxHeartbeats 800000
namespace Qv
open PySem PySem.Spec PyProof.Rows L2
/-! a trade, a stock that counts, asks within its counts -/
section
variable {s : Cell} {R : Cells} {K : Out D → Prop}
theorem mul_lst {C : Cells} {xs : List D} {k : Int} (h0 : 0 ≤ k) (h : (xs.length : Int) * k ≤ 1000) (hk : k ≤ 1000) : dMul (.lst xs) (.int k) C = some (.lst (List.replicate k.toNat xs).flatten) := by
  obtain ⟨j, rfl⟩ : ∃ j : Nat, k = j := ⟨k.toNat, by omega⟩
  have hb : xs.length * j ≤ sizeLine := line_le (by have : ((xs.length * j : Nat) : Int) ≤ 1000 := by rw [Int.natCast_mul]; exact h
                                                    omega)
  simp only [dMul, D.seq]
  rw [if_pos]
  refine decide_eq_true ⟨by omega, by omega, ?_⟩
  rw [Int.toNat_natCast]
  exact hb
theorem rep_pcs {p : Pc} (j : Nat) : List.replicate j (dPc p) = dPcs (List.replicate j p) := by simp [dPcs]
theorem take_pcs {ps : List Pc} {j : Nat} : (dPcs ps).take j = dPcs (ps.take j) := by simp [dPcs]
def Lined (n : Nat) (ps as : List Pc) : Prop := (1 ≤ n ∧ n ≤ 24) ∧ (∀ p ∈ ps, okPc n p = true) ∧ Counts ps ∧ ps ≠ [] ∧ ps.length ≤ 40 ∧ (∀ p ∈ as, okPc n p = true) ∧ as.length ≤ 40 ∧ ∀ l, cnt as l ≤ cnt ps l
theorem v_line (hs : IsSto s) (k : ∀ n ps as s' Z, IsSto s' → Lined n ps as → K (.ok (.tup [dLine n, .lst (dPcs ps), .lst (dPcs as)]) (s' :: (R ++ Z)))) : V (m_law_line [.cel 0] (s :: R)) K := by
  have hsz : ∀ j, j ≤ 10 → j ≤ sizeLine := fun j hj => line_le (by omega)
  unfold m_law_line N_law_line F_law_line
  simp -dsimp [hsz]
  refine v_pick hs (by simp) (by simp) fun i d s1 h1 hd => ?_
  obtain ⟨N, M, L, rfl, h⟩ : ∃ N M L : Int, d = .tup [.int N, .int M, .int L] ∧ ((N = 8 ∧ M = 6 ∧ L = 1) ∨ (N = 24 ∧ M = 39 ∧ L = 24)) := by
    match i, hd with
    | 0, hd => cases hd; exact ⟨_, _, _, rfl, .inl ⟨rfl, rfl, rfl⟩⟩
    | 1, hd => cases hd; exact ⟨_, _, _, rfl, .inl ⟨rfl, rfl, rfl⟩⟩
    | 2, hd => cases hd; exact ⟨_, _, _, rfl, .inl ⟨rfl, rfl, rfl⟩⟩
    | 3, hd => cases hd; exact ⟨_, _, _, rfl, .inr ⟨rfl, rfl, rfl⟩⟩
    | k + 4, hd => simp at hd
  simp -dsimp [hsz]
  refine v_number h1 (by omega) (by omega) fun n s2 h2 n1 n2 => ?_
  obtain ⟨n, rfl⟩ : ∃ z : Nat, n = z := ⟨n.toNat, by omega⟩
  simp -dsimp [hsz, line_tup]
  refine v_counting h2 (by omega) (by omega) fun p0 s3 Z h3 c1 c2 c3 c4 c5 => ?_
  have hdiv : ∀ C, dDiv (.int M) (.int 5) C = some (.int (M / 5)) := fun C => dDiv_ii (by omega) (by omega)
  simp -dsimp [hsz]
  refine W_loopM (xs := p0) (enc := dPc) (I := fun k ρ C => ∃ x6 s1 qs, ρ = [some (.cel 0), some (.int N), some (.int M), some (.int L), some (dLine n), some (.lst (dPcs qs)), x6] ∧ C = s1 :: (R ++ Z) ∧ IsSto s1 ∧ (∀ q ∈ qs, q ∈ p0) ∧ qs.length ≤ 8 * k ∧ (0 < k → qs ≠ []))
    ⟨_, s3, [], rfl, rfl, h3, by simp, by simp, by omega⟩ (fun j p hj ρ C hI => ?_) (fun ρ C hI => ?_)
  · obtain ⟨x6, s1, qs, rfl, rfl, h4, q1, q2, q3⟩ := hI
    have hjl : j < p0.length := (List.getElem?_eq_some_iff.mp hj).1
    simp -dsimp [hdiv, hsz]
    refine v_take h4 (by omega) (by omega) fun r s4 h5 r0 r1 => ?_
    have hadd : dAdd (.lst (dPcs qs)) (.lst (dPcs (List.replicate (1 + r).toNat p))) (s4 :: (R ++ Z)) = some (.lst (dPcs qs ++ dPcs (List.replicate (1 + r).toNat p))) := cat_l (by rw [dPcs_len, dPcs_len, List.length_replicate]; omega)
    simp -dsimp [hsz, mul_lst (C := s4 :: (R ++ Z)) (xs := [dPc p]) (k := 1 + r) (by omega) (by simp; omega) (by omega), rep_pcs, hadd]
    refine hold ⟨_, s4, qs ++ List.replicate (1 + r).toNat p, by rw [dPcs_app], rfl, h5, fun q hq => ?_, ?_, fun _ z => ?_⟩
    · rcases List.mem_append.mp hq with hq | hq
      · exact q1 q hq
      · rw [List.eq_of_mem_replicate hq]
        exact List.mem_of_getElem? hj
    · rw [List.length_append, List.length_replicate]
      omega
    · have : (qs ++ List.replicate (1 + r).toNat p).length = 0 := by rw [z]; rfl
      rw [List.length_append, List.length_replicate] at this
      omega
  · obtain ⟨x6, s1, qs, rfl, rfl, h4, q1, q2, q3⟩ := hI
    have q3 := q3 (List.length_pos_iff.mpr c3)
    simp -dsimp
    refine v_shuffle h4 ncs_dPcs (by rw [dPcs_len]; omega) fun ys s4 Z2 h5 hy => ?_
    obtain ⟨ss, rfl, hss⟩ := perm_pcs hy
    have hsl := hss.length_eq
    simp -dsimp [cut_to (show (0 : Int) ≤ M by omega), take_pcs]
    have hl2 : (ss.take M.toNat).length ≤ 39 := by rw [List.length_take]; omega
    have hne : ss.take M.toNat ≠ [] := fun z => by
      have hz : (ss.take M.toNat).length = 0 := by rw [z]; rfl
      rw [List.length_take] at hz
      have : 0 < qs.length := List.length_pos_iff.mpr q3
      omega
    have hmem : ∀ q ∈ ss.take M.toNat, q ∈ p0 := fun q hq => q1 q (hss.mem_iff.mp (List.mem_of_mem_take hq))
    generalize ss.take M.toNat = st at hl2 hne hmem
    have hok : ∀ q ∈ st, okPc n q = true := fun q hq => c1 q (hmem q hq)
    have hcn : Counts st := fun p hp q hq => c2 p (hmem p hp) q (hmem q hq)
    refine v_odds h5 (by omega) fun b s5 h6 => ?_
    simp -dsimp
    refine Wif_b (fun hb => ?_) fun hb => ?_
    · simp -dsimp
      refine v_shuffle h6 ncs_dPcs (by rw [dPcs_len]; omega) fun ys s6 Z3 h7 hy => ?_
      obtain ⟨as, rfl, has⟩ := perm_pcs hy
      simp -dsimp [hsz]
      refine k n st as s6 _ h7 ⟨by omega, hok, hcn, hne, by omega, fun p hp => hok p (has.mem_iff.mp hp), by rw [has.length_eq]; omega, fun l => ?_⟩
      unfold cnt
      rw [has.countP_eq]
      omega
    · simp -dsimp
      refine v_within h6 (by omega) (by omega) hok (by omega) fun as s6 Z3 h7 a1 a2 a3 => ?_
      simp -dsimp [hsz]
      exact k n st as s6 _ h7 ⟨by omega, hok, hcn, hne, by omega, a1, by omega, a2⟩
end
end Qv

/-! ## M36 -/
set_option Elab.async false
set_option linter.all false
set_option maxRecDepth 100000
set_option maxHeartbeats 800000
namespace Qv
open PySem PySem.Spec PyProof.Rows L2
/-! a thing is equal to itself -/
def pl : Nat → D → Bool
  | 0, _ => false
  | _ + 1, .non => true
  | _ + 1, .bl _ => true
  | _ + 1, .int _ => true
  | _ + 1, .str z => SeqAt.shaped (PyData.str z)
  | k + 1, .lst xs => decide (xs.length ≤ 1000) && xs.all (pl k)
  | k + 1, .tup xs => decide (xs.length ≤ 1000) && xs.all (pl k)
  | _ + 1, _ => false
theorem eq_str {C : Cells} {z : Str} (h : SeqAt.shaped (PyData.str z) = true) : dEq (.str z) (.str z) C = some (.bl true) := by
  simp [dEq, D.cmp, D.py, PyData.eqv, h]
theorem eq_bl {C : Cells} {b : Bool} : dEq (.bl b) (.bl b) C = some (.bl true) := by
  cases b <;> with_unfolding_all rfl
theorem eq_b4 {C : Cells} {a b c d : Bool} : dEq (.lst [.bl a, .bl b, .bl c, .bl d]) (.lst [.bl a, .bl b, .bl c, .bl d]) C = some (.bl true) := by
  cases a <;> cases b <;> cases c <;> cases d <;> with_unfolding_all rfl
theorem eq_scalar {k : Nat} {C : Cells} {d : D} {b1 b2 b3 b4 : Bool} (hn : d.nc = true) (h0 : ∀ C, isi2D "list" "tuple" d C = some (.bl false)) (h1 : ∀ C, isiD "bool" d C = some (.bl b1)) (h2 : ∀ C, isiD "int" d C = some (.bl b2)) (h3 : ∀ C, isiD "str" d C = some (.bl b3)) (h4 : ∀ C, dIs d .non C = some (.bl b4)) (h5 : ∀ C, dEq d d C = some (.bl true)) :
    pureM (m_law_equal (k + 1)) [d, d] C = .ok (.bl true) C := pure_V (by
  have hs : 4 ≤ sizeLine := line_le (by omega)
  unfold m_law_equal N_law_equal F_law_equal
  simp -dsimp [h0, h1, h2, h3, h4, h5, hs, eq_b4]) rfl
theorem all_map {α : Type} {C : Cells} {l : List α} {g : α → Bool} : fn1 allD [.lst (l.map fun x => D.bl (g x))] C = some (.bl (l.all g)) := by
  show (Option.bind (some _) fun xs => (allBl xs).bind fun bs => some (D.bl (bs.all id))) = _
  rw [Option.bind_some, allBl_map, Option.bind_some, List.all_map]
  rfl
@[simp] theorem eq_tt {C : Cells} : dEq (.bl true) (.bl true) C = some (.bl true) := eq_bl
theorem ne_bl {C : Cells} {b : Bool} : dNe (.bl b) (.bl b) C = some (.bl false) := by
  cases b <;> with_unfolding_all rfl
theorem pl_nc : ∀ (k : Nat) (d : D), pl k d = true → d.nc = true
  | 0, _, h => by cases h
  | k + 1, .non, _ => rfl
  | k + 1, .bl _, _ => rfl
  | k + 1, .int _, _ => rfl
  | k + 1, .str _, _ => rfl
  | k + 1, .lst xs, h => by
    have h := (Bool.and_eq_true_iff.mp h).2
    rw [nc_lst]
    exact ncs_of fun x hx => pl_nc k x (List.all_eq_true.mp h x hx)
  | k + 1, .tup xs, h => by
    have h := (Bool.and_eq_true_iff.mp h).2
    rw [nc_tup]
    exact ncs_of fun x hx => pl_nc k x (List.all_eq_true.mp h x hx)
  | k + 1, .cel _, h => by cases h
  | k + 1, .opq _ _, h => by cases h
  | k + 1, .flst _, h => by cases h
theorem eq_row {k : Nat} {C : Cells} {mk : List D → D} {b1 b2 : Bool} (xs : List D) (hl : xs.length ≤ 1000) (h0 : ∀ C, isi2D "list" "tuple" (mk xs) C = some (.bl true)) (h1 : ∀ C, isiD "list" (mk xs) C = some (.bl b1)) (h2 : ∀ C, isiD "tuple" (mk xs) C = some (.bl b2)) (h3 : ∀ C, fn1 lenD [mk xs] C = some (.int xs.length)) (h4 : ∀ C (i : Int), dIx (mk xs) (.int i) C = atI xs i)
    (hx : ∀ x ∈ xs, x.nc = true ∧ ∀ C, pureM (m_law_equal k) [x, x] C = .ok (.bl true) C) : pureM (m_law_equal (k + 1)) [mk xs, mk xs] C = .ok (.bl true) C := pure_V (by
  unfold m_law_equal N_law_equal F_law_equal
  simp -dsimp [h0, h1, h2, h3, ne_bl]
  refine V_compRA (n := xs.length) (fun _ => D.bl true) (by simp [h3]) (by omega) (fun l hl => ?_) ?_
  · have hg : xs[l]? = some xs[l] := List.getElem?_eq_getElem hl
    obtain ⟨n1, n2⟩ := hx _ (List.getElem_mem hl)
    simp -dsimp [wipeE, h4, at_nat hg, n1, n2]
  · have e : (List.range xs.length).map (fun _ => D.bl true) = (List.range xs.length).map fun x => D.bl ((fun _ => true) x) := rfl
    rw [e]
    simp -dsimp only [onOk_ok, onOkS_ok, onRun_rt]
    simp -dsimp [all_map]) rfl
theorem eq_self : ∀ (k : Nat) (d : D) {C : Cells}, pl k d = true → pureM (m_law_equal k) [d, d] C = .ok (.bl true) C
  | 0, _, _, h => by cases h
  | k + 1, .non, _, _ => eq_scalar rfl (fun _ => by with_unfolding_all rfl) (fun _ => by with_unfolding_all rfl) (fun _ => by with_unfolding_all rfl) (fun _ => by with_unfolding_all rfl) (fun _ => by with_unfolding_all rfl) (fun _ => by with_unfolding_all rfl)
  | k + 1, .bl b, _, _ => eq_scalar rfl (fun _ => by with_unfolding_all rfl) (fun _ => by with_unfolding_all rfl) (fun _ => by with_unfolding_all rfl) (fun _ => by with_unfolding_all rfl) (fun _ => by with_unfolding_all rfl) (fun _ => eq_bl)
  | k + 1, .int i, _, _ => eq_scalar rfl (fun _ => by with_unfolding_all rfl) (fun _ => by with_unfolding_all rfl) (fun _ => by with_unfolding_all rfl) (fun _ => by with_unfolding_all rfl) (fun _ => by with_unfolding_all rfl) (fun _ => by simp)
  | k + 1, .str z, _, h => eq_scalar rfl (fun _ => by with_unfolding_all rfl) (fun _ => by with_unfolding_all rfl) (fun _ => by with_unfolding_all rfl) (fun _ => by with_unfolding_all rfl) (fun _ => by with_unfolding_all rfl) (fun _ => eq_str h)
  | k + 1, .lst xs, _, h => by
    obtain ⟨h1, h2⟩ := Bool.and_eq_true_iff.mp h
    exact eq_row (mk := D.lst) xs (of_decide_eq_true h1) (fun _ => by with_unfolding_all rfl) (fun _ => by with_unfolding_all rfl) (fun _ => by with_unfolding_all rfl) (fun _ => rfl) (fun _ _ => rfl) fun x hx => ⟨pl_nc k x (List.all_eq_true.mp h2 x hx), fun C => eq_self k x (List.all_eq_true.mp h2 x hx)⟩
  | k + 1, .tup xs, _, h => by
    obtain ⟨h1, h2⟩ := Bool.and_eq_true_iff.mp h
    exact eq_row (mk := D.tup) xs (of_decide_eq_true h1) (fun _ => by with_unfolding_all rfl) (fun _ => by with_unfolding_all rfl) (fun _ => by with_unfolding_all rfl) (fun _ => rfl) (fun _ _ => rfl) fun x hx => ⟨pl_nc k x (List.all_eq_true.mp h2 x hx), fun C => eq_self k x (List.all_eq_true.mp h2 x hx)⟩
  | k + 1, .cel _, _, h => by cases h
  | k + 1, .opq _ _, _, h => by cases h
  | k + 1, .flst _, _, h => by cases h
theorem pl_pc {k : Nat} {p : Pc} : pl (k + 2) (dPc p) = true := by
  simp [dPc, pl]
theorem pl_pcs {k : Nat} {ps : List Pc} (h : ps.length ≤ 1000) : pl (k + 3) (.lst (dPcs ps)) = true := by
  simp [pl, dPcs, h, pl_pc]
end Qv

/-! ## M37 -/
set_option Elab.async false
set_option linter.all false
set_option maxRecDepth 100000
set_option maxHeartbeats 800000
namespace Qv
open PySem PySem.Spec PyProof.Rows L2
/-! the judge of a way -/
theorem lay_ints : ∀ l : List Int, PyData.canLayAll0 (D.pys (l.map D.int)) = true ∧ PyData.depthAll (D.pys (l.map D.int)) ≤ 1
  | [] => by simp [D.pys, PyData.canLayAll0, PyData.depthAll]
  | a :: l => by
    obtain ⟨h1, h2⟩ := lay_ints l
    simp [D.pys, D.py, PyData.canLayAll0, PyData.canLay0, PyData.depthAll, PyData.depth, h1]
    omega
theorem cmp_ints (l : List Int) : (D.lst (l.map D.int)).cmp = true := by
  obtain ⟨h1, h2⟩ := lay_ints l
  have h3 : D.ncs (l.map D.int) = true := ncs_ints l id
  simp [D.cmp, D.py, SeqAt.shaped, PyData.canLay0, PyData.depth, h1, h3]
  omega
theorem cmp_int {a : Int} : (D.int a).cmp = true := by with_unfolding_all rfl
theorem any_eqv {a : Int} : ∀ l : List Int, (l.map D.int).any (fun z => PyData.eqv z.py (D.int a).py) = decide (a ∈ l)
  | [] => rfl
  | b :: l => by
    rw [List.map_cons, List.any_cons, any_eqv l]
    have : PyData.eqv (D.int b).py (D.int a).py = (b == a) := by simp [D.py, PyData.eqv]
    rw [this]
    by_cases h : b = a
    · subst h; simp
    · have h2 : ¬ a = b := fun z => h z.symm
      simp [h, h2]
theorem in_ints {a : Int} {l : List Int} {C : Cells} : dIn (.int a) (.lst (l.map D.int)) C = some (.bl (decide (a ∈ l))) := by
  show (if (D.int a).cmp && (D.lst (l.map D.int)).cmp then some ((l.map D.int).any fun z => PyData.eqv z.py (D.int a).py) else none).map D.bl = _
  rw [cmp_int, cmp_ints, any_eqv]
  rfl
theorem in_cel {a : Int} {l : List Int} {C : Cells} {k : Nat} (h : C[k]? = some (.lst (l.map D.int))) : dIn (.int a) (.cel k) C = some (.bl (decide (a ∈ l))) := by
  have e : dIn (.int a) (.cel k) C = dIn (.int a) (.lst (l.map D.int)) C := by
    show (match (match C[k]? with
      | some (Cell.lst xs) => some xs
      | _ => none) with
      | some ys => if (D.int a).cmp && (D.lst ys).cmp then some (ys.any fun z => PyData.eqv z.py (D.int a).py) else none
      | none => none).map D.bl = _
    rw [h]
    rfl
  rw [e, in_ints]
section
variable {C : Cells} {n : Nat} {p a : Pc}
def legsL (p : Pc) : List Int := (List.range p.2.toNat).map fun k : Nat => p.1 + (k : Int)
theorem legs_mem {x : Int} (h : 0 ≤ p.2) : x ∈ legsL p ↔ p.1 ≤ x ∧ x < p.1 + p.2 := by
  unfold legsL
  rw [List.mem_map]
  constructor
  · rintro ⟨k, hk, rfl⟩
    have := List.mem_range.mp hk
    omega
  · rintro ⟨h1, h2⟩
    exact ⟨(x - p.1).toNat, List.mem_range.mpr (by omega), by omega⟩
theorem legs_len : (legsL p).length = p.2.toNat := by simp [legsL]
theorem sp_law_legs (hn : 1 ≤ n ∧ n ≤ 24) (hp : okPc n p = true) : pureM m_law_legs [dLine n, dPc p] C = .ok (.lst ((legsL p).map D.int)) C := by
  have hok := okPc_iff.mp hp
  refine pure_V ?_ (by rw [nc_lst]; exact ncs_ints _ id)
  unfold m_law_legs N_law_legs F_law_legs
  simp -dsimp
  refine V_compRA (n := p.2.toNat) (fun k : Nat => D.int (p.1 + (k : Int))) (by simp; omega) (by omega) (fun k hk => ?_) ?_
  · have e : (p.1 + (k : Int)) % (n : Int) = p.1 + k := Int.emod_eq_of_lt (by omega) (by omega)
    have h0 : 0 < n := by omega
    simp -dsimp [wipeE, e, h0]
  · unfold legsL
    simp -dsimp
theorem sp_law_holds (hn : 1 ≤ n ∧ n ≤ 24) (hp : okPc n p = true) (ha : okPc n a = true) (hi : inside a p = true) : pureM m_law_holds [dLine n, dPc p, dPc a] C = .ok (.bl true) C := by
  have hok := okPc_iff.mp hp
  have hao := okPc_iff.mp ha
  have hi : p.1 ≤ a.1 ∧ a.1 + a.2 ≤ p.1 + p.2 := of_decide_eq_true hi
  refine pure_V ?_ rfl
  unfold m_law_holds N_law_holds F_law_holds
  simp -dsimp [sp_law_legs hn hp]
  refine V_compLA (xs := legsL a) (enc := D.int) (fun _ => D.bl true) (by simp [sp_law_legs hn ha]) (by rw [legs_len]; omega) (fun x hx => ?_) ?_
  · have h1 : x ∈ legsL p := by
      rw [legs_mem (by omega)] at hx ⊢
      omega
    simp -dsimp [wipeE, in_ints, h1]
  · have e : (legsL a).map (fun _ => D.bl true) = (legsL a).map fun x => D.bl ((fun _ => true) x) := rfl
    rw [e]
    simp -dsimp [all_map]
theorem sp_law_is_number {i : Int} : pureM m_law_is_number [.int i] C = .ok (.bl true) C := pure_ok (C' := []) (by simp [m_law_is_number, N_law_is_number, F_law_is_number, truD]) rfl
theorem sp_law_numbers {way : List Int} (hl : way.length ≤ 1000) : pureM m_law_numbers [.lst (way.map D.int), .int way.length] C = .ok (.bl true) C := by
  refine pure_V ?_ rfl
  unfold m_law_numbers N_law_numbers F_law_numbers
  simp -dsimp
  refine V_compLA (xs := way) (enc := D.int) (fun _ => D.bl true) (by simp) (by omega) (fun x hx => ?_) ?_
  · simp -dsimp [wipeE, sp_law_is_number]
  · have e : way.map (fun _ => D.bl true) = way.map fun x => D.bl ((fun _ => true) x) := rfl
    rw [e]
    simp -dsimp [all_map]
end
end Qv

/-! ## M38 -/
set_option Elab.async false
set_option linter.all false
set_option maxRecDepth 100000
set_option maxHeartbeats 800000
namespace Qv
open PySem PySem.Spec PyProof.Rows L2
/-! the judge says yes -/
section
variable {C : Cells} {n : Nat} {ps as : List Pc} {way : List Int}
def lsC (Ls : List (List Int)) : Cells := Ls.map fun l => Cell.lst (l.map D.int)
theorem lsC_get {Ls : List (List Int)} {j : Nat} {l : List Int} (h : Ls[j]? = some l) : (lsC Ls)[j]? = some (.lst (l.map D.int)) := by
  unfold lsC
  rw [List.getElem?_map, h]
  rfl
theorem lsC_set {Ls : List (List Int)} {j : Nat} {l : List Int} : (lsC Ls).set j (.lst (l.map D.int)) = lsC (Ls.set j l) := by
  unfold lsC
  rw [List.map_set]
theorem sorted_pcs1 {C : Cells} : fn1 sortD [.lst (dPcs ps)] C = some (.lst (dPcs (sortP ps))) := by
  simp [fn1, sortD, D.seq, sortOk_pcs, sortL_pcs]
/-- the slots -/
def rhoP (n : Nat) (ps as : List Pc) (way : List Int) (x6 x7 x8 x9 x10 : Option D) : Env := [some (dLine n), some (.lst (dPcs ps)), some (.lst (dPcs as)), some (.lst (way.map D.int)), some (.lst (dPcs (sortP ps))), some (.lst ((List.range ps.length).map fun j => D.cel j)), x6, x7, x8, x9, x10]
theorem v_way_places {K : Out D → Prop} (hn : 1 ≤ n ∧ n ≤ 24) (hp : ∀ p ∈ ps, okPc n p = true) (ha : ∀ a ∈ as, okPc n a = true) (hz : ps.length ≤ 100) (hza : as.length ≤ 100) (hw : WayOk (sortP ps) as way) (k : ∀ C, K (.ok (.bl true) C)) :
    V (m_law_way_places [dLine n, .lst (dPcs ps), .lst (dPcs as), .lst (way.map D.int)] []) K := by
  have hlw := hw.lw
  have hnum := sp_law_numbers (C := []) (way := way) (by omega)
  rw [hlw] at hnum
  have hcm : D.ncs (way.map D.int) = true := ncs_ints way id
  unfold m_law_way_places N_law_way_places F_law_way_places
  simp -dsimp [dPcs_len, hcm, hnum, sorted_pcs1]
  have hfc : fComp (.nm 6) [6] (iSeq (eSlot 4)) bYes (eNew (fLst aNil)) [some (dLine n), some (.lst (dPcs ps)), some (.lst (dPcs as)), some (.lst (way.map D.int)), some (.lst (dPcs (sortP ps))), none, none, none, none, none, none] [] = .ok ((List.range ps.length).map fun j => D.cel j) (lsC (List.replicate ps.length [])) := by
    unfold fComp
    rw [show iSeq (eSlot 4) [some (dLine n), some (.lst (dPcs ps)), some (.lst (dPcs as)), some (.lst (way.map D.int)), some (.lst (dPcs (sortP ps))), none, none, none, none, none, none] [] = .ok (dPcs (sortP ps)) [] from by simp, ev_bind_ok, new_cells _ _ _ (fun d _ => ⟨_, ev_bind_nm⟩) (by rw [dPcs_len, sortP_len]; simp; omega)]
    rw [dPcs_len, sortP_len]
    simp [lsC]
  rw [hfc]
  simp -dsimp [dPcs_len]
  refine V_rng (by omega) ?_
  simp -dsimp
  refine W_loopR (I := fun k ρ C => ∃ x6 x7 x8 x9 x10 Ls, ρ = rhoP n ps as way x6 x7 x8 x9 x10 ∧ C = lsC Ls ∧ Ls.length = ps.length ∧ (∀ l ∈ Ls, l.length ≤ 100 * k) ∧ ∀ (j : Nat) (l : List Int), Ls[j]? = some l → ∀ x ∈ l, ∃ (i : Nat) (a : Pc), i < k ∧ as[i]? = some a ∧ way[i]? = some (j : Int) ∧ a.1 ≤ x ∧ x < a.1 + a.2)
    ⟨_, _, _, _, _, _, rfl, rfl, by simp, by simp, fun j l hl x hx => by
      rw [List.getElem?_replicate] at hl
      split at hl
      · cases hl; cases hx
      · cases hl⟩ (fun i hi ρ C hI => ?_) (fun ρ C hI => ?_)
  · obtain ⟨x6, x7, x8, x9, x10, Ls, rfl, rfl, h1, h0, h2⟩ := hI
    have hgi : as[i]? = some as[i] := List.getElem?_eq_getElem hi
    have hia := ha _ (List.getElem_mem hi)
    have hiao := okPc_iff.mp hia
    obtain ⟨j, p, hj1, hj2, hj3⟩ := hw.pos i as[i] hgi
    have hjp := hp p (sortP_mem.mp (List.mem_of_getElem? hj2))
    have hjl : j < ps.length := by
      have := (List.getElem?_eq_some_iff.mp hj2).1
      rwa [sortP_len] at this
    have hjL : j < Ls.length := by omega
    have hLg : Ls[j]? = some Ls[j] := List.getElem?_eq_getElem hjL
    generalize hl : Ls[j] = l at hLg
    have hll : l.length ≤ 100 * i := h0 l (List.mem_of_getElem? hLg)
    have w1 : atI (way.map D.int) (i : Int) = some (.int j) := at_nat (by rw [List.getElem?_map, hj1]; rfl)
    have w2 : atI (dPcs as) (i : Int) = some (dPc as[i]) := at_nat (by unfold dPcs; rw [List.getElem?_map, hgi]; rfl)
    have w3 : atI (dPcs (sortP ps)) (j : Int) = some (dPc p) := at_nat (by unfold dPcs; rw [List.getElem?_map, hj2]; rfl)
    have w4 : atI ((List.range ps.length).map fun j => D.cel j) (j : Int) = some (.cel j) := at_nat (by rw [List.getElem?_map, List.getElem?_range hjl, Option.map_some])
    have hnl : ¬ ps.length ≤ j := by omega
    have hj0 : ¬ (j : Int) < 0 := by omega
    have hleg := sp_law_legs (C := lsC Ls) hn hia
    unfold rhoP
    simp -dsimp [w1, w2, w3, dPcs_len, sortP_len, hnl, hj0, hleg, sp_law_holds hn hjp hia hj3]
    refine V_compLA (xs := legsL as[i]) (enc := D.int) (fun x => D.bl false) (by simp) (by rw [legs_len]; omega) (fun x hx => ?_) ?_
    · have hnx : ¬ x ∈ l := fun hxl => by
        obtain ⟨i', a', c1, c2, c3, c4, c5⟩ := h2 j l hLg x hxl
        have := hw.apt i i' as[i] a' (by omega) hgi c2 (by rw [hj1, c3])
        rw [legs_mem (by omega)] at hx
        unfold overlap at this
        have := of_decide_eq_false this
        omega
      simp -dsimp [wipeE, w4, in_cel (lsC_get hLg), hnx]
    · have e : (legsL as[i]).map (fun _ => D.bl false) = (legsL as[i]).map fun x => D.bl ((fun _ => false) x) := rfl
      rw [e]
      have hany : ((legsL as[i]).any fun _ => false) = false := List.any_eq_false.mpr (by simp)
      simp -dsimp [any_map, hany]
      refine W_loopM (xs := legsL as[i]) (enc := D.int) (I := fun k ρ C => ∃ x10, ρ = rhoP n ps as way x6 (some (.int i)) (some (.int j)) (some (.lst ((legsL as[i]).map D.int))) x10 ∧ C = lsC (Ls.set j (l ++ (legsL as[i]).take k)))
        ⟨_, rfl, by
          rw [List.take_zero, List.append_nil, ← hl, List.set_getElem_self]⟩ (fun m x hm ρ C hI => ?_) (fun ρ C hI => ?_)
      · obtain ⟨x10, rfl, rfl⟩ := hI
        have hml := (List.getElem?_eq_some_iff.mp hm).1
        rw [legs_len] at hml
        have hget : (Ls.set j (l ++ (legsL as[i]).take m))[j]? = some (l ++ (legsL as[i]).take m) := List.getElem?_set_self hjL
        unfold rhoP
        simp -dsimp [w4, lsC_get hget]
        refine V_app1 (lsC_get hget) (by simp; omega) ?_
        simp -dsimp
        refine hold ⟨_, rfl, ?_⟩
        have et : (legsL as[i]).take (m + 1) = (legsL as[i]).take m ++ [x] := by
          rw [List.take_add_one, hm]
          rfl
        rw [show lsC (Ls.set j (l ++ (legsL as[i]).take (m + 1))) = (lsC (Ls.set j (l ++ (legsL as[i]).take m))).set j (.lst ((l ++ (legsL as[i]).take (m + 1)).map D.int)) by rw [lsC_set, List.set_set], et]
        simp
      · obtain ⟨x10, rfl, rfl⟩ := hI
        simp -dsimp
        refine hold ⟨_, _, _, _, _, _, rfl, rfl, by simp [h1], fun l' hl' => ?_, fun j' l' hl' x hx => ?_⟩
        · rcases List.mem_or_eq_of_mem_set hl' with h | h
          · have := h0 l' h
            omega
          · rw [h, List.length_append, legs_len]
            omega
        · by_cases hjj : j' = j
          · subst hjj
            rw [List.getElem?_set_self hjL] at hl'
            cases hl'
            rcases List.mem_append.mp hx with hx | hx
            · obtain ⟨i', a', c1, c2, c3, c4, c5⟩ := h2 j' l hLg x hx
              exact ⟨i', a', by omega, c2, c3, c4, c5⟩
            · rw [legs_mem (by omega)] at hx
              exact ⟨i, as[i], by omega, hgi, hj1, hx⟩
          · rw [List.getElem?_set_ne (fun z => hjj z.symm)] at hl'
            obtain ⟨i', a', c1, c2, c3, c4, c5⟩ := h2 j' l' hl' x hx
            exact ⟨i', a', by omega, c2, c3, c4, c5⟩
  · obtain ⟨x6, x7, x8, x9, x10, Ls, rfl, rfl, h1, h0, h2⟩ := hI
    simp -dsimp
    exact k _
end
end Qv

/-! ## M39 -/
set_option Elab.async false
set_option linter.all false
set_option maxRecDepth 100000
set_option maxHeartbeats 800000
namespace Qv
open PySem PySem.Spec PyProof.Rows L2
/-! deal, told -/
mutual
theorem view_nc {C : Cells} : ∀ {d : D}, d.nc = true → d.view C = some d
  | .non, _ => by simp [D.view]
  | .bl _, _ => by simp [D.view]
  | .int _, _ => by simp [D.view]
  | .str _, _ => by simp [D.view]
  | .lst xs, h => by
    rw [nc_lst] at h
    simp [D.view, views_nc h]
  | .tup xs, h => by
    rw [nc_tup] at h
    simp [D.view, views_nc h]
  | .cel _, h => by simp [D.nc] at h
  | .opq _ _, h => by simp [D.nc] at h
  | .flst _, h => by simp [D.nc] at h
theorem views_nc {C : Cells} : ∀ {ds : List D}, D.ncs ds = true → D.views C ds = some ds
  | [], _ => by simp [D.views]
  | d :: ds, h => by
    rw [ncs_cons', Bool.and_eq_true] at h
    simp [D.views, view_nc h.1, views_nc h.2]
end
theorem view_cel {C : Cells} {k : Nat} {xs : List D} (h : C[k]? = some (.lst xs)) (hn : D.ncs xs = true) : (D.cel k).view C = some (.lst xs) := by
  unfold D.view
  rw [h]
  simp [hn]
theorem views_cons {C : Cells} {d : D} {ds : List D} : D.views C (d :: ds) = (d.view C).bind fun y => (D.views C ds).map fun ys => y :: ys := by simp [D.views]
section
variable {ρ : Env} {C : Cells} {f : DE} {fa : DA} {K : Out D → Prop} {d : D} {x : Exn}
@[simp ↓] theorem V_callV {n : Nat} {m : MD} : V (eCallV n m fa ρ C) K = V (fa ρ C) (onOk (fun ds C => V (if ds.length = n then ofO (D.views C ds) C else .stuck) (onOk (fun es C => V (flatM m es C) K) K)) K) := by
  rw [ev_callV, V_bind]
  refine V_onOk fun ds C => ?_
  by_cases h : ds.length = n
  · rw [if_pos h, if_pos h]
    cases D.views C ds <;> with_unfolding_all rfl
  · rw [if_neg h, if_neg h]
    with_unfolding_all rfl
theorem V_flat {m : MD} {ds : List D} (h : V (m ds []) fun o => ∃ d C', o = .ok d C' ∧ d.flat = true ∧ K (.ok d C)) : V (flatM m ds C) K := by
  rw [V_def] at h ⊢
  obtain ⟨d, C', e, h1, h2⟩ := h
  unfold flatM
  rw [e]
  dsimp only
  rw [if_pos h1]
  exact h2
def tellX (K : Out D → Prop) (C : Cells) : Option (Str × D) → Prop
  | some (w, d) => K (.ok (.tup [.str w, d]) C)
  | none => K .stuck
def onTell (t : Teller) (K : Out D → Prop) : Out D → Prop
  | .ok d C => K (.ok (.tup [.str "told", d]) C)
  | .exn x C => tellX K C (t.word x)
  | .stuck => K .stuck
@[simp ↓] theorem onTell_ok {t : Teller} : onTell t K (.ok d C) = K (.ok (.tup [.str "told", d]) C) := rfl
@[simp ↓] theorem onTell_exn {t : Teller} : onTell t K (.exn x C) = tellX K C (t.word x) := rfl
@[simp ↓] theorem V_told {t : Teller} : V (eTold t f ρ C) K = V (f ρ C) (onTell t K) := by
  rw [V_def, V_def]
  unfold eTold
  cases e : f ρ C with
  | ok d C' => rfl
  | stuck => rfl
  | exn x C' =>
    show K (match t.word x with
      | some (w, d) => .ok (.tup [.str w, d]) C'
      | none => .stuck) = tellX K C' (t.word x)
    cases t.word x with
    | none => rfl
    | some wd => rfl
end
/-! deal on a stock that counts -/
theorem runStep_len {rs : List Pc} {l : Int} : (runStep rs l).length ≤ rs.length + 1 := by
  unfold runStep
  split
  · split
    · simp
    · simp
  · simp
theorem runs_len {n : Nat} {ps : List Pc} : (runsOf n ps).length ≤ n := by
  have h : ∀ (legs : List Int) (rs : List Pc), (legs.foldl runStep rs).length ≤ rs.length + legs.length := by
    intro legs
    induction legs with
    | nil => intro rs; simp
    | cons l legs ih =>
      intro rs
      have h1 := ih (runStep rs l)
      have h2 := runStep_len (rs := rs) (l := l)
      simp only [List.foldl_cons, List.length_cons]
      omega
  have h1 := h (covL n (cnt ps)) []
  have h2 := covL_len (n := n) (f := cnt ps)
  unfold runsOf runsF
  simp at h1
  omega
theorem fault_of {p q : Pc} (h : NoFault p q) : faultB p q = none := by
  unfold NoFault at h
  unfold faultB overlap
  rw [if_neg h.1, if_neg]
  simp only [decide_eq_true_eq]
  omega
theorem ff_counts {ps : List Pc} (h : Counts ps) : ff (sortP ps) = .non := by
  refine ff_none.mpr ?_
  have hm : ∀ p ∈ sortP ps, p ∈ ps := fun p hp => sortP_mem.mp hp
  generalize sortP ps = qs at hm
  induction qs with
  | nil => exact List.Pairwise.nil
  | cons q qs ih => exact List.Pairwise.cons (fun r hr => fault_of (h q (hm q (by simp)) r (hm r (by simp [hr])))) (ih fun p hp => hm p (by simp [hp]))
theorem counts_sort {ps : List Pc} (h : Counts ps) : Counts (sortP ps) := fun p hp q hq => h p (sortP_mem.mp hp) q (sortP_mem.mp hq)
theorem over_none {n : Nat} {ps as : List Pc} (h : ∀ l, cnt as l ≤ cnt ps l) : overD n ps as = .non := by
  unfold overD
  have : (List.range n).find? (fun l => decide (cnt ps l < cnt as l)) = none := List.find?_eq_none.mpr fun l _ => by
    have := h l
    simp
    omega
  rw [this]
theorem v_deal {n : Nat} {ps as : List Pc} {C : Cells} {K : Out D → Prop} (hn : 1 ≤ n ∧ n ≤ 24) (hp : ∀ p ∈ ps, okPc n p = true) (hc : Counts ps) (ha : ∀ a ∈ as, okPc n a = true) (hcnt : ∀ l, cnt as l ≤ cnt ps l) (hz : ps.length ≤ 100) (hza : as.length ≤ 100)
    (k : ∀ way C', WayOk (sortP ps) as way → C'[C.length]? = some (.lst (way.map D.int)) → K (.ok (.cel C.length) C')) : V (m_deal [dLine n, .lst (dPcs ps), .lst (dPcs as)] C) K := by
  obtain ⟨way, ls, hd, hw⟩ := deal_done (qs := sortP ps) (as := as) (sort_ok hp) (counts_sort hc) ha (fun l => by
    have := hcnt l
    unfold cnt at this
    rw [(sortP_perm ps).countP_eq]
    omega)
  rw [runsOf_sort, sortP_len] at hd
  have := runs_len (n := n) (ps := ps)
  exact V_of (sp_deal hn (by omega) (by omega) hp ha (over_none hcnt) (ff_counts (counts_sort hc)) hd (by omega)) (k way _ hw dealC_way)
end Qv

/-! ## M40 -/
set_option Elab.async false
set_option linter.all false
set_option maxRecDepth 100000
set_option maxHeartbeats 800000
namespace Qv
open PySem PySem.Spec PyProof.Rows L2
@[simp] theorem ne_told {C : Cells} : dNe (.str "told") (.str "told") C = some (.bl false) := by with_unfolding_all rfl
theorem ncs_ps {ps : List (Int × Int)} : D.ncs (dPcs ps) = true := ncs_dPcs
section
variable {n : Nat} {ps as : List Pc} {C : Cells}
theorem sp_law_dealt (hn : 1 ≤ n ∧ n ≤ 24) (hp : ∀ p ∈ ps, okPc n p = true) (hc : Counts ps) (ha : ∀ a ∈ as, okPc n a = true) (hcnt : ∀ l, cnt as l ≤ cnt ps l) (hz : ps.length ≤ 100) (hza : as.length ≤ 100) :
    pureM m_law_dealt [dLine n, .lst (dPcs ps), .lst (dPcs as)] C = .ok (.bl true) C := by
  have e1 : ∀ C, pureM (m_law_equal 8) [.lst (dPcs ps), .lst (dPcs ps)] C = .ok (.bl true) C := fun C => eq_self 8 _ (pl_pcs (k := 5) (by omega))
  have e2 : ∀ C, pureM (m_law_equal 8) [.lst (dPcs as), .lst (dPcs as)] C = .ok (.bl true) C := fun C => eq_self 8 _ (pl_pcs (k := 5) (by omega))
  refine pure_V ?_ rfl
  unfold m_law_dealt N_law_dealt F_law_dealt
  simp -dsimp
  refine V_rng (by omega) ?_
  simp -dsimp
  refine W_loopR (I := fun _ ρ C => ∃ x5 x6 x7, ρ = [some (dLine n), some (.lst (dPcs ps)), some (.lst (dPcs as)), some (.lst (dPcs ps)), some (.lst (dPcs as)), x5, x6, x7]) ⟨_, _, _, rfl⟩ (fun j hj ρ C hI => ?_) (fun ρ C hI => ?_)
  · obtain ⟨x5, x6, x7, rfl⟩ := hI
    simp -dsimp
    refine v_deal hn hp hc ha hcnt hz hza fun way C' hw hC => ?_
    have hv : D.views C' [dLine n, .lst (dPcs ps), .lst (dPcs as), .cel C.length] = some [dLine n, .lst (dPcs ps), .lst (dPcs as), .lst (way.map D.int)] := by
      rw [views_cons, view_nc nc_dLine, views_cons, view_nc (by rw [nc_lst]; exact ncs_dPcs), views_cons, view_nc (by rw [nc_lst]; exact ncs_dPcs), views_cons, view_cel hC (ncs_ints way id)]
      simp [D.views]
    simp -dsimp [hv]
    refine V_flat (v_way_places hn hp ha hz hza hw fun C2 => ⟨_, _, rfl, rfl, ?_⟩)
    simp -dsimp [hC]
    refine V_app1 hC (by rw [List.length_map, hw.lw]; omega) ?_
    simp -dsimp
    exact hold ⟨_, _, _, rfl⟩
  · obtain ⟨x5, x6, x7, rfl⟩ := hI
    simp -dsimp [e1, e2]
end
end Qv

/-! ## M41 -/
set_option Elab.async false
set_option linter.all false
set_option maxRecDepth 100000
set_option maxHeartbeats 800000
namespace Qv
open PySem PySem.Spec PyProof.Rows L2
/-! the law's own middle -/
section
variable {n : Nat} {ps : List Pc} {C : Cells}
theorem mid_sort {r : Pc} : midOf (sortP ps) r = midOf ps r := by
  have key : ∀ (a b : List Pc), (∀ p, p ∈ a → p ∈ b) → midOf a r ≤ midOf b r := fun a b h => by
    rcases mid_is (ps := a) (r := r) with e | ⟨p, hp, p1, p2, e⟩
    · rw [e]
      exact mid_ge
    · rw [e]
      exact mid_max (h p hp) p1 p2
  have h1 := key (sortP ps) ps fun p => sortP_mem.mp
  have h2 := key ps (sortP ps) fun p => sortP_mem.mpr
  omega
/-- 1 at a used leg -/
def usedI (ps : List Pc) (l : Nat) : Int := if ps.any (cov l) then 1 else 0
theorem usedI_1 {l : Nat} : usedI ps l = 1 ↔ 0 < cnt ps l := by
  unfold usedI
  rw [cnt_pos]
  by_cases h : ps.any (cov l) = true
  · rw [if_pos h]
    simp only [List.any_eq_true] at h
    simp [h]
  · rw [if_neg h]
    simp only [List.any_eq_true] at h
    constructor
    · intro z; omega
    · intro z; exact absurd z h
theorem usedI_0 {l : Nat} : usedI ps l = 0 ↔ ¬ 0 < cnt ps l := by
  rw [← usedI_1]
  unfold usedI
  split <;> simp
theorem usedI_snoc {p : Pc} {l : Nat} : usedI (ps ++ [p]) l = if cov l p then 1 else usedI ps l := by
  unfold usedI
  rw [List.any_append]
  rw [List.any_cons, List.any_nil, Bool.or_false]
  cases h : cov l p
  · rw [Bool.or_false]
    simp
  · rw [Bool.or_true]
    simp
/-- the slots -/
def rhoM (n : Nat) (ps : List Pc) (leg : Int) (x4 x5 x6 x7 x8 x9 : Option D) : Env := [some (dLine n), some (.lst (dPcs ps)), some (.int leg), some (.cel 0), x4, x5, x6, x7, x8, x9]
def InvM (n : Nat) (ps : List Pc) (leg : Nat) (r : Pc) (x4 x5 : Option D) (k : Nat) (ρ : Env) (C : Cells) : Prop := ∃ x8, ∃ b e : Nat, ρ = rhoM n ps leg x4 x5 (some (.int b)) (some (.int e)) x8 none ∧ C = [.lst (cntL (n + 1) (usedI ps))] ∧ r.1 ≤ b ∧ (b : Int) ≤ leg ∧ (leg : Int) ≤ e ∧ (e : Int) ≤ r.1 + r.2 ∧ ((b : Int) = r.1 ∨ b + k ≤ leg) ∧ ((e : Int) = r.1 + r.2 ∨ leg + k ≤ e)
theorem sp_law_middle {leg : Nat} (hn : 1 ≤ n ∧ n ≤ 24) (hz : ps.length < 1000) (h : ∀ p ∈ ps, okPc n p = true) (hl : leg < n) : pureM m_law_middle [dLine n, .lst (dPcs ps), .int leg] C = .ok (midD n ps leg) C := by
  have h1s : 1 ≤ sizeLine := line_le (by omega)
  refine pure_V ?_ (by unfold midD; split <;> rfl)
  unfold m_law_middle N_law_middle F_law_middle
  simp -dsimp [h1s]
  refine V_rep (by omega) (by simp; omega) (by omega) ?_
  have e0 : (List.replicate ((n : Int) + 1).toNat [D.int 0]).flatten = cntL (n + 1) (usedI []) := by
    rw [show ((n : Int) + 1).toNat = n + 1 by omega]
    have : ∀ k, (List.replicate k [D.int 0]).flatten = List.replicate k (D.int 0) := fun k => by simp
    rw [this]
    unfold cntL usedI
    simp
    rw [List.map_const', List.length_range]
  rw [e0]
  simp -dsimp
  refine W_loopM (xs := ps) (enc := dPc) (I := fun k ρ C => ∃ x4 x5, ρ = rhoM n ps leg x4 x5 none none none none ∧ C = [.lst (cntL (n + 1) (usedI (ps.take k)))]) ⟨_, _, rfl, by simp⟩ (fun j p hpj ρ C hI => ?_) (fun ρ C hI => ?_)
  · obtain ⟨x4, x5, rfl, rfl⟩ := hI
    have hok := h p (List.mem_of_getElem? hpj)
    have hpo := okPc_iff.mp hok
    unfold rhoM
    simp -dsimp [sp_law_legs hn hok]
    refine W_loopM (xs := legsL p) (enc := D.int) (I := fun k ρ C => ∃ x5, ρ = rhoM n ps leg (some (dPc p)) x5 none none none none ∧ C = [.lst (cntL (n + 1) (legF (fun _ => 1) p.1 k (usedI (ps.take j))))]) ⟨_, rfl, by rw [legF_0]⟩ (fun i x hx ρ C hI => ?_) (fun ρ C hI => ?_)
    · obtain ⟨x5, rfl, rfl⟩ := hI
      have hil : i < p.2.toNat := by
        have := (List.getElem?_eq_some_iff.mp hx).1
        rwa [legs_len] at this
      have ex : p.1 + (i : Int) = x := by
        unfold legsL at hx
        rw [List.getElem?_map, List.getElem?_range hil] at hx
        exact Option.some.inj hx
      obtain ⟨m, hm⟩ : ∃ m : Nat, x = m := ⟨x.toNat, by omega⟩
      subst hm
      have hmn : m < n + 1 := by omega
      unfold rhoM
      simp -dsimp [set_cnt hmn]
      refine hold ⟨_, rfl, ?_⟩
      rw [legF_s (g := fun _ => 1) ex]
    · obtain ⟨x5, rfl, rfl⟩ := hI
      simp -dsimp
      refine hold ⟨_, _, rfl, ?_⟩
      congr 2
      refine cntL_congr fun l _ => ?_
      rw [List.take_add_one, hpj, Option.toList_some, usedI_snoc, legs_len]
      unfold legF cov
      have : ((p.2.toNat : Nat) : Int) = p.2 := by omega
      rw [this]
      simp only [decide_eq_true_eq]
  · obtain ⟨x4, x5, rfl, rfl⟩ := hI
    rw [List.take_length]
    have hln : leg < n + 1 := by omega
    unfold rhoM
    simp -dsimp [at_cnt hln]
    refine Wif_d (fun hu => ?_) fun hu => ?_
    · rw [usedI_0] at hu
      have hm : midD n ps leg = .non := by
        unfold midD
        rw [List.find?_eq_none.mpr]
        intro r hr hh
        unfold hasLeg at hh
        have hh := of_decide_eq_true hh
        obtain ⟨i, e1, e2, e3⟩ := (runs_ok.run r hr).2.2.2.1 leg hh.1 hh.2
        have : i = leg := by omega
        subst this
        exact hu e3
      rw [hm]
      simp -dsimp
    · have hu : 0 < cnt ps leg := by
        by_cases h0 : 0 < cnt ps leg
        · exact h0
        · exact absurd (usedI_0.mpr h0) hu
      obtain ⟨r, hr, hm⟩ : ∃ r ∈ runsOf n ps, midD n ps leg = .int (midOf ps r) ∧ r.1 ≤ leg ∧ (leg : Int) < r.1 + r.2 := by
        unfold midD
        cases hf : (runsOf n ps).find? (hasLeg leg) with
        | none =>
          obtain ⟨r, h1, h2, h3⟩ := (runs_ok (n := n) (ps := ps)).all leg (by omega) (by omega) ⟨leg, rfl, hl, hu⟩
          have := List.find?_eq_none.mp hf r h1
          unfold hasLeg at this
          simp at this
          omega
        | some r =>
          have h1 := List.find?_some hf
          unfold hasLeg at h1
          exact ⟨r, List.mem_of_find?_eq_some hf, by dsimp only; rw [mid_sort], of_decide_eq_true h1⟩
      obtain ⟨hmid, hr1, hr2⟩ := hm
      obtain ⟨q1, q2, q3, q4, q5, q6⟩ := runs_ok.run r hr
      rw [hmid]
      simp -dsimp
      refine V_rng (by omega) ?_
      simp -dsimp
      refine W_loopR (I := InvM n ps leg r x4 x5)
        ⟨_, leg, leg, rfl, rfl, by omega, by omega, by omega, by omega, .inr (by omega), .inr (by omega)⟩ (fun i hi ρ C hI => ?_) (fun ρ C hI => ?_)
      · obtain ⟨x8, b, e, rfl, rfl, i1, i2, i3, i4, i5, i6⟩ := hI
        have hbm : ∀ m : Nat, (m : Int) + 1 = b → (usedI ps m = 1 ↔ r.1 < b) := fun m hm => by
          rw [usedI_1]
          constructor
          · intro hc
            by_cases hh : r.1 < b
            · exact hh
            · exact absurd ⟨m, by omega, by omega, hc⟩ q5
          · intro hh
            obtain ⟨z, z1, z2, z3⟩ := q4 m (by omega) (by omega)
            have : z = m := by omega
            rw [← this]
            exact z3
        have he : usedI ps e = 1 ↔ (e : Int) < r.1 + r.2 := by
          rw [usedI_1]
          constructor
          · intro hc
            by_cases hh : (e : Int) < r.1 + r.2
            · exact hh
            · by_cases hn2 : (e : Int) < n
              · have e1 : r.1 + r.2 = e := by omega
                exact absurd ⟨e, by omega, by omega, hc⟩ (e1 ▸ q6 (by omega))
              · obtain ⟨p, hp, hv⟩ := cnt_pos.mp hc
                have hpo := okPc_iff.mp (h p hp)
                unfold cov at hv
                have hv := of_decide_eq_true hv
                omega
          · intro hh
            obtain ⟨z, z1, z2, z3⟩ := q4 e (by omega) (by omega)
            have : z = e := by omega
            rw [← this]
            exact z3
        have hen : e < n + 1 := by omega
        unfold rhoM
        have second : ∀ (b' : Nat) (S : SO → Prop), r.1 ≤ b' → (b' : Int) ≤ leg → ((b' : Int) = r.1 ∨ b' + (i + 1) ≤ leg) → Wif (decide (usedI ps e = 1)) (sSet 7 (eOp dAdd (eSlot 7) (eC (.int 1)))) sNil [some (dLine n), some (.lst (dPcs ps)), some (.int leg), some (.cel 0), x4, x5, some (.int b'), some (.int e), some (.int i), none] [.lst (cntL (n + 1) (usedI ps))] (onLoop (InvM n ps leg r x4 x5 (i + 1)) S) := fun b' S b1 b2 b3 => by
          refine Wif_d (fun hu => ?_) fun hu => ?_
          · have := he.mp hu
            simp -dsimp
            exact hold ⟨_, b', e + 1, rfl, rfl, b1, b2, by omega, by omega, b3, by omega⟩
          · have : ¬ (e : Int) < r.1 + r.2 := fun z => hu (he.mpr z)
            simp -dsimp
            exact hold ⟨_, b', e, rfl, rfl, b1, b2, by omega, by omega, b3, by omega⟩
        simp -dsimp
        refine Vif_d (fun hb0 => ?_) fun hb0 => ?_
        · obtain ⟨m, hm⟩ : ∃ m : Nat, (b : Int) - 1 = m := ⟨b - 1, by omega⟩
          have hmn : m < n + 1 := by omega
          have hbm := hbm m (by omega)
          simp -dsimp [hm, at_cnt hmn]
          refine Wif_d (fun hu => ?_) fun hu => ?_
          · have := hbm.mp hu
            simp -dsimp [hm, at_cnt hen]
            exact second m _ (by omega) (by omega) (by omega)
          · have : ¬ r.1 < b := fun z => hu (hbm.mpr z)
            simp -dsimp [at_cnt hen]
            exact second b _ i1 i2 (by omega)
        · simp -dsimp [at_cnt hen]
          exact second b _ i1 i2 (by omega)
      · obtain ⟨x8, b, e, rfl, rfl, i1, i2, i3, i4, i5, i6⟩ := hI
        have hb : (b : Int) = r.1 := by omega
        have he : (e : Int) = r.1 + r.2 := by omega
        unfold rhoM
        simp -dsimp
        refine V_compL (xs := ps) (enc := dPc) (fun p => decide (r.1 ≤ p.1 ∧ p.1 + p.2 < r.1 + r.2)) (fun p => D.int (p.1 + p.2)) (by simp [dPcs]) (by omega) (fun p hp => ?_) ?_
        · simp -dsimp [wipeE]
          by_cases c1 : r.1 ≤ p.1
          · have c1' : (b : Int) ≤ p.1 := by omega
            have c2' : (p.1 + p.2 < (e : Int)) = (p.1 + p.2 < r.1 + r.2) := by rw [he]
            simp -dsimp [c1, c1', c2']
          · have c1' : ¬ (b : Int) ≤ p.1 := by omega
            simp -dsimp [c1, c1']
        · have hE : ((ps.filter fun p => decide (r.1 ≤ p.1 ∧ p.1 + p.2 < r.1 + r.2)).map fun p => D.int (p.1 + p.2)) = ((ps.filter fun p => decide (r.1 ≤ p.1 ∧ p.1 + p.2 < r.1 + r.2)).map fun p => p.1 + p.2).map D.int := by rw [List.map_map]; rfl
          have hlen : ((ps.filter fun p => decide (r.1 ≤ p.1 ∧ p.1 + p.2 < r.1 + r.2)).map fun p => p.1 + p.2).length < 1000 := by
            rw [List.length_map]
            exact Nat.lt_of_le_of_lt (List.length_filter_le _ _) hz
          rw [hE]
          unfold midOf
          generalize ((ps.filter fun p => decide (r.1 ≤ p.1 ∧ p.1 + p.2 < r.1 + r.2)).map fun p => p.1 + p.2) = E at hlen
          have hadd : ∀ C, dAdd (.lst [.int b]) (.lst (E.map D.int)) C = some (.lst ((r.1 :: E).map D.int)) := fun C => by
            rw [cat_l (by rw [List.length_map]; simp; omega), hb]
            rfl
          have hmax : ∀ C, fn1 maxD [.lst ((r.1 :: E).map D.int)] C = some (.int (maxI (r.1 :: E))) := fun C => by
            show (Option.bind (some _) fun xs => (allInt xs).bind fun ns => if 0 < ns.length then some (D.int (maxI ns)) else none) = _
            rw [Option.bind_some, allInt_map]
            rfl
          simp -dsimp only [onOk_ok, onOkS_ok, onNx_nx]
          simp -dsimp [h1s, hadd, -List.map_cons, hmax]
end
end Qv

/-! ## M42 -/
set_option Elab.async false
set_option linter.all false
set_option maxRecDepth 100000
set_option maxHeartbeats 800000
namespace Qv
open PySem PySem.Spec PyProof.Rows L2
/-! middles, one ask more, one piece more -/
section
variable {n : Nat} {ps as : List Pc} {C : Cells} {s : Cell} {R : Cells} {K : Out D → Prop}
theorem midD_nc {leg : Int} : (midD n ps leg).nc = true ∧ ∀ k, pl (k + 1) (midD n ps leg) = true := by
  unfold midD
  split
  · exact ⟨rfl, fun _ => by simp [pl]⟩
  · exact ⟨rfl, fun _ => by simp [pl]⟩
theorem sh_told : SeqAt.shaped (PyData.str "told") = true := by with_unfolding_all rfl
theorem sp_law_middles (hn : 1 ≤ n ∧ n ≤ 24) (hz : ps.length < 1000) (h : ∀ p ∈ ps, okPc n p = true) : pureM m_law_middles [dLine n, .lst (dPcs ps)] C = .ok (.bl true) C := by
  have h2s : 2 ≤ sizeLine := line_le (by omega)
  have e1 : ∀ C, pureM (m_law_equal 8) [.lst (dPcs ps), .lst (dPcs ps)] C = .ok (.bl true) C := fun C => eq_self 8 _ (pl_pcs (k := 5) (by omega))
  refine pure_V ?_ rfl
  unfold m_law_middles N_law_middles F_law_middles
  simp -dsimp
  refine V_rng (by omega) ?_
  simp -dsimp
  refine W_loopR (I := fun _ ρ C => ∃ x3, ρ = [some (dLine n), some (.lst (dPcs ps)), some (.lst (dPcs ps)), x3]) ⟨_, rfl⟩ (fun j hj ρ C hI => ?_) (fun ρ C hI => ?_)
  · obtain ⟨x3, rfl⟩ := hI
    have hm := midD_nc (n := n) (ps := ps) (leg := (j : Int))
    have e2 : ∀ C, pureM (m_law_equal 8) [.tup [.str "told", midD n ps j], .tup [.str "told", midD n ps j]] C = .ok (.bl true) C := fun C => eq_self 8 _ (by simp [pl, sh_told, hm.2])
    simp -dsimp [sp_middle_of hn hz h, sp_law_middle hn hz h hj, h2s, hm.1, e2]
    exact hold ⟨_, rfl⟩
  · obtain ⟨x3, rfl⟩ := hI
    simp -dsimp [e1]
/-! one ask more -/
def rhoE (R : Cells) (n : Nat) (ps as : List Pc) (x5 x6 x7 : Option D) : Env := [some (.cel 0), some (dLine n), some (.lst (dPcs ps)), some (.lst (dPcs as)), some (.cel (R.length + 1)), x5, x6, x7]
theorem legs_at {p : Pc} {i : Nat} {x : Int} (hx : (legsL p)[i]? = some x) : p.1 + (i : Int) = x ∧ i < p.2.toNat := by
  have hil : i < p.2.toNat := by
    have := (List.getElem?_eq_some_iff.mp hx).1
    rwa [legs_len] at this
  unfold legsL at hx
  rw [List.getElem?_map, List.getElem?_range hil] at hx
  exact ⟨Option.some.inj hx, hil⟩
theorem legF_all {g : Int → Int} {p : Pc} {f : Nat → Int} {l : Nat} (h : 0 ≤ p.2) : legF g p.1 (legsL p).length f l = if cov l p then g (f l) else f l := by
  unfold legF cov
  rw [legs_len]
  have : ((p.2.toNat : Nat) : Int) = p.2 := by omega
  rw [this]
  simp only [decide_eq_true_eq]
theorem v_more (hs : IsSto s) (hn : 1 ≤ n ∧ n ≤ 24) (hp : ∀ p ∈ ps, okPc n p = true) (ha : ∀ p ∈ as, okPc n p = true) (k : ∀ (l : Int) s' Z, IsSto s' → (l = -1 ∨ ∃ m : Nat, l = m ∧ m < n ∧ cnt ps m = cnt as m) → K (.ok (.tup [.int l, .int 1]) (s' :: (R ++ Z)))) :
    V (m_law_more [.cel 0, dLine n, .lst (dPcs ps), .lst (dPcs as)] (s :: R)) K := by
  have h1s : 1 ≤ sizeLine := line_le (by omega)
  have h2s : 2 ≤ sizeLine := line_le (by omega)
  unfold m_law_more N_law_more F_law_more
  simp -dsimp [h1s]
  refine V_rep (by omega) (by simp; omega) (by omega) ?_
  have e0 : (List.replicate ((n : Int)).toNat [D.int 0]).flatten = cntL n (cnt []) := by
    rw [Int.toNat_natCast]
    have : ∀ k, (List.replicate k [D.int 0]).flatten = List.replicate k (D.int 0) := fun k => by simp
    rw [this]
    unfold cntL cnt
    simp
    rw [List.map_const', List.length_range]
  rw [e0]
  simp -dsimp
  refine W_loopM (xs := ps) (enc := dPc) (I := fun k ρ C => ∃ x5 x6, ρ = rhoE R n ps as x5 x6 none ∧ C = s :: (R ++ [.lst (cntL n (cnt (ps.take k)))])) ⟨_, _, rfl, by simp⟩ (fun j p hpj ρ C hI => ?_) (fun ρ C hI => ?_)
  · obtain ⟨x5, x6, rfl, rfl⟩ := hI
    have hok := hp p (List.mem_of_getElem? hpj)
    have hpo := okPc_iff.mp hok
    unfold rhoE
    simp -dsimp [sp_law_legs hn hok]
    refine W_loopM (xs := legsL p) (enc := D.int) (I := fun k ρ C => ∃ x6, ρ = rhoE R n ps as (some (dPc p)) x6 none ∧ C = s :: (R ++ [.lst (cntL n (legF (· + 1) p.1 k (cnt (ps.take j))))])) ⟨_, rfl, by rw [legF_0]⟩ (fun i x hx ρ C hI => ?_) (fun ρ C hI => ?_)
    · obtain ⟨x6, rfl, rfl⟩ := hI
      obtain ⟨ex, hil⟩ := legs_at hx
      obtain ⟨m, hm⟩ : ∃ m : Nat, x = m := ⟨x.toNat, by omega⟩
      subst hm
      have hmn : m < n := by omega
      unfold rhoE
      simp -dsimp [at_cnt hmn, set_cnt hmn]
      refine hold ⟨_, rfl, ?_⟩
      rw [legF_s (g := (· + 1)) ex]
    · obtain ⟨x6, rfl, rfl⟩ := hI
      simp -dsimp
      refine hold ⟨_, _, rfl, ?_⟩
      congr 3
      refine congrArg _ (cntL_congr fun l _ => ?_)
      rw [List.take_add_one, hpj, Option.toList_some, cnt_snoc, legF_all (by omega)]
      split <;> simp
  · obtain ⟨x5, x6, rfl, rfl⟩ := hI
    rw [List.take_length]
    unfold rhoE
    simp -dsimp
    refine W_loopM (xs := as) (enc := dPc) (I := fun k ρ C => ∃ x6 x7, ρ = rhoE R n ps as x5 x6 x7 ∧ C = s :: (R ++ [.lst (cntL n fun l => cnt ps l - cnt (as.take k) l)])) ⟨_, _, rfl, by simp [cnt_nil]⟩ (fun j p hpj ρ C hI => ?_) (fun ρ C hI => ?_)
    · obtain ⟨x6, x7, rfl, rfl⟩ := hI
      have hok := ha p (List.mem_of_getElem? hpj)
      have hpo := okPc_iff.mp hok
      unfold rhoE
      simp -dsimp [sp_law_legs hn hok]
      refine W_loopM (xs := legsL p) (enc := D.int) (I := fun k ρ C => ∃ x6, ρ = rhoE R n ps as x5 x6 (some (dPc p)) ∧ C = s :: (R ++ [.lst (cntL n (legF (· - 1) p.1 k fun l => cnt ps l - cnt (as.take j) l))])) ⟨_, rfl, by rw [legF_0]⟩ (fun i x hx ρ C hI => ?_) (fun ρ C hI => ?_)
      · obtain ⟨x6, rfl, rfl⟩ := hI
        obtain ⟨ex, hil⟩ := legs_at hx
        obtain ⟨m, hm⟩ : ∃ m : Nat, x = m := ⟨x.toNat, by omega⟩
        subst hm
        have hmn : m < n := by omega
        unfold rhoE
        simp -dsimp [at_cnt hmn, set_cnt hmn]
        refine hold ⟨_, rfl, ?_⟩
        rw [legF_s (g := (· - 1)) ex]
      · obtain ⟨x6, rfl, rfl⟩ := hI
        simp -dsimp
        refine hold ⟨_, _, rfl, ?_⟩
        congr 3
        refine congrArg _ (cntL_congr fun l _ => ?_)
        rw [List.take_add_one, hpj, Option.toList_some, cnt_snoc, legF_all (by omega)]
        split <;> omega
    · obtain ⟨x6, x7, rfl, rfl⟩ := hI
      rw [List.take_length]
      unfold rhoE
      simp -dsimp [h1s, h2s]
      refine V_compR (n := n) (fun l => decide (cnt ps l - cnt as l = 0)) (fun l => D.int l) (by simp) (by omega) (fun l hl => ?_) ?_
      · simp -dsimp [wipeE, at_cnt hl]
      · generalize hF : (List.range n).filter (fun l => decide (cnt ps l - cnt as l = 0)) = F
        have hFl : F.length ≤ n := by
          rw [← hF]
          exact Nat.le_trans (List.length_filter_le _ _) (by simp)
        have hadd : ∀ C, dAdd (.lst (F.map fun l : Nat => D.int l)) (.lst [.int (-1)]) C = some (.lst ((F.map fun l : Nat => D.int l) ++ [.int (-1)])) := fun C => cat_l (by rw [List.length_map]; simp; omega)
        simp -dsimp [h1s, hadd]
        refine v_pick hs (by simp) (by simp; omega) fun i d s2 h5 hd => ?_
        have hd2 := List.mem_of_getElem? hd
        rcases List.mem_append.mp hd2 with hd2 | hd2
        · obtain ⟨l, hl1, rfl⟩ := List.mem_map.mp hd2
          rw [← hF] at hl1
          obtain ⟨hl3, hl4⟩ := List.mem_filter.mp hl1
          have hl4 := of_decide_eq_true hl4
          simp -dsimp [h2s]
          exact k l s2 _ h5 (.inr ⟨l, rfl, List.mem_range.mp hl3, by omega⟩)
        · have : d = .int (-1) := by simpa using hd2
          subst this
          simp -dsimp [h2s]
          exact k (-1) s2 _ h5 (.inl rfl)
end
end Qv

/-! ## M43 -/
set_option Elab.async false
set_option linter.all false
set_option maxRecDepth 100000
set_option maxHeartbeats 800000
namespace Qv
open PySem PySem.Spec PyProof.Rows L2
/-! joining two ways; a pure call; a + b of lists -/
section
variable {α : Type} {ρ : Env} {C : Cells} {S : SO → Prop} {K : Out D → Prop} {KA : Out (List D) → Prop}
theorem Wif_join {b : Bool} {f g : DS} {n : Env → Cells → Prop} (J : Env → Cells → Prop) (h : Wif b f g ρ C (onJ J S)) (k : ∀ ρ C, J ρ C → n ρ C) : Wif b f g ρ C (onNx n S) := by
  unfold Wif at h ⊢
  cases e : (if b = true then f ρ C else g ρ C) with
  | nx ρ' C' => rw [e] at h; exact k ρ' C' h.un
  | _ => rw [e] at h; exact h
theorem V_pure {m : MD} {ds : List D} (h : V (m ds []) fun o => ∃ d C', o = .ok d C' ∧ d.nc = true ∧ K (.ok d C)) : V (pureM m ds C) K := by
  rw [V_def] at h
  obtain ⟨d, C', e, h1, h2⟩ := h
  rw [V_def, pure_ok e h1]
  exact h2
def catO (x y : D) (C : Cells) : Out (List D) := match x.seq C, y.seq C with
  | some xs, some ys => if xs.length + ys.length ≤ sizeLine then .ok (xs ++ ys) C else .stuck
  | _, _ => .stuck
@[simp ↓] theorem V_fCat {f g : DE} : V (fCat f g ρ C) KA = V (f ρ C) (onOk (fun x C => V (g ρ C) (onOk (fun y C => V (catO x y C) KA) KA)) KA) := by
  unfold fCat
  rw [V_bind]
  refine V_onOk fun x C => ?_
  rw [V_bind]
  rfl
theorem V_cat {x y : D} {xs ys : List D} (hx : x.seq C = some xs) (hy : y.seq C = some ys) (hl : xs.length + ys.length ≤ 1000000) (k : KA (.ok (xs ++ ys) C)) : V (catO x y C) KA := by
  rw [V_def]
  unfold catO
  rw [hx, hy]
  dsimp only
  rw [if_pos (line_le hl)]
  exact k
theorem seq_cel {k : Nat} {xs : List D} (h : C[k]? = some (.lst xs)) : (D.cel k).seq C = some xs := by
  simp [D.seq, h]
end
/-! a piece that spoils the counting -/
def Spoils (n : Int) (p q : Pc) : Prop := okPc n q = true ∧ ¬ (NoFault p q ∧ NoFault q p)
theorem spoils_ff {n : Nat} {ps : List Pc} {p q : Pc} (hok : ∀ p ∈ ps, okPc n p = true) (hp : p ∈ ps) (h : Spoils n p q) : ff (sortP (ps ++ [q])) ≠ .non := fun z => by
  have hc := counts_of (n := n) (ps := ps ++ [q]) (fun r hr => by
    rcases List.mem_append.mp hr with hr | hr
    · exact hok r hr
    · have : r = q := by simpa using hr
      rw [this]
      exact h.1) z
  exact h.2 ⟨hc p (by simp [hp]) q (by simp), hc q (by simp) p (by simp [hp])⟩
section
variable {n : Nat} {p : Pc} {C : Cells} {K : Out D → Prop}
def JN (n : Nat) (p : Pc) (j : Nat) (ρ : Env) (C : Cells) : Prop := ∃ k qs, ρ = [some (dLine n), some (dPc p), some (.int p.1), some (.int p.2), some (.cel k)] ∧ C[k]? = some (.lst (dPcs qs)) ∧ (∀ q ∈ qs, Spoils n p q) ∧ qs.length ≤ j
theorem JN.mk {j k : Nat} {qs rs : List Pc} {C : Cells} (h : ∀ q ∈ qs, Spoils n p q) (h2 : ∀ q ∈ rs, Spoils n p q) (hl : qs.length + rs.length ≤ j) (hC : C[k]? = some (.lst (dPcs (qs ++ rs)))) : JN n p j [some (dLine n), some (dPc p), some (.int p.1), some (.int p.2), some (.cel k)] C :=
  ⟨k, qs ++ rs, rfl, hC, fun q hq => (List.mem_append.mp hq).elim (h q) (h2 q), by rw [List.length_append]; exact hl⟩
theorem v_no_count (hn : 1 ≤ n ∧ n ≤ 24) (hp : okPc n p = true) (k : ∀ qs, (∀ q ∈ qs, Spoils n p q) → qs.length ≤ 10 → K (.ok (.lst (dPcs qs)) C)) : V (pureM m_law_no_count [dLine n, dPc p] C) K := by
  have h2s : 2 ≤ sizeLine := line_le (by omega)
  have hpo := okPc_iff.mp hp
  have hsp : ∀ a b : Int, okPc n (a, b) = true → ¬ (NoFault p (a, b) ∧ NoFault (a, b) p) → ∀ q ∈ [((a, b) : Pc)], Spoils n p q := fun a b h1 h2 q hq => by
    have : q = (a, b) := by simpa using hq
    rw [this]
    exact ⟨h1, h2⟩
  refine V_pure ?_
  unfold m_law_no_count N_law_no_count F_law_no_count
  have hb : (Tgt.tp [.nm 2, .nm 3]).bind (dPc p) [some (dLine n), some (dPc p), none, none, none] = some [some (dLine n), some (dPc p), some (.int p.1), some (.int p.2), none] := by simp [dPc]
  simp -dsimp only [V_run, W_seq, W_asg, List.map_cons, List.map_nil, List.length_cons, List.length_nil, List.replicate]
  simp -dsimp [hb]
  refine Wif_join (JN n p 3) (Wif_d (fun h1 => ?_) fun h1 => ?_) fun ρ C hJ => ?_
  · simp -dsimp [h2s, pc_tup]
    refine V_cat (xs := dPcs []) (ys := dPcs [(p.1 + p.2, (n : Int) - p.1 - p.2), (p.1 + p.2, 1)]) (by simp [D.seq, dPcs]) rfl (by simp [dPcs]) ?_
    simp -dsimp
    have hs1 : ∀ q ∈ [(p.1 + p.2, (n : Int) - p.1 - p.2), (p.1 + p.2, (1 : Int))], Spoils n p q := fun q hq => by
      rcases List.mem_cons.mp hq with e | hq
      · rw [e]
        exact ⟨okPc_iff.mpr ⟨by simp; omega, by simp; omega, by simp; omega⟩, by unfold NoFault; simp⟩
      · have e : q = (p.1 + p.2, 1) := by simpa using hq
        rw [e]
        exact ⟨okPc_iff.mpr ⟨by simp; omega, by simp, by simp; omega⟩, by unfold NoFault; simp⟩
    refine Wif_d (fun h2 => ?_) fun h2 => ?_
    · simp -dsimp [h2s, pc_tup]
      refine V_app1 (xs := dPcs ([] ++ [(p.1 + p.2, (n : Int) - p.1 - p.2), (p.1 + p.2, 1)])) (by simp [dPcs]) (by simp [dPcs]) ?_
      simp -dsimp
      refine hold (JN.mk (qs := [(p.1 + p.2, (n : Int) - p.1 - p.2), (p.1 + p.2, 1)]) (rs := [(p.1 + 1, p.2)]) hs1 (hsp _ _ (okPc_iff.mpr ⟨by simp; omega, by simp; omega, by simp; omega⟩) (by unfold NoFault; simp; omega)) (by simp) (by simp [dPcs]))
    · simp -dsimp
      refine hold (JN.mk (qs := []) (rs := [(p.1 + p.2, (n : Int) - p.1 - p.2), (p.1 + p.2, 1)]) (by simp) hs1 (by simp) (by simp [dPcs]))
  · simp -dsimp
    exact hold ⟨_, [], rfl, by simp [dPcs], by simp, by simp⟩
  · obtain ⟨k1, qs, rfl, hC, g1, g2⟩ := hJ
    simp -dsimp
    refine Wif_join (JN n p 5) (Wif_d (fun h1 => ?_) fun h1 => ?_) fun ρ C hJ => ?_
    · simp -dsimp [h2s, pc_tup]
      refine V_cat (xs := dPcs qs) (ys := dPcs [(p.1 - 1, 1), (0, p.1)]) (seq_cel hC) rfl (by simp [dPcs]; omega) ?_
      simp -dsimp
      refine hold (JN.mk (qs := qs) (rs := [(p.1 - 1, 1), (0, p.1)]) g1 (fun q hq => ?_) (by simp; omega) (by simp [dPcs]))
      rcases List.mem_cons.mp hq with e | hq
      · rw [e]
        exact ⟨okPc_iff.mpr ⟨by simp; omega, by simp, by simp; omega⟩, by unfold NoFault; simp⟩
      · have e : q = (0, p.1) := by simpa using hq
        rw [e]
        exact ⟨okPc_iff.mpr ⟨by simp, by simp; omega, by simp; omega⟩, by unfold NoFault; simp⟩
    · simp -dsimp
      exact hold ⟨k1, qs, rfl, hC, g1, by omega⟩
    · obtain ⟨k1, qs, rfl, hC, g1, g2⟩ := hJ
      simp -dsimp
      refine Wif_join (JN n p 6) (Wif_d (fun h1 => ?_) fun h1 => ?_) fun ρ C hJ => ?_
      · simp -dsimp [h2s, pc_tup, hC]
        refine V_app1 (xs := dPcs qs) hC (by rw [dPcs_len]; omega) ?_
        simp -dsimp
        refine hold (JN.mk (qs := qs) (rs := [(p.1 + 1, p.2 - 2)]) g1 (hsp _ _ (okPc_iff.mpr ⟨by simp; omega, by simp; omega, by simp; omega⟩) (by unfold NoFault; simp; omega)) (by simp; omega) ?_)
        rw [List.getElem?_set_self (List.getElem?_eq_some_iff.mp hC).1, dPcs_snoc]
      · simp -dsimp
        exact hold ⟨k1, qs, rfl, hC, g1, by omega⟩
      · obtain ⟨k1, qs, rfl, hC, g1, g2⟩ := hJ
        simp -dsimp [hC, ncs_dPcs]
        exact k qs g1 (by omega)
end
end Qv

/-! ## M44 -/
set_option Elab.async false
set_option linter.all false
set_option maxRecDepth 100000
set_option maxHeartbeats 800000
namespace Qv
open PySem PySem.Spec PyProof.Rows L2
/-! what is no piece -/
def NoPc (n : Nat) (d : D) : Prop := d.nc = true ∧ ∀ C, pureM m_fits [dLine n, d] C = .ok (.bl false) C
section
variable {n : Nat}
theorem noPc_pc {p : Pc} (h : okPc n p = false) : NoPc n (dPc p) := ⟨nc_dPc, fun C => by rw [sp_fits_line, h]⟩
theorem noPc_of {d : D} (hn : d.nc = true) (h : ∀ K : Out D → Prop, K (.ok (.bl false) []) → V (m_is_stretch [dLine n, d] []) K) : NoPc n d := ⟨hn, fun C => by
  refine pure_V ?_ rfl
  have hs : pureM m_is_stretch [dLine n, d] [] = .ok (.bl false) [] := pure_V (h _ ⟨[], rfl⟩) rfl
  unfold m_fits N_fits F_fits
  simp -dsimp [hn, hs]⟩
@[simp] theorem isT_l {C : Cells} {l : List D} : isiD "tuple" (.lst l) C = some (.bl false) := by with_unfolding_all rfl
@[simp] theorem isT_s {C : Cells} {z : Str} : isiD "tuple" (.str z) C = some (.bl false) := by with_unfolding_all rfl
@[simp] theorem isT_n {C : Cells} : isiD "tuple" .non C = some (.bl false) := by with_unfolding_all rfl
@[simp] theorem isT_i {C : Cells} {i : Int} : isiD "tuple" (.int i) C = some (.bl false) := by with_unfolding_all rfl
@[simp] theorem isT_b {C : Cells} {b : Bool} : isiD "tuple" (.bl b) C = some (.bl false) := by with_unfolding_all rfl
theorem num_bl {b : Bool} {C : Cells} : pureM m_is_number [.bl b] C = .ok (.bl false) C := by cases b <;> kernel_rfl
theorem num_str : ∀ {C : Cells}, pureM m_is_number [.str "0"] C = .ok (.bl false) C := fun {C} => by kernel_rfl
theorem noPc_flat {d : D} (hn : d.nc = true) (h : ∀ C, isiD "tuple" d C = some (.bl false)) : NoPc n d := noPc_of hn fun K k => by
  unfold m_is_stretch N_is_stretch F_is_stretch
  simp -dsimp [h]
  exact k
theorem noPc_len {xs : List D} (hn : D.ncs xs = true) (h : xs.length ≠ 2) : NoPc n (.tup xs) := noPc_of (by rw [nc_tup]; exact hn) fun K k => by
  have h2 : decide ((xs.length : Int) = 2) = false := decide_eq_false (by omega)
  unfold m_is_stretch N_is_stretch F_is_stretch
  simp -dsimp [h2]
  exact k
theorem noPc_num1 {a b : D} (h1 : a.nc = true) (h2 : b.nc = true) (h : ∀ C, pureM m_is_number [a] C = .ok (.bl false) C) : NoPc n (.tup [a, b]) := noPc_of (by simp [h1, h2]) fun K k => by
  unfold m_is_stretch N_is_stretch F_is_stretch
  simp -dsimp [h, h1, h2]
  exact k
theorem noPc_num2 {i : Int} {b : D} (h2 : b.nc = true) (h : ∀ C, pureM m_is_number [b] C = .ok (.bl false) C) : NoPc n (.tup [.int i, b]) := noPc_of (by simp [h2]) fun K k => by
  unfold m_is_stretch N_is_stretch F_is_stretch
  simp -dsimp [h, h2]
  exact k
theorem v_wrong {s : Cell} {R : Cells} {K : Out D → Prop} (hs : IsSto s) (hn : 1 ≤ n ∧ n ≤ 24) (k : ∀ d s', IsSto s' → NoPc n d → K (.ok d (s' :: R))) : V (m_law_wrong [.cel 0, dLine n] (s :: R)) K := by
  have hsz : ∀ j, j ≤ 20 → j ≤ sizeLine := fun j hj => line_le (by omega)
  have hin : ∀ C, dIn (.str "line") (.tup [.str "line", .str "round"]) C = some (.bl true) := fun C => in_line
  unfold m_law_wrong N_law_wrong F_law_wrong
  simp -dsimp [hsz]
  have hadd : ∀ (C : Cells) (a b : List D), a.length + b.length < 1000 → dAdd (.lst a) (.lst b) C = some (.lst (a ++ b)) := fun C a b h => cat_l (by omega)
  simp -dsimp [hsz, hadd]
  refine v_pick hs (by simp) (by simp) fun i d s1 h1 hd => ?_
  simp -dsimp
  refine k d s1 h1 ?_
  match i, hd with
  | 0, hd => cases hd; exact noPc_pc (p := (0, (n : Int) + 1)) (by unfold okPc; simp; omega)
  | 1, hd => cases hd; exact noPc_pc (p := ((n : Int), 1)) (by unfold okPc; simp; omega)
  | 2, hd => cases hd; exact noPc_pc (p := (-1, 1)) (by unfold okPc; simp)
  | 3, hd => cases hd; exact noPc_pc (p := (1, (n : Int))) (by unfold okPc; simp; omega)
  | 4, hd => cases hd; exact noPc_pc (p := (0, 0)) (by unfold okPc; simp)
  | 5, hd => cases hd; exact noPc_num2 rfl fun C => num_bl
  | 6, hd => cases hd; exact noPc_num1 rfl rfl fun C => num_bl
  | 7, hd => cases hd; exact noPc_flat rfl fun C => isT_l
  | 8, hd => cases hd; exact noPc_len rfl (by simp)
  | 9, hd => cases hd; exact noPc_len rfl (by simp)
  | 10, hd => cases hd; exact noPc_flat rfl fun C => isT_s
  | 11, hd => cases hd; exact noPc_flat rfl fun C => isT_n
  | 12, hd => cases hd; exact noPc_flat rfl fun C => isT_i
  | 13, hd => cases hd; exact noPc_num1 rfl rfl fun C => num_str
  | j + 14, hd => simp at hd
end
end Qv

/-! ## M45 -/
set_option Elab.async false
set_option linter.all false
set_option maxRecDepth 100000
set_option maxHeartbeats 800000
namespace Qv
open PySem PySem.Spec PyProof.Rows L2
/-! what is no trade -/
def NoTr (d : D) : Prop := d.nc = true ∧ ∀ C, pureM m_is_trade [d] C = .ok (.bl false) C
theorem noTr_flat {d : D} (hn : d.nc = true) (h : ∀ C, isiD "tuple" d C = some (.bl false)) : NoTr d := ⟨hn, fun C => by
  refine pure_V ?_ rfl
  unfold m_is_trade N_is_trade F_is_trade
  simp -dsimp [h]⟩
theorem noTr_len {xs : List D} (hn : D.ncs xs = true) (h : xs.length ≠ 2) : NoTr (.tup xs) := ⟨by rw [nc_tup]; exact hn, fun C => by
  have h2 : decide ((xs.length : Int) = 2) = false := decide_eq_false (by omega)
  refine pure_V ?_ rfl
  unfold m_is_trade N_is_trade F_is_trade
  simp -dsimp [h2]⟩
/-- a shape that is none -/
theorem noTr_shape {z : Str} {d : D} (hn : d.nc = true) (h1 : ∀ C, dIn (.str z) (.tup [.str "line", .str "round"]) C = some (.bl false)) (h2 : ∀ C, dEq (.str z) (.str "yard") C = some (.bl false)) (h3 : ∀ C, dEq (.str z) (.str "till") C = some (.bl false)) (h4 : ∀ C, dEq (.str z) (.str "packing") C = some (.bl false)) : NoTr (.tup [.str z, d]) := ⟨by simp [hn], fun C => by
  refine pure_V ?_ rfl
  unfold m_is_trade N_is_trade F_is_trade
  simp -dsimp [h1, h2, h3, h4]⟩
theorem noTr_conc {d : D} (hn : d.nc = true) (h : m_is_trade [d] [] = .ok (.bl false) []) : NoTr d := ⟨hn, fun C => pure_ok h rfl⟩
theorem c_line25 : NoTr (.tup [.str "line", .int 25]) := noTr_conc rfl (by kernel_rfl)
theorem c_round0 : NoTr (.tup [.str "round", .int 0]) := noTr_conc rfl (by kernel_rfl)
theorem c_till1 : NoTr (.tup [.str "till", .int 1]) := noTr_conc rfl (by kernel_rfl)
theorem c_yard100 : NoTr (.tup [.str "yard", .int 100]) := noTr_conc rfl (by kernel_rfl)
theorem c_pack0 : NoTr (.tup [.str "packing", .tup []]) := noTr_conc rfl (by kernel_rfl)
/-- a trade that is no line -/
def NoLn (d : D) : Prop := d.nc = true ∧ (∀ C, pureM m_is_trade [d] C = .ok (.bl true) C) ∧ ∃ z t, d = .tup [.str z, t] ∧ ∀ C, dNe (.str z) (.str "line") C = some (.bl true)
theorem l_round {n : Nat} (hn : 1 ≤ n ∧ n ≤ 24) : NoLn (.tup [.str "round", .int n]) := ⟨rfl, fun C => by
  refine pure_V ?_ rfl
  unfold m_is_trade N_is_trade F_is_trade
  simp -dsimp
  omega, _, _, rfl, fun C => ne_round_line⟩
theorem l_yard : NoLn (.tup [.str "yard", .int 2]) := ⟨rfl, fun C => pure_ok (C' := []) (by kernel_rfl) rfl, _, _, rfl, fun C => ne_yard_line⟩
theorem l_till : NoLn (.tup [.str "till", .int 0]) := ⟨rfl, fun C => pure_ok (C' := []) (by kernel_rfl) rfl, _, _, rfl, fun C => ne_till_line⟩
theorem c_packq : NoTr (.tup [.str "packing", .tup [.tup [.str "q", .tup [.str "q", .str "q"]]]]) := noTr_conc rfl (by kernel_rfl)
theorem l_pack : NoLn (.tup [.str "packing", .tup [.tup [.str "q", .tup []]]]) := ⟨rfl, fun C => pure_ok (C' := []) (by kernel_rfl) rfl, _, _, rfl, fun C => ne_packing_line⟩
end Qv

/-! ## M46 -/
set_option Elab.async false
set_option linter.all false
set_option maxRecDepth 100000
set_option maxHeartbeats 800000
namespace Qv
open PySem PySem.Spec PyProof.Rows L2
/-! spoilt values -/
section
variable {s : Cell} {R : Cells} {K : Out D → Prop} {n : Nat} {C : Cells}
def T4 (n : Nat) (d : D) : Prop := d = .tup [.str "round", .int n] ∨ d = .tup [.str "yard", .int 2] ∨ d = .tup [.str "till", .int 0] ∨ d = .tup [.str "packing", .tup [.tup [.str "q", .tup []]]]
theorem T4.noln {d : D} (h : T4 n d) (hn : 1 ≤ n ∧ n ≤ 24) : NoLn d := by
  rcases h with rfl | rfl | rfl | rfl
  · exact l_round hn
  · exact l_yard
  · exact l_till
  · exact l_pack
theorem add_tt {xs ys : List D} (h : xs.length + ys.length ≤ 1000) : dAdd (.tup xs) (.tup ys) C = some (.tup (xs ++ ys)) := by
  show (if xs.length + ys.length ≤ sizeLine then _ else _) = _
  rw [if_pos (line_le (by omega))]
theorem v_untrade0 {z zs : Str} {x : D} (hs : IsSto s) (hx : x.nc = true) (hzs : ∀ C, dAdd (.str z) (.str "s") C = some (.str zs)) (h3 : NoTr (.tup [.str zs, x])) (k : ∀ d s', IsSto s' → NoTr d → K (.ok d (s' :: R))) : V (m_law_untrade [.cel 0, .tup [.str z, x]] (s :: R)) K := by
  have hsz : ∀ j, j ≤ 20 → j ≤ sizeLine := fun j hj => line_le (by omega)
  have hadd : ∀ (C : Cells) (a b : List D), a.length + b.length < 1000 → dAdd (.lst a) (.lst b) C = some (.lst (a ++ b)) := fun C a b h => cat_l (by omega)
  have hadt : ∀ C, dAdd (.tup [.str z, x]) (.tup [.int 0]) C = some (.tup [.str z, x, .int 0]) := fun C => add_tt (by simp)
  unfold m_law_untrade N_law_untrade F_law_untrade
  simp -dsimp [hsz, hadd, hadt, hzs]
  refine v_pick hs (by simp) (by simp) fun i d s1 h1 hd => ?_
  simp -dsimp
  refine k d s1 h1 ?_
  match i, hd with
  | 0, hd => cases hd; exact noTr_len rfl (by simp)
  | 1, hd => cases hd; exact noTr_flat (by simp [hx]) fun C => isT_l
  | 2, hd => cases hd; exact noTr_len (by simp [hx]) (by simp)
  | 3, hd => cases hd; exact h3
  | 4, hd => cases hd; exact c_line25
  | 5, hd => cases hd; exact c_round0
  | 6, hd => cases hd; exact c_till1
  | 7, hd => cases hd; exact c_yard100
  | 8, hd => cases hd; exact c_pack0
  | 9, hd => cases hd; exact c_packq
  | 10, hd => cases hd; exact noTr_flat rfl fun C => isT_s
  | 11, hd => cases hd; exact noTr_flat rfl fun C => isT_n
  | j + 12, hd => simp at hd
theorem v_untrade {d : D} (hs : IsSto s) (h : T4 n d) (k : ∀ d s', IsSto s' → NoTr d → K (.ok d (s' :: R))) : V (m_law_untrade [.cel 0, d] (s :: R)) K := by
  rcases h with rfl | rfl | rfl | rfl
  · exact v_untrade0 (zs := "rounds") hs rfl (fun C => by kernel_rfl) (noTr_shape rfl (fun C => by kernel_rfl) (fun C => by kernel_rfl) (fun C => by kernel_rfl) (fun C => by kernel_rfl)) k
  · exact v_untrade0 (zs := "yards") hs rfl (fun C => by kernel_rfl) (noTr_shape rfl (fun C => by kernel_rfl) (fun C => by kernel_rfl) (fun C => by kernel_rfl) (fun C => by kernel_rfl)) k
  · exact v_untrade0 (zs := "tills") hs rfl (fun C => by kernel_rfl) (noTr_shape rfl (fun C => by kernel_rfl) (fun C => by kernel_rfl) (fun C => by kernel_rfl) (fun C => by kernel_rfl)) k
  · exact v_untrade0 (zs := "packings") hs rfl (fun C => by kernel_rfl) (noTr_shape rfl (fun C => by kernel_rfl) (fun C => by kernel_rfl) (fun C => by kernel_rfl) (fun C => by kernel_rfl)) k
/-- a list with a wrong thing at the index, or no list at all -/
def Spoilt (n : Nat) (x : D) (at_ : Int) : Prop := x.nc = true ∧ ∀ C, pureM m_wrong_piece [dLine n, x] C = .ok (.int at_) C
theorem spoilt_no {x : D} (hx : x.nc = true) (h : ∀ C, isiD "list" x C = some (.bl false)) : Spoilt n x (-1) := ⟨hx, fun C => by
  refine pure_V ?_ rfl
  unfold m_wrong_piece N_wrong_piece F_wrong_piece
  simp -dsimp [h]⟩
theorem noPc_fit {d : D} (h : NoPc n d) : fitB n d = false := by
  have h := h.2 []
  unfold fitB
  unfold pureM at h
  split at h
  · rename_i e C' e1
    split at h
    · cases h
      rw [e1]
    · cases h
  · split at h <;> cases h
  · cases h
theorem wrongI_at {fit : D → Bool} {b : D} {rest : List D} (hb : fit b = false) : ∀ (xs : List D) (k : Nat), (∀ x ∈ xs, fit x = true) → wrongI fit k (xs ++ b :: rest) = .int ((k + xs.length : Nat) : Int)
  | [], k, _ => by
    show (if fit b = true then _ else _) = _
    rw [hb]
    rfl
  | x :: xs, k, h => by
    show (if fit x = true then wrongI fit (k + 1) (xs ++ b :: rest) else _) = _
    rw [if_pos (h x (by simp)), wrongI_at hb xs (k + 1) fun y hy => h y (by simp [hy])]
    congr 2
    simp
    omega
theorem spoilt_at {ps : List Pc} {i : Nat} {b : D} {qs : List Pc} {ws : List D} (hi : i ≤ ps.length) (hp : ∀ p ∈ ps, okPc n p = true) (hb : NoPc n b) (hq : ∀ q ∈ qs, okPc n q = true) (hw : ∀ w ∈ ws, NoPc n w) : Spoilt n (.lst (dPcs (ps.take i) ++ b :: (dPcs qs ++ ws))) i := by
  have hfit : ∀ p : Pc, okPc n p = true → (dPc p).nc = true ∧ ∀ C, pureM m_fits [dLine n, dPc p] C = .ok (.bl (fitB n (dPc p))) C := fun p h => ⟨nc_dPc, fun C => by rw [fitB_pc]; exact sp_fits_line⟩
  have hno : ∀ w : D, NoPc n w → w.nc = true ∧ ∀ C, pureM m_fits [dLine n, w] C = .ok (.bl (fitB n w)) C := fun w h => ⟨h.1, fun C => by rw [noPc_fit h]; exact h.2 C⟩
  have all : ∀ d ∈ dPcs (ps.take i) ++ b :: (dPcs qs ++ ws), d.nc = true ∧ ∀ C, pureM m_fits [dLine n, d] C = .ok (.bl (fitB n d)) C := fun d hd => by
    rcases List.mem_append.mp hd with hd | hd
    · obtain ⟨p, hp1, rfl⟩ := List.mem_map.mp hd
      exact hfit p (hp p (List.mem_of_mem_take hp1))
    · rcases List.mem_cons.mp hd with rfl | hd
      · exact hno _ hb
      · rcases List.mem_append.mp hd with hd | hd
        · obtain ⟨p, hp1, rfl⟩ := List.mem_map.mp hd
          exact hfit p (hq p hp1)
        · exact hno d (hw d hd)
  refine ⟨by rw [nc_lst]; exact ncs_of fun d hd => (all d hd).1, fun C => ?_⟩
  rw [sp_wrong_piece (fit := fitB n) nc_dLine all, wrongI_at (noPc_fit hb) _ 0 fun x hx => by
    obtain ⟨p, hp1, rfl⟩ := List.mem_map.mp hx
    rw [fitB_pc]
    exact hp p (List.mem_of_mem_take hp1), dPcs_len, List.length_take, Nat.zero_add, Nat.min_eq_left hi]
theorem V_ins {k i : Nat} {xs : List D} {d : D} (h : C[k]? = some (.lst xs)) (hl : xs.length < 900000) (hi : i ≤ 900000) (hk : K (.ok .non (C.set k (.lst (xs.take i ++ [d] ++ xs.drop i))))) : V (appO mInsert k [.int i, d] C) K := by
  have e : mInsert xs [.int i, d] = some (xs.take i ++ [d] ++ xs.drop i, .non) := by
    show (if decide (xs.length < sizeLine ∧ 0 ≤ (i : Int) ∧ (i : Int) < 2 ^ 63) = true then some (xs.take ((i : Int)).toNat ++ [d] ++ xs.drop ((i : Int)).toNat, D.non) else none) = _
    rw [if_pos (decide_eq_true ⟨by have := line_le (n := xs.length + 1) (by omega); omega, by omega, by omega⟩), Int.toNat_natCast]
  rw [V_def]
  unfold appO
  rw [h]
  dsimp only
  rw [e]
  exact hk
@[simp] theorem toTup_l {xs : List D} : fn1 toTup [.lst xs] C = some (.tup xs) := rfl
theorem v_spoilt {ps : List Pc} {w : D} (hs : IsSto s) (hp : ∀ p ∈ ps, okPc n p = true) (hz : ps.length ≤ 100) (hw : NoPc n w) (k : ∀ x at_ s' Z, IsSto s' → Spoilt n x at_ → K (.ok (.tup [x, .int at_]) (s' :: (R ++ Z)))) : V (m_law_spoilt [.cel 0, .lst (dPcs ps), .lst [w]] (s :: R)) K := by
  have hsz : ∀ j, j ≤ 20 → j ≤ sizeLine := fun j hj => line_le (by omega)
  unfold m_law_spoilt N_law_spoilt F_law_spoilt
  simp -dsimp
  refine v_odds hs (by omega) fun b s1 h1 => ?_
  simp -dsimp
  refine Wif_b (fun hb => ?_) fun hb => ?_
  · simp -dsimp [hsz]
    refine v_pick h1 (by simp) (by simp) fun i d s2 h2 hd => ?_
    have hk : ∀ x, x.nc = true → (∀ C, isiD "list" x C = some (.bl false)) → d = x → K (.ok (.tup [d, .int (-1)]) (s2 :: R)) := fun x hx hl e => by
      have := k x (-1) s2 [] h2 (spoilt_no hx hl)
      rw [e]
      rwa [List.append_nil] at this
    simp -dsimp [hsz]
    match i, hd with
    | 0, hd => cases hd; exact hk _ (by rw [nc_tup]; exact ncs_dPcs) (fun C => by with_unfolding_all rfl) rfl
    | 1, hd => cases hd; exact hk _ rfl (fun C => by with_unfolding_all rfl) rfl
    | 2, hd => cases hd; exact hk _ rfl (fun C => by with_unfolding_all rfl) rfl
    | 3, hd => cases hd; exact hk _ rfl (fun C => by with_unfolding_all rfl) rfl
    | 4, hd => cases hd; exact hk _ rfl (fun C => by with_unfolding_all rfl) rfl
    | 5, hd => cases hd; exact hk _ rfl (fun C => by with_unfolding_all rfl) rfl
    | 6, hd => cases hd; exact hk _ rfl (fun C => by with_unfolding_all rfl) rfl
    | 7, hd => cases hd; exact hk _ rfl (fun C => by with_unfolding_all rfl) rfl
    | j + 8, hd => simp at hd
  · simp -dsimp [dPcs_len]
    refine v_take h1 (by omega) (by omega) fun r s2 h2 r0 r1 => ?_
    obtain ⟨i, rfl⟩ : ∃ i : Nat, r = i := ⟨r.toNat, by omega⟩
    have hi : i ≤ ps.length := by omega
    simp -dsimp
    refine v_pick h2 (by simp) (by simp) fun j d s3 h3 hd => ?_
    have hd : d = w := by
      match j, hd with
      | 0, hd => cases hd; rfl
      | j + 1, hd => simp at hd
    subst hd
    simp -dsimp
    refine V_ins (xs := dPcs ps) get_app (by rw [dPcs_len]; omega) (by omega) ?_
    simp -dsimp
    refine v_odds h3 (by omega) fun b s4 h4 => ?_
    have eT : ∀ ws : List D, (dPcs ps).take i ++ d :: ((dPcs ps).drop i ++ ws) = dPcs (ps.take i) ++ d :: (dPcs (ps.drop i) ++ ws) := fun ws => by simp [dPcs]
    have fin : ∀ (ws : List D) (s' : Cell), IsSto s' → (∀ w ∈ ws, NoPc n w) → D.ncs ((dPcs ps).take i ++ d :: ((dPcs ps).drop i ++ ws)) = true ∧ ∀ Z, K (.ok (.tup [.lst ((dPcs ps).take i ++ d :: ((dPcs ps).drop i ++ ws)), .int i]) (s' :: (R ++ Z))) := fun ws s' h hws => by
      rw [eT]
      have hsp := spoilt_at (qs := ps.drop i) hi hp hw (fun q hq => hp q (List.mem_of_mem_drop hq)) hws
      refine ⟨by have := hsp.1; rwa [nc_lst] at this, fun Z => k _ _ s' Z h hsp⟩
    simp -dsimp
    refine Wif_join (fun ρ C => ∃ ws s5, ρ = [some (.cel 0), some (.lst (dPcs ps)), some (.lst [d]), some (.int i), some (.cel (R.length + 1))] ∧ C = s5 :: (R ++ [.lst ((dPcs ps).take i ++ d :: ((dPcs ps).drop i ++ ws))]) ∧ IsSto s5 ∧ ∀ w ∈ ws, NoPc n w) (Wif_b (fun hb => ?_) fun hb => ?_) fun ρ C hJ => ?_
    · simp -dsimp
      refine v_pick h4 (by simp) (by simp) fun j d2 s5 h5 hd2 => ?_
      have hd2 : d2 = d := by
        match j, hd2 with
        | 0, hd2 => cases hd2; rfl
        | j + 1, hd2 => simp at hd2
      subst hd2
      simp -dsimp
      refine V_app1 (xs := (dPcs ps).take i ++ d2 :: (dPcs ps).drop i) get_app (by simp [dPcs_len]; omega) ?_
      simp -dsimp
      exact hold ⟨[d2], s5, rfl, by simp, h5, by simp [hw]⟩
    · simp -dsimp
      exact hold ⟨[], s4, rfl, by simp, h4, by simp⟩
    · obtain ⟨ws, s5, rfl, rfl, h5, h6⟩ := hJ
      obtain ⟨f1, f2⟩ := fin ws s5 h5 h6
      simp -dsimp [f1, hsz]
      exact f2 _
end
end Qv

/-! ## M47 -/
set_option Elab.async false
set_option linter.all false
set_option maxRecDepth 100000
set_option maxHeartbeats 800000
namespace Qv
open PySem PySem.Spec PyProof.Rows L2
/-! refusals -/
section
variable {n : Nat} {ps as : List Pc} {d x y : D} {at_ : Int} {C : Cells}
def xTrade : Exn := ⟨"BadTrade", none⟩
def xShape : Exn := ⟨"BadShape", none⟩
def xStock (at_ : Int) : Exn := ⟨"BadStock", some ("at", .int at_)⟩
def xAsk (at_ : Int) : Exn := ⟨"BadAsk", some ("at", .int at_)⟩
def xNoPick : Exn := ⟨"NoPick", none⟩
def xNotC : Exn := ⟨"NotCounting", none⟩
theorem x_trade (h : NoTr d) : pureM m_check_trade [d] C = .exn xTrade C := pure_VX (by
  unfold m_check_trade N_check_trade F_check_trade
  simp -dsimp [h.1, h.2]
  rfl) rfl
theorem ln_trade (h : NoLn d) : pureM m_check_trade [d] C = .ok (.bl true) C := pure_V (by
  unfold m_check_trade N_check_trade F_check_trade
  simp -dsimp [h.1, h.2.1]) rfl
theorem x_line2 (h : NoTr d) : pureM m_check_line_deals [d] C = .exn xTrade C := pure_VX (by
  unfold m_check_line_deals N_check_line_deals F_check_line_deals
  simp -dsimp [h.1, x_trade h]) rfl
theorem x_line2s (h : NoLn d) : pureM m_check_line_deals [d] C = .exn xShape C := by
  obtain ⟨z, t, rfl, h4⟩ := h.2.2
  refine pure_VX ?_ rfl
  unfold m_check_line_deals N_check_line_deals F_check_line_deals
  simp -dsimp [h.1, ln_trade h, h4]
  rfl
theorem x_stock (hn : 1 ≤ n ∧ n ≤ 24) (h : Spoilt n x at_) : pureM m_check_stock [dLine n, x] C = .exn (xStock at_) C := pure_VX (by
  unfold m_check_stock N_check_stock F_check_stock
  simp -dsimp [h.1, sp_check_trade (n := n) (by omega), h.2]
  rfl) rfl
theorem x_asks (hn : 1 ≤ n ∧ n ≤ 24) (h : Spoilt n x at_) : pureM m_check_asks [dLine n, x] C = .exn (xAsk at_) C := pure_VX (by
  unfold m_check_asks N_check_asks F_check_asks
  simp -dsimp [h.1, sp_check_trade (n := n) (by omega), h.2]
  rfl) rfl
theorem middle_T (h : NoTr d) (hx : x.nc = true) : pureM m_middle_of [d, x, .int 0] C = .exn xTrade C := pure_VX (by
  unfold m_middle_of N_middle_of F_middle_of
  simp -dsimp [h.1, x_line2 h]) rfl
theorem middle_S (h : NoLn d) (hx : x.nc = true) : pureM m_middle_of [d, x, .int 0] C = .exn xShape C := pure_VX (by
  unfold m_middle_of N_middle_of F_middle_of
  simp -dsimp [h.1, x_line2s h]) rfl
theorem middle_B (hn : 1 ≤ n ∧ n ≤ 24) (h : Spoilt n x at_) : pureM m_middle_of [dLine n, x, .int 0] C = .exn (xStock at_) C := pure_VX (by
  unfold m_middle_of N_middle_of F_middle_of
  simp -dsimp [sp_check_line2 hn, h.1, x_stock hn h]) rfl
theorem deal_T (h : NoTr d) : m_deal [d, x, y] C = .exn xTrade C := V_eq (by
  unfold m_deal N_deal F_deal
  simp -dsimp [h.1, x_line2 h])
theorem deal_S (h : NoLn d) : m_deal [d, x, y] C = .exn xShape C := V_eq (by
  unfold m_deal N_deal F_deal
  simp -dsimp [h.1, x_line2s h])
theorem deal_B (hn : 1 ≤ n ∧ n ≤ 24) (h : Spoilt n x at_) : m_deal [dLine n, x, y] C = .exn (xStock at_) C := V_eq (by
  unfold m_deal N_deal F_deal
  simp -dsimp [sp_check_line2 hn, h.1, x_stock hn h])
theorem deal_A (hn : 1 ≤ n ∧ n ≤ 24) (hp : ∀ p ∈ ps, okPc n p = true) (h : Spoilt n x at_) : m_deal [dLine n, .lst (dPcs ps), x] C = .exn (xAsk at_) C := V_eq (by
  unfold m_deal N_deal F_deal
  simp -dsimp [sp_check_line2 hn, sp_check_stock (n := n) (by omega) hp, h.1, x_asks hn h])
@[simp] theorem isNot_int {i : Int} {C : Cells} : dIsNot (.int i) .non C = some (.bl true) := rfl
theorem deal_P (hn : 1 ≤ n ∧ n ≤ 24) (hp : ∀ p ∈ ps, okPc n p = true) (ha : ∀ p ∈ as, okPc n p = true) (h : ∃ l : Nat, l < n ∧ cnt ps l < cnt as l) : m_deal [dLine n, .lst (dPcs ps), .lst (dPcs as)] C = .exn xNoPick C := V_eq (by
  obtain ⟨i, hi⟩ : ∃ i : Int, overD n (sortP ps) as = .int i := by
    unfold overD
    obtain ⟨l, h1, h2⟩ := h
    cases e : (List.range n).find? (fun l => decide (cnt (sortP ps) l < cnt as l)) with
    | none =>
      have := List.find?_eq_none.mp e l (List.mem_range.mpr h1)
      rw [cnt_sort] at this
      simp at this
      omega
    | some l => exact ⟨_, rfl⟩
  unfold m_deal N_deal F_deal
  simp -dsimp [sp_check_line2 hn, sp_check_stock (n := n) (by omega) hp, sp_check_asks (n := n) (by omega) ha, sp_over_leg hn (sort_ok hp) ha, hi]
  rfl)
theorem deal_N (hn : 1 ≤ n ∧ n ≤ 24) (hp : ∀ p ∈ ps, okPc n p = true) (ha : ∀ p ∈ as, okPc n p = true) (h : ∀ l, cnt as l ≤ cnt ps l) (hf : ff (sortP ps) ≠ .non) : m_deal [dLine n, .lst (dPcs ps), .lst (dPcs as)] C = .exn xNotC C := V_eq (by
  have ho : overD n (sortP ps) as = .non := by rw [overD_sort]; exact over_none h
  have hss : sortP (sortP ps) = sortP ps := List.mergeSort_of_pairwise (sortP_sorted ps)
  obtain ⟨xs, hx⟩ : ∃ xs, ff (sortP (sortP ps)) = .tup xs := by
    rw [hss]
    rcases (nc_ff (l := sortP ps)).2 with h | h
    · exact absurd h hf
    · exact h
  unfold m_deal N_deal F_deal
  simp -dsimp [sp_check_line2 hn, sp_check_stock (n := n) (by omega) hp, sp_check_asks (n := n) (by omega) ha, sp_over_leg hn (sort_ok hp) ha, ho, sp_counting_fault hn (sort_ok hp), hx]
  rfl)
/-! told -/
theorem w_trade : teller.word xTrade = some (("BadTrade" : Str), D.non) := by with_unfolding_all rfl
theorem w_shape : teller.word xShape = some (("BadShape" : Str), D.non) := by with_unfolding_all rfl
theorem w_stock : teller.word (xStock at_) = some (("BadStock" : Str), D.int at_) := by with_unfolding_all rfl
theorem w_ask : teller.word (xAsk at_) = some (("BadAsk" : Str), D.int at_) := by with_unfolding_all rfl
theorem w_nopick : teller.word xNoPick = some (("NoPick" : Str), D.non) := by with_unfolding_all rfl
theorem w_notc : teller.word xNotC = some (("NotCounting" : Str), D.non) := by with_unfolding_all rfl
@[simp] theorem tellX_s {K : Out D → Prop} {w : Str} {d : D} : tellX K C (some (w, d)) = K (.ok (.tup [.str w, d]) C) := rfl
theorem eq_word {z : Str} {d : D} (hz : SeqAt.shaped (PyData.str z) = true) (hd : d = .non ∨ ∃ i, d = .int i) : pureM (m_law_equal 8) [.tup [.str z, d], .tup [.str z, d]] C = .ok (.bl true) C := by
  refine eq_self 8 _ ?_
  rcases hd with rfl | ⟨i, rfl⟩ <;> simp [pl, hz]
theorem q_trade : pureM (m_law_equal 8) [.tup [.str "BadTrade", .non], .tup [.str "BadTrade", .non]] C = .ok (.bl true) C := eq_word (by with_unfolding_all rfl) (.inl rfl)
theorem q_shape : pureM (m_law_equal 8) [.tup [.str "BadShape", .non], .tup [.str "BadShape", .non]] C = .ok (.bl true) C := eq_word (by with_unfolding_all rfl) (.inl rfl)
theorem q_nopick : pureM (m_law_equal 8) [.tup [.str "NoPick", .non], .tup [.str "NoPick", .non]] C = .ok (.bl true) C := eq_word (by with_unfolding_all rfl) (.inl rfl)
theorem q_notc : pureM (m_law_equal 8) [.tup [.str "NotCounting", .non], .tup [.str "NotCounting", .non]] C = .ok (.bl true) C := eq_word (by with_unfolding_all rfl) (.inl rfl)
theorem q_stock : pureM (m_law_equal 8) [.tup [.str "BadStock", .int at_], .tup [.str "BadStock", .int at_]] C = .ok (.bl true) C := eq_word (by with_unfolding_all rfl) (.inr ⟨_, rfl⟩)
theorem q_ask : pureM (m_law_equal 8) [.tup [.str "BadAsk", .int at_], .tup [.str "BadAsk", .int at_]] C = .ok (.bl true) C := eq_word (by with_unfolding_all rfl) (.inr ⟨_, rfl⟩)
end
section
variable {s : Cell} {R : Cells} {K : Out D → Prop} {n : Nat} {ps as : List Pc}
theorem v_refused (hs : IsSto s) (hn : 1 ≤ n ∧ n ≤ 24) (hp : ∀ p ∈ ps, okPc n p = true) (ha : ∀ p ∈ as, okPc n p = true) (hz : ps.length ≤ 100) (hza : as.length ≤ 100) (k : ∀ C, K (.ok (.bl true) C)) : V (m_law_refused [.cel 0, dLine n, .lst (dPcs ps), .lst (dPcs as)] (s :: R)) K := by
  have hsz : ∀ j, j ≤ 20 → j ≤ sizeLine := fun j hj => line_le (by omega)
  unfold m_law_refused N_law_refused F_law_refused
  simp -dsimp
  refine v_take hs (by omega) (by omega) fun md s1 h1 m1 m2 => ?_
  simp -dsimp
  refine v_wrong h1 hn fun w s2 h2 hw => ?_
  simp -dsimp [hsz]
  refine v_spoilt h2 ha hza hw fun x at_ s3 Z h3 hx => ?_
  simp -dsimp [hsz]
  by_cases c3 : md < 3
  · simp -dsimp [c3]
    refine v_wrong h3 hn fun w2 s4 h4 hw2 => ?_
    simp -dsimp [hsz]
    refine v_spoilt h4 hp hz hw2 fun y at2 s5 Z2 h5 hy => ?_
    simp -dsimp [hsz]
    by_cases c2 : md < 2
    · simp -dsimp [c2, hsz]
      refine v_pick h5 (by simp) (by simp) fun i d s6 h6 hd => ?_
      have hd : T4 n d := by
        match i, hd with
        | 0, hd => cases hd; exact .inl rfl
        | 1, hd => cases hd; exact .inr (.inl rfl)
        | 2, hd => cases hd; exact .inr (.inr (.inl rfl))
        | 3, hd => cases hd; exact .inr (.inr (.inr rfl))
        | i + 4, hd => simp at hd
      simp -dsimp [hsz]
      by_cases c1 : md < 1
      · simp -dsimp [c1]
        refine v_untrade h6 hd fun d2 s7 h7 hd2 => ?_
        simp -dsimp [hsz, c3, hd2.1, hy.1, middle_T hd2 hy.1, w_trade, q_trade, deal_T hd2]
        exact k _
      · simp -dsimp [c1, c3, (hd.noln hn).1, hy.1, middle_S (hd.noln hn) hy.1, w_shape, q_shape, deal_S (hd.noln hn)]
        exact k _
    · have c1 : ¬ md < 1 := by omega
      simp -dsimp [c1, c2, c3, hy.1, middle_B hn hy, w_stock, q_stock, deal_B hn hy]
      exact k _
  · have c1 : ¬ md < 1 := by omega
    have c2 : ¬ md < 2 := by omega
    simp -dsimp [c1, c2, c3, deal_A hn hp hx, w_ask, q_ask]
    exact k _
end
end Qv

/-! ## M48 -/
set_option Elab.async false
set_option linter.all false
set_option maxRecDepth 100000
set_option maxHeartbeats 1600000
namespace Qv
open PySem PySem.Spec PyProof.Rows L2
/-! the law -/
theorem v_store {s : D} {ns : List Int} {K : Out D → Prop} (hl : ns.length ≤ 63) (hs : s = .lst (ns.map D.int) ∨ s = .flst (ns.map D.int)) (k : ∀ s', IsSto s' → K (.ok (.cel 0) [s'])) : V (m_law_store [s] []) K := by
  have hsz : ∀ j, j ≤ 20 → j ≤ sizeLine := fun j hj => line_le (by omega)
  unfold m_law_store N_law_store F_law_store
  simp -dsimp
  refine V_compA (xs := ns) (enc := D.int) (g := D.int) (C' := []) (by rcases hs with rfl | rfl <;> simp) (by omega) (fun x hx => by simp -dsimp [wipeE]) ?_
  simp -dsimp
  refine W_loopM (xs := ns) (enc := D.int) (I := fun _ ρ C => ∃ x2, ∃ sd : Int, ρ = [some s, some (.lst (ns.map D.int)), x2, some (.int sd)] ∧ C = [] ∧ 0 ≤ sd ∧ sd < 2305843009213693951) ⟨_, _, rfl, rfl, by omega, by omega⟩ (fun j x hj ρ C hI => ?_) (fun ρ C hI => ?_)
  · obtain ⟨x2, sd, rfl, rfl, h1, h2⟩ := hI
    have hm : dMul (.int sd) (.int 1000003) [] = some (.int (sd * 1000003)) := dMul_ii (by omega) (by omega)
    simp -dsimp [hm]
    exact hold ⟨_, _, rfl, rfl, Int.emod_nonneg _ (by omega), Int.emod_lt_of_pos _ (by omega)⟩
  · obtain ⟨x2, sd, rfl, rfl, h1, h2⟩ := hI
    simp -dsimp [hsz]
    exact k _ ⟨ns, 0, 0, 0, sd, rfl, by omega⟩
end Qv

/-! ## M49 -/
set_option Elab.async false
set_option linter.all false
set_option maxRecDepth 100000
set_option maxHeartbeats 1600000
namespace Qv
open PySem PySem.Spec PyProof.Rows L2
section
variable {n : Nat} {ps as : List Pc} {C : Cells}
theorem cnt_app {a b : List Pc} {l : Nat} : cnt (a ++ b) l = cnt a l + cnt b l := by
  unfold cnt
  rw [List.countP_append]
  omega
theorem cnt_cons {p : Pc} {a : List Pc} {l : Nat} : cnt (p :: a) l = cnt a l + if cov l p then 1 else 0 := by
  unfold cnt
  rw [List.countP_cons]
  split <;> simp
theorem ff_ok (h : Counts ps) (hn : 1 ≤ n ∧ n ≤ 24) (hp : ∀ p ∈ ps, okPc n p = true) : pureM m_counting_fault [dLine n, .lst (dPcs ps)] C = .ok .non C := by
  rw [sp_counting_fault hn hp, ff_counts h]
/-- the law's last steps -/
def F_rest : DS := (sSeq (sFor (.nm 7) (iSeq (eSlice (eCallM 2 m_law_shuffle (aCons (eSlot 1) (aCons (eCallP 2 m_law_no_count (aCons (eSlot 2) (aCons (eOp dIx (eSlot 3) (eC (.int 0))) aNil))) aNil))) oNone (oSome (eC (.int 2))))) (sSeq (sSet 8 (eOp dAdd (eSlot 3) (eLst (aCons (eSlot 7) aNil))))
    (sSeq (sIf (bOr (bTst (eOp dIs (eCallP 2 m_counting_fault (aCons (eSlot 2) (aCons (eVal (fList (eSlot 8))) aNil))) (eC .non))) (bNot (bTru (eCallP 2 m_law_middles (aCons (eSlot 2) (aCons (eSlot 8) aNil)))))) (sRet (eC (.bl false))) sNil)
    (sSeq (sFor (.nm 9) (iSeq (eLst (aCons (eLst aNil) (aCons (eSlot 4) aNil)))) (sIf (bNot (bTru (eCallP 2 (m_law_equal 8) (aCons (eTold teller (eCallM 3 m_deal (aCons (eSlot 2) (aCons (eVal (fList (eSlot 8))) (aCons (eVal (fList (eSlot 9))) aNil))))) (aCons (eTup (aCons (eC (.str "NotCounting")) (aCons (eC .non) aNil))) aNil))))) (sRet (eC (.bl false))) sNil))
    (sIf (bNot (bTru (eCallP 2 (m_law_equal 8) (aCons (eTold teller (eCallM 3 m_deal (aCons (eSlot 2) (aCons (eLst (aCons (eSlot 7) (aCons (eOp dIx (eSlot 3) (eC (.int 0))) aNil))) (aCons (eOp dMul (eSlice (eSlot 3) oNone (oSome (eC (.int 1)))) (eC (.int 3))) aNil))))) (aCons (eTup (aCons (eC (.str "NoPick")) (aCons (eC .non) aNil))) aNil))))) (sRet (eC (.bl false))) sNil)))))
    (sRet (eCallM 4 m_law_refused (aCons (eSlot 1) (aCons (eSlot 2) (aCons (eSlice (eSlot 3) oNone (oSome (eC (.int 30)))) (aCons (eSlice (eSlot 4) oNone (oSome (eC (.int 30)))) aNil)))))))
theorem v_rest {s0 : Option D} {s : Cell} {R : Cells} {x5 x6 : Option D} {p0 : Pc} {K : Out D → Prop} (hs : IsSto s) (hn : 1 ≤ n ∧ n ≤ 24) (hp : ∀ p ∈ ps, okPc n p = true) (ha : ∀ p ∈ as, okPc n p = true) (hz : ps.length ≤ 40) (hza : as.length ≤ 40) (hcnt : ∀ l, cnt as l ≤ cnt ps l) (h0 : ps[0]? = some p0) (k : ∀ C, K (.ok (.bl true) C)) :
    W (F_rest [s0, some (.cel 0), some (dLine n), some (.lst (dPcs ps)), some (.lst (dPcs as)), x5, x6, none, none, none] (s :: R)) (onRun K) := by
  have hsz : ∀ j, j ≤ 20 → j ≤ sizeLine := fun j hj => line_le (by omega)
  have hp0 : p0 ∈ ps := List.mem_of_getElem? h0
  have hp0o := hp p0 hp0
  have hp0i := okPc_iff.mp hp0o
  have hat : ∀ C, dIx (.lst (dPcs ps)) (.int 0) C = some (dPc p0) := fun C => by
    show atI (dPcs ps) ((0 : Nat) : Int) = _
    exact at_nat (by unfold dPcs; rw [List.getElem?_map, h0]; rfl)
  have htk : ps.take 1 = [p0] := by
    cases ps with
    | nil => cases hp0
    | cons p ps => simp at h0; simp [h0]
  have hct : ∀ C, cutD (.lst (dPcs ps)) none (some 1) C = some (.lst (dPcs [p0])) := fun C => by
    show some (D.lst (cutG (dPcs ps) none (some 1))) = _
    rw [cut_to (by omega), show (1 : Int).toNat = 1 from rfl, take_pcs, htk]
  unfold F_rest
  simp -dsimp [hat]
  refine v_no_count hn hp0o fun qs hq hql => ?_
  simp -dsimp [ncs_dPcs]
  refine v_shuffle hs ncs_dPcs (by rw [dPcs_len]; omega) fun ys s1 Z h1 hy => ?_
  obtain ⟨zs, rfl, hzs⟩ := perm_pcs hy
  generalize R ++ Z = R1
  simp -dsimp [cut_to (show (0 : Int) ≤ 2 by omega), take_pcs]
  have hqz : ∀ q ∈ zs.take 2, Spoils n p0 q := fun q h => hq q (hzs.mem_iff.mp (List.mem_of_mem_take h))
  generalize zs.take 2 = ts at hqz
  have hP3 : ∀ q ∈ ts, ∀ C, m_deal [dLine n, .lst [dPc q, dPc p0], .lst (dPcs [p0, p0, p0])] C = .exn xNoPick C := fun q h C => by
    have hx := hqz q h
    refine deal_P (ps := [q, p0]) (as := [p0, p0, p0]) hn (fun p h => ?_) (fun p h => ?_) ⟨p0.1.toNat, by omega, ?_⟩
    · rcases List.mem_cons.mp h with e | h
      · rw [e]; exact hx.1
      · have : p = p0 := by simpa using h
        rw [this]; exact hp0o
    · have : p = p0 := by simpa using h
      rw [this]; exact hp0o
    · have hcv : cov p0.1.toNat p0 = true := by unfold cov; simp; omega
      rw [cnt_cons, cnt_cons, cnt_nil, cnt_cons, cnt_cons, cnt_cons, cnt_nil, if_pos hcv]
      split <;> omega
  have hm3 : ∀ C, dMul (.lst (dPcs [p0])) (.int 3) C = some (.lst (dPcs [p0, p0, p0])) := fun C => by
    rw [mul_lst (by omega) (by simp [dPcs]) (by omega)]
    rfl
  refine W_loopM (xs := ts) (enc := dPc) (I := fun _ ρ C => ∃ x7 x8 x9, ρ = [s0, some (.cel 0), some (dLine n), some (.lst (dPcs ps)), some (.lst (dPcs as)), x5, x6, x7, x8, x9] ∧ C = s1 :: R1) ⟨_, _, _, rfl, rfl⟩ (fun j q hj ρ C hI => ?_) (fun ρ C hI => ?_)
  · obtain ⟨x7, x8, x9, rfl, rfl⟩ := hI
    have hqm := List.mem_of_getElem? hj
    have hqs := hqz q hqm
    have hadd : ∀ C, dAdd (.lst (dPcs ps)) (.lst [dPc q]) C = some (.lst (dPcs (ps ++ [q]))) := fun C => by
      rw [cat_l (by rw [dPcs_len]; simp; omega), dPcs_snoc]
    have hbo : ∀ p ∈ ps ++ [q], okPc n p = true := fun p h => by
      rcases List.mem_append.mp h with h | h
      · exact hp p h
      · have : p = q := by simpa using h
        rw [this]; exact hqs.1
    obtain ⟨fs, hfs⟩ : ∃ fs, ff (sortP (ps ++ [q])) = .tup fs := by
      rcases (nc_ff (l := sortP (ps ++ [q]))).2 with h | h
      · exact absurd h (spoils_ff hp hp0 hqs)
      · exact h
    have hmid : ∀ C, pureM m_law_middles [dLine n, .lst (dPcs (ps ++ [q]))] C = .ok (.bl true) C := fun C => sp_law_middles hn (by simp; omega) hbo
    have hcf : ∀ C, pureM m_counting_fault [dLine n, .lst (dPcs (ps ++ [q]))] C = .ok (.tup fs) C := fun C => by rw [sp_counting_fault hn hbo, hfs]
    have hdn : ∀ (row : List Pc) C, row = [] ∨ row = as → m_deal [dLine n, .lst (dPcs (ps ++ [q])), .lst (dPcs row)] C = .exn xNotC C := fun row C h => by
      refine deal_N hn hbo (fun p hpr => ?_) (fun l => ?_) (spoils_ff hp hp0 hqs)
      · rcases h with rfl | rfl
        · cases hpr
        · exact ha p hpr
      · rw [cnt_app]
        have h1 : 0 ≤ cnt [q] l := by unfold cnt; omega
        rcases h with rfl | rfl
        · rw [cnt_nil]
          have : 0 ≤ cnt ps l := by unfold cnt; omega
          omega
        · have := hcnt l
          omega
    simp -dsimp [hsz, hadd, hcf, hmid]
    refine W_loopM (xs := [[], as]) (enc := fun l : List Pc => .lst (dPcs l)) (I := fun _ ρ C => ∃ x9, ρ = [s0, some (.cel 0), some (dLine n), some (.lst (dPcs ps)), some (.lst (dPcs as)), x5, x6, some (dPc q), some (.lst (dPcs (ps ++ [q]))), x9] ∧ C = s1 :: R1) ⟨_, rfl, rfl⟩ (fun i row hi ρ C hI => ?_) (fun ρ C hI => ?_)
    · obtain ⟨x9, rfl, rfl⟩ := hI
      have hrow : row = [] ∨ row = as := by
        have := List.mem_of_getElem? hi
        simpa using this
      simp -dsimp [hdn row _ hrow, w_notc, q_notc, hsz]
      exact hold ⟨_, rfl, rfl⟩
    · obtain ⟨x9, rfl, rfl⟩ := hI
      simp -dsimp [hsz, hat, hct, hm3, hP3 q hqm, w_nopick, q_nopick]
      exact hold ⟨_, _, _, rfl, rfl⟩
  · obtain ⟨x7, x8, x9, rfl, rfl⟩ := hI
    simp -dsimp [cut_to (show (0 : Int) ≤ 30 by omega), take_pcs]
    refine v_refused h1 hn (fun p h => hp p (List.mem_of_mem_take h)) (fun p h => ha p (List.mem_of_mem_take h)) (by rw [List.length_take]; omega) (by rw [List.length_take]; omega) fun C => ?_
    simp -dsimp
    exact k C
end
end Qv

/-! ## M50 -/
set_option Elab.async false
set_option linter.all false
set_option maxRecDepth 100000
set_option maxHeartbeats 1600000
namespace Qv
open PySem PySem.Spec PyProof.Rows L2
section
variable {n : Nat} {ps as : List Pc} {C : Cells}
theorem plain_law (ns : List Int) (hl : ns.length ≤ 63) (s : D) (hs : s = .lst (ns.map D.int) ∨ s = .flst (ns.map D.int)) : ∃ C, runM N_law.length F_law [s] [] = .ok (.bl true) C := by
  suffices h : V (runM N_law.length F_law [s] []) fun o => ∃ C, o = .ok (.bl true) C by
    rw [V_def] at h
    exact h
  have hsz : ∀ j, j ≤ 20 → j ≤ sizeLine := fun j hj => line_le (by omega)
  unfold N_law F_law
  rw [← F_rest.eq_1]
  simp -dsimp
  refine v_store hl hs fun s1 h1 => ?_
  simp -dsimp
  refine v_line h1 fun n ps as s2 Z h2 hL => ?_
  obtain ⟨hn, hp, hc, hne, hz, ha, hza, hcnt⟩ := hL
  obtain ⟨p0, ps', rfl⟩ : ∃ p0 ps', ps = p0 :: ps' := by
    cases ps with
    | nil => exact absurd rfl hne
    | cons p ps => exact ⟨p, ps, rfl⟩
  generalize hps : p0 :: ps' = ps at hp hc hne hz hcnt
  have hp0 : p0 ∈ ps := by rw [← hps]; simp
  have ht1 : ps.take 1 = [p0] := by rw [← hps]; rfl
  have hp0o := hp p0 hp0
  have hp0i := okPc_iff.mp hp0o
  have hmem : ∀ p ∈ ps ++ [p0], p ∈ ps := fun p hp => by
    rcases List.mem_append.mp hp with h | h
    · exact h
    · have : p = p0 := by simpa using h
      rw [this]; exact hp0
  have hd1 : ∀ C, pureM m_law_dealt [dLine n, .lst (dPcs ps), .lst (dPcs as)] C = .ok (.bl true) C := fun C => sp_law_dealt hn hp hc ha hcnt (by omega) (by omega)
  have hd2 : ∀ C, pureM m_law_dealt [dLine n, .lst (dPcs (ps ++ [p0])), .lst (dPcs (as ++ [p0]))] C = .ok (.bl true) C := fun C => sp_law_dealt hn (fun p h => hp p (hmem p h)) (fun p h q h' => hc p (hmem p h) q (hmem q h')) (fun p h => by
    rcases List.mem_append.mp h with h | h
    · exact ha p h
    · have : p = p0 := by simpa using h
      rw [this]; exact hp0o) (fun l => by
    have := hcnt l
    rw [cnt_app, cnt_app]
    omega) (by simp; omega) (by simp; omega)
  have hd3 : ∀ C, pureM m_law_dealt [dLine n, .lst (dPcs ps), .lst []] C = .ok (.bl true) C := fun C => sp_law_dealt (as := []) hn hp hc (by simp) (fun l => by rw [cnt_nil]; unfold cnt; omega) (by omega) (by simp)
  have hct : ∀ C, cutD (.lst (dPcs ps)) none (some 1) C = some (.lst (dPcs [p0])) := fun C => by
    show some (D.lst (cutG (dPcs ps) none (some 1))) = _
    rw [cut_to (by omega), show (1 : Int).toNat = 1 from rfl, take_pcs, ht1]
  have ha1 : ∀ C, dAdd (.lst (dPcs ps)) (.lst (dPcs [p0])) C = some (.lst (dPcs (ps ++ [p0]))) := fun C => by
    rw [cat_l (by rw [dPcs_len, dPcs_len]; simp; omega), ← dPcs_app]
  have ha2 : ∀ C, dAdd (.lst (dPcs as)) (.lst (dPcs [p0])) C = some (.lst (dPcs (as ++ [p0]))) := fun C => by
    rw [cat_l (by rw [dPcs_len, dPcs_len]; simp; omega), ← dPcs_app]
  have hm1 : ∀ C, pureM m_law_middles [dLine n, .lst (dPcs ps)] C = .ok (.bl true) C := fun C => sp_law_middles hn (by omega) hp
  simp -dsimp [ff_ok hc hn hp, hd1, hct, ha1, ha2, hd2, hd3, hm1, hsz]
  refine v_more h2 hn hp ha fun l s3 Z2 h3 hlm => ?_
  generalize Z ++ Z2 = R
  simp -dsimp [dPcs_len]
  refine v_take h3 (by omega) (by omega) fun r s4 h4 r0 r1 => ?_
  obtain ⟨i, rfl⟩ : ∃ i : Nat, r = i := ⟨r.toNat, by omega⟩
  simp -dsimp
  have hio : i ≤ as.length := by omega
  have hov : (dPcs as).take i ++ [D.tup [.int l, .int 1]] ++ (dPcs as).drop i = dPcs (as.take i ++ (l, 1) :: as.drop i) := by simp [dPcs, dPc]
  refine V_ins (xs := dPcs as) get_app (by rw [dPcs_len]; omega) (by omega) ?_
  rw [hov, set_app]
  generalize hO : as.take i ++ (l, 1) :: as.drop i = over
  have hOc : ∀ z, cnt over z = cnt as z + if cov z (l, 1) then 1 else 0 := fun z => by
    rw [← hO, cnt_app, cnt_cons]
    have : cnt as z = cnt (as.take i) z + cnt (as.drop i) z := by rw [← cnt_app, List.take_append_drop]
    omega
  have hOl : over.length ≤ 100 := by
    rw [← hO]
    simp
    omega
  have h0 : ps[0]? = some p0 := by rw [← hps]; rfl
  rcases hlm with rfl | ⟨m, rfl, m1, m2⟩
  · simp -dsimp
    exact v_rest h4 hn hp ha (by omega) (by omega) hcnt h0 fun C => ⟨C, rfl⟩
  · have hoo : ∀ p ∈ over, okPc n p = true := fun p h => by
      rw [← hO] at h
      rcases List.mem_append.mp h with h | h
      · exact ha p (List.mem_of_mem_take h)
      · rcases List.mem_cons.mp h with rfl | h
        · exact okPc_iff.mpr ⟨by simp, by simp, by simp; omega⟩
        · exact ha p (List.mem_of_mem_drop h)
    have hP : ∀ C, m_deal [dLine n, .lst (dPcs ps), .lst (dPcs over)] C = .exn xNoPick C := fun C => deal_P hn hp hoo ⟨m, m1, by
      rw [hOc m]
      have : cov m ((m : Int), 1) = true := by unfold cov; simp; omega
      rw [if_pos this]
      omega⟩
    simp -dsimp [hP, w_nopick, q_nopick, hsz]
    exact v_rest h4 hn hp ha (by omega) (by omega) hcnt h0 fun C => ⟨C, rfl⟩
end
end Qv

/-! ## K78E -/
set_option Elab.async false
set_option linter.all false
set_option maxRecDepth 100000
set_option maxHeartbeats 0
/-! the end: what is left is the law's own arithmetic -/
namespace Qv
open PySem PySem.Spec PyProof.Rows L2
def PlainLaw : Prop := ∀ ns : List Int, ns.length ≤ 63 → (∀ z ∈ ns, Builtin.Int.intBits z ≤ 1048576) → ∀ s : D, s = .lst (ns.map D.int) ∨ s = .flst (ns.map D.int) → ∃ C, runM N_law.length F_law [s] [] = .ok (.bl true) C
theorem ints_rep {K : PySem.W.Frag} {B : Addr → Prop} {Γ : List Addr} {H : Hp} : ∀ ns : List Int, RepA K B Γ H (ns.map V.int) (ns.map D.int)
  | [] => .nil
  | n :: ns => .cons (.int n) (ints_rep ns)
theorem lawAt (hp : PlainLaw) {l : PySem.W.OpenLaw} {w : World} {K : PySem.W.Frag} {mg : Str → Option Value} {fa : Addr} {h : Heap} (KX : K.In h) (G : h.Ns mainGlobals mg) (hfa : mg ("law" : Str) = some (.ref fa)) (c : He.SaysX lfa lfn [] ltf lex w h K) :
    LamX.LawAtS l w K (L2N.CX l.prog w) 12 63 "script" mg fa h := by
  have hT : ∀ p ∈ ltf, ∀ q ∈ ltf, (He.cT K p).2 = (He.cT K q).2 → p = q := fun p hp q hq => of_decide_eq_true (List.all_eq_true.mp (List.all_eq_true.mp (exl_at c.more 4 (b := exTabs K) rfl) p hp) q hq)
  have mk : ∀ base : Heap, K.In base → base.Ns mainGlobals mg → (∀ p ∈ ltf, LamX.TabB base mg (He.cT K p).1 (He.cT K p).2) → Bs lfa lfn ltf lex K mg base (ltf.map fun p => ((He.cT K p).2, (p.1 ++ ".<locals>.") ++ "<lambda>")) := fun base h1 h2 h3 =>
    ⟨h1, h2, fun i f e => c.t.d.fact i e, fun i d e => c.t.d.def_ i e, c.more, h3, rfl, hT⟩
  obtain ⟨fd, Fd⟩ := c.t.d.def_ 60 (d := dd60) rfl
  have Fd : FunD K "law" "law" (defArgs (top 99)) (defBody (top 99)) (defScope (top 99)) [] [] (He.ga K "law") fd := Fd
  have e := hfa.symm.trans (He.glo_ok KX G (c.t.d.fact 60 (f := .glo "law") rfl))
  cases e
  have bd := FunD.bindsA (ps := ["script"]) Fd fun _ _ _ _ _ _ us hl => match us, hl with | [_], _ => rfl
  have memT : ∀ q ∈ ltf.map (He.cT K), ∃ p ∈ ltf, q = He.cT K p := fun q hq => by
    obtain ⟨p, h1, h2⟩ := List.mem_map.mp hq
    exact ⟨p, h1, h2.symm⟩
  refine ⟨fd, ltf.map (He.cT K), spM K (ltf.map fun p => ((He.cT K p).2, (p.1 ++ ".<locals>.") ++ "<lambda>")) 1 (runM N_law.length F_law), fun q hq => ?_, fun q hq => ?_, fun q hq => ?_, fun s v => bd s [v] rfl, fun H a ns hl hb hE hS => ?_, fun base h1 h2 h3 => ?_⟩
  · obtain ⟨p, hp, rfl⟩ := memT q hq
    exact c.empty p hp
  · obtain ⟨p, hp, rfl⟩ := memT q hq
    exact c.out p hp
  · obtain ⟨p, hp, rfl⟩ := memT q hq
    exact PySem.W.codeHd_of_K KX (c.hd p hp)
  · have wk : WOk K (ltf.map fun p => ((He.cT K p).2, (p.1 ++ ".<locals>.") ++ "<lambda>")) [] [] (fun _ => False) H :=
      ⟨rfl, List.nodup_nil, fun i b xs e => by simp at e, fun b hb => by simp at hb, fun b z => z.elim, fun b z => by simp at z, fun q hq => by
        obtain ⟨p, hp, rfl⟩ := List.mem_map.mp hq
        exact LamX.TabS.nil (hE _ (List.mem_map_of_mem hp))⟩
    have nb : ¬ Bad [] [] (fun _ => False) a := fun z => z.elim (fun z => by
      obtain ⟨i, xs, e1, _⟩ := z
      simp at e1) id
    have fin : ∀ s : D, (s = .lst (ns.map D.int) ∨ s = .flst (ns.map D.int)) → Rep K (Bad [] [] fun _ => False) [] H (.ref a) s → spM K (ltf.map fun p => ((He.cT K p).2, (p.1 ++ ".<locals>.") ++ "<lambda>")) 1 (runM N_law.length F_law) [.ref a] H (fun v _ => v = .bl true) fun _ _ _ => False := fun s hs r => by
      obtain ⟨C, e⟩ := hp ns hl hb s hs
      refine ⟨rfl, [s], [], [], fun _ => False, wk, .cons r .nil, ?_⟩
      rw [e]
      intro v H' Γ' _ _ rv
      cases rv
      rfl
    rcases hS with (hS | ⟨o, hS⟩) | hS
    · exact fin _ (.inl rfl) (.lst nb hS (ints_rep ns))
    · exact fin _ (.inr rfl) (.flst (.inl ⟨o, hS⟩) (ints_rep ns))
    · exact fin _ (.inr rfl) (.flst (.inr hS) (ints_rep ns))
  · have B := mk base h1 h2 fun p hp => h3 _ (List.mem_map_of_mem hp)
    exact fn_ofL (k := 11) Fd S_law (body_law B)
end Qv
open PySem PySem.W PySem.Calls PyProof.Rows
theorem k78_holds_of (hp : Qv.PlainLaw) : PySem.Challenge.rw_flushends_k78_deal_is_a_way.Holds := by
  w_on; o_law
  refine HandSHeadRun.head_any (r := OpenLaw.row PySem.Challenge.rw_flushends_k78_deal_is_a_way) (q := view (OpenLaw.row PySem.Challenge.rw_flushends_k78_deal_is_a_way).prog [99]) (H := Qv.hHk) (ob := Qv.hOb) (M := 8000) (loose := Qv.hLoose) (d := HandSHeadRun.topDef (OpenLaw.row PySem.Challenge.rw_flushends_k78_deal_is_a_way).prog 99) (kwd := []) Qv.hOb_eq
    (by kernel_rfl) (fun s => by kernel_rfl) Qv.hRun (by kernel_rfl) (by kernel_rfl) (by kernel_rfl) (by rfl) (by first | assumption | decide +kernel) (by decide +kernel) ⟨rfl, rfl, rfl, rfl, rfl, by decide +kernel⟩ ?hw ?hc
  case hw => w_witness2
  case hc =>
    refine LamX.walk_ofTsE (l := PySem.Challenge.rw_flushends_k78_deal_is_a_way) (n := 63) (k := 12) (x := "script") (CX := fun w => L2N.CX (PySem.Challenge.rw_flushends_k78_deal_is_a_way).prog w) rfl (by decide) (by kernel_rfl) ⟨rfl, by decide, by decide⟩ ?F (fun _ _ _ _ _ z => by
      obtain ⟨_, _, _, _, _, _, _, _, _, _, _, _, z⟩ := z
      exact z.elim)
    intro w mg fa h Y G hmg0
    obtain ⟨K, KX, c⟩ := Y
    have hmg : mg ("law" : PySem.Str) = some (.ref fa) := by
      have e : (HandSHeadRun.topDef (OpenLaw.row PySem.Challenge.rw_flushends_k78_deal_is_a_way).prog 99).name = ("law" : PySem.Str) := by kernel_rfl
      rw [← e]
      exact hmg0
    exact ⟨K, KX, Qv.lawAt hp KX G hmg c⟩

set_option maxRecDepth 100000 in
set_option maxHeartbeats 0 in
theorem PySem.Challenge.cw_flushends_k78_deal_is_a_way_holds : PySem.Challenge.rw_flushends_k78_deal_is_a_way.Holds := by
  exact k78_holds_of fun ns hl _ s hs => Qv.plain_law ns hl s hs
